import PyProof.Rows.All
import Wide.All
import OpenK.AllK
import Wide.FinOn
import HandS.ForMost
import HandS.ForExc
import HandS.Wide
import HandS.IsInst
import HandS.StrMore
import HandS.Conv
import HandS.Deep
import HandS.TupAny
import HandS.Style
import HandS.WideBits
import HandS.EndBits
import HandS.ExcIs
import HandS.TryOnly
import HandS.HotCalls
import HandS.MakeKw
import HandS.Rev
import KE.IntTextLaws
import KE.KIntText
import HandS.Dict
import KE.GoesZip
import HandS.Replace
import PyProof.MinMaxWalk
import PyProof.WalkInts
import PyProof.SeqI3
import HandS.SortKw
import HandS.SetFor
import KE.DataMinMax
import HandS.Strs
import PySem.Challenge.RW_saywell_k34_whole_unlaid
set_option Elab.async false
set_option linter.all false
set_option maxRecDepth 100000
set_option autoImplicit false
set_option maxHeartbeats 4000000
namespace DL
open PySem PySem.Spec PyProof.Rows L2

/-! ### data -/
/-- what a value tells: texts by their codes; scr: a list of ints from outside; obj: an instance that stays as it is -/
inductive D where
  | non | bl (b : Bool) | int (i : Int) | str (s : List Nat)
  | lst (ds : List D) | tup (ds : List D) | scr (ns : List Int) | dic (es : List (D × D)) | obj (c : Nat) (fs : List (Nat × D)) | ty (n : String) | err (a : Addr) (c : Nat)
instance : Inhabited D := ⟨.non⟩
/-- the text of these codes -/
def tx (s : List Nat) : Str := ⟨s.toArray⟩
theorem tx_cps (x : Str) : tx x.cps.toList = x := rfl
theorem cps_tx (s : List Nat) : (tx s).cps.toList = s := rfl
theorem tx_inj {s t : List Nat} (h : tx s = tx t) : s = t := by
  have := congrArg (fun x : Str => x.cps.toList) h
  exact this
theorem tx_len (s : List Nat) : (tx s).length = s.length := by simp [tx, Str.length]
theorem tx_app (s t : List Nat) : tx s ++ tx t = tx (s ++ t) := by
  show Str.append (tx s) (tx t) = _
  simp [Str.append, tx]
/-- a name's number: its signs, base 256 -/
def nmL : Nat → Nat → List Nat → List Nat
  | 0, _, acc => acc
  | k + 1, n, acc => if n = 0 then acc else nmL k (n / 256) (n % 256 :: acc)
def nmS (n : Nat) : Str := tx (nmL 64 n [])
def nmV (l : List Nat) (a : Nat) : Nat := l.foldl (fun a c => a * 256 + c) a
theorem nmL_val : ∀ (k n : Nat) (acc : List Nat), n < 256 ^ k → nmV (nmL k n acc) 0 = nmV acc n
  | 0, n, acc, h => by
    have : n = 0 := by simpa using h
    subst this; rfl
  | k + 1, n, acc, h => by
    unfold nmL
    split
    · rename_i h0; rw [h0]
    · rw [nmL_val k (n / 256) _ (by rw [Nat.pow_succ] at h; omega)]
      show nmV acc (n / 256 * 256 + n % 256) = _
      congr 1; omega
abbrev okN (n : Nat) : Prop := n < 256 ^ 64
theorem nmS_inj {n m : Nat} (h : okN n) (h' : okN m) (e : nmS n = nmS m) : n = m := by
  have e1 : nmV (nmL 64 n []) 0 = nmV (nmL 64 m []) 0 := congrArg (fun l => nmV l 0) (tx_inj e)
  rw [nmL_val 64 n [] h, nmL_val 64 m [] h'] at e1
  exact e1
/-- what stands behind the top, as far as it is needed -/
structure Gx where
  K : PySem.W.Frag
  mg : Str → Option Value
/-- all signs are signs -/
def okS (s : List Nat) : Bool := s.all (· < 1114112)
theorem okS_app {s t : List Nat} (h : okS s = true) (h' : okS t = true) : okS (s ++ t) = true := by
  unfold okS at *; rw [List.all_append, h, h']; rfl
theorem okS_sub {s t : List Nat} (h : okS s = true) (i : ∀ c ∈ t, c ∈ s) : okS t = true := by
  unfold okS at *
  rw [List.all_eq_true] at h ⊢
  exact fun c m => h c (i c m)
def okK : Key → Bool
  | .inl _ => true
  | .inr x => okS x.cps.toList
def keyD : Key → D
  | .inl i => .int i
  | .inr x => .str x.cps.toList
mutual
inductive Rp (G : Gx) (F : Hp) : V → D → Prop
  | non : Rp G F .non .non
  | bl (b : Bool) : Rp G F (.bl b) (.bl b)
  | int (i : Int) : Rp G F (.int i) (.int i)
  | str (s : List Nat) (h : okS s = true) : Rp G F (.str (tx s)) (.str s)
  | ty (n : String) : Rp G F (.ty n) (.ty n)
  | err (a : Addr) (c : Nat) : Rp G F (.ref a) (.err a c)
  | lst {a : Addr} {xs : List V} {ds : List D} : F a = some (.lst xs) → RpAll G F xs ds → Rp G F (.ref a) (.lst ds)
  | tup {a : Addr} {xs : List V} {ds : List D} : SqT G.K F a xs → RpAll G F xs ds → Rp G F (.ref a) (.tup ds)
  | scr {a : Addr} {ns : List Int} : SqL G.K F a (ns.map V.int) → Rp G F (.ref a) (.scr ns)
  | dicK {a : Addr} {kvs : List (Key × V)} {es : List (D × D)} : F a = some (.dK kvs) → RpK G F kvs es → Rp G F (.ref a) (.dic es)
  | obj {a dx C : Addr} {c : Nat} {fs : List (Str × V)} {es : List (Nat × D)} : F a = some (.ins C dx fs) → F dx = some (.own a) → G.mg (nmS c) = some (.ref C) → RpF G F fs es → Rp G F (.ref a) (.obj c es)
inductive RpAll (G : Gx) (F : Hp) : List V → List D → Prop
  | nil : RpAll G F [] []
  | cons {v : V} {vs : List V} {d : D} {ds : List D} : Rp G F v d → RpAll G F vs ds → RpAll G F (v :: vs) (d :: ds)
inductive RpK (G : Gx) (F : Hp) : List (Key × V) → List (D × D) → Prop
  | nil : RpK G F [] []
  | cons {k : Key} {v : V} {vs : List (Key × V)} {d : D} {ds : List (D × D)} : okK k = true → Rp G F v d → RpK G F vs ds → RpK G F ((k, v) :: vs) ((keyD k, d) :: ds)
inductive RpF (G : Gx) (F : Hp) : List (Str × V) → List (Nat × D) → Prop
  | nil : RpF G F [] []
  | cons {k : Nat} {v : V} {vs : List (Str × V)} {d : D} {ds : List (Nat × D)} : okN k → Rp G F v d → RpF G F vs ds → RpF G F ((nmS k, v) :: vs) ((k, d) :: ds)
end
theorem same_seqT {K : PySem.W.Frag} {H H' : Hp} {a : Addr} {xs : List V} (e : Same H H') (h : SqT K H a xs) : SqT K H' a xs := by
  rcases h with (h | ⟨o, h⟩) | h
  · exact .inl (.inl (e _ _ h))
  · exact .inl (.inr ⟨o, e _ _ h⟩)
  · exact .inr h
mutual
theorem Rp.mono {G : Gx} {F F' : Hp} (e : Same F F') : ∀ {v : V} {d : D}, Rp G F v d → Rp G F' v d
  | _, _, .non => .non
  | _, _, .bl b => .bl b
  | _, _, .int i => .int i
  | _, _, .str x h => .str x h
  | _, _, .ty n => .ty n
  | _, _, .err a c => .err a c
  | _, _, .lst h t => .lst (e _ _ h) (RpAll.mono e t)
  | _, _, .tup h t => .tup (same_seqT e h) (RpAll.mono e t)
  | _, _, .scr h => .scr (e.seq h)
  | _, _, .dicK h t => .dicK (e _ _ h) (RpK.mono e t)
  | _, _, .obj h h' g t => .obj (e _ _ h) (e _ _ h') g (RpF.mono e t)
theorem RpAll.mono {G : Gx} {F F' : Hp} (e : Same F F') : ∀ {vs : List V} {ds : List D}, RpAll G F vs ds → RpAll G F' vs ds
  | _, _, .nil => .nil
  | _, _, .cons h t => .cons (Rp.mono e h) (RpAll.mono e t)
theorem RpK.mono {G : Gx} {F F' : Hp} (e : Same F F') : ∀ {vs : List (Key × V)} {ds : List (D × D)}, RpK G F vs ds → RpK G F' vs ds
  | _, _, .nil => .nil
  | _, _, .cons o h t => .cons o (Rp.mono e h) (RpK.mono e t)
theorem RpF.mono {G : Gx} {F F' : Hp} (e : Same F F') : ∀ {vs : List (Str × V)} {ds : List (Nat × D)}, RpF G F vs ds → RpF G F' vs ds
  | _, _, .nil => .nil
  | _, _, .cons o h t => .cons o (Rp.mono e h) (RpF.mono e t)
end
section
variable {G : Gx} {F : Hp}
theorem RpAll.length : ∀ {vs : List V} {ds : List D}, RpAll G F vs ds → vs.length = ds.length
  | _, _, .nil => rfl
  | _, _, .cons _ t => congrArg Nat.succ (RpAll.length t)
theorem RpAll.append : ∀ {vs ws : List V} {ds es : List D}, RpAll G F vs ds → RpAll G F ws es → RpAll G F (vs ++ ws) (ds ++ es)
  | _, _, _, _, .nil, b => b
  | _, _, _, _, .cons h t, b => .cons h (RpAll.append t b)
theorem RpAll.one {v : V} {d : D} (h : Rp G F v d) : RpAll G F [v] [d] := .cons h .nil
theorem RpAll.get : ∀ {vs : List V} {ds : List D} {i : Nat} {d : D}, RpAll G F vs ds → ds[i]? = some d → ∃ v, vs[i]? = some v ∧ Rp G F v d
  | _, _, _, _, .nil, e => by simp at e
  | _, _, 0, _, .cons h _, e => by simp at e; subst e; exact ⟨_, rfl, h⟩
  | _, _, i + 1, _, .cons _ t, e => by
    obtain ⟨v, e', h⟩ := RpAll.get (i := i) t (by simpa using e)
    exact ⟨v, by simpa using e', h⟩
theorem RpAll.getV : ∀ {vs : List V} {ds : List D} {i : Nat} {v : V}, RpAll G F vs ds → vs[i]? = some v → ∃ d, ds[i]? = some d ∧ Rp G F v d
  | _, _, _, _, .nil, e => by simp at e
  | _, _, 0, _, .cons h _, e => by simp at e; subst e; exact ⟨_, rfl, h⟩
  | _, _, i + 1, _, .cons _ t, e => by
    obtain ⟨v, e', h⟩ := RpAll.getV (i := i) t (by simpa using e)
    exact ⟨v, by simpa using e', h⟩
theorem RpAll.take : ∀ {vs : List V} {ds : List D} (n : Nat), RpAll G F vs ds → RpAll G F (vs.take n) (ds.take n)
  | _, _, 0, _ => by simp; exact .nil
  | _, _, _ + 1, .nil => .nil
  | _, _, n + 1, .cons h t => .cons h (RpAll.take n t)
theorem RpAll.drop : ∀ {vs : List V} {ds : List D} (n : Nat), RpAll G F vs ds → RpAll G F (vs.drop n) (ds.drop n)
  | _, _, 0, h => h
  | _, _, _ + 1, .nil => .nil
  | _, _, n + 1, .cons _ t => RpAll.drop n t
theorem RpAll.set : ∀ {vs : List V} {ds : List D} (n : Nat) {v : V} {d : D}, RpAll G F vs ds → Rp G F v d → RpAll G F (vs.set n v) (ds.set n d)
  | _, _, _, _, _, .nil, _ => .nil
  | _, _, 0, _, _, .cons _ t, h => .cons h t
  | _, _, n + 1, _, _, .cons h' t, h => .cons h' (RpAll.set n t h)
theorem rp_ints (G : Gx) (F : Hp) : ∀ ns : List Int, RpAll G F (ns.map V.int) (ns.map D.int)
  | [] => .nil
  | n :: r => .cons (.int n) (rp_ints G F r)
theorem rp_strs (G : Gx) (F : Hp) : ∀ ns : List (List Nat), (∀ n ∈ ns, okS n = true) → RpAll G F (ns.map (V.str ∘ tx)) (ns.map D.str)
  | [], _ => .nil
  | n :: r, h => .cons (.str n (h n (List.mem_cons_self ..))) (rp_strs G F r fun m q => h m (List.mem_cons_of_mem _ q))
theorem rp_strs_inv : ∀ {vs : List V} {ns : List (List Nat)}, RpAll G F vs (ns.map D.str) → vs = (ns.map tx).map V.str
  | [], [], _ => rfl
  | [], _ :: _, h => by cases h
  | _ :: _, [], h => by cases h
  | v :: vs, n :: ns, h => by
    cases h with
    | cons h t =>
      cases h
      rw [rp_strs_inv t]; rfl
theorem rp_ints_inv : ∀ {vs : List V} {ns : List Int}, RpAll G F vs (ns.map D.int) → vs = ns.map V.int
  | [], [], _ => rfl
  | [], _ :: _, h => by cases h
  | _ :: _, [], h => by cases h
  | v :: vs, n :: ns, h => by
    cases h with
    | cons h t =>
      cases h
      rw [rp_ints_inv t]; rfl
theorem rp_bools_inv : ∀ {vs : List V} {ns : List Bool}, RpAll G F vs (ns.map D.bl) → vs = ns.map V.bl
  | [], [], _ => rfl
  | [], _ :: _, h => by cases h
  | _ :: _, [], h => by cases h
  | v :: vs, n :: ns, h => by
    cases h with
    | cons h t =>
      cases h
      rw [rp_bools_inv t]; rfl
end

/-! ### the state -/
/-- what an object of a slot's own holds -/
inductive Ow where
  | l (ds : List D) | k (es : List (D × D))
inductive OwRel (G : Gx) (F : Hp) : HO → Ow → Prop
  | l {xs : List V} {ds : List D} : RpAll G F xs ds → OwRel G F (.lst xs) (.l ds)
  | kK {xs : List (Key × V)} {ds : List (D × D)} : RpK G F xs ds → OwRel G F (.dK xs) (.k ds)
theorem OwRel.mono {G : Gx} {F F' : Hp} (e : Same F F') {u : HO} {o : Ow} (h : OwRel G F u o) : OwRel G F' u o := by
  cases h with
  | l t => exact .l (t.mono e)
  | kK t => exact .kK (t.mono e)
def Ow.d : Ow → D
  | .l ds => .lst ds
  | .k es => .dic es
theorem OwRel.rp {G : Gx} {F : Hp} {u : HO} {o : Ow} {a : Addr} (h : OwRel G F u o) (e : F a = some u) : Rp G F (.ref a) o.d := by
  cases h with
  | l t => exact .lst e t
  | kK t => exact .dicK e t
/-- what a slot holds: nothing that is known, a datum that stays, an object of its own that may change -/
inductive Sl where
  | no | d (x : D) | own (o : Ow)
def Gr (B F F' : Hp) : Prop := Same F F' ∧ ∀ a, F a = none → F' a ≠ none → B a = none
theorem Gr.refl {B F : Hp} : Gr B F F := ⟨Same.refl F, fun a h h' => absurd h h'⟩
theorem Gr.trans {B F F1 F2 : Hp} (a : Gr B F F1) (b : Gr B F1 F2) : Gr B F F2 := ⟨a.1.trans b.1, fun x h h' => by
  by_cases e : F1 x = none
  · exact b.2 x e h'
  · exact a.2 x h e⟩
theorem Gr.under {B H F F' : Hp} (e : Same B H) (g : Gr H F F') : Gr B F F' := ⟨g.1, fun a h h' => e.free (g.2 a h h')⟩
def SlOk (G : Gx) (B F H : Hp) (o : Option (Option V)) : Sl → Prop
  | .no => True
  | .d x => ∃ v, o = some (some v) ∧ Rp G F v x
  | .own w => ∃ p u, o = some (some (.ref p)) ∧ H p = some u ∧ F p = none ∧ B p = none ∧ OwRel G F u w
structure Ok (G : Gx) (B F : Hp) (σ : L2.St) (H : Hp) (S : List Sl) : Prop where
  fH : Same F H
  kp : Same B H
  len : σ.length = S.length
  sl : ∀ (i : Nat) (s : Sl), S[i]? = some s → SlOk G B F H σ[i]? s
  ap : ∀ (i j : Nat) (ds es : Ow) (p : Addr), S[i]? = some (.own ds) → S[j]? = some (.own es) → σ[i]? = some (some (.ref p)) → σ[j]? = some (some (.ref p)) → i = j
section
variable {G : Gx} {B F F' H H' : Hp} {σ : L2.St} {S : List Sl}
/-- the heap grows, so does what stays -/
theorem Ok.grow (o : Ok G B F σ H S) (g : Gr H F F') (k : Same H H') (f : Same F' H') : Ok G B F' σ H' S := by
  refine ⟨f, o.kp.trans k, o.len, fun i s e => ?_, o.ap⟩
  have h := o.sl i s e
  cases s with
  | no => trivial
  | d x =>
    obtain ⟨v, e1, r⟩ := h
    exact ⟨v, e1, r.mono g.1⟩
  | own ds =>
    obtain ⟨p, xs, e1, h1, h2, h3, r⟩ := h
    refine ⟨p, xs, e1, k _ _ h1, ?_, h3, r.mono g.1⟩
    cases q : F' p with
    | none => rfl
    | some u =>
      have := g.2 p h2 (by rw [q]; simp)
      rw [h1] at this; cases this
theorem same_new {H : Hp} {p : Addr} {o : HO} (h : H p = none) : Same H (upd H p o) := fun b u q => by rw [upd_ne (ne_of_none q h)]; exact q
theorem same_upd2 {F H : Hp} {p : Addr} {o : HO} (f : Same F H) : Same (upd F p o) (upd H p o) := fun b u q => by
  by_cases e : b = p
  · subst e; rw [upd_same] at q ⊢; exact q
  · rw [upd_ne e] at q ⊢; exact f _ _ q
theorem gr_new {F H : Hp} {p : Addr} {o : HO} (f : Same F H) (h : H p = none) : Gr H F (upd F p o) := ⟨same_new (f.free h), fun a h1 h2 => by
  by_cases e : a = p
  · subst e; exact h
  · rw [upd_ne e] at h2; exact absurd h1 h2⟩
theorem Ok.gnew (o : Ok G B F σ H S) {p : Addr} {u : HO} (h : H p = none) : Ok G B (upd F p u) σ (upd H p u) S := o.grow (gr_new o.fH h) (same_new h) (same_upd2 o.fH)
theorem Ok.gr (o : Ok G B F σ H S) (g : Gr H F F') : Gr B F F' := g.under o.kp
theorem Ok.grN (o : Ok G B F σ H S) {p : Addr} {u : HO} (h : H p = none) : Gr B F (upd F p u) := o.gr (gr_new o.fH h)
/-- a new object that isn't told of -/
theorem Ok.junk (o : Ok G B F σ H S) (k : Same H H') : Ok G B F σ H' S := o.grow .refl k (o.fH.trans k)
theorem Ok.get {i : Nat} {x : D} (o : Ok G B F σ H S) (e : S[i]? = some (.d x)) : ∃ v, σ[i]? = some (some v) ∧ Rp G F v x := o.sl i _ e
theorem set_lt {α : Type} {S : List α} {i j : Nat} {x s : α} (e : (S.set i x)[j]? = some s) (z : i = j) : i < S.length := by
  subst z
  have := (List.getElem?_eq_some_iff.mp e).1
  rw [List.length_set] at this; exact this
/-- a slot takes a datum -/
theorem Ok.set (o : Ok G B F σ H S) (i : Nat) {v : V} {x : D} (r : Rp G F v x) : Ok G B F (σ.set i (some v)) H (S.set i (.d x)) := by
  refine ⟨o.fH, o.kp, by rw [List.length_set, List.length_set]; exact o.len, fun j s e => ?_, fun j k ds es p e1 e2 e3 e4 => ?_⟩
  · by_cases hj : i = j
    · have hi := set_lt e hj
      subst hj
      rw [List.getElem?_set_self hi] at e
      cases e
      exact ⟨v, by rw [List.getElem?_set_self (by rw [o.len]; exact hi)], r⟩
    · rw [List.getElem?_set_ne hj] at e
      have h := o.sl j s e
      rw [List.getElem?_set_ne hj]
      exact h
  · have n1 : i ≠ j := fun z => by
      have hi := set_lt e1 z
      subst z
      rw [List.getElem?_set_self hi] at e1; cases e1
    have n2 : i ≠ k := fun z => by
      have hi := set_lt e2 z
      subst z
      rw [List.getElem?_set_self hi] at e2; cases e2
    rw [List.getElem?_set_ne n1] at e1 e3
    rw [List.getElem?_set_ne n2] at e2 e4
    exact o.ap j k ds es p e1 e2 e3 e4
/-- a slot takes an object of its own: H p is known, p is no other slot's, nor kept, nor frozen -/
theorem Ok.setOwnAt (o : Ok G B F σ H S) (i : Nat) {p : Addr} {u : HO} {w : Ow} (h : H p = some u) (hF : F p = none) (hB : B p = none) (r : OwRel G F u w)
    (no : ∀ (j : Nat) (es : Ow), S[j]? = some (.own es) → σ[j]? ≠ some (some (.ref p))) : Ok G B F (σ.set i (some (.ref p))) H (S.set i (.own w)) := by
  refine ⟨o.fH, o.kp, by rw [List.length_set, List.length_set]; exact o.len, fun j s e => ?_, fun j k ds1 es p1 e1 e2 e3 e4 => ?_⟩
  · by_cases hj : i = j
    · have hi := set_lt e hj
      subst hj
      rw [List.getElem?_set_self hi] at e
      cases e
      exact ⟨p, u, by rw [List.getElem?_set_self (by rw [o.len]; exact hi)], h, hF, hB, r⟩
    · rw [List.getElem?_set_ne hj] at e
      rw [List.getElem?_set_ne hj]
      exact o.sl j s e
  · by_cases hj : i = j
    · by_cases hk : i = k
      · exact hj.symm.trans hk
      · have hi := set_lt e1 hj
        subst hj
        rw [List.getElem?_set_self (by rw [o.len]; exact hi)] at e3
        rw [List.getElem?_set_ne hk] at e2 e4
        have e5 : p1 = p := by
          have := Option.some.inj (Option.some.inj e3)
          exact (V.ref.inj this).symm
        exact absurd (by rw [← e5]; exact e4) (no k es e2)
    · by_cases hk : i = k
      · have hi := set_lt e2 hk
        subst hk
        rw [List.getElem?_set_self (by rw [o.len]; exact hi)] at e4
        rw [List.getElem?_set_ne hj] at e1 e3
        have e5 : p1 = p := by
          have := Option.some.inj (Option.some.inj e4)
          exact (V.ref.inj this).symm
        exact absurd (by rw [← e5]; exact e3) (no j ds1 e1)
      · rw [List.getElem?_set_ne hj] at e1 e3
        rw [List.getElem?_set_ne hk] at e2 e4
        exact o.ap j k ds1 es p1 e1 e2 e3 e4
/-- a slot takes an object that is new -/
theorem Ok.setOwn (o : Ok G B F σ H S) (i : Nat) {p : Addr} {u : HO} {w : Ow} (h : H p = none) (r : OwRel G F u w) : Ok G B F (σ.set i (some (.ref p))) (upd H p u) (S.set i (.own w)) := by
  refine (o.junk (same_new h)).setOwnAt i upd_same (o.fH.free h) (o.kp.free h) r fun j es e1 e2 => ?_
  obtain ⟨p', xs', e3, h1, _⟩ := o.sl j _ e1
  rw [e2] at e3; cases e3
  rw [h] at h1; cases h1
/-- the own object of a slot changes -/
theorem Ok.chg (o : Ok G B F σ H S) {i : Nat} {p : Addr} {u : HO} {w w' : Ow} (e : S[i]? = some (.own w)) (ep : σ[i]? = some (some (.ref p))) (r : OwRel G F u w') : Ok G B F σ (upd H p u) (S.set i (.own w')) := by
  obtain ⟨p', xs', e3, h1, h2, h3, _⟩ := o.sl i _ e
  rw [ep] at e3; cases e3
  have hi : i < S.length := (List.getElem?_eq_some_iff.mp e).1
  have old : ∀ (j : Nat) (es' : Ow), (S.set i (.own w'))[j]? = some (.own es') → ∃ ds', S[j]? = some (.own ds') := fun j es' q => by
    by_cases hj : i = j
    · subst hj; exact ⟨w, e⟩
    · rw [List.getElem?_set_ne hj] at q; exact ⟨es', q⟩
  refine ⟨fun b u q => ?_, fun b u q => ?_, by rw [List.length_set]; exact o.len, fun j s q => ?_, fun j k ds1 es1 p1 q1 q2 q3 q4 => ?_⟩
  · rw [upd_ne (ne_of_none q h2)]; exact o.fH _ _ q
  · rw [upd_ne (ne_of_none q h3)]; exact o.kp _ _ q
  · by_cases hj : i = j
    · subst hj
      rw [List.getElem?_set_self hi] at q
      cases q
      exact ⟨p, u, ep, upd_same, h2, h3, r⟩
    · rw [List.getElem?_set_ne hj] at q
      have w := o.sl j s q
      cases s with
      | no => trivial
      | d x => exact w
      | own es' =>
        obtain ⟨p2, xs2, a1, a2, a3, a4, a5⟩ := w
        have : p2 ≠ p := fun z => hj (o.ap i j _ es' p2 e q (by rw [z]; exact ep) a1)
        exact ⟨p2, xs2, a1, by rw [upd_ne this]; exact a2, a3, a4, a5⟩
  · obtain ⟨d1, b1⟩ := old j ds1 q1
    obtain ⟨d2, b2⟩ := old k es1 q2
    exact o.ap j k d1 d2 p1 b1 b2 q3 q4
/-- an own object is left as it is, from here on -/
theorem Ok.frz (o : Ok G B F σ H S) {i : Nat} {w : Ow} (e : S[i]? = some (.own w)) : ∃ F' p, Gr B F F' ∧ Ok G B F' σ H (S.set i (.d w.d)) ∧ σ[i]? = some (some (.ref p)) ∧ Rp G F' (.ref p) w.d := by
  obtain ⟨p, u, ep, h1, h2, h3, r⟩ := o.sl i _ e
  have sm : Same F (upd F p u) := same_new h2
  have hi : i < S.length := (List.getElem?_eq_some_iff.mp e).1
  have rr : Rp G (upd F p u) (.ref p) w.d := (r.mono sm).rp upd_same
  refine ⟨upd F p u, p, ⟨sm, fun a q1 q2 => ?_⟩, ⟨fun b u q => ?_, o.kp, by rw [List.length_set]; exact o.len, fun j s q => ?_, fun j k ds1 es1 p1 q1 q2 q3 q4 => ?_⟩, ep, rr⟩
  · by_cases z : a = p
    · subst z; exact h3
    · rw [upd_ne z] at q2; exact absurd q1 q2
  · by_cases z : b = p
    · subst z; rw [upd_same] at q; cases q; exact h1
    · rw [upd_ne z] at q; exact o.fH _ _ q
  · by_cases hj : i = j
    · subst hj
      rw [List.getElem?_set_self hi] at q
      cases q
      exact ⟨_, ep, rr⟩
    · rw [List.getElem?_set_ne hj] at q
      have w := o.sl j s q
      cases s with
      | no => trivial
      | d x =>
        obtain ⟨v, a1, a2⟩ := w
        exact ⟨v, a1, a2.mono sm⟩
      | own es' =>
        obtain ⟨p2, xs2, a1, a2, a3, a4, a5⟩ := w
        have : p2 ≠ p := fun z => hj (o.ap i j _ es' p2 e q (by rw [z]; exact ep) a1)
        exact ⟨p2, xs2, a1, a2, by rw [upd_ne this]; exact a3, a4, a5.mono sm⟩
  · have n1 : i ≠ j := fun z => by subst z; rw [List.getElem?_set_self hi] at q1; cases q1
    have n2 : i ≠ k := fun z => by subst z; rw [List.getElem?_set_self hi] at q2; cases q2
    rw [List.getElem?_set_ne n1] at q1
    rw [List.getElem?_set_ne n2] at q2
    exact o.ap j k ds1 es1 p1 q1 q2 q3 q4
/-- less is known -/
theorem Ok.drop (o : Ok G B F σ H S) (i : Nat) : Ok G B F σ H (S.set i .no) := by
  refine ⟨o.fH, o.kp, by rw [List.length_set]; exact o.len, fun j s q => ?_, fun j k ds1 es1 p1 q1 q2 q3 q4 => ?_⟩
  · by_cases hj : i = j
    · have hi := set_lt q hj
      subst hj
      rw [List.getElem?_set_self hi] at q
      cases q
      trivial
    · rw [List.getElem?_set_ne hj] at q
      exact o.sl j s q
  · have f : ∀ {j : Nat} {d : Ow}, (S.set i .no)[j]? = some (.own d) → S[j]? = some (.own d) := fun {j d} q => by
      by_cases z : i = j
      · have hi := set_lt q z
        subst z
        rw [List.getElem?_set_self hi] at q; cases q
      · rw [List.getElem?_set_ne z] at q; exact q
    exact o.ap j k ds1 es1 p1 (f q1) (f q2) q3 q4
/-- a slot that isn't told of may hold anything -/
theorem Ok.any (o : Ok G B F σ H S) (i : Nat) (x : Option V) : Ok G B F (σ.set i x) H (S.set i .no) := by
  refine ⟨o.fH, o.kp, by rw [List.length_set, List.length_set]; exact o.len, fun j s q => ?_, fun j k ds1 es1 p1 q1 q2 q3 q4 => ?_⟩
  · by_cases hj : i = j
    · have hi := set_lt q hj
      subst hj
      rw [List.getElem?_set_self hi] at q
      cases q
      trivial
    · rw [List.getElem?_set_ne hj] at q ⊢
      exact o.sl j s q
  · have f : ∀ {j : Nat} {d : Ow}, (S.set i .no)[j]? = some (.own d) → i ≠ j := fun {j d} q z => by
      have hi := set_lt q z
      subst z
      rw [List.getElem?_set_self hi] at q; cases q
    have n1 := f q1
    have n2 := f q2
    rw [List.getElem?_set_ne n1] at q1 q3
    rw [List.getElem?_set_ne n2] at q2 q4
    exact o.ap j k ds1 es1 p1 q1 q2 q3 q4
end
end DL

namespace DL
open PySem PySem.Spec PyProof.Rows L2

/-! ### results -/
structure Exc where
  c : Nat
  fs : List (Nat × D)
abbrev Store := List Unit
abbrev Sls := List Sl
inductive Res (α : Type) where
  | ok (a : α) (S : Sls) (st : Store)
  | exc (x : Exc) (S : Sls) (st : Store)
  | stuck
def Res.bind {α β : Type} (r : Res α) (k : α → Sls → Store → Res β) : Res β :=
  match r with
  | .ok a S st => k a S st
  | .exc x S st => .exc x S st
  | .stuck => .stuck
@[simp] theorem Res.bind_ok {α β : Type} (a : α) (S : Sls) (st : Store) (k : α → Sls → Store → Res β) : (Res.ok a S st).bind k = k a S st := rfl
@[simp] theorem Res.bind_exc {α β : Type} (x : Exc) (S : Sls) (st : Store) (k : α → Sls → Store → Res β) : (Res.exc x S st : Res α).bind k = .exc x S st := rfl
@[simp] theorem Res.bind_stuck {α β : Type} (k : α → Sls → Store → Res β) : (Res.stuck : Res α).bind k = .stuck := rfl
inductive Out where
  | nx (S : Sls) (st : Store)
  | ret (d : D) (S : Sls) (st : Store)
  | bk (S : Sls) (st : Store)
  | ct (S : Sls) (st : Store)
  | rto (w : Ow) (S : Sls) (st : Store)
  | exc (x : Exc) (S : Sls) (st : Store)
  | stuck
def Res.out {α : Type} (r : Res α) (k : α → Sls → Store → Out) : Out :=
  match r with
  | .ok a S st => k a S st
  | .exc x S st => .exc x S st
  | .stuck => .stuck
@[simp] theorem Res.out_ok {α : Type} (a : α) (S : Sls) (st : Store) (k : α → Sls → Store → Out) : (Res.ok a S st).out k = k a S st := rfl
@[simp] theorem Res.out_exc {α : Type} (x : Exc) (S : Sls) (st : Store) (k : α → Sls → Store → Out) : (Res.exc x S st : Res α).out k = .exc x S st := rfl
@[simp] theorem Res.out_stuck {α : Type} (k : α → Sls → Store → Out) : (Res.stuck : Res α).out k = .stuck := rfl
def Out.then (r : Out) (k : Sls → Store → Out) : Out :=
  match r with
  | .nx S st => k S st
  | r => r
@[simp] theorem Out.then_nx (S : Sls) (st : Store) (k : Sls → Store → Out) : (Out.nx S st).then k = k S st := rfl
@[simp] theorem Out.then_ret (d : D) (S : Sls) (st : Store) (k : Sls → Store → Out) : (Out.ret d S st).then k = .ret d S st := rfl
@[simp] theorem Out.then_bk (S : Sls) (st : Store) (k : Sls → Store → Out) : (Out.bk S st).then k = .bk S st := rfl
@[simp] theorem Out.then_rto (w : Ow) (S : Sls) (st : Store) (k : Sls → Store → Out) : (Out.rto w S st).then k = .rto w S st := rfl
@[simp] theorem Out.then_ct (S : Sls) (st : Store) (k : Sls → Store → Out) : (Out.ct S st).then k = .ct S st := rfl
@[simp] theorem Out.then_exc (x : Exc) (S : Sls) (st : Store) (k : Sls → Store → Out) : (Out.exc x S st).then k = .exc x S st := rfl
@[simp] theorem Out.then_stuck (k : Sls → Store → Out) : Out.stuck.then k = .stuck := rfl
abbrev Ev (α : Type) := Sls → Store → Res α
abbrev EvS := Sls → Store → Out
/-- what a def does with its arguments -/
abbrev CallT := List D → Store → Res D
/-- an operand: a datum, or what stands in a slot at the time of the operation -/
inductive Opd where
  | v (d : D) | s (i : Nat)

/-! ### what a result says -/
def XRel (G : Gx) (F : Hp) (x : Exc) (cls : Value) (dd : Option Addr) (H : Hp) : Prop :=
  ∃ C, G.mg (nmS x.c) = some (.ref C) ∧ cls = .ref C ∧ ((x.fs = [] ∧ dd = none) ∨ (x.fs ≠ [] ∧ ∃ a vs, dd = some a ∧ H a = some (.xd vs) ∧ RpF G F vs x.fs))
section
variable (G : Gx) (B : Hp) (W : WX)
def Post {α β : Type} (R : Hp → β → α → Prop) (σ : L2.St) (F : Hp) (Q : β → Hp → Prop) : Res α → Prop
  | .ok d S' _ => ∀ v H' F', Gr B F F' → Ok G B F' σ H' S' → R F' v d → Q v H'
  | .exc x S' _ => ∀ cls dd H' F', Gr B F F' → Ok G B F' σ H' S' → XRel G F' x cls dd H' → W cls dd σ H'
  | .stuck => False
def PostS (F : Hp) (D : Ends) : Out → Prop
  | .nx S' _ => ∀ σ' H' F', Gr B F F' → Ok G B F' σ' H' S' → D.nx σ' H'
  | .ret d S' _ => ∀ v σ' H' F', Gr B F F' → Ok G B F' σ' H' S' → Rp G F' v d → D.rt v H'
  | .bk S' _ => ∀ σ' H' F', Gr B F F' → Ok G B F' σ' H' S' → D.bk σ' H'
  | .ct S' _ => ∀ σ' H' F', Gr B F F' → Ok G B F' σ' H' S' → D.ct σ' H'
  | .rto w S' _ => ∀ p u σ' H' F', Gr B F F' → Ok G B F' σ' H' S' → H' p = some u → F' p = none → B p = none → OwRel G F' u w → D.rt (.ref p) H'
  | .exc x S' _ => ∀ cls dd σ' H' F', Gr B F F' → Ok G B F' σ' H' S' → XRel G F' x cls dd H' → W cls dd σ' H'
  | .stuck => False
end
section
variable {G : Gx} {B : Hp} {W : WX}
theorem Post.grow {α β : Type} {R : Hp → β → α → Prop} {σ : L2.St} {F F' : Hp} {Q : β → Hp → Prop} {r : Res α} (g : Gr B F F') (h : Post G B W R σ F Q r) : Post G B W R σ F' Q r := by
  cases r with
  | ok d S st => exact fun v H' F2 g2 o r => h v H' F2 (g.trans g2) o r
  | exc x S st => exact fun c d H' F2 g2 o r => h c d H' F2 (g.trans g2) o r
  | stuck => exact h
theorem PostS.grow {F F' : Hp} {D : Ends} {r : Out} (g : Gr B F F') (h : PostS G B W F D r) : PostS G B W F' D r := by
  cases r with
  | nx S st => exact fun σ' H' F2 g2 o => h σ' H' F2 (g.trans g2) o
  | bk S st => exact fun σ' H' F2 g2 o => h σ' H' F2 (g.trans g2) o
  | ct S st => exact fun σ' H' F2 g2 o => h σ' H' F2 (g.trans g2) o
  | rto w S st => exact fun p u σ' H' F2 g2 o => h p u σ' H' F2 (g.trans g2) o
  | ret d S st => exact fun v σ' H' F2 g2 o r => h v σ' H' F2 (g.trans g2) o r
  | exc x S st => exact fun c d σ' H' F2 g2 o r => h c d σ' H' F2 (g.trans g2) o r
  | stuck => exact h
theorem Post.bind {α β γ δ : Type} {R : Hp → β → α → Prop} {R' : Hp → δ → γ → Prop} {σ : L2.St} {F : Hp} {Q : δ → Hp → Prop} {r : Res α} {k : α → Sls → Store → Res γ} (h : Post G B W R' σ F Q (r.bind k)) :
    Post G B W R σ F (fun v H1 => ∃ F1 d S1 st1, Gr B F F1 ∧ Ok G B F1 σ H1 S1 ∧ R F1 v d ∧ Post G B W R' σ F1 Q (k d S1 st1)) r := by
  cases r with
  | ok d S st => exact fun v H' F' g o r => ⟨F', d, S, st, g, o, r, Post.grow g h⟩
  | exc x S st => exact h
  | stuck => exact h
theorem Post.out {α β : Type} {R : Hp → β → α → Prop} {σ : L2.St} {F : Hp} {Dn : Ends} {r : Res α} {k : α → Sls → Store → Out} (h : PostS G B W F Dn (r.out k)) :
    Post G B W R σ F (fun v H1 => ∃ F1 d S1 st1, Gr B F F1 ∧ Ok G B F1 σ H1 S1 ∧ R F1 v d ∧ PostS G B W F1 Dn (k d S1 st1)) r := by
  cases r with
  | ok d S st => exact fun v H' F' g o r => ⟨F', d, S, st, g, o, r, PostS.grow g h⟩
  | exc x S st => exact fun c d H' F' g o r => h c d σ H' F' g o r
  | stuck => exact h
theorem Post.mono {α β : Type} {R : Hp → β → α → Prop} {σ : L2.St} {F : Hp} {Q Q' : β → Hp → Prop} {r : Res α} (h : Post G B W R σ F Q r) (i : ∀ v H, Q v H → Q' v H) : Post G B W R σ F Q' r := by
  cases r with
  | ok d S st => exact fun v H' F' g o r => i _ _ (h v H' F' g o r)
  | exc x S st => exact h
  | stuck => exact h
end
/-- a reading, of a state that bears these data -/
def lift {α β : Type} (G : Gx) (B : Hp) (W : WX) (R : L2.St → Hp → β → α → Prop) (f : Ev α) : L2.St → Hp → (β → Hp → Prop) → Prop := fun σ H Q =>
  ∃ F S st, Ok G B F σ H S ∧ Post G B W (R σ) σ F Q (f S st)
def liftS (G : Gx) (B : Hp) (W : WX) (f : EvS) : TS := fun D σ H => ∃ F S st, Ok G B F σ H S ∧ PostS G B W F D (f S st)
def RD (G : Gx) : L2.St → Hp → V → D → Prop := fun _ F v d => Rp G F v d
/-- an operand's value -/
def RO (G : Gx) : L2.St → Hp → V → Opd → Prop := fun σ F v o => match o with
  | .v d => Rp G F v d
  | .s i => σ[i]? = some (some v)
inductive RpO (G : Gx) (σ : L2.St) (F : Hp) : List V → List Opd → Prop
  | nil : RpO G σ F [] []
  | cons {v : V} {vs : List V} {o : Opd} {os : List Opd} : RO G σ F v o → RpO G σ F vs os → RpO G σ F (v :: vs) (o :: os)
theorem RO.mono {G : Gx} {σ : L2.St} {F F' : Hp} {v : V} {o : Opd} (e : Same F F') (h : RO G σ F v o) : RO G σ F' v o := by
  cases o with
  | v d => exact Rp.mono e h
  | s i => exact h
theorem RpO.mono {G : Gx} {σ : L2.St} {F F' : Hp} (e : Same F F') : ∀ {vs : List V} {os : List Opd}, RpO G σ F vs os → RpO G σ F' vs os
  | _, _, .nil => .nil
  | _, _, .cons h t => .cons (h.mono e) (RpO.mono e t)
abbrev Cx.g (X : Cx) : Gx := ⟨X.K, X.mg⟩
/-- what an operand holds: a datum, or the slot's own object as it stands -/
def vw (S : Sls) : Opd → Option D
  | .v d => some d
  | .s i => match S[i]? with
    | some (.d d) => some d
    | some (.own w) => some w.d
    | _ => none
/-- .. where no object of the slot's own is handed on -/
def vd (S : Sls) : Opd → Option D
  | .v d => some d
  | .s i => match S[i]? with
    | some (.d d) => some d
    | _ => none
def vws (S : Sls) : List Opd → Option (List D)
  | [] => some []
  | o :: r => match vw S o, vws S r with
    | some d, some ds => some (d :: ds)
    | _, _ => none
def vds (S : Sls) : List Opd → Option (List D)
  | [] => some []
  | o :: r => match vd S o, vds S r with
    | some d, some ds => some (d :: ds)
    | _, _ => none
/-- v shows d now -/
def Vw (G : Gx) (F H : Hp) (v : V) (d : D) : Prop := Rp G F v d ∨ ∃ p u w, v = .ref p ∧ H p = some u ∧ OwRel G F u w ∧ d = w.d
inductive VwAll (G : Gx) (F H : Hp) : List V → List D → Prop
  | nil : VwAll G F H [] []
  | cons {v : V} {vs : List V} {d : D} {ds : List D} : Vw G F H v d → VwAll G F H vs ds → VwAll G F H (v :: vs) (d :: ds)
section
variable {G : Gx} {B F H : Hp} {σ : L2.St} {S : Sls}
theorem Ok.vw (o : Ok G B F σ H S) {v : V} {a : Opd} {d : D} (r : RO G σ F v a) (e : vw S a = some d) : Vw G F H v d := by
  cases a with
  | v x => simp [DL.vw] at e; subst e; exact .inl r
  | s i =>
    have r : σ[i]? = some (some v) := r
    simp only [DL.vw] at e
    split at e
    · rename_i x hx
      cases e
      obtain ⟨v', e1, q⟩ := o.sl i _ hx
      rw [r] at e1; cases e1
      exact .inl q
    · rename_i w hx
      cases e
      obtain ⟨p, u, e1, q1, q2, q3, q⟩ := o.sl i _ hx
      rw [r] at e1; cases e1
      exact .inr ⟨p, u, w, rfl, q1, q, rfl⟩
    · cases e
theorem Ok.vd (o : Ok G B F σ H S) {v : V} {a : Opd} {d : D} (r : RO G σ F v a) (e : vd S a = some d) : Rp G F v d := by
  cases a with
  | v x => simp [DL.vd] at e; subst e; exact r
  | s i =>
    have r : σ[i]? = some (some v) := r
    simp only [DL.vd] at e
    split at e
    · rename_i x hx
      cases e
      obtain ⟨v', e1, q⟩ := o.sl i _ hx
      rw [r] at e1; cases e1
      exact q
    · cases e
theorem Ok.vws (o : Ok G B F σ H S) : ∀ {vs : List V} {as : List Opd} {ds : List D}, RpO G σ F vs as → vws S as = some ds → VwAll G F H vs ds
  | _, _, _, .nil, e => by simp [DL.vws] at e; subst e; exact .nil
  | _, _, _, .cons h t, e => by
    simp only [DL.vws] at e
    split at e
    · rename_i a b ha hb
      cases e
      exact .cons (o.vw h ha) (Ok.vws o t hb)
    · cases e
theorem Ok.vds (o : Ok G B F σ H S) : ∀ {vs : List V} {as : List Opd} {ds : List D}, RpO G σ F vs as → vds S as = some ds → RpAll G F vs ds
  | _, _, _, .nil, e => by simp [DL.vds] at e; subst e; exact .nil
  | _, _, _, .cons h t, e => by
    simp only [DL.vds] at e
    split at e
    · rename_i a b ha hb
      cases e
      exact .cons (o.vd h ha) (Ok.vds o t hb)
    · cases e
end

/-! ### the judgements -/
def DE (X : Cx) (B : Hp) (W : WX) (e : Expr) (f : Ev D) : Prop := PE X e (lift (Cx.g X) B W (RD (Cx.g X)) f)
def DO (X : Cx) (B : Hp) (W : WX) (e : Expr) (f : Ev Opd) : Prop := PE X e (lift (Cx.g X) B W (RO (Cx.g X)) f)
def DA (X : Cx) (B : Hp) (W : WX) (es : List Expr) (f : Ev (List Opd)) : Prop := PA X es (lift (Cx.g X) B W (RpO (Cx.g X)) f)
def RB : L2.St → Hp → Bool → Bool → Prop := fun _ _ v d => v = d
def DT (X : Cx) (B : Hp) (W : WX) (e : Expr) (f : Ev Bool) : Prop := PT X e (lift (Cx.g X) B W RB f)
def DW (X : Cx) (B : Hp) (W : WX) (e : Expr) (f : Ev Bool) : Prop := PW X e (lift (Cx.g X) B W RB f)
def DS (X : Cx) (B : Hp) (W : WX) (s : Stmt) (f : EvS) : Prop := PS X s (liftS (Cx.g X) B W f)
def DSs (X : Cx) (B : Hp) (W : WX) (s : List Stmt) (f : EvS) : Prop := PSs X s (liftS (Cx.g X) B W f)
theorem pe_imp {X : Cx} {e : Expr} {t t' : TE} (h : PE X e t) (i : ∀ σ H Q, t' σ H Q → t σ H Q) : PE X e t' := ⟨fun pins s σ H Q I q => h.run pins s σ H Q I (i σ H Q q)⟩
theorem pt_imp {X : Cx} {e : Expr} {t t' : TT} (h : PT X e t) (i : ∀ σ H Q, t' σ H Q → t σ H Q) : PT X e t' := ⟨fun pins s σ H Q I q => h.run pins s σ H Q I (i σ H Q q)⟩
theorem pw_imp {X : Cx} {e : Expr} {t t' : TT} (h : PW X e t) (i : ∀ σ H Q, t' σ H Q → t σ H Q) : PW X e t' := ⟨fun wh pins s σ H Q I q => h.run wh pins s σ H Q I (i σ H Q q)⟩
theorem pa_imp {X : Cx} {es : List Expr} {t t' : TA} (h : PA X es t) (i : ∀ σ H Q, t' σ H Q → t σ H Q) : PA X es t' := ⟨fun pos pins s σ H Q I q => h.run pos pins s σ H Q I (i σ H Q q)⟩
theorem ps_imp {X : Cx} {s : Stmt} {t t' : TS} (h : PS X s t) (i : ∀ D σ H, t' D σ H → t D σ H) : PS X s t' := ⟨fun pins sh σ H D I q => h.run pins sh σ H D I (i D σ H q)⟩
theorem pss_imp {X : Cx} {s : List Stmt} {t t' : TS} (h : PSs X s t) (i : ∀ D σ H, t' D σ H → t D σ H) : PSs X s t' := ⟨fun pins sh σ H D I q => h.run pins sh σ H D I (i D σ H q)⟩
section
variable {X : Cx} {B : Hp} {W : WX} {e a b c : Expr} {es : List Expr} {pos : Pos}

/-! ### names, constants -/
def kE (d : D) : Ev D := fun S st => .ok d S st
def vE (i : Nat) : Ev D := fun S st => match S[i]? with
  | some (.d d) => .ok d S st
  | _ => .stuck
/-- the slot's own object, left as it is from here on -/
def zE (i : Nat) : Ev D := fun S st => match S[i]? with
  | some (.d d) => .ok d S st
  | some (.own w) => .ok w.d (S.set i (.d w.d)) st
  | _ => .stuck
def oV (f : Ev D) : Ev Opd := fun S st => (f S st).bind fun d S st => .ok (.v d) S st
def oS (i : Nat) : Ev Opd := fun S st => match S[i]? with
  | some .no => .stuck
  | none => .stuck
  | _ => .ok (.s i) S st
theorem de_k {v : V} {d : D} (h : PE X e (tC v)) (r : ∀ F, Rp (Cx.g X) F v d) : DE X B W e (kE d) :=
  pe_imp h fun σ H Q ⟨F, S, st, o, q⟩ => q v H F .refl o (r F)
theorem de_non {j} : DE X B W (.Constant .none j pos) (kE .non) := de_k pe_non fun _ => .non
theorem de_bl {t j} : DE X B W (.Constant (.bool t) j pos) (kE (.bl t)) := de_k pe_bl fun _ => .bl _
theorem de_int {i j} : DE X B W (.Constant (.int i) j pos) (kE (.int i)) := de_k pe_int fun _ => .int _
theorem de_str {x j} (s : List Nat) (h : x = tx s := by rfl) (o : okS s = true := by decide) : DE X B W (.Constant (.str x) j pos) (kE (.str s)) := by
  subst h; exact de_k pe_str fun _ => .str _ o
theorem de_v {i : Nat} (h : PE X e (tVar i)) : DE X B W e (vE i) := pe_imp h fun σ H Q ⟨F, S, st, o, q⟩ => by
  unfold vE at q
  split at q
  · rename_i d hd
    obtain ⟨v, e1, r⟩ := o.sl i _ hd
    exact ⟨v, e1, q v H F .refl o r⟩
  · exact q.elim
theorem de_z {i : Nat} (h : PE X e (tVar i)) : DE X B W e (zE i) := pe_imp h fun σ H Q ⟨F, S, st, o, q⟩ => by
  unfold zE at q
  split at q
  · rename_i d hd
    obtain ⟨v, e1, r⟩ := o.sl i _ hd
    exact ⟨v, e1, q v H F .refl o r⟩
  · rename_i w hw
    obtain ⟨F', p, g, o', e1, r⟩ := o.frz hw
    exact ⟨_, e1, q _ H F' g o' r⟩
  · exact q.elim
theorem do_v {f : Ev D} (h : DE X B W e f) : DO X B W e (oV f) := pe_imp h fun σ H Q ⟨F, S, st, o, q⟩ =>
  ⟨F, S, st, o, (Post.bind (R := RD (Cx.g X) σ) q).mono fun v H1 ⟨F1, d, S1, st1, g, o1, r, p⟩ => p v H1 F1 .refl o1 r⟩
theorem do_s {i : Nat} (h : PE X e (tVar i)) : DO X B W e (oS i) := pe_imp h fun σ H Q ⟨F, S, st, o, q⟩ => by
  unfold oS at q
  split at q
  · exact q.elim
  · exact q.elim
  · rename_i n1 n2
    cases hs : S[i]? with
    | none => exact absurd hs n2
    | some s =>
      have h := o.sl i s hs
      cases s with
      | no => exact absurd hs n1
      | d x =>
        obtain ⟨v, e1, r⟩ := h
        exact ⟨v, e1, q v H F .refl o e1⟩
      | own w =>
        obtain ⟨p, u, e1, _⟩ := h
        exact ⟨_, e1, q _ H F .refl o e1⟩

/-! ### argument lists -/
def aN : Ev (List Opd) := fun S st => .ok [] S st
def aC (f : Ev Opd) (g : Ev (List Opd)) : Ev (List Opd) := fun S st => (f S st).bind fun a S st => (g S st).bind fun r S st => .ok (a :: r) S st
theorem da_n : DA X B W [] aN := pa_imp pa_nil fun σ H Q ⟨F, S, st, o, q⟩ => q [] H F .refl o .nil
theorem da_c {f : Ev Opd} {g : Ev (List Opd)} (h : DO X B W e f) (t : DA X B W es g) (hs : starEach (e :: es) X.env = (false, eval e X.env) :: starEach es X.env := by rfl) : DA X B W (e :: es) (aC f g) :=
  pa_imp (pa_cons h t hs) fun σ H Q ⟨F, S, st, o, q⟩ => ⟨F, S, st, o, (Post.bind (R := RO (Cx.g X) σ) q).mono fun v H1 ⟨F1, d, S1, st1, g1, o1, r1, p1⟩ =>
    ⟨F1, S1, st1, o1, (Post.bind (R := RpO (Cx.g X) σ) p1).mono fun vs H2 ⟨F2, ds, S2, st2, g2, o2, r2, p2⟩ => p2 _ H2 F2 .refl o2 (.cons (r1.mono g2.1) r2)⟩⟩
end

/-! ### operations by data -/
/-- r, whatever else is wanted, where op tells d -/
def Gives (r : VK → Prop) (G : Gx) (F H : Hp) (d : D) : Prop := ∀ Q : VK, (∀ v' H' F', Same H H' → Same F' H' → Gr H F F' → Rp G F' v' d → Q v' H') → r Q
def Op2 (G : Gx) (r : R2) (op : D → D → Option D) : Prop := ∀ F H v w x y d, Same F H → Vw G F H v x → Vw G F H w y → op x y = some d → Gives (r v w H) G F H d
def Op1 (G : Gx) (r : V → Hp → VK → Prop) (op : D → Option D) : Prop := ∀ F H v x d, Same F H → Vw G F H v x → op x = some d → Gives (r v H) G F H d
def OpA (G : Gx) (r : List V → Hp → VK → Prop) (op : List D → Option D) : Prop := ∀ F H vs xs d, Same F H → VwAll G F H vs xs → op xs = some d → Gives (r vs H) G F H d
def OpM (G : Gx) (r : V → List V → Hp → VK → Prop) (op : D → List D → Option D) : Prop := ∀ F H v vs x xs d, Same F H → Vw G F H v x → VwAll G F H vs xs → op x xs = some d → Gives (r v vs H) G F H d
def got {α : Type} (o : Option α) (S : Sls) (st : Store) : Res α := match o with
  | some d => .ok d S st
  | none => .stuck
@[simp] theorem got_some {α : Type} (d : α) (S : Sls) (st : Store) : got (some d) S st = .ok d S st := rfl
@[simp] theorem got_none {α : Type} (S : Sls) (st : Store) : got (none : Option α) S st = .stuck := rfl
theorem Gives.fin {r : VK → Prop} {G : Gx} {B F H : Hp} {W : WX} {σ : L2.St} {S : Sls} {st : Store} {d : D} {Q : VK} (g : Gives r G F H d) (o : Ok G B F σ H S) (p : Post G B W (RD G σ) σ F Q (.ok d S st)) : r Q :=
  g Q fun v' H' F' k f gr rr => p v' H' F' (o.gr gr) (o.grow gr k f) rr
def o2E (op : D → D → Option D) (fa fb : Ev Opd) : Ev D := fun S st => (fa S st).bind fun a S st => (fb S st).bind fun b S st =>
  match vw S a, vw S b with
  | some x, some y => got (op x y) S st
  | _, _ => .stuck
def o1E (op : D → Option D) (fa : Ev Opd) : Ev D := fun S st => (fa S st).bind fun a S st =>
  match vw S a with
  | some x => got (op x) S st
  | _ => .stuck
def oAE (op : List D → Option D) (fa : Ev (List Opd)) : Ev D := fun S st => (fa S st).bind fun a S st =>
  match vws S a with
  | some x => got (op x) S st
  | _ => .stuck
def oME (op : D → List D → Option D) (fo : Ev Opd) (fa : Ev (List Opd)) : Ev D := fun S st => (fo S st).bind fun o S st => (fa S st).bind fun a S st =>
  match vw S o, vws S a with
  | some y, some x => got (op y x) S st
  | _, _ => .stuck
theorem got_ok {α β : Type} {G : Gx} {B F : Hp} {W : WX} {σ : L2.St} {R : Hp → β → α → Prop} {Q : β → Hp → Prop} {x : Option α} {S : Sls} {st : Store} (p : Post G B W R σ F Q (got x S st)) : ∃ d, x = some d ∧ Post G B W R σ F Q (.ok d S st) := by
  cases x with
  | none => exact p.elim
  | some d => exact ⟨d, rfl, p⟩
section
variable {X : Cx} {B : Hp} {W : WX} {e a b c : Expr} {es : List Expr} {pos : Pos}
theorem op2_lift {r : R2} {op : D → D → Option D} {fa fb : Ev Opd} (h : Op2 (Cx.g X) r op) {σ : L2.St} {H : Hp} {Q : VK} (q : lift (Cx.g X) B W (RD (Cx.g X)) (o2E op fa fb) σ H Q) :
    tOp r (lift (Cx.g X) B W (RO (Cx.g X)) fa) (lift (Cx.g X) B W (RO (Cx.g X)) fb) σ H Q := by
  obtain ⟨F, S, st, o, q⟩ := q
  refine ⟨F, S, st, o, (Post.bind (R := RO (Cx.g X) σ) q).mono fun v H1 ⟨F1, d, S1, st1, g1, o1, r1, p1⟩ => ⟨F1, S1, st1, o1, (Post.bind (R := RO (Cx.g X) σ) p1).mono fun w H2 ⟨F2, d2, S2, st2, g2, o2, r2, p2⟩ => ?_⟩⟩
  split at p2
  · rename_i x y hx hy
    obtain ⟨z, hz, p2⟩ := got_ok p2
    exact (h F2 H2 v w x y z o2.fH (o2.vw (r1.mono g2.1) hx) (o2.vw r2 hy) hz).fin o2 p2
  · exact p2.elim
theorem de_bin {o : Operator} {r : R2} {op : D → D → Option D} {fa fb : Ev Opd} (ho : OpR X (binaryOp o) r) (h : Op2 (Cx.g X) r op) (ha : DO X B W a fa) (hb : DO X B W b fb) : DE X B W (.BinOp a o b pos) (o2E op fa fb) :=
  pe_imp (pe_op ho ha hb) fun _ _ _ q => op2_lift h q
theorem de_cmp {o : CmpOp} {r : R2} {op : D → D → Option D} {fa fb : Ev Opd} (ho : OpR X (compareOp o) r) (h : Op2 (Cx.g X) r op) (ha : DO X B W a fa) (hb : DO X B W b fb) (hm : behindInMarks o b = false) : DE X B W (.Compare a [o] [b] pos) (o2E op fa fb) :=
  pe_imp (pe_cmpR ho ha hb hm) fun _ _ _ q => op2_lift h q
/-- a value that is a bool, as a test -/
def tV (f : Ev D) : Ev Bool := fun S st => (f S st).bind fun d S st => match d with
  | .bl k => .ok k S st
  | _ => .stuck
theorem test_lift {t : TE} {f : Ev D} {σ : L2.St} {H : Hp} {Q : Bool → Hp → Prop} (i : ∀ σ H Q, lift (Cx.g X) B W (RD (Cx.g X)) f σ H Q → t σ H Q) (q : lift (Cx.g X) B W RB (tV f) σ H Q) : tTest t σ H Q := by
  obtain ⟨F, S, st, o, q⟩ := q
  refine i σ H _ ⟨F, S, st, o, (Post.bind (R := RD (Cx.g X) σ) q).mono fun v H1 ⟨F1, d, S1, st1, g1, o1, r1, p1⟩ => ?_⟩
  split at p1
  · cases r1
    exact ⟨_, rfl, p1 _ H1 F1 .refl o1 rfl⟩
  · exact p1.elim
theorem dt_cmp {o : CmpOp} {r : R2} {op : D → D → Option D} {fa fb : Ev Opd} (ho : OpR X (compareOp o) r) (h : Op2 (Cx.g X) r op) (ha : DO X B W a fa) (hb : DO X B W b fb) (hm : behindInMarks o b = false) : DT X B W (.Compare a [o] [b] pos) (tV (o2E op fa fb)) :=
  pt_imp (pt_cmpR ho ha hb hm) fun _ _ _ q => test_lift (fun _ _ _ q => op2_lift h q) q
theorem de_ix {r : R2} {op : D → D → Option D} {fa fb : Ev Opd} (ho : IxR X r) (h : Op2 (Cx.g X) r op) (ha : DO X B W a fa) (hb : DO X B W b fb) (hs : PlainIx b := by exact fun _ _ => rfl) : DE X B W (.Subscript a b pos) (o2E op fa fb) :=
  pe_imp (pe_ix ho ha hb hs) fun _ _ _ q => op2_lift h q
theorem de_un {o : UnaryOp} {r : V → Hp → VK → Prop} {op : D → Option D} {fa : Ev Opd} (ho : UnR X (unaryOp o) r) (h : Op1 (Cx.g X) r op) (ha : DO X B W a fa) : DE X B W (.UnaryOp o a pos) (o1E op fa) :=
  pe_imp (pe_un ho ha) fun σ H Q ⟨F, S, st, o, q⟩ => ⟨F, S, st, o, (Post.bind (R := RO (Cx.g X) σ) q).mono fun v H1 ⟨F1, d, S1, st1, g1, o1, r1, p1⟩ => by
    split at p1
    · rename_i x hx
      obtain ⟨z, hz, p1⟩ := got_ok p1
      exact (h F1 H1 v x z o1.fH (o1.vw r1 hx) hz).fin o1 p1
    · exact p1.elim⟩
theorem opA_lift {r : List V → Hp → VK → Prop} {op : List D → Option D} {fa : Ev (List Opd)} (h : OpA (Cx.g X) r op) {σ : L2.St} {H : Hp} {Q : VK} (q : lift (Cx.g X) B W (RD (Cx.g X)) (oAE op fa) σ H Q) :
    tCB r (lift (Cx.g X) B W (RpO (Cx.g X)) fa) σ H Q := by
  obtain ⟨F, S, st, o, q⟩ := q
  refine ⟨F, S, st, o, (Post.bind (R := RpO (Cx.g X) σ) q).mono fun v H1 ⟨F1, d, S1, st1, g1, o1, r1, p1⟩ => ?_⟩
  split at p1
  · rename_i x hx
    obtain ⟨z, hz, p1⟩ := got_ok p1
    exact (h F1 H1 v x z o1.fH (o1.vws r1 hx) hz).fin o1 p1
  · exact p1.elim
theorem de_cb {x : Str} {p : Pos} {id : String} {r : List V → Hp → VK → Prop} {op : List D → Option D} {fa : Ev (List Opd)} (hc : CallR X (.builtin id) r) (h : OpA (Cx.g X) r op) (hm : X.mg x = none) (ha : DA X B W (e :: es) fa)
    (hg : Gl X x := by rfl) (hv : bootBuiltins x = some (.builtin id) := by decide +kernel) (hn : x ≠ "__name__" := by decide) (hdb : (x == ("__debug__" : Str)) = false := by decide)
    (he : starEach (e :: es) X.env = (false, eval e X.env) :: starEach es X.env := by rfl) (hpl : (backTo pos (starEach es X.env)).any (·.1) = false := by rfl) : DE X B W (.Call (.Name x p) (e :: es) [] pos) (oAE op fa) :=
  pe_imp (pe_callB hc hg hm hv ha hn hdb he hpl) fun _ _ _ q => opA_lift h q
theorem de_ct {x : Str} {p : Pos} {T : String} {r : List V → Hp → VK → Prop} {op : List D → Option D} {fa : Ev (List Opd)} (hc : CallR X (.type T) r) (h : OpA (Cx.g X) r op) (hm : X.mg x = none) (ha : DA X B W (e :: es) fa)
    (hg : Gl X x := by rfl) (hv : bootBuiltins x = some (.type T) := by decide +kernel) (hn : x ≠ "__name__" := by decide) (hdb : (x == ("__debug__" : Str)) = false := by decide)
    (he : starEach (e :: es) X.env = (false, eval e X.env) :: starEach es X.env := by rfl) (hpl : (backTo pos (starEach es X.env)).any (·.1) = false := by rfl) : DE X B W (.Call (.Name x p) (e :: es) [] pos) (oAE op fa) :=
  pe_imp (pe_callTy hc hg hm hv ha hn hdb he hpl) fun _ _ _ q => opA_lift h q
/-- the receiver's type, by its datum -/
def tyD (T : String) : D → Bool
  | .str _ => T == "str"
  | .int _ => T == "int"
  | .lst _ => T == "list"
  | .scr _ => T == "list"
  | .dic _ => T == "dict"
  | _ => false
theorem Vw.ty {G : Gx} {F H : Hp} {v : V} {d : D} {T : String} (h : Vw G F H v d) (f : Same F H) (t : tyD T d = true) : tyV G.K T v H := by
  rcases h with h | ⟨p, u, w, rfl, hp, ow, rfl⟩
  · cases h with
    | str s _ => exact beq_iff_eq.mp t
    | int i => exact beq_iff_eq.mp t
    | lst e r => exact .inl ⟨beq_iff_eq.mp t, _, .inl (.inl (f _ _ e))⟩
    | scr e => exact .inl ⟨beq_iff_eq.mp t, _, f.seq e⟩
    | dicK e r => exact .inr (.inr (.inl ⟨beq_iff_eq.mp t, .inl ⟨_, f _ _ e⟩⟩))
    | _ => cases t
  · cases ow with
    | l r => exact .inl ⟨beq_iff_eq.mp t, _, .inl (.inl hp)⟩
    | kK r => exact .inr (.inr (.inl ⟨beq_iff_eq.mp t, .inl ⟨_, hp⟩⟩))
/-- the type is looked at ahead of the arguments -/
def mE (T : String) (op : D → List D → Option D) (fo : Ev Opd) (fa : Ev (List Opd)) : Ev D := fun S st => (fo S st).bind fun o S st =>
  match vw S o with
  | some y => if tyD T y = true then (fa S st).bind fun a S st =>
      match vw S o, vws S a with
      | some y, some x => got (op y x) S st
      | _, _ => .stuck
    else .stuck
  | _ => .stuck
theorem de_m {T id : String} {name : Str} {apos : Pos} {r : V → List V → Hp → VK → Prop} {op : D → List D → Option D} {fo : Ev Opd} {fa : Ev (List Opd)} (pa : PlainAttrs T) (slot : Slot T name id) (hty : typeOf (.builtin id) = pure (.type "method_descriptor")) (hm : MtR X id r) (h : OpM (Cx.g X) r op)
    (ho : DO X B W a fo) (ha : DA X B W (e :: es) fa)
    (hbase : attributeBase a name X.env (eval a X.env) = eval a X.env := by rfl)
    (hfew : ((backTo pos (starEach (e :: es) X.env)).all (fun x => !x.1) && (backToKw pos (keywordEach [] X.env)).all (fun x => x.1.isSome)
      && decide ((e :: es).length + ([] : List Keyword).length + (if ([] : List Keyword).isEmpty then 0 else 1) < 30)) = true := by rfl)
    (hline : (apos.endLine == pos.line) = true := by rfl) (hs : starEach (e :: es) X.env = (false, eval e X.env) :: starEach es X.env := by rfl) (hplain : (backTo pos (starEach es X.env)).any (·.1) = false := by rfl) :
    DE X B W (.Call (.Attribute a name apos) (e :: es) [] pos) (mE T op fo fa) :=
  pe_imp (pe_bm pa slot hty hm ho ha hbase hfew hline hs hplain) fun σ H Q ⟨F, S, st, o, q⟩ => ⟨F, S, st, o, (Post.bind (R := RO (Cx.g X) σ) q).mono fun v H1 ⟨F1, d, S1, st1, g1, o1, r1, p1⟩ => by
    split at p1
    · rename_i y hy
      split at p1
      · rename_i ht
        refine ⟨(o1.vw r1 hy).ty o1.fH ht, F1, S1, st1, o1, (Post.bind (R := RpO (Cx.g X) σ) p1).mono fun vs H2 ⟨F2, ds, S2, st2, g2, o2, r2, p2⟩ => ?_⟩
        split at p2
        · rename_i y' x hy' hx
          obtain ⟨z, hz, p2⟩ := got_ok p2
          exact (h F2 H2 v vs y' x z o2.fH (o2.vw (r1.mono g2.1) hy') (o2.vws r2 hx) hz).fin o2 p2
        · exact p2.elim
      · exact p1.elim
    · exact p1.elim⟩
def m0E (T : String) (op : D → Option D) (fo : Ev Opd) : Ev D := fun S st => (fo S st).bind fun o S st =>
  match vw S o with
  | some y => if tyD T y = true then got (op y) S st else .stuck
  | _ => .stuck
theorem de_m0 {T id : String} {name : Str} {apos : Pos} {r : V → List V → Hp → VK → Prop} {op : D → Option D} {fo : Ev Opd} (pa : PlainAttrs T) (slot : Slot T name id) (hty : typeOf (.builtin id) = pure (.type "method_descriptor")) (hm : MtR X id r) (h : Op1 (Cx.g X) (fun v => r v []) op)
    (ho : DO X B W a fo) (hbase : attributeBase a name X.env (eval a X.env) = eval a X.env := by rfl) (hline : (apos.endLine == pos.line) = true := by rfl) :
    DE X B W (.Call (.Attribute a name apos) [] [] pos) (m0E T op fo) :=
  pe_imp (pe_bm0 pa slot hty hm ho hbase hline) fun σ H Q ⟨F, S, st, o, q⟩ => ⟨F, S, st, o, (Post.bind (R := RO (Cx.g X) σ) q).mono fun v H1 ⟨F1, d, S1, st1, g1, o1, r1, p1⟩ => by
    split at p1
    · rename_i y hy
      split at p1
      · rename_i ht
        obtain ⟨z, hz, p1⟩ := got_ok p1
        exact ⟨(o1.vw r1 hy).ty o1.fH ht, (h F1 H1 v y z o1.fH (o1.vw r1 hy) hz).fin o1 p1⟩
      · exact p1.elim
    · exact p1.elim⟩
end
end DL

namespace DL
open PySem PySem.Spec PyProof.Rows L2

/-- no exception leaves -/
def Res.calm {α : Type} : Res α → Res α
  | .exc _ _ _ => .stuck
  | r => r
@[simp] theorem Res.calm_ok {α : Type} (a : α) (S : Sls) (st : Store) : (Res.ok a S st).calm = .ok a S st := rfl
abbrev W0 : WX := fun _ _ _ _ => False
theorem Post.calm {G : Gx} {B : Hp} {W : WX} {α β : Type} {R : Hp → β → α → Prop} {σ : L2.St} {F : Hp} {Q : β → Hp → Prop} {r : Res α} (h : Post G B W R σ F Q r.calm) : Post G B W0 R σ F Q r := by
  cases r with
  | ok d S st => exact h
  | exc x S st => exact h.elim
  | stuck => exact h
section
variable {X : Cx} {B : Hp} {W : WX} {e a b c : Expr} {es : List Expr} {s : Stmt} {ss : List Stmt} {pos : Pos}

/-! ### tests -/
def tru : D → Option Bool
  | .non => some false
  | .bl b => some b
  | .int i => some (i != 0)
  | .str s => if s.length ≤ 16777216 then some (!s.isEmpty) else none
  | .lst ds => some (!ds.isEmpty)
  | .tup ds => some (!ds.isEmpty)
  | .scr ns => some (!ns.isEmpty)
  | _ => none
theorem isEmpty_all {G : Gx} {F : Hp} {xs : List V} {ds : List D} (r : RpAll G F xs ds) : xs.isEmpty = ds.isEmpty := by cases r <;> rfl
theorem Vw.tru {G : Gx} {F H : Hp} {v : V} {d : D} {k : Bool} (h : Vw G F H v d) (f : Same F H) (e : tru d = some k) : TruV G.K v H k := by
  rcases h with h | ⟨p, u, w, rfl, hp, ow, rfl⟩
  · cases h with
    | non => exact (Option.some.inj (show some _ = some k from e)).symm
    | bl => exact (Option.some.inj (show some _ = some k from e)).symm
    | int => exact (Option.some.inj (show some _ = some k from e)).symm
    | str s _ =>
      simp only [DL.tru] at e
      split at e
      · cases e
        refine ⟨by rw [tx_len, sizeLine_eq]; assumption, ?_⟩
        rw [tx_len]
        cases s with
        | nil => rfl
        | cons x r =>
          simp only [List.isEmpty_cons, Bool.not_false]
          have : (((x :: r).length : Nat) : Int) ≠ 0 := by simp only [List.length_cons]; omega
          exact (bne_iff_ne.mpr this).symm
      · cases e
    | lst e' r => have e := Option.some.inj (show some _ = some k from e); subst e; exact .inl ⟨_, .inl (.inl (f _ _ e')), by rw [isEmpty_all r]⟩
    | tup e' r => have e := Option.some.inj (show some _ = some k from e); subst e; exact .inr (.inl ⟨_, same_seqT f e', by rw [isEmpty_all r]⟩)
    | scr e' => have e := Option.some.inj (show some _ = some k from e); subst e; exact .inl ⟨_, f.seq e', by cases ‹List Int› <;> rfl⟩
    | _ => cases e
  · cases ow with
    | l r => have e := Option.some.inj (show some _ = some k from e); subst e; exact .inl ⟨_, .inl (.inl hp), by rw [isEmpty_all r]⟩
    | _ => cases e
def tT (f : Ev Opd) : Ev Bool := fun S st => (f S st).bind fun o S st => match vw S o with
  | some d => got (tru d) S st
  | none => .stuck
theorem dt_t {f : Ev Opd} (h : DO X B W a f) (he : ∀ whole, isTrue a X.env whole = (do let v ← whole; standAt a.pos; holding [v] (truthy v)) := by exact fun _ => rfl) : DT X B W a (tT f) :=
  pt_imp (pt_truth h he) fun σ H Q ⟨F, S, st, o, q⟩ => ⟨F, S, st, o, (Post.bind (R := RO (Cx.g X) σ) q).mono fun v H1 ⟨F1, d, S1, st1, g1, o1, r1, p1⟩ => by
    split at p1
    · rename_i x hx
      obtain ⟨k, hk, p1⟩ := got_ok p1
      exact ⟨k, (o1.vw r1 hx).tru o1.fH hk, p1 k H1 F1 .refl o1 rfl⟩
    · exact p1.elim⟩
def tN (f : Ev Bool) : Ev Bool := fun S st => (f S st).bind fun b S st => .ok (!b) S st
theorem dt_n {f : Ev Bool} (h : DT X B W a f) : DT X B W (.UnaryOp .Not a pos) (tN f) :=
  pt_imp (pt_not h) fun σ H Q ⟨F, S, st, o, q⟩ => ⟨F, S, st, o, (Post.bind (R := RB σ) q).mono fun v H1 ⟨F1, d, S1, st1, g1, o1, r1, p1⟩ => by
    cases r1
    exact p1 _ H1 F1 .refl o1 rfl⟩
def tA (f g : Ev Bool) : Ev Bool := fun S st => (f S st).bind fun b S st => if b = true then g S st else .ok false S st
def tO (f g : Ev Bool) : Ev Bool := fun S st => (f S st).bind fun b S st => if b = true then .ok true S st else g S st
theorem dw_1a {f : Ev Bool} (h : DT X B W a f) : DW X B W (.BoolOp .And [a] pos) f := pw_and1 h
theorem dw_1o {f : Ev Bool} (h : DT X B W a f) : DW X B W (.BoolOp .Or [a] pos) f := pw_or1 h
theorem dw_a {rest : List Expr} {f g : Ev Bool} (h : DT X B W a f) (t : DW X B W (.BoolOp .And (b :: rest) pos) g) : DW X B W (.BoolOp .And (a :: b :: rest) pos) (tA f g) :=
  pw_imp (pw_and h t) fun σ H Q ⟨F, S, st, o, q⟩ => ⟨F, S, st, o, (Post.bind (R := RB σ) q).mono fun v H1 ⟨F1, d, S1, st1, g1, o1, r1, p1⟩ => by
    cases r1
    cases v with
    | true => exact ⟨F1, S1, st1, o1, p1⟩
    | false => exact p1 _ H1 F1 .refl o1 rfl⟩
theorem dw_o {rest : List Expr} {f g : Ev Bool} (h : DT X B W a f) (t : DW X B W (.BoolOp .Or (b :: rest) pos) g) : DW X B W (.BoolOp .Or (a :: b :: rest) pos) (tO f g) :=
  pw_imp (pw_or h t) fun σ H Q ⟨F, S, st, o, q⟩ => ⟨F, S, st, o, (Post.bind (R := RB σ) q).mono fun v H1 ⟨F1, d, S1, st1, g1, o1, r1, p1⟩ => by
    cases r1
    cases v with
    | false => exact ⟨F1, S1, st1, o1, p1⟩
    | true => exact p1 _ H1 F1 .refl o1 rfl⟩
theorem dt_w {f : Ev Bool} (h : DW X B W a f) : DT X B W a f := PW.pt h
/-- as values: bools -/
def eA (f g : Ev D) : Ev D := fun S st => (f S st).bind fun d S st => match d with
  | .bl b => if b = true then g S st else .ok (.bl false) S st
  | _ => .stuck
def eO (f g : Ev D) : Ev D := fun S st => (f S st).bind fun d S st => match d with
  | .bl b => if b = true then .ok (.bl true) S st else g S st
  | _ => .stuck
def eN (f : Ev D) : Ev D := fun S st => (f S st).bind fun d S st => match d with
  | .bl b => .ok (.bl (!b)) S st
  | _ => .stuck
theorem de_1 {op} {f : Ev D} (h : DE X B W a f) : DE X B W (.BoolOp op [a] pos) f := pe_one h
theorem de_a {rest : List Expr} {f g : Ev D} (h : DE X B W a f) (t : DE X B W (.BoolOp .And (b :: rest) pos) g) : DE X B W (.BoolOp .And (a :: b :: rest) pos) (eA f g) :=
  pe_imp (pe_and h t) fun σ H Q ⟨F, S, st, o, q⟩ => ⟨F, S, st, o, (Post.bind (R := RD (Cx.g X) σ) q).mono fun v H1 ⟨F1, d, S1, st1, g1, o1, r1, p1⟩ => by
    split at p1
    · rename_i k
      cases r1
      refine ⟨_, rfl, ?_⟩
      cases k with
      | true => exact ⟨F1, S1, st1, o1, p1⟩
      | false => exact p1 _ H1 F1 .refl o1 (.bl _)
    · exact p1.elim⟩
theorem de_o {rest : List Expr} {f g : Ev D} (h : DE X B W a f) (t : DE X B W (.BoolOp .Or (b :: rest) pos) g) : DE X B W (.BoolOp .Or (a :: b :: rest) pos) (eO f g) :=
  pe_imp (pe_or h t) fun σ H Q ⟨F, S, st, o, q⟩ => ⟨F, S, st, o, (Post.bind (R := RD (Cx.g X) σ) q).mono fun v H1 ⟨F1, d, S1, st1, g1, o1, r1, p1⟩ => by
    split at p1
    · rename_i k
      cases r1
      refine ⟨_, rfl, ?_⟩
      cases k with
      | false => exact ⟨F1, S1, st1, o1, p1⟩
      | true => exact p1 _ H1 F1 .refl o1 (.bl _)
    · exact p1.elim⟩
theorem de_n {f : Ev D} (h : DE X B W a f) : DE X B W (.UnaryOp .Not a pos) (eN f) :=
  pe_imp (pe_not h) fun σ H Q ⟨F, S, st, o, q⟩ => ⟨F, S, st, o, (Post.bind (R := RD (Cx.g X) σ) q).mono fun v H1 ⟨F1, d, S1, st1, g1, o1, r1, p1⟩ => by
    split at p1
    · cases r1
      exact ⟨_, rfl, p1 _ H1 F1 .refl o1 (.bl _)⟩
    · exact p1.elim⟩
def eI (t : Ev Bool) (f g : Ev D) : Ev D := fun S st => (t S st).bind fun b S st => if b = true then f S st else g S st
theorem de_i {t : Ev Bool} {f g : Ev D} (ht : DT X B W c t) (hf : DE X B W a f) (hg : DE X B W b g) : DE X B W (.IfExp c a b pos) (eI t f g) :=
  pe_imp (pe_ifExp ht hf hg) fun σ H Q ⟨F, S, st, o, q⟩ => ⟨F, S, st, o, (Post.bind (R := RB σ) q).mono fun v H1 ⟨F1, d, S1, st1, g1, o1, r1, p1⟩ => by
    cases r1
    cases v with
    | true => exact ⟨F1, S1, st1, o1, p1⟩
    | false => exact ⟨F1, S1, st1, o1, p1⟩⟩

/-! ### objects that are new -/
def PostF (G : Gx) (B : Hp) (W : WX) (σ : L2.St) (F : Hp) (Q : VK) : Res Ow → Prop
  | .ok w S' _ => ∀ p u H' F', Gr B F F' → Ok G B F' σ H' S' → H' p = some u → F' p = none → B p = none → OwRel G F' u w → (∀ (j : Nat) (es : Ow), S'[j]? = some (.own es) → σ[j]? ≠ some (some (.ref p))) → Q (.ref p) H'
  | .exc x S' _ => ∀ cls dd H' F', Gr B F F' → Ok G B F' σ H' S' → XRel G F' x cls dd H' → W cls dd σ H'
  | .stuck => False
def liftF (G : Gx) (B : Hp) (W : WX) (f : Ev Ow) : TE := fun σ H Q => ∃ F S st, Ok G B F σ H S ∧ PostF G B W σ F Q (f S st)
def DF (X : Cx) (B : Hp) (W : WX) (e : Expr) (f : Ev Ow) : Prop := PE X e (liftF (Cx.g X) B W f)
theorem PostF.grow {G : Gx} {σ : L2.St} {F F' : Hp} {Q : VK} {r : Res Ow} (g : Gr B F F') (h : PostF G B W σ F Q r) : PostF G B W σ F' Q r := by
  cases r with
  | ok d S st => exact fun p u H' F2 g2 => h p u H' F2 (g.trans g2)
  | exc x S st => exact fun c d H' F2 g2 o r => h c d H' F2 (g.trans g2) o r
  | stuck => exact h
theorem PostF.bind {G : Gx} {α β : Type} {R : Hp → β → α → Prop} {σ : L2.St} {F : Hp} {Q : VK} {r : Res α} {k : α → Sls → Store → Res Ow} (h : PostF G B W σ F Q (r.bind k)) :
    Post G B W R σ F (fun v H1 => ∃ F1 d S1 st1, Gr B F F1 ∧ Ok G B F1 σ H1 S1 ∧ R F1 v d ∧ PostF G B W σ F1 Q (k d S1 st1)) r := by
  cases r with
  | ok d S st => exact fun v H' F' g o r => ⟨F', d, S, st, g, o, r, PostF.grow g h⟩
  | exc x S st => exact h
  | stuck => exact h
/-- .. laid just now -/
theorem PostF.new {G : Gx} {σ : L2.St} {F H : Hp} {Q : VK} {S : Sls} {st : Store} {w : Ow} (o : Ok G B F σ H S) (h : PostF G B W σ F Q (.ok w S st)) {p : Addr} {u : HO} (hp : H p = none) (r : OwRel G F u w) : Q (.ref p) (upd H p u) := by
  refine h p u _ F .refl (o.junk (same_new hp)) upd_same (o.fH.free hp) (o.kp.free hp) r fun j es e1 e2 => ?_
  obtain ⟨p', xs', e3, h1, _⟩ := o.sl j _ e1
  rw [e2] at e3; cases e3
  rw [hp] at h1; cases h1
theorem Ok.frzAt {G : Gx} {F H : Hp} {σ : L2.St} {S : Sls} (o : Ok G B F σ H S) {p : Addr} {u : HO} (h : H p = some u) (hF : F p = none) (hB : B p = none) (no : ∀ (j : Nat) (es : Ow), S[j]? = some (.own es) → σ[j]? ≠ some (some (.ref p))) :
    Gr B F (upd F p u) ∧ Ok G B (upd F p u) σ H S := by
  have sm : Same F (upd F p u) := same_new hF
  refine ⟨⟨sm, fun a q1 q2 => ?_⟩, fun b u q => ?_, o.kp, o.len, fun j s q => ?_, o.ap⟩
  · by_cases z : a = p
    · subst z; exact hB
    · rw [upd_ne z] at q2; exact absurd q1 q2
  · by_cases z : b = p
    · subst z; rw [upd_same] at q; cases q; exact h
    · rw [upd_ne z] at q; exact o.fH _ _ q
  · have w := o.sl j s q
    cases s with
    | no => trivial
    | d x =>
      obtain ⟨v, a1, a2⟩ := w
      exact ⟨v, a1, a2.mono sm⟩
    | own es' =>
      obtain ⟨p2, xs2, a1, a2, a3, a4, a5⟩ := w
      have : p2 ≠ p := fun z => no j _ q (by rw [a1, z])
      exact ⟨p2, xs2, a1, a2, by rw [upd_ne this]; exact a3, a4, a5.mono sm⟩
/-- .. kept as it is -/
def fE (f : Ev Ow) : Ev D := fun S st => (f S st).bind fun w S st => .ok w.d S st
theorem postF_fE {G : Gx} {B : Hp} {W : WX} {σ : L2.St} {F : Hp} {Q : VK} {r : Res Ow} (q : Post G B W (RD G σ) σ F Q (r.bind fun w S st => .ok w.d S st)) : PostF G B W σ F Q r := by
  cases r with
  | ok w S1 st1 =>
    intro p u H' F' g o1 hu hF hB r no
    obtain ⟨g', o'⟩ := o1.frzAt hu hF hB no
    exact q _ H' _ (g.trans g') o' ((r.mono g'.1).rp upd_same)
  | exc x S1 st1 => exact q
  | stuck => exact q
theorem de_f {f : Ev Ow} (h : DF X B W e f) : DE X B W e (fE f) :=
  pe_imp h fun σ H Q ⟨F, S, st, o, q⟩ => ⟨F, S, st, o, postF_fE q⟩
/-- r lays a new object that holds w -/
def Lays (r : VK → Prop) (G : Gx) (F H : Hp) (w : Ow) : Prop := ∀ Q : VK, (∀ p u, H p = none → OwRel G F u w → Q (.ref p) (upd H p u)) → r Q
def Op2F (G : Gx) (r : R2) (op : D → D → Option Ow) : Prop := ∀ F H v w x y d, Same F H → Vw G F H v x → Vw G F H w y → op x y = some d → Lays (r v w H) G F H d
def OpAF (G : Gx) (r : List V → Hp → VK → Prop) (op : List D → Option Ow) : Prop := ∀ F H vs xs d, Same F H → VwAll G F H vs xs → op xs = some d → Lays (r vs H) G F H d
def OpMF (G : Gx) (r : V → List V → Hp → VK → Prop) (op : D → List D → Option Ow) : Prop := ∀ F H v vs x xs d, Same F H → Vw G F H v x → VwAll G F H vs xs → op x xs = some d → Lays (r v vs H) G F H d
theorem Lays.gives {r : VK → Prop} {G : Gx} {F H : Hp} {w : Ow} (f : Same F H) (h : Lays r G F H w) : Gives r G F H w.d := fun Q k => h Q fun p u hp r =>
  k _ _ (upd F p u) (same_new hp) (same_upd2 f) (gr_new f hp) ((r.mono (gr_new f hp).1).rp upd_same)
theorem postF_got {G : Gx} {F : Hp} {σ : L2.St} {Q : VK} {x : Option Ow} {S : Sls} {st : Store} (p : PostF G B W σ F Q (got x S st)) : ∃ d, x = some d ∧ PostF G B W σ F Q (.ok d S st) := by
  cases x with
  | none => exact p.elim
  | some d => exact ⟨d, rfl, p⟩
theorem Lays.fin {r : VK → Prop} {G : Gx} {F H : Hp} {σ : L2.St} {S : Sls} {st : Store} {w : Ow} {Q : VK} (g : Lays r G F H w) (o : Ok G B F σ H S) (p : PostF G B W σ F Q (.ok w S st)) : r Q :=
  g Q fun q u hq r => p.new o hq r
def o2F (op : D → D → Option Ow) (fa fb : Ev Opd) : Ev Ow := fun S st => (fa S st).bind fun a S st => (fb S st).bind fun b S st =>
  match vw S a, vw S b with
  | some x, some y => got (op x y) S st
  | _, _ => .stuck
def oAF (op : List D → Option Ow) (fa : Ev (List Opd)) : Ev Ow := fun S st => (fa S st).bind fun a S st =>
  match vws S a with
  | some x => got (op x) S st
  | _ => .stuck
theorem df_bin {o : Operator} {r : R2} {op : D → D → Option Ow} {fa fb : Ev Opd} (ho : OpR X (binaryOp o) r) (h : Op2F (Cx.g X) r op) (ha : DO X B W a fa) (hb : DO X B W b fb) : DF X B W (.BinOp a o b pos) (o2F op fa fb) :=
  pe_imp (pe_op ho ha hb) fun σ H Q ⟨F, S, st, o, q⟩ => ⟨F, S, st, o, (PostF.bind (R := RO (Cx.g X) σ) q).mono fun v H1 ⟨F1, d, S1, st1, g1, o1, r1, p1⟩ =>
    ⟨F1, S1, st1, o1, (PostF.bind (R := RO (Cx.g X) σ) p1).mono fun w H2 ⟨F2, d2, S2, st2, g2, o2, r2, p2⟩ => by
      split at p2
      · rename_i x y hx hy
        obtain ⟨z, hz, p2⟩ := postF_got p2
        exact (h F2 H2 v w x y z o2.fH (o2.vw (r1.mono g2.1) hx) (o2.vw r2 hy) hz).fin o2 p2
      · exact p2.elim⟩⟩
theorem df_ct {x : Str} {p : Pos} {T : String} {r : List V → Hp → VK → Prop} {op : List D → Option Ow} {fa : Ev (List Opd)} (hc : CallR X (.type T) r) (h : OpAF (Cx.g X) r op) (hm : X.mg x = none) (ha : DA X B W (e :: es) fa)
    (hg : Gl X x := by rfl) (hv : bootBuiltins x = some (.type T) := by decide +kernel) (hn : x ≠ "__name__" := by decide) (hdb : (x == ("__debug__" : Str)) = false := by decide)
    (he : starEach (e :: es) X.env = (false, eval e X.env) :: starEach es X.env := by rfl) (hpl : (backTo pos (starEach es X.env)).any (·.1) = false := by rfl) : DF X B W (.Call (.Name x p) (e :: es) [] pos) (oAF op fa) :=
  pe_imp (pe_callTy hc hg hm hv ha hn hdb he hpl) fun σ H Q ⟨F, S, st, o, q⟩ => ⟨F, S, st, o, (PostF.bind (R := RpO (Cx.g X) σ) q).mono fun v H1 ⟨F1, d, S1, st1, g1, o1, r1, p1⟩ => by
    split at p1
    · rename_i x hx
      obtain ⟨z, hz, p1⟩ := postF_got p1
      exact (h F1 H1 v x z o1.fH (o1.vws r1 hx) hz).fin o1 p1
    · exact p1.elim⟩
theorem df_cb {x : Str} {p : Pos} {T : String} {r : List V → Hp → VK → Prop} {op : List D → Option Ow} {fa : Ev (List Opd)} (hc : CallR X (.builtin T) r) (h : OpAF (Cx.g X) r op) (hm : X.mg x = none) (ha : DA X B W (e :: es) fa)
    (hg : Gl X x := by rfl) (hv : bootBuiltins x = some (.builtin T) := by decide +kernel) (hn : x ≠ "__name__" := by decide) (hdb : (x == ("__debug__" : Str)) = false := by decide)
    (he : starEach (e :: es) X.env = (false, eval e X.env) :: starEach es X.env := by rfl) (hpl : (backTo pos (starEach es X.env)).any (·.1) = false := by rfl) : DF X B W (.Call (.Name x p) (e :: es) [] pos) (oAF op fa) :=
  pe_imp (pe_callB hc hg hm hv ha hn hdb he hpl) fun σ H Q ⟨F, S, st, o, q⟩ => ⟨F, S, st, o, (PostF.bind (R := RpO (Cx.g X) σ) q).mono fun v H1 ⟨F1, d, S1, st1, g1, o1, r1, p1⟩ => by
    split at p1
    · rename_i x hx
      obtain ⟨z, hz, p1⟩ := postF_got p1
      exact (h F1 H1 v x z o1.fH (o1.vws r1 hx) hz).fin o1 p1
    · exact p1.elim⟩
/-- [a, b, ..] -/
def lF (fa : Ev (List Opd)) : Ev Ow := fun S st => (fa S st).bind fun a S st => match vds S a with
  | some ds => if ds.length ≤ 16777216 then .ok (.l ds) S st else .stuck
  | none => .stuck
theorem df_l {fa : Ev (List Opd)} (ha : DA X B W es fa) : DF X B W (.List es pos) (lF fa) :=
  pe_imp (pe_lst ha) fun σ H Q ⟨F, S, st, o, q⟩ => ⟨F, S, st, o, (PostF.bind (R := RpO (Cx.g X) σ) q).mono fun v H1 ⟨F1, d, S1, st1, g1, o1, r1, p1⟩ => by
    split at p1
    · rename_i x hx
      split at p1
      · have rr := o1.vds r1 hx
        exact ⟨by rw [rr.length, sizeLine_eq]; assumption, fun p hp => p1.new o1 hp (.l rr)⟩
      · exact p1.elim
    · exact p1.elim⟩
/-- (a, b, ..) -/
def pE (fa : Ev (List Opd)) : Ev D := fun S st => (fa S st).bind fun a S st => match vds S a with
  | some ds => if ds.length ≤ 16777216 then .ok (.tup ds) S st else .stuck
  | none => .stuck
theorem de_p {fa : Ev (List Opd)} {x1} (ha : DA X B W es fa) : DE X B W (.Tuple es x1 pos) (pE fa) :=
  pe_imp (pe_tup ha) fun σ H Q ⟨F, S, st, o, q⟩ => ⟨F, S, st, o, (Post.bind (R := RpO (Cx.g X) σ) q).mono fun v H1 ⟨F1, d, S1, st1, g1, o1, r1, p1⟩ => by
    split at p1
    · rename_i x hx
      split at p1
      · have rr := o1.vds r1 hx
        exact ⟨by rw [rr.length, sizeLine_eq]; assumption, fun p hp => p1 _ _ (upd F1 p (.tup v)) (o1.grN hp) (o1.gnew hp) (.tup (.inl (.inl upd_same)) (rr.mono (o1.grN (u := .tup v) hp).1))⟩
      · exact p1.elim
    · exact p1.elim⟩

/-! ### slices -/
def RP : L2.St → Hp → Option Int → Option Int → Prop := fun _ _ v d => v = d
def DP (X : Cx) (B : Hp) (W : WX) (e : Option Expr) (f : Ev (Option Int)) : Prop := PO X e (lift (Cx.g X) B W RP f)
theorem po_imp {X : Cx} {e : Option Expr} {t t' : TO} (h : PO X e t) (i : ∀ σ H Q, t' σ H Q → t σ H Q) : PO X e t' := ⟨fun pins s σ H Q I q => h.run pins s σ H Q I (i σ H Q q)⟩
def sN : Ev (Option Int) := fun S st => .ok none S st
def sS (f : Ev D) : Ev (Option Int) := fun S st => (f S st).bind fun d S st => match d with
  | .int i => .ok (some i) S st
  | _ => .stuck
theorem dp_n : DP X B W none sN := po_imp po_none fun σ H Q ⟨F, S, st, o, q⟩ => q _ H F .refl o rfl
theorem dp_s {f : Ev D} (h : DE X B W e f) : DP X B W (some e) (sS f) := po_imp (po_some h) fun σ H Q ⟨F, S, st, o, q⟩ => ⟨F, S, st, o, (Post.bind (R := RD (Cx.g X) σ) q).mono fun v H1 ⟨F1, d, S1, st1, g1, o1, r1, p1⟩ => by
  split at p1
  · cases r1
    exact ⟨_, rfl, p1 _ H1 F1 .refl o1 rfl⟩
  · exact p1.elim⟩
def OpS (G : Gx) (r : V → Option Int → Option Int → Hp → VK → Prop) (op : D → Option Int → Option Int → Option D) : Prop := ∀ F H v x l u d, Same F H → Vw G F H v x → op x l u = some d → Gives (r v l u H) G F H d
def slE (op : D → Option Int → Option Int → Option D) (fa : Ev Opd) (fl fu : Ev (Option Int)) : Ev D := fun S st => (fa S st).bind fun a S st => (fl S st).bind fun l S st => (fu S st).bind fun u S st =>
  match vw S a with
  | some x => got (op x l u) S st
  | _ => .stuck
theorem de_sl {r : V → Option Int → Option Int → Hp → VK → Prop} {op : D → Option Int → Option Int → Option D} {lo hi : Option Expr} {p2 : Pos} {fa : Ev Opd} {fl fu : Ev (Option Int)} (hr : SlR X r) (h : OpS (Cx.g X) r op) (ha : DO X B W a fa) (hl : DP X B W lo fl) (hu : DP X B W hi fu) :
    DE X B W (.Subscript a (.Slice lo hi none p2) pos) (slE op fa fl fu) :=
  pe_imp (pe_slice hr ha hl hu) fun σ H Q ⟨F, S, st, o, q⟩ => ⟨F, S, st, o, (Post.bind (R := RO (Cx.g X) σ) q).mono fun v H1 ⟨F1, d, S1, st1, g1, o1, r1, p1⟩ =>
    ⟨F1, S1, st1, o1, (Post.bind (R := RP σ) p1).mono fun l H2 ⟨F2, l', S2, st2, g2, o2, e2, p2⟩ => ⟨F2, S2, st2, o2, (Post.bind (R := RP σ) p2).mono fun u H3 ⟨F3, u', S3, st3, g3, o3, e3, p3⟩ => by
      cases e2; cases e3
      split at p3
      · rename_i x hx
        obtain ⟨z, hz, p3⟩ := got_ok p3
        exact (h F3 H3 v x _ _ z o3.fH (o3.vw (r1.mono (g2.1.trans g3.1)) hx) hz).fin o3 p3
      · exact p3.elim⟩⟩⟩
end

/-! ### calls of defs -/
def spOf (G : Gx) (n : Nat) (c : CallT) : Sp := fun vs H Q E => vs.length = n ∧ ∃ F ds st, Same F H ∧ RpAll G F vs ds ∧ match c ds st with
  | .ok d _ _ => ∀ v H' F', Same H H' → Same F' H' → Gr H F F' → Rp G F' v d → Q v H'
  | .exc x _ _ => ∀ cls dd H' F', Same H H' → Same F' H' → Gr H F F' → XRel G F' x cls dd H' → E cls dd H'
  | .stuck => False
structure Def (P : Program) (w : World) (K : PySem.W.Frag) (mg : Str → Option Value) (base : Heap) (k : Nat) (x : Str) (n : Nat) (c : CallT) : Prop where
  ex : ∃ f fd ps, FnOk P w K mg base (L2.CX P w) k f fd ps (spOf ⟨K, mg⟩ n c) ∧ Binds K fd ps [] ∧ mg x = some (.ref f) ∧ PySem.W.keepIn K (.ref f) = true
theorem Def.mono {P : Program} {w : World} {K : PySem.W.Frag} {mg : Str → Option Value} {base : Heap} {k j : Nat} {x : Str} {n : Nat} {c : CallT} (d : Def P w K mg base k x n c) (h : k ≤ j) : Def P w K mg base j x n c := by
  obtain ⟨f, fd, ps, a, b, c, e⟩ := d.ex
  exact ⟨f, fd, ps, a.mono h, b, c, e⟩
def cE (c : CallT) (fa : Ev (List Opd)) : Ev D := fun S st => (fa S st).bind fun a S st => match vds S a with
  | some ds => match c ds st with
    | .ok d _ st => .ok d S st
    | .exc x _ st => .exc x S st
    | .stuck => .stuck
  | none => .stuck
section
variable {X : Cx} {B : Hp} {W : WX} {e : Expr} {es : List Expr} {pos p : Pos} {k : Nat} {x : Str} {n : Nat} {c : CallT}
theorem call_lift {fa : Ev (List Opd)} {σ : L2.St} {H : Hp} {Q : VK} (hn : ∀ S st r S' st', fa S st = .ok r S' st' → r.length = n) (q : lift (Cx.g X) B W (RD (Cx.g X)) (cE c fa) σ H Q) :
    tCallS (spOf (Cx.g X) n c) (WE W) (lift (Cx.g X) B W (RpO (Cx.g X)) fa) σ H Q := by
  obtain ⟨F, S, st, o, q⟩ := q
  have key : ∀ (r : Res (List Opd)) (hl : ∀ r' S' st', r = .ok r' S' st' → r'.length = n), Post (Cx.g X) B W (RD (Cx.g X) σ) σ F Q (r.bind fun a S st => match vds S a with
      | some ds => match c ds st with
        | .ok d _ st => .ok d S st
        | .exc x _ st => .exc x S st
        | .stuck => .stuck
      | none => .stuck) → Post (Cx.g X) B W (RpO (Cx.g X) σ) σ F (fun vs H1 => spOf (Cx.g X) n c vs H1 Q (WE W σ)) r := by
    intro r hl q
    cases r with
    | exc y S1 st1 => exact q
    | stuck => exact q
    | ok a S1 st1 =>
      intro vs H1 F1 g1 o1 r1
      have q : Post (Cx.g X) B W (RD (Cx.g X) σ) σ F Q (match vds S1 a with
        | some ds => match c ds st1 with
          | .ok d _ st => .ok d S1 st
          | .exc x _ st => .exc x S1 st
          | .stuck => .stuck
        | none => .stuck) := q
      split at q
      · rename_i ds hds
        have ra := o1.vds r1 hds
        refine ⟨?_, F1, ds, st1, o1.fH, ra, ?_⟩
        · have l1 := hl _ _ _ rfl
          have : ∀ {vs : List V} {as : List Opd}, RpO (Cx.g X) σ F1 vs as → vs.length = as.length := by
            intro vs as h
            induction h with
            | nil => rfl
            | cons _ _ ih => simp [ih]
          rw [this r1, l1]
        · split at q
          · exact fun v H' F' k f gr rr => q v H' F' (g1.trans (o1.gr gr)) (o1.grow gr k f) rr
          · exact fun cls dd H' F' k f gr rr => q cls dd H' F' (g1.trans (o1.gr gr)) (o1.grow gr k f) rr
          · exact q.elim
      · exact q.elim
  exact ⟨F, S, st, o, key _ (fun r' S' st' e => hn _ _ _ _ _ e) q⟩
/-- an argument list of n -/
def aLen (f : Ev (List Opd)) (n : Nat) : Prop := ∀ S st r S' st', f S st = .ok r S' st' → r.length = n
theorem aLen_n : aLen aN 0 := fun S st r S' st' h => by
  have : Res.ok [] S st = Res.ok r S' st' := h
  injection this with h1 _ _
  subst h1; rfl
theorem aLen_c {f : Ev Opd} {g : Ev (List Opd)} {n : Nat} (h : aLen g n) : aLen (aC f g) (n + 1) := fun S st r S' st' q => by
  unfold aC at q
  cases h1 : f S st with
  | ok a S1 st1 =>
    rw [h1, Res.bind_ok] at q
    cases h2 : g S1 st1 with
    | ok b S2 st2 =>
      rw [h2, Res.bind_ok] at q
      injection q with q1 _ _
      subst q1
      simp [h _ _ _ _ _ h2]
    | exc y S2 st2 => rw [h2] at q; cases q
    | stuck => rw [h2] at q; cases q
  | exc y S1 st1 => rw [h1] at q; cases q
  | stuck => rw [h1] at q; cases q
theorem de_c {fa : Ev (List Opd)} (d : Def X.prog X.w X.K X.mg X.base k x n c) (hr : Room k X.A) (tk : Takes X W) (ha : DA X B W (e :: es) fa) (hl : aLen fa n := by repeat (first | exact aLen_n | refine aLen_c ?_)) (hg : Gl X x := by rfl) (hdb : (x == ("__debug__" : Str)) = false := by decide)
    (he : starEach (e :: es) X.env = (false, eval e X.env) :: starEach es X.env := by rfl) (hpl : (backTo pos (starEach es X.env)).any (·.1) = false := by rfl) : DE X B W (.Call (.Name x p) (e :: es) [] pos) (cE c fa) := by
  obtain ⟨f, fd, ps, F, hb, hm, hk⟩ := d.ex
  exact pe_imp (pe_callS F hr hg hm hk hb (fun σ => passAt tk σ) ha hdb he hpl) fun σ H Q q => call_lift hl q
end
end DL

namespace DL
open PySem PySem.Spec PyProof.Rows L2
section
variable {X : Cx} {B : Hp} {W : WX} {e a b c : Expr} {es : List Expr} {s : Stmt} {ss : List Stmt} {pos : Pos}

/-! ### statements -/
def sNil : EvS := fun S st => .nx S st
def sSeq (f g : EvS) : EvS := fun S st => (f S st).then g
theorem PostS.then {G : Gx} {F : Hp} {D : Ends} {r : Out} {k : Sls → Store → Out} (h : PostS G B W F D (r.then k)) : PostS G B W F { D with nx := fun σ H => ∃ F1 S1 st1, Gr B F F1 ∧ Ok G B F1 σ H S1 ∧ PostS G B W F1 D (k S1 st1) } r := by
  cases r with
  | nx S st => exact fun σ' H' F' g o => ⟨F', S, st, g, o, PostS.grow g h⟩
  | _ => exact h
theorem dss_n : DSs X B W [] sNil := pss_imp pss_nil fun D σ H ⟨F, S, st, o, q⟩ => q σ H F .refl o
theorem dss_c {f g : EvS} (h : DS X B W s f) (t : DSs X B W ss g) : DSs X B W (s :: ss) (sSeq f g) :=
  pss_imp (pss_cons h t) fun D σ H ⟨F, S, st, o, q⟩ => by
    refine ⟨F, S, st, o, ?_⟩
    have q2 := PostS.then q
    generalize f S st = r at q2
    cases r with
    | nx S1 st1 =>
      intro σ' H' F' g o1
      obtain ⟨F1, S2, st2, g2, o2, p⟩ := q2 σ' H' F' g o1
      exact ⟨F1, S2, st2, o2, p⟩
    | _ => exact q2
theorem dss_1 {f : EvS} (h : DS X B W s f) : DSs X B W [s] f := pss_one h
def sBk : EvS := fun S st => .bk S st
def sCt : EvS := fun S st => .ct S st
def sStuck : EvS := fun _ _ => .stuck
theorem ds_pass : DS X B W (.Pass pos) sNil := ps_imp ps_pass fun D σ H ⟨F, S, st, o, q⟩ => q σ H F .refl o
theorem ds_bk : DS X B W (.Break pos) sBk := ps_imp ps_break fun D σ H ⟨F, S, st, o, q⟩ => q σ H F .refl o
theorem ds_ct : DS X B W (.Continue pos) sCt := ps_imp ps_continue fun D σ H ⟨F, S, st, o, q⟩ => q σ H F .refl o
/-- a statement that is never come to -/
theorem ds_never : DS X B W s sStuck := ps_imp ps_never fun D σ H ⟨F, S, st, o, q⟩ => q
def sE (f : Ev D) : EvS := fun S st => (f S st).out fun _ S st => .nx S st
theorem ds_e {f : Ev D} (h : DE X B W e f) (hs : swapsWith e none pos.line X.env = pure false := by rfl) : DS X B W (.Expr e pos) (sE f) :=
  ps_imp (ps_expr h hs) fun D σ H ⟨F, S, st, o, q⟩ => ⟨F, S, st, o, (Post.out (R := RD (Cx.g X) σ) q).mono fun v H1 ⟨F1, d, S1, st1, g1, o1, r1, p1⟩ => p1 σ H1 F1 .refl o1⟩
def sR (f : Ev D) : EvS := fun S st => (f S st).out fun d S st => .ret d S st
theorem ds_r {f : Ev D} (h : DE X B W e f) : DS X B W (.Return (some e) pos) (sR f) :=
  ps_imp (ps_ret h) fun D σ H ⟨F, S, st, o, q⟩ => ⟨F, S, st, o, (Post.out (R := RD (Cx.g X) σ) q).mono fun v H1 ⟨F1, d, S1, st1, g1, o1, r1, p1⟩ => p1 v σ H1 F1 .refl o1 r1⟩
def sRN : EvS := fun S st => .ret .non S st
theorem ds_rn : DS X B W (.Return none pos) sRN := ps_imp ps_retN fun D σ H ⟨F, S, st, o, q⟩ => q .non σ H F .refl o .non
def sI (t : Ev Bool) (f g : EvS) : EvS := fun S st => (t S st).out fun b S st => if b = true then f S st else g S st
theorem ds_i {t : Ev Bool} {f g : EvS} {tb fb : List Stmt} (ht : DT X B W c t) (hf : DSs X B W tb f) (hg : DSs X B W fb g) : DS X B W (.If c tb fb pos) (sI t f g) :=
  ps_imp (ps_if ht hf hg) fun D σ H ⟨F, S, st, o, q⟩ => ⟨F, S, st, o, (Post.out (R := RB σ) q).mono fun v H1 ⟨F1, d, S1, st1, g1, o1, r1, p1⟩ => by
    cases r1
    cases v with
    | true => exact ⟨F1, S1, st1, o1, p1⟩
    | false => exact ⟨F1, S1, st1, o1, p1⟩⟩

/-! ### stores -/
def setD (i : Nat) (d : D) (S : Sls) : Sls := S.set i (.d d)
def sV (i : Nat) (f : Ev D) : EvS := fun S st => (f S st).out fun d S st => .nx (S.set i (.d d)) st
theorem ds_v {i : Nat} {x : Str} {px : Pos} {f : Ev D} (nd : X.N.Nodup) (h : DE X B W e f) (hi : X.N[i]? = some x := by rfl) (hx : Loc X.env.scope x := by first | exact .inl rfl | exact .inr rfl) (hs : swapsWith e (some (.Name x px)) pos.line X.env = pure false := by rfl)
    (hf : X.fn x = true ∨ X.env.scope.names.lookup x = some .local := by first | exact .inl rfl | exact .inr rfl) : DS X B W (.Assign [.Name x px] e pos) (sV i f) :=
  ps_imp (ps_set (i := i) nd hi hx h hs hf) fun D σ H ⟨F, S, st, o, q⟩ => ⟨F, S, st, o, (Post.out (R := RD (Cx.g X) σ) q).mono fun v H1 ⟨F1, d, S1, st1, g1, o1, r1, p1⟩ => p1 _ H1 F1 .refl (o1.set i r1)⟩
/-- a new object, the slot's own -/
def sO (i : Nat) (f : Ev Ow) : EvS := fun S st => (f S st).out fun w S st => .nx (S.set i (.own w)) st
theorem postF_own {G : Gx} {σ : L2.St} {F : Hp} {Dn : Ends} {i : Nat} {r : Res Ow} (q : PostS G B W F Dn (r.out fun w S st => .nx (S.set i (.own w)) st)) : PostF G B W σ F (fun v H1 => Dn.nx (σ.set i (some v)) H1) r := by
  cases r with
  | ok w S1 st1 => exact fun p u H' F' g o1 hu hF hB r no => q _ H' F' g (o1.setOwnAt i hu hF hB r no)
  | exc x S1 st1 => exact fun c d H' F' g o r => q c d σ H' F' g o r
  | stuck => exact q
theorem ds_o {i : Nat} {x : Str} {px : Pos} {f : Ev Ow} (nd : X.N.Nodup) (h : DF X B W e f) (hi : X.N[i]? = some x := by rfl) (hx : Loc X.env.scope x := by first | exact .inl rfl | exact .inr rfl) (hs : swapsWith e (some (.Name x px)) pos.line X.env = pure false := by rfl)
    (hf : X.fn x = true ∨ X.env.scope.names.lookup x = some .local := by first | exact .inl rfl | exact .inr rfl) : DS X B W (.Assign [.Name x px] e pos) (sO i f) :=
  ps_imp (ps_set (i := i) nd hi hx h hs hf) fun D σ H ⟨F, S, st, o, q⟩ => ⟨F, S, st, o, postF_own q⟩
/-- targets by data -/
abbrev Tg := D → Sls → Option Sls
def liftG (G : Gx) (B : Hp) (g : Tg) : TG := fun v σ H Q => ∃ F S d S', Ok G B F σ H S ∧ Rp G F v d ∧ g d S = some S' ∧ ∀ σ' H' F', Gr B F F' → Ok G B F' σ' H' S' → Q σ' H'
def liftGs (G : Gx) (B : Hp) (g : List D → Sls → Option Sls) : TGs := fun vs σ H Q => ∃ F S ds S', Ok G B F σ H S ∧ RpAll G F vs ds ∧ g ds S = some S' ∧ ∀ σ' H' F', Gr B F F' → Ok G B F' σ' H' S' → Q σ' H'
def DG (X : Cx) (B : Hp) (e : Expr) (g : Tg) : Prop := PG X e (liftG (Cx.g X) B g)
def DGs (X : Cx) (B : Hp) (es : List Expr) (g : List D → Sls → Option Sls) : Prop := PGs X es (liftGs (Cx.g X) B g)
theorem pg_imp {X : Cx} {e : Expr} {t t' : TG} (h : PG X e t) (i : ∀ v σ H Q, t' v σ H Q → t v σ H Q) : PG X e t' := ⟨fun pins s σ H v u Q I r q => h.run pins s σ H v u Q I r (i v σ H Q q)⟩
theorem pgs_imp {X : Cx} {es : List Expr} {t t' : TGs} (h : PGs X es t) (i : ∀ v σ H Q, t' v σ H Q → t v σ H Q) : PGs X es t' := ⟨fun pins s σ H v u Q I r q => h.run pins s σ H v u Q I r (i v σ H Q q)⟩
def gV (i : Nat) : Tg := fun d S => some (S.set i (.d d))
theorem dg_v {i : Nat} {x : Str} {px : Pos} (nd : X.N.Nodup) (hi : X.N[i]? = some x := by rfl) (hx : Loc X.env.scope x := by first | exact .inl rfl | exact .inr rfl) (hf : X.fn x = true ∨ X.env.scope.names.lookup x = some .local := by first | exact .inl rfl | exact .inr rfl) : DG X B (.Name x px) (gV i) :=
  pg_imp (pg_name nd hi hx hf) fun v σ H Q ⟨F, S, d, S', o, r, e, q⟩ => by
    cases e
    exact q _ H F .refl (o.set i r)
def gN : List D → Sls → Option Sls := fun ds S => match ds with
  | [] => some S
  | _ => none
def gC (g : Tg) (gs : List D → Sls → Option Sls) : List D → Sls → Option Sls := fun ds S => match ds with
  | d :: r => match g d S with
    | some S' => gs r S'
    | none => none
  | [] => none
theorem dgs_n : DGs X B [] gN := pgs_imp pgs_nil fun vs σ H Q ⟨F, S, ds, S', o, r, e, q⟩ => by
  cases r with
  | nil => cases e; exact ⟨rfl, q σ H F .refl o⟩
  | cons _ _ => cases e
theorem dgs_c {g : Tg} {gs : List D → Sls → Option Sls} (h : DG X B e g) (t : DGs X B es gs) (hs : (assignEach (e :: es) X.env).map (·.2) = assign e X.env :: (assignEach es X.env).map (·.2) := by rfl) : DGs X B (e :: es) (gC g gs) :=
  pgs_imp (pgs_cons h t hs) fun vs σ H Q ⟨F, S, ds, S', o, r, e, q⟩ => by
    cases r with
    | nil => cases e
    | cons r1 r2 =>
      unfold gC at e
      simp only at e
      split at e
      · rename_i S1 hS1
        exact ⟨_, _, rfl, F, S, _, S1, o, r1, hS1, fun σ' H' F' g o' => ⟨F', S1, _, S', o', r2.mono g.1, e, fun σ2 H2 F2 g2 o2 => q σ2 H2 F2 (g.trans g2) o2⟩⟩
      · cases e
def gT (n : Nat) (gs : List D → Sls → Option Sls) : Tg := fun d S => match d with
  | .tup ds => if ds.length = n then gs ds S else none
  | _ => none
theorem dg_t {n : Nat} {k : Nat} {gs : List D → Sls → Option Sls} (hc : X.calm = true) (h : DGs X B es gs) (hn : (assignEach es X.env).length = n := by rfl) (hst : (assignEach es X.env).findIdx? (·.1) = none := by rfl) : DG X B (.Tuple es k pos) (gT n gs) :=
  pg_imp (pg_tup hc h hn hst) fun v σ H Q ⟨F, S, d, S', o, r, e, q⟩ => by
    unfold gT at e
    split at e
    · split at e
      · rename_i hl
        cases r with
        | tup h1 h2 =>
          exact ⟨_, _, rfl, same_seqT o.fH h1, by rw [h2.length]; exact hl, F, S, _, S', o, h2, e, q⟩
      · cases e
    · cases e
def sG (g : Tg) (f : Ev D) : EvS := fun S st => (f S st).out fun d S st => match g d S with
  | some S' => .nx S' st
  | none => .stuck
theorem ds_g {tg : Expr} {g : Tg} {f : Ev D} (h : DE X B W e f) (hg : DG X B tg g) (hs : swapsWithSole [tg] e pos.line X.env = pure false := by rfl) (hw : swappedStores [tg] e X.env = pure none := by rfl)
    (h1 : (assignEach [tg] X.env).map (·.2) = [assign tg X.env] := by rfl) : DS X B W (.Assign [tg] e pos) (sG g f) :=
  ps_imp (ps_asg h hg hs hw h1) fun D σ H ⟨F, S, st, o, q⟩ => ⟨F, S, st, o, (Post.out (R := RD (Cx.g X) σ) q).mono fun v H1 ⟨F1, d, S1, st1, g1, o1, r1, p1⟩ => by
    split at p1
    · rename_i S' hS
      exact ⟨F1, S1, d, S', o1, r1, hS, fun σ' H' F' g o' => p1 σ' H' F' g o'⟩
    · exact p1.elim⟩
/-- x op= e, ints and texts -/
def sAug (i : Nat) (op : D → D → Option D) (f : Ev Opd) : EvS := fun S st => match S[i]? with
  | some (.d x) => (f S st).out fun y S st => match vw S y with
    | some y => match op x y with
      | some z => .nx (S.set i (.d z)) st
      | none => .stuck
    | none => .stuck
  | _ => .stuck
theorem ds_aug {i : Nat} {x : Str} {px : Pos} {o : Operator} {r : R2} {op : D → D → Option D} {f : Ev Opd} (ho : PIp X o r) (hop : Op2 (Cx.g X) r op) (nd : X.N.Nodup) (h : DO X B W e f)
    (hi : X.N[i]? = some x := by rfl) (hx : Loc X.env.scope x := by first | exact .inl rfl | exact .inr rfl) (hf : X.fn x = true ∨ X.env.scope.names.lookup x = some .local := by first | exact .inl rfl | exact .inr rfl) :
    DS X B W (.AugAssign (.Name x px) o e pos) (sAug i op f) :=
  ps_imp (ps_aug nd hi hx h ho hf) fun D σ H ⟨F, S, st, o, q⟩ => by
    unfold sAug at q
    split at q
    · rename_i d hd
      obtain ⟨v, e1, rv⟩ := o.sl i _ hd
      refine ⟨v, e1, F, S, st, o, (Post.out (R := RO (Cx.g X) σ) q).mono fun y H1 ⟨F1, d1, S1, st1, g1, o1, r1, p1⟩ => ?_⟩
      split at p1
      · rename_i y' hy
        split at p1
        · rename_i z hz
          exact hop F1 H1 v y d y' z o1.fH (.inl (rv.mono g1.1)) (o1.vw r1 hy) hz _ fun v' H' F' k f gr rr => p1 _ H' F' (o1.gr gr) ((o1.grow gr k f).set i rr)
        · exact p1.elim
      · exact p1.elim
    · exact q.elim

/-! ### what is walked -/
def Walks (G : Gx) (J : It) (F : Hp) (ds : List D) : Prop := ∀ F' H', Same F F' → Same F' H' → ∀ i, (i < ds.length → J.go i H') ∧ (ds.length ≤ i → J.stop i H') ∧
  ∀ d, ds[i]? = some d → ∀ x H2, J.yld i H' x H2 → ∃ F2, Same H' H2 ∧ Same F2 H2 ∧ Gr H' F' F2 ∧ Rp G F2 x d
def RW (G : Gx) : L2.St → Hp → It → List D → Prop := fun _ F J ds => Walks G J F ds
def DI (X : Cx) (B : Hp) (W : WX) (tg iter : Expr) (f : Ev (List D)) : Prop := PI X tg iter (lift (Cx.g X) B W (RW (Cx.g X)) f)
theorem pi_imp {X : Cx} {tg iter : Expr} {t t' : TI} (h : PI X tg iter t) (i : ∀ σ H R, t' σ H R → t σ H R) : PI X tg iter t' := ⟨fun pins s σ H R I q => h.run pins s σ H R I (i σ H R q)⟩
def forL (g : Tg) (body : EvS) : List D → EvS
  | [], S, st => .nx S st
  | d :: r, S, st => match g d S with
    | some S1 => match body S1 st with
      | .nx S2 st2 => forL g body r S2 st2
      | .ct S2 st2 => forL g body r S2 st2
      | .rto w S2 st2 => .rto w S2 st2
      | .bk S2 st2 => .nx S2 st2
      | .ret v S2 st2 => .ret v S2 st2
      | .exc x S2 st2 => .exc x S2 st2
      | .stuck => .stuck
    | none => .stuck
def sF (f : Ev (List D)) (g : Tg) (body : EvS) : EvS := fun S st => (f S st).out fun ds S st => forL g body ds S st
theorem ds_f {tg iter : Expr} {body : List Stmt} {f : Ev (List D)} {g : Tg} {fb : EvS} (hp : PassesOwn (model X.prog X.w) X.A X.env X.xe) (hc : X.calm = true) (hi : DI X B W tg iter f) (hg : DG X B tg g) (hb : DSs X B W body fb)
    (hs : ∀ x, foldedSetIterable iter X.env x = pure x := by intro _; rfl) : DS X B W (.For tg iter body [] pos) (sF f g fb) :=
  ps_imp (ps_for hp hc hi hg hb hs) fun D σ H ⟨F, S, st, o, q⟩ => ⟨F, S, st, o, (Post.out (R := RW (Cx.g X) σ) q).mono fun J H1 ⟨F1, ds, S1, st1, g1, o1, r1, p1⟩ => by
    refine ⟨fun i m σ H => i ≤ ds.length ∧ m = ds.length - i ∧ ∃ F' S' st', Gr B F1 F' ∧ Ok (Cx.g X) B F' σ H S' ∧ PostS (Cx.g X) B W F' D (forL g fb (ds.drop i) S' st'), ⟨ds.length, Nat.zero_le _, by simp, F1, S1, st1, .refl, o1, by simpa using p1⟩, ?_⟩
    rintro i m σ2 H2 ⟨hi2, rfl, F2, S2, st2, g2, o2, p2⟩
    obtain ⟨wgo, wstop, wyld⟩ := r1 F2 H2 g2.1 o2.fH i
    by_cases hlt : i < ds.length
    · have hd : ds.drop i = ds[i] :: ds.drop (i + 1) := List.drop_eq_getElem_cons hlt
      rw [hd] at p2
      simp only [forL] at p2
      refine .inr ⟨wgo hlt, fun σ' H' => ∃ F' S' st', Gr B F1 F' ∧ Ok (Cx.g X) B F' σ' H' S' ∧ PostS (Cx.g X) B W F' D (forL g fb (ds.drop (i + 1)) S' st'), fun σ' H' ⟨F', S', st', a, b, c⟩ => ⟨ds.length - (i + 1), by omega, hlt, rfl, F', S', st', a, b, c⟩, fun x H' hy => ?_⟩
      obtain ⟨F3, k3, f3, gr3, rx⟩ := wyld _ (List.getElem?_eq_getElem hlt) x H' hy
      split at p2
      · rename_i S3 hS3
        refine ⟨F3, S2, ds[i], S3, o2.grow gr3 k3 f3, rx, hS3, fun σ4 H4 F4 g4 o4 => ⟨F4, S3, st2, o4, ?_⟩⟩
        have gg : Gr B F2 F4 := (o2.gr gr3).trans g4
        revert p2
        generalize fb S3 st2 = r
        intro p2
        cases r with
        | nx S5 st5 => exact fun σ5 H5 F5 g5 o5 => ⟨F5, S5, st5, g2.trans (gg.trans g5), o5, PostS.grow (gg.trans g5) p2⟩
        | ct S5 st5 => exact fun σ5 H5 F5 g5 o5 => ⟨F5, S5, st5, g2.trans (gg.trans g5), o5, PostS.grow (gg.trans g5) p2⟩
        | rto w5 S5 st5 => exact fun p5 u5 σ5 H5 F5 g5 o5 => p2 p5 u5 σ5 H5 F5 (gg.trans g5) o5
        | bk S5 st5 => exact fun σ5 H5 F5 g5 o5 => p2 σ5 H5 F5 (gg.trans g5) o5
        | ret v S5 st5 => exact fun v' σ5 H5 F5 g5 o5 r5 => p2 v' σ5 H5 F5 (gg.trans g5) o5 r5
        | exc y S5 st5 => exact fun c' d' σ5 H5 F5 g5 o5 r5 => p2 c' d' σ5 H5 F5 (gg.trans g5) o5 r5
        | stuck => exact p2
      · exact p2.elim
    · have e : i = ds.length := by omega
      subst e
      rw [List.drop_length] at p2
      exact .inl ⟨wstop (Nat.le_refl _), p2 σ2 H2 F2 .refl o2⟩⟩

/-! ### while -/
/-- n turns at most -/
def whN (c : Ev Bool) (b : EvS) : Nat → EvS
  | 0, _, _ => .stuck
  | n + 1, S, st => (c S st).out fun k S st => if k = true then
      match b S st with
      | .nx S2 st2 => whN c b n S2 st2
      | .ct S2 st2 => whN c b n S2 st2
      | .rto w S2 st2 => .rto w S2 st2
      | .bk S2 st2 => .nx S2 st2
      | .ret v S2 st2 => .ret v S2 st2
      | .exc x S2 st2 => .exc x S2 st2
      | .stuck => .stuck
    else .nx S st
open Classical in
noncomputable def sW (c : Ev Bool) (b : EvS) : EvS := fun S st => if h : ∃ n, whN c b n S st ≠ .stuck then whN c b (Classical.choose h) S st else .stuck
theorem ds_w {body : List Stmt} {t : Ev Bool} {fb : EvS} (hp : PassesOwn (model X.prog X.w) X.A X.env X.xe) (ht : DT X B W c t) (hb : DSs X B W body fb) : DS X B W (.While c body [] pos) (sW t fb) :=
  ps_imp (ps_while hp ht hb) fun D σ H ⟨F, S, st, o, q⟩ => by
    unfold sW at q
    split at q
    · rename_i hex
      revert q
      generalize Classical.choose hex = n
      intro q
      refine ⟨fun m σ H => ∃ F S st, Ok (Cx.g X) B F σ H S ∧ PostS (Cx.g X) B W F D (whN t fb m S st), ⟨n, F, S, st, o, q⟩, ?_⟩
      rintro m σ2 H2 ⟨F2, S2, st2, o2, p2⟩
      cases m with
      | zero => exact p2.elim
      | succ m =>
        refine ⟨F2, S2, st2, o2, (Post.out (R := RB σ2) p2).mono fun k H3 ⟨F3, d, S3, st3, g3, o3, r3, p3⟩ => ?_⟩
        cases r3
        cases k with
        | false => exact p3 σ2 H3 F3 .refl o3
        | true =>
          refine iteT ⟨fun σ' H' => ∃ F S st, Ok (Cx.g X) B F σ' H' S ∧ PostS (Cx.g X) B W F D (whN t fb m S st), fun σ' H' h => ⟨m, Nat.lt_succ_self _, h⟩, F3, S3, st3, o3, ?_⟩
          simp only [if_true] at p3
          revert p3
          generalize fb S3 st3 = r
          intro p2
          cases r with
          | nx S5 st5 => exact fun σ5 H5 F5 g5 o5 => ⟨F5, S5, st5, o5, PostS.grow g5 p2⟩
          | ct S5 st5 => exact fun σ5 H5 F5 g5 o5 => ⟨F5, S5, st5, o5, PostS.grow g5 p2⟩
          | rto w5 S5 st5 => exact p2
          | bk S5 st5 => exact p2
          | ret v S5 st5 => exact p2
          | exc y S5 st5 => exact p2
          | stuck => exact p2
    · exact q.elim
end
/-- more turns don't harm -/
theorem whN_mono {c : Ev Bool} {b : EvS} : ∀ {n : Nat} {S : Sls} {st : Store}, whN c b n S st ≠ .stuck → ∀ m, n ≤ m → whN c b m S st = whN c b n S st
  | 0, _, _, h, _, _ => absurd rfl h
  | n + 1, S, st, h, m, hm => by
    obtain ⟨m, rfl⟩ : ∃ k, m = k + 1 := ⟨m - 1, by omega⟩
    simp only [whN] at h ⊢
    cases hc : c S st with
    | stuck => rfl
    | exc x S1 st1 => rfl
    | ok k S1 st1 =>
      rw [hc] at h
      simp only [Res.out_ok] at h ⊢
      cases k with
      | false => rfl
      | true =>
        simp only [if_true] at h ⊢
        cases hb : b S1 st1 with
        | nx S2 st2 => rw [hb] at h; exact whN_mono h m (by omega)
        | ct S2 st2 => rw [hb] at h; exact whN_mono h m (by omega)
        | _ => rfl
theorem sW_of {c : Ev Bool} {b : EvS} {n : Nat} {S : Sls} {st : Store} {r : Out} (h : whN c b n S st = r) (hr : r ≠ .stuck) : sW c b S st = r := by
  have hx : ∃ n, whN c b n S st ≠ .stuck := ⟨n, by rw [h]; exact hr⟩
  unfold sW
  rw [dif_pos hx]
  have h1 := Classical.choose_spec hx
  have h2 : whN c b n S st ≠ .stuck := by rw [h]; exact hr
  rw [← h, ← whN_mono h1 (max (Classical.choose hx) n) (Nat.le_max_left _ _), whN_mono h2 _ (Nat.le_max_right _ _)]
/-- one turn -/
theorem sW_eq (c : Ev Bool) (b : EvS) (S : Sls) (st : Store) : sW c b S st = (c S st).out fun k S st => if k = true then
      match b S st with
      | .nx S2 st2 => sW c b S2 st2
      | .ct S2 st2 => sW c b S2 st2
      | .rto w S2 st2 => .rto w S2 st2
      | .bk S2 st2 => .nx S2 st2
      | .ret v S2 st2 => .ret v S2 st2
      | .exc x S2 st2 => .exc x S2 st2
      | .stuck => .stuck
    else .nx S st := by
  by_cases hx : ∃ n, whN c b n S st ≠ .stuck
  · obtain ⟨n, hn⟩ := hx
    rw [sW_of rfl hn]
    cases n with
    | zero => exact absurd rfl hn
    | succ n =>
      simp only [whN] at hn ⊢
      cases hc : c S st with
      | stuck => rfl
      | exc x S1 st1 => rfl
      | ok k S1 st1 =>
        rw [hc] at hn
        simp only [Res.out_ok] at hn ⊢
        cases k with
        | false => rfl
        | true =>
          simp only [if_true] at hn ⊢
          cases hb : b S1 st1 with
          | nx S2 st2 => rw [hb] at hn; exact (sW_of rfl hn).symm
          | ct S2 st2 => rw [hb] at hn; exact (sW_of rfl hn).symm
          | _ => rfl
  · have hs : sW c b S st = .stuck := by unfold sW; rw [dif_neg hx]
    rw [hs]
    have all : ∀ n, whN c b n S st = .stuck := fun n => Classical.byContradiction fun z => hx ⟨n, z⟩
    cases hc : c S st with
    | stuck => rfl
    | exc x S1 st1 => have := all 1; simp only [whN, hc] at this; cases this
    | ok k S1 st1 =>
      simp only [Res.out_ok]
      cases k with
      | false => have := all 1; simp only [whN, hc, Res.out_ok] at this; cases this
      | true =>
        simp only [if_true]
        have st' : ∀ n, (match b S1 st1 with
          | .nx S2 st2 => whN c b n S2 st2
          | .ct S2 st2 => whN c b n S2 st2
          | .rto w S2 st2 => .rto w S2 st2
          | .bk S2 st2 => .nx S2 st2
          | .ret v S2 st2 => .ret v S2 st2
          | .exc x S2 st2 => .exc x S2 st2
          | .stuck => .stuck) = Out.stuck := fun n => by have := all (n + 1); simp only [whN, hc, Res.out_ok, if_true] at this; exact this
        cases hb : b S1 st1 with
        | nx S2 st2 =>
          rw [hb] at st'
          have : ¬ ∃ n, whN c b n S2 st2 ≠ .stuck := fun ⟨n, z⟩ => z (st' n)
          show Out.stuck = sW c b S2 st2
          unfold sW; rw [dif_neg this]
        | ct S2 st2 =>
          rw [hb] at st'
          have : ¬ ∃ n, whN c b n S2 st2 ≠ .stuck := fun ⟨n, z⟩ => z (st' n)
          show Out.stuck = sW c b S2 st2
          unfold sW; rw [dif_neg this]
        | bk S2 st2 => rw [hb] at st'; have := st' 0; cases this
        | ret v S2 st2 => rw [hb] at st'; have := st' 0; cases this
        | rto w S2 st2 => rw [hb] at st'; have := st' 0; cases this
        | exc x S2 st2 => rw [hb] at st'; have := st' 0; cases this
        | stuck => rfl
end DL

namespace DL
open PySem PySem.Spec PyProof.Rows L2

/-! ### list comprehensions -/
def wipeS (S : Sls) : List Nat → Sls
  | [] => S
  | v :: vs => (wipeS S vs).set v .no
theorem wipeS_length (S : Sls) : ∀ vs : List Nat, (wipeS S vs).length = S.length
  | [] => rfl
  | v :: vs => by unfold wipeS; rw [List.length_set, wipeS_length S vs]
section
variable {G : Gx} {B F H : Hp} {σ : L2.St} {S : Sls}
theorem Ok.wipe (o : Ok G B F σ H S) : ∀ vs : List Nat, Ok G B F (L2.wipe σ vs) H (wipeS S vs)
  | [] => o
  | v :: vs => (Ok.wipe o vs).any v none
theorem wipeS_no : ∀ {vs : List Nat} {S : Sls} {i : Nat}, i ∈ vs → ∀ s, (wipeS S vs)[i]? = some s → s = .no
  | v :: vs, S, i, h, s, e => by
    unfold wipeS at e
    by_cases hv : v = i
    · have hi := set_lt e hv
      subst hv
      rw [List.getElem?_set_self hi] at e
      cases e; rfl
    · rw [List.getElem?_set_ne hv] at e
      exact wipeS_no ((List.mem_cons.mp h).resolve_left fun z => hv z.symm) s e
/-- the block's end: its slots are not told of -/
theorem Ok.unwipe {vs : List Nat} (o : Ok G B F (L2.wipe σ vs) H S) (hS : ∀ i ∈ vs, ∀ s, S[i]? = some s → s = .no) : Ok G B F σ H S := by
  have get : ∀ (i : Nat) (p : V), i ∉ vs → (σ[i]? = some (some p) ↔ (L2.wipe σ vs)[i]? = some (some p)) := fun i p h => by rw [wipe_out h]
  refine ⟨o.fH, o.kp, by rw [← o.len, wipe_length], fun i s e => ?_, fun i j ds es p e1 e2 e3 e4 => ?_⟩
  · by_cases hi : i ∈ vs
    · rw [hS i hi s e]; trivial
    · have h := o.sl i s e
      rw [wipe_out hi] at h
      exact h
  · have h1 : i ∉ vs := fun z => by have := hS i z _ e1; cases this
    have h2 : j ∉ vs := fun z => by have := hS j z _ e2; cases this
    exact o.ap i j ds es p e1 e2 (by rw [wipe_out h1]; exact e3) (by rw [wipe_out h2]; exact e4)
/-- an object beside the state is kept -/
theorem Ok.pin (o : Ok G B F σ H S) {D : Addr} {u : HO} (hD : H D = some u) (hF : F D = none) (no : ∀ (j : Nat) (es : Ow), S[j]? = some (.own es) → σ[j]? ≠ some (some (.ref D))) : Ok G (upd B D u) F σ H S := by
  refine ⟨o.fH, fun b v q => ?_, o.len, fun i s e => ?_, o.ap⟩
  · by_cases z : b = D
    · subst z; rw [upd_same] at q; cases q; exact hD
    · rw [upd_ne z] at q; exact o.kp _ _ q
  · have h := o.sl i s e
    cases s with
    | no => trivial
    | d x => exact h
    | own w =>
      obtain ⟨p, u', e1, h1, h2, h3, r⟩ := h
      have : p ≠ D := fun z => no i _ e (by rw [e1, z])
      exact ⟨p, u', e1, h1, h2, by rw [upd_ne this]; exact h3, r⟩
theorem Ok.unpin {D : Addr} {u u' : HO} (o : Ok G (upd B D u) F σ H S) (hB : B D = none) (hF : F D = none) : Ok G B F σ (upd H D u') S ∧ ∀ (j : Nat) (es : Ow), S[j]? = some (.own es) → σ[j]? ≠ some (some (.ref D)) := by
  have hD : H D = some u := o.kp D u upd_same
  have no : ∀ (j : Nat) (es : Ow), S[j]? = some (.own es) → σ[j]? ≠ some (some (.ref D)) := fun j es e z => by
    obtain ⟨p, u', e1, h1, h2, h3, r⟩ := o.sl j _ e
    rw [z] at e1; cases e1
    rw [upd_same] at h3; cases h3
  refine ⟨⟨fun b v q => ?_, fun b v q => ?_, o.len, fun i s e => ?_, o.ap⟩, no⟩
  · rw [upd_ne (ne_of_none q hF)]; exact o.fH _ _ q
  · have hb := ne_of_none q hB
    rw [upd_ne hb]; exact o.kp _ _ (by rw [upd_ne hb]; exact q)
  · have h := o.sl i s e
    cases s with
    | no => trivial
    | d x => exact h
    | own w =>
      obtain ⟨p, u', e1, h1, h2, h3, r⟩ := h
      have hp : p ≠ D := fun z => no i _ e (by rw [e1, z])
      rw [upd_ne hp] at h3
      exact ⟨p, u', e1, by rw [upd_ne hp]; exact h1, h2, h3, r⟩
theorem Gr.unpin {D : Addr} {u : HO} {F F' : Hp} (g : Gr (upd B D u) F F') (hB : B D = none) (hF : F D = none) : Gr B F F' ∧ F' D = none := by
  refine ⟨⟨g.1, fun a h h' => ?_⟩, ?_⟩
  · have := g.2 a h h'
    by_cases z : a = D
    · rw [z]; exact hB
    · rw [upd_ne z] at this; exact this
  · cases q : F' D with
    | none => rfl
    | some v =>
      have := g.2 D hF (by rw [q]; simp)
      rw [upd_same] at this; cases this
end
/-- the elements, one by one; own: the block's slots -/
def lcL (g : Tg) (own : List Nat) (t : Ev Bool) (f : Ev D) : List D → Ev (List D)
  | [], S, st => .ok [] S st
  | d :: r, S, st => match g d S with
    | some S1 => (t S1 st).calm.bind fun b S2 st2 => if b = true then
        (f S2 st2).calm.bind fun y S3 st3 => (lcL g own t f r (wipeS S3 own) st3).bind fun ys S4 st4 => .ok (y :: ys) S4 st4
      else lcL g own t f r (wipeS S2 own) st2
    | none => .stuck
def tY : Ev Bool := fun S st => .ok true S st
/-- behind the block: what stood in its slots ahead of it -/
def restS (S0 : List Sl) : List Nat → List Sl → List Sl
  | [], S => S
  | i :: r, S => match S0[i]? with
    | some (.d x) => restS S0 r (S.set i (.d x))
    | _ => restS S0 r S
theorem Ok.put {G : Gx} {B F H : Hp} {σ : L2.St} {S : List Sl} (o : Ok G B F σ H S) {i : Nat} {v : V} {x : D} (e : σ[i]? = some (some v)) (r : Rp G F v x) : Ok G B F σ H (S.set i (.d x)) := by
  have := o.set i r
  rwa [show σ.set i (some v) = σ from by
    obtain ⟨h1, h2⟩ := List.getElem?_eq_some_iff.mp e
    rw [← h2, List.set_getElem_self]] at this
theorem Ok.rest {G : Gx} {B F F' H H' : Hp} {σ : L2.St} {S0 : List Sl} (o0 : Ok G B F σ H S0) (e : Same F F') : ∀ (own : List Nat) (S : List Sl), Ok G B F' σ H' S → Ok G B F' σ H' (restS S0 own S)
  | [], S, o => o
  | i :: r, S, o => by
    unfold restS
    split
    · rename_i x hx
      obtain ⟨v, e1, rv⟩ := o0.sl i _ hx
      exact Ok.rest o0 e r _ (o.put e1 (rv.mono e))
    · exact Ok.rest o0 e r S o
theorem restS_own {S0 : List Sl} : ∀ (own : List Nat) (S : List Sl) (j : Nat) (w : Ow), (restS S0 own S)[j]? = some (.own w) → S[j]? = some (.own w)
  | [], _, _, _, h => h
  | i :: r, S, j, w, h => by
    unfold restS at h
    split at h
    · have := restS_own r _ j w h
      by_cases hj : i = j
      · have hi := set_lt this hj
        subst hj
        rw [List.getElem?_set_self hi] at this; cases this
      · rw [List.getElem?_set_ne hj] at this; exact this
    · exact restS_own r S j w h
def lcF (fi : Ev (List D)) (g : Tg) (own : List Nat) (t : Ev Bool) (f : Ev D) : Ev Ow := fun S st => (fi S st).bind fun ds S st =>
  (lcL g own t f ds (wipeS S own) st).bind fun ys S' st => if ys.length ≤ 16777216 then .ok (.l ys) (restS S own S') st else .stuck
abbrev bX (X : Cx) (s : Shared) (H : Hp) (scope : Scope) (cl : List (Str × Addr)) (C : Addr) (fp : List Addr) : Cx := X.blk s H scope (compEnvC scope cl C X.env) fp
def DTs (X : Cx) (B : Hp) (W : WX) (es : List Expr) (f : Ev Bool) : Prop := PTs X es (lift (Cx.g X) B W RB f)
theorem pts_imp {X : Cx} {es : List Expr} {t t' : TT} (h : PTs X es t) (i : ∀ σ H Q, t' σ H Q → t σ H Q) : PTs X es t' := ⟨fun pins s σ H Q I q => h.run pins s σ H Q I (i σ H Q q)⟩
theorem dts_n {X : Cx} {B : Hp} {W : WX} : DTs X B W [] tY := pts_imp pts_nil fun σ H Q ⟨F, S, st, o, q⟩ => q true H F .refl o rfl
theorem dts_1 {X : Cx} {B : Hp} {W : WX} {e : Expr} {f : Ev Bool} (h : DT X B W e f) : DTs X B W [e] f := pts_one h
theorem calm_exc {α : Type} {r : Res α} {x : Exc} {S : Sls} {st : Store} (h : r.calm = .exc x S st) : False := by
  cases r <;> cases h
theorem lcL_noexc {g : Tg} {own : List Nat} {t : Ev Bool} {f : Ev D} : ∀ {ds : List D} {S : Sls} {st : Store} {x : Exc} {S' : Sls} {st' : Store}, lcL g own t f ds S st = .exc x S' st' → False
  | [], _, _, _, _, _, h => by cases h
  | d :: r, S, st, x, S', st', h => by
    simp only [lcL] at h
    split at h
    · rename_i S1 _
      cases ht : (t S1 st).calm with
      | exc _ _ _ => exact calm_exc ht
      | stuck => rw [ht] at h; cases h
      | ok b S2 st2 =>
        rw [ht, Res.bind_ok] at h
        split at h
        · cases hf : (f S2 st2).calm with
          | exc _ _ _ => exact calm_exc hf
          | stuck => rw [hf] at h; cases h
          | ok y S3 st3 =>
            rw [hf, Res.bind_ok] at h
            cases hl : lcL g own t f r (wipeS S3 own) st3 with
            | ok ys S4 st4 => rw [hl] at h; cases h
            | stuck => rw [hl] at h; cases h
            | exc x2 S4 st4 => exact lcL_noexc hl
        · exact lcL_noexc h
    · cases h
theorem lc_lift {X : Cx} {B : Hp} {W : WX} {fi : Ev (List D)} {g : Tg} {own : List Nat} {t : Ev Bool} {f : Ev D} {gV : TG} {tt : TT} {te : TE}
    (ht : ∀ B σ H Q, lift (Cx.g X) B W0 RB t σ H Q → tt σ H Q) (he : ∀ B σ H Q, lift (Cx.g X) B W0 (RD (Cx.g X)) f σ H Q → te σ H Q)
    (hgB : ∀ B' v σ H Q, liftG (Cx.g X) B' g v σ H Q → ∀ Q', (∀ σ' H', Q σ' H' → wipe σ' own = wipe σ own → Q' σ' H') → gV v σ H Q')
    {σ : L2.St} {H : Hp} {Q : VK} (q : liftF (Cx.g X) B W (lcF fi g own t f) σ H Q) : tLc (lift (Cx.g X) B W (RW (Cx.g X)) fi) gV tt te own σ H Q := by
  obtain ⟨F, S, st, o, q⟩ := q
  refine ⟨F, S, st, o, (PostF.bind (R := RW (Cx.g X) σ) q).mono fun J H1 ⟨F1, ds, S1, st1, g1, o1, r1, p1⟩ Da hD => ?_⟩
  -- what is left to do, and what it comes to
  let Tot : List D → Res (List D) → Prop := fun acc r => PostF (Cx.g X) B W σ F1 Q (r.bind fun ys S st => if (acc ++ ys).length ≤ 16777216 then .ok (.l (acc ++ ys)) (restS S1 own S) st else .stuck)
  let Wv : Nat → Nat → Hp → Prop := fun i m H' => i ≤ ds.length ∧ m = ds.length - i ∧ ∃ acc xs F' S' st', Gr B F1 F' ∧ Ok (Cx.g X) B F' (wipe σ own) H' S' ∧ (∀ i ∈ own, ∀ s, S'[i]? = some s → s = .no) ∧
    H' Da = some (.lst xs) ∧ RpAll (Cx.g X) F' xs acc ∧ F' Da = none ∧ B Da = none ∧ (∀ (j : Nat) (es : Ow), S'[j]? = some (.own es) → (wipe σ own)[j]? ≠ some (some (.ref Da))) ∧ Tot acc (lcL g own t f (ds.drop i) S' st')
  have hF1 : F1 Da = none := o1.fH.free hD
  have hBD : B Da = none := o1.kp.free hD
  refine ⟨Wv, ⟨ds.length, Nat.zero_le _, by simp, [], [], F1, wipeS S1 own, st1, .refl, ?_, fun i hi s e => wipeS_no hi s e, upd_same, .nil, hF1, hBD, ?_, by simpa [Tot] using p1⟩, ?_⟩
  · exact (o1.wipe own).junk (same_new hD)
  · intro j es e1 e2
    obtain ⟨p', xs', e3, h1, _⟩ := (o1.wipe own).sl j _ e1
    rw [e2] at e3; cases e3
    rw [hD] at h1; cases h1
  rintro i m H2 ⟨hi2, rfl, acc, xs, F2, S2, st2, g2, o2, n2, d2, ra, f2, b2, no2, p2⟩
  obtain ⟨wgo, wstop, wyld⟩ := r1 F2 H2 g2.1 o2.fH i
  by_cases hlt : i < ds.length
  · have hd : ds.drop i = ds[i] :: ds.drop (i + 1) := List.drop_eq_getElem_cons hlt
    rw [hd] at p2
    simp only [lcL, Tot] at p2
    refine .inr ⟨wgo hlt, fun H' => Wv (i + 1) (ds.length - (i + 1)) H', fun H' h => ⟨ds.length - (i + 1), by omega, h⟩, fun x H3 hy => ?_⟩
    obtain ⟨F3, k3, f3, gr3, rx⟩ := wyld _ (List.getElem?_eq_getElem hlt) x H3 hy
    split at p2
    · rename_i S3 hS3
      have o3 := (o2.grow gr3 k3 f3).pin (k3 _ _ d2) (by
        cases z : F3 Da with
        | none => rfl
        | some v =>
          have := gr3.2 Da f2 (by rw [z]; simp)
          rw [d2] at this; cases this) no2
      have g23 : Gr B F2 F3 := o2.gr gr3
      have f3D : F3 Da = none := by
        cases z : F3 Da with
        | none => rfl
        | some v =>
          have := gr3.2 Da f2 (by rw [z]; simp)
          rw [d2] at this; cases this
      refine hgB (upd B Da (.lst xs)) x _ _ (fun σ4 H4 => ∃ F4, Gr (upd B Da (.lst xs)) F3 F4 ∧ Ok (Cx.g X) (upd B Da (.lst xs)) F4 σ4 H4 S3) ⟨F3, S2, ds[i], S3, o3, rx, hS3, fun σ' H' F' gg oo => ⟨F', gg, oo⟩⟩ _ fun σ4 H4 ⟨F4, g4, o4⟩ hw => ?_
      have hw' : wipe σ4 own = wipe σ own := by
        rw [hw]
        have : ∀ vs : List Nat, wipe (wipe σ vs) vs = wipe σ vs := fun vs => by
          refine List.ext_getElem? fun j => ?_
          by_cases hj : j ∈ vs
          · have e1 : ∀ τ : L2.St, (wipe τ vs)[j]? = (τ[j]?).map fun _ => none := fun τ => by
              cases q1 : (wipe τ vs)[j]? with
              | none =>
                have : τ[j]? = none := by
                  rw [List.getElem?_eq_none_iff] at q1 ⊢
                  rwa [wipe_length] at q1
                rw [this]; rfl
              | some y =>
                have hl : j < τ.length := by
                  have := (List.getElem?_eq_some_iff.mp q1).1
                  rwa [wipe_length] at this
                rw [List.getElem?_eq_getElem hl]
                cases y with
                | none => rfl
                | some y => exact absurd hj (wipe_some q1).2
            rw [e1, e1]
            cases σ[j]? <;> rfl
          · rw [wipe_out hj]
        exact this own
      refine ⟨hw', ?_⟩
      -- the test
      refine ht (upd B Da (.lst xs)) σ4 H4 _ ⟨F4, S3, st2, o4, ?_⟩
      revert p2
      generalize t S3 st2 = r
      intro p2
      cases r with
      | stuck => exact p2
      | exc y S5 st5 => exact p2.elim
      | ok bb S5 st5 =>
        simp only [Res.calm_ok, Res.bind_ok] at p2
        intro b H5 F5 g5 o5 e5
        cases e5
        obtain ⟨g4', f4⟩ := g4.unpin hBD f3D
        obtain ⟨g5', f5⟩ := g5.unpin hBD f4
        have gAll : Gr B F2 F5 := g23.trans (g4'.trans g5')
        cases bb with
        | false =>
          refine (if_neg Bool.false_ne_true).mpr ?_
          simp only [Bool.false_eq_true, if_false] at p2
          have h5D : H5 Da = some (.lst xs) := o5.kp Da _ upd_same
          obtain ⟨o6, no6⟩ := Ok.unpin (u' := .lst xs) o5 hBD f5
          have e6 : upd H5 Da (.lst xs) = H5 := by
            funext b; by_cases z : b = Da
            · subst z; rw [upd_same, h5D]
            · rw [upd_ne z]
          rw [e6] at o6
          have o7 := o6.wipe own
          rw [hw'] at o7
          refine ⟨hlt, rfl, acc, xs, F5, wipeS S5 own, st5, g2.trans gAll, o7, fun i hi s e => wipeS_no hi s e, h5D, ra.mono gAll.1, f5, hBD, fun j es e1 e2 => ?_, p2⟩
          obtain ⟨p', u', e3, h1, _, h3, _⟩ := (o5.wipe own).sl j _ e1
          rw [hw', e2] at e3; cases e3
          rw [upd_same] at h3; cases h3
        | true =>
          refine (if_pos rfl).mpr ?_
          simp only [if_true] at p2
          refine he (upd B Da (.lst xs)) σ4 H5 _ ⟨F5, S5, st5, o5, ?_⟩
          revert p2
          generalize f S5 st5 = r2
          intro p2
          cases r2 with
          | stuck => exact p2
          | exc y S6 st6 => exact p2.elim
          | ok yy S6 st6 =>
            simp only [Res.calm_ok, Res.bind_ok] at p2
            intro y H6 F6 g6 o6 ry
            obtain ⟨g6', f6⟩ := g6.unpin hBD f5
            have gA : Gr B F2 F6 := gAll.trans g6'
            have h6D : H6 Da = some (.lst xs) := o6.kp Da _ upd_same
            obtain ⟨o7, no7⟩ := Ok.unpin (u' := .lst (xs ++ [y])) o6 hBD f6
            have o8 := o7.wipe own
            rw [hw'] at o8
            have p3 : Tot (acc ++ [yy]) (lcL g own t f (ds.drop (i + 1)) (wipeS S6 own) st6) := by
              show PostF _ _ _ _ _ _ _
              revert p2
              generalize lcL g own t f (ds.drop (i + 1)) (wipeS S6 own) st6 = r3
              intro p2
              cases r3 with
              | ok ys S7 st7 => simpa using p2
              | exc _ _ _ => exact p2
              | stuck => exact p2
            have hlen : acc.length < 16777216 := by
              have p4 := p3
              simp only [Tot] at p4
              revert p4
              generalize h3 : lcL g own t f (ds.drop (i + 1)) (wipeS S6 own) st6 = r3
              intro p4
              cases r3 with
              | ok ys S7 st7 =>
                simp only [Res.bind_ok] at p4
                split at p4
                · rename_i hh
                  simp at hh; omega
                · exact p4.elim
              | exc x' S' st' =>
                exfalso
                exact lcL_noexc h3
              | stuck => exact p4.elim
            refine ⟨xs, h6D, by rw [ra.length, sizeLine_eq]; exact hlen, hlt, rfl, acc ++ [yy], xs ++ [y], F6, wipeS S6 own, st6, g2.trans gA, o8, fun i hi s e => wipeS_no hi s e, upd_same, (ra.mono gA.1).append (.one ry), f6, hBD, fun j es e1 e2 => ?_, p3⟩
            obtain ⟨p', u', e3, h1, _, h3, _⟩ := (o6.wipe own).sl j _ e1
            rw [hw', e2] at e3; cases e3
            rw [upd_same] at h3; cases h3
    · exact p2.elim
  · have e : i = ds.length := by omega
    subst e
    rw [List.drop_length] at p2
    simp only [lcL, Tot, Res.bind_ok, List.append_nil] at p2
    refine .inl ⟨wstop (Nat.le_refl _), ?_⟩
    split at p2
    · have oo := o2.unwipe n2
      refine p2 Da (.lst xs) H2 F2 g2 (o1.rest g2.1 own S2 oo) d2 f2 hBD (.l ra) fun j es e1 e2 => ?_
      replace e1 := restS_own own S2 j es e1
      have hj : j ∉ own := fun z => by have := n2 j z _ e1; cases this
      exact no2 j es e1 (by rw [wipe_out hj]; exact e2)
    · exact p2.elim
end DL

namespace DL
open PySem PySem.Spec PyProof.Rows L2

/-! ### a block's targets -/
def TgB (G : Gx) (own : List Nat) (g : Tg) (gv : TG) : Prop := ∀ B v σ H Q, liftG G B g v σ H Q → ∀ Q', (∀ σ' H', Q σ' H' → wipe σ' own = wipe σ own → Q' σ' H') → gv v σ H Q'
def TgsB (G : Gx) (own : List Nat) (g : List D → Sls → Option Sls) (gv : TGs) : Prop := ∀ B v σ H Q, liftGs G B g v σ H Q → ∀ Q', (∀ σ' H', Q σ' H' → wipe σ' own = wipe σ own → Q' σ' H') → gv v σ H Q'
theorem wipe_set {i : Nat} {x : Option V} : ∀ {own : List Nat} {σ : L2.St}, i ∈ own → wipe (σ.set i x) own = wipe σ own
  | v :: vs, σ, h => by
    unfold wipe
    by_cases hv : i ∈ vs
    · rw [wipe_set hv]
    · have e : i = v := (List.mem_cons.mp h).resolve_right hv
      subst e
      have : ∀ {vs : List Nat} {σ : L2.St}, i ∉ vs → wipe (σ.set i x) vs = (wipe σ vs).set i x := by
        intro vs
        induction vs with
        | nil => intro σ _; rfl
        | cons w ws ih =>
          intro σ h
          have h1 : i ≠ w := fun z => h (by rw [z]; exact List.mem_cons_self ..)
          have h2 : i ∉ ws := fun z => h (List.mem_cons_of_mem _ z)
          unfold wipe
          rw [ih h2, List.set_comm _ _ h1]
      rw [this hv, List.set_set]
theorem tgB_v {G : Gx} {own : List Nat} {i : Nat} (h : i ∈ own) : TgB G own (gV i) (gName i) := fun B v σ H Q ⟨F, S, d, S', o, r, e, q⟩ Q' k => by
  cases e
  exact k _ H (q _ H F .refl (o.set i r)) (wipe_set h)
theorem tgsB_n {G : Gx} {own : List Nat} : TgsB G own gN gNil := fun B v σ H Q ⟨F, S, ds, S', o, r, e, q⟩ Q' k => by
  cases r with
  | nil => cases e; exact ⟨rfl, k _ H (q σ H F .refl o) rfl⟩
  | cons _ _ => cases e
theorem tgsB_c {G : Gx} {own : List Nat} {g : Tg} {gv : TG} {gs : List D → Sls → Option Sls} {gvs : TGs} (h : TgB G own g gv) (t : TgsB G own gs gvs) : TgsB G own (gC g gs) (gCons gv gvs) := fun B vs σ H Q ⟨F, S, ds, S', o, r, e, q⟩ Q' k => by
  cases r with
  | nil => cases e
  | cons r1 r2 =>
    unfold gC at e
    simp only at e
    split at e
    · rename_i S1 hS1
      refine ⟨_, _, rfl, h B _ σ H (fun σ' H' => ∃ F', Gr B F F' ∧ Ok G B F' σ' H' S1) ⟨F, S, _, S1, o, r1, hS1, fun σ' H' F' g o' => ⟨F', g, o'⟩⟩ _ fun σ1 H1 ⟨F1, g1, o1⟩ w1 => ?_⟩
      refine t B _ σ1 H1 Q ⟨F1, S1, _, S', o1, r2.mono g1.1, e, fun σ2 H2 F2 g2 o2 => q σ2 H2 F2 (g1.trans g2) o2⟩ _ fun σ2 H2 q2 w2 => k σ2 H2 q2 (w2.trans w1)
    · cases e
theorem tgB_t {G : Gx} {own : List Nat} {n : Nat} {gs : List D → Sls → Option Sls} {gvs : TGs} (h : TgsB G own gs gvs) : TgB G own (gT n gs) (gTup G.K n gvs) := fun B v σ H Q ⟨F, S, d, S', o, r, e, q⟩ Q' k => by
  unfold gT at e
  split at e
  · split at e
    · rename_i hl
      cases r with
      | tup h1 h2 =>
        exact ⟨_, _, rfl, same_seqT o.fH h1, by rw [h2.length]; exact hl, h B _ σ H Q ⟨F, S, _, S', o, h2, e, q⟩ Q' k⟩
    · cases e
  · cases e
section
variable {X : Cx} {B : Hp} {W : WX} {e a b c : Expr} {es : List Expr} {s : Stmt} {ss : List Stmt} {pos : Pos}
theorem lc_parts {elt : Expr} {ifs : List Expr} {scope : Scope} {t : Ev Bool} {f : Ev D}
    (ht : ∀ (B : Hp) (s : Shared) (H : Hp) (cl : List (Str × Addr)) (C : Addr) (fp : List Addr), DTs (bX X s H scope cl C fp) B W0 ifs t) (he : ∀ (B : Hp) (s : Shared) (H : Hp) (cl : List (Str × Addr)) (C : Addr) (fp : List Addr), DE (bX X s H scope cl C fp) B W0 elt f) :
    (∀ (s : Shared) (H : Hp) (C : Addr) (cl : List (Str × Addr)) (fp : List Addr), PTs (X.blk s H scope (compEnvC scope cl C X.env) fp) ifs (fun σ H Q => ∃ B, lift (Cx.g X) B W0 RB t σ H Q)) ∧
    (∀ (s : Shared) (H : Hp) (C : Addr) (cl : List (Str × Addr)) (fp : List Addr), PE (X.blk s H scope (compEnvC scope cl C X.env) fp) elt (fun σ H Q => ∃ B, lift (Cx.g X) B W0 (RD (Cx.g X)) f σ H Q)) :=
  ⟨fun s H C cl fp => ⟨fun pins s' σ H' Q I ⟨B, q⟩ => (ht B s H cl C fp).run pins s' σ H' Q I q⟩, fun s H C cl fp => ⟨fun pins s' σ H' Q I ⟨B, q⟩ => (he B s H cl C fp).run pins s' σ H' Q I q⟩⟩
theorem df_lc {elt tg iter : Expr} {ifs : List Expr} {scope : Scope} (own : List (Str × Nat)) {fi : Ev (List D)} {g : Tg} {gv : TG} {t : Ev Bool} {f : Ev D} (hc : X.calm = true) (nd : X.N.Nodup) (ok : BlkOk X.N X.env.scope scope own) (hi : DI X B W tg iter fi) (hgv : TgB (Cx.g X) (own.map (·.2)) g gv)
    (hg : ∀ (s : Shared) (H : Hp) (C : Addr) (cl : List (Str × Addr)) (fp : List Addr), PG (X.blk s H scope (compEnvC scope cl C X.env) fp) tg gv)
    (ht : ∀ (B : Hp) (s : Shared) (H : Hp) (cl : List (Str × Addr)) (C : Addr) (fp : List Addr), DTs (bX X s H scope cl C fp) B W0 ifs t) (he : ∀ (B : Hp) (s : Shared) (H : Hp) (cl : List (Str × Addr)) (C : Addr) (fp : List Addr), DE (bX X s H scope cl C fp) B W0 elt f)
    (hs : ∀ x, foldedSetIterable iter X.env x = pure x := by intro _; rfl) : DF X B W (.ListComp elt [⟨tg, iter, ifs, 0⟩] scope pos) (lcF fi g (own.map (·.2)) t f) :=
  pe_imp (pe_lc hc nd hi ok hg (lc_parts ht he).1 (lc_parts ht he).2 hs) fun σ H Q q => lc_lift (fun B σ H Q q => ⟨B, q⟩) (fun B σ H Q q => ⟨B, q⟩) (fun B v σ H Q q => hgv B v σ H Q q) q
/-- y = [..] on one line, y a local: kept -/
theorem ds_vlc {i : Nat} {y : Str} {py : Pos} {elt tg iter : Expr} {ifs : List Expr} {scope : Scope} {lpos : Pos} (own : List (Str × Nat)) {fi : Ev (List D)} {g : Tg} {gv : TG} {t : Ev Bool} {f : Ev D} (hc : X.calm = true) (nd : X.N.Nodup) (ok : BlkOk X.N X.env.scope scope own) (hi : DI X B W tg iter fi) (hgv : TgB (Cx.g X) (own.map (·.2)) g gv)
    (hg : ∀ (s : Shared) (H : Hp) (C : Addr) (cl : List (Str × Addr)) (fp : List Addr), PG (X.blk s H scope (compEnvC scope cl C X.env) fp) tg gv)
    (ht : ∀ (B : Hp) (s : Shared) (H : Hp) (cl : List (Str × Addr)) (C : Addr) (fp : List Addr), DTs (bX X s H scope cl C fp) B W0 ifs t) (he : ∀ (B : Hp) (s : Shared) (H : Hp) (cl : List (Str × Addr)) (C : Addr) (fp : List Addr), DE (bX X s H scope cl C fp) B W0 elt f)
    (hyl : X.env.scope.names.lookup y = some .local := by rfl) (hsw : swapsWith (.ListComp elt [⟨tg, iter, ifs, 0⟩] scope lpos) (some (.Name y py)) pos.line X.env = pure true := by exact sw_true rfl rfl rfl (by decide +kernel)) (hy : X.N[i]? = some y := by rfl)
    (hs : ∀ x, foldedSetIterable iter X.env x = pure x := by intro _; rfl) : DS X B W (.Assign [.Name y py] (.ListComp elt [⟨tg, iter, ifs, 0⟩] scope lpos) pos) (sV i (fE (lcF fi g (own.map (·.2)) t f))) :=
  ps_imp (ps_setLc hc nd hy hyl hsw hi ok hg (lc_parts ht he).1 (lc_parts ht he).2 hs) fun D σ H q => lc_lift (fun B σ H Q q => ⟨B, q⟩) (fun B σ H Q q => ⟨B, q⟩) (fun B v σ H Q q => hgv B v σ H Q q) (by
    obtain ⟨F, S, st, o, q⟩ := q
    refine ⟨F, S, st, o, postF_fE ?_⟩
    unfold sV fE at q
    generalize lcF fi g (own.map (·.2)) t f S st = r at q ⊢
    cases r with
    | ok w S1 st1 => exact fun v H' F' g o r => q _ H' F' g (o.set i r)
    | exc x S1 st1 => exact fun c d H' F' g o r => q c d σ H' F' g o r
    | stuck => exact q)
theorem ds_olc {i : Nat} {y : Str} {py : Pos} {elt tg iter : Expr} {ifs : List Expr} {scope : Scope} {lpos : Pos} (own : List (Str × Nat)) {fi : Ev (List D)} {g : Tg} {gv : TG} {t : Ev Bool} {f : Ev D} (hc : X.calm = true) (nd : X.N.Nodup) (ok : BlkOk X.N X.env.scope scope own) (hi : DI X B W tg iter fi) (hgv : TgB (Cx.g X) (own.map (·.2)) g gv)
    (hg : ∀ (s : Shared) (H : Hp) (C : Addr) (cl : List (Str × Addr)) (fp : List Addr), PG (X.blk s H scope (compEnvC scope cl C X.env) fp) tg gv)
    (ht : ∀ (B : Hp) (s : Shared) (H : Hp) (cl : List (Str × Addr)) (C : Addr) (fp : List Addr), DTs (bX X s H scope cl C fp) B W0 ifs t) (he : ∀ (B : Hp) (s : Shared) (H : Hp) (cl : List (Str × Addr)) (C : Addr) (fp : List Addr), DE (bX X s H scope cl C fp) B W0 elt f)
    (hyl : X.env.scope.names.lookup y = some .local := by rfl) (hsw : swapsWith (.ListComp elt [⟨tg, iter, ifs, 0⟩] scope lpos) (some (.Name y py)) pos.line X.env = pure true := by exact sw_true rfl rfl rfl (by decide +kernel)) (hy : X.N[i]? = some y := by rfl)
    (hs : ∀ x, foldedSetIterable iter X.env x = pure x := by intro _; rfl) : DS X B W (.Assign [.Name y py] (.ListComp elt [⟨tg, iter, ifs, 0⟩] scope lpos) pos) (sO i (lcF fi g (own.map (·.2)) t f)) :=
  ps_imp (ps_setLc hc nd hy hyl hsw hi ok hg (lc_parts ht he).1 (lc_parts ht he).2 hs) fun D σ H q => lc_lift (fun B σ H Q q => ⟨B, q⟩) (fun B σ H Q q => ⟨B, q⟩) (fun B v σ H Q q => hgv B v σ H Q q) (by
    obtain ⟨F, S, st, o, q⟩ := q
    exact ⟨F, S, st, o, postF_own q⟩)

/-! ### a, b = x, y -/
def sP (i j : Nat) (fa : Ev (List Opd)) : EvS := fun S st => (fa S st).out fun a S st => match vds S a with
  | some [x, y] => .nx ((S.set i (.d x)).set j (.d y)) st
  | _ => .stuck
theorem ds_p {i j : Nat} {x y : Str} {px py pt : Pos} {kt k2 pt2} {fa : Ev (List Opd)} (hc : X.calm = true) (nd : X.N.Nodup) (ha : DA X B W [a, b] fa) (hi : X.N[i]? = some x := by rfl) (hj : X.N[j]? = some y := by rfl) (hij : i ≠ j := by decide)
    (hx : X.env.scope.names.lookup x = some .local := by rfl) (hy : X.env.scope.names.lookup y = some .local := by rfl)
    (hw : swappedStores [.Tuple [.Name x px, .Name y py] kt pt] (.Tuple [a, b] k2 pt2) X.env = pure (some [x, y]) := by rfl)
    (hs : swapsWithSole [.Tuple [.Name x px, .Name y py] kt pt] (.Tuple [a, b] k2 pt2) pos.line X.env = pure false := by rfl) :
    DS X B W (.Assign [.Tuple [.Name x px, .Name y py] kt pt] (.Tuple [a, b] k2 pt2) pos) (sP i j fa) :=
  ps_imp (ps_par hc nd hi hj hij hx hy ha hw hs) fun D σ H ⟨F, S, st, o, q⟩ => ⟨F, S, st, o, (Post.out (R := RpO (Cx.g X) σ) q).mono fun vs H1 ⟨F1, d, S1, st1, g1, o1, r1, p1⟩ => by
    split at p1
    · rename_i x y hxy
      have ra := o1.vds r1 hxy
      cases ra with
      | cons ra rb =>
        cases rb with
        | cons rb rc =>
          cases rc
          exact ⟨_, _, rfl, p1 _ H1 F1 .refl ((o1.set i ra).set j rb)⟩
    · exact p1.elim⟩

/-! ### own lists, changed -/
/-- x.append(e) -/
def sAp (i : Nat) (f : Ev Opd) : EvS := fun S st => match S[i]? with
  | some (.own (.l _)) => (f S st).out fun o S st => match vd S o, S[i]? with
    | some d, some (.own (.l ds)) => if ds.length < 16777216 then .nx (S.set i (.own (.l (ds ++ [d])))) st else .stuck
    | _, _ => .stuck
  | _ => .stuck
theorem ds_ap {i : Nat} {f : Ev Opd} {apos pos' : Pos} (ho : PE X a (tVar i)) (h : DO X B W e f) (hs : swapsWith (.Call (.Attribute a "append" apos) [e] [] pos') none pos.line X.env = pure false := by rfl)
    (hbase : attributeBase a "append" X.env (eval a X.env) = eval a X.env := by rfl)
    (hfew : ((backTo pos' (starEach [e] X.env)).all (fun x => !x.1) && (backToKw pos' (keywordEach [] X.env)).all (fun x => x.1.isSome)
      && decide (([e] : List Expr).length + ([] : List Keyword).length + (if ([] : List Keyword).isEmpty then 0 else 1) < 30)) = true := by rfl)
    (hline : (apos.endLine == pos'.line) = true := by rfl) (hst : starEach [e] X.env = (false, eval e X.env) :: starEach [] X.env := by rfl) :
    DS X B W (.Expr (.Call (.Attribute a "append" apos) [e] [] pos') pos) (sAp i f) :=
  ps_imp (ps_expr (pe_bm PySem.F.plainAttrs_list PySem.F.slot_list_append PySem.F.type_list_append mt_append ho (pa_cons h pa_nil hst) hbase hfew hline hst) hs) fun D σ H ⟨F, S, st, o, q⟩ => by
    unfold sAp at q
    split at q
    · rename_i ds0 hS0
      obtain ⟨p, u, e1, h1, h2, h3, r⟩ := o.sl i _ hS0
      cases r with
      | l r =>
        refine ⟨_, e1, .inl ⟨rfl, _, .inl (.inl h1)⟩, F, S, st, o, (Post.out (R := RO (Cx.g X) σ) q).mono fun v H1 ⟨F1, o', S1, st1, g1, o1, r1, p1⟩ => ?_⟩
        split at p1
        · rename_i d ds hd hS1
          split at p1
          · rename_i hlen
            obtain ⟨p', u', e1', h1', h2', h3', r'⟩ := o1.sl i _ hS1
            rw [e1] at e1'; cases e1'
            cases r' with
            | l r' =>
              refine ⟨p, _, v, rfl, rfl, h1', by rw [r'.length, sizeLine_eq]; exact hlen, p1 σ _ F1 .refl (o1.chg hS1 e1 (.l (r'.append (.one (o1.vd r1 hd)))))⟩
          · exact p1.elim
        · exact p1.elim
    · exact q.elim
/-- x.extend(e), e a list that stays -/
def sEx (i : Nat) (f : Ev D) : EvS := fun S st => match S[i]? with
  | some (.own (.l _)) => (f S st).out fun d S st => match d, S[i]? with
    | .lst es, some (.own (.l ds)) => if ds.length + es.length ≤ 16777216 then .nx (S.set i (.own (.l (ds ++ es)))) st else .stuck
    | _, _ => .stuck
  | _ => .stuck
theorem ds_ex {i : Nat} {f : Ev D} {apos pos' : Pos} (ho : PE X a (tVar i)) (h : DE X B W e f) (hs : swapsWith (.Call (.Attribute a "extend" apos) [e] [] pos') none pos.line X.env = pure false := by rfl)
    (hbase : attributeBase a "extend" X.env (eval a X.env) = eval a X.env := by rfl)
    (hfew : ((backTo pos' (starEach [e] X.env)).all (fun x => !x.1) && (backToKw pos' (keywordEach [] X.env)).all (fun x => x.1.isSome)
      && decide (([e] : List Expr).length + ([] : List Keyword).length + (if ([] : List Keyword).isEmpty then 0 else 1) < 30)) = true := by rfl)
    (hline : (apos.endLine == pos'.line) = true := by rfl) (hst : starEach [e] X.env = (false, eval e X.env) :: starEach [] X.env := by rfl) :
    DS X B W (.Expr (.Call (.Attribute a "extend" apos) [e] [] pos') pos) (sEx i f) :=
  ps_imp (ps_expr (pe_bm PySem.F.plainAttrs_list PySem.F.slot_list_extend PySem.F.type_list_extend mt_extend ho (pa_cons h pa_nil hst) hbase hfew hline hst) hs) fun D σ H ⟨F, S, st, o, q⟩ => by
    unfold sEx at q
    split at q
    · rename_i ds0 hS0
      obtain ⟨p, u, e1, h1, h2, h3, r⟩ := o.sl i _ hS0
      cases r with
      | l r =>
        refine ⟨_, e1, .inl ⟨rfl, _, .inl (.inl h1)⟩, F, S, st, o, (Post.out (R := RD (Cx.g X) σ) q).mono fun v H1 ⟨F1, o', S1, st1, g1, o1, r1, p1⟩ => ?_⟩
        split at p1
        · rename_i es ds hS1
          split at p1
          · rename_i hlen
            obtain ⟨p', u', e1', h1', h2', h3', r'⟩ := o1.sl i _ hS1
            rw [e1] at e1'; cases e1'
            cases r' with
            | l r' =>
              cases r1 with
              | lst hb rb =>
                refine ⟨p, _, _, _, rfl, rfl, h1', o1.fH _ _ hb, by rw [r'.length, rb.length, sizeLine_eq]; exact hlen, p1 σ _ F1 .refl (o1.chg hS1 e1 (.l (r'.append rb)))⟩
          · exact p1.elim
        · exact p1.elim
    · exact q.elim
/-- x.pop(), as a value -/
def ePop (i : Nat) : Ev D := fun S st => match S[i]? with
  | some (.own (.l ds)) => match ds.getLast? with
    | some d => .ok d (S.set i (.own (.l ds.dropLast))) st
    | none => .stuck
  | _ => .stuck
theorem RpAll.dropLast {G : Gx} {F : Hp} {vs : List V} {ds : List D} (r : RpAll G F vs ds) : RpAll G F vs.dropLast ds.dropLast := by
  rw [List.dropLast_eq_take, List.dropLast_eq_take, r.length]
  exact r.take _
theorem de_pop {i : Nat} {apos : Pos} (ho : PE X a (tVar i)) (hbase : attributeBase a "pop" X.env (eval a X.env) = eval a X.env := by rfl) (hline : (apos.endLine == pos.line) = true := by rfl) :
    DE X B W (.Call (.Attribute a "pop" apos) [] [] pos) (ePop i) :=
  pe_imp (pe_bm0 PySem.F.plainAttrs_list PySem.F.slot_list_pop PySem.F.type_list_pop mt_pop ho hbase hline) fun σ H Q ⟨F, S, st, o, q⟩ => by
    unfold ePop at q
    split at q
    · rename_i ds0 hS0
      obtain ⟨p, u, e1, h1, h2, h3, r⟩ := o.sl i _ hS0
      cases r with
      | l r =>
        split at q
        · rename_i d hd
          rw [List.getLast?_eq_getElem?] at hd
          obtain ⟨y, hy, ry⟩ := r.get hd
          refine ⟨_, e1, .inl ⟨rfl, _, .inl (.inl h1)⟩, p, _, y, rfl, rfl, h1, by rw [r.length]; exact hy, q _ _ F .refl (o.chg hS0 e1 (.l r.dropLast)) ry⟩
        · exact q.elim
    · exact q.elim
/-- x[j] = e -/
def sSet (i : Nat) (fv : Ev D) (fj : Ev D) : EvS := fun S st => (fv S st).out fun d S st => match S[i]? with
  | some (.own (.l _)) => (fj S st).out fun j S st => match j, S[i]? with
    | .int k, some (.own (.l ds)) => match ixN ds.length k with
      | some j => .nx (S.set i (.own (.l (ds.set j d)))) st
      | none => .stuck
    | _, _ => .stuck
  | _ => .stuck
theorem ds_set {i : Nat} {fv fj : Ev D} {tpos : Pos} (ho : PE X a (tVar i)) (hj : DE X B W b fj) (hv : DE X B W e fv) (hs : swapsWithSole [.Subscript a b tpos] e pos.line X.env = pure false := by rfl) (hw : swappedStores [.Subscript a b tpos] e X.env = pure none := by rfl)
    (h1 : (assignEach [.Subscript a b tpos] X.env).map (·.2) = [assign (.Subscript a b tpos) X.env] := by rfl)
    (ha : ∀ v, assign (.Subscript a b tpos) X.env v = (do
      let ov ← holding [v] (eval a X.env)
      let iv ← holding [v, ov] (eval b X.env)
      standAt tpos
      holding [v, ov, iv] (setItem ov iv v)
      release [v, ov, iv] []) := by intro _; rfl) : DS X B W (.Assign [.Subscript a b tpos] e pos) (sSet i fv fj) :=
  ps_imp (ps_asg hv (pg_sub ho hj set_list ha) hs hw h1) fun D σ H ⟨F, S, st, o, q⟩ => ⟨F, S, st, o, (Post.out (R := RD (Cx.g X) σ) q).mono fun v H1 ⟨F1, d, S1, st1, g1, o1, r1, p1⟩ => by
    split at p1
    · rename_i ds0 hS0
      obtain ⟨p, u, e1, h1, h2, h3, r⟩ := o1.sl i _ hS0
      refine ⟨_, e1, F1, S1, st1, o1, (Post.out (R := RD (Cx.g X) σ) p1).mono fun jv H2 ⟨F2, jd, S2, st2, g2, o2, r2, p2⟩ => ?_⟩
      split at p2
      · rename_i k ds hS2
        split at p2
        · rename_i j hj
          obtain ⟨p', u', e1', h1', h2', h3', r'⟩ := o2.sl i _ hS2
          rw [e1] at e1'; cases e1'
          cases r' with
          | l r' =>
            cases r2
            refine ⟨p, _, k, j, rfl, rfl, h1', by rw [r'.length]; exact hj, p2 σ _ F2 .refl (o2.chg hS2 e1 (.l (r'.set j (r1.mono g2.1))))⟩
        · exact p2.elim
      · exact p2.elim
    · exact p1.elim⟩
end
/-! ### defs -/
def runB (N : Nat) (b : EvS) : CallT := fun ds st => match b (ds.map Sl.d ++ List.replicate (N - ds.length) .no) st with
  | .nx _ st => .ok .non [] st
  | .ret d _ st => .ok d [] st
  | .exc x _ st => .exc x [] st
  | _ => .stuck
theorem Ok.start {G : Gx} {F H : Hp} {N : List Str} {vs : List V} {ds : List D} (f : Same F H) (r : RpAll G F vs ds) (hl : vs.length ≤ N.length) : Ok G H F (start N vs) H (ds.map Sl.d ++ List.replicate (N.length - ds.length) .no) := by
  have rl := r.length
  refine ⟨f, Same.refl H, by simp [L2.start, rl], fun i s e => ?_, fun i j a b p e1 e2 e3 e4 => ?_⟩
  · by_cases hi : i < ds.length
    · rw [List.getElem?_append_left (by simpa using hi), List.getElem?_map] at e
      cases q : ds[i]? with
      | none => rw [q] at e; cases e
      | some d =>
        rw [q] at e; cases e
        obtain ⟨v, hv, rv⟩ := r.get q
        refine ⟨v, ?_, rv⟩
        unfold L2.start
        rw [List.getElem?_append_left (by simpa [rl] using hi), List.getElem?_map, hv]; rfl
    · rw [List.getElem?_append_right (by simpa using hi), List.getElem?_replicate] at e
      split at e
      · cases e; trivial
      · cases e
  · by_cases hi : i < ds.length
    · rw [List.getElem?_append_left (by simpa using hi), List.getElem?_map] at e1
      cases q : ds[i]? with
      | none => rw [q] at e1; cases e1
      | some d => rw [q] at e1; cases e1
    · rw [List.getElem?_append_right (by simpa using hi), List.getElem?_replicate] at e1
      split at e1 <;> cases e1
section
variable {P : Program} {w : World} {K : PySem.W.Frag} {mg : Str → Option Value} {base : Heap}
/-- THE RULE for a def -/
theorem fn_ok {x qual : Str} {st : Stmt} {f : Addr} {fd : FuncData} {N ps : List Str} {k : Nat} {b : EvS} (F : Fun K x qual st f fd) (S : FnScope N ps (defScope st)) 
    (body : ∀ (cdv : Value) (A : Around) (outer : List Env) (s : Shared) (H : Hp) (E : XK) (W : WX), Room k (A.deeper (envOfC qual (defScope st) s.heap.objs.size f cdv)) →
      Takes (cxOf (L2.CX P w) P w K mg base N qual (defScope st) f cdv A outer s H E) W → PassesOwn (model P w) (A.deeper (envOfC qual (defScope st) s.heap.objs.size f cdv)) (envOfC qual (defScope st) s.heap.objs.size f cdv) (cxOf (L2.CX P w) P w K mg base N qual (defScope st) f cdv A outer s H E).xe →
      DSs (cxOf (L2.CX P w) P w K mg base N qual (defScope st) f cdv A outer s H E) H W (defBody st) b) : FnOk P w K mg base (L2.CX P w) (k + 1) f fd ps (spOf ⟨K, mg⟩ ps.length (runB N.length b)) := by
  refine F.okX S (fun vs H Q E h => h.1) (fun cdv A outer s H vs Q E hr h => ?_)
  refine ⟨_, body cdv A outer s H E (fun cls d _ H' => E cls d H') hr (takes_of rfl rfl rfl rfl) (passes_of rfl), ?_⟩
  obtain ⟨hl, F0, ds, st0, f0, r, q⟩ := h
  have hN : ps.length ≤ N.length := by have := congrArg List.length S.pre; rw [List.length_take] at this; omega
  refine ⟨F0, _, st0, Ok.start f0 r (by omega), ?_⟩
  unfold runB at q
  revert q
  generalize b (ds.map Sl.d ++ List.replicate (N.length - ds.length) .no) st0 = r
  intro q
  cases r with
  | nx S1 st1 => exact fun σ' H' F' g o => q .non H' F' o.kp o.fH g .non
  | ret d S1 st1 => exact fun v σ' H' F' g o rr => q v H' F' o.kp o.fH g rr
  | exc y S1 st1 => exact fun c d σ' H' F' g o rr => q c d H' F' o.kp o.fH g rr
  | bk S1 st1 => exact q.elim
  | ct S1 st1 => exact q.elim
  | rto w1 S1 st1 => exact q.elim
  | stuck => exact q.elim
theorem def_ok {x qual : Str} {st : Stmt} {f : Addr} {fd : FuncData} {N ps : List Str} {k : Nat} {b : EvS} (F : Fun K x qual st f fd) (S : FnScope N ps (defScope st)) (hb : Binds K fd ps []) (hm : mg x = some (.ref f))
    (body : ∀ (cdv : Value) (A : Around) (outer : List Env) (s : Shared) (H : Hp) (E : XK) (W : WX), Room k (A.deeper (envOfC qual (defScope st) s.heap.objs.size f cdv)) →
      Takes (cxOf (L2.CX P w) P w K mg base N qual (defScope st) f cdv A outer s H E) W → PassesOwn (model P w) (A.deeper (envOfC qual (defScope st) s.heap.objs.size f cdv)) (envOfC qual (defScope st) s.heap.objs.size f cdv) (cxOf (L2.CX P w) P w K mg base N qual (defScope st) f cdv A outer s H E).xe →
      DSs (cxOf (L2.CX P w) P w K mg base N qual (defScope st) f cdv A outer s H E) H W (defBody st) b) : Def P w K mg base (k + 1) x ps.length (runB N.length b) := ⟨f, fd, ps, fn_ok F S body, hb, hm, F.kp⟩
/-- nothing is promised -/
def cStuck : CallT := fun _ _ => .stuck
theorem def_stuck {x qual : Str} {st : Stmt} {f : Addr} {fd : FuncData} {N ps : List Str} {k : Nat} (F : Fun K x qual st f fd) (S : FnScope N ps (defScope st)) (hb : Binds K fd ps []) (hm : mg x = some (.ref f)) : Def P w K mg base (k + 1) x ps.length cStuck := by
  refine ⟨f, fd, ps, F.okX S (fun vs H Q E h => h.1) (fun cdv A outer s H vs Q E hr h => ?_), hb, hm, F.kp⟩
  obtain ⟨_, _, _, _, _, _, q⟩ := h
  exact q.elim
end
end DL

namespace DL
open PySem PySem.Spec PyProof.Rows L2
/-! ### own exception classes: who stands under whom -/
/-- (c, t, b): an instance of c is (b), or is none, of t -/
abbrev XTab := List (Nat × Nat × Bool)
def xLook : XTab → Nat → Nat → Option Bool
  | [], _, _ => none
  | (c, t, b) :: r, x, y => if x = c ∧ y = t then some b else xLook r x y
theorem xLook_mem : ∀ {T : XTab} {x y : Nat} {b : Bool}, xLook T x y = some b → (x, y, b) ∈ T
  | (c, t, d) :: r, x, y, b, h => by
    unfold xLook at h
    split at h
    · rename_i e
      obtain ⟨rfl, rfl⟩ := e
      cases h; simp
    · simp [xLook_mem h]
/-- a class that is raised -/
structure XCl (K : PySem.W.Frag) (C : Addr) : Prop where
  ex : PySem.W.excIn K C [.type "ValueError", .type "Exception", .type "BaseException", .type "object"] "ValueError.__new__" = true
  kp : PySem.W.keepIn K (.ref C) = true
  ty : PySem.W.typeIn K (.ref C) = some (.type "type")
  is : ExcC K C
  ve : PySem.W.subIn K (.ref C) (.type "ValueError") = some true
  me : PySem.W.subIn K (.ref C) (.ref C) = some true
/-- a class that is asked for -/
structure HCl (K : PySem.W.Frag) (C : Addr) : Prop where
  be : PySem.W.subIn K (.ref C) (.type "BaseException") = some true
  hd : PySem.W.hasDictIn K C = true
  ty : PySem.W.typeIn K (.ref C) = some (.type "type")
structure XT (K : PySem.W.Frag) (mg : Str → Option Value) (T : XTab) : Prop where
  rows : ∀ c t b, (c, t, b) ∈ T → ∃ C Ct, mg (nmS c) = some (.ref C) ∧ mg (nmS t) = some (.ref Ct) ∧ PySem.W.subIn K (.ref C) (.ref Ct) = some b ∧ XCl K C ∧ HCl K Ct
  ve : mg "ValueError" = none
theorem XT.nil {K : PySem.W.Frag} {mg : Str → Option Value} (h : mg "ValueError" = none) : XT K mg [] := ⟨(fun _ _ _ h => by cases h), h⟩
theorem XT.cons {K : PySem.W.Frag} {mg : Str → Option Value} {T : XTab} {c t : Nat} {b : Bool} {C Ct : Addr} (h1 : mg (nmS c) = some (.ref C)) (h2 : mg (nmS t) = some (.ref Ct)) (h3 : PySem.W.subIn K (.ref C) (.ref Ct) = some b) (h4 : XCl K C) (h5 : HCl K Ct) (h : XT K mg T) : XT K mg ((c, t, b) :: T) :=
  ⟨fun c' t' b' m => by
    rcases List.mem_cons.mp m with e | m
    · cases e; exact ⟨C, Ct, h1, h2, h3, h4, h5⟩
    · exact h.rows _ _ _ m, h.ve⟩
/-- whether an exception of class c is one of these (none: ValueError) -/
def isX (T : XTab) (c : Nat) : List (Option Nat) → Option Bool
  | [] => some false
  | none :: _ => some true
  | some t :: r => match xLook T c t with
    | some true => some true
    | some false => isX T c r
    | none => none
section
variable {K : PySem.W.Frag} {mg : Str → Option Value} {T : XTab}
theorem kit_own {C Ct : Addr} {b : Bool} (h : PySem.W.subIn K (.ref C) (.ref Ct) = some b) (hx : XCl K C) (hh : HCl K Ct) : PySem.W.kitOne K (.ref C) (.ref Ct) = some b := by
  unfold PySem.W.kitOne
  by_cases e : C = Ct
  · subst e
    rw [if_pos (by simp)]
    rw [hx.me] at h; exact h
  · rw [if_neg (by simpa using e)]
    obtain ⟨cd, hc, _⟩ := PySem.W.any_some hh.hd
    unfold PySem.W.kitCls
    dsimp only
    rw [if_pos (by rw [hc, hh.ty]; rfl)]
    exact h
theorem kit_ve {C : Addr} (hx : XCl K C) : PySem.W.kitOne K (.ref C) (.type "ValueError") = some true := by
  unfold PySem.W.kitOne
  rw [if_neg (by simp)]
  unfold PySem.W.kitCls
  dsimp only
  rw [if_pos (by decide +kernel)]
  exact hx.ve
/-- the classes' values -/
inductive TVs (mg : Str → Option Value) : List (Option Nat) → List V → List Value → Prop
  | nil : TVs mg [] [] []
  | ve {ts : List (Option Nat)} {vs : List V} {us : List Value} : TVs mg ts vs us → TVs mg (none :: ts) (.ty "ValueError" :: vs) (.type "ValueError" :: us)
  | own {t : Nat} {C : Addr} {ts : List (Option Nat)} {vs : List V} {us : List Value} : mg (nmS t) = some (.ref C) → TVs mg ts vs us → TVs mg (some t :: ts) (.ref C :: vs) (.ref C :: us)
theorem TVs.cls : ∀ {ts : List (Option Nat)} {vs : List V} {us : List Value}, TVs mg ts vs us → Paired ClsV vs us
  | _, _, _, .nil => .nil
  | _, _, _, .ve h => .cons (.ty _) h.cls
  | _, _, _, .own _ h => .cons (.own _) h.cls
theorem isX_kit (hT : XT K mg T) {c : Nat} {C : Addr} (hC : mg (nmS c) = some (.ref C)) (hx : XCl K C) : ∀ {ts : List (Option Nat)} {vs : List V} {us : List Value} {b : Bool}, TVs mg ts vs us → isX T c ts = some b → PySem.W.kitAny K (.ref C) us = some b
  | _, _, _, b, .nil, h => h
  | _, _, _, b, .ve r, h => by
    unfold isX at h
    unfold PySem.W.kitAny
    rw [kit_ve hx]; exact h
  | _, _, _, b, .own (t := t) ht r, h => by
    unfold isX at h
    unfold PySem.W.kitAny
    split at h
    · rename_i e
      obtain ⟨C1, C2, a1, a2, a3, a4, a5⟩ := hT.rows _ _ _ (xLook_mem e)
      rw [hC] at a1; cases a1
      rw [ht] at a2; cases a2
      rw [kit_own a3 a4 a5]; exact h
    · rename_i e
      obtain ⟨C1, C2, a1, a2, a3, a4, a5⟩ := hT.rows _ _ _ (xLook_mem e)
      rw [hC] at a1; cases a1
      rw [ht] at a2; cases a2
      rw [kit_own a3 a4 a5]; exact isX_kit hT hC hx r h
    · cases h
end
/-! ### isinstance of a caught one -/
section
variable {X : Cx} {B : Hp} {W : WX} {e : Expr} {es : List Expr} {pos p pe p2 : Pos} {a C : Addr} {oe : Obj} {cx : Nat} {T : XTab}
theorem inst_pin {pins : List (Addr × Obj)} {σ : L2.St} {H : Hp} {s : Shared} (hp : (a, oe) ∈ X.pn) (hz : Zc (.ref C) none oe) (hf : ∃ vs, oe.data = .fields vs) (I : Inv X pins σ H s) : PySem.W.InstAt s.heap a oe C none := by
  obtain ⟨hget, _⟩ := I.pin (a, oe) (List.mem_append.mpr (.inl hp))
  obtain ⟨vs, hv⟩ := hf
  obtain ⟨oc, od, oda, osl⟩ := oe
  obtain ⟨z1, z2⟩ := hz
  dsimp only at z1 z2 hv
  subst z1 z2 hv
  exact ⟨hget, rfl, rfl, trivial⟩
/-- isinstance(n, T), T one class or a tuple of them that was just laid -/
def rIsP (K : PySem.W.Frag) (C a : Addr) : List V → Hp → VK → Prop := fun xs H Q => (∃ (c : V) (cv : Value) (b : Bool), xs = [.ref a, c] ∧ ClsV c cv ∧ PySem.W.kitOne K (.ref C) cv = some b ∧ Q (.bl b) H) ∨
  ∃ (tp : Addr) (cs : List V) (us : List Value) (b : Bool), xs = [.ref a, .ref tp] ∧ H tp = some (.tup cs) ∧ Paired ClsV cs us ∧ PySem.W.kitAny K (.ref C) us = some b ∧ Q (.bl b) H
theorem call_isP (hp : (a, oe) ∈ X.pn) (hz : Zc (.ref C) none oe) (hf : ∃ vs, oe.data = .fields vs) (hc : ExcC X.K C) : CallR X (.builtin "isinstance") (rIsP X.K C a) := by
  intro pins s σ H xs us Q I r h
  have J := inst_pin hp hz hf I
  have Z := PySem.W.handS_kitx_exc (x := a) (ox := oe) hc.hg hc.hk hc.hs hc.hd hc.ha hc.hn hc.ht hc.hm
  rcases h with ⟨c, cv, b, rfl, k, ek, q⟩ | ⟨tp, cs, ws, b, rfl, hT, k, ek, q⟩
  · obtain ⟨u1, u2, rfl, r1, r2⟩ := vals2 r
    cases (show u1 = Value.ref a from r1)
    have := k.eq r2
    subst this
    exact PySem.W.kia_one Z I.kIn J ek (fun z => nomatch z) fun tk => ⟨.bl b, H, I.kept (t' := tk) fun _ _ z => z, rfl, q⟩
  · obtain ⟨u1, u2, rfl, r1, r2⟩ := vals2 r
    cases (show u1 = Value.ref a from r1)
    cases (show u2 = Value.ref tp from r2)
    obtain ⟨_, its, rv, o, g1, g2, n, g3⟩ := (show ObjOk X.prog X.w H s.heap tp (.tup cs) from I.hok tp _ hT)
    have e3 := ClsV.all k rv
    subst e3
    obtain ⟨oc, od, dt, sl⟩ := o
    simp only at g2 g3
    subst g2 g3
    exact PySem.W.kia_tup Z I.kIn J g1 ek (fun z => nomatch z) fun tk => ⟨.bl b, H, I.kept (t' := tk) fun _ _ z => z, rfl, q⟩
/-- isinstance(n, T), n in slot i the exception at a, of class cx -/
def isE (T : XTab) (a : Addr) (cx : Nat) (ts : List (Option Nat)) (i : Nat) : Ev D := fun S st => match S[i]? with
  | some (.d (.err a' c')) => if a' = a ∧ c' = cx then got ((isX T cx ts).map D.bl) S st else .stuck
  | _ => .stuck
theorem Ok.errSlot {G : Gx} {B F H : Hp} {σ : L2.St} {S : Sls} (o : Ok G B F σ H S) {i : Nat} {a : Addr} {c : Nat} (h : S[i]? = some (.d (.err a c))) : σ[i]? = some (some (.ref a)) := by
  obtain ⟨v, e, r⟩ := o.sl i _ h
  cases r
  exact e
/-- one class -/
theorem de_isE1 {i : Nat} {n : Str} {t : Option Nat} {v : V} {u : Value} (hT : XT X.K X.mg T) (hp : (a, oe) ∈ X.pn) (hz : Zc (.ref C) none oe) (hf : ∃ vs, oe.data = .fields vs) (hC : X.mg (nmS cx) = some (.ref C)) (hx : XCl X.K C) (hi : X.mg "isinstance" = none)
    (hn : PE X (.Name n pe) (tVar i)) (he : PE X e (tC v)) (hv : TVs X.mg [t] [v] [u]) (hg : Gl X "isinstance" := by rfl)
    (hs : starEach [.Name n pe, e] X.env = (false, eval (.Name n pe) X.env) :: starEach [e] X.env := by rfl) (hs2 : starEach [e] X.env = (false, eval e X.env) :: starEach [] X.env := by rfl) (hpl : (backTo pos (starEach [e] X.env)).any (·.1) = false := by rfl) : DE X B W (.Call (.Name "isinstance" p) [.Name n pe, e] [] pos) (isE T a cx [t] i) :=
  pe_imp (pe_callB (call_isP hp hz hf hx.is) hg hi rfl (pa_cons hn (pa_cons he pa_nil hs2) hs) (by decide) (by decide) hs hpl) fun σ H Q ⟨F, S, st, o, q⟩ => by
    unfold isE at q
    split at q
    · rename_i a' c' hS
      split at q
      · rename_i hh
        obtain ⟨rfl, rfl⟩ := hh
        cases hb : isX T c' [t] with
        | none => rw [hb] at q; exact q.elim
        | some b =>
          rw [hb] at q
          have hk := isX_kit hT hC hx hv hb
          refine ⟨_, o.errSlot hS, .inl ⟨v, u, b, rfl, ?_, ?_, q (.bl b) H F .refl o (.bl b)⟩⟩
          · cases hv.cls with
            | cons k _ => exact k
          · unfold PySem.W.kitAny at hk
            split at hk
            · rename_i e1; rw [e1]; exact hk
            · rename_i e1; rw [e1]; exact hk
            · cases hk
      · exact q.elim
    · exact q.elim
/-- the names of a tuple of classes -/
inductive TNs (X : Cx) : List Expr → List (Option Nat) → List V → Prop
  | nil : TNs X [] [] []
  | cons {e : Expr} {es : List Expr} {t : Option Nat} {ts : List (Option Nat)} {v : V} {vs : List V} : PE X e (tC v) → starEach (e :: es) X.env = (false, eval e X.env) :: starEach es X.env → TNs X es ts vs → TNs X (e :: es) (t :: ts) (v :: vs)
theorem TNs.pa : ∀ {es : List Expr} {ts : List (Option Nat)} {vs : List V}, TNs X es ts vs → PA X es (fun _ H Q => Q vs H)
  | _, _, _, .nil => pa_imp pa_nil fun _ _ _ q => q
  | _, _, _, .cons h hs t => pa_imp (pa_cons h t.pa hs) fun _ _ _ q => q
/-- several classes -/
theorem de_isET {i : Nat} {n : Str} {ts : List (Option Nat)} {vs : List V} {us : List Value} {x1} (hT : XT X.K X.mg T) (hp : (a, oe) ∈ X.pn) (hz : Zc (.ref C) none oe) (hf : ∃ vs, oe.data = .fields vs) (hC : X.mg (nmS cx) = some (.ref C)) (hx : XCl X.K C) (hi : X.mg "isinstance" = none)
    (hn : PE X (.Name n pe) (tVar i)) (he : TNs X es ts vs) (hv : TVs X.mg ts vs us) (hl : vs.length ≤ 1000) (hg : Gl X "isinstance" := by rfl)
    (hs : starEach [.Name n pe, .Tuple es x1 p2] X.env = (false, eval (.Name n pe) X.env) :: starEach [.Tuple es x1 p2] X.env := by rfl) (hs2 : starEach [.Tuple es x1 p2] X.env = (false, eval (.Tuple es x1 p2) X.env) :: starEach [] X.env := by rfl) (hpl : (backTo pos (starEach [.Tuple es x1 p2] X.env)).any (·.1) = false := by rfl) : DE X B W (.Call (.Name "isinstance" p) [.Name n pe, .Tuple es x1 p2] [] pos) (isE T a cx ts i) :=
  pe_imp (pe_callB (call_isP hp hz hf hx.is) hg hi rfl (pa_cons hn (pa_cons (pe_tup he.pa) pa_nil hs2) hs) (by decide) (by decide) hs hpl) fun σ H Q ⟨F, S, st, o, q⟩ => by
    unfold isE at q
    split at q
    · rename_i a' c' hS
      split at q
      · rename_i hh
        obtain ⟨rfl, rfl⟩ := hh
        cases hb : isX T c' ts with
        | none => rw [hb] at q; exact q.elim
        | some b =>
          rw [hb] at q
          have hk := isX_kit hT hC hx hv hb
          exact ⟨_, o.errSlot hS, Nat.le_of_lt (small1000 (Nat.le_of_lt_succ (Nat.lt_succ_of_le hl))), fun tp htp => .inr ⟨tp, vs, us, b, rfl, upd_same, hv.cls, hk, q (.bl b) _ F .refl (o.junk (same_new htp)) (.bl b)⟩⟩
      · exact q.elim
    · exact q.elim
end
end DL

namespace DL
open PySem PySem.Spec PyProof.Rows L2
/-! ### raise, try -/
def sX (c : Nat) : EvS := fun S st => .exc ⟨c, []⟩ S st
/-- nothing is let out -/
def noX : Out → Out
  | .exc _ _ _ => .stuck
  | r => r
/-- try: body, except h: suite (by the class of what was raised) -/
def sTry (T : XTab) (h : Nat) (fb : EvS) (fs : Nat → EvS) : EvS := fun S st => match fb S st with
  | .exc x S1 st1 => match xLook T x.c h, x.fs with
    | some true, [] => noX (fs x.c S1 st1)
    | some false, _ => .exc x S1 st1
    | _, _ => .stuck
  | r => r
/-- slot i is gone -/
def clr (i : Nat) : Out → Out
  | .nx S st => .nx (S.set i .no) st
  | .ret d S st => .ret d (S.set i .no) st
  | .bk S st => .bk (S.set i .no) st
  | .ct S st => .ct (S.set i .no) st
  | .rto w S st => .rto w (S.set i .no) st
  | .exc _ _ _ => .stuck
  | .stuck => .stuck
/-- what comes of every address -/
noncomputable def pickO (r : Addr → Out) : Out := by
  classical
  exact if h : ∃ o, ∀ a, r a = o then Classical.choose h else .stuck
theorem pickO_eq {r : Addr → Out} {o : Out} (h : ∀ a, r a = o) : pickO r = o := by
  have hx : ∃ o, ∀ a, r a = o := ⟨o, h⟩
  unfold pickO
  rw [dif_pos hx]
  rw [← Classical.choose_spec hx 0, h 0]
/-- try: body, except h as n (slot i): suite -/
noncomputable def sTryA (T : XTab) (h i : Nat) (fb : EvS) (fs : Addr → Nat → EvS) : EvS := fun S st => match fb S st with
  | .exc x S1 st1 => match xLook T x.c h, x.fs with
    | some true, [] => pickO fun a => clr i (fs a x.c (S1.set i (.d (.err a x.c))) st1)
    | some false, _ => .exc x S1 st1
    | _, _ => .stuck
  | r => r
section
variable {X : Cx} {B : Hp} {W : WX} {pos p p2 p3 np pos2 : Pos} {T : XTab}
theorem ds_raise {c : Nat} {x m : Str} {j : Nat} (hT : XT X.K X.mg T) (hc : (c, c, true) ∈ T) (hx : nmS c = x) (tk : Takes X W) (hcalm : X.calm = true := by rfl) (hg : Gl X x := by rfl) (hdb : (x == ("__debug__" : Str)) = false := by decide) :
    DS X B W (.Raise (some (.Call (.Name x p) [.Constant (.str m) j p2] [] p3)) none pos) (sX c) := by
  obtain ⟨C, C2, a1, a2, a3, a4, a5⟩ := hT.rows _ _ _ hc
  rw [a1] at a2; cases a2
  have a1' := a1
  rw [hx] at a1
  exact ps_imp (ps_raise hcalm tk (pmk_own PySem.F.excBase_ValueError a4.ex a1 a4.kp (raises_own a5.be a4.ty) hg hdb)) fun D σ H ⟨F, S, st, o, q⟩ => q (.ref C) none σ H F .refl o ⟨C, a1', rfl, .inl ⟨rfl, rfl⟩⟩
/-- a class that a clause names -/
structure HNm (X : Cx) (h : Nat) (x : Str) : Prop where
  ex : ∃ C, X.mg x = some (.ref C) ∧ HCl X.K C
  nm : nmS h = x
theorem XT.exm (hT : XT X.K X.mg T) {c h : Nat} {C Ch : Addr} {b : Bool} (e : xLook T c h = some b) (hC : X.mg (nmS c) = some (.ref C)) (hh : X.mg (nmS h) = some (.ref Ch)) : PySem.W.exmOne X.K (.ref C) (.ref Ch) = some b ∧ XCl X.K C := by
  obtain ⟨C1, C2, a1, a2, a3, a4, a5⟩ := hT.rows _ _ _ (xLook_mem e)
  rw [hC] at a1; cases a1
  rw [hh] at a2; cases a2
  exact ⟨PySem.W.exm_ref a5.be a5.hd a5.ty a3, a4⟩
theorem PostS.noX {G : Gx} {F F' : Hp} {D : Ends} {r : Out} (g : Gr B F F') (q : PostS G B W F D (noX r)) : PostS G B (fun _ _ _ _ => False) F' D r := by
  cases r with
  | exc x S st => exact q.elim
  | nx S st => exact PostS.grow (W := fun _ _ _ _ => False) g (r := .nx S st) q
  | ret d S st => exact PostS.grow (W := fun _ _ _ _ => False) g (r := .ret d S st) q
  | bk S st => exact PostS.grow (W := fun _ _ _ _ => False) g (r := .bk S st) q
  | ct S st => exact PostS.grow (W := fun _ _ _ _ => False) g (r := .ct S st) q
  | rto w S st => exact PostS.grow (W := fun _ _ _ _ => False) g (r := .rto w S st) q
  | stuck => exact q
theorem ds_tryO {h : Nat} {x : Str} {body suite : List Stmt} {b0 : Stmt} {fb : EvS} {fs : Nat → EvS} (hT : XT X.K X.mg T) (hh : HNm X h x) (tk : Takes X W)
    (hb : ∀ (W' : WX) (pn : List (Addr × Obj)) (xe : Value → Shared → Prop), Takes (X.tr pn xe) W' → PassesOwn (model X.prog X.w) X.A X.env xe → DSs (X.tr pn xe) B W' body fb)
    (hsu : ∀ (a : Addr) (oe : Obj) (C : Addr) (pn : List (Addr × Obj)) (c : Nat), X.mg (nmS c) = some (.ref C) → XCl X.K C → Zc (.ref C) none oe → (∃ vs, oe.data = .fields vs) → DSs (X.suite a ((a, oe) :: pn)) B (fun _ _ _ _ => False) (b0 :: suite) (fs c))
    (hs : X.stack = X.env :: X.outer := by rfl) (hf : X.env.frame = some X.env.locals := by rfl) (hg : Gl X x := by rfl) (hdb : (x == ("__debug__" : Str)) = false := by decide) :
    DS X B W (.Try body [.ExceptHandler (some (.Name x np)) none (b0 :: suite) pos2] [] [] pos) (sTry T h fb fs) := by
  obtain ⟨⟨Ch, hCh, hcl⟩, hnm⟩ := hh
  have hCh' : X.mg (nmS h) = some (.ref Ch) := by rw [hnm]; exact hCh
  refine ps_imp (ps_try_only (ts := fun a cls d D σ H => ∃ (c : Nat) (C : Addr), cls = .ref C ∧ d = none ∧ X.mg (nmS c) = some (.ref C) ∧ XCl X.K C ∧ liftS (Cx.g X) B (fun _ _ _ _ => False) (fs c) D σ H) (tb := fun W' => liftS (Cx.g X) B W' fb) hs hf ⟨hg, hdb, .inl hCh⟩ tk hb (fun a oe cls d pn hz hfl => ⟨fun pins sh σ H D I z => ?_⟩)) fun D σ H ⟨F, S, st, o, q⟩ => ?_
  · obtain ⟨c, C, e1, e2, e3, e4, q⟩ := z
    subst e1; subst e2
    exact (hsu a oe C pn c e3 e4 hz hfl).run pins sh σ H D I q
  · refine ⟨F, S, st, o, ?_⟩
    unfold sTry at q
    generalize fb S st = r at q
    cases r with
    | exc x S1 st1 =>
      intro cls dd σ' H' F' g o' xr
      obtain ⟨C, hC, rfl, hd⟩ := id xr
      dsimp only at q
      cases hl : xLook T x.c h with
      | none => rw [hl] at q; exact q.elim
      | some b =>
        obtain ⟨hexm, hxc⟩ := hT.exm hl hC hCh'
        rw [hl] at q
        cases b with
        | false => exact ⟨false, hexm, fun z => (by cases z), fun _ => q _ _ σ' H' F' g o' xr⟩
        | true =>
          cases hfs : x.fs with
          | cons y r => rw [hfs] at q; exact q.elim
          | nil =>
            rw [hfs] at q
            have hdn : dd = none := by
              rcases hd with ⟨_, e⟩ | ⟨n, _⟩
              · exact e
              · exact absurd hfs n
            exact ⟨true, hexm, fun _ a ha => ⟨x.c, C, rfl, hdn, hC, hxc, F', S1, st1, o', PostS.noX g q⟩, fun z => (by cases z)⟩
    | nx S st => exact q
    | ret d S st => exact q
    | bk S st => exact q
    | ct S st => exact q
    | rto w S st => exact q
    | stuck => exact q
theorem PostS.clr {G : Gx} {F F' : Hp} {i : Nat} {D : Ends} {r : Out} (g : Gr B F F') (q : PostS G B W F D (clr i r)) :
    PostS G B (fun _ _ _ _ => False) F' { nx := fun σ' H' => D.nx (σ'.set i none) H', rt := D.rt, bk := fun σ' H' => D.bk (σ'.set i none) H', ct := fun σ' H' => D.ct (σ'.set i none) H' } r := by
  cases r with
  | exc x S st => exact q.elim
  | nx S st => exact fun σ' H' F2 g2 o => q (σ'.set i none) H' F2 (g.trans g2) (o.any i none)
  | ret d S st => exact fun v σ' H' F2 g2 o r => q v (σ'.set i none) H' F2 (g.trans g2) (o.any i none) r
  | bk S st => exact fun σ' H' F2 g2 o => q (σ'.set i none) H' F2 (g.trans g2) (o.any i none)
  | ct S st => exact fun σ' H' F2 g2 o => q (σ'.set i none) H' F2 (g.trans g2) (o.any i none)
  | rto w S st => exact fun p u σ' H' F2 g2 o => q p u (σ'.set i none) H' F2 (g.trans g2) (o.any i none)
  | stuck => exact q
theorem pickO_at {r : Addr → Out} (a : Addr) : pickO r = .stuck ∨ pickO r = r a := by
  unfold pickO
  by_cases h : ∃ o, ∀ a, r a = o
  · rw [dif_pos h]; exact .inr (Classical.choose_spec h a).symm
  · rw [dif_neg h]; exact .inl rfl
theorem ds_tryA {h i : Nat} {x n : Str} {body suite : List Stmt} {b0 : Stmt} {fb : EvS} {fs : Addr → Nat → EvS} (hT : XT X.K X.mg T) (hh : HNm X h x) (tk : Takes X W)
    (hN : X.N.Nodup)
    (hb : ∀ (W' : WX) (pn : List (Addr × Obj)) (xe : Value → Shared → Prop), Takes (X.tr pn xe) W' → PassesOwn (model X.prog X.w) X.A X.env xe → DSs (X.tr pn xe) B W' body fb)
    (hsu : ∀ (a : Addr) (oe : Obj) (C : Addr) (pn : List (Addr × Obj)) (c : Nat), X.mg (nmS c) = some (.ref C) → XCl X.K C → Zc (.ref C) none oe → (∃ vs, oe.data = .fields vs) → DSs (X.suite a ((a, oe) :: pn)) B (fun _ _ _ _ => False) (b0 :: suite) (fs a c))
    (hi : X.N[i]? = some n := by rfl) (hln : X.env.kindOf n = some .local := by rfl)
    (hs : X.stack = X.env :: X.outer := by rfl) (hf : X.env.frame = some X.env.locals := by rfl) (hg : Gl X x := by rfl) (hdb : (x == ("__debug__" : Str)) = false := by decide) :
    DS X B W (.Try body [.ExceptHandler (some (.Name x np)) (some n) (b0 :: suite) pos2] [] [] pos) (sTryA T h i fb fs) := by
  obtain ⟨⟨Ch, hCh, hcl⟩, hnm⟩ := hh
  have hCh' : X.mg (nmS h) = some (.ref Ch) := by rw [hnm]; exact hCh
  refine ps_imp (ps_try_as (ts := fun a cls d D σ H => ∃ (c : Nat) (C : Addr), cls = .ref C ∧ d = none ∧ X.mg (nmS c) = some (.ref C) ∧ XCl X.K C ∧ liftS (Cx.g X) B (fun _ _ _ _ => False) (fs a c) D σ H) (tb := fun W' => liftS (Cx.g X) B W' fb) hs hf hN hi hln ⟨hg, hdb, .inl hCh⟩ tk hb (fun a oe cls d pn hz hfl => ⟨fun pins sh σ H D I z => ?_⟩)) fun D σ H ⟨F, S, st, o, q⟩ => ?_
  · obtain ⟨c, C, e1, e2, e3, e4, q⟩ := z
    subst e1; subst e2
    exact (hsu a oe C pn c e3 e4 hz hfl).run pins sh σ H D I q
  · refine ⟨F, S, st, o, ?_⟩
    unfold sTryA at q
    generalize fb S st = r at q
    cases r with
    | exc x S1 st1 =>
      intro cls dd σ' H' F' g o' xr
      obtain ⟨C, hC, rfl, hd⟩ := id xr
      dsimp only at q
      cases hl : xLook T x.c h with
      | none => rw [hl] at q; exact q.elim
      | some b =>
        obtain ⟨hexm, hxc⟩ := hT.exm hl hC hCh'
        rw [hl] at q
        cases b with
        | false => exact ⟨false, hexm, fun z => (by cases z), fun _ => q _ _ σ' H' F' g o' xr⟩
        | true =>
          cases hfs : x.fs with
          | cons y r => rw [hfs] at q; exact q.elim
          | nil =>
            rw [hfs] at q
            have hdn : dd = none := by
              rcases hd with ⟨_, e⟩ | ⟨n, _⟩
              · exact e
              · exact absurd hfs n
            refine ⟨true, hexm, fun _ a ha => ⟨x.c, C, rfl, hdn, hC, hxc, F', _, st1, o'.set i (.err a x.c), ?_⟩, fun z => (by cases z)⟩
            dsimp only at q
            rcases pickO_at (r := fun a => DL.clr i (fs a x.c (S1.set i (.d (.err a x.c))) st1)) a with e | e
            · rw [e] at q; exact q.elim
            · rw [e] at q; exact PostS.clr g q
    | nx S st => exact q
    | ret d S st => exact q
    | bk S st => exact q
    | ct S st => exact q
    | rto w S st => exact q
    | stuck => exact q
end
/-! ### a def that is handed the caught exception -/
section
variable {P : Program} {w : World} {K : PySem.W.Frag} {mg : Str → Option Value} {base : Heap}
/-- what such a def says of the exception at a, of class c -/
abbrev CallP := Addr → Nat → CallT
def spP (G : Gx) (a : Addr) (c : Nat) (f : CallP) : Sp := fun vs H Q _ => vs = [.ref a] ∧ ∃ F st, Same F H ∧ match f a c [.err a c] st with
  | .ok d _ _ => ∀ v H' F', Same H H' → Same F' H' → Gr H F F' → Rp G F' v d → Q v H'
  | _ => False
structure DefP (P : Program) (w : World) (K : PySem.W.Frag) (mg : Str → Option Value) (base : Heap) (k : Nat) (x : Str) (f : CallP) : Prop where
  ex : ∃ (fa : Addr) (fd : FuncData) (n : Str), Binds K fd [n] [] ∧ mg x = some (.ref fa) ∧ PySem.W.keepIn K (.ref fa) = true ∧
    ∀ (a : Addr) (oe : Obj) (c : Nat) (C : Addr), mg (nmS c) = some (.ref C) → XCl K C → Zc (.ref C) none oe → (∃ vs, oe.data = .fields vs) →
      ∀ (A : Around) (outer : List Env) (s : Shared) (H : Hp) (args : Args) (us : List Value) (vs : List V) (Q : VK) (E : XK), L2H.RoomH k A → L2H.PinOk outer H s (a, oe) → Env0 P w K mg base A outer s H → BindsTo s fd args ([n].zip us) → Vals vs us → spP ⟨K, mg⟩ a c f vs H Q E →
        codeAny (model P w) A (.call (.ref fa) args) (CR (L2.CX P w) outer P w H s Q E) s
theorem defP_ok {x qual n : Str} {st : Stmt} {f : Addr} {fd : FuncData} {N : List Str} {k : Nat} {b : Addr → Nat → EvS} (F : Fun K x qual st f fd) (S : FnScope N [n] (defScope st)) (hb : Binds K fd [n] []) (hm : mg x = some (.ref f))
    (body : ∀ (a : Addr) (oe : Obj) (c : Nat) (C : Addr), mg (nmS c) = some (.ref C) → XCl K C → Zc (.ref C) none oe → (∃ vs, oe.data = .fields vs) → ∀ (cdv : Value) (A : Around) (outer : List Env) (s : Shared) (H : Hp) (E : XK),
      DSs (L2H.cxH (L2.CX P w) P w K mg base N qual (defScope st) f cdv A outer s H E (a, oe)) H (fun _ _ _ _ => False) (defBody st) (b a c)) : DefP P w K mg base (k + 1) x (fun a c => runB N.length (b a c)) := by
  refine ⟨f, fd, n, hb, hm, F.kp, fun a oe c C hC hx hz hf A outer s H args us vs Q E hr hpin e0 hbi r hsp => ?_⟩
  obtain ⟨oc, od, kV, doc, pm, an, cdv, ct, osl, rfl, lk, hcd⟩ := F.ex
  obtain ⟨rfl, F0, st0, f0, q⟩ := hsp
  have KX : K.In s.heap := e0.mod.kin.keeps fun b o e => (e0.bs b o e).1
  have lim : s.heap.NoLimit := e0.mod.nolimit.keeps fun b o e => (e0.bs b o e).1
  have hkind : ∀ y ∈ [n].zip us, (defScope st).names.lookup y.1 = some .local ∨ ((defScope st).names.lookup y.1 = some .cell ∧ ((cellsFrom (s.heap.objs.size + 1) (defScope st).names []).lookup y.1).isSome = true) := fun ⟨y, v⟩ hy => by
    rcases S.par y (List.of_mem_zip hy).1 with q | q
    · exact .inl q
    · exact .inr ⟨q, PySem.W.cellsFrom_some _ _ _ (.inl q)⟩
  refine codeAny_call_function hr.depth (KX _ _ lk) rfl S.co S.gen rfl (PySem.W.codeRec_of KX hcd) (hbi _ _ _ _ ?_)
  refine wpAny_newFunctionEnv_cells S.kind hkind fun env he s1 y => ?_
  subst he
  refine ⟨lim.keeps y.toInCall.keep, codeAny_func ?_⟩
  have hN : 1 ≤ N.length := by have := congrArg List.length S.pre; rw [List.length_take] at this; simp at this; omega
  have ra : RpAll (⟨K, mg⟩ : Gx) F0 [V.ref a] [D.err a c] := .cons (.err a c) .nil
  have I : Inv (L2H.cxH (L2.CX P w) P w K mg base N qual (defScope st) f cdv A outer s H E (a, oe)) [] (L2.start N [.ref a]) H s1 := L2H.inv_startH S hpin e0 rfl r y
  have hq : liftS (⟨K, mg⟩ : Gx) H (fun _ _ _ _ => False) (b a c) { nx := fun _ H' => Q .non H', rt := Q } (L2.start N [.ref a]) H := by
    refine ⟨F0, _, st0, Ok.start f0 ra (by simpa using hN), ?_⟩
    unfold runB at q
    dsimp only at q
    revert q
    generalize b a c ([D.err a c].map Sl.d ++ List.replicate (N.length - [D.err a c].length) .no) st0 = r
    intro q
    cases r with
    | nx S1 st1 => exact fun σ' H' F' g o => q .non H' F' o.kp o.fH g .non
    | ret d S1 st1 => exact fun v σ' H' F' g o rr => q v H' F' o.kp o.fH g rr
    | exc y S1 st1 => exact q.elim
    | bk S1 st1 => exact q.elim
    | ct S1 st1 => exact q.elim
    | rto w1 S1 st1 => exact q.elim
    | stuck => exact q.elim
  refine wpAny_mono ((body a oe c C hC hx hz hf cdv A outer s H E).run [] s1 (L2.start N [.ref a]) H _ I hq) (fun fl s' hs => ?_) fun e s' hs => hs
  have fin : ∀ {σ' : L2.St} {H' : Hp} {v : V} {u : Value}, Inv (L2H.cxH (L2.CX P w) P w K mg base N qual (defScope st) f cdv A outer s H E (a, oe)) [] σ' H' s' → RelV v u → Q v H' → CE outer P w H s Q u s' :=
    fun {σ' H' v u} J rv q => ⟨v, H', J.os, J.bare, J.base, J.hok, rv, q⟩
  cases fl with
  | ret u =>
    obtain ⟨v, σ', H', J, rv, q⟩ := hs
    exact fin J rv q
  | next =>
    obtain ⟨σ', H', J, q⟩ := hs
    exact fin (v := V.non) (u := Value.none) J rfl q
  | brk =>
    obtain ⟨_, _, _, q⟩ := hs
    exact False.elim q
  | cont =>
    obtain ⟨_, _, _, q⟩ := hs
    exact False.elim q
theorem DefP.mono {k j : Nat} {x : Str} {f : CallP} (d : DefP P w K mg base k x f) (h : k ≤ j) : DefP P w K mg base j x f := by
  obtain ⟨fa, fd, n, h1, h2, h3, h4⟩ := d.ex
  exact ⟨fa, fd, n, h1, h2, h3, fun a oe c C hC hx hz hf A outer s H args us vs Q E hr => h4 a oe c C hC hx hz hf A outer s H args us vs Q E (hr.mono h)⟩
end
/-- x(n), n in slot i the exception at a, of class c -/
def cPE (f : CallP) (a : Addr) (c i : Nat) : Ev D := fun S st => match S[i]? with
  | some (.d (.err a' c')) => if a' = a ∧ c' = c then (match f a c [.err a c] st with
    | .ok d _ st => .ok d S st
    | _ => .stuck) else .stuck
  | _ => .stuck
section
variable {X : Cx} {B : Hp} {W : WX} {pos p pe : Pos} {a C : Addr} {oe : Obj} {c i k : Nat} {x n : Str} {f : CallP}
theorem de_cP (d : DefP X.prog X.w X.K X.mg X.base k x f) (hr : L2H.RoomH k X.A) (hC : X.mg (nmS c) = some (.ref C)) (hx : XCl X.K C) (hz : Zc (.ref C) none oe) (hf : ∃ vs, oe.data = .fields vs) (hp : (a, oe) ∈ X.pn) (tk : Takes X (fun _ _ _ _ => False))
    (hn : PE X (.Name n pe) (tVar i)) (hg : Gl X x := by rfl) (hdb : (x == ("__debug__" : Str)) = false := by decide)
    (he : starEach [.Name n pe] X.env = (false, eval (.Name n pe) X.env) :: starEach [] X.env := by rfl) (hpl : (backTo pos (starEach [] X.env)).any (·.1) = false := by rfl) : DE X B W (.Call (.Name x p) [.Name n pe] [] pos) (cPE f a c i) := by
  obtain ⟨fa, fd, m, hb, hm, hk, F⟩ := d.ex
  refine ⟨fun pins s σ H Q I h => ?_⟩
  refine wpAny_Call_Name_kw (ld_glob I hg hm ?_ hdb)
  obtain ⟨F0, S, st, o, q⟩ := h
  unfold cPE at q
  split at q
  · rename_i a' c' hS
    split at q
    · rename_i hh
      obtain ⟨rfl, rfl⟩ := hh
      have ha : PA X [.Name n pe] _ := pa_cons hn pa_nil he
      refine PySem.W.callWith_K (h₀ := X.base) I.ok.mod.kin hk (thn (ha.run pos pins s σ H (fun vs H1 => vs = [.ref a'] ∧ H1 = H) I ⟨_, o.errSlot hS, rfl, rfl⟩) fun us s1 ⟨vs, H1, I1, r, q1⟩ => ⟨I1.kIn, ?_⟩) he hpl
      obtain ⟨rfl, rfl⟩ := q1
      obtain ⟨u1, rfl, r1⟩ : ∃ u1, us = [u1] ∧ RelV (.ref a') u1 := by
        cases r with
        | cons r1 r2 => cases r2; exact ⟨_, rfl, r1⟩
      have P1 := I1.pin (a', oe) (List.mem_append_left _ hp)
      have hpin : L2H.PinOk X.stack H1 s1 (a', oe) := ⟨P1.1, P1.2.1, fun hm => (List.mem_cons.mp (I1.stkSub a' hm)).elim P1.2.2.1 P1.2.2.2.1, P1.2.2.2.2⟩
      have b := hb s1 [u1] I1.kIn rfl
      rw [List.append_nil] at b
      refine wpAny_call (codeAny_mono (F a' oe c' C hC hx hz hf X.A X.stack s1 H1 ⟨[u1], []⟩ [u1] [.ref a'] Q (WE (fun _ _ _ _ => False) σ) hr hpin I1.env0 b r ⟨rfl, F0, st, o.fH, ?_⟩) fun r s' hq => ?_)
      · revert q
        generalize f a' c' [.err a' c'] st = r'
        intro q
        cases r' with
        | ok d S1 st1 => exact fun v H' F' k g gr rr => q v H' F' (o.gr gr) (o.grow gr k g) rr
        | exc y S1 st1 => exact q.elim
        | stuck => exact q.elim
      · cases r with
        | error e => exact passAt tk σ pins H1 s1 e s' I1 hq
        | ok fl =>
          cases fl with
          | ret u => exact I1.after hq
          | next => exact False.elim hq
          | brk => exact False.elim hq
          | cont => exact False.elim hq
    · exact q.elim
  · exact q.elim
end
/-! ### isinstance of a caught one, by names -/
def tgt (T : XTab) (t : Nat) : Bool := T.any fun r => r.2.1 == t
theorem tgt_ex {K : PySem.W.Frag} {mg : Str → Option Value} {T : XTab} (hT : XT K mg T) {t : Nat} (h : tgt T t = true) : ∃ Ct, mg (nmS t) = some (.ref Ct) ∧ HCl K Ct := by
  unfold tgt at h
  obtain ⟨⟨c, t', b⟩, hm, e⟩ := List.any_eq_true.mp h
  have e' : t' = t := by simpa using e
  subst e'
  obtain ⟨C, Ct, a1, a2, a3, a4, a5⟩ := hT.rows _ _ _ hm
  exact ⟨Ct, a2, a5⟩
theorem hnm_of {X : Cx} {T : XTab} (hT : XT X.K X.mg T) {h : Nat} {x : Str} (ht : tgt T h = true) (hx : nmS h = x) : HNm X h x := by
  obtain ⟨C, a, b⟩ := tgt_ex hT ht
  rw [hx] at a
  exact ⟨⟨C, a, b⟩, hx⟩
inductive TN (X : Cx) (T : XTab) : List Expr → List (Option Nat) → Prop
  | nil : TN X T [] []
  | ve {p : Pos} {es : List Expr} {ts : List (Option Nat)} : Gl X "ValueError" → TN X T es ts → TN X T (.Name "ValueError" p :: es) (none :: ts)
  | own {x : Str} {t : Nat} {p : Pos} {es : List Expr} {ts : List (Option Nat)} : Gl X x → (x == ("__debug__" : Str)) = false → nmS t = x → tgt T t = true → TN X T es ts → TN X T (.Name x p :: es) (some t :: ts)
section
variable {X : Cx} {B : Hp} {W : WX} {T : XTab}
theorem TN.all (hT : XT X.K X.mg T) : ∀ {es : List Expr} {ts : List (Option Nat)}, TN X T es ts → ∃ vs us, TNs X es ts vs ∧ TVs X.mg ts vs us ∧ vs.length = ts.length
  | _, _, .nil => ⟨[], [], .nil, .nil, rfl⟩
  | _, _, .ve hg r => by
    obtain ⟨vs, us, a, b, c⟩ := r.all hT
    exact ⟨_, _, .cons (pe_bltn (v := .ty "ValueError") (u := .type "ValueError") hg hT.ve rfl rfl) rfl a, .ve b, by simp [c]⟩
  | _, _, .own hg hd hx ht r => by
    obtain ⟨vs, us, a, b, c⟩ := r.all hT
    obtain ⟨Ct, m, h⟩ := tgt_ex hT ht
    have m' := m
    rw [hx] at m
    exact ⟨_, _, .cons (pe_glob (v := .ref Ct) (u := .ref Ct) hg m rfl hd) rfl a, .own m' b, by simp [c]⟩
variable {a C : Addr} {oe : Obj} {cx : Nat} {pos p pe p2 : Pos}
theorem de_isI1 {i : Nat} {n : Str} {t : Option Nat} {e : Expr} (hT : XT X.K X.mg T) (hp : (a, oe) ∈ X.pn) (hz : Zc (.ref C) none oe) (hf : ∃ vs, oe.data = .fields vs) (hC : X.mg (nmS cx) = some (.ref C)) (hx : XCl X.K C) (hi : X.mg "isinstance" = none)
    (hn : PE X (.Name n pe) (tVar i)) (he : TN X T [e] [t]) (hg : Gl X "isinstance" := by rfl)
    (hs : starEach [.Name n pe, e] X.env = (false, eval (.Name n pe) X.env) :: starEach [e] X.env := by rfl) (hpl : (backTo pos (starEach [e] X.env)).any (·.1) = false := by rfl) : DE X B W (.Call (.Name "isinstance" p) [.Name n pe, e] [] pos) (isE T a cx [t] i) := by
  obtain ⟨vs, us, h1, h2, h3⟩ := he.all hT
  cases h1 with
  | cons h1 hs2 r =>
    cases r
    cases h2 with
    | ve r => cases r; exact de_isE1 hT hp hz hf hC hx hi hn h1 (.ve .nil) hg hs hs2 hpl
    | own m r => cases r; exact de_isE1 hT hp hz hf hC hx hi hn h1 (.own m .nil) hg hs hs2 hpl
theorem de_isIT {i : Nat} {n : Str} {ts : List (Option Nat)} {es : List Expr} {x1} (hT : XT X.K X.mg T) (hp : (a, oe) ∈ X.pn) (hz : Zc (.ref C) none oe) (hf : ∃ vs, oe.data = .fields vs) (hC : X.mg (nmS cx) = some (.ref C)) (hx : XCl X.K C) (hi : X.mg "isinstance" = none)
    (hn : PE X (.Name n pe) (tVar i)) (he : TN X T es ts) (hl : ts.length ≤ 1000 := by decide) (hg : Gl X "isinstance" := by rfl)
    (hs : starEach [.Name n pe, .Tuple es x1 p2] X.env = (false, eval (.Name n pe) X.env) :: starEach [.Tuple es x1 p2] X.env := by rfl) (hs2 : starEach [.Tuple es x1 p2] X.env = (false, eval (.Tuple es x1 p2) X.env) :: starEach [] X.env := by rfl) (hpl : (backTo pos (starEach [.Tuple es x1 p2] X.env)).any (·.1) = false := by rfl) : DE X B W (.Call (.Name "isinstance" p) [.Name n pe, .Tuple es x1 p2] [] pos) (isE T a cx ts i) := by
  obtain ⟨vs, us, h1, h2, h3⟩ := he.all hT
  exact de_isET hT hp hz hf hC hx hi hn h1 h2 (by omega) hg hs hs2 hpl
end
end DL

namespace DL
open PySem PySem.Spec PyProof.Rows L2

theorem OpR.or {X : Cx} {f : Value → Value → Sem Value} {r r' : R2} (h : OpR X f r) (h' : OpR X f r') : OpR X f (fun x y H Q => r x y H Q ∨ r' x y H Q) := by
  intro pins s σ H x y v u Q I rx ry q
  rcases q with q | q
  · exact h pins s σ H x y v u Q I rx ry q
  · exact h' pins s σ H x y v u Q I rx ry q
theorem CallR.or {X : Cx} {f : Value} {r r' : List V → Hp → VK → Prop} (h : CallR X f r) (h' : CallR X f r') : CallR X f (fun x H Q => r x H Q ∨ r' x H Q) := by
  intro pins s σ H xs us Q I rs q
  rcases q with q | q
  · exact h pins s σ H xs us Q I rs q
  · exact h' pins s σ H xs us Q I rs q

/-! ### data, seen -/
section
variable {G : Gx} {F H : Hp} {v : V} {d : D}
theorem Vw.int_eq {i : Int} (h : Vw G F H v (.int i)) : v = .int i := by
  rcases h with h | ⟨_, _, w, _, _, _, e⟩
  · cases h; rfl
  · cases w <;> cases e
theorem Vw.bl_eq {i : Bool} (h : Vw G F H v (.bl i)) : v = .bl i := by
  rcases h with h | ⟨_, _, w, _, _, _, e⟩
  · cases h; rfl
  · cases w <;> cases e
theorem Vw.non_eq (h : Vw G F H v .non) : v = .non := by
  rcases h with h | ⟨_, _, w, _, _, _, e⟩
  · cases h; rfl
  · cases w <;> cases e
theorem Vw.ty_eq {n : String} (h : Vw G F H v (.ty n)) : v = .ty n := by
  rcases h with h | ⟨_, _, w, _, _, _, e⟩
  · cases h; rfl
  · cases w <;> cases e
theorem Vw.str_eq {s : List Nat} (h : Vw G F H v (.str s)) : v = .str (tx s) ∧ okS s = true := by
  rcases h with h | ⟨_, _, w, _, _, _, e⟩
  · cases h with | str _ o => exact ⟨rfl, o⟩
  · cases w <;> cases e
def asL : D → Option (List D)
  | .lst ds => some ds
  | .scr ns => some (ns.map .int)
  | _ => none
theorem Vw.seqL {ds : List D} (h : Vw G F H v d) (f : Same F H) (e : asL d = some ds) : ∃ p xs, v = .ref p ∧ SqL G.K H p xs ∧ RpAll G F xs ds := by
  rcases h with h | ⟨p, u, w, rfl, hp, ow, rfl⟩
  · cases h with
    | lst h1 h2 => cases e; exact ⟨_, _, rfl, .inl (.inl (f _ _ h1)), h2⟩
    | scr h1 => cases e; exact ⟨_, _, rfl, f.seq h1, rp_ints G F _⟩
    | _ => cases e
  · cases ow with
    | l r => cases e; exact ⟨_, _, rfl, .inl (.inl hp), r⟩
    | _ => cases e
theorem Vw.lst {ds : List D} (h : Vw G F H v (.lst ds)) (f : Same F H) : ∃ p xs, v = .ref p ∧ H p = some (.lst xs) ∧ RpAll G F xs ds := by
  rcases h with h | ⟨p, u, w, rfl, hp, ow, e⟩
  · cases h with
    | lst h1 h2 => exact ⟨_, _, rfl, f _ _ h1, h2⟩
  · cases ow with
    | l r => cases e; exact ⟨_, _, rfl, hp, r⟩
    | _ => cases e
theorem Vw.tup {ds : List D} (h : Vw G F H v (.tup ds)) (f : Same F H) : ∃ p xs, v = .ref p ∧ SqT G.K H p xs ∧ RpAll G F xs ds := by
  rcases h with h | ⟨p, u, w, rfl, hp, ow, e⟩
  · cases h with
    | tup h1 h2 => exact ⟨_, _, rfl, same_seqT f h1, h2⟩
  · cases w <;> cases e
theorem Vw.tup' {ds : List D} (h : Vw G F H v (.tup ds)) : Rp G F v (.tup ds) := by
  rcases h with h | ⟨p, u, w, rfl, hp, ow, e⟩
  · exact h
  · cases w <;> cases e
theorem gives_v {r : VK → Prop} (rp : Rp G F v d) (f : Same F H) (h : ∀ Q : VK, Q v H → r Q) : Gives r G F H d := fun Q k => h Q (k v H F (Same.refl H) f .refl rp)
theorem gives_tup {r : VK → Prop} {xs : List V} {ds : List D} (rp : RpAll G F xs ds) (f : Same F H) (h : ∀ Q : VK, (∀ p, H p = none → Q (.ref p) (upd H p (.tup xs))) → r Q) : Gives r G F H (.tup ds) := fun Q k => h Q fun p hp =>
  k _ _ (upd F p (.tup xs)) (same_new hp) (same_upd2 f) (gr_new f hp) (.tup (.inl (.inl upd_same)) (rp.mono (gr_new (o := .tup xs) f hp).1))
theorem lays_l {r : VK → Prop} {xs : List V} {ds : List D} (rp : RpAll G F xs ds) (h : ∀ Q : VK, (∀ p, H p = none → Q (.ref p) (upd H p (.lst xs))) → r Q) : Lays r G F H (.l ds) := fun Q k => h Q fun p hp => k p _ hp (.l rp)
theorem gives_lst {r : VK → Prop} {xs : List V} {ds : List D} (rp : RpAll G F xs ds) (f : Same F H) (h : ∀ Q : VK, (∀ p, H p = none → Q (.ref p) (upd H p (.lst xs))) → r Q) : Gives r G F H (.lst ds) := (lays_l rp h).gives f
end
section
variable {G : Gx} {X : Cx}

/-! ### numbers -/
def dI2 (c : Int → Int → Bool) (g : Int → Int → Int) : D → D → Option D
  | .int i, .int j => if c i j = true then some (.int (g i j)) else none
  | _, _ => none
theorem op2_I {C : Int → Int → Prop} {c : Int → Int → Bool} {g : Int → Int → Int} (hc : ∀ i j, c i j = true → C i j) : Op2 G (rI C fun i j => .int (g i j)) (dI2 c g) := fun F H v w x y d f hv hw e => by
  unfold dI2 at e
  split at e
  · split at e
    · rename_i i j h
      cases e
      cases hv.int_eq; cases hw.int_eq
      exact gives_v (.int _) f fun Q q => ⟨i, j, rfl, rfl, hc i j h, q⟩
    · cases e
  · cases e
def dI0 (g : Int → Int → Int) : D → D → Option D
  | .int i, .int j => some (.int (g i j))
  | _, _ => none
theorem op2_I0 {g : Int → Int → Int} : Op2 G (rI0 fun i j => .int (g i j)) (dI0 g) := fun F H v w x y d f hv hw e => by
  unfold dI0 at e
  split at e
  · cases e
    cases hv.int_eq; cases hw.int_eq
    exact gives_v (.int _) f fun Q q => ⟨_, _, rfl, rfl, q⟩
  · cases e
def dSub := dI0 fun i j => i - j
theorem op_dSub : Op2 G (rI0 fun i j => .int (i - j)) dSub := op2_I0
/-- a bound for a product -/
def mulC (i j : Int) : Bool := decide (i.natAbs.log2 + j.natAbs.log2 < 100000000)
theorem mulC_ok {i j : Int} (h : mulC i j = true) : CMulX i j := by
  have h := of_decide_eq_true h
  have b : ∀ x : Int, Builtin.Int.intBits x ≤ x.natAbs.log2 + 1 := fun x => by
    unfold Builtin.Int.intBits
    split <;> omega
  have h1 := b i
  have h2 := b j
  unfold CMulX
  omega
def dFdiv := dI2 (fun _ j => decide (0 < j) && decide (j.natAbs.log2 < 9000)) fun i j => i / j
theorem op_dFdiv : Op2 G (rI CDivW fun i j => .int (i / j)) dFdiv := op2_I fun i j h => by
  rw [Bool.and_eq_true] at h
  exact ⟨of_decide_eq_true h.1, of_decide_eq_true h.2⟩
def dMod := dI2 (fun _ j => decide (0 < j)) fun i j => i % j
theorem op_dMod : Op2 G (rI (fun _ j => 0 < j) fun i j => .int (i % j)) dMod := op2_I fun i j h => of_decide_eq_true h
/-- ** with a small base, or of few bits in all -/
def CPowW (i j : Int) : Prop := 0 ≤ j ∧ (Builtin.Int.intBits i : Int) * j ≤ 2 ^ 27
theorem op_powW {X : Cx} : OpR X (binaryOp .Pow) (rI CPowW fun i j => .int (i ^ j.toNat)) := opI fun _ _ _ _ _ _ _ hc q => pow_int hc.1 hc.2 q
def dPow := dI2 (fun i j => decide (0 ≤ j) && (decide (j ≤ 1000000) && decide (i.natAbs < 18446744073709551616) || decide (((i.natAbs.log2 + 1 : Nat) : Int) * j ≤ 134217728))) fun i j => i ^ j.toNat
theorem op_dPow : Op2 G (rI CPowW fun i j => .int (i ^ j.toNat)) dPow := op2_I fun i j h => by
  rw [Bool.and_eq_true, Bool.or_eq_true, Bool.and_eq_true] at h
  have h0 := of_decide_eq_true h.1
  refine ⟨h0, ?_⟩
  rcases h.2 with h | h
  · have h1 := of_decide_eq_true h.1
    have h2 := of_decide_eq_true h.2
    exact bits_mul_le (a := i) (by omega) h0 h1
  · have h := of_decide_eq_true h
    have b : (Builtin.Int.intBits i : Int) ≤ ((i.natAbs.log2 + 1 : Nat) : Int) := by
      unfold Builtin.Int.intBits
      split <;> omega
    exact Int.le_trans (Int.mul_le_mul_of_nonneg_right b h0) h
def dShr := dI2 (fun _ j => decide (0 ≤ j)) fun i j => i / 2 ^ j.toNat
theorem op_dShr : Op2 G (rI (fun _ j => 0 ≤ j) fun i j => .int (i / 2 ^ j.toNat)) dShr := op2_I fun i j h => of_decide_eq_true h
def dShl := dI2 (fun i j => decide (0 ≤ j) && decide (i.natAbs.log2 + j < 100000000)) fun i j => i * 2 ^ j.toNat
theorem op_dShl : Op2 G (rI CShl fun i j => .int (i * 2 ^ j.toNat)) dShl := op2_I fun i j h => by
  rw [Bool.and_eq_true] at h
  have h1 := of_decide_eq_true h.1
  have h2 := of_decide_eq_true h.2
  have b : Builtin.Int.intBits i ≤ i.natAbs.log2 + 1 := by
    unfold Builtin.Int.intBits
    split <;> omega
  exact ⟨h1, by omega⟩
def dAnd := dI0 Builtin.bitAnd
theorem op_dAnd : Op2 G (rI0 fun i j => .int (Builtin.bitAnd i j)) dAnd := op2_I0
def dOr := dI0 Builtin.bitOr
theorem op_dOr : Op2 G (rI0 fun i j => .int (Builtin.bitOr i j)) dOr := op2_I0
def dXor := dI0 Builtin.bitXor
theorem op_dXor : Op2 G (rI0 fun i j => .int (Builtin.bitXor i j)) dXor := op2_I0
def dNeg : D → Option D
  | .int i => some (.int (-i))
  | _ => none
theorem op_dNeg : Op1 G (rU fun i => .int (-i)) dNeg := fun F H v x d f hv e => by
  unfold dNeg at e
  split at e
  · cases e; cases hv.int_eq
    exact gives_v (.int _) f fun Q q => ⟨_, rfl, q⟩
  · cases e

/-! ### +, * of several kinds -/
def rAddS : R2 := fun x y H Q => ∃ i j, x = .str i ∧ y = .str j ∧ i.length + j.length ≤ sizeLine ∧ Q (.str (i ++ j)) H
def rAddD (K : PySem.W.Frag) : R2 := fun x y H Q => rI0 (fun i j => .int (i + j)) x y H Q ∨ rAddS x y H Q ∨ rCat x y H Q ∨ rCatA K x y H Q
theorem opR_add : OpR X (binaryOp .Add) (rAddD X.K) := OpR.or op_add (OpR.or op_add_str (OpR.or op_cat op_catA))
def dAdd : D → D → Option D
  | .int i, .int j => some (.int (i + j))
  | .str s, .str t => if s.length + t.length ≤ 16777216 then some (.str (s ++ t)) else none
  | .lst s, .lst t => if s.length + t.length ≤ 16777216 then some (.lst (s ++ t)) else none
  | .tup s, .tup t => if s.length + t.length ≤ 16777216 then some (.tup (s ++ t)) else none
  | _, _ => none
theorem op_dAdd : Op2 G (rAddD G.K) dAdd := fun F H v w x y d f hv hw e => by
  unfold dAdd at e
  split at e
  · cases e
    cases hv.int_eq; cases hw.int_eq
    exact gives_v (.int _) f fun Q q => .inl ⟨_, _, rfl, rfl, q⟩
  · split at e
    · rename_i h
      cases e
      obtain ⟨rfl, o1⟩ := hv.str_eq
      obtain ⟨rfl, o2⟩ := hw.str_eq
      exact gives_v (.str _ (okS_app o1 o2)) f fun Q q => .inr (.inl ⟨_, _, rfl, rfl, by rw [tx_len, tx_len, sizeLine_eq]; exact h, by rw [tx_app]; exact q⟩)
    · cases e
  · split at e
    · rename_i h
      cases e
      obtain ⟨p, xs, rfl, h1, r1⟩ := hv.lst f
      obtain ⟨q, ys, rfl, h2, r2⟩ := hw.lst f
      exact gives_lst (r1.append r2) f fun Q q => .inr (.inr (.inl ⟨_, _, _, _, rfl, rfl, h1, h2, by rw [r1.length, r2.length, sizeLine_eq]; exact h, q⟩))
    · cases e
  · split at e
    · rename_i h
      cases e
      obtain ⟨p, xs, rfl, h1, r1⟩ := hv.tup f
      obtain ⟨q, ys, rfl, h2, r2⟩ := hw.tup f
      have l1 := r1.length
      have l2 := r2.length
      intro Q k
      refine .inr (.inr (.inr ⟨_, _, _, _, rfl, rfl, h1, h2, by rw [l1, l2, sizeLine_eq]; exact h, fun e => ?_, fun e1 e2 => ?_, fun _ _ => ?_⟩))
      · subst e
        cases r1
        exact k _ _ F (Same.refl H) f .refl hw.tup'
      · subst e2
        cases r2
        rw [List.append_nil] at k
        exact k _ _ F (Same.refl H) f .refl hv.tup'
      · exact fun p hp => gives_tup (r := fun Q => ∀ p, H p = none → Q (.ref p) (upd H p (.tup (xs ++ ys)))) (r1.append r2) f (fun Q q => q) Q k p hp
    · cases e
  · cases e
/-- .. as a new list -/
def dAddF : D → D → Option Ow
  | .lst s, .lst t => if s.length + t.length ≤ 16777216 then some (.l (s ++ t)) else none
  | _, _ => none
theorem op_dAddF : Op2F G (rAddD G.K) dAddF := fun F H v w x y d f hv hw e => by
  unfold dAddF at e
  split at e
  · split at e
    · rename_i h
      cases e
      obtain ⟨p, xs, rfl, h1, r1⟩ := hv.lst f
      obtain ⟨q, ys, rfl, h2, r2⟩ := hw.lst f
      exact lays_l (r1.append r2) fun Q q => .inr (.inr (.inl ⟨_, _, _, _, rfl, rfl, h1, h2, by rw [r1.length, r2.length, sizeLine_eq]; exact h, q⟩))
    · cases e
  · cases e
/-- n copies, one behind the other -/
def reps {α : Type} (s : List α) (n : Nat) : List α := (List.replicate n s).flatten
def rMulS : R2 := fun x y H Q => ∃ s k, x = .str s ∧ y = .int k ∧ MulOk s k ∧ Q (.str (Txt.mul s k)) H
theorem op_mulS : OpR X (binaryOp .Mult) rMulS := by
  intro pins s σ H x y v u Q I rx ry h
  obtain ⟨z, k, rfl, rfl, hk, q⟩ := h
  obtain ⟨t, rfl⟩ := rx
  obtain ⟨t', rfl⟩ := ry
  exact SB.mul hk fun t2 k2 => ⟨.str _, H, I.tok _, ⟨_, rfl⟩, q⟩
def rMulD : R2 := fun x y H Q => rI CMulX (fun i j => .int (i * j)) x y H Q ∨ rMulS x y H Q ∨ rRep x y H Q
theorem opR_mul : OpR X (binaryOp .Mult) rMulD := OpR.or op_mulX (OpR.or op_mulS op_rep)
theorem foldl_app (x : Array Nat) : ∀ (n : Nat) (a : Array Nat), ((List.replicate n x).foldl (· ++ ·) a).toList = a.toList ++ reps x.toList n
  | 0, a => by simp [reps]
  | n + 1, a => by
    rw [List.replicate_succ, List.foldl_cons, foldl_app x n]
    simp [reps, List.replicate_succ]
theorem mul_reps (s : List Nat) (n : Int) : Txt.mul (tx s) n = tx (reps s n.toNat) := by
  unfold Txt.mul
  split
  · rename_i h
    have : n.toNat = 0 := by omega
    rw [this]; rfl
  · split
    · rename_i h1 h2
      rw [Bool.or_eq_true] at h2
      rcases h2 with h2 | h2
      · have : n = 1 := by simpa using h2
        subst this
        simp [reps, tx]
      · have : s = [] := by
          rw [tx_len] at h2
          exact List.eq_nil_of_length_eq_zero (by simpa using h2)
        subst this
        simp [reps, tx]
    · have e : ((List.replicate n.toNat (tx s).cps).foldl (· ++ ·) #[]).toList = reps s n.toNat := by
        rw [foldl_app]; simp [tx]
      rw [← e]
      simp [tx]
theorem okS_reps {s : List Nat} (h : okS s = true) (n : Nat) : okS (reps s n) = true := okS_sub h fun c m => by
  unfold reps at m
  obtain ⟨l, h1, h2⟩ := List.mem_flatten.mp m
  rw [(List.mem_replicate.mp h1).2] at h2
  exact h2
theorem RpAll.reps {G : Gx} {F : Hp} {xs : List V} {ds : List D} (r : RpAll G F xs ds) : ∀ n : Nat, RpAll G F (List.replicate n xs).flatten (DL.reps ds n)
  | 0 => .nil
  | n + 1 => by
    rw [List.replicate_succ, List.flatten_cons]
    unfold DL.reps
    rw [List.replicate_succ, List.flatten_cons]
    exact r.append (RpAll.reps r n)
def dMul : D → D → Option D
  | .int i, .int j => if mulC i j = true then some (.int (i * j)) else none
  | .str s, .int k => if decide (0 ≤ k) && decide (k ≤ 1000000) && decide (s.length * k.toNat ≤ 1000000) then some (.str (reps s k.toNat)) else none
  | .lst s, .int k => if decide (0 ≤ k) && decide (k ≤ 1000000) && decide (s.length * k.toNat ≤ 1000000) then some (.lst (reps s k.toNat)) else none
  | _, _ => none
theorem mulOk_of {s : List Nat} {k : Int} (h0 : 0 ≤ k) (h1 : k ≤ 1000000) (h2 : s.length * k.toNat ≤ 1000000) : MulOk (tx s) k := by
  refine ⟨?_, fun a b => ?_, fun a b => ?_⟩
  · rw [decide_eq_false (by omega), decide_eq_false (by omega)]; rfl
  · rw [tx_len]
    have hk : 0 < k.toNat := by omega
    have hs : s.length ≤ 1000000 := Nat.le_trans (Nat.le_mul_of_pos_right _ hk) h2
    have : (1000000 : Int) ≤ (2 ^ 63 - 1) / k := by
      refine (Int.le_ediv_iff_mul_le (by omega)).mpr ?_
      have : (1000000 : Int) * k ≤ 1000000 * 1000000 := Int.mul_le_mul_of_nonneg_left h1 (by decide)
      omega
    omega
  · rw [tx_len]
    unfold Builtin.Str.tooLong
    have := sizeLine_eq
    simp
    omega
theorem op_dMul : Op2 G rMulD dMul := fun F H v w x y d f hv hw e => by
  unfold dMul at e
  split at e
  · split at e
    · rename_i h
      cases e
      cases hv.int_eq; cases hw.int_eq
      exact gives_v (.int _) f fun Q q => .inl ⟨_, _, rfl, rfl, mulC_ok h, q⟩
    · cases e
  · split at e
    · rename_i h
      cases e
      obtain ⟨rfl, o1⟩ := hv.str_eq
      cases hw.int_eq
      rw [Bool.and_eq_true, Bool.and_eq_true, decide_eq_true_eq, decide_eq_true_eq, decide_eq_true_eq] at h
      exact gives_v (.str _ (okS_reps o1 _)) f fun Q q => .inr (.inl ⟨_, _, rfl, rfl, mulOk_of h.1.1 h.1.2 h.2, by rw [mul_reps]; exact q⟩)
    · cases e
  · split at e
    · rename_i h
      cases e
      obtain ⟨p, xs, rfl, h1, r1⟩ := hv.lst f
      cases hw.int_eq
      rw [Bool.and_eq_true, Bool.and_eq_true, decide_eq_true_eq, decide_eq_true_eq, decide_eq_true_eq] at h
      have l1 := r1.length
      exact gives_lst (r1.reps _) f fun Q q => .inr (.inr ⟨_, _, _, rfl, rfl, h1, by omega, by omega, by rw [l1, sizeLine_eq]; omega, q⟩)
    · cases e
  · cases e
end
end DL

namespace DL
open PySem PySem.Spec PyProof.Rows L2

/-! ### == -/
mutual
def toPy : D → PyData
  | .non => .none
  | .bl b => .bool b
  | .int i => .int i
  | .str s => .str (tx s)
  | .lst ds => .list (toPys ds)
  | .tup ds => .tuple (toPys ds)
  | .scr ns => .list (ns.map .int)
  | .dic _ => .dict []
  | .obj _ _ => .dict []
  | .ty _ => .dict []
  | .err _ _ => .dict []
def toPys : List D → List PyData
  | [] => []
  | d :: r => toPy d :: toPys r
end
mutual
/-- None, truths, numbers, texts, lists and tuples of them -/
def pureD : D → Bool
  | .lst ds => pureDs ds
  | .tup ds => pureDs ds
  | .dic _ => false
  | .obj _ _ => false
  | .ty _ => false
  | .err _ _ => false
  | _ => true
def pureDs : List D → Bool
  | [] => true
  | d :: r => pureD d && pureDs r
end
mutual
def depD : D → Nat
  | .lst ds => depDs ds + 1
  | .tup ds => depDs ds + 1
  | .scr _ => 1
  | _ => 0
def depDs : List D → Nat
  | [] => 0
  | d :: r => max (depD d) (depDs r)
end
def deq (a b : D) : Bool := PyData.eqv (toPy a) (toPy b)
def deqs (a b : List D) : Bool := PyData.eqvAll (toPys a) (toPys b)
section
variable {G : Gx} {F H : Hp}
theorem lay_ints : ∀ ns : List Int, PyData.canLayAll0 (ns.map .int) = true
  | [] => rfl
  | n :: r => by simp [PyData.canLayAll0, PyData.canLay0, lay_ints r]
theorem dep_ints : ∀ ns : List Int, PyData.depthAll (ns.map .int) = 0
  | [] => rfl
  | n :: r => by simp [PyData.depthAll, PyData.depth, dep_ints r]
theorem strOk_of {s : List Nat} (h : okS s = true) : PyData.strOk (tx s) = true := by
  unfold PyData.strOk tx okS at *
  simpa using h
mutual
theorem depth_toPy : ∀ d : D, PyData.depth (toPy d) ≤ depD d ∨ pureD d = false
  | .non => .inl (by simp [toPy, PyData.depth])
  | .bl b => .inl (by simp [toPy, PyData.depth])
  | .int i => .inl (by simp [toPy, PyData.depth])
  | .str s => .inl (by simp [toPy, PyData.depth])
  | .lst ds => by
    rcases depth_toPys ds with h | h
    · exact .inl (by simp [toPy, PyData.depth, depD]; exact h)
    · exact .inr (by simp [pureD, h])
  | .tup ds => by
    rcases depth_toPys ds with h | h
    · exact .inl (by simp [toPy, PyData.depth, depD]; exact h)
    · exact .inr (by simp [pureD, h])
  | .scr ns => .inl (by simp [toPy, PyData.depth, depD, dep_ints])
  | .dic _ => .inr (by simp [pureD])
  | .obj _ _ => .inr (by simp [pureD])
  | .ty _ => .inr (by simp [pureD])
  | .err _ _ => .inr (by simp [pureD])
theorem depth_toPys : ∀ ds : List D, PyData.depthAll (toPys ds) ≤ depDs ds ∨ pureDs ds = false
  | [] => .inl (by simp [toPys, PyData.depthAll])
  | d :: r => by
    rcases depth_toPy d with h | h
    · rcases depth_toPys r with h' | h'
      · exact .inl (by simp [toPys, PyData.depthAll, depDs]; omega)
      · exact .inr (by simp [pureDs, h'])
    · exact .inr (by simp [pureDs, h])
end
mutual
theorem Rp.dp (e : Same F H) : ∀ {v : V} {d : D}, Rp G F v d → pureD d = true → Dp G.K H v (toPy d) ∧ PyData.canLay0 (toPy d) = true
  | _, _, .non, _ => ⟨by simp [toPy]; exact .non, by simp [toPy, PyData.canLay0]⟩
  | _, _, .bl b, _ => ⟨by simp [toPy]; exact .bl b, by simp [toPy, PyData.canLay0]⟩
  | _, _, .int i, _ => ⟨by simp [toPy]; exact .int i, by simp [toPy, PyData.canLay0]⟩
  | _, _, .str x h, _ => ⟨by simp [toPy]; exact .str _, by simp [toPy, PyData.canLay0, strOk_of h]⟩
  | _, _, .lst h t, p => by
    obtain ⟨h1, h2⟩ := RpAll.dp e t (by simpa [pureD] using p)
    exact ⟨by simp [toPy]; exact .lst (.inl (.inl (e _ _ h))) h1, by simp [toPy, PyData.canLay0, h2]⟩
  | _, _, .tup h t, p => by
    obtain ⟨h1, h2⟩ := RpAll.dp e t (by simpa [pureD] using p)
    exact ⟨by simp [toPy]; exact .tup (same_seqT e h) h1, by simp [toPy, PyData.canLay0, h2]⟩
  | _, _, .scr (ns := ns) h, p => by
    have : ∀ ns : List Int, DpAll G.K H (ns.map V.int) (ns.map PyData.int) := fun ns => by
      induction ns with
      | nil => exact .nil
      | cons n r ih => exact .cons (.int n) ih
    exact ⟨by simp only [toPy]; exact .lst (e.seq h) (this ns), by simp [toPy, PyData.canLay0, lay_ints]⟩
  | _, _, .dicK _ _, p => by simp [pureD] at p
  | _, _, .obj _ _ _ _, p => by simp [pureD] at p
  | _, _, .err _ _, p => by simp [pureD] at p
  | _, _, .ty _, p => by simp [pureD] at p
theorem RpAll.dp (e : Same F H) : ∀ {vs : List V} {ds : List D}, RpAll G F vs ds → pureDs ds = true → DpAll G.K H vs (toPys ds) ∧ PyData.canLayAll0 (toPys ds) = true
  | _, _, .nil, _ => ⟨by simp [toPys]; exact .nil, by simp [toPys, PyData.canLayAll0]⟩
  | _, _, .cons h t, p => by
    simp [pureDs] at p
    obtain ⟨h1, h2⟩ := Rp.dp e h p.1
    obtain ⟨h3, h4⟩ := RpAll.dp e t p.2
    exact ⟨by simp [toPys]; exact .cons h1 h3, by simp [toPys, PyData.canLayAll0, h2, h4]⟩
end
def eqOk (d : D) : Bool := pureD d && decide (depD d ≤ 60)
theorem Vw.dp {v : V} {d : D} (h : Vw G F H v d) (e : Same F H) (p : eqOk d = true) : Dp G.K H v (toPy d) ∧ SeqAt.shaped (toPy d) = true := by
  unfold eqOk at p
  rw [Bool.and_eq_true, decide_eq_true_eq] at p
  have dp : PyData.depth (toPy d) ≤ depD d := (depth_toPy d).resolve_right (by rw [p.1]; simp)
  have fin : PyData.canLay0 (toPy d) = true → SeqAt.shaped (toPy d) = true := fun h => by
    unfold SeqAt.shaped
    rw [h, decide_eq_true (by omega)]; rfl
  rcases h with h | ⟨q, u, w, rfl, hp, ow, rfl⟩
  · obtain ⟨a, b⟩ := h.dp e p.1
    exact ⟨a, fin b⟩
  · cases ow with
    | l r =>
      obtain ⟨h1, h2⟩ := r.dp e (by simpa [Ow.d, pureD] using p.1)
      exact ⟨by simp [Ow.d, toPy]; exact .lst (.inl (.inl hp)) h1, fin (by simp [Ow.d, toPy, PyData.canLay0, h2])⟩
    | _ => simp [Ow.d, pureD] at p
end
def dEq (a b : D) : Option D := if eqOk a = true ∧ eqOk b = true then some (.bl (deq a b)) else none
def dNe (a b : D) : Option D := if eqOk a = true ∧ eqOk b = true then some (.bl (!deq a b)) else none
section
variable {G : Gx} {X : Cx}
theorem op_dEq : Op2 G (rEqD G.K) dEq := fun F H v w x y d f hv hw e => by
  unfold dEq at e
  split at e
  · rename_i h
    cases e
    obtain ⟨a, b⟩ := hv.dp f h.1
    obtain ⟨a', b'⟩ := hw.dp f h.2
    exact gives_v (.bl _) f fun Q q => ⟨_, _, a, a', b, b', q⟩
  · cases e
theorem op_dNe : Op2 G (rNeD G.K) dNe := fun F H v w x y d f hv hw e => by
  unfold dNe at e
  split at e
  · rename_i h
    cases e
    obtain ⟨a, b⟩ := hv.dp f h.1
    obtain ⟨a', b'⟩ := hw.dp f h.2
    exact gives_v (.bl _) f fun Q q => ⟨_, _, a, a', b, b', q⟩
  · cases e

/-! ### order -/
def dCmp (p : Int → Int → Bool) (q : List Nat → List Nat → Bool) : D → D → Option D
  | .int i, .int j => some (.bl (p i j))
  | .str s, .str t => some (.bl (q s t))
  | _, _ => none
def rCmp (p : Int → Int → Bool) (q : List Nat → List Nat → Bool) : R2 := fun x y H Q => rI0 (fun i j => .bl (p i j)) x y H Q ∨ (∃ i j : Str, x = .str i ∧ y = .str j ∧ Q (.bl (q i.cps.toList j.cps.toList)) H)
theorem op_dCmp {p : Int → Int → Bool} {q : List Nat → List Nat → Bool} : Op2 G (rCmp p q) (dCmp p q) := fun F H v w x y d f hv hw e => by
  unfold dCmp at e
  split at e
  · cases e
    cases hv.int_eq; cases hw.int_eq
    exact gives_v (.bl _) f fun Q q => .inl ⟨_, _, rfl, rfl, q⟩
  · cases e
    obtain ⟨rfl, o1⟩ := hv.str_eq
    obtain ⟨rfl, o2⟩ := hw.str_eq
    exact gives_v (.bl _) f fun Q q => .inr ⟨_, _, rfl, rfl, q⟩
  · cases e
def dLt := dCmp (fun i j => decide (i < j)) fun s t => decide (s < t)
def dLe := dCmp (fun i j => decide (i ≤ j)) fun s t => !decide (t < s)
def dGt := dCmp (fun i j => decide (j < i)) fun s t => decide (t < s)
def dGe := dCmp (fun i j => decide (j ≤ i)) fun s t => !decide (s < t)
theorem opR_lt : OpR X (compareOp .Lt) (rCmp (fun i j => decide (i < j)) fun s t => decide (s < t)) := OpR.or op_lt op_lt_str
theorem opR_le : OpR X (compareOp .LtE) (rCmp (fun i j => decide (i ≤ j)) fun s t => !decide (t < s)) := OpR.or op_le op_le_str
theorem opR_gt : OpR X (compareOp .Gt) (rCmp (fun i j => decide (j < i)) fun s t => decide (t < s)) := OpR.or op_gt op_gt_str
theorem opR_ge : OpR X (compareOp .GtE) (rCmp (fun i j => decide (j ≤ i)) fun s t => !decide (s < t)) := OpR.or op_ge op_ge_str
/-- is None, is a truth -/
def isN : D → Bool
  | .non => true
  | _ => false
def dIs : D → D → Option D
  | x, .non => some (.bl (isN x))
  | .bl a, .bl b => some (.bl (decide (a = b)))
  | _, _ => none
def dIsNot : D → D → Option D
  | x, .non => some (.bl (!isN x))
  | .bl a, .bl b => some (.bl (!decide (a = b)))
  | _, _ => none
def rIsN : R2 := fun x y H Q => y = .non ∧ Q (.bl (decide (x = .non))) H
def rNotN : R2 := fun x y H Q => y = .non ∧ Q (.bl (!decide (x = .non))) H
def rIsD : R2 := fun x y H Q => rIsN x y H Q ∨ rIsB x y H Q
def rIsNotD : R2 := fun x y H Q => rNotN x y H Q ∨ rNotB x y H Q
theorem opR_is : OpR X (compareOp .Is) rIsD := OpR.or op_isN op_isBl
theorem opR_isNot : OpR X (compareOp .IsNot) rIsNotD := OpR.or op_notN op_notBl
theorem Vw.isN {F H : Hp} {v : V} {x : D} (h : Vw G F H v x) : decide (v = .non) = isN x := by
  rcases h with h | ⟨p, u, w, rfl, _, _, rfl⟩
  · cases h <;> rfl
  · cases w <;> rfl
theorem op_dIs : Op2 G rIsD dIs := fun F H v w x y d f hv hw e => by
  unfold dIs at e
  split at e
  · cases e
    cases hw.non_eq
    exact gives_v (.bl _) f fun Q q => .inl ⟨rfl, by rw [hv.isN]; exact q⟩
  · cases e
    cases hv.bl_eq; cases hw.bl_eq
    exact gives_v (.bl _) f fun Q q => .inr ⟨_, _, rfl, rfl, q⟩
  · cases e
theorem op_dIsNot : Op2 G rIsNotD dIsNot := fun F H v w x y d f hv hw e => by
  unfold dIsNot at e
  split at e
  · cases e
    cases hw.non_eq
    exact gives_v (.bl _) f fun Q q => .inl ⟨rfl, by rw [hv.isN]; exact q⟩
  · cases e
    cases hv.bl_eq; cases hw.bl_eq
    exact gives_v (.bl _) f fun Q q => .inr ⟨_, _, rfl, rfl, q⟩
  · cases e

/-! ### in -/
def flatD : D → Bool
  | .non => true
  | .bl _ => true
  | .int _ => true
  | .str _ => true
  | _ => false
theorem flat_v {F : Hp} {v : V} {d : D} (h : Rp G F v d) (e : flatD d = true) : flatV v = true := by cases h <;> first | rfl | cases e
theorem eqV_deq {F : Hp} {v w : V} {d e : D} (h : Rp G F v d) (h' : Rp G F w e) (f : flatD d = true) (f' : flatD e = true) : eqV v w = deq d e := by
  cases h <;> cases h' <;> simp_all [eqV, deq, toPy, PyData.eqv, flatD]
theorem flat_all {F : Hp} : ∀ {xs : List V} {ds : List D}, RpAll G F xs ds → ds.all flatD = true → xs.all flatV = true
  | _, _, .nil, _ => rfl
  | _, _, .cons h t, e => by
    rw [List.all_cons, Bool.and_eq_true] at e ⊢
    exact ⟨flat_v h e.1, flat_all t e.2⟩
theorem inV_any {F : Hp} {v : V} {d : D} (h : Rp G F v d) (f : flatD d = true) : ∀ {xs : List V} {ds : List D}, RpAll G F xs ds → ds.all flatD = true → inV v xs = ds.any fun z => deq z d
  | _, _, .nil, _ => rfl
  | _, _, .cons h' t, e => by
    rw [List.all_cons, Bool.and_eq_true] at e
    have ih := inV_any h f t e.2
    unfold inV at ih ⊢
    rw [List.any_cons, List.any_cons, ih, eqV_deq h' h e.1 f]
theorem toPys_any (d : D) : ∀ ds : List D, ((toPys ds).any fun z => PyData.eqv z (toPy d)) = ds.any fun z => deq z d
  | [] => rfl
  | x :: r => by rw [toPys, List.any_cons, List.any_cons, toPys_any d r]; rfl
/-- x in y -/
def inD (x : D) : D → Option Bool
  | .str t => match x with
    | .str [c] => some (decide (c ∈ t))
    | _ => none
  | .lst ds => if eqOk x = true ∧ eqOk (.lst ds) = true then some (ds.any fun z => deq z x) else none
  | .tup ds => if flatD x = true ∧ ds.all flatD = true then some (ds.any fun z => deq z x) else none
  | _ => none
def rInSg : R2 := fun x y H Q => ∃ (c : Nat) (z : Str), x = .str ⟨#[c]⟩ ∧ y = .str z ∧ Q (.bl (decide (c ∈ z.cps.toList))) H
def rNotInSg : R2 := fun x y H Q => ∃ (c : Nat) (z : Str), x = .str ⟨#[c]⟩ ∧ y = .str z ∧ Q (.bl (!decide (c ∈ z.cps.toList))) H
def rInAll (K : PySem.W.Frag) : R2 := fun x y H Q => rInSg x y H Q ∨ rInD K x y H Q ∨ rIn K false x y H Q
def rNotInAll (K : PySem.W.Frag) : R2 := fun x y H Q => rNotInSg x y H Q ∨ rNotInD K x y H Q ∨ rIn K true x y H Q
theorem opR_in (hu : X.A.units + 65 < cLine) : OpR X (compareOp .In) (rInAll X.K) := OpR.or op_in_sign (OpR.or (op_inD hu) op_in_seq)
theorem opR_notIn (hu : X.A.units + 65 < cLine) : OpR X (compareOp .NotIn) (rNotInAll X.K) := OpR.or op_notIn_sign (OpR.or (op_notInD hu) op_notIn_seq)
def dIn (x y : D) : Option D := (inD x y).map .bl
def dNotIn (x y : D) : Option D := (inD x y).map fun b => .bl (!b)
theorem Vw.rp_flat {F H : Hp} {v : V} {d : D} (h : Vw G F H v d) (e : flatD d = true) : Rp G F v d := by
  rcases h with h | ⟨p, u, w, rfl, _, _, rfl⟩
  · exact h
  · cases w <;> cases e
theorem in_cases {F H : Hp} {v w : V} {x y : D} {b : Bool} (f : Same F H) (hv : Vw G F H v x) (hw : Vw G F H w y) (e : inD x y = some b) :
    (∃ c z, v = .str ⟨#[c]⟩ ∧ w = .str z ∧ b = decide (c ∈ z.cps.toList)) ∨ (∃ d ds, Dp G.K H v d ∧ Dp G.K H w (.list ds) ∧ SeqAt.shaped d = true ∧ SeqAt.shaped (.list ds) = true ∧ b = ds.any fun z => PyData.eqv z d) ∨
    (∃ p xs, w = .ref p ∧ (SqL G.K H p xs ∨ SqT G.K H p xs) ∧ flatV v = true ∧ xs.all flatV = true ∧ b = inV v xs) := by
  unfold inD at e
  split at e
  · split at e
    · cases e
      obtain ⟨rfl, _⟩ := hv.str_eq
      obtain ⟨rfl, _⟩ := hw.str_eq
      exact .inl ⟨_, _, rfl, rfl, rfl⟩
    · cases e
  · split at e
    · rename_i h
      cases e
      obtain ⟨a, b⟩ := hv.dp f h.1
      obtain ⟨a', b'⟩ := hw.dp f h.2
      exact .inr (.inl ⟨_, _, a, a', b, b', (toPys_any _ _).symm⟩)
    · cases e
  · split at e
    · rename_i h
      cases e
      obtain ⟨p, xs, rfl, h1, h2⟩ := hw.tup f
      have rv := hv.rp_flat h.1
      exact .inr (.inr ⟨p, xs, rfl, .inr h1, flat_v rv h.1, flat_all h2 h.2, (inV_any rv h.1 h2 h.2).symm⟩)
    · cases e
  · cases e
theorem op_dIn : Op2 G (rInAll G.K) dIn := fun F H v w x y d f hv hw e => by
  unfold dIn at e
  cases h : inD x y with
  | none => rw [h] at e; cases e
  | some b =>
    rw [h] at e; cases e
    refine gives_v (.bl _) f fun Q q => ?_
    rcases in_cases f hv hw h with ⟨c, z, h1, h2, h3⟩ | ⟨d, ds, h1, h2, h3, h4, h5⟩ | ⟨p, xs, h1, h2, h3, h4, h5⟩
    · exact .inl ⟨c, z, h1, h2, by rw [← h3]; exact q⟩
    · exact .inr (.inl ⟨d, ds, h1, h2, h3, h4, by rw [← h5]; exact q⟩)
    · exact .inr (.inr ⟨p, xs, h1, h2, h3, h4, by rw [h5] at q; exact q⟩)
theorem op_dNotIn : Op2 G (rNotInAll G.K) dNotIn := fun F H v w x y d f hv hw e => by
  unfold dNotIn at e
  cases h : inD x y with
  | none => rw [h] at e; cases e
  | some b =>
    rw [h] at e; cases e
    refine gives_v (.bl _) f fun Q q => ?_
    rcases in_cases f hv hw h with ⟨c, z, h1, h2, h3⟩ | ⟨d, ds, h1, h2, h3, h4, h5⟩ | ⟨p, xs, h1, h2, h3, h4, h5⟩
    · exact .inl ⟨c, z, h1, h2, by rw [← h3]; exact q⟩
    · exact .inr (.inl ⟨d, ds, h1, h2, h3, h4, by rw [← h5]; exact q⟩)
    · exact .inr (.inr ⟨p, xs, h1, h2, h3, h4, by rw [h5] at q; exact q⟩)

/-! ### subscripts, slices -/
def dIx : D → D → Option D
  | .str s, .int i => if s.length ≤ 16777216 then (atI s i).map fun c => .str [c] else none
  | .lst ds, .int i => atI ds i
  | .tup ds, .int i => atI ds i
  | .scr ns, .int i => (atI ns i).map .int
  | _, _ => none
theorem RpAll.atI {F : Hp} {xs : List V} {ds : List D} {i : Int} {d : D} (r : RpAll G F xs ds) (e : L2.atI ds i = some d) : ∃ v, L2.atI xs i = some v ∧ Rp G F v d := by
  unfold L2.atI at e ⊢
  rw [r.length]
  cases h : ixN ds.length i with
  | none => rw [h] at e; cases e
  | some j =>
    rw [h] at e
    exact r.get e
theorem op_dIx : Op2 G (rIx G.K) dIx := fun F H v w x y d f hv hw e => by
  unfold dIx at e
  split at e
  · split at e
    · rename_i s i hs
      cases hw.int_eq
      obtain ⟨rfl, o⟩ := hv.str_eq
      cases h : atI s i with
      | none => rw [h] at e; cases e
      | some c =>
        rw [h] at e; cases e
        refine gives_v (v := .str (tx [c])) (.str [c] (okS_sub o fun c' m => ?_)) f fun Q q => .inr (.inr ⟨_, _, c, rfl, rfl, by rw [tx_len, sizeLine_eq]; exact hs, h, q⟩)
        rw [List.mem_singleton] at m
        subst m
        unfold atI at h
        cases h2 : ixN s.length i with
        | none => rw [h2] at h; cases h
        | some j => rw [h2] at h; exact List.mem_of_getElem? h
    · cases e
  · cases hw.int_eq
    obtain ⟨p, xs, rfl, h1, h2⟩ := hv.seqL f rfl
    obtain ⟨z, hz, rz⟩ := h2.atI e
    exact gives_v rz f fun Q q => .inl ⟨_, _, _, _, rfl, rfl, h1, hz, q⟩
  · cases hw.int_eq
    obtain ⟨p, xs, rfl, h1, h2⟩ := hv.tup f
    obtain ⟨z, hz, rz⟩ := h2.atI e
    exact gives_v rz f fun Q q => .inr (.inl ⟨_, _, _, _, rfl, rfl, h1, hz, q⟩)
  · rename_i ns i
    cases hw.int_eq
    obtain ⟨p, xs, rfl, h1, h2⟩ := hv.seqL f rfl
    have e2 : L2.atI (ns.map D.int) i = some d := by
      unfold L2.atI at e ⊢
      rw [List.length_map]
      cases h : ixN ns.length i with
      | none => rw [h] at e; cases e
      | some j =>
        rw [h] at e
        simp only [Option.bind_some] at e ⊢
        rw [List.getElem?_map]
        exact e
    obtain ⟨z, hz, rz⟩ := h2.atI e2
    exact gives_v rz f fun Q q => .inl ⟨_, _, _, _, rfl, rfl, h1, hz, q⟩
  · cases e
/-- xs[lo:hi] -/
def cut {α : Type} (xs : List α) (lo hi : Option Int) : List α := (xs.drop (HT.sIx xs.length 0 lo)).take (HT.sIx xs.length xs.length hi - HT.sIx xs.length 0 lo)
def dSl : D → Option Int → Option Int → Option D
  | .str s, l, u => if s.length ≤ 16777216 then some (.str (cut s l u)) else none
  | .lst ds, l, u => some (.lst (cut ds l u))
  | .scr ns, l, u => some (.lst (cut (ns.map .int) l u))
  | .tup ds, l, u => some (.tup (cut ds l u))
  | _, _, _ => none
theorem SlR.or' {r r' : V → Option Int → Option Int → Hp → VK → Prop} (h : SlR X r) (h' : SlR X r') : SlR X (fun x lo hi H Q => r x lo hi H Q ∨ r' x lo hi H Q) := SlR.or h h'
def rSlAll (K : PySem.W.Frag) : V → Option Int → Option Int → Hp → VK → Prop := fun x l u H Q => rSlS x l u H Q ∨ rSlL K x l u H Q ∨ rSlA K x l u H Q
theorem sl_all : SlR X (rSlAll X.K) := SlR.or sl_str (SlR.or sl_list sl_tupA)
theorem RpAll.cut {F : Hp} {xs : List V} {ds : List D} (r : RpAll G F xs ds) (l u : Option Int) : RpAll G F (cutV xs l u) (DL.cut ds l u) := by
  unfold cutV DL.cut
  rw [r.length]
  exact (r.drop _).take _
theorem cut_whole {α : Type} {xs : List α} {l u : Option Int} (h : HT.sIx xs.length 0 l = 0 ∧ HT.sIx xs.length xs.length u = xs.length) : cut xs l u = xs := by
  unfold cut
  rw [h.1, h.2]
  simp
theorem op_dSl : OpS G (rSlAll G.K) dSl := fun F H v x l u d f hv e => by
  unfold dSl at e
  split at e
  · split at e
    · rename_i s hs
      cases e
      obtain ⟨rfl, o⟩ := hv.str_eq
      have ec : cutS (tx s) l u = tx (cut s l u) := by unfold cutS cut; rw [cps_tx, tx_len]; rfl
      exact gives_v (v := .str (tx (cut s l u))) (.str _ (okS_sub o fun c m => by
        unfold cut at m
        exact List.mem_of_mem_drop (List.mem_of_mem_take m))) f fun Q q => .inl ⟨_, rfl, by rw [tx_len, sizeLine_eq]; exact hs, by rw [ec]; exact q⟩
    · cases e
  · cases e
    obtain ⟨p, xs, rfl, h1, h2⟩ := hv.seqL f rfl
    exact gives_lst (h2.cut l u) f fun Q q => .inr (.inl ⟨_, _, rfl, h1, q⟩)
  · cases e
    obtain ⟨p, xs, rfl, h1, h2⟩ := hv.seqL f rfl
    exact gives_lst (h2.cut l u) f fun Q q => .inr (.inl ⟨_, _, rfl, h1, q⟩)
  · cases e
    obtain ⟨p, xs, rfl, h1, h2⟩ := hv.tup f
    have hl := h2.length
    intro Q k
    refine .inr (.inr ⟨_, _, rfl, h1, fun h => ?_, fun h => ?_⟩)
    · rw [hl] at h
      rw [cut_whole h] at k
      exact k _ _ F (Same.refl H) f .refl hv.tup'
    · exact gives_tup (r := fun Q => ∀ p, H p = none → Q (.ref p) (upd H p (.tup (cutV xs l u)))) (h2.cut l u) f (fun Q q => q) Q k
  · cases e
end
end DL

namespace DL
open PySem PySem.Spec PyProof.Rows L2
section
variable {G : Gx} {X : Cx}

/-! ### built-ins -/
def dLen : List D → Option D
  | [.str s] => if s.length ≤ 16777216 then some (.int s.length) else none
  | [.lst ds] => some (.int ds.length)
  | [.tup ds] => some (.int ds.length)
  | [.scr ns] => some (.int ns.length)
  | _ => none
def rLen (K : PySem.W.Frag) : List V → Hp → VK → Prop := fun xs H Q => ∃ x n, xs = [x] ∧ LenV K x H n ∧ Q (.int n) H
theorem op_dLen : OpA G (rLen G.K) dLen := fun F H vs xs d f hv e => by
  unfold dLen at e
  split at e
  · split at e
    · rename_i hs
      cases e
      cases hv with | cons h t => cases t; obtain ⟨rfl, _⟩ := h.str_eq; exact gives_v (.int _) f fun Q q => ⟨_, _, rfl, ⟨by rw [tx_len, sizeLine_eq]; exact hs, (tx_len _).symm⟩, q⟩
    · cases e
  · cases e
    cases hv with | cons h t => cases t; obtain ⟨p, xs, rfl, h1, h2⟩ := h.seqL f rfl; exact gives_v (.int _) f fun Q q => ⟨_, _, rfl, .inl ⟨_, h1, h2.length.symm⟩, q⟩
  · cases e
    cases hv with | cons h t => cases t; obtain ⟨p, xs, rfl, h1, h2⟩ := h.tup f; exact gives_v (.int _) f fun Q q => ⟨_, _, rfl, .inr ⟨_, h1, h2.length.symm⟩, q⟩
  · cases e
    cases hv with | cons h t => cases t; obtain ⟨p, xs, rfl, h1, h2⟩ := h.seqL f rfl; exact gives_v (.int _) f fun Q q => ⟨_, _, rfl, .inl ⟨_, h1, by rw [h2.length, List.length_map]⟩, q⟩
  · cases e
/-- a kind's name -/
def tyn : D → Option String
  | .non => some "NoneType"
  | .bl _ => some "bool"
  | .int _ => some "int"
  | .str _ => some "str"
  | .lst _ => some "list"
  | .tup _ => some "tuple"
  | .scr _ => some "list"
  | .dic _ => some "dict"
  | _ => none
def isT (a n : String) : Bool := a == n || (a == "bool" && n == "int")
def dIsI : List D → Option D
  | [x, .ty n] => match tyn x with
    | some a => if n == "int" || n == "bool" || n == "str" || n == "list" || n == "tuple" || n == "dict" then some (.bl (isT a n)) else none
    | none => none
  | _ => none
theorem kit_all : ∀ a ∈ ["NoneType", "bool", "int", "str", "list", "tuple", "dict"], ∀ n ∈ ["int", "bool", "str", "list", "tuple", "dict"], kitB a n = some (isT a n) := by decide +kernel
theorem tyn_mem {x : D} {a : String} (h : tyn x = some a) : a ∈ ["NoneType", "bool", "int", "str", "list", "tuple", "dict"] := by
  cases x <;> simp [tyn] at h <;> subst h <;> simp
theorem Vw.tyX {F H : Hp} {v : V} {x : D} {a : String} (h : Vw G F H v x) (f : Same F H) (e : tyn x = some a) : TyX G.K H v (.type a) := by
  rcases h with h | ⟨p, u, w, rfl, hp, ow, rfl⟩
  · cases h with
    | non => cases e; exact .base .non
    | bl b => cases e; exact .base (.bl b)
    | int i => cases e; exact .base (.int i)
    | str s _ => cases e; exact .base (.str _)
    | lst h1 _ => cases e; exact .base (.lst (f _ _ h1))
    | tup h1 _ =>
      cases e
      rcases same_seqT f h1 with (h | ⟨o, h⟩) | ⟨o, its, n, h, hc, _⟩
      · exact .base (.tup h)
      · exact .fTuple h
      · exact .kTuple h hc
    | scr h1 =>
      cases e
      rcases f.seq h1 with (h | ⟨o, h⟩) | ⟨o, its, n, h, hc, _⟩
      · exact .base (.lst h)
      · exact .base (.frz h)
      · exact .kList h hc
    | dicK h1 _ => cases e; exact .base (.dK (f _ _ h1))
    | obj _ _ _ _ => cases e
    | ty _ => cases e
    | err _ _ => cases e
  · cases ow with
    | l r => cases e; exact .base (.lst hp)
    | kK r => cases e; exact .base (.dK hp)
theorem op_dIsI : OpA G (rIsi G.K) dIsI := fun F H vs xs d f hv e => by
  unfold dIsI at e
  split at e
  · split at e
    · rename_i x n _ a ha
      split at e
      · rename_i hn
        cases e
        cases hv with
        | cons h t =>
          cases t with
          | cons h2 t =>
            cases t
            cases h2.ty_eq
            have hm : n ∈ ["int", "bool", "str", "list", "tuple", "dict"] := by
              simp only [Bool.or_eq_true, beq_iff_eq] at hn
              simp only [List.mem_cons, List.not_mem_nil, or_false]
              rcases hn with ((((h | h) | h) | h) | h) | h <;> simp [h]
            exact gives_v (.bl _) f fun Q q => ⟨_, _, _, _, _, rfl, .ty n, h.tyX f ha, kit_ty (kit_all a (tyn_mem ha) n hm), q⟩
      · cases e
    · cases e
  · cases e
theorem VwAll.len {F H : Hp} {vs : List V} {ds : List D} (h : VwAll G F H vs ds) : vs.length = ds.length := by
  induction h with
  | nil => rfl
  | cons _ _ ih => simp [ih]
def boolsD : List D → Option (List Bool)
  | [] => some []
  | .bl b :: r => (boolsD r).map (b :: ·)
  | _ :: _ => none
theorem bools_eq : ∀ {ds : List D} {bs : List Bool}, boolsD ds = some bs → ds = bs.map D.bl
  | [], bs, h => by cases h; rfl
  | .bl b :: r, bs, h => by
    simp only [boolsD] at h
    cases hr : boolsD r with
    | none => rw [hr] at h; cases h
    | some cs => rw [hr] at h; cases h; rw [bools_eq hr]; rfl
def intsD : List D → Option (List Int)
  | [] => some []
  | .int b :: r => (intsD r).map (b :: ·)
  | _ :: _ => none
theorem ints_eq : ∀ {ds : List D} {bs : List Int}, intsD ds = some bs → ds = bs.map D.int
  | [], bs, h => by cases h; rfl
  | .int b :: r, bs, h => by
    simp only [intsD] at h
    cases hr : intsD r with
    | none => rw [hr] at h; cases h
    | some cs => rw [hr] at h; cases h; rw [ints_eq hr]; rfl
def strsD : List D → Option (List (List Nat))
  | [] => some []
  | .str b :: r => (strsD r).map (b :: ·)
  | _ :: _ => none
theorem strs_eq : ∀ {ds : List D} {bs : List (List Nat)}, strsD ds = some bs → ds = bs.map D.str
  | [], bs, h => by cases h; rfl
  | .str b :: r, bs, h => by
    simp only [strsD] at h
    cases hr : strsD r with
    | none => rw [hr] at h; cases h
    | some cs => rw [hr] at h; cases h; rw [strs_eq hr]; rfl
@[simp] theorem bools_map (bs : List Bool) : boolsD (bs.map D.bl) = some bs := by
  induction bs with
  | nil => rfl
  | cons b r ih => simp [boolsD, ih]
@[simp] theorem ints_map (bs : List Int) : intsD (bs.map D.int) = some bs := by
  induction bs with
  | nil => rfl
  | cons b r ih => simp [intsD, ih]
@[simp] theorem strs_map (bs : List (List Nat)) : strsD (bs.map D.str) = some bs := by
  induction bs with
  | nil => rfl
  | cons b r ih => simp [strsD, ih]
def dAll : List D → Option D
  | [.lst ds] => (boolsD ds).map fun bs => .bl (bs.all id)
  | _ => none
def dAny : List D → Option D
  | [.lst ds] => (boolsD ds).map fun bs => .bl (bs.any id)
  | _ => none
theorem op_dAll : OpA G (rAll G.K) dAll := fun F H vs xs d f hv e => by
  unfold dAll at e
  split at e
  · rename_i ds
    cases hb : boolsD ds with
    | none => rw [hb] at e; cases e
    | some bs =>
      rw [hb] at e; cases e
      cases bools_eq hb
      cases hv with
      | cons h t =>
        cases t
        obtain ⟨p, xs, rfl, h1, h2⟩ := h.seqL f rfl
        cases rp_bools_inv h2
        exact gives_v (.bl _) f fun Q q => ⟨_, _, rfl, h1, q⟩
  · cases e
theorem op_dAny : OpA G (rAny G.K) dAny := fun F H vs xs d f hv e => by
  unfold dAny at e
  split at e
  · rename_i ds
    cases hb : boolsD ds with
    | none => rw [hb] at e; cases e
    | some bs =>
      rw [hb] at e; cases e
      cases bools_eq hb
      cases hv with
      | cons h t =>
        cases t
        obtain ⟨p, xs, rfl, h1, h2⟩ := h.seqL f rfl
        cases rp_bools_inv h2
        exact gives_v (.bl _) f fun Q q => ⟨_, _, rfl, h1, q⟩
  · cases e
def dSum : List D → Option D
  | [.lst ds] => (intsD ds).map fun bs => .int bs.sum
  | _ => none
theorem op_dSum : OpA G (rSum G.K) dSum := fun F H vs xs d f hv e => by
  unfold dSum at e
  split at e
  · rename_i ds
    cases hb : intsD ds with
    | none => rw [hb] at e; cases e
    | some bs =>
      rw [hb] at e; cases e
      cases ints_eq hb
      cases hv with
      | cons h t =>
        cases t
        obtain ⟨p, xs, rfl, h1, h2⟩ := h.seqL f rfl
        cases rp_ints_inv h2
        exact gives_v (.int _) f fun Q q => ⟨_, _, rfl, h1, q⟩
  · cases e
def dAbs : List D → Option D
  | [.int i] => some (.int (if i < 0 then -i else i))
  | _ => none
def rAbs : List V → Hp → VK → Prop := fun xs H Q => ∃ i, xs = [.int i] ∧ Q (.int (if i < 0 then -i else i)) H
theorem op_dAbs : OpA G rAbs dAbs := fun F H vs xs d f hv e => by
  unfold dAbs at e
  split at e
  · cases e
    cases hv with | cons h t => cases t; cases h.int_eq; exact gives_v (.int _) f fun Q q => ⟨_, rfl, q⟩
  · cases e
def dMax : List D → Option D
  | [.int i, .int j] => some (.int (if j > i then j else i))
  | _ => none
def rMax2 : List V → Hp → VK → Prop := fun xs H Q => ∃ i j, xs = [.int i, .int j] ∧ Q (.int (if j > i then j else i)) H
theorem op_dMax : OpA G rMax2 dMax := fun F H vs xs d f hv e => by
  unfold dMax at e
  split at e
  · cases e
    cases hv with | cons h t => cases t with | cons h2 t => cases t; cases h.int_eq; cases h2.int_eq; exact gives_v (.int _) f fun Q q => ⟨_, _, rfl, q⟩
  · cases e
def dMin : List D → Option D
  | [.int i, .int j] => some (.int (if j < i then j else i))
  | _ => none
def rMin2 : List V → Hp → VK → Prop := fun xs H Q => ∃ i j, xs = [.int i, .int j] ∧ Q (.int (if j < i then j else i)) H
theorem op_dMin : OpA G rMin2 dMin := fun F H vs xs d f hv e => by
  unfold dMin at e
  split at e
  · cases e
    cases hv with | cons h t => cases t with | cons h2 t => cases t; cases h.int_eq; cases h2.int_eq; exact gives_v (.int _) f fun Q q => ⟨_, _, rfl, q⟩
  · cases e
def dOrd : List D → Option D
  | [.str [c]] => some (.int c)
  | _ => none
def rOrd : List V → Hp → VK → Prop := fun xs H Q => ∃ x : Str, xs = [.str x] ∧ x.length = 1 ∧ Q (.int (x.cps.getD 0 0 : Nat)) H
theorem op_dOrd : OpA G rOrd dOrd := fun F H vs xs d f hv e => by
  unfold dOrd at e
  split at e
  · cases e
    cases hv with | cons h t => cases t; obtain ⟨rfl, _⟩ := h.str_eq; exact gives_v (.int _) f fun Q q => ⟨_, rfl, rfl, q⟩
  · cases e
/-- list(x), tuple(x) -/
def seqD : D → Option (List D)
  | .lst ds => some ds
  | .tup ds => some ds
  | .scr ns => some (ns.map .int)
  | _ => none
theorem Vw.seq {F H : Hp} {v : V} {d : D} {ds : List D} (h : Vw G F H v d) (f : Same F H) (e : seqD d = some ds) : ∃ p xs, v = .ref p ∧ (SqL G.K H p xs ∨ SqT G.K H p xs) ∧ RpAll G F xs ds := by
  unfold seqD at e
  split at e
  · cases e; obtain ⟨p, xs, a, b, c⟩ := h.seqL f rfl; exact ⟨p, xs, a, .inl b, c⟩
  · cases e; obtain ⟨p, xs, a, b, c⟩ := h.tup f; exact ⟨p, xs, a, .inr b, c⟩
  · cases e; obtain ⟨p, xs, a, b, c⟩ := h.seqL f rfl; exact ⟨p, xs, a, .inl b, c⟩
  · cases e
def dListF : List D → Option Ow
  | [d] => (seqD d).map .l
  | _ => none
def rList (K : PySem.W.Frag) : List V → Hp → VK → Prop := fun xs H Q => ∃ p ys, xs = [.ref p] ∧ (SqL K H p ys ∨ SqT K H p ys) ∧ ∀ l, H l = none → Q (.ref l) (upd H l (.lst ys))
theorem op_dListF : OpAF G (rList G.K) dListF := fun F H vs xs d f hv e => by
  unfold dListF at e
  split at e
  · rename_i x
    cases hs : seqD x with
    | none => rw [hs] at e; cases e
    | some ds =>
      rw [hs] at e; cases e
      cases hv with | cons h t => cases t; obtain ⟨p, ys, rfl, h1, h2⟩ := h.seq f hs; exact lays_l h2 fun Q q => ⟨_, _, rfl, h1, q⟩
  · cases e
def dTuple : List D → Option D
  | [.lst ds] => some (.tup ds)
  | [.scr ns] => some (.tup (ns.map .int))
  | [.tup ds] => some (.tup ds)
  | _ => none
def rTuple (K : PySem.W.Frag) : List V → Hp → VK → Prop := fun xs H Q => ∃ p ys, xs = [.ref p] ∧ ((SqL K H p ys ∧ ∀ l, H l = none → Q (.ref l) (upd H l (.tup ys))) ∨ (SqT K H p ys ∧ Q (.ref p) H))
theorem op_dTuple : OpA G (rTuple G.K) dTuple := fun F H vs xs d f hv e => by
  unfold dTuple at e
  split at e
  · cases e
    cases hv with | cons h t => cases t; obtain ⟨p, ys, rfl, h1, h2⟩ := h.seqL f rfl; exact gives_tup h2 f fun Q q => ⟨_, _, rfl, .inl ⟨h1, q⟩⟩
  · cases e
    cases hv with | cons h t => cases t; obtain ⟨p, ys, rfl, h1, h2⟩ := h.seqL f rfl; exact gives_tup h2 f fun Q q => ⟨_, _, rfl, .inl ⟨h1, q⟩⟩
  · cases e
    cases hv with | cons h t => cases t; obtain ⟨p, ys, rfl, h1, h2⟩ := h.tup f; exact gives_v h.tup' f fun Q q => ⟨_, _, rfl, .inr ⟨h1, q⟩⟩
  · cases e
/-- a class as a value -/
theorem de_ty {B : Hp} {W : WX} {x : Str} {pos : Pos} {n : String} (hm : X.mg x = none) (hv : bootBuiltins x = some (.type n) := by decide +kernel) (hg : Gl X x := by rfl) (hn : x ≠ "__name__" := by decide) (hd : (x == ("__debug__" : Str)) = false := by decide) : DE X B W (.Name x pos) (kE (.ty n)) :=
  de_k (pe_bltn (v := .ty n) hg hm hv rfl hn hd) fun _ => .ty n
/-- a module's text or number -/
theorem de_gs {B : Hp} {W : WX} {x : Str} {pos : Pos} {s : List Nat} {t : Tok} (hm : X.mg x = some (.str (tx s) t)) (o : okS s = true := by decide) (hg : Gl X x := by rfl) (hd : (x == ("__debug__" : Str)) = false := by decide) : DE X B W (.Name x pos) (kE (.str s)) :=
  de_k (pe_glob (v := .str (tx s)) hg hm ⟨t, rfl⟩ hd) fun _ => .str s o
theorem de_gi {B : Hp} {W : WX} {x : Str} {pos : Pos} {i : Int} {t : Tok} (hm : X.mg x = some (.int i t)) (hg : Gl X x := by rfl) (hd : (x == ("__debug__" : Str)) = false := by decide) : DE X B W (.Name x pos) (kE (.int i)) :=
  de_k (pe_glob (v := .int i) hg hm ⟨t, rfl⟩ hd) fun _ => .int i

/-! ### what is walked -/
variable {B : Hp} {W : WX} {tg e : Expr} {es : List Expr} {pos : Pos}
theorem PI.or {wi wi' : TI} (h : PI X tg e wi) (h' : PI X tg e wi') : PI X tg e (fun σ H R => wi σ H R ∨ wi' σ H R) := ⟨fun pins s σ H R I q => q.elim (h.run pins s σ H R I) (h'.run pins s σ H R I)⟩
theorem walks_l {F : Hp} {K : PySem.W.Frag} {a : Addr} {xs : List V} {ds : List D} {mg} (h : SqL K F a xs) (r : RpAll ⟨K, mg⟩ F xs ds) : Walks ⟨K, mg⟩ (Itl K a) F ds := fun F' H' f f' i => by
  have hs := f'.seq (f.seq h)
  refine ⟨fun hi => ?_, fun hi => ⟨xs, hs, by rw [r.length]; exact hi⟩, fun d hd x H2 ⟨e, y⟩ => ?_⟩
  · obtain ⟨v, hv, _⟩ := r.get (List.getElem?_eq_getElem hi)
    exact ⟨xs, v, hs, hv⟩
  · subst e
    obtain ⟨v, hv, rv⟩ := r.get hd
    have := y xs hs
    rw [hv] at this; cases this
    exact ⟨F', Same.refl _, f', .refl, rv.mono f⟩
theorem walks_t {F : Hp} {K : PySem.W.Frag} {a : Addr} {xs : List V} {ds : List D} {mg} (h : SqT K F a xs) (r : RpAll ⟨K, mg⟩ F xs ds) : Walks ⟨K, mg⟩ (Itt K a) F ds := fun F' H' f f' i => by
  have hs := same_seqT f' (same_seqT f h)
  refine ⟨fun hi => ?_, fun hi => ⟨xs, hs, by rw [r.length]; exact hi⟩, fun d hd x H2 ⟨e, y⟩ => ?_⟩
  · obtain ⟨v, hv, _⟩ := r.get (List.getElem?_eq_getElem hi)
    exact ⟨xs, v, hs, hv⟩
  · subst e
    obtain ⟨v, hv, rv⟩ := r.get hd
    have := y xs hs
    rw [hv] at this; cases this
    exact ⟨F', Same.refl _, f', .refl, rv.mono f⟩
def sgs (s : List Nat) : List D := s.map fun c => .str [c]
theorem walks_s {F : Hp} {s : List Nat} (o : okS s = true) : Walks G (Its (tx s)) F (sgs s) := fun F' H' f f' i => by
  have sz : (tx s).cps.size = s.length := by simp [tx]
  refine ⟨fun hi => ?_, fun hi => ?_, fun d hd x H2 ⟨e, c, hc, hx⟩ => ?_⟩
  · show i < (tx s).cps.size
    rw [sz]; simpa [sgs] using hi
  · show (tx s).cps.size ≤ i
    rw [sz]; simpa [sgs] using hi
  · subst e; subst hx
    have hc' : s[i]? = some c := by simpa [tx] using hc
    unfold sgs at hd
    rw [List.getElem?_map, hc'] at hd
    cases hd
    exact ⟨F', Same.refl _, f', .refl, .str [c] (okS_sub o fun c' m => by rw [List.mem_singleton] at m; subst m; exact List.mem_of_getElem? hc')⟩
/-- a list, a tuple, a text -/
def itD : D → Option (List D)
  | .lst ds => some ds
  | .tup ds => some ds
  | .scr ns => some (ns.map .int)
  | .str s => some (sgs s)
  | _ => none
def iE (f : Ev D) : Ev (List D) := fun S st => (f S st).bind fun d S st => got (itD d) S st
theorem di_e {f : Ev D} (h : DE X B W e f) : DI X B W tg e (iE f) :=
  pi_imp (PI.or (pi_list h) (PI.or (pi_tup h) (pi_str h))) fun σ H R ⟨F, S, st, o, q⟩ => by
    unfold iE at q
    have q2 := Post.bind (R := RD (Cx.g X) σ) q
    revert q q2
    generalize hr : f S st = r
    intro q q2
    have mk : ∀ {Q : VK}, Post (Cx.g X) B W (RD (Cx.g X) σ) σ F Q r → lift (Cx.g X) B W (RD (Cx.g X)) f σ H Q := fun {Q} q => ⟨F, S, st, o, by rw [hr]; exact q⟩
    cases r with
    | stuck => exact q2.elim
    | exc x S1 st1 => exact .inl (mk q)
    | ok d S1 st1 =>
      have key : ∀ {ds : List D}, itD d = some ds → ∀ F1 H1, Gr B F F1 → Ok (Cx.g X) B F1 σ H1 S1 → ∀ J, Walks (Cx.g X) J F1 ds → R J H1 := fun {ds} hd F1 H1 g1 o1 J w => by
        have q3 : Post (Cx.g X) B W (RW (Cx.g X) σ) σ F R (got (itD d) S1 st1) := q
        rw [hd] at q3
        exact q3 J H1 F1 g1 o1 w
      cases d with
      | lst ds => exact .inl (mk fun v H1 F1 g1 o1 r1 => by cases r1 with | lst h1 h2 => exact ⟨_, rfl, ⟨_, o1.fH.seq (.inl (.inl h1))⟩, key rfl F1 H1 g1 o1 _ (walks_l (.inl (.inl h1)) h2)⟩)
      | scr ns => exact .inl (mk fun v H1 F1 g1 o1 r1 => by cases r1 with | scr h1 => exact ⟨_, rfl, ⟨_, o1.fH.seq h1⟩, key rfl F1 H1 g1 o1 _ (walks_l h1 (rp_ints (Cx.g X) F1 ns))⟩)
      | tup ds => exact .inr (.inl (mk fun v H1 F1 g1 o1 r1 => by cases r1 with | tup h1 h2 => exact ⟨_, rfl, ⟨_, same_seqT o1.fH h1⟩, key rfl F1 H1 g1 o1 _ (walks_t h1 h2)⟩))
      | str s => exact .inr (.inr (mk fun v H1 F1 g1 o1 r1 => by cases r1 with | str _ h1 => exact ⟨_, rfl, key rfl F1 H1 g1 o1 _ (walks_s h1)⟩))
      | _ =>
        exfalso
        exact (show Post (Cx.g X) B W (RW (Cx.g X) σ) σ F R .stuck from q)
/-- range(n) -/
def rng (n : Nat) (lo : Int) : List D := (List.range n).map fun (i : Nat) => D.int (lo + (i : Int))
theorem walks_r {F : Hp} {lo : Int} {n : Nat} : Walks G (Itr lo n) F (rng n lo) := fun F' H' f f' i => by
  refine ⟨fun hi => by show i < n; simpa [rng] using hi, fun hi => by show n ≤ i; simpa [rng] using hi, fun d hd x H2 ⟨e, hx⟩ => ?_⟩
  subst e; subst hx
  unfold rng at hd
  rw [List.getElem?_map] at hd
  cases hl : (List.range n)[i]? with
  | none => rw [hl] at hd; cases hd
  | some j =>
    rw [hl] at hd; cases hd
    have : j = i := by
      have := List.getElem?_eq_some_iff.mp hl
      obtain ⟨h1, h2⟩ := this
      simpa using h2.symm
    subst this
    exact ⟨F', Same.refl _, f', .refl, .int _⟩
def iR1 (f : Ev (List Opd)) : Ev (List D) := fun S st => (f S st).bind fun a S st => match vws S a with
  | some [.int n] => if -1000000 ≤ n ∧ n ≤ 1000000 then .ok (rng n.toNat 0) S st else .stuck
  | _ => .stuck
def iR2 (f : Ev (List Opd)) : Ev (List D) := fun S st => (f S st).bind fun a S st => match vws S a with
  | some [.int a, .int n] => if (-1000000 ≤ a ∧ a ≤ 1000000) ∧ -1000000 ≤ n ∧ n ≤ 1000000 then .ok (rng (n - a).toNat a) S st else .stuck
  | _ => .stuck
theorem di_r1 {f : Ev (List Opd)} {p : Pos} (hm : X.mg "range" = none) (h : DA X B W [e] f) (hg : Gl X "range" := by rfl) (hs : starEach [e] X.env = [(false, eval e X.env)] := by rfl) : DI X B W tg (.Call (.Name "range" p) [e] [] pos) (iR1 f) :=
  pi_imp (pi_range1 hg hm h hs) fun σ H R ⟨F, S, st, o, q⟩ => ⟨F, S, st, o, (Post.bind (R := RpO (Cx.g X) σ) q).mono fun vs H1 ⟨F1, d, S1, st1, g1, o1, r1, p1⟩ => by
    split at p1
    · rename_i n hn
      split at p1
      · rename_i hle
        have ra := o1.vws r1 hn
        cases ra with
        | cons h t =>
          cases t
          cases h.int_eq
          exact ⟨_, rfl, by omega, by omega, p1 _ H1 F1 .refl o1 walks_r⟩
      · exact p1.elim
    · exact p1.elim⟩
theorem di_r2 {e2 : Expr} {f : Ev (List Opd)} {p : Pos} (hm : X.mg "range" = none) (h : DA X B W [e, e2] f) (hg : Gl X "range" := by rfl) (hs : starEach [e, e2] X.env = [(false, eval e X.env), (false, eval e2 X.env)] := by rfl) (hs2 : starEach [e2] X.env = [(false, eval e2 X.env)] := by rfl) : DI X B W tg (.Call (.Name "range" p) [e, e2] [] pos) (iR2 f) :=
  pi_imp (pi_range2 hg hm h hs hs2) fun σ H R ⟨F, S, st, o, q⟩ => ⟨F, S, st, o, (Post.bind (R := RpO (Cx.g X) σ) q).mono fun vs H1 ⟨F1, d, S1, st1, g1, o1, r1, p1⟩ => by
    split at p1
    · rename_i a n hn
      split at p1
      · rename_i hle
        have ra := o1.vws r1 hn
        cases ra with
        | cons h t =>
          cases t with
          | cons h2 t =>
            cases t
            cases h.int_eq
            cases h2.int_eq
            exact ⟨_, _, rfl, ⟨by omega, by omega, by omega, by omega⟩, p1 _ H1 F1 .refl o1 walks_r⟩
      · exact p1.elim
    · exact p1.elim⟩
/-- with the numbers ahead -/
def enumD (ds : List D) : List D := ds.zipIdx.map fun p => .tup [.int p.2, p.1]
theorem new_tup {F' H' : Hp} {T : Addr} {xs : List V} {ds : List D} (f : Same F' H') (hT : H' T = none) (r : RpAll G F' xs ds) : ∃ F2, Same H' (upd H' T (.tup xs)) ∧ Same F2 (upd H' T (.tup xs)) ∧ Gr H' F' F2 ∧ Rp G F2 (.ref T) (.tup ds) :=
  ⟨upd F' T (.tup xs), same_new hT, same_upd2 f, gr_new f hT, .tup (.inl (.inl upd_same)) (r.mono (gr_new (o := .tup xs) f hT).1)⟩
theorem walks_e {F : Hp} {K : PySem.W.Frag} {a : Addr} {xs : List V} {ds : List D} {mg} (h : SqL K F a xs) (r : RpAll ⟨K, mg⟩ F xs ds) : Walks ⟨K, mg⟩ (Ite K a) F (enumD ds) := fun F' H' f f' i => by
  have hs := f'.seq (f.seq h)
  have le : (enumD ds).length = ds.length := by simp [enumD]
  refine ⟨fun hi => ?_, fun hi => ⟨xs, hs, by rw [r.length, ← le]; exact hi⟩, fun d hd x H2 ⟨T, y, e1, hT, e2, hy⟩ => ?_⟩
  · rw [le] at hi
    obtain ⟨v, hv, _⟩ := r.get (List.getElem?_eq_getElem hi)
    exact ⟨xs, v, hs, hv⟩
  · subst e1; subst e2
    unfold enumD at hd
    rw [List.getElem?_map, List.getElem?_zipIdx] at hd
    cases hz : ds[i]? with
    | none => rw [hz] at hd; cases hd
    | some z =>
      rw [hz] at hd; cases hd
      obtain ⟨v, hv, rv⟩ := r.get hz
      have := hy xs hs
      rw [hv] at this; cases this
      have := new_tup (xs := [.int (i : Nat), _]) (ds := [.int ((i : Nat) : Int), z]) f' hT (.cons (.int _) (.one (rv.mono f)))
      simpa using this
def iEn (f : Ev (List Opd)) : Ev (List D) := fun S st => (f S st).bind fun a S st => match vds S a with
  | some [d] => match asL d with
    | some ds => .ok (enumD ds) S st
    | none => .stuck
  | _ => .stuck
theorem rp_asL {F : Hp} {v : V} {d : D} {ds : List D} (h : Rp G F v d) (e : asL d = some ds) : ∃ p xs, v = .ref p ∧ SqL G.K F p xs ∧ RpAll G F xs ds := by
  cases h with
  | lst h1 h2 => cases e; exact ⟨_, _, rfl, .inl (.inl h1), h2⟩
  | scr h1 => cases e; exact ⟨_, _, rfl, h1, rp_ints G F _⟩
  | _ => cases e
theorem di_en {elts : List Expr} {kk : Nat} {tpos : Pos} {f : Ev (List Opd)} {p : Pos} (hm : X.mg "enumerate" = none) (h : DA X B W [e] f) (hg : Gl X "enumerate" := by rfl) (hs : starEach [e] X.env = [(false, eval e X.env)] := by rfl) : DI X B W (.Tuple elts kk tpos) (.Call (.Name "enumerate" p) [e] [] pos) (iEn f) :=
  pi_imp (pi_enum hg hm h hs) fun σ H R ⟨F, S, st, o, q⟩ => ⟨F, S, st, o, (Post.bind (R := RpO (Cx.g X) σ) q).mono fun vs H1 ⟨F1, d, S1, st1, g1, o1, r1, p1⟩ => by
    split at p1
    · rename_i d hd
      split at p1
      · rename_i ds hds
        have ra := o1.vds r1 hd
        cases ra with
        | cons h t =>
          cases t
          obtain ⟨p, xs, rfl, h1, h2⟩ := rp_asL h hds
          exact ⟨p, xs, rfl, o1.fH.seq h1, p1 _ H1 F1 .refl o1 (walks_e h1 h2)⟩
      · exact p1.elim
    · exact p1.elim⟩
def zipD (ds es : List D) : List D := (ds.zip es).map fun p => .tup [p.1, p.2]
theorem walks_z {F : Hp} {K : PySem.W.Frag} {a b : Addr} {xs ys : List V} {ds es : List D} {mg} (h : SqL K F a xs) (r : RpAll ⟨K, mg⟩ F xs ds) (h' : SqL K F b ys) (r' : RpAll ⟨K, mg⟩ F ys es) : Walks ⟨K, mg⟩ (Itz K a b) F (zipD ds es) := fun F' H' f f' i => by
  have hs := f'.seq (f.seq h)
  have hs' := f'.seq (f.seq h')
  have le : (zipD ds es).length = min ds.length es.length := by simp [zipD]
  refine ⟨fun hi => ?_, fun hi => ⟨xs, ys, hs, hs', by rw [r.length, r'.length]; rw [le] at hi; omega⟩, fun d hd x H2 ⟨T, y, z, e1, hT, e2, hy, hz⟩ => ?_⟩
  · rw [le] at hi
    obtain ⟨v, hv, _⟩ := r.get (List.getElem?_eq_getElem (show i < ds.length by omega))
    obtain ⟨w, hw, _⟩ := r'.get (List.getElem?_eq_getElem (show i < es.length by omega))
    exact ⟨xs, ys, v, w, hs, hs', hv, hw⟩
  · subst e1; subst e2
    unfold zipD at hd
    rw [List.getElem?_map] at hd
    cases hq : (ds.zip es)[i]? with
    | none => rw [hq] at hd; cases hd
    | some q =>
      rw [hq] at hd; cases hd
      have hq' := List.getElem?_zip_eq_some.mp hq
      obtain ⟨v, hv, rv⟩ := r.get hq'.1
      obtain ⟨w, hw, rw'⟩ := r'.get hq'.2
      have e1 := hy xs hs
      rw [hv] at e1; cases e1
      have e2 := hz ys hs'
      rw [hw] at e2; cases e2
      exact new_tup (xs := [_, _]) (ds := [q.1, q.2]) f' hT (.cons (rv.mono f) (.one (rw'.mono f)))
def iZ (f : Ev (List Opd)) : Ev (List D) := fun S st => (f S st).bind fun a S st => match vds S a with
  | some [d, e] => match asL d, asL e with
    | some ds, some es => .ok (zipD ds es) S st
    | _, _ => .stuck
  | _ => .stuck
theorem di_z {elts : List Expr} {kk : Nat} {tpos : Pos} {e2 : Expr} {f : Ev (List Opd)} {p : Pos} (hm : X.mg "zip" = none) (h : DA X B W [e, e2] f) (hg : Gl X "zip" := by rfl) (hs : starEach [e, e2] X.env = (false, eval e X.env) :: starEach [e2] X.env := by rfl) (hpl : (backTo pos (starEach [e2] X.env)).any (·.1) = false := by rfl) : DI X B W (.Tuple elts kk tpos) (.Call (.Name "zip" p) [e, e2] [] pos) (iZ f) :=
  pi_imp (pi_zip hg hm h hs hpl) fun σ H R ⟨F, S, st, o, q⟩ => ⟨F, S, st, o, (Post.bind (R := RpO (Cx.g X) σ) q).mono fun vs H1 ⟨F1, d, S1, st1, g1, o1, r1, p1⟩ => by
    split at p1
    · rename_i d e hd
      split at p1
      · rename_i ds es hds hes
        have ra := o1.vds r1 hd
        cases ra with
        | cons h t =>
          cases t with
          | cons h' t =>
            cases t
            obtain ⟨p, xs, rfl, h1, h2⟩ := rp_asL h hds
            obtain ⟨p', ys, rfl, h1', h2'⟩ := rp_asL h' hes
            exact ⟨p, p', xs, ys, rfl, o1.fH.seq h1, o1.fH.seq h1', p1 _ H1 F1 .refl o1 (walks_z h1 h2 h1' h2')⟩
      · exact p1.elim
    · exact p1.elim⟩
theorem walks_v {F : Hp} {K : PySem.W.Frag} {a : Addr} {xs : List V} {ds : List D} {mg} (h : SqL K F a xs) (r : RpAll ⟨K, mg⟩ F xs ds) : Walks ⟨K, mg⟩ (Itv K a xs.length) F ds.reverse := fun F' H' f f' i => by
  have hs := f'.seq (f.seq h)
  have rl := r.length
  refine ⟨fun hi => ?_, fun hi => ?_, fun d hd x H2 ⟨e, y⟩ => ?_⟩
  · rw [List.length_reverse] at hi
    obtain ⟨v, hv, _⟩ := r.get (List.getElem?_eq_getElem (show xs.length - 1 - i < ds.length by omega))
    exact ⟨by omega, xs, v, hs, hv⟩
  · rw [List.length_reverse] at hi
    show xs.length ≤ i
    omega
  · subst e
    have hi : i < ds.length := by
      have := (List.getElem?_eq_some_iff.mp hd).1
      rwa [List.length_reverse] at this
    rw [List.getElem?_reverse hi] at hd
    rw [← rl] at hd
    obtain ⟨v, hv, rv⟩ := r.get hd
    have := y xs hs
    rw [hv] at this; cases this
    exact ⟨F', Same.refl _, f', .refl, rv.mono f⟩
def iV (f : Ev (List Opd)) : Ev (List D) := fun S st => (f S st).bind fun a S st => match vds S a with
  | some [d] => match asL d with
    | some ds => .ok ds.reverse S st
    | none => .stuck
  | _ => .stuck
theorem di_v {f : Ev (List Opd)} {p : Pos} (hm : X.mg "reversed" = none) (h : DA X B W [e] f) (hg : Gl X "reversed" := by rfl) (hs : starEach [e] X.env = [(false, eval e X.env)] := by rfl) : DI X B W tg (.Call (.Name "reversed" p) [e] [] pos) (iV f) :=
  pi_imp (pi_reversed hg hm h hs) fun σ H R ⟨F, S, st, o, q⟩ => ⟨F, S, st, o, (Post.bind (R := RpO (Cx.g X) σ) q).mono fun vs H1 ⟨F1, d, S1, st1, g1, o1, r1, p1⟩ => by
    split at p1
    · rename_i d hd
      split at p1
      · rename_i ds hds
        have ra := o1.vds r1 hd
        cases ra with
        | cons h t =>
          cases t
          obtain ⟨p, xs, rfl, h1, h2⟩ := rp_asL h hds
          exact ⟨p, xs, rfl, o1.fH.seq h1, p1 _ H1 F1 .refl o1 (walks_v h1 h2)⟩
      · exact p1.elim
    · exact p1.elim⟩
end
/-- the built-ins' names are the module's own nowhere -/
structure Bl (mg : Str → Option Value) : Prop where
  len : mg "len" = none
  isinstance : mg "isinstance" = none
  str : mg "str" = none
  int : mg "int" = none
  bool : mg "bool" = none
  list : mg "list" = none
  tuple : mg "tuple" = none
  dict : mg "dict" = none
  set : mg "set" = none
  range : mg "range" = none
  enumerate : mg "enumerate" = none
  zip : mg "zip" = none
  reversed : mg "reversed" = none
  sorted : mg "sorted" = none
  sum : mg "sum" = none
  all : mg "all" = none
  any : mg "any" = none
  abs : mg "abs" = none
  max : mg "max" = none
  min : mg "min" = none
  ord : mg "ord" = none
  divmod : mg "divmod" = none
  repr : mg "repr" = none
end DL

namespace DL
open PySem PySem.Spec PyProof.Rows L2
/-! ### defs with a default for the last parameter -/
section
variable {P : Program} {w : World} {K : PySem.W.Frag} {mg : Str → Option Value} {base : Heap}
theorem fnD_ok {x qual : Str} {st : Stmt} {f : Addr} {fd : FuncData} {N ps : List Str} {k : Nat} {b : EvS} {dvs : List V} (F : FunD K x qual (defArgs st) (defBody st) (defScope st) dvs [] f fd) (S : FnScope N ps (defScope st))
    (body : ∀ (cdv : Value) (A : Around) (outer : List Env) (s : Shared) (H : Hp) (E : XK) (W : WX), Room k (A.deeper (envOfC qual (defScope st) s.heap.objs.size f cdv)) →
      Takes (cxOf (L2.CX P w) P w K mg base N qual (defScope st) f cdv A outer s H E) W → PassesOwn (model P w) (A.deeper (envOfC qual (defScope st) s.heap.objs.size f cdv)) (envOfC qual (defScope st) s.heap.objs.size f cdv) (cxOf (L2.CX P w) P w K mg base N qual (defScope st) f cdv A outer s H E).xe →
      DSs (cxOf (L2.CX P w) P w K mg base N qual (defScope st) f cdv A outer s H E) H W (defBody st) b) : FnOk P w K mg base (L2.CX P w) (k + 1) f fd ps (spOf ⟨K, mg⟩ ps.length (runB N.length b)) := by
  refine F.ok S (fun vs H Q E h => h.1) (fun cdv A outer s H vs Q E hr h => ?_)
  refine ⟨_, body cdv A outer s H E (fun cls d _ H' => E cls d H') hr (takes_of rfl rfl rfl rfl) (passes_of rfl), ?_⟩
  obtain ⟨hl, F0, ds, st0, f0, r, q⟩ := h
  have hN : ps.length ≤ N.length := by have := congrArg List.length S.pre; rw [List.length_take] at this; omega
  refine ⟨F0, _, st0, Ok.start f0 r (by omega), ?_⟩
  unfold runB at q
  revert q
  generalize b (ds.map Sl.d ++ List.replicate (N.length - ds.length) .no) st0 = r
  intro q
  cases r with
  | nx S1 st1 => exact fun σ' H' F' g o => q .non H' F' o.kp o.fH g .non
  | ret d S1 st1 => exact fun v σ' H' F' g o rr => q v H' F' o.kp o.fH g rr
  | exc y S1 st1 => exact fun c d σ' H' F' g o rr => q c d H' F' o.kp o.fH g rr
  | bk S1 st1 => exact q.elim
  | ct S1 st1 => exact q.elim
  | rto w1 S1 st1 => exact q.elim
  | stuck => exact q.elim
/-- x, called in full or without the last one, whose default is v (of datum dv), or with it by its name kn -/
structure DefV (P : Program) (w : World) (K : PySem.W.Frag) (mg : Str → Option Value) (base : Heap) (k : Nat) (x : Str) (n : Nat) (c : CallT) (v : V) (kn : Str) : Prop where
  ex : ∃ f fd ps, FnOk P w K mg base (L2.CX P w) k f fd ps (spOf ⟨K, mg⟩ (n + 1) c) ∧ Binds K fd ps [] ∧ (∃ u, RelV v u ∧ Binds K fd ps [u]) ∧ KBn K fd ps n [kn] (fun us ws => us ++ ws) (fun vs zs => vs ++ zs) ∧ mg x = some (.ref f) ∧ PySem.W.keepIn K (.ref f) = true
theorem DefV.mono {k j : Nat} {x : Str} {n : Nat} {c : CallT} {v : V} {kn : Str} (d : DefV P w K mg base k x n c v kn) (h : k ≤ j) : DefV P w K mg base j x n c v kn := by
  obtain ⟨f, fd, ps, a, b, c, e, g, i⟩ := d.ex
  exact ⟨f, fd, ps, a.mono h, b, c, e, g, i⟩
theorem DefV.full {k : Nat} {x : Str} {n : Nat} {c : CallT} {v : V} {kn : Str} (d : DefV P w K mg base k x n c v kn) : Def P w K mg base k x (n + 1) c := by
  obtain ⟨f, fd, ps, a, b, c, e, g, i⟩ := d.ex
  exact ⟨f, fd, ps, a, b, g, i⟩
theorem defV_ok {x qual : Str} {st : Stmt} {f : Addr} {fd : FuncData} {N ps : List Str} {k n : Nat} {b : EvS} {v : V} {kn : Str} (F : FunD K x qual (defArgs st) (defBody st) (defScope st) [v] [] f fd) (S : FnScope N ps (defScope st)) (hm : mg x = some (.ref f)) (hn : ps.length = n + 1)
    (hfull : ∀ (T : Addr) (kV doc pm : Value) (an : Option Addr) (cdv ct : Value) (us its : List Value), us.length = n + 1 → its.length = 1 →
      ∃ k, bindArgs (PySem.W.fnOf x qual (defArgs st) (defBody st) (defScope st) (.ref T) kV doc pm an cdv ct) ⟨us, []⟩ = seqItems? (.ref T) >>= k ∧ k (some its.toArray) = pure (ps.zip (us ++ its.drop 1)))
    (hshort : ∀ (T : Addr) (kV doc pm : Value) (an : Option Addr) (cdv ct : Value) (us its : List Value), us.length = n → its.length = 1 →
      ∃ k, bindArgs (PySem.W.fnOf x qual (defArgs st) (defBody st) (defScope st) (.ref T) kV doc pm an cdv ct) ⟨us, []⟩ = seqItems? (.ref T) >>= k ∧ k (some its.toArray) = pure (ps.zip (us ++ its.drop 0)))
    (hkw : ∀ (T : Addr) (kV doc pm : Value) (an : Option Addr) (cdv ct : Value) (us its ws : List Value), us.length = n → its.length = 1 → ws.length = 1 →
      ∃ k, bindArgs (PySem.W.fnOf x qual (defArgs st) (defBody st) (defScope st) (.ref T) kV doc pm an cdv ct) ⟨us, [kn].zip ws⟩ = seqItems? (.ref T) >>= k ∧ k (some its.toArray) = pure (ps.zip (us ++ ws)))
    (body : ∀ (cdv : Value) (A : Around) (outer : List Env) (s : Shared) (H : Hp) (E : XK) (W : WX), Room k (A.deeper (envOfC qual (defScope st) s.heap.objs.size f cdv)) →
      Takes (cxOf (L2.CX P w) P w K mg base N qual (defScope st) f cdv A outer s H E) W → PassesOwn (model P w) (A.deeper (envOfC qual (defScope st) s.heap.objs.size f cdv)) (envOfC qual (defScope st) s.heap.objs.size f cdv) (cxOf (L2.CX P w) P w K mg base N qual (defScope st) f cdv A outer s H E).xe →
      DSs (cxOf (L2.CX P w) P w K mg base N qual (defScope st) f cdv A outer s H E) H W (defBody st) b) : DefV P w K mg base (k + 1) x n (runB N.length b) v kn := by
  have h1 := fnD_ok F S body
  rw [hn] at h1
  obtain ⟨d1, r1, b1⟩ := F.binds1 (ps := ps) (n + 1) 1 (by simp) (by simp [hn]) hfull
  obtain ⟨d0, r0, b0⟩ := F.binds1 (ps := ps) n 0 (by simp) (by simp [hn]) hshort
  obtain ⟨its, kb⟩ := F.kbindsD (ps := ps) n [kn] (fun us _ ws => us ++ ws) (by simp) (fun a _ c => a.append c) hkw
  cases r1
  cases r0 with
  | cons a t =>
    cases t
    exact ⟨f, fd, ps, h1, b1, ⟨_, a, b0⟩, kb, hm, F.kp⟩
/-- the default's tuple as it stands behind the top -/
theorem funD_mk {x qual : Str} {st : Stmt} {f T : Addr} {oc oc2 : Value} {od an od2 : Option Addr} {osl sl2 : Array (Option Value)} {kV doc pm cdv ct u : Value} {n2 : Nat} {v : V} (l : K.lookup f = some ⟨oc, od, .func (PySem.W.fnOf x qual (defArgs st) (defBody st) (defScope st) (.ref T) kV doc pm an cdv ct), osl⟩)
    (lT : K.lookup T = some ⟨oc2, od2, .seq #[u] n2, sl2⟩) (ru : RelV v u) (c : PySem.W.codeIn K cdv qual = true) (k : PySem.W.keepIn K (.ref f) = true) : FunD K x qual (defArgs st) (defBody st) (defScope st) [v] [] f (PySem.W.fnOf x qual (defArgs st) (defBody st) (defScope st) (.ref T) kV doc pm an cdv ct) :=
  ⟨⟨oc, od, .ref T, kV, doc, pm, an, cdv, ct, osl, rfl, l, c, .inr ⟨by simp, T, _, [u], n2, rfl, lT, rfl, .cons ru .nil⟩, .inl rfl⟩, k⟩
end
/-- called without the last one -/
def cDf (c : CallT) (d : D) : CallT := fun ds st => c (ds ++ [d]) st
def tCallP (sp : Sp) (E : L2.St → XK) (ws : List V) (t : TA) : TE := fun σ H Q => t σ H fun vs H1 => sp (vs ++ ws) H1 Q (E σ)
def tCallQ (n : Nat) (sp : Sp) (E : L2.St → XK) (t tk : TA) : TE := fun σ H Q => t σ H fun vs H1 => tk σ H1 fun zs H2 => vs.length = n ∧ zs.length = 1 ∧ sp (vs ++ zs) H2 Q (E σ)
section
variable {X : Cx} {B : Hp} {W : WX} {e e2 : Expr} {es : List Expr} {pos p kpos : Pos} {k n : Nat} {x kn : Str} {c : CallT}
theorem run_dfl {f : Addr} {fd : FuncData} {ps : List Str} {sp : Sp} {pins : List (Addr × Obj)} {σ : L2.St} {H : Hp} {s : Shared} {Q : VK} {us ds : List Value} {vs ws : List V} (F : FnOk X.prog X.w X.K X.mg X.base (L2.CX X.prog X.w) k f fd ps sp) (hr : Room k X.A) (hb : Binds X.K fd ps ds) (tk : Takes X W)
    (I : Inv X pins σ H s) (r : Vals vs us) (rd : Vals ws ds) (h : sp (vs ++ ws) H Q (WE W σ)) : wpAny (model X.prog X.w) X.A (call (.ref f) us) (EP X pins σ Q) X.xe s := by
  have hl : (us ++ ds).length = ps.length := (r.append rd).length.symm.trans (F.len _ _ _ _ h)
  refine wpAny_call (codeAny_mono (F.run X.A X.stack s H ⟨us, []⟩ (us ++ ds) (vs ++ ws) Q (WE W σ) hr I.env0 (hb s us I.kIn hl) (r.append rd) h) fun y s2 hq => ?_)
  match y, hq with
  | .error u, hq => exact passAt tk σ pins H s u s2 I hq
  | .ok (.ret u), hq => exact I.after hq
  | .ok .next, hq => exact hq.elim
  | .ok .brk, hq => exact hq.elim
  | .ok .cont, hq => exact hq.elim
theorem run_kwl {f : Addr} {fd : FuncData} {ps : List Str} {sp : Sp} {pins : List (Addr × Obj)} {σ : L2.St} {H : Hp} {s : Shared} {Q : VK} {us ws : List Value} {vs zs : List V} (F : FnOk X.prog X.w X.K X.mg X.base (L2.CX X.prog X.w) k f fd ps sp) (hr : Room k X.A) (hb : KBn X.K fd ps n [kn] (fun us ws => us ++ ws) (fun vs zs => vs ++ zs)) (tk : Takes X W)
    (I : Inv X pins σ H s) (r : Vals vs us) (rz : Vals zs ws) (l1 : vs.length = n) (l2 : zs.length = 1) (h : sp (vs ++ zs) H Q (WE W σ)) : wpAny (model X.prog X.w) X.A (call (.ref f) us ([kn].zip ws)) (EP X pins σ Q) X.xe s := by
  have e1 : us.length = n := r.length.symm.trans l1
  have e2 : ws.length = 1 := rz.length.symm.trans l2
  refine wpAny_call (codeAny_mono (F.run X.A X.stack s H ⟨us, [kn].zip ws⟩ (us ++ ws) (vs ++ zs) Q (WE W σ) hr I.env0 (hb.to s us ws I.kIn e1 e2) (hb.rel r rz) h) fun y s2 hq => ?_)
  match y, hq with
  | .error u, hq => exact passAt tk σ pins H s u s2 I hq
  | .ok (.ret u), hq => exact I.after hq
  | .ok .next, hq => exact hq.elim
  | .ok .brk, hq => exact hq.elim
  | .ok .cont, hq => exact hq.elim
theorem pe_callP {f : Addr} {fd : FuncData} {ps : List Str} {sp : Sp} {ds : List Value} {ws : List V} {t : TA} (F : FnOk X.prog X.w X.K X.mg X.base (L2.CX X.prog X.w) k f fd ps sp) (hr : Room k X.A) (hg : Gl X x) (hm : X.mg x = some (.ref f)) (hk : PySem.W.keepIn X.K (.ref f) = true) (hb : Binds X.K fd ps ds) (rd : Vals ws ds) (tk : Takes X W)
    (ha : PA X (e :: es) t) (hdb : (x == ("__debug__" : Str)) = false := by decide) (he : starEach (e :: es) X.env = (false, eval e X.env) :: starEach es X.env := by rfl) (hpl : (backTo pos (starEach es X.env)).any (·.1) = false := by rfl) :
    PE X (.Call (.Name x p) (e :: es) [] pos) (tCallP sp (WE W) ws t) := by
  refine ⟨fun pins s σ H Q I h => ?_⟩
  refine wpAny_Call_Name_kw (ld_glob I hg hm ?_ hdb)
  exact PySem.W.callWith_K (h₀ := X.base) I.ok.mod.kin hk (thn (ha.run pos pins s σ H _ I h) fun us s1 ⟨vs, H1, I1, r, q⟩ => ⟨I1.kIn, run_dfl F hr hb tk I1 r rd q⟩) he hpl
theorem pe_callQ {f : Addr} {fd : FuncData} {ps : List Str} {sp : Sp} {t tkw : TA} {kws : List Keyword} (F : FnOk X.prog X.w X.K X.mg X.base (L2.CX X.prog X.w) k f fd ps sp) (hr : Room k X.A) (hg : Gl X x) (hm : X.mg x = some (.ref f)) (hk : PySem.W.keepIn X.K (.ref f) = true) (hb : KBn X.K fd ps n [kn] (fun us ws => us ++ ws) (fun vs zs => vs ++ zs)) (tk : Takes X W)
    (ha : PA X (e :: es) t) (hkw : PK X kws tkw) (hall : (backToKw pos (keywordEach kws X.env)).all (·.1.isSome) = true := by rfl) (hks : (backToKw pos (keywordEach kws X.env)).filterMap (·.1) = [kn] := by rfl)
    (hdb : (x == ("__debug__" : Str)) = false := by decide) (he : starEach (e :: es) X.env = (false, eval e X.env) :: starEach es X.env := by rfl)
    (hpl : ((backTo pos (starEach (e :: es) X.env)).any (·.1) || (backToKw pos (keywordEach kws X.env)).any (·.1.isNone)) = false := by rfl) :
    PE X (.Call (.Name x p) (e :: es) kws pos) (tCallQ n sp (WE W) t tkw) := by
  refine ⟨fun pins s σ H Q I h => ?_⟩
  refine wpAny_Call_Name_kw (ld_glob I hg hm ?_ hdb)
  refine PySem.W.callWith_KW (h₀ := X.base) I.ok.mod.kin hk hall (thn (ha.run pos pins s σ H _ I h) fun us s1 ⟨vs, H1, I1, r, q⟩ => thn (hkw.run pos pins s1 σ H1 _ I1 q) fun ws s2 ⟨zs, H2, I2, rz, l1, l2, q2⟩ => ⟨I2.kIn, ?_⟩) hpl he
  rw [hks]
  exact run_kwl F hr hb tk I2 r rz l1 l2 q2
theorem sp_dfl {G : Gx} {v : V} {d : D} {vs : List V} {H : Hp} {Q : VK} {E : XK} (hv : ∀ F, Rp G F v d) (h : spOf G n (cDf c d) vs H Q E) : spOf G (n + 1) c (vs ++ [v]) H Q E := by
  obtain ⟨hl, F, ds, st, f, r, q⟩ := h
  exact ⟨by simp [hl], F, ds ++ [d], st, f, r.append (.one (hv F)), q⟩
/-- x(e, ..), the last one by its default -/
theorem de_cD {fa : Ev (List Opd)} {v : V} (dv : D) (d : DefV X.prog X.w X.K X.mg X.base k x n c v kn) (hv : ∀ F, Rp (Cx.g X) F v dv) (hr : Room k X.A) (tk : Takes X W) (ha : DA X B W (e :: es) fa) (hl : aLen fa n := by repeat (first | exact aLen_n | refine aLen_c ?_)) (hg : Gl X x := by rfl) (hdb : (x == ("__debug__" : Str)) = false := by decide)
    (he : starEach (e :: es) X.env = (false, eval e X.env) :: starEach es X.env := by rfl) (hpl : (backTo pos (starEach es X.env)).any (·.1) = false := by rfl) : DE X B W (.Call (.Name x p) (e :: es) [] pos) (cE (cDf c dv) fa) := by
  obtain ⟨f, fd, ps, F, _, ⟨u, ru, hb⟩, _, hm, hk⟩ := d.ex
  refine pe_imp (pe_callP F hr hg hm hk hb (.cons ru .nil) tk ha hdb he hpl) fun σ H Q q => ?_
  obtain ⟨F0, S, st, o, q⟩ := call_lift (n := n) hl q
  exact ⟨F0, S, st, o, q.mono fun vs H1 z => sp_dfl hv z⟩
/-- x(e, .., kn=e2) -/
def cKE (c : CallT) (fa : Ev (List Opd)) (f2 : Ev D) : Ev D := fun S st => (fa S st).bind fun a S st => (f2 S st).bind fun d S st => match vds S a with
  | some ds => match c (ds ++ [d]) st with
    | .ok d _ st => .ok d S st
    | .exc x _ st => .exc x S st
    | .stuck => .stuck
  | none => .stuck
theorem Opd_len {G : Gx} {σ : L2.St} {F : Hp} {vs : List V} {as : List Opd} (h : RpO G σ F vs as) : vs.length = as.length := by
  induction h with
  | nil => rfl
  | cons _ _ ih => simp [ih]
theorem de_cK {fa : Ev (List Opd)} {f2 : Ev D} {v : V} (d : DefV X.prog X.w X.K X.mg X.base k x n c v kn) (hr : Room k X.A) (tk : Takes X W) (ha : DA X B W (e :: es) fa) (h2 : DE X B W e2 f2) (hl : aLen fa n := by repeat (first | exact aLen_n | refine aLen_c ?_)) (hg : Gl X x := by rfl) (hdb : (x == ("__debug__" : Str)) = false := by decide)
    (hall : (backToKw pos (keywordEach [⟨some kn, e2, kpos⟩] X.env)).all (·.1.isSome) = true := by rfl) (hks : (backToKw pos (keywordEach [⟨some kn, e2, kpos⟩] X.env)).filterMap (·.1) = [kn] := by rfl)
    (he : starEach (e :: es) X.env = (false, eval e X.env) :: starEach es X.env := by rfl) (hpl : ((backTo pos (starEach (e :: es) X.env)).any (·.1) || (backToKw pos (keywordEach [⟨some kn, e2, kpos⟩] X.env)).any (·.1.isNone)) = false := by rfl) : DE X B W (.Call (.Name x p) (e :: es) [⟨some kn, e2, kpos⟩] pos) (cKE c fa f2) := by
  obtain ⟨f, fd, ps, F, _, _, hb, hm, hk⟩ := d.ex
  refine pe_imp (pe_callQ F hr hg hm hk hb tk ha (pk_cons h2 pk_nil) hall hks hdb he hpl) fun σ H Q ⟨F0, S, st, o, q⟩ => ?_
  have hlen := hl S st
  refine ⟨F0, S, st, o, ?_⟩
  unfold cKE at q
  generalize fa S st = r at q hlen
  cases r with
  | exc y S1 st1 => exact q
  | stuck => exact q
  | ok a S1 st1 =>
    intro vs H1 F1 g1 o1 r1
    have q : Post (Cx.g X) B W (RD (Cx.g X) σ) σ F0 Q ((f2 S1 st1).bind fun d S st => match vds S a with
      | some ds => match c (ds ++ [d]) st with
        | .ok d _ st => .ok d S st
        | .exc x _ st => .exc x S st
        | .stuck => .stuck
      | none => .stuck) := q
    have q := Post.grow g1 q
    refine ⟨F1, S1, st1, o1, (Post.bind (R := RD (Cx.g X) σ) q).mono fun v2 H2 ⟨F2, d2, S2, st2, g2, o2, r2, p2⟩ => ?_⟩
    have l1 : vs.length = n := (Opd_len r1).trans (hlen _ _ _ rfl)
    refine ⟨l1, rfl, ?_⟩
    split at p2
    · rename_i ds hds
      have ra := o2.vds (r1.mono g2.1) hds
      refine ⟨by simp [l1], F2, ds ++ [d2], st2, o2.fH, ra.append (.one r2), ?_⟩
      revert p2
      generalize c (ds ++ [d2]) st2 = r
      intro p2
      cases r with
      | ok _ _ _ => exact fun v H' F' k f gr rr => p2 v H' F' (o2.gr gr) (o2.grow gr k f) rr
      | exc _ _ _ => exact fun cls dd H' F' k f gr rr => p2 cls dd H' F' (o2.gr gr) (o2.grow gr k f) rr
      | stuck => exact p2.elim
    · exact p2.elim
end
section
variable {S : Sls} {st : Store}
@[simp] theorem cKE_a (c : CallT) (fa : Ev (List Opd)) (f2 : Ev D) : cKE c fa f2 S st = (fa S st).bind fun a S st => (f2 S st).bind fun d S st => match vds S a with
  | some ds => match c (ds ++ [d]) st with
    | .ok d _ st => .ok d S st
    | .exc x _ st => .exc x S st
    | .stuck => .stuck
  | none => .stuck := rfl
@[simp] theorem cDf_a (c : CallT) (d : D) (ds : List D) : cDf c d ds st = c (ds ++ [d]) st := rfl
end
end DL

namespace DL
open PySem PySem.Spec PyProof.Rows L2
/-! ### xs[j] += e, of a slot's own list -/
theorem pg_lst {X : Cx} : PGet X (rIxL X.K) := by
  intro pins s σ H x y v u Q I rx ry h
  obtain ⟨p, xs, i, z, rfl, rfl, hq, he, q⟩ := h
  cases rx
  obtain ⟨t, rfl⟩ := ry
  obtain ⟨its, r, pl, hz⟩ := I.list hq
  obtain ⟨j, g1, g2, g3, g4, g5⟩ := atI_get he
  obtain ⟨w, ew, rw'⟩ := r.get g2
  have hl := r.length
  have hn := line63
  have fin : EP X pins σ Q w s := ⟨z, H, I, rw', q⟩
  by_cases i0 : 0 ≤ i
  · have hj : i.toNat = j := by
      rw [seqIndex_of i0 g5] at g1; exact Option.some.inj g1
    exact wpAny_getItem_list pl.isList i0 (by omega) (by rw [hj]; simpa using ew) fin
  · have hj : (i + (its.toArray.size : Int)).toNat = j := by
      rw [seqIndex_neg (by omega) g4] at g1
      rw [List.size_toArray, ← hl]; exact Option.some.inj g1
    exact wpAny_getItem_list_neg pl.isList (by omega) (by rw [List.size_toArray]; omega) (by omega) (by rw [hj]; simpa using ew) fin
def sAugS (i : Nat) (g : Int → Int → Int) (fj fv : Ev D) : EvS := fun S st => match S[i]? with
  | some (.own (.l _)) => (fj S st).out fun j S st => match j, S[i]? with
    | .int k, some (.own (.l ds)) => match L2.atI ds k with
      | some (.int a) => (fv S st).out fun y S st => match y, S[i]? with
        | .int b, some (.own (.l es)) => match ixN es.length k with
          | some j => .nx (S.set i (.own (.l (es.set j (.int (g a b)))))) st
          | none => .stuck
        | _, _ => .stuck
      | _ => .stuck
    | _, _ => .stuck
  | _ => .stuck
section
variable {X : Cx} {B : Hp} {W : WX} {e a b : Expr} {pos : Pos}
theorem ds_augS {i : Nat} {g : Int → Int → Int} {op : Operator} {fj fv : Ev D} {tpos : Pos} (ho : PE X a (tVar i)) (hj : DE X B W b fj) (hv : DE X B W e fv) (hp : PIp X op (ipI g))
    (hst : ∀ ov iv new, augStore b ov iv new = (do holding [new, ov, iv] (setItem ov iv new); release [new, ov, iv] []; pure .next) := by intros; rfl) : DS X B W (.AugAssign (.Subscript a b tpos) op e pos) (sAugS i g fj fv) :=
  ps_imp (ps_augS ho hj pg_lst hv hp set_list hst) fun D σ H ⟨F, S, st, o, q⟩ => by
    unfold sAugS at q
    split at q
    · rename_i ds0 hS0
      obtain ⟨p, u, e1, h1, h2, h3, r⟩ := o.sl i _ hS0
      refine ⟨_, e1, F, S, st, o, (Post.out (R := RD (Cx.g X) σ) q).mono fun jv H2 ⟨F2, jd, S2, st2, g2, o2, r2, p2⟩ => ?_⟩
      split at p2
      · rename_i k ds hS2
        split at p2
        · rename_i n hn
          obtain ⟨p', u', e1', h1', h2', h3', r'⟩ := o2.sl i _ hS2
          rw [e1] at e1'; cases e1'
          cases r' with
          | l r' =>
            cases r2
            obtain ⟨vv, hvv, rv⟩ := r'.atI hn
            cases rv
            refine ⟨p, _, k, _, rfl, rfl, SqL.of h1', hvv, F2, S2, st2, o2, (Post.out (R := RD (Cx.g X) σ) p2).mono fun yv H3 ⟨F3, yd, S3, st3, g3, o3, r3, p3⟩ => ?_⟩
            split at p3
            · rename_i m es hS3
              split at p3
              · rename_i j hj
                obtain ⟨p2', u2', e2', k1, k2, k3, rr⟩ := o3.sl i _ hS3
                rw [e1] at e2'; cases e2'
                cases rr with
                | l rr =>
                  cases r3
                  exact ⟨n, m, rfl, rfl, p, _, k, j, rfl, rfl, k1, by rw [rr.length]; exact hj, p3 σ _ F3 .refl (o3.chg hS3 e1 (.l (rr.set j (.int _))))⟩
              · exact p3.elim
            · exact p3.elim
        · exact p2.elim
      · exact p2.elim
    · exact q.elim
end
end DL

namespace DL
open PySem PySem.Spec PyProof.Rows L2
section
variable {G : Gx} {X : Cx}
/-! ### texts: join, parts -/
def joinN (a : List Nat) : List (List Nat) → List Nat
  | [] => []
  | [x] => x
  | x :: y :: r => x ++ a ++ joinN a (y :: r)
theorem join_tx (a : List Nat) : ∀ ss : List (List Nat), Txt.join (tx a) (ss.map tx) = tx (joinN a ss) := fun ss => by
  show Builtin.Str.glued (tx a) (ss.map tx) = _
  rw [StrLaws.glued_eq_join]
  induction ss with
  | nil => rfl
  | cons x r ih =>
    cases r with
    | nil => rfl
    | cons y r =>
      show tx x ++ tx a ++ Str.join (tx a) ((y :: r).map tx) = _
      rw [ih, tx_app, tx_app]; rfl
theorem okS_join {a : List Nat} (h : okS a = true) : ∀ {ss : List (List Nat)}, (∀ s ∈ ss, okS s = true) → okS (joinN a ss) = true
  | [], _ => rfl
  | [x], k => k x (List.mem_cons_self ..)
  | x :: y :: r, k => okS_app (okS_app (k x (List.mem_cons_self ..)) h) (okS_join h fun s m => k s (List.mem_cons_of_mem _ m))
theorem strs_ok {F : Hp} : ∀ {xs : List V} {ss : List (List Nat)}, RpAll G F xs (ss.map D.str) → ∀ s ∈ ss, okS s = true
  | _, [], _, s, m => by cases m
  | _ :: _, x :: r, .cons h t, s, m => by
    cases h with
    | str _ o =>
      rcases List.mem_cons.mp m with e | m
      · rw [e]; exact o
      · exact strs_ok t s m
def dJoin : D → List D → Option D
  | .str a, [d] => match seqD d with
    | some ds => match strsD ds with
      | some ss => if (ss.map (·.length)).sum + ss.length * a.length ≤ 16777216 then some (.str (joinN a ss)) else none
      | none => none
    | none => none
  | _, _ => none
theorem op_dJoin : OpM G (fun x xs H Q => ∃ a p, ∃ ys : List Str, x = .str a ∧ xs = [.ref p] ∧ (SqL G.K H p (ys.map V.str) ∨ SqT G.K H p (ys.map V.str)) ∧ (ys.map (·.length)).sum + ys.length * a.length ≤ 16777216 ∧ Q (.str (Txt.join a ys)) H) dJoin := fun F H v vs x xs d f hv hvs e => by
  unfold dJoin at e
  split at e
  · rename_i a d1
    split at e
    · rename_i ds hds
      split at e
      · rename_i ss hss
        split at e
        · rename_i hle
          cases e
          obtain ⟨rfl, o⟩ := hv.str_eq
          cases hvs with
          | cons h t =>
            cases t
            obtain ⟨p, ys, rfl, h1, h2⟩ := h.seq f hds
            cases strs_eq hss
            cases rp_strs_inv h2
            have o2 := strs_ok h2
            refine gives_v (.str _ (okS_join o o2)) f fun Q q => ⟨_, _, _, rfl, rfl, h1, ?_, by rw [join_tx]; exact q⟩
            have e1 : ((ss.map tx).map (·.length)) = ss.map (·.length) := by
              rw [List.map_map]; exact List.map_congr_left fun s _ => tx_len s
            rw [e1, List.length_map, tx_len]; exact hle
        · cases e
      · cases e
    · cases e
  · cases e
/-- new lists of texts -/
theorem gives_strs {F H : Hp} {r : VK → Prop} {ss : List (List Nat)} (o : ∀ s ∈ ss, okS s = true) (f : Same F H) (h : ∀ Q : VK, rNewStrs (ss.map tx) H Q → r Q) : Gives r G F H (.lst (ss.map .str)) := by
  have rp : RpAll G F ((ss.map tx).map V.str) (ss.map D.str) := by rw [List.map_map]; exact rp_strs G F ss o
  exact gives_lst rp f fun Q q => h Q q
def cpsL (ys : List Str) : List (List Nat) := ys.map fun y => y.cps.toList
theorem map_tx_cps (ys : List Str) : (cpsL ys).map tx = ys := by
  unfold cpsL; rw [List.map_map]
  exact (List.map_congr_left fun y _ => tx_cps y).trans (List.map_id _)
def dSplit : D → List D → Option D
  | .str a, [.str b] => if 0 < b.length ∧ a.length + 2 ≤ 16777216 ∧ (∀ s ∈ cpsL (Txt.split (tx a) (tx b)), okS s = true) then some (.lst ((cpsL (Txt.split (tx a) (tx b))).map .str)) else none
  | _, _ => none
theorem op_dSplit : OpM G (fun x xs H Q => ∃ a b, x = .str a ∧ xs = [.str b] ∧ (b.length == 0) = false ∧ a.length + 2 ≤ sizeLine ∧ rNewStrs (Txt.split a b) H Q) dSplit := fun F H v vs x xs d f hv hvs e => by
  unfold dSplit at e
  split at e
  · split at e
    · rename_i h
      cases e
      obtain ⟨rfl, o⟩ := hv.str_eq
      cases hvs with
      | cons h1 t =>
        cases t
        obtain ⟨rfl, o1⟩ := h1.str_eq
        exact gives_strs h.2.2 f fun Q q => ⟨_, _, rfl, rfl, by rw [tx_len]; exact beq_false_of_ne (by omega), by rw [tx_len, sizeLine_eq]; exact h.2.1, by rw [map_tx_cps] at q; exact q⟩
    · cases e
  · cases e
def dWords : D → Option D
  | .str a => if a.length + 2 ≤ 16777216 ∧ (∀ s ∈ cpsL (Txt.words (tx a)), okS s = true) then some (.lst ((cpsL (Txt.words (tx a))).map .str)) else none
  | _ => none
theorem op_dWords : Op1 G (fun x H Q => ∃ a, x = .str a ∧ ([] : List V) = [] ∧ a.length + 2 ≤ sizeLine ∧ rNewStrs (Txt.words a) H Q) dWords := fun F H v x d f hv e => by
  unfold dWords at e
  split at e
  · split at e
    · rename_i h
      cases e
      obtain ⟨rfl, o⟩ := hv.str_eq
      exact gives_strs h.2 f fun Q q => ⟨_, rfl, rfl, by rw [tx_len, sizeLine_eq]; exact h.1, by rw [map_tx_cps] at q; exact q⟩
    · cases e
  · cases e
def d2S (g : List Nat → List Nat → D) : D → List D → Option D
  | .str a, [.str b] => some (g a b)
  | _, _ => none
def dStarts := d2S fun a b => .bl (Txt.startswith (tx a) (tx b))
def dEnds := d2S fun a b => .bl (Txt.endswith (tx a) (tx b))
def dFind := d2S fun a b => .int (Txt.find (tx a) (tx b))
theorem op_dStarts : OpM G (fun x xs H Q => ∃ a b, x = .str a ∧ xs = [.str b] ∧ Q (.bl (Txt.startswith a b)) H) dStarts := fun F H v vs x xs d f hv hvs e => by
  unfold dStarts d2S at e
  split at e
  · cases e
    obtain ⟨rfl, o⟩ := hv.str_eq
    cases hvs with | cons h1 t => cases t; obtain ⟨rfl, o1⟩ := h1.str_eq; exact gives_v (.bl _) f fun Q q => ⟨_, _, rfl, rfl, q⟩
  · cases e
theorem op_dEnds : OpM G (fun x xs H Q => ∃ a b, x = .str a ∧ xs = [.str b] ∧ Q (.bl (Txt.endswith a b)) H) dEnds := fun F H v vs x xs d f hv hvs e => by
  unfold dEnds d2S at e
  split at e
  · cases e
    obtain ⟨rfl, o⟩ := hv.str_eq
    cases hvs with | cons h1 t => cases t; obtain ⟨rfl, o1⟩ := h1.str_eq; exact gives_v (.bl _) f fun Q q => ⟨_, _, rfl, rfl, q⟩
  · cases e
theorem op_dFind : OpM G (fun x xs H Q => ∃ a b, x = .str a ∧ xs = [.str b] ∧ Q (.int (Txt.find a b)) H) dFind := fun F H v vs x xs d f hv hvs e => by
  unfold dFind d2S at e
  split at e
  · cases e
    obtain ⟨rfl, o⟩ := hv.str_eq
    cases hvs with | cons h1 t => cases t; obtain ⟨rfl, o1⟩ := h1.str_eq; exact gives_v (.int _) f fun Q q => ⟨_, _, rfl, rfl, q⟩
  · cases e
/-! ### numbers as texts -/
def numS (i : Int) : List Nat := (Str.ofString (toString i)).cps.toList
theorem okS_str (x : String) : okS (Str.ofString x).cps.toList = true := by
  have : (Str.ofString x).cps.toList = x.toList.map Char.toNat := PyProof.Rows.signs_ofString x
  rw [this]
  unfold okS
  rw [List.all_map, List.all_eq_true]
  intro c _
  simp
  have := c.valid
  show c.val.toNat < 1114112
  rcases this with h | h
  · exact Nat.lt_trans h (by decide)
  · exact h.2
theorem okS_num (i : Int) : okS (numS i) = true := okS_str _
def dStr : List D → Option D
  | [.int i] => if i.natAbs.log2 < 1920 then some (.str (numS i)) else none
  | _ => none
theorem op_dStr : OpA G (fun xs H Q => ∃ i, xs = [.int i] ∧ i.natAbs.log2 < 1920 ∧ Q (.str (toString i)) H) dStr := fun F H vs xs d f hv e => by
  unfold dStr at e
  split at e
  · split at e
    · rename_i h
      cases e
      cases hv with | cons h1 t => cases t; cases h1.int_eq; exact gives_v (.str _ (okS_num _)) f fun Q q => ⟨_, rfl, h, q⟩
    · cases e
  · cases e
def rIntAll : List V → Hp → VK → Prop := fun xs H Q => ((∃ i, xs = [.int i] ∧ Q (.int i) H) ∨ ∃ k, xs = [.bl k] ∧ Q (.int (if k then 1 else 0)) H) ∨ (∃ a n, xs = [.str a] ∧ PySem.intText? a = some n ∧ a.length ≤ 640 ∧ Q (.int n) H)
theorem opR_int : CallR X (.type "int") rIntAll := CallR.or call_int1 call_int_str
def dInt : List D → Option D
  | [.int i] => some (.int i)
  | [.bl k] => some (.int (if k then 1 else 0))
  | [.str s] => if s.length ≤ 640 then (PySem.intText? (tx s)).map .int else none
  | _ => none
theorem op_dInt : OpA G rIntAll dInt := fun F H vs xs d f hv e => by
  unfold dInt at e
  split at e
  · cases e
    cases hv with | cons h1 t => cases t; cases h1.int_eq; exact gives_v (.int _) f fun Q q => .inl (.inl ⟨_, rfl, q⟩)
  · cases e
    cases hv with | cons h1 t => cases t; cases h1.bl_eq; exact gives_v (.int _) f fun Q q => .inl (.inr ⟨_, rfl, q⟩)
  · rename_i s
    split at e
    · rename_i h
      cases hn : PySem.intText? (tx s) with
      | none => rw [hn] at e; cases e
      | some n =>
        rw [hn] at e; cases e
        cases hv with | cons h1 t => cases t; obtain ⟨rfl, o1⟩ := h1.str_eq; exact gives_v (.int _) f fun Q q => .inr ⟨_, n, rfl, hn, by rw [tx_len]; exact h, q⟩
    · cases e
  · cases e
/-! ### x.index(y) -/
def dDivmod : List D → Option D
  | [.int i, .int j] => if 0 < j ∧ j.natAbs.log2 < 9000 then some (.tup [.int (i / j), .int (i % j)]) else none
  | _ => none
end
/-! ### a op b op c -/
section
variable {X : Cx} {B : Hp} {W : WX} {e a b c : Expr} {es : List Expr} {pos : Pos}
def o3E (op op' : D → D → Option D) (fa fb fc : Ev Opd) : Ev D := fun S st => (fa S st).bind fun a S st => (fb S st).bind fun b S st =>
  match vw S a, vw S b with
  | some x, some y => match op x y with
    | some (.bl true) => (fc S st).bind fun c S st => match vw S b, vw S c with
      | some y, some z => got (op' y z) S st
      | _, _ => .stuck
    | some (.bl false) => .ok (.bl false) S st
    | _ => .stuck
  | _, _ => .stuck
theorem op3_lift {r r' : R2} {op op' : D → D → Option D} {fa fb fc : Ev Opd} (h : Op2 (Cx.g X) r op) (h' : Op2 (Cx.g X) r' op') {σ : L2.St} {H : Hp} {Q : VK} (q : lift (Cx.g X) B W (RD (Cx.g X)) (o3E op op' fa fb fc) σ H Q) :
    tChain r r' (lift (Cx.g X) B W (RO (Cx.g X)) fa) (lift (Cx.g X) B W (RO (Cx.g X)) fb) (lift (Cx.g X) B W (RO (Cx.g X)) fc) σ H Q := by
  obtain ⟨F, S, st, o, q⟩ := q
  refine ⟨F, S, st, o, (Post.bind (R := RO (Cx.g X) σ) q).mono fun v H1 ⟨F1, d, S1, st1, g1, o1, r1, p1⟩ => ⟨F1, S1, st1, o1, (Post.bind (R := RO (Cx.g X) σ) p1).mono fun w H2 ⟨F2, d2, S2, st2, g2, o2, r2, p2⟩ => ?_⟩⟩
  split at p2
  · rename_i x y hx hy
    split at p2
    · rename_i hz
      refine h F2 H2 v w x y _ o2.fH (o2.vw (r1.mono g2.1) hx) (o2.vw r2 hy) hz _ fun v' H' F' k f gr rr => ?_
      cases rr
      refine ⟨_, rfl, ?_⟩
      simp only [if_true]
      refine ⟨F', S2, st2, o2.grow gr k f, ?_⟩
      have g' : Gr B F2 F' := o2.gr gr
      refine (Post.grow g' (Post.bind (R := RO (Cx.g X) σ) p2)).mono fun u H3 ⟨F3, d3, S3, st3, g3, o3, r3, p3⟩ => ?_
      split at p3
      · rename_i y' z hy' hz'
        obtain ⟨t, ht, p3⟩ := got_ok p3
        exact (h' F3 H3 w u y' z t o3.fH (o3.vw (r2.mono g3.1) hy') (o3.vw r3 hz') ht).fin o3 p3
      · exact p3.elim
    · rename_i hz
      refine h F2 H2 v w x y _ o2.fH (o2.vw (r1.mono g2.1) hx) (o2.vw r2 hy) hz _ fun v' H' F' k f gr rr => ?_
      cases rr
      refine ⟨_, rfl, ?_⟩
      simp only [Bool.false_eq_true, if_false]
      exact p2 _ H' F' (o2.gr gr) (o2.grow gr k f) (.bl _)
    · exact p2.elim
  · exact p2.elim
theorem de_chain {o o' : CmpOp} {r r' : R2} {op op' : D → D → Option D} {fa fb fc : Ev Opd} (ho : OpR X (compareOp o) r) (h : Op2 (Cx.g X) r op) (ho' : OpR X (compareOp o') r') (h' : Op2 (Cx.g X) r' op') (ha : DO X B W a fa) (hb : DO X B W b fb) (hc : DO X B W c fc)
    (hm : lastMarks [o, o'] [b, c] = false := by with_unfolding_all rfl) : DE X B W (.Compare a [o, o'] [b, c] pos) (o3E op op' fa fb fc) :=
  pe_imp (pe_chain ho ho' ha hb hc hm) fun _ _ _ q => op3_lift h h' q
theorem dt_chain {o o' : CmpOp} {r r' : R2} {op op' : D → D → Option D} {fa fb fc : Ev Opd} (ho : OpR X (compareOp o) r) (h : Op2 (Cx.g X) r op) (ho' : OpR X (compareOp o') r') (h' : Op2 (Cx.g X) r' op') (ha : DO X B W a fa) (hb : DO X B W b fb) (hc : DO X B W c fc)
    (hm : lastMarks [o, o'] [b, c] = false := by with_unfolding_all rfl) : DT X B W (.Compare a [o, o'] [b, c] pos) (tV (o3E op op' fa fb fc)) :=
  pt_imp (pt_chain ho ho' ha hb hc hm) fun _ _ _ q => test_lift (fun _ _ _ q => op3_lift h h' q) q
/-! ### list(reversed(x)) -/
end
end DL



namespace DL
open PySem PySem.Spec PyProof.Rows L2
/-! ### dicts with texts and numbers as keys -/
def kEq : D → D → Bool
  | .int i, .int j => i == j
  | .str s, .str t => s == t
  | _, _ => false
def isKey : D → Bool
  | .int _ => true
  | .str _ => true
  | _ => false
def lookD (es : List (D × D)) (k : D) : Option D := (es.find? fun e => kEq e.1 k).map (·.2)
def putD (es : List (D × D)) (k d : D) : List (D × D) := if (es.any fun e => kEq e.1 k) = true then es.map (fun e => if kEq e.1 k = true then (e.1, d) else e) else es ++ [(k, d)]
theorem kEq_key (a b : Key) : kEq (keyD a) (keyD b) = decide (a = b) := by
  cases a with
  | inl i => cases b with
    | inl j => by_cases h : i = j <;> simp [keyD, kEq, h]
    | inr y => simp [keyD, kEq]
  | inr x => cases b with
    | inl j => simp [keyD, kEq]
    | inr y =>
      obtain ⟨x⟩ := x; obtain ⟨y⟩ := y
      have : (x.toList = y.toList) ↔ (Sum.inr ⟨x⟩ : Key) = Sum.inr ⟨y⟩ := by
        constructor
        · intro h
          have : x = y := by cases x; cases y; exact congrArg Array.mk h
          rw [this]
        · intro h
          injection h with h; injection h with h; rw [h]
      simp only [keyD, kEq]
      by_cases h : x.toList = y.toList
      · rw [decide_eq_true (this.mp h)]; simpa using h
      · rw [decide_eq_false (fun z => h (this.mpr z))]; simpa using h
theorem RpK.look {G : Gx} {F : Hp} (k : Key) : ∀ {kvs : List (Key × V)} {es : List (D × D)}, RpK G F kvs es → (∃ v d, valV kvs k = some v ∧ lookD es (keyD k) = some d ∧ Rp G F v d) ∨ (valV kvs k = none ∧ lookD es (keyD k) = none)
  | _, _, .nil => .inr ⟨rfl, rfl⟩
  | _, _, .cons (k := j) (v := v) (d := d) o h t => by
    by_cases e : j = k
    · have e2 : kEq (keyD j) (keyD k) = true := by rw [kEq_key]; simpa using e
      exact .inl ⟨v, d, valV_pos e, by simp [lookD, List.find?_cons, e2], h⟩
    · have e2 : kEq (keyD j) (keyD k) = false := by rw [kEq_key]; simpa using e
      rcases RpK.look k t with ⟨v', d', a, b, c⟩ | ⟨a, b⟩
      · exact .inl ⟨v', d', by rw [valV_neg e]; exact a, by simpa [lookD, List.find?_cons, e2] using b, c⟩
      · exact .inr ⟨by rw [valV_neg e]; exact a, by simpa [lookD, List.find?_cons, e2] using b⟩
theorem RpK.any {G : Gx} {F : Hp} (k : Key) : ∀ {kvs : List (Key × V)} {es : List (D × D)}, RpK G F kvs es → (kvs.any fun kv => decide (kv.1 = k)) = es.any fun e => kEq e.1 (keyD k)
  | _, _, .nil => rfl
  | _, _, .cons o h t => by rw [List.any_cons, List.any_cons, RpK.any k t, kEq_key]
theorem RpK.repl {G : Gx} {F : Hp} (k : Key) {y : V} {d : D} (r : Rp G F y d) : ∀ {kvs : List (Key × V)} {es : List (D × D)}, RpK G F kvs es → RpK G F (kvs.map fun kv => if kv.1 = k then (kv.1, y) else kv) (es.map fun e => if kEq e.1 (keyD k) = true then (e.1, d) else e)
  | _, _, .nil => .nil
  | _, _, .cons (k := j) o h t => by
    rw [List.map_cons, List.map_cons, kEq_key]
    by_cases e : j = k
    · rw [if_pos e, if_pos (by simpa using e)]; exact .cons o r (RpK.repl k r t)
    · rw [if_neg e, if_neg (by simpa using e)]; exact .cons o h (RpK.repl k r t)
theorem RpK.snoc {G : Gx} {F : Hp} {k : Key} (hk : okK k = true) {y : V} {d : D} (r : Rp G F y d) : ∀ {kvs : List (Key × V)} {es : List (D × D)}, RpK G F kvs es → RpK G F (kvs ++ [(k, y)]) (es ++ [(keyD k, d)])
  | _, _, .nil => .cons hk r .nil
  | _, _, .cons o h t => .cons o h (RpK.snoc hk r t)
theorem RpK.put {G : Gx} {F : Hp} {k : Key} (hk : okK k = true) {y : V} {d : D} (r : Rp G F y d) {kvs : List (Key × V)} {es : List (D × D)} (t : RpK G F kvs es) : RpK G F (putK kvs k y) (putD es (keyD k) d) := by
  unfold putK putD
  rw [t.any k]
  split
  · exact t.repl k r
  · exact t.snoc hk r
theorem RpK.length {G : Gx} {F : Hp} : ∀ {kvs : List (Key × V)} {es : List (D × D)}, RpK G F kvs es → kvs.length = es.length
  | _, _, .nil => rfl
  | _, _, .cons _ _ t => by rw [List.length_cons, List.length_cons, t.length]
theorem rp_key {G : Gx} {F : Hp} {v : V} {d : D} (h : Rp G F v d) (e : isKey d = true) : ∃ k : Key, v = kV k ∧ keyD k = d ∧ okK k = true := by
  cases h with
  | int i => exact ⟨.inl i, rfl, rfl, rfl⟩
  | str s h => exact ⟨.inr (tx s), rfl, rfl, h⟩
  | _ => cases e
theorem vw_key {G : Gx} {F H : Hp} {v : V} {d : D} (h : Vw G F H v d) (e : isKey d = true) : ∃ k : Key, v = kV k ∧ keyD k = d ∧ okK k = true := by
  rcases h with h | ⟨p, u, w, rfl, hp, r, rfl⟩
  · exact rp_key h e
  · cases r <;> cases e
theorem vw_dic {G : Gx} {F H : Hp} (f : Same F H) {v : V} {es : List (D × D)} (h : Vw G F H v (.dic es)) : ∃ a kvs, v = .ref a ∧ H a = some (.dK kvs) ∧ RpK G F kvs es := by
  rcases h with h | ⟨p, u, w, rfl, hp, r, e⟩
  · cases h with
    | dicK h r => exact ⟨_, _, rfl, f _ _ h, r⟩
  · cases r with
    | l _ => cases e
    | kK r => cases e; exact ⟨p, _, rfl, hp, r⟩
/-- d[k] -/
def dGetK : D → D → Option D
  | .dic es, k => if isKey k = true then lookD es k else none
  | _, _ => none
def rIxDK : R2 := fun x y H Q => ∃ a v, x = .ref a ∧ DGet H a y (some v) ∧ Q v H
theorem ix_dK {X : Cx} (hu : X.A.units + 1 < cLine) : IxR X rIxDK := by
  intro value slice pins s σ H x y v u Q I rx ry h hs
  obtain ⟨a, r, rfl, g, q⟩ := h
  obtain rfl : v = Value.ref a := rx
  exact tail_any (dict_typeIs I g) PySem.F.slot_dict_getitem.lookup (d_getItem hu I g ry fun w' s3 I3 rw' => ⟨r, H, I3, rw', q⟩) hs
theorem op_dGetK {G : Gx} : Op2 G rIxDK dGetK := fun F H v w x y d f hv hw e => by
  unfold dGetK at e
  split at e
  · rename_i es k
    split at e
    · rename_i hk
      obtain ⟨a, kvs, rfl, ha, r⟩ := vw_dic f hv
      obtain ⟨k', rfl, rfl, ok⟩ := vw_key hw hk
      intro Q q
      rcases r.look k' with ⟨v', d', a1, a2, a3⟩ | ⟨a1, a2⟩
      · rw [a2] at e; cases e
        exact ⟨a, v', rfl, .inl ⟨kvs, k', .inl ha, rfl, a1.symm⟩, q v' H F (Same.refl H) f .refl a3⟩
      · rw [a2] at e; cases e
    · cases e
  · cases e
/-- k in d -/
def dInK : D → D → Option D
  | k, .dic es => if isKey k = true then some (.bl (lookD es k).isSome) else none
  | _, _ => none
def dNotInK : D → D → Option D
  | k, .dic es => if isKey k = true then some (.bl (!(lookD es k).isSome)) else none
  | _, _ => none
def rInDK : R2 := fun x y H Q => ∃ a o, y = .ref a ∧ DGet H a x o ∧ Q (.bl o.isSome) H
def rNotInDK : R2 := fun x y H Q => ∃ a o, y = .ref a ∧ DGet H a x o ∧ Q (.bl (!o.isSome)) H
theorem opR_inK {X : Cx} (hu : X.A.units + 1 < cLine) : OpR X (compareOp .In) rInDK := by
  intro pins s σ H x y v u Q I rx ry h
  obtain ⟨a, r, rfl, g, q⟩ := h
  obtain rfl : u = Value.ref a := ry
  exact d_in hu I g rx fun s3 I3 => ⟨.bl r.isSome, H, I3, rfl, q⟩
theorem opR_notInK {X : Cx} (hu : X.A.units + 1 < cLine) : OpR X (compareOp .NotIn) rNotInDK := by
  intro pins s σ H x y v u Q I rx ry h
  obtain ⟨a, r, rfl, g, q⟩ := h
  obtain rfl : u = Value.ref a := ry
  exact d_notIn hu I g rx fun s3 I3 => ⟨.bl (!r.isSome), H, I3, rfl, q⟩
theorem op_dInK {G : Gx} : Op2 G rInDK dInK := fun F H v w x y d f hv hw e => by
  unfold dInK at e
  split at e
  · rename_i k es
    split at e
    · rename_i hk
      cases e
      obtain ⟨a, kvs, rfl, ha, r⟩ := vw_dic f hw
      obtain ⟨k', rfl, rfl, ok⟩ := vw_key hv hk
      intro Q q
      refine ⟨a, valV kvs k', rfl, .inl ⟨kvs, k', .inl ha, rfl, rfl⟩, q _ H F (Same.refl H) f .refl ?_⟩
      rcases r.look k' with ⟨v', d', a1, a2, a3⟩ | ⟨a1, a2⟩
      · rw [a1, a2]; exact .bl _
      · rw [a1, a2]; exact .bl _
    · cases e
  · cases e
theorem op_dNotInK {G : Gx} : Op2 G rNotInDK dNotInK := fun F H v w x y d f hv hw e => by
  unfold dNotInK at e
  split at e
  · rename_i k es
    split at e
    · rename_i hk
      cases e
      obtain ⟨a, kvs, rfl, ha, r⟩ := vw_dic f hw
      obtain ⟨k', rfl, rfl, ok⟩ := vw_key hv hk
      intro Q q
      refine ⟨a, valV kvs k', rfl, .inl ⟨kvs, k', .inl ha, rfl, rfl⟩, q _ H F (Same.refl H) f .refl ?_⟩
      rcases r.look k' with ⟨v', d', a1, a2, a3⟩ | ⟨a1, a2⟩
      · rw [a1, a2]; exact .bl _
      · rw [a1, a2]; exact .bl _
    · cases e
  · cases e
/-- {} -/
def kF0 : Ev Ow := fun S st => .ok (.k []) S st
section
variable {X : Cx} {B : Hp} {W : WX} {pos : Pos}
theorem df_k0 : DF X B W (.Dict [] [] pos) kF0 :=
  pe_imp pe_dnewK fun σ H Q ⟨F, S, st, o, q⟩ => fun p hp => (show PostF (Cx.g X) B W σ F Q (.ok (.k []) S st) from q).new o hp (.kK .nil)
/-- d[k] = v, d in a slot of its own -/
def sPut (i : Nat) (fv fk : Ev D) : EvS := fun S st => (fv S st).out fun d S st => match S[i]? with
  | some (.own (.k _)) => (fk S st).out fun k S st => match S[i]? with
    | some (.own (.k es)) => if isKey k = true ∧ es.length < 16777216 then .nx (S.set i (.own (.k (putD es k d)))) st else .stuck
    | _ => .stuck
  | _ => .stuck
theorem ds_put {i : Nat} {a b e : Expr} {fv fk : Ev D} {tpos : Pos} (hu : X.A.units + 1 < cLine) (ho : PE X a (tVar i)) (hj : DE X B W b fk) (hv : DE X B W e fv) (hs : swapsWith e (some (.Subscript a b tpos)) pos.line X.env = pure false := by rfl) :
    DS X B W (.Assign [.Subscript a b tpos] e pos) (sPut i fv fk) :=
  ps_imp (ps_dput hu ho hj hv hs) fun D σ H ⟨F, S, st, o, q⟩ => ⟨F, S, st, o, (Post.out (R := RD (Cx.g X) σ) q).mono fun v H1 ⟨F1, d, S1, st1, g1, o1, r1, p1⟩ => by
    split at p1
    · rename_i es0 hS0
      obtain ⟨p, u, e1, h1, h2, h3, r⟩ := o1.sl i _ hS0
      refine ⟨_, e1, F1, S1, st1, o1, (Post.out (R := RD (Cx.g X) σ) p1).mono fun kv H2 ⟨F2, k, S2, st2, g2, o2, r2, p2⟩ => ?_⟩
      split at p2
      · rename_i es hS2
        split at p2
        · rename_i hk
          obtain ⟨hk, hl⟩ := hk
          obtain ⟨p', u', e1', h1', h2', h3', r'⟩ := o2.sl i _ hS2
          rw [e1] at e1'; cases e1'
          cases r' with
          | kK r' =>
            obtain ⟨k', rfl, rfl, ok⟩ := rp_key r2 hk
            refine ⟨p, _, rfl, .inl ⟨_, k', h1', rfl, by rw [r'.length, sizeLine_eq]; exact hl, rfl⟩, p2 σ _ F2 .refl (o2.chg hS2 e1 (.kK (r'.put ok (r1.mono g2.1))))⟩
        · exact p2.elim
      · exact p2.elim
    · exact p1.elim⟩
/-! ### {k: v, ..}, the keys texts -/
def mergeD (es more : List (D × D)) : List (D × D) := more.foldl (fun acc e => putD acc e.1 e.2) es
theorem RpK.merge {G : Gx} {F : Hp} : ∀ {more : List (Key × V)} {ms : List (D × D)} {kvs : List (Key × V)} {es : List (D × D)}, RpK G F more ms → RpK G F kvs es → RpK G F (mergeK kvs more) (mergeD es ms)
  | _, _, _, _, .nil, h => h
  | _, _, _, _, .cons (k := k) (v := v) (vs := vs) (d := d) (ds := ds) o r t, h => show RpK G F (mergeK (putK _ k v) vs) (mergeD (putD _ (keyD k) d) ds) from RpK.merge t (h.put o r)
/-- the values of a display; they let nothing out -/
structure DKs (X : Cx) (pos : Pos) (keys : List (Option Expr)) (values : List Expr) (ks : List (List Nat)) (fa : Ev (List Opd)) : Prop where
  ex : ∃ trs, PPs X pos keys values trs ∧ keys.length = ks.length ∧ values.length = ks.length ∧ keys.all (·.isSome) = true ∧
    ∀ (B : Hp) (σ : L2.St) (H : Hp) (Q : List (V × V) → Hp → Prop), lift (Cx.g X) B W0 (RpO (Cx.g X)) fa σ H (fun vs H' => vs.length = ks.length → Q ((ks.map fun s => V.str (tx s)).zip vs) H') → tPairs trs σ H Q
theorem dks_n : DKs X pos [] [] [] aN := ⟨[], pps_nil, rfl, rfl, rfl, fun B σ H Q ⟨F, S, st, o, q⟩ => by
  exact q [] H F .refl o .nil rfl⟩
theorem dks_c {keys : List (Option Expr)} {v : Expr} {values : List Expr} {ks : List (List Nat)} {fa : Ev (List Opd)} {f : Ev Opd} (s : List Nat) {j} {kp : Pos} (hv : ∀ B, DO X B W0 v f) (h : DKs X pos keys values ks fa) :
    DKs X pos (some (.Constant (.str (tx s)) j kp) :: keys) (v :: values) (s :: ks) (aC f fa) := by
  obtain ⟨trs, h1, h2, h3, h4, h5⟩ := h.ex
  refine ⟨(tC (.str (tx s)), fun σ H Q => ∃ B, lift (Cx.g X) B W0 (RO (Cx.g X)) f σ H Q) :: trs, pps_cons pe_str ⟨fun pins s σ H Q I ⟨B, q⟩ => (hv B).run pins s σ H Q I q⟩ h1, by simp [h2], by simp [h3], by simpa using h4, fun B σ H Q ⟨F, S, st, o, q⟩ => ?_⟩
  refine ⟨B, F, S, st, o, (Post.bind (R := RO (Cx.g X) σ) q).mono fun y H1 ⟨F1, d, S1, st1, g1, o1, r1, p1⟩ => ?_⟩
  refine h5 B σ H1 _ ⟨F1, S1, st1, o1, (Post.bind (R := RpO (Cx.g X) σ) p1).mono fun vs H2 ⟨F2, ds, S2, st2, g2, o2, r2, p2⟩ hl => ?_⟩
  exact p2 (y :: vs) H2 F2 .refl o2 (.cons (r1.mono g2.1) r2) (by simp [hl])
def kF (ks : List (List Nat)) (fa : Ev (List Opd)) : Ev Ow := fun S st => (fa S st).calm.bind fun a S st => match vds S a with
  | some ds => if ds.length = ks.length then .ok (.k (mergeD [] ((ks.map D.str).zip ds))) S st else .stuck
  | none => .stuck
theorem zip_keys : ∀ (ks : List (List Nat)) (vs : List V), (ks.map fun s => V.str (tx s)).zip vs = ((ks.map fun s => (Sum.inr (tx s) : Key)).zip vs).map fun kv => (kV kv.1, kv.2)
  | [], _ => rfl
  | _ :: _, [] => rfl
  | s :: r, v :: vs => by
    rw [List.map_cons, List.map_cons, List.zip_cons_cons, List.zip_cons_cons, List.map_cons, zip_keys r vs]; rfl
theorem zip_rpK {G : Gx} {F : Hp} : ∀ {ks : List (List Nat)} {vs : List V} {ds : List D}, ks.all okS = true → RpAll G F vs ds → RpK G F ((ks.map fun s => (Sum.inr (tx s) : Key)).zip vs) ((ks.map D.str).zip ds)
  | [], _, _, _, _ => .nil
  | _ :: _, _, _, _, .nil => .nil
  | s :: r, _, _, h, .cons a t => by
    rw [List.all_cons, Bool.and_eq_true] at h
    rw [List.map_cons, List.map_cons, List.zip_cons_cons, List.zip_cons_cons]
    exact RpK.cons (k := .inr (tx s)) h.1 a (zip_rpK h.2 t)
theorem df_disp {keys : List (Option Expr)} {values : List Expr} {ks : List (List Nat)} {fa : Ev (List Opd)} (h : DKs X pos keys values ks fa) (hok : ks.all okS = true := by decide) (h0 : keys ≠ [] := by simp) (h15 : ks.length ≤ 15 := by decide) : DF X B W (.Dict keys values pos) (kF ks fa) := by
  obtain ⟨trs, h1, h2, h3, h4, h5⟩ := h.ex
  refine pe_imp (pe_disp h1 h4 (h2.trans h3.symm) h0 (by rw [h2]; exact h15)) fun σ H Q ⟨F, S, st, o, q⟩ p hp => ?_
  have hF : F p = none := o.fH.free hp
  have hB : B p = none := o.kp.free hp
  have no : ∀ (j : Nat) (es : Ow), S[j]? = some (.own es) → σ[j]? ≠ some (some (.ref p)) := fun j es e1 e2 => by
    obtain ⟨p', xs', e3, h1, _⟩ := o.sl j _ e1
    rw [e2] at e3; cases e3
    rw [hp] at h1; cases h1
  refine h5 (upd B p (.dK [])) σ _ _ ⟨F, S, st, (o.junk (same_new hp)).pin upd_same hF no, ?_⟩
  unfold kF at q
  revert q
  generalize fa S st = r
  intro q
  cases r with
  | exc x S1 st1 => exact q.elim
  | stuck => exact q.elim
  | ok a S1 st1 =>
    intro vs H1 F1 g1 o1 r1 hl
    have q : PostF (Cx.g X) B W σ F Q (match vds S1 a with
      | some ds => if ds.length = ks.length then .ok (.k (mergeD [] ((ks.map D.str).zip ds))) S1 st1 else .stuck
      | none => .stuck) := q
    split at q
    · rename_i ds hds
      split at q
      · have rr := o1.vds r1 hds
        obtain ⟨g1', f1⟩ := g1.unpin hB hF
        obtain ⟨o1', no1⟩ := o1.unpin (u' := .dK (mergeK [] ((ks.map fun s => (Sum.inr (tx s) : Key)).zip vs))) hB f1
        exact ⟨o1.kp p _ upd_same, (ks.map fun s => (Sum.inr (tx s) : Key)).zip vs, zip_keys ks vs, by rw [List.length_zip, List.length_map]; omega, q p _ _ F1 g1' o1' upd_same f1 hB (.kK ((zip_rpK hok rr).merge .nil)) no1⟩
      · exact q.elim
    · exact q.elim
end
@[simp] theorem kEq_s (s t : List Nat) : kEq (.str s) (.str t) = (s == t) := rfl
@[simp] theorem kEq_i (s t : Int) : kEq (.int s) (.int t) = (s == t) := rfl
@[simp] theorem kEq_si (s : List Nat) (t : Int) : kEq (.str s) (.int t) = false := rfl
@[simp] theorem kEq_is (s : Int) (t : List Nat) : kEq (.int s) (.str t) = false := rfl
@[simp] theorem isKey_s (s : List Nat) : isKey (.str s) = true := rfl
@[simp] theorem isKey_i (s : Int) : isKey (.int s) = true := rfl
@[simp] theorem lookD_n (k : D) : lookD [] k = none := rfl
@[simp] theorem lookD_c (k' d : D) (r : List (D × D)) (k : D) : lookD ((k', d) :: r) k = if kEq k' k = true then some d else lookD r k := by
  unfold lookD
  rw [List.find?_cons]
  cases h : kEq k' k <;> simp [h]
@[simp] theorem putD_n (k d : D) : putD [] k d = [(k, d)] := rfl
@[simp] theorem mergeD_n (es : List (D × D)) : mergeD es [] = es := rfl
@[simp] theorem mergeD_c (es : List (D × D)) (k d : D) (r : List (D × D)) : mergeD es ((k, d) :: r) = mergeD (putD es k d) r := rfl
@[simp] theorem dGetK_a (es : List (D × D)) (k : D) : dGetK (.dic es) k = if isKey k = true then lookD es k else none := rfl
@[simp] theorem dInK_a (es : List (D × D)) (k : D) : dInK k (.dic es) = if isKey k = true then some (.bl (lookD es k).isSome) else none := rfl
@[simp] theorem dNotInK_a (es : List (D × D)) (k : D) : dNotInK k (.dic es) = if isKey k = true then some (.bl (!(lookD es k).isSome)) else none := rfl
@[simp] theorem Ow_k_d (es : List (D × D)) : (Ow.k es).d = .dic es := rfl
/-! ### list.index of a text -/
def idxS (s : List Nat) : List (List Nat) → Nat
  | [] => 0
  | x :: r => if x = s then 0 else idxS s r + 1
theorem idxS_at {s : List Nat} : ∀ {ss : List (List Nat)}, s ∈ ss → ss[idxS s ss]? = some s ∧ ∀ (m : Nat) (z : List Nat), m < idxS s ss → ss[m]? = some z → z ≠ s
  | x :: r, h => by
    unfold idxS
    by_cases e : x = s
    · rw [if_pos e]; exact ⟨by rw [e]; rfl, fun m z hm => by omega⟩
    · rw [if_neg e]
      have hr : s ∈ r := (List.mem_cons.mp h).resolve_left fun z => e z.symm
      obtain ⟨a, b⟩ := idxS_at hr
      refine ⟨by simpa using a, fun m z hm hz => ?_⟩
      cases m with
      | zero => cases hz; exact e
      | succ m => exact b m z (by omega) (by simpa using hz)
def dIndex : D → List D → Option D
  | .lst ds, [.str s] => match strsD ds with
    | some ss => if s ∈ ss then some (.int (idxS s ss : Nat)) else none
    | none => none
  | _, _ => none
theorem op_dIndex {G : Gx} : OpM G (fun x xs H Q => rIndex G.K x xs H Q) dIndex := fun F H v vs x xs d f hv hvs e => by
  unfold dIndex at e
  split at e
  · rename_i ds s
    split at e
    · rename_i ss hss
      split at e
      · rename_i hm
        cases e
        obtain ⟨p, ys, rfl, h1, h2⟩ : ∃ p ys, v = .ref p ∧ SqL G.K H p ys ∧ RpAll G F ys ds := by
          rcases hv with hv | ⟨p, u, w, rfl, hp, r, e⟩
          · cases hv with
            | lst h r => exact ⟨_, _, rfl, .inl (.inl (f _ _ h)), r⟩
          · cases r with
            | l r => cases e; exact ⟨_, _, rfl, .inl (.inl hp), r⟩
            | kK _ => cases e
        cases strs_eq hss
        cases rp_strs_inv h2
        cases hvs with
        | cons hw t =>
          cases t
          obtain ⟨rfl, o⟩ := hw.str_eq
          obtain ⟨a, b⟩ := idxS_at hm
          refine gives_v (.int _) f fun Q q => ⟨p, _, _, idxS s ss, .str (tx s), rfl, rfl, h1, rfl, by simp [flatV], ?_, by simp [eqV], fun m z' hlt hz => ?_, q⟩
          · simp [a]
          · simp only [List.getElem?_map] at hz
            cases q : ss[m]? with
            | none => rw [q] at hz; cases hz
            | some z =>
              rw [q] at hz; cases hz
              have := b m z hlt q
              simp only [eqV, beq_eq_false_iff_ne]
              exact fun e => this (tx_inj e)
      · cases e
    · cases e
  · cases e
@[simp] theorem dIndex_a (ss : List (List Nat)) (s : List Nat) (h : s ∈ ss) : dIndex (.lst (ss.map .str)) [.str s] = some (.int (idxS s ss : Nat)) := by
  simp [dIndex, h]
end DL



namespace DL
open PySem PySem.Spec PyProof.Rows L2
/-! ### lower, upper, index of a text -/
def dLower : D → Option D
  | .str a => if a.length ≤ 5592405 ∧ a.all (· < 128) = true then some (.str (a.map PyProof.Rows.lo1)) else none
  | _ => none
def dUpper : D → Option D
  | .str a => if a.length ≤ 5592405 ∧ a.all (· < 128) = true then some (.str (a.map PyProof.Rows.up1)) else none
  | _ => none
theorem lower_tx {a : List Nat} (h : a.all (· < 128) = true) : Txt.lower (tx a) = tx (a.map PyProof.Rows.lo1) := by
  rw [PyProof.Rows.lower_ascii (x := tx a) (fun c hc => of_decide_eq_true (List.all_eq_true.mp h c hc))]
  simp [tx]
theorem upper_tx {a : List Nat} (h : a.all (· < 128) = true) : Txt.upper (tx a) = tx (a.map PyProof.Rows.up1) := by
  rw [PyProof.Rows.upper_ascii (x := tx a) (fun c hc => of_decide_eq_true (List.all_eq_true.mp h c hc))]
  simp [tx]
theorem lo1_lt {c : Nat} (h : c < 128) : PyProof.Rows.lo1 c < 128 := by unfold PyProof.Rows.lo1; split <;> omega
theorem up1_lt {c : Nat} (h : c < 128) : PyProof.Rows.up1 c < 128 := by unfold PyProof.Rows.up1; split <;> omega
theorem okS_up {a : List Nat} (h : a.all (· < 128) = true) : okS (a.map PyProof.Rows.up1) = true := by
  unfold okS
  rw [List.all_eq_true] at h ⊢
  intro c hc
  obtain ⟨x, hx, rfl⟩ := List.mem_map.mp hc
  have := up1_lt (of_decide_eq_true (h x hx))
  exact decide_eq_true (by omega)
theorem okS_lo {a : List Nat} (h : a.all (· < 128) = true) : okS (a.map PyProof.Rows.lo1) = true := by
  unfold okS
  rw [List.all_eq_true] at h ⊢
  intro c hc
  obtain ⟨x, hx, rfl⟩ := List.mem_map.mp hc
  have := lo1_lt (of_decide_eq_true (h x hx))
  exact decide_eq_true (by omega)
theorem op_dLower {G : Gx} : Op1 G (fun x H Q => ∃ a, x = .str a ∧ ([] : List V) = [] ∧ a.length ≤ 5592405 ∧ Q (.str (Txt.lower a)) H) dLower := fun F H v x d f hv e => by
  unfold dLower at e
  split at e
  · split at e
    · rename_i h
      cases e
      obtain ⟨rfl, o⟩ := hv.str_eq
      refine gives_v (.str _ (okS_lo h.2)) f fun Q q => ⟨_, rfl, rfl, by rw [tx_len]; exact h.1, ?_⟩
      rw [lower_tx h.2]; exact q
    · cases e
  · cases e
theorem op_dUpper {G : Gx} : Op1 G (fun x H Q => ∃ a, x = .str a ∧ ([] : List V) = [] ∧ a.length ≤ 5592405 ∧ Q (.str (Txt.upper a)) H) dUpper := fun F H v x d f hv e => by
  unfold dUpper at e
  split at e
  · split at e
    · rename_i h
      cases e
      obtain ⟨rfl, o⟩ := hv.str_eq
      refine gives_v (.str _ (okS_up h.2)) f fun Q q => ⟨_, rfl, rfl, by rw [tx_len]; exact h.1, ?_⟩
      rw [upper_tx h.2]; exact q
    · cases e
  · cases e
def dSIndex : D → List D → Option D
  | .str a, [.str b] => match Builtin.Str.occurrences (tx a) (tx b) 0 (tx a).length 1 with
    | i :: _ => some (.int (i : Nat))
    | [] => none
  | _, _ => none
theorem op_dSIndex {G : Gx} : OpM G (fun x xs H Q => ∃ a b i rest, x = .str a ∧ xs = [.str b] ∧ Builtin.Str.occurrences a b 0 a.length 1 = i :: rest ∧ Q (.int (i : Nat)) H) dSIndex := fun F H v vs x xs d f hv hvs e => by
  unfold dSIndex at e
  split at e
  · rename_i a b
    split at e
    · rename_i i rest hi
      cases e
      obtain ⟨rfl, o⟩ := hv.str_eq
      cases hvs with | cons h1 t => cases t; obtain ⟨rfl, o1⟩ := h1.str_eq; exact gives_v (.int _) f fun Q q => ⟨_, _, _, _, rfl, rfl, hi, q⟩
    · cases e
  · cases e
@[simp] theorem dLower_a (a : List Nat) (h : a.length ≤ 5592405) (h2 : a.all (· < 128) = true) : dLower (.str a) = some (.str (a.map PyProof.Rows.lo1)) := if_pos ⟨h, h2⟩
@[simp] theorem dUpper_a (a : List Nat) (h : a.length ≤ 5592405) (h2 : a.all (· < 128) = true) : dUpper (.str a) = some (.str (a.map PyProof.Rows.up1)) := if_pos ⟨h, h2⟩
end DL

namespace DL
open PySem PySem.Spec PyProof.Rows L2
/-! ### for c in reversed(text) -/
theorem norev_str : typeLookup (.type "str") "__reversed__" = pure none := by rw [typeLookup_type, builtinLookup_eq_fast]; kernel_rfl
theorem get_str : typeLookup (.type "str") "__getitem__" = pure (some (.builtin "str.__getitem__")) := by rw [typeLookup_type, builtinLookup_eq_fast]; kernel_rfl
theorem sub_str_dict : isSubtype (.type "str") (.type "dict") = pure false := by rw [isSubtype_type]; kernel_rfl
def rxObj (x : Str) (t : Tok) (i : Int) : Obj := { cls := .type "reversed", data := .fields #[.str x t, rawInt i] }
def IsRx (h : Heap) (a : Addr) (x : Str) (t : Tok) (i : Int) : Prop := ∃ o, h.get? a = some o ∧ o.cls = .type "reversed" ∧ o.data = .fields #[.str x t, rawInt i]
theorem IsRx.at {h h' : Heap} {a : Addr} {x : Str} {t : Tok} {i : Int} (y : IsRx h a x t i) (e : ∀ o, h.get? a = some o → h'.get? a = some o) : IsRx h' a x t i := let ⟨o, ho, r⟩ := y; ⟨o, e _ ho, r⟩
section
variable {prog : Program} {w : World} {A : Around} {E : Value → Shared → Prop} {s : Shared}
theorem IsRx.typeIs {a : Addr} {x : Str} {t : Tok} {i : Int} (y : IsRx s.heap a x t i) : s.TypeIs (.ref a) "reversed" := let ⟨o, ho, hc, _⟩ := y; ⟨o, ho, hc⟩
theorem code_rx {x : Str} {t : Tok} {Q₁ : Value → Shared → Prop} (hx : x.length ≤ sizeLine)
    (h : Q₁ (.ref s.heap.objs.size) { s with heap := s.heap.push (rxObj x t ((x.length : Int) - 1)), toks := s.toks + 1 + 1 }) :
    codeAny (model prog w) A (.call (.builtin "reversed.__new__") ⟨[.type "reversed", .str x t], []⟩) (wants Q₁ E) s := by
  have hT : s.TypeIs (.str x t) "str" := typeIs_str s x t
  have hn := line63
  refine codeAny_of_tree ?_
  show wpAny _ A.in1 (do checkBuiltinCall "reversed.__new__" ⟨[.type "reversed", .str x t], []⟩; again (.builtin "reversed.__new__" ⟨[.type "reversed", .str x t], []⟩)) _ _ s
  refine wpAny_bind (wpAny_of_eq (F.newCall_reversed_1 _) (wpAny_pure ⟨plainId_quiet F.plain_reversed_new _, codeAny_builtin F.entry_reversed_new ?_⟩))
  rw [Around.under_plainId F.plain_reversed_new _]
  unfold Builtin.«reversed.__new__»
  refine wpAny_bind (wpAny_of_eq (newClass_reversed _) ?_)
  try dsimp only
  refine wpAny_bind (wpAny_of_eq (a := ()) (by first | rfl | kernel_rfl) ?_)
  try dsimp only
  refine wpAny_bind (wpAny_of_eq (a := ()) (by first | rfl | kernel_rfl) ?_)
  try dsimp only
  refine wpAny_bind (wpAny_specialOf hT norev_str ?_)
  try dsimp only
  refine wpAny_bind ?_
  wp_delta
  refine wpAny_bind (wpAny_isInstance (T := "str") (U := "dict") (b := false) hT sub_str_dict ?_)
  try dsimp only
  try rw [if_neg Bool.false_ne_true]
  try dsimp only
  refine wpAny_bind (wpAny_specialOf hT get_str ?_)
  try dsimp only
  try rw [if_pos (by decide +kernel)]
  refine wpAny_pure ?_
  try dsimp only
  try rw [if_neg (by decide)]
  try dsimp only
  refine wpAny_bind (len_str (by omega) ?_)
  refine wpAny_bind (wpAny_of_eq (a := some ((x.length : Nat) : Int)) rfl ?_)
  try dsimp only
  refine wpAny_bind ?_
  show wpAny _ _ (newObj (.type "reversed") (.fields #[.str x t, rawInt ((x.length : Int) - 1)])) _ _ _
  refine wpAny_newObj_type ?_
  exact wpAny_pure h
theorem call_rx {x : Str} {t : Tok} {Q : Value → Shared → Prop} (hx : x.length ≤ sizeLine)
    (h : Q (.ref s.heap.objs.size) { s with heap := s.heap.push (rxObj x t ((x.length : Int) - 1)), toks := s.toks + 1 + 1 }) : wpAny (model prog w) A (call (.type "reversed") [.str x t]) Q E s := by
  refine callType_codes (Q₁ := fun obj s₁ => s₁.TypeIs obj "reversed" ∧ Q obj s₁) RT.called_rt (F.typeCall_reversed_1 _) F.entry_object_init
    (code_rx (A := A.in1) hx ⟨⟨_, Heap.get?_push_size _ rfl, rfl⟩, h⟩) fun obj s₁ h₁ => ?_
  exact ⟨h₁.1, F.args_object_init_2 obj _, object_init_meets RT.called_rt.init.lookup RT.called_rt.made (by decide) prog w A.in1 _ s₁ ⟨h₁.1, rfl, h₁.2⟩⟩
theorem next_rx_item {it : Addr} {x : Str} {t : Tok} {i c : Nat} {Q : Option Value → Shared → Prop} (hit : IsRx s.heap it x t (i : Int)) (hc : x.cps[i]? = some c) (hsz : x.length ≤ sizeLine)
    (hQ : ∀ h' u tk, IsRx h' it x t ((i : Int) - 1) → Heap.SameBut it s.heap h' → Q (some (.str ⟨#[c]⟩ u)) { s with heap := h', toks := tk }) : wpAny (model prog w) A (pyNext (.ref it)) Q E s := by
  obtain ⟨o, ho, hcl, hd⟩ := id hit
  have hi : i < x.length := by
    have := (Array.getElem?_eq_some_iff.mp hc).1
    simpa [Str.length] using this
  have hT : s.TypeIs (.str x t) "str" := typeIs_str s x t
  have hn := line63
  unfold pyNext
  refine wpAny_bind (wpAny_attempt (wpAny_callSpecial?_slot (name := Str.ofString "__next__") hit.typeIs RT.slot_rt_next
    (wpAny_call_entry RT.slot_rt_next hit.typeIs RT.entry_rt_next ?_ (RT.args_rt_next _))))
  unfold Builtin.«reversed.__next__»
  refine wpAny_bind (wpAny_of_eq (a := (Value.ref it, [])) rfl ?_)
  try dsimp only
  refine wpAny_bind (wpAny_field ho hd (x := .str x t) rfl ?_)
  try dsimp only
  refine wpAny_bind (wpAny_field ho hd (x := rawInt (i : Int)) rfl ?_)
  show wpAny _ _ (if (i : Int) < 0 then _ else _) _ _ s
  rw [if_neg (by omega)]
  try dsimp only
  refine wpAny_bind (wpAny_specialOf hT get_str ?_)
  try dsimp only
  try rw [if_neg (by decide)]
  try dsimp only
  refine wpAny_bind (wpAny_mkInt ?_)
  refine wpAny_bind (wpAny_attempt ?_)
  refine getItem_str (c := c) (by
    have e1 : decide ((i : Int) < -(2 ^ 63 : Int)) = false := decide_eq_false (by omega)
    have e2 : decide ((i : Int) ≥ 2 ^ 63) = false := decide_eq_false (by omega)
    rw [e1, e2, Bool.or_false]) (by rw [show seqIndex? (i : Int) x.length = some i from seqIndex_of (by omega) (by omega)]; exact hc) ?_
  try dsimp only
  refine wpAny_bind (wpAny_field (s := { s with toks := s.toks + 1 + 1 }) ho hd (x := rawInt (i : Int)) rfl ?_)
  try dsimp only
  refine wpAny_bind (wpAny_setField (s := { s with toks := s.toks + 1 + 1 }) ho hd (by simp) ?_)
  first
  | refine wpAny_pure ⟨_, rfl, wpAny_pure (hQ _ _ _ ?_ (Heap.SameBut.update ..))⟩
  | refine wpAny_bind (wpAny_pure (wpAny_pure ⟨_, rfl, wpAny_pure (hQ _ _ _ ?_ (Heap.SameBut.update ..))⟩))
  exact ⟨_, Heap.get?_update_self _ ho (Obj.isFreed_of_fields (Obj.data_mapFields hd _)), (Obj.cls_mapFields ..).trans hcl, by
    rw [Obj.data_mapFields hd]; simp⟩
theorem next_rx_end {it : Addr} {x : Str} {t : Tok} {Q : Option Value → Shared → Prop} (hh : A.handled = none) (hit : IsRx s.heap it x t (-1))
    (hQ : ∀ h', Heap.ExtBut it s.heap h' → Q none { s with heap := h' }) : wpAny (model prog w) A (pyNext (.ref it)) Q E s := by
  obtain ⟨o, ho, hc, hd⟩ := id hit
  unfold pyNext
  refine wpAny_bind (wpAny_attempt (wpAny_callSpecial?_slot (name := Str.ofString "__next__") hit.typeIs RT.slot_rt_next
    (wpAny_call_entry RT.slot_rt_next hit.typeIs RT.entry_rt_next ?_ (RT.args_rt_next _))))
  unfold Builtin.«reversed.__next__»
  refine wpAny_bind (wpAny_of_eq (a := (Value.ref it, [])) rfl ?_)
  try dsimp only
  refine wpAny_bind (wpAny_field ho hd (x := .str x t) rfl ?_)
  try dsimp only
  refine wpAny_bind (wpAny_field ho hd (x := rawInt (-1)) rfl ?_)
  show wpAny _ _ (if (-1 : Int) < 0 then _ else _) _ _ s
  rw [if_pos (by decide)]
  try dsimp only
  refine wpAny_bind (wpAny_rule ?_)
  refine wpAny_bind ?_
  wp_delta
  refine wpAny_bind (wpAny_setField ho hd (by simp) ?_)
  have ho2 := Heap.get?_update_self (Obj.mapFields (·.setIfInBounds 1 (rawInt (-1)))) ho (Obj.isFreed_of_fields (Obj.data_mapFields hd _))
  refine wpAny_setField (s := { s with heap := s.heap.update it (Obj.mapFields (·.setIfInBounds 1 (rawInt (-1)))) }) ho2 (Obj.data_mapFields hd _) (by simp) ?_
  try dsimp only
  first
  | show wpAny _ _ (newExc (.type "StopIteration") [] >>= _) _ _ _
  | (refine wpAny_bind ?_; show wpAny _ _ (newExc (.type "StopIteration") [] >>= _) _ _ _)
  | (refine wpAny_bind ?_; wp_delta; show wpAny _ _ (newExc (.type "StopIteration") [] >>= _) _ _ _)
  refine wpAny_bind ?_
  simp only [newExc, newTuple]
  refine wpAny_bind (wpAny_newObj_type ?_ (by size_fits))
  refine wpAny_bind (m := firstArgMember _ _) (wpAny_of_eq (a := Value.none) (by first | rfl | (simp only [firstArgMember]; rfl)) ?_)
  refine wpAny_newObj_type ?_ (by size_fits)
  simp only [raiseNew]
  refine wpAny_bind (wpAny_handled ?_)
  first | rw [show A.in1.handled = none from hh] | rw [hh]
  refine wpAny_bind (wpAny_pure (wpAny_throw ?_))
  refine wpAny_bind (wpAny_isInstance (T := "StopIteration") (b := true) ⟨_, Heap.get?_push_size _ rfl, rfl⟩ isSubtype_stop ?_)
  refine wpAny_pure (hQ _ ?_)
  refine ((?_ : Heap.ExtBut it s.heap _).push _).push _
  exact fun b ob hb e => (Heap.get?_update_other _ _ (Ne.symm hb)).trans ((Heap.get?_update_other _ _ (Ne.symm hb)).trans e)
theorem iter_rx {it : Addr} {x : Str} {t : Tok} {i : Int} {Q : Value → Shared → Prop} (hit : IsRx s.heap it x t i) (h : Q (.ref it) s) : wpAny (model prog w) A (pyIter (.ref it)) Q E s := by
  refine wpAny_pyIter_slot hit.typeIs RT.slot_rt_iter (wpAny_call_entry RT.slot_rt_iter hit.typeIs RT.entry_rt_iter ?_ (RT.args_rt_iter _))
  show wpAny _ _ (ret (.ref it)) _ _ s
  exact wpAny_pure ⟨_, rfl, "reversed", _, hit.typeIs, RT.slot_rt_next.lookup, h⟩
end
/-- the signs of x from the last on -/
def Itrx (x : Str) : It := ⟨fun i _ => i < x.cps.size, fun i H v H' => H' = H ∧ ∃ c, x.cps[x.cps.size - 1 - i]? = some c ∧ v = .str ⟨#[c]⟩, fun i _ => x.cps.size ≤ i⟩
theorem turn_rx {P : Program} {w : World} {K : PySem.W.Frag} {tg : Expr} (it : Addr) (x : Str) (t : Tok) (hsz : x.length ≤ sizeLine) :
    Turn P w K tg (Itrx x) [it] it (fun i h => i ≤ x.cps.size ∧ IsRx h it x t ((x.cps.size : Int) - 1 - (i : Nat))) where
  mem := by simp
  obj := fun i h st b hb => by
    have e : b = it := by simpa using hb
    subst e
    obtain ⟨_, o, e, c, d⟩ := st
    exact ⟨o, e, fun v z => by rw [d] at z; cases z⟩
  keep := fun i h h' st k => ⟨st.1, st.2.at fun o e => k it (by simp) o e⟩
  item := by
    intro X hP hw hK hc i pins s σ H E I hf st hg
    subst hP hw hK
    have hin : i < x.cps.size := hg
    obtain ⟨f0, f1, f2, f3, f4, f5⟩ := hf it (by simp)
    obtain ⟨_, hit⟩ := st
    have e1 : (x.cps.size : Int) - 1 - ((i : Nat) : Int) = ((x.cps.size - 1 - i : Nat) : Int) := by omega
    rw [e1] at hit
    have hlt : x.cps.size - 1 - i < x.cps.size := by omega
    have hcx : x.cps[x.cps.size - 1 - i]? = some x.cps[x.cps.size - 1 - i] := Array.getElem?_eq_getElem hlt
    refine next_rx_item hit hcx hsz fun h' u tk st' sb => ?_
    have e2 : ((x.cps.size - 1 - i : Nat) : Int) - 1 = (x.cps.size : Int) - 1 - ((i + 1 : Nat) : Int) := by omega
    rw [e2] at st'
    have I1 : Inv X pins σ H { s with heap := h', toks := tk } := I.turned (t' := tk) (fun b o hb e => (sb.2 b hb).trans e) f0 f1 f3 f4 f5
    obtain ⟨o, e, c, d⟩ := id st'
    exact ⟨_, rfl, go_of (s := { s with heap := h', toks := tk }) e c d (by decide) ⟨.str ⟨#[x.cps[x.cps.size - 1 - i]]⟩, H, I1, ⟨u, rfl⟩, ⟨rfl, _, hcx, rfl⟩, ⟨hin, st'⟩, fun b hb => (hf b hb).1⟩⟩
  done := by
    intro X hP hw hK hc i pins s σ H E I hf st hg
    subst hP hw hK
    obtain ⟨f0, f1, f2, f3, f4, f5⟩ := hf it (by simp)
    obtain ⟨hin, hit⟩ := st
    have hge : x.cps.size ≤ i := hg
    have e1 : (x.cps.size : Int) - 1 - ((i : Nat) : Int) = -1 := by omega
    rw [e1] at hit
    exact next_rx_end (I.ok.hd hc) hit fun h' eb => ⟨rfl, I.turned (t' := s.toks) (fun b o hb e => eb b o hb e) f0 f1 f3 f4 f5⟩
  self := fun A i s Q E st h => iter_rx st.2 h
def iRevS (te : TE) : TI := fun σ H R => te σ H fun v H1 => ∃ x, v = .str x ∧ x.length ≤ sizeLine ∧ R (Itrx x) H1
theorem pi_revS {X : Cx} {tg e : Expr} {te : TE} {p pos : Pos} (hg : Gl X "reversed") (hm : X.mg "reversed" = none) (he : PE X e te) (hs : starEach [e] X.env = (false, eval e X.env) :: starEach [] X.env := by rfl) : PI X tg (.Call (.Name "reversed" p) [e] [] pos) (iRevS te) := by
  refine ⟨fun pins s σ H R I h => ?_⟩
  refine Call_ (ld_blt I hg hm PyProof.Rows.boot_reversed (PyProof.Rows.callWith_type1 (args_cons (thn (he.run pins s σ H _ I h) fun u s1 ⟨v, H1, I1, r1, q1⟩ => args_nil ?_) hs) hs rfl))
  obtain ⟨x, ev, hx, q⟩ := q1
  subst ev
  obtain ⟨t, rfl⟩ := r1
  refine call_rx hx (iter_rx (x := x) (t := t) (i := (x.length : Int) - 1) ⟨_, Heap.get?_push_size _ rfl, rfl, rfl⟩ ?_)
  refine pi_one (tk := s1.toks + 1 + 1) I1 _ (turn_rx _ x t hx) ⟨Nat.zero_le _, ?_⟩ q
  exact ⟨_, Heap.get?_push_size _ rfl, rfl, by simp [rxObj, Str.length]⟩
section
variable {G : Gx} {X : Cx} {B : Hp} {W : WX} {pos : Pos}
theorem walks_rx {F : Hp} {s : List Nat} (o : okS s = true) : Walks G (Itrx (tx s)) F (sgs s).reverse := fun F' H' f f' i => by
  have sz : (tx s).cps.size = s.length := by simp [tx]
  have hl : (sgs s).reverse.length = s.length := by simp [sgs]
  refine ⟨fun hi => ?_, fun hi => ?_, fun d hd x H2 ⟨e, c, hc, hx⟩ => ?_⟩
  · show i < (tx s).cps.size
    rw [sz]; omega
  · show (tx s).cps.size ≤ i
    rw [sz]; omega
  · subst e; subst hx
    have hlt : i < (sgs s).reverse.length := (List.getElem?_eq_some_iff.mp hd).1
    have hc' : s[s.length - 1 - i]? = some c := by rw [sz] at hc; simpa [tx] using hc
    have hlt2 : i < (sgs s).length := by rw [List.length_reverse] at hlt; exact hlt
    rw [List.getElem?_reverse hlt2] at hd
    unfold sgs at hd
    rw [List.getElem?_map, List.length_map, hc'] at hd
    cases hd
    exact ⟨F', Same.refl _, f', .refl, .str [c] (okS_sub o fun c' m => by rw [List.mem_singleton] at m; subst m; exact List.mem_of_getElem? hc')⟩
/-- reversed(text) -/
def iVs (f : Ev D) : Ev (List D) := fun S st => (f S st).bind fun d S st => match d with
  | .str s => if s.length ≤ 16777216 then .ok (sgs s).reverse S st else .stuck
  | _ => .stuck
theorem di_vs {tg e : Expr} {f : Ev D} {p : Pos} (hm : X.mg "reversed" = none) (h : DE X B W e f) (hg : Gl X "reversed" := by rfl) (hs : starEach [e] X.env = (false, eval e X.env) :: starEach [] X.env := by rfl) : DI X B W tg (.Call (.Name "reversed" p) [e] [] pos) (iVs f) :=
  pi_imp (pi_revS hg hm h hs) fun σ H R ⟨F, S, st, o, q⟩ => ⟨F, S, st, o, (Post.bind (R := RD (Cx.g X) σ) q).mono fun v H1 ⟨F1, d, S1, st1, g1, o1, r1, p1⟩ => by
    split at p1
    · rename_i s
      split at p1
      · rename_i hl
        cases r1 with
        | str _ oo => exact ⟨tx s, rfl, by rw [tx_len, sizeLine_eq]; exact hl, p1 _ H1 F1 .refl o1 (walks_rx oo)⟩
      · exact p1.elim
    · exact p1.elim⟩
end
end DL

namespace DL
open PySem PySem.Spec PyProof.Rows L2
/-! ### objects that stay -/
theorem RpF.look {G : Gx} {F : Hp} : ∀ {fs : List (Str × V)} {es : List (Nat × D)} {k : Nat} {d : D}, RpF G F fs es → okN k → es.lookup k = some d → ∃ v, fs.lookup (nmS k) = some v ∧ Rp G F v d
  | _, _, _, _, .nil, _, e => by cases e
  | _, _, k, d, .cons (k := k') o h t, ok, e => by
    rw [List.lookup_cons] at e ⊢
    by_cases hk : k = k'
    · subst hk
      rw [beq_self_eq_true] at e ⊢
      cases e
      exact ⟨_, rfl, h⟩
    · rw [beq_false_of_ne hk] at e
      rw [beq_false_of_ne fun z => hk (nmS_inj ok o z)]
      exact RpF.look t ok e
theorem RpF.miss {G : Gx} {F : Hp} : ∀ {fs : List (Str × V)} {es : List (Nat × D)} {k : Nat}, RpF G F fs es → okN k → es.lookup k = none → fs.lookup (nmS k) = none
  | _, _, _, .nil, _, _ => rfl
  | _, _, k, .cons (k := k') o h t, ok, e => by
    rw [List.lookup_cons] at e ⊢
    by_cases hk : k = k'
    · subst hk
      rw [beq_self_eq_true] at e
      cases e
    · rw [beq_false_of_ne hk] at e
      rw [beq_false_of_ne fun z => hk (nmS_inj ok o z)]
      exact RpF.miss t ok e
theorem RpF.zip {G : Gx} {F : Hp} : ∀ {vs : List V} {ds : List D} (ks : List Nat), (∀ k ∈ ks, okN k) → RpAll G F vs ds → RpF G F ((ks.map nmS).zip vs) (ks.zip ds)
  | _, _, [], _, _ => by simp; exact .nil
  | _, _, _ :: _, _, .nil => by simp; exact .nil
  | _, _, k :: ks, o, .cons h t => by
    simp only [List.map_cons, List.zip_cons_cons]
    exact .cons (o k (List.mem_cons_self ..)) h (RpF.zip ks (fun x m => o x (List.mem_cons_of_mem _ m)) t)
/-- o.f, of an instance of one of the classes cs -/
def dFld (cs : List Nat) (k : Nat) : D → Option D
  | .obj c es => if c ∈ cs then es.lookup k else none
  | _ => none
/-- what is known of the classes cs and a field's name -/
def ClsF (K : PySem.W.Frag) (mg : Str → Option Value) (cs : List Nat) (f : Str) : Prop := ∀ c ∈ cs, ∀ C, mg (nmS c) = some (.ref C) → Cls K C ∧ NoAttr K C f
theorem ClsF.nil {K : PySem.W.Frag} {mg : Str → Option Value} {f : Str} : ClsF K mg [] f := fun _ h => by cases h
theorem ClsF.cons {K : PySem.W.Frag} {mg : Str → Option Value} {f : Str} {c : Nat} {cs : List Nat} {C : Addr} (h : mg (nmS c) = some (.ref C)) (h1 : Cls K C) (h2 : NoAttr K C f) (t : ClsF K mg cs f) : ClsF K mg (c :: cs) f := fun x hx C' hC => by
  rcases List.mem_cons.mp hx with z | z
  · subst z
    rw [h] at hC; cases hC
    exact ⟨h1, h2⟩
  · exact t x z C' hC
section
variable {X : Cx} {B : Hp} {W : WX} {e a b c : Expr} {es : List Expr} {pos : Pos}
theorem Vw.obj {G : Gx} {F H : Hp} {v : V} {c : Nat} {es : List (Nat × D)} (h : Vw G F H v (.obj c es)) : Rp G F v (.obj c es) := by
  rcases h with h | ⟨p, u, w, rfl, hp, ow, e⟩
  · exact h
  · cases w <;> cases e
theorem de_fld {f : Str} {fa : Ev Opd} (cs : List Nat) (k : Nat) (hk : nmS k = f) (ok : okN k) (ht : ClsF X.K X.mg cs f) (ho : DO X B W a fa) (hb : attributeBase a f X.env (eval a X.env) = eval a X.env := by rfl) : DE X B W (.Attribute a f pos) (o1E (dFld cs k) fa) :=
  pe_imp (pe_fld ho hb) fun σ H Q ⟨F, S, st, o, q⟩ => ⟨F, S, st, o, (Post.bind (R := RO (Cx.g X) σ) q).mono fun v H1 ⟨F1, d, S1, st1, g1, o1, r1, p1⟩ => by
    split at p1
    · rename_i x hx
      obtain ⟨z, hz, p2⟩ := got_ok p1
      unfold dFld at hz
      split at hz
      · rename_i c es
        split at hz
        · rename_i hc
          have r := (o1.vw r1 hx).obj
          cases r with
          | obj h1 h2 h3 h4 =>
            obtain ⟨u, hu, ru⟩ := h4.look ok hz
            obtain ⟨t1, t2⟩ := ht c hc _ h3
            rw [hk] at hu
            exact ⟨_, _, _, _, _, rfl, o1.fH _ _ h1, t1, t2, hu, p2 _ H1 F1 .refl o1 ru⟩
        · cases hz
      · cases hz
    · exact p1.elim⟩
/-! ### methods, by the receiver's class -/
def tMethX (X : Cx) (m : Str) (W : WX) (ta : TE) (t : TA) : TE := fun σ H Q => ta σ H fun x H1 => ∃ (a C dx : Addr) (fs : List (Str × V)) (f : Addr) (fd : FuncData) (ps : List Str) (k : Nat) (sp : Sp), x = .ref a ∧ H1 a = some (.ins C dx fs) ∧ fs.lookup m = none ∧
  Cls X.K C ∧ Meth X.K C m f ∧ FnOk X.prog X.w X.K X.mg X.base (L2.CX X.prog X.w) k f fd ps sp ∧ Room k X.A ∧ Binds X.K fd ps [] ∧ t σ H1 fun vs H2 => sp (.ref a :: vs) H2 Q (WE W σ)
theorem pe_methX {m : Str} {apos : Pos} {ta : TE} {t : TA} {pl : Sem Bool} (tk : Takes X W) (he : PE X a ta) (ha : PA X (e :: es) t)
    (hst : starEach (e :: es) X.env = (false, eval e X.env) :: starEach es X.env := by rfl) (hpl : (backTo pos (starEach es X.env)).any (·.1) = false := by rfl)
    (ht : eval (.Call (.Attribute a m apos) (e :: es) [] pos) X.env = (do
      let ov ← eval a X.env
      standAt apos.atName
      let (f, first) ← holding [ov] (getMethod ov m pl)
      callWith pos f first (backTo pos (starEach (e :: es) X.env)) (backToKw pos (keywordEach [] X.env))) := by rfl) :
    PE X (.Call (.Attribute a m apos) (e :: es) [] pos) (tMethX X m W ta t) := by
  refine ⟨fun pins s σ H Q I h => ?_⟩
  refine PySem.W.methodCall_KW (pl := pl) (thn (he.run pins s σ H _ I h) fun u s1 ⟨x, H1, I1, rx, ad, C, dx, fs, f, fd, ps, k, sp, ex, ea, l, cl, hm, F, hr, hb, q⟩ => ?_) ht
  subst ex
  obtain rfl : u = Value.ref ad := rx
  refine getmeth_ok I1 ea cl hm l ?_
  refine PySem.W.callWith_K (first := [.ref ad]) (h₀ := X.base) I.ok.mod.kin hm.kp (thn (ha.run pos pins s1 σ H1 _ I1 q) fun us s2 ⟨vs, H2, I2, r, q2⟩ => ⟨I2.kIn, ?_⟩) hst hpl
  exact run_fnS (us := .ref ad :: us) (vs := .ref ad :: vs) (E := WE W) F hr hb (passAt tk σ) I2 (.cons rfl r) q2
theorem pe_methX0 {m : Str} {apos : Pos} {ta : TE} {pl : Sem Bool} (tk : Takes X W) (he : PE X a ta)
    (ht : eval (.Call (.Attribute a m apos) [] [] pos) X.env = (do
      let ov ← eval a X.env
      standAt apos.atName
      let (f, first) ← holding [ov] (getMethod ov m pl)
      callWith pos f first (backTo pos (starEach [] X.env)) (backToKw pos (keywordEach [] X.env))) := by rfl) :
    PE X (.Call (.Attribute a m apos) [] [] pos) (tMethX X m W ta tNil) := by
  refine ⟨fun pins s σ H Q I h => ?_⟩
  refine PySem.W.methodCall_KW (pl := pl) (thn (he.run pins s σ H _ I h) fun u s1 ⟨x, H1, I1, rx, ad, C, dx, fs, f, fd, ps, k, sp, ex, ea, l, cl, hm, F, hr, hb, q⟩ => ?_) ht
  subst ex
  obtain rfl : u = Value.ref ad := rx
  refine getmeth_ok I1 ea cl hm l ?_
  exact PySem.W.callWith_K0 (first := [.ref ad]) I1.kIn hm.kp (run_fnS (us := [.ref ad]) (vs := [.ref ad]) (E := WE W) F hr hb (passAt tk σ) I1 (.cons rfl .nil) q)
structure MDef (P : Program) (w : World) (K : PySem.W.Frag) (mg : Str → Option Value) (base : Heap) (k : Nat) (m : Str) (n : Nat) (cs : List Nat) (tab : Nat → CallT) : Prop where
  ex : ∀ c ∈ cs, ∀ C, mg (nmS c) = some (.ref C) → ∃ f fd ps, Cls K C ∧ Meth K C m f ∧ FnOk P w K mg base (L2.CX P w) k f fd ps (spOf ⟨K, mg⟩ n (tab c)) ∧ Binds K fd ps []
theorem MDef.mono {P : Program} {w : World} {K : PySem.W.Frag} {mg : Str → Option Value} {base : Heap} {k j : Nat} {m : Str} {n : Nat} {cs : List Nat} {tab : Nat → CallT} (d : MDef P w K mg base k m n cs tab) (h : k ≤ j) : MDef P w K mg base j m n cs tab :=
  ⟨fun c hc C hC => by
    obtain ⟨f, fd, ps, a1, a2, a3, a4⟩ := d.ex c hc C hC
    exact ⟨f, fd, ps, a1, a2, a3.mono h, a4⟩⟩
theorem MDef.nil {P : Program} {w : World} {K : PySem.W.Frag} {mg : Str → Option Value} {base : Heap} {k : Nat} {m : Str} {n : Nat} {tab : Nat → CallT} : MDef P w K mg base k m n [] tab := ⟨fun _ h => by cases h⟩
theorem MDef.cons {P : Program} {w : World} {K : PySem.W.Frag} {mg : Str → Option Value} {base : Heap} {k : Nat} {m : Str} {n : Nat} {tab : Nat → CallT} {c : Nat} {cs : List Nat} {C f : Addr} {fd : FuncData} {ps : List Str} (h : mg (nmS c) = some (.ref C)) (h1 : Cls K C) (h2 : Meth K C m f)
    (h3 : FnOk P w K mg base (L2.CX P w) k f fd ps (spOf ⟨K, mg⟩ n (tab c))) (h4 : Binds K fd ps []) (t : MDef P w K mg base k m n cs tab) : MDef P w K mg base k m n (c :: cs) tab := ⟨fun x hx C' hC => by
  rcases List.mem_cons.mp hx with z | z
  · subst z
    rw [h] at hC; cases hC
    exact ⟨f, fd, ps, h1, h2, h3, h4⟩
  · exact t.ex x z C' hC⟩
def mcE (cs : List Nat) (mk : Nat) (tab : Nat → CallT) (fo : Ev D) (fa : Ev (List Opd)) : Ev D := fun S st => (fo S st).bind fun o S st => match o with
  | .obj c es => if c ∈ cs ∧ es.lookup mk = none then (fa S st).bind fun a S st => match vds S a with
      | some ds => match tab c (.obj c es :: ds) st with
        | .ok d _ st => .ok d S st
        | .exc x _ st => .exc x S st
        | .stuck => .stuck
      | none => .stuck
    else .stuck
  | _ => .stuck
theorem rpO_len {G : Gx} {σ : L2.St} {F : Hp} {vs : List V} {as : List Opd} (h : RpO G σ F vs as) : vs.length = as.length := by
  induction h with
  | nil => rfl
  | cons _ _ ih => simp [ih]
theorem mc_lift {m : Str} {mk k n : Nat} {cs : List Nat} {tab : Nat → CallT} {fo : Ev D} {fa : Ev (List Opd)} (hmk : nmS mk = m) (okm : okN mk) (d : MDef X.prog X.w X.K X.mg X.base k m (n + 1) cs tab) (hr : Room k X.A) (hl : aLen fa n) {σ : L2.St} {H : Hp} {Q : VK}
    (q : lift (Cx.g X) B W (RD (Cx.g X)) (mcE cs mk tab fo fa) σ H Q) : tMethX X m W (lift (Cx.g X) B W (RD (Cx.g X)) fo) (lift (Cx.g X) B W (RpO (Cx.g X)) fa) σ H Q := by
  obtain ⟨F, S, st, o, q⟩ := q
  refine ⟨F, S, st, o, (Post.bind (R := RD (Cx.g X) σ) q).mono fun v H1 ⟨F1, d1, S1, st1, g1, o1, r1, p1⟩ => ?_⟩
  split at p1
  · rename_i c es
    split at p1
    · rename_i hc
      have r1' : Rp (Cx.g X) F1 v (.obj c es) := r1
      cases r1 with
      | @obj a dx C _ fs _ h1 h2 h3 h4 =>
        obtain ⟨f, fd, ps, t1, t2, t3, t4⟩ := d.ex c hc.1 C h3
        refine ⟨a, C, dx, fs, f, fd, ps, k, _, rfl, o1.fH _ _ h1, by rw [← hmk]; exact h4.miss okm hc.2, t1, t2, t3, hr, t4, F1, S1, st1, o1, ?_⟩
        have key : ∀ (r : Res (List Opd)) (hl : ∀ r' S' st', r = .ok r' S' st' → r'.length = n), Post (Cx.g X) B W (RD (Cx.g X) σ) σ F1 Q (r.bind fun a S st => match vds S a with
            | some ds => match tab c (.obj c es :: ds) st with
              | .ok d _ st => .ok d S st
              | .exc x _ st => .exc x S st
              | .stuck => .stuck
            | none => .stuck) → Post (Cx.g X) B W (RpO (Cx.g X) σ) σ F1 (fun vs H2 => spOf (Cx.g X) (n + 1) (tab c) (.ref a :: vs) H2 Q (WE W σ)) r := by
          intro r hl q
          cases r with
          | exc y S2 st2 => exact q
          | stuck => exact q
          | ok as S2 st2 =>
            intro vs H2 F2 g2 o2 r2
            have q : Post (Cx.g X) B W (RD (Cx.g X) σ) σ F1 Q (match vds S2 as with
              | some ds => match tab c (.obj c es :: ds) st2 with
                | .ok d _ st => .ok d S2 st
                | .exc x _ st => .exc x S2 st
                | .stuck => .stuck
              | none => .stuck) := q
            split at q
            · rename_i ds hds
              have ra := o2.vds r2 hds
              refine ⟨?_, F2, .obj c es :: ds, st2, o2.fH, .cons (r1'.mono g2.1) ra, ?_⟩
              · rw [List.length_cons, rpO_len r2, hl _ _ _ rfl]
              · revert q
                generalize tab c (.obj c es :: ds) st2 = r
                intro q
                cases r with
                | ok _ _ _ => exact fun v H' F' k f gr rr => q v H' F' (g2.trans (o2.gr gr)) (o2.grow gr k f) rr
                | exc _ _ _ => exact fun cls dd H' F' k f gr rr => q cls dd H' F' (g2.trans (o2.gr gr)) (o2.grow gr k f) rr
                | stuck => exact q.elim
            · exact q.elim
        exact key _ (fun r' S' st' e => hl _ _ _ _ _ e) p1
    · exact p1.elim
  · exact p1.elim
theorem de_mc {m : Str} {mk k n : Nat} {cs : List Nat} {tab : Nat → CallT} {apos : Pos} {fo : Ev D} {fa : Ev (List Opd)} {pl : Sem Bool} (hmk : nmS mk = m) (okm : okN mk) (d : MDef X.prog X.w X.K X.mg X.base k m (n + 1) cs tab) (hr : Room k X.A) (tk : Takes X W)
    (ho : DE X B W a fo) (ha : DA X B W (e :: es) fa) (hl : aLen fa n := by repeat (first | exact aLen_n | refine aLen_c ?_))
    (hst : starEach (e :: es) X.env = (false, eval e X.env) :: starEach es X.env := by rfl) (hpl : (backTo pos (starEach es X.env)).any (·.1) = false := by rfl)
    (ht : eval (.Call (.Attribute a m apos) (e :: es) [] pos) X.env = (do
      let ov ← eval a X.env
      standAt apos.atName
      let (f, first) ← holding [ov] (getMethod ov m pl)
      callWith pos f first (backTo pos (starEach (e :: es) X.env)) (backToKw pos (keywordEach [] X.env))) := by rfl) :
    DE X B W (.Call (.Attribute a m apos) (e :: es) [] pos) (mcE cs mk tab fo fa) :=
  pe_imp (pe_methX tk ho ha hst hpl ht) fun _ _ _ q => mc_lift hmk okm d hr hl q
theorem de_mc0 {m : Str} {mk k : Nat} {cs : List Nat} {tab : Nat → CallT} {apos : Pos} {fo : Ev D} {pl : Sem Bool} (hmk : nmS mk = m) (okm : okN mk) (d : MDef X.prog X.w X.K X.mg X.base k m 1 cs tab) (hr : Room k X.A) (tk : Takes X W)
    (ho : DE X B W a fo)
    (ht : eval (.Call (.Attribute a m apos) [] [] pos) X.env = (do
      let ov ← eval a X.env
      standAt apos.atName
      let (f, first) ← holding [ov] (getMethod ov m pl)
      callWith pos f first (backTo pos (starEach [] X.env)) (backToKw pos (keywordEach [] X.env))) := by rfl) :
    DE X B W (.Call (.Attribute a m apos) [] [] pos) (mcE cs mk tab fo aN) :=
  pe_imp (pe_methX0 tk ho ht) fun σ H Q q => by
    obtain ⟨F, S, st, o, q⟩ := mc_lift hmk okm d hr aLen_n q
    refine ⟨F, S, st, o, q.mono ?_⟩
    rintro v H1 ⟨a, C, dx, fs, f, fd, ps, k, sp, e1, e2, e3, e4, e5, e6, e7, e8, F1, S1, st1, o1, q1⟩
    exact ⟨a, C, dx, fs, f, fd, ps, k, sp, e1, e2, e3, e4, e5, e6, e7, e8, q1 [] H1 F1 .refl o1 .nil⟩
end
/-! ### instances that are made -/
def spInit (C : Addr) (ks : List Nat) : Sp := fun vs H Q _ => ∃ (p dx : Addr) (args : List V), vs = .ref p :: args ∧ args.length = ks.length ∧ H p = some (.ins C dx []) ∧ Q .non (upd H p (.ins C dx ((ks.map nmS).zip args)))
structure IDef (P : Program) (w : World) (K : PySem.W.Frag) (mg : Str → Option Value) (base : Heap) (k : Nat) (x : Str) (c : Nat) (ks : List Nat) : Prop where
  ex : ∃ C f fd ps, mg x = some (.ref C) ∧ nmS c = x ∧ Mk K C f ∧ FnOk P w K mg base (L2.CX P w) k f fd ps (spInit C ks) ∧ Binds K fd ps [] ∧ ∀ k ∈ ks, okN k
/-- self.f = a parameter, one behind the other -/
def initT (K : PySem.W.Frag) : List Str → Nat → TS
  | [], _ => tNext
  | f :: r, i => tSeq (sFld K (tVar 0) (tVar i) f) (initT K r (i + 1))
theorem putF_new {f : Str} {v : V} : ∀ {fs : List (Str × V)}, f ∉ fs.map (·.1) → putF f v fs = fs ++ [(f, v)]
  | [], _ => rfl
  | (g, u) :: r, h => by
    have h1 : ¬ g = f := fun z => h (by simp [z])
    have h2 : f ∉ r.map (·.1) := fun z => h (by simp [z])
    show (if g = f then _ else (g, u) :: putF f v r) = _
    rw [if_neg h1, putF_new h2]; rfl
theorem init_read {K : PySem.W.Frag} {C dx p : Addr} {σ : L2.St} {D : Ends} (cl : Cls K C) (hp0 : σ[0]? = some (some (.ref p))) : ∀ (fs : List Str) (i : Nat) (vs : List V) (acc : List (Str × V)) (H : Hp),
    (∀ f ∈ fs, NoAttr K C f) → vs.length = fs.length → (∀ (j : Nat) (v : V), vs[j]? = some v → σ[i + j]? = some (some v)) → (acc.map (·.1) ++ fs).Nodup → acc.length + fs.length < 1000 → H p = some (.ins C dx acc) → D.nx σ (upd H p (.ins C dx (acc ++ fs.zip vs))) → initT K fs i D σ H
  | [], i, vs, acc, H, _, hl, _, _, _, hp, q => by
    have e : upd H p (.ins C dx (acc ++ ([] : List Str).zip vs)) = H := by
      funext b
      by_cases hb : b = p
      · subst hb; rw [upd_same, hp]; simp
      · rw [upd_ne hb]
    rw [e] at q; exact q
  | f :: r, i, [], acc, H, _, hl, _, _, _, _, _ => by simp at hl
  | f :: r, i, v :: vs, acc, H, hn, hl, hv, nd, h1000, hp, q => by
    have hnd : f ∉ acc.map (·.1) := fun z => by
      rw [List.nodup_append] at nd
      exact nd.2.2 _ z f (List.mem_cons_self ..) rfl
    refine ⟨v, by have := hv 0 v rfl; simpa using this, .ref p, hp0, p, C, dx, acc, rfl, hp, cl, hn f (List.mem_cons_self ..), by simp at h1000; omega, ?_⟩
    rw [putF_new hnd]
    refine init_read cl hp0 r (i + 1) vs (acc ++ [(f, v)]) _ (fun g m => hn g (List.mem_cons_of_mem _ m)) (by simpa using hl) (fun j u e => ?_) (by simpa using nd) (by simp at h1000 ⊢; omega) upd_same ?_
    · have := hv (j + 1) u (by simpa using e)
      rw [show i + 1 + j = i + (j + 1) by omega]; exact this
    · have e : upd (upd H p (.ins C dx (acc ++ [(f, v)]))) p (.ins C dx (acc ++ [(f, v)] ++ r.zip vs)) = upd H p (.ins C dx (acc ++ (f :: r).zip (v :: vs))) := by
        funext b
        by_cases hb : b = p
        · subst hb; rw [upd_same, upd_same]; simp
        · rw [upd_ne hb, upd_ne hb, upd_ne hb]
      rw [e]; exact q
section
variable {P : Program} {w : World} {K : PySem.W.Frag} {mg : Str → Option Value} {base : Heap}
/-- an __init__ that stores its parameters -/
theorem init_ok {qual : Str} {st : Stmt} {f C : Addr} {fd : FuncData} {N : List Str} {s0 : Str} {prest : List Str} {ks : List Nat} {fs : List Str} (F : Fun K "__init__" qual st f fd) (S : FnScope N (s0 :: prest) (defScope st)) (hks : ks.map nmS = fs) (hpl : prest.length = fs.length)
    (cl : Cls K C) (hn : ∀ f ∈ fs, NoAttr K C f) (nd : fs.Nodup) (hs : fs.length < 1000) (hN : N = s0 :: prest)
    (body : ∀ (cdv : Value) (A : Around) (outer : List Env) (s : Shared) (H : Hp) (E : XK), PSs (cxOf (L2.CX P w) P w K mg base N qual (defScope st) f cdv A outer s H E) (defBody st) (initT K fs 1)) : FnOk P w K mg base (L2.CX P w) 1 f fd (s0 :: prest) (spInit C ks) := by
  refine F.okX S (fun vs H Q E h => ?_) (fun cdv A outer s H vs Q E hr h => ?_)
  · obtain ⟨p, dx, args, e1, e2, _⟩ := h
    subst e1
    have := congrArg List.length hks
    simp at this ⊢
    omega
  · refine ⟨_, body cdv A outer s H E, ?_⟩
    obtain ⟨p, dx, args, e1, e2, hp, q⟩ := h
    subst e1
    rw [hks] at q
    refine init_read cl ?_ fs 1 args [] H hn (by have := congrArg List.length hks; simp at this; omega) (fun j v e => ?_) (by simpa using nd) (by simpa using hs) hp q
    · subst hN; rfl
    · subst hN
      show ((V.ref p :: args).map some ++ _)[1 + j]? = _
      have hj : j < args.length := (List.getElem?_eq_some_iff.mp e).1
      rw [List.getElem?_append_left (by simp; omega), List.getElem?_map, Nat.add_comm, List.getElem?_cons_succ, e]; rfl
end
def newE (c : Nat) (ks : List Nat) (fa : Ev (List Opd)) : Ev D := fun S st => (fa S st).bind fun a S st => match vds S a with
  | some ds => if ds.length = ks.length then .ok (.obj c (ks.zip ds)) S st else .stuck
  | none => .stuck
section
variable {X : Cx} {B : Hp} {W : WX} {e a b c : Expr} {es : List Expr} {pos p : Pos}
theorem de_new {x : Str} {k cn : Nat} {ks : List Nat} {fa : Ev (List Opd)} (d : IDef X.prog X.w X.K X.mg X.base k x cn ks) (hr : Room (k + 1) X.A) (ha : DA X B W (e :: es) fa) (hx : Passes (L2.CX X.prog X.w) X (fun _ _ _ => False) := by exact fun _ _ _ _ _ _ _ h => by obtain ⟨_, _, _, _, _, _, _, _, _, _, _, _, z⟩ := h; exact z.elim)
    (hg : Gl X x := by rfl) (hdb : (x == ("__debug__" : Str)) = false := by decide) (he : starEach (e :: es) X.env = (false, eval e X.env) :: starEach es X.env := by rfl) (hpl : (backTo pos (starEach es X.env)).any (·.1) = false := by rfl) :
    DE X B W (.Call (.Name x p) (e :: es) [] pos) (newE cn ks fa) := by
  obtain ⟨C, f, fd, ps, hm, hc, M, F, hb, hok⟩ := d.ex
  refine pe_imp (pe_make (E := fun _ _ _ => False) M F hr hg hm hb .nil hx ha hdb he hpl) fun σ H Q ⟨F0, S, st, o, q⟩ => ⟨F0, S, st, o, (Post.bind (R := RpO (Cx.g X) σ) q).mono fun vs H1 ⟨F1, d, S1, st1, g1, o1, r1, p1⟩ => ?_⟩
  split at p1
  · rename_i ds hds
    split at p1
    · rename_i hl
      have ra := o1.vds r1 hds
      intro y dx ny ndx nyx
      refine ⟨y, dx, vs, by rw [List.append_nil], by rw [ra.length, hl], upd_same, rfl, ?_⟩
      have ny1 : (upd H1 dx (.own y)) y = none := by rw [upd_ne (Ne.symm nyx)]; exact ny
      have o2 := (o1.gnew (u := .own y) ndx).gnew (u := .ins C dx ((ks.map nmS).zip vs)) ny1
      have g2 : Gr B F1 (upd F1 dx (.own y)) := o1.grN ndx
      have g3 : Gr B (upd F1 dx (.own y)) (upd (upd F1 dx (.own y)) y (.ins C dx ((ks.map nmS).zip vs))) := (o1.gnew (u := .own y) ndx).grN ny1
      have eH : upd (upd (upd H1 dx (.own y)) y (.ins C dx [])) y (.ins C dx ((ks.map nmS).zip vs)) = upd (upd H1 dx (.own y)) y (.ins C dx ((ks.map nmS).zip vs)) := by
        funext b
        by_cases hb : b = y
        · subst hb; rw [upd_same, upd_same]
        · rw [upd_ne hb, upd_ne hb, upd_ne hb]
      rw [eH]
      refine p1 _ _ _ (g2.trans g3) o2 (.obj upd_same (by rw [upd_ne nyx]; exact upd_same) (by rw [hc]; exact hm) (RpF.zip ks hok (ra.mono (g2.trans g3).1)))
    · exact p1.elim
  · exact p1.elim
end
section
variable {S : Sls} {st : Store}
@[simp] theorem newE_a (c : Nat) (ks : List Nat) (fa : Ev (List Opd)) : newE c ks fa S st = (fa S st).bind fun a S st => match vds S a with
  | some ds => if ds.length = ks.length then .ok (.obj c (ks.zip ds)) S st else .stuck
  | none => .stuck := rfl
@[simp] theorem mcE_a (cs : List Nat) (mk : Nat) (tab : Nat → CallT) (fo : Ev D) (fa : Ev (List Opd)) : mcE cs mk tab fo fa S st = (fo S st).bind fun o S st => match o with
  | .obj c es => if c ∈ cs ∧ es.lookup mk = none then (fa S st).bind fun a S st => match vds S a with
      | some ds => match tab c (.obj c es :: ds) st with
        | .ok d _ st => .ok d S st
        | .exc x _ st => .exc x S st
        | .stuck => .stuck
      | none => .stuck
    else .stuck
  | _ => .stuck := rfl
@[simp] theorem dFld_a (cs : List Nat) (k c : Nat) (es : List (Nat × D)) : dFld cs k (.obj c es) = if c ∈ cs then es.lookup k else none := rfl
end
@[simp] theorem lk_n (k : Nat) : List.lookup k ([] : List (Nat × D)) = none := rfl
@[simp] theorem lk_c (k k' : Nat) (d : D) (r : List (Nat × D)) : List.lookup k ((k', d) :: r) = if k = k' then some d else List.lookup k r := by
  rw [List.lookup_cons]
  by_cases h : k = k'
  · subst h; simp
  · rw [beq_false_of_ne h, if_neg h]
theorem fn_stuck {P : Program} {w : World} {K : PySem.W.Frag} {mg : Str → Option Value} {base : Heap} {x qual : Str} {st : Stmt} {f : Addr} {fd : FuncData} {N ps : List Str} {k : Nat} (F : Fun K x qual st f fd) (S : FnScope N ps (defScope st)) : FnOk P w K mg base (L2.CX P w) (k + 1) f fd ps (spOf ⟨K, mg⟩ ps.length cStuck) :=
  F.okX S (fun vs H Q E h => h.1) (fun cdv A outer s H vs Q E hr h => by
    obtain ⟨_, _, _, _, _, _, q⟩ := h
    exact q.elim)
end DL

namespace DL
open PySem PySem.Spec PyProof.Rows L2
def mxD (ns : List Int) (d : Int) : Int := match ns with
  | [] => d
  | n :: r => r.foldl max n
theorem foldl_max_mem : ∀ (r : List Int) (n : Int), r.foldl max n ∈ n :: r ∧ ∀ y ∈ n :: r, y ≤ r.foldl max n
  | [], n => by simp
  | m :: r, n => by
    obtain ⟨h1, h2⟩ := foldl_max_mem r (max n m)
    rw [List.foldl_cons]
    refine ⟨?_, fun y hy => ?_⟩
    · rcases List.mem_cons.mp h1 with z | z
      · rw [z]
        by_cases h : n ≤ m
        · simp [Int.max_eq_right h]
        · simp [Int.max_eq_left (Int.le_of_not_le h)]
      · simp [z]
    · have h3 := h2 (max n m) (List.mem_cons_self ..)
      rcases List.mem_cons.mp hy with z | z
      · subst z; omega
      · rcases List.mem_cons.mp z with z | z
        · subst z; omega
        · exact h2 y (List.mem_cons_of_mem _ z)
theorem mx_uniq {ns : List Int} {m n : Int} (h1 : m ∈ ns) (h2 : ∀ y ∈ ns, y ≤ m) (h3 : n ∈ ns) (h4 : ∀ y ∈ ns, y ≤ n) : m = n := Int.le_antisymm (h4 m h1) (h2 n h3)
def rMaxDf (K : PySem.W.Frag) : List V → List V → Hp → VK → Prop := fun vs zs H Q => ∃ (a : Addr) (ns : List Int) (d : Int), vs = [.ref a] ∧ zs = [.int d] ∧ SqL K H a (ns.map V.int) ∧ Q (.int (mxD ns d)) H
section
variable {X : Cx} {B : Hp} {W : WX} {e f : Expr} {pos p kpos : Pos}
theorem cr_maxDf (hc : X.calm = true) : CallRK X (.builtin "max") [Str.ofString "default"] (rMaxDf X.K) := by
  intro pins s σ H vs zs us ws Q I r1 r2 h
  obtain ⟨a, ns, d, rfl, rfl, hs, q⟩ := h
  obtain ⟨its, rv, hl, _⟩ := I.list hs
  rw [Vals.ref1 r1]
  obtain ⟨u, rfl, hu⟩ := vals1 r2
  obtain ⟨t, rfl⟩ := hu
  have hi := rv.ints
  obtain ⟨xs, ex⟩ := hi.allInts.items
  have hn : numsOf (intItems xs).toList = ns := by rw [← ex]; exact hi.numsOf
  have hl2 : s.heap.IsList a its.toArray := hl.isList
  rw [ex] at hl2
  rw [nums_intItems] at hn
  refine call_max_walkD (PySem.W.iter_listW (A := X.A.in1) (I.ok.hd hc) hl2 fun s2 e W st hf hw hk => ⟨_, _, _, _, _, _, _, s.heap, fun i j => decide (numAt xs i > numAt xs j), rfl, W, st, hf, hw, hk, fun z t m => ?_, fun z => ⟨fun i j u v t B Z _ hu hv q => CmpOf.ints_gt (numAt xs) (fun _ _ => intItems_at) i j u v t B Z hu hv q, fun v t hv m => ?_⟩⟩)
  · obtain ⟨h', tk, rfl, old⟩ := PySem.W.moved_old e rfl m
    have : xs = #[] := Array.eq_empty_of_size_eq_zero (by simpa [intItems] using z)
    subst this
    have : ns = [] := by rw [← hn]; rfl
    subst this
    exact ⟨.int d, H, I.kept old, ⟨_, rfl⟩, q⟩
  · obtain ⟨h', tk, rfl, old⟩ := PySem.W.moved_old e rfl m
    have hsz : 0 < xs.size := by simpa [intItems] using z
    have hs2 : (intItems xs).size = xs.size := by simp [intItems]
    rw [hs2] at hv
    obtain ⟨t', rfl⟩ := intItems_at hv
    obtain ⟨h1, h2⟩ := argBest_gt (numAt xs) (xs.size - 1)
    have e1 : numAt xs (argBest (fun i j => decide (numAt xs i > numAt xs j)) (xs.size - 1)) = mxD ns d := by
      subst hn
      have hm : numAt xs (argBest (fun i j => decide (numAt xs i > numAt xs j)) (xs.size - 1)) ∈ xs.toList.map (·.1) := by
        rw [numAt_eq]; exact PySem.getD_mem (by rw [List.length_map, Array.length_toList]; omega)
      have hg : ∀ y ∈ xs.toList.map (·.1), y ≤ numAt xs (argBest (fun i j => decide (numAt xs i > numAt xs j)) (xs.size - 1)) := fun y hy => by
        obtain ⟨j, hj, rfl⟩ := mem_getD hy
        rw [List.length_map, Array.length_toList] at hj
        rw [← numAt_eq]; exact h2 j (by omega)
      cases hx : xs.toList.map (·.1) with
      | nil => rw [hx] at hm; cases hm
      | cons n r =>
        rw [hx] at hm hg
        obtain ⟨g1, g2⟩ := foldl_max_mem r n
        exact mx_uniq hm hg g1 g2
    rw [e1]
    exact ⟨.int (mxD ns d), H, I.kept old, ⟨t', rfl⟩, q⟩
def dMaxD : List D → D → Option D
  | [.lst ds], .int d => (intsD ds).map fun ns => .int (mxD ns d)
  | _, _ => none
def oKE (op : List D → D → Option D) (fa : Ev (List Opd)) (fd : Ev D) : Ev D := fun S st => (fa S st).bind fun a S st => (fd S st).bind fun d S st =>
  match vws S a with
  | some x => got (op x d) S st
  | _ => .stuck
theorem de_maxD {fa : Ev (List Opd)} {fd : Ev D} (hm : X.mg "max" = none) (ha : DA X B W [e] fa) (hd : DE X B W f fd) (hc : X.calm = true := by rfl) (hg : Gl X "max" := by rfl)
    (he : backTo pos (starEach [e] X.env) = (false, eval e X.env) :: backTo pos (starEach [] X.env) := by rfl) (hpl : (backTo pos (starEach [e] X.env)).any (·.1) = false := by rfl)
    (hall : (backToKw pos (keywordEach [⟨some "default", f, kpos⟩] X.env)).all (·.1.isSome) = true := by rfl) (hnone : (backToKw pos (keywordEach [⟨some "default", f, kpos⟩] X.env)).any (·.1.isNone) = false := by rfl) (hks : (backToKw pos (keywordEach [⟨some "default", f, kpos⟩] X.env)).filterMap (·.1) = [Str.ofString "default"] := by rfl) :
    DE X B W (.Call (.Name "max" p) [e] [⟨some "default", f, kpos⟩] pos) (oKE dMaxD fa fd) :=
  pe_imp (pe_callBK (cr_maxDf hc) hg hm (by decide +kernel) ha (pk_cons hd pk_nil) (by decide) (by decide) he hpl hall hnone hks) fun σ H Q ⟨F, S, st, o, q⟩ => ⟨F, S, st, o, (Post.bind (R := RpO (Cx.g X) σ) q).mono fun v H1 ⟨F1, d, S1, st1, g1, o1, r1, p1⟩ =>
    ⟨F1, S1, st1, o1, (Post.bind (R := RD (Cx.g X) σ) p1).mono fun u H2 ⟨F2, d2, S2, st2, g2, o2, r2, p2⟩ => by
      split at p2
      · rename_i x hx
        obtain ⟨z, hz, p3⟩ := got_ok p2
        have ra := o2.vws (r1.mono g2.1) hx
        unfold dMaxD at hz
        split at hz
        · rename_i ds n
          cases hb : intsD ds with
          | none => rw [hb] at hz; cases hz
          | some ns =>
            rw [hb] at hz; cases hz
            cases ints_eq hb
            cases ra with
            | cons h t =>
              cases t
              obtain ⟨p, xs, rfl, h1, h2⟩ := h.seqL o2.fH rfl
              cases rp_ints_inv h2
              cases r2
              exact ⟨_, _, _, rfl, rfl, h1, p3 _ H2 F2 .refl o2 (.int _)⟩
        · cases hz
      · exact p2.elim⟩⟩
@[simp] theorem oKE_a (op : List D → D → Option D) (fa : Ev (List Opd)) (fd : Ev D) (S : Sls) (st : Store) : oKE op fa fd S st = (fa S st).bind fun a S st => (fd S st).bind fun d S st =>
  match vws S a with
  | some x => got (op x d) S st
  | _ => .stuck := rfl
theorem dMaxD_a (ns : List Int) (d : Int) : dMaxD [.lst (ns.map .int)] (.int d) = some (.int (mxD ns d)) := by simp [dMaxD]
end
end DL

namespace DL
open PySem PySem.Spec PyProof.Rows L2
section
variable {X : Cx} {B : Hp} {W : WX} {e a b c : Expr} {es : List Expr} {pos p : Pos}
/-! ### lists of one's own, handed on and back -/
/-- the slot's own object, given away -/
def oZ (i : Nat) : Ev Ow := fun S st => match S[i]? with
  | some (.own w) => .ok w (S.set i .no) st
  | _ => .stuck
theorem df_z {i : Nat} (h : PE X e (tVar i)) : DF X B W e (oZ i) := pe_imp h fun σ H Q ⟨F, S, st, o, q⟩ => by
  unfold oZ at q
  split at q
  · rename_i w hw
    obtain ⟨p, u, e1, h1, h2, h3, r⟩ := o.sl i _ hw
    refine ⟨_, e1, q p u H F .refl (o.drop i) h1 h2 h3 r fun j es e2 e3 => ?_⟩
    have hi : i < S.length := (List.getElem?_eq_some_iff.mp hw).1
    by_cases hj : i = j
    · subst hj
      rw [List.getElem?_set_self hi] at e2; cases e2
    · rw [List.getElem?_set_ne hj] at e2
      exact hj (o.ap i j _ _ p hw e2 e1 e3)
  · exact q.elim
/-- return, of a new list -/
def sRO (f : Ev Ow) : EvS := fun S st => (f S st).out fun w S st => .rto w S st
theorem ds_ro {f : Ev Ow} (h : DF X B W e f) : DS X B W (.Return (some e) pos) (sRO f) := ps_imp (ps_ret h) fun D σ H ⟨F, S, st, o, q⟩ => by
  refine ⟨F, S, st, o, ?_⟩
  unfold sRO at q
  generalize f S st = r at q ⊢
  cases r with
  | ok w S1 st1 => exact fun p u H' F' g o1 hu hF hB r no => q p u σ H' F' g o1 hu hF hB r
  | exc x S1 st1 => exact fun c d H' F' g o1 r => q c d σ H' F' g o1 r
  | stuck => exact q
end
/-- what a def does that hands back a list of its caller's own -/
abbrev CallO := List Sl → Store → Res Ow
def runBO (N : Nat) (b : EvS) : CallO := fun ss st => match b (ss ++ List.replicate (N - ss.length) .no) st with
  | .rto w _ st => .ok w [] st
  | .exc x _ st => .exc x [] st
  | _ => .stuck
def spOwn (G : Gx) (n : Nat) (c : CallO) : Sp := fun vs H Q E => vs.length = n ∧ ∃ (B F : Hp) (S0 : List Sl) (st : Store), S0.length = n ∧ (∀ N : List Str, n ≤ N.length → Ok G B F (L2.start N vs) H (S0 ++ List.replicate (N.length - S0.length) .no)) ∧ match c S0 st with
  | .ok w _ _ => ∀ p u H' F', Gr B F F' → Same B H' → Same F' H' → H' p = some u → F' p = none → B p = none → OwRel G F' u w → Q (.ref p) H'
  | .exc x _ _ => ∀ cls dd H' F', Gr B F F' → Same B H' → Same F' H' → XRel G F' x cls dd H' → E cls dd H'
  | .stuck => False
structure DefO (P : Program) (w : World) (K : PySem.W.Frag) (mg : Str → Option Value) (base : Heap) (k : Nat) (x : Str) (n : Nat) (c : CallO) : Prop where
  ex : ∃ f fd ps, FnOk P w K mg base (L2.CX P w) k f fd ps (spOwn ⟨K, mg⟩ n c) ∧ Binds K fd ps [] ∧ mg x = some (.ref f) ∧ PySem.W.keepIn K (.ref f) = true
theorem DefO.mono {P : Program} {w : World} {K : PySem.W.Frag} {mg : Str → Option Value} {base : Heap} {k j : Nat} {x : Str} {n : Nat} {c : CallO} (d : DefO P w K mg base k x n c) (h : k ≤ j) : DefO P w K mg base j x n c := by
  obtain ⟨f, fd, ps, a, b, c, e⟩ := d.ex
  exact ⟨f, fd, ps, a.mono h, b, c, e⟩
section
variable {P : Program} {w : World} {K : PySem.W.Frag} {mg : Str → Option Value} {base : Heap}
theorem fno_ok {x qual : Str} {st : Stmt} {f : Addr} {fd : FuncData} {N ps : List Str} {k : Nat} {b : EvS} (F : Fun K x qual st f fd) (S : FnScope N ps (defScope st))
    (body : ∀ (B : Hp) (cdv : Value) (A : Around) (outer : List Env) (s : Shared) (H : Hp) (E : XK) (W : WX), Room k (A.deeper (envOfC qual (defScope st) s.heap.objs.size f cdv)) →
      Takes (cxOf (L2.CX P w) P w K mg base N qual (defScope st) f cdv A outer s H E) W → PassesOwn (model P w) (A.deeper (envOfC qual (defScope st) s.heap.objs.size f cdv)) (envOfC qual (defScope st) s.heap.objs.size f cdv) (cxOf (L2.CX P w) P w K mg base N qual (defScope st) f cdv A outer s H E).xe →
      DSs (cxOf (L2.CX P w) P w K mg base N qual (defScope st) f cdv A outer s H E) B W (defBody st) b) : FnOk P w K mg base (L2.CX P w) (k + 1) f fd ps (spOwn ⟨K, mg⟩ ps.length (runBO N.length b)) := by
  refine F.okX S (fun vs H Q E h => h.1) (fun cdv A outer s H vs Q E hr h => ?_)
  obtain ⟨hl, B, F0, S0, st0, hS0, ok0, q⟩ := h
  have hN : ps.length ≤ N.length := by have := congrArg List.length S.pre; rw [List.length_take] at this; omega
  refine ⟨_, body B cdv A outer s H E (fun cls d _ H' => E cls d H') hr (takes_of rfl rfl rfl rfl) (passes_of rfl), ?_⟩
  refine ⟨F0, _, st0, ok0 N hN, ?_⟩
  unfold runBO at q
  revert q
  generalize b (S0 ++ List.replicate (N.length - S0.length) .no) st0 = r
  intro q
  cases r with
  | rto w1 S1 st1 => exact fun p u σ' H' F' g o hu hF hB rr => q p u H' F' g o.kp o.fH hu hF hB rr
  | exc y S1 st1 => exact fun c d σ' H' F' g o rr => q c d H' F' g o.kp o.fH rr
  | nx S1 st1 => exact q.elim
  | ret d S1 st1 => exact q.elim
  | bk S1 st1 => exact q.elim
  | ct S1 st1 => exact q.elim
  | stuck => exact q.elim
theorem defo_ok {x qual : Str} {st : Stmt} {f : Addr} {fd : FuncData} {N ps : List Str} {k : Nat} {b : EvS} (F : Fun K x qual st f fd) (S : FnScope N ps (defScope st)) (hb : Binds K fd ps []) (hm : mg x = some (.ref f))
    (body : ∀ (B : Hp) (cdv : Value) (A : Around) (outer : List Env) (s : Shared) (H : Hp) (E : XK) (W : WX), Room k (A.deeper (envOfC qual (defScope st) s.heap.objs.size f cdv)) →
      Takes (cxOf (L2.CX P w) P w K mg base N qual (defScope st) f cdv A outer s H E) W → PassesOwn (model P w) (A.deeper (envOfC qual (defScope st) s.heap.objs.size f cdv)) (envOfC qual (defScope st) s.heap.objs.size f cdv) (cxOf (L2.CX P w) P w K mg base N qual (defScope st) f cdv A outer s H E).xe →
      DSs (cxOf (L2.CX P w) P w K mg base N qual (defScope st) f cdv A outer s H E) B W (defBody st) b) : DefO P w K mg base (k + 1) x ps.length (runBO N.length b) := ⟨f, fd, ps, fno_ok F S body, hb, hm, F.kp⟩
end
/-! ### calls -/
theorem start_ok {G : Gx} {B F H : Hp} {vs : List V} {S0 : List Sl} (fH : Same F H) (kp : Same B H) (hl : vs.length = S0.length) (sl : ∀ (i : Nat) (s : Sl), S0[i]? = some s → SlOk G B F H ((vs.map some)[i]?) s)
    (ap : ∀ (i j : Nat) (ds es : Ow) (p : Addr), S0[i]? = some (.own ds) → S0[j]? = some (.own es) → vs[i]? = some (.ref p) → vs[j]? = some (.ref p) → i = j) {N : List Str} (hN : S0.length ≤ N.length) : Ok G B F (L2.start N vs) H (S0 ++ List.replicate (N.length - S0.length) .no) := by
  have get : ∀ (i : Nat) (s : Sl), (S0 ++ List.replicate (N.length - S0.length) Sl.no)[i]? = some s → (i < S0.length ∧ S0[i]? = some s) ∨ s = .no := fun i s e => by
    by_cases hi : i < S0.length
    · rw [List.getElem?_append_left hi] at e; exact .inl ⟨hi, e⟩
    · rw [List.getElem?_append_right (by omega), List.getElem?_replicate] at e
      split at e
      · cases e; exact .inr rfl
      · cases e
  have gv : ∀ i, i < S0.length → (L2.start N vs)[i]? = (vs.map some)[i]? := fun i hi => by
    unfold L2.start
    rw [List.getElem?_append_left (by simp; omega)]
  refine ⟨fH, kp, by simp [L2.start, hl], fun i s e => ?_, fun i j ds es p e1 e2 e3 e4 => ?_⟩
  · rcases get i s e with ⟨hi, e⟩ | e
    · have := sl i s e
      rw [gv i hi]; exact this
    · subst e; trivial
  · rcases get i _ e1 with ⟨hi, e1⟩ | e1
    · rcases get j _ e2 with ⟨hj, e2⟩ | e2
      · rw [gv i hi, List.getElem?_map] at e3
        rw [gv j hj, List.getElem?_map] at e4
        refine ap i j ds es p e1 e2 ?_ ?_
        · cases h : vs[i]? with
          | none => rw [h] at e3; cases e3
          | some v => rw [h] at e3; cases e3; rfl
        · cases h : vs[j]? with
          | none => rw [h] at e4; cases e4
          | some v => rw [h] at e4; cases e4; rfl
      · cases e2
    · cases e1
theorem rpAll_sl {G : Gx} {B F H : Hp} : ∀ {vs : List V} {ds : List D}, RpAll G F vs ds → ∀ (i : Nat) (s : Sl), (ds.map Sl.d)[i]? = some s → SlOk G B F H ((vs.map some)[i]?) s
  | vs, ds, r, i, s, e => by
    rw [List.getElem?_map] at e
    cases h : ds[i]? with
    | none => rw [h] at e; cases e
    | some d =>
      rw [h] at e; cases e
      obtain ⟨v, hv, rv⟩ := r.get h
      exact ⟨v, by rw [List.getElem?_map, hv]; rfl, rv⟩
/-- f(..) with data, a new list back -/
def coE (c : CallO) (fa : Ev (List Opd)) : Ev Ow := fun S st => (fa S st).bind fun a S st => match vds S a with
  | some ds => match c (ds.map .d) st with
    | .ok w _ st => .ok w S st
    | .exc x _ st => .exc x S st
    | .stuck => .stuck
  | none => .stuck
/-- f(x, ..), x a list of one's own, given away -/
def coF (c : CallO) (j : Nat) (fa : Ev (List Opd)) : Ev Ow := fun S st => match S[j]? with
  | some (.own _) => (fa S st).bind fun a S st => match vds S a, S[j]? with
    | some ds, some (.own w) => match c (.own w :: ds.map .d) st with
      | .ok w _ st => .ok w (S.set j .no) st
      | .exc x _ st => .exc x (S.set j .no) st
      | .stuck => .stuck
    | _, _ => .stuck
  | _ => .stuck
section
variable {X : Cx} {B : Hp} {W : WX} {e y : Expr} {es : List Expr} {pos p : Pos} {k : Nat} {x : Str} {n : Nat} {c : CallO}
theorem df_co {fa : Ev (List Opd)} (d : DefO X.prog X.w X.K X.mg X.base k x n c) (hr : Room k X.A) (tk : Takes X W) (ha : DA X B W (e :: es) fa) (hl : aLen fa n := by repeat (first | exact aLen_n | refine aLen_c ?_)) (hg : Gl X x := by rfl) (hdb : (x == ("__debug__" : Str)) = false := by decide)
    (he : starEach (e :: es) X.env = (false, eval e X.env) :: starEach es X.env := by rfl) (hpl : (backTo pos (starEach es X.env)).any (·.1) = false := by rfl) : DF X B W (.Call (.Name x p) (e :: es) [] pos) (coE c fa) := by
  obtain ⟨f, fd, ps, F, hb, hm, hk⟩ := d.ex
  refine pe_imp (pe_callS F hr hg hm hk hb (fun σ => passAt tk σ) ha hdb he hpl) fun σ H Q ⟨F0, S, st, o, q⟩ => ?_
  unfold coE at q
  have hl' := hl S st
  generalize hfa : fa S st = r at q hl'
  have key : Post (Cx.g X) B W (RpO (Cx.g X) σ) σ F0 (fun vs H1 => spOwn (Cx.g X) n c vs H1 Q (WE W σ)) r := by
    cases r with
    | exc z S1 st1 => exact q
    | stuck => exact q
    | ok as S1 st1 =>
      intro vs H1 F1 g1 o1 r1
      have q : PostF (Cx.g X) B W σ F0 Q (match vds S1 as with
        | some ds => match c (ds.map .d) st1 with
          | .ok w _ st => .ok w S1 st
          | .exc x _ st => .exc x S1 st
          | .stuck => .stuck
        | none => .stuck) := q
      split at q
      · rename_i ds hds
        have ra := o1.vds r1 hds
        have hn := hl' _ _ _ rfl
        have hv := rpO_len r1
        refine ⟨by omega, H1, F1, ds.map .d, st1, by rw [List.length_map, ← ra.length]; omega, fun N hN => start_ok o1.fH (Same.refl H1) (by rw [List.length_map]; exact ra.length) (rpAll_sl ra) (fun i j a b p e1 _ _ _ => ?_) (by rw [List.length_map, ← ra.length]; omega), ?_⟩
        · rw [List.getElem?_map] at e1
          cases h : ds[i]? with
          | none => rw [h] at e1; cases e1
          | some d => rw [h] at e1; cases e1
        · revert q
          generalize c (ds.map .d) st1 = r2
          intro q
          cases r2 with
          | ok w S2 st2 =>
            intro p u H' F' g k' f hu hF hB rr
            have o2 := o1.grow g k' f
            refine q p u H' F' (g1.trans (g.under o1.kp)) o2 hu hF (o1.kp.free hB) rr fun j es e1 e2 => ?_
            obtain ⟨p', u', e3, h1, _⟩ := o1.sl j _ e1
            rw [e2] at e3; cases e3
            rw [hB] at h1; cases h1
          | exc z S2 st2 => exact fun cls dd H' F' g k' f rr => q cls dd H' F' (g1.trans (g.under o1.kp)) (o1.grow g k' f) rr
          | stuck => exact q.elim
      · exact q.elim
  exact ⟨F0, S, st, o, by rw [hfa]; exact key⟩
theorem df_cof {j : Nat} {fa : Ev (List Opd)} (d : DefO X.prog X.w X.K X.mg X.base k x (n + 1) c) (hr : Room k X.A) (tk : Takes X W) (hy : PE X y (tVar j)) (ha : DA X B W (e :: es) fa) (hl : aLen fa n := by repeat (first | exact aLen_n | refine aLen_c ?_)) (hg : Gl X x := by rfl) (hdb : (x == ("__debug__" : Str)) = false := by decide)
    (he : starEach (y :: e :: es) X.env = (false, eval y X.env) :: starEach (e :: es) X.env := by rfl) (hpl : (backTo pos (starEach (e :: es) X.env)).any (·.1) = false := by rfl) : DF X B W (.Call (.Name x p) (y :: e :: es) [] pos) (coF c j fa) := by
  obtain ⟨f, fd, ps, F, hb, hm, hk⟩ := d.ex
  refine pe_imp (pe_callS F hr hg hm hk hb (fun σ => passAt tk σ) (pa_cons hy ha he) hdb he hpl) fun σ H Q ⟨F0, S, st, o, q⟩ => ?_
  unfold coF at q
  split at q
  · rename_i w0 hw0
    obtain ⟨p, u, e1, h1, h2, h3, r0⟩ := o.sl j _ hw0
    have hl' := hl S st
    generalize hfa : fa S st = r at q hl'
    have key : Post (Cx.g X) B W (RpO (Cx.g X) σ) σ F0 (fun vs H1 => spOwn (Cx.g X) (n + 1) c (.ref p :: vs) H1 Q (WE W σ)) r := by
      cases r with
      | exc z S1 st1 => exact q
      | stuck => exact q
      | ok as S1 st1 =>
        intro vs H1 F1 g1 o1 r1
        have q : PostF (Cx.g X) B W σ F0 Q (match vds S1 as, S1[j]? with
          | some ds, some (.own w) => match c (.own w :: ds.map .d) st1 with
            | .ok w _ st => .ok w (S1.set j .no) st
            | .exc x _ st => .exc x (S1.set j .no) st
            | .stuck => .stuck
          | _, _ => .stuck) := q
        split at q
        · rename_i ds w hds hw
          have ra := o1.vds r1 hds
          have hn := hl' _ _ _ rfl
          have hv := rpO_len r1
          obtain ⟨p', u, e1', k1, k2, k3, rw'⟩ := o1.sl j _ hw
          rw [e1] at e1'; cases e1'
          -- what the callee keeps: all but the list
          have kB : Same (fun a => if a = p then none else H1 a) H1 := fun a v q => by
            by_cases z : a = p
            · simp [z] at q
            · simpa [z] using q
          refine ⟨by simp; omega, fun a => if a = p then none else H1 a, F1, .own w :: ds.map .d, st1, by simp [← ra.length]; omega, fun N hN => start_ok o1.fH kB (by simp [ra.length]) (fun i s e => ?_) (fun i j a b p e1 e2 _ _ => ?_) (by simp [← ra.length]; omega), ?_⟩
          · cases i with
            | zero =>
              simp at e; subst e
              exact ⟨p, u, by simp, k1, k2, by simp, rw'⟩
            | succ i =>
              have := rpAll_sl (B := fun a => if a = p then none else H1 a) (H := H1) ra i s (by simpa using e)
              cases s with
              | no => trivial
              | d x => exact this
              | own w => simp at e
          · have own0 : ∀ i a, (Sl.own w :: ds.map Sl.d)[i]? = some (.own a) → i = 0 := fun i a e => by
              cases i with
              | zero => rfl
              | succ i => simp at e
            rw [own0 i a e1, own0 j b e2]
          · revert q
            generalize c (.own w :: ds.map .d) st1 = r2
            intro q
            have back : ∀ {H' F' : Hp}, Gr (fun a => if a = p then none else H1 a) F1 F' → Same (fun a => if a = p then none else H1 a) H' → Same F' H' → Gr B F1 F' ∧ Ok (Cx.g X) B F' σ H' (S1.set j .no) := fun {H' F'} g kp f => by
              have hF : ∀ a, F1 a = none → F' a ≠ none → a = p ∨ H1 a = none := fun a z z' => by
                have := g.2 a z z'
                by_cases y : a = p
                · exact .inl y
                · exact .inr (by simpa [y] using this)
              refine ⟨⟨g.1, fun a z z' => ?_⟩, f, fun a v q => ?_, by rw [List.length_set]; exact o1.len, fun i s e => ?_, fun i1 j1 a1 b1 p1 q1 q2 q3 q4 => ?_⟩
              · rcases hF a z z' with y | y
                · rw [y]; exact k3
                · exact o1.kp.free y
              · have : a ≠ p := ne_of_none q k3
                exact kp a v (by simp [this]; exact o1.kp a v q)
              · by_cases hi : j = i
                · have := set_lt e hi
                  subst hi
                  rw [List.getElem?_set_self this] at e; cases e; trivial
                · rw [List.getElem?_set_ne hi] at e
                  have h := o1.sl i s e
                  cases s with
                  | no => trivial
                  | d x =>
                    obtain ⟨v, a1, a2⟩ := h
                    exact ⟨v, a1, a2.mono g.1⟩
                  | own w2 =>
                    obtain ⟨p2, u2, a1, a2, a3, a4, a5⟩ := h
                    have hp2 : p2 ≠ p := fun z => hi (o1.ap j i _ _ p hw e e1 (by rw [← z]; exact a1))
                    refine ⟨p2, u2, a1, kp p2 u2 (by simp [hp2]; exact a2), ?_, a4, a5.mono g.1⟩
                    cases z : F' p2 with
                    | none => rfl
                    | some v =>
                      rcases hF p2 a3 (by rw [z]; simp) with y | y
                      · exact absurd y hp2
                      · rw [a2] at y; cases y
              · have old : ∀ (i : Nat) (a : Ow), (S1.set j .no)[i]? = some (.own a) → S1[i]? = some (.own a) := fun i a e => by
                  by_cases hi : j = i
                  · have := set_lt e hi
                    subst hi
                    rw [List.getElem?_set_self this] at e; cases e
                  · rw [List.getElem?_set_ne hi] at e; exact e
                exact o1.ap i1 j1 a1 b1 p1 (old _ _ q1) (old _ _ q2) q3 q4
            cases r2 with
            | ok w' S2 st2 =>
              intro p2 u2 H' F' g k' f hu hF hB rr
              obtain ⟨g', o2⟩ := back g k' f
              have hB' : B p2 = none := by
                by_cases y : p2 = p
                · rw [y]; exact k3
                · exact o1.kp.free (by simpa [y] using hB)
              refine q p2 u2 H' F' (g1.trans g') o2 hu hF hB' rr fun i es e e2 => ?_
              by_cases hi : j = i
              · have := set_lt e hi
                subst hi
                rw [List.getElem?_set_self this] at e; cases e
              · rw [List.getElem?_set_ne hi] at e
                obtain ⟨p3, u3, a1, a2, _⟩ := o1.sl i _ e
                rw [e2] at a1; cases a1
                have hp2 : p2 ≠ p := fun z => hi (o1.ap j i _ _ p hw e e1 (by rw [← z]; exact e2))
                simp [hp2] at hB
                rw [a2] at hB; cases hB
            | exc z S2 st2 =>
              intro cls dd H' F' g k' f rr
              obtain ⟨g', o2⟩ := back g k' f
              exact q cls dd H' F' (g1.trans g') o2 rr
            | stuck => exact q.elim
        · exact q.elim
    exact ⟨_, e1, F0, S, st, o, by rw [hfa]; exact key⟩
  · exact q.elim
end
end DL
namespace DL
open PySem PySem.Spec PyProof.Rows L2
section
variable {S : Sls} {st : Store}
@[simp] theorem oZ_a (i : Nat) : oZ i S st = match S[i]? with | some (.own w) => .ok w (S.set i .no) st | _ => .stuck := rfl
@[simp] theorem sRO_a (f : Ev Ow) : sRO f S st = (f S st).out fun w S st => .rto w S st := rfl
@[simp] theorem coE_a (c : CallO) (fa : Ev (List Opd)) : coE c fa S st = (fa S st).bind fun a S st => match vds S a with
  | some ds => match c (ds.map .d) st with
    | .ok w _ st => .ok w S st
    | .exc x _ st => .exc x S st
    | .stuck => .stuck
  | none => .stuck := rfl
@[simp] theorem coF_a (c : CallO) (j : Nat) (fa : Ev (List Opd)) : coF c j fa S st = match S[j]? with
  | some (.own _) => (fa S st).bind fun a S st => match vds S a, S[j]? with
    | some ds, some (.own w) => match c (.own w :: ds.map .d) st with
      | .ok w _ st => .ok w (S.set j .no) st
      | .exc x _ st => .exc x (S.set j .no) st
      | .stuck => .stuck
    | _, _ => .stuck
  | _ => .stuck := rfl
theorem runBO_a (N : Nat) (b : EvS) (ss : List Sl) : runBO N b ss st = match b (ss ++ List.replicate (N - ss.length) .no) st with
  | .rto w _ st => .ok w [] st
  | .exc x _ st => .exc x [] st
  | _ => .stuck := rfl
end
end DL

namespace DL
open PySem PySem.Spec PyProof.Rows L2
/-! ### set(x): what set makes, and what fills it -/
/-- the empty set, as set makes it -/
def noSet (w : World) : Obj := { cls := .type "set", dict := none, data := .set #[] 0 (.fresh 0 0 (!w.params.followText "set-order")) }
/-- s with an empty set behind all -/
def withSet (w : World) (s : Shared) : Shared := { s with heap := s.heap.push (noSet w) }
section
variable {P : Program} {w : World} {A : Around} {E : Value → Shared → Prop} {s : Shared}
theorem withSet_get : (withSet w s).heap.get? s.heap.objs.size = some (noSet w) := Heap.get?_push_size _ rfl
theorem withSet_old {b : Addr} {o : Obj} (e : s.heap.get? b = some o) : (withSet w s).heap.get? b = some o := Heap.get?_push_of_some _ e
/-- what a run told may be handed on -/
theorem run_with {M : Model} {c : Code} {Q1 : Value → Shared → Prop} {R : Result → Shared → Prop} (h : codeAny M A c (wants Q1 E) s) (k : ∀ v t, Q1 v t → R (.ok (.ret v)) t) (x : ∀ e t, E e t → R (.error e) t) : codeAny M A c R s :=
  codeAny_mono h fun r t q => match r, q with
    | .ok (.ret v), q => k v t q
    | .error e, q => x e t q
/-- set(x), by what fills the empty set from x -/
theorem set_by {x : Value} {Q : Value → Shared → Prop}
    (fill : codeAny (model P w) A.in1 (.call (.builtin "set.__init__") ⟨[.ref s.heap.objs.size, x], []⟩) (wants (fun r s2 => r = .none ∧ Q (.ref s.heap.objs.size) s2) E) (withSet w s)) :
    wpAny (model P w) A (call (.type "set") [x]) Q E s := by
  have FT := F.called_set
  have made := code_set_led1 (P := P) (w := w) (A := A.in1) (s := s) (E := E) x (Q₁ := fun o t => o = .ref s.heap.objs.size ∧ t = withSet w s) ⟨rfl, rfl⟩
  apply wpAny_call
  apply codeAny_of_tree
  apply wpAny_pure
  constructor
  · exact Code.quiet_builtin _ (by decide +kernel)
  apply codeAny_builtin F.entry_type_call
  rw [show Around.under A (.builtin "type.__call__" _) = A.in1 from Around.under_plain (c := .builtin "type.__call__" ⟨[.type "set", x], []⟩) rfl rfl]
  have := FT.notType
  have := FT.canCreate
  have := F.typeCall_set_1 x
  obtain ⟨top, others, line⟩ := FT.mro
  have := FT.made
  have := FT.sub
  repeat (any_goals (first | assumption | wp_step))
  apply run_with made (fun o t m => ?_) fun _ _ q => q
  obtain ⟨rfl, rfl⟩ := m
  have isT : Shared.TypeIs (withSet w s) (.ref s.heap.objs.size) "set" := ⟨_, withSet_get, rfl⟩
  have := FT.init.lookup
  have := FT.init.bind (.ref s.heap.objs.size)
  repeat (any_goals (first | assumption | wp_step))
  apply run_with fill (fun o t m => ?_) fun _ _ q => q
  obtain ⟨rfl, q⟩ := m
  repeat (any_goals (first | assumption | wp_step))
/-- what walks along a list, behind the empty set -/
def onList (w : World) (s : Shared) (l : Addr) : Shared := { withSet w s with heap := (withSet w s).heap.push { cls := .type "list_iterator", data := .fields #[.ref l, .int 0 0] } }
/-- set(l) of a list l, by what puts its things in one by one -/
theorem set_by_list {l : Addr} {items : Array Value} {Q : Value → Shared → Prop} (hl : s.heap.IsList l items)
    (go : codeAny (model P w) A.in1.in1 (.builtin "set.update.loop" ⟨[.ref s.heap.objs.size, .ref (s.heap.objs.size + 1)], []⟩) (wants (fun _ s2 => Q (.ref s.heap.objs.size) s2) E) (onList w s l)) :
    wpAny (model P w) A (call (.type "set") [.ref l]) Q E s := by
  apply set_by
  have isT : Shared.TypeIs (withSet w s) (.ref s.heap.objs.size) "set" := ⟨_, withSet_get, rfl⟩
  have hl2 : (withSet w s).heap.IsList l items := hl.push _
  have isL : Shared.TypeIs (withSet w s) (.ref l) "list" := hl2.typeIs
  have at0 := withSet_get (w := w) (s := s)
  have := F.sub_list_set
  have := F.sub_list_frozenset
  apply codeAny_call_builtin F.called_set.init.plain F.entry_set_init
  apply check_set_init_1 isT
  unfold Builtin.«set.__init__» Builtin.Frozenset.updateFrom noKeywords
  have walk : ∀ (K : Value → Shared → Prop) (X : Value → Shared → Prop), K (.ref (withSet w s).heap.objs.size) (onList w s l) → wpAny (model P w) A.in1.in1 (pyIter (.ref l)) K X (withSet w s) := fun K X q => wpAny_pyIter_list hl2 q
  generalize (pyIter : Value → Sem Value) = iter at walk ⊢
  have no : (Value.type "list" == Value.type "dict") = false := by decide
  have zz : (withSet w s).heap.objs.size = s.heap.objs.size + 1 := Heap.size_push ..
  rw [zz] at walk
  generalize withSet w s = s1 at *
  wp_walk
  apply walk
  apply wpAny_bind
  apply wpAny_runValue
  exact run_with go (fun _ _ q => wpAny_pure (wpAny_pure ⟨rfl, q⟩)) fun _ _ q => q
/-- a list's things, put one by one into the set at S; G i: so stands the set when i of them are in -/
theorem fill_list {l I S : Addr} {items : Array Value} {G : Nat → Heap → Prop} {K : Value → Shared → Prop} (hh : A.handled = none) (lI : l ≠ I) (sI : S ≠ I) (sl : S ≠ l)
    (keep : ∀ i h h', G i h → (∀ o, h.get? S = some o → h'.get? S = some o) → G i h')
    (add : ∀ i x (t : Shared) (B : Bool → Shared → Prop) (X : Value → Shared → Prop), items[i]? = some x → G i t.heap → (∀ r h' tk, Heap.SameBut S t.heap h' → G (i + 1) h' → B r { t with heap := h', toks := tk }) → wpAny (model P w) A.in1 (setAdd S x) B X t) :
    ∀ (m i : Nat) (t : Shared), i + m = items.size → t.heap.IsListIter I l i → t.heap.IsList l items → G i t.heap →
      (∀ h' tk, G items.size h' → (∀ b o, b ≠ S → b ≠ I → t.heap.get? b = some o → h'.get? b = some o) → K .none { t with heap := h', toks := tk }) →
      codeAny (model P w) A (.builtin "set.update.loop" ⟨[.ref S, .ref I], []⟩) (wants K E) t := by
  have turns : PySem.Walks P w A.in1 I [I, l] [I] items.size _ _ := PySem.Walks.list (A := A.in1) hh I l lI items
  have off : S ∉ [I] := fun z => sI (List.mem_singleton.mp z)
  intro m
  induction m with
  | zero =>
    intro i t e it li g fin
    obtain rfl : i = items.size := e
    apply codeAny_builtin PyProof.Rows.F.entry_set_update_loop
    rw [show Around.under A (.builtin "set.update.loop" ⟨[.ref S, .ref I], []⟩) = A.in1 from A.under_plainId (by decide +kernel) _]
    refine wpAny_bind ?_
    apply turns.done t _ _ ⟨it, li⟩
    intro h' tk k
    exact wpAny_pure (fin h' tk (keep _ _ _ g fun o q => k S o off q) fun b o _ bI q => k b o (fun z => bI (List.mem_singleton.mp z)) q)
  | succ m ih =>
    intro i t e it li g fin
    apply codeAny_builtin PyProof.Rows.F.entry_set_update_loop
    rw [show Around.under A (.builtin "set.update.loop" ⟨[.ref S, .ref I], []⟩) = A.in1 from A.under_plainId (by decide +kernel) _]
    refine wpAny_bind ?_
    apply turns.item i t _ _ (by omega) ⟨it, li⟩
    intro x h1 k1 hx st1 k
    apply wpAny_bind
    apply wpAny_holding
    apply add i x _ _ _ hx (keep _ _ _ g fun o q => k S o off q)
    intro r h2 k2 sb g2
    have old : ∀ b o, b ≠ S → h1.get? b = some o → h2.get? b = some o := fun b o z q => by rw [sb.2 b z]; exact q
    refine wpAny_pure ⟨plainId_quiet (by decide +kernel) _, ih (i + 1) _ (by omega) (st1.1.at fun o q => old _ _ (Ne.symm sI) q) (st1.2.at fun o q => old _ _ (Ne.symm sl) q) g2 ?_⟩
    intro h3 k3 g3 k'
    exact fin h3 k3 g3 fun b o bS bI q => k' b o bS bI (old b o bS (k b o (fun z => bI (List.mem_singleton.mp z)) q))
/-- set(l) of a list l, G as in fill_list -/
theorem set_list {l : Addr} {items : Array Value} {Q : Value → Shared → Prop} (G : Nat → Heap → Prop) (hh : A.handled = none) (hl : s.heap.IsList l items)
    (keep : ∀ i h h', G i h → (∀ o, h.get? s.heap.objs.size = some o → h'.get? s.heap.objs.size = some o) → G i h') (g0 : G 0 (withSet w s).heap)
    (add : ∀ i x (t : Shared) (B : Bool → Shared → Prop) (X : Value → Shared → Prop), items[i]? = some x → G i t.heap → (∀ r h' tk, Heap.SameBut s.heap.objs.size t.heap h' → G (i + 1) h' → B r { t with heap := h', toks := tk }) →
      wpAny (model P w) A.in1.in1.in1 (setAdd s.heap.objs.size x) B X t)
    (fin : ∀ h' tk, G items.size h' → (∀ b o, s.heap.get? b = some o → h'.get? b = some o) → Q (.ref s.heap.objs.size) { s with heap := h', toks := tk }) :
    wpAny (model P w) A (call (.type "set") [.ref l]) Q E s := by
  have lt : l < s.heap.objs.size := hl.elim fun _ q => Heap.lt_size q.1
  have top : (withSet w s).heap.objs.size = s.heap.objs.size + 1 := Heap.size_push ..
  apply set_by_list hl
  apply fill_list (A := A.in1.in1) (G := G) hh (Nat.ne_of_lt (Nat.lt_succ_of_lt lt)) (Nat.ne_of_lt (Nat.lt_succ_self _)) (Nat.ne_of_gt lt) keep add items.size 0 (onList w s l) (Nat.zero_add _)
  · exact ⟨{ cls := .type "list_iterator", data := .fields #[.ref l, .int 0 0] }, by
      have := Heap.get?_push_size (withSet w s).heap (o := { cls := .type "list_iterator", data := .fields #[.ref l, .int 0 0] }) rfl
      rw [top] at this; exact this, rfl, rfl⟩
  · exact (hl.push _).push _
  · exact keep _ _ _ g0 fun o q => Heap.get?_push_of_some _ q
  · intro h' tk g k
    refine fin h' tk g fun b o q => ?_
    have := Heap.lt_size q
    exact k b o (Nat.ne_of_lt this) (Nat.ne_of_lt (Nat.lt_succ_of_lt this)) (Heap.get?_push_of_some _ (Heap.get?_push_of_some _ q))
/-- set(l), l a list of whole numbers -/
theorem set_ints {l : Addr} {items : Array Value} {ns : List Int} {Q : Value → Shared → Prop} (hh : A.handled = none) (hl : s.heap.IsList l items) (hi : IntsAre items.toList ns) (hb : ns.length < 2000)
    (fin : ∀ h' tk c, SetR w h' s.heap.objs.size (fun j => decide (j ∈ ns)) c → (∀ b o, s.heap.get? b = some o → h'.get? b = some o) → Q (.ref s.heap.objs.size) { s with heap := h', toks := tk }) :
    wpAny (model P w) A (call (.type "set") [.ref l]) Q E s := by
  have len : ns.length = items.size := by rw [← Array.length_toList]; exact hi.length.symm
  apply set_list (fun i h => ∃ c, c ≤ i ∧ SetR w h s.heap.objs.size (fun j => decide (j ∈ ns.take i)) c) hh hl
  · rintro i h h' ⟨c, lc, R⟩ k
    exact ⟨c, lc, R.at k⟩
  · exact ⟨0, Nat.le_refl _, setR_new_at (ns := ns) withSet_get⟩
  · rintro i x t B X hx ⟨c, lc, R⟩ go
    have hi2 : i < items.size := (Array.getElem?_eq_some_iff.mp hx).1
    obtain ⟨tk, rfl⟩ := IntsAre.int_at hi i x (by rw [Array.getElem?_toList]; exact hx)
    apply wpAny_holding
    refine wpAny_bind ((intKind P w).pyHash (intKind_is P w _ tk) ?_)
    refine setR_add_hashed (s := { t with toks := t.toks + 1 }) R (by unfold scanBound; omega) fun h' sb R2 => go _ h' _ sb ⟨_, ?_, R2.congr fun j => ?_⟩
    · split <;> omega
    · rw [List.take_add_one, List.getD_eq_getElem?_getD, List.getElem?_eq_getElem (by omega)]
      rw [Bool.eq_iff_iff]; simp only [Bool.or_eq_true, decide_eq_true_eq, List.mem_append, Option.toList, Option.getD, List.mem_singleton]
  · rintro h' tk ⟨c, _, R⟩ k
    exact fin h' tk c (R.congr fun j => by rw [List.take_of_length_le (by omega)]) k
/-- how many unlike ones the first i are -/
def few (xs : List Str) : Nat → Nat
  | 0 => 0
  | i + 1 => if xs.getD i Str.empty ∈ xs.take i then few xs i else few xs i + 1
theorem few_le (xs : List Str) : ∀ i, few xs i ≤ i
  | 0 => Nat.le_refl _
  | i + 1 => by have := few_le xs i; unfold few; split <;> omega
/-- set(l), l a list of texts -/
theorem set_strs {l : Addr} {items : Array Value} {xs : List Str} {Q : Value → Shared → Prop} (hh : A.handled = none) (hl : s.heap.IsList l items) (hi : StrsAre items.toList xs) (hb : xs.length < 2000)
    (fin : ∀ h' tk, h'.SetOf (PySem.strKind P w) s.heap.objs.size (fun k => decide (k ∈ xs)) (few xs xs.length) → (∀ b o, s.heap.get? b = some o → h'.get? b = some o) → Q (.ref s.heap.objs.size) { s with heap := h', toks := tk }) :
    wpAny (model P w) A (call (.type "set") [.ref l]) Q E s := by
  have len : xs.length = items.size := by rw [← Array.length_toList]; exact hi.length.symm
  apply set_list (fun i h => h.SetOf (PySem.strKind P w) s.heap.objs.size (fun k => decide (k ∈ xs.take i)) (few xs i)) hh hl
  · rintro i h h' ⟨o, es, ep, tb, ho, r⟩ k
    exact ⟨o, es, ep, tb, k o ho, r⟩
  · exact SetOf_congr ((setObjOf_fresh (knd := PySem.strKind P w) _).setOf withSet_get (by decide)) (fun _ => by simp) rfl
  · rintro i x t B X hx R go
    have hi2 : i < items.size := (Array.getElem?_eq_some_iff.mp hx).1
    obtain ⟨tk, rfl⟩ := SS.strs_at hi i x (by rw [Array.getElem?_toList]; exact hx)
    have is1 := strKind_is P w (xs.getD i Str.empty) tk
    have := few_le xs i
    apply wpAny_holding
    refine wpAny_bind ((PySem.strKind P w).pyHash is1 ?_)
    refine wpAny_setAddHashed_of (knd := PySem.strKind P w) (s := { t with toks := t.toks + 1 }) is1 rfl R (by unfold scanBound; omega) fun h' sb R2 => go _ h' _ sb (SetOf_congr R2 (fun k => ?_) ?_)
    · rw [List.take_add_one, List.getD_eq_getElem?_getD, List.getElem?_eq_getElem (by omega)]
      rw [Bool.eq_iff_iff]; simp only [Bool.or_eq_true, decide_eq_true_eq, List.mem_append, Option.toList, Option.getD, List.mem_singleton]
    · rw [few]; simp
  · intro h' tk R k
    rw [len.symm] at R
    exact fin h' tk (SetOf_congr R (fun k => by rw [List.take_length]) rfl) k
end
end DL

namespace DL
open PySem PySem.Spec PyProof.Rows L2
def ins (x : Int) : List Int → List Int
  | [] => [x]
  | y :: r => if x < y then x :: y :: r else if x = y then y :: r else y :: ins x r
def srt : List Int → List Int
  | [] => []
  | x :: r => ins x (srt r)
theorem mem_ins {x z : Int} : ∀ {l : List Int}, z ∈ ins x l ↔ z = x ∨ z ∈ l
  | [] => by simp [ins]
  | y :: r => by
    unfold ins
    split
    · simp
    · split
      · rename_i h; subst h; simp
      · simp only [List.mem_cons, mem_ins (l := r)]
        constructor
        · rintro (h | h | h)
          · exact .inr (.inl h)
          · exact .inl h
          · exact .inr (.inr h)
        · rintro (h | h | h)
          · exact .inr (.inl h)
          · exact .inl h
          · exact .inr (.inr h)
theorem mem_srt {z : Int} : ∀ {l : List Int}, z ∈ srt l ↔ z ∈ l
  | [] => Iff.rfl
  | x :: r => by rw [srt, mem_ins, mem_srt (l := r), List.mem_cons]
theorem pw_ins {x : Int} : ∀ {l : List Int}, l.Pairwise (· < ·) → (ins x l).Pairwise (· < ·)
  | [], _ => by simp [ins]
  | y :: r, h => by
    rw [List.pairwise_cons] at h
    unfold ins
    split
    · rename_i hx
      rw [List.pairwise_cons]
      exact ⟨fun z hz => by
        rcases List.mem_cons.mp hz with e | e
        · rw [e]; exact hx
        · exact Int.lt_trans hx (h.1 z e), List.pairwise_cons.mpr h⟩
    · split
      · exact List.pairwise_cons.mpr h
      · rw [List.pairwise_cons]
        exact ⟨fun z hz => by
          rcases mem_ins.mp hz with e | e
          · rw [e]; omega
          · exact h.1 z e, pw_ins h.2⟩
theorem pw_srt : ∀ {l : List Int}, (srt l).Pairwise (· < ·)
  | [] => List.Pairwise.nil
  | x :: r => pw_ins pw_srt
theorem pw_uniq : ∀ {l m : List Int}, l.Pairwise (· < ·) → m.Pairwise (· < ·) → (∀ z, z ∈ l ↔ z ∈ m) → l = m
  | [], [], _, _, _ => rfl
  | [], y :: r, _, _, h => by have := (h y).mpr (List.mem_cons_self ..); cases this
  | x :: r, [], _, _, h => by have := (h x).mp (List.mem_cons_self ..); cases this
  | x :: r, y :: s, h1, h2, h => by
    rw [List.pairwise_cons] at h1 h2
    have e : x = y := by
      have a := (h x).mp (List.mem_cons_self ..)
      have b := (h y).mpr (List.mem_cons_self ..)
      rcases List.mem_cons.mp a with a | a
      · exact a
      · rcases List.mem_cons.mp b with b | b
        · exact b.symm
        · have := h1.1 y b; have := h2.1 x a; omega
    subst e
    rw [pw_uniq h1.2 h2.2 fun z => ⟨fun m => by
      rcases List.mem_cons.mp ((h z).mp (List.mem_cons_of_mem _ m)) with e | e
      · rw [e] at m; have := h1.1 x m; omega
      · exact e, fun m => by
      rcases List.mem_cons.mp ((h z).mpr (List.mem_cons_of_mem _ m)) with e | e
      · rw [e] at m; have := h2.1 x m; omega
      · exact e⟩]
/-! ### sorted(set(x)), x a list of ints -/
def tSrtSet (K : PySem.W.Frag) (te : TE) : TE := fun σ H Q => te σ H fun v H1 => ∃ (a : Addr) (ns : List Int), v = .ref a ∧ SqL K H1 a (ns.map V.int) ∧ ns.length < 1000 ∧ (srt ns).length < 64 ∧ ∀ q, H1 q = none → Q (.ref q) (upd H1 q (.lst ((srt ns).map V.int)))
section
variable {X : Cx} {B : Hp} {W : WX}
theorem pe_srtSet {e : Expr} {te : TE} {p p2 pos pos2 : Pos} (hc : X.calm = true) (hg : Gl X "sorted") (hm : X.mg "sorted" = none) (hg2 : Gl X "set") (hm2 : X.mg "set" = none) (he : PE X e te)
    (hs : starEach [e] X.env = (false, eval e X.env) :: starEach [] X.env := by rfl)
    (hs2 : starEach [.Call (.Name "set" p2) [e] [] pos2] X.env = (false, eval (.Call (.Name "set" p2) [e] [] pos2) X.env) :: starEach [] X.env := by rfl) :
    PE X (.Call (.Name "sorted" p) [.Call (.Name "set" p2) [e] [] pos2] [] pos) (tSrtSet X.K te) := by
  refine ⟨fun pins s σ H Q I h => ?_⟩
  refine Call_ (ld_blt (u := .builtin "sorted") I hg hm (by decide +kernel) ?_)
  refine PyProof.Rows.callWith_builtin1 (PyProof.Rows.args_cons ?_ rfl) rfl rfl
  refine Call_ (ld_blt I hg2 hm2 PyProof.Rows.boot_set ?_)
  refine PyProof.Rows.callWith_type1 (PyProof.Rows.args_cons (thn (he.run pins s σ H _ I h) fun u s1 ⟨v, H1, I1, r1, q1⟩ => PyProof.Rows.args_nil ?_) hs) hs rfl
  obtain ⟨a, ns, ev, hq, h1000, h64, q⟩ := q1
  subst ev
  obtain rfl : u = Value.ref a := r1
  obtain ⟨its, rv, p', hz⟩ := I1.list hq
  refine set_ints (I1.ok.hd hc) p'.isList (by simpa using rv.ints) (by omega) fun h' tk c R hk => PyProof.Rows.args_nil ?_
  have I2 : Inv X pins σ H1 { s1 with heap := h', toks := tk } := I1.kept hk
  have hc64 : c = (srt ns).length := by
    obtain ⟨o, es, ep, t, ho, hx, hd, hg, nd, hS, hb, hf, hn, _⟩ := id R
    have pm : (es.toList.map keyOf).Perm (srt ns) := (List.perm_ext_iff_of_nodup nd ((pw_srt (l := ns)).imp fun h => Int.ne_of_lt h)).mpr fun z => by
      rw [← hS z, mem_srt, decide_eq_true_eq]
    have := pm.length_eq
    rw [List.length_map, Array.length_toList, hn] at this
    exact this
  refine sorted_set (s := { s1 with heap := h', toks := tk }) R (I1.ok.hd hc) (by omega) fun s' pp out cc ks k g o hp hgg hi hss hmm hl => ?_
  have eks : ks = srt ns := pw_uniq hss pw_srt fun z => by rw [hmm z, mem_srt, decide_eq_true_eq]
  subst eks
  have hlen : ((srt ns).map V.int).length ≤ sizeLine := by rw [List.length_map, sizeLine_eq]; omega
  have hn : H1 pp = none := I2.hok.fresh hp
  have J : Inv X pins σ (upd H1 pp (.lst ((srt ns).map V.int))) { ({ s1 with heap := h', toks := tk } : Shared) with heap := s'.heap, gens := s'.gens, drawn := s'.drawn, toks := s'.toks } :=
    I2.call (ch := []) (Un.laid k hp hn) (I2.hok.laid k hp ⟨hlen, out.toList, cc, vals_of_ints hi, hgg⟩) (by rw [g]; exact I2.bare) (fun _ z => nomatch z)
  have e : s' = { ({ s1 with heap := h', toks := tk } : Shared) with heap := s'.heap, gens := s'.gens, drawn := s'.drawn, toks := s'.toks } := by
    cases s'
    cases s1
    cases o
    rfl
  rw [e]
  exact ⟨.ref pp, _, J, rfl, q pp hn⟩
def oSrt (fa : Ev Opd) : Ev Ow := fun S st => (fa S st).bind fun a S st => match vw S a with
  | some x => match asL x with
    | some ds => match intsD ds with
      | some ns => if ns.length < 1000 ∧ (srt ns).length < 64 then .ok (.l ((srt ns).map .int)) S st else .stuck
      | none => .stuck
    | none => .stuck
  | _ => .stuck
theorem df_srtSet {e : Expr} {fa : Ev Opd} {p p2 pos pos2 : Pos} (hm : X.mg "sorted" = none) (hm2 : X.mg "set" = none) (he : DO X B W e fa) (hc : X.calm = true := by rfl) (hg : Gl X "sorted" := by rfl) (hg2 : Gl X "set" := by rfl)
    (hs : starEach [e] X.env = (false, eval e X.env) :: starEach [] X.env := by rfl)
    (hs2 : starEach [.Call (.Name "set" p2) [e] [] pos2] X.env = (false, eval (.Call (.Name "set" p2) [e] [] pos2) X.env) :: starEach [] X.env := by rfl) :
    DF X B W (.Call (.Name "sorted" p) [.Call (.Name "set" p2) [e] [] pos2] [] pos) (oSrt fa) :=
  pe_imp (pe_srtSet hc hg hm hg2 hm2 he hs hs2) fun σ H Q ⟨F, S, st, o, q⟩ => ⟨F, S, st, o, (PostF.bind (R := RO (Cx.g X) σ) q).mono fun v H1 ⟨F1, d, S1, st1, g1, o1, r1, p1⟩ => by
    split at p1
    · rename_i x hx
      split at p1
      · rename_i ds hds
        split at p1
        · rename_i ns hns
          split at p1
          · rename_i hl
            obtain ⟨a, xs, rfl, h1, h2⟩ := (o1.vw r1 hx).seqL o1.fH hds
            cases ints_eq hns
            cases rp_ints_inv h2
            exact ⟨a, ns, rfl, h1, hl.1, hl.2, fun q hq => p1.new o1 hq (.l (rp_ints (Cx.g X) F1 _))⟩
          · exact p1.elim
        · exact p1.elim
      · exact p1.elim
    · exact p1.elim⟩
@[simp] theorem oSrt_a (fa : Ev Opd) (S : Sls) (st : Store) : oSrt fa S st = (fa S st).bind fun a S st => match vw S a with
  | some x => match asL x with
    | some ds => match intsD ds with
      | some ns => if ns.length < 1000 ∧ (srt ns).length < 64 then .ok (.l ((srt ns).map .int)) S st else .stuck
      | none => .stuck
    | none => .stuck
  | _ => .stuck := rfl
end
/-! ### divmod, bit_length -/
def dDm : List D → Option D
  | [.int i, .int j] => if 0 < j ∧ j.natAbs.log2 < 9000 then some (.tup [.int (i / j), .int (i % j)]) else none
  | _ => none
theorem op_dDm {G : Gx} : OpA G (fun xs H Q => ∃ i j, xs = [.int i, .int j] ∧ CDivP i j ∧ ∀ p, H p = none → Q (.ref p) (upd H p (.tup [.int (i / j), .int (i % j)]))) dDm := fun F H vs xs d f hv e => by
  unfold dDm at e
  split at e
  · rename_i i j
    split at e
    · rename_i h
      cases e
      have hc : CDivP i j := by
        refine ⟨h.1, ?_⟩
        have h0 : (j == 0) = false := beq_false_of_ne (by omega)
        show (decide ((if (j == 0) = true then 0 else j.natAbs.log2 / 30 + 1) > 300) && _) = false
        rw [h0]
        have : ¬ (j.natAbs.log2 / 30 + 1 > 300) := by omega
        simp [this]
      cases hv with | cons h1 t => cases t with | cons h2 t => cases t; cases h1.int_eq; cases h2.int_eq; exact gives_tup (.cons (.int _) (.one (.int _))) f fun Q q => ⟨_, _, rfl, hc, q⟩
    · cases e
  · cases e
@[simp] theorem dDm_a (i j : Int) (h0 : 0 < j) (h1 : j ≤ 10 ^ 200) : dDm [.int i, .int j] = some (.tup [.int (i / j), .int (i % j)]) := by
  have h2 : j.natAbs.log2 < 9000 := by
    have h3 : j.natAbs < 2 ^ 9000 := Nat.lt_of_le_of_lt (show j.natAbs ≤ 10 ^ 200 by omega) (by decide +kernel)
    exact (Nat.log2_lt (by omega)).mpr h3
  simp [dDm, h0, h2]
def dBits : D → Option D
  | .int i => some (.int (Builtin.Int.intBits i : Nat))
  | _ => none
section
variable {X : Cx} {B : Hp} {W : WX} {o : Expr} {pos apos : Pos}
theorem de_bits {fo : Ev Opd} (ho : DO X B W o fo) (hbase : attributeBase o "bit_length" X.env (eval o X.env) = eval o X.env := by rfl) (hline : (apos.endLine == pos.line) = true := by rfl) : DE X B W (.Call (.Attribute o "bit_length" apos) [] [] pos) (o1E dBits fo) :=
  pe_imp (pe_bits ho hbase hline) fun σ H Q ⟨F, S, st, o, q⟩ => ⟨F, S, st, o, (Post.bind (R := RO (Cx.g X) σ) q).mono fun v H1 ⟨F1, d, S1, st1, g1, o1, r1, p1⟩ => by
    split at p1
    · rename_i x hx
      obtain ⟨z, hz, p2⟩ := got_ok p1
      unfold dBits at hz
      split at hz
      · cases hz
        have := (o1.vw r1 hx).int_eq
        subst this
        exact ⟨_, rfl, p2 _ H1 F1 .refl o1 (.int _)⟩
      · cases hz
    · exact p1.elim⟩
end
/-! ### x += e of ints -/
def dAddI := dI0 fun i j => i + j
@[simp] theorem dAddI_a (i j : Int) : dAddI (.int i) (.int j) = some (.int (i + j)) := rfl
theorem op_dAddI {G : Gx} : Op2 G (ipI fun i j => i + j) dAddI := op2_I0
theorem op_dSubI {G : Gx} : Op2 G (ipI fun i j => i - j) dSub := op2_I0
end DL

namespace DL
open PySem PySem.Spec PyProof.Rows L2
/-- what a law's call is to come to -/
def LawOk (c : CallT) : Prop := ∀ ns : List Int, ns.length ≤ 63 → (∀ z ∈ ns, z.natAbs.log2 < 1048576) → ∃ st, c [.scr ns] [] = .ok (.bl true) [] st
def spLaw (K : PySem.W.Frag) : Sp := fun vs H Q _ => ∃ (a : Addr) (ns : List Int), vs = [.ref a] ∧ SqL K H a (ns.map V.int) ∧ ns.length ≤ 63 ∧ (∀ z ∈ ns, Builtin.Int.intBits z ≤ 1048576) ∧ ∀ H', Q (.bl true) H'
theorem law_imp {P : Program} {w : World} {K : PySem.W.Frag} {mg : Str → Option Value} {base : Heap} {CX : CXT} {k : Nat} {f : Addr} {fd : FuncData} {ps : List Str} {c : CallT} (h : LawOk c) (F : FnOk P w K mg base CX k f fd ps (spOf ⟨K, mg⟩ 1 c)) :
    FnOk P w K mg base CX k f fd ps (spLaw K) := F.imp fun vs H Q E ⟨a, ns, e, hS, hl, hb, q⟩ => by
  subst e
  obtain ⟨st, e⟩ := h ns hl fun z hz => by
    have := hb z hz
    by_cases h0 : z = 0
    · subst h0; decide
    · unfold Builtin.Int.intBits at this
      simp [h0] at this
      omega
  refine ⟨rfl, H, [.scr ns], [], Same.refl H, .one (.scr hS), ?_⟩
  rw [e]
  intro v H' F' _ _ _ r
  cases r
  exact q H'
end DL

namespace DL
open PySem PySem.Spec PyProof.Rows L2
/-! ### how a body computes: one row a form -/
/-- range(a, n) -/
def rgG (a n : Int) : Ev (List D) := fun S st => if (-1000000 ≤ a ∧ a ≤ 1000000) ∧ -1000000 ≤ n ∧ n ≤ 1000000 then .ok (rng (n - a).toNat a) S st else .stuck
@[simp] theorem rgG_ok (a n : Int) (S : Sls) (st : Store) (h0 : -1000000 ≤ a) (h1 : a ≤ 1000000) (h2 : -1000000 ≤ n) (h3 : n ≤ 1000000) : rgG a n S st = .ok (rng (n - a).toNat a) S st := if_pos ⟨⟨h0, h1⟩, h2, h3⟩
section
variable {S : Sls} {st : Store}
@[simp] theorem kE_a (d : D) : kE d S st = .ok d S st := rfl
@[simp] theorem vE_a (i : Nat) : vE i S st = match S[i]? with | some (.d d) => .ok d S st | _ => .stuck := rfl
@[simp] theorem zE_a (i : Nat) : zE i S st = match S[i]? with | some (.d d) => .ok d S st | some (.own w) => .ok w.d (S.set i (.d w.d)) st | _ => .stuck := rfl
@[simp] theorem oV_a (f : Ev D) : oV f S st = (f S st).bind fun d S st => .ok (.v d) S st := rfl
@[simp] theorem oS_a (i : Nat) : oS i S st = match S[i]? with | some .no => .stuck | none => .stuck | _ => .ok (.s i) S st := rfl
@[simp] theorem aN_a : aN S st = .ok [] S st := rfl
@[simp] theorem aC_a (f : Ev Opd) (g : Ev (List Opd)) : aC f g S st = (f S st).bind fun a S st => (g S st).bind fun r S st => .ok (a :: r) S st := rfl
@[simp] theorem vw_v (d : D) : vw S (.v d) = some d := rfl
@[simp] theorem vd_v (d : D) : vd S (.v d) = some d := rfl
@[simp] theorem vw_s (i : Nat) : vw S (.s i) = match S[i]? with | some (.d d) => some d | some (.own w) => some w.d | _ => none := rfl
@[simp] theorem vd_s (i : Nat) : vd S (.s i) = match S[i]? with | some (.d d) => some d | _ => none := rfl
@[simp] theorem vws_n : vws S [] = some [] := rfl
@[simp] theorem vws_c (o : Opd) (r : List Opd) : vws S (o :: r) = match vw S o, vws S r with | some d, some ds => some (d :: ds) | _, _ => none := rfl
@[simp] theorem vds_n : vds S [] = some [] := rfl
@[simp] theorem vds_c (o : Opd) (r : List Opd) : vds S (o :: r) = match vd S o, vds S r with | some d, some ds => some (d :: ds) | _, _ => none := rfl
@[simp] theorem Ow_l (ds : List D) : (Ow.l ds).d = .lst ds := rfl
@[simp] theorem Ow_k (ds : List (D × D)) : (Ow.k ds).d = .dic ds := rfl
@[simp] theorem o2E_a (op : D → D → Option D) (fa fb : Ev Opd) : o2E op fa fb S st = (fa S st).bind fun a S st => (fb S st).bind fun b S st => match vw S a, vw S b with | some x, some y => got (op x y) S st | _, _ => .stuck := rfl
@[simp] theorem o1E_a (op : D → Option D) (fa : Ev Opd) : o1E op fa S st = (fa S st).bind fun a S st => match vw S a with | some x => got (op x) S st | _ => .stuck := rfl
@[simp] theorem oAE_a (op : List D → Option D) (fa : Ev (List Opd)) : oAE op fa S st = (fa S st).bind fun a S st => match vws S a with | some x => got (op x) S st | _ => .stuck := rfl
@[simp] theorem oAF_a (op : List D → Option Ow) (fa : Ev (List Opd)) : oAF op fa S st = (fa S st).bind fun a S st => match vws S a with | some x => got (op x) S st | _ => .stuck := rfl
@[simp] theorem o2F_a (op : D → D → Option Ow) (fa fb : Ev Opd) : o2F op fa fb S st = (fa S st).bind fun a S st => (fb S st).bind fun b S st => match vw S a, vw S b with | some x, some y => got (op x y) S st | _, _ => .stuck := rfl
@[simp] theorem mE_a (T : String) (op : D → List D → Option D) (fo : Ev Opd) (fa : Ev (List Opd)) : mE T op fo fa S st = (fo S st).bind fun o S st => match vw S o with
  | some y => if tyD T y = true then (fa S st).bind fun a S st => match vw S o, vws S a with | some y, some x => got (op y x) S st | _, _ => .stuck else .stuck
  | _ => .stuck := rfl
@[simp] theorem m0E_a (T : String) (op : D → Option D) (fo : Ev Opd) : m0E T op fo S st = (fo S st).bind fun o S st => match vw S o with | some y => if tyD T y = true then got (op y) S st else .stuck | _ => .stuck := rfl
@[simp] theorem fE_a (f : Ev Ow) : fE f S st = (f S st).bind fun w S st => .ok w.d S st := rfl
@[simp] theorem lF_a (fa : Ev (List Opd)) : lF fa S st = (fa S st).bind fun a S st => match vds S a with | some ds => if ds.length ≤ 16777216 then .ok (.l ds) S st else .stuck | none => .stuck := rfl
@[simp] theorem pE_a (fa : Ev (List Opd)) : pE fa S st = (fa S st).bind fun a S st => match vds S a with | some ds => if ds.length ≤ 16777216 then .ok (.tup ds) S st else .stuck | none => .stuck := rfl
@[simp] theorem sN_a : sN S st = .ok none S st := rfl
@[simp] theorem sS_a (f : Ev D) : sS f S st = (f S st).bind fun d S st => match d with | .int i => .ok (some i) S st | _ => .stuck := rfl
@[simp] theorem slE_a (op : D → Option Int → Option Int → Option D) (fa : Ev Opd) (fl fu : Ev (Option Int)) : slE op fa fl fu S st = (fa S st).bind fun a S st => (fl S st).bind fun l S st => (fu S st).bind fun u S st => match vw S a with | some x => got (op x l u) S st | _ => .stuck := rfl
@[simp] theorem cE_a (c : CallT) (fa : Ev (List Opd)) : cE c fa S st = (fa S st).bind fun a S st => match vds S a with
  | some ds => match c ds st with | .ok d _ st => .ok d S st | .exc x _ st => .exc x S st | .stuck => .stuck
  | none => .stuck := rfl
@[simp] theorem tT_a (f : Ev Opd) : tT f S st = (f S st).bind fun o S st => match vw S o with | some d => got (tru d) S st | none => .stuck := rfl
@[simp] theorem tN_a (f : Ev Bool) : tN f S st = (f S st).bind fun b S st => .ok (!b) S st := rfl
@[simp] theorem tA_a (f g : Ev Bool) : tA f g S st = (f S st).bind fun b S st => if b = true then g S st else .ok false S st := rfl
@[simp] theorem tO_a (f g : Ev Bool) : tO f g S st = (f S st).bind fun b S st => if b = true then .ok true S st else g S st := rfl
@[simp] theorem tV_a (f : Ev D) : tV f S st = (f S st).bind fun d S st => match d with | .bl k => .ok k S st | _ => .stuck := rfl
@[simp] theorem tY_a : tY S st = .ok true S st := rfl
@[simp] theorem eA_a (f g : Ev D) : eA f g S st = (f S st).bind fun d S st => match d with | .bl b => if b = true then g S st else .ok (.bl false) S st | _ => .stuck := rfl
@[simp] theorem eO_a (f g : Ev D) : eO f g S st = (f S st).bind fun d S st => match d with | .bl b => if b = true then .ok (.bl true) S st else g S st | _ => .stuck := rfl
@[simp] theorem eN_a (f : Ev D) : eN f S st = (f S st).bind fun d S st => match d with | .bl b => .ok (.bl (!b)) S st | _ => .stuck := rfl
@[simp] theorem eI_a (t : Ev Bool) (f g : Ev D) : eI t f g S st = (t S st).bind fun b S st => if b = true then f S st else g S st := rfl
@[simp] theorem sNil_a : sNil S st = .nx S st := rfl
@[simp] theorem sSeq_a (f g : EvS) : sSeq f g S st = (f S st).then g := rfl
@[simp] theorem sBk_a : sBk S st = .bk S st := rfl
@[simp] theorem sCt_a : sCt S st = .ct S st := rfl
@[simp] theorem sE_a (f : Ev D) : sE f S st = (f S st).out fun _ S st => .nx S st := rfl
@[simp] theorem sR_a (f : Ev D) : sR f S st = (f S st).out fun d S st => .ret d S st := rfl
@[simp] theorem sRN_a : sRN S st = .ret .non S st := rfl
@[simp] theorem sI_a (t : Ev Bool) (f g : EvS) : sI t f g S st = (t S st).out fun b S st => if b = true then f S st else g S st := rfl
@[simp] theorem sV_a (i : Nat) (f : Ev D) : sV i f S st = (f S st).out fun d S st => .nx (S.set i (.d d)) st := rfl
@[simp] theorem sO_a (i : Nat) (f : Ev Ow) : sO i f S st = (f S st).out fun w S st => .nx (S.set i (.own w)) st := rfl
@[simp] theorem gV_a (i : Nat) (d : D) : gV i d S = some (S.set i (.d d)) := rfl
@[simp] theorem gN_a : gN [] S = some S := rfl
@[simp] theorem gC_a (g : Tg) (gs : List D → Sls → Option Sls) (d : D) (r : List D) : gC g gs (d :: r) S = match g d S with | some S' => gs r S' | none => none := rfl
@[simp] theorem gT_a (n : Nat) (gs : List D → Sls → Option Sls) (ds : List D) : gT n gs (.tup ds) S = if ds.length = n then gs ds S else none := rfl
@[simp] theorem sG_a (g : Tg) (f : Ev D) : sG g f S st = (f S st).out fun d S st => match g d S with | some S' => .nx S' st | none => .stuck := rfl
@[simp] theorem sAug_a (i : Nat) (op : D → D → Option D) (f : Ev Opd) : sAug i op f S st = match S[i]? with
  | some (.d x) => (f S st).out fun y S st => match vw S y with
    | some y => match op x y with
      | some z => .nx (S.set i (.d z)) st
      | none => .stuck
    | none => .stuck
  | _ => .stuck := rfl
@[simp] theorem sF_a (f : Ev (List D)) (g : Tg) (b : EvS) : sF f g b S st = (f S st).out fun ds S st => forL g b ds S st := rfl
@[simp] theorem iE_a (f : Ev D) : iE f S st = (f S st).bind fun d S st => got (itD d) S st := rfl
@[simp] theorem iR1_a (f : Ev (List Opd)) : iR1 f S st = (f S st).bind fun a S st => match vws S a with
  | some [.int n] => rgG 0 n S st
  | _ => .stuck := by
  unfold iR1 rgG
  congr 1; funext a S st
  rcases vws S a with _ | l
  · rfl
  · rcases l with _ | ⟨x, r⟩
    · rfl
    · cases x <;> cases r <;> simp
@[simp] theorem iR2_a (f : Ev (List Opd)) : iR2 f S st = (f S st).bind fun a S st => match vws S a with
  | some [.int a, .int n] => rgG a n S st
  | _ => .stuck := rfl
@[simp] theorem iEn_a (f : Ev (List Opd)) : iEn f S st = (f S st).bind fun a S st => match vds S a with
  | some [d] => match asL d with | some ds => .ok (enumD ds) S st | none => .stuck
  | _ => .stuck := rfl
@[simp] theorem iZ_a (f : Ev (List Opd)) : iZ f S st = (f S st).bind fun a S st => match vds S a with
  | some [d, e] => match asL d, asL e with | some ds, some es => .ok (zipD ds es) S st | _, _ => .stuck
  | _ => .stuck := rfl
@[simp] theorem iV_a (f : Ev (List Opd)) : iV f S st = (f S st).bind fun a S st => match vds S a with
  | some [d] => match asL d with | some ds => .ok ds.reverse S st | none => .stuck
  | _ => .stuck := rfl
@[simp] theorem lcF_a (fi : Ev (List D)) (g : Tg) (own : List Nat) (t : Ev Bool) (f : Ev D) : lcF fi g own t f S st = (fi S st).bind fun ds S st =>
  (lcL g own t f ds (wipeS S own) st).bind fun ys S' st => if ys.length ≤ 16777216 then .ok (.l ys) (restS S own S') st else .stuck := rfl
@[simp] theorem restS_n (S0 : Sls) : restS S0 [] S = S := rfl
@[simp] theorem restS_c (S0 : Sls) (i : Nat) (r : List Nat) : restS S0 (i :: r) S = match S0[i]? with | some (.d x) => restS S0 r (S.set i (.d x)) | _ => restS S0 r S := rfl
@[simp] theorem wipeS_n : wipeS S [] = S := rfl
@[simp] theorem wipeS_c (v : Nat) (vs : List Nat) : wipeS S (v :: vs) = (wipeS S vs).set v .no := rfl
@[simp] theorem sAp_a (i : Nat) (f : Ev Opd) : sAp i f S st = match S[i]? with
  | some (.own (.l _)) => (f S st).out fun o S st => match vd S o, S[i]? with
    | some d, some (.own (.l ds)) => if ds.length < 16777216 then .nx (S.set i (.own (.l (ds ++ [d])))) st else .stuck
    | _, _ => .stuck
  | _ => .stuck := rfl
@[simp] theorem sEx_a (i : Nat) (f : Ev D) : sEx i f S st = match S[i]? with
  | some (.own (.l _)) => (f S st).out fun d S st => match d, S[i]? with
    | .lst es, some (.own (.l ds)) => if ds.length + es.length ≤ 16777216 then .nx (S.set i (.own (.l (ds ++ es)))) st else .stuck
    | _, _ => .stuck
  | _ => .stuck := rfl
@[simp] theorem sP_a (i j : Nat) (fa : Ev (List Opd)) : sP i j fa S st = (fa S st).out fun a S st => match vds S a with
  | some [x, y] => .nx ((S.set i (.d x)).set j (.d y)) st
  | _ => .stuck := rfl
theorem runB_a (N : Nat) (b : EvS) (ds : List D) : runB N b ds st = match b (ds.map Sl.d ++ List.replicate (N - ds.length) .no) st with
  | .nx _ st => .ok .non [] st
  | .ret d _ st => .ok d [] st
  | .exc x _ st => .exc x [] st
  | _ => .stuck := rfl
end
@[simp] theorem dI2_a (c : Int → Int → Bool) (g : Int → Int → Int) (i j : Int) : dI2 c g (.int i) (.int j) = if c i j = true then some (.int (g i j)) else none := rfl
@[simp] theorem dI0_a (g : Int → Int → Int) (i j : Int) : dI0 g (.int i) (.int j) = some (.int (g i j)) := rfl
@[simp] theorem dSub_a (i j : Int) : dSub (.int i) (.int j) = some (.int (i - j)) := rfl
theorem log2_lit {j : Int} (h0 : 0 < j) (h1 : j ≤ 10 ^ 200) : j.natAbs.log2 < 9000 := by
  have h2 : j.natAbs < 2 ^ 9000 := by
    have : j.natAbs ≤ 10 ^ 200 := by omega
    exact Nat.lt_of_le_of_lt this (by decide +kernel)
  exact (Nat.log2_lt (by omega)).mpr h2
@[simp] theorem dFdiv_a (i j : Int) (h0 : 0 < j) (h1 : j ≤ 10 ^ 200) : dFdiv (.int i) (.int j) = some (.int (i / j)) := by
  show dI2 _ _ _ _ = _
  simp [dI2, h0, log2_lit h0 h1]
@[simp] theorem dMod_a (i j : Int) (h0 : 0 < j) : dMod (.int i) (.int j) = some (.int (i % j)) := by
  show dI2 _ _ _ _ = _
  simp [dI2, h0]
@[simp] theorem dAdd_i (i j : Int) : dAdd (.int i) (.int j) = some (.int (i + j)) := rfl
@[simp] theorem dAdd_s (s t : List Nat) (h : s.length + t.length ≤ 16777216) : dAdd (.str s) (.str t) = some (.str (s ++ t)) := if_pos h
@[simp] theorem dAdd_l (s t : List D) (h : s.length + t.length ≤ 16777216) : dAdd (.lst s) (.lst t) = some (.lst (s ++ t)) := if_pos h
@[simp] theorem dAdd_t (s t : List D) (h : s.length + t.length ≤ 16777216) : dAdd (.tup s) (.tup t) = some (.tup (s ++ t)) := if_pos h
@[simp] theorem dMul_i (i j : Int) (h : mulC i j = true) : dMul (.int i) (.int j) = some (.int (i * j)) := if_pos h
/-- below a million digits, say -/
def Sm (i : Int) : Prop := i.natAbs.log2 < 40000000
theorem mulC_of {i j : Int} (h : Sm i) (h' : Sm j) : mulC i j = true := decide_eq_true (by unfold Sm at h h'; omega)
theorem log2_lt {n k : Nat} (h : n < 2 ^ k) (hk : 0 < k) : n.log2 < k := by
  by_cases h0 : n = 0
  · subst h0; simpa using hk
  · exact (Nat.log2_lt h0).mpr h
theorem Sm.of {i : Int} (h : i.natAbs < 2 ^ 2000) : Sm i := by
  have := log2_lt h (by decide)
  unfold Sm; omega
theorem Sm.lit {i : Int} (h0 : -(10 ^ 200) ≤ i) (h1 : i ≤ 10 ^ 200) : Sm i := Sm.of (by
  have : i.natAbs ≤ 10 ^ 200 := by omega
  exact Nat.lt_of_le_of_lt this (by decide +kernel))
theorem Sm.small {i : Int} (h0 : -1000000000000 ≤ i) (h1 : i ≤ 1000000000000) : Sm i := .lit (by omega) (by omega)
@[simp] theorem dMul_s (s : List Nat) (k : Int) (h0 : 0 ≤ k) (h1 : k ≤ 1000000) (h2 : s.length * k.toNat ≤ 1000000) : dMul (.str s) (.int k) = some (.str (reps s k.toNat)) := by
  simp [dMul, h0, h1, h2]
@[simp] theorem dPow_a (i j : Int) (h : (decide (0 ≤ j) && decide (j ≤ 1000000) && decide (i.natAbs < 18446744073709551616)) = true) : dPow (.int i) (.int j) = some (.int (i ^ j.toNat)) := by
  rw [Bool.and_eq_true, Bool.and_eq_true] at h
  show dI2 _ _ _ _ = _
  simp only [dI2, h.1.1, h.1.2, h.2, Bool.and_self, Bool.true_or, if_true]
theorem dPow_w (i j : Int) (h0 : 0 ≤ j) (h1 : j ≤ 1000) (h : i.natAbs < 2 ^ 1000) : dPow (.int i) (.int j) = some (.int (i ^ j.toNat)) := by
  have h2 : i.natAbs.log2 < 1000 := by
    by_cases hz : i.natAbs = 0
    · rw [hz]; decide
    · exact (Nat.log2_lt hz).mpr h
  have h3 : ((i.natAbs.log2 + 1 : Nat) : Int) * j ≤ 134217728 := Int.le_trans (Int.mul_le_mul (by omega : ((i.natAbs.log2 + 1 : Nat) : Int) ≤ 1000) h1 h0 (by decide)) (by decide)
  show dI2 _ _ _ _ = _
  simp only [dI2, h0, h3, decide_true, Bool.or_true, Bool.and_self, if_true]
@[simp] theorem dLt_i (i j : Int) : dLt (.int i) (.int j) = some (.bl (decide (i < j))) := rfl
@[simp] theorem dLe_i (i j : Int) : dLe (.int i) (.int j) = some (.bl (decide (i ≤ j))) := rfl
@[simp] theorem dGt_i (i j : Int) : dGt (.int i) (.int j) = some (.bl (decide (j < i))) := rfl
@[simp] theorem dGe_i (i j : Int) : dGe (.int i) (.int j) = some (.bl (decide (j ≤ i))) := rfl
@[simp] theorem dLt_s (i j : List Nat) : dLt (.str i) (.str j) = some (.bl (decide (i < j))) := rfl
@[simp] theorem dLe_s (i j : List Nat) : dLe (.str i) (.str j) = some (.bl (!decide (j < i))) := rfl
@[simp] theorem dEq_a (a b : D) : dEq a b = if eqOk a = true ∧ eqOk b = true then some (.bl (deq a b)) else none := rfl
@[simp] theorem dNe_a (a b : D) : dNe a b = if eqOk a = true ∧ eqOk b = true then some (.bl (!deq a b)) else none := rfl
@[simp] theorem eqOk_non : eqOk .non = true := rfl
@[simp] theorem eqOk_bl (b : Bool) : eqOk (.bl b) = true := rfl
@[simp] theorem eqOk_int (b : Int) : eqOk (.int b) = true := rfl
@[simp] theorem eqOk_str (b : List Nat) : eqOk (.str b) = true := rfl
@[simp] theorem eqOk_nil : eqOk (.lst []) = true := rfl
@[simp] theorem deq_int (a b : Int) : deq (.int a) (.int b) = decide (a = b) := by simp [deq, toPy, PyData.eqv, Bool.beq_eq_decide_eq]
@[simp] theorem deq_bl (a b : Bool) : deq (.bl a) (.bl b) = decide (a = b) := by simp [deq, toPy, PyData.eqv, Bool.beq_eq_decide_eq]
@[simp] theorem deq_str (a b : List Nat) : deq (.str a) (.str b) = decide (a = b) := by
  have : (tx a == tx b) = decide (a = b) := by
    by_cases h : a = b
    · subst h; simp
    · simp [h]; exact fun z => h (tx_inj z)
  simp [deq, toPy, PyData.eqv, this]
@[simp] theorem deq_int_str (a : Int) (b : List Nat) : deq (.int a) (.str b) = false := by simp [deq, toPy, PyData.eqv]
@[simp] theorem deq_bl_str (a : Bool) (b : List Nat) : deq (.bl a) (.str b) = false := by simp [deq, toPy, PyData.eqv]
@[simp] theorem deq_non_str (b : List Nat) : deq .non (.str b) = false := by simp [deq, toPy, PyData.eqv]
@[simp] theorem deq_lst_str (a : List D) (b : List Nat) : deq (.lst a) (.str b) = false := by simp [deq, toPy, PyData.eqv]
@[simp] theorem deq_tup_str (a : List D) (b : List Nat) : deq (.tup a) (.str b) = false := by simp [deq, toPy, PyData.eqv]
@[simp] theorem deq_str_non (a : List Nat) : deq (.str a) .non = false := by simp [deq, toPy, PyData.eqv]
@[simp] theorem deq_non : deq .non .non = true := by simp [deq, toPy, PyData.eqv]
theorem deq_lst (a b : List D) : deq (.lst a) (.lst b) = deqs a b := by simp [deq, deqs, toPy, PyData.eqv]
theorem deq_tup (a b : List D) : deq (.tup a) (.tup b) = deqs a b := by simp [deq, deqs, toPy, PyData.eqv]
@[simp] theorem deqs_n : deqs [] [] = true := by simp [deqs, toPys, PyData.eqvAll]
@[simp] theorem deqs_c (a b : D) (r s : List D) : deqs (a :: r) (b :: s) = (deq a b && deqs r s) := by simp [deqs, deq, toPys, PyData.eqvAll]
@[simp] theorem deqs_nc (b : D) (s : List D) : deqs [] (b :: s) = false := by simp [deqs, toPys, PyData.eqvAll]
@[simp] theorem deqs_cn (b : D) (s : List D) : deqs (b :: s) [] = false := by simp [deqs, toPys, PyData.eqvAll]
@[simp] theorem dIs_n (x : D) : dIs x .non = some (.bl (isN x)) := by cases x <;> rfl
@[simp] theorem dIsNot_n (x : D) : dIsNot x .non = some (.bl (!isN x)) := by cases x <;> rfl
@[simp] theorem dIs_b (a b : Bool) : dIs (.bl a) (.bl b) = some (.bl (decide (a = b))) := rfl
@[simp] theorem dIsNot_b (a b : Bool) : dIsNot (.bl a) (.bl b) = some (.bl (!decide (a = b))) := rfl
@[simp] theorem isN_non : isN .non = true := rfl
@[simp] theorem isN_int (i : Int) : isN (.int i) = false := rfl
@[simp] theorem isN_str (i : List Nat) : isN (.str i) = false := rfl
@[simp] theorem isN_lst (i : List D) : isN (.lst i) = false := rfl
@[simp] theorem isN_tup (i : List D) : isN (.tup i) = false := rfl
@[simp] theorem isN_bl (i : Bool) : isN (.bl i) = false := rfl
@[simp] theorem dIn_a (x y : D) : dIn x y = (inD x y).map .bl := rfl
@[simp] theorem dNotIn_a (x y : D) : dNotIn x y = (inD x y).map fun b => .bl (!b) := rfl
@[simp] theorem inD_sg (c : Nat) (t : List Nat) : inD (.str [c]) (.str t) = some (decide (c ∈ t)) := rfl
@[simp] theorem inD_l (x : D) (ds : List D) : inD x (.lst ds) = if eqOk x = true ∧ eqOk (.lst ds) = true then some (ds.any fun z => deq z x) else none := rfl
@[simp] theorem inD_t (x : D) (ds : List D) : inD x (.tup ds) = if flatD x = true ∧ ds.all flatD = true then some (ds.any fun z => deq z x) else none := rfl
@[simp] theorem dIx_s (s : List Nat) (i : Int) (h : s.length ≤ 16777216) : dIx (.str s) (.int i) = (atI s i).map fun c => .str [c] := if_pos h
@[simp] theorem dIx_l (s : List D) (i : Int) : dIx (.lst s) (.int i) = atI s i := rfl
@[simp] theorem dIx_t (s : List D) (i : Int) : dIx (.tup s) (.int i) = atI s i := rfl
@[simp] theorem dIx_scr (s : List Int) (i : Int) : dIx (.scr s) (.int i) = (atI s i).map .int := rfl
@[simp] theorem dSl_s (s : List Nat) (l u : Option Int) (h : s.length ≤ 16777216) : dSl (.str s) l u = some (.str (cut s l u)) := if_pos h
@[simp] theorem dSl_l (s : List D) (l u : Option Int) : dSl (.lst s) l u = some (.lst (cut s l u)) := rfl
@[simp] theorem dSl_t (s : List D) (l u : Option Int) : dSl (.tup s) l u = some (.tup (cut s l u)) := rfl
@[simp] theorem dSl_scr (s : List Int) (l u : Option Int) : dSl (.scr s) l u = some (.lst (cut (s.map .int) l u)) := rfl
@[simp] theorem dLen_s (s : List Nat) (h : s.length ≤ 16777216) : dLen [.str s] = some (.int s.length) := if_pos h
@[simp] theorem dLen_l (s : List D) : dLen [.lst s] = some (.int s.length) := rfl
@[simp] theorem dLen_t (s : List D) : dLen [.tup s] = some (.int s.length) := rfl
@[simp] theorem dLen_scr (s : List Int) : dLen [.scr s] = some (.int s.length) := rfl
@[simp] theorem dAll_a (ds : List D) : dAll [.lst ds] = (boolsD ds).map fun bs => .bl (bs.all id) := rfl
@[simp] theorem dAny_a (ds : List D) : dAny [.lst ds] = (boolsD ds).map fun bs => .bl (bs.any id) := rfl
@[simp] theorem dSum_a (ds : List D) : dSum [.lst ds] = (intsD ds).map fun bs => .int bs.sum := rfl
@[simp] theorem itD_l (ds : List D) : itD (.lst ds) = some ds := rfl
@[simp] theorem itD_t (ds : List D) : itD (.tup ds) = some ds := rfl
@[simp] theorem itD_scr (ns : List Int) : itD (.scr ns) = some (ns.map .int) := rfl
@[simp] theorem itD_s (s : List Nat) : itD (.str s) = some (sgs s) := rfl
@[simp] theorem asL_l (ds : List D) : asL (.lst ds) = some ds := rfl
@[simp] theorem asL_scr (ns : List Int) : asL (.scr ns) = some (ns.map .int) := rfl
@[simp] theorem tru_bl (b : Bool) : tru (.bl b) = some b := rfl
@[simp] theorem tyD_s (s : List Nat) : tyD "str" (.str s) = true := rfl
@[simp] theorem tyD_l (s : List D) : tyD "list" (.lst s) = true := rfl
@[simp] theorem dIsI_str_s (s : List Nat) : dIsI [.str s, .ty "str"] = some (.bl true) := rfl
@[simp] theorem dIsI_str_i (i : Int) : dIsI [.int i, .ty "str"] = some (.bl false) := rfl
@[simp] theorem dIsI_str_b (i : Bool) : dIsI [.bl i, .ty "str"] = some (.bl false) := rfl
@[simp] theorem dIsI_str_n : dIsI [.non, .ty "str"] = some (.bl false) := rfl
@[simp] theorem dIsI_str_l (i : List D) : dIsI [.lst i, .ty "str"] = some (.bl false) := rfl
@[simp] theorem dIsI_str_t (i : List D) : dIsI [.tup i, .ty "str"] = some (.bl false) := rfl
@[simp] theorem dIsI_bool_b (i : Bool) : dIsI [.bl i, .ty "bool"] = some (.bl true) := rfl
@[simp] theorem dIsI_bool_i (i : Int) : dIsI [.int i, .ty "bool"] = some (.bl false) := rfl
@[simp] theorem dIsI_int_i (i : Int) : dIsI [.int i, .ty "int"] = some (.bl true) := rfl
theorem got_atI {xs : List D} {i : Int} {S : Sls} {st : Store} : got (atI xs i) S st = match atI xs i with | some d => .ok d S st | none => .stuck := by cases atI xs i <;> rfl
theorem atI_some {α : Type} {xs : List α} {i : Int} (h0 : 0 ≤ i) (h1 : i < xs.length) : ∃ x, atI xs i = some x ∧ x ∈ xs := by
  have hl : i.toNat < xs.length := by omega
  refine ⟨xs[i.toNat], ?_, List.getElem_mem hl⟩
  unfold atI ixN
  rw [if_pos h0, if_pos h1]
  simp [hl]
theorem atI_eq {α : Type} {xs : List α} {i : Int} (h0 : 0 ≤ i) (h1 : i < xs.length) : atI xs i = some (xs[i.toNat]'(by omega)) := by
  unfold atI ixN
  rw [if_pos h0, if_pos h1]
  simp
@[simp] theorem flatD_int (i : Int) : flatD (.int i) = true := rfl
@[simp] theorem flatD_str (i : List Nat) : flatD (.str i) = true := rfl
@[simp] theorem flatD_bl (i : Bool) : flatD (.bl i) = true := rfl
@[simp] theorem flatD_non : flatD .non = true := rfl
theorem flat_pure : ∀ {ds : List D}, ds.all flatD = true → pureDs ds = true ∧ depDs ds = 0
  | [], _ => by simp [pureDs, depDs]
  | d :: r, h => by
    rw [List.all_cons, Bool.and_eq_true] at h
    obtain ⟨a, b⟩ := flat_pure h.2
    have h1 := h.1
    cases d <;> simp [flatD] at h1 <;> simp [pureDs, pureD, depDs, depD, a, b]
@[simp] theorem eqOk_lst (ds : List D) (h : ds.all flatD = true) : eqOk (.lst ds) = true := by
  obtain ⟨a, b⟩ := flat_pure h
  simp [eqOk, pureD, depD, a, b]
@[simp] theorem eqOk_tup (ds : List D) (h : ds.all flatD = true) : eqOk (.tup ds) = true := by
  obtain ⟨a, b⟩ := flat_pure h
  simp [eqOk, pureD, depD, a, b]
@[simp] theorem flat_strs (ss : List (List Nat)) : (ss.map D.str).all flatD = true := by simp
@[simp] theorem flat_ints (ss : List Int) : (ss.map D.int).all flatD = true := by simp
/-! ### loops -/
theorem forL_ind {g : Tg} {body : EvS} (P : List D → Sls → Prop) (step : ∀ d r S st, P (d :: r) S → ∃ S1 S2, g d S = some S1 ∧ body S1 st = .nx S2 st ∧ P r S2) : ∀ (ds : List D) (S : Sls) (st : Store), P ds S → ∃ S', forL g body ds S st = .nx S' st ∧ P [] S'
  | [], S, st, h => ⟨S, rfl, h⟩
  | d :: r, S, st, h => by
    obtain ⟨S1, S2, e1, e2, h2⟩ := step d r S st h
    obtain ⟨S', e3, h3⟩ := forL_ind P step r S2 st h2
    exact ⟨S', by simp only [forL, e1, e2]; exact e3, h3⟩
@[simp] theorem forL_n (g : Tg) (body : EvS) (S : Sls) (st : Store) : forL g body [] S st = .nx S st := rfl
theorem forL_c (g : Tg) (body : EvS) (d : D) (r : List D) (S : Sls) (st : Store) : forL g body (d :: r) S st = match g d S with
    | some S1 => match body S1 st with
      | .nx S2 st2 => forL g body r S2 st2
      | .ct S2 st2 => forL g body r S2 st2
      | .rto w S2 st2 => .rto w S2 st2
      | .bk S2 st2 => .nx S2 st2
      | .ret v S2 st2 => .ret v S2 st2
      | .exc x S2 st2 => .exc x S2 st2
      | .stuck => .stuck
    | none => .stuck := rfl
/-- a loop that looks for one item and hands back v -/
theorem forL_find {g : Tg} {body : EvS} {st : Store} (p : D → Bool) (v : D) (I : Sls → Prop) : ∀ (ds : List D) (S : Sls), (∀ d ∈ ds, ∀ S, I S → ∃ S1, g d S = some S1 ∧ (p d = true → ∃ S2, body S1 st = .ret v S2 st) ∧ (p d = false → ∃ S2, body S1 st = .nx S2 st ∧ I S2)) → I S →
    (ds.any p = true → ∃ S', forL g body ds S st = .ret v S' st) ∧ (ds.any p = false → ∃ S', forL g body ds S st = .nx S' st ∧ I S')
  | [], S, _, hI => ⟨fun h => (by cases h), fun _ => ⟨S, rfl, hI⟩⟩
  | d :: r, S, h, hI => by
    obtain ⟨S1, e1, h1, h2⟩ := h d (List.mem_cons_self ..) S hI
    cases hp : p d with
    | true =>
      obtain ⟨S2, e2⟩ := h1 hp
      refine ⟨fun _ => ⟨S2, by rw [forL_c, e1]; simp only [e2]⟩, fun z => ?_⟩
      rw [List.any_cons, hp] at z; cases z
    | false =>
      obtain ⟨S2, e2, hI2⟩ := h2 hp
      have ih := forL_find p v I r S2 (fun d hd => h d (List.mem_cons_of_mem _ hd)) hI2
      rw [List.any_cons, hp, Bool.false_or]
      refine ⟨fun z => ?_, fun z => ?_⟩
      · obtain ⟨S', e3⟩ := ih.1 z
        exact ⟨S', by rw [forL_c, e1]; simp only [e2]; exact e3⟩
      · obtain ⟨S', e3, h3⟩ := ih.2 z
        exact ⟨S', by rw [forL_c, e1]; simp only [e2]; exact e3, h3⟩
theorem mem_sgs {s : List Nat} {d : D} (h : d ∈ sgs s) : ∃ c ∈ s, d = .str [c] := by
  unfold sgs at h
  obtain ⟨c, h1, h2⟩ := List.mem_map.mp h
  exact ⟨c, h1, h2.symm⟩
@[simp] theorem sgs_len (s : List Nat) : (sgs s).length = s.length := by simp [sgs]
theorem mem_enum {ds : List D} {d : D} (h : d ∈ enumD ds) : ∃ (k : Nat) (x : D), d = .tup [.int k, x] ∧ k < ds.length ∧ x ∈ ds := by
  unfold enumD at h
  obtain ⟨⟨x, k⟩, h1, h2⟩ := List.mem_map.mp h
  have h3 := List.mem_zipIdx' h1
  exact ⟨k, x, h2.symm, h3.1, by rw [h3.2]; exact List.getElem_mem _⟩
@[simp] theorem lcL_n (g : Tg) (own : List Nat) (t : Ev Bool) (f : Ev D) (S : Sls) (st : Store) : lcL g own t f [] S st = .ok [] S st := rfl
theorem lcL_c (g : Tg) (own : List Nat) (t : Ev Bool) (f : Ev D) (d : D) (r : List D) (S : Sls) (st : Store) : lcL g own t f (d :: r) S st = match g d S with
    | some S1 => (t S1 st).calm.bind fun b S2 st2 => if b = true then
        (f S2 st2).calm.bind fun y S3 st3 => (lcL g own t f r (wipeS S3 own) st3).bind fun ys S4 st4 => .ok (y :: ys) S4 st4
      else lcL g own t f r (wipeS S2 own) st2
    | none => .stuck := rfl
/-- a comprehension without tests that maps by m -/
theorem lcL_map {g : Tg} {own : List Nat} {f : Ev D} {S : Sls} {st : Store} (m : D → D) : ∀ (ds : List D), (∀ d ∈ ds, ∃ S1 S3, g d S = some S1 ∧ f S1 st = .ok (m d) S3 st ∧ wipeS S3 own = S) → lcL g own tY f ds S st = .ok (ds.map m) S st
  | [], _ => rfl
  | d :: r, h => by
    obtain ⟨S1, S3, e1, e2, e3⟩ := h d (List.mem_cons_self ..)
    have ih := lcL_map m r fun d hd => h d (List.mem_cons_of_mem _ hd)
    rw [lcL_c, e1]
    simp only [tY_a, Res.calm_ok, Res.bind_ok, if_true, e2, e3, ih, List.map_cons]
theorem lcL_filter {g : Tg} {own : List Nat} {t : Ev Bool} {f : Ev D} {S : Sls} {st : Store} (p : D → Bool) (m : D → D) : ∀ (ds : List D), (∀ d ∈ ds, ∃ S1 S2, g d S = some S1 ∧ t S1 st = .ok (p d) S2 st ∧ (p d = false → wipeS S2 own = S) ∧ (p d = true → ∃ S3, f S2 st = .ok (m d) S3 st ∧ wipeS S3 own = S)) → lcL g own t f ds S st = .ok ((ds.filter p).map m) S st
  | [], _ => rfl
  | d :: r, h => by
    obtain ⟨S1, S2, e1, e2, e3, e4⟩ := h d (List.mem_cons_self ..)
    have ih := lcL_filter p m r fun d hd => h d (List.mem_cons_of_mem _ hd)
    rw [lcL_c, e1]
    cases hp : p d with
    | false =>
      rw [hp] at e2
      simp only [e2, Res.calm_ok, Res.bind_ok, Bool.false_eq_true, if_false, e3 hp, ih, List.filter_cons, hp]
    | true =>
      obtain ⟨S3, e5, e6⟩ := e4 hp
      rw [hp] at e2
      simp only [e2, Res.calm_ok, Res.bind_ok, if_true, e5, e6, ih, List.filter_cons, hp, List.map_cons]
end DL

namespace DL
open PySem PySem.Spec PyProof.Rows L2
/-! ### slices, items -/
section
variable {α : Type}
theorem sIx_nn (n d : Nat) {v : Int} (h : 0 ≤ v) : HT.sIx n d (some v) = min v.toNat n := by
  show (if v < 0 then _ else _) = _
  rw [if_neg (by omega)]
theorem cut_none (xs : List α) : cut xs none none = xs := by
  unfold cut; simp [HT.sIx_none]
theorem cut_to (xs : List α) {k : Int} (h : 0 ≤ k) : cut xs none (some k) = xs.take k.toNat := by
  unfold cut
  rw [HT.sIx_none, sIx_nn _ _ h, List.drop_zero, Nat.sub_zero]
  by_cases hk : k.toNat ≤ xs.length
  · rw [Nat.min_eq_left hk]
  · rw [Nat.min_eq_right (by omega), List.take_length, List.take_of_length_le (by omega)]
theorem cut_from (xs : List α) {k : Int} (h : 0 ≤ k) : cut xs (some k) none = xs.drop k.toNat := by
  unfold cut
  rw [HT.sIx_none, sIx_nn _ _ h]
  by_cases hk : k.toNat ≤ xs.length
  · rw [Nat.min_eq_left hk]
    exact List.take_of_length_le (by rw [List.length_drop]; omega)
  · rw [Nat.min_eq_right (by omega), List.drop_length, List.drop_of_length_le (by omega), List.take_nil]
theorem cut_mid (xs : List α) {a b : Int} (h : 0 ≤ a) (h' : 0 ≤ b) : cut xs (some a) (some b) = (xs.take b.toNat).drop a.toNat := by
  unfold cut
  rw [sIx_nn _ _ h, sIx_nn _ _ h', List.drop_take]
  by_cases ha : a.toNat ≤ xs.length
  · rw [Nat.min_eq_left ha]
    by_cases hb : b.toNat ≤ xs.length
    · rw [Nat.min_eq_left hb]
    · rw [Nat.min_eq_right (by omega), List.take_of_length_le (by rw [List.length_drop]; omega), List.take_of_length_le (by rw [List.length_drop]; omega)]
  · rw [Nat.min_eq_right (by omega : xs.length ≤ a.toNat), List.drop_length, List.drop_of_length_le (by omega : xs.length ≤ a.toNat), List.take_nil, List.take_nil]
theorem cut_init (xs : List α) : cut xs none (some (-1)) = xs.dropLast := by
  unfold cut
  rw [HT.sIx_none, List.drop_zero, Nat.sub_zero, List.dropLast_eq_take]
  congr 1
  unfold HT.sIx
  simp only []
  rw [if_pos (by decide)]; omega
theorem cut_len (xs : List α) (l u : Option Int) : (cut xs l u).length ≤ xs.length := by
  unfold cut
  rw [List.length_take, List.length_drop]; omega
theorem cut_mem {xs : List α} {l u : Option Int} {x : α} (h : x ∈ cut xs l u) : x ∈ xs := List.mem_of_mem_drop (List.mem_of_mem_take h)
theorem atI_nn (xs : List α) {i : Int} (h : 0 ≤ i) : atI xs i = xs[i.toNat]? := by
  unfold atI ixN
  rw [if_pos h]
  split
  · rfl
  · rename_i h1
    rw [List.getElem?_eq_none (by omega)]; rfl
theorem atI_last (xs : List α) : atI xs (-1) = xs.getLast? := by
  unfold atI ixN
  rw [if_neg (by decide), List.getLast?_eq_getElem?]
  split
  · show xs[((-1 : Int) + xs.length).toNat]? = _
    congr 1; omega
  · have : xs.length = 0 := by omega
    rw [List.eq_nil_of_length_eq_zero this]; rfl
@[simp] theorem atI_zero (x : α) (xs : List α) : atI (x :: xs) 0 = some x := by rw [atI_nn _ (by decide)]; rfl
@[simp] theorem atI_one (x y : α) (xs : List α) : atI (x :: y :: xs) 1 = some y := by rw [atI_nn _ (by decide)]; rfl
@[simp] theorem atI_two (x y z : α) (xs : List α) : atI (x :: y :: z :: xs) 2 = some z := by rw [atI_nn _ (by decide)]; rfl
@[simp] theorem atI_three (x y z u : α) (xs : List α) : atI (x :: y :: z :: u :: xs) 3 = some u := by rw [atI_nn _ (by decide)]; rfl
@[simp] theorem atI_four (x y z u v : α) (xs : List α) : atI (x :: y :: z :: u :: v :: xs) 4 = some v := by rw [atI_nn _ (by decide)]; rfl
theorem atI_map {β : Type} (f : α → β) (xs : List α) (i : Int) : atI (xs.map f) i = (atI xs i).map f := by
  unfold atI
  rw [List.length_map]
  cases ixN xs.length i with
  | none => rfl
  | some j => simp
theorem cut_map {β : Type} (f : α → β) (xs : List α) (l u : Option Int) : cut (xs.map f) l u = (cut xs l u).map f := by
  unfold cut
  rw [List.length_map, List.map_take, List.map_drop]
end
/-! ### the script's cells -/
def cell (ns : List Int) (i : Int) : Int := (ns[i.toNat]?).getD 0
theorem sum_le {ss : List (List Nat)} {b : Nat} (h : ∀ s ∈ ss, s.length ≤ b) : (ss.map (·.length)).sum ≤ ss.length * b := by
  induction ss with
  | nil => simp
  | cons s r ih =>
    have h1 := h s (List.mem_cons_self ..)
    have h2 := ih fun t m => h t (List.mem_cons_of_mem _ m)
    simp only [List.map_cons, List.sum_cons, List.length_cons, Nat.succ_mul]
    omega
theorem joinN_len (a : List Nat) : ∀ ss : List (List Nat), (joinN a ss).length ≤ (ss.map (·.length)).sum + ss.length * a.length
  | [] => by simp [joinN]
  | [x] => by simp [joinN]
  | x :: y :: r => by
    have := joinN_len a (y :: r)
    simp only [joinN, List.length_append, List.map_cons, List.sum_cons, List.length_cons, Nat.succ_mul] at this ⊢
    omega
@[simp] theorem joinN_n (a : List Nat) : joinN a [] = [] := rfl
@[simp] theorem joinN_1 (a x : List Nat) : joinN a [x] = x := rfl
theorem joinN_c (a x y : List Nat) (r : List (List Nat)) : joinN a (x :: y :: r) = x ++ a ++ joinN a (y :: r) := rfl
@[simp] theorem joinN_e : ∀ ss : List (List Nat), joinN [] ss = ss.flatten
  | [] => rfl
  | [x] => by simp
  | x :: y :: r => by rw [joinN_c, joinN_e (y :: r)]; simp
/-! ### texts' operations -/
theorem dJoin_a (a : List Nat) (ss : List (List Nat)) (h : (ss.map (·.length)).sum + ss.length * a.length ≤ 16777216) : dJoin (.str a) [.lst (ss.map .str)] = some (.str (joinN a ss)) := by
  simp [dJoin, seqD, h]
@[simp] theorem dStr_a (i : Int) (h : i.natAbs.log2 < 1920) : dStr [.int i] = some (.str (numS i)) := by simp [dStr, h]
@[simp] theorem dInt_i (i : Int) : dInt [.int i] = some (.int i) := rfl
@[simp] theorem dInt_b (i : Bool) : dInt [.bl i] = some (.int (if i then 1 else 0)) := rfl
@[simp] theorem dMax_a (i j : Int) : dMax [.int i, .int j] = some (.int (if j > i then j else i)) := rfl
@[simp] theorem dMin_a (i j : Int) : dMin [.int i, .int j] = some (.int (if j < i then j else i)) := rfl
@[simp] theorem dAbs_a (i : Int) : dAbs [.int i] = some (.int (if i < 0 then -i else i)) := rfl
@[simp] theorem dOrd_a (c : Nat) : dOrd [.str [c]] = some (.int c) := rfl
@[simp] theorem dNeg_a (i : Int) : dNeg (.int i) = some (.int (-i)) := rfl
@[simp] theorem dListF_l (ds : List D) : dListF [.lst ds] = some (.l ds) := rfl
@[simp] theorem dListF_t (ds : List D) : dListF [.tup ds] = some (.l ds) := rfl
@[simp] theorem dListF_scr (ns : List Int) : dListF [.scr ns] = some (.l (ns.map .int)) := rfl
@[simp] theorem dTuple_l (ds : List D) : dTuple [.lst ds] = some (.tup ds) := rfl
@[simp] theorem dTuple_t (ds : List D) : dTuple [.tup ds] = some (.tup ds) := rfl
section
variable {S : Sls} {st : Store}
@[simp] theorem o3E_a (op op' : D → D → Option D) (fa fb fc : Ev Opd) : o3E op op' fa fb fc S st = (fa S st).bind fun a S st => (fb S st).bind fun b S st =>
  match vw S a, vw S b with
  | some x, some y => match op x y with
    | some (.bl true) => (fc S st).bind fun c S st => match vw S b, vw S c with
      | some y, some z => got (op' y z) S st
      | _, _ => .stuck
    | some (.bl false) => .ok (.bl false) S st
    | _ => .stuck
  | _, _ => .stuck := rfl
end
theorem deqs_refl : ∀ {ds : List D}, (∀ d ∈ ds, deq d d = true) → deqs ds ds = true
  | [], _ => deqs_n
  | d :: r, h => by
    rw [deqs_c, h d (List.mem_cons_self ..), deqs_refl fun x m => h x (List.mem_cons_of_mem _ m)]; rfl
theorem deq_refl_strs (ts : List (List Nat)) : deq (.lst (ts.map D.str)) (.lst (ts.map D.str)) = true := by
  rw [deq_lst]
  exact deqs_refl fun d h => by
    obtain ⟨s, _, rfl⟩ := List.mem_map.mp h
    simp
/-- a loop with a state of its own -/
theorem forL_acc {α : Type} {g : Tg} {body : EvS} {st : Store} (R : α → Sls → Prop) (f : α → D → α) (q : D → Prop) (step : ∀ a d S, q d → R a S → ∃ S1 S2, g d S = some S1 ∧ body S1 st = .nx S2 st ∧ R (f a d) S2) :
    ∀ (ds : List D) (a : α) (S : Sls), (∀ d ∈ ds, q d) → R a S → ∃ S', forL g body ds S st = .nx S' st ∧ R (ds.foldl f a) S'
  | [], a, S, _, h => ⟨S, rfl, h⟩
  | d :: r, a, S, hq, h => by
    obtain ⟨S1, S2, e1, e2, h2⟩ := step a d S (hq d (List.mem_cons_self ..)) h
    obtain ⟨S', e3, h3⟩ := forL_acc R f q step r (f a d) S2 (fun x m => hq x (List.mem_cons_of_mem _ m)) h2
    exact ⟨S', by rw [forL_c, e1]; simp only [e2]; exact e3, h3⟩
theorem rng_n (lo : Int) : rng 0 lo = [] := rfl
theorem rng_c (n : Nat) (lo : Int) : rng (n + 1) lo = .int lo :: rng n (lo + 1) := by
  unfold rng
  rw [List.range_succ_eq_map, List.map_cons, List.map_map]
  congr 1
  · simp
  · refine List.map_congr_left fun i _ => ?_
    simp; omega
@[simp] theorem rng_len (n : Nat) (lo : Int) : (rng n lo).length = n := by simp [rng]
/-! ### numbers as texts -/
open PySem.NumText in
theorem numS_nat (m : Nat) : numS (m : Int) = (Nat.toDigits 10 m).map Char.toNat := PySem.W.KIN.signs_num m
open PySem.NumText PySem.W in
theorem numS_dig {n : Int} (h : 0 ≤ n) : AllDigits (numS n) := by
  obtain ⟨m, rfl⟩ := Int.eq_ofNat_of_zero_le h
  intro c hc
  rw [numS_nat] at hc
  obtain ⟨ch, hch, e⟩ := List.mem_map.mp hc
  rw [← e]
  exact digit_range (Nat.isDigit_of_mem_toDigits (by decide) (by decide) hch)
theorem numS_ne {n : Int} (h : 0 ≤ n) : numS n ≠ [] := by
  obtain ⟨m, rfl⟩ := Int.eq_ofNat_of_zero_le h
  rw [numS_nat]
  intro e
  have h := toDigits_len_ge 10 m
  rw [List.map_eq_nil_iff.mp e] at h
  exact absurd h (by decide)
theorem numS_len {n : Int} {k : Nat} (h : 0 ≤ n) (hk : 0 < k) (hn : n < 10 ^ k) : (numS n).length ≤ k := by
  have : (Str.ofString (toString n)).length ≤ k := toString_length_le h hk hn
  simpa [numS, Str.length] using this
open PySem.NumText PySem.W in
theorem numS_val {n : Int} (h : 0 ≤ n) : (digitsVal (numS n) : Int) = n := by
  obtain ⟨m, rfl⟩ := Int.eq_ofNat_of_zero_le h
  rw [numS_nat, KIN.val_back]
open PySem.NumText in
theorem numS_reads {n : Int} (h : 0 ≤ n) (hn : n < 10 ^ 600) : PySem.intText? (tx (numS n)) = some n := by
  have e := intText_digits (x := tx (numS n)) (by rw [cps_tx]; exact numS_dig h) (by rw [cps_tx]; exact numS_ne h) (by rw [tx_len]; have := numS_len h (by decide) hn; omega)
  rw [cps_tx] at e
  rw [e, numS_val h]
theorem dInt_num {n : Int} (h : 0 ≤ n) (hn : n < 10 ^ 600) : dInt [.str (numS n)] = some (.int n) := by
  have := numS_len h (by decide) hn
  simp [dInt, numS_reads h hn, show (numS n).length ≤ 640 by omega]
theorem numS_inj {n m : Int} (h : 0 ≤ n) (h' : 0 ≤ m) (e : numS n = numS m) : n = m := by
  rw [← numS_val h, ← numS_val h', e]
theorem dStr_num {n : Int} (h : 0 ≤ n) (hn : n < 10 ^ 500) : dStr [.int n] = some (.str (numS n)) := by
  have : n.natAbs.log2 < 1920 := log2_lt (Nat.lt_of_lt_of_le (show n.natAbs < 10 ^ 500 by omega) (by decide +kernel)) (by decide)
  simp [dStr, this]
theorem dIn_strs (s : List Nat) (ts : List (List Nat)) : dIn (.str s) (.lst (ts.map .str)) = some (.bl (decide (s ∈ ts))) := by
  have : (ts.map D.str).any (fun z => deq z (.str s)) = decide (s ∈ ts) := by
    rw [List.any_map, Bool.eq_iff_iff, List.any_eq_true, decide_eq_true_eq]
    constructor
    · rintro ⟨x, hx, e⟩
      simp at e; subst e; exact hx
    · intro h; exact ⟨s, h, by simp⟩
  rw [dIn_a, inD_l, if_pos ⟨by simp, eqOk_lst _ (flat_strs ts)⟩, this]; rfl
theorem dNotIn_strs (s : List Nat) (ts : List (List Nat)) : dNotIn (.str s) (.lst (ts.map .str)) = some (.bl (!decide (s ∈ ts))) := by
  have := dIn_strs s ts
  simp only [dIn_a, dNotIn_a] at this ⊢
  cases h : inD (.str s) (.lst (ts.map .str)) with
  | none => rw [h] at this; cases this
  | some b => rw [h] at this; simp at this; simp [this]
/-- the last one that fits is held -/
theorem foldl_last {α : Type} [DecidableEq α] (w : α) : ∀ (xs : List α) (a : Option α), xs.foldl (fun a x => if x = w then some x else a) a = if w ∈ xs then some w else a
  | [], a => rfl
  | x :: r, a => by
    rw [List.foldl_cons, foldl_last w r]
    by_cases h : x = w
    · subst h; simp
    · simp [h, Ne.symm h]
theorem ints_of {P : Int → Prop} : ∀ {ds : List D}, (∀ d ∈ ds, ∃ k, d = .int k ∧ P k) → ∃ ks : List Int, ds = ks.map .int ∧ ∀ k ∈ ks, P k
  | [], _ => ⟨[], rfl, by simp⟩
  | d :: r, h => by
    obtain ⟨k, e, p⟩ := h d (List.mem_cons_self ..)
    obtain ⟨ks, e2, p2⟩ := ints_of (P := P) fun x m => h x (List.mem_cons_of_mem _ m)
    exact ⟨k :: ks, by rw [e, e2]; rfl, fun x m => by
      rcases List.mem_cons.mp m with z | z
      · rw [z]; exact p
      · exact p2 x z⟩
theorem strs_of {P : List Nat → Prop} : ∀ {ds : List D}, (∀ d ∈ ds, ∃ k, d = .str k ∧ P k) → ∃ ks : List (List Nat), ds = ks.map .str ∧ ∀ k ∈ ks, P k
  | [], _ => ⟨[], rfl, by simp⟩
  | d :: r, h => by
    obtain ⟨k, e, p⟩ := h d (List.mem_cons_self ..)
    obtain ⟨ks, e2, p2⟩ := strs_of (P := P) fun x m => h x (List.mem_cons_of_mem _ m)
    exact ⟨k :: ks, by rw [e, e2]; rfl, fun x m => by
      rcases List.mem_cons.mp m with z | z
      · rw [z]; exact p
      · exact p2 x z⟩
theorem cell_mem {ns : List Int} {P : Int → Prop} (h0 : P 0) (h : ∀ z ∈ ns, P z) (i : Int) : P (cell ns i) := by
  unfold cell
  cases e : ns[i.toNat]? with
  | none => exact h0
  | some z => exact h z (List.mem_of_getElem? e)
/-! ### comprehensions and loops over what is encoded -/
theorem lcL_mapF {α : Type} {g : Tg} {own : List Nat} {f : Ev D} {S : Sls} {st : Store} (enc : α → D) (out : α → D) : ∀ (xs : List α), (∀ x ∈ xs, ∃ S1 S3, g (enc x) S = some S1 ∧ f S1 st = .ok (out x) S3 st ∧ wipeS S3 own = S) → lcL g own tY f (xs.map enc) S st = .ok (xs.map out) S st
  | [], _ => rfl
  | x :: r, h => by
    obtain ⟨S1, S3, e1, e2, e3⟩ := h x (List.mem_cons_self ..)
    have ih := lcL_mapF enc out r fun y hy => h y (List.mem_cons_of_mem _ hy)
    rw [List.map_cons, lcL_c, e1]
    simp only [tY_a, Res.calm_ok, Res.bind_ok, if_true, e2, e3, ih, List.map_cons]
theorem lcL_filterF {α : Type} {g : Tg} {own : List Nat} {t : Ev Bool} {f : Ev D} {S : Sls} {st : Store} (enc : α → D) (p : α → Bool) (out : α → D) : ∀ (xs : List α), (∀ x ∈ xs, ∃ S1 S2, g (enc x) S = some S1 ∧ t S1 st = .ok (p x) S2 st ∧ (p x = false → wipeS S2 own = S) ∧ (p x = true → ∃ S3, f S2 st = .ok (out x) S3 st ∧ wipeS S3 own = S)) → lcL g own t f (xs.map enc) S st = .ok ((xs.filter p).map out) S st
  | [], _ => rfl
  | x :: r, h => by
    obtain ⟨S1, S2, e1, e2, e3, e4⟩ := h x (List.mem_cons_self ..)
    have ih := lcL_filterF enc p out r fun d hd => h d (List.mem_cons_of_mem _ hd)
    rw [List.map_cons, lcL_c, e1]
    cases hp : p x with
    | false =>
      rw [hp] at e2
      simp only [e2, Res.calm_ok, Res.bind_ok, Bool.false_eq_true, if_false, e3 hp, ih, List.filter_cons, hp]
    | true =>
      obtain ⟨S3, e5, e6⟩ := e4 hp
      rw [hp] at e2
      simp only [e2, Res.calm_ok, Res.bind_ok, if_true, e5, e6, ih, List.filter_cons, hp, List.map_cons]
theorem forL_accF {α β : Type} {g : Tg} {body : EvS} {st : Store} (enc : β → D) (R : α → Sls → Prop) (f : α → β → α) : ∀ (xs : List β) (a : α) (S : Sls), (∀ x ∈ xs, ∀ a S, R a S → ∃ S1 S2, g (enc x) S = some S1 ∧ body S1 st = .nx S2 st ∧ R (f a x) S2) → R a S → ∃ S', forL g body (xs.map enc) S st = .nx S' st ∧ R (xs.foldl f a) S'
  | [], a, S, _, h => ⟨S, rfl, h⟩
  | x :: r, a, S, hs, h => by
    obtain ⟨S1, S2, e1, e2, h2⟩ := hs x (List.mem_cons_self ..) a S h
    obtain ⟨S', e3, h3⟩ := forL_accF enc R f r (f a x) S2 (fun y m => hs y (List.mem_cons_of_mem _ m)) h2
    exact ⟨S', by rw [List.map_cons, forL_c, e1]; simp only [e2]; exact e3, h3⟩
/-- a loop over encoded items that hands back v at the first item with p -/
theorem forL_findF {β : Type} {g : Tg} {body : EvS} {st : Store} (enc : β → D) (p : β → Bool) (v : D) (I : Sls → Prop) : ∀ (xs : List β) (S : Sls), (∀ x ∈ xs, ∀ S, I S → ∃ S1, g (enc x) S = some S1 ∧ (p x = true → ∃ S2, body S1 st = .ret v S2 st) ∧ (p x = false → ∃ S2, body S1 st = .nx S2 st ∧ I S2)) → I S →
    (xs.any p = true → ∃ S', forL g body (xs.map enc) S st = .ret v S' st) ∧ (xs.any p = false → ∃ S', forL g body (xs.map enc) S st = .nx S' st ∧ I S')
  | [], S, _, hI => ⟨fun h => (by cases h), fun _ => ⟨S, rfl, hI⟩⟩
  | x :: r, S, h, hI => by
    obtain ⟨S1, e1, h1, h2⟩ := h x (List.mem_cons_self ..) S hI
    rw [List.map_cons]
    cases hp : p x with
    | true =>
      obtain ⟨S2, e2⟩ := h1 hp
      refine ⟨fun _ => ⟨S2, by rw [forL_c, e1]; simp only [e2]⟩, fun z => ?_⟩
      rw [List.any_cons, hp] at z; cases z
    | false =>
      obtain ⟨S2, e2, hI2⟩ := h2 hp
      have ih := forL_findF enc p v I r S2 (fun y hy => h y (List.mem_cons_of_mem _ hy)) hI2
      rw [List.any_cons, hp, Bool.false_or]
      refine ⟨fun z => ?_, fun z => ?_⟩
      · obtain ⟨S', e3⟩ := ih.1 z
        exact ⟨S', by rw [forL_c, e1]; simp only [e2]; exact e3⟩
      · obtain ⟨S', e3, h3⟩ := ih.2 z
        exact ⟨S', by rw [forL_c, e1]; simp only [e2]; exact e3, h3⟩
end DL

namespace M
open PySem PySem.Spec PyProof.Rows L2 DL
def topS (i : Nat) : Stmt := PySem.Challenge.pw_saywell_k34_whole_unlaid.main.body.getD i (.Pass ⟨0, 0, 0, 0⟩)
abbrev k_LETTERS : List Nat := [97, 98, 99, 100, 101, 102, 103, 104, 105, 106, 107, 108, 109, 110, 111, 112, 113, 114, 115, 116, 117, 118, 119, 120, 121, 122, 65, 66, 67, 68, 69, 70, 71, 72, 73, 74, 75, 76, 77, 78, 79, 80, 81, 82, 83, 84, 85, 86, 87, 88, 89, 90]
theorem ok_k_LETTERS : okS k_LETTERS = true := by decide
abbrev s__law_cell_at : Stmt := topS 8
abbrev N__law_cell_at : List Str := ["_law_script", "_law_k"]
theorem sc__law_cell_at : FnScope N__law_cell_at ["_law_script", "_law_k"] (defScope s__law_cell_at) := ⟨rfl, rfl, rfl, by decide +kernel, rfl, by decide +kernel, by decide +kernel⟩
noncomputable def b__law_cell_at : EvS :=
   sSeq (sI (tV (o2E dLt (oV (vE 1)) (oV (oAE dLen (aC (oV (vE 0)) (aN)))))) (sR (o2E dIx (oV (vE 0)) (oV (vE 1)))) (sNil))
   (sR (kE (.int 0)))
noncomputable def c__law_cell_at : CallT := runB 2 b__law_cell_at
abbrev s__law_rich : Stmt := topS 9
abbrev N__law_rich : List Str := ["_law_cell", "_law_found", "_law_number", "_law_k"]
theorem sc__law_rich : FnScope N__law_rich ["_law_cell"] (defScope s__law_rich) := ⟨rfl, rfl, rfl, by decide +kernel, rfl, by decide +kernel, by decide +kernel⟩
noncomputable def L__law_rich_1 : EvS :=
   sSeq (sV 2 (o2E dMod (oV (o2E dAdd (oV (o2E dAdd (oV (o2E dMul (oV (vE 2)) (oV (kE (.int 48271))))) (oV (kE (.int 12345))))) (oV (o2E dMul (oV (vE 3)) (oV (vE 3)))))) (oV (kE (.int 2147483629)))))
   (sV 1 (o2E dAdd (oV (o2E dMul (oV (vE 1)) (oV (kE (.int 2147483587))))) (oV (o2E dMod (oV (o2E dMul (oV (vE 2)) (oV (vE 2)))) (oV (kE (.int 2147483587)))))))
noncomputable def b__law_rich : EvS :=
   sSeq (sV 1 (kE (.int 0)))
   (sSeq (sV 2 (o2E dMod (oV (vE 0)) (oV (kE (.int 2147483647)))))
   (sSeq (sF (iR1 (aC (oV (kE (.int 9))) (aN))) (gV 3) (L__law_rich_1))
   (sR (vE 1))))
noncomputable def c__law_rich : CallT := runB 4 b__law_rich
abbrev s__law_cells : Stmt := topS 10
abbrev N__law_cells : List Str := ["_law_script", "_law_found", "_law_k", "_law_cell"]
theorem sc__law_cells : FnScope N__law_cells ["_law_script"] (defScope s__law_cells) := ⟨rfl, rfl, rfl, by decide +kernel, rfl, by decide +kernel, by decide +kernel⟩
noncomputable def L__law_cells_1 : EvS :=
   sSeq (sV 3 (cE c__law_cell_at (aC (oV (vE 0)) (aC (oV (vE 2)) (aN)))))
   (sSeq (sI (tV (o2E dLt (oV (oAE dAbs (aC (oV (vE 3)) (aN)))) (oV (o2E dPow (oV (kE (.int 10))) (oV (kE (.int 9))))))) (sV 3 (cE c__law_rich (aC (oV (o2E dAdd (oV (vE 3)) (oV (vE 2)))) (aN)))) (sNil))
   (sAp 1 (oV (vE 3))))
noncomputable def b__law_cells : EvS :=
   sSeq (sO 1 (lF (aN)))
   (sSeq (sF (iR1 (aC (oV (oAE dMax (aC (oV (kE (.int 24))) (aC (oV (oAE dLen (aC (oV (vE 0)) (aN)))) (aN))))) (aN))) (gV 2) (L__law_cells_1))
   (sR (zE 1)))
noncomputable def c__law_cells : CallT := runB 4 b__law_cells
abbrev s__law_sign : Stmt := topS 11
abbrev N__law_sign : List Str := ["_law_cell", "_law_all_signs", "_law_others", "_law_letters_here"]
theorem sc__law_sign : FnScope N__law_sign ["_law_cell", "_law_all_signs"] (defScope s__law_sign) := ⟨rfl, rfl, rfl, by decide +kernel, rfl, by decide +kernel, by decide +kernel⟩
noncomputable def b__law_sign : EvS :=
   sSeq (sV 2 (kE (.str [32, 33, 34, 35, 36, 38, 39, 40, 41, 42, 43, 44, 45, 46, 47, 48, 49, 50, 51, 52, 53, 54, 55, 56, 57, 58, 59, 60, 61, 62, 63, 64, 92, 94, 95, 96, 124, 126])))
   (sSeq (sV 3 (kE (.str [97, 98, 99, 100, 101, 102, 103, 104, 105, 106, 107, 108, 109, 110, 111, 112, 113, 114, 115, 116, 117, 118, 119, 120, 121, 122, 65, 66, 67, 68, 69, 70, 71, 72, 73, 74, 75, 76, 77, 78, 79, 80, 81, 82, 83, 84, 85, 86, 87, 88, 89, 90])))
   (sSeq (sI (tA (tT (oV (vE 1))) (tV (o2E dGt (oV (o2E dMod (oV (vE 0)) (oV (kE (.int 3))))) (oV (kE (.int 0)))))) (sR (o2E dIx (oV (vE 3)) (oV (o2E dMod (oV (o2E dFdiv (oV (vE 0)) (oV (kE (.int 3))))) (oV (kE (.int 52))))))) (sNil))
   (sR (o2E dIx (oV (vE 2)) (oV (o2E dMod (oV (o2E dFdiv (oV (vE 0)) (oV (kE (.int 3))))) (oV (kE (.int 38)))))))))
noncomputable def c__law_sign : CallT := runB 4 b__law_sign
abbrev s__law_signs : Stmt := topS 12
abbrev N__law_signs : List Str := ["_law_cell", "_law_many", "_law_found", "_law_k"]
theorem sc__law_signs : FnScope N__law_signs ["_law_cell", "_law_many"] (defScope s__law_signs) := ⟨rfl, rfl, rfl, by decide +kernel, rfl, by decide +kernel, by decide +kernel⟩
noncomputable def L__law_signs_1 : EvS :=
   sSeq (sV 2 (o2E dAdd (oV (vE 2)) (oV (cE c__law_sign (aC (oV (o2E dMod (oV (vE 0)) (oV (kE (.int 474))))) (aC (oV (kE (.bl true))) (aN)))))))
   (sV 0 (o2E dFdiv (oV (vE 0)) (oV (kE (.int 474)))))
noncomputable def b__law_signs : EvS :=
   sSeq (sV 2 (kE (.str [])))
   (sSeq (sF (iR1 (aC (oV (vE 1)) (aN))) (gV 3) (L__law_signs_1))
   (sR (vE 2)))
noncomputable def c__law_signs : CallT := runB 4 b__law_signs
abbrev s__law_joiner : Stmt := topS 14
abbrev N__law_joiner : List Str := ["_law_one", "_law_other", "_law_most", "_law_found", "_law_many"]
theorem sc__law_joiner : FnScope N__law_joiner ["_law_one", "_law_other", "_law_most"] (defScope s__law_joiner) := ⟨rfl, rfl, rfl, by decide +kernel, rfl, by decide +kernel, by decide +kernel⟩
noncomputable def b__law_joiner : EvS :=
   sSeq (sV 3 (cE c__law_sign (aC (oV (o2E dFdiv (oV (vE 0)) (oV (kE (.int 8))))) (aC (oV (kE (.bl false))) (aN)))))
   (sSeq (sV 4 (o2E dMod (oV (o2E dMod (oV (vE 0)) (oV (kE (.int 8))))) (oV (vE 2))))
   (sSeq (sI (tV (o2E dGt (oV (vE 4)) (oV (kE (.int 0))))) (sV 3 (o2E dAdd (oV (o2E dAdd (oV (vE 3)) (oV (cE c__law_signs (aC (oV (vE 1)) (aC (oV (o2E dSub (oV (vE 4)) (oV (kE (.int 1))))) (aN))))))) (oV (cE c__law_sign (aC (oV (o2E dFdiv (oV (vE 0)) (oV (kE (.int 920))))) (aC (oV (kE (.bl false))) (aN))))))) (sNil))
   (sR (vE 3))))
noncomputable def c__law_joiner : CallT := runB 5 b__law_joiner
abbrev s__law_letters : Stmt := topS 13
abbrev N__law_letters : List Str := ["_law_cell", "_law_many", "_law_letters_here", "_law_found", "_law_k"]
theorem sc__law_letters : FnScope N__law_letters ["_law_cell", "_law_many"] (defScope s__law_letters) := ⟨rfl, rfl, rfl, by decide +kernel, rfl, by decide +kernel, by decide +kernel⟩
noncomputable def L__law_letters_1 : EvS :=
   sSeq (sV 3 (o2E dAdd (oV (vE 3)) (oV (o2E dIx (oV (vE 2)) (oV (o2E dMod (oV (vE 0)) (oV (kE (.int 52)))))))))
   (sV 0 (o2E dFdiv (oV (vE 0)) (oV (kE (.int 52)))))
noncomputable def b__law_letters : EvS :=
   sSeq (sV 2 (kE (.str [97, 98, 99, 100, 101, 102, 103, 104, 105, 106, 107, 108, 109, 110, 111, 112, 113, 114, 115, 116, 117, 118, 119, 120, 121, 122, 65, 66, 67, 68, 69, 70, 71, 72, 73, 74, 75, 76, 77, 78, 79, 80, 81, 82, 83, 84, 85, 86, 87, 88, 89, 90])))
   (sSeq (sV 3 (kE (.str [])))
   (sSeq (sF (iR1 (aC (oV (vE 1)) (aN))) (gV 4) (L__law_letters_1))
   (sR (vE 3))))
noncomputable def c__law_letters : CallT := runB 5 b__law_letters
abbrev s__law_joiners : Stmt := topS 15
abbrev N__law_joiners : List Str := ["_law_script", "_law_way", "_law_none", "_law_some", "_law_k", "_law_most"]
theorem sc__law_joiners : FnScope N__law_joiners ["_law_script", "_law_way"] (defScope s__law_joiners) := ⟨rfl, rfl, rfl, by decide +kernel, rfl, by decide +kernel, by decide +kernel⟩
noncomputable def L__law_joiners_1 : EvS :=
   sSeq (sV 5 (o2E dIx (oV (fE (lF (aC (oV (kE (.int 8))) (aC (oV (kE (.int 8))) (aC (oV (kE (.int 2))) (aN))))))) (oV (o2E dAdd (oV (oAE dInt (aC (oV (o2E dEq (oV (vE 1)) (oV (kE (.int 1))))) (aN)))) (oV (oAE dInt (aC (oV (eA (o2E dEq (oV (vE 1)) (oV (kE (.int 1)))) (o2E dGt (oV (vE 4)) (oV (kE (.int 0)))))) (aN))))))))
   (sAp 3 (oV (cE c__law_joiner (aC (oV (cE c__law_cell_at (aC (oV (vE 0)) (aC (oV (o2E dAdd (oV (kE (.int 2))) (oV (o2E dMul (oV (kE (.int 2))) (oV (vE 4)))))) (aN))))) (aC (oV (cE c__law_cell_at (aC (oV (vE 0)) (aC (oV (o2E dAdd (oV (kE (.int 3))) (oV (o2E dMul (oV (kE (.int 2))) (oV (vE 4)))))) (aN))))) (aC (oV (vE 5)) (aN)))))))
noncomputable def R__law_joiners_1 : EvS :=
   sSeq (sI (tV (o2E dEq (oV (vE 1)) (oV (kE (.int 2))))) (sSeq (sSet 3 (slE dSl (oV (o2E dAdd (oV (o2E dIx (oS 3) (oV (kE (.int 1))))) (oV (cE c__law_signs (aC (oV (cE c__law_cell_at (aC (oV (vE 0)) (aC (oV (kE (.int 5))) (aN))))) (aC (oV (o2E dMod (oV (cE c__law_cell_at (aC (oV (vE 0)) (aC (oV (kE (.int 7))) (aN))))) (oV (kE (.int 3))))) (aN))))))) (sN) (sS (kE (.int 7)))) (kE (.int 2)))
   (sSeq (sSet 3 (o2E dAdd (oV (o2E dIx (oS 3) (oV (kE (.int 2))))) (oV (cE c__law_sign (aC (oV (cE c__law_cell_at (aC (oV (vE 0)) (aC (oV (kE (.int 6))) (aN))))) (aC (oV (kE (.bl false))) (aN)))))) (kE (.int 2)))
   (sI (tV (o2E dEq (oV (o2E dMod (oV (cE c__law_cell_at (aC (oV (vE 0)) (aC (oV (kE (.int 7))) (aN))))) (oV (kE (.int 3))))) (oV (kE (.int 0))))) (sSet 3 (o2E dIx (oS 3) (oV (kE (.int 1)))) (kE (.int 2))) (sNil)))) (sNil))
   (sR (pE (aC (oV (vE 2)) (aC (oV (o2E dIx (oS 3) (oV (kE (.int 0))))) (aC (oV (o2E dIx (oS 3) (oV (kE (.int 1))))) (aC (oV (o2E dIx (oS 3) (oV (kE (.int 2))))) (aN)))))))
noncomputable def R__law_joiners_2 : EvS :=
   sSeq (sI (tV (o2E dEq (oV (vE 1)) (oV (kE (.int 1))))) (sSet 3 (o2E dAdd (oV (o2E dAdd (oV (o2E dIx (oS 3) (oV (kE (.int 1))))) (oV (cE c__law_letters (aC (oV (cE c__law_cell_at (aC (oV (vE 0)) (aC (oV (kE (.int 2))) (aN))))) (aC (oV (o2E dAdd (oV (kE (.int 1))) (oV (o2E dMod (oV (cE c__law_cell_at (aC (oV (vE 0)) (aC (oV (kE (.int 3))) (aN))))) (oV (kE (.int 4))))))) (aN))))))) (oV (o2E dIx (oS 3) (oV (kE (.int 2)))))) (kE (.int 0))) (sNil))
   (R__law_joiners_1)
noncomputable def b__law_joiners : EvS :=
   sSeq (sV 2 (cE c__law_signs (aC (oV (cE c__law_cell_at (aC (oV (vE 0)) (aC (oV (kE (.int 1))) (aN))))) (aC (oV (o2E dMod (oV (cE c__law_cell_at (aC (oV (vE 0)) (aC (oV (kE (.int 0))) (aN))))) (oV (kE (.int 13))))) (aN)))))
   (sSeq (sO 3 (lF (aN)))
   (sSeq (sF (iR1 (aC (oV (kE (.int 3))) (aN))) (gV 4) (L__law_joiners_1))
   (R__law_joiners_2)))
noncomputable def c__law_joiners : CallT := runB 6 b__law_joiners
abbrev s__law_texts : Stmt := topS 16
abbrev N__law_texts : List Str := ["_law_script", "_law_many", "_law_found", "_law_cell", "_law_long"]
theorem sc__law_texts : FnScope N__law_texts ["_law_script"] (defScope s__law_texts) := ⟨rfl, rfl, rfl, by decide +kernel, rfl, by decide +kernel, by decide +kernel⟩
noncomputable def L__law_texts_1 : EvS :=
   sSeq (sV 4 (o2E dAdd (oV (kE (.int 1))) (oV (o2E dMod (oV (o2E dFdiv (oV (vE 3)) (oV (kE (.int 4))))) (oV (kE (.int 12)))))))
   (sSeq (sI (tV (o2E dEq (oV (o2E dMod (oV (vE 3)) (oV (kE (.int 4))))) (oV (kE (.int 0))))) (sV 4 (o2E dAdd (oV (kE (.int 1))) (oV (o2E dMod (oV (o2E dFdiv (oV (vE 3)) (oV (kE (.int 4))))) (oV (kE (.int 2))))))) (sNil))
   (sSeq (sI (tV (o2E dEq (oV (o2E dMod (oV (vE 3)) (oV (kE (.int 64))))) (oV (kE (.int 63))))) (sV 4 (kE (.int 13))) (sNil))
   (sAp 2 (oV (cE c__law_letters (aC (oV (o2E dFdiv (oV (vE 3)) (oV (kE (.int 64))))) (aC (oV (vE 4)) (aN))))))))
noncomputable def b__law_texts : EvS :=
   sSeq (sV 1 (o2E dMod (oV (cE c__law_cell_at (aC (oV (vE 0)) (aC (oV (kE (.int 8))) (aN))))) (oV (kE (.int 10)))))
   (sSeq (sO 2 (lF (aN)))
   (sSeq (sF (iE (slE dSl (oV (vE 0)) (sS (kE (.int 12))) (sS (o2E dAdd (oV (kE (.int 12))) (oV (vE 1)))))) (gV 3) (L__law_texts_1))
   (sR (zE 2))))
noncomputable def c__law_texts : CallT := runB 5 b__law_texts
abbrev s__law_laid : Stmt := topS 17
abbrev N__law_laid : List Str := ["_law_joiners_here", "_law_texts_here", "_law_found", "_law_k", "_law_joiner_here"]
theorem sc__law_laid : FnScope N__law_laid ["_law_joiners_here", "_law_texts_here"] (defScope s__law_laid) := ⟨rfl, rfl, rfl, by decide +kernel, rfl, by decide +kernel, by decide +kernel⟩
noncomputable def L__law_laid_1 : EvS :=
   sSeq (sV 4 (o2E dIx (oV (vE 0)) (oV (kE (.int 2)))))
   (sSeq (sI (tV (o2E dEq (oV (vE 3)) (oV (o2E dSub (oV (oAE dLen (aC (oV (vE 1)) (aN)))) (oV (kE (.int 1))))))) (sV 4 (o2E dIx (oV (vE 0)) (oV (kE (.int 3))))) (sNil))
   (sSeq (sI (tV (o2E dEq (oV (oAE dLen (aC (oV (vE 1)) (aN)))) (oV (kE (.int 2))))) (sV 4 (o2E dIx (oV (vE 0)) (oV (kE (.int 1))))) (sNil))
   (sV 2 (o2E dAdd (oV (o2E dAdd (oV (vE 2)) (oV (vE 4)))) (oV (o2E dIx (oV (vE 1)) (oV (vE 3))))))))
noncomputable def b__law_laid : EvS :=
   sSeq (sI (tV (o2E dEq (oV (vE 1)) (oV (fE (lF (aN)))))) (sR (o2E dIx (oV (vE 0)) (oV (kE (.int 0))))) (sNil))
   (sSeq (sV 2 (o2E dIx (oV (vE 1)) (oV (kE (.int 0)))))
   (sSeq (sF (iR2 (aC (oV (kE (.int 1))) (aC (oV (oAE dLen (aC (oV (vE 1)) (aN)))) (aN)))) (gV 3) (L__law_laid_1))
   (sR (vE 2))))
noncomputable def c__law_laid : CallT := runB 5 b__law_laid
abbrev s__law_none_too : Stmt := topS 21
abbrev N__law_none_too : List Str := ["_law_joiners_here", "_law_texts_here"]
theorem sc__law_none_too : FnScope N__law_none_too ["_law_joiners_here", "_law_texts_here"] (defScope s__law_none_too) := ⟨rfl, rfl, rfl, by decide +kernel, rfl, by decide +kernel, by decide +kernel⟩
noncomputable def b__law_none_too : EvS :=
   sR (pE (aC (oV (slE dSl (oV (cE c__law_laid (aC (oV (vE 0)) (aC (oV (vE 1)) (aN))))) (sN) (sS (kE (.int 12))))) (aC (oV (o2E dIx (oV (vE 0)) (oV (kE (.int 1))))) (aC (oV (o2E dIx (oV (vE 0)) (oV (kE (.int 2))))) (aC (oV (o2E dIx (oV (vE 0)) (oV (kE (.int 3))))) (aN))))))
noncomputable def c__law_none_too : CallT := runB 2 b__law_none_too
abbrev s__law_spoiled : Stmt := topS 18
abbrev N__law_spoiled : List Str := ["_law_text", "_law_cell", "_law_sign_here", "_law_at"]
theorem sc__law_spoiled : FnScope N__law_spoiled ["_law_text", "_law_cell", "_law_sign_here"] (defScope s__law_spoiled) := ⟨rfl, rfl, rfl, by decide +kernel, rfl, by decide +kernel, by decide +kernel⟩
noncomputable def b__law_spoiled : EvS :=
   sSeq (sV 3 (o2E dMod (oV (o2E dFdiv (oV (vE 1)) (oV (kE (.int 8))))) (oV (o2E dAdd (oV (oAE dLen (aC (oV (vE 0)) (aN)))) (oV (kE (.int 1)))))))
   (sSeq (sI (tV (o2E dEq (oV (o2E dMod (oV (vE 1)) (oV (kE (.int 8))))) (oV (kE (.int 1))))) (sR (o2E dAdd (oV (slE dSl (oV (vE 0)) (sN) (sS (vE 3)))) (oV (slE dSl (oV (vE 0)) (sS (o2E dAdd (oV (vE 3)) (oV (kE (.int 1))))) (sN))))) (sNil))
   (sSeq (sI (tV (o2E dEq (oV (o2E dMod (oV (vE 1)) (oV (kE (.int 8))))) (oV (kE (.int 3))))) (sR (o2E dAdd (oV (o2E dAdd (oV (slE dSl (oV (vE 0)) (sN) (sS (vE 3)))) (oV (vE 2)))) (oV (slE dSl (oV (vE 0)) (sS (vE 3)) (sN))))) (sNil))
   (sSeq (sI (tV (o2E dEq (oV (o2E dMod (oV (vE 1)) (oV (kE (.int 8))))) (oV (kE (.int 5))))) (sR (o2E dAdd (oV (o2E dAdd (oV (slE dSl (oV (vE 0)) (sN) (sS (vE 3)))) (oV (vE 2)))) (oV (slE dSl (oV (vE 0)) (sS (o2E dAdd (oV (vE 3)) (oV (kE (.int 1))))) (sN))))) (sNil))
   (sSeq (sI (tV (o2E dEq (oV (o2E dMod (oV (vE 1)) (oV (kE (.int 8))))) (oV (kE (.int 7))))) (sR (slE dSl (oV (vE 0)) (sN) (sS (vE 3)))) (sNil))
   (sR (vE 0))))))
noncomputable def c__law_spoiled : CallT := runB 4 b__law_spoiled
abbrev s__law_is_text : Stmt := topS 19
abbrev N__law_is_text : List Str := ["_law_text", "_law_letters_here", "_law_sign_here"]
theorem sc__law_is_text : FnScope N__law_is_text ["_law_text"] (defScope s__law_is_text) := ⟨rfl, rfl, rfl, by decide +kernel, rfl, by decide +kernel, by decide +kernel⟩
noncomputable def E__law_is_text_1 : Ev D :=
   vE 2
noncomputable def T__law_is_text_1 : Ev Bool :=
   tV (o2E dNotIn (oV (vE 2)) (oV (vE 1)))
noncomputable def b__law_is_text : EvS :=
   sSeq (sV 1 (kE (.str [97, 98, 99, 100, 101, 102, 103, 104, 105, 106, 107, 108, 109, 110, 111, 112, 113, 114, 115, 116, 117, 118, 119, 120, 121, 122, 65, 66, 67, 68, 69, 70, 71, 72, 73, 74, 75, 76, 77, 78, 79, 80, 81, 82, 83, 84, 85, 86, 87, 88, 89, 90])))
   (sSeq (sI (tO (tN (tT (oV (oAE dIsI (aC (oV (vE 0)) (aC (oV (kE (.ty "str"))) (aN))))))) (tO (tV (o2E dLt (oV (oAE dLen (aC (oV (vE 0)) (aN)))) (oV (kE (.int 1))))) (tV (o2E dGt (oV (oAE dLen (aC (oV (vE 0)) (aN)))) (oV (kE (.int 12))))))) (sR (kE (.bl false))) (sNil))
   (sR (o2E dEq (oV (fE (lcF (iE (vE 0)) (gV 2) [2] (T__law_is_text_1) (E__law_is_text_1)))) (oV (fE (lF (aN)))))))
noncomputable def c__law_is_text : CallT := runB 3 b__law_is_text
abbrev s__law_is_list : Stmt := topS 20
abbrev N__law_is_list : List Str := ["_law_texts_here", "_law_text"]
theorem sc__law_is_list : FnScope N__law_is_list ["_law_texts_here"] (defScope s__law_is_list) := ⟨rfl, rfl, rfl, by decide +kernel, rfl, by decide +kernel, by decide +kernel⟩
noncomputable def E__law_is_list_1 : Ev D :=
   vE 1
noncomputable def T__law_is_list_1 : Ev Bool :=
   tN (tT (oV (cE c__law_is_text (aC (oV (vE 1)) (aN)))))
noncomputable def b__law_is_list : EvS :=
   sSeq (sI (tO (tN (tT (oV (oAE dIsI (aC (oV (vE 0)) (aC (oV (kE (.ty "list"))) (aN))))))) (tV (o2E dGt (oV (oAE dLen (aC (oV (vE 0)) (aN)))) (oV (kE (.int 8)))))) (sR (kE (.bl false))) (sNil))
   (sR (o2E dEq (oV (fE (lcF (iE (vE 0)) (gV 1) [1] (T__law_is_list_1) (E__law_is_list_1)))) (oV (fE (lF (aN))))))
noncomputable def c__law_is_list : CallT := runB 2 b__law_is_list
abbrev s__law_sure : Stmt := topS 22
abbrev N__law_sure : List Str := ["_law_joiners_here", "_law_text", "_law_found", "_law_inner", "_law_k", "_law_pair", "_law_three"]
theorem sc__law_sure : FnScope N__law_sure ["_law_joiners_here", "_law_text"] (defScope s__law_sure) := ⟨rfl, rfl, rfl, by decide +kernel, rfl, by decide +kernel, by decide +kernel⟩
noncomputable def L__law_sure_1 : EvS :=
   sSeq (sV 5 (fE (lF (aC (oV (slE dSl (oV (vE 1)) (sN) (sS (vE 4)))) (aC (oV (slE dSl (oV (vE 1)) (sS (o2E dAdd (oV (vE 4)) (oV (oAE dLen (aC (oV (o2E dIx (oV (vE 0)) (oV (kE (.int 1))))) (aN)))))) (sN))) (aN))))))
   (sI (tA (tV (o2E dEq (oV (slE dSl (oV (vE 1)) (sS (vE 4)) (sS (o2E dAdd (oV (vE 4)) (oV (oAE dLen (aC (oV (o2E dIx (oV (vE 0)) (oV (kE (.int 1))))) (aN)))))))) (oV (o2E dIx (oV (vE 0)) (oV (kE (.int 1))))))) (tT (oV (cE c__law_is_list (aC (oV (vE 5)) (aN)))))) (sSeq (sAp 2 (oV (vE 5)))
   (sSeq (sV 6 (fE (lF (aC (oV (o2E dIx (oV (vE 5)) (oV (kE (.int 0))))) (aC (oV (vE 3)) (aC (oV (o2E dIx (oV (vE 5)) (oV (kE (.int 1))))) (aN)))))))
   (sI (tA (tT (oV (cE c__law_is_list (aC (oV (vE 6)) (aN))))) (tV (o2E dEq (oV (cE c__law_laid (aC (oV (vE 0)) (aC (oV (vE 6)) (aN))))) (oV (vE 1))))) (sAp 2 (oV (vE 6))) (sNil)))) (sNil))
noncomputable def b__law_sure : EvS :=
   sSeq (sO 2 (lF (aN)))
   (sSeq (sV 3 (slE dSl (oV (o2E dIx (oV (vE 0)) (oV (kE (.int 1))))) (sS (oAE dLen (aC (oV (o2E dIx (oV (vE 0)) (oV (kE (.int 2))))) (aN)))) (sS (o2E dSub (oV (oAE dLen (aC (oV (o2E dIx (oV (vE 0)) (oV (kE (.int 1))))) (aN)))) (oV (oAE dLen (aC (oV (o2E dIx (oV (vE 0)) (oV (kE (.int 3))))) (aN))))))))
   (sSeq (sI (tV (o2E dEq (oV (vE 1)) (oV (o2E dIx (oV (vE 0)) (oV (kE (.int 0))))))) (sAp 2 (oV (fE (lF (aN))))) (sNil))
   (sSeq (sI (tT (oV (cE c__law_is_text (aC (oV (vE 1)) (aN))))) (sAp 2 (oV (fE (lF (aC (oV (vE 1)) (aN)))))) (sNil))
   (sSeq (sF (iR1 (aC (oV (oAE dLen (aC (oV (vE 1)) (aN)))) (aN))) (gV 4) (L__law_sure_1))
   (sRO (oZ 2))))))
noncomputable def c__law_sure : CallO := runBO 7 b__law_sure
abbrev s_first_letters : Stmt := topS 2
abbrev N_first_letters : List Str := ["text", "many", "sign"]
theorem sc_first_letters : FnScope N_first_letters ["text"] (defScope s_first_letters) := ⟨rfl, rfl, rfl, by decide +kernel, rfl, by decide +kernel, by decide +kernel⟩
noncomputable def L_first_letters_1 : EvS :=
   sSeq (sI (tV (o2E dNotIn (oV (vE 2)) (oV (kE (.str k_LETTERS))))) (sBk) (sNil))
   (sAug 1 dAddI (oV (kE (.int 1))))
noncomputable def b_first_letters : EvS :=
   sSeq (sV 1 (kE (.int 0)))
   (sSeq (sF (iE (vE 0)) (gV 2) (L_first_letters_1))
   (sR (vE 1)))
noncomputable def c_first_letters : CallT := runB 3 b_first_letters
abbrev s_is_thing_text : Stmt := topS 4
abbrev N_is_thing_text : List Str := ["text"]
theorem sc_is_thing_text : FnScope N_is_thing_text ["text"] (defScope s_is_thing_text) := ⟨rfl, rfl, rfl, by decide +kernel, rfl, by decide +kernel, by decide +kernel⟩
noncomputable def b_is_thing_text : EvS :=
   sR (eA (o3E dLt dLe (oV (kE (.int 0))) (oV (oAE dLen (aC (oV (vE 0)) (aN)))) (oV (kE (.int 12)))) (o2E dEq (oV (cE c_first_letters (aC (oV (vE 0)) (aN)))) (oV (oAE dLen (aC (oV (vE 0)) (aN))))))
noncomputable def c_is_thing_text : CallT := runB 1 b_is_thing_text
abbrev s_last_letters : Stmt := topS 3
abbrev N_last_letters : List Str := ["text", "many", "sign"]
theorem sc_last_letters : FnScope N_last_letters ["text"] (defScope s_last_letters) := ⟨rfl, rfl, rfl, by decide +kernel, rfl, by decide +kernel, by decide +kernel⟩
noncomputable def L_last_letters_1 : EvS :=
   sSeq (sI (tV (o2E dNotIn (oV (vE 2)) (oV (kE (.str k_LETTERS))))) (sBk) (sNil))
   (sAug 1 dAddI (oV (kE (.int 1))))
noncomputable def b_last_letters : EvS :=
   sSeq (sV 1 (kE (.int 0)))
   (sSeq (sF (iVs (vE 0)) (gV 2) (L_last_letters_1))
   (sR (vE 1)))
noncomputable def c_last_letters : CallT := runB 3 b_last_letters
abbrev s_parted : Stmt := topS 5
abbrev N_parted : List Str := ["text", "joiner", "found", "many"]
theorem sc_parted : FnScope N_parted ["text", "joiner"] (defScope s_parted) := ⟨rfl, rfl, rfl, by decide +kernel, rfl, by decide +kernel, by decide +kernel⟩
noncomputable def W_parted_1 : Ev Bool :=
   tT (oV (kE (.bl true)))
noncomputable def L_parted_1 : EvS :=
   sSeq (sV 3 (cE c_first_letters (aC (oV (vE 0)) (aN))))
   (sSeq (sI (tN (tT (oV (cE c_is_thing_text (aC (oV (slE dSl (oV (vE 0)) (sN) (sS (vE 3)))) (aN)))))) (sR (kE .non)) (sNil))
   (sSeq (sAp 2 (oV (slE dSl (oV (vE 0)) (sN) (sS (vE 3)))))
   (sSeq (sV 0 (slE dSl (oV (vE 0)) (sS (vE 3)) (sN)))
   (sSeq (sI (tV (o2E dEq (oV (vE 0)) (oV (kE (.str []))))) (sR (zE 2)) (sNil))
   (sSeq (sI (tN (tT (oV (mE "str" dStarts (oV (vE 0)) (aC (oV (vE 1)) (aN)))))) (sR (kE .non)) (sNil))
   (sV 0 (slE dSl (oV (vE 0)) (sS (oAE dLen (aC (oV (vE 1)) (aN)))) (sN))))))))
noncomputable def b_parted : EvS :=
   sSeq (sO 2 (lF (aN)))
   (sW (W_parted_1) (L_parted_1))
noncomputable def c_parted : CallT := runB 4 b_parted
abbrev s_unlaid : Stmt := topS 6
abbrev N_unlaid : List Str := ["joiners", "text", "none", "two", "middle", "last", "found", "cut", "ahead", "some"]
theorem sc_unlaid : FnScope N_unlaid ["joiners", "text"] (defScope s_unlaid) := ⟨rfl, rfl, rfl, by decide +kernel, rfl, by decide +kernel, by decide +kernel⟩
noncomputable def R_unlaid_1 : EvS :=
   sSeq (sI (tT (oV (mE "str" dEnds (oV (vE 8)) (aC (oV (vE 5)) (aN))))) (sSeq (sV 9 (cE c_parted (aC (oV (slE dSl (oV (vE 8)) (sN) (sS (o2E dSub (oV (oAE dLen (aC (oV (vE 8)) (aN)))) (oV (oAE dLen (aC (oV (vE 5)) (aN)))))))) (aC (oV (vE 4)) (aN)))))
   (sI (tA (tV (o2E dIsNot (oV (vE 9)) (oV (kE .non)))) (tV (o3E dLe dLe (oV (kE (.int 2))) (oV (oAE dLen (aC (oV (vE 9)) (aN)))) (oV (kE (.int 7)))))) (sAp 6 (oV (o2E dAdd (oV (vE 9)) (oV (fE (lF (aC (oV (slE dSl (oV (vE 1)) (sS (vE 7)) (sN))) (aN)))))))) (sNil))) (sNil))
   (sR (zE 6))
noncomputable def R_unlaid_2 : EvS :=
   sSeq (sI (tN (tT (oV (cE c_is_thing_text (aC (oV (slE dSl (oV (vE 1)) (sS (vE 7)) (sN))) (aN)))))) (sR (zE 6)) (sNil))
   (sSeq (sI (tA (tT (oV (mE "str" dEnds (oV (vE 8)) (aC (oV (vE 3)) (aN))))) (tT (oV (cE c_is_thing_text (aC (oV (slE dSl (oV (vE 8)) (sN) (sS (o2E dSub (oV (oAE dLen (aC (oV (vE 8)) (aN)))) (oV (oAE dLen (aC (oV (vE 3)) (aN)))))))) (aN)))))) (sAp 6 (oV (fE (lF (aC (oV (slE dSl (oV (vE 8)) (sN) (sS (o2E dSub (oV (oAE dLen (aC (oV (vE 8)) (aN)))) (oV (oAE dLen (aC (oV (vE 3)) (aN)))))))) (aC (oV (slE dSl (oV (vE 1)) (sS (vE 7)) (sN))) (aN))))))) (sNil))
   (R_unlaid_1))
noncomputable def b_unlaid : EvS :=
   sSeq (sG (gT 4 (gC (gV 2) (gC (gV 3) (gC (gV 4) (gC (gV 5) (gN)))))) (vE 0))
   (sSeq (sO 6 (lF (aN)))
   (sSeq (sI (tV (o2E dEq (oV (vE 1)) (oV (vE 2)))) (sAp 6 (oV (fE (lF (aN))))) (sNil))
   (sSeq (sI (tT (oV (cE c_is_thing_text (aC (oV (vE 1)) (aN))))) (sAp 6 (oV (fE (lF (aC (oV (vE 1)) (aN)))))) (sNil))
   (sSeq (sV 7 (o2E dSub (oV (oAE dLen (aC (oV (vE 1)) (aN)))) (oV (cE c_last_letters (aC (oV (vE 1)) (aN))))))
   (sSeq (sV 8 (slE dSl (oV (vE 1)) (sN) (sS (vE 7))))
   (R_unlaid_2))))))
noncomputable def c_unlaid : CallT := runB 10 b_unlaid
abbrev s_law : Stmt := topS 23
abbrev N_law : List Str := ["_law_script", "_law_way", "_law_joiners_here", "_law_texts_here", "_law_text", "_law_due", "_law_found", "_law_long", "_law_told", "_law_one"]
theorem sc_law : FnScope N_law ["_law_script"] (defScope s_law) := ⟨rfl, rfl, rfl, by decide +kernel, rfl, by decide +kernel, by decide +kernel⟩
noncomputable def L_law_1 : EvS :=
   sSeq (sI (tO (tN (tT (oV (cE c__law_is_list (aC (oV (vE 8)) (aN)))))) (tO (tV (o2E dLe (oV (oAE dLen (aC (oV (vE 8)) (aN)))) (oV (vE 7)))) (tV (o2E dNe (oV (cE c__law_laid (aC (oV (vE 2)) (aC (oV (vE 8)) (aN))))) (oV (vE 4)))))) (sR (kE (.bl false))) (sNil))
   (sV 7 (oAE dLen (aC (oV (vE 8)) (aN))))
noncomputable def E_law_1 : Ev D :=
   vE 9
noncomputable def T_law_1 : Ev Bool :=
   tV (o2E dNotIn (oV (vE 9)) (oV (vE 6)))
noncomputable def R_law_1 : EvS :=
   sSeq (sV 6 (cE c_unlaid (aC (oV (vE 2)) (aC (oV (vE 4)) (aN)))))
   (sSeq (sI (tN (tT (oV (oAE dIsI (aC (oV (vE 6)) (aC (oV (kE (.ty "list"))) (aN))))))) (sR (kE (.bl false))) (sNil))
   (sSeq (sV 7 (o1E dNeg (oV (kE (.int 1)))))
   (sSeq (sF (iE (vE 6)) (gV 8) (L_law_1))
   (sR (o2E dEq (oV (fE (lcF (iE (zE 5)) (gV 9) [9] (T_law_1) (E_law_1)))) (oV (fE (lF (aN)))))))))
noncomputable def R_law_2 : EvS :=
   sSeq (sV 4 (cE c__law_spoiled (aC (oV (cE c__law_laid (aC (oV (vE 2)) (aC (oV (vE 3)) (aN))))) (aC (oV (cE c__law_cell_at (aC (oV (vE 0)) (aC (oV (kE (.int 10))) (aN))))) (aC (oV (cE c__law_sign (aC (oV (cE c__law_cell_at (aC (oV (vE 0)) (aC (oV (kE (.int 11))) (aN))))) (aC (oV (kE (.bl true))) (aN))))) (aN))))))
   (sSeq (sO 5 (coE c__law_sure (aC (oV (vE 2)) (aC (oV (vE 4)) (aN)))))
   (sSeq (sI (tA (tT (oV (cE c__law_is_list (aC (oV (vE 3)) (aN))))) (tV (o2E dEq (oV (cE c__law_laid (aC (oV (vE 2)) (aC (oV (vE 3)) (aN))))) (oV (vE 4))))) (sAp 5 (oV (vE 3))) (sNil))
   (R_law_1)))
noncomputable def b_law : EvS :=
   sSeq (sV 0 (cE c__law_cells (aC (oV (vE 0)) (aN))))
   (sSeq (sV 1 (o2E dMod (oV (cE c__law_cell_at (aC (oV (vE 0)) (aC (oV (kE (.int 9))) (aN))))) (oV (kE (.int 4)))))
   (sSeq (sV 2 (cE c__law_joiners (aC (oV (vE 0)) (aC (oV (vE 1)) (aN)))))
   (sSeq (sV 3 (cE c__law_texts (aC (oV (vE 0)) (aN))))
   (sSeq (sI (tV (o2E dEq (oV (vE 1)) (oV (kE (.int 3))))) (sV 2 (cE c__law_none_too (aC (oV (vE 2)) (aC (oV (vE 3)) (aN))))) (sNil))
   (R_law_2)))))
noncomputable def c_law : CallT := runB 10 b_law
section
variable {P : Program} {w : World} {K : PySem.W.Frag} {mg : Str → Option Value} {base : Heap}
theorem ok__law_cell_at (hB : Bl mg) {f : Addr} {fd : FuncData} (F : Fun K "_law_cell_at" "_law_cell_at" s__law_cell_at f fd) (hm : mg "_law_cell_at" = some (.ref f)) : Def P w K mg base 2 "_law_cell_at" 2 c__law_cell_at :=
  def_ok (N := N__law_cell_at) (ps := ["_law_script", "_law_k"]) F sc__law_cell_at (F.binds (ps := ["_law_script", "_law_k"]) fun _ _ _ _ _ _ us hl => match us, hl with | [_, _], _ => rfl) hm fun cdv A outer s H E W hr tk pw => by
    have hu := hr.units
    have hu5 : (A.deeper (envOfC "_law_cell_at" (defScope s__law_cell_at) s.heap.objs.size f cdv)).units + 65 < cLine := by have := hr.un; omega
    exact (dss_c (ds_i (dt_cmp opR_lt op_dCmp (do_v (de_v (pv 1))) (do_v (de_cb call_len op_dLen hB.len (da_c (do_v (de_v (pv 0))) da_n))) (nomark _)) (dss_1 (ds_r (de_ix ix_seq op_dIx (do_v (de_v (pv 0))) (do_v (de_v (pv 1)))))) dss_n)
   (dss_1 (ds_r de_int)))
theorem ok__law_rich (hB : Bl mg) {f : Addr} {fd : FuncData} (F : Fun K "_law_rich" "_law_rich" s__law_rich f fd) (hm : mg "_law_rich" = some (.ref f)) : Def P w K mg base 2 "_law_rich" 1 c__law_rich :=
  def_ok (N := N__law_rich) (ps := ["_law_cell"]) F sc__law_rich (F.binds (ps := ["_law_cell"]) fun _ _ _ _ _ _ us hl => match us, hl with | [_], _ => rfl) hm fun cdv A outer s H E W hr tk pw => by
    have hu := hr.units
    have hu5 : (A.deeper (envOfC "_law_rich" (defScope s__law_rich) s.heap.objs.size f cdv)).units + 65 < cLine := by have := hr.un; omega
    exact (dss_c (ds_v (i := 1) sc__law_rich.nd de_int)
   (dss_c (ds_v (i := 2) sc__law_rich.nd (de_bin op_mod op_dMod (do_v (de_v (pv 0))) (do_v de_int)))
   (dss_c (ds_f pw rfl (di_r1 hB.range (da_c (do_v de_int) da_n)) (dg_v (i := 3) sc__law_rich.nd) (dss_c (ds_v (i := 2) sc__law_rich.nd (de_bin op_mod op_dMod (do_v (de_bin opR_add op_dAdd (do_v (de_bin opR_add op_dAdd (do_v (de_bin opR_mul op_dMul (do_v (de_v (pv 2))) (do_v de_int))) (do_v de_int))) (do_v (de_bin opR_mul op_dMul (do_v (de_v (pv 3))) (do_v (de_v (pv 3))))))) (do_v de_int)))
   (dss_1 (ds_v (i := 1) sc__law_rich.nd (de_bin opR_add op_dAdd (do_v (de_bin opR_mul op_dMul (do_v (de_v (pv 1))) (do_v de_int))) (do_v (de_bin op_mod op_dMod (do_v (de_bin opR_mul op_dMul (do_v (de_v (pv 2))) (do_v (de_v (pv 2))))) (do_v de_int))))))))
   (dss_1 (ds_r (de_v (pv 1)))))))
theorem ok__law_cells (hB : Bl mg) {f : Addr} {fd : FuncData} (F : Fun K "_law_cells" "_law_cells" s__law_cells f fd) (hm : mg "_law_cells" = some (.ref f)) (d__law_cell_at : Def P w K mg base 2 "_law_cell_at" 2 c__law_cell_at) (d__law_rich : Def P w K mg base 2 "_law_rich" 1 c__law_rich) : Def P w K mg base 3 "_law_cells" 1 c__law_cells :=
  def_ok (N := N__law_cells) (ps := ["_law_script"]) F sc__law_cells (F.binds (ps := ["_law_script"]) fun _ _ _ _ _ _ us hl => match us, hl with | [_], _ => rfl) hm fun cdv A outer s H E W hr tk pw => by
    have hu := hr.units
    have hu5 : (A.deeper (envOfC "_law_cells" (defScope s__law_cells) s.heap.objs.size f cdv)).units + 65 < cLine := by have := hr.un; omega
    have d__law_cell_at := d__law_cell_at.mono (j := 2) (by omega)
    have d__law_rich := d__law_rich.mono (j := 2) (by omega)
    exact (dss_c (ds_o (i := 1) sc__law_cells.nd (df_l da_n))
   (dss_c (ds_f pw rfl (di_r1 hB.range (da_c (do_v (de_cb (call_max2 rfl) op_dMax hB.max (da_c (do_v de_int) (da_c (do_v (de_cb call_len op_dLen hB.len (da_c (do_v (de_v (pv 0))) da_n))) da_n)))) da_n)) (dg_v (i := 2) sc__law_cells.nd) (dss_c (ds_v (i := 3) sc__law_cells.nd (de_c d__law_cell_at hr tk (da_c (do_v (de_v (pv 0))) (da_c (do_v (de_v (pv 2))) da_n))))
   (dss_c (ds_i (dt_cmp opR_lt op_dCmp (do_v (de_cb call_abs op_dAbs hB.abs (da_c (do_v (de_v (pv 3))) da_n))) (do_v (de_bin op_powW op_dPow (do_v de_int) (do_v de_int))) (nomark _)) (dss_1 (ds_v (i := 3) sc__law_cells.nd (de_c d__law_rich hr tk (da_c (do_v (de_bin opR_add op_dAdd (do_v (de_v (pv 3))) (do_v (de_v (pv 2))))) da_n)))) dss_n)
   (dss_1 (ds_ap (pv 1) (do_v (de_v (pv 3))))))))
   (dss_1 (ds_r (de_z (pv 1))))))
theorem ok__law_sign (hB : Bl mg) {f : Addr} {fd : FuncData} (F : Fun K "_law_sign" "_law_sign" s__law_sign f fd) (hm : mg "_law_sign" = some (.ref f)) : Def P w K mg base 2 "_law_sign" 2 c__law_sign :=
  def_ok (N := N__law_sign) (ps := ["_law_cell", "_law_all_signs"]) F sc__law_sign (F.binds (ps := ["_law_cell", "_law_all_signs"]) fun _ _ _ _ _ _ us hl => match us, hl with | [_, _], _ => rfl) hm fun cdv A outer s H E W hr tk pw => by
    have hu := hr.units
    have hu5 : (A.deeper (envOfC "_law_sign" (defScope s__law_sign) s.heap.objs.size f cdv)).units + 65 < cLine := by have := hr.un; omega
    exact (dss_c (ds_v (i := 2) sc__law_sign.nd (de_str [32, 33, 34, 35, 36, 38, 39, 40, 41, 42, 43, 44, 45, 46, 47, 48, 49, 50, 51, 52, 53, 54, 55, 56, 57, 58, 59, 60, 61, 62, 63, 64, 92, 94, 95, 96, 124, 126]))
   (dss_c (ds_v (i := 3) sc__law_sign.nd (de_str [97, 98, 99, 100, 101, 102, 103, 104, 105, 106, 107, 108, 109, 110, 111, 112, 113, 114, 115, 116, 117, 118, 119, 120, 121, 122, 65, 66, 67, 68, 69, 70, 71, 72, 73, 74, 75, 76, 77, 78, 79, 80, 81, 82, 83, 84, 85, 86, 87, 88, 89, 90]))
   (dss_c (ds_i (dt_w (dw_a (dt_t (do_v (de_v (pv 1)))) (dw_1a (dt_cmp opR_gt op_dCmp (do_v (de_bin op_mod op_dMod (do_v (de_v (pv 0))) (do_v de_int))) (do_v de_int) (nomark _))))) (dss_1 (ds_r (de_ix ix_seq op_dIx (do_v (de_v (pv 3))) (do_v (de_bin op_mod op_dMod (do_v (de_bin op_fdivW op_dFdiv (do_v (de_v (pv 0))) (do_v de_int))) (do_v de_int)))))) dss_n)
   (dss_1 (ds_r (de_ix ix_seq op_dIx (do_v (de_v (pv 2))) (do_v (de_bin op_mod op_dMod (do_v (de_bin op_fdivW op_dFdiv (do_v (de_v (pv 0))) (do_v de_int))) (do_v de_int)))))))))
theorem ok__law_signs (hB : Bl mg) {f : Addr} {fd : FuncData} (F : Fun K "_law_signs" "_law_signs" s__law_signs f fd) (hm : mg "_law_signs" = some (.ref f)) (d__law_sign : Def P w K mg base 2 "_law_sign" 2 c__law_sign) : Def P w K mg base 3 "_law_signs" 2 c__law_signs :=
  def_ok (N := N__law_signs) (ps := ["_law_cell", "_law_many"]) F sc__law_signs (F.binds (ps := ["_law_cell", "_law_many"]) fun _ _ _ _ _ _ us hl => match us, hl with | [_, _], _ => rfl) hm fun cdv A outer s H E W hr tk pw => by
    have hu := hr.units
    have hu5 : (A.deeper (envOfC "_law_signs" (defScope s__law_signs) s.heap.objs.size f cdv)).units + 65 < cLine := by have := hr.un; omega
    have d__law_sign := d__law_sign.mono (j := 2) (by omega)
    exact (dss_c (ds_v (i := 2) sc__law_signs.nd (de_str []))
   (dss_c (ds_f pw rfl (di_r1 hB.range (da_c (do_v (de_v (pv 1))) da_n)) (dg_v (i := 3) sc__law_signs.nd) (dss_c (ds_v (i := 2) sc__law_signs.nd (de_bin opR_add op_dAdd (do_v (de_v (pv 2))) (do_v (de_c d__law_sign hr tk (da_c (do_v (de_bin op_mod op_dMod (do_v (de_v (pv 0))) (do_v de_int))) (da_c (do_v de_bl) da_n))))))
   (dss_1 (ds_v (i := 0) sc__law_signs.nd (de_bin op_fdivW op_dFdiv (do_v (de_v (pv 0))) (do_v de_int))))))
   (dss_1 (ds_r (de_v (pv 2))))))
theorem ok__law_joiner (hB : Bl mg) {f : Addr} {fd : FuncData} (F : Fun K "_law_joiner" "_law_joiner" s__law_joiner f fd) (hm : mg "_law_joiner" = some (.ref f)) (d__law_sign : Def P w K mg base 2 "_law_sign" 2 c__law_sign) (d__law_signs : Def P w K mg base 3 "_law_signs" 2 c__law_signs) : Def P w K mg base 4 "_law_joiner" 3 c__law_joiner :=
  def_ok (N := N__law_joiner) (ps := ["_law_one", "_law_other", "_law_most"]) F sc__law_joiner (F.binds (ps := ["_law_one", "_law_other", "_law_most"]) fun _ _ _ _ _ _ us hl => match us, hl with | [_, _, _], _ => rfl) hm fun cdv A outer s H E W hr tk pw => by
    have hu := hr.units
    have hu5 : (A.deeper (envOfC "_law_joiner" (defScope s__law_joiner) s.heap.objs.size f cdv)).units + 65 < cLine := by have := hr.un; omega
    have d__law_sign := d__law_sign.mono (j := 3) (by omega)
    have d__law_signs := d__law_signs.mono (j := 3) (by omega)
    exact (dss_c (ds_v (i := 3) sc__law_joiner.nd (de_c d__law_sign hr tk (da_c (do_v (de_bin op_fdivW op_dFdiv (do_v (de_v (pv 0))) (do_v de_int))) (da_c (do_v de_bl) da_n))))
   (dss_c (ds_v (i := 4) sc__law_joiner.nd (de_bin op_mod op_dMod (do_v (de_bin op_mod op_dMod (do_v (de_v (pv 0))) (do_v de_int))) (do_v (de_v (pv 2)))))
   (dss_c (ds_i (dt_cmp opR_gt op_dCmp (do_v (de_v (pv 4))) (do_v de_int) (nomark _)) (dss_1 (ds_v (i := 3) sc__law_joiner.nd (de_bin opR_add op_dAdd (do_v (de_bin opR_add op_dAdd (do_v (de_v (pv 3))) (do_v (de_c d__law_signs hr tk (da_c (do_v (de_v (pv 1))) (da_c (do_v (de_bin op_sub op_dSub (do_v (de_v (pv 4))) (do_v de_int))) da_n)))))) (do_v (de_c d__law_sign hr tk (da_c (do_v (de_bin op_fdivW op_dFdiv (do_v (de_v (pv 0))) (do_v de_int))) (da_c (do_v de_bl) da_n))))))) dss_n)
   (dss_1 (ds_r (de_v (pv 3)))))))
theorem ok__law_letters (hB : Bl mg) {f : Addr} {fd : FuncData} (F : Fun K "_law_letters" "_law_letters" s__law_letters f fd) (hm : mg "_law_letters" = some (.ref f)) : Def P w K mg base 2 "_law_letters" 2 c__law_letters :=
  def_ok (N := N__law_letters) (ps := ["_law_cell", "_law_many"]) F sc__law_letters (F.binds (ps := ["_law_cell", "_law_many"]) fun _ _ _ _ _ _ us hl => match us, hl with | [_, _], _ => rfl) hm fun cdv A outer s H E W hr tk pw => by
    have hu := hr.units
    have hu5 : (A.deeper (envOfC "_law_letters" (defScope s__law_letters) s.heap.objs.size f cdv)).units + 65 < cLine := by have := hr.un; omega
    exact (dss_c (ds_v (i := 2) sc__law_letters.nd (de_str [97, 98, 99, 100, 101, 102, 103, 104, 105, 106, 107, 108, 109, 110, 111, 112, 113, 114, 115, 116, 117, 118, 119, 120, 121, 122, 65, 66, 67, 68, 69, 70, 71, 72, 73, 74, 75, 76, 77, 78, 79, 80, 81, 82, 83, 84, 85, 86, 87, 88, 89, 90]))
   (dss_c (ds_v (i := 3) sc__law_letters.nd (de_str []))
   (dss_c (ds_f pw rfl (di_r1 hB.range (da_c (do_v (de_v (pv 1))) da_n)) (dg_v (i := 4) sc__law_letters.nd) (dss_c (ds_v (i := 3) sc__law_letters.nd (de_bin opR_add op_dAdd (do_v (de_v (pv 3))) (do_v (de_ix ix_seq op_dIx (do_v (de_v (pv 2))) (do_v (de_bin op_mod op_dMod (do_v (de_v (pv 0))) (do_v de_int)))))))
   (dss_1 (ds_v (i := 0) sc__law_letters.nd (de_bin op_fdivW op_dFdiv (do_v (de_v (pv 0))) (do_v de_int))))))
   (dss_1 (ds_r (de_v (pv 3)))))))
theorem ok__law_joiners (hB : Bl mg) {f : Addr} {fd : FuncData} (F : Fun K "_law_joiners" "_law_joiners" s__law_joiners f fd) (hm : mg "_law_joiners" = some (.ref f)) (d__law_cell_at : Def P w K mg base 2 "_law_cell_at" 2 c__law_cell_at) (d__law_signs : Def P w K mg base 3 "_law_signs" 2 c__law_signs) (d__law_joiner : Def P w K mg base 4 "_law_joiner" 3 c__law_joiner) (d__law_letters : Def P w K mg base 2 "_law_letters" 2 c__law_letters) (d__law_sign : Def P w K mg base 2 "_law_sign" 2 c__law_sign) : Def P w K mg base 5 "_law_joiners" 2 c__law_joiners :=
  def_ok (N := N__law_joiners) (ps := ["_law_script", "_law_way"]) F sc__law_joiners (F.binds (ps := ["_law_script", "_law_way"]) fun _ _ _ _ _ _ us hl => match us, hl with | [_, _], _ => rfl) hm fun cdv A outer s H E W hr tk pw => by
    have hu := hr.units
    have hu5 : (A.deeper (envOfC "_law_joiners" (defScope s__law_joiners) s.heap.objs.size f cdv)).units + 65 < cLine := by have := hr.un; omega
    have d__law_cell_at := d__law_cell_at.mono (j := 4) (by omega)
    have d__law_signs := d__law_signs.mono (j := 4) (by omega)
    have d__law_joiner := d__law_joiner.mono (j := 4) (by omega)
    have d__law_letters := d__law_letters.mono (j := 4) (by omega)
    have d__law_sign := d__law_sign.mono (j := 4) (by omega)
    exact (dss_c (ds_v (i := 2) sc__law_joiners.nd (de_c d__law_signs hr tk (da_c (do_v (de_c d__law_cell_at hr tk (da_c (do_v (de_v (pv 0))) (da_c (do_v de_int) da_n)))) (da_c (do_v (de_bin op_mod op_dMod (do_v (de_c d__law_cell_at hr tk (da_c (do_v (de_v (pv 0))) (da_c (do_v de_int) da_n)))) (do_v de_int))) da_n))))
   (dss_c (ds_o (i := 3) sc__law_joiners.nd (df_l da_n))
   (dss_c (ds_f pw rfl (di_r1 hB.range (da_c (do_v de_int) da_n)) (dg_v (i := 4) sc__law_joiners.nd) (dss_c (ds_v (i := 5) sc__law_joiners.nd (de_ix ix_seq op_dIx (do_v (de_f (df_l (da_c (do_v de_int) (da_c (do_v de_int) (da_c (do_v de_int) da_n)))))) (do_v (de_bin opR_add op_dAdd (do_v (de_ct opR_int op_dInt hB.int (da_c (do_v (de_cmp (op_eqD hu) op_dEq (do_v (de_v (pv 1))) (do_v de_int) (nomark _))) da_n))) (do_v (de_ct opR_int op_dInt hB.int (da_c (do_v (de_a (de_cmp (op_eqD hu) op_dEq (do_v (de_v (pv 1))) (do_v de_int) (nomark _)) (de_1 (de_cmp opR_gt op_dCmp (do_v (de_v (pv 4))) (do_v de_int) (nomark _))))) da_n)))))))
   (dss_1 (ds_ap (pv 3) (do_v (de_c d__law_joiner hr tk (da_c (do_v (de_c d__law_cell_at hr tk (da_c (do_v (de_v (pv 0))) (da_c (do_v (de_bin opR_add op_dAdd (do_v de_int) (do_v (de_bin opR_mul op_dMul (do_v de_int) (do_v (de_v (pv 4))))))) da_n)))) (da_c (do_v (de_c d__law_cell_at hr tk (da_c (do_v (de_v (pv 0))) (da_c (do_v (de_bin opR_add op_dAdd (do_v de_int) (do_v (de_bin opR_mul op_dMul (do_v de_int) (do_v (de_v (pv 4))))))) da_n)))) (da_c (do_v (de_v (pv 5))) da_n)))))))))
   (dss_c (ds_i (dt_cmp (op_eqD hu) op_dEq (do_v (de_v (pv 1))) (do_v de_int) (nomark _)) (dss_1 (ds_set (pv 3) de_int (de_bin opR_add op_dAdd (do_v (de_bin opR_add op_dAdd (do_v (de_ix ix_seq op_dIx (do_s (pv 3)) (do_v de_int))) (do_v (de_c d__law_letters hr tk (da_c (do_v (de_c d__law_cell_at hr tk (da_c (do_v (de_v (pv 0))) (da_c (do_v de_int) da_n)))) (da_c (do_v (de_bin opR_add op_dAdd (do_v de_int) (do_v (de_bin op_mod op_dMod (do_v (de_c d__law_cell_at hr tk (da_c (do_v (de_v (pv 0))) (da_c (do_v de_int) da_n)))) (do_v de_int))))) da_n)))))) (do_v (de_ix ix_seq op_dIx (do_s (pv 3)) (do_v de_int)))))) dss_n)
   (dss_c (ds_i (dt_cmp (op_eqD hu) op_dEq (do_v (de_v (pv 1))) (do_v de_int) (nomark _)) (dss_c (ds_set (pv 3) de_int (de_sl sl_all op_dSl (do_v (de_bin opR_add op_dAdd (do_v (de_ix ix_seq op_dIx (do_s (pv 3)) (do_v de_int))) (do_v (de_c d__law_signs hr tk (da_c (do_v (de_c d__law_cell_at hr tk (da_c (do_v (de_v (pv 0))) (da_c (do_v de_int) da_n)))) (da_c (do_v (de_bin op_mod op_dMod (do_v (de_c d__law_cell_at hr tk (da_c (do_v (de_v (pv 0))) (da_c (do_v de_int) da_n)))) (do_v de_int))) da_n)))))) dp_n (dp_s de_int)))
   (dss_c (ds_set (pv 3) de_int (de_bin opR_add op_dAdd (do_v (de_ix ix_seq op_dIx (do_s (pv 3)) (do_v de_int))) (do_v (de_c d__law_sign hr tk (da_c (do_v (de_c d__law_cell_at hr tk (da_c (do_v (de_v (pv 0))) (da_c (do_v de_int) da_n)))) (da_c (do_v de_bl) da_n))))))
   (dss_1 (ds_i (dt_cmp (op_eqD hu) op_dEq (do_v (de_bin op_mod op_dMod (do_v (de_c d__law_cell_at hr tk (da_c (do_v (de_v (pv 0))) (da_c (do_v de_int) da_n)))) (do_v de_int))) (do_v de_int) (nomark _)) (dss_1 (ds_set (pv 3) de_int (de_ix ix_seq op_dIx (do_s (pv 3)) (do_v de_int)))) dss_n)))) dss_n)
   (dss_1 (ds_r (de_p (da_c (do_v (de_v (pv 2))) (da_c (do_v (de_ix ix_seq op_dIx (do_s (pv 3)) (do_v de_int))) (da_c (do_v (de_ix ix_seq op_dIx (do_s (pv 3)) (do_v de_int))) (da_c (do_v (de_ix ix_seq op_dIx (do_s (pv 3)) (do_v de_int))) da_n))))))))))))
theorem ok__law_texts (hB : Bl mg) {f : Addr} {fd : FuncData} (F : Fun K "_law_texts" "_law_texts" s__law_texts f fd) (hm : mg "_law_texts" = some (.ref f)) (d__law_cell_at : Def P w K mg base 2 "_law_cell_at" 2 c__law_cell_at) (d__law_letters : Def P w K mg base 2 "_law_letters" 2 c__law_letters) : Def P w K mg base 3 "_law_texts" 1 c__law_texts :=
  def_ok (N := N__law_texts) (ps := ["_law_script"]) F sc__law_texts (F.binds (ps := ["_law_script"]) fun _ _ _ _ _ _ us hl => match us, hl with | [_], _ => rfl) hm fun cdv A outer s H E W hr tk pw => by
    have hu := hr.units
    have hu5 : (A.deeper (envOfC "_law_texts" (defScope s__law_texts) s.heap.objs.size f cdv)).units + 65 < cLine := by have := hr.un; omega
    have d__law_cell_at := d__law_cell_at.mono (j := 2) (by omega)
    have d__law_letters := d__law_letters.mono (j := 2) (by omega)
    exact (dss_c (ds_v (i := 1) sc__law_texts.nd (de_bin op_mod op_dMod (do_v (de_c d__law_cell_at hr tk (da_c (do_v (de_v (pv 0))) (da_c (do_v de_int) da_n)))) (do_v de_int)))
   (dss_c (ds_o (i := 2) sc__law_texts.nd (df_l da_n))
   (dss_c (ds_f pw rfl (di_e (de_sl sl_all op_dSl (do_v (de_v (pv 0))) (dp_s de_int) (dp_s (de_bin opR_add op_dAdd (do_v de_int) (do_v (de_v (pv 1))))))) (dg_v (i := 3) sc__law_texts.nd) (dss_c (ds_v (i := 4) sc__law_texts.nd (de_bin opR_add op_dAdd (do_v de_int) (do_v (de_bin op_mod op_dMod (do_v (de_bin op_fdivW op_dFdiv (do_v (de_v (pv 3))) (do_v de_int))) (do_v de_int)))))
   (dss_c (ds_i (dt_cmp (op_eqD hu) op_dEq (do_v (de_bin op_mod op_dMod (do_v (de_v (pv 3))) (do_v de_int))) (do_v de_int) (nomark _)) (dss_1 (ds_v (i := 4) sc__law_texts.nd (de_bin opR_add op_dAdd (do_v de_int) (do_v (de_bin op_mod op_dMod (do_v (de_bin op_fdivW op_dFdiv (do_v (de_v (pv 3))) (do_v de_int))) (do_v de_int)))))) dss_n)
   (dss_c (ds_i (dt_cmp (op_eqD hu) op_dEq (do_v (de_bin op_mod op_dMod (do_v (de_v (pv 3))) (do_v de_int))) (do_v de_int) (nomark _)) (dss_1 (ds_v (i := 4) sc__law_texts.nd de_int)) dss_n)
   (dss_1 (ds_ap (pv 2) (do_v (de_c d__law_letters hr tk (da_c (do_v (de_bin op_fdivW op_dFdiv (do_v (de_v (pv 3))) (do_v de_int))) (da_c (do_v (de_v (pv 4))) da_n))))))))))
   (dss_1 (ds_r (de_z (pv 2)))))))
theorem ok__law_laid (hB : Bl mg) {f : Addr} {fd : FuncData} (F : Fun K "_law_laid" "_law_laid" s__law_laid f fd) (hm : mg "_law_laid" = some (.ref f)) : Def P w K mg base 2 "_law_laid" 2 c__law_laid :=
  def_ok (N := N__law_laid) (ps := ["_law_joiners_here", "_law_texts_here"]) F sc__law_laid (F.binds (ps := ["_law_joiners_here", "_law_texts_here"]) fun _ _ _ _ _ _ us hl => match us, hl with | [_, _], _ => rfl) hm fun cdv A outer s H E W hr tk pw => by
    have hu := hr.units
    have hu5 : (A.deeper (envOfC "_law_laid" (defScope s__law_laid) s.heap.objs.size f cdv)).units + 65 < cLine := by have := hr.un; omega
    exact (dss_c (ds_i (dt_cmp (op_eqD hu) op_dEq (do_v (de_v (pv 1))) (do_v (de_f (df_l da_n))) (nomark _)) (dss_1 (ds_r (de_ix ix_seq op_dIx (do_v (de_v (pv 0))) (do_v de_int)))) dss_n)
   (dss_c (ds_v (i := 2) sc__law_laid.nd (de_ix ix_seq op_dIx (do_v (de_v (pv 1))) (do_v de_int)))
   (dss_c (ds_f pw rfl (di_r2 hB.range (da_c (do_v de_int) (da_c (do_v (de_cb call_len op_dLen hB.len (da_c (do_v (de_v (pv 1))) da_n))) da_n))) (dg_v (i := 3) sc__law_laid.nd) (dss_c (ds_v (i := 4) sc__law_laid.nd (de_ix ix_seq op_dIx (do_v (de_v (pv 0))) (do_v de_int)))
   (dss_c (ds_i (dt_cmp (op_eqD hu) op_dEq (do_v (de_v (pv 3))) (do_v (de_bin op_sub op_dSub (do_v (de_cb call_len op_dLen hB.len (da_c (do_v (de_v (pv 1))) da_n))) (do_v de_int))) (nomark _)) (dss_1 (ds_v (i := 4) sc__law_laid.nd (de_ix ix_seq op_dIx (do_v (de_v (pv 0))) (do_v de_int)))) dss_n)
   (dss_c (ds_i (dt_cmp (op_eqD hu) op_dEq (do_v (de_cb call_len op_dLen hB.len (da_c (do_v (de_v (pv 1))) da_n))) (do_v de_int) (nomark _)) (dss_1 (ds_v (i := 4) sc__law_laid.nd (de_ix ix_seq op_dIx (do_v (de_v (pv 0))) (do_v de_int)))) dss_n)
   (dss_1 (ds_v (i := 2) sc__law_laid.nd (de_bin opR_add op_dAdd (do_v (de_bin opR_add op_dAdd (do_v (de_v (pv 2))) (do_v (de_v (pv 4))))) (do_v (de_ix ix_seq op_dIx (do_v (de_v (pv 1))) (do_v (de_v (pv 3))))))))))))
   (dss_1 (ds_r (de_v (pv 2)))))))
theorem ok__law_none_too (hB : Bl mg) {f : Addr} {fd : FuncData} (F : Fun K "_law_none_too" "_law_none_too" s__law_none_too f fd) (hm : mg "_law_none_too" = some (.ref f)) (d__law_laid : Def P w K mg base 2 "_law_laid" 2 c__law_laid) : Def P w K mg base 3 "_law_none_too" 2 c__law_none_too :=
  def_ok (N := N__law_none_too) (ps := ["_law_joiners_here", "_law_texts_here"]) F sc__law_none_too (F.binds (ps := ["_law_joiners_here", "_law_texts_here"]) fun _ _ _ _ _ _ us hl => match us, hl with | [_, _], _ => rfl) hm fun cdv A outer s H E W hr tk pw => by
    have hu := hr.units
    have hu5 : (A.deeper (envOfC "_law_none_too" (defScope s__law_none_too) s.heap.objs.size f cdv)).units + 65 < cLine := by have := hr.un; omega
    have d__law_laid := d__law_laid.mono (j := 2) (by omega)
    exact (dss_1 (ds_r (de_p (da_c (do_v (de_sl sl_all op_dSl (do_v (de_c d__law_laid hr tk (da_c (do_v (de_v (pv 0))) (da_c (do_v (de_v (pv 1))) da_n)))) dp_n (dp_s de_int))) (da_c (do_v (de_ix ix_seq op_dIx (do_v (de_v (pv 0))) (do_v de_int))) (da_c (do_v (de_ix ix_seq op_dIx (do_v (de_v (pv 0))) (do_v de_int))) (da_c (do_v (de_ix ix_seq op_dIx (do_v (de_v (pv 0))) (do_v de_int))) da_n)))))))
theorem ok__law_spoiled (hB : Bl mg) {f : Addr} {fd : FuncData} (F : Fun K "_law_spoiled" "_law_spoiled" s__law_spoiled f fd) (hm : mg "_law_spoiled" = some (.ref f)) : Def P w K mg base 2 "_law_spoiled" 3 c__law_spoiled :=
  def_ok (N := N__law_spoiled) (ps := ["_law_text", "_law_cell", "_law_sign_here"]) F sc__law_spoiled (F.binds (ps := ["_law_text", "_law_cell", "_law_sign_here"]) fun _ _ _ _ _ _ us hl => match us, hl with | [_, _, _], _ => rfl) hm fun cdv A outer s H E W hr tk pw => by
    have hu := hr.units
    have hu5 : (A.deeper (envOfC "_law_spoiled" (defScope s__law_spoiled) s.heap.objs.size f cdv)).units + 65 < cLine := by have := hr.un; omega
    exact (dss_c (ds_v (i := 3) sc__law_spoiled.nd (de_bin op_mod op_dMod (do_v (de_bin op_fdivW op_dFdiv (do_v (de_v (pv 1))) (do_v de_int))) (do_v (de_bin opR_add op_dAdd (do_v (de_cb call_len op_dLen hB.len (da_c (do_v (de_v (pv 0))) da_n))) (do_v de_int)))))
   (dss_c (ds_i (dt_cmp (op_eqD hu) op_dEq (do_v (de_bin op_mod op_dMod (do_v (de_v (pv 1))) (do_v de_int))) (do_v de_int) (nomark _)) (dss_1 (ds_r (de_bin opR_add op_dAdd (do_v (de_sl sl_all op_dSl (do_v (de_v (pv 0))) dp_n (dp_s (de_v (pv 3))))) (do_v (de_sl sl_all op_dSl (do_v (de_v (pv 0))) (dp_s (de_bin opR_add op_dAdd (do_v (de_v (pv 3))) (do_v de_int))) dp_n))))) dss_n)
   (dss_c (ds_i (dt_cmp (op_eqD hu) op_dEq (do_v (de_bin op_mod op_dMod (do_v (de_v (pv 1))) (do_v de_int))) (do_v de_int) (nomark _)) (dss_1 (ds_r (de_bin opR_add op_dAdd (do_v (de_bin opR_add op_dAdd (do_v (de_sl sl_all op_dSl (do_v (de_v (pv 0))) dp_n (dp_s (de_v (pv 3))))) (do_v (de_v (pv 2))))) (do_v (de_sl sl_all op_dSl (do_v (de_v (pv 0))) (dp_s (de_v (pv 3))) dp_n))))) dss_n)
   (dss_c (ds_i (dt_cmp (op_eqD hu) op_dEq (do_v (de_bin op_mod op_dMod (do_v (de_v (pv 1))) (do_v de_int))) (do_v de_int) (nomark _)) (dss_1 (ds_r (de_bin opR_add op_dAdd (do_v (de_bin opR_add op_dAdd (do_v (de_sl sl_all op_dSl (do_v (de_v (pv 0))) dp_n (dp_s (de_v (pv 3))))) (do_v (de_v (pv 2))))) (do_v (de_sl sl_all op_dSl (do_v (de_v (pv 0))) (dp_s (de_bin opR_add op_dAdd (do_v (de_v (pv 3))) (do_v de_int))) dp_n))))) dss_n)
   (dss_c (ds_i (dt_cmp (op_eqD hu) op_dEq (do_v (de_bin op_mod op_dMod (do_v (de_v (pv 1))) (do_v de_int))) (do_v de_int) (nomark _)) (dss_1 (ds_r (de_sl sl_all op_dSl (do_v (de_v (pv 0))) dp_n (dp_s (de_v (pv 3)))))) dss_n)
   (dss_1 (ds_r (de_v (pv 0)))))))))
theorem ok__law_is_text (hB : Bl mg) {f : Addr} {fd : FuncData} (F : Fun K "_law_is_text" "_law_is_text" s__law_is_text f fd) (hm : mg "_law_is_text" = some (.ref f)) : Def P w K mg base 2 "_law_is_text" 1 c__law_is_text :=
  def_ok (N := N__law_is_text) (ps := ["_law_text"]) F sc__law_is_text (F.binds (ps := ["_law_text"]) fun _ _ _ _ _ _ us hl => match us, hl with | [_], _ => rfl) hm fun cdv A outer s H E W hr tk pw => by
    have hu := hr.units
    have hu5 : (A.deeper (envOfC "_law_is_text" (defScope s__law_is_text) s.heap.objs.size f cdv)).units + 65 < cLine := by have := hr.un; omega
    exact (dss_c (ds_v (i := 1) sc__law_is_text.nd (de_str [97, 98, 99, 100, 101, 102, 103, 104, 105, 106, 107, 108, 109, 110, 111, 112, 113, 114, 115, 116, 117, 118, 119, 120, 121, 122, 65, 66, 67, 68, 69, 70, 71, 72, 73, 74, 75, 76, 77, 78, 79, 80, 81, 82, 83, 84, 85, 86, 87, 88, 89, 90]))
   (dss_c (ds_i (dt_w (dw_o (dt_n (dt_t (do_v (de_cb call_isi op_dIsI hB.isinstance (da_c (do_v (de_v (pv 0))) (da_c (do_v (de_ty hB.str)) da_n)))))) (dw_o (dt_cmp opR_lt op_dCmp (do_v (de_cb call_len op_dLen hB.len (da_c (do_v (de_v (pv 0))) da_n))) (do_v de_int) (nomark _)) (dw_1o (dt_cmp opR_gt op_dCmp (do_v (de_cb call_len op_dLen hB.len (da_c (do_v (de_v (pv 0))) da_n))) (do_v de_int) (nomark _)))))) (dss_1 (ds_r de_bl)) dss_n)
   (dss_1 (ds_r (de_cmp (op_eqD hu) op_dEq (do_v (de_f (df_lc [("_law_sign_here", 2)] rfl sc__law_is_text.nd (blkOk_by (N := N__law_is_text) (sc := defScope s__law_is_text) (by decide +kernel)) (di_e (de_v (pv 0))) (tgB_v (by decide)) (fun _ _ _ _ _ => (pg_name (i := 2) sc__law_is_text.nd rfl (Or.inl rfl) (by first | exact .inl rfl | exact .inr rfl))) (fun _ _ _ _ _ _ => (dts_1 (dt_cmp (opR_notIn hu5) op_dNotIn (do_v (de_v (pv 2))) (do_v (de_v (pv 1))) (by with_unfolding_all rfl)))) (fun _ _ _ _ _ _ => (de_v (pv 2)))))) (do_v (de_f (df_l da_n))) (nomark _))))))
theorem ok__law_is_list (hB : Bl mg) {f : Addr} {fd : FuncData} (F : Fun K "_law_is_list" "_law_is_list" s__law_is_list f fd) (hm : mg "_law_is_list" = some (.ref f)) (d__law_is_text : Def P w K mg base 2 "_law_is_text" 1 c__law_is_text) : Def P w K mg base 3 "_law_is_list" 1 c__law_is_list :=
  def_ok (N := N__law_is_list) (ps := ["_law_texts_here"]) F sc__law_is_list (F.binds (ps := ["_law_texts_here"]) fun _ _ _ _ _ _ us hl => match us, hl with | [_], _ => rfl) hm fun cdv A outer s H E W hr tk pw => by
    have hu := hr.units
    have hu5 : (A.deeper (envOfC "_law_is_list" (defScope s__law_is_list) s.heap.objs.size f cdv)).units + 65 < cLine := by have := hr.un; omega
    have d__law_is_text := d__law_is_text.mono (j := 2) (by omega)
    exact (dss_c (ds_i (dt_w (dw_o (dt_n (dt_t (do_v (de_cb call_isi op_dIsI hB.isinstance (da_c (do_v (de_v (pv 0))) (da_c (do_v (de_ty hB.list)) da_n)))))) (dw_1o (dt_cmp opR_gt op_dCmp (do_v (de_cb call_len op_dLen hB.len (da_c (do_v (de_v (pv 0))) da_n))) (do_v de_int) (nomark _))))) (dss_1 (ds_r de_bl)) dss_n)
   (dss_1 (ds_r (de_cmp (op_eqD hu) op_dEq (do_v (de_f (df_lc [("_law_text", 1)] rfl sc__law_is_list.nd (blkOk_by (N := N__law_is_list) (sc := defScope s__law_is_list) (by decide +kernel)) (di_e (de_v (pv 0))) (tgB_v (by decide)) (fun _ _ _ _ _ => (pg_name (i := 1) sc__law_is_list.nd rfl (Or.inl rfl) (by first | exact .inl rfl | exact .inr rfl))) (fun _ _ _ _ _ _ => (dts_1 (dt_n (dt_t (do_v (de_c d__law_is_text hr takes0 (da_c (do_v (de_v (pv 1))) da_n))))))) (fun _ _ _ _ _ _ => (de_v (pv 1)))))) (do_v (de_f (df_l da_n))) (nomark _)))))
theorem ok__law_sure (hB : Bl mg) {f : Addr} {fd : FuncData} (F : Fun K "_law_sure" "_law_sure" s__law_sure f fd) (hm : mg "_law_sure" = some (.ref f)) (d__law_is_text : Def P w K mg base 2 "_law_is_text" 1 c__law_is_text) (d__law_is_list : Def P w K mg base 3 "_law_is_list" 1 c__law_is_list) (d__law_laid : Def P w K mg base 2 "_law_laid" 2 c__law_laid) : DefO P w K mg base 4 "_law_sure" 2 c__law_sure :=
  defo_ok (N := N__law_sure) (ps := ["_law_joiners_here", "_law_text"]) F sc__law_sure (F.binds (ps := ["_law_joiners_here", "_law_text"]) fun _ _ _ _ _ _ us hl => match us, hl with | [_, _], _ => rfl) hm fun B cdv A outer s H E W hr tk pw => by
    have hu := hr.units
    have hu5 : (A.deeper (envOfC "_law_sure" (defScope s__law_sure) s.heap.objs.size f cdv)).units + 65 < cLine := by have := hr.un; omega
    have d__law_is_text := d__law_is_text.mono (j := 3) (by omega)
    have d__law_is_list := d__law_is_list.mono (j := 3) (by omega)
    have d__law_laid := d__law_laid.mono (j := 3) (by omega)
    exact (dss_c (ds_o (i := 2) sc__law_sure.nd (df_l da_n))
   (dss_c (ds_v (i := 3) sc__law_sure.nd (de_sl sl_all op_dSl (do_v (de_ix ix_seq op_dIx (do_v (de_v (pv 0))) (do_v de_int))) (dp_s (de_cb call_len op_dLen hB.len (da_c (do_v (de_ix ix_seq op_dIx (do_v (de_v (pv 0))) (do_v de_int))) da_n))) (dp_s (de_bin op_sub op_dSub (do_v (de_cb call_len op_dLen hB.len (da_c (do_v (de_ix ix_seq op_dIx (do_v (de_v (pv 0))) (do_v de_int))) da_n))) (do_v (de_cb call_len op_dLen hB.len (da_c (do_v (de_ix ix_seq op_dIx (do_v (de_v (pv 0))) (do_v de_int))) da_n)))))))
   (dss_c (ds_i (dt_cmp (op_eqD hu) op_dEq (do_v (de_v (pv 1))) (do_v (de_ix ix_seq op_dIx (do_v (de_v (pv 0))) (do_v de_int))) (nomark _)) (dss_1 (ds_ap (pv 2) (do_v (de_f (df_l da_n))))) dss_n)
   (dss_c (ds_i (dt_t (do_v (de_c d__law_is_text hr tk (da_c (do_v (de_v (pv 1))) da_n)))) (dss_1 (ds_ap (pv 2) (do_v (de_f (df_l (da_c (do_v (de_v (pv 1))) da_n)))))) dss_n)
   (dss_c (ds_f pw rfl (di_r1 hB.range (da_c (do_v (de_cb call_len op_dLen hB.len (da_c (do_v (de_v (pv 1))) da_n))) da_n)) (dg_v (i := 4) sc__law_sure.nd) (dss_c (ds_v (i := 5) sc__law_sure.nd (de_f (df_l (da_c (do_v (de_sl sl_all op_dSl (do_v (de_v (pv 1))) dp_n (dp_s (de_v (pv 4))))) (da_c (do_v (de_sl sl_all op_dSl (do_v (de_v (pv 1))) (dp_s (de_bin opR_add op_dAdd (do_v (de_v (pv 4))) (do_v (de_cb call_len op_dLen hB.len (da_c (do_v (de_ix ix_seq op_dIx (do_v (de_v (pv 0))) (do_v de_int))) da_n))))) dp_n)) da_n)))))
   (dss_1 (ds_i (dt_w (dw_a (dt_cmp (op_eqD hu) op_dEq (do_v (de_sl sl_all op_dSl (do_v (de_v (pv 1))) (dp_s (de_v (pv 4))) (dp_s (de_bin opR_add op_dAdd (do_v (de_v (pv 4))) (do_v (de_cb call_len op_dLen hB.len (da_c (do_v (de_ix ix_seq op_dIx (do_v (de_v (pv 0))) (do_v de_int))) da_n))))))) (do_v (de_ix ix_seq op_dIx (do_v (de_v (pv 0))) (do_v de_int))) (nomark _)) (dw_1a (dt_t (do_v (de_c d__law_is_list hr tk (da_c (do_v (de_v (pv 5))) da_n))))))) (dss_c (ds_ap (pv 2) (do_v (de_v (pv 5))))
   (dss_c (ds_v (i := 6) sc__law_sure.nd (de_f (df_l (da_c (do_v (de_ix ix_seq op_dIx (do_v (de_v (pv 5))) (do_v de_int))) (da_c (do_v (de_v (pv 3))) (da_c (do_v (de_ix ix_seq op_dIx (do_v (de_v (pv 5))) (do_v de_int))) da_n))))))
   (dss_1 (ds_i (dt_w (dw_a (dt_t (do_v (de_c d__law_is_list hr tk (da_c (do_v (de_v (pv 6))) da_n)))) (dw_1a (dt_cmp (op_eqD hu) op_dEq (do_v (de_c d__law_laid hr tk (da_c (do_v (de_v (pv 0))) (da_c (do_v (de_v (pv 6))) da_n)))) (do_v (de_v (pv 1))) (nomark _))))) (dss_1 (ds_ap (pv 2) (do_v (de_v (pv 6))))) dss_n)))) dss_n))))
   (dss_1 (ds_ro (df_z (pv 2)))))))))
theorem ok_first_letters (hB : Bl mg) {f : Addr} {fd : FuncData} (F : Fun K "first_letters" "first_letters" s_first_letters f fd) (hm : mg "first_letters" = some (.ref f)) {t_LETTERS : Tok} (hc_LETTERS : mg "LETTERS" = some (.str (tx k_LETTERS) t_LETTERS)) : Def P w K mg base 2 "first_letters" 1 c_first_letters :=
  def_ok (N := N_first_letters) (ps := ["text"]) F sc_first_letters (F.binds (ps := ["text"]) fun _ _ _ _ _ _ us hl => match us, hl with | [_], _ => rfl) hm fun cdv A outer s H E W hr tk pw => by
    have hu := hr.units
    have hu5 : (A.deeper (envOfC "first_letters" (defScope s_first_letters) s.heap.objs.size f cdv)).units + 65 < cLine := by have := hr.un; omega
    exact (dss_c (ds_v (i := 1) sc_first_letters.nd de_int)
   (dss_c (ds_f pw rfl (di_e (de_v (pv 0))) (dg_v (i := 2) sc_first_letters.nd) (dss_c (ds_i (dt_cmp (opR_notIn hu5) op_dNotIn (do_v (de_v (pv 2))) (do_v (de_gs hc_LETTERS ok_k_LETTERS)) (by with_unfolding_all rfl)) (dss_1 ds_bk) dss_n)
   (dss_1 (ds_aug (i := 1) ip_add op_dAddI sc_first_letters.nd (do_v de_int)))))
   (dss_1 (ds_r (de_v (pv 1))))))
theorem ok_is_thing_text (hB : Bl mg) {f : Addr} {fd : FuncData} (F : Fun K "is_thing_text" "is_thing_text" s_is_thing_text f fd) (hm : mg "is_thing_text" = some (.ref f)) (d_first_letters : Def P w K mg base 2 "first_letters" 1 c_first_letters) : Def P w K mg base 3 "is_thing_text" 1 c_is_thing_text :=
  def_ok (N := N_is_thing_text) (ps := ["text"]) F sc_is_thing_text (F.binds (ps := ["text"]) fun _ _ _ _ _ _ us hl => match us, hl with | [_], _ => rfl) hm fun cdv A outer s H E W hr tk pw => by
    have hu := hr.units
    have hu5 : (A.deeper (envOfC "is_thing_text" (defScope s_is_thing_text) s.heap.objs.size f cdv)).units + 65 < cLine := by have := hr.un; omega
    have d_first_letters := d_first_letters.mono (j := 2) (by omega)
    exact (dss_1 (ds_r (de_a (de_chain opR_lt op_dCmp opR_le op_dCmp (do_v de_int) (do_v (de_cb call_len op_dLen hB.len (da_c (do_v (de_v (pv 0))) da_n))) (do_v de_int)) (de_1 (de_cmp (op_eqD hu) op_dEq (do_v (de_c d_first_letters hr tk (da_c (do_v (de_v (pv 0))) da_n))) (do_v (de_cb call_len op_dLen hB.len (da_c (do_v (de_v (pv 0))) da_n))) (nomark _))))))
theorem ok_last_letters (hB : Bl mg) {f : Addr} {fd : FuncData} (F : Fun K "last_letters" "last_letters" s_last_letters f fd) (hm : mg "last_letters" = some (.ref f)) {t_LETTERS : Tok} (hc_LETTERS : mg "LETTERS" = some (.str (tx k_LETTERS) t_LETTERS)) : Def P w K mg base 2 "last_letters" 1 c_last_letters :=
  def_ok (N := N_last_letters) (ps := ["text"]) F sc_last_letters (F.binds (ps := ["text"]) fun _ _ _ _ _ _ us hl => match us, hl with | [_], _ => rfl) hm fun cdv A outer s H E W hr tk pw => by
    have hu := hr.units
    have hu5 : (A.deeper (envOfC "last_letters" (defScope s_last_letters) s.heap.objs.size f cdv)).units + 65 < cLine := by have := hr.un; omega
    exact (dss_c (ds_v (i := 1) sc_last_letters.nd de_int)
   (dss_c (ds_f pw rfl (di_vs hB.reversed (de_v (pv 0))) (dg_v (i := 2) sc_last_letters.nd) (dss_c (ds_i (dt_cmp (opR_notIn hu5) op_dNotIn (do_v (de_v (pv 2))) (do_v (de_gs hc_LETTERS ok_k_LETTERS)) (by with_unfolding_all rfl)) (dss_1 ds_bk) dss_n)
   (dss_1 (ds_aug (i := 1) ip_add op_dAddI sc_last_letters.nd (do_v de_int)))))
   (dss_1 (ds_r (de_v (pv 1))))))
theorem ok_parted (hB : Bl mg) {f : Addr} {fd : FuncData} (F : Fun K "parted" "parted" s_parted f fd) (hm : mg "parted" = some (.ref f)) (d_first_letters : Def P w K mg base 2 "first_letters" 1 c_first_letters) (d_is_thing_text : Def P w K mg base 3 "is_thing_text" 1 c_is_thing_text) : Def P w K mg base 4 "parted" 2 c_parted :=
  def_ok (N := N_parted) (ps := ["text", "joiner"]) F sc_parted (F.binds (ps := ["text", "joiner"]) fun _ _ _ _ _ _ us hl => match us, hl with | [_, _], _ => rfl) hm fun cdv A outer s H E W hr tk pw => by
    have hu := hr.units
    have hu5 : (A.deeper (envOfC "parted" (defScope s_parted) s.heap.objs.size f cdv)).units + 65 < cLine := by have := hr.un; omega
    have d_first_letters := d_first_letters.mono (j := 3) (by omega)
    have d_is_thing_text := d_is_thing_text.mono (j := 3) (by omega)
    exact (dss_c (ds_o (i := 2) sc_parted.nd (df_l da_n))
   (dss_1 (ds_w pw (dt_t (do_v de_bl)) (dss_c (ds_v (i := 3) sc_parted.nd (de_c d_first_letters hr tk (da_c (do_v (de_v (pv 0))) da_n)))
   (dss_c (ds_i (dt_n (dt_t (do_v (de_c d_is_thing_text hr tk (da_c (do_v (de_sl sl_all op_dSl (do_v (de_v (pv 0))) dp_n (dp_s (de_v (pv 3))))) da_n))))) (dss_1 (ds_r de_non)) dss_n)
   (dss_c (ds_ap (pv 2) (do_v (de_sl sl_all op_dSl (do_v (de_v (pv 0))) dp_n (dp_s (de_v (pv 3))))))
   (dss_c (ds_v (i := 0) sc_parted.nd (de_sl sl_all op_dSl (do_v (de_v (pv 0))) (dp_s (de_v (pv 3))) dp_n))
   (dss_c (ds_i (dt_cmp (op_eqD hu) op_dEq (do_v (de_v (pv 0))) (do_v (de_str [])) (nomark _)) (dss_1 (ds_r (de_z (pv 2)))) dss_n)
   (dss_c (ds_i (dt_n (dt_t (do_v (de_m PySem.F.plainAttrs_str PySem.F.slot_str_startswith PySem.F.type_str_startswith mt_startswith op_dStarts (do_v (de_v (pv 0))) (da_c (do_v (de_v (pv 1))) da_n))))) (dss_1 (ds_r de_non)) dss_n)
   (dss_1 (ds_v (i := 0) sc_parted.nd (de_sl sl_all op_dSl (do_v (de_v (pv 0))) (dp_s (de_cb call_len op_dLen hB.len (da_c (do_v (de_v (pv 1))) da_n))) dp_n))))))))))))
theorem ok_unlaid (hB : Bl mg) {f : Addr} {fd : FuncData} (F : Fun K "unlaid" "unlaid" s_unlaid f fd) (hm : mg "unlaid" = some (.ref f)) (d_is_thing_text : Def P w K mg base 3 "is_thing_text" 1 c_is_thing_text) (d_last_letters : Def P w K mg base 2 "last_letters" 1 c_last_letters) (d_parted : Def P w K mg base 4 "parted" 2 c_parted) : Def P w K mg base 5 "unlaid" 2 c_unlaid :=
  def_ok (N := N_unlaid) (ps := ["joiners", "text"]) F sc_unlaid (F.binds (ps := ["joiners", "text"]) fun _ _ _ _ _ _ us hl => match us, hl with | [_, _], _ => rfl) hm fun cdv A outer s H E W hr tk pw => by
    have hu := hr.units
    have hu5 : (A.deeper (envOfC "unlaid" (defScope s_unlaid) s.heap.objs.size f cdv)).units + 65 < cLine := by have := hr.un; omega
    have d_is_thing_text := d_is_thing_text.mono (j := 4) (by omega)
    have d_last_letters := d_last_letters.mono (j := 4) (by omega)
    have d_parted := d_parted.mono (j := 4) (by omega)
    exact (dss_c (ds_g (de_v (pv 0)) (dg_t rfl (dgs_c (dg_v (i := 2) sc_unlaid.nd) (dgs_c (dg_v (i := 3) sc_unlaid.nd) (dgs_c (dg_v (i := 4) sc_unlaid.nd) (dgs_c (dg_v (i := 5) sc_unlaid.nd) dgs_n))))))
   (dss_c (ds_o (i := 6) sc_unlaid.nd (df_l da_n))
   (dss_c (ds_i (dt_cmp (op_eqD hu) op_dEq (do_v (de_v (pv 1))) (do_v (de_v (pv 2))) (nomark _)) (dss_1 (ds_ap (pv 6) (do_v (de_f (df_l da_n))))) dss_n)
   (dss_c (ds_i (dt_t (do_v (de_c d_is_thing_text hr tk (da_c (do_v (de_v (pv 1))) da_n)))) (dss_1 (ds_ap (pv 6) (do_v (de_f (df_l (da_c (do_v (de_v (pv 1))) da_n)))))) dss_n)
   (dss_c (ds_v (i := 7) sc_unlaid.nd (de_bin op_sub op_dSub (do_v (de_cb call_len op_dLen hB.len (da_c (do_v (de_v (pv 1))) da_n))) (do_v (de_c d_last_letters hr tk (da_c (do_v (de_v (pv 1))) da_n)))))
   (dss_c (ds_v (i := 8) sc_unlaid.nd (de_sl sl_all op_dSl (do_v (de_v (pv 1))) dp_n (dp_s (de_v (pv 7)))))
   (dss_c (ds_i (dt_n (dt_t (do_v (de_c d_is_thing_text hr tk (da_c (do_v (de_sl sl_all op_dSl (do_v (de_v (pv 1))) (dp_s (de_v (pv 7))) dp_n)) da_n))))) (dss_1 (ds_r (de_z (pv 6)))) dss_n)
   (dss_c (ds_i (dt_w (dw_a (dt_t (do_v (de_m PySem.F.plainAttrs_str PySem.F.slot_str_endswith PySem.F.type_str_endswith mt_endswith op_dEnds (do_v (de_v (pv 8))) (da_c (do_v (de_v (pv 3))) da_n)))) (dw_1a (dt_t (do_v (de_c d_is_thing_text hr tk (da_c (do_v (de_sl sl_all op_dSl (do_v (de_v (pv 8))) dp_n (dp_s (de_bin op_sub op_dSub (do_v (de_cb call_len op_dLen hB.len (da_c (do_v (de_v (pv 8))) da_n))) (do_v (de_cb call_len op_dLen hB.len (da_c (do_v (de_v (pv 3))) da_n))))))) da_n))))))) (dss_1 (ds_ap (pv 6) (do_v (de_f (df_l (da_c (do_v (de_sl sl_all op_dSl (do_v (de_v (pv 8))) dp_n (dp_s (de_bin op_sub op_dSub (do_v (de_cb call_len op_dLen hB.len (da_c (do_v (de_v (pv 8))) da_n))) (do_v (de_cb call_len op_dLen hB.len (da_c (do_v (de_v (pv 3))) da_n))))))) (da_c (do_v (de_sl sl_all op_dSl (do_v (de_v (pv 1))) (dp_s (de_v (pv 7))) dp_n)) da_n))))))) dss_n)
   (dss_c (ds_i (dt_t (do_v (de_m PySem.F.plainAttrs_str PySem.F.slot_str_endswith PySem.F.type_str_endswith mt_endswith op_dEnds (do_v (de_v (pv 8))) (da_c (do_v (de_v (pv 5))) da_n)))) (dss_c (ds_v (i := 9) sc_unlaid.nd (de_c d_parted hr tk (da_c (do_v (de_sl sl_all op_dSl (do_v (de_v (pv 8))) dp_n (dp_s (de_bin op_sub op_dSub (do_v (de_cb call_len op_dLen hB.len (da_c (do_v (de_v (pv 8))) da_n))) (do_v (de_cb call_len op_dLen hB.len (da_c (do_v (de_v (pv 5))) da_n))))))) (da_c (do_v (de_v (pv 4))) da_n))))
   (dss_1 (ds_i (dt_w (dw_a (dt_cmp opR_isNot op_dIsNot (do_v (de_v (pv 9))) (do_v de_non) (nomark _)) (dw_1a (dt_chain opR_le op_dCmp opR_le op_dCmp (do_v de_int) (do_v (de_cb call_len op_dLen hB.len (da_c (do_v (de_v (pv 9))) da_n))) (do_v de_int))))) (dss_1 (ds_ap (pv 6) (do_v (de_bin opR_add op_dAdd (do_v (de_v (pv 9))) (do_v (de_f (df_l (da_c (do_v (de_sl sl_all op_dSl (do_v (de_v (pv 1))) (dp_s (de_v (pv 7))) dp_n)) da_n)))))))) dss_n))) dss_n)
   (dss_1 (ds_r (de_z (pv 6)))))))))))))
theorem ok_law (hB : Bl mg) {f : Addr} {fd : FuncData} (F : Fun K "law" "law" s_law f fd) (d__law_cells : Def P w K mg base 3 "_law_cells" 1 c__law_cells) (d__law_cell_at : Def P w K mg base 2 "_law_cell_at" 2 c__law_cell_at) (d__law_joiners : Def P w K mg base 5 "_law_joiners" 2 c__law_joiners) (d__law_texts : Def P w K mg base 3 "_law_texts" 1 c__law_texts) (d__law_none_too : Def P w K mg base 3 "_law_none_too" 2 c__law_none_too) (d__law_sign : Def P w K mg base 2 "_law_sign" 2 c__law_sign) (d__law_laid : Def P w K mg base 2 "_law_laid" 2 c__law_laid) (d__law_spoiled : Def P w K mg base 2 "_law_spoiled" 3 c__law_spoiled) (d__law_sure : DefO P w K mg base 4 "_law_sure" 2 c__law_sure) (d__law_is_list : Def P w K mg base 3 "_law_is_list" 1 c__law_is_list) (d_unlaid : Def P w K mg base 5 "unlaid" 2 c_unlaid) : FnOk P w K mg base (L2.CX P w) 6 f fd ["_law_script"] (spOf ⟨K, mg⟩ 1 c_law) :=
  fn_ok (N := N_law) (ps := ["_law_script"]) F sc_law fun cdv A outer s H E W hr tk pw => by
    have hu := hr.units
    have hu5 : (A.deeper (envOfC "law" (defScope s_law) s.heap.objs.size f cdv)).units + 65 < cLine := by have := hr.un; omega
    have d__law_cells := d__law_cells.mono (j := 5) (by omega)
    have d__law_cell_at := d__law_cell_at.mono (j := 5) (by omega)
    have d__law_joiners := d__law_joiners.mono (j := 5) (by omega)
    have d__law_texts := d__law_texts.mono (j := 5) (by omega)
    have d__law_none_too := d__law_none_too.mono (j := 5) (by omega)
    have d__law_sign := d__law_sign.mono (j := 5) (by omega)
    have d__law_laid := d__law_laid.mono (j := 5) (by omega)
    have d__law_spoiled := d__law_spoiled.mono (j := 5) (by omega)
    have d__law_sure := d__law_sure.mono (j := 5) (by omega)
    have d__law_is_list := d__law_is_list.mono (j := 5) (by omega)
    have d_unlaid := d_unlaid.mono (j := 5) (by omega)
    exact (dss_c (ds_v (i := 0) sc_law.nd (de_c d__law_cells hr tk (da_c (do_v (de_v (pv 0))) da_n)))
   (dss_c (ds_v (i := 1) sc_law.nd (de_bin op_mod op_dMod (do_v (de_c d__law_cell_at hr tk (da_c (do_v (de_v (pv 0))) (da_c (do_v de_int) da_n)))) (do_v de_int)))
   (dss_c (ds_v (i := 2) sc_law.nd (de_c d__law_joiners hr tk (da_c (do_v (de_v (pv 0))) (da_c (do_v (de_v (pv 1))) da_n))))
   (dss_c (ds_v (i := 3) sc_law.nd (de_c d__law_texts hr tk (da_c (do_v (de_v (pv 0))) da_n)))
   (dss_c (ds_i (dt_cmp (op_eqD hu) op_dEq (do_v (de_v (pv 1))) (do_v de_int) (nomark _)) (dss_1 (ds_v (i := 2) sc_law.nd (de_c d__law_none_too hr tk (da_c (do_v (de_v (pv 2))) (da_c (do_v (de_v (pv 3))) da_n))))) dss_n)
   (dss_c (ds_v (i := 4) sc_law.nd (de_c d__law_spoiled hr tk (da_c (do_v (de_c d__law_laid hr tk (da_c (do_v (de_v (pv 2))) (da_c (do_v (de_v (pv 3))) da_n)))) (da_c (do_v (de_c d__law_cell_at hr tk (da_c (do_v (de_v (pv 0))) (da_c (do_v de_int) da_n)))) (da_c (do_v (de_c d__law_sign hr tk (da_c (do_v (de_c d__law_cell_at hr tk (da_c (do_v (de_v (pv 0))) (da_c (do_v de_int) da_n)))) (da_c (do_v de_bl) da_n)))) da_n)))))
   (dss_c (ds_o (i := 5) sc_law.nd (df_co d__law_sure hr tk (da_c (do_v (de_v (pv 2))) (da_c (do_v (de_v (pv 4))) da_n))))
   (dss_c (ds_i (dt_w (dw_a (dt_t (do_v (de_c d__law_is_list hr tk (da_c (do_v (de_v (pv 3))) da_n)))) (dw_1a (dt_cmp (op_eqD hu) op_dEq (do_v (de_c d__law_laid hr tk (da_c (do_v (de_v (pv 2))) (da_c (do_v (de_v (pv 3))) da_n)))) (do_v (de_v (pv 4))) (nomark _))))) (dss_1 (ds_ap (pv 5) (do_v (de_v (pv 3))))) dss_n)
   (dss_c (ds_v (i := 6) sc_law.nd (de_c d_unlaid hr tk (da_c (do_v (de_v (pv 2))) (da_c (do_v (de_v (pv 4))) da_n))))
   (dss_c (ds_i (dt_n (dt_t (do_v (de_cb call_isi op_dIsI hB.isinstance (da_c (do_v (de_v (pv 6))) (da_c (do_v (de_ty hB.list)) da_n)))))) (dss_1 (ds_r de_bl)) dss_n)
   (dss_c (ds_v (i := 7) sc_law.nd (de_un un_neg op_dNeg (do_v de_int)))
   (dss_c (ds_f pw rfl (di_e (de_v (pv 6))) (dg_v (i := 8) sc_law.nd) (dss_c (ds_i (dt_w (dw_o (dt_n (dt_t (do_v (de_c d__law_is_list hr tk (da_c (do_v (de_v (pv 8))) da_n))))) (dw_o (dt_cmp opR_le op_dCmp (do_v (de_cb call_len op_dLen hB.len (da_c (do_v (de_v (pv 8))) da_n))) (do_v (de_v (pv 7))) (nomark _)) (dw_1o (dt_cmp (op_neD hu) op_dNe (do_v (de_c d__law_laid hr tk (da_c (do_v (de_v (pv 2))) (da_c (do_v (de_v (pv 8))) da_n)))) (do_v (de_v (pv 4))) (nomark _)))))) (dss_1 (ds_r de_bl)) dss_n)
   (dss_1 (ds_v (i := 7) sc_law.nd (de_cb call_len op_dLen hB.len (da_c (do_v (de_v (pv 8))) da_n))))))
   (dss_1 (ds_r (de_cmp (op_eqD hu) op_dEq (do_v (de_f (df_lc [("_law_one", 9)] rfl sc_law.nd (blkOk_by (N := N_law) (sc := defScope s_law) (by decide +kernel)) (di_e (de_z (pv 5))) (tgB_v (by decide)) (fun _ _ _ _ _ => (pg_name (i := 9) sc_law.nd rfl (Or.inl rfl) (by first | exact .inl rfl | exact .inr rfl))) (fun _ _ _ _ _ _ => (dts_1 (dt_cmp (opR_notIn hu5) op_dNotIn (do_v (de_v (pv 9))) (do_v (de_v (pv 6))) (by with_unfolding_all rfl)))) (fun _ _ _ _ _ _ => (de_v (pv 9)))))) (do_v (de_f (df_l da_n))) (nomark _))))))))))))))))
end
-- levels: D:_law_cell_at=2 D:_law_rich=2 D:_law_cells=3 D:_law_sign=2 D:_law_signs=3 D:_law_joiner=4 D:_law_letters=2 D:_law_joiners=5 D:_law_texts=3 D:_law_laid=2 D:_law_none_too=3 D:_law_spoiled=2 D:_law_is_text=2 D:_law_is_list=3 D:_law_sure=4 D:first_letters=2 D:is_thing_text=3 D:last_letters=2 D:parted=4 D:unlaid=5 D:law=6
/-! ### the end -/
theorem all_mk {P : Program} {w : World} {K : PySem.W.Frag} {h : Heap} {mg : Str → Option Value} {fa : Addr} (hc : LawOk c_law) (X : K.In h) (G : h.Ns mainGlobals mg) (hfa : mg "law" = some (.ref fa)) {f__law_cell_at : Addr} {oc__law_cell_at kV__law_cell_at dc__law_cell_at pm__law_cell_at cd__law_cell_at ct__law_cell_at : Value} {od__law_cell_at an__law_cell_at : Option Addr} {sl__law_cell_at : Array (Option Value)} {f__law_rich : Addr} {oc__law_rich kV__law_rich dc__law_rich pm__law_rich cd__law_rich ct__law_rich : Value} {od__law_rich an__law_rich : Option Addr} {sl__law_rich : Array (Option Value)} {f__law_cells : Addr} {oc__law_cells kV__law_cells dc__law_cells pm__law_cells cd__law_cells ct__law_cells : Value} {od__law_cells an__law_cells : Option Addr} {sl__law_cells : Array (Option Value)} {f__law_sign : Addr} {oc__law_sign kV__law_sign dc__law_sign pm__law_sign cd__law_sign ct__law_sign : Value} {od__law_sign an__law_sign : Option Addr} {sl__law_sign : Array (Option Value)} {f__law_signs : Addr} {oc__law_signs kV__law_signs dc__law_signs pm__law_signs cd__law_signs ct__law_signs : Value} {od__law_signs an__law_signs : Option Addr} {sl__law_signs : Array (Option Value)} {f__law_joiner : Addr} {oc__law_joiner kV__law_joiner dc__law_joiner pm__law_joiner cd__law_joiner ct__law_joiner : Value} {od__law_joiner an__law_joiner : Option Addr} {sl__law_joiner : Array (Option Value)} {f__law_letters : Addr} {oc__law_letters kV__law_letters dc__law_letters pm__law_letters cd__law_letters ct__law_letters : Value} {od__law_letters an__law_letters : Option Addr} {sl__law_letters : Array (Option Value)} {f__law_joiners : Addr} {oc__law_joiners kV__law_joiners dc__law_joiners pm__law_joiners cd__law_joiners ct__law_joiners : Value} {od__law_joiners an__law_joiners : Option Addr} {sl__law_joiners : Array (Option Value)} {f__law_texts : Addr} {oc__law_texts kV__law_texts dc__law_texts pm__law_texts cd__law_texts ct__law_texts : Value} {od__law_texts an__law_texts : Option Addr} {sl__law_texts : Array (Option Value)} {f__law_laid : Addr} {oc__law_laid kV__law_laid dc__law_laid pm__law_laid cd__law_laid ct__law_laid : Value} {od__law_laid an__law_laid : Option Addr} {sl__law_laid : Array (Option Value)} {f__law_none_too : Addr} {oc__law_none_too kV__law_none_too dc__law_none_too pm__law_none_too cd__law_none_too ct__law_none_too : Value} {od__law_none_too an__law_none_too : Option Addr} {sl__law_none_too : Array (Option Value)} {f__law_spoiled : Addr} {oc__law_spoiled kV__law_spoiled dc__law_spoiled pm__law_spoiled cd__law_spoiled ct__law_spoiled : Value} {od__law_spoiled an__law_spoiled : Option Addr} {sl__law_spoiled : Array (Option Value)} {f__law_is_text : Addr} {oc__law_is_text kV__law_is_text dc__law_is_text pm__law_is_text cd__law_is_text ct__law_is_text : Value} {od__law_is_text an__law_is_text : Option Addr} {sl__law_is_text : Array (Option Value)} {f__law_is_list : Addr} {oc__law_is_list kV__law_is_list dc__law_is_list pm__law_is_list cd__law_is_list ct__law_is_list : Value} {od__law_is_list an__law_is_list : Option Addr} {sl__law_is_list : Array (Option Value)} {f__law_sure : Addr} {oc__law_sure kV__law_sure dc__law_sure pm__law_sure cd__law_sure ct__law_sure : Value} {od__law_sure an__law_sure : Option Addr} {sl__law_sure : Array (Option Value)} {f_first_letters : Addr} {oc_first_letters kV_first_letters dc_first_letters pm_first_letters cd_first_letters ct_first_letters : Value} {od_first_letters an_first_letters : Option Addr} {sl_first_letters : Array (Option Value)} {f_is_thing_text : Addr} {oc_is_thing_text kV_is_thing_text dc_is_thing_text pm_is_thing_text cd_is_thing_text ct_is_thing_text : Value} {od_is_thing_text an_is_thing_text : Option Addr} {sl_is_thing_text : Array (Option Value)} {f_last_letters : Addr} {oc_last_letters kV_last_letters dc_last_letters pm_last_letters cd_last_letters ct_last_letters : Value} {od_last_letters an_last_letters : Option Addr} {sl_last_letters : Array (Option Value)} {f_parted : Addr} {oc_parted kV_parted dc_parted pm_parted cd_parted ct_parted : Value} {od_parted an_parted : Option Addr} {sl_parted : Array (Option Value)} {f_unlaid : Addr} {oc_unlaid kV_unlaid dc_unlaid pm_unlaid cd_unlaid ct_unlaid : Value} {od_unlaid an_unlaid : Option Addr} {sl_unlaid : Array (Option Value)} {f_law : Addr} {oc_law kV_law dc_law pm_law cd_law ct_law : Value} {od_law an_law : Option Addr} {sl_law : Array (Option Value)} {t_LETTERS : Tok}
    (a__law_cell_at : PySem.W.nsIn K mainGlobals "_law_cell_at" = some (some (.ref f__law_cell_at)))
    (l__law_cell_at : K.lookup f__law_cell_at = some ⟨oc__law_cell_at, od__law_cell_at, .func (PySem.W.fnOf "_law_cell_at" "_law_cell_at" (defArgs s__law_cell_at) (defBody s__law_cell_at) (defScope s__law_cell_at) .none kV__law_cell_at dc__law_cell_at pm__law_cell_at an__law_cell_at cd__law_cell_at ct__law_cell_at), sl__law_cell_at⟩)
    (q__law_cell_at : PySem.W.codeIn K cd__law_cell_at "_law_cell_at" = true)
    (k__law_cell_at : PySem.W.keepIn K (.ref f__law_cell_at) = true)
    (a__law_rich : PySem.W.nsIn K mainGlobals "_law_rich" = some (some (.ref f__law_rich)))
    (l__law_rich : K.lookup f__law_rich = some ⟨oc__law_rich, od__law_rich, .func (PySem.W.fnOf "_law_rich" "_law_rich" (defArgs s__law_rich) (defBody s__law_rich) (defScope s__law_rich) .none kV__law_rich dc__law_rich pm__law_rich an__law_rich cd__law_rich ct__law_rich), sl__law_rich⟩)
    (q__law_rich : PySem.W.codeIn K cd__law_rich "_law_rich" = true)
    (k__law_rich : PySem.W.keepIn K (.ref f__law_rich) = true)
    (a__law_cells : PySem.W.nsIn K mainGlobals "_law_cells" = some (some (.ref f__law_cells)))
    (l__law_cells : K.lookup f__law_cells = some ⟨oc__law_cells, od__law_cells, .func (PySem.W.fnOf "_law_cells" "_law_cells" (defArgs s__law_cells) (defBody s__law_cells) (defScope s__law_cells) .none kV__law_cells dc__law_cells pm__law_cells an__law_cells cd__law_cells ct__law_cells), sl__law_cells⟩)
    (q__law_cells : PySem.W.codeIn K cd__law_cells "_law_cells" = true)
    (k__law_cells : PySem.W.keepIn K (.ref f__law_cells) = true)
    (a__law_sign : PySem.W.nsIn K mainGlobals "_law_sign" = some (some (.ref f__law_sign)))
    (l__law_sign : K.lookup f__law_sign = some ⟨oc__law_sign, od__law_sign, .func (PySem.W.fnOf "_law_sign" "_law_sign" (defArgs s__law_sign) (defBody s__law_sign) (defScope s__law_sign) .none kV__law_sign dc__law_sign pm__law_sign an__law_sign cd__law_sign ct__law_sign), sl__law_sign⟩)
    (q__law_sign : PySem.W.codeIn K cd__law_sign "_law_sign" = true)
    (k__law_sign : PySem.W.keepIn K (.ref f__law_sign) = true)
    (a__law_signs : PySem.W.nsIn K mainGlobals "_law_signs" = some (some (.ref f__law_signs)))
    (l__law_signs : K.lookup f__law_signs = some ⟨oc__law_signs, od__law_signs, .func (PySem.W.fnOf "_law_signs" "_law_signs" (defArgs s__law_signs) (defBody s__law_signs) (defScope s__law_signs) .none kV__law_signs dc__law_signs pm__law_signs an__law_signs cd__law_signs ct__law_signs), sl__law_signs⟩)
    (q__law_signs : PySem.W.codeIn K cd__law_signs "_law_signs" = true)
    (k__law_signs : PySem.W.keepIn K (.ref f__law_signs) = true)
    (a__law_joiner : PySem.W.nsIn K mainGlobals "_law_joiner" = some (some (.ref f__law_joiner)))
    (l__law_joiner : K.lookup f__law_joiner = some ⟨oc__law_joiner, od__law_joiner, .func (PySem.W.fnOf "_law_joiner" "_law_joiner" (defArgs s__law_joiner) (defBody s__law_joiner) (defScope s__law_joiner) .none kV__law_joiner dc__law_joiner pm__law_joiner an__law_joiner cd__law_joiner ct__law_joiner), sl__law_joiner⟩)
    (q__law_joiner : PySem.W.codeIn K cd__law_joiner "_law_joiner" = true)
    (k__law_joiner : PySem.W.keepIn K (.ref f__law_joiner) = true)
    (a__law_letters : PySem.W.nsIn K mainGlobals "_law_letters" = some (some (.ref f__law_letters)))
    (l__law_letters : K.lookup f__law_letters = some ⟨oc__law_letters, od__law_letters, .func (PySem.W.fnOf "_law_letters" "_law_letters" (defArgs s__law_letters) (defBody s__law_letters) (defScope s__law_letters) .none kV__law_letters dc__law_letters pm__law_letters an__law_letters cd__law_letters ct__law_letters), sl__law_letters⟩)
    (q__law_letters : PySem.W.codeIn K cd__law_letters "_law_letters" = true)
    (k__law_letters : PySem.W.keepIn K (.ref f__law_letters) = true)
    (a__law_joiners : PySem.W.nsIn K mainGlobals "_law_joiners" = some (some (.ref f__law_joiners)))
    (l__law_joiners : K.lookup f__law_joiners = some ⟨oc__law_joiners, od__law_joiners, .func (PySem.W.fnOf "_law_joiners" "_law_joiners" (defArgs s__law_joiners) (defBody s__law_joiners) (defScope s__law_joiners) .none kV__law_joiners dc__law_joiners pm__law_joiners an__law_joiners cd__law_joiners ct__law_joiners), sl__law_joiners⟩)
    (q__law_joiners : PySem.W.codeIn K cd__law_joiners "_law_joiners" = true)
    (k__law_joiners : PySem.W.keepIn K (.ref f__law_joiners) = true)
    (a__law_texts : PySem.W.nsIn K mainGlobals "_law_texts" = some (some (.ref f__law_texts)))
    (l__law_texts : K.lookup f__law_texts = some ⟨oc__law_texts, od__law_texts, .func (PySem.W.fnOf "_law_texts" "_law_texts" (defArgs s__law_texts) (defBody s__law_texts) (defScope s__law_texts) .none kV__law_texts dc__law_texts pm__law_texts an__law_texts cd__law_texts ct__law_texts), sl__law_texts⟩)
    (q__law_texts : PySem.W.codeIn K cd__law_texts "_law_texts" = true)
    (k__law_texts : PySem.W.keepIn K (.ref f__law_texts) = true)
    (a__law_laid : PySem.W.nsIn K mainGlobals "_law_laid" = some (some (.ref f__law_laid)))
    (l__law_laid : K.lookup f__law_laid = some ⟨oc__law_laid, od__law_laid, .func (PySem.W.fnOf "_law_laid" "_law_laid" (defArgs s__law_laid) (defBody s__law_laid) (defScope s__law_laid) .none kV__law_laid dc__law_laid pm__law_laid an__law_laid cd__law_laid ct__law_laid), sl__law_laid⟩)
    (q__law_laid : PySem.W.codeIn K cd__law_laid "_law_laid" = true)
    (k__law_laid : PySem.W.keepIn K (.ref f__law_laid) = true)
    (a__law_none_too : PySem.W.nsIn K mainGlobals "_law_none_too" = some (some (.ref f__law_none_too)))
    (l__law_none_too : K.lookup f__law_none_too = some ⟨oc__law_none_too, od__law_none_too, .func (PySem.W.fnOf "_law_none_too" "_law_none_too" (defArgs s__law_none_too) (defBody s__law_none_too) (defScope s__law_none_too) .none kV__law_none_too dc__law_none_too pm__law_none_too an__law_none_too cd__law_none_too ct__law_none_too), sl__law_none_too⟩)
    (q__law_none_too : PySem.W.codeIn K cd__law_none_too "_law_none_too" = true)
    (k__law_none_too : PySem.W.keepIn K (.ref f__law_none_too) = true)
    (a__law_spoiled : PySem.W.nsIn K mainGlobals "_law_spoiled" = some (some (.ref f__law_spoiled)))
    (l__law_spoiled : K.lookup f__law_spoiled = some ⟨oc__law_spoiled, od__law_spoiled, .func (PySem.W.fnOf "_law_spoiled" "_law_spoiled" (defArgs s__law_spoiled) (defBody s__law_spoiled) (defScope s__law_spoiled) .none kV__law_spoiled dc__law_spoiled pm__law_spoiled an__law_spoiled cd__law_spoiled ct__law_spoiled), sl__law_spoiled⟩)
    (q__law_spoiled : PySem.W.codeIn K cd__law_spoiled "_law_spoiled" = true)
    (k__law_spoiled : PySem.W.keepIn K (.ref f__law_spoiled) = true)
    (a__law_is_text : PySem.W.nsIn K mainGlobals "_law_is_text" = some (some (.ref f__law_is_text)))
    (l__law_is_text : K.lookup f__law_is_text = some ⟨oc__law_is_text, od__law_is_text, .func (PySem.W.fnOf "_law_is_text" "_law_is_text" (defArgs s__law_is_text) (defBody s__law_is_text) (defScope s__law_is_text) .none kV__law_is_text dc__law_is_text pm__law_is_text an__law_is_text cd__law_is_text ct__law_is_text), sl__law_is_text⟩)
    (q__law_is_text : PySem.W.codeIn K cd__law_is_text "_law_is_text" = true)
    (k__law_is_text : PySem.W.keepIn K (.ref f__law_is_text) = true)
    (a__law_is_list : PySem.W.nsIn K mainGlobals "_law_is_list" = some (some (.ref f__law_is_list)))
    (l__law_is_list : K.lookup f__law_is_list = some ⟨oc__law_is_list, od__law_is_list, .func (PySem.W.fnOf "_law_is_list" "_law_is_list" (defArgs s__law_is_list) (defBody s__law_is_list) (defScope s__law_is_list) .none kV__law_is_list dc__law_is_list pm__law_is_list an__law_is_list cd__law_is_list ct__law_is_list), sl__law_is_list⟩)
    (q__law_is_list : PySem.W.codeIn K cd__law_is_list "_law_is_list" = true)
    (k__law_is_list : PySem.W.keepIn K (.ref f__law_is_list) = true)
    (a__law_sure : PySem.W.nsIn K mainGlobals "_law_sure" = some (some (.ref f__law_sure)))
    (l__law_sure : K.lookup f__law_sure = some ⟨oc__law_sure, od__law_sure, .func (PySem.W.fnOf "_law_sure" "_law_sure" (defArgs s__law_sure) (defBody s__law_sure) (defScope s__law_sure) .none kV__law_sure dc__law_sure pm__law_sure an__law_sure cd__law_sure ct__law_sure), sl__law_sure⟩)
    (q__law_sure : PySem.W.codeIn K cd__law_sure "_law_sure" = true)
    (k__law_sure : PySem.W.keepIn K (.ref f__law_sure) = true)
    (a_first_letters : PySem.W.nsIn K mainGlobals "first_letters" = some (some (.ref f_first_letters)))
    (l_first_letters : K.lookup f_first_letters = some ⟨oc_first_letters, od_first_letters, .func (PySem.W.fnOf "first_letters" "first_letters" (defArgs s_first_letters) (defBody s_first_letters) (defScope s_first_letters) .none kV_first_letters dc_first_letters pm_first_letters an_first_letters cd_first_letters ct_first_letters), sl_first_letters⟩)
    (q_first_letters : PySem.W.codeIn K cd_first_letters "first_letters" = true)
    (k_first_letters : PySem.W.keepIn K (.ref f_first_letters) = true)
    (a_is_thing_text : PySem.W.nsIn K mainGlobals "is_thing_text" = some (some (.ref f_is_thing_text)))
    (l_is_thing_text : K.lookup f_is_thing_text = some ⟨oc_is_thing_text, od_is_thing_text, .func (PySem.W.fnOf "is_thing_text" "is_thing_text" (defArgs s_is_thing_text) (defBody s_is_thing_text) (defScope s_is_thing_text) .none kV_is_thing_text dc_is_thing_text pm_is_thing_text an_is_thing_text cd_is_thing_text ct_is_thing_text), sl_is_thing_text⟩)
    (q_is_thing_text : PySem.W.codeIn K cd_is_thing_text "is_thing_text" = true)
    (k_is_thing_text : PySem.W.keepIn K (.ref f_is_thing_text) = true)
    (a_last_letters : PySem.W.nsIn K mainGlobals "last_letters" = some (some (.ref f_last_letters)))
    (l_last_letters : K.lookup f_last_letters = some ⟨oc_last_letters, od_last_letters, .func (PySem.W.fnOf "last_letters" "last_letters" (defArgs s_last_letters) (defBody s_last_letters) (defScope s_last_letters) .none kV_last_letters dc_last_letters pm_last_letters an_last_letters cd_last_letters ct_last_letters), sl_last_letters⟩)
    (q_last_letters : PySem.W.codeIn K cd_last_letters "last_letters" = true)
    (k_last_letters : PySem.W.keepIn K (.ref f_last_letters) = true)
    (a_parted : PySem.W.nsIn K mainGlobals "parted" = some (some (.ref f_parted)))
    (l_parted : K.lookup f_parted = some ⟨oc_parted, od_parted, .func (PySem.W.fnOf "parted" "parted" (defArgs s_parted) (defBody s_parted) (defScope s_parted) .none kV_parted dc_parted pm_parted an_parted cd_parted ct_parted), sl_parted⟩)
    (q_parted : PySem.W.codeIn K cd_parted "parted" = true)
    (k_parted : PySem.W.keepIn K (.ref f_parted) = true)
    (a_unlaid : PySem.W.nsIn K mainGlobals "unlaid" = some (some (.ref f_unlaid)))
    (l_unlaid : K.lookup f_unlaid = some ⟨oc_unlaid, od_unlaid, .func (PySem.W.fnOf "unlaid" "unlaid" (defArgs s_unlaid) (defBody s_unlaid) (defScope s_unlaid) .none kV_unlaid dc_unlaid pm_unlaid an_unlaid cd_unlaid ct_unlaid), sl_unlaid⟩)
    (q_unlaid : PySem.W.codeIn K cd_unlaid "unlaid" = true)
    (k_unlaid : PySem.W.keepIn K (.ref f_unlaid) = true)
    (a_law : PySem.W.nsIn K mainGlobals "law" = some (some (.ref f_law)))
    (l_law : K.lookup f_law = some ⟨oc_law, od_law, .func (PySem.W.fnOf "law" "law" (defArgs s_law) (defBody s_law) (defScope s_law) .none kV_law dc_law pm_law an_law cd_law ct_law), sl_law⟩)
    (q_law : PySem.W.codeIn K cd_law "law" = true)
    (k_law : PySem.W.keepIn K (.ref f_law) = true)
    (z_len : PySem.W.nsIn K mainGlobals "len" = some none)
    (z_isinstance : PySem.W.nsIn K mainGlobals "isinstance" = some none)
    (z_str : PySem.W.nsIn K mainGlobals "str" = some none)
    (z_int : PySem.W.nsIn K mainGlobals "int" = some none)
    (z_bool : PySem.W.nsIn K mainGlobals "bool" = some none)
    (z_list : PySem.W.nsIn K mainGlobals "list" = some none)
    (z_tuple : PySem.W.nsIn K mainGlobals "tuple" = some none)
    (z_dict : PySem.W.nsIn K mainGlobals "dict" = some none)
    (z_set : PySem.W.nsIn K mainGlobals "set" = some none)
    (z_range : PySem.W.nsIn K mainGlobals "range" = some none)
    (z_enumerate : PySem.W.nsIn K mainGlobals "enumerate" = some none)
    (z_zip : PySem.W.nsIn K mainGlobals "zip" = some none)
    (z_reversed : PySem.W.nsIn K mainGlobals "reversed" = some none)
    (z_sorted : PySem.W.nsIn K mainGlobals "sorted" = some none)
    (z_sum : PySem.W.nsIn K mainGlobals "sum" = some none)
    (z_all : PySem.W.nsIn K mainGlobals "all" = some none)
    (z_any : PySem.W.nsIn K mainGlobals "any" = some none)
    (z_abs : PySem.W.nsIn K mainGlobals "abs" = some none)
    (z_max : PySem.W.nsIn K mainGlobals "max" = some none)
    (z_min : PySem.W.nsIn K mainGlobals "min" = some none)
    (z_ord : PySem.W.nsIn K mainGlobals "ord" = some none)
    (z_divmod : PySem.W.nsIn K mainGlobals "divmod" = some none)
    (z_repr : PySem.W.nsIn K mainGlobals "repr" = some none)
    (g_LETTERS : PySem.W.nsIn K mainGlobals "LETTERS" = some (some (.str (tx k_LETTERS) t_LETTERS))) :
    ∃ fd : FuncData, (∀ (s : Shared) (v : Value), BindsTo s fd ⟨[v], []⟩ [("_law_script", v)]) ∧ ∀ base : Heap, K.In base → base.Ns mainGlobals mg → FnOk P w K mg base (L2.CX P w) 6 fa fd ["_law_script"] (spLaw K) := by
  have e := hfa.symm.trans (PySem.W.mg_of X G a_law)
  cases e
  have hB : Bl mg := ⟨PySem.W.mg_none_of X G z_len, PySem.W.mg_none_of X G z_isinstance, PySem.W.mg_none_of X G z_str, PySem.W.mg_none_of X G z_int, PySem.W.mg_none_of X G z_bool, PySem.W.mg_none_of X G z_list, PySem.W.mg_none_of X G z_tuple, PySem.W.mg_none_of X G z_dict, PySem.W.mg_none_of X G z_set, PySem.W.mg_none_of X G z_range, PySem.W.mg_none_of X G z_enumerate, PySem.W.mg_none_of X G z_zip, PySem.W.mg_none_of X G z_reversed, PySem.W.mg_none_of X G z_sorted, PySem.W.mg_none_of X G z_sum, PySem.W.mg_none_of X G z_all, PySem.W.mg_none_of X G z_any, PySem.W.mg_none_of X G z_abs, PySem.W.mg_none_of X G z_max, PySem.W.mg_none_of X G z_min, PySem.W.mg_none_of X G z_ord, PySem.W.mg_none_of X G z_divmod, PySem.W.mg_none_of X G z_repr⟩
  have hc_LETTERS := PySem.W.mg_of X G g_LETTERS
  have F__law_cell_at := fun_mk (st := s__law_cell_at) l__law_cell_at q__law_cell_at k__law_cell_at
  have F__law_rich := fun_mk (st := s__law_rich) l__law_rich q__law_rich k__law_rich
  have F__law_cells := fun_mk (st := s__law_cells) l__law_cells q__law_cells k__law_cells
  have F__law_sign := fun_mk (st := s__law_sign) l__law_sign q__law_sign k__law_sign
  have F__law_signs := fun_mk (st := s__law_signs) l__law_signs q__law_signs k__law_signs
  have F__law_joiner := fun_mk (st := s__law_joiner) l__law_joiner q__law_joiner k__law_joiner
  have F__law_letters := fun_mk (st := s__law_letters) l__law_letters q__law_letters k__law_letters
  have F__law_joiners := fun_mk (st := s__law_joiners) l__law_joiners q__law_joiners k__law_joiners
  have F__law_texts := fun_mk (st := s__law_texts) l__law_texts q__law_texts k__law_texts
  have F__law_laid := fun_mk (st := s__law_laid) l__law_laid q__law_laid k__law_laid
  have F__law_none_too := fun_mk (st := s__law_none_too) l__law_none_too q__law_none_too k__law_none_too
  have F__law_spoiled := fun_mk (st := s__law_spoiled) l__law_spoiled q__law_spoiled k__law_spoiled
  have F__law_is_text := fun_mk (st := s__law_is_text) l__law_is_text q__law_is_text k__law_is_text
  have F__law_is_list := fun_mk (st := s__law_is_list) l__law_is_list q__law_is_list k__law_is_list
  have F__law_sure := fun_mk (st := s__law_sure) l__law_sure q__law_sure k__law_sure
  have F_first_letters := fun_mk (st := s_first_letters) l_first_letters q_first_letters k_first_letters
  have F_is_thing_text := fun_mk (st := s_is_thing_text) l_is_thing_text q_is_thing_text k_is_thing_text
  have F_last_letters := fun_mk (st := s_last_letters) l_last_letters q_last_letters k_last_letters
  have F_parted := fun_mk (st := s_parted) l_parted q_parted k_parted
  have F_unlaid := fun_mk (st := s_unlaid) l_unlaid q_unlaid k_unlaid
  have F_law := fun_mk (st := s_law) l_law q_law k_law
  refine ⟨PySem.W.fnOf "law" "law" (defArgs s_law) (defBody s_law) (defScope s_law) .none kV_law dc_law pm_law an_law cd_law ct_law, fun s v => .of_eq rfl, fun base _ _ => ?_⟩
  have d__law_cell_at : Def P w K mg base 2 "_law_cell_at" 2 c__law_cell_at := ok__law_cell_at hB F__law_cell_at (PySem.W.mg_of X G a__law_cell_at)
  have d__law_rich : Def P w K mg base 2 "_law_rich" 1 c__law_rich := ok__law_rich hB F__law_rich (PySem.W.mg_of X G a__law_rich)
  have d__law_cells : Def P w K mg base 3 "_law_cells" 1 c__law_cells := ok__law_cells hB F__law_cells (PySem.W.mg_of X G a__law_cells) d__law_cell_at d__law_rich
  have d__law_sign : Def P w K mg base 2 "_law_sign" 2 c__law_sign := ok__law_sign hB F__law_sign (PySem.W.mg_of X G a__law_sign)
  have d__law_signs : Def P w K mg base 3 "_law_signs" 2 c__law_signs := ok__law_signs hB F__law_signs (PySem.W.mg_of X G a__law_signs) d__law_sign
  have d__law_joiner : Def P w K mg base 4 "_law_joiner" 3 c__law_joiner := ok__law_joiner hB F__law_joiner (PySem.W.mg_of X G a__law_joiner) d__law_sign d__law_signs
  have d__law_letters : Def P w K mg base 2 "_law_letters" 2 c__law_letters := ok__law_letters hB F__law_letters (PySem.W.mg_of X G a__law_letters)
  have d__law_joiners : Def P w K mg base 5 "_law_joiners" 2 c__law_joiners := ok__law_joiners hB F__law_joiners (PySem.W.mg_of X G a__law_joiners) d__law_cell_at d__law_signs d__law_joiner d__law_letters d__law_sign
  have d__law_texts : Def P w K mg base 3 "_law_texts" 1 c__law_texts := ok__law_texts hB F__law_texts (PySem.W.mg_of X G a__law_texts) d__law_cell_at d__law_letters
  have d__law_laid : Def P w K mg base 2 "_law_laid" 2 c__law_laid := ok__law_laid hB F__law_laid (PySem.W.mg_of X G a__law_laid)
  have d__law_none_too : Def P w K mg base 3 "_law_none_too" 2 c__law_none_too := ok__law_none_too hB F__law_none_too (PySem.W.mg_of X G a__law_none_too) d__law_laid
  have d__law_spoiled : Def P w K mg base 2 "_law_spoiled" 3 c__law_spoiled := ok__law_spoiled hB F__law_spoiled (PySem.W.mg_of X G a__law_spoiled)
  have d__law_is_text : Def P w K mg base 2 "_law_is_text" 1 c__law_is_text := ok__law_is_text hB F__law_is_text (PySem.W.mg_of X G a__law_is_text)
  have d__law_is_list : Def P w K mg base 3 "_law_is_list" 1 c__law_is_list := ok__law_is_list hB F__law_is_list (PySem.W.mg_of X G a__law_is_list) d__law_is_text
  have d__law_sure : DefO P w K mg base 4 "_law_sure" 2 c__law_sure := ok__law_sure hB F__law_sure (PySem.W.mg_of X G a__law_sure) d__law_is_text d__law_is_list d__law_laid
  have d_first_letters : Def P w K mg base 2 "first_letters" 1 c_first_letters := ok_first_letters hB F_first_letters (PySem.W.mg_of X G a_first_letters) hc_LETTERS
  have d_is_thing_text : Def P w K mg base 3 "is_thing_text" 1 c_is_thing_text := ok_is_thing_text hB F_is_thing_text (PySem.W.mg_of X G a_is_thing_text) d_first_letters
  have d_last_letters : Def P w K mg base 2 "last_letters" 1 c_last_letters := ok_last_letters hB F_last_letters (PySem.W.mg_of X G a_last_letters) hc_LETTERS
  have d_parted : Def P w K mg base 4 "parted" 2 c_parted := ok_parted hB F_parted (PySem.W.mg_of X G a_parted) d_first_letters d_is_thing_text
  have d_unlaid : Def P w K mg base 5 "unlaid" 2 c_unlaid := ok_unlaid hB F_unlaid (PySem.W.mg_of X G a_unlaid) d_is_thing_text d_last_letters d_parted
  exact law_imp hc (ok_law hB F_law d__law_cells d__law_cell_at d__law_joiners d__law_texts d__law_none_too d__law_sign d__law_laid d__law_spoiled d__law_sure d__law_is_list d_unlaid)
end M

namespace DL
open PySem PySem.Spec PyProof.Rows L2
/-! ### evaluation from the front -/
def Res.go {α β : Type} (r : Res α) (k : α → Sls → Store → β) (e : Exc → Sls → Store → β) (z : β) : β :=
  match r with
  | .ok a S st => k a S st
  | .exc x S st => e x S st
  | .stuck => z
/-- a slot read, a slot put, from the front -/
def getK {β : Type} (S : Sls) (i : Nat) (k : Sl → β) (z : β) : β := match S[i]? with
  | some s => k s
  | none => z
def setK {β : Type} (S : Sls) (i : Nat) (x : Sl) (k : Sls → β) : β := k (S.set i x)
def iniK {β : Type} (n : Nat) (ds : List D) (k : Sls → β) : β := k (ds.map Sl.d ++ List.replicate (n - ds.length) .no)
section
variable {β : Type}
@[simp ↓] theorem getK_0 (s : Sl) (S : Sls) (k : Sl → β) (z : β) : getK (s :: S) 0 k z = k s := rfl
@[simp ↓] theorem getK_s (s : Sl) (S : Sls) (i : Nat) (k : Sl → β) (z : β) : getK (s :: S) (i + 1) k z = getK S i k z := by simp [getK]
@[simp ↓] theorem setK_0 (s x : Sl) (S : Sls) (k : Sls → β) : setK (s :: S) 0 x k = k (x :: S) := rfl
@[simp ↓] theorem setK_s (s x : Sl) (S : Sls) (i : Nat) (k : Sls → β) : setK (s :: S) (i + 1) x k = setK S i x (fun S => k (s :: S)) := by simp [setK]
@[simp ↓] theorem iniK_0 (k : Sls → β) : iniK 0 [] k = k [] := rfl
@[simp ↓] theorem iniK_d (n : Nat) (d : D) (ds : List D) (k : Sls → β) : iniK (n + 1) (d :: ds) k = iniK n ds (fun S => k (.d d :: S)) := by simp [iniK]
@[simp ↓] theorem iniK_n (n : Nat) (k : Sls → β) : iniK (n + 1) [] k = iniK n [] (fun S => k (.no :: S)) := by simp [iniK, List.replicate_succ]
def vwK {β : Type} (S : Sls) (o : Opd) (k : D → β) (z : β) : β := match vw S o with
  | some d => k d
  | none => z
def vwsK {β : Type} (S : Sls) (o : List Opd) (k : List D → β) (z : β) : β := match vws S o with
  | some d => k d
  | none => z
def vdsK {β : Type} (S : Sls) (o : List Opd) (k : List D → β) (z : β) : β := match vds S o with
  | some d => k d
  | none => z
def wipeK {β : Type} (S : Sls) (own : List Nat) (k : Sls → β) : β := k (wipeS S own)
def restK {β : Type} (S0 : Sls) (own : List Nat) (S : Sls) (k : Sls → β) : β := k (restS S0 own S)
@[simp ↓] theorem vwK_v (S : Sls) (d : D) (k : D → β) (z : β) : vwK S (.v d) k z = k d := rfl
@[simp ↓] theorem vwK_s (S : Sls) (i : Nat) (k : D → β) (z : β) : vwK S (.s i) k z = getK S i (fun s => match s with | .d d => k d | .own w => k w.d | .no => z) z := by
  unfold vwK getK; rw [vw_s]; rcases S[i]? with _ | s
  · rfl
  · cases s <;> rfl
@[simp ↓] theorem vwsK_n (S : Sls) (k : List D → β) (z : β) : vwsK S [] k z = k [] := rfl
@[simp ↓] theorem vwsK_c (S : Sls) (o : Opd) (r : List Opd) (k : List D → β) (z : β) : vwsK S (o :: r) k z = vwK S o (fun d => vwsK S r (fun ds => k (d :: ds)) z) z := by
  unfold vwsK vwK; rw [vws_c]; cases vw S o <;> cases vws S r <;> rfl
@[simp ↓] theorem vdsK_n (S : Sls) (k : List D → β) (z : β) : vdsK S [] k z = k [] := rfl
@[simp ↓] theorem vdsK_v (S : Sls) (d : D) (r : List Opd) (k : List D → β) (z : β) : vdsK S (.v d :: r) k z = vdsK S r (fun ds => k (d :: ds)) z := by
  unfold vdsK; rw [vds_c, vd_v]; cases vds S r <;> rfl
@[simp ↓] theorem vdsK_s (S : Sls) (i : Nat) (r : List Opd) (k : List D → β) (z : β) : vdsK S (.s i :: r) k z = getK S i (fun s => match s with | .d d => vdsK S r (fun ds => k (d :: ds)) z | _ => z) z := by
  unfold vdsK getK; rw [vds_c, vd_s]; rcases S[i]? with _ | s
  · rfl
  · cases s <;> cases vds S r <;> rfl
@[simp ↓] theorem wipeK_n (S : Sls) (k : Sls → β) : wipeK S [] k = k S := rfl
@[simp ↓] theorem wipeK_c (S : Sls) (v : Nat) (r : List Nat) (k : Sls → β) : wipeK S (v :: r) k = wipeK S r (fun S => setK S v .no k) := rfl
@[simp ↓] theorem restK_n (S0 S : Sls) (k : Sls → β) : restK S0 [] S k = k S := rfl
@[simp ↓] theorem restK_c (S0 S : Sls) (i : Nat) (r : List Nat) (k : Sls → β) : restK S0 (i :: r) S k = getK S0 i (fun s => match s with | .d x => setK S i (.d x) (fun S => restK S0 r S k) | _ => restK S0 r S k) (restK S0 r S k) := by
  unfold restK getK setK; rw [restS_c]; rcases S0[i]? with _ | s
  · rfl
  · cases s <;> rfl
def finB : Out → Res D
  | .nx _ st => .ok .non [] st
  | .ret d _ st => .ok d [] st
  | .exc x _ st => .exc x [] st
  | _ => .stuck
@[simp] theorem finB_nx (S : Sls) (st : Store) : finB (.nx S st) = .ok .non [] st := rfl
@[simp] theorem finB_ret (d : D) (S : Sls) (st : Store) : finB (.ret d S st) = .ok d [] st := rfl
@[simp] theorem finB_exc (x : Exc) (S : Sls) (st : Store) : finB (.exc x S st) = .exc x [] st := rfl
@[simp] theorem finB_stuck : finB .stuck = .stuck := rfl
def iniL {β : Type} (n : Nat) (ss : Sls) (k : Sls → β) : β := k (ss ++ List.replicate (n - ss.length) .no)
@[simp ↓] theorem iniL_0 (k : Sls → β) : iniL 0 [] k = k [] := rfl
@[simp ↓] theorem iniL_d (n : Nat) (d : Sl) (ds : Sls) (k : Sls → β) : iniL (n + 1) (d :: ds) k = iniL n ds (fun S => k (d :: S)) := by simp [iniL]
@[simp ↓] theorem iniL_n (n : Nat) (k : Sls → β) : iniL (n + 1) [] k = iniL n [] (fun S => k (.no :: S)) := by simp [iniL, List.replicate_succ]
def finO : Out → Res Ow
  | .rto w _ st => .ok w [] st
  | .exc x _ st => .exc x [] st
  | _ => .stuck
@[simp] theorem finO_rto (w : Ow) (S : Sls) (st : Store) : finO (.rto w S st) = .ok w [] st := rfl
@[simp] theorem finO_exc (x : Exc) (S : Sls) (st : Store) : finO (.exc x S st) = .exc x [] st := rfl
@[simp] theorem finO_stuck : finO .stuck = .stuck := rfl
theorem runBO_k (N : Nat) (b : EvS) (ss : List Sl) (st : Store) : runBO N b ss st = iniL N ss fun S => finO (b S st) := by
  rw [runBO_a]; show _ = finO (b _ _); cases b (ss ++ List.replicate (N - ss.length) .no) st <;> rfl
theorem runB_k (N : Nat) (b : EvS) (ds : List D) (st : Store) : runB N b ds st = iniK N ds fun S => finB (b S st) := by
  rw [runB_a]; show _ = finB (b _ _); cases b (ds.map Sl.d ++ List.replicate (N - ds.length) .no) st <;> rfl
end
section
variable {α β γ : Type} {S : Sls} {st : Store}
@[simp ↓] theorem Res.bind_go (r : Res α) (k : α → Sls → Store → Res β) : r.bind k = r.go k .exc .stuck := by cases r <;> rfl
@[simp ↓] theorem Res.out_go (r : Res α) (k : α → Sls → Store → Out) : r.out k = r.go k .exc .stuck := by cases r <;> rfl
@[simp ↓] theorem go_ok (a : α) (k : α → Sls → Store → β) (e : Exc → Sls → Store → β) (z : β) : (Res.ok a S st).go k e z = k a S st := rfl
@[simp ↓] theorem go_exc (x : Exc) (k : α → Sls → Store → β) (e : Exc → Sls → Store → β) (z : β) : (Res.exc x S st).go k e z = e x S st := rfl
@[simp ↓] theorem go_stuck (k : α → Sls → Store → β) (e : Exc → Sls → Store → β) (z : β) : (Res.stuck : Res α).go k e z = z := rfl
@[simp ↓] theorem go_go (r : Res α) (G : α → Sls → Store → Res γ) (k : γ → Sls → Store → β) (e : Exc → Sls → Store → β) (z : β) : (r.go G .exc .stuck).go k e z = r.go (fun a S st => (G a S st).go k e z) e z := by cases r <;> rfl
theorem go_bind (r : Res α) (G : α → Sls → Store → Res γ) (k : γ → Sls → Store → β) (e : Exc → Sls → Store → β) (z : β) : (r.bind G).go k e z = r.go (fun a S st => (G a S st).go k e z) e z := by cases r <;> rfl
@[simp ↓] theorem go_got (o : Option α) (k : α → Sls → Store → β) (e : Exc → Sls → Store → β) (z : β) : (got o S st).go k e z = match o with | some d => k d S st | none => z := by cases o <;> rfl
theorem go_c {r : Res α} {k k' : α → Sls → Store → β} {e : Exc → Sls → Store → β} {z : β} (h : ∀ a S st, k a S st = k' a S st) : r.go k e z = r.go k' e z := by cases r <;> first | rfl | exact h _ _ _
theorem calm_go (r : Res α) (k : α → Sls → Store → β) (e : Exc → Sls → Store → β) (z : β) : r.calm.go k e z = r.go k (fun _ _ _ => z) z := by cases r <;> rfl
@[simp ↓] theorem kE_g (d : D) (k : D → Sls → Store → β) (e : Exc → Sls → Store → β) (z : β) : (kE d S st).go k e z = k d S st := by
  rfl
@[simp ↓] theorem vE_g (i : Nat) (k : D → Sls → Store → β) (e : Exc → Sls → Store → β) (z : β) : (vE i S st).go k e z = getK S i (fun s => match s with | .d d => k d S st | _ => z) z := by
  rw [vE_a]; unfold getK; rcases S[i]? with _ | s
  · rfl
  · cases s <;> rfl
@[simp ↓] theorem zE_g (i : Nat) (k : D → Sls → Store → β) (e : Exc → Sls → Store → β) (z : β) : (zE i S st).go k e z = getK S i (fun s => match s with | .d d => k d S st | .own w => setK S i (.d w.d) (fun S => k w.d S st) | _ => z) z := by
  rw [zE_a]; unfold getK; rcases S[i]? with _ | s
  · rfl
  · cases s <;> rfl
@[simp ↓] theorem oV_g (f : Ev D) (k : Opd → Sls → Store → β) (e : Exc → Sls → Store → β) (z : β) : (oV f S st).go k e z = (f S st).go (fun d S st => k (.v d) S st) e z := by
  rw [oV_a, go_bind]; rfl
@[simp ↓] theorem oS_g (i : Nat) (k : Opd → Sls → Store → β) (e : Exc → Sls → Store → β) (z : β) : (oS i S st).go k e z = getK S i (fun s => match s with | .no => z | _ => k (.s i) S st) z := by
  rw [oS_a]; unfold getK; rcases S[i]? with _ | s
  · rfl
  · cases s <;> rfl
@[simp ↓] theorem aN_g  (k : List Opd → Sls → Store → β) (e : Exc → Sls → Store → β) (z : β) : (aN S st).go k e z = k [] S st := by
  rfl
@[simp ↓] theorem aC_g (f : Ev Opd) (g : Ev (List Opd)) (k : List Opd → Sls → Store → β) (e : Exc → Sls → Store → β) (z : β) : (aC f g S st).go k e z = (f S st).go (fun a S st => (g S st).go (fun r S st => k (a :: r) S st) e z) e z := by
  rw [aC_a, go_bind]; exact go_c fun a S st => by rw [go_bind]; rfl
@[simp ↓] theorem o2E_g (op : D → D → Option D) (fa fb : Ev Opd) (k : D → Sls → Store → β) (e : Exc → Sls → Store → β) (z : β) : (o2E op fa fb S st).go k e z = (fa S st).go (fun a S st => (fb S st).go (fun b S st => vwK S a (fun x => vwK S b (fun y => match op x y with | some d => k d S st | none => z) z) z) e z) e z := by
  simp only [vwK, vwsK, vdsK, wipeK, restK]
  rw [o2E_a, go_bind]; refine go_c fun a S st => ?_; rw [go_bind]; refine go_c fun b S st => ?_; cases vw S a <;> cases vw S b <;> first | rfl | (simp only [go_got]; done) | (simp only [go_got]; split <;> simp_all)
@[simp ↓ high] theorem o2E_gv (op : D → D → Option D) (f g : Ev D) (k : D → Sls → Store → β) (e : Exc → Sls → Store → β) (z : β) : (o2E op (oV f) (oV g) S st).go k e z = (f S st).go (fun x S st => (g S st).go (fun y S st => match op x y with | some d => k d S st | none => z) e z) e z := by
  rw [o2E_g, oV_g]; refine go_c fun a S st => ?_; rw [oV_g]; rfl
@[simp ↓] theorem o1E_g (op : D → Option D) (fa : Ev Opd) (k : D → Sls → Store → β) (e : Exc → Sls → Store → β) (z : β) : (o1E op fa S st).go k e z = (fa S st).go (fun a S st => vwK S a (fun x => match op x with | some d => k d S st | none => z) z) e z := by
  simp only [vwK, vwsK, vdsK, wipeK, restK]
  rw [o1E_a, go_bind]; refine go_c fun a S st => ?_; cases vw S a <;> first | rfl | (simp only [go_got]; done) | (simp only [go_got]; split <;> simp_all)
@[simp ↓] theorem oAE_g (op : List D → Option D) (fa : Ev (List Opd)) (k : D → Sls → Store → β) (e : Exc → Sls → Store → β) (z : β) : (oAE op fa S st).go k e z = (fa S st).go (fun a S st => vwsK S a (fun x => match op x with | some d => k d S st | none => z) z) e z := by
  simp only [vwK, vwsK, vdsK, wipeK, restK]
  rw [oAE_a, go_bind]; refine go_c fun a S st => ?_; cases vws S a <;> first | rfl | (simp only [go_got]; done) | (simp only [go_got]; split <;> simp_all)
@[simp ↓] theorem oAF_g (op : List D → Option Ow) (fa : Ev (List Opd)) (k : Ow → Sls → Store → β) (e : Exc → Sls → Store → β) (z : β) : (oAF op fa S st).go k e z = (fa S st).go (fun a S st => vwsK S a (fun x => match op x with | some d => k d S st | none => z) z) e z := by
  simp only [vwK, vwsK, vdsK, wipeK, restK]
  rw [oAF_a, go_bind]; refine go_c fun a S st => ?_; cases vws S a <;> first | rfl | (simp only [go_got]; done) | (simp only [go_got]; split <;> simp_all)
@[simp ↓] theorem o2F_g (op : D → D → Option Ow) (fa fb : Ev Opd) (k : Ow → Sls → Store → β) (e : Exc → Sls → Store → β) (z : β) : (o2F op fa fb S st).go k e z = (fa S st).go (fun a S st => (fb S st).go (fun b S st => vwK S a (fun x => vwK S b (fun y => match op x y with | some d => k d S st | none => z) z) z) e z) e z := by
  simp only [vwK, vwsK, vdsK, wipeK, restK]
  rw [o2F_a, go_bind]; refine go_c fun a S st => ?_; rw [go_bind]; refine go_c fun b S st => ?_; cases vw S a <;> cases vw S b <;> first | rfl | (simp only [go_got]; done) | (simp only [go_got]; split <;> simp_all)
@[simp ↓] theorem mE_g (T : String) (op : D → List D → Option D) (fo : Ev Opd) (fa : Ev (List Opd)) (k : D → Sls → Store → β) (e : Exc → Sls → Store → β) (z : β) : (mE T op fo fa S st).go k e z = (fo S st).go (fun o S st => vwK S o (fun y => if tyD T y = true then (fa S st).go (fun a S st => vwK S o (fun y => vwsK S a (fun x => match op y x with | some d => k d S st | none => z) z) z) e z else z) z) e z := by
  simp only [vwK, vwsK, vdsK, wipeK, restK]
  rw [mE_a, go_bind]; refine go_c fun o S st => ?_
  cases vw S o with
  | none => rfl
  | some y =>
    show Res.go (ite _ _ _) _ _ _ = ite _ _ _
    split
    · rw [go_bind]; refine go_c fun a S st => ?_; cases vw S o <;> cases vws S a <;> first | rfl | (simp only [go_got]; done) | (simp only [go_got]; split <;> simp_all)
    · rfl
@[simp ↓] theorem m0E_g (T : String) (op : D → Option D) (fo : Ev Opd) (k : D → Sls → Store → β) (e : Exc → Sls → Store → β) (z : β) : (m0E T op fo S st).go k e z = (fo S st).go (fun o S st => vwK S o (fun y => if tyD T y = true then (match op y with | some d => k d S st | none => z) else z) z) e z := by
  simp only [vwK, vwsK, vdsK, wipeK, restK]
  rw [m0E_a, go_bind]; refine go_c fun o S st => ?_
  cases vw S o with
  | none => rfl
  | some y =>
    show Res.go (ite _ _ _) _ _ _ = ite _ _ _
    split
    · simp only [go_got]; try (split <;> simp_all)
    · rfl
@[simp ↓] theorem fE_g (f : Ev Ow) (k : D → Sls → Store → β) (e : Exc → Sls → Store → β) (z : β) : (fE f S st).go k e z = (f S st).go (fun w S st => k w.d S st) e z := by
  rw [fE_a, go_bind]; rfl
@[simp ↓] theorem lF_g (fa : Ev (List Opd)) (k : Ow → Sls → Store → β) (e : Exc → Sls → Store → β) (z : β) : (lF fa S st).go k e z = (fa S st).go (fun a S st => vdsK S a (fun ds => if ds.length ≤ 16777216 then k (.l ds) S st else z) z) e z := by
  simp only [vwK, vwsK, vdsK, wipeK, restK]
  rw [lF_a, go_bind]; refine go_c fun a S st => ?_
  cases vds S a with
  | none => rfl
  | some ds => show Res.go (ite _ _ _) _ _ _ = ite _ _ _; split <;> rfl
@[simp ↓] theorem pE_g (fa : Ev (List Opd)) (k : D → Sls → Store → β) (e : Exc → Sls → Store → β) (z : β) : (pE fa S st).go k e z = (fa S st).go (fun a S st => vdsK S a (fun ds => if ds.length ≤ 16777216 then k (.tup ds) S st else z) z) e z := by
  simp only [vwK, vwsK, vdsK, wipeK, restK]
  rw [pE_a, go_bind]; refine go_c fun a S st => ?_
  cases vds S a with
  | none => rfl
  | some ds => show Res.go (ite _ _ _) _ _ _ = ite _ _ _; split <;> rfl
@[simp ↓] theorem sN_g  (k : Option Int → Sls → Store → β) (e : Exc → Sls → Store → β) (z : β) : (sN S st).go k e z = k none S st := by
  rfl
@[simp ↓] theorem sS_g (f : Ev D) (k : Option Int → Sls → Store → β) (e : Exc → Sls → Store → β) (z : β) : (sS f S st).go k e z = (f S st).go (fun d S st => match d with | .int i => k (some i) S st | _ => z) e z := by
  rw [sS_a, go_bind]; refine go_c fun d S st => ?_; cases d <;> rfl
@[simp ↓] theorem slE_g (op : D → Option Int → Option Int → Option D) (fa : Ev Opd) (fl fu : Ev (Option Int)) (k : D → Sls → Store → β) (e : Exc → Sls → Store → β) (z : β) : (slE op fa fl fu S st).go k e z = (fa S st).go (fun a S st => (fl S st).go (fun l S st => (fu S st).go (fun u S st => vwK S a (fun x => match op x l u with | some d => k d S st | none => z) z) e z) e z) e z := by
  simp only [vwK, vwsK, vdsK, wipeK, restK]
  rw [slE_a, go_bind]; refine go_c fun a S st => ?_; rw [go_bind]; refine go_c fun l S st => ?_; rw [go_bind]; refine go_c fun u S st => ?_; cases vw S a <;> first | rfl | (simp only [go_got]; done) | (simp only [go_got]; split <;> simp_all)
@[simp ↓] theorem cE_g (c : CallT) (fa : Ev (List Opd)) (k : D → Sls → Store → β) (e : Exc → Sls → Store → β) (z : β) : (cE c fa S st).go k e z = (fa S st).go (fun a S st => vdsK S a (fun ds => match c ds st with | .ok d _ st => k d S st | .exc x _ st => e x S st | .stuck => z) z) e z := by
  simp only [vwK, vwsK, vdsK, wipeK, restK]
  rw [cE_a, go_bind]; refine go_c fun a S st => ?_
  cases vds S a with
  | none => rfl
  | some ds => dsimp only; cases c ds st <;> rfl
@[simp ↓] theorem tT_g (f : Ev Opd) (k : Bool → Sls → Store → β) (e : Exc → Sls → Store → β) (z : β) : (tT f S st).go k e z = (f S st).go (fun o S st => vwK S o (fun d => match tru d with | some b => k b S st | none => z) z) e z := by
  simp only [vwK, vwsK, vdsK, wipeK, restK]
  rw [tT_a, go_bind]; refine go_c fun a S st => ?_; cases vw S a <;> first | rfl | (simp only [go_got]; done) | (simp only [go_got]; split <;> simp_all)
@[simp ↓] theorem tN_g (f : Ev Bool) (k : Bool → Sls → Store → β) (e : Exc → Sls → Store → β) (z : β) : (tN f S st).go k e z = (f S st).go (fun b S st => k (!b) S st) e z := by
  rw [tN_a, go_bind]; rfl
@[simp ↓] theorem tA_g (f g : Ev Bool) (k : Bool → Sls → Store → β) (e : Exc → Sls → Store → β) (z : β) : (tA f g S st).go k e z = (f S st).go (fun b S st => if b = true then (g S st).go k e z else k false S st) e z := by
  rw [tA_a, go_bind]; refine go_c fun b S st => ?_; cases b <;> rfl
@[simp ↓] theorem tO_g (f g : Ev Bool) (k : Bool → Sls → Store → β) (e : Exc → Sls → Store → β) (z : β) : (tO f g S st).go k e z = (f S st).go (fun b S st => if b = true then k true S st else (g S st).go k e z) e z := by
  rw [tO_a, go_bind]; refine go_c fun b S st => ?_; cases b <;> rfl
@[simp ↓] theorem tV_g (f : Ev D) (k : Bool → Sls → Store → β) (e : Exc → Sls → Store → β) (z : β) : (tV f S st).go k e z = (f S st).go (fun d S st => match d with | .bl b => k b S st | _ => z) e z := by
  rw [tV_a, go_bind]; refine go_c fun b S st => ?_; cases b <;> rfl
@[simp ↓] theorem tY_g  (k : Bool → Sls → Store → β) (e : Exc → Sls → Store → β) (z : β) : (tY S st).go k e z = k true S st := by
  rfl
@[simp ↓] theorem eA_g (f g : Ev D) (k : D → Sls → Store → β) (e : Exc → Sls → Store → β) (z : β) : (eA f g S st).go k e z = (f S st).go (fun d S st => match d with | .bl b => (if b = true then (g S st).go k e z else k (.bl false) S st) | _ => z) e z := by
  rw [eA_a, go_bind]; refine go_c fun d S st => ?_; cases d <;> first | rfl | (rename_i b; cases b <;> rfl)
@[simp ↓] theorem eO_g (f g : Ev D) (k : D → Sls → Store → β) (e : Exc → Sls → Store → β) (z : β) : (eO f g S st).go k e z = (f S st).go (fun d S st => match d with | .bl b => (if b = true then k (.bl true) S st else (g S st).go k e z) | _ => z) e z := by
  rw [eO_a, go_bind]; refine go_c fun d S st => ?_; cases d <;> first | rfl | (rename_i b; cases b <;> rfl)
@[simp ↓] theorem eN_g (f : Ev D) (k : D → Sls → Store → β) (e : Exc → Sls → Store → β) (z : β) : (eN f S st).go k e z = (f S st).go (fun d S st => match d with | .bl b => k (.bl (!b)) S st | _ => z) e z := by
  rw [eN_a, go_bind]; refine go_c fun d S st => ?_; cases d <;> rfl
@[simp ↓] theorem eI_g (t : Ev Bool) (f g : Ev D) (k : D → Sls → Store → β) (e : Exc → Sls → Store → β) (z : β) : (eI t f g S st).go k e z = (t S st).go (fun b S st => if b = true then (f S st).go k e z else (g S st).go k e z) e z := by
  rw [eI_a, go_bind]; refine go_c fun b S st => ?_; cases b <;> rfl
@[simp ↓] theorem iE_g (f : Ev D) (k : List D → Sls → Store → β) (e : Exc → Sls → Store → β) (z : β) : (iE f S st).go k e z = (f S st).go (fun d S st => match itD d with | some ds => k ds S st | none => z) e z := by
  rw [iE_a, go_bind]; refine go_c fun b S st => ?_; simp only [go_got]; try (split <;> simp_all)
@[simp ↓] theorem rgG_g (a n : Int) (k : List D → Sls → Store → β) (e : Exc → Sls → Store → β) (z : β) : (rgG a n S st).go k e z = if (-1000000 ≤ a ∧ a ≤ 1000000) ∧ -1000000 ≤ n ∧ n ≤ 1000000 then k (rng (n - a).toNat a) S st else z := by
  show Res.go (ite _ _ _) _ _ _ = ite _ _ _; split <;> rfl
@[simp ↓] theorem iR1_g (f : Ev (List Opd)) (k : List D → Sls → Store → β) (e : Exc → Sls → Store → β) (z : β) : (iR1 f S st).go k e z = (f S st).go (fun a S st => vwsK S a (fun l => match l with | [.int n] => (rgG 0 n S st).go k e z | _ => z) z) e z := by
  simp only [vwK, vwsK, vdsK, wipeK, restK]
  rw [iR1_a, go_bind]; refine go_c fun a S st => ?_; rcases vws S a with _ | l
  · rfl
  · rcases l with _ | ⟨x, r⟩
    · rfl
    · cases x <;> cases r <;> rfl
@[simp ↓] theorem iR2_g (f : Ev (List Opd)) (k : List D → Sls → Store → β) (e : Exc → Sls → Store → β) (z : β) : (iR2 f S st).go k e z = (f S st).go (fun a S st => vwsK S a (fun l => match l with | [.int a, .int n] => (rgG a n S st).go k e z | _ => z) z) e z := by
  simp only [vwK, vwsK, vdsK, wipeK, restK]
  rw [iR2_a, go_bind]; refine go_c fun a S st => ?_; rcases vws S a with _ | l
  · rfl
  · rcases l with _ | ⟨x, _ | ⟨y, r⟩⟩
    · rfl
    · cases x <;> rfl
    · cases x <;> first | rfl | (cases y <;> cases r <;> rfl)
@[simp ↓] theorem iEn_g (f : Ev (List Opd)) (k : List D → Sls → Store → β) (e : Exc → Sls → Store → β) (z : β) : (iEn f S st).go k e z = (f S st).go (fun a S st => vdsK S a (fun l => match l with | [d] => (match asL d with | some ds => k (enumD ds) S st | none => z) | _ => z) z) e z := by
  simp only [vwK, vwsK, vdsK, wipeK, restK]
  rw [iEn_a, go_bind]; refine go_c fun a S st => ?_; rcases vds S a with _ | l
  · rfl
  · rcases l with _ | ⟨x, r⟩
    · rfl
    · cases r with
      | nil => dsimp only; cases asL x <;> rfl
      | cons _ _ => rfl
@[simp ↓] theorem iV_g (f : Ev (List Opd)) (k : List D → Sls → Store → β) (e : Exc → Sls → Store → β) (z : β) : (iV f S st).go k e z = (f S st).go (fun a S st => vdsK S a (fun l => match l with | [d] => (match asL d with | some ds => k ds.reverse S st | none => z) | _ => z) z) e z := by
  simp only [vwK, vwsK, vdsK, wipeK, restK]
  rw [iV_a, go_bind]; refine go_c fun a S st => ?_; rcases vds S a with _ | l
  · rfl
  · rcases l with _ | ⟨x, r⟩
    · rfl
    · cases r with
      | nil => dsimp only; cases asL x <;> rfl
      | cons _ _ => rfl
@[simp ↓] theorem iZ_g (f : Ev (List Opd)) (k : List D → Sls → Store → β) (e : Exc → Sls → Store → β) (z : β) : (iZ f S st).go k e z = (f S st).go (fun a S st => vdsK S a (fun l => match l with | [d, d2] => (match asL d, asL d2 with | some ds, some es => k (zipD ds es) S st | _, _ => z) | _ => z) z) e z := by
  simp only [vwK, vwsK, vdsK, wipeK, restK]
  rw [iZ_a, go_bind]; refine go_c fun a S st => ?_; rcases vds S a with _ | l
  · rfl
  · rcases l with _ | ⟨x, _ | ⟨y, r⟩⟩
    · rfl
    · rfl
    · cases r with
      | nil => dsimp only; cases asL x <;> cases asL y <;> rfl
      | cons _ _ => rfl
@[simp ↓] theorem iVs_g (f : Ev D) (k : List D → Sls → Store → β) (e : Exc → Sls → Store → β) (z : β) : (iVs f S st).go k e z = (f S st).go (fun d S st => match d with | .str s => (if s.length ≤ 16777216 then k (sgs s).reverse S st else z) | _ => z) e z := by
  unfold iVs; rw [go_bind]; refine go_c fun d S st => ?_; cases d <;> try rfl
  show Res.go (ite _ _ _) _ _ _ = ite _ _ _; split <;> rfl
@[simp ↓] theorem lcF_g (fi : Ev (List D)) (g : Tg) (own : List Nat) (t : Ev Bool) (f : Ev D) (k : Ow → Sls → Store → β) (e : Exc → Sls → Store → β) (z : β) : (lcF fi g own t f S st).go k e z = (fi S st).go (fun ds S st => wipeK S own fun Sw => match lcL g own t f ds Sw st with | .ok ys S2 st => (if ys.length ≤ 16777216 then restK S own S2 (fun S => k (.l ys) S st) else z) | .exc x S st => e x S st | .stuck => z) e z := by
  simp only [vwK, vwsK, vdsK, wipeK, restK]
  rw [lcF_a, go_bind]; refine go_c fun a S st => ?_; rw [go_bind]; cases lcL g own t f a (wipeS S own) st <;> try rfl
  show Res.go (ite _ _ _) _ _ _ = ite _ _ _; split <;> rfl
@[simp ↓] theorem o3E_g (op op2 : D → D → Option D) (f g h : Ev D) (k : D → Sls → Store → β) (e : Exc → Sls → Store → β) (z : β) : (o3E op op2 (oV f) (oV g) (oV h) S st).go k e z = (f S st).go (fun x S st => (g S st).go (fun y S st => match op x y with | some (.bl true) => (h S st).go (fun w S st => match op2 y w with | some d => k d S st | none => z) e z | some (.bl false) => k (.bl false) S st | _ => z) e z) e z := by
  rw [o3E_a, go_bind, oV_g]; refine go_c fun x S st => ?_; rw [go_bind, oV_g]; refine go_c fun y S st => ?_
  show Res.go (match op x y with | some (.bl true) => (oV h S st).bind fun c S st => (match some y, vw S c with | some y, some z => got (op2 y z) S st | _, _ => .stuck) | some (.bl false) => .ok (.bl false) S st | _ => .stuck) _ _ _ = _
  rcases op x y with _ | d
  · rfl
  · cases d with
    | bl b => cases b with
      | true => show Res.go (Res.bind _ _) _ _ _ = _; rw [go_bind, oV_g]; refine go_c fun w S st => ?_; simp only [vw_v, go_got]; try (split <;> simp_all)
      | false => rfl
    | _ => rfl
@[simp ↓] theorem newE_g (c : Nat) (ks : List Nat) (fa : Ev (List Opd)) (k : D → Sls → Store → β) (e : Exc → Sls → Store → β) (z : β) : (newE c ks fa S st).go k e z = (fa S st).go (fun a S st => vdsK S a (fun ds => if ds.length = ks.length then k (.obj c (ks.zip ds)) S st else z) z) e z := by
  simp only [vwK, vwsK, vdsK, wipeK, restK]
  rw [newE_a, go_bind]; refine go_c fun a S st => ?_
  cases vds S a with
  | none => rfl
  | some ds => show Res.go (ite _ _ _) _ _ _ = ite _ _ _; split <;> rfl
@[simp ↓] theorem mcE_g (cs : List Nat) (mk : Nat) (tab : Nat → CallT) (fo : Ev D) (fa : Ev (List Opd)) (k : D → Sls → Store → β) (e : Exc → Sls → Store → β) (z : β) : (mcE cs mk tab fo fa S st).go k e z = (fo S st).go (fun o S st => match o with | .obj c es => (if c ∈ cs ∧ es.lookup mk = none then (fa S st).go (fun a S st => vdsK S a (fun ds => match tab c (.obj c es :: ds) st with | .ok d _ st => k d S st | .exc x _ st => e x S st | .stuck => z) z) e z else z) | _ => z) e z := by
  simp only [vwK, vwsK, vdsK, wipeK, restK]
  rw [mcE_a, go_bind]; refine go_c fun o S st => ?_
  cases o with
  | obj c es =>
    show Res.go (ite _ _ _) _ _ _ = ite _ _ _
    split
    · rw [go_bind]; refine go_c fun a S st => ?_
      cases vds S a with
      | none => rfl
      | some ds => dsimp only; cases tab c (.obj c es :: ds) st <;> rfl
    · rfl
  | _ => rfl
@[simp ↓] theorem oKE_g (op : List D → D → Option D) (fa : Ev (List Opd)) (fd : Ev D) (k : D → Sls → Store → β) (e : Exc → Sls → Store → β) (z : β) : (oKE op fa fd S st).go k e z = (fa S st).go (fun a S st => (fd S st).go (fun d S st => vwsK S a (fun x => match op x d with | some d => k d S st | none => z) z) e z) e z := by
  simp only [vwK, vwsK, vdsK, wipeK, restK]
  rw [oKE_a, go_bind]; refine go_c fun a S st => ?_; rw [go_bind]; refine go_c fun d S st => ?_; cases vws S a <;> first | rfl | (simp only [go_got]; done) | (simp only [go_got]; split <;> simp_all)
@[simp ↓] theorem cKE_g (c : CallT) (fa : Ev (List Opd)) (f2 : Ev D) (k : D → Sls → Store → β) (e : Exc → Sls → Store → β) (z : β) : (cKE c fa f2 S st).go k e z = (fa S st).go (fun a S st => (f2 S st).go (fun y S st => vdsK S a (fun ds => match c (ds ++ [y]) st with | .ok d _ st => k d S st | .exc x _ st => e x S st | .stuck => z) z) e z) e z := by
  simp only [vwK, vwsK, vdsK, wipeK, restK]
  rw [cKE_a, go_bind]; refine go_c fun a S st => ?_; rw [go_bind]; refine go_c fun y S st => ?_
  cases vds S a with
  | none => rfl
  | some ds => dsimp only; cases c (ds ++ [y]) st <;> rfl
@[simp ↓] theorem oZ_g (i : Nat) (k : Ow → Sls → Store → β) (e : Exc → Sls → Store → β) (z : β) : (oZ i S st).go k e z = getK S i (fun s => match s with | .own w => setK S i .no (fun S => k w S st) | _ => z) z := by
  rw [oZ_a]; unfold getK; rcases S[i]? with _ | s
  · rfl
  · cases s <;> rfl
@[simp ↓] theorem coE_g (c : CallO) (fa : Ev (List Opd)) (k : Ow → Sls → Store → β) (e : Exc → Sls → Store → β) (z : β) : (coE c fa S st).go k e z = (fa S st).go (fun a S st => vdsK S a (fun ds => match c (ds.map .d) st with | .ok w _ st => k w S st | .exc x _ st => e x S st | .stuck => z) z) e z := by
  simp only [vwK, vwsK, vdsK, wipeK, restK]
  rw [coE_a, go_bind]; refine go_c fun a S st => ?_
  cases vds S a with
  | none => rfl
  | some ds => dsimp only; cases c (ds.map .d) st <;> rfl
@[simp ↓] theorem coF_g (c : CallO) (j : Nat) (fa : Ev (List Opd)) (k : Ow → Sls → Store → β) (e : Exc → Sls → Store → β) (z : β) : (coF c j fa S st).go k e z = getK S j (fun s => match s with | .own _ => (fa S st).go (fun a S st => vdsK S a (fun ds => getK S j (fun s => match s with | .own w => (match c (.own w :: ds.map .d) st with | .ok w _ st => setK S j .no fun S => k w S st | .exc x _ st => setK S j .no fun S => e x S st | .stuck => z) | _ => z) z) z) e z | _ => z) z := by
  simp only [vwK, vwsK, vdsK, wipeK, restK]
  rw [coF_a]; unfold getK; rcases S[j]? with _ | s
  · rfl
  · cases s with
    | own w0 =>
      dsimp only; rw [go_bind]; refine go_c fun a S st => ?_
      cases vds S a with
      | none => rfl
      | some ds =>
        dsimp only
        rcases S[j]? with _ | s
        · rfl
        · cases s with
          | own w => dsimp only; cases c (.own w :: ds.map .d) st <;> rfl
          | _ => rfl
    | _ => rfl
@[simp ↓] theorem oSrt_g (fa : Ev Opd) (k : Ow → Sls → Store → β) (e : Exc → Sls → Store → β) (z : β) : (oSrt fa S st).go k e z = (fa S st).go (fun a S st => vwK S a (fun x => match asL x with | some ds => (match intsD ds with | some ns => (if ns.length < 1000 ∧ (srt ns).length < 64 then k (.l ((srt ns).map .int)) S st else z) | none => z) | none => z) z) e z := by
  simp only [vwK, vwsK, vdsK, wipeK, restK]
  rw [oSrt_a, go_bind]; refine go_c fun a S st => ?_
  cases vw S a with
  | none => rfl
  | some x =>
    dsimp only
    cases asL x with
    | none => rfl
    | some ds =>
      dsimp only
      cases intsD ds with
      | none => rfl
      | some ns => dsimp only; split <;> rfl
@[simp ↓] theorem kF0_g  (k : Ow → Sls → Store → β) (e : Exc → Sls → Store → β) (z : β) : (kF0 S st).go k e z = k (.k []) S st := by
  rfl
@[simp ↓] theorem kF_g (ks : List (List Nat)) (fa : Ev (List Opd)) (k : Ow → Sls → Store → β) (e : Exc → Sls → Store → β) (z : β) : (kF ks fa S st).go k e z = (fa S st).go (fun a S st => vdsK S a (fun ds => if ds.length = ks.length then k (.k (mergeD [] ((ks.map D.str).zip ds))) S st else z) z) (fun _ _ _ => z) z := by
  simp only [vwK, vwsK, vdsK, wipeK, restK]
  unfold kF; rw [go_bind, calm_go]; refine go_c fun a S st => ?_
  cases vds S a with
  | none => rfl
  | some ds => show Res.go (ite _ _ _) _ _ _ = ite _ _ _; split <;> rfl
@[simp ↓] theorem isE_g (T : XTab) (a : Addr) (cx : Nat) (ts : List (Option Nat)) (i : Nat) (k : D → Sls → Store → β) (e : Exc → Sls → Store → β) (z : β) : (isE T a cx ts i S st).go k e z = getK S i (fun s => match s with | .d (.err a2 c2) => (if a2 = a ∧ c2 = cx then (match isX T cx ts with | some b => k (.bl b) S st | none => z) else z) | _ => z) z := by
  unfold isE getK; rcases S[i]? with _ | s
  · rfl
  · cases s with
    | d x => cases x <;> try rfl
             dsimp only; split
             · cases isX T cx ts <;> rfl
             · rfl
    | _ => rfl
@[simp ↓] theorem cPE_g (f : CallP) (a : Addr) (cx i : Nat) (k : D → Sls → Store → β) (e : Exc → Sls → Store → β) (z : β) : (cPE f a cx i S st).go k e z = getK S i (fun s => match s with | .d (.err a2 c2) => (if a2 = a ∧ c2 = cx then (match f a cx [.err a cx] st with | .ok d _ st => k d S st | _ => z) else z) | _ => z) z := by
  unfold cPE getK; rcases S[i]? with _ | s
  · rfl
  · cases s with
    | d x => cases x <;> try rfl
             dsimp only; split
             · cases f a cx [.err a cx] st <;> rfl
             · rfl
    | _ => rfl
@[simp ↓] theorem sNil_p  : sNil S st = .nx S st := by rfl
@[simp ↓] theorem sSeq_p (f g : EvS) : sSeq f g S st = (f S st).then g := by rfl
@[simp ↓] theorem sE_p (f : Ev D) : sE f S st = (f S st).go (fun _ S st => .nx S st) .exc .stuck := by exact Res.out_go ..
@[simp ↓] theorem sRO_p (f : Ev Ow) : sRO f S st = (f S st).go (fun w S st => .rto w S st) .exc .stuck := by exact Res.out_go ..
@[simp ↓] theorem sR_p (f : Ev D) : sR f S st = (f S st).go (fun d S st => .ret d S st) .exc .stuck := by exact Res.out_go ..
@[simp ↓] theorem sI_p (t : Ev Bool) (f g : EvS) : sI t f g S st = (t S st).go (fun b S st => if b = true then f S st else g S st) .exc .stuck := by exact Res.out_go ..
@[simp ↓] theorem sV_p (i : Nat) (f : Ev D) : sV i f S st = (f S st).go (fun d S st => setK S i (.d d) fun S => .nx S st) .exc .stuck := by exact Res.out_go ..
@[simp ↓] theorem sO_p (i : Nat) (f : Ev Ow) : sO i f S st = (f S st).go (fun w S st => setK S i (.own w) fun S => .nx S st) .exc .stuck := by exact Res.out_go ..
@[simp ↓] theorem sG_p (g : Tg) (f : Ev D) : sG g f S st = (f S st).go (fun d S st => match g d S with | some S2 => .nx S2 st | none => .stuck) .exc .stuck := by exact Res.out_go ..
@[simp ↓] theorem sF_p (f : Ev (List D)) (g : Tg) (b : EvS) : sF f g b S st = (f S st).go (fun ds S st => forL g b ds S st) .exc .stuck := by exact Res.out_go ..
@[simp ↓] theorem sAug_p (i : Nat) (op : D → D → Option D) (f : Ev Opd) : sAug i op f S st = getK S i (fun s => match s with | .d x => (f S st).go (fun y S st => vwK S y (fun y => match op x y with | some v => setK S i (.d v) fun S => .nx S st | none => .stuck) .stuck) .exc .stuck | _ => .stuck) .stuck := by
  simp only [vwK, vwsK, vdsK]
  rw [sAug_a]; unfold getK; rcases S[i]? with _ | s
  · rfl
  · cases s with
    | d x => exact Res.out_go ..
    | _ => rfl
@[simp ↓] theorem sAp_p (i : Nat) (f : Ev D) : sAp i (oV f) S st = getK S i (fun s => match s with | .own (.l _) => (f S st).go (fun d S st => getK S i (fun s => match s with | .own (.l ds) => if ds.length < 16777216 then setK S i (.own (.l (ds ++ [d]))) fun S => .nx S st else .stuck | _ => .stuck) .stuck) .exc .stuck | _ => .stuck) .stuck := by 
  rw [sAp_a]; unfold getK; rcases S[i]? with _ | ⟨_ | _ | ⟨_ | _⟩⟩ <;> try rfl
  dsimp only; rw [Res.out_go, oV_g]; refine go_c fun d S st => ?_
  dsimp only [vd_v]; rcases S[i]? with _ | ⟨_ | _ | ⟨_ | _⟩⟩ <;> rfl
@[simp ↓] theorem sEx_p (i : Nat) (f : Ev D) : sEx i f S st = getK S i (fun s => match s with | .own (.l _) => (f S st).go (fun d S st => match d with | .lst es => getK S i (fun s => match s with | .own (.l ds) => if ds.length + es.length ≤ 16777216 then setK S i (.own (.l (ds ++ es))) fun S => .nx S st else .stuck | _ => .stuck) .stuck | _ => .stuck) .exc .stuck | _ => .stuck) .stuck := by 
  rw [sEx_a]; unfold getK; rcases S[i]? with _ | ⟨_ | _ | ⟨_ | _⟩⟩ <;> try rfl
  dsimp only; rw [Res.out_go]; refine go_c fun d S st => ?_
  cases d <;> try rfl
  dsimp only; rcases S[i]? with _ | ⟨_ | _ | ⟨_ | _⟩⟩ <;> rfl
@[simp ↓] theorem sSet_p (i : Nat) (fv fj : Ev D) : sSet i fv fj S st = (fv S st).go (fun d S st => getK S i (fun s => match s with | .own (.l _) => (fj S st).go (fun j S st => match j with | .int n => getK S i (fun s => match s with | .own (.l ds) => (match ixN ds.length n with | some j => setK S i (.own (.l (ds.set j d))) fun S => .nx S st | none => .stuck) | _ => .stuck) .stuck | _ => .stuck) .exc .stuck | _ => .stuck) .stuck) .exc .stuck := by 
  show (fv S st).out _ = _; rw [Res.out_go]; refine go_c fun d S st => ?_
  unfold getK; rcases S[i]? with _ | ⟨_ | _ | ⟨_ | _⟩⟩ <;> try rfl
  dsimp only; rw [Res.out_go]; refine go_c fun j S st => ?_
  cases j <;> try rfl
  dsimp only; rcases S[i]? with _ | ⟨_ | _ | ⟨_ | _⟩⟩ <;> rfl
@[simp ↓] theorem sAugS_p (i : Nat) (g : Int → Int → Int) (fj fv : Ev D) : sAugS i g fj fv S st = getK S i (fun s => match s with | .own (.l _) => (fj S st).go (fun j S st => match j with | .int n => getK S i (fun s => match s with | .own (.l ds) => (match L2.atI ds n with | some (.int a) => (fv S st).go (fun y S st => match y with | .int b => getK S i (fun s => match s with | .own (.l es) => (match ixN es.length n with | some j => setK S i (.own (.l (es.set j (.int (g a b))))) fun S => .nx S st | none => .stuck) | _ => .stuck) .stuck | _ => .stuck) .exc .stuck | _ => .stuck) | _ => .stuck) .stuck | _ => .stuck) .exc .stuck | _ => .stuck) .stuck := by 
  unfold sAugS getK; rcases S[i]? with _ | ⟨_ | _ | ⟨_ | _⟩⟩ <;> try rfl
  dsimp only; rw [Res.out_go]; refine go_c fun j S st => ?_
  cases j <;> try rfl
  rename_i n; dsimp only; rcases S[i]? with _ | ⟨_ | _ | ⟨_ | _⟩⟩ <;> try rfl
  rename_i ds; dsimp only; rcases L2.atI ds n with _ | d
  · rfl
  · cases d <;> try rfl
    dsimp only; rw [Res.out_go]; refine go_c fun y S st => ?_
    cases y <;> try rfl
    dsimp only; rcases S[i]? with _ | ⟨_ | _ | ⟨_ | _⟩⟩ <;> rfl
@[simp ↓] theorem sPut_p (i : Nat) (fv fj : Ev D) : sPut i fv fj S st = (fv S st).go (fun d S st => getK S i (fun s => match s with | .own (.k _) => (fj S st).go (fun j S st => getK S i (fun s => match s with | .own (.k ds) => (if isKey j = true ∧ ds.length < 16777216 then setK S i (.own (.k (putD ds j d))) fun S => .nx S st else .stuck) | _ => .stuck) .stuck) .exc .stuck | _ => .stuck) .stuck) .exc .stuck := by 
  show (fv S st).out _ = _; rw [Res.out_go]; refine go_c fun d S st => ?_
  unfold getK; rcases S[i]? with _ | ⟨_ | _ | ⟨_ | _⟩⟩ <;> try rfl
  dsimp only; rw [Res.out_go]; refine go_c fun j S st => ?_
  rcases S[i]? with _ | ⟨_ | _ | ⟨_ | _⟩⟩ <;> rfl
@[simp ↓] theorem sP_p (i j : Nat) (fa : Ev (List Opd)) : sP i j fa S st = (fa S st).go (fun a S st => vdsK S a (fun l => match l with | [x, y] => setK S i (.d x) fun S => setK S j (.d y) fun S => .nx S st | _ => .stuck) .stuck) .exc .stuck := by
  simp only [vwK, vwsK, vdsK]
  rw [sP_a, Res.out_go]; refine go_c fun a S st => ?_
  rcases vds S a with _ | l
  · rfl
  · rcases l with _ | ⟨x, _ | ⟨y, _ | ⟨w, r⟩⟩⟩ <;> rfl
@[simp ↓] theorem sX_p (c : Nat) : sX c S st = .exc ⟨c, []⟩ S st := by rfl
@[simp] theorem clr_nx (i : Nat) (S : Sls) (st : Store) : clr i (.nx S st) = .nx (S.set i .no) st := rfl
@[simp] theorem clr_ret (i : Nat) (d : D) (S : Sls) (st : Store) : clr i (.ret d S st) = .ret d (S.set i .no) st := rfl
@[simp] theorem pickO_c (o : Out) : pickO (fun _ => o) = o := pickO_eq fun _ => rfl
theorem sTryA_exc {T : XTab} {h i c : Nat} {fb : EvS} {fs : Addr → Nat → EvS} {S1 : Sls} {st1 : Store} {o : Out} (e : fb S st = .exc ⟨c, []⟩ S1 st1) (hl : xLook T c h = some true) (ho : ∀ a, clr i (fs a c (S1.set i (.d (.err a c))) st1) = o) : sTryA T h i fb fs S st = o := by unfold sTryA; rw [e]; dsimp only; rw [hl]; exact pickO_eq ho
theorem sTryA_nx {T : XTab} {h i : Nat} {fb : EvS} {fs : Addr → Nat → EvS} {S1 : Sls} {st1 : Store} (e : fb S st = .nx S1 st1) : sTryA T h i fb fs S st = .nx S1 st1 := by unfold sTryA; rw [e]
theorem sTryA_ret {T : XTab} {h i : Nat} {fb : EvS} {fs : Addr → Nat → EvS} {d : D} {S1 : Sls} {st1 : Store} (e : fb S st = .ret d S1 st1) : sTryA T h i fb fs S st = .ret d S1 st1 := by unfold sTryA; rw [e]
theorem then_go {α : Type} (r : Res α) (G : α → Sls → Store → Out) (k : Sls → Store → Out) : (r.out G).then k = r.go (fun a S st => (G a S st).then k) .exc .stuck := by cases r <;> rfl
@[simp ↓] theorem then_go2 {α : Type} (r : Res α) (G : α → Sls → Store → Out) (k : Sls → Store → Out) : (r.go G .exc .stuck).then k = r.go (fun a S st => (G a S st).then k) .exc .stuck := by cases r <;> rfl
@[simp ↓] theorem then_getK (S : Sls) (i : Nat) (G : Sl → Out) (k : Sls → Store → Out) : (getK S i G .stuck).then k = getK S i (fun s => (G s).then k) .stuck := by unfold getK; cases S[i]? <;> rfl
@[simp ↓] theorem then_setK (S : Sls) (i : Nat) (x : Sl) (G : Sls → Out) (k : Sls → Store → Out) : (setK S i x G).then k = setK S i x (fun S => (G S).then k) := rfl
@[simp ↓] theorem then_ite (c : Prop) [Decidable c] (a b : Out) (k : Sls → Store → Out) : (if c then a else b).then k = if c then a.then k else b.then k := by split <;> rfl
@[simp ↓] theorem sSeq_t (f g : EvS) (k : Sls → Store → Out) : (sSeq f g S st).then k = (f S st).then fun S st => (g S st).then k := by
  show ((f S st).then g).then k = _; cases f S st <;> rfl
@[simp ↓] theorem sE_t (f : Ev D) (k : Sls → Store → Out) : (sE f S st).then k = (f S st).go (fun _ S st => k S st) .exc .stuck := by
  rw [sE_a, then_go]; rfl
@[simp ↓] theorem sV_t (i : Nat) (f : Ev D) (k : Sls → Store → Out) : (sV i f S st).then k = (f S st).go (fun d S st => setK S i (.d d) fun S => k S st) .exc .stuck := by
  rw [sV_a, then_go]; rfl
@[simp ↓] theorem sO_t (i : Nat) (f : Ev Ow) (k : Sls → Store → Out) : (sO i f S st).then k = (f S st).go (fun w S st => setK S i (.own w) fun S => k S st) .exc .stuck := by
  rw [sO_a, then_go]; rfl
@[simp ↓] theorem sI_t (t : Ev Bool) (f g : EvS) (k : Sls → Store → Out) : (sI t f g S st).then k = (t S st).go (fun b S st => if b = true then (f S st).then k else (g S st).then k) .exc .stuck := by
  rw [sI_a, then_go]; exact go_c fun b S st => by cases b <;> rfl
@[simp ↓] theorem sG_t (g : Tg) (f : Ev D) (k : Sls → Store → Out) : (sG g f S st).then k = (f S st).go (fun d S st => match g d S with | some S2 => k S2 st | none => .stuck) .exc .stuck := by
  rw [sG_a, then_go]; exact go_c fun b S st => by cases g b S <;> rfl
@[simp ↓] theorem sF_t (f : Ev (List D)) (g : Tg) (b : EvS) (k : Sls → Store → Out) : (sF f g b S st).then k = (f S st).go (fun ds S st => match forL g b ds S st with | .nx S st => k S st | .ret d S st => .ret d S st | .bk S st => .bk S st | .ct S st => .ct S st | .rto w S st => .rto w S st | .exc x S st => .exc x S st | .stuck => .stuck) .exc .stuck := by
  rw [sF_a, then_go]; refine go_c fun ds S st => ?_; cases forL g b ds S st <;> rfl
@[simp ↓] theorem sW_t (c : Ev Bool) (b : EvS) (k : Sls → Store → Out) : (sW c b S st).then k = match sW c b S st with | .nx S st => k S st | .ret d S st => .ret d S st | .bk S st => .bk S st | .ct S st => .ct S st | .rto w S st => .rto w S st | .exc x S st => .exc x S st | .stuck => .stuck := by
  cases sW c b S st <;> rfl
@[simp ↓] theorem sNil_t  (k : Sls → Store → Out) : (sNil S st).then k = k S st := by
  rfl
@[simp ↓] theorem sR_t (f : Ev D) (k : Sls → Store → Out) : (sR f S st).then k = (f S st).go (fun d S st => .ret d S st) .exc .stuck := by
  rw [sR_a, then_go]; rfl
@[simp ↓] theorem sRO_t (f : Ev Ow) (k : Sls → Store → Out) : (sRO f S st).then k = (f S st).go (fun w S st => .rto w S st) .exc .stuck := by
  rw [sRO_a, then_go]; rfl
@[simp ↓] theorem then_rto_p (w : Ow) (k : Sls → Store → Out) : (Out.rto w S st).then k = .rto w S st := rfl
@[simp ↓] theorem then_nx_p (k : Sls → Store → Out) : (Out.nx S st).then k = k S st := rfl
@[simp ↓] theorem then_ret_p (d : D) (k : Sls → Store → Out) : (Out.ret d S st).then k = .ret d S st := rfl
@[simp ↓] theorem then_bk_p (k : Sls → Store → Out) : (Out.bk S st).then k = .bk S st := rfl
@[simp ↓] theorem then_ct_p (k : Sls → Store → Out) : (Out.ct S st).then k = .ct S st := rfl
@[simp ↓] theorem then_exc_p (x : Exc) (k : Sls → Store → Out) : (Out.exc x S st).then k = .exc x S st := rfl
@[simp ↓] theorem sAug_t (i : Nat) (op : D → D → Option D) (f : Ev Opd) (k : Sls → Store → Out) : (sAug i op f S st).then k = getK S i (fun s => match s with | .d x => (f S st).go (fun y S st => vwK S y (fun y => match op x y with | some v => setK S i (.d v) fun S => k S st | none => .stuck) .stuck) .exc .stuck | _ => .stuck) .stuck := by
  rw [sAug_p]; simp only [vwK, vwsK, vdsK]; unfold getK; rcases S[i]? with _ | s
  · rfl
  · cases s with
    | d x =>
      dsimp only; rw [then_go2]; refine go_c fun y S st => ?_
      cases vw S y with
      | none => rfl
      | some y => dsimp only; cases op x y <;> rfl
    | _ => rfl
@[simp ↓] theorem sAp_t (i : Nat) (f : Ev D) (k : Sls → Store → Out) : (sAp i (oV f) S st).then k = getK S i (fun s => match s with | .own (.l _) => (f S st).go (fun d S st => getK S i (fun s => match s with | .own (.l ds) => if ds.length < 16777216 then setK S i (.own (.l (ds ++ [d]))) fun S => k S st else .stuck | _ => .stuck) .stuck) .exc .stuck | _ => .stuck) .stuck := by
  rw [sAp_p]; unfold getK; rcases S[i]? with _ | ⟨_ | _ | ⟨_ | _⟩⟩ <;> try rfl
  dsimp only; rw [then_go2]; refine go_c fun d S st => ?_
  rcases S[i]? with _ | ⟨_ | _ | ⟨_ | _⟩⟩ <;> try rfl
  dsimp only; split <;> rfl
@[simp ↓] theorem sEx_t (i : Nat) (f : Ev D) (k : Sls → Store → Out) : (sEx i f S st).then k = getK S i (fun s => match s with | .own (.l _) => (f S st).go (fun d S st => match d with | .lst es => getK S i (fun s => match s with | .own (.l ds) => if ds.length + es.length ≤ 16777216 then setK S i (.own (.l (ds ++ es))) fun S => k S st else .stuck | _ => .stuck) .stuck | _ => .stuck) .exc .stuck | _ => .stuck) .stuck := by
  rw [sEx_p]; unfold getK; rcases S[i]? with _ | ⟨_ | _ | ⟨_ | _⟩⟩ <;> try rfl
  dsimp only; rw [then_go2]; refine go_c fun d S st => ?_
  cases d <;> try rfl
  dsimp only; rcases S[i]? with _ | ⟨_ | _ | ⟨_ | _⟩⟩ <;> try rfl
  dsimp only; split <;> rfl
@[simp ↓] theorem sSet_t (i : Nat) (fv fj : Ev D) (k : Sls → Store → Out) : (sSet i fv fj S st).then k = (fv S st).go (fun d S st => getK S i (fun s => match s with | .own (.l _) => (fj S st).go (fun j S st => match j with | .int n => getK S i (fun s => match s with | .own (.l ds) => (match ixN ds.length n with | some j => setK S i (.own (.l (ds.set j d))) fun S => k S st | none => .stuck) | _ => .stuck) .stuck | _ => .stuck) .exc .stuck | _ => .stuck) .stuck) .exc .stuck := by
  rw [sSet_p]; rw [then_go2]; refine go_c fun d S st => ?_
  unfold getK; rcases S[i]? with _ | ⟨_ | _ | ⟨_ | _⟩⟩ <;> try rfl
  dsimp only; rw [then_go2]; refine go_c fun j S st => ?_
  cases j with
  | int n =>
    dsimp only
    rcases S[i]? with _ | s
    · rfl
    · cases s with
      | own w => cases w with
        | l ds => dsimp only; cases ixN ds.length n <;> rfl
        | k _ => rfl
      | _ => rfl
  | _ => rfl
@[simp ↓] theorem sAugS_t (i : Nat) (g : Int → Int → Int) (fj fv : Ev D) (k : Sls → Store → Out) : (sAugS i g fj fv S st).then k = getK S i (fun s => match s with | .own (.l _) => (fj S st).go (fun j S st => match j with | .int n => getK S i (fun s => match s with | .own (.l ds) => (match L2.atI ds n with | some (.int a) => (fv S st).go (fun y S st => match y with | .int b => getK S i (fun s => match s with | .own (.l es) => (match ixN es.length n with | some j => setK S i (.own (.l (es.set j (.int (g a b))))) fun S => k S st | none => .stuck) | _ => .stuck) .stuck | _ => .stuck) .exc .stuck | _ => .stuck) | _ => .stuck) .stuck | _ => .stuck) .exc .stuck | _ => .stuck) .stuck := by
  rw [sAugS_p]; unfold getK; rcases S[i]? with _ | ⟨_ | _ | ⟨_ | _⟩⟩ <;> try rfl
  dsimp only; rw [then_go2]; refine go_c fun j S st => ?_
  cases j <;> try rfl
  rename_i n; dsimp only; rcases S[i]? with _ | ⟨_ | _ | ⟨_ | _⟩⟩ <;> try rfl
  rename_i ds; dsimp only; rcases L2.atI ds n with _ | d
  · rfl
  · cases d <;> try rfl
    dsimp only; rw [then_go2]; refine go_c fun y S st => ?_
    cases y <;> try rfl
    dsimp only; rcases S[i]? with _ | s
    · rfl
    · cases s with
      | own w => cases w with
        | l es => dsimp only; cases ixN es.length n <;> rfl
        | k _ => rfl
      | _ => rfl
@[simp ↓] theorem sPut_t (i : Nat) (fv fj : Ev D) (k : Sls → Store → Out) : (sPut i fv fj S st).then k = (fv S st).go (fun d S st => getK S i (fun s => match s with | .own (.k _) => (fj S st).go (fun j S st => getK S i (fun s => match s with | .own (.k ds) => (if isKey j = true ∧ ds.length < 16777216 then setK S i (.own (.k (putD ds j d))) fun S => k S st else .stuck) | _ => .stuck) .stuck) .exc .stuck | _ => .stuck) .stuck) .exc .stuck := by
  rw [sPut_p]; rw [then_go2]; refine go_c fun d S st => ?_
  unfold getK; rcases S[i]? with _ | ⟨_ | _ | ⟨_ | _⟩⟩ <;> try rfl
  dsimp only; rw [then_go2]; refine go_c fun j S st => ?_
  rcases S[i]? with _ | ⟨_ | _ | ⟨_ | _⟩⟩ <;> try rfl
  dsimp only; split <;> rfl
@[simp ↓] theorem sP_t (i j : Nat) (fa : Ev (List Opd)) (k : Sls → Store → Out) : (sP i j fa S st).then k = (fa S st).go (fun a S st => vdsK S a (fun l => match l with | [x, y] => setK S i (.d x) fun S => setK S j (.d y) fun S => k S st | _ => .stuck) .stuck) .exc .stuck := by
  rw [sP_p]; simp only [vwK, vwsK, vdsK]; rw [then_go2]; refine go_c fun a S st => ?_
  rcases vds S a with _ | l
  · rfl
  · rcases l with _ | ⟨x, _ | ⟨y, _ | ⟨w, r⟩⟩⟩ <;> rfl
theorem sW_true {c : Ev Bool} {b : EvS} {S S1 S2 : Sls} {st st1 st2 : Store} (h : c S st = .ok true S1 st1) (h2 : b S1 st1 = .nx S2 st2) : sW c b S st = sW c b S2 st2 := by
  rw [sW_eq, h]
  show (match b S1 st1 with | .nx S2 st2 => sW c b S2 st2 | .ct S2 st2 => sW c b S2 st2 | .rto w S2 st2 => .rto w S2 st2 | .bk S2 st2 => .nx S2 st2 | .ret v S2 st2 => .ret v S2 st2 | .exc x S2 st2 => .exc x S2 st2 | .stuck => .stuck) = _
  rw [h2]
theorem sW_false {c : Ev Bool} {b : EvS} {S S1 : Sls} {st st1 : Store} (h : c S st = .ok false S1 st1) : sW c b S st = .nx S1 st1 := by
  rw [sW_eq, h]; rfl
theorem sW_out {c : Ev Bool} {b : EvS} {S S1 S2 : Sls} {st st1 st2 : Store} {v : D} (h : c S st = .ok true S1 st1) (h2 : b S1 st1 = .ret v S2 st2) : sW c b S st = .ret v S2 st2 := by
  rw [sW_eq, h]
  show (match b S1 st1 with | .nx S2 st2 => sW c b S2 st2 | .ct S2 st2 => sW c b S2 st2 | .rto w S2 st2 => .rto w S2 st2 | .bk S2 st2 => .nx S2 st2 | .ret v S2 st2 => .ret v S2 st2 | .exc x S2 st2 => .exc x S2 st2 | .stuck => .stuck) = _
  rw [h2]
theorem sW_bk {c : Ev Bool} {b : EvS} {S S1 S2 : Sls} {st st1 st2 : Store} (h : c S st = .ok true S1 st1) (h2 : b S1 st1 = .bk S2 st2) : sW c b S st = .nx S2 st2 := by
  rw [sW_eq, h]
  show (match b S1 st1 with | .nx S2 st2 => sW c b S2 st2 | .ct S2 st2 => sW c b S2 st2 | .rto w S2 st2 => .rto w S2 st2 | .bk S2 st2 => .nx S2 st2 | .ret v S2 st2 => .ret v S2 st2 | .exc x S2 st2 => .exc x S2 st2 | .stuck => .stuck) = _
  rw [h2]
theorem getK_of {β : Type} {S : Sls} {i : Nat} {s : Sl} (h : S[i]? = some s) (k : Sl → β) (z : β) : getK S i k z = k s := by unfold getK; rw [h]
end
end DL

namespace M
open PySem PySem.Spec PyProof.Rows L2 DL
def isL (c : Nat) : Bool := decide (c ∈ k_LETTERS)
/-- how many letters stand ahead -/
def nL (t : List Nat) : Nat := (t.takeWhile isL).length
theorem count_loop (sd : D) (st : Store) (L : EvS) (hL : ∀ (n : Int) (c : Nat), L [.d sd, .d (.int n), .d (.str [c])] st = if isL c = true then .nx [.d sd, .d (.int (n + 1)), .d (.str [c])] st else .bk [.d sd, .d (.int n), .d (.str [c])] st) :
    ∀ (l : List Nat) (n : Int) (x : Sl), ∃ x', forL (gV 2) L (sgs l) [.d sd, .d (.int n), x] st = .nx [.d sd, .d (.int (n + (nL l : Nat))), x'] st
  | [], n, x => ⟨x, by show Out.nx _ _ = _; simp [nL]⟩
  | c :: r, n, x => by
    have hs : sgs (c :: r) = .str [c] :: sgs r := rfl
    have hc := hL n c
    rw [hs]
    by_cases h : isL c = true
    · rw [if_pos h] at hc
      obtain ⟨x', e⟩ := count_loop sd st L hL r (n + 1) (.d (.str [c]))
      refine ⟨x', ?_⟩
      have hn : n + 1 + ((nL r : Nat) : Int) = n + ((nL (c :: r) : Nat) : Int) := by
        unfold nL; rw [List.takeWhile_cons, if_pos h, List.length_cons]; omega
      simp only [forL_c, gV_a, List.set_cons_succ, List.set_cons_zero, hc]
      rw [e, hn]
    · rw [if_neg h] at hc
      refine ⟨.d (.str [c]), ?_⟩
      have hn : n = n + ((nL (c :: r) : Nat) : Int) := by
        unfold nL; rw [List.takeWhile_cons, if_neg h]; simp
      simp only [forL_c, gV_a, List.set_cons_succ, List.set_cons_zero, hc]
      rw [← hn]
theorem first_step (sd : D) (st : Store) (n : Int) (c : Nat) : L_first_letters_1 [.d sd, .d (.int n), .d (.str [c])] st = if isL c = true then .nx [.d sd, .d (.int (n + 1)), .d (.str [c])] st else .bk [.d sd, .d (.int n), .d (.str [c])] st := by
  rw [L_first_letters_1]
  unfold isL
  generalize k_LETTERS = ls
  by_cases h : c ∈ ls
  · simp (maxSteps := 30000) (disch := first | assumption | (simp; done) | omega | (simp; omega)) [h, dAddI]
  · simp (maxSteps := 30000) (disch := first | assumption | (simp; done) | omega | (simp; omega)) [h]
theorem last_step (sd : D) (st : Store) (n : Int) (c : Nat) : L_last_letters_1 [.d sd, .d (.int n), .d (.str [c])] st = if isL c = true then .nx [.d sd, .d (.int (n + 1)), .d (.str [c])] st else .bk [.d sd, .d (.int n), .d (.str [c])] st := by
  rw [L_last_letters_1]
  unfold isL
  generalize k_LETTERS = ls
  by_cases h : c ∈ ls
  · simp (maxSteps := 30000) (disch := first | assumption | (simp; done) | omega | (simp; omega)) [h, dAddI]
  · simp (maxSteps := 30000) (disch := first | assumption | (simp; done) | omega | (simp; omega)) [h]
theorem first_ok (t : List Nat) (st : Store) : c_first_letters [.str t] st = .ok (.int (nL t : Nat)) [] st := by
  obtain ⟨x', e⟩ := count_loop (.str t) st L_first_letters_1 (first_step _ _) t 0 .no
  have i1 : itD (.str t) = some (sgs t) := itD_s _
  rw [c_first_letters, runB_k, b_first_letters]
  generalize sgs t = sg at *
  generalize D.str t = td at *
  simp (maxSteps := 30000) (disch := first | assumption | (simp; done) | omega | (simp; omega)) [i1, e]
theorem last_ok (t : List Nat) (ht : t.length ≤ 16777216) (st : Store) : c_last_letters [.str t] st = .ok (.int (nL t.reverse : Nat)) [] st := by
  obtain ⟨x', e⟩ := count_loop (.str t) st L_last_letters_1 (last_step _ _) t.reverse 0 .no
  have hs : sgs t.reverse = (sgs t).reverse := by unfold sgs; rw [List.map_reverse]
  rw [hs] at e
  rw [c_last_letters, runB_k, b_last_letters]
  simp (maxSteps := 30000) (disch := first | assumption | (simp; done) | omega | (simp; omega)) [e, ht]
end M

namespace M
open PySem PySem.Spec PyProof.Rows L2 DL
theorem nL_le (t : List Nat) : nL t ≤ t.length := (List.takeWhile_sublist _).length_le
theorem nL_all {t : List Nat} : nL t = t.length ↔ t.all isL = true := by
  induction t with
  | nil => simp [nL]
  | cons c r ih =>
    unfold nL at *
    rw [List.takeWhile_cons, List.all_cons]
    cases h : isL c
    · simp
    · simp [ih]
/-- one to twelve letters -/
def thing (t : List Nat) : Bool := decide (0 < t.length) && decide (t.length ≤ 12) && t.all isL
theorem thing_ok (t : List Nat) (ht : t.length ≤ 16777216) (st : Store) : c_is_thing_text [.str t] st = .ok (.bl (thing t)) [] st := by
  have l3 : dLen [.str t] = some (.int (t.length : Int)) := dLen_s _ ht
  have f := first_ok t st
  have hn := nL_le t
  have ha := nL_all (t := t)
  unfold thing
  rw [c_is_thing_text, runB_k, b_is_thing_text]
  generalize nL t = k at *
  generalize t.all isL = b at *
  generalize D.str t = td at *
  generalize t.length = n at *
  by_cases h0 : 0 < n
  · by_cases h1 : n ≤ 12
    · have e0 : (0 : Int) < (n : Int) := by omega
      have e1 : (n : Int) ≤ 12 := by omega
      by_cases h2 : k = n
      · have hb : b = true := ha.mp h2
        subst hb
        have e2 : (k : Int) = (n : Int) := by omega
        simp (maxSteps := 30000) (disch := first | assumption | (simp; done) | omega | (simp; omega)) [l3, f, e0, e1, e2, h0, h1]
      · have hb : b = false := by cases b with | false => rfl | true => exact absurd (ha.mpr rfl) h2
        subst hb
        have e2 : ¬ (k : Int) = (n : Int) := by omega
        simp (maxSteps := 30000) (disch := first | assumption | (simp; done) | omega | (simp; omega)) [l3, f, e0, e1, e2, h0, h1]
    · have e0 : (0 : Int) < (n : Int) := by omega
      have e1 : ¬ (n : Int) ≤ 12 := by omega
      simp (maxSteps := 30000) (disch := first | assumption | (simp; done) | omega | (simp; omega)) [l3, e0, e1, h0, h1]
  · have e0 : ¬ (0 : Int) < (n : Int) := by omega
    simp (maxSteps := 30000) (disch := first | assumption | (simp; done) | omega | (simp; omega)) [l3, e0, h0]
end M

namespace M
open PySem PySem.Spec PyProof.Rows L2 DL
/-- the texts that stand with j between -/
def cutp (j : List Nat) : Nat → List Nat → Option (List (List Nat))
  | 0, _ => none
  | k + 1, t => if thing (t.take (nL t)) = true then
      (if t.drop (nL t) = [] then some [t.take (nL t)]
       else if Txt.startswith (tx (t.drop (nL t))) (tx j) = true then (cutp j k ((t.drop (nL t)).drop j.length)).map (t.take (nL t) :: ·) else none)
    else none
theorem parted_loop (j : List Nat) (hj : j.length ≤ 1000) (st : Store) : ∀ (k : Nat) (t : List Nat) (acc : List (List Nat)) (x3 : Sl), t.length < k → t.length ≤ 10000 → acc.length + t.length ≤ 10000 →
    (cutp j k t = none → ∃ S', sW W_parted_1 L_parted_1 [.d (.str t), .d (.str j), .own (.l (acc.map .str)), x3] st = .ret .non S' st) ∧
    (∀ ps, cutp j k t = some ps → ∃ S', sW W_parted_1 L_parted_1 [.d (.str t), .d (.str j), .own (.l (acc.map .str)), x3] st = .ret (.lst ((acc ++ ps).map .str)) S' st) := by
  intro k
  induction k with
  | zero => intro t acc x3 h; omega
  | succ k ih =>
    intro t acc x3 hk ht ha
    have l1 : t.length ≤ 16777216 := by omega
    have f := first_ok t st
    have hn := nL_le t
    have s1 : dSl (.str t) none (some ((nL t : Nat) : Int)) = some (.str (t.take (nL t))) := by rw [dSl_s _ _ _ l1, cut_to _ (by omega), Int.toNat_natCast]
    have s2 : dSl (.str t) (some ((nL t : Nat) : Int)) none = some (.str (t.drop (nL t))) := by rw [dSl_s _ _ _ l1, cut_from _ (by omega), Int.toNat_natCast]
    have ga := thing_ok (t.take (nL t)) (by rw [List.length_take]; omega) st
    have l2 : (t.drop (nL t)).length ≤ 16777216 := by rw [List.length_drop]; omega
    have s3 : dSl (.str (t.drop (nL t))) (some (j.length : Int)) none = some (.str ((t.drop (nL t)).drop j.length)) := by rw [dSl_s _ _ _ l2, cut_from _ (by omega), Int.toNat_natCast]
    have lj : dLen [.str j] = some (.int (j.length : Int)) := dLen_s _ (by omega)
    have hc : W_parted_1 [.d (.str t), .d (.str j), .own (.l (acc.map .str)), x3] st = .ok true [.d (.str t), .d (.str j), .own (.l (acc.map .str)), x3] st := by
      rw [W_parted_1]; simp (maxSteps := 30000) (disch := first | assumption | (simp; done) | omega | (simp; omega)) []
    have ty : tyD "str" (.str (t.drop (nL t))) = true := rfl
    have q1 : eqOk (.str (t.drop (nL t))) = true := by simp
    have hal : (acc.map D.str).length < 16777216 := by simp; omega
    have ds : dStarts (.str (t.drop (nL t))) [.str j] = some (.bl (Txt.startswith (tx (t.drop (nL t))) (tx j))) := rfl
    have hlen : ((t.drop (nL t)).drop j.length).length ≤ t.length - nL t := by rw [List.length_drop, List.length_drop]; omega
    rw [cutp]
    by_cases hth : thing (t.take (nL t)) = true
    · have hpos : 0 < nL t := by
        have h0 : 0 < (t.take (nL t)).length := by
          unfold thing at hth
          simp only [Bool.and_eq_true, decide_eq_true_eq] at hth
          exact hth.1.1
        rw [List.length_take] at h0; omega
      rw [if_pos hth]
      rw [hth] at ga
      have happ : acc.map D.str ++ [D.str (t.take (nL t))] = (acc ++ [t.take (nL t)]).map .str := by simp
      by_cases hr : t.drop (nL t) = []
      · rw [if_pos hr]
        refine ⟨fun h => (by cases h), fun ps h => ?_⟩
        cases h
        have q2 : deq (.str (t.drop (nL t))) (.str []) = true := by rw [hr]; simp
        have hb : L_parted_1 [.d (.str t), .d (.str j), .own (.l (acc.map .str)), x3] st = .ret (.lst ((acc ++ [t.take (nL t)]).map .str)) [.d (.str (t.drop (nL t))), .d (.str j), .d (.lst ((acc ++ [t.take (nL t)]).map .str)), .d (.int (nL t : Nat))] st := by
          rw [L_parted_1, ← happ]
          generalize D.str (t.drop (nL t)) = rd at *
          generalize D.str (t.take (nL t)) = ad at *
          generalize D.str t = td at *
          generalize nL t = n at *
          generalize acc.map D.str = al at *
          simp (maxSteps := 30000) (disch := first | assumption | (simp; done) | omega | (simp; omega)) [f, s1, s2, ga, hal, q1, q2]
        exact ⟨_, sW_out hc hb⟩
      · rw [if_neg hr]
        have q2 : deq (.str (t.drop (nL t))) (.str []) = false := by simp [hr]
        by_cases hs : Txt.startswith (tx (t.drop (nL t))) (tx j) = true
        · rw [if_pos hs]
          rw [hs] at ds
          have hb : L_parted_1 [.d (.str t), .d (.str j), .own (.l (acc.map .str)), x3] st = .nx [.d (.str ((t.drop (nL t)).drop j.length)), .d (.str j), .own (.l ((acc ++ [t.take (nL t)]).map .str)), .d (.int (nL t : Nat))] st := by
            rw [L_parted_1, ← happ]
            generalize D.str ((t.drop (nL t)).drop j.length) = r2 at *
            generalize D.str (t.drop (nL t)) = rd at *
            generalize D.str (t.take (nL t)) = ad at *
            generalize D.str t = td at *
            generalize D.str j = jd at *
            generalize nL t = n at *
            generalize acc.map D.str = al at *
            generalize (j.length : Int) = lj' at *
            simp (maxSteps := 30000) (disch := first | assumption | (simp; done) | omega | (simp; omega)) [f, s1, s2, s3, lj, ga, hal, q1, q2, ds, ty]
          have e := sW_true hc hb
          rw [e]
          have hh := ih ((t.drop (nL t)).drop j.length) (acc ++ [t.take (nL t)]) (.d (.int (nL t : Nat))) (by omega) (by omega) (by rw [List.length_append, List.length_singleton]; omega)
          cases hcp : cutp j k ((t.drop (nL t)).drop j.length) with
          | none => exact ⟨fun _ => hh.1 hcp, fun ps h => (by cases h)⟩
          | some qs =>
            refine ⟨fun h => (by cases h), fun ps h => ?_⟩
            cases h
            have := hh.2 qs hcp
            rw [List.append_assoc] at this
            exact this
        · rw [if_neg hs]
          have hs' : Txt.startswith (tx (t.drop (nL t))) (tx j) = false := by simpa using hs
          rw [hs'] at ds
          refine ⟨fun _ => ?_, fun ps h => (by cases h)⟩
          have hb : L_parted_1 [.d (.str t), .d (.str j), .own (.l (acc.map .str)), x3] st = .ret .non [.d (.str (t.drop (nL t))), .d (.str j), .own (.l ((acc ++ [t.take (nL t)]).map .str)), .d (.int (nL t : Nat))] st := by
            rw [L_parted_1, ← happ]
            generalize D.str (t.drop (nL t)) = rd at *
            generalize D.str (t.take (nL t)) = ad at *
            generalize D.str t = td at *
            generalize D.str j = jd at *
            generalize nL t = n at *
            generalize acc.map D.str = al at *
            simp (maxSteps := 30000) (disch := first | assumption | (simp; done) | omega | (simp; omega)) [f, s1, s2, ga, hal, q1, q2, ds, ty]
          exact ⟨_, sW_out hc hb⟩
    · rw [if_neg hth]
      have hth' : thing (t.take (nL t)) = false := by simpa using hth
      rw [hth'] at ga
      refine ⟨fun _ => ?_, fun ps h => (by cases h)⟩
      have hb : L_parted_1 [.d (.str t), .d (.str j), .own (.l (acc.map .str)), x3] st = .ret .non [.d (.str t), .d (.str j), .own (.l (acc.map .str)), .d (.int (nL t : Nat))] st := by
        rw [L_parted_1]
        generalize D.str (t.take (nL t)) = ad at *
        generalize D.str t = td at *
        generalize D.str j = jd at *
        generalize nL t = n at *
        generalize acc.map D.str = al at *
        simp (maxSteps := 30000) (disch := first | assumption | (simp; done) | omega | (simp; omega)) [f, s1, ga]
      exact ⟨_, sW_out hc hb⟩
end M

namespace M
open PySem PySem.Spec PyProof.Rows L2 DL
theorem parted_ok (j : List Nat) (hj : j.length ≤ 1000) (t : List Nat) (ht : t.length ≤ 5000) (st : Store) : c_parted [.str t, .str j] st = .ok (match cutp j (t.length + 1) t with | none => .non | some ps => .lst (ps.map .str)) [] st := by
  obtain ⟨h1, h2⟩ := parted_loop j hj st (t.length + 1) t [] .no (by omega) (by omega) (by simp; omega)
  rw [c_parted, runB_k, b_parted]
  simp only [List.map_nil, List.nil_append] at h1 h2
  generalize cutp j (t.length + 1) t = r at *
  cases r with
  | none =>
    obtain ⟨S', e⟩ := h1 rfl
    generalize D.str t = td at *
    generalize D.str j = jd at *
    simp (maxSteps := 30000) (disch := first | assumption | (simp; done) | omega | (simp; omega)) [e]
  | some ps =>
    obtain ⟨S', e⟩ := h2 ps rfl
    generalize D.str t = td at *
    generalize D.str j = jd at *
    simp (maxSteps := 30000) (disch := first | assumption | (simp; done) | omega | (simp; omega)) [e]
end M

namespace M
open PySem PySem.Spec PyProof.Rows L2 DL
theorem tx_len (x : List Nat) : (tx x).length = x.length := by simp [tx, Str.length]
theorem st_iff (x j : List Nat) : Txt.startswith (tx x) (tx j) = true ↔ ∃ r, x = j ++ r := by
  unfold Txt.startswith
  rw [Bool.and_eq_true, StrLaws.subAt_eq, tx_len, tx_len]
  show decide (0 + j.length ≤ x.length) = true ∧ ((x.drop 0).take j.length == j) = true ↔ _
  rw [decide_eq_true_eq, beq_iff_eq, List.drop_zero]
  constructor
  · rintro ⟨_, h⟩
    exact ⟨x.drop j.length, by
      have h2 := List.take_append_drop j.length x
      rw [h] at h2; exact h2.symm⟩
  · rintro ⟨r, rfl⟩
    simp
theorem en_iff (x j : List Nat) : Txt.endswith (tx x) (tx j) = true ↔ ∃ r, x = r ++ j := by
  unfold Txt.endswith
  rw [Bool.and_eq_true, StrLaws.subAt_eq, tx_len, tx_len]
  show decide (0 + j.length ≤ x.length) = true ∧ ((x.drop (x.length - j.length)).take j.length == j) = true ↔ _
  rw [decide_eq_true_eq, beq_iff_eq]
  constructor
  · rintro ⟨h0, h⟩
    have h1 : (x.drop (x.length - j.length)).take j.length = x.drop (x.length - j.length) := List.take_of_length_le (by rw [List.length_drop]; omega)
    rw [h1] at h
    exact ⟨x.take (x.length - j.length), by
      have h2 := List.take_append_drop (x.length - j.length) x
      rw [h] at h2; exact h2.symm⟩
  · rintro ⟨r, rfl⟩
    simp
theorem nL_app {a : List Nat} (ha : a.all isL = true) (s : List Nat) : nL (a ++ s) = a.length + nL s := by
  induction a with
  | nil => simp
  | cons c r ih =>
    rw [List.all_cons, Bool.and_eq_true] at ha
    have h := ih ha.2
    show nL (c :: (r ++ s)) = _
    unfold nL at *
    rw [List.takeWhile_cons, if_pos ha.1, List.length_cons, h, List.length_cons]; omega
theorem nL_bad {c : Nat} (h : isL c = false) (r : List Nat) : nL (c :: r) = 0 := by
  unfold nL; rw [List.takeWhile_cons, h]; rfl
def headB (j : List Nat) : Prop := ∃ c r, j = c :: r ∧ isL c = false
def lastB (j : List Nat) : Prop := ∃ r c, j = r ++ [c] ∧ isL c = false
theorem thing_all {p : List Nat} (h : thing p = true) : p.all isL = true := by
  unfold thing at h; simp only [Bool.and_eq_true] at h; exact h.2
theorem thing_pos {p : List Nat} (h : thing p = true) : 0 < p.length := by
  unfold thing at h; simp only [Bool.and_eq_true, decide_eq_true_eq] at h; exact h.1.1
theorem thing_le {p : List Nat} (h : thing p = true) : p.length ≤ 12 := by
  unfold thing at h; simp only [Bool.and_eq_true, decide_eq_true_eq] at h; exact h.1.2
theorem cutp_all {j : List Nat} (hj : headB j) : ∀ (ps : List (List Nat)) (k : Nat), ps ≠ [] → (∀ p ∈ ps, thing p = true) → (joinN j ps).length < k → cutp j k (joinN j ps) = some ps
  | [], _, h, _, _ => absurd rfl h
  | [p], 0, _, _, hk => by omega
  | [p], k + 1, _, h, hk => by
    have hp := h p (by simp)
    have hn : nL p = p.length := nL_all.mpr (thing_all hp)
    show cutp j (k + 1) p = _
    rw [cutp, hn, List.take_length, if_pos hp, List.drop_length, if_pos rfl]
  | p :: q :: r, 0, _, _, hk => by omega
  | p :: q :: r, k + 1, _, h, hk => by
    have hp := h p (by simp)
    have hl : (joinN j (p :: q :: r)).length = p.length + j.length + (joinN j (q :: r)).length := by
      show (p ++ j ++ joinN j (q :: r)).length = _
      rw [List.length_append, List.length_append]
    have ih := cutp_all hj (q :: r) k (by simp) (fun x hx => h x (by simp [hx]) ) (by have := thing_pos hp; omega)
    obtain ⟨c, jr, rfl, hc⟩ := hj
    have hn : nL (p ++ (c :: jr ++ joinN (c :: jr) (q :: r))) = p.length := by
      rw [nL_app (thing_all hp), List.cons_append, nL_bad hc]; omega
    show cutp _ (k + 1) (p ++ (c :: jr) ++ joinN (c :: jr) (q :: r)) = _
    rw [List.append_assoc, cutp, hn, List.take_left, if_pos hp, List.drop_left, if_neg (by simp), if_pos ((st_iff _ _).mpr ⟨_, rfl⟩), List.drop_left, ih]
    rfl
theorem cutp_out (j : List Nat) : ∀ (k : Nat) (t : List Nat) (ps : List (List Nat)), cutp j k t = some ps → ps ≠ [] ∧ (∀ p ∈ ps, thing p = true) ∧ joinN j ps = t := by
  intro k
  induction k with
  | zero => intro t ps h; cases h
  | succ k ih =>
    intro t ps h
    rw [cutp] at h
    by_cases hth : thing (t.take (nL t)) = true
    · rw [if_pos hth] at h
      by_cases hr : t.drop (nL t) = []
      · rw [if_pos hr] at h
        cases h
        refine ⟨by simp, by simpa using hth, ?_⟩
        show t.take (nL t) = t
        conv => rhs; rw [← List.take_append_drop (nL t) t, hr, List.append_nil]
      · rw [if_neg hr] at h
        by_cases hs : Txt.startswith (tx (t.drop (nL t))) (tx j) = true
        · rw [if_pos hs] at h
          obtain ⟨s, es⟩ := (st_iff _ _).mp hs
          rw [es, List.drop_left] at h
          cases hq : cutp j k s with
          | none => rw [hq] at h; cases h
          | some qs =>
            rw [hq] at h
            cases h
            obtain ⟨h1, h2, h3⟩ := ih s qs hq
            refine ⟨by simp, ?_, ?_⟩
            · intro p hp
              rcases List.mem_cons.mp hp with rfl | hp
              · exact hth
              · exact h2 p hp
            · cases qs with
              | nil => exact absurd rfl h1
              | cons q r =>
                show t.take (nL t) ++ j ++ joinN j (q :: r) = t
                rw [h3, List.append_assoc, ← es, List.take_append_drop]
        · rw [if_neg hs] at h; cases h
    · rw [if_neg hth] at h; cases h
/-- how many signs stand ahead of the last letters -/
def cutL (t : List Nat) : Nat := t.length - nL t.reverse
theorem cutL_app {a b : List Nat} (ha : lastB a) (hb : b.all isL = true) : cutL (a ++ b) = a.length := by
  obtain ⟨r, c, rfl, hc⟩ := ha
  have h : nL (r ++ [c] ++ b).reverse = b.length := by
    rw [List.reverse_append, nL_app (by rw [List.all_reverse]; exact hb), List.reverse_append, List.length_reverse]
    show b.length + nL (c :: r.reverse) = _
    rw [nL_bad hc]; omega
  unfold cutL
  rw [h, List.length_append]; omega
/-- the law's own laying -/
def laidS (no two mid las : List Nat) : List (List Nat) → List Nat
  | [] => no
  | [p] => p
  | [p, q] => p ++ two ++ q
  | p :: q :: r :: s => joinN mid ((p :: q :: r :: s).dropLast) ++ las ++ ((p :: q :: r :: s).getLast?.getD [])
def isLs (ps : List (List Nat)) : Bool := decide (ps.length ≤ 8) && ps.all thing
def unl (no two mid las t : List Nat) : List (List (List Nat)) :=
  (if t = no then [[]] else []) ++ (if thing t = true then [[t]] else []) ++
  (if thing (t.drop (cutL t)) = true then
    (if Txt.endswith (tx (t.take (cutL t))) (tx two) = true ∧ thing ((t.take (cutL t)).take ((t.take (cutL t)).length - two.length)) = true
      then [[(t.take (cutL t)).take ((t.take (cutL t)).length - two.length), t.drop (cutL t)]] else []) ++
    (if Txt.endswith (tx (t.take (cutL t))) (tx las) = true then
      (match cutp mid (((t.take (cutL t)).take ((t.take (cutL t)).length - las.length)).length + 1) ((t.take (cutL t)).take ((t.take (cutL t)).length - las.length)) with
        | none => []
        | some ps => if 2 ≤ ps.length ∧ ps.length ≤ 7 then [ps ++ [t.drop (cutL t)]] else [])
      else [])
   else [])
theorem three_form {ps : List (List Nat)} (h : 3 ≤ ps.length) : ∃ qs b, ps = qs ++ [b] ∧ qs.length + 1 = ps.length :=
  ⟨ps.dropLast, ps.getLast (by intro e; rw [e] at h; simp at h), (List.dropLast_concat_getLast _).symm, by rw [List.length_dropLast]; omega⟩
theorem laidS_three (no two mid las : List Nat) (qs : List (List Nat)) (b : List Nat) (h : 2 ≤ qs.length) : laidS no two mid las (qs ++ [b]) = joinN mid qs ++ las ++ b := by
  match qs, h with
  | p :: q :: r, _ =>
    have e : ∃ u v, r ++ [b] = u :: v := by cases r with | nil => exact ⟨_, _, rfl⟩ | cons u v => exact ⟨_, _, rfl⟩
    obtain ⟨u, v, e⟩ := e
    have e2 : p :: q :: r ++ [b] = p :: q :: u :: v := by rw [← e]; rfl
    rw [e2]
    show joinN mid ((p :: q :: u :: v).dropLast) ++ las ++ ((p :: q :: u :: v).getLast?.getD []) = _
    rw [← e2, List.dropLast_concat, List.getLast?_concat]; rfl
theorem lastB_app {j : List Nat} (h : lastB j) (a : List Nat) : lastB (a ++ j) := by
  obtain ⟨r, c, rfl, hc⟩ := h
  exact ⟨a ++ r, c, by simp, hc⟩
theorem mem_unl {no two mid las t : List Nat} (h2 : lastB two) (hm : headB mid) (hl : lastB las) {ps : List (List Nat)} (hp : isLs ps = true) (he : laidS no two mid las ps = t) : ps ∈ unl no two mid las t := by
  unfold isLs at hp
  rw [Bool.and_eq_true, decide_eq_true_eq, List.all_eq_true] at hp
  obtain ⟨hn, ha⟩ := hp
  unfold unl
  rw [List.mem_append, List.mem_append]
  by_cases h3 : 3 ≤ ps.length
  · obtain ⟨qs, b, rfl, hq⟩ := three_form h3
    rw [laidS_three _ _ _ _ _ _ (by omega)] at he
    have hb := ha b (by simp)
    have hc := cutL_app (lastB_app hl (joinN mid qs)) (thing_all hb)
    rw [he] at hc
    have e1 : t.take (cutL t) = joinN mid qs ++ las := by rw [hc, ← he, List.take_left]
    have e2 : t.drop (cutL t) = b := by rw [hc, ← he, List.drop_left]
    have e3 : (joinN mid qs ++ las).take ((joinN mid qs ++ las).length - las.length) = joinN mid qs := by
      rw [List.length_append, Nat.add_sub_cancel, List.take_left]
    right
    rw [e1, e2, e3, if_pos hb, if_pos ((en_iff _ _).mpr ⟨_, rfl⟩), cutp_all hm qs ((joinN mid qs).length + 1) (by intro e; rw [e] at h3; simp at h3) (fun p hp => ha p (by simp [hp])) (by omega), List.mem_append]
    right
    show qs ++ [b] ∈ (if 2 ≤ qs.length ∧ qs.length ≤ 7 then [qs ++ [b]] else [])
    rw [if_pos (by omega)]
    simp
  · match ps, h3, he, ha with
    | [], _, he, ha =>
      left; left
      have he' : no = t := he
      rw [if_pos he'.symm]; simp
    | [p], _, he, ha =>
      left; right
      have he' : p = t := he
      subst he'
      rw [if_pos (ha p (by simp))]; simp
    | [p, b], _, he, ha =>
      have he' : p ++ two ++ b = t := he
      have hb := ha b (by simp)
      have hpp := ha p (by simp)
      have hc := cutL_app (lastB_app h2 p) (thing_all hb)
      rw [he'] at hc
      have e1 : t.take (cutL t) = p ++ two := by rw [hc, ← he', List.take_left]
      have e2 : t.drop (cutL t) = b := by rw [hc, ← he', List.drop_left]
      have e3 : (p ++ two).take ((p ++ two).length - two.length) = p := by
        rw [List.length_append, Nat.add_sub_cancel, List.take_left]
      right
      rw [e1, e2, e3, if_pos hb, if_pos ⟨(en_iff _ _).mpr ⟨_, rfl⟩, hpp⟩, List.mem_append]
      left; simp
    | _ :: _ :: _ :: _, h3, _, _ => simp at h3
theorem unl_out {no two mid las t : List Nat} {ps : List (List Nat)} (h : ps ∈ unl no two mid las t) : isLs ps = true ∧ laidS no two mid las ps = t := by
  unfold unl at h
  rw [List.mem_append, List.mem_append] at h
  rcases h with (h | h) | h
  · by_cases e : t = no
    · rw [if_pos e, List.mem_singleton] at h
      subst h; exact ⟨rfl, e.symm⟩
    · rw [if_neg e] at h; cases h
  · by_cases e : thing t = true
    · rw [if_pos e, List.mem_singleton] at h
      subst h; exact ⟨by unfold isLs; simp [e], rfl⟩
    · rw [if_neg e] at h; cases h
  · have ht := List.take_append_drop (cutL t) t
    by_cases e : thing (t.drop (cutL t)) = true
    · rw [if_pos e, List.mem_append] at h
      generalize t.drop (cutL t) = b at *
      generalize t.take (cutL t) = a at *
      rcases h with h | h
      · by_cases e2 : Txt.endswith (tx a) (tx two) = true ∧ thing (a.take (a.length - two.length)) = true
        · rw [if_pos e2, List.mem_singleton] at h
          subst h
          obtain ⟨e2, e3⟩ := e2
          refine ⟨by unfold isLs; simp [e, e3], ?_⟩
          obtain ⟨r, rfl⟩ := (en_iff _ _).mp e2
          show (r ++ two).take ((r ++ two).length - two.length) ++ two ++ b = t
          rw [List.length_append, Nat.add_sub_cancel, List.take_left]; exact ht
        · rw [if_neg e2] at h; cases h
      · by_cases e2 : Txt.endswith (tx a) (tx las) = true
        · rw [if_pos e2] at h
          obtain ⟨r, rfl⟩ := (en_iff _ _).mp e2
          rw [List.length_append, Nat.add_sub_cancel, List.take_left] at h
          cases hc : cutp mid (r.length + 1) r with
          | none => rw [hc] at h; cases h
          | some qs =>
            rw [hc] at h
            obtain ⟨h1, h2, h3⟩ := cutp_out mid _ _ _ hc
            by_cases e3 : 2 ≤ qs.length ∧ qs.length ≤ 7
            · replace h : ps ∈ (if 2 ≤ qs.length ∧ qs.length ≤ 7 then [qs ++ [b]] else []) := h
              rw [if_pos e3, List.mem_singleton] at h
              subst h
              refine ⟨?_, ?_⟩
              · unfold isLs
                rw [Bool.and_eq_true, decide_eq_true_eq, List.all_eq_true]
                refine ⟨by rw [List.length_append, List.length_singleton]; omega, fun p hp => ?_⟩
                rcases List.mem_append.mp hp with hp | hp
                · exact h2 p hp
                · rw [List.mem_singleton.mp hp]; exact e
              · rw [laidS_three _ _ _ _ _ _ e3.1, h3]; exact ht
            · replace h : ps ∈ (if 2 ≤ qs.length ∧ qs.length ≤ 7 then [qs ++ [b]] else []) := h
              rw [if_neg e3] at h; cases h
        · rw [if_neg e2] at h; cases h
    · rw [if_neg e] at h; cases h
/-- lengths go up -/
def ups (n : Int) : List (List (List Nat)) → Prop
  | [] => True
  | p :: r => n < (p.length : Int) ∧ ups (p.length : Int) r
theorem ups_if (c : Prop) [Decidable c] (p : List (List Nat)) (r : List (List (List Nat))) (n : Int) (h0 : n < (p.length : Int)) (h1 : ups (p.length : Int) r) (h2 : ups n r) : ups n ((if c then [p] else []) ++ r) := by
  by_cases h : c
  · rw [if_pos h]; exact ⟨h0, h1⟩
  · rw [if_neg h]; exact h2
theorem ups_le {n m : Int} (h : n ≤ m) : ∀ r, ups m r → ups n r
  | [], _ => trivial
  | p :: r, ⟨h1, h2⟩ => ⟨by omega, h2⟩
theorem ups_unl (no two mid las t : List Nat) : ups (-1) (unl no two mid las t) := by
  unfold unl
  rw [List.append_assoc]
  have h3 : ups 1 (if thing (t.drop (cutL t)) = true then
    (if Txt.endswith (tx (t.take (cutL t))) (tx two) = true ∧ thing ((t.take (cutL t)).take ((t.take (cutL t)).length - two.length)) = true
      then [[(t.take (cutL t)).take ((t.take (cutL t)).length - two.length), t.drop (cutL t)]] else []) ++
    (if Txt.endswith (tx (t.take (cutL t))) (tx las) = true then
      (match cutp mid (((t.take (cutL t)).take ((t.take (cutL t)).length - las.length)).length + 1) ((t.take (cutL t)).take ((t.take (cutL t)).length - las.length)) with
        | none => []
        | some ps => if 2 ≤ ps.length ∧ ps.length ≤ 7 then [ps ++ [t.drop (cutL t)]] else [])
      else [])
   else []) := by
    generalize t.drop (cutL t) = b
    generalize t.take (cutL t) = a
    generalize cutp mid ((a.take (a.length - las.length)).length + 1) (a.take (a.length - las.length)) = c
    have h4 : ups 2 (if Txt.endswith (tx a) (tx las) = true then
      (match c with
        | none => []
        | some ps => if 2 ≤ ps.length ∧ ps.length ≤ 7 then [ps ++ [b]] else [])
      else []) := by
      by_cases e : Txt.endswith (tx a) (tx las) = true
      · rw [if_pos e]
        cases c with
        | none => trivial
        | some ps =>
          show ups 2 (if 2 ≤ ps.length ∧ ps.length ≤ 7 then [ps ++ [b]] else [])
          by_cases e : 2 ≤ ps.length ∧ ps.length ≤ 7
          · rw [if_pos e]; exact ⟨by simp; omega, trivial⟩
          · rw [if_neg e]; trivial
      · rw [if_neg e]; trivial
    by_cases e : thing b = true
    · rw [if_pos e]
      exact ups_if _ _ _ _ (by simp) h4 (ups_le (by decide) _ h4)
    · rw [if_neg e]; trivial
  refine ups_if _ _ _ _ (by simp) ?_ ?_
  · exact ups_if _ _ _ _ (by simp) h3 (ups_le (by simp) _ h3)
  · exact ups_if _ _ _ _ (by simp) h3 (ups_le (by simp) _ h3)
end M

namespace M
open PySem PySem.Spec PyProof.Rows L2 DL
def dL (ps : List (List Nat)) : D := .lst (ps.map .str)
def pB (two a b : List Nat) : List (List (List Nat)) :=
  if Txt.endswith (tx a) (tx two) = true ∧ thing (a.take (a.length - two.length)) = true then [[a.take (a.length - two.length), b]] else []
def pC (mid las a b : List Nat) : List (List (List Nat)) :=
  if Txt.endswith (tx a) (tx las) = true then
      (match cutp mid ((a.take (a.length - las.length)).length + 1) (a.take (a.length - las.length)) with
        | none => []
        | some ps => if 2 ≤ ps.length ∧ ps.length ≤ 7 then [ps ++ [b]] else [])
      else []
theorem en_le {x j : List Nat} (h : Txt.endswith (tx x) (tx j) = true) : j.length ≤ x.length := by
  obtain ⟨r, rfl⟩ := (en_iff _ _).mp h
  rw [List.length_append]; omega
theorem un_C (J no two : D) (mid las t a b : List Nat) (F : List D) (k : Int) (hF : F.length ≤ 3) (hm : mid.length ≤ 1000) (hl : las.length ≤ 1000) (ha : a.length ≤ 5000)
    (hb : dSl (.str t) (some k) none = some (.str b)) (st : Store) :
    finB (R_unlaid_1 [.d J, .d (.str t), .d no, .d two, .d (.str mid), .d (.str las), .own (.l F), .d (.int k), .d (.str a), .no] st) = .ok (.lst (F ++ (pC mid las a b).map dL)) [] st := by
  have la : dLen [.str a] = some (.int (a.length : Int)) := dLen_s _ (by omega)
  have ll : dLen [.str las] = some (.int (las.length : Int)) := dLen_s _ (by omega)
  have e0 : dEnds (.str a) [.str las] = some (.bl (Txt.endswith (tx a) (tx las))) := rfl
  have ty : tyD "str" (.str a) = true := rfl
  have hF1 : F.length < 16777216 := by omega
  rw [R_unlaid_1]
  unfold pC
  by_cases e : Txt.endswith (tx a) (tx las) = true
  · have hle := en_le e
    have hs : dSl (.str a) none (some ((a.length : Int) - (las.length : Int))) = some (.str (a.take (a.length - las.length))) := by
      rw [dSl_s _ _ _ (by omega), show (a.length : Int) - (las.length : Int) = ((a.length - las.length : Nat) : Int) by omega, cut_to _ (by omega), Int.toNat_natCast]
    have hp := parted_ok mid hm (a.take (a.length - las.length)) (by rw [List.length_take]; omega) st
    rw [if_pos e]
    rw [e] at e0
    generalize a.take (a.length - las.length) = x at *
    cases hc : cutp mid (x.length + 1) x with
    | none =>
      rw [hc] at hp
      replace hp : c_parted [.str x, .str mid] st = .ok .non [] st := hp
      generalize D.str x = xd at *
      generalize D.str a = ad at *
      generalize D.str las = lasd at *
      generalize D.str mid = midd at *
      generalize D.str t = td at *
      generalize D.str b = bd at *
      simp (maxSteps := 30000) (disch := first | assumption | (simp; done) | omega | (simp; omega)) [hF1, la, ll, e0, ty, hs, hp]
    | some ps =>
      rw [hc] at hp
      replace hp : c_parted [.str x, .str mid] st = .ok (.lst (ps.map .str)) [] st := hp
      have lp : dLen [.lst (ps.map .str)] = some (.int (ps.length : Int)) := by
        have := dLen_l (ps.map D.str)
        rw [List.length_map] at this; exact this
      by_cases h2 : 2 ≤ ps.length
      · have h2' : (2 : Int) ≤ (ps.length : Int) := by omega
        by_cases h7 : ps.length ≤ 7
        · have h7' : (ps.length : Int) ≤ 7 := by omega
          have e3 : (if 2 ≤ ps.length ∧ ps.length ≤ 7 then [ps ++ [b]] else []) = [ps ++ [b]] := if_pos ⟨h2, h7⟩
          have e4 : (F ++ [dL (ps ++ [b])]) = F ++ [D.lst (ps.map .str ++ [.str b])] := by unfold dL; rw [List.map_append]; rfl
          show _ = Res.ok (D.lst (F ++ (if 2 ≤ ps.length ∧ ps.length ≤ 7 then [ps ++ [b]] else []).map dL)) [] st
          rw [e3, List.map_singleton, e4]
          have hpl2 : (ps.map D.str).length + 1 ≤ 16777216 := by rw [List.length_map]; omega
          generalize ps.map D.str = pd at *
          generalize D.str x = xd at *
          generalize D.str a = ad at *
          generalize D.str las = lasd at *
          generalize D.str mid = midd at *
          generalize D.str t = td at *
          generalize D.str b = bd at *
          simp (maxSteps := 30000) (disch := first | assumption | (simp; done) | omega | (simp; omega)) [hF1, la, ll, e0, ty, hs, hp, lp, h2', h7', hb]
        · have h7' : ¬ (ps.length : Int) ≤ 7 := by omega
          have e3 : (if 2 ≤ ps.length ∧ ps.length ≤ 7 then [ps ++ [b]] else []) = [] := if_neg (by omega)
          show _ = Res.ok (D.lst (F ++ (if 2 ≤ ps.length ∧ ps.length ≤ 7 then [ps ++ [b]] else []).map dL)) [] st
          rw [e3, List.map_nil, List.append_nil]
          generalize ps.map D.str = pd at *
          generalize D.str x = xd at *
          generalize D.str a = ad at *
          generalize D.str las = lasd at *
          generalize D.str mid = midd at *
          generalize D.str t = td at *
          generalize D.str b = bd at *
          simp (maxSteps := 30000) (disch := first | assumption | (simp; done) | omega | (simp; omega)) [hF1, la, ll, e0, ty, hs, hp, lp, h2', h7', hb]
      · have h2' : ¬ (2 : Int) ≤ (ps.length : Int) := by omega
        have e3 : (if 2 ≤ ps.length ∧ ps.length ≤ 7 then [ps ++ [b]] else []) = [] := if_neg (by omega)
        show _ = Res.ok (D.lst (F ++ (if 2 ≤ ps.length ∧ ps.length ≤ 7 then [ps ++ [b]] else []).map dL)) [] st
        rw [e3, List.map_nil, List.append_nil]
        generalize ps.map D.str = pd at *
        generalize D.str x = xd at *
        generalize D.str a = ad at *
        generalize D.str las = lasd at *
        generalize D.str mid = midd at *
        generalize D.str t = td at *
        generalize D.str b = bd at *
        simp (maxSteps := 30000) (disch := first | assumption | (simp; done) | omega | (simp; omega)) [hF1, la, ll, e0, ty, hs, hp, lp, h2', hb]
  · rw [if_neg e, List.map_nil, List.append_nil]
    replace e : Txt.endswith (tx a) (tx las) = false := by simpa using e
    rw [e] at e0
    generalize D.str a = ad at *
    generalize D.str las = lasd at *
    generalize D.str mid = midd at *
    generalize D.str t = td at *
    generalize D.str b = bd at *
    simp (maxSteps := 30000) (disch := first | assumption | (simp; done) | omega | (simp; omega)) [hF1, la, ll, e0, ty]
theorem un_B (J no : D) (two mid las t a b : List Nat) (F : List D) (k : Int) (hF : F.length ≤ 2) (h2 : two.length ≤ 1000) (hm : mid.length ≤ 1000) (hl : las.length ≤ 1000) (ha : a.length ≤ 5000) (hbl : b.length ≤ 5000)
    (hb : dSl (.str t) (some k) none = some (.str b)) (st : Store) :
    finB (R_unlaid_2 [.d J, .d (.str t), .d no, .d (.str two), .d (.str mid), .d (.str las), .own (.l F), .d (.int k), .d (.str a), .no] st) = .ok (.lst (F ++ (if thing b = true then pB two a b ++ pC mid las a b else []).map dL)) [] st := by
  have la : dLen [.str a] = some (.int (a.length : Int)) := dLen_s _ (by omega)
  have l2 : dLen [.str two] = some (.int (two.length : Int)) := dLen_s _ (by omega)
  have e0 : dEnds (.str a) [.str two] = some (.bl (Txt.endswith (tx a) (tx two))) := rfl
  have ty : tyD "str" (.str a) = true := rfl
  have hF1 : F.length < 16777216 := by omega
  have tb := thing_ok b (by omega) st
  by_cases hth : thing b = true
  · rw [if_pos hth]
    rw [hth] at tb
    by_cases e : Txt.endswith (tx a) (tx two) = true
    · have hle := en_le e
      have hs : dSl (.str a) none (some ((a.length : Int) - (two.length : Int))) = some (.str (a.take (a.length - two.length))) := by
        rw [dSl_s _ _ _ (by omega), show (a.length : Int) - (two.length : Int) = ((a.length - two.length : Nat) : Int) by omega, cut_to _ (by omega), Int.toNat_natCast]
      have ht := thing_ok (a.take (a.length - two.length)) (by rw [List.length_take]; omega) st
      rw [e] at e0
      by_cases hq : thing (a.take (a.length - two.length)) = true
      · rw [hq] at ht
        have eB : pB two a b = [[a.take (a.length - two.length), b]] := if_pos ⟨e, hq⟩
        have hC := un_C J no (.str two) mid las t a b (F ++ [dL [a.take (a.length - two.length), b]]) k (by rw [List.length_append, List.length_singleton]; omega) hm hl ha hb st
        rw [eB, List.map_append, ← List.append_assoc, List.map_singleton, ← hC, R_unlaid_2]
        unfold dL
        rw [List.map_cons, List.map_singleton]
        generalize R_unlaid_1 = rest
        generalize D.str (a.take (a.length - two.length)) = xd at *
        generalize D.str a = ad at *
        generalize D.str las = lasd at *
        generalize D.str two = twod at *
        generalize D.str mid = midd at *
        generalize D.str t = td at *
        generalize D.str b = bd at *
        simp (maxSteps := 30000) (disch := first | assumption | (simp; done) | omega | (simp; omega)) [hF1, la, l2, e0, ty, hs, ht, tb, hb]
      · have eB : pB two a b = [] := if_neg (fun z => hq z.2)
        replace hq : thing (a.take (a.length - two.length)) = false := by simpa using hq
        rw [hq] at ht
        have hC := un_C J no (.str two) mid las t a b F k (by omega) hm hl ha hb st
        rw [eB, List.nil_append, ← hC, R_unlaid_2]
        generalize R_unlaid_1 = rest
        generalize D.str (a.take (a.length - two.length)) = xd at *
        generalize D.str a = ad at *
        generalize D.str las = lasd at *
        generalize D.str two = twod at *
        generalize D.str mid = midd at *
        generalize D.str t = td at *
        generalize D.str b = bd at *
        simp (maxSteps := 30000) (disch := first | assumption | (simp; done) | omega | (simp; omega)) [hF1, la, l2, e0, ty, hs, ht, tb, hb]
    · have eB : pB two a b = [] := if_neg (fun z => e z.1)
      replace e : Txt.endswith (tx a) (tx two) = false := by simpa using e
      rw [e] at e0
      have hC := un_C J no (.str two) mid las t a b F k (by omega) hm hl ha hb st
      rw [eB, List.nil_append, ← hC, R_unlaid_2]
      generalize R_unlaid_1 = rest
      generalize D.str a = ad at *
      generalize D.str las = lasd at *
      generalize D.str two = twod at *
      generalize D.str mid = midd at *
      generalize D.str t = td at *
      generalize D.str b = bd at *
      simp (maxSteps := 30000) (disch := first | assumption | (simp; done) | omega | (simp; omega)) [hF1, la, l2, e0, ty, tb, hb]
  · rw [if_neg hth, List.map_nil, List.append_nil]
    replace hth : thing b = false := by simpa using hth
    rw [hth] at tb
    rw [R_unlaid_2]
    generalize R_unlaid_1 = rest
    generalize D.str a = ad at *
    generalize D.str las = lasd at *
    generalize D.str two = twod at *
    generalize D.str mid = midd at *
    generalize D.str t = td at *
    generalize D.str b = bd at *
    simp (maxSteps := 30000) (disch := first | assumption | (simp; done) | omega | (simp; omega)) [tb, hb]
theorem unlaid_ok (no two mid las t : List Nat) (hn : no.length ≤ 1000) (h2 : two.length ≤ 1000) (hm : mid.length ≤ 1000) (hl : las.length ≤ 1000) (ht : t.length ≤ 5000) (st : Store) :
    c_unlaid [.tup [.str no, .str two, .str mid, .str las], .str t] st = .ok (.lst ((unl no two mid las t).map dL)) [] st := by
  have lt : dLen [.str t] = some (.int (t.length : Int)) := dLen_s _ (by omega)
  have f := last_ok t (by omega) st
  have hn' : nL t.reverse ≤ t.length := by have := nL_le t.reverse; rw [List.length_reverse] at this; exact this
  have ek : (t.length : Int) - ((nL t.reverse : Nat) : Int) = ((cutL t : Nat) : Int) := by unfold cutL; omega
  have hs : dSl (.str t) none (some ((cutL t : Nat) : Int)) = some (.str (t.take (cutL t))) := by
    rw [dSl_s _ _ _ (by omega), cut_to _ (by omega), Int.toNat_natCast]
  have hd : dSl (.str t) (some ((cutL t : Nat) : Int)) none = some (.str (t.drop (cutL t))) := by
    rw [dSl_s _ _ _ (by omega), cut_from _ (by omega), Int.toNat_natCast]
  have tt := thing_ok t (by omega) st
  have key : ∀ F : List D, F.length ≤ 2 → finB (R_unlaid_2 [.d (.tup [.str no, .str two, .str mid, .str las]), .d (.str t), .d (.str no), .d (.str two), .d (.str mid), .d (.str las), .own (.l F), .d (.int ((cutL t : Nat) : Int)), .d (.str (t.take (cutL t))), .no] st) = .ok (.lst (F ++ (if thing (t.drop (cutL t)) = true then pB two (t.take (cutL t)) (t.drop (cutL t)) ++ pC mid las (t.take (cutL t)) (t.drop (cutL t)) else []).map dL)) [] st :=
    fun F hF => un_B _ _ two mid las t _ _ F _ hF h2 hm hl (by rw [List.length_take]; omega) (by rw [List.length_drop]; omega) hd st
  have eU : unl no two mid las t = ((if t = no then [[]] else []) ++ (if thing t = true then [[t]] else [])) ++ (if thing (t.drop (cutL t)) = true then pB two (t.take (cutL t)) (t.drop (cutL t)) ++ pC mid las (t.take (cutL t)) (t.drop (cutL t)) else []) := rfl
  rw [eU]
  generalize (if thing (t.drop (cutL t)) = true then pB two (t.take (cutL t)) (t.drop (cutL t)) ++ pC mid las (t.take (cutL t)) (t.drop (cutL t)) else []) = X at *
  rw [List.map_append]
  rw [c_unlaid, runB_k, b_unlaid]
  have q1 : eqOk (.str t) = true := eqOk_str _
  have q2 : eqOk (.str no) = true := eqOk_str _
  have dq : deq (.str t) (.str no) = decide (t = no) := deq_str _ _
  generalize R_unlaid_2 = rest at *
  generalize t.take (cutL t) = a at *
  generalize cutL t = c at *
  generalize nL t.reverse = n at *
  by_cases e1 : t = no
  · have dq' : deq (.str t) (.str no) = true := by rw [dq]; simp [e1]
    clear dq
    by_cases e2 : thing t = true
    · rw [e2] at tt
      have hk := key [.lst [], .lst [.str t]] (by simp)
      have e3 : (((if t = no then [[]] else []) ++ (if thing t = true then [[t]] else [])).map dL) = [.lst [], .lst [.str t]] := by rw [if_pos e1, if_pos e2]; rfl
      rw [e3]
      clear eU e1 e3
      generalize D.str t = td at *
      generalize D.str no = nod at *
      generalize D.str two = twod at *
      generalize D.str mid = midd at *
      generalize D.str las = lasd at *
      simp (maxSteps := 30000) (disch := first | assumption | (simp; done) | omega | (simp; omega)) [lt, f, ek, hs, tt, q1, q2, dq', hk]
    · have e3 : (((if t = no then [[]] else []) ++ (if thing t = true then [[t]] else [])).map dL) = [.lst []] := by rw [if_pos e1, if_neg e2]; rfl
      replace e2 : thing t = false := by simpa using e2
      rw [e2] at tt
      have hk := key [.lst []] (by simp)
      rw [e3]
      clear eU e1 e3
      generalize D.str t = td at *
      generalize D.str no = nod at *
      generalize D.str two = twod at *
      generalize D.str mid = midd at *
      generalize D.str las = lasd at *
      simp (maxSteps := 30000) (disch := first | assumption | (simp; done) | omega | (simp; omega)) [lt, f, ek, hs, tt, q1, q2, dq', hk]
  · have dq' : deq (.str t) (.str no) = false := by rw [dq]; simp [e1]
    clear dq
    by_cases e2 : thing t = true
    · rw [e2] at tt
      have hk := key [.lst [.str t]] (by simp)
      have e3 : (((if t = no then [[]] else []) ++ (if thing t = true then [[t]] else [])).map dL) = [.lst [.str t]] := by rw [if_neg e1, if_pos e2]; rfl
      rw [e3]
      clear eU e1 e3
      generalize D.str t = td at *
      generalize D.str no = nod at *
      generalize D.str two = twod at *
      generalize D.str mid = midd at *
      generalize D.str las = lasd at *
      simp (maxSteps := 30000) (disch := first | assumption | (simp; done) | omega | (simp; omega)) [lt, f, ek, hs, tt, q1, q2, dq', hk]
    · have e3 : (((if t = no then [[]] else []) ++ (if thing t = true then [[t]] else [])).map dL) = [] := by rw [if_neg e1, if_neg e2]; rfl
      replace e2 : thing t = false := by simpa using e2
      rw [e2] at tt
      have hk := key [] (by simp)
      rw [e3]
      clear eU e1 e3
      generalize D.str t = td at *
      generalize D.str no = nod at *
      generalize D.str two = twod at *
      generalize D.str mid = midd at *
      generalize D.str las = lasd at *
      simp (maxSteps := 30000) (disch := first | assumption | (simp; done) | omega | (simp; omega)) [lt, f, ek, hs, tt, q1, q2, dq', hk]
end M

namespace M
open PySem PySem.Spec PyProof.Rows L2 DL
theorem cell_s (ns : List Int) (i : Int) (h : 0 ≤ i) (st : Store) : c__law_cell_at [.scr ns, .int i] st = .ok (.int (cell ns i)) [] st := by
  rw [c__law_cell_at, runB_k, b__law_cell_at]
  by_cases hi : i < (ns.length : Int)
  · have e : atI ns i = some (cell ns i) := by
      rw [atI_nn _ h]; unfold cell
      rw [List.getElem?_eq_getElem (by omega)]; rfl
    generalize cell ns i = c at *
    simp (maxSteps := 30000) (disch := first | assumption | (simp; done) | omega | (simp; omega)) [hi, e]
  · have e : cell ns i = 0 := by
      unfold cell
      rw [List.getElem?_eq_none (by omega)]; rfl
    rw [e]
    simp (maxSteps := 30000) (disch := first | assumption | (simp; done) | omega | (simp; omega)) [hi]
theorem cell_l (ns : List Int) (i : Int) (h : 0 ≤ i) (st : Store) : c__law_cell_at [.lst (ns.map .int), .int i] st = .ok (.int (cell ns i)) [] st := by
  rw [c__law_cell_at, runB_k, b__law_cell_at]
  by_cases hi : i < (ns.length : Int)
  · have e : atI (ns.map D.int) i = some (.int (cell ns i)) := by
      rw [atI_map, atI_nn _ h]; unfold cell
      rw [List.getElem?_eq_getElem (by omega)]; rfl
    have hi2 : i < ((ns.map D.int).length : Int) := by rw [List.length_map]; exact hi
    generalize cell ns i = c at *
    generalize ns.map D.int = nd at *
    simp (maxSteps := 30000) (disch := first | assumption | (simp; done) | omega | (simp; omega)) [hi2, e]
  · have e : cell ns i = 0 := by
      unfold cell
      rw [List.getElem?_eq_none (by omega)]; rfl
    have hi2 : ¬ i < ((ns.map D.int).length : Int) := by rw [List.length_map]; exact hi
    rw [e]
    generalize ns.map D.int = nd at *
    simp (maxSteps := 30000) (disch := first | assumption | (simp; done) | omega | (simp; omega)) [hi2]
theorem rich_ok (n : Int) (st : Store) : ∃ r : Int, c__law_rich [.int n] st = .ok (.int r) [] st := by
  obtain ⟨S', e, f, x2, x3, hS, _⟩ := forL_ind (g := gV 3) (body := L__law_rich_1)
    (fun r S => ∃ (f : Int) (q : Int) (x : Sl), S = [.d (.int n), .d (.int f), .d (.int q), x] ∧ 0 ≤ f ∧ f < 10 ^ (10 * (9 - r.length)) ∧ 0 ≤ q ∧ q < 2147483647 ∧ r.length ≤ 9 ∧ r = rng r.length (9 - r.length))
    (fun d r S st h => by
      obtain ⟨f, q, x, rfl, h1, h2, h3, h4, h5, h6⟩ := h
      rw [List.length_cons] at h2 h5 h6
      rw [rng_c] at h6
      have hd := (List.cons.inj h6).1
      have hr := (List.cons.inj h6).2
      have hpe : (10 : Int) ^ (10 * (9 - r.length)) = 10 ^ (10 * (9 - (r.length + 1))) * 10000000000 := by
        rw [show 10 * (9 - r.length) = 10 * (9 - (r.length + 1)) + 10 by omega, Int.pow_add]; rfl
      have hb : (10 : Int) ^ (10 * (9 - (r.length + 1))) ≤ 10 ^ 200 := by
        have h := Nat.pow_le_pow_right (n := 10) (by decide) (show 10 * (9 - (r.length + 1)) ≤ 200 by omega)
        exact_mod_cast h
      generalize (10 : Int) ^ (10 * (9 - (r.length + 1))) = e at *
      generalize hk : ((9 : Int) - ((r.length + 1 : Nat) : Int)) = k at *
      have k0 : 0 ≤ k := by omega
      have k1 : k ≤ 9 := by omega
      have m1 : mulC q 48271 = true := mulC_of (.small (by omega) (by omega)) (.small (by decide) (by decide))
      have m2 : mulC k k = true := mulC_of (.small (by omega) (by omega)) (.small (by omega) (by omega))
      have m3 : mulC f 2147483587 = true := mulC_of (.lit (by omega) (by omega)) (.small (by decide) (by decide))
      have z0 : 0 ≤ (q * 48271 + 12345 + k * k) % 2147483629 := Int.emod_nonneg _ (by decide)
      have z1 : (q * 48271 + 12345 + k * k) % 2147483629 < 2147483629 := Int.emod_lt_of_pos _ (by decide)
      have eq1 : dMod (.int (q * 48271 + 12345 + k * k)) (.int 2147483629) = some (.int ((q * 48271 + 12345 + k * k) % 2147483629)) := by simp (maxSteps := 30000) (disch := first | assumption | (simp; done) | omega | (simp; omega)) []
      generalize (q * 48271 + 12345 + k * k) % 2147483629 = w at *
      have m4 : mulC w w = true := mulC_of (.small (by omega) (by omega)) (.small (by omega) (by omega))
      have y0 : 0 ≤ (w * w) % 2147483587 := Int.emod_nonneg _ (by decide)
      have y1 : (w * w) % 2147483587 < 2147483587 := Int.emod_lt_of_pos _ (by decide)
      have eq2 : dMod (.int (w * w)) (.int 2147483587) = some (.int ((w * w) % 2147483587)) := by simp (maxSteps := 30000) (disch := first | assumption | (simp; done) | omega | (simp; omega)) []
      generalize (w * w) % 2147483587 = v at *
      refine ⟨_, [.d (.int n), .d (.int (f * 2147483587 + v)), .d (.int w), .d d], rfl, ?_, f * 2147483587 + v, w, .d d, rfl, by omega, by rw [hpe]; omega, z0, by omega, by omega, ?_⟩
      · subst hd
        rw [L__law_rich_1]
        simp (maxSteps := 30000) (disch := first | assumption | (simp; done) | omega | (simp; omega)) [m1, m2, m3, m4, eq1, eq2]
      · rw [hr]; congr 1
        · exact (rng_len _ _).symm
        · rw [rng_len]; omega)
    (rng 9 0) [.d (.int n), .d (.int 0), .d (.int (n % 2147483647)), .no] st ⟨0, n % 2147483647, .no, rfl, by decide, by decide, Int.emod_nonneg _ (by decide), Int.emod_lt_of_pos _ (by decide), by decide, by rw [rng_len]; rfl⟩
  subst hS
  refine ⟨f, ?_⟩
  rw [c__law_rich, runB_k, b__law_rich]
  simp (maxSteps := 30000) (disch := first | assumption | (simp; done) | omega | (simp; omega)) [e]
theorem cells_ok (ns : List Int) (hl : ns.length ≤ 100) (st : Store) : ∃ ms : List Int, c__law_cells [.scr ns] st = .ok (.lst (ms.map .int)) [] st ∧ ms.length ≤ 200 := by
  have hm : ∃ m : Nat, m ≤ 100 ∧ dMax [.int 24, .int (ns.length : Int)] = some (.int (m : Int)) := by
    by_cases h : ns.length ≤ 24
    · exact ⟨24, by omega, by rw [dMax_a, if_neg (by omega)]; rfl⟩
    · exact ⟨ns.length, by omega, by rw [dMax_a, if_pos (by omega)]⟩
  obtain ⟨m, hm1, hm2⟩ := hm
  obtain ⟨S', e, ms, x2, x3, hS, hlen, _⟩ := forL_ind (g := gV 2) (body := L__law_cells_1)
    (fun r S => ∃ (ms : List Int) (x2 x3 : Sl), S = [.d (.scr ns), .own (.l (ms.map .int)), x2, x3] ∧ ms.length + r.length = m ∧ ∀ d ∈ r, ∃ k : Nat, d = D.int (k : Int))
    (fun d r S st h => by
      obtain ⟨ms, x2, x3, rfl, h1, h2⟩ := h
      obtain ⟨k, rfl⟩ := h2 d (List.mem_cons_self ..)
      rw [List.length_cons] at h1
      have hc := cell_s ns (k : Int) (by omega) st
      generalize cell ns (k : Int) = c at *
      obtain ⟨r1, hr⟩ := rich_ok (c + (k : Int)) st
      have hal : (ms.map D.int).length < 16777216 := by rw [List.length_map]; omega
      by_cases h9 : (if c < 0 then -c else c) < 1000000000
      · refine ⟨_, [.d (.scr ns), .own (.l ((ms ++ [r1]).map .int)), .d (.int (k : Int)), .d (.int r1)], rfl, ?_, ms ++ [r1], _, _, rfl, by rw [List.length_append, List.length_singleton]; omega, fun d hd => h2 d (List.mem_cons_of_mem _ hd)⟩
        rw [List.map_append, List.map_singleton, L__law_cells_1]
        have ea : dAbs [.int c] = some (.int (if c < 0 then -c else c)) := rfl
        generalize (if c < 0 then -c else c) = ca at *
        generalize ms.map D.int = md at *
        simp (maxSteps := 30000) (disch := first | assumption | (simp; done) | omega | (simp; omega)) [hc, ea, h9, hr, hal, -dAbs_a]
      · refine ⟨_, [.d (.scr ns), .own (.l ((ms ++ [c]).map .int)), .d (.int (k : Int)), .d (.int c)], rfl, ?_, ms ++ [c], _, _, rfl, by rw [List.length_append, List.length_singleton]; omega, fun d hd => h2 d (List.mem_cons_of_mem _ hd)⟩
        rw [List.map_append, List.map_singleton, L__law_cells_1]
        have ea : dAbs [.int c] = some (.int (if c < 0 then -c else c)) := rfl
        generalize (if c < 0 then -c else c) = ca at *
        generalize ms.map D.int = md at *
        simp (maxSteps := 30000) (disch := first | assumption | (simp; done) | omega | (simp; omega)) [hc, ea, h9, hal, -dAbs_a])
    (rng m 0) [.d (.scr ns), .own (.l []), .no, .no] st ⟨[], .no, .no, rfl, by rw [rng_len]; simp, fun d hd => by
      unfold rng at hd
      obtain ⟨i, _, rfl⟩ := List.mem_map.mp hd
      exact ⟨i, by simp⟩⟩
  subst hS
  refine ⟨ms, ?_, by simp at hlen; omega⟩
  rw [c__law_cells, runB_k, b__law_cells]
  have hmi : (m : Int) ≤ 1000000 := by omega
  generalize ms.map D.int = md at *
  simp (maxSteps := 30000) (disch := first | assumption | (simp; done) | omega | (simp; omega)) [hm2, e, hmi, -dMax_a]
abbrev oth : List Nat := [32, 33, 34, 35, 36, 38, 39, 40, 41, 42, 43, 44, 45, 46, 47, 48, 49, 50, 51, 52, 53, 54, 55, 56, 57, 58, 59, 60, 61, 62, 63, 64, 92, 94, 95, 96, 124, 126]
abbrev let52 : List Nat := [97, 98, 99, 100, 101, 102, 103, 104, 105, 106, 107, 108, 109, 110, 111, 112, 113, 114, 115, 116, 117, 118, 119, 120, 121, 122, 65, 66, 67, 68, 69, 70, 71, 72, 73, 74, 75, 76, 77, 78, 79, 80, 81, 82, 83, 84, 85, 86, 87, 88, 89, 90]
theorem sign_ok (n : Int) (b : Bool) (st : Store) : ∃ c, c__law_sign [.int n, .bl b] st = .ok (.str [c]) [] st ∧ (b = false → c ∈ oth) := by
  obtain ⟨c1, h1, m1⟩ := atI_some (xs := oth) (i := n / 3 % 38) (by omega) (by show _ < 38; omega)
  obtain ⟨c2, h2, _⟩ := atI_some (xs := let52) (i := n / 3 % 52) (by omega) (by show _ < 52; omega)
  have x1 : dIx (.str oth) (.int (n / 3 % 38)) = some (.str [c1]) := by rw [dIx_s _ _ (by decide), h1]; rfl
  have x2 : dIx (.str let52) (.int (n / 3 % 52)) = some (.str [c2]) := by rw [dIx_s _ _ (by decide), h2]; rfl
  rw [c__law_sign, runB_k, b__law_sign]
  generalize D.str oth = od at *
  generalize D.str let52 = ld at *
  cases b with
  | false =>
    exact ⟨c1, by simp (maxSteps := 30000) (disch := first | assumption | (simp; done) | omega | (simp; omega)) [x1], fun _ => m1⟩
  | true =>
    by_cases h : 0 < n % 3
    · exact ⟨c2, by simp (maxSteps := 30000) (disch := first | assumption | (simp; done) | omega | (simp; omega)) [x2, h], fun z => by cases z⟩
    · exact ⟨c1, by simp (maxSteps := 30000) (disch := first | assumption | (simp; done) | omega | (simp; omega)) [x1, h], fun z => by cases z⟩
theorem signs_ok (n m : Int) (h0 : 0 ≤ m) (hm : m ≤ 1000) (st : Store) : ∃ s, c__law_signs [.int n, .int m] st = .ok (.str s) [] st ∧ s.length = m.toNat := by
  have hr : m ≤ 1000000 := by omega
  have hr0 : -1000000 ≤ m := by omega
  obtain ⟨S', e, q, f, x, hS, hl⟩ := forL_ind (g := gV 3) (body := L__law_signs_1)
    (fun r S => ∃ (q : Int) (f : List Nat) (x : Sl), S = [.d (.int q), .d (.int m), .d (.str f), x] ∧ f.length + r.length = m.toNat)
    (fun d r S st h => by
      obtain ⟨q, f, x, rfl, h1⟩ := h
      obtain ⟨c, hc, _⟩ := sign_ok (q % 474) true st
      rw [List.length_cons] at h1
      have ha : dAdd (.str f) (.str [c]) = some (.str (f ++ [c])) := dAdd_s _ _ (by rw [List.length_singleton]; omega)
      refine ⟨_, [.d (.int (q / 474)), .d (.int m), .d (.str (f ++ [c])), .d d], rfl, ?_, q / 474, f ++ [c], .d d, rfl, by rw [List.length_append, List.length_singleton]; omega⟩
      rw [L__law_signs_1]
      generalize D.str (f ++ [c]) = fc at *
      generalize D.str f = fd at *
      simp (maxSteps := 30000) (disch := first | assumption | (simp; done) | omega | (simp; omega)) [hc, ha])
    (rng m.toNat 0) [.d (.int n), .d (.int m), .d (.str []), .no] st ⟨n, [], .no, rfl, by rw [rng_len]; simp⟩
  subst hS
  refine ⟨f, ?_, by simpa using hl⟩
  rw [c__law_signs, runB_k, b__law_signs]
  generalize D.str f = fd at *
  simp (maxSteps := 30000) (disch := first | assumption | (simp; done) | omega | (simp; omega)) [e, h0, hr, hr0]
end M

namespace M
open PySem PySem.Spec PyProof.Rows L2 DL
theorem oth_B : ∀ c ∈ oth, isL c = false := by unfold isL; decide
theorem joiner_ok (n m q : Int) (h0 : 1 ≤ q) (h8 : q ≤ 8) (st : Store) : ∃ s, c__law_joiner [.int n, .int m, .int q] st = .ok (.str s) [] st ∧ headB s ∧ lastB s ∧ s.length ≤ 10 := by
  obtain ⟨c1, h1, b1⟩ := sign_ok (n / 8) false st
  obtain ⟨c2, h2, b2⟩ := sign_ok (n / 920) false st
  have z0 : 0 ≤ n % 8 % q := Int.emod_nonneg _ (by omega)
  have z1 : n % 8 % q < q := Int.emod_lt_of_pos _ (by omega)
  have dq : dMod (.int (n % 8)) (.int q) = some (.int (n % 8 % q)) := by
    have a1 : (0 : Int) < q := by omega
    have a2 : q ≤ 10 ^ 200 := by omega
    simp (maxSteps := 30000) (disch := first | assumption | (simp; done) | omega | (simp; omega)) [a1, a2]
  have b1 := oth_B _ (b1 rfl)
  have b2 := oth_B _ (b2 rfl)
  rw [c__law_joiner, runB_k, b__law_joiner]
  generalize n % 8 % q = k at *
  by_cases hb : 0 < k
  · obtain ⟨s, h3, h4⟩ := signs_ok m (k - 1) (by omega) (by omega) st
    have a1 : dAdd (.str [c1]) (.str s) = some (.str (c1 :: s)) := dAdd_s _ _ (by rw [List.length_singleton]; omega)
    have a2 : dAdd (.str (c1 :: s)) (.str [c2]) = some (.str (c1 :: s ++ [c2])) := dAdd_s _ _ (by rw [List.length_singleton, List.length_cons]; omega)
    refine ⟨c1 :: s ++ [c2], ?_, ⟨c1, s ++ [c2], rfl, b1⟩, ⟨c1 :: s, c2, rfl, b2⟩, by rw [List.length_append, List.length_singleton, List.length_cons]; omega⟩
    generalize D.str (c1 :: s ++ [c2]) = x1 at *
    generalize D.str (c1 :: s) = x2 at *
    generalize D.str [c1] = x3 at *
    generalize D.str [c2] = x4 at *
    generalize D.str s = x5 at *
    simp (maxSteps := 30000) (disch := first | assumption | (simp; done) | omega | (simp; omega)) [h1, h2, h3, hb, dq, a1, a2]
  · refine ⟨[c1], ?_, ⟨c1, [], rfl, b1⟩, ⟨[], c1, rfl, b1⟩, by simp⟩
    generalize D.str [c1] = x3 at *
    simp (maxSteps := 30000) (disch := first | assumption | (simp; done) | omega | (simp; omega)) [h1, hb, dq]
theorem letters_ok (n m : Int) (h0 : 0 ≤ m) (hm : m ≤ 1000) (st : Store) : ∃ s, c__law_letters [.int n, .int m] st = .ok (.str s) [] st ∧ s.length = m.toNat := by
  have hr : m ≤ 1000000 := by omega
  have hr0 : -1000000 ≤ m := by omega
  obtain ⟨S', e, q, f, x, hS, hl⟩ := forL_ind (g := gV 4) (body := L__law_letters_1)
    (fun r S => ∃ (q : Int) (f : List Nat) (x : Sl), S = [.d (.int q), .d (.int m), .d (.str let52), .d (.str f), x] ∧ f.length + r.length = m.toNat)
    (fun d r S st h => by
      obtain ⟨q, f, x, rfl, h1⟩ := h
      obtain ⟨c, hc, _⟩ := atI_some (xs := let52) (i := q % 52) (by omega) (by show _ < 52; omega)
      have x1 : dIx (.str let52) (.int (q % 52)) = some (.str [c]) := by rw [dIx_s _ _ (by decide), hc]; rfl
      rw [List.length_cons] at h1
      have ha : dAdd (.str f) (.str [c]) = some (.str (f ++ [c])) := dAdd_s _ _ (by rw [List.length_singleton]; omega)
      refine ⟨_, [.d (.int (q / 52)), .d (.int m), .d (.str let52), .d (.str (f ++ [c])), .d d], rfl, ?_, q / 52, f ++ [c], .d d, rfl, by rw [List.length_append, List.length_singleton]; omega⟩
      rw [L__law_letters_1]
      generalize D.str let52 = ld at *
      generalize D.str (f ++ [c]) = fc at *
      generalize D.str f = fd at *
      simp (maxSteps := 30000) (disch := first | assumption | (simp; done) | omega | (simp; omega)) [x1, ha])
    (rng m.toNat 0) [.d (.int n), .d (.int m), .d (.str let52), .d (.str []), .no] st ⟨n, [], .no, rfl, by rw [rng_len]; simp⟩
  subst hS
  refine ⟨f, ?_, by simpa using hl⟩
  rw [c__law_letters, runB_k, b__law_letters]
  generalize D.str let52 = ld at *
  generalize D.str f = fd at *
  simp (maxSteps := 30000) (disch := first | assumption | (simp; done) | omega | (simp; omega)) [e, h0, hr, hr0]
theorem jstep (ms : List Int) (way k : Int) (hk : k = 0 ∨ k = 1 ∨ k = 2) (no : D) (acc : List D) (ha : acc.length ≤ 3) (x5 : Sl) (st : Store) :
    ∃ s q, L__law_joiners_1 [.d (.lst (ms.map .int)), .d (.int way), .d no, .own (.l acc), .d (.int k), x5] st = .nx [.d (.lst (ms.map .int)), .d (.int way), .d no, .own (.l (acc ++ [.str s])), .d (.int k), .d (.int q)] st ∧ headB s ∧ lastB s ∧ s.length ≤ 10 := by
  have c1 := cell_l ms (2 + 2 * k) (by omega) st
  have c2 := cell_l ms (3 + 2 * k) (by omega) st
  have m1 : mulC 2 k = true := mulC_of (.small (by decide) (by decide)) (.small (by omega) (by omega))
  have hacc : acc.length < 16777216 := by omega
  generalize cell ms (2 + 2 * k) = a at *
  generalize cell ms (3 + 2 * k) = b at *
  generalize ms.map D.int = md at *
  rw [L__law_joiners_1]
  by_cases hw : way = 1
  · subst hw
    by_cases hp : 0 < k
    · obtain ⟨s, hs, hB⟩ := joiner_ok a b 2 (by decide) (by decide) st
      refine ⟨s, 2, ?_, hB⟩
      generalize D.str s = sd at *
      have e1 : eqOk (.int 1) = true := rfl
      have e2 : deq (.int 1) (.int 1) = true := by simp
      simp (maxSteps := 30000) (disch := first | assumption | (simp; done) | omega | (simp; omega)) [c1, c2, m1, hacc, hp, hs, e1, e2]
    · obtain ⟨s, hs, hB⟩ := joiner_ok a b 8 (by decide) (by decide) st
      refine ⟨s, 8, ?_, hB⟩
      generalize D.str s = sd at *
      simp (maxSteps := 30000) (disch := first | assumption | (simp; done) | omega | (simp; omega)) [c1, c2, m1, hacc, hp, hs]
  · obtain ⟨s, hs, hB⟩ := joiner_ok a b 8 (by decide) (by decide) st
    refine ⟨s, 8, ?_, hB⟩
    generalize D.str s = sd at *
    simp (maxSteps := 30000) (disch := first | assumption | (simp; done) | omega | (simp; omega)) [c1, c2, m1, hacc, hw, hs]
theorem lastB_snoc (r : List Nat) {c : Nat} (h : c ∈ oth) : lastB (r ++ [c]) := ⟨r, c, rfl, oth_B c h⟩
/-- the way 2 and the tuple -/
theorem jend (ms : List Int) (way k q : Int) (no a b c : List Nat) (ha : a.length ≤ 30) (hb : b.length ≤ 30) (hc : c.length ≤ 30) (Ba : lastB a) (Bh : headB b) (Bb : lastB b) (Bc : lastB c) (st : Store) :
    ∃ las, finB (R__law_joiners_1 [.d (.lst (ms.map .int)), .d (.int way), .d (.str no), .own (.l [.str a, .str b, .str c]), .d (.int k), .d (.int q)] st) = .ok (.tup [.str no, .str a, .str b, .str las]) [] st ∧ lastB las ∧ las.length ≤ 30 := by
  have i2 : ixN 3 2 = some 2 := by decide
  have i0 : ixN 3 0 = some 0 := by decide
  rw [R__law_joiners_1]
  by_cases hw : way = 2
  · have c5 := cell_l ms 5 (by decide) st
    have c6 := cell_l ms 6 (by decide) st
    have c7 := cell_l ms 7 (by decide) st
    generalize cell ms 5 = v5 at *
    generalize cell ms 6 = v6 at *
    generalize cell ms 7 = v7 at *
    generalize ms.map D.int = md at *
    obtain ⟨s, hs, ls⟩ := signs_ok v5 (v7 % 3) (by omega) (by omega) st
    obtain ⟨g, hg, bg⟩ := sign_ok v6 false st
    have a1 : dAdd (.str b) (.str s) = some (.str (b ++ s)) := dAdd_s _ _ (by omega)
    have s1 : dSl (.str (b ++ s)) none (some 7) = some (.str ((b ++ s).take 7)) := by rw [dSl_s _ _ _ (by rw [List.length_append]; omega), cut_to _ (by decide)]; rfl
    have a2 : dAdd (.str ((b ++ s).take 7)) (.str [g]) = some (.str ((b ++ s).take 7 ++ [g])) := dAdd_s _ _ (by rw [List.length_take, List.length_singleton]; omega)
    by_cases h7 : v7 % 3 = 0
    · refine ⟨b, ?_, Bb, hb⟩
      rw [h7] at hs
      generalize D.str ((b ++ s).take 7 ++ [g]) = x1 at *
      generalize D.str ((b ++ s).take 7) = x2 at *
      generalize D.str (b ++ s) = x3 at *
      generalize D.str a = x4 at *
      generalize D.str b = x5 at *
      generalize D.str c = x6 at *
      generalize D.str s = x7 at *
      generalize D.str [g] = x8 at *
      generalize D.str no = x9 at *
      simp (maxSteps := 30000) (disch := first | assumption | (simp; done) | omega | (simp; omega)) [i0, i2, hw, c5, c6, c7, hs, hg, a1, s1, a2, h7]
    · refine ⟨(b ++ s).take 7 ++ [g], ?_, lastB_snoc _ (bg rfl), by rw [List.length_append, List.length_take, List.length_singleton]; omega⟩
      generalize D.str ((b ++ s).take 7 ++ [g]) = x1 at *
      generalize D.str ((b ++ s).take 7) = x2 at *
      generalize D.str (b ++ s) = x3 at *
      generalize D.str a = x4 at *
      generalize D.str b = x5 at *
      generalize D.str c = x6 at *
      generalize D.str s = x7 at *
      generalize D.str [g] = x8 at *
      generalize D.str no = x9 at *
      simp (maxSteps := 30000) (disch := first | assumption | (simp; done) | omega | (simp; omega)) [i0, i2, hw, c5, c6, c7, hs, hg, a1, s1, a2, h7]
  · refine ⟨c, ?_, Bc, hc⟩
    generalize D.str a = x4 at *
    generalize D.str b = x5 at *
    generalize D.str c = x6 at *
    generalize D.str no = x9 at *
    simp (maxSteps := 30000) (disch := first | assumption | (simp; done) | omega | (simp; omega)) [hw]
theorem jmid (ms : List Int) (way k q : Int) (no a b c : List Nat) (ha : a.length ≤ 10) (hb : b.length ≤ 10) (hc : c.length ≤ 10) (Ba : lastB a) (Bh : headB b) (Bb : lastB b) (Bc : lastB c) (st : Store) :
    ∃ two las, finB (R__law_joiners_2 [.d (.lst (ms.map .int)), .d (.int way), .d (.str no), .own (.l [.str a, .str b, .str c]), .d (.int k), .d (.int q)] st) = .ok (.tup [.str no, .str two, .str b, .str las]) [] st ∧ lastB two ∧ two.length ≤ 30 ∧ lastB las ∧ las.length ≤ 30 := by
  have i2 : ixN 3 2 = some 2 := by decide
  have i0 : ixN 3 0 = some 0 := by decide
  rw [R__law_joiners_2]
  by_cases hw : way = 1
  · have c2 := cell_l ms 2 (by decide) st
    have c3 := cell_l ms 3 (by decide) st
    generalize cell ms 2 = v2 at *
    generalize cell ms 3 = v3 at *
    obtain ⟨s, hs, ls⟩ := letters_ok v2 (1 + v3 % 4) (by omega) (by omega) st
    have l2 : (b ++ s ++ c).length ≤ 30 := by rw [List.length_append, List.length_append]; omega
    have a1 : dAdd (.str b) (.str s) = some (.str (b ++ s)) := dAdd_s _ _ (by omega)
    have a2 : dAdd (.str (b ++ s)) (.str c) = some (.str (b ++ s ++ c)) := dAdd_s _ _ (by rw [List.length_append]; omega)
    have B2 : lastB (b ++ s ++ c) := lastB_app Bc _
    generalize b ++ s ++ c = two at *
    obtain ⟨las, e, h1, h2⟩ := jend ms way k q no two b c l2 (by omega) (by omega) B2 Bh Bb Bc st
    refine ⟨two, las, ?_, B2, l2, h1, h2⟩
    rw [← e]
    generalize R__law_joiners_1 = rest
    generalize ms.map D.int = md at *
    generalize D.str (b ++ s) = x3 at *
    generalize D.str a = x4 at *
    generalize D.str b = x5 at *
    generalize D.str c = x6 at *
    generalize D.str s = x7 at *
    generalize D.str two = x8 at *
    generalize D.str no = x9 at *
    simp (maxSteps := 30000) (disch := first | assumption | (simp; done) | omega | (simp; omega)) [i0, i2, hw, c2, c3, hs, a1, a2]
  · obtain ⟨las, e, h1, h2⟩ := jend ms way k q no a b c (by omega) (by omega) (by omega) Ba Bh Bb Bc st
    refine ⟨a, las, ?_, Ba, by omega, h1, h2⟩
    rw [← e]
    generalize R__law_joiners_1 = rest
    generalize ms.map D.int = md at *
    generalize D.str a = x4 at *
    generalize D.str b = x5 at *
    generalize D.str c = x6 at *
    generalize D.str no = x9 at *
    simp (maxSteps := 30000) (disch := first | assumption | (simp; done) | omega | (simp; omega)) [hw]
theorem joiners_ok (ms : List Int) (way : Int) (st : Store) : ∃ no two mid las, c__law_joiners [.lst (ms.map .int), .int way] st = .ok (.tup [.str no, .str two, .str mid, .str las]) [] st ∧ no.length ≤ 30 ∧ two.length ≤ 30 ∧ mid.length ≤ 30 ∧ las.length ≤ 30 ∧ lastB two ∧ headB mid ∧ lastB las := by
  have c0 := cell_l ms 0 (by decide) st
  have c1 := cell_l ms 1 (by decide) st
  obtain ⟨no, hn, ln⟩ := signs_ok (cell ms 1) (cell ms 0 % 13) (by omega) (by omega) st
  obtain ⟨a, q1, e1, _, Ba, la⟩ := jstep ms way 0 (by omega) (.str no) [] (by simp) .no st
  obtain ⟨b, q2, e2, Bh, Bb, lb⟩ := jstep ms way 1 (by omega) (.str no) [.str a] (by simp) (.d (.int q1)) st
  obtain ⟨c, q3, e3, _, Bc, lc⟩ := jstep ms way 2 (by omega) (.str no) [.str a, .str b] (by simp) (.d (.int q2)) st
  obtain ⟨two, las, e4, h1, h2, h3, h4⟩ := jmid ms way 2 q3 no a b c la lb lc Ba Bh Bb Bc st
  refine ⟨no, two, b, las, ?_, by omega, h2, by omega, h4, h1, Bh, h3⟩
  have hf : forL (gV 4) L__law_joiners_1 (rng 3 0) [.d (.lst (ms.map .int)), .d (.int way), .d (.str no), .own (.l []), .no, .no] st = .nx [.d (.lst (ms.map .int)), .d (.int way), .d (.str no), .own (.l [.str a, .str b, .str c]), .d (.int 2), .d (.int q3)] st := by
    simp only [List.nil_append, List.cons_append] at e1 e2 e3
    have r3 : rng 3 0 = [.int 0, .int 1, .int 2] := rfl
    rw [r3]
    generalize ms.map D.int = md at *
    simp only [forL_c, gV_a, List.set_cons_succ, List.set_cons_zero, e1, e2, e3, forL_n]
  rw [c__law_joiners, runB_k, b__law_joiners]
  generalize cell ms 0 = v0 at *
  generalize cell ms 1 = v1 at *
  generalize R__law_joiners_2 = rest at *
  generalize ms.map D.int = md at *
  generalize D.str a = x4 at *
  generalize D.str b = x5 at *
  generalize D.str c = x6 at *
  generalize D.str no = x9 at *
  generalize D.str two = x8 at *
  generalize D.str las = x7 at *
  simp (maxSteps := 30000) (disch := first | assumption | (simp; done) | omega | (simp; omega)) [c0, c1, hn, hf, e4]
end M

namespace M
open PySem PySem.Spec PyProof.Rows L2 DL
theorem texts_ok (ms : List Int) (hl : ms.length ≤ 200) (st : Store) : ∃ ts : List (List Nat), c__law_texts [.lst (ms.map .int)] st = .ok (.lst (ts.map .str)) [] st ∧ ts.length ≤ 9 ∧ ∀ t ∈ ts, t.length ≤ 13 := by
  have c8 := cell_l ms 8 (by decide) st
  generalize cell ms 8 = v8 at *
  have hcut : cut (ms.map D.int) (some 12) (some (12 + v8 % 10)) = ((ms.take (12 + v8 % 10).toNat).drop 12).map .int := by
    rw [cut_map, cut_mid _ (by decide) (by omega)]; rfl
  generalize hks : (ms.take (12 + v8 % 10).toNat).drop 12 = ks at *
  have hk9 : ks.length ≤ 9 := by subst hks; rw [List.length_drop, List.length_take]; omega
  obtain ⟨S', e, ts, x3, x4, hS, h1, h2, _⟩ := forL_ind (g := gV 3) (body := L__law_texts_1)
    (fun r S => ∃ (ts : List (List Nat)) (x3 x4 : Sl), S = [.d (.lst (ms.map .int)), .d (.int (v8 % 10)), .own (.l (ts.map .str)), x3, x4] ∧ ts.length + r.length = ks.length ∧ (∀ t ∈ ts, t.length ≤ 13) ∧ ∀ d ∈ r, ∃ k : Int, d = .int k)
    (fun d r S st h => by
      obtain ⟨ts, x3, x4, rfl, h1, h2, h3⟩ := h
      obtain ⟨k, rfl⟩ := h3 d (List.mem_cons_self ..)
      rw [List.length_cons] at h1
      have key : ∀ m : Int, 0 ≤ m → m ≤ 13 → ∃ s, c__law_letters [.int (k / 64), .int m] st = .ok (.str s) [] st ∧ s.length ≤ 13 := fun m a b => by
        obtain ⟨s, hs, l⟩ := letters_ok (k / 64) m a (by omega) st
        exact ⟨s, hs, by omega⟩
      have hal : (ts.map D.str).length < 16777216 := by rw [List.length_map]; omega
      have fin : ∀ (s : List Nat) (q : Int), s.length ≤ 13 → L__law_texts_1 [.d (.lst (ms.map .int)), .d (.int (v8 % 10)), .own (.l (ts.map .str)), .d (.int k), x4] st = .nx [.d (.lst (ms.map .int)), .d (.int (v8 % 10)), .own (.l (ts.map .str ++ [.str s])), .d (.int k), .d (.int q)] st →
          ∃ S1 S2, gV 3 (.int k) [.d (.lst (ms.map .int)), .d (.int (v8 % 10)), .own (.l (ts.map .str)), x3, x4] = some S1 ∧ L__law_texts_1 S1 st = .nx S2 st ∧ ∃ (ts : List (List Nat)) (x3 x4 : Sl), S2 = [.d (.lst (ms.map .int)), .d (.int (v8 % 10)), .own (.l (ts.map .str)), x3, x4] ∧ ts.length + r.length = ks.length ∧ (∀ t ∈ ts, t.length ≤ 13) ∧ ∀ d ∈ r, ∃ k : Int, d = .int k := fun s q hs e =>
        ⟨_, _, rfl, e, ts ++ [s], .d (.int k), .d (.int q), by rw [List.map_append]; rfl, by rw [List.length_append, List.length_singleton]; omega, fun t ht => by
          rcases List.mem_append.mp ht with z | z
          · exact h2 t z
          · rw [List.mem_singleton.mp z]; exact hs, fun d hd => h3 d (List.mem_cons_of_mem _ hd)⟩
      generalize ts.map D.str = td at *
      generalize ms.map D.int = md at *
      by_cases h64 : k % 64 = 63
      · have h4 : ¬ k % 4 = 0 := by omega
        obtain ⟨s, hs, ls⟩ := key 13 (by decide) (by decide)
        refine fin s 13 ls ?_
        rw [L__law_texts_1]
        generalize D.str s = sd at *
        simp (maxSteps := 30000) (disch := first | assumption | (simp; done) | omega | (simp; omega)) [h64, h4, hs, hal]
      · by_cases h4 : k % 4 = 0
        · obtain ⟨s, hs, ls⟩ := key (1 + k / 4 % 2) (by omega) (by omega)
          refine fin s (1 + k / 4 % 2) ls ?_
          rw [L__law_texts_1]
          generalize D.str s = sd at *
          simp (maxSteps := 30000) (disch := first | assumption | (simp; done) | omega | (simp; omega)) [h64, h4, hs, hal]
        · obtain ⟨s, hs, ls⟩ := key (1 + k / 4 % 12) (by omega) (by omega)
          refine fin s (1 + k / 4 % 12) ls ?_
          rw [L__law_texts_1]
          generalize D.str s = sd at *
          simp (maxSteps := 30000) (disch := first | assumption | (simp; done) | omega | (simp; omega)) [h64, h4, hs, hal])
    (ks.map .int) [.d (.lst (ms.map .int)), .d (.int (v8 % 10)), .own (.l []), .no, .no] st ⟨[], .no, .no, rfl, by rw [List.length_map]; simp, by simp, fun d hd => by obtain ⟨k, _, e⟩ := List.mem_map.mp hd; exact ⟨k, e.symm⟩⟩
  subst hS
  refine ⟨ts, ?_, by simp at h1; omega, h2⟩
  rw [c__law_texts, runB_k, b__law_texts]
  have hsl : dSl (.lst (ms.map .int)) (some 12) (some (12 + v8 % 10)) = some (.lst (ks.map .int)) := by rw [← hcut]; rfl
  have i1 : itD (.lst (ks.map .int)) = some (ks.map .int) := rfl
  generalize D.lst (ks.map .int) = kd at *
  generalize ks.map D.int = kl at *
  generalize ms.map D.int = md at *
  generalize ts.map D.str = td at *
  simp (maxSteps := 30000) (disch := first | assumption | (simp; done) | omega | (simp; omega)) [c8, hsl, i1, e]
theorem isL_let (c : Nat) : isL c = decide (c ∈ let52) := rfl
theorem istext_ok (t : List Nat) (ht : t.length ≤ 16777216) (st : Store) : c__law_is_text [.str t] st = .ok (.bl (thing t)) [] st := by
  have l3 : dLen [.str t] = some (.int (t.length : Int)) := dLen_s _ ht
  have ii : dIsI [.str t, .ty "str"] = some (.bl true) := rfl
  have i1 : itD (.str t) = some (sgs t) := itD_s _
  have key := lcL_filterF (g := gV 2) (own := [2]) (t := T__law_is_text_1) (f := E__law_is_text_1) (S := [.d (.str t), .d (.str let52), .no]) (st := st) (fun c : Nat => D.str [c]) (fun c => !isL c) (fun c => D.str [c]) t (fun c hc => by
    refine ⟨[.d (.str t), .d (.str let52), .d (.str [c])], [.d (.str t), .d (.str let52), .d (.str [c])], rfl, ?_, fun _ => rfl, fun _ => ⟨[.d (.str t), .d (.str let52), .d (.str [c])], rfl, rfl⟩⟩
    rw [T__law_is_text_1, isL_let]
    generalize let52 = ls
    by_cases h : c ∈ ls
    · simp (maxSteps := 30000) (disch := first | assumption | (simp; done) | omega | (simp; omega)) [h]
    · simp (maxSteps := 30000) (disch := first | assumption | (simp; done) | omega | (simp; omega)) [h])
  replace key : lcL (gV 2) [2] T__law_is_text_1 E__law_is_text_1 (sgs t) [.d (.str t), .d (.str let52), .no] st = _ := key
  have e1 : eqOk (.lst ((t.filter fun c => !isL c).map fun c => D.str [c])) = true := eqOk_lst _ (by rw [List.all_map]; exact List.all_eq_true.mpr fun _ _ => rfl)
  have e2 : deq (.lst ((t.filter fun c => !isL c).map fun c => D.str [c])) (.lst []) = t.all isL := by
    rw [deq_lst]
    cases h : t.all isL
    · obtain ⟨c, hc, hn⟩ : ∃ c ∈ t, isL c = false := by
        have h2 : ¬ (∀ c ∈ t, isL c = true) := fun z => by rw [List.all_eq_true.mpr z] at h; cases h
        exact Classical.byContradiction fun z => h2 fun c hc => by
          cases hh : isL c
          · exact absurd ⟨c, hc, hh⟩ z
          · rfl
      have hm : c ∈ t.filter fun c => !isL c := List.mem_filter.mpr ⟨hc, by rw [hn]; rfl⟩
      cases hf : t.filter fun c => !isL c with
      | nil => rw [hf] at hm; cases hm
      | cons x r => rfl
    · have hf : (t.filter fun c => !isL c) = [] := List.filter_eq_nil_iff.mpr fun c hc => by rw [List.all_eq_true.mp h c hc]; simp
      rw [hf]; rfl
  have hfl : ((t.filter fun c => !isL c).map fun c => D.str [c]).length ≤ 16777216 := by rw [List.length_map]; have := List.length_filter_le (fun c => !isL c) t; omega
  unfold thing
  rw [c__law_is_text, runB_k, b__law_is_text]
  generalize sgs t = sg at *
  generalize (t.filter fun c => !isL c).map (fun c => D.str [c]) = fl at *
  generalize t.all isL = b at *
  generalize D.str t = td at *
  generalize D.str let52 = ld at *
  generalize t.length = n at *
  by_cases h0 : (n : Int) < 1
  · have h0' : ¬ 0 < n := by omega
    simp (maxSteps := 30000) (disch := first | assumption | (simp; done) | omega | (simp; omega)) [l3, ii, h0, h0']
  · have h0' : 0 < n := by omega
    by_cases h1 : (12 : Int) < n
    · have h1' : ¬ n ≤ 12 := by omega
      simp (maxSteps := 30000) (disch := first | assumption | (simp; done) | omega | (simp; omega)) [l3, ii, h0, h0', h1, h1']
    · have h1' : n ≤ 12 := by omega
      simp (maxSteps := 30000) (disch := first | assumption | (simp; done) | omega | (simp; omega)) [l3, ii, h0, h0', h1, h1', i1, key, e1, e2, hfl]
theorem islist_ok (ps : List (List Nat)) (h100 : ps.length ≤ 100) (hp : ∀ p ∈ ps, p.length ≤ 16777216) (st : Store) : c__law_is_list [.lst (ps.map .str)] st = .ok (.bl (isLs ps)) [] st := by
  have l3 : dLen [.lst (ps.map .str)] = some (.int (ps.length : Int)) := by rw [dLen_l, List.length_map]
  have ii : dIsI [.lst (ps.map .str), .ty "list"] = some (.bl true) := rfl
  have i1 : itD (.lst (ps.map .str)) = some (ps.map .str) := rfl
  have key := lcL_filterF (g := gV 1) (own := [1]) (t := T__law_is_list_1) (f := E__law_is_list_1) (S := [.d (.lst (ps.map .str)), .no]) (st := st) D.str (fun p => !thing p) D.str ps (fun p hp' => by
    refine ⟨[.d (.lst (ps.map .str)), .d (.str p)], [.d (.lst (ps.map .str)), .d (.str p)], rfl, ?_, fun _ => rfl, fun _ => ⟨[.d (.lst (ps.map .str)), .d (.str p)], rfl, rfl⟩⟩
    have ht := istext_ok p (hp p hp') st
    rw [T__law_is_list_1]
    generalize ps.map D.str = pd at *
    generalize D.str p = d at *
    simp (maxSteps := 30000) (disch := first | assumption | (simp; done) | omega | (simp; omega)) [ht])
  have e1 : eqOk (.lst ((ps.filter fun c => !thing c).map D.str)) = true := eqOk_lst _ (by rw [List.all_map]; exact List.all_eq_true.mpr fun _ _ => rfl)
  have e2 : deq (.lst ((ps.filter fun c => !thing c).map D.str)) (.lst []) = ps.all thing := by
    rw [deq_lst]
    cases h : ps.all thing
    · obtain ⟨c, hc, hn⟩ : ∃ c ∈ ps, thing c = false := by
        have h2 : ¬ (∀ c ∈ ps, thing c = true) := fun z => by rw [List.all_eq_true.mpr z] at h; cases h
        exact Classical.byContradiction fun z => h2 fun c hc => by
          cases hh : thing c
          · exact absurd ⟨c, hc, hh⟩ z
          · rfl
      have hm : c ∈ ps.filter fun c => !thing c := List.mem_filter.mpr ⟨hc, by rw [hn]; rfl⟩
      cases hf : ps.filter fun c => !thing c with
      | nil => rw [hf] at hm; cases hm
      | cons x r => rfl
    · have hf : (ps.filter fun c => !thing c) = [] := List.filter_eq_nil_iff.mpr fun c hc => by rw [List.all_eq_true.mp h c hc]; simp
      rw [hf]; rfl
  have hfl : ((ps.filter fun c => !thing c).map D.str).length ≤ 16777216 := by rw [List.length_map]; have := List.length_filter_le (fun c => !thing c) ps; omega
  unfold isLs
  rw [c__law_is_list, runB_k, b__law_is_list]
  generalize (ps.filter fun c => !thing c).map D.str = fl at *
  generalize ps.all thing = b at *
  generalize ps.map D.str = pl at *
  generalize ps.length = n at *
  generalize D.lst pl = pd at *
  by_cases h1 : (8 : Int) < n
  · have h1' : ¬ n ≤ 8 := by omega
    simp (maxSteps := 30000) (disch := first | assumption | (simp; done) | omega | (simp; omega)) [l3, ii, h1, h1']
  · have h1' : n ≤ 8 := by omega
    simp (maxSteps := 30000) (disch := first | assumption | (simp; done) | omega | (simp; omega)) [l3, ii, h1, h1', i1, key, e1, e2, hfl]
end M

namespace M
open PySem PySem.Spec PyProof.Rows L2 DL
/-- what the law's own loop makes -/
def tl (m l : List Nat) : List Nat → List (List Nat) → List Nat
  | acc, [] => acc
  | acc, [x] => acc ++ l ++ x
  | acc, x :: y :: r => tl m l (acc ++ m ++ x) (y :: r)
theorem tl_eq (m l : List Nat) : ∀ (r : List (List Nat)) (acc y : List Nat), tl m l acc (y :: r) = joinN m ((acc :: y :: r).dropLast) ++ l ++ ((y :: r).getLast?.getD [])
  | [], acc, y => by simp [tl]
  | z :: r, acc, y => by
    rw [tl, tl_eq m l r (acc ++ m ++ y) z]
    cases r with
    | nil => simp [joinN_c]
    | cons u r => simp [joinN_c]
theorem lstep (J : D) (two mid las : List Nat) (h1 : dIx J (.int 1) = some (.str two)) (h2 : dIx J (.int 2) = some (.str mid)) (h3 : dIx J (.int 3) = some (.str las)) (l1 : two.length ≤ 40) (l2 : mid.length ≤ 40) (l3 : las.length ≤ 40)
    (pl : List D) (f u : List Nat) (i : Int) (hu : dIx (.lst pl) (.int i) = some (.str u)) (hf : f.length ≤ 10000) (hul : u.length ≤ 13) (x4 : Sl) (st : Store) :
    ∃ x4', L__law_laid_1 [.d J, .d (.lst pl), .d (.str f), .d (.int i), x4] st = .nx [.d J, .d (.lst pl), .d (.str (f ++ (if (pl.length : Int) = 2 then two else if i = (pl.length : Int) - 1 then las else mid) ++ u)), .d (.int i), x4'] st := by
  have hl : dLen [.lst pl] = some (.int (pl.length : Int)) := dLen_l _
  generalize hjn : (if (pl.length : Int) = 2 then two else if i = (pl.length : Int) - 1 then las else mid) = jn
  have hjl : jn.length ≤ 40 := by rw [← hjn]; split <;> (try split) <;> assumption
  have a1 : dAdd (.str f) (.str jn) = some (.str (f ++ jn)) := dAdd_s _ _ (by omega)
  have a2 : dAdd (.str (f ++ jn)) (.str u) = some (.str (f ++ jn ++ u)) := dAdd_s _ _ (by rw [List.length_append]; omega)
  refine ⟨.d (.str jn), ?_⟩
  rw [L__law_laid_1]
  generalize (pl.length : Int) = n at *
  generalize D.lst pl = pd at *
  by_cases e2 : n = 2
  · rw [if_pos e2] at hjn
    subst hjn
    have e2' : (2 : Int) = n := e2.symm
    by_cases e3 : i = n - 1
    · generalize D.str (f ++ two ++ u) = x1 at *
      generalize D.str (f ++ two) = x2 at *
      generalize D.str f = x3 at *
      generalize D.str two = x4 at *
      generalize D.str mid = x5 at *
      generalize D.str las = x6 at *
      generalize D.str u = x7 at *
      simp (maxSteps := 30000) (disch := first | assumption | (simp; done) | omega | (simp; omega)) [hl, h1, h2, h3, hu, eq_true e2, eq_true e3, a1, a2]
    · generalize D.str (f ++ two ++ u) = x1 at *
      generalize D.str (f ++ two) = x2 at *
      generalize D.str f = x3 at *
      generalize D.str two = x4 at *
      generalize D.str mid = x5 at *
      generalize D.str las = x6 at *
      generalize D.str u = x7 at *
      simp (maxSteps := 30000) (disch := first | assumption | (simp; done) | omega | (simp; omega)) [hl, h1, h2, h3, hu, eq_true e2, eq_false e3, a1, a2]
  · rw [if_neg e2] at hjn
    by_cases e3 : i = n - 1
    · rw [if_pos e3] at hjn
      subst hjn
      generalize D.str (f ++ las ++ u) = x1 at *
      generalize D.str (f ++ las) = x2 at *
      generalize D.str f = x3 at *
      generalize D.str two = x4 at *
      generalize D.str mid = x5 at *
      generalize D.str las = x6 at *
      generalize D.str u = x7 at *
      simp (maxSteps := 30000) (disch := first | assumption | (simp; done) | omega | (simp; omega)) [hl, h1, h2, h3, hu, eq_false e2, eq_true e3, a1, a2]
    · rw [if_neg e3] at hjn
      subst hjn
      generalize D.str (f ++ mid ++ u) = x1 at *
      generalize D.str (f ++ mid) = x2 at *
      generalize D.str f = x3 at *
      generalize D.str two = x4 at *
      generalize D.str mid = x5 at *
      generalize D.str las = x6 at *
      generalize D.str u = x7 at *
      simp (maxSteps := 30000) (disch := first | assumption | (simp; done) | omega | (simp; omega)) [hl, h1, h2, h3, hu, eq_false e2, eq_false e3, a1, a2]
theorem laid_loop (J : D) (two mid las : List Nat) (h1 : dIx J (.int 1) = some (.str two)) (h2 : dIx J (.int 2) = some (.str mid)) (h3 : dIx J (.int 3) = some (.str las)) (l1 : two.length ≤ 40) (l2 : mid.length ≤ 40) (l3 : las.length ≤ 40)
    (ps : List (List Nat)) (hp : ∀ p ∈ ps, p.length ≤ 13) (hn : 3 ≤ ps.length) (hn9 : ps.length ≤ 9) (st : Store) : ∀ (rest : List (List Nat)) (i : Nat) (f : List Nat) (x3 x4 : Sl), ps.drop i = rest → i + rest.length = ps.length → f.length ≤ 60 * i →
    ∃ x3' x4', forL (gV 3) L__law_laid_1 (rng rest.length (i : Int)) [.d J, .d (.lst (ps.map .str)), .d (.str f), x3, x4] st = .nx [.d J, .d (.lst (ps.map .str)), .d (.str (tl mid las f rest)), x3', x4'] st
  | [], i, f, x3, x4, _, _, _ => ⟨x3, x4, rfl⟩
  | u :: r, i, f, x3, x4, hd, hi, hf => by
    rw [List.length_cons] at hi
    have hk : i < ps.length := by omega
    have hdr := List.drop_eq_getElem_cons hk
    rw [hd] at hdr
    have hu : u = ps[i] := (List.cons.inj hdr).1
    have hr : r = ps.drop (i + 1) := (List.cons.inj hdr).2
    have hul : u.length ≤ 13 := hp u (by rw [hu]; exact List.getElem_mem _)
    have hix : dIx (.lst (ps.map .str)) (.int (i : Int)) = some (.str u) := by
      show atI (ps.map D.str) (i : Int) = _
      rw [atI_map, atI_nn _ (by omega), Int.toNat_natCast, List.getElem?_eq_getElem hk, ← hu]; rfl
    obtain ⟨x4', e⟩ := lstep J two mid las h1 h2 h3 l1 l2 l3 (ps.map .str) f u (i : Int) hix (by omega) hul x4 st
    rw [List.length_map, if_neg (by omega)] at e
    have htl : tl mid las f (u :: r) = tl mid las (f ++ (if (i : Int) = (ps.length : Int) - 1 then las else mid) ++ u) r := by
      cases r with
      | nil =>
        rw [if_pos (by simp at hi; omega)]; rfl
      | cons v w =>
        rw [if_neg (by simp at hi; omega)]; rfl
    have hfl : (f ++ (if (i : Int) = (ps.length : Int) - 1 then las else mid) ++ u).length ≤ 60 * (i + 1) := by
      rw [List.length_append, List.length_append]
      have : (if (i : Int) = (ps.length : Int) - 1 then las else mid).length ≤ 40 := by split <;> assumption
      omega
    rw [htl]
    generalize f ++ (if (i : Int) = (ps.length : Int) - 1 then las else mid) ++ u = f' at *
    obtain ⟨y3, y4, e2⟩ := laid_loop J two mid las h1 h2 h3 l1 l2 l3 ps hp hn hn9 st r (i + 1) f' (.d (.int (i : Int))) x4' hr.symm (by omega) hfl
    refine ⟨y3, y4, ?_⟩
    rw [List.length_cons, rng_c]
    rw [show ((i + 1 : Nat) : Int) = (i : Int) + 1 by omega] at e2
    generalize ps.map D.str = pl at *
    simp only [forL_c, gV_a, List.set_cons_succ, List.set_cons_zero, e, e2]
theorem tl_len (m l : List Nat) : ∀ (r : List (List Nat)) (f : List Nat), (∀ p ∈ r, p.length ≤ 13) → m.length ≤ 40 → l.length ≤ 40 → (tl m l f r).length ≤ f.length + 60 * r.length
  | [], f, _, _, _ => by simp [tl]
  | [x], f, h, _, _ => by have := h x (by simp); simp [tl]; omega
  | x :: y :: r, f, h, hm, hl => by
    have := h x (by simp)
    have ih := tl_len m l (y :: r) (f ++ m ++ x) (fun p hp => h p (by simp at hp ⊢; right; exact hp)) hm hl
    rw [tl]
    rw [List.length_append, List.length_append] at ih
    rw [List.length_cons]
    omega
theorem lawlaid_ok (no two mid las : List Nat) (l0 : no.length ≤ 40) (l1 : two.length ≤ 40) (l2 : mid.length ≤ 40) (l3 : las.length ≤ 40) (ps : List (List Nat)) (hp : ∀ p ∈ ps, p.length ≤ 13) (hn9 : ps.length ≤ 9) (st : Store) :
    c__law_laid [.tup [.str no, .str two, .str mid, .str las], .lst (ps.map .str)] st = .ok (.str (laidS no two mid las ps)) [] st ∧ (laidS no two mid las ps).length ≤ 700 := by
  have j0 : dIx (.tup [.str no, .str two, .str mid, .str las]) (.int 0) = some (.str no) := rfl
  have j1 : dIx (.tup [.str no, .str two, .str mid, .str las]) (.int 1) = some (.str two) := rfl
  have j2 : dIx (.tup [.str no, .str two, .str mid, .str las]) (.int 2) = some (.str mid) := rfl
  have j3 : dIx (.tup [.str no, .str two, .str mid, .str las]) (.int 3) = some (.str las) := rfl
  rw [c__law_laid, runB_k, b__law_laid]
  generalize D.tup [.str no, .str two, .str mid, .str las] = J at *
  have hl : dLen [.lst (ps.map .str)] = some (.int (ps.length : Int)) := by rw [dLen_l, List.length_map]
  have q1 : eqOk (.lst (ps.map .str)) = true := eqOk_lst _ (flat_strs ps)
  match ps, hp, hn9 with
  | [], _, _ =>
    refine ⟨?_, by show no.length ≤ 700; omega⟩
    show _ = Res.ok (D.str no) [] st
    generalize D.str no = nd at *
    simp (maxSteps := 30000) (disch := first | assumption | (simp; done) | omega | (simp; omega)) [j0, deq_lst]
  | [x], hp, _ =>
    refine ⟨?_, by show x.length ≤ 700; have := hp x (by simp); omega⟩
    show _ = Res.ok (D.str x) [] st
    have q2 : deq (.lst ([x].map .str)) (.lst []) = false := by rw [deq_lst]; rfl
    have ix : dIx (.lst ([x].map .str)) (.int 0) = some (.str x) := rfl
    have hl' : dLen [.lst ([x].map .str)] = some (.int 1) := hl
    generalize [x].map D.str = pl at *
    generalize D.lst pl = pd at *
    generalize D.str x = xd at *
    simp (maxSteps := 30000) (disch := first | assumption | (simp; done) | omega | (simp; omega)) [ix, q1, q2, hl', rng_n]
  | [x, y], hp, _ =>
    have e := lstep J two mid las j1 j2 j3 l1 l2 l3 ([x, y].map .str) x y 1 rfl (by have := hp x (by simp); omega) (hp y (by simp)) .no st
    obtain ⟨x4', e⟩ := e
    have e1 : (if (([x, y].map D.str).length : Int) = 2 then two else if (1 : Int) = (([x, y].map D.str).length : Int) - 1 then las else mid) = two := if_pos rfl
    rw [e1] at e
    refine ⟨?_, by show (x ++ two ++ y).length ≤ 700; have := hp x (by simp); have := hp y (by simp); rw [List.length_append, List.length_append]; omega⟩
    show _ = Res.ok (D.str (x ++ two ++ y)) [] st
    have q2 : deq (.lst ([x, y].map .str)) (.lst []) = false := by rw [deq_lst]; rfl
    have ix : dIx (.lst ([x, y].map .str)) (.int 0) = some (.str x) := rfl
    have hl' : dLen [.lst ([x, y].map .str)] = some (.int 2) := hl
    have ef : forL (gV 3) L__law_laid_1 (rng 1 1) [.d J, .d (.lst ([x, y].map .str)), .d (.str x), .no, .no] st = .nx [.d J, .d (.lst ([x, y].map .str)), .d (.str (x ++ two ++ y)), .d (.int 1), x4'] st := by
      have r1 : rng 1 1 = [.int 1] := rfl
      rw [r1]
      generalize [x, y].map D.str = pl at *
      simp only [forL_c, gV_a, List.set_cons_succ, List.set_cons_zero, e, forL_n]
    generalize [x, y].map D.str = pl at *
    generalize D.lst pl = pd at *
    generalize D.str x = xd at *
    generalize D.str (x ++ two ++ y) = od at *
    simp (maxSteps := 30000) (disch := first | assumption | (simp; done) | omega | (simp; omega)) [ix, q1, q2, hl', ef]
  | x :: y :: z :: r, hp, h9 =>
    have eS : laidS no two mid las (x :: y :: z :: r) = tl mid las x (y :: z :: r) := by
      rw [tl_eq]
      show joinN mid ((x :: y :: z :: r).dropLast) ++ las ++ ((x :: y :: z :: r).getLast?.getD []) = _
      rw [List.getLast?_cons_cons]
    have hx := hp x (by simp)
    obtain ⟨x3, x4, ef⟩ := laid_loop J two mid las j1 j2 j3 l1 l2 l3 (x :: y :: z :: r) hp (by simp) h9 st (y :: z :: r) 1 x .no .no rfl (by simp; omega) (by omega)
    rw [eS]
    have hlt := tl_len mid las (y :: z :: r) x (fun p hp' => hp p (by simp at hp' ⊢; right; exact hp')) l2 l3
    refine ⟨?_, by simp at hlt h9; omega⟩
    have q2 : deq (.lst ((x :: y :: z :: r).map .str)) (.lst []) = false := by rw [deq_lst]; rfl
    have ix : dIx (.lst ((x :: y :: z :: r).map .str)) (.int 0) = some (.str x) := by
      show atI ((x :: y :: z :: r).map D.str) 0 = _
      rw [atI_map, atI_nn _ (by decide)]; rfl
    have hln : ((x :: y :: z :: r).length : Int).toNat - 1 = (y :: z :: r).length := by simp; omega
    have hlo : -1000000 ≤ ((x :: y :: z :: r).length : Int) := by omega
    rw [show ((1 : Nat) : Int) = 1 from rfl] at ef
    have hlm : ((x :: y :: z :: r).length : Int) ≤ 1000000 := by simp at h9 ⊢; omega
    generalize (y :: z :: r).length = k at *
    generalize ((x :: y :: z :: r).length : Int) = n at *
    generalize (x :: y :: z :: r).map D.str = pl at *
    generalize D.lst pl = pd at *
    generalize D.str x = xd at *
    generalize D.str (tl mid las x (y :: z :: r)) = od at *
    simp (maxSteps := 30000) (disch := first | assumption | (simp; done) | omega | (simp; omega)) [ix, q1, q2, hl, hlm, hlo, hln, ef]
end M

namespace M
open PySem PySem.Spec PyProof.Rows L2 DL
theorem spoiled_ok (t : List Nat) (ht : t.length ≤ 700) (n : Int) (s : List Nat) (hs : s.length ≤ 1) (st : Store) : ∃ r, c__law_spoiled [.str t, .int n, .str s] st = .ok (.str r) [] st ∧ r.length ≤ 800 := by
  have l1 : t.length ≤ 16777216 := by omega
  have l3 : dLen [.str t] = some (.int (t.length : Int)) := dLen_s _ l1
  have hp : 0 < (t.length : Int) + 1 := by omega
  have hp2 : (t.length : Int) + 1 ≤ 10 ^ 200 := by omega
  obtain ⟨i, hi⟩ := Int.eq_ofNat_of_zero_le (Int.emod_nonneg (n / 8) (show (t.length : Int) + 1 ≠ 0 by omega))
  have hi' : n / 8 % ((t.length : Int) + 1) = (i : Int) := hi
  have s1 : dSl (.str t) none (some (i : Int)) = some (.str (t.take i)) := by rw [dSl_s _ _ _ l1, cut_to _ (by omega), Int.toNat_natCast]
  have s2 : dSl (.str t) (some (i : Int)) none = some (.str (t.drop i)) := by rw [dSl_s _ _ _ l1, cut_from _ (by omega), Int.toNat_natCast]
  have s3 : dSl (.str t) (some ((i : Int) + 1)) none = some (.str (t.drop (i + 1))) := by rw [dSl_s _ _ _ l1, cut_from _ (by omega)]; rfl
  have k1 : (t.take i).length ≤ 700 := by rw [List.length_take]; omega
  have k2 : (t.drop i).length ≤ 700 := by rw [List.length_drop]; omega
  have k3 : (t.drop (i + 1)).length ≤ 700 := by rw [List.length_drop]; omega
  have ks : (t.take i).length + (t.drop i).length ≤ 700 := by rw [List.length_take, List.length_drop]; omega
  have ks2 : (t.take i).length + (t.drop (i + 1)).length ≤ 700 := by rw [List.length_take, List.length_drop]; omega
  generalize t.take i = a at *
  generalize t.drop i = b at *
  generalize t.drop (i + 1) = c at *
  have a1 : dAdd (.str a) (.str c) = some (.str (a ++ c)) := dAdd_s _ _ (by omega)
  have a2 : dAdd (.str a) (.str s) = some (.str (a ++ s)) := dAdd_s _ _ (by omega)
  have a3 : dAdd (.str (a ++ s)) (.str b) = some (.str (a ++ s ++ b)) := dAdd_s _ _ (by rw [List.length_append]; omega)
  have a4 : dAdd (.str (a ++ s)) (.str c) = some (.str (a ++ s ++ c)) := dAdd_s _ _ (by rw [List.length_append]; omega)
  have r1 : (a ++ c).length ≤ 800 := by rw [List.length_append]; omega
  have r3 : (a ++ s ++ b).length ≤ 800 := by rw [List.length_append, List.length_append]; omega
  have r4 : (a ++ s ++ c).length ≤ 800 := by rw [List.length_append, List.length_append]; omega
  generalize a ++ s ++ b = x3 at *
  generalize a ++ s ++ c = x4 at *
  generalize a ++ s = x2 at *
  generalize a ++ c = x1 at *
  rw [c__law_spoiled, runB_k, b__law_spoiled]
  have m1 : n % 8 = 1 ∨ n % 8 = 3 ∨ n % 8 = 5 ∨ n % 8 = 7 ∨ (¬ n % 8 = 1 ∧ ¬ n % 8 = 3 ∧ ¬ n % 8 = 5 ∧ ¬ n % 8 = 7) := by omega
  generalize hT : (t.length : Int) = ln at *
  rcases m1 with h | h | h | h | ⟨h1, h2, h3, h4⟩
  · refine ⟨x1, ?_, r1⟩
    generalize D.str t = td at *
    generalize D.str a = ad at *
    generalize D.str b = bd at *
    generalize D.str c = cd at *
    generalize D.str s = sd at *
    generalize D.str x1 = y1 at *
    simp (maxSteps := 30000) (disch := first | assumption | (simp; done) | omega | (simp; omega)) [l3, hp, hp2, hi', h, s1, s2, s3, a1]
  · refine ⟨x3, ?_, r3⟩
    generalize D.str t = td at *
    generalize D.str a = ad at *
    generalize D.str b = bd at *
    generalize D.str c = cd at *
    generalize D.str s = sd at *
    generalize D.str x2 = y2 at *
    generalize D.str x3 = y3 at *
    simp (maxSteps := 30000) (disch := first | assumption | (simp; done) | omega | (simp; omega)) [l3, hp, hp2, hi', h, s1, s2, s3, a2, a3]
  · refine ⟨x4, ?_, r4⟩
    generalize D.str t = td at *
    generalize D.str a = ad at *
    generalize D.str b = bd at *
    generalize D.str c = cd at *
    generalize D.str s = sd at *
    generalize D.str x2 = y2 at *
    generalize D.str x4 = y4 at *
    simp (maxSteps := 30000) (disch := first | assumption | (simp; done) | omega | (simp; omega)) [l3, hp, hp2, hi', h, s1, s2, s3, a2, a4]
  · refine ⟨a, ?_, by omega⟩
    generalize D.str t = td at *
    generalize D.str a = ad at *
    simp (maxSteps := 30000) (disch := first | assumption | (simp; done) | omega | (simp; omega)) [l3, hp, hp2, hi', h, s1]
  · refine ⟨t, ?_, by omega⟩
    generalize D.str t = td at *
    simp (maxSteps := 30000) (disch := first | assumption | (simp; done) | omega | (simp; omega)) [l3, hp, hp2, hi', h1, h2, h3, h4]
theorem isLs_le {ps : List (List Nat)} (h : isLs ps = true) : ps.length ≤ 8 ∧ ∀ p ∈ ps, p.length ≤ 12 := by
  unfold isLs at h
  rw [Bool.and_eq_true, decide_eq_true_eq, List.all_eq_true] at h
  exact ⟨h.1, fun p hp => thing_le (h.2 p hp)⟩
theorem deq_strs (t s : List Nat) : deq (.str t) (.str s) = decide (t = s) := deq_str t s
theorem sure_step (no two mid las t inner : List Nat) (l0 : no.length ≤ 40) (l1 : two.length ≤ 40) (l2 : mid.length ≤ 40) (l3 : las.length ≤ 40) (lt : t.length ≤ 800) (li : inner.length ≤ 40)
    (due : List (List (List Nat))) (hd : due.length ≤ 5000) (k : Nat) (x5 x6 : Sl) (st : Store) :
    ∃ (due' : List (List (List Nat))) (x5' x6' : Sl), L__law_sure_1 [.d (.tup [.str no, .str two, .str mid, .str las]), .d (.str t), .own (.l (due.map dL)), .d (.str inner), .d (.int (k : Int)), x5, x6] st = .nx [.d (.tup [.str no, .str two, .str mid, .str las]), .d (.str t), .own (.l (due'.map dL)), .d (.str inner), .d (.int (k : Int)), x5', x6'] st ∧
      due'.length ≤ due.length + 2 ∧ ∀ ps ∈ due', ps ∈ due ∨ (isLs ps = true ∧ laidS no two mid las ps = t) := by
  have j1 : dIx (.tup [.str no, .str two, .str mid, .str las]) (.int 1) = some (.str two) := rfl
  have law := fun ps hp h9 => (lawlaid_ok no two mid las l0 l1 l2 l3 ps hp h9 st).1
  generalize D.tup [.str no, .str two, .str mid, .str las] = J at *
  have lt1 : t.length ≤ 16777216 := by omega
  have lw : dLen [.str two] = some (.int (two.length : Int)) := dLen_s _ (by omega)
  have s1 : dSl (.str t) none (some (k : Int)) = some (.str (t.take k)) := by rw [dSl_s _ _ _ lt1, cut_to _ (by omega), Int.toNat_natCast]
  have s2 : dSl (.str t) (some ((k : Int) + (two.length : Int))) none = some (.str (t.drop (k + two.length))) := by rw [dSl_s _ _ _ lt1, cut_from _ (by omega)]; rfl
  have s3 : dSl (.str t) (some (k : Int)) (some ((k : Int) + (two.length : Int))) = some (.str ((t.take (k + two.length)).drop k)) := by rw [dSl_s _ _ _ lt1, cut_mid _ (by omega) (by omega)]; rfl
  have hil := islist_ok [t.take k, t.drop (k + two.length)] (by simp) (fun p hp => by
    simp only [List.mem_cons, List.not_mem_nil, or_false] at hp
    rcases hp with rfl | rfl
    · rw [List.length_take]; omega
    · rw [List.length_drop]; omega) st
  have hdl : (due.map dL).length < 16777216 := by rw [List.length_map]; omega
  have hdl2 : (due.map dL).length + 1 < 16777216 := by rw [List.length_map]; omega
  have q1 : eqOk (.str ((t.take (k + two.length)).drop k)) = true := eqOk_str _
  have q2 : eqOk (.str two) = true := eqOk_str _
  have q3 := deq_strs ((t.take (k + two.length)).drop k) two
  have hsum : t.take k ++ (t.take (k + two.length)).drop k ++ t.drop (k + two.length) = t := by
    have h1 : t.take k = (t.take (k + two.length)).take k := by rw [List.take_take, Nat.min_eq_left (by omega)]
    rw [h1, List.take_append_drop, List.take_append_drop]
  by_cases hc : (t.take (k + two.length)).drop k = two ∧ isLs [t.take k, t.drop (k + two.length)] = true
  · obtain ⟨hc1, hc2⟩ := hc
    rw [hc2] at hil
    rw [hc1] at hsum s3 q1
    have q3' : deq (.str two) (.str two) = true := by rw [deq_strs]; simp
    have h12 := (isLs_le hc2).2
    have ha := h12 (t.take k) (by simp)
    have hb := h12 (t.drop (k + two.length)) (by simp)
    have good2 : laidS no two mid las [t.take k, t.drop (k + two.length)] = t := hsum
    generalize t.take k = a at *
    generalize t.drop (k + two.length) = b at *
    have hil3 := islist_ok [a, inner, b] (by simp) (fun p hp => by
      simp only [List.mem_cons, List.not_mem_nil, or_false] at hp
      rcases hp with rfl | rfl | rfl <;> omega) st
    have p0 : dIx (.lst [.str a, .str b]) (.int 0) = some (.str a) := rfl
    have p1 : dIx (.lst [.str a, .str b]) (.int 1) = some (.str b) := rfl
    have e1 : due.map dL ++ [.lst [.str a, .str b]] = (due ++ [[a, b]]).map dL := by rw [List.map_append]; rfl
    have e2 : due.map dL ++ [.lst [.str a, .str b]] ++ [.lst [.str a, .str inner, .str b]] = (due ++ [[a, b], [a, inner, b]]).map dL := by rw [List.append_assoc, List.map_append]; rfl
    replace hil : c__law_is_list [.lst [.str a, .str b]] st = .ok (.bl true) [] st := hil
    replace hil3 : c__law_is_list [.lst [.str a, .str inner, .str b]] st = .ok (.bl (isLs [a, inner, b])) [] st := hil3
    by_cases h3 : isLs [a, inner, b] = true ∧ laidS no two mid las [a, inner, b] = t
    · obtain ⟨h3, h4⟩ := h3
      have h13 := (isLs_le h3).2
      have hl3 := law [a, inner, b] (fun p hp => by have := h13 p hp; omega) (by simp)
      replace hl3 : c__law_laid [J, .lst [.str a, .str inner, .str b]] st = .ok (.str (laidS no two mid las [a, inner, b])) [] st := hl3
      rw [h4] at hl3
      rw [h3] at hil3
      have qt : eqOk (.str t) = true := eqOk_str _
      have qd : deq (.str t) (.str t) = true := by rw [deq_strs]; simp
      refine ⟨due ++ [[a, b], [a, inner, b]], .d (.lst [.str a, .str b]), .d (.lst [.str a, .str inner, .str b]), ?_, by rw [List.length_append]; simp, fun ps hps => ?_⟩
      · rw [← e2, L__law_sure_1]
        generalize due.map dL = dd at *
        generalize D.str t = td at *
        generalize D.str a = ad at *
        generalize D.str b = bd at *
        generalize D.str inner = id at *
        generalize D.str two = twod at *
        simp (maxSteps := 30000) (disch := first | assumption | (simp; done) | omega | (simp; omega)) [j1, lw, s1, s2, s3, q1, q2, q3', hil, hil3, hl3, p0, p1, qt, qd, hdl, hdl2]
      · rcases List.mem_append.mp hps with h | h
        · exact .inl h
        · right
          simp only [List.mem_cons, List.not_mem_nil, or_false] at h
          rcases h with rfl | rfl
          · exact ⟨hc2, good2⟩
          · exact ⟨h3, h4⟩
    · refine ⟨due ++ [[a, b]], .d (.lst [.str a, .str b]), .d (.lst [.str a, .str inner, .str b]), ?_, by rw [List.length_append]; simp, fun ps hps => ?_⟩
      · rw [← e1, L__law_sure_1]
        by_cases h5 : isLs [a, inner, b] = true
        · have h4 : laidS no two mid las [a, inner, b] ≠ t := fun z => h3 ⟨h5, z⟩
          have h13 := (isLs_le h5).2
          have hl3 := law [a, inner, b] (fun p hp => by have := h13 p hp; omega) (by simp)
          replace hl3 : c__law_laid [J, .lst [.str a, .str inner, .str b]] st = .ok (.str (laidS no two mid las [a, inner, b])) [] st := hl3
          generalize laidS no two mid las [a, inner, b] = w at *
          have qt : eqOk (.str t) = true := eqOk_str _
          have qw : eqOk (.str w) = true := eqOk_str _
          have qd : deq (.str w) (.str t) = false := by rw [deq_strs]; simp [h4]
          rw [h5] at hil3
          generalize due.map dL = dd at *
          generalize D.str t = td at *
          generalize D.str a = ad at *
          generalize D.str b = bd at *
          generalize D.str w = wd at *
          generalize D.str inner = id at *
          generalize D.str two = twod at *
          simp (maxSteps := 30000) (disch := first | assumption | (simp; done) | omega | (simp; omega)) [j1, lw, s1, s2, s3, q1, q2, q3', hil, hil3, hl3, p0, p1, qt, qw, qd, hdl, hdl2]
        · replace h5 : isLs [a, inner, b] = false := by simpa using h5
          rw [h5] at hil3
          generalize due.map dL = dd at *
          generalize D.str t = td at *
          generalize D.str a = ad at *
          generalize D.str b = bd at *
          generalize D.str inner = id at *
          generalize D.str two = twod at *
          simp (maxSteps := 30000) (disch := first | assumption | (simp; done) | omega | (simp; omega)) [j1, lw, s1, s2, s3, q1, q2, q3', hil, hil3, p0, p1, hdl, hdl2]
      · rcases List.mem_append.mp hps with h | h
        · exact .inl h
        · right
          rw [List.mem_singleton.mp h]
          exact ⟨hc2, good2⟩
  · refine ⟨due, .d (.lst [.str (t.take k), .str (t.drop (k + two.length))]), x6, ?_, by omega, fun ps hps => .inl hps⟩
    replace hil : c__law_is_list [.lst [.str (t.take k), .str (t.drop (k + two.length))]] st = _ := hil
    rw [L__law_sure_1]
    by_cases h1 : (t.take (k + two.length)).drop k = two
    · have h2 : isLs [t.take k, t.drop (k + two.length)] = false := by
        cases h : isLs [t.take k, t.drop (k + two.length)]
        · rfl
        · exact absurd ⟨h1, h⟩ hc
      rw [h2] at hil
      have q3' : deq (.str ((t.take (k + two.length)).drop k)) (.str two) = true := by rw [q3]; simp [h1]
      clear q3 h1 hc
      generalize D.str ((t.take (k + two.length)).drop k) = wd at *
      generalize due.map dL = dd at *
      generalize D.str (t.take k) = ad at *
      generalize D.str (t.drop (k + two.length)) = bd at *
      generalize D.str t = td at *
      generalize D.str inner = id at *
      generalize D.str two = twod at *
      simp (maxSteps := 30000) (disch := first | assumption | (simp; done) | omega | (simp; omega)) [j1, lw, s1, s2, s3, q1, q2, q3', hil]
    · have q3' : deq (.str ((t.take (k + two.length)).drop k)) (.str two) = false := by rw [q3]; simp [h1]
      clear q3 h1 hc
      generalize D.str ((t.take (k + two.length)).drop k) = wd at *
      generalize due.map dL = dd at *
      generalize D.str (t.take k) = ad at *
      generalize D.str (t.drop (k + two.length)) = bd at *
      generalize D.str t = td at *
      generalize D.str inner = id at *
      generalize D.str two = twod at *
      simp (maxSteps := 30000) (disch := first | assumption | (simp; done) | omega | (simp; omega)) [j1, lw, s1, s2, s3, q1, q2, q3']
theorem sure_ok (no two mid las t : List Nat) (l0 : no.length ≤ 40) (l1 : two.length ≤ 40) (l2 : mid.length ≤ 40) (l3 : las.length ≤ 40) (lt : t.length ≤ 800) (st : Store) :
    ∃ due : List (List (List Nat)), c__law_sure [.d (.tup [.str no, .str two, .str mid, .str las]), .d (.str t)] st = .ok (.l (due.map dL)) [] st ∧ due.length ≤ 5000 ∧ ∀ ps ∈ due, isLs ps = true ∧ laidS no two mid las ps = t := by
  have lt1 : t.length ≤ 16777216 := by omega
  have j0 : dIx (.tup [.str no, .str two, .str mid, .str las]) (.int 0) = some (.str no) := rfl
  have j1 : dIx (.tup [.str no, .str two, .str mid, .str las]) (.int 1) = some (.str two) := rfl
  have j2 : dIx (.tup [.str no, .str two, .str mid, .str las]) (.int 2) = some (.str mid) := rfl
  have j3 : dIx (.tup [.str no, .str two, .str mid, .str las]) (.int 3) = some (.str las) := rfl
  have w1 : dLen [.str two] = some (.int (two.length : Int)) := dLen_s _ (by omega)
  have w2 : dLen [.str mid] = some (.int (mid.length : Int)) := dLen_s _ (by omega)
  have w3 : dLen [.str las] = some (.int (las.length : Int)) := dLen_s _ (by omega)
  have wt : dLen [.str t] = some (.int (t.length : Int)) := dLen_s _ (by omega)
  obtain ⟨inner, hin, lin⟩ : ∃ inner, dSl (.str two) (some (mid.length : Int)) (some ((two.length : Int) - (las.length : Int))) = some (.str inner) ∧ inner.length ≤ 40 := by
    refine ⟨_, dSl_s _ _ _ (by omega), ?_⟩
    exact Nat.le_trans (cut_len _ _ _) l1
  have tt := istext_ok t lt1 st
  obtain ⟨d0, hd0, h0⟩ : ∃ d0 : List (List (List Nat)), d0 = (if t = no then [[]] else []) ++ (if thing t = true then [[t]] else []) ∧ ∀ ps ∈ d0, isLs ps = true ∧ laidS no two mid las ps = t := by
    refine ⟨_, rfl, fun ps hps => ?_⟩
    rcases List.mem_append.mp hps with h | h
    · by_cases e : t = no
      · rw [if_pos e, List.mem_singleton] at h; subst h; exact ⟨rfl, e.symm⟩
      · rw [if_neg e] at h; cases h
    · by_cases e : thing t = true
      · rw [if_pos e, List.mem_singleton] at h; subst h; exact ⟨by unfold isLs; simp [e], rfl⟩
      · rw [if_neg e] at h; cases h
  have hdl : d0.length ≤ 2 := by rw [hd0, List.length_append]; split <;> split <;> simp
  obtain ⟨S', e, due, x4, x5, x6, hS, hg, hlen, _⟩ := forL_ind (g := gV 4) (body := L__law_sure_1)
    (fun r S => ∃ (due : List (List (List Nat))) (x4 x5 x6 : Sl), S = [.d (.tup [.str no, .str two, .str mid, .str las]), .d (.str t), .own (.l (due.map dL)), .d (.str inner), x4, x5, x6] ∧
      (∀ ps ∈ due, isLs ps = true ∧ laidS no two mid las ps = t) ∧ due.length + 2 * r.length ≤ 2 + 2 * t.length ∧ ∀ d ∈ r, ∃ k : Nat, d = .int (k : Int))
    (fun d r S st h => by
      obtain ⟨due, x4, x5, x6, rfl, hg, hlen, hk⟩ := h
      obtain ⟨k, rfl⟩ := hk d (List.mem_cons_self ..)
      rw [List.length_cons] at hlen
      obtain ⟨due', x5', x6', e, h1, h2⟩ := sure_step no two mid las t inner l0 l1 l2 l3 lt lin due (by omega) k x5 x6 st
      exact ⟨_, _, rfl, e, due', _, _, _, rfl, fun ps hps => (h2 ps hps).elim (hg ps) id, by omega, fun d hd => hk d (List.mem_cons_of_mem _ hd)⟩)
    (rng t.length 0) [.d (.tup [.str no, .str two, .str mid, .str las]), .d (.str t), .own (.l (d0.map dL)), .d (.str inner), .no, .no, .no] st ⟨d0, .no, .no, .no, rfl, h0, by rw [rng_len]; omega, fun d hd => by
      unfold rng at hd
      obtain ⟨i, _, rfl⟩ := List.mem_map.mp hd
      exact ⟨i, by simp⟩⟩
  subst hS
  refine ⟨due, ?_, by simp at hlen; omega, hg⟩
  rw [c__law_sure, runBO_k, b__law_sure]
  have hlm : (t.length : Int) ≤ 1000000 := by omega
  have htn : ((t.length : Int)).toNat = t.length := rfl
  have q1 : eqOk (.str t) = true := eqOk_str _
  have q2 : eqOk (.str no) = true := eqOk_str _
  have q3 := deq_strs t no
  generalize D.tup [.str no, .str two, .str mid, .str las] = J at *
  generalize due.map dL = dd at *
  by_cases e1 : t = no
  · have q3' : deq (.str t) (.str no) = true := by rw [q3]; simp [e1]
    by_cases e2 : thing t = true
    · have hd0' : d0.map dL = [.lst [], .lst [.str t]] := by rw [hd0, if_pos e1, if_pos e2]; rfl
      rw [hd0'] at e
      rw [e2] at tt
      clear q3 e1 hd0
      generalize t.length = n at *
      generalize D.str t = td at *
      generalize D.str no = nd at *
      generalize D.str two = twod at *
      generalize D.str mid = midd at *
      generalize D.str las = lasd at *
      simp (maxSteps := 30000) (disch := first | assumption | (simp; done) | omega | (simp; omega)) [j0, j1, j2, j3, w1, w2, w3, wt, hin, q1, q2, q3', tt, e, hlm]
    · have hd0' : d0.map dL = [.lst []] := by rw [hd0, if_pos e1, if_neg e2]; rfl
      rw [hd0'] at e
      replace e2 : thing t = false := by simpa using e2
      rw [e2] at tt
      clear q3 e1 hd0
      generalize t.length = n at *
      generalize D.str t = td at *
      generalize D.str no = nd at *
      generalize D.str two = twod at *
      generalize D.str mid = midd at *
      generalize D.str las = lasd at *
      simp (maxSteps := 30000) (disch := first | assumption | (simp; done) | omega | (simp; omega)) [j0, j1, j2, j3, w1, w2, w3, wt, hin, q1, q2, q3', tt, e, hlm]
  · have q3' : deq (.str t) (.str no) = false := by rw [q3]; simp [e1]
    by_cases e2 : thing t = true
    · have hd0' : d0.map dL = [.lst [.str t]] := by rw [hd0, if_neg e1, if_pos e2]; rfl
      rw [hd0'] at e
      rw [e2] at tt
      clear q3 e1 hd0
      generalize t.length = n at *
      generalize D.str t = td at *
      generalize D.str no = nd at *
      generalize D.str two = twod at *
      generalize D.str mid = midd at *
      generalize D.str las = lasd at *
      simp (maxSteps := 30000) (disch := first | assumption | (simp; done) | omega | (simp; omega)) [j0, j1, j2, j3, w1, w2, w3, wt, hin, q1, q2, q3', tt, e, hlm]
    · have hd0' : d0.map dL = [] := by rw [hd0, if_neg e1, if_neg e2]; rfl
      rw [hd0'] at e
      replace e2 : thing t = false := by simpa using e2
      rw [e2] at tt
      clear q3 e1 hd0
      generalize t.length = n at *
      generalize D.str t = td at *
      generalize D.str no = nd at *
      generalize D.str two = twod at *
      generalize D.str mid = midd at *
      generalize D.str las = lasd at *
      simp (maxSteps := 30000) (disch := first | assumption | (simp; done) | omega | (simp; omega)) [j0, j1, j2, j3, w1, w2, w3, wt, hin, q1, q2, q3', tt, e, hlm]
end M

namespace M
open PySem PySem.Spec PyProof.Rows L2 DL
theorem deqs_self (ps : List (List Nat)) : deq (dL ps) (dL ps) = true := by
  unfold dL
  exact deq_refl_strs ps
theorem pure_dL : ∀ (U : List (List (List Nat))), pureDs (U.map dL) = true ∧ depDs (U.map dL) ≤ 1
  | [] => by simp [pureDs, depDs]
  | p :: r => by
    obtain ⟨h1, h2⟩ := pure_dL r
    have h3 := flat_pure (flat_strs p)
    rw [List.map_cons]
    unfold dL at *
    simp only [pureDs, depDs, pureD, depD, h1, h3.1, h3.2]
    exact ⟨rfl, by omega⟩
theorem eqOk_dL (p : List (List Nat)) : eqOk (dL p) = true := eqOk_lst _ (flat_strs p)
theorem eqOk_U (U : List (List (List Nat))) : eqOk (.lst (U.map dL)) = true := by
  obtain ⟨h1, h2⟩ := pure_dL U
  show (pureDs (U.map dL) && decide (depDs (U.map dL) + 1 ≤ 60)) = true
  rw [h1, Bool.true_and, decide_eq_true_eq]
  omega
theorem notIn_ok {p : List (List Nat)} {U : List (List (List Nat))} (h : p ∈ U) : dNotIn (dL p) (.lst (U.map dL)) = some (.bl false) := by
  have e : inD (dL p) (.lst (U.map dL)) = some true := by
    show (if eqOk (dL p) = true ∧ eqOk (.lst (U.map dL)) = true then some ((U.map dL).any fun z => deq z (dL p)) else none) = _
    rw [if_pos ⟨eqOk_dL p, eqOk_U U⟩]
    exact congrArg some (List.any_eq_true.mpr ⟨dL p, List.mem_map.mpr ⟨p, h, rfl⟩, deqs_self p⟩)
  unfold dNotIn
  rw [e]; rfl
theorem law_step (no two mid las t : List Nat) (l0 : no.length ≤ 40) (l1 : two.length ≤ 40) (l2 : mid.length ≤ 40) (l3 : las.length ≤ 40) (x0 x1 x3 x8 x9 : Sl) (due : List D) (found : D) (long : Int)
    (p : List (List Nat)) (hp : isLs p = true) (he : laidS no two mid las p = t) (hl : long < (p.length : Int)) (st : Store) :
    L_law_1 [x0, x1, .d (.tup [.str no, .str two, .str mid, .str las]), x3, .d (.str t), .own (.l due), .d found, .d (.int long), .d (dL p), x9] st = .nx [x0, x1, .d (.tup [.str no, .str two, .str mid, .str las]), x3, .d (.str t), .own (.l due), .d found, .d (.int (p.length : Int)), .d (dL p), x9] st := by
  obtain ⟨h8, h12⟩ := isLs_le hp
  have il := islist_ok p (by omega) (fun q hq => by have := h12 q hq; omega) st
  have la := (lawlaid_ok no two mid las l0 l1 l2 l3 p (fun q hq => by have := h12 q hq; omega) (by omega) st).1
  rw [hp] at il
  rw [he] at la
  have dl : dLen [dL p] = some (.int (p.length : Int)) := by unfold dL; rw [dLen_l, List.length_map]
  replace il : c__law_is_list [dL p] st = .ok (.bl true) [] st := il
  replace la : c__law_laid [.tup [.str no, .str two, .str mid, .str las], dL p] st = .ok (.str t) [] st := la
  have q1 : eqOk (.str t) = true := eqOk_str _
  have q2 : deq (.str t) (.str t) = true := by rw [deq_strs]; simp
  have hl' : ¬ (p.length : Int) ≤ long := by omega
  rw [L_law_1]
  generalize D.tup [.str no, .str two, .str mid, .str las] = J at *
  generalize D.str t = td at *
  generalize dL p = pd at *
  generalize (p.length : Int) = n at *
  simp (maxSteps := 30000) (disch := first | assumption | (simp; done) | omega | (simp; omega)) [il, la, dl, q1, q2, hl']
theorem law_loop (no two mid las t : List Nat) (l0 : no.length ≤ 40) (l1 : two.length ≤ 40) (l2 : mid.length ≤ 40) (l3 : las.length ≤ 40) (x0 x1 x3 x9 : Sl) (due : List D) (found : D) (st : Store) :
    ∀ (U : List (List (List Nat))) (long : Int) (x8 : Sl), (∀ p ∈ U, isLs p = true ∧ laidS no two mid las p = t) → ups long U →
      ∃ long' x8', forL (gV 8) L_law_1 (U.map dL) [x0, x1, .d (.tup [.str no, .str two, .str mid, .str las]), x3, .d (.str t), .own (.l due), .d found, .d (.int long), x8, x9] st = .nx [x0, x1, .d (.tup [.str no, .str two, .str mid, .str las]), x3, .d (.str t), .own (.l due), .d found, .d (.int long'), x8', x9] st
  | [], long, x8, _, _ => ⟨long, x8, rfl⟩
  | p :: r, long, x8, h, hu => by
    obtain ⟨hp, he⟩ := h p (by simp)
    have e := law_step no two mid las t l0 l1 l2 l3 x0 x1 x3 (.d (dL p)) x9 due found long p hp he hu.1 st
    obtain ⟨a, b, e2⟩ := law_loop no two mid las t l0 l1 l2 l3 x0 x1 x3 x9 due found st r (p.length : Int) (.d (dL p)) (fun q hq => h q (by simp [hq])) hu.2
    refine ⟨a, b, ?_⟩
    rw [List.map_cons]
    generalize D.tup [.str no, .str two, .str mid, .str las] = J at *
    simp only [forL_c, gV_a, List.set_cons_succ, List.set_cons_zero, e, e2]
theorem law_end (no two mid las t : List Nat) (l0 : no.length ≤ 40) (l1 : two.length ≤ 40) (l2 : mid.length ≤ 40) (l3 : las.length ≤ 40) (lt : t.length ≤ 800) (b2 : lastB two) (bm : headB mid) (bl : lastB las) (x0 x1 x3 : Sl)
    (due : List (List (List Nat))) (hlen : due.length ≤ 10000) (hd : ∀ ps ∈ due, isLs ps = true ∧ laidS no two mid las ps = t) (st : Store) :
    finB (R_law_1 [x0, x1, .d (.tup [.str no, .str two, .str mid, .str las]), x3, .d (.str t), .own (.l (due.map dL)), .no, .no, .no, .no] st) = .ok (.bl true) [] st := by
  have hu := unlaid_ok no two mid las t (by omega) (by omega) (by omega) (by omega) (by omega) st
  have hU := ups_unl no two mid las t
  have hin : ∀ ps ∈ due, ps ∈ unl no two mid las t := fun ps hps => mem_unl b2 bm bl (hd ps hps).1 (hd ps hps).2
  obtain ⟨lo, x8, e⟩ := law_loop no two mid las t l0 l1 l2 l3 x0 x1 x3 .no (due.map dL) (.lst ((unl no two mid las t).map dL)) st (unl no two mid las t) (-1) .no (fun p hp => unl_out hp) hU
  have ii : dIsI [.lst ((unl no two mid las t).map dL), .ty "list"] = some (.bl true) := rfl
  have i1 : itD (.lst ((unl no two mid las t).map dL)) = some ((unl no two mid las t).map dL) := rfl
  have key := lcL_filterF (g := gV 9) (own := [9]) (t := T_law_1) (f := E_law_1) (S := [x0, x1, .d (.tup [.str no, .str two, .str mid, .str las]), x3, .d (.str t), .d (.lst (due.map dL)), .d (.lst ((unl no two mid las t).map dL)), .d (.int lo), x8, .no]) (st := st) dL (fun _ => false) dL due (fun p hp => by
    refine ⟨[x0, x1, .d (.tup [.str no, .str two, .str mid, .str las]), x3, .d (.str t), .d (.lst (due.map dL)), .d (.lst ((unl no two mid las t).map dL)), .d (.int lo), x8, .d (dL p)], [x0, x1, .d (.tup [.str no, .str two, .str mid, .str las]), x3, .d (.str t), .d (.lst (due.map dL)), .d (.lst ((unl no two mid las t).map dL)), .d (.int lo), x8, .d (dL p)], rfl, ?_, fun _ => rfl, fun z => by cases z⟩
    have hn := notIn_ok (hin p hp)
    rw [T_law_1]
    generalize D.lst ((unl no two mid las t).map dL) = ud at *
    generalize due.map dL = dd at *
    generalize dL p = pd at *
    simp (maxSteps := 30000) (disch := first | assumption | (simp; done) | omega | (simp; omega)) [hn, -dNotIn_a])
  have hf : (due.filter fun _ => false) = [] := List.filter_eq_nil_iff.mpr fun _ _ => by simp
  rw [hf, List.map_nil] at key
  rw [R_law_1]
  generalize D.tup [.str no, .str two, .str mid, .str las] = J at *
  generalize (unl no two mid las t).map dL = ul at *
  generalize due.map dL = dd at *
  generalize D.lst ul = ud at *
  generalize D.str t = td at *
  have dnil : deq (.lst []) (.lst []) = true := by rw [deq_lst]; rfl
  simp (maxSteps := 30000) (disch := first | assumption | (simp; done) | omega | (simp; omega)) [hu, ii, i1, e, key, dnil]
theorem lawOk : LawOk c_law := fun ns hl _ => by
  obtain ⟨ms, hms, lms⟩ := cells_ok ns (by omega) []
  have c9 := cell_l ms 9 (by decide) []
  have c10 := cell_l ms 10 (by decide) []
  have c11 := cell_l ms 11 (by decide) []
  obtain ⟨no, two, mid, las, hj, l0, l1, l2, l3, b2, bm, bl⟩ := joiners_ok ms (cell ms 9 % 4) []
  obtain ⟨ts, ht, lts, hts⟩ := texts_ok ms lms []
  generalize cell ms 9 = v9 at *
  generalize cell ms 10 = v10 at *
  generalize cell ms 11 = v11 at *
  obtain ⟨g, hg, _⟩ := sign_ok v11 true []
  have key : ∀ no' : List Nat, no'.length ≤ 40 → ∀ x1 : Sl, finB (R_law_2 [.d (.lst (ms.map .int)), x1, .d (.tup [.str no', .str two, .str mid, .str las]), .d (.lst (ts.map .str)), .no, .no, .no, .no, .no, .no] []) = .ok (.bl true) [] [] := fun no' ln x1 => by
    obtain ⟨hla, hll⟩ := lawlaid_ok no' two mid las ln (by omega) (by omega) (by omega) ts hts lts []
    obtain ⟨t, hs, lt⟩ := spoiled_ok _ hll v10 [g] (by simp) []
    obtain ⟨due, hdu, ldu, hdue⟩ := sure_ok no' two mid las t ln (by omega) (by omega) (by omega) lt []
    have il := islist_ok ts (by omega) (fun p hp => by have := hts p hp; omega) []
    have q1 : eqOk (.str (laidS no' two mid las ts)) = true := eqOk_str _
    have q2 : eqOk (.str t) = true := eqOk_str _
    have q3 := deq_strs (laidS no' two mid las ts) t
    have hal : (due.map dL).length < 16777216 := by rw [List.length_map]; omega
    by_cases hc : isLs ts = true ∧ laidS no' two mid las ts = t
    · have e := law_end no' two mid las t ln (by omega) (by omega) (by omega) lt b2 bm bl (.d (.lst (ms.map .int))) x1 (.d (.lst (ts.map .str))) (due ++ [ts]) (by rw [List.length_append, List.length_singleton]; omega) (fun ps hps => by
        rcases List.mem_append.mp hps with h | h
        · exact hdue ps h
        · rw [List.mem_singleton.mp h]; exact hc) []
      rw [← e, List.map_append]
      have q3' : deq (.str (laidS no' two mid las ts)) (.str t) = true := by rw [q3]; simp [hc.2]
      rw [hc.1] at il
      clear q3 e
      show finB _ = finB (R_law_1 [.d (.lst (ms.map .int)), x1, .d (.tup [.str no', .str two, .str mid, .str las]), .d (.lst (ts.map .str)), .d (.str t), .own (.l (due.map dL ++ [.lst (ts.map .str)])), .no, .no, .no, .no] [])
      rw [R_law_2]
      generalize R_law_1 = rest at *
      generalize D.tup [.str no', .str two, .str mid, .str las] = J at *
      generalize due.map dL = dd at *
      generalize D.str (laidS no' two mid las ts) = ld at *
      generalize D.str t = td at *
      generalize D.str [g] = gd at *
      generalize D.lst (ts.map .str) = tsd at *
      generalize D.lst (ms.map .int) = md at *
      simp (maxSteps := 30000) (disch := first | assumption | (simp; done) | omega | (simp; omega)) [hla, hs, hg, c10, c11, hdu, il, q1, q2, q3', hal]
    · have e := law_end no' two mid las t ln (by omega) (by omega) (by omega) lt b2 bm bl (.d (.lst (ms.map .int))) x1 (.d (.lst (ts.map .str))) due (by omega) hdue []
      rw [← e]
      clear e
      rw [R_law_2]
      by_cases h1 : isLs ts = true
      · have h2 : laidS no' two mid las ts ≠ t := fun z => hc ⟨h1, z⟩
        have q3' : deq (.str (laidS no' two mid las ts)) (.str t) = false := by rw [q3]; simp [h2]
        rw [h1] at il
        clear q3 h2 hc
        generalize R_law_1 = rest at *
        generalize D.tup [.str no', .str two, .str mid, .str las] = J at *
        generalize due.map dL = dd at *
        generalize D.str (laidS no' two mid las ts) = ld at *
        generalize D.str t = td at *
        generalize D.str [g] = gd at *
        generalize D.lst (ts.map .str) = tsd at *
        generalize D.lst (ms.map .int) = md at *
        simp (maxSteps := 30000) (disch := first | assumption | (simp; done) | omega | (simp; omega)) [hla, hs, hg, c10, c11, hdu, il, q1, q2, q3', hal]
      · replace h1 : isLs ts = false := by simpa using h1
        rw [h1] at il
        clear q3 hc
        generalize R_law_1 = rest at *
        generalize D.tup [.str no', .str two, .str mid, .str las] = J at *
        generalize due.map dL = dd at *
        generalize D.str (laidS no' two mid las ts) = ld at *
        generalize D.str t = td at *
        generalize D.str [g] = gd at *
        generalize D.lst (ts.map .str) = tsd at *
        generalize D.lst (ms.map .int) = md at *
        simp (maxSteps := 30000) (disch := first | assumption | (simp; done) | omega | (simp; omega)) [hla, hs, hg, c10, c11, hdu, il, q1, q2, hal]
  refine ⟨[], ?_⟩
  rw [c_law, runB_k, b_law]
  by_cases h3 : v9 % 4 = 3
  · obtain ⟨hla, hll⟩ := lawlaid_ok no two mid las (by omega) (by omega) (by omega) (by omega) ts hts lts []
    have hn : c__law_none_too [.tup [.str no, .str two, .str mid, .str las], .lst (ts.map .str)] [] = .ok (.tup [.str ((laidS no two mid las ts).take 12), .str two, .str mid, .str las]) [] [] := by
      have j1 : dIx (.tup [.str no, .str two, .str mid, .str las]) (.int 1) = some (.str two) := rfl
      have j2 : dIx (.tup [.str no, .str two, .str mid, .str las]) (.int 2) = some (.str mid) := rfl
      have j3 : dIx (.tup [.str no, .str two, .str mid, .str las]) (.int 3) = some (.str las) := rfl
      have s1 : dSl (.str (laidS no two mid las ts)) none (some 12) = some (.str ((laidS no two mid las ts).take 12)) := by rw [dSl_s _ _ _ (by omega), cut_to _ (by decide)]; rfl
      rw [c__law_none_too, runB_k, b__law_none_too]
      generalize D.tup [.str no, .str two, .str mid, .str las] = J at *
      generalize D.str ((laidS no two mid las ts).take 12) = x1 at *
      generalize D.str (laidS no two mid las ts) = x2 at *
      generalize D.lst (ts.map .str) = tsd at *
      generalize D.str two = twod at *
      generalize D.str mid = midd at *
      generalize D.str las = lasd at *
      simp (maxSteps := 30000) (disch := first | assumption | (simp; done) | omega | (simp; omega)) [hla, j1, j2, j3, s1]
    have hk := key ((laidS no two mid las ts).take 12) (by rw [List.length_take]; omega) (.d (.int 3))
    rw [h3] at hj
    clear key hla
    generalize D.tup [.str ((laidS no two mid las ts).take 12), .str two, .str mid, .str las] = J2 at *
    generalize D.tup [.str no, .str two, .str mid, .str las] = J at *
    generalize D.lst (ts.map .str) = tsd at *
    generalize D.lst (ms.map .int) = md at *
    generalize R_law_2 = rest at *
    simp (maxSteps := 30000) (disch := first | assumption | (simp; done) | omega | (simp; omega)) [hms, c9, h3, hj, ht, hn, hk]
  · have hk := key no (by omega) (.d (.int (v9 % 4)))
    clear key
    generalize D.tup [.str no, .str two, .str mid, .str las] = J at *
    generalize D.lst (ts.map .str) = tsd at *
    generalize D.lst (ms.map .int) = md at *
    generalize R_law_2 = rest at *
    simp (maxSteps := 30000) (disch := first | assumption | (simp; done) | omega | (simp; omega)) [hms, c9, h3, hj, ht, hk]
end M

open PySem PySem.W PyProof.Rows
set_option maxRecDepth 100000 in
set_option maxHeartbeats 0 in
theorem PySem.Challenge.cw_saywell_k34_whole_unlaid_holds : PySem.Challenge.rw_saywell_k34_whole_unlaid.Holds := by
  w_on; o_law; k_head; (case hw => w_witness2)
  k_fill
  refine L2.walk_ofB (l := PySem.Challenge.rw_saywell_k34_whole_unlaid) (n := 63) (k := 6) (x := "_law_script") (CX := fun w => L2.CX PySem.Challenge.rw_saywell_k34_whole_unlaid.prog w) (sp := fun w => DL.spLaw _) rfl (by decide) rfl ⟨rfl, by decide, by decide⟩ (fun w h Y => PySem.W.kIn_of Y) ?F (fun _ _ a ns hl hb _ hS => ⟨a, ns, rfl, hS, hl, hb, fun _ => rfl⟩) (fun _ _ _ _ _ h => by obtain ⟨_, _, _, _, _, _, _, _, _, _, _, _, z⟩ := h; exact z.elim)
  case F =>
    intro w mg fa h KX G hmg
    refine' M.all_mk M.lawOk KX G hmg ?a__law_cell_at ?l__law_cell_at ?q__law_cell_at ?k__law_cell_at ?a__law_rich ?l__law_rich ?q__law_rich ?k__law_rich ?a__law_cells ?l__law_cells ?q__law_cells ?k__law_cells ?a__law_sign ?l__law_sign ?q__law_sign ?k__law_sign ?a__law_signs ?l__law_signs ?q__law_signs ?k__law_signs ?a__law_joiner ?l__law_joiner ?q__law_joiner ?k__law_joiner ?a__law_letters ?l__law_letters ?q__law_letters ?k__law_letters ?a__law_joiners ?l__law_joiners ?q__law_joiners ?k__law_joiners ?a__law_texts ?l__law_texts ?q__law_texts ?k__law_texts ?a__law_laid ?l__law_laid ?q__law_laid ?k__law_laid ?a__law_none_too ?l__law_none_too ?q__law_none_too ?k__law_none_too ?a__law_spoiled ?l__law_spoiled ?q__law_spoiled ?k__law_spoiled ?a__law_is_text ?l__law_is_text ?q__law_is_text ?k__law_is_text ?a__law_is_list ?l__law_is_list ?q__law_is_list ?k__law_is_list ?a__law_sure ?l__law_sure ?q__law_sure ?k__law_sure ?a_first_letters ?l_first_letters ?q_first_letters ?k_first_letters ?a_is_thing_text ?l_is_thing_text ?q_is_thing_text ?k_is_thing_text ?a_last_letters ?l_last_letters ?q_last_letters ?k_last_letters ?a_parted ?l_parted ?q_parted ?k_parted ?a_unlaid ?l_unlaid ?q_unlaid ?k_unlaid ?a_law ?l_law ?q_law ?k_law ?z_len ?z_isinstance ?z_str ?z_int ?z_bool ?z_list ?z_tuple ?z_dict ?z_set ?z_range ?z_enumerate ?z_zip ?z_reversed ?z_sorted ?z_sum ?z_all ?z_any ?z_abs ?z_max ?z_min ?z_ord ?z_divmod ?z_repr ?g_LETTERS
    (case a__law_cell_at => k_is)
    (case l__law_cell_at => k_is)
    (case q__law_cell_at => k_is)
    (case k__law_cell_at => k_is)
    (case a__law_rich => k_is)
    (case l__law_rich => k_is)
    (case q__law_rich => k_is)
    (case k__law_rich => k_is)
    (case a__law_cells => k_is)
    (case l__law_cells => k_is)
    (case q__law_cells => k_is)
    (case k__law_cells => k_is)
    (case a__law_sign => k_is)
    (case l__law_sign => k_is)
    (case q__law_sign => k_is)
    (case k__law_sign => k_is)
    (case a__law_signs => k_is)
    (case l__law_signs => k_is)
    (case q__law_signs => k_is)
    (case k__law_signs => k_is)
    (case a__law_joiner => k_is)
    (case l__law_joiner => k_is)
    (case q__law_joiner => k_is)
    (case k__law_joiner => k_is)
    (case a__law_letters => k_is)
    (case l__law_letters => k_is)
    (case q__law_letters => k_is)
    (case k__law_letters => k_is)
    (case a__law_joiners => k_is)
    (case l__law_joiners => k_is)
    (case q__law_joiners => k_is)
    (case k__law_joiners => k_is)
    (case a__law_texts => k_is)
    (case l__law_texts => k_is)
    (case q__law_texts => k_is)
    (case k__law_texts => k_is)
    (case a__law_laid => k_is)
    (case l__law_laid => k_is)
    (case q__law_laid => k_is)
    (case k__law_laid => k_is)
    (case a__law_none_too => k_is)
    (case l__law_none_too => k_is)
    (case q__law_none_too => k_is)
    (case k__law_none_too => k_is)
    (case a__law_spoiled => k_is)
    (case l__law_spoiled => k_is)
    (case q__law_spoiled => k_is)
    (case k__law_spoiled => k_is)
    (case a__law_is_text => k_is)
    (case l__law_is_text => k_is)
    (case q__law_is_text => k_is)
    (case k__law_is_text => k_is)
    (case a__law_is_list => k_is)
    (case l__law_is_list => k_is)
    (case q__law_is_list => k_is)
    (case k__law_is_list => k_is)
    (case a__law_sure => k_is)
    (case l__law_sure => k_is)
    (case q__law_sure => k_is)
    (case k__law_sure => k_is)
    (case a_first_letters => k_is)
    (case l_first_letters => k_is)
    (case q_first_letters => k_is)
    (case k_first_letters => k_is)
    (case a_is_thing_text => k_is)
    (case l_is_thing_text => k_is)
    (case q_is_thing_text => k_is)
    (case k_is_thing_text => k_is)
    (case a_last_letters => k_is)
    (case l_last_letters => k_is)
    (case q_last_letters => k_is)
    (case k_last_letters => k_is)
    (case a_parted => k_is)
    (case l_parted => k_is)
    (case q_parted => k_is)
    (case k_parted => k_is)
    (case a_unlaid => k_is)
    (case l_unlaid => k_is)
    (case q_unlaid => k_is)
    (case k_unlaid => k_is)
    (case a_law => k_is)
    (case l_law => k_is)
    (case q_law => k_is)
    (case k_law => k_is)
    (case z_len => k_is)
    (case z_isinstance => k_is)
    (case z_str => k_is)
    (case z_int => k_is)
    (case z_bool => k_is)
    (case z_list => k_is)
    (case z_tuple => k_is)
    (case z_dict => k_is)
    (case z_set => k_is)
    (case z_range => k_is)
    (case z_enumerate => k_is)
    (case z_zip => k_is)
    (case z_reversed => k_is)
    (case z_sorted => k_is)
    (case z_sum => k_is)
    (case z_all => k_is)
    (case z_any => k_is)
    (case z_abs => k_is)
    (case z_max => k_is)
    (case z_min => k_is)
    (case z_ord => k_is)
    (case z_divmod => k_is)
    (case z_repr => k_is)
    (case g_LETTERS => k_is)
