import PyProof.Rows.All
import Wide.All
import OpenK.AllK
import Wide.FinOn
import HandS.ForMost
import HandS.ForExc
import HandS.Wide
import HandS.IsInst
import HandS.StrMore
import HandS.Conv
import HandS.Deep
import HandS.TupAny
import HandS.Style
import HandS.WideBits
import HandS.EndBits
import HandS.ExcIs
import HandS.TryOnly
import HandS.HotCalls
import HandS.MakeKw
import HandS.Rev
import KE.IntTextLaws
import KE.KIntText
import HandS.Dict
import HandS.More
import KE.GoesZip
import HandS.Replace
import PyProof.MinMaxWalk
import PyProof.WalkInts
import PyProof.SeqI3
import KE.DataMinMax
import HandS.SortKw
import HandS.SetFor
import HandS.Strs
import PySem.Challenge.RW_saywell_k13_spoilt_texts
set_option Elab.async false
set_option linter.all false
set_option maxRecDepth 100000
set_option autoImplicit false
set_option maxHeartbeats 4000000
namespace DL
open PySem PySem.Spec PyProof.Rows L2

/-! ### data -/
/-- what a value tells: texts by their codes; scr: a list of ints from outside; obj: an instance that stays as it is -/
inductive D where
  | non | bl (b : Bool) | int (i : Int) | str (s : List Nat)
  | lst (ds : List D) | tup (ds : List D) | scr (ns : List Int) | dic (es : List (D × D)) | obj (c : Nat) (fs : List (Nat × D)) | ty (n : String) | err (a : Addr) (c : Nat) | loc (n : Nat)
instance : Inhabited D := ⟨.non⟩
/-- the text of these codes -/
def tx (s : List Nat) : Str := ⟨s.toArray⟩
theorem tx_cps (x : Str) : tx x.cps.toList = x := rfl
theorem cps_tx (s : List Nat) : (tx s).cps.toList = s := rfl
theorem tx_inj {s t : List Nat} (h : tx s = tx t) : s = t := by
  have := congrArg (fun x : Str => x.cps.toList) h
  exact this
theorem tx_len (s : List Nat) : (tx s).length = s.length := by simp [tx, Str.length]
theorem tx_app (s t : List Nat) : tx s ++ tx t = tx (s ++ t) := by
  show Str.append (tx s) (tx t) = _
  simp [Str.append, tx]
/-- a name's number: its signs, base 256 -/
def nmL : Nat → Nat → List Nat → List Nat
  | 0, _, acc => acc
  | k + 1, n, acc => if n = 0 then acc else nmL k (n / 256) (n % 256 :: acc)
def nmS (n : Nat) : Str := tx (nmL 64 n [])
def nmV (l : List Nat) (a : Nat) : Nat := l.foldl (fun a c => a * 256 + c) a
theorem nmL_val : ∀ (k n : Nat) (acc : List Nat), n < 256 ^ k → nmV (nmL k n acc) 0 = nmV acc n
  | 0, n, acc, h => by
    have : n = 0 := by simpa using h
    subst this; rfl
  | k + 1, n, acc, h => by
    unfold nmL
    split
    · rename_i h0; rw [h0]
    · rw [nmL_val k (n / 256) _ (by rw [Nat.pow_succ] at h; omega)]
      show nmV acc (n / 256 * 256 + n % 256) = _
      congr 1; omega
abbrev okN (n : Nat) : Prop := n < 256 ^ 64
theorem nmS_inj {n m : Nat} (h : okN n) (h' : okN m) (e : nmS n = nmS m) : n = m := by
  have e1 : nmV (nmL 64 n []) 0 = nmV (nmL 64 m []) 0 := congrArg (fun l => nmV l 0) (tx_inj e)
  rw [nmL_val 64 n [] h, nmL_val 64 m [] h'] at e1
  exact e1
/-- what stands behind the top, as far as it is needed -/
structure Gx where
  K : PySem.W.Frag
  mg : Str → Option Value
/-- what stays, and where the things of the store stand -/
structure Fz where
  f : Hp
  m : List Addr
instance : CoeFun Fz (fun _ => Addr → Option HO) := ⟨Fz.f⟩
instance : Coe Fz Hp := ⟨Fz.f⟩
def Fz.up (F : Fz) (p : Addr) (u : HO) : Fz := ⟨upd F.f p u, F.m⟩
def SmF (F F' : Fz) : Prop := Same F.f F'.f ∧ F.m <+: F'.m
theorem SmF.refl (F : Fz) : SmF F F := ⟨Same.refl _, List.prefix_refl _⟩
theorem SmF.trans {F F1 F2 : Fz} (a : SmF F F1) (b : SmF F1 F2) : SmF F F2 := ⟨a.1.trans b.1, a.2.trans b.2⟩
theorem SmF.free {F F' : Fz} (e : SmF F F') {p : Addr} (h : F' p = none) : F p = none := e.1.free h
theorem SmF.of {f f' : Hp} {m : List Addr} (h : Same f f') : SmF ⟨f, m⟩ ⟨f', m⟩ := ⟨h, List.prefix_refl _⟩
theorem SmF.up {F : Fz} {f' : Hp} (h : Same F.f f') : SmF F ⟨f', F.m⟩ := ⟨h, List.prefix_refl _⟩
theorem pre_get {m m' : List Addr} (h : m <+: m') {n : Nat} {a : Addr} (e : m[n]? = some a) : m'[n]? = some a := by
  obtain ⟨t, rfl⟩ := h
  have hn : n < m.length := (List.getElem?_eq_some_iff.mp e).1
  rw [List.getElem?_append_left hn]; exact e
/-- all signs are signs -/
def okS (s : List Nat) : Bool := s.all (· < 1114112)
theorem okS_app {s t : List Nat} (h : okS s = true) (h' : okS t = true) : okS (s ++ t) = true := by
  unfold okS at *; rw [List.all_append, h, h']; rfl
theorem okS_sub {s t : List Nat} (h : okS s = true) (i : ∀ c ∈ t, c ∈ s) : okS t = true := by
  unfold okS at *
  rw [List.all_eq_true] at h ⊢
  exact fun c m => h c (i c m)
def okK : Key → Bool
  | .inl _ => true
  | .inr x => okS x.cps.toList
def keyD : Key → D
  | .inl i => .int i
  | .inr x => .str x.cps.toList
mutual
inductive Rp (G : Gx) (F : Fz) : V → D → Prop
  | non : Rp G F .non .non
  | bl (b : Bool) : Rp G F (.bl b) (.bl b)
  | int (i : Int) : Rp G F (.int i) (.int i)
  | str (s : List Nat) (h : okS s = true) : Rp G F (.str (tx s)) (.str s)
  | ty (n : String) : Rp G F (.ty n) (.ty n)
  | err (a : Addr) (c : Nat) : Rp G F (.ref a) (.err a c)
  | loc {a : Addr} {n : Nat} : F.m[n]? = some a → Rp G F (.ref a) (.loc n)
  | lst {a : Addr} {xs : List V} {ds : List D} : F a = some (.lst xs) → RpAll G F xs ds → Rp G F (.ref a) (.lst ds)
  | tup {a : Addr} {xs : List V} {ds : List D} : SqT G.K F.f a xs → RpAll G F xs ds → Rp G F (.ref a) (.tup ds)
  | scr {a : Addr} {ns : List Int} : SqL G.K F.f a (ns.map V.int) → Rp G F (.ref a) (.scr ns)
  | dicK {a : Addr} {kvs : List (Key × V)} {es : List (D × D)} : F a = some (.dK kvs) → RpK G F kvs es → Rp G F (.ref a) (.dic es)
  | obj {a dx C : Addr} {c : Nat} {fs : List (Str × V)} {es : List (Nat × D)} : F a = some (.ins C dx fs) → F dx = some (.own a) → G.mg (nmS c) = some (.ref C) → RpF G F fs es → Rp G F (.ref a) (.obj c es)
inductive RpAll (G : Gx) (F : Fz) : List V → List D → Prop
  | nil : RpAll G F [] []
  | cons {v : V} {vs : List V} {d : D} {ds : List D} : Rp G F v d → RpAll G F vs ds → RpAll G F (v :: vs) (d :: ds)
inductive RpK (G : Gx) (F : Fz) : List (Key × V) → List (D × D) → Prop
  | nil : RpK G F [] []
  | cons {k : Key} {v : V} {vs : List (Key × V)} {d : D} {ds : List (D × D)} : okK k = true → Rp G F v d → RpK G F vs ds → RpK G F ((k, v) :: vs) ((keyD k, d) :: ds)
inductive RpF (G : Gx) (F : Fz) : List (Str × V) → List (Nat × D) → Prop
  | nil : RpF G F [] []
  | cons {k : Nat} {v : V} {vs : List (Str × V)} {d : D} {ds : List (Nat × D)} : okN k → Rp G F v d → RpF G F vs ds → RpF G F ((nmS k, v) :: vs) ((k, d) :: ds)
end
theorem same_seqT {K : PySem.W.Frag} {H H' : Hp} {a : Addr} {xs : List V} (e : Same H H') (h : SqT K H a xs) : SqT K H' a xs := by
  rcases h with (h | ⟨o, h⟩) | h
  · exact .inl (.inl (e _ _ h))
  · exact .inl (.inr ⟨o, e _ _ h⟩)
  · exact .inr h
mutual
theorem Rp.mono {G : Gx} {F F' : Fz} (e : SmF F F') : ∀ {v : V} {d : D}, Rp G F v d → Rp G F' v d
  | _, _, .non => .non
  | _, _, .bl b => .bl b
  | _, _, .int i => .int i
  | _, _, .str x h => .str x h
  | _, _, .ty n => .ty n
  | _, _, .err a c => .err a c
  | _, _, .loc h => .loc (pre_get e.2 h)
  | _, _, .lst h t => .lst (e.1 _ _ h) (RpAll.mono e t)
  | _, _, .tup h t => .tup (same_seqT e.1 h) (RpAll.mono e t)
  | _, _, .scr h => .scr (e.1.seq h)
  | _, _, .dicK h t => .dicK (e.1 _ _ h) (RpK.mono e t)
  | _, _, .obj h h' g t => .obj (e.1 _ _ h) (e.1 _ _ h') g (RpF.mono e t)
theorem RpAll.mono {G : Gx} {F F' : Fz} (e : SmF F F') : ∀ {vs : List V} {ds : List D}, RpAll G F vs ds → RpAll G F' vs ds
  | _, _, .nil => .nil
  | _, _, .cons h t => .cons (Rp.mono e h) (RpAll.mono e t)
theorem RpK.mono {G : Gx} {F F' : Fz} (e : SmF F F') : ∀ {vs : List (Key × V)} {ds : List (D × D)}, RpK G F vs ds → RpK G F' vs ds
  | _, _, .nil => .nil
  | _, _, .cons o h t => .cons o (Rp.mono e h) (RpK.mono e t)
theorem RpF.mono {G : Gx} {F F' : Fz} (e : SmF F F') : ∀ {vs : List (Str × V)} {ds : List (Nat × D)}, RpF G F vs ds → RpF G F' vs ds
  | _, _, .nil => .nil
  | _, _, .cons o h t => .cons o (Rp.mono e h) (RpF.mono e t)
end
section
variable {G : Gx} {F : Fz}
theorem RpAll.length : ∀ {vs : List V} {ds : List D}, RpAll G F vs ds → vs.length = ds.length
  | _, _, .nil => rfl
  | _, _, .cons _ t => congrArg Nat.succ (RpAll.length t)
theorem RpAll.append : ∀ {vs ws : List V} {ds es : List D}, RpAll G F vs ds → RpAll G F ws es → RpAll G F (vs ++ ws) (ds ++ es)
  | _, _, _, _, .nil, b => b
  | _, _, _, _, .cons h t, b => .cons h (RpAll.append t b)
theorem RpAll.one {v : V} {d : D} (h : Rp G F v d) : RpAll G F [v] [d] := .cons h .nil
theorem RpAll.get : ∀ {vs : List V} {ds : List D} {i : Nat} {d : D}, RpAll G F vs ds → ds[i]? = some d → ∃ v, vs[i]? = some v ∧ Rp G F v d
  | _, _, _, _, .nil, e => by simp at e
  | _, _, 0, _, .cons h _, e => by simp at e; subst e; exact ⟨_, rfl, h⟩
  | _, _, i + 1, _, .cons _ t, e => by
    obtain ⟨v, e', h⟩ := RpAll.get (i := i) t (by simpa using e)
    exact ⟨v, by simpa using e', h⟩
theorem RpAll.getV : ∀ {vs : List V} {ds : List D} {i : Nat} {v : V}, RpAll G F vs ds → vs[i]? = some v → ∃ d, ds[i]? = some d ∧ Rp G F v d
  | _, _, _, _, .nil, e => by simp at e
  | _, _, 0, _, .cons h _, e => by simp at e; subst e; exact ⟨_, rfl, h⟩
  | _, _, i + 1, _, .cons _ t, e => by
    obtain ⟨v, e', h⟩ := RpAll.getV (i := i) t (by simpa using e)
    exact ⟨v, by simpa using e', h⟩
theorem RpAll.take : ∀ {vs : List V} {ds : List D} (n : Nat), RpAll G F vs ds → RpAll G F (vs.take n) (ds.take n)
  | _, _, 0, _ => by simp; exact .nil
  | _, _, _ + 1, .nil => .nil
  | _, _, n + 1, .cons h t => .cons h (RpAll.take n t)
theorem RpAll.drop : ∀ {vs : List V} {ds : List D} (n : Nat), RpAll G F vs ds → RpAll G F (vs.drop n) (ds.drop n)
  | _, _, 0, h => h
  | _, _, _ + 1, .nil => .nil
  | _, _, n + 1, .cons _ t => RpAll.drop n t
theorem RpAll.set : ∀ {vs : List V} {ds : List D} (n : Nat) {v : V} {d : D}, RpAll G F vs ds → Rp G F v d → RpAll G F (vs.set n v) (ds.set n d)
  | _, _, _, _, _, .nil, _ => .nil
  | _, _, 0, _, _, .cons _ t, h => .cons h t
  | _, _, n + 1, _, _, .cons h' t, h => .cons h' (RpAll.set n t h)
theorem rp_ints (G : Gx) (F : Fz) : ∀ ns : List Int, RpAll G F (ns.map V.int) (ns.map D.int)
  | [] => .nil
  | n :: r => .cons (.int n) (rp_ints G F r)
theorem rp_strs (G : Gx) (F : Fz) : ∀ ns : List (List Nat), (∀ n ∈ ns, okS n = true) → RpAll G F (ns.map (V.str ∘ tx)) (ns.map D.str)
  | [], _ => .nil
  | n :: r, h => .cons (.str n (h n (List.mem_cons_self ..))) (rp_strs G F r fun m q => h m (List.mem_cons_of_mem _ q))
theorem rp_strs_inv : ∀ {vs : List V} {ns : List (List Nat)}, RpAll G F vs (ns.map D.str) → vs = (ns.map tx).map V.str
  | [], [], _ => rfl
  | [], _ :: _, h => by cases h
  | _ :: _, [], h => by cases h
  | v :: vs, n :: ns, h => by
    cases h with
    | cons h t =>
      cases h
      rw [rp_strs_inv t]; rfl
theorem rp_ints_inv : ∀ {vs : List V} {ns : List Int}, RpAll G F vs (ns.map D.int) → vs = ns.map V.int
  | [], [], _ => rfl
  | [], _ :: _, h => by cases h
  | _ :: _, [], h => by cases h
  | v :: vs, n :: ns, h => by
    cases h with
    | cons h t =>
      cases h
      rw [rp_ints_inv t]; rfl
theorem rp_bools_inv : ∀ {vs : List V} {ns : List Bool}, RpAll G F vs (ns.map D.bl) → vs = ns.map V.bl
  | [], [], _ => rfl
  | [], _ :: _, h => by cases h
  | _ :: _, [], h => by cases h
  | v :: vs, n :: ns, h => by
    cases h with
    | cons h t =>
      cases h
      rw [rp_bools_inv t]; rfl
end

/-! ### the state -/
/-- what an object of a slot's own holds -/
inductive Ow where
  | l (ds : List D) | k (es : List (D × D))
inductive OwRel (G : Gx) (F : Fz) : HO → Ow → Prop
  | l {xs : List V} {ds : List D} : RpAll G F xs ds → OwRel G F (.lst xs) (.l ds)
  | kK {xs : List (Key × V)} {ds : List (D × D)} : RpK G F xs ds → OwRel G F (.dK xs) (.k ds)
theorem OwRel.mono {G : Gx} {F F' : Fz} (e : SmF F F') {u : HO} {o : Ow} (h : OwRel G F u o) : OwRel G F' u o := by
  cases h with
  | l t => exact .l (t.mono e)
  | kK t => exact .kK (t.mono e)
def Ow.d : Ow → D
  | .l ds => .lst ds
  | .k es => .dic es
theorem OwRel.rp {G : Gx} {F : Fz} {u : HO} {o : Ow} {a : Addr} (h : OwRel G F u o) (e : F a = some u) : Rp G F (.ref a) o.d := by
  cases h with
  | l t => exact .lst e t
  | kK t => exact .dicK e t
/-- a thing of the store: a list or a dict, an instance -/
inductive Ob where
  | o (w : Ow) | i (c : Nat) (fs : List (Nat × D))
abbrev Store := List Ob
def Ob.d : Ob → D
  | .o w => w.d
  | .i c fs => .obj c fs
def ObOk (G : Gx) (F : Fz) (H : Hp) (a : Addr) : Ob → Prop
  | .o w => ∃ u, H a = some u ∧ OwRel G F u w
  | .i c fs => ∃ C dx vs, H a = some (.ins C dx vs) ∧ H dx = some (.own a) ∧ G.mg (nmS c) = some (.ref C) ∧ RpF G F vs fs
theorem ObOk.grow {G : Gx} {F F' : Fz} {H H' : Hp} {a : Addr} {ob : Ob} (e : SmF F F') (k : Same H H') (h : ObOk G F H a ob) : ObOk G F' H' a ob := by
  cases ob with
  | o w => obtain ⟨u, h1, h2⟩ := h; exact ⟨u, k _ _ h1, h2.mono e⟩
  | i c fs => obtain ⟨C, dx, vs, h1, h2, h3, h4⟩ := h; exact ⟨C, dx, vs, k _ _ h1, k _ _ h2, h3, h4.mono e⟩
theorem ObOk.ex {G : Gx} {F : Fz} {H : Hp} {a : Addr} {ob : Ob} (h : ObOk G F H a ob) : ∃ u, H a = some u := by
  cases ob with
  | o w => obtain ⟨u, h1, h2⟩ := h; exact ⟨u, h1⟩
  | i c fs => obtain ⟨C, dx, vs, h1, _⟩ := h; exact ⟨_, h1⟩
/-- another thing changes -/
theorem ObOk.chg {G : Gx} {F : Fz} {H : Hp} {a p : Addr} {u : HO} {ob : Ob} (h : ObOk G F H a ob) (n : a ≠ p) (no : ∀ x : Addr, H p ≠ some (HO.own x)) : ObOk G F (upd H p u) a ob := by
  cases ob with
  | o w => obtain ⟨u, h1, h2⟩ := h; exact ⟨u, by rw [upd_ne n]; exact h1, h2⟩
  | i c fs =>
    obtain ⟨C, dx, vs, h1, h2, h3, h4⟩ := h
    have hd : dx ≠ p := fun z => no a (by rw [← z]; exact h2)
    exact ⟨C, dx, vs, by rw [upd_ne n]; exact h1, by rw [upd_ne hd]; exact h2, h3, h4⟩
/-- what a slot holds: nothing that is known, a datum that stays, an object of its own that may change -/
inductive Sl where
  | no | d (x : D) | own (o : Ow)
/-- .. of maps of what stays -/
def GrH (B f f' : Hp) : Prop := Same f f' ∧ ∀ a, f a = none → f' a ≠ none → B a = none
theorem GrH.refl {B F : Hp} : GrH B F F := ⟨Same.refl F, fun a h h' => absurd h h'⟩
theorem GrH.trans {B F F1 F2 : Hp} (a : GrH B F F1) (b : GrH B F1 F2) : GrH B F F2 := ⟨a.1.trans b.1, fun x h h' => by
  by_cases e : F1 x = none
  · exact b.2 x e h'
  · exact a.2 x h e⟩
theorem GrH.under {B H F F' : Hp} (e : Same B H) (g : GrH H F F') : GrH B F F' := ⟨g.1, fun a h h' => e.free (g.2 a h h')⟩
def Gr (B : Hp) (F F' : Fz) : Prop := SmF F F' ∧ ∀ a, F a = none → F' a ≠ none → B a = none
theorem Gr.refl {B : Hp} {F : Fz} : Gr B F F := ⟨SmF.refl F, fun a h h' => absurd h h'⟩
theorem Gr.trans {B : Hp} {F F1 F2 : Fz} (a : Gr B F F1) (b : Gr B F1 F2) : Gr B F F2 := ⟨a.1.trans b.1, fun x h h' => by
  by_cases e : F1 x = none
  · exact b.2 x e h'
  · exact a.2 x h e⟩
theorem Gr.under {B H : Hp} {F F' : Fz} (e : Same B H) (g : Gr H F F') : Gr B F F' := ⟨g.1, fun a h h' => e.free (g.2 a h h')⟩
theorem GrH.z {B : Hp} {F : Fz} {f' : Hp} (g : GrH B F.f f') : Gr B F ⟨f', F.m⟩ := ⟨.up g.1, g.2⟩
def SlOk (G : Gx) (B : Hp) (F : Fz) (H : Hp) (o : Option (Option V)) : Sl → Prop
  | .no => True
  | .d x => ∃ v, o = some (some v) ∧ Rp G F v x
  | .own w => ∃ p u, o = some (some (.ref p)) ∧ H p = some u ∧ F p = none ∧ B p = none ∧ OwRel G F u w ∧ p ∉ F.m
/-- the store's things -/
structure StOk (G : Gx) (B : Hp) (F : Fz) (H : Hp) (st : Store) : Prop where
  ml : F.m.length = st.length
  mn : F.m.Nodup
  ob : ∀ (n : Nat) (x : Ob) (a : Addr), st[n]? = some x → F.m[n]? = some a → F a = none ∧ B a = none ∧ ObOk G F H a x
structure Ok (G : Gx) (B : Hp) (F : Fz) (σ : L2.St) (H : Hp) (S : List Sl) (st : Store) : Prop where
  fH : Same F.f H
  kp : Same B H
  so : StOk G B F H st
  len : σ.length = S.length
  sl : ∀ (i : Nat) (s : Sl), S[i]? = some s → SlOk G B F H σ[i]? s
  ap : ∀ (i j : Nat) (ds es : Ow) (p : Addr), S[i]? = some (.own ds) → S[j]? = some (.own es) → σ[i]? = some (some (.ref p)) → σ[j]? = some (some (.ref p)) → i = j
section
variable {G : Gx} {B H H' : Hp} {F F' : Fz} {f' : Hp} {σ : L2.St} {S : List Sl} {st : Store}
theorem StOk.has (o : StOk G B F H st) {n : Nat} {a : Addr} (h : F.m[n]? = some a) : ∃ x, st[n]? = some x ∧ F a = none ∧ B a = none ∧ ObOk G F H a x := by
  have hn : n < st.length := by rw [← o.ml]; exact (List.getElem?_eq_some_iff.mp h).1
  exact ⟨_, List.getElem?_eq_getElem hn, o.ob n _ a (List.getElem?_eq_getElem hn) h⟩
theorem StOk.mem (o : StOk G B F H st) {a : Addr} (h : a ∈ F.m) : F a = none ∧ (∃ u, H a = some u) ∧ ∃ (n : Nat) (x : Ob), F.m[n]? = some a ∧ st[n]? = some x ∧ B a = none ∧ ObOk G F H a x := by
  obtain ⟨n, hn⟩ := List.getElem?_of_mem h
  obtain ⟨x, e, h1, h2, h3⟩ := o.has hn
  exact ⟨h1, h3.ex, n, x, hn, e, h2, h3⟩
theorem StOk.new (o : StOk G B F H st) {p : Addr} (h : H p = none) : p ∉ F.m := fun z => by
  obtain ⟨_, ⟨u, hu⟩, _⟩ := o.mem z
  rw [h] at hu; cases hu
theorem StOk.grow (o : StOk G B F H st) (g : GrH H F.f f') (k : Same H H') : StOk G B ⟨f', F.m⟩ H' st := by
  refine ⟨o.ml, o.mn, fun n x a e1 e2 => ?_⟩
  obtain ⟨h1, h2, h3⟩ := o.ob n x a e1 e2
  refine ⟨?_, h2, h3.grow (.up g.1) k⟩
  cases q : f' a with
  | none => exact q
  | some u =>
    have := g.2 a h1 (by rw [q]; simp)
    obtain ⟨u', hu⟩ := h3.ex
    rw [hu] at this; cases this
/-- the heap grows, so does what stays -/
theorem Ok.grow (o : Ok G B F σ H S st) (g : GrH H F.f f') (k : Same H H') (f : Same f' H') : Ok G B ⟨f', F.m⟩ σ H' S st := by
  refine ⟨f, o.kp.trans k, o.so.grow g k, o.len, fun i s e => ?_, o.ap⟩
  have h := o.sl i s e
  cases s with
  | no => trivial
  | d x =>
    obtain ⟨v, e1, r⟩ := h
    exact ⟨v, e1, r.mono (.up g.1)⟩
  | own ds =>
    obtain ⟨p, xs, e1, h1, h2, h3, r, nm⟩ := h
    refine ⟨p, xs, e1, k _ _ h1, ?_, h3, r.mono (.up g.1), nm⟩
    cases q : f' p with
    | none => exact q
    | some u =>
      have := g.2 p h2 (by rw [q]; simp)
      rw [h1] at this; cases this
theorem same_new {H : Hp} {p : Addr} {o : HO} (h : H p = none) : Same H (upd H p o) := fun b u q => by rw [upd_ne (ne_of_none q h)]; exact q
theorem same_upd2 {F H : Hp} {p : Addr} {o : HO} (f : Same F H) : Same (upd F p o) (upd H p o) := fun b u q => by
  by_cases e : b = p
  · subst e; rw [upd_same] at q ⊢; exact q
  · rw [upd_ne e] at q ⊢; exact f _ _ q
theorem gr_new {F H : Hp} {p : Addr} {o : HO} (f : Same F H) (h : H p = none) : GrH H F (upd F p o) := ⟨same_new (f.free h), fun a h1 h2 => by
  by_cases e : a = p
  · subst e; exact h
  · rw [upd_ne e] at h2; exact absurd h1 h2⟩
theorem Ok.gnew (o : Ok G B F σ H S st) {p : Addr} {u : HO} (h : H p = none) : Ok G B (F.up p u) σ (upd H p u) S st := o.grow (gr_new o.fH h) (same_new h) (same_upd2 o.fH)
theorem Ok.gr (o : Ok G B F σ H S st) (g : GrH H F.f f') : Gr B F ⟨f', F.m⟩ := (g.under o.kp).z
theorem Ok.grN (o : Ok G B F σ H S st) {p : Addr} {u : HO} (h : H p = none) : Gr B F (F.up p u) := o.gr (gr_new o.fH h)
/-- a new object that isn't told of -/
theorem Ok.junk (o : Ok G B F σ H S st) (k : Same H H') : Ok G B F σ H' S st := o.grow .refl k (o.fH.trans k)
theorem Ok.get {i : Nat} {x : D} (o : Ok G B F σ H S st) (e : S[i]? = some (.d x)) : ∃ v, σ[i]? = some (some v) ∧ Rp G F v x := o.sl i _ e
theorem set_lt {α : Type} {S : List α} {i j : Nat} {x s : α} (e : (S.set i x)[j]? = some s) (z : i = j) : i < S.length := by
  subst z
  have := (List.getElem?_eq_some_iff.mp e).1
  rw [List.length_set] at this; exact this
/-- a slot takes a datum -/
theorem Ok.set (o : Ok G B F σ H S st) (i : Nat) {v : V} {x : D} (r : Rp G F v x) : Ok G B F (σ.set i (some v)) H (S.set i (.d x)) st := by
  refine ⟨o.fH, o.kp, o.so, by rw [List.length_set, List.length_set]; exact o.len, fun j s e => ?_, fun j k ds es p e1 e2 e3 e4 => ?_⟩
  · by_cases hj : i = j
    · have hi := set_lt e hj
      subst hj
      rw [List.getElem?_set_self hi] at e
      cases e
      exact ⟨v, by rw [List.getElem?_set_self (by rw [o.len]; exact hi)], r⟩
    · rw [List.getElem?_set_ne hj] at e
      have h := o.sl j s e
      rw [List.getElem?_set_ne hj]
      exact h
  · have n1 : i ≠ j := fun z => by
      have hi := set_lt e1 z
      subst z
      rw [List.getElem?_set_self hi] at e1; cases e1
    have n2 : i ≠ k := fun z => by
      have hi := set_lt e2 z
      subst z
      rw [List.getElem?_set_self hi] at e2; cases e2
    rw [List.getElem?_set_ne n1] at e1 e3
    rw [List.getElem?_set_ne n2] at e2 e4
    exact o.ap j k ds es p e1 e2 e3 e4
/-- a slot takes an object of its own: H p is known, p is no other slot's, nor kept, nor frozen -/
theorem Ok.setOwnAt (o : Ok G B F σ H S st) (i : Nat) {p : Addr} {u : HO} {w : Ow} (h : H p = some u) (hF : F p = none) (hB : B p = none) (hm : p ∉ F.m) (r : OwRel G F u w)
    (no : ∀ (j : Nat) (es : Ow), S[j]? = some (.own es) → σ[j]? ≠ some (some (.ref p))) : Ok G B F (σ.set i (some (.ref p))) H (S.set i (.own w)) st := by
  refine ⟨o.fH, o.kp, o.so, by rw [List.length_set, List.length_set]; exact o.len, fun j s e => ?_, fun j k ds1 es p1 e1 e2 e3 e4 => ?_⟩
  · by_cases hj : i = j
    · have hi := set_lt e hj
      subst hj
      rw [List.getElem?_set_self hi] at e
      cases e
      exact ⟨p, u, by rw [List.getElem?_set_self (by rw [o.len]; exact hi)], h, hF, hB, r, hm⟩
    · rw [List.getElem?_set_ne hj] at e
      rw [List.getElem?_set_ne hj]
      exact o.sl j s e
  · by_cases hj : i = j
    · by_cases hk : i = k
      · exact hj.symm.trans hk
      · have hi := set_lt e1 hj
        subst hj
        rw [List.getElem?_set_self (by rw [o.len]; exact hi)] at e3
        rw [List.getElem?_set_ne hk] at e2 e4
        have e5 : p1 = p := by
          have := Option.some.inj (Option.some.inj e3)
          exact (V.ref.inj this).symm
        exact absurd (by rw [← e5]; exact e4) (no k es e2)
    · by_cases hk : i = k
      · have hi := set_lt e2 hk
        subst hk
        rw [List.getElem?_set_self (by rw [o.len]; exact hi)] at e4
        rw [List.getElem?_set_ne hj] at e1 e3
        have e5 : p1 = p := by
          have := Option.some.inj (Option.some.inj e4)
          exact (V.ref.inj this).symm
        exact absurd (by rw [← e5]; exact e3) (no j ds1 e1)
      · rw [List.getElem?_set_ne hj] at e1 e3
        rw [List.getElem?_set_ne hk] at e2 e4
        exact o.ap j k ds1 es p1 e1 e2 e3 e4
/-- a slot takes an object that is new -/
theorem Ok.setOwn (o : Ok G B F σ H S st) (i : Nat) {p : Addr} {u : HO} {w : Ow} (h : H p = none) (r : OwRel G F u w) : Ok G B F (σ.set i (some (.ref p))) (upd H p u) (S.set i (.own w)) st := by
  refine (o.junk (same_new h)).setOwnAt i upd_same (o.fH.free h) (o.kp.free h) (o.so.new h) r fun j es e1 e2 => ?_
  obtain ⟨p', xs', e3, h1, _⟩ := o.sl j _ e1
  rw [e2] at e3; cases e3
  rw [h] at h1; cases h1
/-- the own object of a slot changes -/
theorem Ok.chg (o : Ok G B F σ H S st) {i : Nat} {p : Addr} {u : HO} {w w' : Ow} (e : S[i]? = some (.own w)) (ep : σ[i]? = some (some (.ref p))) (r : OwRel G F u w') : Ok G B F σ (upd H p u) (S.set i (.own w')) st := by
  obtain ⟨p', xs', e3, h1, h2, h3, hr, hm⟩ := o.sl i _ e
  rw [ep] at e3; cases e3
  have hi : i < S.length := (List.getElem?_eq_some_iff.mp e).1
  have old : ∀ (j : Nat) (es' : Ow), (S.set i (.own w'))[j]? = some (.own es') → ∃ ds', S[j]? = some (.own ds') := fun j es' q => by
    by_cases hj : i = j
    · subst hj; exact ⟨w, e⟩
    · rw [List.getElem?_set_ne hj] at q; exact ⟨es', q⟩
  have hno : ∀ x : Addr, H p ≠ some (HO.own x) := fun x z => by
    rw [h1] at z; cases z; cases hr
  refine ⟨fun b u q => ?_, fun b u q => ?_, ⟨o.so.ml, o.so.mn, fun n x a q1 q2 => ?_⟩, by rw [List.length_set]; exact o.len, fun j s q => ?_, fun j k ds1 es1 p1 q1 q2 q3 q4 => ?_⟩
  · rw [upd_ne (ne_of_none q h2)]; exact o.fH _ _ q
  · rw [upd_ne (ne_of_none q h3)]; exact o.kp _ _ q
  · obtain ⟨k1, k2, k3⟩ := o.so.ob n x a q1 q2
    exact ⟨k1, k2, k3.chg (fun z => hm (by rw [← z]; exact List.mem_of_getElem? q2)) hno⟩
  · by_cases hj : i = j
    · subst hj
      rw [List.getElem?_set_self hi] at q
      cases q
      exact ⟨p, u, ep, upd_same, h2, h3, r, hm⟩
    · rw [List.getElem?_set_ne hj] at q
      have w := o.sl j s q
      cases s with
      | no => trivial
      | d x => exact w
      | own es' =>
        obtain ⟨p2, xs2, a1, a2, a3, a4, a5, a6⟩ := w
        have : p2 ≠ p := fun z => hj (o.ap i j _ es' p2 e q (by rw [z]; exact ep) a1)
        exact ⟨p2, xs2, a1, by rw [upd_ne this]; exact a2, a3, a4, a5, a6⟩
  · obtain ⟨d1, b1⟩ := old j ds1 q1
    obtain ⟨d2, b2⟩ := old k es1 q2
    exact o.ap j k d1 d2 p1 b1 b2 q3 q4
/-- an own object is left as it is, from here on -/
theorem Ok.frz (o : Ok G B F σ H S st) {i : Nat} {w : Ow} (e : S[i]? = some (.own w)) : ∃ F' p, Gr B F F' ∧ Ok G B F' σ H (S.set i (.d w.d)) st ∧ σ[i]? = some (some (.ref p)) ∧ Rp G F' (.ref p) w.d := by
  obtain ⟨p, u, ep, h1, h2, h3, r, hm⟩ := o.sl i _ e
  have sm0 : Same F.f (upd F.f p u) := same_new h2
  have sm : SmF F (F.up p u) := .up sm0
  have hi : i < S.length := (List.getElem?_eq_some_iff.mp e).1
  have rr : Rp G (F.up p u) (.ref p) w.d := (r.mono sm).rp upd_same
  refine ⟨F.up p u, p, ⟨sm, fun a q1 q2 => ?_⟩, ⟨fun b u q => ?_, o.kp, ⟨o.so.ml, o.so.mn, fun n x a q1 q2 => ?_⟩, by rw [List.length_set]; exact o.len, fun j s q => ?_, fun j k ds1 es1 p1 q1 q2 q3 q4 => ?_⟩, ep, rr⟩
  · by_cases z : a = p
    · subst z; exact h3
    · have q2 : upd F.f p u a ≠ none := q2
      rw [upd_ne z] at q2; exact absurd q1 q2
  · have q : upd F.f p _ b = _ := q
    by_cases z : b = p
    · subst z; rw [upd_same] at q; cases q; exact h1
    · rw [upd_ne z] at q; exact o.fH _ _ q
  · obtain ⟨k1, k2, k3⟩ := o.so.ob n x a q1 q2
    have z : a ≠ p := fun z => hm (by rw [← z]; exact List.mem_of_getElem? q2)
    exact ⟨by show upd F.f p u a = none; rw [upd_ne z]; exact k1, k2, k3.grow sm (Same.refl H)⟩
  · by_cases hj : i = j
    · subst hj
      rw [List.getElem?_set_self hi] at q
      cases q
      exact ⟨_, ep, rr⟩
    · rw [List.getElem?_set_ne hj] at q
      have w := o.sl j s q
      cases s with
      | no => trivial
      | d x =>
        obtain ⟨v, a1, a2⟩ := w
        exact ⟨v, a1, a2.mono sm⟩
      | own es' =>
        obtain ⟨p2, xs2, a1, a2, a3, a4, a5, a6⟩ := w
        have : p2 ≠ p := fun z => hj (o.ap i j _ es' p2 e q (by rw [z]; exact ep) a1)
        exact ⟨p2, xs2, a1, a2, by show upd F.f p u p2 = none; rw [upd_ne this]; exact a3, a4, a5.mono sm, a6⟩
  · have n1 : i ≠ j := fun z => by subst z; rw [List.getElem?_set_self hi] at q1; cases q1
    have n2 : i ≠ k := fun z => by subst z; rw [List.getElem?_set_self hi] at q2; cases q2
    rw [List.getElem?_set_ne n1] at q1
    rw [List.getElem?_set_ne n2] at q2
    exact o.ap j k ds1 es1 p1 q1 q2 q3 q4
/-- less is known -/
theorem Ok.drop (o : Ok G B F σ H S st) (i : Nat) : Ok G B F σ H (S.set i .no) st := by
  refine ⟨o.fH, o.kp, o.so, by rw [List.length_set]; exact o.len, fun j s q => ?_, fun j k ds1 es1 p1 q1 q2 q3 q4 => ?_⟩
  · by_cases hj : i = j
    · have hi := set_lt q hj
      subst hj
      rw [List.getElem?_set_self hi] at q
      cases q
      trivial
    · rw [List.getElem?_set_ne hj] at q
      exact o.sl j s q
  · have f : ∀ {j : Nat} {d : Ow}, (S.set i .no)[j]? = some (.own d) → S[j]? = some (.own d) := fun {j d} q => by
      by_cases z : i = j
      · have hi := set_lt q z
        subst z
        rw [List.getElem?_set_self hi] at q; cases q
      · rw [List.getElem?_set_ne z] at q; exact q
    exact o.ap j k ds1 es1 p1 (f q1) (f q2) q3 q4
/-- a slot that isn't told of may hold anything -/
theorem Ok.any (o : Ok G B F σ H S st) (i : Nat) (x : Option V) : Ok G B F (σ.set i x) H (S.set i .no) st := by
  refine ⟨o.fH, o.kp, o.so, by rw [List.length_set, List.length_set]; exact o.len, fun j s q => ?_, fun j k ds1 es1 p1 q1 q2 q3 q4 => ?_⟩
  · by_cases hj : i = j
    · have hi := set_lt q hj
      subst hj
      rw [List.getElem?_set_self hi] at q
      cases q
      trivial
    · rw [List.getElem?_set_ne hj] at q ⊢
      exact o.sl j s q
  · have f : ∀ {j : Nat} {d : Ow}, (S.set i .no)[j]? = some (.own d) → i ≠ j := fun {j d} q z => by
      have hi := set_lt q z
      subst z
      rw [List.getElem?_set_self hi] at q; cases q
    have n1 := f q1
    have n2 := f q2
    rw [List.getElem?_set_ne n1] at q1 q3
    rw [List.getElem?_set_ne n2] at q2 q4
    exact o.ap j k ds1 es1 p1 q1 q2 q3 q4
end
end DL

namespace DL
open PySem PySem.Spec PyProof.Rows L2

/-! ### results -/
structure Exc where
  c : Nat
  fs : List (Nat × D)
abbrev Sls := List Sl
inductive Res (α : Type) where
  | ok (a : α) (S : Sls) (st : Store)
  | exc (x : Exc) (S : Sls) (st : Store)
  | stuck
def Res.bind {α β : Type} (r : Res α) (k : α → Sls → Store → Res β) : Res β :=
  match r with
  | .ok a S st => k a S st
  | .exc x S st => .exc x S st
  | .stuck => .stuck
@[simp] theorem Res.bind_ok {α β : Type} (a : α) (S : Sls) (st : Store) (k : α → Sls → Store → Res β) : (Res.ok a S st).bind k = k a S st := rfl
@[simp] theorem Res.bind_exc {α β : Type} (x : Exc) (S : Sls) (st : Store) (k : α → Sls → Store → Res β) : (Res.exc x S st : Res α).bind k = .exc x S st := rfl
@[simp] theorem Res.bind_stuck {α β : Type} (k : α → Sls → Store → Res β) : (Res.stuck : Res α).bind k = .stuck := rfl
inductive Out where
  | nx (S : Sls) (st : Store)
  | ret (d : D) (S : Sls) (st : Store)
  | bk (S : Sls) (st : Store)
  | ct (S : Sls) (st : Store)
  | rto (w : Ow) (S : Sls) (st : Store)
  | exc (x : Exc) (S : Sls) (st : Store)
  | stuck
def Res.out {α : Type} (r : Res α) (k : α → Sls → Store → Out) : Out :=
  match r with
  | .ok a S st => k a S st
  | .exc x S st => .exc x S st
  | .stuck => .stuck
@[simp] theorem Res.out_ok {α : Type} (a : α) (S : Sls) (st : Store) (k : α → Sls → Store → Out) : (Res.ok a S st).out k = k a S st := rfl
@[simp] theorem Res.out_exc {α : Type} (x : Exc) (S : Sls) (st : Store) (k : α → Sls → Store → Out) : (Res.exc x S st : Res α).out k = .exc x S st := rfl
@[simp] theorem Res.out_stuck {α : Type} (k : α → Sls → Store → Out) : (Res.stuck : Res α).out k = .stuck := rfl
def Out.then (r : Out) (k : Sls → Store → Out) : Out :=
  match r with
  | .nx S st => k S st
  | r => r
@[simp] theorem Out.then_nx (S : Sls) (st : Store) (k : Sls → Store → Out) : (Out.nx S st).then k = k S st := rfl
@[simp] theorem Out.then_ret (d : D) (S : Sls) (st : Store) (k : Sls → Store → Out) : (Out.ret d S st).then k = .ret d S st := rfl
@[simp] theorem Out.then_bk (S : Sls) (st : Store) (k : Sls → Store → Out) : (Out.bk S st).then k = .bk S st := rfl
@[simp] theorem Out.then_rto (w : Ow) (S : Sls) (st : Store) (k : Sls → Store → Out) : (Out.rto w S st).then k = .rto w S st := rfl
@[simp] theorem Out.then_ct (S : Sls) (st : Store) (k : Sls → Store → Out) : (Out.ct S st).then k = .ct S st := rfl
@[simp] theorem Out.then_exc (x : Exc) (S : Sls) (st : Store) (k : Sls → Store → Out) : (Out.exc x S st).then k = .exc x S st := rfl
@[simp] theorem Out.then_stuck (k : Sls → Store → Out) : Out.stuck.then k = .stuck := rfl
abbrev Ev (α : Type) := Sls → Store → Res α
abbrev EvS := Sls → Store → Out
/-- what a def does with its arguments -/
abbrev CallT := List D → Store → Res D
/-- an operand: a datum, or what stands in a slot at the time of the operation -/
inductive Opd where
  | v (d : D) | s (i : Nat) | h (n : Nat)

/-! ### what a result says -/
def XRel (G : Gx) (F : Fz) (x : Exc) (cls : Value) (dd : Option Addr) (H : Hp) : Prop :=
  ∃ C, G.mg (nmS x.c) = some (.ref C) ∧ cls = .ref C ∧ ((x.fs = [] ∧ dd = none) ∨ (x.fs ≠ [] ∧ ∃ a vs, dd = some a ∧ H a = some (.xd vs) ∧ RpF G F vs x.fs))
section
variable (G : Gx) (B : Hp) (W : WX)
def Post {α β : Type} (R : Fz → β → α → Prop) (σ : L2.St) (F : Fz) (Q : β → Hp → Prop) : Res α → Prop
  | .ok d S' st' => ∀ v H' F', Gr B F F' → Ok G B F' σ H' S' st' → R F' v d → Q v H'
  | .exc x S' st' => ∀ cls dd H' F', Gr B F F' → Ok G B F' σ H' S' st' → XRel G F' x cls dd H' → W cls dd σ H'
  | .stuck => False
def PostS (F : Fz) (D : Ends) : Out → Prop
  | .nx S' st' => ∀ σ' H' F', Gr B F F' → Ok G B F' σ' H' S' st' → D.nx σ' H'
  | .ret d S' st' => ∀ v σ' H' F', Gr B F F' → Ok G B F' σ' H' S' st' → Rp G F' v d → D.rt v H'
  | .bk S' st' => ∀ σ' H' F', Gr B F F' → Ok G B F' σ' H' S' st' → D.bk σ' H'
  | .ct S' st' => ∀ σ' H' F', Gr B F F' → Ok G B F' σ' H' S' st' → D.ct σ' H'
  | .rto w S' st' => ∀ p u σ' H' F', Gr B F F' → Ok G B F' σ' H' S' st' → H' p = some u → F' p = none → B p = none → OwRel G F' u w → p ∉ F'.m → D.rt (.ref p) H'
  | .exc x S' st' => ∀ cls dd σ' H' F', Gr B F F' → Ok G B F' σ' H' S' st' → XRel G F' x cls dd H' → W cls dd σ' H'
  | .stuck => False
end
section
variable {G : Gx} {B : Hp} {W : WX}
theorem Post.grow {α β : Type} {R : Fz → β → α → Prop} {σ : L2.St} {F F' : Fz} {Q : β → Hp → Prop} {r : Res α} (g : Gr B F F') (h : Post G B W R σ F Q r) : Post G B W R σ F' Q r := by
  cases r with
  | ok d S st => exact fun v H' F2 g2 o r => h v H' F2 (g.trans g2) o r
  | exc x S st => exact fun c d H' F2 g2 o r => h c d H' F2 (g.trans g2) o r
  | stuck => exact h
theorem PostS.grow {F F' : Fz} {D : Ends} {r : Out} (g : Gr B F F') (h : PostS G B W F D r) : PostS G B W F' D r := by
  cases r with
  | nx S st => exact fun σ' H' F2 g2 o => h σ' H' F2 (g.trans g2) o
  | bk S st => exact fun σ' H' F2 g2 o => h σ' H' F2 (g.trans g2) o
  | ct S st => exact fun σ' H' F2 g2 o => h σ' H' F2 (g.trans g2) o
  | rto w S st => exact fun p u σ' H' F2 g2 o => h p u σ' H' F2 (g.trans g2) o
  | ret d S st => exact fun v σ' H' F2 g2 o r => h v σ' H' F2 (g.trans g2) o r
  | exc x S st => exact fun c d σ' H' F2 g2 o r => h c d σ' H' F2 (g.trans g2) o r
  | stuck => exact h
theorem Post.bind {α β γ δ : Type} {R : Fz → β → α → Prop} {R' : Fz → δ → γ → Prop} {σ : L2.St} {F : Fz} {Q : δ → Hp → Prop} {r : Res α} {k : α → Sls → Store → Res γ} (h : Post G B W R' σ F Q (r.bind k)) :
    Post G B W R σ F (fun v H1 => ∃ F1 d S1 st1, Gr B F F1 ∧ Ok G B F1 σ H1 S1 st1 ∧ R F1 v d ∧ Post G B W R' σ F1 Q (k d S1 st1)) r := by
  cases r with
  | ok d S st => exact fun v H' F' g o r => ⟨F', d, S, st, g, o, r, Post.grow g h⟩
  | exc x S st => exact h
  | stuck => exact h
theorem Post.out {α β : Type} {R : Fz → β → α → Prop} {σ : L2.St} {F : Fz} {Dn : Ends} {r : Res α} {k : α → Sls → Store → Out} (h : PostS G B W F Dn (r.out k)) :
    Post G B W R σ F (fun v H1 => ∃ F1 d S1 st1, Gr B F F1 ∧ Ok G B F1 σ H1 S1 st1 ∧ R F1 v d ∧ PostS G B W F1 Dn (k d S1 st1)) r := by
  cases r with
  | ok d S st => exact fun v H' F' g o r => ⟨F', d, S, st, g, o, r, PostS.grow g h⟩
  | exc x S st => exact fun c d H' F' g o r => h c d σ H' F' g o r
  | stuck => exact h
theorem Post.mono {α β : Type} {R : Fz → β → α → Prop} {σ : L2.St} {F : Fz} {Q Q' : β → Hp → Prop} {r : Res α} (h : Post G B W R σ F Q r) (i : ∀ v H, Q v H → Q' v H) : Post G B W R σ F Q' r := by
  cases r with
  | ok d S st => exact fun v H' F' g o r => i _ _ (h v H' F' g o r)
  | exc x S st => exact h
  | stuck => exact h
end
/-- a reading, of a state that bears these data -/
def lift {α β : Type} (G : Gx) (B : Hp) (W : WX) (R : L2.St → Fz → β → α → Prop) (f : Ev α) : L2.St → Hp → (β → Hp → Prop) → Prop := fun σ H Q =>
  ∃ F S st, Ok G B F σ H S st ∧ Post G B W (R σ) σ F Q (f S st)
def liftS (G : Gx) (B : Hp) (W : WX) (f : EvS) : TS := fun D σ H => ∃ F S st, Ok G B F σ H S st ∧ PostS G B W F D (f S st)
def RD (G : Gx) : L2.St → Fz → V → D → Prop := fun _ F v d => Rp G F v d
/-- an operand's value -/
def RO (G : Gx) : L2.St → Fz → V → Opd → Prop := fun σ F v o => match o with
  | .v d => Rp G F v d
  | .s i => σ[i]? = some (some v)
  | .h n => ∃ a, F.m[n]? = some a ∧ v = .ref a
inductive RpO (G : Gx) (σ : L2.St) (F : Fz) : List V → List Opd → Prop
  | nil : RpO G σ F [] []
  | cons {v : V} {vs : List V} {o : Opd} {os : List Opd} : RO G σ F v o → RpO G σ F vs os → RpO G σ F (v :: vs) (o :: os)
theorem RO.mono {G : Gx} {σ : L2.St} {F F' : Fz} {v : V} {o : Opd} (e : SmF F F') (h : RO G σ F v o) : RO G σ F' v o := by
  cases o with
  | v d => exact Rp.mono e h
  | s i => exact h
  | h n =>
    obtain ⟨a, h1, h2⟩ := h
    exact ⟨a, pre_get e.2 h1, h2⟩
theorem RpO.mono {G : Gx} {σ : L2.St} {F F' : Fz} (e : SmF F F') : ∀ {vs : List V} {os : List Opd}, RpO G σ F vs os → RpO G σ F' vs os
  | _, _, .nil => .nil
  | _, _, .cons h t => .cons (h.mono e) (RpO.mono e t)
abbrev Cx.g (X : Cx) : Gx := ⟨X.K, X.mg⟩
/-- what an operand holds: a datum, or the slot's own object as it stands -/
def vw (S : Sls) (st : Store) : Opd → Option D
  | .v d => some d
  | .s i => match S[i]? with
    | some (.d d) => some d
    | some (.own w) => some w.d
    | _ => none
  | .h n => match st[n]? with
    | some x => some x.d
    | none => none
/-- .. where no object of the slot's own is handed on -/
def vd (S : Sls) : Opd → Option D
  | .v d => some d
  | .s i => match S[i]? with
    | some (.d d) => some d
    | _ => none
  | .h n => some (.loc n)
def vws (S : Sls) (st : Store) : List Opd → Option (List D)
  | [] => some []
  | o :: r => match vw S st o, vws S st r with
    | some d, some ds => some (d :: ds)
    | _, _ => none
def vds (S : Sls) : List Opd → Option (List D)
  | [] => some []
  | o :: r => match vd S o, vds S r with
    | some d, some ds => some (d :: ds)
    | _, _ => none
/-- v shows d now -/
def Vw (G : Gx) (F : Fz) (H : Hp) (v : V) (d : D) : Prop := Rp G F v d ∨ (∃ p u w, v = .ref p ∧ H p = some u ∧ OwRel G F u w ∧ d = w.d) ∨ ∃ p c fs, v = .ref p ∧ ObOk G F H p (.i c fs) ∧ d = .obj c fs
inductive VwAll (G : Gx) (F : Fz) (H : Hp) : List V → List D → Prop
  | nil : VwAll G F H [] []
  | cons {v : V} {vs : List V} {d : D} {ds : List D} : Vw G F H v d → VwAll G F H vs ds → VwAll G F H (v :: vs) (d :: ds)
section
variable {G : Gx} {B : Hp} {F : Fz} {H : Hp} {σ : L2.St} {S : Sls} {st : Store}
theorem Ok.vw (o : Ok G B F σ H S st) {v : V} {a : Opd} {d : D} (r : RO G σ F v a) (e : vw S st a = some d) : Vw G F H v d := by
  cases a with
  | v x => simp [DL.vw] at e; subst e; exact .inl r
  | s i =>
    have r : σ[i]? = some (some v) := r
    simp only [DL.vw] at e
    split at e
    · rename_i x hx
      cases e
      obtain ⟨v', e1, q⟩ := o.sl i _ hx
      rw [r] at e1; cases e1
      exact .inl q
    · rename_i w hx
      cases e
      obtain ⟨p, u, e1, q1, q2, q3, q, _⟩ := o.sl i _ hx
      rw [r] at e1; cases e1
      exact .inr (.inl ⟨p, u, w, rfl, q1, q, rfl⟩)
    · cases e
  | h n =>
    obtain ⟨a, h1, h2⟩ := r
    simp only [DL.vw] at e
    obtain ⟨x, e1, k1, k2, k3⟩ := o.so.has h1
    rw [e1] at e
    cases e
    cases x with
    | o w => obtain ⟨u, q1, q2⟩ := k3; exact .inr (.inl ⟨a, u, w, h2, q1, q2, rfl⟩)
    | i c fs => exact .inr (.inr ⟨a, c, fs, h2, k3, rfl⟩)
theorem Ok.vd (o : Ok G B F σ H S st) {v : V} {a : Opd} {d : D} (r : RO G σ F v a) (e : vd S a = some d) : Rp G F v d := by
  cases a with
  | v x => simp [DL.vd] at e; subst e; exact r
  | s i =>
    have r : σ[i]? = some (some v) := r
    simp only [DL.vd] at e
    split at e
    · rename_i x hx
      cases e
      obtain ⟨v', e1, q⟩ := o.sl i _ hx
      rw [r] at e1; cases e1
      exact q
    · cases e
  | h n =>
    obtain ⟨a, h1, h2⟩ := r
    simp only [DL.vd] at e
    cases e
    subst h2
    exact .loc h1
theorem Ok.vws (o : Ok G B F σ H S st) : ∀ {vs : List V} {as : List Opd} {ds : List D}, RpO G σ F vs as → vws S st as = some ds → VwAll G F H vs ds
  | _, _, _, .nil, e => by simp [DL.vws] at e; subst e; exact .nil
  | _, _, _, .cons h t, e => by
    simp only [DL.vws] at e
    split at e
    · rename_i a b ha hb
      cases e
      exact .cons (o.vw h ha) (Ok.vws o t hb)
    · cases e
theorem Ok.vds (o : Ok G B F σ H S st) : ∀ {vs : List V} {as : List Opd} {ds : List D}, RpO G σ F vs as → vds S as = some ds → RpAll G F vs ds
  | _, _, _, .nil, e => by simp [DL.vds] at e; subst e; exact .nil
  | _, _, _, .cons h t, e => by
    simp only [DL.vds] at e
    split at e
    · rename_i a b ha hb
      cases e
      exact .cons (o.vd h ha) (Ok.vds o t hb)
    · cases e
end

/-! ### the judgements -/
def DE (X : Cx) (B : Hp) (W : WX) (e : Expr) (f : Ev D) : Prop := PE X e (lift (Cx.g X) B W (RD (Cx.g X)) f)
def DO (X : Cx) (B : Hp) (W : WX) (e : Expr) (f : Ev Opd) : Prop := PE X e (lift (Cx.g X) B W (RO (Cx.g X)) f)
def DA (X : Cx) (B : Hp) (W : WX) (es : List Expr) (f : Ev (List Opd)) : Prop := PA X es (lift (Cx.g X) B W (RpO (Cx.g X)) f)
def RB : L2.St → Fz → Bool → Bool → Prop := fun _ _ v d => v = d
def DT (X : Cx) (B : Hp) (W : WX) (e : Expr) (f : Ev Bool) : Prop := PT X e (lift (Cx.g X) B W RB f)
def DW (X : Cx) (B : Hp) (W : WX) (e : Expr) (f : Ev Bool) : Prop := PW X e (lift (Cx.g X) B W RB f)
def DS (X : Cx) (B : Hp) (W : WX) (s : Stmt) (f : EvS) : Prop := PS X s (liftS (Cx.g X) B W f)
def DSs (X : Cx) (B : Hp) (W : WX) (s : List Stmt) (f : EvS) : Prop := PSs X s (liftS (Cx.g X) B W f)
theorem pe_imp {X : Cx} {e : Expr} {t t' : TE} (h : PE X e t) (i : ∀ σ H Q, t' σ H Q → t σ H Q) : PE X e t' := ⟨fun pins s σ H Q I q => h.run pins s σ H Q I (i σ H Q q)⟩
theorem pt_imp {X : Cx} {e : Expr} {t t' : TT} (h : PT X e t) (i : ∀ σ H Q, t' σ H Q → t σ H Q) : PT X e t' := ⟨fun pins s σ H Q I q => h.run pins s σ H Q I (i σ H Q q)⟩
theorem pw_imp {X : Cx} {e : Expr} {t t' : TT} (h : PW X e t) (i : ∀ σ H Q, t' σ H Q → t σ H Q) : PW X e t' := ⟨fun wh pins s σ H Q I q => h.run wh pins s σ H Q I (i σ H Q q)⟩
theorem pa_imp {X : Cx} {es : List Expr} {t t' : TA} (h : PA X es t) (i : ∀ σ H Q, t' σ H Q → t σ H Q) : PA X es t' := ⟨fun pos pins s σ H Q I q => h.run pos pins s σ H Q I (i σ H Q q)⟩
theorem ps_imp {X : Cx} {s : Stmt} {t t' : TS} (h : PS X s t) (i : ∀ D σ H, t' D σ H → t D σ H) : PS X s t' := ⟨fun pins sh σ H D I q => h.run pins sh σ H D I (i D σ H q)⟩
theorem pss_imp {X : Cx} {s : List Stmt} {t t' : TS} (h : PSs X s t) (i : ∀ D σ H, t' D σ H → t D σ H) : PSs X s t' := ⟨fun pins sh σ H D I q => h.run pins sh σ H D I (i D σ H q)⟩
section
variable {X : Cx} {B : Hp} {W : WX} {e a b c : Expr} {es : List Expr} {pos : Pos}

/-! ### names, constants -/
def kE (d : D) : Ev D := fun S st => .ok d S st
def vE (i : Nat) : Ev D := fun S st => match S[i]? with
  | some (.d d) => .ok d S st
  | _ => .stuck
/-- the slot's own object, left as it is from here on -/
def zE (i : Nat) : Ev D := fun S st => match S[i]? with
  | some (.d d) => .ok d S st
  | some (.own w) => .ok w.d (S.set i (.d w.d)) st
  | _ => .stuck
def oV (f : Ev D) : Ev Opd := fun S st => (f S st).bind fun d S st => .ok (.v d) S st
def oS (i : Nat) : Ev Opd := fun S st => match S[i]? with
  | some .no => .stuck
  | none => .stuck
  | _ => .ok (.s i) S st
theorem de_k {v : V} {d : D} (h : PE X e (tC v)) (r : ∀ F, Rp (Cx.g X) F v d) : DE X B W e (kE d) :=
  pe_imp h fun σ H Q ⟨F, S, st, o, q⟩ => q v H F .refl o (r F)
theorem de_non {j} : DE X B W (.Constant .none j pos) (kE .non) := de_k pe_non fun _ => .non
theorem de_bl {t j} : DE X B W (.Constant (.bool t) j pos) (kE (.bl t)) := de_k pe_bl fun _ => .bl _
theorem de_int {i j} : DE X B W (.Constant (.int i) j pos) (kE (.int i)) := de_k pe_int fun _ => .int _
theorem de_str {x j} (s : List Nat) (h : x = tx s := by rfl) (o : okS s = true := by decide) : DE X B W (.Constant (.str x) j pos) (kE (.str s)) := by
  subst h; exact de_k pe_str fun _ => .str _ o
theorem de_v {i : Nat} (h : PE X e (tVar i)) : DE X B W e (vE i) := pe_imp h fun σ H Q ⟨F, S, st, o, q⟩ => by
  unfold vE at q
  split at q
  · rename_i d hd
    obtain ⟨v, e1, r⟩ := o.sl i _ hd
    exact ⟨v, e1, q v H F .refl o r⟩
  · exact q.elim
theorem de_z {i : Nat} (h : PE X e (tVar i)) : DE X B W e (zE i) := pe_imp h fun σ H Q ⟨F, S, st, o, q⟩ => by
  unfold zE at q
  split at q
  · rename_i d hd
    obtain ⟨v, e1, r⟩ := o.sl i _ hd
    exact ⟨v, e1, q v H F .refl o r⟩
  · rename_i w hw
    obtain ⟨F', p, g, o', e1, r⟩ := o.frz hw
    exact ⟨_, e1, q _ H F' g o' r⟩
  · exact q.elim
theorem do_v {f : Ev D} (h : DE X B W e f) : DO X B W e (oV f) := pe_imp h fun σ H Q ⟨F, S, st, o, q⟩ =>
  ⟨F, S, st, o, (Post.bind (R := RD (Cx.g X) σ) q).mono fun v H1 ⟨F1, d, S1, st1, g, o1, r, p⟩ => p v H1 F1 .refl o1 r⟩
theorem do_s {i : Nat} (h : PE X e (tVar i)) : DO X B W e (oS i) := pe_imp h fun σ H Q ⟨F, S, st, o, q⟩ => by
  unfold oS at q
  split at q
  · exact q.elim
  · exact q.elim
  · rename_i n1 n2
    cases hs : S[i]? with
    | none => exact absurd hs n2
    | some s =>
      have h := o.sl i s hs
      cases s with
      | no => exact absurd hs n1
      | d x =>
        obtain ⟨v, e1, r⟩ := h
        exact ⟨v, e1, q v H F .refl o e1⟩
      | own w =>
        obtain ⟨p, u, e1, _⟩ := h
        exact ⟨_, e1, q _ H F .refl o e1⟩

/-! ### argument lists -/
def aN : Ev (List Opd) := fun S st => .ok [] S st
def aC (f : Ev Opd) (g : Ev (List Opd)) : Ev (List Opd) := fun S st => (f S st).bind fun a S st => (g S st).bind fun r S st => .ok (a :: r) S st
theorem da_n : DA X B W [] aN := pa_imp pa_nil fun σ H Q ⟨F, S, st, o, q⟩ => q [] H F .refl o .nil
theorem da_c {f : Ev Opd} {g : Ev (List Opd)} (h : DO X B W e f) (t : DA X B W es g) (hs : starEach (e :: es) X.env = (false, eval e X.env) :: starEach es X.env := by rfl) : DA X B W (e :: es) (aC f g) :=
  pa_imp (pa_cons h t hs) fun σ H Q ⟨F, S, st, o, q⟩ => ⟨F, S, st, o, (Post.bind (R := RO (Cx.g X) σ) q).mono fun v H1 ⟨F1, d, S1, st1, g1, o1, r1, p1⟩ =>
    ⟨F1, S1, st1, o1, (Post.bind (R := RpO (Cx.g X) σ) p1).mono fun vs H2 ⟨F2, ds, S2, st2, g2, o2, r2, p2⟩ => p2 _ H2 F2 .refl o2 (.cons (r1.mono g2.1) r2)⟩⟩
end

/-! ### operations by data -/
/-- r, whatever else is wanted, where op tells d -/
def Gives (r : VK → Prop) (G : Gx) (F : Fz) (H : Hp) (d : D) : Prop := ∀ Q : VK, (∀ v' H' (f' : Hp), Same H H' → Same f' H' → GrH H F.f f' → Rp G ⟨f', F.m⟩ v' d → Q v' H') → r Q
def Op2 (G : Gx) (r : R2) (op : D → D → Option D) : Prop := ∀ (F : Fz) H v w x y d, Same F.f H → Vw G F H v x → Vw G F H w y → op x y = some d → Gives (r v w H) G F H d
def Op1 (G : Gx) (r : V → Hp → VK → Prop) (op : D → Option D) : Prop := ∀ (F : Fz) H v x d, Same F.f H → Vw G F H v x → op x = some d → Gives (r v H) G F H d
def OpA (G : Gx) (r : List V → Hp → VK → Prop) (op : List D → Option D) : Prop := ∀ (F : Fz) H vs xs d, Same F.f H → VwAll G F H vs xs → op xs = some d → Gives (r vs H) G F H d
def OpM (G : Gx) (r : V → List V → Hp → VK → Prop) (op : D → List D → Option D) : Prop := ∀ (F : Fz) H v vs x xs d, Same F.f H → Vw G F H v x → VwAll G F H vs xs → op x xs = some d → Gives (r v vs H) G F H d
def got {α : Type} (o : Option α) (S : Sls) (st : Store) : Res α := match o with
  | some d => .ok d S st
  | none => .stuck
@[simp] theorem got_some {α : Type} (d : α) (S : Sls) (st : Store) : got (some d) S st = .ok d S st := rfl
@[simp] theorem got_none {α : Type} (S : Sls) (st : Store) : got (none : Option α) S st = .stuck := rfl
theorem Gives.fin {r : VK → Prop} {G : Gx} {B : Hp} {F : Fz} {H : Hp} {W : WX} {σ : L2.St} {S : Sls} {st : Store} {d : D} {Q : VK} (g : Gives r G F H d) (o : Ok G B F σ H S st) (p : Post G B W (RD G σ) σ F Q (.ok d S st)) : r Q :=
  g Q fun v' H' F' k f gr rr => p v' H' _ (o.gr gr) (o.grow gr k f) rr
def o2E (op : D → D → Option D) (fa fb : Ev Opd) : Ev D := fun S st => (fa S st).bind fun a S st => (fb S st).bind fun b S st =>
  match vw S st a, vw S st b with
  | some x, some y => got (op x y) S st
  | _, _ => .stuck
def o1E (op : D → Option D) (fa : Ev Opd) : Ev D := fun S st => (fa S st).bind fun a S st =>
  match vw S st a with
  | some x => got (op x) S st
  | _ => .stuck
def oAE (op : List D → Option D) (fa : Ev (List Opd)) : Ev D := fun S st => (fa S st).bind fun a S st =>
  match vws S st a with
  | some x => got (op x) S st
  | _ => .stuck
def oME (op : D → List D → Option D) (fo : Ev Opd) (fa : Ev (List Opd)) : Ev D := fun S st => (fo S st).bind fun o S st => (fa S st).bind fun a S st =>
  match vw S st o, vws S st a with
  | some y, some x => got (op y x) S st
  | _, _ => .stuck
theorem got_ok {α β : Type} {G : Gx} {B : Hp} {F : Fz} {W : WX} {σ : L2.St} {R : Fz → β → α → Prop} {Q : β → Hp → Prop} {x : Option α} {S : Sls} {st : Store} (p : Post G B W R σ F Q (got x S st)) : ∃ d, x = some d ∧ Post G B W R σ F Q (.ok d S st) := by
  cases x with
  | none => exact p.elim
  | some d => exact ⟨d, rfl, p⟩
section
variable {X : Cx} {B : Hp} {W : WX} {e a b c : Expr} {es : List Expr} {pos : Pos}
theorem op2_lift {r : R2} {op : D → D → Option D} {fa fb : Ev Opd} (h : Op2 (Cx.g X) r op) {σ : L2.St} {H : Hp} {Q : VK} (q : lift (Cx.g X) B W (RD (Cx.g X)) (o2E op fa fb) σ H Q) :
    tOp r (lift (Cx.g X) B W (RO (Cx.g X)) fa) (lift (Cx.g X) B W (RO (Cx.g X)) fb) σ H Q := by
  obtain ⟨F, S, st, o, q⟩ := q
  refine ⟨F, S, st, o, (Post.bind (R := RO (Cx.g X) σ) q).mono fun v H1 ⟨F1, d, S1, st1, g1, o1, r1, p1⟩ => ⟨F1, S1, st1, o1, (Post.bind (R := RO (Cx.g X) σ) p1).mono fun w H2 ⟨F2, d2, S2, st2, g2, o2, r2, p2⟩ => ?_⟩⟩
  split at p2
  · rename_i x y hx hy
    obtain ⟨z, hz, p2⟩ := got_ok p2
    exact (h F2 H2 v w x y z o2.fH (o2.vw (r1.mono g2.1) hx) (o2.vw r2 hy) hz).fin o2 p2
  · exact p2.elim
theorem de_bin {o : Operator} {r : R2} {op : D → D → Option D} {fa fb : Ev Opd} (ho : OpR X (binaryOp o) r) (h : Op2 (Cx.g X) r op) (ha : DO X B W a fa) (hb : DO X B W b fb) : DE X B W (.BinOp a o b pos) (o2E op fa fb) :=
  pe_imp (pe_op ho ha hb) fun _ _ _ q => op2_lift h q
theorem de_cmp {o : CmpOp} {r : R2} {op : D → D → Option D} {fa fb : Ev Opd} (ho : OpR X (compareOp o) r) (h : Op2 (Cx.g X) r op) (ha : DO X B W a fa) (hb : DO X B W b fb) (hm : behindInMarks o b = false) : DE X B W (.Compare a [o] [b] pos) (o2E op fa fb) :=
  pe_imp (pe_cmpR ho ha hb hm) fun _ _ _ q => op2_lift h q
/-- a value that is a bool, as a test -/
def tV (f : Ev D) : Ev Bool := fun S st => (f S st).bind fun d S st => match d with
  | .bl k => .ok k S st
  | _ => .stuck
theorem test_lift {t : TE} {f : Ev D} {σ : L2.St} {H : Hp} {Q : Bool → Hp → Prop} (i : ∀ σ H Q, lift (Cx.g X) B W (RD (Cx.g X)) f σ H Q → t σ H Q) (q : lift (Cx.g X) B W RB (tV f) σ H Q) : tTest t σ H Q := by
  obtain ⟨F, S, st, o, q⟩ := q
  refine i σ H _ ⟨F, S, st, o, (Post.bind (R := RD (Cx.g X) σ) q).mono fun v H1 ⟨F1, d, S1, st1, g1, o1, r1, p1⟩ => ?_⟩
  split at p1
  · cases r1
    exact ⟨_, rfl, p1 _ H1 F1 .refl o1 rfl⟩
  · exact p1.elim
theorem dt_cmp {o : CmpOp} {r : R2} {op : D → D → Option D} {fa fb : Ev Opd} (ho : OpR X (compareOp o) r) (h : Op2 (Cx.g X) r op) (ha : DO X B W a fa) (hb : DO X B W b fb) (hm : behindInMarks o b = false) : DT X B W (.Compare a [o] [b] pos) (tV (o2E op fa fb)) :=
  pt_imp (pt_cmpR ho ha hb hm) fun _ _ _ q => test_lift (fun _ _ _ q => op2_lift h q) q
theorem de_ix {r : R2} {op : D → D → Option D} {fa fb : Ev Opd} (ho : IxR X r) (h : Op2 (Cx.g X) r op) (ha : DO X B W a fa) (hb : DO X B W b fb) (hs : PlainIx b := by exact fun _ _ => rfl) : DE X B W (.Subscript a b pos) (o2E op fa fb) :=
  pe_imp (pe_ix ho ha hb hs) fun _ _ _ q => op2_lift h q
theorem de_un {o : UnaryOp} {r : V → Hp → VK → Prop} {op : D → Option D} {fa : Ev Opd} (ho : UnR X (unaryOp o) r) (h : Op1 (Cx.g X) r op) (ha : DO X B W a fa) : DE X B W (.UnaryOp o a pos) (o1E op fa) :=
  pe_imp (pe_un ho ha) fun σ H Q ⟨F, S, st, o, q⟩ => ⟨F, S, st, o, (Post.bind (R := RO (Cx.g X) σ) q).mono fun v H1 ⟨F1, d, S1, st1, g1, o1, r1, p1⟩ => by
    split at p1
    · rename_i x hx
      obtain ⟨z, hz, p1⟩ := got_ok p1
      exact (h F1 H1 v x z o1.fH (o1.vw r1 hx) hz).fin o1 p1
    · exact p1.elim⟩
theorem opA_lift {r : List V → Hp → VK → Prop} {op : List D → Option D} {fa : Ev (List Opd)} (h : OpA (Cx.g X) r op) {σ : L2.St} {H : Hp} {Q : VK} (q : lift (Cx.g X) B W (RD (Cx.g X)) (oAE op fa) σ H Q) :
    tCB r (lift (Cx.g X) B W (RpO (Cx.g X)) fa) σ H Q := by
  obtain ⟨F, S, st, o, q⟩ := q
  refine ⟨F, S, st, o, (Post.bind (R := RpO (Cx.g X) σ) q).mono fun v H1 ⟨F1, d, S1, st1, g1, o1, r1, p1⟩ => ?_⟩
  split at p1
  · rename_i x hx
    obtain ⟨z, hz, p1⟩ := got_ok p1
    exact (h F1 H1 v x z o1.fH (o1.vws r1 hx) hz).fin o1 p1
  · exact p1.elim
theorem de_cb {x : Str} {p : Pos} {id : String} {r : List V → Hp → VK → Prop} {op : List D → Option D} {fa : Ev (List Opd)} (hc : CallR X (.builtin id) r) (h : OpA (Cx.g X) r op) (hm : X.mg x = none) (ha : DA X B W (e :: es) fa)
    (hg : Gl X x := by rfl) (hv : bootBuiltins x = some (.builtin id) := by decide +kernel) (hn : x ≠ "__name__" := by decide) (hdb : (x == ("__debug__" : Str)) = false := by decide)
    (he : starEach (e :: es) X.env = (false, eval e X.env) :: starEach es X.env := by rfl) (hpl : (backTo pos (starEach es X.env)).any (·.1) = false := by rfl) : DE X B W (.Call (.Name x p) (e :: es) [] pos) (oAE op fa) :=
  pe_imp (pe_callB hc hg hm hv ha hn hdb he hpl) fun _ _ _ q => opA_lift h q
theorem de_ct {x : Str} {p : Pos} {T : String} {r : List V → Hp → VK → Prop} {op : List D → Option D} {fa : Ev (List Opd)} (hc : CallR X (.type T) r) (h : OpA (Cx.g X) r op) (hm : X.mg x = none) (ha : DA X B W (e :: es) fa)
    (hg : Gl X x := by rfl) (hv : bootBuiltins x = some (.type T) := by decide +kernel) (hn : x ≠ "__name__" := by decide) (hdb : (x == ("__debug__" : Str)) = false := by decide)
    (he : starEach (e :: es) X.env = (false, eval e X.env) :: starEach es X.env := by rfl) (hpl : (backTo pos (starEach es X.env)).any (·.1) = false := by rfl) : DE X B W (.Call (.Name x p) (e :: es) [] pos) (oAE op fa) :=
  pe_imp (pe_callTy hc hg hm hv ha hn hdb he hpl) fun _ _ _ q => opA_lift h q
/-- the receiver's type, by its datum -/
def tyD (T : String) : D → Bool
  | .str _ => T == "str"
  | .int _ => T == "int"
  | .lst _ => T == "list"
  | .scr _ => T == "list"
  | .dic _ => T == "dict"
  | _ => false
theorem Vw.ty {G : Gx} {F : Fz} {H : Hp} {v : V} {d : D} {T : String} (h : Vw G F H v d) (f : Same F.f H) (t : tyD T d = true) : tyV G.K T v H := by
  rcases h with h | ⟨p, u, w, rfl, hp, ow, rfl⟩ | ⟨p, c, fs, rfl, ho, rfl⟩
  · cases h with
    | str s _ => exact beq_iff_eq.mp t
    | int i => exact beq_iff_eq.mp t
    | lst e r => exact .inl ⟨beq_iff_eq.mp t, _, .inl (.inl (f _ _ e))⟩
    | scr e => exact .inl ⟨beq_iff_eq.mp t, _, f.seq e⟩
    | dicK e r => exact .inr (.inr (.inl ⟨beq_iff_eq.mp t, .inl ⟨_, f _ _ e⟩⟩))
    | _ => cases t
  · cases ow with
    | l r => exact .inl ⟨beq_iff_eq.mp t, _, .inl (.inl hp)⟩
    | kK r => exact .inr (.inr (.inl ⟨beq_iff_eq.mp t, .inl ⟨_, hp⟩⟩))
  · cases t
/-- the type is looked at ahead of the arguments -/
def mE (T : String) (op : D → List D → Option D) (fo : Ev Opd) (fa : Ev (List Opd)) : Ev D := fun S st => (fo S st).bind fun o S st =>
  match vw S st o with
  | some y => if tyD T y = true then (fa S st).bind fun a S st =>
      match vw S st o, vws S st a with
      | some y, some x => got (op y x) S st
      | _, _ => .stuck
    else .stuck
  | _ => .stuck
theorem de_m {T id : String} {name : Str} {apos : Pos} {r : V → List V → Hp → VK → Prop} {op : D → List D → Option D} {fo : Ev Opd} {fa : Ev (List Opd)} (pa : PlainAttrs T) (slot : Slot T name id) (hty : typeOf (.builtin id) = pure (.type "method_descriptor")) (hm : MtR X id r) (h : OpM (Cx.g X) r op)
    (ho : DO X B W a fo) (ha : DA X B W (e :: es) fa)
    (hbase : attributeBase a name X.env (eval a X.env) = eval a X.env := by rfl)
    (hfew : ((backTo pos (starEach (e :: es) X.env)).all (fun x => !x.1) && (backToKw pos (keywordEach [] X.env)).all (fun x => x.1.isSome)
      && decide ((e :: es).length + ([] : List Keyword).length + (if ([] : List Keyword).isEmpty then 0 else 1) < 30)) = true := by rfl)
    (hline : (apos.endLine == pos.line) = true := by rfl) (hs : starEach (e :: es) X.env = (false, eval e X.env) :: starEach es X.env := by rfl) (hplain : (backTo pos (starEach es X.env)).any (·.1) = false := by rfl) :
    DE X B W (.Call (.Attribute a name apos) (e :: es) [] pos) (mE T op fo fa) :=
  pe_imp (pe_bm pa slot hty hm ho ha hbase hfew hline hs hplain) fun σ H Q ⟨F, S, st, o, q⟩ => ⟨F, S, st, o, (Post.bind (R := RO (Cx.g X) σ) q).mono fun v H1 ⟨F1, d, S1, st1, g1, o1, r1, p1⟩ => by
    split at p1
    · rename_i y hy
      split at p1
      · rename_i ht
        refine ⟨(o1.vw r1 hy).ty o1.fH ht, F1, S1, st1, o1, (Post.bind (R := RpO (Cx.g X) σ) p1).mono fun vs H2 ⟨F2, ds, S2, st2, g2, o2, r2, p2⟩ => ?_⟩
        split at p2
        · rename_i y' x hy' hx
          obtain ⟨z, hz, p2⟩ := got_ok p2
          exact (h F2 H2 v vs y' x z o2.fH (o2.vw (r1.mono g2.1) hy') (o2.vws r2 hx) hz).fin o2 p2
        · exact p2.elim
      · exact p1.elim
    · exact p1.elim⟩
def m0E (T : String) (op : D → Option D) (fo : Ev Opd) : Ev D := fun S st => (fo S st).bind fun o S st =>
  match vw S st o with
  | some y => if tyD T y = true then got (op y) S st else .stuck
  | _ => .stuck
theorem de_m0 {T id : String} {name : Str} {apos : Pos} {r : V → List V → Hp → VK → Prop} {op : D → Option D} {fo : Ev Opd} (pa : PlainAttrs T) (slot : Slot T name id) (hty : typeOf (.builtin id) = pure (.type "method_descriptor")) (hm : MtR X id r) (h : Op1 (Cx.g X) (fun v => r v []) op)
    (ho : DO X B W a fo) (hbase : attributeBase a name X.env (eval a X.env) = eval a X.env := by rfl) (hline : (apos.endLine == pos.line) = true := by rfl) :
    DE X B W (.Call (.Attribute a name apos) [] [] pos) (m0E T op fo) :=
  pe_imp (pe_bm0 pa slot hty hm ho hbase hline) fun σ H Q ⟨F, S, st, o, q⟩ => ⟨F, S, st, o, (Post.bind (R := RO (Cx.g X) σ) q).mono fun v H1 ⟨F1, d, S1, st1, g1, o1, r1, p1⟩ => by
    split at p1
    · rename_i y hy
      split at p1
      · rename_i ht
        obtain ⟨z, hz, p1⟩ := got_ok p1
        exact ⟨(o1.vw r1 hy).ty o1.fH ht, (h F1 H1 v y z o1.fH (o1.vw r1 hy) hz).fin o1 p1⟩
      · exact p1.elim
    · exact p1.elim⟩
end
end DL

namespace DL
open PySem PySem.Spec PyProof.Rows L2

/-- no exception leaves -/
def Res.calm {α : Type} : Res α → Res α
  | .exc _ _ _ => .stuck
  | r => r
@[simp] theorem Res.calm_ok {α : Type} (a : α) (S : Sls) (st : Store) : (Res.ok a S st).calm = .ok a S st := rfl
abbrev W0 : WX := fun _ _ _ _ => False
theorem Post.calm {G : Gx} {B : Hp} {W : WX} {α β : Type} {R : Fz → β → α → Prop} {σ : L2.St} {F : Fz} {Q : β → Hp → Prop} {r : Res α} (h : Post G B W R σ F Q r.calm) : Post G B W0 R σ F Q r := by
  cases r with
  | ok d S st => exact h
  | exc x S st => exact h.elim
  | stuck => exact h
section
variable {X : Cx} {B : Hp} {W : WX} {e a b c : Expr} {es : List Expr} {s : Stmt} {ss : List Stmt} {pos : Pos}

/-! ### tests -/
def tru : D → Option Bool
  | .non => some false
  | .bl b => some b
  | .int i => some (i != 0)
  | .str s => if s.length ≤ 16777216 then some (!s.isEmpty) else none
  | .lst ds => some (!ds.isEmpty)
  | .tup ds => some (!ds.isEmpty)
  | .scr ns => some (!ns.isEmpty)
  | _ => none
theorem isEmpty_all {G : Gx} {F : Fz} {xs : List V} {ds : List D} (r : RpAll G F xs ds) : xs.isEmpty = ds.isEmpty := by cases r <;> rfl
theorem Vw.tru {G : Gx} {F : Fz} {H : Hp} {v : V} {d : D} {k : Bool} (h : Vw G F H v d) (f : Same F.f H) (e : tru d = some k) : TruV G.K v H k := by
  rcases h with h | ⟨p, u, w, rfl, hp, ow, rfl⟩ | ⟨p, c, fs, rfl, ho, rfl⟩
  · cases h with
    | non => exact (Option.some.inj (show some _ = some k from e)).symm
    | bl => exact (Option.some.inj (show some _ = some k from e)).symm
    | int => exact (Option.some.inj (show some _ = some k from e)).symm
    | str s _ =>
      simp only [DL.tru] at e
      split at e
      · cases e
        refine ⟨by rw [tx_len, sizeLine_eq]; assumption, ?_⟩
        rw [tx_len]
        cases s with
        | nil => rfl
        | cons x r =>
          simp only [List.isEmpty_cons, Bool.not_false]
          have : (((x :: r).length : Nat) : Int) ≠ 0 := by simp only [List.length_cons]; omega
          exact (bne_iff_ne.mpr this).symm
      · cases e
    | lst e' r => have e := Option.some.inj (show some _ = some k from e); subst e; exact .inl ⟨_, .inl (.inl (f _ _ e')), by rw [isEmpty_all r]⟩
    | tup e' r => have e := Option.some.inj (show some _ = some k from e); subst e; exact .inr (.inl ⟨_, same_seqT f e', by rw [isEmpty_all r]⟩)
    | scr e' => have e := Option.some.inj (show some _ = some k from e); subst e; exact .inl ⟨_, f.seq e', by cases ‹List Int› <;> rfl⟩
    | _ => cases e
  · cases ow with
    | l r => have e := Option.some.inj (show some _ = some k from e); subst e; exact .inl ⟨_, .inl (.inl hp), by rw [isEmpty_all r]⟩
    | _ => cases e
  · cases e
def tT (f : Ev Opd) : Ev Bool := fun S st => (f S st).bind fun o S st => match vw S st o with
  | some d => got (tru d) S st
  | none => .stuck
theorem dt_t {f : Ev Opd} (h : DO X B W a f) (he : ∀ whole, isTrue a X.env whole = (do let v ← whole; standAt a.pos; holding [v] (truthy v)) := by exact fun _ => rfl) : DT X B W a (tT f) :=
  pt_imp (pt_truth h he) fun σ H Q ⟨F, S, st, o, q⟩ => ⟨F, S, st, o, (Post.bind (R := RO (Cx.g X) σ) q).mono fun v H1 ⟨F1, d, S1, st1, g1, o1, r1, p1⟩ => by
    split at p1
    · rename_i x hx
      obtain ⟨k, hk, p1⟩ := got_ok p1
      exact ⟨k, (o1.vw r1 hx).tru o1.fH hk, p1 k H1 F1 .refl o1 rfl⟩
    · exact p1.elim⟩
def tN (f : Ev Bool) : Ev Bool := fun S st => (f S st).bind fun b S st => .ok (!b) S st
theorem dt_n {f : Ev Bool} (h : DT X B W a f) : DT X B W (.UnaryOp .Not a pos) (tN f) :=
  pt_imp (pt_not h) fun σ H Q ⟨F, S, st, o, q⟩ => ⟨F, S, st, o, (Post.bind (R := RB σ) q).mono fun v H1 ⟨F1, d, S1, st1, g1, o1, r1, p1⟩ => by
    cases r1
    exact p1 _ H1 F1 .refl o1 rfl⟩
def tA (f g : Ev Bool) : Ev Bool := fun S st => (f S st).bind fun b S st => if b = true then g S st else .ok false S st
def tO (f g : Ev Bool) : Ev Bool := fun S st => (f S st).bind fun b S st => if b = true then .ok true S st else g S st
theorem dw_1a {f : Ev Bool} (h : DT X B W a f) : DW X B W (.BoolOp .And [a] pos) f := pw_and1 h
theorem dw_1o {f : Ev Bool} (h : DT X B W a f) : DW X B W (.BoolOp .Or [a] pos) f := pw_or1 h
theorem dw_a {rest : List Expr} {f g : Ev Bool} (h : DT X B W a f) (t : DW X B W (.BoolOp .And (b :: rest) pos) g) : DW X B W (.BoolOp .And (a :: b :: rest) pos) (tA f g) :=
  pw_imp (pw_and h t) fun σ H Q ⟨F, S, st, o, q⟩ => ⟨F, S, st, o, (Post.bind (R := RB σ) q).mono fun v H1 ⟨F1, d, S1, st1, g1, o1, r1, p1⟩ => by
    cases r1
    cases v with
    | true => exact ⟨F1, S1, st1, o1, p1⟩
    | false => exact p1 _ H1 F1 .refl o1 rfl⟩
theorem dw_o {rest : List Expr} {f g : Ev Bool} (h : DT X B W a f) (t : DW X B W (.BoolOp .Or (b :: rest) pos) g) : DW X B W (.BoolOp .Or (a :: b :: rest) pos) (tO f g) :=
  pw_imp (pw_or h t) fun σ H Q ⟨F, S, st, o, q⟩ => ⟨F, S, st, o, (Post.bind (R := RB σ) q).mono fun v H1 ⟨F1, d, S1, st1, g1, o1, r1, p1⟩ => by
    cases r1
    cases v with
    | false => exact ⟨F1, S1, st1, o1, p1⟩
    | true => exact p1 _ H1 F1 .refl o1 rfl⟩
theorem dt_w {f : Ev Bool} (h : DW X B W a f) : DT X B W a f := PW.pt h
/-- as values: bools -/
def eA (f g : Ev D) : Ev D := fun S st => (f S st).bind fun d S st => match d with
  | .bl b => if b = true then g S st else .ok (.bl false) S st
  | _ => .stuck
def eO (f g : Ev D) : Ev D := fun S st => (f S st).bind fun d S st => match d with
  | .bl b => if b = true then .ok (.bl true) S st else g S st
  | _ => .stuck
def eN (f : Ev D) : Ev D := fun S st => (f S st).bind fun d S st => match d with
  | .bl b => .ok (.bl (!b)) S st
  | _ => .stuck
theorem de_1 {op} {f : Ev D} (h : DE X B W a f) : DE X B W (.BoolOp op [a] pos) f := pe_one h
theorem de_a {rest : List Expr} {f g : Ev D} (h : DE X B W a f) (t : DE X B W (.BoolOp .And (b :: rest) pos) g) : DE X B W (.BoolOp .And (a :: b :: rest) pos) (eA f g) :=
  pe_imp (pe_and h t) fun σ H Q ⟨F, S, st, o, q⟩ => ⟨F, S, st, o, (Post.bind (R := RD (Cx.g X) σ) q).mono fun v H1 ⟨F1, d, S1, st1, g1, o1, r1, p1⟩ => by
    split at p1
    · rename_i k
      cases r1
      refine ⟨_, rfl, ?_⟩
      cases k with
      | true => exact ⟨F1, S1, st1, o1, p1⟩
      | false => exact p1 _ H1 F1 .refl o1 (.bl _)
    · exact p1.elim⟩
theorem de_o {rest : List Expr} {f g : Ev D} (h : DE X B W a f) (t : DE X B W (.BoolOp .Or (b :: rest) pos) g) : DE X B W (.BoolOp .Or (a :: b :: rest) pos) (eO f g) :=
  pe_imp (pe_or h t) fun σ H Q ⟨F, S, st, o, q⟩ => ⟨F, S, st, o, (Post.bind (R := RD (Cx.g X) σ) q).mono fun v H1 ⟨F1, d, S1, st1, g1, o1, r1, p1⟩ => by
    split at p1
    · rename_i k
      cases r1
      refine ⟨_, rfl, ?_⟩
      cases k with
      | false => exact ⟨F1, S1, st1, o1, p1⟩
      | true => exact p1 _ H1 F1 .refl o1 (.bl _)
    · exact p1.elim⟩
theorem de_n {f : Ev D} (h : DE X B W a f) : DE X B W (.UnaryOp .Not a pos) (eN f) :=
  pe_imp (pe_not h) fun σ H Q ⟨F, S, st, o, q⟩ => ⟨F, S, st, o, (Post.bind (R := RD (Cx.g X) σ) q).mono fun v H1 ⟨F1, d, S1, st1, g1, o1, r1, p1⟩ => by
    split at p1
    · cases r1
      exact ⟨_, rfl, p1 _ H1 F1 .refl o1 (.bl _)⟩
    · exact p1.elim⟩
def eI (t : Ev Bool) (f g : Ev D) : Ev D := fun S st => (t S st).bind fun b S st => if b = true then f S st else g S st
theorem de_i {t : Ev Bool} {f g : Ev D} (ht : DT X B W c t) (hf : DE X B W a f) (hg : DE X B W b g) : DE X B W (.IfExp c a b pos) (eI t f g) :=
  pe_imp (pe_ifExp ht hf hg) fun σ H Q ⟨F, S, st, o, q⟩ => ⟨F, S, st, o, (Post.bind (R := RB σ) q).mono fun v H1 ⟨F1, d, S1, st1, g1, o1, r1, p1⟩ => by
    cases r1
    cases v with
    | true => exact ⟨F1, S1, st1, o1, p1⟩
    | false => exact ⟨F1, S1, st1, o1, p1⟩⟩

/-! ### objects that are new -/
def PostF (G : Gx) (B : Hp) (W : WX) (σ : L2.St) (F : Fz) (Q : VK) : Res Ow → Prop
  | .ok w S' st' => ∀ p u H' F', Gr B F F' → Ok G B F' σ H' S' st' → H' p = some u → F' p = none → B p = none → OwRel G F' u w → p ∉ F'.m → (∀ (j : Nat) (es : Ow), S'[j]? = some (.own es) → σ[j]? ≠ some (some (.ref p))) → Q (.ref p) H'
  | .exc x S' st' => ∀ cls dd H' F', Gr B F F' → Ok G B F' σ H' S' st' → XRel G F' x cls dd H' → W cls dd σ H'
  | .stuck => False
def liftF (G : Gx) (B : Hp) (W : WX) (f : Ev Ow) : TE := fun σ H Q => ∃ F S st, Ok G B F σ H S st ∧ PostF G B W σ F Q (f S st)
def DF (X : Cx) (B : Hp) (W : WX) (e : Expr) (f : Ev Ow) : Prop := PE X e (liftF (Cx.g X) B W f)
theorem PostF.grow {G : Gx} {σ : L2.St} {F F' : Fz} {Q : VK} {r : Res Ow} (g : Gr B F F') (h : PostF G B W σ F Q r) : PostF G B W σ F' Q r := by
  cases r with
  | ok d S st => exact fun p u H' F2 g2 => h p u H' F2 (g.trans g2)
  | exc x S st => exact fun c d H' F2 g2 o r => h c d H' F2 (g.trans g2) o r
  | stuck => exact h
theorem PostF.bind {G : Gx} {α β : Type} {R : Fz → β → α → Prop} {σ : L2.St} {F : Fz} {Q : VK} {r : Res α} {k : α → Sls → Store → Res Ow} (h : PostF G B W σ F Q (r.bind k)) :
    Post G B W R σ F (fun v H1 => ∃ F1 d S1 st1, Gr B F F1 ∧ Ok G B F1 σ H1 S1 st1 ∧ R F1 v d ∧ PostF G B W σ F1 Q (k d S1 st1)) r := by
  cases r with
  | ok d S st => exact fun v H' F' g o r => ⟨F', d, S, st, g, o, r, PostF.grow g h⟩
  | exc x S st => exact h
  | stuck => exact h
/-- .. laid just now -/
theorem PostF.new {G : Gx} {σ : L2.St} {F : Fz} {H : Hp} {Q : VK} {S : Sls} {st : Store} {w : Ow} (o : Ok G B F σ H S st) (h : PostF G B W σ F Q (.ok w S st)) {p : Addr} {u : HO} (hp : H p = none) (r : OwRel G F u w) : Q (.ref p) (upd H p u) := by
  refine h p u _ F .refl (o.junk (same_new hp)) upd_same (o.fH.free hp) (o.kp.free hp) r (o.so.new hp) fun j es e1 e2 => ?_
  obtain ⟨p', xs', e3, h1, _⟩ := o.sl j _ e1
  rw [e2] at e3; cases e3
  rw [hp] at h1; cases h1
theorem Ok.frzAt {G : Gx} {F : Fz} {H : Hp} {σ : L2.St} {S : Sls} {st : Store} (o : Ok G B F σ H S st) {p : Addr} {u : HO} (h : H p = some u) (hF : F p = none) (hB : B p = none) (hm : p ∉ F.m) (no : ∀ (j : Nat) (es : Ow), S[j]? = some (.own es) → σ[j]? ≠ some (some (.ref p))) :
    Gr B F (F.up p u) ∧ Ok G B (F.up p u) σ H S st := by
  have sm : SmF F (F.up p u) := .up (same_new hF)
  refine ⟨⟨sm, fun a q1 q2 => ?_⟩, fun b u q => ?_, o.kp, ⟨o.so.ml, o.so.mn, fun n x a q1 q2 => ?_⟩, o.len, fun j s q => ?_, o.ap⟩
  · by_cases z : a = p
    · subst z; exact hB
    · have q2 : upd F.f p u a ≠ none := q2
      rw [upd_ne z] at q2; exact absurd q1 q2
  · have q : upd F.f p _ b = _ := q
    by_cases z : b = p
    · subst z; rw [upd_same] at q; cases q; exact h
    · rw [upd_ne z] at q; exact o.fH _ _ q
  · obtain ⟨k1, k2, k3⟩ := o.so.ob n x a q1 q2
    have z : a ≠ p := fun z => hm (by rw [← z]; exact List.mem_of_getElem? q2)
    exact ⟨by show upd F.f p u a = none; rw [upd_ne z]; exact k1, k2, k3.grow sm (Same.refl H)⟩
  · have w := o.sl j s q
    cases s with
    | no => trivial
    | d x =>
      obtain ⟨v, a1, a2⟩ := w
      exact ⟨v, a1, a2.mono sm⟩
    | own es' =>
      obtain ⟨p2, xs2, a1, a2, a3, a4, a5, a6⟩ := w
      have : p2 ≠ p := fun z => no j _ q (by rw [a1, z])
      exact ⟨p2, xs2, a1, a2, by show upd F.f p u p2 = none; rw [upd_ne this]; exact a3, a4, a5.mono sm, a6⟩
/-- .. kept as it is -/
def fE (f : Ev Ow) : Ev D := fun S st => (f S st).bind fun w S st => .ok w.d S st
theorem postF_fE {G : Gx} {B : Hp} {W : WX} {σ : L2.St} {F : Fz} {Q : VK} {r : Res Ow} (q : Post G B W (RD G σ) σ F Q (r.bind fun w S st => .ok w.d S st)) : PostF G B W σ F Q r := by
  cases r with
  | ok w S1 st1 =>
    intro p u H' F' g o1 hu hF hB r hm no
    obtain ⟨g', o'⟩ := o1.frzAt hu hF hB hm no
    exact q _ H' _ (g.trans g') o' ((r.mono g'.1).rp upd_same)
  | exc x S1 st1 => exact q
  | stuck => exact q
theorem de_f {f : Ev Ow} (h : DF X B W e f) : DE X B W e (fE f) :=
  pe_imp h fun σ H Q ⟨F, S, st, o, q⟩ => ⟨F, S, st, o, postF_fE q⟩
/-- r lays a new object that holds w -/
def Lays (r : VK → Prop) (G : Gx) (F : Fz) (H : Hp) (w : Ow) : Prop := ∀ Q : VK, (∀ p u, H p = none → OwRel G F u w → Q (.ref p) (upd H p u)) → r Q
def Op2F (G : Gx) (r : R2) (op : D → D → Option Ow) : Prop := ∀ (F : Fz) H v w x y d, Same F.f H → Vw G F H v x → Vw G F H w y → op x y = some d → Lays (r v w H) G F H d
def OpAF (G : Gx) (r : List V → Hp → VK → Prop) (op : List D → Option Ow) : Prop := ∀ (F : Fz) H vs xs d, Same F.f H → VwAll G F H vs xs → op xs = some d → Lays (r vs H) G F H d
def OpMF (G : Gx) (r : V → List V → Hp → VK → Prop) (op : D → List D → Option Ow) : Prop := ∀ (F : Fz) H v vs x xs d, Same F.f H → Vw G F H v x → VwAll G F H vs xs → op x xs = some d → Lays (r v vs H) G F H d
theorem Lays.gives {r : VK → Prop} {G : Gx} {F : Fz} {H : Hp} {w : Ow} (f : Same F.f H) (h : Lays r G F H w) : Gives r G F H w.d := fun Q k => h Q fun p u hp r =>
  k _ _ (upd F.f p u) (same_new hp) (same_upd2 f) (gr_new f hp) ((r.mono (.up (gr_new f hp).1)).rp upd_same)
theorem postF_got {G : Gx} {F : Fz} {σ : L2.St} {Q : VK} {x : Option Ow} {S : Sls} {st : Store} (p : PostF G B W σ F Q (got x S st)) : ∃ d, x = some d ∧ PostF G B W σ F Q (.ok d S st) := by
  cases x with
  | none => exact p.elim
  | some d => exact ⟨d, rfl, p⟩
theorem Lays.fin {r : VK → Prop} {G : Gx} {F : Fz} {H : Hp} {σ : L2.St} {S : Sls} {st : Store} {w : Ow} {Q : VK} (g : Lays r G F H w) (o : Ok G B F σ H S st) (p : PostF G B W σ F Q (.ok w S st)) : r Q :=
  g Q fun q u hq r => p.new o hq r
def o2F (op : D → D → Option Ow) (fa fb : Ev Opd) : Ev Ow := fun S st => (fa S st).bind fun a S st => (fb S st).bind fun b S st =>
  match vw S st a, vw S st b with
  | some x, some y => got (op x y) S st
  | _, _ => .stuck
def oAF (op : List D → Option Ow) (fa : Ev (List Opd)) : Ev Ow := fun S st => (fa S st).bind fun a S st =>
  match vws S st a with
  | some x => got (op x) S st
  | _ => .stuck
theorem df_bin {o : Operator} {r : R2} {op : D → D → Option Ow} {fa fb : Ev Opd} (ho : OpR X (binaryOp o) r) (h : Op2F (Cx.g X) r op) (ha : DO X B W a fa) (hb : DO X B W b fb) : DF X B W (.BinOp a o b pos) (o2F op fa fb) :=
  pe_imp (pe_op ho ha hb) fun σ H Q ⟨F, S, st, o, q⟩ => ⟨F, S, st, o, (PostF.bind (R := RO (Cx.g X) σ) q).mono fun v H1 ⟨F1, d, S1, st1, g1, o1, r1, p1⟩ =>
    ⟨F1, S1, st1, o1, (PostF.bind (R := RO (Cx.g X) σ) p1).mono fun w H2 ⟨F2, d2, S2, st2, g2, o2, r2, p2⟩ => by
      split at p2
      · rename_i x y hx hy
        obtain ⟨z, hz, p2⟩ := postF_got p2
        exact (h F2 H2 v w x y z o2.fH (o2.vw (r1.mono g2.1) hx) (o2.vw r2 hy) hz).fin o2 p2
      · exact p2.elim⟩⟩
theorem df_ct {x : Str} {p : Pos} {T : String} {r : List V → Hp → VK → Prop} {op : List D → Option Ow} {fa : Ev (List Opd)} (hc : CallR X (.type T) r) (h : OpAF (Cx.g X) r op) (hm : X.mg x = none) (ha : DA X B W (e :: es) fa)
    (hg : Gl X x := by rfl) (hv : bootBuiltins x = some (.type T) := by decide +kernel) (hn : x ≠ "__name__" := by decide) (hdb : (x == ("__debug__" : Str)) = false := by decide)
    (he : starEach (e :: es) X.env = (false, eval e X.env) :: starEach es X.env := by rfl) (hpl : (backTo pos (starEach es X.env)).any (·.1) = false := by rfl) : DF X B W (.Call (.Name x p) (e :: es) [] pos) (oAF op fa) :=
  pe_imp (pe_callTy hc hg hm hv ha hn hdb he hpl) fun σ H Q ⟨F, S, st, o, q⟩ => ⟨F, S, st, o, (PostF.bind (R := RpO (Cx.g X) σ) q).mono fun v H1 ⟨F1, d, S1, st1, g1, o1, r1, p1⟩ => by
    split at p1
    · rename_i x hx
      obtain ⟨z, hz, p1⟩ := postF_got p1
      exact (h F1 H1 v x z o1.fH (o1.vws r1 hx) hz).fin o1 p1
    · exact p1.elim⟩
theorem df_cb {x : Str} {p : Pos} {T : String} {r : List V → Hp → VK → Prop} {op : List D → Option Ow} {fa : Ev (List Opd)} (hc : CallR X (.builtin T) r) (h : OpAF (Cx.g X) r op) (hm : X.mg x = none) (ha : DA X B W (e :: es) fa)
    (hg : Gl X x := by rfl) (hv : bootBuiltins x = some (.builtin T) := by decide +kernel) (hn : x ≠ "__name__" := by decide) (hdb : (x == ("__debug__" : Str)) = false := by decide)
    (he : starEach (e :: es) X.env = (false, eval e X.env) :: starEach es X.env := by rfl) (hpl : (backTo pos (starEach es X.env)).any (·.1) = false := by rfl) : DF X B W (.Call (.Name x p) (e :: es) [] pos) (oAF op fa) :=
  pe_imp (pe_callB hc hg hm hv ha hn hdb he hpl) fun σ H Q ⟨F, S, st, o, q⟩ => ⟨F, S, st, o, (PostF.bind (R := RpO (Cx.g X) σ) q).mono fun v H1 ⟨F1, d, S1, st1, g1, o1, r1, p1⟩ => by
    split at p1
    · rename_i x hx
      obtain ⟨z, hz, p1⟩ := postF_got p1
      exact (h F1 H1 v x z o1.fH (o1.vws r1 hx) hz).fin o1 p1
    · exact p1.elim⟩
/-- [a, b, ..] -/
def lF (fa : Ev (List Opd)) : Ev Ow := fun S st => (fa S st).bind fun a S st => match vds S a with
  | some ds => if ds.length ≤ 16777216 then .ok (.l ds) S st else .stuck
  | none => .stuck
theorem df_l {fa : Ev (List Opd)} (ha : DA X B W es fa) : DF X B W (.List es pos) (lF fa) :=
  pe_imp (pe_lst ha) fun σ H Q ⟨F, S, st, o, q⟩ => ⟨F, S, st, o, (PostF.bind (R := RpO (Cx.g X) σ) q).mono fun v H1 ⟨F1, d, S1, st1, g1, o1, r1, p1⟩ => by
    split at p1
    · rename_i x hx
      split at p1
      · have rr := o1.vds r1 hx
        exact ⟨by rw [rr.length, sizeLine_eq]; assumption, fun p hp => p1.new o1 hp (.l rr)⟩
      · exact p1.elim
    · exact p1.elim⟩
/-- (a, b, ..) -/
def pE (fa : Ev (List Opd)) : Ev D := fun S st => (fa S st).bind fun a S st => match vds S a with
  | some ds => if ds.length ≤ 16777216 then .ok (.tup ds) S st else .stuck
  | none => .stuck
theorem de_p {fa : Ev (List Opd)} {x1} (ha : DA X B W es fa) : DE X B W (.Tuple es x1 pos) (pE fa) :=
  pe_imp (pe_tup ha) fun σ H Q ⟨F, S, st, o, q⟩ => ⟨F, S, st, o, (Post.bind (R := RpO (Cx.g X) σ) q).mono fun v H1 ⟨F1, d, S1, st1, g1, o1, r1, p1⟩ => by
    split at p1
    · rename_i x hx
      split at p1
      · have rr := o1.vds r1 hx
        exact ⟨by rw [rr.length, sizeLine_eq]; assumption, fun p hp => p1 _ _ (F1.up p (.tup v)) (o1.grN hp) (o1.gnew hp) (.tup (.inl (.inl upd_same)) (rr.mono (o1.grN (u := .tup v) hp).1))⟩
      · exact p1.elim
    · exact p1.elim⟩

/-! ### slices -/
def RP : L2.St → Fz → Option Int → Option Int → Prop := fun _ _ v d => v = d
def DP (X : Cx) (B : Hp) (W : WX) (e : Option Expr) (f : Ev (Option Int)) : Prop := PO X e (lift (Cx.g X) B W RP f)
theorem po_imp {X : Cx} {e : Option Expr} {t t' : TO} (h : PO X e t) (i : ∀ σ H Q, t' σ H Q → t σ H Q) : PO X e t' := ⟨fun pins s σ H Q I q => h.run pins s σ H Q I (i σ H Q q)⟩
def sN : Ev (Option Int) := fun S st => .ok none S st
def sS (f : Ev D) : Ev (Option Int) := fun S st => (f S st).bind fun d S st => match d with
  | .int i => .ok (some i) S st
  | _ => .stuck
theorem dp_n : DP X B W none sN := po_imp po_none fun σ H Q ⟨F, S, st, o, q⟩ => q _ H F .refl o rfl
theorem dp_s {f : Ev D} (h : DE X B W e f) : DP X B W (some e) (sS f) := po_imp (po_some h) fun σ H Q ⟨F, S, st, o, q⟩ => ⟨F, S, st, o, (Post.bind (R := RD (Cx.g X) σ) q).mono fun v H1 ⟨F1, d, S1, st1, g1, o1, r1, p1⟩ => by
  split at p1
  · cases r1
    exact ⟨_, rfl, p1 _ H1 F1 .refl o1 rfl⟩
  · exact p1.elim⟩
def OpS (G : Gx) (r : V → Option Int → Option Int → Hp → VK → Prop) (op : D → Option Int → Option Int → Option D) : Prop := ∀ (F : Fz) H v x l u d, Same F.f H → Vw G F H v x → op x l u = some d → Gives (r v l u H) G F H d
def slE (op : D → Option Int → Option Int → Option D) (fa : Ev Opd) (fl fu : Ev (Option Int)) : Ev D := fun S st => (fa S st).bind fun a S st => (fl S st).bind fun l S st => (fu S st).bind fun u S st =>
  match vw S st a with
  | some x => got (op x l u) S st
  | _ => .stuck
theorem de_sl {r : V → Option Int → Option Int → Hp → VK → Prop} {op : D → Option Int → Option Int → Option D} {lo hi : Option Expr} {p2 : Pos} {fa : Ev Opd} {fl fu : Ev (Option Int)} (hr : SlR X r) (h : OpS (Cx.g X) r op) (ha : DO X B W a fa) (hl : DP X B W lo fl) (hu : DP X B W hi fu) :
    DE X B W (.Subscript a (.Slice lo hi none p2) pos) (slE op fa fl fu) :=
  pe_imp (pe_slice hr ha hl hu) fun σ H Q ⟨F, S, st, o, q⟩ => ⟨F, S, st, o, (Post.bind (R := RO (Cx.g X) σ) q).mono fun v H1 ⟨F1, d, S1, st1, g1, o1, r1, p1⟩ =>
    ⟨F1, S1, st1, o1, (Post.bind (R := RP σ) p1).mono fun l H2 ⟨F2, l', S2, st2, g2, o2, e2, p2⟩ => ⟨F2, S2, st2, o2, (Post.bind (R := RP σ) p2).mono fun u H3 ⟨F3, u', S3, st3, g3, o3, e3, p3⟩ => by
      cases e2; cases e3
      split at p3
      · rename_i x hx
        obtain ⟨z, hz, p3⟩ := got_ok p3
        exact (h F3 H3 v x _ _ z o3.fH (o3.vw (r1.mono (g2.1.trans g3.1)) hx) hz).fin o3 p3
      · exact p3.elim⟩⟩⟩
end

/-! ### calls of defs -/
/-- all but the store's things -/
def hid (m : List Addr) (H : Hp) : Hp := fun a => if a ∈ m then none else H a
theorem hid_in {m : List Addr} {H : Hp} {a : Addr} (h : a ∈ m) : hid m H a = none := if_pos h
theorem hid_out {m : List Addr} {H : Hp} {a : Addr} (h : a ∉ m) : hid m H a = H a := if_neg h
theorem hid_same (m : List Addr) (H : Hp) : Same (hid m H) H := fun a u e => by
  by_cases h : a ∈ m
  · rw [hid_in h] at e; cases e
  · rw [hid_out h] at e; exact e
theorem hid_nil (H : Hp) : hid [] H = H := by funext a; exact hid_out (by simp)
def spOf (G : Gx) (n : Nat) (c : CallT) : Sp := fun vs H Q E => vs.length = n ∧ ∃ (F : Fz) (ds : List D) (st : Store), Same F.f H ∧ StOk G (hid F.m H) F H st ∧ RpAll G F vs ds ∧ match c ds st with
  | .ok d _ st' => ∀ v H' (F' : Fz), Same (hid F.m H) H' → Same F'.f H' → Gr (hid F.m H) F F' → StOk G (hid F.m H) F' H' st' → Rp G F' v d → Q v H'
  | .exc x _ st' => ∀ cls dd H' (F' : Fz), Same (hid F.m H) H' → Same F'.f H' → Gr (hid F.m H) F F' → StOk G (hid F.m H) F' H' st' → XRel G F' x cls dd H' → E cls dd H'
  | .stuck => False
/-- the store's things for a callee: they may change -/
theorem StOk.hid {G : Gx} {B H : Hp} {F : Fz} {st : Store} (o : StOk G B F H st) : StOk G (DL.hid F.m H) F H st :=
  ⟨o.ml, o.mn, fun n x a e1 e2 => ⟨(o.ob n x a e1 e2).1, hid_in (List.mem_of_getElem? e2), (o.ob n x a e1 e2).2.2⟩⟩
theorem Ok.hidB {G : Gx} {B : Hp} {F : Fz} {σ : L2.St} {H : Hp} {S : Sls} {st : Store} (o : Ok G B F σ H S st) {a : Addr} (z : hid F.m H a = none) : B a = none := by
  by_cases h : a ∈ F.m
  · obtain ⟨_, _, n, x, _, _, q, _⟩ := o.so.mem h; exact q
  · rw [hid_out h] at z; exact o.kp.free z
/-- behind a call -/
theorem Ok.back {G : Gx} {B : Hp} {F F' : Fz} {σ : L2.St} {H H' : Hp} {S : Sls} {st st' : Store} (o : Ok G B F σ H S st) (k : Same (hid F.m H) H') (f : Same F'.f H') (g : Gr (hid F.m H) F F') (s : StOk G (hid F.m H) F' H' st') : Gr B F F' ∧ Ok G B F' σ H' S st' := by
  have key : ∀ a, hid F.m H a = none → B a = none := fun a z => by
    by_cases h : a ∈ F.m
    · obtain ⟨_, _, n, x, _, _, q, _⟩ := o.so.mem h; exact q
    · rw [hid_out h] at z; exact o.kp.free z
  refine ⟨⟨g.1, fun a h1 h2 => key a (g.2 a h1 h2)⟩, f, fun a u e => ?_, ⟨s.ml, s.mn, fun n x a e1 e2 => ?_⟩, o.len, fun i sl e => ?_, o.ap⟩
  · have hm : a ∉ F.m := fun z => by
      obtain ⟨_, _, n, x, _, _, q, _⟩ := o.so.mem z
      rw [q] at e; cases e
    exact k a u (by rw [hid_out hm]; exact o.kp a u e)
  · obtain ⟨h1, h2, h3⟩ := s.ob n x a e1 e2
    exact ⟨h1, key a h2, h3⟩
  · have h := o.sl i sl e
    cases sl with
    | no => trivial
    | d x =>
      obtain ⟨v, a1, a2⟩ := h
      exact ⟨v, a1, a2.mono g.1⟩
    | own w =>
      obtain ⟨p, u, a1, a2, a3, a4, a5, a6⟩ := h
      have hp : hid F.m H p = some u := by rw [hid_out a6]; exact a2
      refine ⟨p, u, a1, k p u hp, ?_, a4, a5.mono g.1, fun z => ?_⟩
      · cases z : F' p with
        | none => rfl
        | some v =>
          have := g.2 p a3 (by rw [z]; simp)
          rw [hp] at this; cases this
      · obtain ⟨_, _, n, x, _, _, q, _⟩ := s.mem z
        rw [hp] at q; cases q
structure Def (P : Program) (w : World) (K : PySem.W.Frag) (mg : Str → Option Value) (base : Heap) (k : Nat) (x : Str) (n : Nat) (c : CallT) : Prop where
  ex : ∃ f fd ps, FnOk P w K mg base (L2.CX P w) k f fd ps (spOf ⟨K, mg⟩ n c) ∧ Binds K fd ps [] ∧ mg x = some (.ref f) ∧ PySem.W.keepIn K (.ref f) = true
theorem Def.mono {P : Program} {w : World} {K : PySem.W.Frag} {mg : Str → Option Value} {base : Heap} {k j : Nat} {x : Str} {n : Nat} {c : CallT} (d : Def P w K mg base k x n c) (h : k ≤ j) : Def P w K mg base j x n c := by
  obtain ⟨f, fd, ps, a, b, c, e⟩ := d.ex
  exact ⟨f, fd, ps, a.mono h, b, c, e⟩
def cE (c : CallT) (fa : Ev (List Opd)) : Ev D := fun S st => (fa S st).bind fun a S st => match vds S a with
  | some ds => match c ds st with
    | .ok d _ st => .ok d S st
    | .exc x _ st => .exc x S st
    | .stuck => .stuck
  | none => .stuck
section
variable {X : Cx} {B : Hp} {W : WX} {e : Expr} {es : List Expr} {pos p : Pos} {k : Nat} {x : Str} {n : Nat} {c : CallT}
theorem call_lift {fa : Ev (List Opd)} {σ : L2.St} {H : Hp} {Q : VK} (hn : ∀ S st r S' st', fa S st = .ok r S' st' → r.length = n) (q : lift (Cx.g X) B W (RD (Cx.g X)) (cE c fa) σ H Q) :
    tCallS (spOf (Cx.g X) n c) (WE W) (lift (Cx.g X) B W (RpO (Cx.g X)) fa) σ H Q := by
  obtain ⟨F, S, st, o, q⟩ := q
  have key : ∀ (r : Res (List Opd)) (hl : ∀ r' S' st', r = .ok r' S' st' → r'.length = n), Post (Cx.g X) B W (RD (Cx.g X) σ) σ F Q (r.bind fun a S st => match vds S a with
      | some ds => match c ds st with
        | .ok d _ st => .ok d S st
        | .exc x _ st => .exc x S st
        | .stuck => .stuck
      | none => .stuck) → Post (Cx.g X) B W (RpO (Cx.g X) σ) σ F (fun vs H1 => spOf (Cx.g X) n c vs H1 Q (WE W σ)) r := by
    intro r hl q
    cases r with
    | exc y S1 st1 => exact q
    | stuck => exact q
    | ok a S1 st1 =>
      intro vs H1 F1 g1 o1 r1
      have q : Post (Cx.g X) B W (RD (Cx.g X) σ) σ F Q (match vds S1 a with
        | some ds => match c ds st1 with
          | .ok d _ st => .ok d S1 st
          | .exc x _ st => .exc x S1 st
          | .stuck => .stuck
        | none => .stuck) := q
      split at q
      · rename_i ds hds
        have ra := o1.vds r1 hds
        refine ⟨?_, F1, ds, st1, o1.fH, o1.so.hid, ra, ?_⟩
        · have l1 := hl _ _ _ rfl
          have : ∀ {vs : List V} {as : List Opd}, RpO (Cx.g X) σ F1 vs as → vs.length = as.length := by
            intro vs as h
            induction h with
            | nil => rfl
            | cons _ _ ih => simp [ih]
          rw [this r1, l1]
        · split at q
          · exact fun v H' F' k f gr so rr => q v H' F' (g1.trans (o1.back k f gr so).1) (o1.back k f gr so).2 rr
          · exact fun cls dd H' F' k f gr so rr => q cls dd H' F' (g1.trans (o1.back k f gr so).1) (o1.back k f gr so).2 rr
          · exact q.elim
      · exact q.elim
  exact ⟨F, S, st, o, key _ (fun r' S' st' e => hn _ _ _ _ _ e) q⟩
/-- an argument list of n -/
def aLen (f : Ev (List Opd)) (n : Nat) : Prop := ∀ S st r S' st', f S st = .ok r S' st' → r.length = n
theorem aLen_n : aLen aN 0 := fun S st r S' st' h => by
  have : Res.ok [] S st = Res.ok r S' st' := h
  injection this with h1 _ _
  subst h1; rfl
theorem aLen_c {f : Ev Opd} {g : Ev (List Opd)} {n : Nat} (h : aLen g n) : aLen (aC f g) (n + 1) := fun S st r S' st' q => by
  unfold aC at q
  cases h1 : f S st with
  | ok a S1 st1 =>
    rw [h1, Res.bind_ok] at q
    cases h2 : g S1 st1 with
    | ok b S2 st2 =>
      rw [h2, Res.bind_ok] at q
      injection q with q1 _ _
      subst q1
      simp [h _ _ _ _ _ h2]
    | exc y S2 st2 => rw [h2] at q; cases q
    | stuck => rw [h2] at q; cases q
  | exc y S1 st1 => rw [h1] at q; cases q
  | stuck => rw [h1] at q; cases q
theorem de_c {fa : Ev (List Opd)} (d : Def X.prog X.w X.K X.mg X.base k x n c) (hr : Room k X.A) (tk : Takes X W) (ha : DA X B W (e :: es) fa) (hl : aLen fa n := by repeat (first | exact aLen_n | refine aLen_c ?_)) (hg : Gl X x := by rfl) (hdb : (x == ("__debug__" : Str)) = false := by decide)
    (he : starEach (e :: es) X.env = (false, eval e X.env) :: starEach es X.env := by rfl) (hpl : (backTo pos (starEach es X.env)).any (·.1) = false := by rfl) : DE X B W (.Call (.Name x p) (e :: es) [] pos) (cE c fa) := by
  obtain ⟨f, fd, ps, F, hb, hm, hk⟩ := d.ex
  exact pe_imp (pe_callS F hr hg hm hk hb (fun σ => passAt tk σ) ha hdb he hpl) fun σ H Q q => call_lift hl q
end
end DL

namespace DL
open PySem PySem.Spec PyProof.Rows L2
section
variable {X : Cx} {B : Hp} {W : WX} {e a b c : Expr} {es : List Expr} {s : Stmt} {ss : List Stmt} {pos : Pos}

/-! ### statements -/
def sNil : EvS := fun S st => .nx S st
def sSeq (f g : EvS) : EvS := fun S st => (f S st).then g
theorem PostS.then {G : Gx} {F : Fz} {D : Ends} {r : Out} {k : Sls → Store → Out} (h : PostS G B W F D (r.then k)) : PostS G B W F { D with nx := fun σ H => ∃ F1 S1 st1, Gr B F F1 ∧ Ok G B F1 σ H S1 st1 ∧ PostS G B W F1 D (k S1 st1) } r := by
  cases r with
  | nx S st => exact fun σ' H' F' g o => ⟨F', S, st, g, o, PostS.grow g h⟩
  | _ => exact h
theorem dss_n : DSs X B W [] sNil := pss_imp pss_nil fun D σ H ⟨F, S, st, o, q⟩ => q σ H F .refl o
theorem dss_c {f g : EvS} (h : DS X B W s f) (t : DSs X B W ss g) : DSs X B W (s :: ss) (sSeq f g) :=
  pss_imp (pss_cons h t) fun D σ H ⟨F, S, st, o, q⟩ => by
    refine ⟨F, S, st, o, ?_⟩
    have q2 := PostS.then q
    generalize f S st = r at q2
    cases r with
    | nx S1 st1 =>
      intro σ' H' F' g o1
      obtain ⟨F1, S2, st2, g2, o2, p⟩ := q2 σ' H' F' g o1
      exact ⟨F1, S2, st2, o2, p⟩
    | _ => exact q2
theorem dss_1 {f : EvS} (h : DS X B W s f) : DSs X B W [s] f := pss_one h
def sBk : EvS := fun S st => .bk S st
def sCt : EvS := fun S st => .ct S st
def sStuck : EvS := fun _ _ => .stuck
theorem ds_pass : DS X B W (.Pass pos) sNil := ps_imp ps_pass fun D σ H ⟨F, S, st, o, q⟩ => q σ H F .refl o
theorem ds_bk : DS X B W (.Break pos) sBk := ps_imp ps_break fun D σ H ⟨F, S, st, o, q⟩ => q σ H F .refl o
theorem ds_ct : DS X B W (.Continue pos) sCt := ps_imp ps_continue fun D σ H ⟨F, S, st, o, q⟩ => q σ H F .refl o
/-- a statement that is never come to -/
theorem ds_never : DS X B W s sStuck := ps_imp ps_never fun D σ H ⟨F, S, st, o, q⟩ => q
def sE (f : Ev D) : EvS := fun S st => (f S st).out fun _ S st => .nx S st
theorem ds_e {f : Ev D} (h : DE X B W e f) (hs : swapsWith e none pos.line X.env = pure false := by rfl) : DS X B W (.Expr e pos) (sE f) :=
  ps_imp (ps_expr h hs) fun D σ H ⟨F, S, st, o, q⟩ => ⟨F, S, st, o, (Post.out (R := RD (Cx.g X) σ) q).mono fun v H1 ⟨F1, d, S1, st1, g1, o1, r1, p1⟩ => p1 σ H1 F1 .refl o1⟩
def sR (f : Ev D) : EvS := fun S st => (f S st).out fun d S st => .ret d S st
theorem ds_r {f : Ev D} (h : DE X B W e f) : DS X B W (.Return (some e) pos) (sR f) :=
  ps_imp (ps_ret h) fun D σ H ⟨F, S, st, o, q⟩ => ⟨F, S, st, o, (Post.out (R := RD (Cx.g X) σ) q).mono fun v H1 ⟨F1, d, S1, st1, g1, o1, r1, p1⟩ => p1 v σ H1 F1 .refl o1 r1⟩
def sRN : EvS := fun S st => .ret .non S st
theorem ds_rn : DS X B W (.Return none pos) sRN := ps_imp ps_retN fun D σ H ⟨F, S, st, o, q⟩ => q .non σ H F .refl o .non
def sI (t : Ev Bool) (f g : EvS) : EvS := fun S st => (t S st).out fun b S st => if b = true then f S st else g S st
theorem ds_i {t : Ev Bool} {f g : EvS} {tb fb : List Stmt} (ht : DT X B W c t) (hf : DSs X B W tb f) (hg : DSs X B W fb g) : DS X B W (.If c tb fb pos) (sI t f g) :=
  ps_imp (ps_if ht hf hg) fun D σ H ⟨F, S, st, o, q⟩ => ⟨F, S, st, o, (Post.out (R := RB σ) q).mono fun v H1 ⟨F1, d, S1, st1, g1, o1, r1, p1⟩ => by
    cases r1
    cases v with
    | true => exact ⟨F1, S1, st1, o1, p1⟩
    | false => exact ⟨F1, S1, st1, o1, p1⟩⟩

/-! ### stores -/
def setD (i : Nat) (d : D) (S : Sls) : Sls := S.set i (.d d)
def sV (i : Nat) (f : Ev D) : EvS := fun S st => (f S st).out fun d S st => .nx (S.set i (.d d)) st
theorem ds_v {i : Nat} {x : Str} {px : Pos} {f : Ev D} (nd : X.N.Nodup) (h : DE X B W e f) (hi : X.N[i]? = some x := by rfl) (hx : Loc X.env.scope x := by first | exact .inl rfl | exact .inr rfl) (hs : swapsWith e (some (.Name x px)) pos.line X.env = pure false := by rfl)
    (hf : X.fn x = true ∨ X.env.scope.names.lookup x = some .local := by first | exact .inl rfl | exact .inr rfl) : DS X B W (.Assign [.Name x px] e pos) (sV i f) :=
  ps_imp (ps_set (i := i) nd hi hx h hs hf) fun D σ H ⟨F, S, st, o, q⟩ => ⟨F, S, st, o, (Post.out (R := RD (Cx.g X) σ) q).mono fun v H1 ⟨F1, d, S1, st1, g1, o1, r1, p1⟩ => p1 _ H1 F1 .refl (o1.set i r1)⟩
/-- a new object, the slot's own -/
def sO (i : Nat) (f : Ev Ow) : EvS := fun S st => (f S st).out fun w S st => .nx (S.set i (.own w)) st
theorem postF_own {G : Gx} {σ : L2.St} {F : Fz} {Dn : Ends} {i : Nat} {r : Res Ow} (q : PostS G B W F Dn (r.out fun w S st => .nx (S.set i (.own w)) st)) : PostF G B W σ F (fun v H1 => Dn.nx (σ.set i (some v)) H1) r := by
  cases r with
  | ok w S1 st1 => exact fun p u H' F' g o1 hu hF hB r hm no => q _ H' F' g (o1.setOwnAt i hu hF hB hm r no)
  | exc x S1 st1 => exact fun c d H' F' g o r => q c d σ H' F' g o r
  | stuck => exact q
theorem ds_o {i : Nat} {x : Str} {px : Pos} {f : Ev Ow} (nd : X.N.Nodup) (h : DF X B W e f) (hi : X.N[i]? = some x := by rfl) (hx : Loc X.env.scope x := by first | exact .inl rfl | exact .inr rfl) (hs : swapsWith e (some (.Name x px)) pos.line X.env = pure false := by rfl)
    (hf : X.fn x = true ∨ X.env.scope.names.lookup x = some .local := by first | exact .inl rfl | exact .inr rfl) : DS X B W (.Assign [.Name x px] e pos) (sO i f) :=
  ps_imp (ps_set (i := i) nd hi hx h hs hf) fun D σ H ⟨F, S, st, o, q⟩ => ⟨F, S, st, o, postF_own q⟩
/-- targets by data -/
abbrev Tg := D → Sls → Option Sls
def liftG (G : Gx) (B : Hp) (g : Tg) : TG := fun v σ H Q => ∃ F S st d S', Ok G B F σ H S st ∧ Rp G F v d ∧ g d S = some S' ∧ ∀ σ' H' F', Gr B F F' → Ok G B F' σ' H' S' st → Q σ' H'
def liftGs (G : Gx) (B : Hp) (g : List D → Sls → Option Sls) : TGs := fun vs σ H Q => ∃ F S st ds S', Ok G B F σ H S st ∧ RpAll G F vs ds ∧ g ds S = some S' ∧ ∀ σ' H' F', Gr B F F' → Ok G B F' σ' H' S' st → Q σ' H'
def DG (X : Cx) (B : Hp) (e : Expr) (g : Tg) : Prop := PG X e (liftG (Cx.g X) B g)
def DGs (X : Cx) (B : Hp) (es : List Expr) (g : List D → Sls → Option Sls) : Prop := PGs X es (liftGs (Cx.g X) B g)
theorem pg_imp {X : Cx} {e : Expr} {t t' : TG} (h : PG X e t) (i : ∀ v σ H Q, t' v σ H Q → t v σ H Q) : PG X e t' := ⟨fun pins s σ H v u Q I r q => h.run pins s σ H v u Q I r (i v σ H Q q)⟩
theorem pgs_imp {X : Cx} {es : List Expr} {t t' : TGs} (h : PGs X es t) (i : ∀ v σ H Q, t' v σ H Q → t v σ H Q) : PGs X es t' := ⟨fun pins s σ H v u Q I r q => h.run pins s σ H v u Q I r (i v σ H Q q)⟩
def gV (i : Nat) : Tg := fun d S => some (S.set i (.d d))
theorem dg_v {i : Nat} {x : Str} {px : Pos} (nd : X.N.Nodup) (hi : X.N[i]? = some x := by rfl) (hx : Loc X.env.scope x := by first | exact .inl rfl | exact .inr rfl) (hf : X.fn x = true ∨ X.env.scope.names.lookup x = some .local := by first | exact .inl rfl | exact .inr rfl) : DG X B (.Name x px) (gV i) :=
  pg_imp (pg_name nd hi hx hf) fun v σ H Q ⟨F, S, st, d, S', o, r, e, q⟩ => by
    cases e
    exact q _ H F .refl (o.set i r)
def gN : List D → Sls → Option Sls := fun ds S => match ds with
  | [] => some S
  | _ => none
def gC (g : Tg) (gs : List D → Sls → Option Sls) : List D → Sls → Option Sls := fun ds S => match ds with
  | d :: r => match g d S with
    | some S' => gs r S'
    | none => none
  | [] => none
theorem dgs_n : DGs X B [] gN := pgs_imp pgs_nil fun vs σ H Q ⟨F, S, st, ds, S', o, r, e, q⟩ => by
  cases r with
  | nil => cases e; exact ⟨rfl, q σ H F .refl o⟩
  | cons _ _ => cases e
theorem dgs_c {g : Tg} {gs : List D → Sls → Option Sls} (h : DG X B e g) (t : DGs X B es gs) (hs : (assignEach (e :: es) X.env).map (·.2) = assign e X.env :: (assignEach es X.env).map (·.2) := by rfl) : DGs X B (e :: es) (gC g gs) :=
  pgs_imp (pgs_cons h t hs) fun vs σ H Q ⟨F, S, st, ds, S', o, r, e, q⟩ => by
    cases r with
    | nil => cases e
    | cons r1 r2 =>
      unfold gC at e
      simp only at e
      split at e
      · rename_i S1 hS1
        exact ⟨_, _, rfl, F, S, st, _, S1, o, r1, hS1, fun σ' H' F' g o' => ⟨F', S1, st, _, S', o', r2.mono g.1, e, fun σ2 H2 F2 g2 o2 => q σ2 H2 F2 (g.trans g2) o2⟩⟩
      · cases e
def gT (n : Nat) (gs : List D → Sls → Option Sls) : Tg := fun d S => match d with
  | .tup ds => if ds.length = n then gs ds S else none
  | _ => none
theorem dg_t {n : Nat} {k : Nat} {gs : List D → Sls → Option Sls} (hc : X.calm = true) (h : DGs X B es gs) (hn : (assignEach es X.env).length = n := by rfl) (hst : (assignEach es X.env).findIdx? (·.1) = none := by rfl) : DG X B (.Tuple es k pos) (gT n gs) :=
  pg_imp (pg_tup hc h hn hst) fun v σ H Q ⟨F, S, st, d, S', o, r, e, q⟩ => by
    unfold gT at e
    split at e
    · split at e
      · rename_i hl
        cases r with
        | tup h1 h2 =>
          exact ⟨_, _, rfl, same_seqT o.fH h1, by rw [h2.length]; exact hl, F, S, st, _, S', o, h2, e, q⟩
      · cases e
    · cases e
def sG (g : Tg) (f : Ev D) : EvS := fun S st => (f S st).out fun d S st => match g d S with
  | some S' => .nx S' st
  | none => .stuck
theorem ds_g {tg : Expr} {g : Tg} {f : Ev D} (h : DE X B W e f) (hg : DG X B tg g) (hs : swapsWithSole [tg] e pos.line X.env = pure false := by rfl) (hw : swappedStores [tg] e X.env = pure none := by rfl)
    (h1 : (assignEach [tg] X.env).map (·.2) = [assign tg X.env] := by rfl) : DS X B W (.Assign [tg] e pos) (sG g f) :=
  ps_imp (ps_asg h hg hs hw h1) fun D σ H ⟨F, S, st, o, q⟩ => ⟨F, S, st, o, (Post.out (R := RD (Cx.g X) σ) q).mono fun v H1 ⟨F1, d, S1, st1, g1, o1, r1, p1⟩ => by
    split at p1
    · rename_i S' hS
      exact ⟨F1, S1, st1, d, S', o1, r1, hS, fun σ' H' F' g o' => p1 σ' H' F' g o'⟩
    · exact p1.elim⟩
/-- x op= e, ints and texts -/
def sAug (i : Nat) (op : D → D → Option D) (f : Ev Opd) : EvS := fun S st => match S[i]? with
  | some (.d x) => (f S st).out fun y S st => match vw S st y with
    | some y => match op x y with
      | some z => .nx (S.set i (.d z)) st
      | none => .stuck
    | none => .stuck
  | _ => .stuck
theorem ds_aug {i : Nat} {x : Str} {px : Pos} {o : Operator} {r : R2} {op : D → D → Option D} {f : Ev Opd} (ho : PIp X o r) (hop : Op2 (Cx.g X) r op) (nd : X.N.Nodup) (h : DO X B W e f)
    (hi : X.N[i]? = some x := by rfl) (hx : Loc X.env.scope x := by first | exact .inl rfl | exact .inr rfl) (hf : X.fn x = true ∨ X.env.scope.names.lookup x = some .local := by first | exact .inl rfl | exact .inr rfl) :
    DS X B W (.AugAssign (.Name x px) o e pos) (sAug i op f) :=
  ps_imp (ps_aug nd hi hx h ho hf) fun D σ H ⟨F, S, st, o, q⟩ => by
    unfold sAug at q
    split at q
    · rename_i d hd
      obtain ⟨v, e1, rv⟩ := o.sl i _ hd
      refine ⟨v, e1, F, S, st, o, (Post.out (R := RO (Cx.g X) σ) q).mono fun y H1 ⟨F1, d1, S1, st1, g1, o1, r1, p1⟩ => ?_⟩
      split at p1
      · rename_i y' hy
        split at p1
        · rename_i z hz
          exact hop F1 H1 v y d y' z o1.fH (.inl (rv.mono g1.1)) (o1.vw r1 hy) hz _ fun v' H' F' k f gr rr => p1 _ H' _ (o1.gr gr) ((o1.grow gr k f).set i rr)
        · exact p1.elim
      · exact p1.elim
    · exact q.elim

/-! ### what is walked -/
def Walks (G : Gx) (J : It) (F : Fz) (ds : List D) : Prop := ∀ (F' : Fz) H', SmF F F' → Same F'.f H' → ∀ i, (i < ds.length → J.go i H') ∧ (ds.length ≤ i → J.stop i H') ∧
  ∀ d, ds[i]? = some d → ∀ x H2, J.yld i H' x H2 → ∃ f2, Same H' H2 ∧ Same f2 H2 ∧ GrH H' F'.f f2 ∧ Rp G ⟨f2, F'.m⟩ x d
def RW (G : Gx) : L2.St → Fz → It → List D → Prop := fun _ F J ds => Walks G J F ds
def DI (X : Cx) (B : Hp) (W : WX) (tg iter : Expr) (f : Ev (List D)) : Prop := PI X tg iter (lift (Cx.g X) B W (RW (Cx.g X)) f)
theorem pi_imp {X : Cx} {tg iter : Expr} {t t' : TI} (h : PI X tg iter t) (i : ∀ σ H R, t' σ H R → t σ H R) : PI X tg iter t' := ⟨fun pins s σ H R I q => h.run pins s σ H R I (i σ H R q)⟩
def forL (g : Tg) (body : EvS) : List D → EvS
  | [], S, st => .nx S st
  | d :: r, S, st => match g d S with
    | some S1 => match body S1 st with
      | .nx S2 st2 => forL g body r S2 st2
      | .ct S2 st2 => forL g body r S2 st2
      | .rto w S2 st2 => .rto w S2 st2
      | .bk S2 st2 => .nx S2 st2
      | .ret v S2 st2 => .ret v S2 st2
      | .exc x S2 st2 => .exc x S2 st2
      | .stuck => .stuck
    | none => .stuck
def sF (f : Ev (List D)) (g : Tg) (body : EvS) : EvS := fun S st => (f S st).out fun ds S st => forL g body ds S st
theorem ds_f {tg iter : Expr} {body : List Stmt} {f : Ev (List D)} {g : Tg} {fb : EvS} (hp : PassesOwn (model X.prog X.w) X.A X.env X.xe) (hc : X.calm = true) (hi : DI X B W tg iter f) (hg : DG X B tg g) (hb : DSs X B W body fb)
    (hs : ∀ x, foldedSetIterable iter X.env x = pure x := by intro _; rfl) : DS X B W (.For tg iter body [] pos) (sF f g fb) :=
  ps_imp (ps_for hp hc hi hg hb hs) fun D σ H ⟨F, S, st, o, q⟩ => ⟨F, S, st, o, (Post.out (R := RW (Cx.g X) σ) q).mono fun J H1 ⟨F1, ds, S1, st1, g1, o1, r1, p1⟩ => by
    refine ⟨fun i m σ H => i ≤ ds.length ∧ m = ds.length - i ∧ ∃ F' S' st', Gr B F1 F' ∧ Ok (Cx.g X) B F' σ H S' st' ∧ PostS (Cx.g X) B W F' D (forL g fb (ds.drop i) S' st'), ⟨ds.length, Nat.zero_le _, by simp, F1, S1, st1, .refl, o1, by simpa using p1⟩, ?_⟩
    rintro i m σ2 H2 ⟨hi2, rfl, F2, S2, st2, g2, o2, p2⟩
    obtain ⟨wgo, wstop, wyld⟩ := r1 F2 H2 g2.1 o2.fH i
    by_cases hlt : i < ds.length
    · have hd : ds.drop i = ds[i] :: ds.drop (i + 1) := List.drop_eq_getElem_cons hlt
      rw [hd] at p2
      simp only [forL] at p2
      refine .inr ⟨wgo hlt, fun σ' H' => ∃ F' S' st', Gr B F1 F' ∧ Ok (Cx.g X) B F' σ' H' S' st' ∧ PostS (Cx.g X) B W F' D (forL g fb (ds.drop (i + 1)) S' st'), fun σ' H' ⟨F', S', st', a, b, c⟩ => ⟨ds.length - (i + 1), by omega, hlt, rfl, F', S', st', a, b, c⟩, fun x H' hy => ?_⟩
      obtain ⟨F3, k3, f3, gr3, rx⟩ := wyld _ (List.getElem?_eq_getElem hlt) x H' hy
      split at p2
      · rename_i S3 hS3
        refine ⟨_, S2, st2, ds[i], S3, o2.grow gr3 k3 f3, rx, hS3, fun σ4 H4 F4 g4 o4 => ⟨F4, S3, st2, o4, ?_⟩⟩
        have gg : Gr B F2 F4 := (o2.gr gr3).trans g4
        revert p2
        generalize fb S3 st2 = r
        intro p2
        cases r with
        | nx S5 st5 => exact fun σ5 H5 F5 g5 o5 => ⟨F5, S5, st5, g2.trans (gg.trans g5), o5, PostS.grow (gg.trans g5) p2⟩
        | ct S5 st5 => exact fun σ5 H5 F5 g5 o5 => ⟨F5, S5, st5, g2.trans (gg.trans g5), o5, PostS.grow (gg.trans g5) p2⟩
        | rto w5 S5 st5 => exact fun p5 u5 σ5 H5 F5 g5 o5 => p2 p5 u5 σ5 H5 F5 (gg.trans g5) o5
        | bk S5 st5 => exact fun σ5 H5 F5 g5 o5 => p2 σ5 H5 F5 (gg.trans g5) o5
        | ret v S5 st5 => exact fun v' σ5 H5 F5 g5 o5 r5 => p2 v' σ5 H5 F5 (gg.trans g5) o5 r5
        | exc y S5 st5 => exact fun c' d' σ5 H5 F5 g5 o5 r5 => p2 c' d' σ5 H5 F5 (gg.trans g5) o5 r5
        | stuck => exact p2
      · exact p2.elim
    · have e : i = ds.length := by omega
      subst e
      rw [List.drop_length] at p2
      exact .inl ⟨wstop (Nat.le_refl _), p2 σ2 H2 F2 .refl o2⟩⟩

/-! ### while -/
/-- n turns at most -/
def whN (c : Ev Bool) (b : EvS) : Nat → EvS
  | 0, _, _ => .stuck
  | n + 1, S, st => (c S st).out fun k S st => if k = true then
      match b S st with
      | .nx S2 st2 => whN c b n S2 st2
      | .ct S2 st2 => whN c b n S2 st2
      | .rto w S2 st2 => .rto w S2 st2
      | .bk S2 st2 => .nx S2 st2
      | .ret v S2 st2 => .ret v S2 st2
      | .exc x S2 st2 => .exc x S2 st2
      | .stuck => .stuck
    else .nx S st
open Classical in
noncomputable def sW (c : Ev Bool) (b : EvS) : EvS := fun S st => if h : ∃ n, whN c b n S st ≠ .stuck then whN c b (Classical.choose h) S st else .stuck
theorem ds_w {body : List Stmt} {t : Ev Bool} {fb : EvS} (hp : PassesOwn (model X.prog X.w) X.A X.env X.xe) (ht : DT X B W c t) (hb : DSs X B W body fb) : DS X B W (.While c body [] pos) (sW t fb) :=
  ps_imp (ps_while hp ht hb) fun D σ H ⟨F, S, st, o, q⟩ => by
    unfold sW at q
    split at q
    · rename_i hex
      revert q
      generalize Classical.choose hex = n
      intro q
      refine ⟨fun m σ H => ∃ F S st, Ok (Cx.g X) B F σ H S st ∧ PostS (Cx.g X) B W F D (whN t fb m S st), ⟨n, F, S, st, o, q⟩, ?_⟩
      rintro m σ2 H2 ⟨F2, S2, st2, o2, p2⟩
      cases m with
      | zero => exact p2.elim
      | succ m =>
        refine ⟨F2, S2, st2, o2, (Post.out (R := RB σ2) p2).mono fun k H3 ⟨F3, d, S3, st3, g3, o3, r3, p3⟩ => ?_⟩
        cases r3
        cases k with
        | false => exact p3 σ2 H3 F3 .refl o3
        | true =>
          refine iteT ⟨fun σ' H' => ∃ F S st, Ok (Cx.g X) B F σ' H' S st ∧ PostS (Cx.g X) B W F D (whN t fb m S st), fun σ' H' h => ⟨m, Nat.lt_succ_self _, h⟩, F3, S3, st3, o3, ?_⟩
          simp only [if_true] at p3
          revert p3
          generalize fb S3 st3 = r
          intro p2
          cases r with
          | nx S5 st5 => exact fun σ5 H5 F5 g5 o5 => ⟨F5, S5, st5, o5, PostS.grow g5 p2⟩
          | ct S5 st5 => exact fun σ5 H5 F5 g5 o5 => ⟨F5, S5, st5, o5, PostS.grow g5 p2⟩
          | rto w5 S5 st5 => exact p2
          | bk S5 st5 => exact p2
          | ret v S5 st5 => exact p2
          | exc y S5 st5 => exact p2
          | stuck => exact p2
    · exact q.elim
end
/-- more turns don't harm -/
theorem whN_mono {c : Ev Bool} {b : EvS} : ∀ {n : Nat} {S : Sls} {st : Store}, whN c b n S st ≠ .stuck → ∀ m, n ≤ m → whN c b m S st = whN c b n S st
  | 0, _, _, h, _, _ => absurd rfl h
  | n + 1, S, st, h, m, hm => by
    obtain ⟨m, rfl⟩ : ∃ k, m = k + 1 := ⟨m - 1, by omega⟩
    simp only [whN] at h ⊢
    cases hc : c S st with
    | stuck => rfl
    | exc x S1 st1 => rfl
    | ok k S1 st1 =>
      rw [hc] at h
      simp only [Res.out_ok] at h ⊢
      cases k with
      | false => rfl
      | true =>
        simp only [if_true] at h ⊢
        cases hb : b S1 st1 with
        | nx S2 st2 => rw [hb] at h; exact whN_mono h m (by omega)
        | ct S2 st2 => rw [hb] at h; exact whN_mono h m (by omega)
        | _ => rfl
theorem sW_of {c : Ev Bool} {b : EvS} {n : Nat} {S : Sls} {st : Store} {r : Out} (h : whN c b n S st = r) (hr : r ≠ .stuck) : sW c b S st = r := by
  have hx : ∃ n, whN c b n S st ≠ .stuck := ⟨n, by rw [h]; exact hr⟩
  unfold sW
  rw [dif_pos hx]
  have h1 := Classical.choose_spec hx
  have h2 : whN c b n S st ≠ .stuck := by rw [h]; exact hr
  rw [← h, ← whN_mono h1 (max (Classical.choose hx) n) (Nat.le_max_left _ _), whN_mono h2 _ (Nat.le_max_right _ _)]
/-- one turn -/
theorem sW_eq (c : Ev Bool) (b : EvS) (S : Sls) (st : Store) : sW c b S st = (c S st).out fun k S st => if k = true then
      match b S st with
      | .nx S2 st2 => sW c b S2 st2
      | .ct S2 st2 => sW c b S2 st2
      | .rto w S2 st2 => .rto w S2 st2
      | .bk S2 st2 => .nx S2 st2
      | .ret v S2 st2 => .ret v S2 st2
      | .exc x S2 st2 => .exc x S2 st2
      | .stuck => .stuck
    else .nx S st := by
  by_cases hx : ∃ n, whN c b n S st ≠ .stuck
  · obtain ⟨n, hn⟩ := hx
    rw [sW_of rfl hn]
    cases n with
    | zero => exact absurd rfl hn
    | succ n =>
      simp only [whN] at hn ⊢
      cases hc : c S st with
      | stuck => rfl
      | exc x S1 st1 => rfl
      | ok k S1 st1 =>
        rw [hc] at hn
        simp only [Res.out_ok] at hn ⊢
        cases k with
        | false => rfl
        | true =>
          simp only [if_true] at hn ⊢
          cases hb : b S1 st1 with
          | nx S2 st2 => rw [hb] at hn; exact (sW_of rfl hn).symm
          | ct S2 st2 => rw [hb] at hn; exact (sW_of rfl hn).symm
          | _ => rfl
  · have hs : sW c b S st = .stuck := by unfold sW; rw [dif_neg hx]
    rw [hs]
    have all : ∀ n, whN c b n S st = .stuck := fun n => Classical.byContradiction fun z => hx ⟨n, z⟩
    cases hc : c S st with
    | stuck => rfl
    | exc x S1 st1 => have := all 1; simp only [whN, hc] at this; cases this
    | ok k S1 st1 =>
      simp only [Res.out_ok]
      cases k with
      | false => have := all 1; simp only [whN, hc, Res.out_ok] at this; cases this
      | true =>
        simp only [if_true]
        have st' : ∀ n, (match b S1 st1 with
          | .nx S2 st2 => whN c b n S2 st2
          | .ct S2 st2 => whN c b n S2 st2
          | .rto w S2 st2 => .rto w S2 st2
          | .bk S2 st2 => .nx S2 st2
          | .ret v S2 st2 => .ret v S2 st2
          | .exc x S2 st2 => .exc x S2 st2
          | .stuck => .stuck) = Out.stuck := fun n => by have := all (n + 1); simp only [whN, hc, Res.out_ok, if_true] at this; exact this
        cases hb : b S1 st1 with
        | nx S2 st2 =>
          rw [hb] at st'
          have : ¬ ∃ n, whN c b n S2 st2 ≠ .stuck := fun ⟨n, z⟩ => z (st' n)
          show Out.stuck = sW c b S2 st2
          unfold sW; rw [dif_neg this]
        | ct S2 st2 =>
          rw [hb] at st'
          have : ¬ ∃ n, whN c b n S2 st2 ≠ .stuck := fun ⟨n, z⟩ => z (st' n)
          show Out.stuck = sW c b S2 st2
          unfold sW; rw [dif_neg this]
        | bk S2 st2 => rw [hb] at st'; have := st' 0; cases this
        | ret v S2 st2 => rw [hb] at st'; have := st' 0; cases this
        | rto w S2 st2 => rw [hb] at st'; have := st' 0; cases this
        | exc x S2 st2 => rw [hb] at st'; have := st' 0; cases this
        | stuck => rfl
end DL

namespace DL
open PySem PySem.Spec PyProof.Rows L2

/-! ### list comprehensions -/
def wipeS (S : Sls) : List Nat → Sls
  | [] => S
  | v :: vs => (wipeS S vs).set v .no
theorem wipeS_length (S : Sls) : ∀ vs : List Nat, (wipeS S vs).length = S.length
  | [] => rfl
  | v :: vs => by unfold wipeS; rw [List.length_set, wipeS_length S vs]
section
variable {G : Gx} {B : Hp} {F : Fz} {H : Hp} {σ : L2.St} {S : Sls} {st : Store}
theorem Ok.wipe (o : Ok G B F σ H S st) : ∀ vs : List Nat, Ok G B F (L2.wipe σ vs) H (wipeS S vs) st
  | [] => o
  | v :: vs => (Ok.wipe o vs).any v none
theorem wipeS_no : ∀ {vs : List Nat} {S : Sls} {i : Nat}, i ∈ vs → ∀ s, (wipeS S vs)[i]? = some s → s = .no
  | v :: vs, S, i, h, s, e => by
    unfold wipeS at e
    by_cases hv : v = i
    · have hi := set_lt e hv
      subst hv
      rw [List.getElem?_set_self hi] at e
      cases e; rfl
    · rw [List.getElem?_set_ne hv] at e
      exact wipeS_no ((List.mem_cons.mp h).resolve_left fun z => hv z.symm) s e
/-- the block's end: its slots are not told of -/
theorem Ok.unwipe {vs : List Nat} (o : Ok G B F (L2.wipe σ vs) H S st) (hS : ∀ i ∈ vs, ∀ s, S[i]? = some s → s = .no) : Ok G B F σ H S st := by
  have get : ∀ (i : Nat) (p : V), i ∉ vs → (σ[i]? = some (some p) ↔ (L2.wipe σ vs)[i]? = some (some p)) := fun i p h => by rw [wipe_out h]
  refine ⟨o.fH, o.kp, o.so, by rw [← o.len, wipe_length], fun i s e => ?_, fun i j ds es p e1 e2 e3 e4 => ?_⟩
  · by_cases hi : i ∈ vs
    · rw [hS i hi s e]; trivial
    · have h := o.sl i s e
      rw [wipe_out hi] at h
      exact h
  · have h1 : i ∉ vs := fun z => by have := hS i z _ e1; cases this
    have h2 : j ∉ vs := fun z => by have := hS j z _ e2; cases this
    exact o.ap i j ds es p e1 e2 (by rw [wipe_out h1]; exact e3) (by rw [wipe_out h2]; exact e4)
/-- an object beside the state is kept -/
theorem Ok.pin (o : Ok G B F σ H S st) {D : Addr} {u : HO} (hD : H D = some u) (hF : F D = none) (hm : D ∉ F.m) (no : ∀ (j : Nat) (es : Ow), S[j]? = some (.own es) → σ[j]? ≠ some (some (.ref D))) : Ok G (upd B D u) F σ H S st := by
  refine ⟨o.fH, fun b v q => ?_, ⟨o.so.ml, o.so.mn, fun n x a e1 e2 => ?_⟩, o.len, fun i s e => ?_, o.ap⟩
  · by_cases z : b = D
    · subst z; rw [upd_same] at q; cases q; exact hD
    · rw [upd_ne z] at q; exact o.kp _ _ q
  · obtain ⟨h1, h2, h3⟩ := o.so.ob n x a e1 e2
    have z : a ≠ D := fun z => hm (by rw [← z]; exact List.mem_of_getElem? e2)
    exact ⟨h1, by rw [upd_ne z]; exact h2, h3⟩
  · have h := o.sl i s e
    cases s with
    | no => trivial
    | d x => exact h
    | own w =>
      obtain ⟨p, u', e1, h1, h2, h3, r, nm⟩ := h
      have : p ≠ D := fun z => no i _ e (by rw [e1, z])
      exact ⟨p, u', e1, h1, h2, by rw [upd_ne this]; exact h3, r, nm⟩
theorem Ok.unpin {D : Addr} {u u' : HO} (o : Ok G (upd B D u) F σ H S st) (hB : B D = none) (hF : F D = none) (hno : ∀ x : Addr, u ≠ HO.own x) : Ok G B F σ (upd H D u') S st ∧ (∀ (j : Nat) (es : Ow), S[j]? = some (.own es) → σ[j]? ≠ some (some (.ref D))) ∧ D ∉ F.m := by
  have hD : H D = some u := o.kp D u upd_same
  have no : ∀ (j : Nat) (es : Ow), S[j]? = some (.own es) → σ[j]? ≠ some (some (.ref D)) := fun j es e z => by
    obtain ⟨p, u', e1, h1, h2, h3, r⟩ := o.sl j _ e
    rw [z] at e1; cases e1
    rw [upd_same] at h3; cases h3
  have hm : D ∉ F.m := fun z => by
    obtain ⟨_, _, n, x, _, _, q, _⟩ := o.so.mem z
    rw [upd_same] at q; cases q
  refine ⟨⟨fun b v q => ?_, fun b v q => ?_, ⟨o.so.ml, o.so.mn, fun n x a e1 e2 => ?_⟩, o.len, fun i s e => ?_, o.ap⟩, no, hm⟩
  · rw [upd_ne (ne_of_none q hF)]; exact o.fH _ _ q
  · have hb := ne_of_none q hB
    rw [upd_ne hb]; exact o.kp _ _ (by rw [upd_ne hb]; exact q)
  · obtain ⟨h1, h2, h3⟩ := o.so.ob n x a e1 e2
    have z : a ≠ D := fun z => hm (by rw [← z]; exact List.mem_of_getElem? e2)
    rw [upd_ne z] at h2
    exact ⟨h1, h2, h3.chg z (fun x q => hno x (by rw [hD] at q; exact Option.some.inj q))⟩
  · have h := o.sl i s e
    cases s with
    | no => trivial
    | d x => exact h
    | own w =>
      obtain ⟨p, u', e1, h1, h2, h3, r, nm⟩ := h
      have hp : p ≠ D := fun z => no i _ e (by rw [e1, z])
      rw [upd_ne hp] at h3
      exact ⟨p, u', e1, by rw [upd_ne hp]; exact h1, h2, h3, r, nm⟩
theorem Gr.unpin {D : Addr} {u : HO} {F F' : Fz} (g : Gr (upd B D u) F F') (hB : B D = none) (hF : F D = none) : Gr B F F' ∧ F' D = none := by
  refine ⟨⟨g.1, fun a h h' => ?_⟩, ?_⟩
  · have := g.2 a h h'
    by_cases z : a = D
    · rw [z]; exact hB
    · rw [upd_ne z] at this; exact this
  · cases q : F' D with
    | none => rfl
    | some v =>
      have := g.2 D hF (by rw [q]; simp)
      rw [upd_same] at this; cases this
end
/-- the elements, one by one; own: the block's slots -/
def lcL (g : Tg) (own : List Nat) (t : Ev Bool) (f : Ev D) : List D → Ev (List D)
  | [], S, st => .ok [] S st
  | d :: r, S, st => match g d S with
    | some S1 => (t S1 st).calm.bind fun b S2 st2 => if b = true then
        (f S2 st2).calm.bind fun y S3 st3 => (lcL g own t f r (wipeS S3 own) st3).bind fun ys S4 st4 => .ok (y :: ys) S4 st4
      else lcL g own t f r (wipeS S2 own) st2
    | none => .stuck
def tY : Ev Bool := fun S st => .ok true S st
/-- behind the block: what stood in its slots ahead of it -/
def restS (S0 : List Sl) : List Nat → List Sl → List Sl
  | [], S => S
  | i :: r, S => match S0[i]? with
    | some (.d x) => restS S0 r (S.set i (.d x))
    | _ => restS S0 r S
theorem Ok.put {G : Gx} {B : Hp} {F : Fz} {H : Hp} {σ : L2.St} {S : List Sl} {st : Store} (o : Ok G B F σ H S st) {i : Nat} {v : V} {x : D} (e : σ[i]? = some (some v)) (r : Rp G F v x) : Ok G B F σ H (S.set i (.d x)) st := by
  have := o.set i r
  rwa [show σ.set i (some v) = σ from by
    obtain ⟨h1, h2⟩ := List.getElem?_eq_some_iff.mp e
    rw [← h2, List.set_getElem_self]] at this
theorem Ok.rest {G : Gx} {B : Hp} {F F' : Fz} {H H' : Hp} {σ : L2.St} {S0 : List Sl} {st0 st : Store} (o0 : Ok G B F σ H S0 st0) (e : SmF F F') : ∀ (own : List Nat) (S : List Sl), Ok G B F' σ H' S st → Ok G B F' σ H' (restS S0 own S) st
  | [], S, o => o
  | i :: r, S, o => by
    unfold restS
    split
    · rename_i x hx
      obtain ⟨v, e1, rv⟩ := o0.sl i _ hx
      exact Ok.rest o0 e r _ (o.put e1 (rv.mono e))
    · exact Ok.rest o0 e r S o
theorem restS_own {S0 : List Sl} : ∀ (own : List Nat) (S : List Sl) (j : Nat) (w : Ow), (restS S0 own S)[j]? = some (.own w) → S[j]? = some (.own w)
  | [], _, _, _, h => h
  | i :: r, S, j, w, h => by
    unfold restS at h
    split at h
    · have := restS_own r _ j w h
      by_cases hj : i = j
      · have hi := set_lt this hj
        subst hj
        rw [List.getElem?_set_self hi] at this; cases this
      · rw [List.getElem?_set_ne hj] at this; exact this
    · exact restS_own r S j w h
def lcF (fi : Ev (List D)) (g : Tg) (own : List Nat) (t : Ev Bool) (f : Ev D) : Ev Ow := fun S st => (fi S st).bind fun ds S st =>
  (lcL g own t f ds (wipeS S own) st).bind fun ys S' st => if ys.length ≤ 16777216 then .ok (.l ys) (restS S own S') st else .stuck
abbrev bX (X : Cx) (s : Shared) (H : Hp) (scope : Scope) (cl : List (Str × Addr)) (C : Addr) (fp : List Addr) : Cx := X.blk s H scope (compEnvC scope cl C X.env) fp
def DTs (X : Cx) (B : Hp) (W : WX) (es : List Expr) (f : Ev Bool) : Prop := PTs X es (lift (Cx.g X) B W RB f)
theorem pts_imp {X : Cx} {es : List Expr} {t t' : TT} (h : PTs X es t) (i : ∀ σ H Q, t' σ H Q → t σ H Q) : PTs X es t' := ⟨fun pins s σ H Q I q => h.run pins s σ H Q I (i σ H Q q)⟩
theorem dts_n {X : Cx} {B : Hp} {W : WX} : DTs X B W [] tY := pts_imp pts_nil fun σ H Q ⟨F, S, st, o, q⟩ => q true H F .refl o rfl
theorem dts_1 {X : Cx} {B : Hp} {W : WX} {e : Expr} {f : Ev Bool} (h : DT X B W e f) : DTs X B W [e] f := pts_one h
theorem calm_exc {α : Type} {r : Res α} {x : Exc} {S : Sls} {st : Store} (h : r.calm = .exc x S st) : False := by
  cases r <;> cases h
theorem lcL_noexc {g : Tg} {own : List Nat} {t : Ev Bool} {f : Ev D} : ∀ {ds : List D} {S : Sls} {st : Store} {x : Exc} {S' : Sls} {st' : Store}, lcL g own t f ds S st = .exc x S' st' → False
  | [], _, _, _, _, _, h => by cases h
  | d :: r, S, st, x, S', st', h => by
    simp only [lcL] at h
    split at h
    · rename_i S1 _
      cases ht : (t S1 st).calm with
      | exc _ _ _ => exact calm_exc ht
      | stuck => rw [ht] at h; cases h
      | ok b S2 st2 =>
        rw [ht, Res.bind_ok] at h
        split at h
        · cases hf : (f S2 st2).calm with
          | exc _ _ _ => exact calm_exc hf
          | stuck => rw [hf] at h; cases h
          | ok y S3 st3 =>
            rw [hf, Res.bind_ok] at h
            cases hl : lcL g own t f r (wipeS S3 own) st3 with
            | ok ys S4 st4 => rw [hl] at h; cases h
            | stuck => rw [hl] at h; cases h
            | exc x2 S4 st4 => exact lcL_noexc hl
        · exact lcL_noexc h
    · cases h
theorem lc_lift {X : Cx} {B : Hp} {W : WX} {fi : Ev (List D)} {g : Tg} {own : List Nat} {t : Ev Bool} {f : Ev D} {gV : TG} {tt : TT} {te : TE}
    (ht : ∀ B σ H Q, lift (Cx.g X) B W0 RB t σ H Q → tt σ H Q) (he : ∀ B σ H Q, lift (Cx.g X) B W0 (RD (Cx.g X)) f σ H Q → te σ H Q)
    (hgB : ∀ B' v σ H Q, liftG (Cx.g X) B' g v σ H Q → ∀ Q', (∀ σ' H', Q σ' H' → wipe σ' own = wipe σ own → Q' σ' H') → gV v σ H Q')
    {σ : L2.St} {H : Hp} {Q : VK} (q : liftF (Cx.g X) B W (lcF fi g own t f) σ H Q) : tLc (lift (Cx.g X) B W (RW (Cx.g X)) fi) gV tt te own σ H Q := by
  obtain ⟨F, S, st, o, q⟩ := q
  refine ⟨F, S, st, o, (PostF.bind (R := RW (Cx.g X) σ) q).mono fun J H1 ⟨F1, ds, S1, st1, g1, o1, r1, p1⟩ Da hD => ?_⟩
  -- what is left to do, and what it comes to
  let Tot : List D → Res (List D) → Prop := fun acc r => PostF (Cx.g X) B W σ F1 Q (r.bind fun ys S st => if (acc ++ ys).length ≤ 16777216 then .ok (.l (acc ++ ys)) (restS S1 own S) st else .stuck)
  let Wv : Nat → Nat → Hp → Prop := fun i m H' => i ≤ ds.length ∧ m = ds.length - i ∧ ∃ acc xs F' S' st', Gr B F1 F' ∧ Ok (Cx.g X) B F' (wipe σ own) H' S' st' ∧ (∀ i ∈ own, ∀ s, S'[i]? = some s → s = .no) ∧
    H' Da = some (.lst xs) ∧ RpAll (Cx.g X) F' xs acc ∧ F' Da = none ∧ B Da = none ∧ Da ∉ F'.m ∧ (∀ (j : Nat) (es : Ow), S'[j]? = some (.own es) → (wipe σ own)[j]? ≠ some (some (.ref Da))) ∧ Tot acc (lcL g own t f (ds.drop i) S' st')
  have hF1 : F1 Da = none := o1.fH.free hD
  have hBD : B Da = none := o1.kp.free hD
  refine ⟨Wv, ⟨ds.length, Nat.zero_le _, by simp, [], [], F1, wipeS S1 own, st1, .refl, ?_, fun i hi s e => wipeS_no hi s e, upd_same, .nil, hF1, hBD, o1.so.new hD, ?_, by simpa [Tot] using p1⟩, ?_⟩
  · exact (o1.wipe own).junk (same_new hD)
  · intro j es e1 e2
    obtain ⟨p', xs', e3, h1, _⟩ := (o1.wipe own).sl j _ e1
    rw [e2] at e3; cases e3
    rw [hD] at h1; cases h1
  rintro i m H2 ⟨hi2, rfl, acc, xs, F2, S2, st2, g2, o2, n2, d2, ra, f2, b2, hm2, no2, p2⟩
  obtain ⟨wgo, wstop, wyld⟩ := r1 F2 H2 g2.1 o2.fH i
  by_cases hlt : i < ds.length
  · have hd : ds.drop i = ds[i] :: ds.drop (i + 1) := List.drop_eq_getElem_cons hlt
    rw [hd] at p2
    simp only [lcL, Tot] at p2
    refine .inr ⟨wgo hlt, fun H' => Wv (i + 1) (ds.length - (i + 1)) H', fun H' h => ⟨ds.length - (i + 1), by omega, h⟩, fun x H3 hy => ?_⟩
    obtain ⟨F3f, k3, f3, gr3, rx⟩ := wyld _ (List.getElem?_eq_getElem hlt) x H3 hy
    let F3 : Fz := ⟨F3f, F2.m⟩
    split at p2
    · rename_i S3 hS3
      have f3D : F3 Da = none := by
        cases z : F3 Da with
        | none => rfl
        | some v =>
          have := gr3.2 Da f2 (by rw [show F3f Da = _ from z]; simp)
          rw [d2] at this; cases this
      have o3 := (o2.grow gr3 k3 f3).pin (k3 _ _ d2) f3D hm2 no2
      have g23 : Gr B F2 F3 := o2.gr gr3
      refine hgB (upd B Da (.lst xs)) x _ _ (fun σ4 H4 => ∃ F4, Gr (upd B Da (.lst xs)) F3 F4 ∧ Ok (Cx.g X) (upd B Da (.lst xs)) F4 σ4 H4 S3 st2) ⟨F3, S2, st2, ds[i], S3, o3, rx, hS3, fun σ' H' F' gg oo => ⟨F', gg, oo⟩⟩ _ fun σ4 H4 ⟨F4, g4, o4⟩ hw => ?_
      have hw' : wipe σ4 own = wipe σ own := by
        rw [hw]
        have : ∀ vs : List Nat, wipe (wipe σ vs) vs = wipe σ vs := fun vs => by
          refine List.ext_getElem? fun j => ?_
          by_cases hj : j ∈ vs
          · have e1 : ∀ τ : L2.St, (wipe τ vs)[j]? = (τ[j]?).map fun _ => none := fun τ => by
              cases q1 : (wipe τ vs)[j]? with
              | none =>
                have : τ[j]? = none := by
                  rw [List.getElem?_eq_none_iff] at q1 ⊢
                  rwa [wipe_length] at q1
                rw [this]; rfl
              | some y =>
                have hl : j < τ.length := by
                  have := (List.getElem?_eq_some_iff.mp q1).1
                  rwa [wipe_length] at this
                rw [List.getElem?_eq_getElem hl]
                cases y with
                | none => rfl
                | some y => exact absurd hj (wipe_some q1).2
            rw [e1, e1]
            cases σ[j]? <;> rfl
          · rw [wipe_out hj]
        exact this own
      refine ⟨hw', ?_⟩
      -- the test
      refine ht (upd B Da (.lst xs)) σ4 H4 _ ⟨F4, S3, st2, o4, ?_⟩
      revert p2
      generalize t S3 st2 = r
      intro p2
      cases r with
      | stuck => exact p2
      | exc y S5 st5 => exact p2.elim
      | ok bb S5 st5 =>
        simp only [Res.calm_ok, Res.bind_ok] at p2
        intro b H5 F5 g5 o5 e5
        cases e5
        obtain ⟨g4', f4⟩ := g4.unpin hBD f3D
        obtain ⟨g5', f5⟩ := g5.unpin hBD f4
        have gAll : Gr B F2 F5 := g23.trans (g4'.trans g5')
        cases bb with
        | false =>
          refine (if_neg Bool.false_ne_true).mpr ?_
          simp only [Bool.false_eq_true, if_false] at p2
          have h5D : H5 Da = some (.lst xs) := o5.kp Da _ upd_same
          obtain ⟨o6, no6, hm6⟩ := Ok.unpin (u' := .lst xs) o5 hBD f5 (fun x z => by cases z)
          have e6 : upd H5 Da (.lst xs) = H5 := by
            funext b; by_cases z : b = Da
            · subst z; rw [upd_same, h5D]
            · rw [upd_ne z]
          rw [e6] at o6
          have o7 := o6.wipe own
          rw [hw'] at o7
          refine ⟨hlt, rfl, acc, xs, F5, wipeS S5 own, st5, g2.trans gAll, o7, fun i hi s e => wipeS_no hi s e, h5D, ra.mono gAll.1, f5, hBD, hm6, fun j es e1 e2 => ?_, p2⟩
          obtain ⟨p', u', e3, h1, _, h3, _⟩ := (o5.wipe own).sl j _ e1
          rw [hw', e2] at e3; cases e3
          rw [upd_same] at h3; cases h3
        | true =>
          refine (if_pos rfl).mpr ?_
          simp only [if_true] at p2
          refine he (upd B Da (.lst xs)) σ4 H5 _ ⟨F5, S5, st5, o5, ?_⟩
          revert p2
          generalize f S5 st5 = r2
          intro p2
          cases r2 with
          | stuck => exact p2
          | exc y S6 st6 => exact p2.elim
          | ok yy S6 st6 =>
            simp only [Res.calm_ok, Res.bind_ok] at p2
            intro y H6 F6 g6 o6 ry
            obtain ⟨g6', f6⟩ := g6.unpin hBD f5
            have gA : Gr B F2 F6 := gAll.trans g6'
            have h6D : H6 Da = some (.lst xs) := o6.kp Da _ upd_same
            obtain ⟨o7, no7, hm7⟩ := Ok.unpin (u' := .lst (xs ++ [y])) o6 hBD f6 (fun x z => by cases z)
            have o8 := o7.wipe own
            rw [hw'] at o8
            have p3 : Tot (acc ++ [yy]) (lcL g own t f (ds.drop (i + 1)) (wipeS S6 own) st6) := by
              show PostF _ _ _ _ _ _ _
              revert p2
              generalize lcL g own t f (ds.drop (i + 1)) (wipeS S6 own) st6 = r3
              intro p2
              cases r3 with
              | ok ys S7 st7 => simpa using p2
              | exc _ _ _ => exact p2
              | stuck => exact p2
            have hlen : acc.length < 16777216 := by
              have p4 := p3
              simp only [Tot] at p4
              revert p4
              generalize h3 : lcL g own t f (ds.drop (i + 1)) (wipeS S6 own) st6 = r3
              intro p4
              cases r3 with
              | ok ys S7 st7 =>
                simp only [Res.bind_ok] at p4
                split at p4
                · rename_i hh
                  simp at hh; omega
                · exact p4.elim
              | exc x' S' st' =>
                exfalso
                exact lcL_noexc h3
              | stuck => exact p4.elim
            refine ⟨xs, h6D, by rw [ra.length, sizeLine_eq]; exact hlen, hlt, rfl, acc ++ [yy], xs ++ [y], F6, wipeS S6 own, st6, g2.trans gA, o8, fun i hi s e => wipeS_no hi s e, upd_same, (ra.mono gA.1).append (.one ry), f6, hBD, hm7, fun j es e1 e2 => ?_, p3⟩
            obtain ⟨p', u', e3, h1, _, h3, _⟩ := (o6.wipe own).sl j _ e1
            rw [hw', e2] at e3; cases e3
            rw [upd_same] at h3; cases h3
    · exact p2.elim
  · have e : i = ds.length := by omega
    subst e
    rw [List.drop_length] at p2
    simp only [lcL, Tot, Res.bind_ok, List.append_nil] at p2
    refine .inl ⟨wstop (Nat.le_refl _), ?_⟩
    split at p2
    · have oo := o2.unwipe n2
      refine p2 Da (.lst xs) H2 F2 g2 (o1.rest g2.1 own S2 oo) d2 f2 hBD (.l ra) hm2 fun j es e1 e2 => ?_
      replace e1 := restS_own own S2 j es e1
      have hj : j ∉ own := fun z => by have := n2 j z _ e1; cases this
      exact no2 j es e1 (by rw [wipe_out hj]; exact e2)
    · exact p2.elim
end DL

namespace DL
open PySem PySem.Spec PyProof.Rows L2

/-! ### a block's targets -/
def TgB (G : Gx) (own : List Nat) (g : Tg) (gv : TG) : Prop := ∀ B v σ H Q, liftG G B g v σ H Q → ∀ Q', (∀ σ' H', Q σ' H' → wipe σ' own = wipe σ own → Q' σ' H') → gv v σ H Q'
def TgsB (G : Gx) (own : List Nat) (g : List D → Sls → Option Sls) (gv : TGs) : Prop := ∀ B v σ H Q, liftGs G B g v σ H Q → ∀ Q', (∀ σ' H', Q σ' H' → wipe σ' own = wipe σ own → Q' σ' H') → gv v σ H Q'
theorem wipe_set {i : Nat} {x : Option V} : ∀ {own : List Nat} {σ : L2.St}, i ∈ own → wipe (σ.set i x) own = wipe σ own
  | v :: vs, σ, h => by
    unfold wipe
    by_cases hv : i ∈ vs
    · rw [wipe_set hv]
    · have e : i = v := (List.mem_cons.mp h).resolve_right hv
      subst e
      have : ∀ {vs : List Nat} {σ : L2.St}, i ∉ vs → wipe (σ.set i x) vs = (wipe σ vs).set i x := by
        intro vs
        induction vs with
        | nil => intro σ _; rfl
        | cons w ws ih =>
          intro σ h
          have h1 : i ≠ w := fun z => h (by rw [z]; exact List.mem_cons_self ..)
          have h2 : i ∉ ws := fun z => h (List.mem_cons_of_mem _ z)
          unfold wipe
          rw [ih h2, List.set_comm _ _ h1]
      rw [this hv, List.set_set]
theorem tgB_v {G : Gx} {own : List Nat} {i : Nat} (h : i ∈ own) : TgB G own (gV i) (gName i) := fun B v σ H Q ⟨F, S, st, d, S', o, r, e, q⟩ Q' k => by
  cases e
  exact k _ H (q _ H F .refl (o.set i r)) (wipe_set h)
theorem tgsB_n {G : Gx} {own : List Nat} : TgsB G own gN gNil := fun B v σ H Q ⟨F, S, st, ds, S', o, r, e, q⟩ Q' k => by
  cases r with
  | nil => cases e; exact ⟨rfl, k _ H (q σ H F .refl o) rfl⟩
  | cons _ _ => cases e
theorem tgsB_c {G : Gx} {own : List Nat} {g : Tg} {gv : TG} {gs : List D → Sls → Option Sls} {gvs : TGs} (h : TgB G own g gv) (t : TgsB G own gs gvs) : TgsB G own (gC g gs) (gCons gv gvs) := fun B vs σ H Q ⟨F, S, st, ds, S', o, r, e, q⟩ Q' k => by
  cases r with
  | nil => cases e
  | cons r1 r2 =>
    unfold gC at e
    simp only at e
    split at e
    · rename_i S1 hS1
      refine ⟨_, _, rfl, h B _ σ H (fun σ' H' => ∃ F', Gr B F F' ∧ Ok G B F' σ' H' S1 st) ⟨F, S, st, _, S1, o, r1, hS1, fun σ' H' F' g o' => ⟨F', g, o'⟩⟩ _ fun σ1 H1 ⟨F1, g1, o1⟩ w1 => ?_⟩
      refine t B _ σ1 H1 Q ⟨F1, S1, st, _, S', o1, r2.mono g1.1, e, fun σ2 H2 F2 g2 o2 => q σ2 H2 F2 (g1.trans g2) o2⟩ _ fun σ2 H2 q2 w2 => k σ2 H2 q2 (w2.trans w1)
    · cases e
theorem tgB_t {G : Gx} {own : List Nat} {n : Nat} {gs : List D → Sls → Option Sls} {gvs : TGs} (h : TgsB G own gs gvs) : TgB G own (gT n gs) (gTup G.K n gvs) := fun B v σ H Q ⟨F, S, st, d, S', o, r, e, q⟩ Q' k => by
  unfold gT at e
  split at e
  · split at e
    · rename_i hl
      cases r with
      | tup h1 h2 =>
        exact ⟨_, _, rfl, same_seqT o.fH h1, by rw [h2.length]; exact hl, h B _ σ H Q ⟨F, S, st, _, S', o, h2, e, q⟩ Q' k⟩
    · cases e
  · cases e
section
variable {X : Cx} {B : Hp} {W : WX} {e a b c : Expr} {es : List Expr} {s : Stmt} {ss : List Stmt} {pos : Pos}
theorem lc_parts {elt : Expr} {ifs : List Expr} {scope : Scope} {t : Ev Bool} {f : Ev D}
    (ht : ∀ (B : Hp) (s : Shared) (H : Hp) (cl : List (Str × Addr)) (C : Addr) (fp : List Addr), DTs (bX X s H scope cl C fp) B W0 ifs t) (he : ∀ (B : Hp) (s : Shared) (H : Hp) (cl : List (Str × Addr)) (C : Addr) (fp : List Addr), DE (bX X s H scope cl C fp) B W0 elt f) :
    (∀ (s : Shared) (H : Hp) (C : Addr) (cl : List (Str × Addr)) (fp : List Addr), PTs (X.blk s H scope (compEnvC scope cl C X.env) fp) ifs (fun σ H Q => ∃ B, lift (Cx.g X) B W0 RB t σ H Q)) ∧
    (∀ (s : Shared) (H : Hp) (C : Addr) (cl : List (Str × Addr)) (fp : List Addr), PE (X.blk s H scope (compEnvC scope cl C X.env) fp) elt (fun σ H Q => ∃ B, lift (Cx.g X) B W0 (RD (Cx.g X)) f σ H Q)) :=
  ⟨fun s H C cl fp => ⟨fun pins s' σ H' Q I ⟨B, q⟩ => (ht B s H cl C fp).run pins s' σ H' Q I q⟩, fun s H C cl fp => ⟨fun pins s' σ H' Q I ⟨B, q⟩ => (he B s H cl C fp).run pins s' σ H' Q I q⟩⟩
theorem df_lc {elt tg iter : Expr} {ifs : List Expr} {scope : Scope} (own : List (Str × Nat)) {fi : Ev (List D)} {g : Tg} {gv : TG} {t : Ev Bool} {f : Ev D} (hc : X.calm = true) (nd : X.N.Nodup) (ok : BlkOk X.N X.env.scope scope own) (hi : DI X B W tg iter fi) (hgv : TgB (Cx.g X) (own.map (·.2)) g gv)
    (hg : ∀ (s : Shared) (H : Hp) (C : Addr) (cl : List (Str × Addr)) (fp : List Addr), PG (X.blk s H scope (compEnvC scope cl C X.env) fp) tg gv)
    (ht : ∀ (B : Hp) (s : Shared) (H : Hp) (cl : List (Str × Addr)) (C : Addr) (fp : List Addr), DTs (bX X s H scope cl C fp) B W0 ifs t) (he : ∀ (B : Hp) (s : Shared) (H : Hp) (cl : List (Str × Addr)) (C : Addr) (fp : List Addr), DE (bX X s H scope cl C fp) B W0 elt f)
    (hs : ∀ x, foldedSetIterable iter X.env x = pure x := by intro _; rfl) : DF X B W (.ListComp elt [⟨tg, iter, ifs, 0⟩] scope pos) (lcF fi g (own.map (·.2)) t f) :=
  pe_imp (pe_lc hc nd hi ok hg (lc_parts ht he).1 (lc_parts ht he).2 hs) fun σ H Q q => lc_lift (fun B σ H Q q => ⟨B, q⟩) (fun B σ H Q q => ⟨B, q⟩) (fun B v σ H Q q => hgv B v σ H Q q) q
/-- y = [..] on one line, y a local: kept -/
theorem ds_vlc {i : Nat} {y : Str} {py : Pos} {elt tg iter : Expr} {ifs : List Expr} {scope : Scope} {lpos : Pos} (own : List (Str × Nat)) {fi : Ev (List D)} {g : Tg} {gv : TG} {t : Ev Bool} {f : Ev D} (hc : X.calm = true) (nd : X.N.Nodup) (ok : BlkOk X.N X.env.scope scope own) (hi : DI X B W tg iter fi) (hgv : TgB (Cx.g X) (own.map (·.2)) g gv)
    (hg : ∀ (s : Shared) (H : Hp) (C : Addr) (cl : List (Str × Addr)) (fp : List Addr), PG (X.blk s H scope (compEnvC scope cl C X.env) fp) tg gv)
    (ht : ∀ (B : Hp) (s : Shared) (H : Hp) (cl : List (Str × Addr)) (C : Addr) (fp : List Addr), DTs (bX X s H scope cl C fp) B W0 ifs t) (he : ∀ (B : Hp) (s : Shared) (H : Hp) (cl : List (Str × Addr)) (C : Addr) (fp : List Addr), DE (bX X s H scope cl C fp) B W0 elt f)
    (hyl : X.env.scope.names.lookup y = some .local := by rfl) (hsw : swapsWith (.ListComp elt [⟨tg, iter, ifs, 0⟩] scope lpos) (some (.Name y py)) pos.line X.env = pure true := by exact sw_true rfl rfl rfl (by decide +kernel)) (hy : X.N[i]? = some y := by rfl)
    (hs : ∀ x, foldedSetIterable iter X.env x = pure x := by intro _; rfl) : DS X B W (.Assign [.Name y py] (.ListComp elt [⟨tg, iter, ifs, 0⟩] scope lpos) pos) (sV i (fE (lcF fi g (own.map (·.2)) t f))) :=
  ps_imp (ps_setLc hc nd hy hyl hsw hi ok hg (lc_parts ht he).1 (lc_parts ht he).2 hs) fun D σ H q => lc_lift (fun B σ H Q q => ⟨B, q⟩) (fun B σ H Q q => ⟨B, q⟩) (fun B v σ H Q q => hgv B v σ H Q q) (by
    obtain ⟨F, S, st, o, q⟩ := q
    refine ⟨F, S, st, o, postF_fE ?_⟩
    unfold sV fE at q
    generalize lcF fi g (own.map (·.2)) t f S st = r at q ⊢
    cases r with
    | ok w S1 st1 => exact fun v H' F' g o r => q _ H' F' g (o.set i r)
    | exc x S1 st1 => exact fun c d H' F' g o r => q c d σ H' F' g o r
    | stuck => exact q)
theorem ds_olc {i : Nat} {y : Str} {py : Pos} {elt tg iter : Expr} {ifs : List Expr} {scope : Scope} {lpos : Pos} (own : List (Str × Nat)) {fi : Ev (List D)} {g : Tg} {gv : TG} {t : Ev Bool} {f : Ev D} (hc : X.calm = true) (nd : X.N.Nodup) (ok : BlkOk X.N X.env.scope scope own) (hi : DI X B W tg iter fi) (hgv : TgB (Cx.g X) (own.map (·.2)) g gv)
    (hg : ∀ (s : Shared) (H : Hp) (C : Addr) (cl : List (Str × Addr)) (fp : List Addr), PG (X.blk s H scope (compEnvC scope cl C X.env) fp) tg gv)
    (ht : ∀ (B : Hp) (s : Shared) (H : Hp) (cl : List (Str × Addr)) (C : Addr) (fp : List Addr), DTs (bX X s H scope cl C fp) B W0 ifs t) (he : ∀ (B : Hp) (s : Shared) (H : Hp) (cl : List (Str × Addr)) (C : Addr) (fp : List Addr), DE (bX X s H scope cl C fp) B W0 elt f)
    (hyl : X.env.scope.names.lookup y = some .local := by rfl) (hsw : swapsWith (.ListComp elt [⟨tg, iter, ifs, 0⟩] scope lpos) (some (.Name y py)) pos.line X.env = pure true := by exact sw_true rfl rfl rfl (by decide +kernel)) (hy : X.N[i]? = some y := by rfl)
    (hs : ∀ x, foldedSetIterable iter X.env x = pure x := by intro _; rfl) : DS X B W (.Assign [.Name y py] (.ListComp elt [⟨tg, iter, ifs, 0⟩] scope lpos) pos) (sO i (lcF fi g (own.map (·.2)) t f)) :=
  ps_imp (ps_setLc hc nd hy hyl hsw hi ok hg (lc_parts ht he).1 (lc_parts ht he).2 hs) fun D σ H q => lc_lift (fun B σ H Q q => ⟨B, q⟩) (fun B σ H Q q => ⟨B, q⟩) (fun B v σ H Q q => hgv B v σ H Q q) (by
    obtain ⟨F, S, st, o, q⟩ := q
    exact ⟨F, S, st, o, postF_own q⟩)

/-! ### a, b = x, y -/
def sP (i j : Nat) (fa : Ev (List Opd)) : EvS := fun S st => (fa S st).out fun a S st => match vds S a with
  | some [x, y] => .nx ((S.set i (.d x)).set j (.d y)) st
  | _ => .stuck
theorem ds_p {i j : Nat} {x y : Str} {px py pt : Pos} {kt k2 pt2} {fa : Ev (List Opd)} (hc : X.calm = true) (nd : X.N.Nodup) (ha : DA X B W [a, b] fa) (hi : X.N[i]? = some x := by rfl) (hj : X.N[j]? = some y := by rfl) (hij : i ≠ j := by decide)
    (hx : X.env.scope.names.lookup x = some .local := by rfl) (hy : X.env.scope.names.lookup y = some .local := by rfl)
    (hw : swappedStores [.Tuple [.Name x px, .Name y py] kt pt] (.Tuple [a, b] k2 pt2) X.env = pure (some [x, y]) := by rfl)
    (hs : swapsWithSole [.Tuple [.Name x px, .Name y py] kt pt] (.Tuple [a, b] k2 pt2) pos.line X.env = pure false := by rfl) :
    DS X B W (.Assign [.Tuple [.Name x px, .Name y py] kt pt] (.Tuple [a, b] k2 pt2) pos) (sP i j fa) :=
  ps_imp (ps_par hc nd hi hj hij hx hy ha hw hs) fun D σ H ⟨F, S, st, o, q⟩ => ⟨F, S, st, o, (Post.out (R := RpO (Cx.g X) σ) q).mono fun vs H1 ⟨F1, d, S1, st1, g1, o1, r1, p1⟩ => by
    split at p1
    · rename_i x y hxy
      have ra := o1.vds r1 hxy
      cases ra with
      | cons ra rb =>
        cases rb with
        | cons rb rc =>
          cases rc
          exact ⟨_, _, rfl, p1 _ H1 F1 .refl ((o1.set i ra).set j rb)⟩
    · exact p1.elim⟩

/-! ### own lists, changed -/
/-- x.append(e) -/
def sAp (i : Nat) (f : Ev Opd) : EvS := fun S st => match S[i]? with
  | some (.own (.l _)) => (f S st).out fun o S st => match vd S o, S[i]? with
    | some d, some (.own (.l ds)) => if ds.length < 16777216 then .nx (S.set i (.own (.l (ds ++ [d])))) st else .stuck
    | _, _ => .stuck
  | _ => .stuck
theorem ds_ap {i : Nat} {f : Ev Opd} {apos pos' : Pos} (ho : PE X a (tVar i)) (h : DO X B W e f) (hs : swapsWith (.Call (.Attribute a "append" apos) [e] [] pos') none pos.line X.env = pure false := by rfl)
    (hbase : attributeBase a "append" X.env (eval a X.env) = eval a X.env := by rfl)
    (hfew : ((backTo pos' (starEach [e] X.env)).all (fun x => !x.1) && (backToKw pos' (keywordEach [] X.env)).all (fun x => x.1.isSome)
      && decide (([e] : List Expr).length + ([] : List Keyword).length + (if ([] : List Keyword).isEmpty then 0 else 1) < 30)) = true := by rfl)
    (hline : (apos.endLine == pos'.line) = true := by rfl) (hst : starEach [e] X.env = (false, eval e X.env) :: starEach [] X.env := by rfl) :
    DS X B W (.Expr (.Call (.Attribute a "append" apos) [e] [] pos') pos) (sAp i f) :=
  ps_imp (ps_expr (pe_bm PySem.F.plainAttrs_list PySem.F.slot_list_append PySem.F.type_list_append mt_append ho (pa_cons h pa_nil hst) hbase hfew hline hst) hs) fun D σ H ⟨F, S, st, o, q⟩ => by
    unfold sAp at q
    split at q
    · rename_i ds0 hS0
      obtain ⟨p, u, e1, h1, h2, h3, r, _⟩ := o.sl i _ hS0
      cases r with
      | l r =>
        refine ⟨_, e1, .inl ⟨rfl, _, .inl (.inl h1)⟩, F, S, st, o, (Post.out (R := RO (Cx.g X) σ) q).mono fun v H1 ⟨F1, o', S1, st1, g1, o1, r1, p1⟩ => ?_⟩
        split at p1
        · rename_i d ds hd hS1
          split at p1
          · rename_i hlen
            obtain ⟨p', u', e1', h1', h2', h3', r', _⟩ := o1.sl i _ hS1
            rw [e1] at e1'; cases e1'
            cases r' with
            | l r' =>
              refine ⟨p, _, v, rfl, rfl, h1', by rw [r'.length, sizeLine_eq]; exact hlen, p1 σ _ F1 .refl (o1.chg hS1 e1 (.l (r'.append (.one (o1.vd r1 hd)))))⟩
          · exact p1.elim
        · exact p1.elim
    · exact q.elim
/-- x.extend(e), e a list that stays -/
def sEx (i : Nat) (f : Ev D) : EvS := fun S st => match S[i]? with
  | some (.own (.l _)) => (f S st).out fun d S st => match d, S[i]? with
    | .lst es, some (.own (.l ds)) => if ds.length + es.length ≤ 16777216 then .nx (S.set i (.own (.l (ds ++ es)))) st else .stuck
    | _, _ => .stuck
  | _ => .stuck
theorem ds_ex {i : Nat} {f : Ev D} {apos pos' : Pos} (ho : PE X a (tVar i)) (h : DE X B W e f) (hs : swapsWith (.Call (.Attribute a "extend" apos) [e] [] pos') none pos.line X.env = pure false := by rfl)
    (hbase : attributeBase a "extend" X.env (eval a X.env) = eval a X.env := by rfl)
    (hfew : ((backTo pos' (starEach [e] X.env)).all (fun x => !x.1) && (backToKw pos' (keywordEach [] X.env)).all (fun x => x.1.isSome)
      && decide (([e] : List Expr).length + ([] : List Keyword).length + (if ([] : List Keyword).isEmpty then 0 else 1) < 30)) = true := by rfl)
    (hline : (apos.endLine == pos'.line) = true := by rfl) (hst : starEach [e] X.env = (false, eval e X.env) :: starEach [] X.env := by rfl) :
    DS X B W (.Expr (.Call (.Attribute a "extend" apos) [e] [] pos') pos) (sEx i f) :=
  ps_imp (ps_expr (pe_bm PySem.F.plainAttrs_list PySem.F.slot_list_extend PySem.F.type_list_extend mt_extend ho (pa_cons h pa_nil hst) hbase hfew hline hst) hs) fun D σ H ⟨F, S, st, o, q⟩ => by
    unfold sEx at q
    split at q
    · rename_i ds0 hS0
      obtain ⟨p, u, e1, h1, h2, h3, r, _⟩ := o.sl i _ hS0
      cases r with
      | l r =>
        refine ⟨_, e1, .inl ⟨rfl, _, .inl (.inl h1)⟩, F, S, st, o, (Post.out (R := RD (Cx.g X) σ) q).mono fun v H1 ⟨F1, o', S1, st1, g1, o1, r1, p1⟩ => ?_⟩
        split at p1
        · rename_i es ds hS1
          split at p1
          · rename_i hlen
            obtain ⟨p', u', e1', h1', h2', h3', r', _⟩ := o1.sl i _ hS1
            rw [e1] at e1'; cases e1'
            cases r' with
            | l r' =>
              cases r1 with
              | lst hb rb =>
                refine ⟨p, _, _, _, rfl, rfl, h1', o1.fH _ _ hb, by rw [r'.length, rb.length, sizeLine_eq]; exact hlen, p1 σ _ F1 .refl (o1.chg hS1 e1 (.l (r'.append rb)))⟩
          · exact p1.elim
        · exact p1.elim
    · exact q.elim
/-- x.pop(), as a value -/
def ePop (i : Nat) : Ev D := fun S st => match S[i]? with
  | some (.own (.l ds)) => match ds.getLast? with
    | some d => .ok d (S.set i (.own (.l ds.dropLast))) st
    | none => .stuck
  | _ => .stuck
theorem RpAll.dropLast {G : Gx} {F : Fz} {vs : List V} {ds : List D} (r : RpAll G F vs ds) : RpAll G F vs.dropLast ds.dropLast := by
  rw [List.dropLast_eq_take, List.dropLast_eq_take, r.length]
  exact r.take _
theorem de_pop {i : Nat} {apos : Pos} (ho : PE X a (tVar i)) (hbase : attributeBase a "pop" X.env (eval a X.env) = eval a X.env := by rfl) (hline : (apos.endLine == pos.line) = true := by rfl) :
    DE X B W (.Call (.Attribute a "pop" apos) [] [] pos) (ePop i) :=
  pe_imp (pe_bm0 PySem.F.plainAttrs_list PySem.F.slot_list_pop PySem.F.type_list_pop mt_pop ho hbase hline) fun σ H Q ⟨F, S, st, o, q⟩ => by
    unfold ePop at q
    split at q
    · rename_i ds0 hS0
      obtain ⟨p, u, e1, h1, h2, h3, r, _⟩ := o.sl i _ hS0
      cases r with
      | l r =>
        split at q
        · rename_i d hd
          rw [List.getLast?_eq_getElem?] at hd
          obtain ⟨y, hy, ry⟩ := r.get hd
          refine ⟨_, e1, .inl ⟨rfl, _, .inl (.inl h1)⟩, p, _, y, rfl, rfl, h1, by rw [r.length]; exact hy, q _ _ F .refl (o.chg hS0 e1 (.l r.dropLast)) ry⟩
        · exact q.elim
    · exact q.elim
/-- x[j] = e -/
def sSet (i : Nat) (fv : Ev D) (fj : Ev D) : EvS := fun S st => (fv S st).out fun d S st => match S[i]? with
  | some (.own (.l _)) => (fj S st).out fun j S st => match j, S[i]? with
    | .int k, some (.own (.l ds)) => match ixN ds.length k with
      | some j => .nx (S.set i (.own (.l (ds.set j d)))) st
      | none => .stuck
    | _, _ => .stuck
  | _ => .stuck
theorem ds_set {i : Nat} {fv fj : Ev D} {tpos : Pos} (ho : PE X a (tVar i)) (hj : DE X B W b fj) (hv : DE X B W e fv) (hs : swapsWithSole [.Subscript a b tpos] e pos.line X.env = pure false := by rfl) (hw : swappedStores [.Subscript a b tpos] e X.env = pure none := by rfl)
    (h1 : (assignEach [.Subscript a b tpos] X.env).map (·.2) = [assign (.Subscript a b tpos) X.env] := by rfl)
    (ha : ∀ v, assign (.Subscript a b tpos) X.env v = (do
      let ov ← holding [v] (eval a X.env)
      let iv ← holding [v, ov] (eval b X.env)
      standAt tpos
      holding [v, ov, iv] (setItem ov iv v)
      release [v, ov, iv] []) := by intro _; rfl) : DS X B W (.Assign [.Subscript a b tpos] e pos) (sSet i fv fj) :=
  ps_imp (ps_asg hv (pg_sub ho hj set_list ha) hs hw h1) fun D σ H ⟨F, S, st, o, q⟩ => ⟨F, S, st, o, (Post.out (R := RD (Cx.g X) σ) q).mono fun v H1 ⟨F1, d, S1, st1, g1, o1, r1, p1⟩ => by
    split at p1
    · rename_i ds0 hS0
      obtain ⟨p, u, e1, h1, h2, h3, r, _⟩ := o1.sl i _ hS0
      refine ⟨_, e1, F1, S1, st1, o1, (Post.out (R := RD (Cx.g X) σ) p1).mono fun jv H2 ⟨F2, jd, S2, st2, g2, o2, r2, p2⟩ => ?_⟩
      split at p2
      · rename_i k ds hS2
        split at p2
        · rename_i j hj
          obtain ⟨p', u', e1', h1', h2', h3', r', _⟩ := o2.sl i _ hS2
          rw [e1] at e1'; cases e1'
          cases r' with
          | l r' =>
            cases r2
            refine ⟨p, _, k, j, rfl, rfl, h1', by rw [r'.length]; exact hj, p2 σ _ F2 .refl (o2.chg hS2 e1 (.l (r'.set j (r1.mono g2.1))))⟩
        · exact p2.elim
      · exact p2.elim
    · exact p1.elim⟩
end
/-! ### defs -/
def runB (N : Nat) (b : EvS) : CallT := fun ds st => match b (ds.map Sl.d ++ List.replicate (N - ds.length) .no) st with
  | .nx _ st => .ok .non [] st
  | .ret d _ st => .ok d [] st
  | .exc x _ st => .exc x [] st
  | _ => .stuck
theorem Ok.start {G : Gx} {B : Hp} {F : Fz} {H : Hp} {N : List Str} {vs : List V} {ds : List D} {st : Store} (f : Same F.f H) (kp : Same B H) (so : StOk G B F H st) (r : RpAll G F vs ds) (hl : vs.length ≤ N.length) : Ok G B F (start N vs) H (ds.map Sl.d ++ List.replicate (N.length - ds.length) .no) st := by
  have rl := r.length
  refine ⟨f, kp, so, by simp [L2.start, rl], fun i s e => ?_, fun i j a b p e1 e2 e3 e4 => ?_⟩
  · by_cases hi : i < ds.length
    · rw [List.getElem?_append_left (by simpa using hi), List.getElem?_map] at e
      cases q : ds[i]? with
      | none => rw [q] at e; cases e
      | some d =>
        rw [q] at e; cases e
        obtain ⟨v, hv, rv⟩ := r.get q
        refine ⟨v, ?_, rv⟩
        unfold L2.start
        rw [List.getElem?_append_left (by simpa [rl] using hi), List.getElem?_map, hv]; rfl
    · rw [List.getElem?_append_right (by simpa using hi), List.getElem?_replicate] at e
      split at e
      · cases e; trivial
      · cases e
  · by_cases hi : i < ds.length
    · rw [List.getElem?_append_left (by simpa using hi), List.getElem?_map] at e1
      cases q : ds[i]? with
      | none => rw [q] at e1; cases e1
      | some d => rw [q] at e1; cases e1
    · rw [List.getElem?_append_right (by simpa using hi), List.getElem?_replicate] at e1
      split at e1 <;> cases e1
section
variable {P : Program} {w : World} {K : PySem.W.Frag} {mg : Str → Option Value} {base : Heap}
/-- THE RULE for a def -/
theorem fn_ok {x qual : Str} {st : Stmt} {f : Addr} {fd : FuncData} {N ps : List Str} {k : Nat} {b : EvS} (F : Fun K x qual st f fd) (S : FnScope N ps (defScope st)) 
    (body : ∀ (B : Hp) (cdv : Value) (A : Around) (outer : List Env) (s : Shared) (H : Hp) (E : XK) (W : WX), Room k (A.deeper (envOfC qual (defScope st) s.heap.objs.size f cdv)) →
      Takes (cxOf (L2.CX P w) P w K mg base N qual (defScope st) f cdv A outer s H E) W → PassesOwn (model P w) (A.deeper (envOfC qual (defScope st) s.heap.objs.size f cdv)) (envOfC qual (defScope st) s.heap.objs.size f cdv) (cxOf (L2.CX P w) P w K mg base N qual (defScope st) f cdv A outer s H E).xe →
      DSs (cxOf (L2.CX P w) P w K mg base N qual (defScope st) f cdv A outer s H E) B W (defBody st) b) : FnOk P w K mg base (L2.CX P w) (k + 1) f fd ps (spOf ⟨K, mg⟩ ps.length (runB N.length b)) := by
  refine F.okX S (fun vs H Q E h => h.1) (fun cdv A outer s H vs Q E hr h => ?_)
  obtain ⟨hl, F0, ds, st0, f0, so0, r, q⟩ := h
  refine ⟨_, body (hid F0.m H) cdv A outer s H E (fun cls d _ H' => E cls d H') hr (takes_of rfl rfl rfl rfl) (passes_of rfl), ?_⟩
  have hN : ps.length ≤ N.length := by have := congrArg List.length S.pre; rw [List.length_take] at this; omega
  refine ⟨F0, _, st0, Ok.start f0 (hid_same _ _) so0 r (by omega), ?_⟩
  unfold runB at q
  revert q
  generalize b (ds.map Sl.d ++ List.replicate (N.length - ds.length) .no) st0 = r
  intro q
  cases r with
  | nx S1 st1 => exact fun σ' H' F' g o => q .non H' F' o.kp o.fH g o.so .non
  | ret d S1 st1 => exact fun v σ' H' F' g o rr => q v H' F' o.kp o.fH g o.so rr
  | exc y S1 st1 => exact fun c d σ' H' F' g o rr => q c d H' F' o.kp o.fH g o.so rr
  | bk S1 st1 => exact q.elim
  | ct S1 st1 => exact q.elim
  | rto w1 S1 st1 => exact q.elim
  | stuck => exact q.elim
theorem def_ok {x qual : Str} {st : Stmt} {f : Addr} {fd : FuncData} {N ps : List Str} {k : Nat} {b : EvS} (F : Fun K x qual st f fd) (S : FnScope N ps (defScope st)) (hb : Binds K fd ps []) (hm : mg x = some (.ref f))
    (body : ∀ (B : Hp) (cdv : Value) (A : Around) (outer : List Env) (s : Shared) (H : Hp) (E : XK) (W : WX), Room k (A.deeper (envOfC qual (defScope st) s.heap.objs.size f cdv)) →
      Takes (cxOf (L2.CX P w) P w K mg base N qual (defScope st) f cdv A outer s H E) W → PassesOwn (model P w) (A.deeper (envOfC qual (defScope st) s.heap.objs.size f cdv)) (envOfC qual (defScope st) s.heap.objs.size f cdv) (cxOf (L2.CX P w) P w K mg base N qual (defScope st) f cdv A outer s H E).xe →
      DSs (cxOf (L2.CX P w) P w K mg base N qual (defScope st) f cdv A outer s H E) B W (defBody st) b) : Def P w K mg base (k + 1) x ps.length (runB N.length b) := ⟨f, fd, ps, fn_ok F S body, hb, hm, F.kp⟩
/-- nothing is promised -/
def cStuck : CallT := fun _ _ => .stuck
theorem def_stuck {x qual : Str} {st : Stmt} {f : Addr} {fd : FuncData} {N ps : List Str} {k : Nat} (F : Fun K x qual st f fd) (S : FnScope N ps (defScope st)) (hb : Binds K fd ps []) (hm : mg x = some (.ref f)) : Def P w K mg base (k + 1) x ps.length cStuck := by
  refine ⟨f, fd, ps, F.okX S (fun vs H Q E h => h.1) (fun cdv A outer s H vs Q E hr h => ?_), hb, hm, F.kp⟩
  obtain ⟨_, _, _, _, _, _, _, q⟩ := h
  exact q.elim
end
end DL

namespace DL
open PySem PySem.Spec PyProof.Rows L2
/-! ### own exception classes: who stands under whom -/
/-- (c, t, b): an instance of c is (b), or is none, of t -/
abbrev XTab := List (Nat × Nat × Bool)
def xLook : XTab → Nat → Nat → Option Bool
  | [], _, _ => none
  | (c, t, b) :: r, x, y => if x = c ∧ y = t then some b else xLook r x y
theorem xLook_mem : ∀ {T : XTab} {x y : Nat} {b : Bool}, xLook T x y = some b → (x, y, b) ∈ T
  | (c, t, d) :: r, x, y, b, h => by
    unfold xLook at h
    split at h
    · rename_i e
      obtain ⟨rfl, rfl⟩ := e
      cases h; simp
    · simp [xLook_mem h]
/-- a class that is raised -/
structure XCl (K : PySem.W.Frag) (C : Addr) : Prop where
  ex : PySem.W.excIn K C [.type "ValueError", .type "Exception", .type "BaseException", .type "object"] "ValueError.__new__" = true
  kp : PySem.W.keepIn K (.ref C) = true
  ty : PySem.W.typeIn K (.ref C) = some (.type "type")
  is : ExcC K C
  ve : PySem.W.subIn K (.ref C) (.type "ValueError") = some true
  me : PySem.W.subIn K (.ref C) (.ref C) = some true
/-- a class that is asked for -/
structure HCl (K : PySem.W.Frag) (C : Addr) : Prop where
  be : PySem.W.subIn K (.ref C) (.type "BaseException") = some true
  hd : PySem.W.hasDictIn K C = true
  ty : PySem.W.typeIn K (.ref C) = some (.type "type")
structure XT (K : PySem.W.Frag) (mg : Str → Option Value) (T : XTab) : Prop where
  rows : ∀ c t b, (c, t, b) ∈ T → ∃ C Ct, mg (nmS c) = some (.ref C) ∧ mg (nmS t) = some (.ref Ct) ∧ PySem.W.subIn K (.ref C) (.ref Ct) = some b ∧ XCl K C ∧ HCl K Ct
  ve : mg "ValueError" = none
theorem XT.nil {K : PySem.W.Frag} {mg : Str → Option Value} (h : mg "ValueError" = none) : XT K mg [] := ⟨(fun _ _ _ h => by cases h), h⟩
theorem XT.cons {K : PySem.W.Frag} {mg : Str → Option Value} {T : XTab} {c t : Nat} {b : Bool} {C Ct : Addr} (h1 : mg (nmS c) = some (.ref C)) (h2 : mg (nmS t) = some (.ref Ct)) (h3 : PySem.W.subIn K (.ref C) (.ref Ct) = some b) (h4 : XCl K C) (h5 : HCl K Ct) (h : XT K mg T) : XT K mg ((c, t, b) :: T) :=
  ⟨fun c' t' b' m => by
    rcases List.mem_cons.mp m with e | m
    · cases e; exact ⟨C, Ct, h1, h2, h3, h4, h5⟩
    · exact h.rows _ _ _ m, h.ve⟩
/-- whether an exception of class c is one of these (none: ValueError) -/
def isX (T : XTab) (c : Nat) : List (Option Nat) → Option Bool
  | [] => some false
  | none :: _ => some true
  | some t :: r => match xLook T c t with
    | some true => some true
    | some false => isX T c r
    | none => none
section
variable {K : PySem.W.Frag} {mg : Str → Option Value} {T : XTab}
theorem kit_own {C Ct : Addr} {b : Bool} (h : PySem.W.subIn K (.ref C) (.ref Ct) = some b) (hx : XCl K C) (hh : HCl K Ct) : PySem.W.kitOne K (.ref C) (.ref Ct) = some b := by
  unfold PySem.W.kitOne
  by_cases e : C = Ct
  · subst e
    rw [if_pos (by simp)]
    rw [hx.me] at h; exact h
  · rw [if_neg (by simpa using e)]
    obtain ⟨cd, hc, _⟩ := PySem.W.any_some hh.hd
    unfold PySem.W.kitCls
    dsimp only
    rw [if_pos (by rw [hc, hh.ty]; rfl)]
    exact h
theorem kit_ve {C : Addr} (hx : XCl K C) : PySem.W.kitOne K (.ref C) (.type "ValueError") = some true := by
  unfold PySem.W.kitOne
  rw [if_neg (by simp)]
  unfold PySem.W.kitCls
  dsimp only
  rw [if_pos (by decide +kernel)]
  exact hx.ve
/-- the classes' values -/
inductive TVs (mg : Str → Option Value) : List (Option Nat) → List V → List Value → Prop
  | nil : TVs mg [] [] []
  | ve {ts : List (Option Nat)} {vs : List V} {us : List Value} : TVs mg ts vs us → TVs mg (none :: ts) (.ty "ValueError" :: vs) (.type "ValueError" :: us)
  | own {t : Nat} {C : Addr} {ts : List (Option Nat)} {vs : List V} {us : List Value} : mg (nmS t) = some (.ref C) → TVs mg ts vs us → TVs mg (some t :: ts) (.ref C :: vs) (.ref C :: us)
theorem TVs.cls : ∀ {ts : List (Option Nat)} {vs : List V} {us : List Value}, TVs mg ts vs us → Paired ClsV vs us
  | _, _, _, .nil => .nil
  | _, _, _, .ve h => .cons (.ty _) h.cls
  | _, _, _, .own _ h => .cons (.own _) h.cls
theorem isX_kit (hT : XT K mg T) {c : Nat} {C : Addr} (hC : mg (nmS c) = some (.ref C)) (hx : XCl K C) : ∀ {ts : List (Option Nat)} {vs : List V} {us : List Value} {b : Bool}, TVs mg ts vs us → isX T c ts = some b → PySem.W.kitAny K (.ref C) us = some b
  | _, _, _, b, .nil, h => h
  | _, _, _, b, .ve r, h => by
    unfold isX at h
    unfold PySem.W.kitAny
    rw [kit_ve hx]; exact h
  | _, _, _, b, .own (t := t) ht r, h => by
    unfold isX at h
    unfold PySem.W.kitAny
    split at h
    · rename_i e
      obtain ⟨C1, C2, a1, a2, a3, a4, a5⟩ := hT.rows _ _ _ (xLook_mem e)
      rw [hC] at a1; cases a1
      rw [ht] at a2; cases a2
      rw [kit_own a3 a4 a5]; exact h
    · rename_i e
      obtain ⟨C1, C2, a1, a2, a3, a4, a5⟩ := hT.rows _ _ _ (xLook_mem e)
      rw [hC] at a1; cases a1
      rw [ht] at a2; cases a2
      rw [kit_own a3 a4 a5]; exact isX_kit hT hC hx r h
    · cases h
end
/-! ### isinstance of a caught one -/
section
variable {X : Cx} {B : Hp} {W : WX} {e : Expr} {es : List Expr} {pos p pe p2 : Pos} {a C : Addr} {oe : Obj} {cx : Nat} {T : XTab}
theorem inst_pin {pins : List (Addr × Obj)} {σ : L2.St} {H : Hp} {s : Shared} (hp : (a, oe) ∈ X.pn) (hz : Zc (.ref C) none oe) (hf : ∃ vs, oe.data = .fields vs) (I : Inv X pins σ H s) : PySem.W.InstAt s.heap a oe C none := by
  obtain ⟨hget, _⟩ := I.pin (a, oe) (List.mem_append.mpr (.inl hp))
  obtain ⟨vs, hv⟩ := hf
  obtain ⟨oc, od, oda, osl⟩ := oe
  obtain ⟨z1, z2⟩ := hz
  dsimp only at z1 z2 hv
  subst z1 z2 hv
  exact ⟨hget, rfl, rfl, trivial⟩
/-- isinstance(n, T), T one class or a tuple of them that was just laid -/
def rIsP (K : PySem.W.Frag) (C a : Addr) : List V → Hp → VK → Prop := fun xs H Q => (∃ (c : V) (cv : Value) (b : Bool), xs = [.ref a, c] ∧ ClsV c cv ∧ PySem.W.kitOne K (.ref C) cv = some b ∧ Q (.bl b) H) ∨
  ∃ (tp : Addr) (cs : List V) (us : List Value) (b : Bool), xs = [.ref a, .ref tp] ∧ H tp = some (.tup cs) ∧ Paired ClsV cs us ∧ PySem.W.kitAny K (.ref C) us = some b ∧ Q (.bl b) H
theorem call_isP (hp : (a, oe) ∈ X.pn) (hz : Zc (.ref C) none oe) (hf : ∃ vs, oe.data = .fields vs) (hc : ExcC X.K C) : CallR X (.builtin "isinstance") (rIsP X.K C a) := by
  intro pins s σ H xs us Q I r h
  have J := inst_pin hp hz hf I
  have Z := PySem.W.handS_kitx_exc (x := a) (ox := oe) hc.hg hc.hk hc.hs hc.hd hc.ha hc.hn hc.ht hc.hm
  rcases h with ⟨c, cv, b, rfl, k, ek, q⟩ | ⟨tp, cs, ws, b, rfl, hT, k, ek, q⟩
  · obtain ⟨u1, u2, rfl, r1, r2⟩ := vals2 r
    cases (show u1 = Value.ref a from r1)
    have := k.eq r2
    subst this
    exact PySem.W.kia_one Z I.kIn J ek (fun z => nomatch z) fun tk => ⟨.bl b, H, I.kept (t' := tk) fun _ _ z => z, rfl, q⟩
  · obtain ⟨u1, u2, rfl, r1, r2⟩ := vals2 r
    cases (show u1 = Value.ref a from r1)
    cases (show u2 = Value.ref tp from r2)
    obtain ⟨_, its, rv, o, g1, g2, n, g3⟩ := (show ObjOk X.prog X.w H s.heap tp (.tup cs) from I.hok tp _ hT)
    have e3 := ClsV.all k rv
    subst e3
    obtain ⟨oc, od, dt, sl⟩ := o
    simp only at g2 g3
    subst g2 g3
    exact PySem.W.kia_tup Z I.kIn J g1 ek (fun z => nomatch z) fun tk => ⟨.bl b, H, I.kept (t' := tk) fun _ _ z => z, rfl, q⟩
/-- isinstance(n, T), n in slot i the exception at a, of class cx -/
def isE (T : XTab) (a : Addr) (cx : Nat) (ts : List (Option Nat)) (i : Nat) : Ev D := fun S st => match S[i]? with
  | some (.d (.err a' c')) => if a' = a ∧ c' = cx then got ((isX T cx ts).map D.bl) S st else .stuck
  | _ => .stuck
theorem Ok.errSlot {G : Gx} {B : Hp} {F : Fz} {H : Hp} {σ : L2.St} {S : Sls} {st : Store} (o : Ok G B F σ H S st) {i : Nat} {a : Addr} {c : Nat} (h : S[i]? = some (.d (.err a c))) : σ[i]? = some (some (.ref a)) := by
  obtain ⟨v, e, r⟩ := o.sl i _ h
  cases r
  exact e
/-- one class -/
theorem de_isE1 {i : Nat} {n : Str} {t : Option Nat} {v : V} {u : Value} (hT : XT X.K X.mg T) (hp : (a, oe) ∈ X.pn) (hz : Zc (.ref C) none oe) (hf : ∃ vs, oe.data = .fields vs) (hC : X.mg (nmS cx) = some (.ref C)) (hx : XCl X.K C) (hi : X.mg "isinstance" = none)
    (hn : PE X (.Name n pe) (tVar i)) (he : PE X e (tC v)) (hv : TVs X.mg [t] [v] [u]) (hg : Gl X "isinstance" := by rfl)
    (hs : starEach [.Name n pe, e] X.env = (false, eval (.Name n pe) X.env) :: starEach [e] X.env := by rfl) (hs2 : starEach [e] X.env = (false, eval e X.env) :: starEach [] X.env := by rfl) (hpl : (backTo pos (starEach [e] X.env)).any (·.1) = false := by rfl) : DE X B W (.Call (.Name "isinstance" p) [.Name n pe, e] [] pos) (isE T a cx [t] i) :=
  pe_imp (pe_callB (call_isP hp hz hf hx.is) hg hi rfl (pa_cons hn (pa_cons he pa_nil hs2) hs) (by decide) (by decide) hs hpl) fun σ H Q ⟨F, S, st, o, q⟩ => by
    unfold isE at q
    split at q
    · rename_i a' c' hS
      split at q
      · rename_i hh
        obtain ⟨rfl, rfl⟩ := hh
        cases hb : isX T c' [t] with
        | none => rw [hb] at q; exact q.elim
        | some b =>
          rw [hb] at q
          have hk := isX_kit hT hC hx hv hb
          refine ⟨_, o.errSlot hS, .inl ⟨v, u, b, rfl, ?_, ?_, q (.bl b) H F .refl o (.bl b)⟩⟩
          · cases hv.cls with
            | cons k _ => exact k
          · unfold PySem.W.kitAny at hk
            split at hk
            · rename_i e1; rw [e1]; exact hk
            · rename_i e1; rw [e1]; exact hk
            · cases hk
      · exact q.elim
    · exact q.elim
/-- the names of a tuple of classes -/
inductive TNs (X : Cx) : List Expr → List (Option Nat) → List V → Prop
  | nil : TNs X [] [] []
  | cons {e : Expr} {es : List Expr} {t : Option Nat} {ts : List (Option Nat)} {v : V} {vs : List V} : PE X e (tC v) → starEach (e :: es) X.env = (false, eval e X.env) :: starEach es X.env → TNs X es ts vs → TNs X (e :: es) (t :: ts) (v :: vs)
theorem TNs.pa : ∀ {es : List Expr} {ts : List (Option Nat)} {vs : List V}, TNs X es ts vs → PA X es (fun _ H Q => Q vs H)
  | _, _, _, .nil => pa_imp pa_nil fun _ _ _ q => q
  | _, _, _, .cons h hs t => pa_imp (pa_cons h t.pa hs) fun _ _ _ q => q
/-- several classes -/
theorem de_isET {i : Nat} {n : Str} {ts : List (Option Nat)} {vs : List V} {us : List Value} {x1} (hT : XT X.K X.mg T) (hp : (a, oe) ∈ X.pn) (hz : Zc (.ref C) none oe) (hf : ∃ vs, oe.data = .fields vs) (hC : X.mg (nmS cx) = some (.ref C)) (hx : XCl X.K C) (hi : X.mg "isinstance" = none)
    (hn : PE X (.Name n pe) (tVar i)) (he : TNs X es ts vs) (hv : TVs X.mg ts vs us) (hl : vs.length ≤ 1000) (hg : Gl X "isinstance" := by rfl)
    (hs : starEach [.Name n pe, .Tuple es x1 p2] X.env = (false, eval (.Name n pe) X.env) :: starEach [.Tuple es x1 p2] X.env := by rfl) (hs2 : starEach [.Tuple es x1 p2] X.env = (false, eval (.Tuple es x1 p2) X.env) :: starEach [] X.env := by rfl) (hpl : (backTo pos (starEach [.Tuple es x1 p2] X.env)).any (·.1) = false := by rfl) : DE X B W (.Call (.Name "isinstance" p) [.Name n pe, .Tuple es x1 p2] [] pos) (isE T a cx ts i) :=
  pe_imp (pe_callB (call_isP hp hz hf hx.is) hg hi rfl (pa_cons hn (pa_cons (pe_tup he.pa) pa_nil hs2) hs) (by decide) (by decide) hs hpl) fun σ H Q ⟨F, S, st, o, q⟩ => by
    unfold isE at q
    split at q
    · rename_i a' c' hS
      split at q
      · rename_i hh
        obtain ⟨rfl, rfl⟩ := hh
        cases hb : isX T c' ts with
        | none => rw [hb] at q; exact q.elim
        | some b =>
          rw [hb] at q
          have hk := isX_kit hT hC hx hv hb
          exact ⟨_, o.errSlot hS, Nat.le_of_lt (small1000 (Nat.le_of_lt_succ (Nat.lt_succ_of_le hl))), fun tp htp => .inr ⟨tp, vs, us, b, rfl, upd_same, hv.cls, hk, q (.bl b) _ F .refl (o.junk (same_new htp)) (.bl b)⟩⟩
      · exact q.elim
    · exact q.elim
end
end DL

namespace DL
open PySem PySem.Spec PyProof.Rows L2
/-! ### raise, try -/
def sX (c : Nat) : EvS := fun S st => .exc ⟨c, []⟩ S st
/-- nothing is let out -/
def noX : Out → Out
  | .exc _ _ _ => .stuck
  | r => r
/-- try: body, except h: suite (by the class of what was raised) -/
def sTry (T : XTab) (h : Nat) (fb : EvS) (fs : Nat → EvS) : EvS := fun S st => match fb S st with
  | .exc x S1 st1 => match xLook T x.c h, x.fs with
    | some true, [] => noX (fs x.c S1 st1)
    | some false, _ => .exc x S1 st1
    | _, _ => .stuck
  | r => r
/-- slot i is gone -/
def clr (i : Nat) : Out → Out
  | .nx S st => .nx (S.set i .no) st
  | .ret d S st => .ret d (S.set i .no) st
  | .bk S st => .bk (S.set i .no) st
  | .ct S st => .ct (S.set i .no) st
  | .rto w S st => .rto w (S.set i .no) st
  | .exc _ _ _ => .stuck
  | .stuck => .stuck
/-- what comes of every address -/
noncomputable def pickO (r : Addr → Out) : Out := by
  classical
  exact if h : ∃ o, ∀ a, r a = o then Classical.choose h else .stuck
theorem pickO_eq {r : Addr → Out} {o : Out} (h : ∀ a, r a = o) : pickO r = o := by
  have hx : ∃ o, ∀ a, r a = o := ⟨o, h⟩
  unfold pickO
  rw [dif_pos hx]
  rw [← Classical.choose_spec hx 0, h 0]
/-- try: body, except h as n (slot i): suite -/
noncomputable def sTryA (T : XTab) (h i : Nat) (fb : EvS) (fs : Addr → Nat → EvS) : EvS := fun S st => match fb S st with
  | .exc x S1 st1 => match xLook T x.c h, x.fs with
    | some true, [] => pickO fun a => clr i (fs a x.c (S1.set i (.d (.err a x.c))) st1)
    | some false, _ => .exc x S1 st1
    | _, _ => .stuck
  | r => r
section
variable {X : Cx} {B : Hp} {W : WX} {pos p p2 p3 np pos2 : Pos} {T : XTab}
theorem ds_raise {c : Nat} {x m : Str} {j : Nat} (hT : XT X.K X.mg T) (hc : (c, c, true) ∈ T) (hx : nmS c = x) (tk : Takes X W) (hcalm : X.calm = true := by rfl) (hg : Gl X x := by rfl) (hdb : (x == ("__debug__" : Str)) = false := by decide) :
    DS X B W (.Raise (some (.Call (.Name x p) [.Constant (.str m) j p2] [] p3)) none pos) (sX c) := by
  obtain ⟨C, C2, a1, a2, a3, a4, a5⟩ := hT.rows _ _ _ hc
  rw [a1] at a2; cases a2
  have a1' := a1
  rw [hx] at a1
  exact ps_imp (ps_raise hcalm tk (pmk_own PySem.F.excBase_ValueError a4.ex a1 a4.kp (raises_own a5.be a4.ty) hg hdb)) fun D σ H ⟨F, S, st, o, q⟩ => q (.ref C) none σ H F .refl o ⟨C, a1', rfl, .inl ⟨rfl, rfl⟩⟩
/-- a class that a clause names -/
structure HNm (X : Cx) (h : Nat) (x : Str) : Prop where
  ex : ∃ C, X.mg x = some (.ref C) ∧ HCl X.K C
  nm : nmS h = x
theorem XT.exm (hT : XT X.K X.mg T) {c h : Nat} {C Ch : Addr} {b : Bool} (e : xLook T c h = some b) (hC : X.mg (nmS c) = some (.ref C)) (hh : X.mg (nmS h) = some (.ref Ch)) : PySem.W.exmOne X.K (.ref C) (.ref Ch) = some b ∧ XCl X.K C := by
  obtain ⟨C1, C2, a1, a2, a3, a4, a5⟩ := hT.rows _ _ _ (xLook_mem e)
  rw [hC] at a1; cases a1
  rw [hh] at a2; cases a2
  exact ⟨PySem.W.exm_ref a5.be a5.hd a5.ty a3, a4⟩
theorem PostS.noX {G : Gx} {F F' : Fz} {D : Ends} {r : Out} (g : Gr B F F') (q : PostS G B W F D (noX r)) : PostS G B (fun _ _ _ _ => False) F' D r := by
  cases r with
  | exc x S st => exact q.elim
  | nx S st => exact PostS.grow (W := fun _ _ _ _ => False) g (r := .nx S st) q
  | ret d S st => exact PostS.grow (W := fun _ _ _ _ => False) g (r := .ret d S st) q
  | bk S st => exact PostS.grow (W := fun _ _ _ _ => False) g (r := .bk S st) q
  | ct S st => exact PostS.grow (W := fun _ _ _ _ => False) g (r := .ct S st) q
  | rto w S st => exact PostS.grow (W := fun _ _ _ _ => False) g (r := .rto w S st) q
  | stuck => exact q
theorem ds_tryO {h : Nat} {x : Str} {body suite : List Stmt} {b0 : Stmt} {fb : EvS} {fs : Nat → EvS} (hT : XT X.K X.mg T) (hh : HNm X h x) (tk : Takes X W)
    (hb : ∀ (W' : WX) (pn : List (Addr × Obj)) (xe : Value → Shared → Prop), Takes (X.tr pn xe) W' → PassesOwn (model X.prog X.w) X.A X.env xe → DSs (X.tr pn xe) B W' body fb)
    (hsu : ∀ (a : Addr) (oe : Obj) (C : Addr) (pn : List (Addr × Obj)) (c : Nat), X.mg (nmS c) = some (.ref C) → XCl X.K C → Zc (.ref C) none oe → (∃ vs, oe.data = .fields vs) → DSs (X.suite a ((a, oe) :: pn)) B (fun _ _ _ _ => False) (b0 :: suite) (fs c))
    (hs : X.stack = X.env :: X.outer := by rfl) (hf : X.env.frame = some X.env.locals := by rfl) (hg : Gl X x := by rfl) (hdb : (x == ("__debug__" : Str)) = false := by decide) :
    DS X B W (.Try body [.ExceptHandler (some (.Name x np)) none (b0 :: suite) pos2] [] [] pos) (sTry T h fb fs) := by
  obtain ⟨⟨Ch, hCh, hcl⟩, hnm⟩ := hh
  have hCh' : X.mg (nmS h) = some (.ref Ch) := by rw [hnm]; exact hCh
  refine ps_imp (ps_try_only (ts := fun a cls d D σ H => ∃ (c : Nat) (C : Addr), cls = .ref C ∧ d = none ∧ X.mg (nmS c) = some (.ref C) ∧ XCl X.K C ∧ liftS (Cx.g X) B (fun _ _ _ _ => False) (fs c) D σ H) (tb := fun W' => liftS (Cx.g X) B W' fb) hs hf ⟨hg, hdb, .inl hCh⟩ tk hb (fun a oe cls d pn hz hfl => ⟨fun pins sh σ H D I z => ?_⟩)) fun D σ H ⟨F, S, st, o, q⟩ => ?_
  · obtain ⟨c, C, e1, e2, e3, e4, q⟩ := z
    subst e1; subst e2
    exact (hsu a oe C pn c e3 e4 hz hfl).run pins sh σ H D I q
  · refine ⟨F, S, st, o, ?_⟩
    unfold sTry at q
    generalize fb S st = r at q
    cases r with
    | exc x S1 st1 =>
      intro cls dd σ' H' F' g o' xr
      obtain ⟨C, hC, rfl, hd⟩ := id xr
      dsimp only at q
      cases hl : xLook T x.c h with
      | none => rw [hl] at q; exact q.elim
      | some b =>
        obtain ⟨hexm, hxc⟩ := hT.exm hl hC hCh'
        rw [hl] at q
        cases b with
        | false => exact ⟨false, hexm, fun z => (by cases z), fun _ => q _ _ σ' H' F' g o' xr⟩
        | true =>
          cases hfs : x.fs with
          | cons y r => rw [hfs] at q; exact q.elim
          | nil =>
            rw [hfs] at q
            have hdn : dd = none := by
              rcases hd with ⟨_, e⟩ | ⟨n, _⟩
              · exact e
              · exact absurd hfs n
            exact ⟨true, hexm, fun _ a ha => ⟨x.c, C, rfl, hdn, hC, hxc, F', S1, st1, o', PostS.noX g q⟩, fun z => (by cases z)⟩
    | nx S st => exact q
    | ret d S st => exact q
    | bk S st => exact q
    | ct S st => exact q
    | rto w S st => exact q
    | stuck => exact q
theorem PostS.clr {G : Gx} {F F' : Fz} {i : Nat} {D : Ends} {r : Out} (g : Gr B F F') (q : PostS G B W F D (clr i r)) :
    PostS G B (fun _ _ _ _ => False) F' { nx := fun σ' H' => D.nx (σ'.set i none) H', rt := D.rt, bk := fun σ' H' => D.bk (σ'.set i none) H', ct := fun σ' H' => D.ct (σ'.set i none) H' } r := by
  cases r with
  | exc x S st => exact q.elim
  | nx S st => exact fun σ' H' F2 g2 o => q (σ'.set i none) H' F2 (g.trans g2) (o.any i none)
  | ret d S st => exact fun v σ' H' F2 g2 o r => q v (σ'.set i none) H' F2 (g.trans g2) (o.any i none) r
  | bk S st => exact fun σ' H' F2 g2 o => q (σ'.set i none) H' F2 (g.trans g2) (o.any i none)
  | ct S st => exact fun σ' H' F2 g2 o => q (σ'.set i none) H' F2 (g.trans g2) (o.any i none)
  | rto w S st => exact fun p u σ' H' F2 g2 o => q p u (σ'.set i none) H' F2 (g.trans g2) (o.any i none)
  | stuck => exact q
theorem pickO_at {r : Addr → Out} (a : Addr) : pickO r = .stuck ∨ pickO r = r a := by
  unfold pickO
  by_cases h : ∃ o, ∀ a, r a = o
  · rw [dif_pos h]; exact .inr (Classical.choose_spec h a).symm
  · rw [dif_neg h]; exact .inl rfl
theorem ds_tryA {h i : Nat} {x n : Str} {body suite : List Stmt} {b0 : Stmt} {fb : EvS} {fs : Addr → Nat → EvS} (hT : XT X.K X.mg T) (hh : HNm X h x) (tk : Takes X W)
    (hN : X.N.Nodup)
    (hb : ∀ (W' : WX) (pn : List (Addr × Obj)) (xe : Value → Shared → Prop), Takes (X.tr pn xe) W' → PassesOwn (model X.prog X.w) X.A X.env xe → DSs (X.tr pn xe) B W' body fb)
    (hsu : ∀ (a : Addr) (oe : Obj) (C : Addr) (pn : List (Addr × Obj)) (c : Nat), X.mg (nmS c) = some (.ref C) → XCl X.K C → Zc (.ref C) none oe → (∃ vs, oe.data = .fields vs) → DSs (X.suite a ((a, oe) :: pn)) B (fun _ _ _ _ => False) (b0 :: suite) (fs a c))
    (hi : X.N[i]? = some n := by rfl) (hln : X.env.kindOf n = some .local := by rfl)
    (hs : X.stack = X.env :: X.outer := by rfl) (hf : X.env.frame = some X.env.locals := by rfl) (hg : Gl X x := by rfl) (hdb : (x == ("__debug__" : Str)) = false := by decide) :
    DS X B W (.Try body [.ExceptHandler (some (.Name x np)) (some n) (b0 :: suite) pos2] [] [] pos) (sTryA T h i fb fs) := by
  obtain ⟨⟨Ch, hCh, hcl⟩, hnm⟩ := hh
  have hCh' : X.mg (nmS h) = some (.ref Ch) := by rw [hnm]; exact hCh
  refine ps_imp (ps_try_as (ts := fun a cls d D σ H => ∃ (c : Nat) (C : Addr), cls = .ref C ∧ d = none ∧ X.mg (nmS c) = some (.ref C) ∧ XCl X.K C ∧ liftS (Cx.g X) B (fun _ _ _ _ => False) (fs a c) D σ H) (tb := fun W' => liftS (Cx.g X) B W' fb) hs hf hN hi hln ⟨hg, hdb, .inl hCh⟩ tk hb (fun a oe cls d pn hz hfl => ⟨fun pins sh σ H D I z => ?_⟩)) fun D σ H ⟨F, S, st, o, q⟩ => ?_
  · obtain ⟨c, C, e1, e2, e3, e4, q⟩ := z
    subst e1; subst e2
    exact (hsu a oe C pn c e3 e4 hz hfl).run pins sh σ H D I q
  · refine ⟨F, S, st, o, ?_⟩
    unfold sTryA at q
    generalize fb S st = r at q
    cases r with
    | exc x S1 st1 =>
      intro cls dd σ' H' F' g o' xr
      obtain ⟨C, hC, rfl, hd⟩ := id xr
      dsimp only at q
      cases hl : xLook T x.c h with
      | none => rw [hl] at q; exact q.elim
      | some b =>
        obtain ⟨hexm, hxc⟩ := hT.exm hl hC hCh'
        rw [hl] at q
        cases b with
        | false => exact ⟨false, hexm, fun z => (by cases z), fun _ => q _ _ σ' H' F' g o' xr⟩
        | true =>
          cases hfs : x.fs with
          | cons y r => rw [hfs] at q; exact q.elim
          | nil =>
            rw [hfs] at q
            have hdn : dd = none := by
              rcases hd with ⟨_, e⟩ | ⟨n, _⟩
              · exact e
              · exact absurd hfs n
            refine ⟨true, hexm, fun _ a ha => ⟨x.c, C, rfl, hdn, hC, hxc, F', _, st1, o'.set i (.err a x.c), ?_⟩, fun z => (by cases z)⟩
            dsimp only at q
            rcases pickO_at (r := fun a => DL.clr i (fs a x.c (S1.set i (.d (.err a x.c))) st1)) a with e | e
            · rw [e] at q; exact q.elim
            · rw [e] at q; exact PostS.clr g q
    | nx S st => exact q
    | ret d S st => exact q
    | bk S st => exact q
    | ct S st => exact q
    | rto w S st => exact q
    | stuck => exact q
end
/-! ### a def that is handed the caught exception -/
section
variable {P : Program} {w : World} {K : PySem.W.Frag} {mg : Str → Option Value} {base : Heap}
/-- what such a def says of the exception at a, of class c -/
abbrev CallP := Addr → Nat → CallT
def spP (G : Gx) (a : Addr) (c : Nat) (f : CallP) : Sp := fun vs H Q _ => vs = [.ref a] ∧ ∃ (F : Fz) (st : Store), Same F.f H ∧ StOk G (hid F.m H) F H st ∧ match f a c [.err a c] st with
  | .ok d _ st' => ∀ v H' (F' : Fz), Same (hid F.m H) H' → Same F'.f H' → Gr (hid F.m H) F F' → StOk G (hid F.m H) F' H' st' → Rp G F' v d → Q v H'
  | _ => False
structure DefP (P : Program) (w : World) (K : PySem.W.Frag) (mg : Str → Option Value) (base : Heap) (k : Nat) (x : Str) (f : CallP) : Prop where
  ex : ∃ (fa : Addr) (fd : FuncData) (n : Str), Binds K fd [n] [] ∧ mg x = some (.ref fa) ∧ PySem.W.keepIn K (.ref fa) = true ∧
    ∀ (a : Addr) (oe : Obj) (c : Nat) (C : Addr), mg (nmS c) = some (.ref C) → XCl K C → Zc (.ref C) none oe → (∃ vs, oe.data = .fields vs) →
      ∀ (A : Around) (outer : List Env) (s : Shared) (H : Hp) (args : Args) (us : List Value) (vs : List V) (Q : VK) (E : XK), L2H.RoomH k A → L2H.PinOk outer H s (a, oe) → Env0 P w K mg base A outer s H → BindsTo s fd args ([n].zip us) → Vals vs us → spP ⟨K, mg⟩ a c f vs H Q E →
        codeAny (model P w) A (.call (.ref fa) args) (CR (L2.CX P w) outer P w H s Q E) s
theorem defP_ok {x qual n : Str} {st : Stmt} {f : Addr} {fd : FuncData} {N : List Str} {k : Nat} {b : Addr → Nat → EvS} (F : Fun K x qual st f fd) (S : FnScope N [n] (defScope st)) (hb : Binds K fd [n] []) (hm : mg x = some (.ref f))
    (body : ∀ (a : Addr) (oe : Obj) (c : Nat) (C : Addr), mg (nmS c) = some (.ref C) → XCl K C → Zc (.ref C) none oe → (∃ vs, oe.data = .fields vs) → ∀ (B : Hp) (cdv : Value) (A : Around) (outer : List Env) (s : Shared) (H : Hp) (E : XK),
      DSs (L2H.cxH (L2.CX P w) P w K mg base N qual (defScope st) f cdv A outer s H E (a, oe)) B (fun _ _ _ _ => False) (defBody st) (b a c)) : DefP P w K mg base (k + 1) x (fun a c => runB N.length (b a c)) := by
  refine ⟨f, fd, n, hb, hm, F.kp, fun a oe c C hC hx hz hf A outer s H args us vs Q E hr hpin e0 hbi r hsp => ?_⟩
  obtain ⟨oc, od, kV, doc, pm, an, cdv, ct, osl, rfl, lk, hcd⟩ := F.ex
  obtain ⟨rfl, F0, st0, f0, so0, q⟩ := hsp
  have KX : K.In s.heap := e0.mod.kin.keeps fun b o e => (e0.bs b o e).1
  have lim : s.heap.NoLimit := e0.mod.nolimit.keeps fun b o e => (e0.bs b o e).1
  have hkind : ∀ y ∈ [n].zip us, (defScope st).names.lookup y.1 = some .local ∨ ((defScope st).names.lookup y.1 = some .cell ∧ ((cellsFrom (s.heap.objs.size + 1) (defScope st).names []).lookup y.1).isSome = true) := fun ⟨y, v⟩ hy => by
    rcases S.par y (List.of_mem_zip hy).1 with q | q
    · exact .inl q
    · exact .inr ⟨q, PySem.W.cellsFrom_some _ _ _ (.inl q)⟩
  refine codeAny_call_function hr.depth (KX _ _ lk) rfl S.co S.gen rfl (PySem.W.codeRec_of KX hcd) (hbi _ _ _ _ ?_)
  refine wpAny_newFunctionEnv_cells S.kind hkind fun env he s1 y => ?_
  subst he
  refine ⟨lim.keeps y.toInCall.keep, codeAny_func ?_⟩
  have hN : 1 ≤ N.length := by have := congrArg List.length S.pre; rw [List.length_take] at this; simp at this; omega
  have ra : RpAll (⟨K, mg⟩ : Gx) F0 [V.ref a] [D.err a c] := .cons (.err a c) .nil
  have I : Inv (L2H.cxH (L2.CX P w) P w K mg base N qual (defScope st) f cdv A outer s H E (a, oe)) [] (L2.start N [.ref a]) H s1 := L2H.inv_startH S hpin e0 rfl r y
  have hq : liftS (⟨K, mg⟩ : Gx) (hid F0.m H) (fun _ _ _ _ => False) (b a c) { nx := fun _ H' => Q .non H', rt := Q } (L2.start N [.ref a]) H := by
    refine ⟨F0, _, st0, Ok.start f0 (hid_same _ _) so0 ra (by simpa using hN), ?_⟩
    unfold runB at q
    dsimp only at q
    revert q
    generalize b a c ([D.err a c].map Sl.d ++ List.replicate (N.length - [D.err a c].length) .no) st0 = r
    intro q
    cases r with
    | nx S1 st1 => exact fun σ' H' F' g o => q .non H' F' o.kp o.fH g o.so .non
    | ret d S1 st1 => exact fun v σ' H' F' g o rr => q v H' F' o.kp o.fH g o.so rr
    | exc y S1 st1 => exact q.elim
    | bk S1 st1 => exact q.elim
    | ct S1 st1 => exact q.elim
    | rto w1 S1 st1 => exact q.elim
    | stuck => exact q.elim
  refine wpAny_mono ((body a oe c C hC hx hz hf (hid F0.m H) cdv A outer s H E).run [] s1 (L2.start N [.ref a]) H _ I hq) (fun fl s' hs => ?_) fun e s' hs => hs
  have fin : ∀ {σ' : L2.St} {H' : Hp} {v : V} {u : Value}, Inv (L2H.cxH (L2.CX P w) P w K mg base N qual (defScope st) f cdv A outer s H E (a, oe)) [] σ' H' s' → RelV v u → Q v H' → CE outer P w H s Q u s' :=
    fun {σ' H' v u} J rv q => ⟨v, H', J.os, J.bare, J.base, J.hok, rv, q⟩
  cases fl with
  | ret u =>
    obtain ⟨v, σ', H', J, rv, q⟩ := hs
    exact fin J rv q
  | next =>
    obtain ⟨σ', H', J, q⟩ := hs
    exact fin (v := V.non) (u := Value.none) J rfl q
  | brk =>
    obtain ⟨_, _, _, q⟩ := hs
    exact False.elim q
  | cont =>
    obtain ⟨_, _, _, q⟩ := hs
    exact False.elim q
theorem DefP.mono {k j : Nat} {x : Str} {f : CallP} (d : DefP P w K mg base k x f) (h : k ≤ j) : DefP P w K mg base j x f := by
  obtain ⟨fa, fd, n, h1, h2, h3, h4⟩ := d.ex
  exact ⟨fa, fd, n, h1, h2, h3, fun a oe c C hC hx hz hf A outer s H args us vs Q E hr => h4 a oe c C hC hx hz hf A outer s H args us vs Q E (hr.mono h)⟩
end
/-- x(n), n in slot i the exception at a, of class c -/
def cPE (f : CallP) (a : Addr) (c i : Nat) : Ev D := fun S st => match S[i]? with
  | some (.d (.err a' c')) => if a' = a ∧ c' = c then (match f a c [.err a c] st with
    | .ok d _ st => .ok d S st
    | _ => .stuck) else .stuck
  | _ => .stuck
section
variable {X : Cx} {B : Hp} {W : WX} {pos p pe : Pos} {a C : Addr} {oe : Obj} {c i k : Nat} {x n : Str} {f : CallP}
theorem de_cP (d : DefP X.prog X.w X.K X.mg X.base k x f) (hr : L2H.RoomH k X.A) (hC : X.mg (nmS c) = some (.ref C)) (hx : XCl X.K C) (hz : Zc (.ref C) none oe) (hf : ∃ vs, oe.data = .fields vs) (hp : (a, oe) ∈ X.pn) (tk : Takes X (fun _ _ _ _ => False))
    (hn : PE X (.Name n pe) (tVar i)) (hg : Gl X x := by rfl) (hdb : (x == ("__debug__" : Str)) = false := by decide)
    (he : starEach [.Name n pe] X.env = (false, eval (.Name n pe) X.env) :: starEach [] X.env := by rfl) (hpl : (backTo pos (starEach [] X.env)).any (·.1) = false := by rfl) : DE X B W (.Call (.Name x p) [.Name n pe] [] pos) (cPE f a c i) := by
  obtain ⟨fa, fd, m, hb, hm, hk, F⟩ := d.ex
  refine ⟨fun pins s σ H Q I h => ?_⟩
  refine wpAny_Call_Name_kw (ld_glob I hg hm ?_ hdb)
  obtain ⟨F0, S, st, o, q⟩ := h
  unfold cPE at q
  split at q
  · rename_i a' c' hS
    split at q
    · rename_i hh
      obtain ⟨rfl, rfl⟩ := hh
      have ha : PA X [.Name n pe] _ := pa_cons hn pa_nil he
      refine PySem.W.callWith_K (h₀ := X.base) I.ok.mod.kin hk (thn (ha.run pos pins s σ H (fun vs H1 => vs = [.ref a'] ∧ H1 = H) I ⟨_, o.errSlot hS, rfl, rfl⟩) fun us s1 ⟨vs, H1, I1, r, q1⟩ => ⟨I1.kIn, ?_⟩) he hpl
      obtain ⟨rfl, rfl⟩ := q1
      obtain ⟨u1, rfl, r1⟩ : ∃ u1, us = [u1] ∧ RelV (.ref a') u1 := by
        cases r with
        | cons r1 r2 => cases r2; exact ⟨_, rfl, r1⟩
      have P1 := I1.pin (a', oe) (List.mem_append_left _ hp)
      have hpin : L2H.PinOk X.stack H1 s1 (a', oe) := ⟨P1.1, P1.2.1, fun hm => (List.mem_cons.mp (I1.stkSub a' hm)).elim P1.2.2.1 P1.2.2.2.1, P1.2.2.2.2⟩
      have b := hb s1 [u1] I1.kIn rfl
      rw [List.append_nil] at b
      refine wpAny_call (codeAny_mono (F a' oe c' C hC hx hz hf X.A X.stack s1 H1 ⟨[u1], []⟩ [u1] [.ref a'] Q (WE (fun _ _ _ _ => False) σ) hr hpin I1.env0 b r ⟨rfl, F0, st, o.fH, o.so.hid, ?_⟩) fun r s' hq => ?_)
      · revert q
        generalize f a' c' [.err a' c'] st = r'
        intro q
        cases r' with
        | ok d S1 st1 => exact fun v H' F' k g gr so rr => q v H' F' (o.back k g gr so).1 (o.back k g gr so).2 rr
        | exc y S1 st1 => exact q.elim
        | stuck => exact q.elim
      · cases r with
        | error e => exact passAt tk σ pins H1 s1 e s' I1 hq
        | ok fl =>
          cases fl with
          | ret u => exact I1.after hq
          | next => exact False.elim hq
          | brk => exact False.elim hq
          | cont => exact False.elim hq
    · exact q.elim
  · exact q.elim
end
/-! ### isinstance of a caught one, by names -/
def tgt (T : XTab) (t : Nat) : Bool := T.any fun r => r.2.1 == t
theorem tgt_ex {K : PySem.W.Frag} {mg : Str → Option Value} {T : XTab} (hT : XT K mg T) {t : Nat} (h : tgt T t = true) : ∃ Ct, mg (nmS t) = some (.ref Ct) ∧ HCl K Ct := by
  unfold tgt at h
  obtain ⟨⟨c, t', b⟩, hm, e⟩ := List.any_eq_true.mp h
  have e' : t' = t := by simpa using e
  subst e'
  obtain ⟨C, Ct, a1, a2, a3, a4, a5⟩ := hT.rows _ _ _ hm
  exact ⟨Ct, a2, a5⟩
theorem hnm_of {X : Cx} {T : XTab} (hT : XT X.K X.mg T) {h : Nat} {x : Str} (ht : tgt T h = true) (hx : nmS h = x) : HNm X h x := by
  obtain ⟨C, a, b⟩ := tgt_ex hT ht
  rw [hx] at a
  exact ⟨⟨C, a, b⟩, hx⟩
inductive TN (X : Cx) (T : XTab) : List Expr → List (Option Nat) → Prop
  | nil : TN X T [] []
  | ve {p : Pos} {es : List Expr} {ts : List (Option Nat)} : Gl X "ValueError" → TN X T es ts → TN X T (.Name "ValueError" p :: es) (none :: ts)
  | own {x : Str} {t : Nat} {p : Pos} {es : List Expr} {ts : List (Option Nat)} : Gl X x → (x == ("__debug__" : Str)) = false → nmS t = x → tgt T t = true → TN X T es ts → TN X T (.Name x p :: es) (some t :: ts)
section
variable {X : Cx} {B : Hp} {W : WX} {T : XTab}
theorem TN.all (hT : XT X.K X.mg T) : ∀ {es : List Expr} {ts : List (Option Nat)}, TN X T es ts → ∃ vs us, TNs X es ts vs ∧ TVs X.mg ts vs us ∧ vs.length = ts.length
  | _, _, .nil => ⟨[], [], .nil, .nil, rfl⟩
  | _, _, .ve hg r => by
    obtain ⟨vs, us, a, b, c⟩ := r.all hT
    exact ⟨_, _, .cons (pe_bltn (v := .ty "ValueError") (u := .type "ValueError") hg hT.ve rfl rfl) rfl a, .ve b, by simp [c]⟩
  | _, _, .own hg hd hx ht r => by
    obtain ⟨vs, us, a, b, c⟩ := r.all hT
    obtain ⟨Ct, m, h⟩ := tgt_ex hT ht
    have m' := m
    rw [hx] at m
    exact ⟨_, _, .cons (pe_glob (v := .ref Ct) (u := .ref Ct) hg m rfl hd) rfl a, .own m' b, by simp [c]⟩
variable {a C : Addr} {oe : Obj} {cx : Nat} {pos p pe p2 : Pos}
theorem de_isI1 {i : Nat} {n : Str} {t : Option Nat} {e : Expr} (hT : XT X.K X.mg T) (hp : (a, oe) ∈ X.pn) (hz : Zc (.ref C) none oe) (hf : ∃ vs, oe.data = .fields vs) (hC : X.mg (nmS cx) = some (.ref C)) (hx : XCl X.K C) (hi : X.mg "isinstance" = none)
    (hn : PE X (.Name n pe) (tVar i)) (he : TN X T [e] [t]) (hg : Gl X "isinstance" := by rfl)
    (hs : starEach [.Name n pe, e] X.env = (false, eval (.Name n pe) X.env) :: starEach [e] X.env := by rfl) (hpl : (backTo pos (starEach [e] X.env)).any (·.1) = false := by rfl) : DE X B W (.Call (.Name "isinstance" p) [.Name n pe, e] [] pos) (isE T a cx [t] i) := by
  obtain ⟨vs, us, h1, h2, h3⟩ := he.all hT
  cases h1 with
  | cons h1 hs2 r =>
    cases r
    cases h2 with
    | ve r => cases r; exact de_isE1 hT hp hz hf hC hx hi hn h1 (.ve .nil) hg hs hs2 hpl
    | own m r => cases r; exact de_isE1 hT hp hz hf hC hx hi hn h1 (.own m .nil) hg hs hs2 hpl
theorem de_isIT {i : Nat} {n : Str} {ts : List (Option Nat)} {es : List Expr} {x1} (hT : XT X.K X.mg T) (hp : (a, oe) ∈ X.pn) (hz : Zc (.ref C) none oe) (hf : ∃ vs, oe.data = .fields vs) (hC : X.mg (nmS cx) = some (.ref C)) (hx : XCl X.K C) (hi : X.mg "isinstance" = none)
    (hn : PE X (.Name n pe) (tVar i)) (he : TN X T es ts) (hl : ts.length ≤ 1000 := by decide) (hg : Gl X "isinstance" := by rfl)
    (hs : starEach [.Name n pe, .Tuple es x1 p2] X.env = (false, eval (.Name n pe) X.env) :: starEach [.Tuple es x1 p2] X.env := by rfl) (hs2 : starEach [.Tuple es x1 p2] X.env = (false, eval (.Tuple es x1 p2) X.env) :: starEach [] X.env := by rfl) (hpl : (backTo pos (starEach [.Tuple es x1 p2] X.env)).any (·.1) = false := by rfl) : DE X B W (.Call (.Name "isinstance" p) [.Name n pe, .Tuple es x1 p2] [] pos) (isE T a cx ts i) := by
  obtain ⟨vs, us, h1, h2, h3⟩ := he.all hT
  exact de_isET hT hp hz hf hC hx hi hn h1 h2 (by omega) hg hs hs2 hpl
end
end DL

namespace DL
open PySem PySem.Spec PyProof.Rows L2

theorem OpR.or {X : Cx} {f : Value → Value → Sem Value} {r r' : R2} (h : OpR X f r) (h' : OpR X f r') : OpR X f (fun x y H Q => r x y H Q ∨ r' x y H Q) := by
  intro pins s σ H x y v u Q I rx ry q
  rcases q with q | q
  · exact h pins s σ H x y v u Q I rx ry q
  · exact h' pins s σ H x y v u Q I rx ry q
theorem CallR.or {X : Cx} {f : Value} {r r' : List V → Hp → VK → Prop} (h : CallR X f r) (h' : CallR X f r') : CallR X f (fun x H Q => r x H Q ∨ r' x H Q) := by
  intro pins s σ H xs us Q I rs q
  rcases q with q | q
  · exact h pins s σ H xs us Q I rs q
  · exact h' pins s σ H xs us Q I rs q

/-! ### data, seen -/
section
variable {G : Gx} {F : Fz} {H : Hp} {v : V} {d : D}
theorem Vw.int_eq {i : Int} (h : Vw G F H v (.int i)) : v = .int i := by
  rcases h with h | ⟨_, _, w, _, _, _, e⟩ | ⟨_, _, _, e1x, _, e3⟩
  · cases h; rfl
  · cases w <;> cases e
  · first | (cases e3; done) | (subst e1x e3; rfl) | (subst e3; cases e; done) | (subst e3; simp_all; done) | (subst e3; contradiction)
theorem Vw.bl_eq {i : Bool} (h : Vw G F H v (.bl i)) : v = .bl i := by
  rcases h with h | ⟨_, _, w, _, _, _, e⟩ | ⟨_, _, _, e1x, _, e3⟩
  · cases h; rfl
  · cases w <;> cases e
  · first | (cases e3; done) | (subst e1x e3; rfl) | (subst e3; cases e; done) | (subst e3; simp_all; done) | (subst e3; contradiction)
theorem Vw.non_eq (h : Vw G F H v .non) : v = .non := by
  rcases h with h | ⟨_, _, w, _, _, _, e⟩ | ⟨_, _, _, e1x, _, e3⟩
  · cases h; rfl
  · cases w <;> cases e
  · first | (cases e3; done) | (subst e1x e3; rfl) | (subst e3; cases e; done) | (subst e3; simp_all; done) | (subst e3; contradiction)
theorem Vw.ty_eq {n : String} (h : Vw G F H v (.ty n)) : v = .ty n := by
  rcases h with h | ⟨_, _, w, _, _, _, e⟩ | ⟨_, _, _, e1x, _, e3⟩
  · cases h; rfl
  · cases w <;> cases e
  · first | (cases e3; done) | (subst e1x e3; rfl) | (subst e3; cases e; done) | (subst e3; simp_all; done) | (subst e3; contradiction)
theorem Vw.str_eq {s : List Nat} (h : Vw G F H v (.str s)) : v = .str (tx s) ∧ okS s = true := by
  rcases h with h | ⟨_, _, w, _, _, _, e⟩ | ⟨_, _, _, e1x, _, e3⟩
  · cases h with | str _ o => exact ⟨rfl, o⟩
  · cases w <;> cases e
  · first | (cases e3; done) | (subst e1x e3; rfl) | (subst e3; cases e; done) | (subst e3; simp_all; done) | (subst e3; contradiction)
def asL : D → Option (List D)
  | .lst ds => some ds
  | .scr ns => some (ns.map .int)
  | _ => none
theorem Vw.seqL {ds : List D} (h : Vw G F H v d) (f : Same F.f H) (e : asL d = some ds) : ∃ p xs, v = .ref p ∧ SqL G.K H p xs ∧ RpAll G F xs ds := by
  rcases h with h | ⟨p, u, w, rfl, hp, ow, rfl⟩ | ⟨_, _, _, e1x, _, e3⟩
  · cases h with
    | lst h1 h2 => cases e; exact ⟨_, _, rfl, .inl (.inl (f _ _ h1)), h2⟩
    | scr h1 => cases e; exact ⟨_, _, rfl, f.seq h1, rp_ints G F _⟩
    | _ => cases e
  · cases ow with
    | l r => cases e; exact ⟨_, _, rfl, .inl (.inl hp), r⟩
    | _ => cases e
  · first | (cases e3; done) | (subst e1x e3; rfl) | (subst e3; cases e; done) | (subst e3; simp_all; done) | (subst e3; contradiction)
theorem Vw.lst {ds : List D} (h : Vw G F H v (.lst ds)) (f : Same F.f H) : ∃ p xs, v = .ref p ∧ H p = some (.lst xs) ∧ RpAll G F xs ds := by
  rcases h with h | ⟨p, u, w, rfl, hp, ow, e⟩ | ⟨_, _, _, e1x, _, e3⟩
  · cases h with
    | lst h1 h2 => exact ⟨_, _, rfl, f _ _ h1, h2⟩
  · cases ow with
    | l r => cases e; exact ⟨_, _, rfl, hp, r⟩
    | _ => cases e
  · first | (cases e3; done) | (subst e1x e3; rfl) | (subst e3; cases e; done) | (subst e3; simp_all; done) | (subst e3; contradiction)
theorem Vw.tup {ds : List D} (h : Vw G F H v (.tup ds)) (f : Same F.f H) : ∃ p xs, v = .ref p ∧ SqT G.K H p xs ∧ RpAll G F xs ds := by
  rcases h with h | ⟨p, u, w, rfl, hp, ow, e⟩ | ⟨_, _, _, e1x, _, e3⟩
  · cases h with
    | tup h1 h2 => exact ⟨_, _, rfl, same_seqT f h1, h2⟩
  · cases w <;> cases e
  · first | (cases e3; done) | (subst e1x e3; rfl) | (subst e3; cases e; done) | (subst e3; simp_all; done) | (subst e3; contradiction)
theorem Vw.tup' {ds : List D} (h : Vw G F H v (.tup ds)) : Rp G F v (.tup ds) := by
  rcases h with h | ⟨p, u, w, rfl, hp, ow, e⟩ | ⟨_, _, _, e1x, _, e3⟩
  · exact h
  · cases w <;> cases e
  · first | (cases e3; done) | (subst e1x e3; rfl) | (subst e3; cases e; done) | (subst e3; simp_all; done) | (subst e3; contradiction)
theorem gives_v {r : VK → Prop} (rp : Rp G F v d) (f : Same F.f H) (h : ∀ Q : VK, Q v H → r Q) : Gives r G F H d := fun Q k => h Q (k v H F (Same.refl H) f .refl rp)
theorem gives_tup {r : VK → Prop} {xs : List V} {ds : List D} (rp : RpAll G F xs ds) (f : Same F.f H) (h : ∀ Q : VK, (∀ p, H p = none → Q (.ref p) (upd H p (.tup xs))) → r Q) : Gives r G F H (.tup ds) := fun Q k => h Q fun p hp =>
  k _ _ (upd F.f p (.tup xs)) (same_new hp) (same_upd2 f) (gr_new f hp) (.tup (.inl (.inl upd_same)) (rp.mono (.up (gr_new (o := .tup xs) f hp).1)))
theorem lays_l {r : VK → Prop} {xs : List V} {ds : List D} (rp : RpAll G F xs ds) (h : ∀ Q : VK, (∀ p, H p = none → Q (.ref p) (upd H p (.lst xs))) → r Q) : Lays r G F H (.l ds) := fun Q k => h Q fun p hp => k p _ hp (.l rp)
theorem gives_lst {r : VK → Prop} {xs : List V} {ds : List D} (rp : RpAll G F xs ds) (f : Same F.f H) (h : ∀ Q : VK, (∀ p, H p = none → Q (.ref p) (upd H p (.lst xs))) → r Q) : Gives r G F H (.lst ds) := (lays_l rp h).gives f
end
section
variable {G : Gx} {X : Cx}

/-! ### numbers -/
def dI2 (c : Int → Int → Bool) (g : Int → Int → Int) : D → D → Option D
  | .int i, .int j => if c i j = true then some (.int (g i j)) else none
  | _, _ => none
theorem op2_I {C : Int → Int → Prop} {c : Int → Int → Bool} {g : Int → Int → Int} (hc : ∀ i j, c i j = true → C i j) : Op2 G (rI C fun i j => .int (g i j)) (dI2 c g) := fun F H v w x y d f hv hw e => by
  unfold dI2 at e
  split at e
  · split at e
    · rename_i i j h
      cases e
      cases hv.int_eq; cases hw.int_eq
      exact gives_v (.int _) f fun Q q => ⟨i, j, rfl, rfl, hc i j h, q⟩
    · cases e
  · cases e
def dI0 (g : Int → Int → Int) : D → D → Option D
  | .int i, .int j => some (.int (g i j))
  | _, _ => none
theorem op2_I0 {g : Int → Int → Int} : Op2 G (rI0 fun i j => .int (g i j)) (dI0 g) := fun F H v w x y d f hv hw e => by
  unfold dI0 at e
  split at e
  · cases e
    cases hv.int_eq; cases hw.int_eq
    exact gives_v (.int _) f fun Q q => ⟨_, _, rfl, rfl, q⟩
  · cases e
def dSub := dI0 fun i j => i - j
theorem op_dSub : Op2 G (rI0 fun i j => .int (i - j)) dSub := op2_I0
/-- a bound for a product -/
def mulC (i j : Int) : Bool := decide (i.natAbs.log2 + j.natAbs.log2 < 100000000)
theorem mulC_ok {i j : Int} (h : mulC i j = true) : CMulX i j := by
  have h := of_decide_eq_true h
  have b : ∀ x : Int, Builtin.Int.intBits x ≤ x.natAbs.log2 + 1 := fun x => by
    unfold Builtin.Int.intBits
    split <;> omega
  have h1 := b i
  have h2 := b j
  unfold CMulX
  omega
def dFdiv := dI2 (fun _ j => decide (0 < j) && decide (j.natAbs.log2 < 9000)) fun i j => i / j
theorem op_dFdiv : Op2 G (rI CDivW fun i j => .int (i / j)) dFdiv := op2_I fun i j h => by
  rw [Bool.and_eq_true] at h
  exact ⟨of_decide_eq_true h.1, of_decide_eq_true h.2⟩
def dMod := dI2 (fun _ j => decide (0 < j)) fun i j => i % j
theorem op_dMod : Op2 G (rI (fun _ j => 0 < j) fun i j => .int (i % j)) dMod := op2_I fun i j h => of_decide_eq_true h
/-- ** with a small base, or of few bits in all -/
def CPowW (i j : Int) : Prop := 0 ≤ j ∧ (Builtin.Int.intBits i : Int) * j ≤ 2 ^ 27
theorem op_powW {X : Cx} : OpR X (binaryOp .Pow) (rI CPowW fun i j => .int (i ^ j.toNat)) := opI fun _ _ _ _ _ _ _ hc q => pow_int hc.1 hc.2 q
def dPow := dI2 (fun i j => decide (0 ≤ j) && (decide (j ≤ 1000000) && decide (i.natAbs < 18446744073709551616) || decide (((i.natAbs.log2 + 1 : Nat) : Int) * j ≤ 134217728))) fun i j => i ^ j.toNat
theorem op_dPow : Op2 G (rI CPowW fun i j => .int (i ^ j.toNat)) dPow := op2_I fun i j h => by
  rw [Bool.and_eq_true, Bool.or_eq_true, Bool.and_eq_true] at h
  have h0 := of_decide_eq_true h.1
  refine ⟨h0, ?_⟩
  rcases h.2 with h | h
  · have h1 := of_decide_eq_true h.1
    have h2 := of_decide_eq_true h.2
    exact bits_mul_le (a := i) (by omega) h0 h1
  · have h := of_decide_eq_true h
    have b : (Builtin.Int.intBits i : Int) ≤ ((i.natAbs.log2 + 1 : Nat) : Int) := by
      unfold Builtin.Int.intBits
      split <;> omega
    exact Int.le_trans (Int.mul_le_mul_of_nonneg_right b h0) h
def dShr := dI2 (fun _ j => decide (0 ≤ j)) fun i j => i / 2 ^ j.toNat
theorem op_dShr : Op2 G (rI (fun _ j => 0 ≤ j) fun i j => .int (i / 2 ^ j.toNat)) dShr := op2_I fun i j h => of_decide_eq_true h
def dShl := dI2 (fun i j => decide (0 ≤ j) && decide (i.natAbs.log2 + j < 100000000)) fun i j => i * 2 ^ j.toNat
theorem op_dShl : Op2 G (rI CShl fun i j => .int (i * 2 ^ j.toNat)) dShl := op2_I fun i j h => by
  rw [Bool.and_eq_true] at h
  have h1 := of_decide_eq_true h.1
  have h2 := of_decide_eq_true h.2
  have b : Builtin.Int.intBits i ≤ i.natAbs.log2 + 1 := by
    unfold Builtin.Int.intBits
    split <;> omega
  exact ⟨h1, by omega⟩
def dAnd := dI0 Builtin.bitAnd
theorem op_dAnd : Op2 G (rI0 fun i j => .int (Builtin.bitAnd i j)) dAnd := op2_I0
def dOr := dI0 Builtin.bitOr
theorem op_dOr : Op2 G (rI0 fun i j => .int (Builtin.bitOr i j)) dOr := op2_I0
def dXor := dI0 Builtin.bitXor
theorem op_dXor : Op2 G (rI0 fun i j => .int (Builtin.bitXor i j)) dXor := op2_I0
def dNeg : D → Option D
  | .int i => some (.int (-i))
  | _ => none
theorem op_dNeg : Op1 G (rU fun i => .int (-i)) dNeg := fun F H v x d f hv e => by
  unfold dNeg at e
  split at e
  · cases e; cases hv.int_eq
    exact gives_v (.int _) f fun Q q => ⟨_, rfl, q⟩
  · cases e

/-! ### +, * of several kinds -/
def rAddS : R2 := fun x y H Q => ∃ i j, x = .str i ∧ y = .str j ∧ i.length + j.length ≤ sizeLine ∧ Q (.str (i ++ j)) H
def rAddD (K : PySem.W.Frag) : R2 := fun x y H Q => rI0 (fun i j => .int (i + j)) x y H Q ∨ rAddS x y H Q ∨ rCat x y H Q ∨ rCatA K x y H Q
theorem opR_add : OpR X (binaryOp .Add) (rAddD X.K) := OpR.or op_add (OpR.or op_add_str (OpR.or op_cat op_catA))
def dAdd : D → D → Option D
  | .int i, .int j => some (.int (i + j))
  | .str s, .str t => if s.length + t.length ≤ 16777216 then some (.str (s ++ t)) else none
  | .lst s, .lst t => if s.length + t.length ≤ 16777216 then some (.lst (s ++ t)) else none
  | .tup s, .tup t => if s.length + t.length ≤ 16777216 then some (.tup (s ++ t)) else none
  | _, _ => none
theorem op_dAdd : Op2 G (rAddD G.K) dAdd := fun F H v w x y d f hv hw e => by
  unfold dAdd at e
  split at e
  · cases e
    cases hv.int_eq; cases hw.int_eq
    exact gives_v (.int _) f fun Q q => .inl ⟨_, _, rfl, rfl, q⟩
  · split at e
    · rename_i h
      cases e
      obtain ⟨rfl, o1⟩ := hv.str_eq
      obtain ⟨rfl, o2⟩ := hw.str_eq
      exact gives_v (.str _ (okS_app o1 o2)) f fun Q q => .inr (.inl ⟨_, _, rfl, rfl, by rw [tx_len, tx_len, sizeLine_eq]; exact h, by rw [tx_app]; exact q⟩)
    · cases e
  · split at e
    · rename_i h
      cases e
      obtain ⟨p, xs, rfl, h1, r1⟩ := hv.lst f
      obtain ⟨q, ys, rfl, h2, r2⟩ := hw.lst f
      exact gives_lst (r1.append r2) f fun Q q => .inr (.inr (.inl ⟨_, _, _, _, rfl, rfl, h1, h2, by rw [r1.length, r2.length, sizeLine_eq]; exact h, q⟩))
    · cases e
  · split at e
    · rename_i h
      cases e
      obtain ⟨p, xs, rfl, h1, r1⟩ := hv.tup f
      obtain ⟨q, ys, rfl, h2, r2⟩ := hw.tup f
      have l1 := r1.length
      have l2 := r2.length
      intro Q k
      refine .inr (.inr (.inr ⟨_, _, _, _, rfl, rfl, h1, h2, by rw [l1, l2, sizeLine_eq]; exact h, fun e => ?_, fun e1 e2 => ?_, fun _ _ => ?_⟩))
      · subst e
        cases r1
        exact k _ _ F (Same.refl H) f .refl hw.tup'
      · subst e2
        cases r2
        rw [List.append_nil] at k
        exact k _ _ F (Same.refl H) f .refl hv.tup'
      · exact fun p hp => gives_tup (r := fun Q => ∀ p, H p = none → Q (.ref p) (upd H p (.tup (xs ++ ys)))) (r1.append r2) f (fun Q q => q) Q k p hp
    · cases e
  · cases e
/-- .. as a new list -/
def dAddF : D → D → Option Ow
  | .lst s, .lst t => if s.length + t.length ≤ 16777216 then some (.l (s ++ t)) else none
  | _, _ => none
theorem op_dAddF : Op2F G (rAddD G.K) dAddF := fun F H v w x y d f hv hw e => by
  unfold dAddF at e
  split at e
  · split at e
    · rename_i h
      cases e
      obtain ⟨p, xs, rfl, h1, r1⟩ := hv.lst f
      obtain ⟨q, ys, rfl, h2, r2⟩ := hw.lst f
      exact lays_l (r1.append r2) fun Q q => .inr (.inr (.inl ⟨_, _, _, _, rfl, rfl, h1, h2, by rw [r1.length, r2.length, sizeLine_eq]; exact h, q⟩))
    · cases e
  · cases e
/-- n copies, one behind the other -/
def reps {α : Type} (s : List α) (n : Nat) : List α := (List.replicate n s).flatten
def rMulS : R2 := fun x y H Q => ∃ s k, x = .str s ∧ y = .int k ∧ MulOk s k ∧ Q (.str (Txt.mul s k)) H
theorem op_mulS : OpR X (binaryOp .Mult) rMulS := by
  intro pins s σ H x y v u Q I rx ry h
  obtain ⟨z, k, rfl, rfl, hk, q⟩ := h
  obtain ⟨t, rfl⟩ := rx
  obtain ⟨t', rfl⟩ := ry
  exact SB.mul hk fun t2 k2 => ⟨.str _, H, I.tok _, ⟨_, rfl⟩, q⟩
def rMulD : R2 := fun x y H Q => rI CMulX (fun i j => .int (i * j)) x y H Q ∨ rMulS x y H Q ∨ rRep x y H Q
theorem opR_mul : OpR X (binaryOp .Mult) rMulD := OpR.or op_mulX (OpR.or op_mulS op_rep)
theorem foldl_app (x : Array Nat) : ∀ (n : Nat) (a : Array Nat), ((List.replicate n x).foldl (· ++ ·) a).toList = a.toList ++ reps x.toList n
  | 0, a => by simp [reps]
  | n + 1, a => by
    rw [List.replicate_succ, List.foldl_cons, foldl_app x n]
    simp [reps, List.replicate_succ]
theorem mul_reps (s : List Nat) (n : Int) : Txt.mul (tx s) n = tx (reps s n.toNat) := by
  unfold Txt.mul
  split
  · rename_i h
    have : n.toNat = 0 := by omega
    rw [this]; rfl
  · split
    · rename_i h1 h2
      rw [Bool.or_eq_true] at h2
      rcases h2 with h2 | h2
      · have : n = 1 := by simpa using h2
        subst this
        simp [reps, tx]
      · have : s = [] := by
          rw [tx_len] at h2
          exact List.eq_nil_of_length_eq_zero (by simpa using h2)
        subst this
        simp [reps, tx]
    · have e : ((List.replicate n.toNat (tx s).cps).foldl (· ++ ·) #[]).toList = reps s n.toNat := by
        rw [foldl_app]; simp [tx]
      rw [← e]
      simp [tx]
theorem okS_reps {s : List Nat} (h : okS s = true) (n : Nat) : okS (reps s n) = true := okS_sub h fun c m => by
  unfold reps at m
  obtain ⟨l, h1, h2⟩ := List.mem_flatten.mp m
  rw [(List.mem_replicate.mp h1).2] at h2
  exact h2
theorem RpAll.reps {G : Gx} {F : Fz} {xs : List V} {ds : List D} (r : RpAll G F xs ds) : ∀ n : Nat, RpAll G F (List.replicate n xs).flatten (DL.reps ds n)
  | 0 => .nil
  | n + 1 => by
    rw [List.replicate_succ, List.flatten_cons]
    unfold DL.reps
    rw [List.replicate_succ, List.flatten_cons]
    exact r.append (RpAll.reps r n)
def dMul : D → D → Option D
  | .int i, .int j => if mulC i j = true then some (.int (i * j)) else none
  | .str s, .int k => if decide (0 ≤ k) && decide (k ≤ 1000000) && decide (s.length * k.toNat ≤ 1000000) then some (.str (reps s k.toNat)) else none
  | .lst s, .int k => if decide (0 ≤ k) && decide (k ≤ 1000000) && decide (s.length * k.toNat ≤ 1000000) then some (.lst (reps s k.toNat)) else none
  | _, _ => none
theorem mulOk_of {s : List Nat} {k : Int} (h0 : 0 ≤ k) (h1 : k ≤ 1000000) (h2 : s.length * k.toNat ≤ 1000000) : MulOk (tx s) k := by
  refine ⟨?_, fun a b => ?_, fun a b => ?_⟩
  · rw [decide_eq_false (by omega), decide_eq_false (by omega)]; rfl
  · rw [tx_len]
    have hk : 0 < k.toNat := by omega
    have hs : s.length ≤ 1000000 := Nat.le_trans (Nat.le_mul_of_pos_right _ hk) h2
    have : (1000000 : Int) ≤ (2 ^ 63 - 1) / k := by
      refine (Int.le_ediv_iff_mul_le (by omega)).mpr ?_
      have : (1000000 : Int) * k ≤ 1000000 * 1000000 := Int.mul_le_mul_of_nonneg_left h1 (by decide)
      omega
    omega
  · rw [tx_len]
    unfold Builtin.Str.tooLong
    have := sizeLine_eq
    simp
    omega
theorem op_dMul : Op2 G rMulD dMul := fun F H v w x y d f hv hw e => by
  unfold dMul at e
  split at e
  · split at e
    · rename_i h
      cases e
      cases hv.int_eq; cases hw.int_eq
      exact gives_v (.int _) f fun Q q => .inl ⟨_, _, rfl, rfl, mulC_ok h, q⟩
    · cases e
  · split at e
    · rename_i h
      cases e
      obtain ⟨rfl, o1⟩ := hv.str_eq
      cases hw.int_eq
      rw [Bool.and_eq_true, Bool.and_eq_true, decide_eq_true_eq, decide_eq_true_eq, decide_eq_true_eq] at h
      exact gives_v (.str _ (okS_reps o1 _)) f fun Q q => .inr (.inl ⟨_, _, rfl, rfl, mulOk_of h.1.1 h.1.2 h.2, by rw [mul_reps]; exact q⟩)
    · cases e
  · split at e
    · rename_i h
      cases e
      obtain ⟨p, xs, rfl, h1, r1⟩ := hv.lst f
      cases hw.int_eq
      rw [Bool.and_eq_true, Bool.and_eq_true, decide_eq_true_eq, decide_eq_true_eq, decide_eq_true_eq] at h
      have l1 := r1.length
      exact gives_lst (r1.reps _) f fun Q q => .inr (.inr ⟨_, _, _, rfl, rfl, h1, by omega, by omega, by rw [l1, sizeLine_eq]; omega, q⟩)
    · cases e
  · cases e
end
end DL

namespace DL
open PySem PySem.Spec PyProof.Rows L2

/-! ### == -/
mutual
def toPy : D → PyData
  | .non => .none
  | .bl b => .bool b
  | .int i => .int i
  | .str s => .str (tx s)
  | .lst ds => .list (toPys ds)
  | .tup ds => .tuple (toPys ds)
  | .scr ns => .list (ns.map .int)
  | .dic _ => .dict []
  | .obj _ _ => .dict []
  | .ty _ => .dict []
  | .err _ _ => .dict []
  | .loc _ => .dict []
def toPys : List D → List PyData
  | [] => []
  | d :: r => toPy d :: toPys r
end
mutual
/-- None, truths, numbers, texts, lists and tuples of them -/
def pureD : D → Bool
  | .lst ds => pureDs ds
  | .tup ds => pureDs ds
  | .dic _ => false
  | .obj _ _ => false
  | .ty _ => false
  | .err _ _ => false
  | .loc _ => false
  | _ => true
def pureDs : List D → Bool
  | [] => true
  | d :: r => pureD d && pureDs r
end
mutual
def depD : D → Nat
  | .lst ds => depDs ds + 1
  | .tup ds => depDs ds + 1
  | .scr _ => 1
  | _ => 0
def depDs : List D → Nat
  | [] => 0
  | d :: r => max (depD d) (depDs r)
end
def deq (a b : D) : Bool := PyData.eqv (toPy a) (toPy b)
def deqs (a b : List D) : Bool := PyData.eqvAll (toPys a) (toPys b)
section
variable {G : Gx} {F : Fz} {H : Hp}
theorem lay_ints : ∀ ns : List Int, PyData.canLayAll0 (ns.map .int) = true
  | [] => rfl
  | n :: r => by simp [PyData.canLayAll0, PyData.canLay0, lay_ints r]
theorem dep_ints : ∀ ns : List Int, PyData.depthAll (ns.map .int) = 0
  | [] => rfl
  | n :: r => by simp [PyData.depthAll, PyData.depth, dep_ints r]
theorem strOk_of {s : List Nat} (h : okS s = true) : PyData.strOk (tx s) = true := by
  unfold PyData.strOk tx okS at *
  simpa using h
mutual
theorem depth_toPy : ∀ d : D, PyData.depth (toPy d) ≤ depD d ∨ pureD d = false
  | .non => .inl (by simp [toPy, PyData.depth])
  | .bl b => .inl (by simp [toPy, PyData.depth])
  | .int i => .inl (by simp [toPy, PyData.depth])
  | .str s => .inl (by simp [toPy, PyData.depth])
  | .lst ds => by
    rcases depth_toPys ds with h | h
    · exact .inl (by simp [toPy, PyData.depth, depD]; exact h)
    · exact .inr (by simp [pureD, h])
  | .tup ds => by
    rcases depth_toPys ds with h | h
    · exact .inl (by simp [toPy, PyData.depth, depD]; exact h)
    · exact .inr (by simp [pureD, h])
  | .scr ns => .inl (by simp [toPy, PyData.depth, depD, dep_ints])
  | .dic _ => .inr (by simp [pureD])
  | .obj _ _ => .inr (by simp [pureD])
  | .ty _ => .inr (by simp [pureD])
  | .err _ _ => .inr (by simp [pureD])
  | .loc _ => .inr (by simp [pureD])
theorem depth_toPys : ∀ ds : List D, PyData.depthAll (toPys ds) ≤ depDs ds ∨ pureDs ds = false
  | [] => .inl (by simp [toPys, PyData.depthAll])
  | d :: r => by
    rcases depth_toPy d with h | h
    · rcases depth_toPys r with h' | h'
      · exact .inl (by simp [toPys, PyData.depthAll, depDs]; omega)
      · exact .inr (by simp [pureDs, h'])
    · exact .inr (by simp [pureDs, h])
end
mutual
theorem Rp.dp (e : Same F.f H) : ∀ {v : V} {d : D}, Rp G F v d → pureD d = true → Dp G.K H v (toPy d) ∧ PyData.canLay0 (toPy d) = true
  | _, _, .non, _ => ⟨by simp [toPy]; exact .non, by simp [toPy, PyData.canLay0]⟩
  | _, _, .bl b, _ => ⟨by simp [toPy]; exact .bl b, by simp [toPy, PyData.canLay0]⟩
  | _, _, .int i, _ => ⟨by simp [toPy]; exact .int i, by simp [toPy, PyData.canLay0]⟩
  | _, _, .str x h, _ => ⟨by simp [toPy]; exact .str _, by simp [toPy, PyData.canLay0, strOk_of h]⟩
  | _, _, .lst h t, p => by
    obtain ⟨h1, h2⟩ := RpAll.dp e t (by simpa [pureD] using p)
    exact ⟨by simp [toPy]; exact .lst (.inl (.inl (e _ _ h))) h1, by simp [toPy, PyData.canLay0, h2]⟩
  | _, _, .tup h t, p => by
    obtain ⟨h1, h2⟩ := RpAll.dp e t (by simpa [pureD] using p)
    exact ⟨by simp [toPy]; exact .tup (same_seqT e h) h1, by simp [toPy, PyData.canLay0, h2]⟩
  | _, _, .scr (ns := ns) h, p => by
    have : ∀ ns : List Int, DpAll G.K H (ns.map V.int) (ns.map PyData.int) := fun ns => by
      induction ns with
      | nil => exact .nil
      | cons n r ih => exact .cons (.int n) ih
    exact ⟨by simp only [toPy]; exact .lst (e.seq h) (this ns), by simp [toPy, PyData.canLay0, lay_ints]⟩
  | _, _, .dicK _ _, p => by simp [pureD] at p
  | _, _, .obj _ _ _ _, p => by simp [pureD] at p
  | _, _, .err _ _, p => by simp [pureD] at p
  | _, _, .loc _, p => by simp [pureD] at p
  | _, _, .ty _, p => by simp [pureD] at p
theorem RpAll.dp (e : Same F.f H) : ∀ {vs : List V} {ds : List D}, RpAll G F vs ds → pureDs ds = true → DpAll G.K H vs (toPys ds) ∧ PyData.canLayAll0 (toPys ds) = true
  | _, _, .nil, _ => ⟨by simp [toPys]; exact .nil, by simp [toPys, PyData.canLayAll0]⟩
  | _, _, .cons h t, p => by
    simp [pureDs] at p
    obtain ⟨h1, h2⟩ := Rp.dp e h p.1
    obtain ⟨h3, h4⟩ := RpAll.dp e t p.2
    exact ⟨by simp [toPys]; exact .cons h1 h3, by simp [toPys, PyData.canLayAll0, h2, h4]⟩
end
def eqOk (d : D) : Bool := pureD d && decide (depD d ≤ 60)
theorem Vw.dp {v : V} {d : D} (h : Vw G F H v d) (e : Same F.f H) (p : eqOk d = true) : Dp G.K H v (toPy d) ∧ SeqAt.shaped (toPy d) = true := by
  unfold eqOk at p
  rw [Bool.and_eq_true, decide_eq_true_eq] at p
  have dp : PyData.depth (toPy d) ≤ depD d := (depth_toPy d).resolve_right (by rw [p.1]; simp)
  have fin : PyData.canLay0 (toPy d) = true → SeqAt.shaped (toPy d) = true := fun h => by
    unfold SeqAt.shaped
    rw [h, decide_eq_true (by omega)]; rfl
  rcases h with h | ⟨q, u, w, rfl, hp, ow, rfl⟩ | ⟨_, _, _, e1x, _, e3⟩
  · obtain ⟨a, b⟩ := h.dp e p.1
    exact ⟨a, fin b⟩
  · cases ow with
    | l r =>
      obtain ⟨h1, h2⟩ := r.dp e (by simpa [Ow.d, pureD] using p.1)
      exact ⟨by simp [Ow.d, toPy]; exact .lst (.inl (.inl hp)) h1, fin (by simp [Ow.d, toPy, PyData.canLay0, h2])⟩
    | _ => simp [Ow.d, pureD] at p
  · first | (cases e3; done) | (subst e1x e3; rfl) | (subst e3; cases e; done) | (subst e3; simp_all; done) | (subst e3; contradiction)
end
def dEq (a b : D) : Option D := if eqOk a = true ∧ eqOk b = true then some (.bl (deq a b)) else none
def dNe (a b : D) : Option D := if eqOk a = true ∧ eqOk b = true then some (.bl (!deq a b)) else none
section
variable {G : Gx} {X : Cx}
theorem op_dEq : Op2 G (rEqD G.K) dEq := fun F H v w x y d f hv hw e => by
  unfold dEq at e
  split at e
  · rename_i h
    cases e
    obtain ⟨a, b⟩ := hv.dp f h.1
    obtain ⟨a', b'⟩ := hw.dp f h.2
    exact gives_v (.bl _) f fun Q q => ⟨_, _, a, a', b, b', q⟩
  · cases e
theorem op_dNe : Op2 G (rNeD G.K) dNe := fun F H v w x y d f hv hw e => by
  unfold dNe at e
  split at e
  · rename_i h
    cases e
    obtain ⟨a, b⟩ := hv.dp f h.1
    obtain ⟨a', b'⟩ := hw.dp f h.2
    exact gives_v (.bl _) f fun Q q => ⟨_, _, a, a', b, b', q⟩
  · cases e

/-! ### order -/
def dCmp (p : Int → Int → Bool) (q : List Nat → List Nat → Bool) : D → D → Option D
  | .int i, .int j => some (.bl (p i j))
  | .str s, .str t => some (.bl (q s t))
  | _, _ => none
def rCmp (p : Int → Int → Bool) (q : List Nat → List Nat → Bool) : R2 := fun x y H Q => rI0 (fun i j => .bl (p i j)) x y H Q ∨ (∃ i j : Str, x = .str i ∧ y = .str j ∧ Q (.bl (q i.cps.toList j.cps.toList)) H)
theorem op_dCmp {p : Int → Int → Bool} {q : List Nat → List Nat → Bool} : Op2 G (rCmp p q) (dCmp p q) := fun F H v w x y d f hv hw e => by
  unfold dCmp at e
  split at e
  · cases e
    cases hv.int_eq; cases hw.int_eq
    exact gives_v (.bl _) f fun Q q => .inl ⟨_, _, rfl, rfl, q⟩
  · cases e
    obtain ⟨rfl, o1⟩ := hv.str_eq
    obtain ⟨rfl, o2⟩ := hw.str_eq
    exact gives_v (.bl _) f fun Q q => .inr ⟨_, _, rfl, rfl, q⟩
  · cases e
def dLt := dCmp (fun i j => decide (i < j)) fun s t => decide (s < t)
def dLe := dCmp (fun i j => decide (i ≤ j)) fun s t => !decide (t < s)
def dGt := dCmp (fun i j => decide (j < i)) fun s t => decide (t < s)
def dGe := dCmp (fun i j => decide (j ≤ i)) fun s t => !decide (s < t)
theorem opR_lt : OpR X (compareOp .Lt) (rCmp (fun i j => decide (i < j)) fun s t => decide (s < t)) := OpR.or op_lt op_lt_str
theorem opR_le : OpR X (compareOp .LtE) (rCmp (fun i j => decide (i ≤ j)) fun s t => !decide (t < s)) := OpR.or op_le op_le_str
theorem opR_gt : OpR X (compareOp .Gt) (rCmp (fun i j => decide (j < i)) fun s t => decide (t < s)) := OpR.or op_gt op_gt_str
theorem opR_ge : OpR X (compareOp .GtE) (rCmp (fun i j => decide (j ≤ i)) fun s t => !decide (s < t)) := OpR.or op_ge op_ge_str
/-- is None, is a truth -/
def isN : D → Bool
  | .non => true
  | _ => false
def dIs : D → D → Option D
  | x, .non => some (.bl (isN x))
  | .bl a, .bl b => some (.bl (decide (a = b)))
  | _, _ => none
def dIsNot : D → D → Option D
  | x, .non => some (.bl (!isN x))
  | .bl a, .bl b => some (.bl (!decide (a = b)))
  | _, _ => none
def rIsN : R2 := fun x y H Q => y = .non ∧ Q (.bl (decide (x = .non))) H
def rNotN : R2 := fun x y H Q => y = .non ∧ Q (.bl (!decide (x = .non))) H
def rIsD : R2 := fun x y H Q => rIsN x y H Q ∨ rIsB x y H Q
def rIsNotD : R2 := fun x y H Q => rNotN x y H Q ∨ rNotB x y H Q
theorem opR_is : OpR X (compareOp .Is) rIsD := OpR.or op_isN op_isBl
theorem opR_isNot : OpR X (compareOp .IsNot) rIsNotD := OpR.or op_notN op_notBl
theorem Vw.isN {F : Fz} {H : Hp} {v : V} {x : D} (h : Vw G F H v x) : decide (v = .non) = isN x := by
  rcases h with h | ⟨p, u, w, rfl, _, _, rfl⟩ | ⟨_, _, _, e1x, _, e3⟩
  · cases h <;> rfl
  · cases w <;> rfl
  · first | (cases e3; done) | (subst e1x e3; rfl) | (subst e3; cases e; done) | (subst e3; simp_all; done) | (subst e3; contradiction)
theorem op_dIs : Op2 G rIsD dIs := fun F H v w x y d f hv hw e => by
  unfold dIs at e
  split at e
  · cases e
    cases hw.non_eq
    exact gives_v (.bl _) f fun Q q => .inl ⟨rfl, by rw [hv.isN]; exact q⟩
  · cases e
    cases hv.bl_eq; cases hw.bl_eq
    exact gives_v (.bl _) f fun Q q => .inr ⟨_, _, rfl, rfl, q⟩
  · cases e
theorem op_dIsNot : Op2 G rIsNotD dIsNot := fun F H v w x y d f hv hw e => by
  unfold dIsNot at e
  split at e
  · cases e
    cases hw.non_eq
    exact gives_v (.bl _) f fun Q q => .inl ⟨rfl, by rw [hv.isN]; exact q⟩
  · cases e
    cases hv.bl_eq; cases hw.bl_eq
    exact gives_v (.bl _) f fun Q q => .inr ⟨_, _, rfl, rfl, q⟩
  · cases e

/-! ### in -/
def flatD : D → Bool
  | .non => true
  | .bl _ => true
  | .int _ => true
  | .str _ => true
  | _ => false
theorem flat_v {F : Fz} {v : V} {d : D} (h : Rp G F v d) (e : flatD d = true) : flatV v = true := by cases h <;> first | rfl | cases e
theorem eqV_deq {F : Fz} {v w : V} {d e : D} (h : Rp G F v d) (h' : Rp G F w e) (f : flatD d = true) (f' : flatD e = true) : eqV v w = deq d e := by
  cases h <;> cases h' <;> simp_all [eqV, deq, toPy, PyData.eqv, flatD]
theorem flat_all {F : Fz} : ∀ {xs : List V} {ds : List D}, RpAll G F xs ds → ds.all flatD = true → xs.all flatV = true
  | _, _, .nil, _ => rfl
  | _, _, .cons h t, e => by
    rw [List.all_cons, Bool.and_eq_true] at e ⊢
    exact ⟨flat_v h e.1, flat_all t e.2⟩
theorem inV_any {F : Fz} {v : V} {d : D} (h : Rp G F v d) (f : flatD d = true) : ∀ {xs : List V} {ds : List D}, RpAll G F xs ds → ds.all flatD = true → inV v xs = ds.any fun z => deq z d
  | _, _, .nil, _ => rfl
  | _, _, .cons h' t, e => by
    rw [List.all_cons, Bool.and_eq_true] at e
    have ih := inV_any h f t e.2
    unfold inV at ih ⊢
    rw [List.any_cons, List.any_cons, ih, eqV_deq h' h e.1 f]
theorem toPys_any (d : D) : ∀ ds : List D, ((toPys ds).any fun z => PyData.eqv z (toPy d)) = ds.any fun z => deq z d
  | [] => rfl
  | x :: r => by rw [toPys, List.any_cons, List.any_cons, toPys_any d r]; rfl
/-- x in y -/
def inD (x : D) : D → Option Bool
  | .str t => match x with
    | .str [c] => some (decide (c ∈ t))
    | _ => none
  | .lst ds => if eqOk x = true ∧ eqOk (.lst ds) = true then some (ds.any fun z => deq z x) else none
  | .tup ds => if flatD x = true ∧ ds.all flatD = true then some (ds.any fun z => deq z x) else none
  | _ => none
def rInSg : R2 := fun x y H Q => ∃ (c : Nat) (z : Str), x = .str ⟨#[c]⟩ ∧ y = .str z ∧ Q (.bl (decide (c ∈ z.cps.toList))) H
def rNotInSg : R2 := fun x y H Q => ∃ (c : Nat) (z : Str), x = .str ⟨#[c]⟩ ∧ y = .str z ∧ Q (.bl (!decide (c ∈ z.cps.toList))) H
def rInAll (K : PySem.W.Frag) : R2 := fun x y H Q => rInSg x y H Q ∨ rInD K x y H Q ∨ rIn K false x y H Q
def rNotInAll (K : PySem.W.Frag) : R2 := fun x y H Q => rNotInSg x y H Q ∨ rNotInD K x y H Q ∨ rIn K true x y H Q
theorem opR_in (hu : X.A.units + 65 < cLine) : OpR X (compareOp .In) (rInAll X.K) := OpR.or op_in_sign (OpR.or (op_inD hu) op_in_seq)
theorem opR_notIn (hu : X.A.units + 65 < cLine) : OpR X (compareOp .NotIn) (rNotInAll X.K) := OpR.or op_notIn_sign (OpR.or (op_notInD hu) op_notIn_seq)
def dIn (x y : D) : Option D := (inD x y).map .bl
def dNotIn (x y : D) : Option D := (inD x y).map fun b => .bl (!b)
theorem Vw.rp_flat {F : Fz} {H : Hp} {v : V} {d : D} (h : Vw G F H v d) (e : flatD d = true) : Rp G F v d := by
  rcases h with h | ⟨p, u, w, rfl, _, _, rfl⟩ | ⟨_, _, _, e1x, _, e3⟩
  · exact h
  · cases w <;> cases e
  · first | (cases e3; done) | (subst e1x e3; rfl) | (subst e3; cases e; done) | (subst e3; simp_all; done) | (subst e3; contradiction)
theorem in_cases {F : Fz} {H : Hp} {v w : V} {x y : D} {b : Bool} (f : Same F.f H) (hv : Vw G F H v x) (hw : Vw G F H w y) (e : inD x y = some b) :
    (∃ c z, v = .str ⟨#[c]⟩ ∧ w = .str z ∧ b = decide (c ∈ z.cps.toList)) ∨ (∃ d ds, Dp G.K H v d ∧ Dp G.K H w (.list ds) ∧ SeqAt.shaped d = true ∧ SeqAt.shaped (.list ds) = true ∧ b = ds.any fun z => PyData.eqv z d) ∨
    (∃ p xs, w = .ref p ∧ (SqL G.K H p xs ∨ SqT G.K H p xs) ∧ flatV v = true ∧ xs.all flatV = true ∧ b = inV v xs) := by
  unfold inD at e
  split at e
  · split at e
    · cases e
      obtain ⟨rfl, _⟩ := hv.str_eq
      obtain ⟨rfl, _⟩ := hw.str_eq
      exact .inl ⟨_, _, rfl, rfl, rfl⟩
    · cases e
  · split at e
    · rename_i h
      cases e
      obtain ⟨a, b⟩ := hv.dp f h.1
      obtain ⟨a', b'⟩ := hw.dp f h.2
      exact .inr (.inl ⟨_, _, a, a', b, b', (toPys_any _ _).symm⟩)
    · cases e
  · split at e
    · rename_i h
      cases e
      obtain ⟨p, xs, rfl, h1, h2⟩ := hw.tup f
      have rv := hv.rp_flat h.1
      exact .inr (.inr ⟨p, xs, rfl, .inr h1, flat_v rv h.1, flat_all h2 h.2, (inV_any rv h.1 h2 h.2).symm⟩)
    · cases e
  · cases e
theorem op_dIn : Op2 G (rInAll G.K) dIn := fun F H v w x y d f hv hw e => by
  unfold dIn at e
  cases h : inD x y with
  | none => rw [h] at e; cases e
  | some b =>
    rw [h] at e; cases e
    refine gives_v (.bl _) f fun Q q => ?_
    rcases in_cases f hv hw h with ⟨c, z, h1, h2, h3⟩ | ⟨d, ds, h1, h2, h3, h4, h5⟩ | ⟨p, xs, h1, h2, h3, h4, h5⟩
    · exact .inl ⟨c, z, h1, h2, by rw [← h3]; exact q⟩
    · exact .inr (.inl ⟨d, ds, h1, h2, h3, h4, by rw [← h5]; exact q⟩)
    · exact .inr (.inr ⟨p, xs, h1, h2, h3, h4, by rw [h5] at q; exact q⟩)
theorem op_dNotIn : Op2 G (rNotInAll G.K) dNotIn := fun F H v w x y d f hv hw e => by
  unfold dNotIn at e
  cases h : inD x y with
  | none => rw [h] at e; cases e
  | some b =>
    rw [h] at e; cases e
    refine gives_v (.bl _) f fun Q q => ?_
    rcases in_cases f hv hw h with ⟨c, z, h1, h2, h3⟩ | ⟨d, ds, h1, h2, h3, h4, h5⟩ | ⟨p, xs, h1, h2, h3, h4, h5⟩
    · exact .inl ⟨c, z, h1, h2, by rw [← h3]; exact q⟩
    · exact .inr (.inl ⟨d, ds, h1, h2, h3, h4, by rw [← h5]; exact q⟩)
    · exact .inr (.inr ⟨p, xs, h1, h2, h3, h4, by rw [h5] at q; exact q⟩)

/-! ### subscripts, slices -/
def dIx : D → D → Option D
  | .str s, .int i => if s.length ≤ 16777216 then (atI s i).map fun c => .str [c] else none
  | .lst ds, .int i => atI ds i
  | .tup ds, .int i => atI ds i
  | .scr ns, .int i => (atI ns i).map .int
  | _, _ => none
theorem RpAll.atI {F : Fz} {xs : List V} {ds : List D} {i : Int} {d : D} (r : RpAll G F xs ds) (e : L2.atI ds i = some d) : ∃ v, L2.atI xs i = some v ∧ Rp G F v d := by
  unfold L2.atI at e ⊢
  rw [r.length]
  cases h : ixN ds.length i with
  | none => rw [h] at e; cases e
  | some j =>
    rw [h] at e
    exact r.get e
theorem op_dIx : Op2 G (rIx G.K) dIx := fun F H v w x y d f hv hw e => by
  unfold dIx at e
  split at e
  · split at e
    · rename_i s i hs
      cases hw.int_eq
      obtain ⟨rfl, o⟩ := hv.str_eq
      cases h : atI s i with
      | none => rw [h] at e; cases e
      | some c =>
        rw [h] at e; cases e
        refine gives_v (v := .str (tx [c])) (.str [c] (okS_sub o fun c' m => ?_)) f fun Q q => .inr (.inr ⟨_, _, c, rfl, rfl, by rw [tx_len, sizeLine_eq]; exact hs, h, q⟩)
        rw [List.mem_singleton] at m
        subst m
        unfold atI at h
        cases h2 : ixN s.length i with
        | none => rw [h2] at h; cases h
        | some j => rw [h2] at h; exact List.mem_of_getElem? h
    · cases e
  · cases hw.int_eq
    obtain ⟨p, xs, rfl, h1, h2⟩ := hv.seqL f rfl
    obtain ⟨z, hz, rz⟩ := h2.atI e
    exact gives_v rz f fun Q q => .inl ⟨_, _, _, _, rfl, rfl, h1, hz, q⟩
  · cases hw.int_eq
    obtain ⟨p, xs, rfl, h1, h2⟩ := hv.tup f
    obtain ⟨z, hz, rz⟩ := h2.atI e
    exact gives_v rz f fun Q q => .inr (.inl ⟨_, _, _, _, rfl, rfl, h1, hz, q⟩)
  · rename_i ns i
    cases hw.int_eq
    obtain ⟨p, xs, rfl, h1, h2⟩ := hv.seqL f rfl
    have e2 : L2.atI (ns.map D.int) i = some d := by
      unfold L2.atI at e ⊢
      rw [List.length_map]
      cases h : ixN ns.length i with
      | none => rw [h] at e; cases e
      | some j =>
        rw [h] at e
        simp only [Option.bind_some] at e ⊢
        rw [List.getElem?_map]
        exact e
    obtain ⟨z, hz, rz⟩ := h2.atI e2
    exact gives_v rz f fun Q q => .inl ⟨_, _, _, _, rfl, rfl, h1, hz, q⟩
  · cases e
/-- xs[lo:hi] -/
def cut {α : Type} (xs : List α) (lo hi : Option Int) : List α := (xs.drop (HT.sIx xs.length 0 lo)).take (HT.sIx xs.length xs.length hi - HT.sIx xs.length 0 lo)
def dSl : D → Option Int → Option Int → Option D
  | .str s, l, u => if s.length ≤ 16777216 then some (.str (cut s l u)) else none
  | .lst ds, l, u => some (.lst (cut ds l u))
  | .scr ns, l, u => some (.lst (cut (ns.map .int) l u))
  | .tup ds, l, u => some (.tup (cut ds l u))
  | _, _, _ => none
theorem SlR.or' {r r' : V → Option Int → Option Int → Hp → VK → Prop} (h : SlR X r) (h' : SlR X r') : SlR X (fun x lo hi H Q => r x lo hi H Q ∨ r' x lo hi H Q) := SlR.or h h'
def rSlAll (K : PySem.W.Frag) : V → Option Int → Option Int → Hp → VK → Prop := fun x l u H Q => rSlS x l u H Q ∨ rSlL K x l u H Q ∨ rSlA K x l u H Q
theorem sl_all : SlR X (rSlAll X.K) := SlR.or sl_str (SlR.or sl_list sl_tupA)
theorem RpAll.cut {F : Fz} {xs : List V} {ds : List D} (r : RpAll G F xs ds) (l u : Option Int) : RpAll G F (cutV xs l u) (DL.cut ds l u) := by
  unfold cutV DL.cut
  rw [r.length]
  exact (r.drop _).take _
theorem cut_whole {α : Type} {xs : List α} {l u : Option Int} (h : HT.sIx xs.length 0 l = 0 ∧ HT.sIx xs.length xs.length u = xs.length) : cut xs l u = xs := by
  unfold cut
  rw [h.1, h.2]
  simp
theorem op_dSl : OpS G (rSlAll G.K) dSl := fun F H v x l u d f hv e => by
  unfold dSl at e
  split at e
  · split at e
    · rename_i s hs
      cases e
      obtain ⟨rfl, o⟩ := hv.str_eq
      have ec : cutS (tx s) l u = tx (cut s l u) := by unfold cutS cut; rw [cps_tx, tx_len]; rfl
      exact gives_v (v := .str (tx (cut s l u))) (.str _ (okS_sub o fun c m => by
        unfold cut at m
        exact List.mem_of_mem_drop (List.mem_of_mem_take m))) f fun Q q => .inl ⟨_, rfl, by rw [tx_len, sizeLine_eq]; exact hs, by rw [ec]; exact q⟩
    · cases e
  · cases e
    obtain ⟨p, xs, rfl, h1, h2⟩ := hv.seqL f rfl
    exact gives_lst (h2.cut l u) f fun Q q => .inr (.inl ⟨_, _, rfl, h1, q⟩)
  · cases e
    obtain ⟨p, xs, rfl, h1, h2⟩ := hv.seqL f rfl
    exact gives_lst (h2.cut l u) f fun Q q => .inr (.inl ⟨_, _, rfl, h1, q⟩)
  · cases e
    obtain ⟨p, xs, rfl, h1, h2⟩ := hv.tup f
    have hl := h2.length
    intro Q k
    refine .inr (.inr ⟨_, _, rfl, h1, fun h => ?_, fun h => ?_⟩)
    · rw [hl] at h
      rw [cut_whole h] at k
      exact k _ _ F (Same.refl H) f .refl hv.tup'
    · exact gives_tup (r := fun Q => ∀ p, H p = none → Q (.ref p) (upd H p (.tup (cutV xs l u)))) (h2.cut l u) f (fun Q q => q) Q k
  · cases e
end
end DL

namespace DL
open PySem PySem.Spec PyProof.Rows L2
section
variable {G : Gx} {X : Cx}

/-! ### built-ins -/
def dLen : List D → Option D
  | [.str s] => if s.length ≤ 16777216 then some (.int s.length) else none
  | [.lst ds] => some (.int ds.length)
  | [.tup ds] => some (.int ds.length)
  | [.scr ns] => some (.int ns.length)
  | _ => none
def rLen (K : PySem.W.Frag) : List V → Hp → VK → Prop := fun xs H Q => ∃ x n, xs = [x] ∧ LenV K x H n ∧ Q (.int n) H
theorem op_dLen : OpA G (rLen G.K) dLen := fun F H vs xs d f hv e => by
  unfold dLen at e
  split at e
  · split at e
    · rename_i hs
      cases e
      cases hv with | cons h t => cases t; obtain ⟨rfl, _⟩ := h.str_eq; exact gives_v (.int _) f fun Q q => ⟨_, _, rfl, ⟨by rw [tx_len, sizeLine_eq]; exact hs, (tx_len _).symm⟩, q⟩
    · cases e
  · cases e
    cases hv with | cons h t => cases t; obtain ⟨p, xs, rfl, h1, h2⟩ := h.seqL f rfl; exact gives_v (.int _) f fun Q q => ⟨_, _, rfl, .inl ⟨_, h1, h2.length.symm⟩, q⟩
  · cases e
    cases hv with | cons h t => cases t; obtain ⟨p, xs, rfl, h1, h2⟩ := h.tup f; exact gives_v (.int _) f fun Q q => ⟨_, _, rfl, .inr ⟨_, h1, h2.length.symm⟩, q⟩
  · cases e
    cases hv with | cons h t => cases t; obtain ⟨p, xs, rfl, h1, h2⟩ := h.seqL f rfl; exact gives_v (.int _) f fun Q q => ⟨_, _, rfl, .inl ⟨_, h1, by rw [h2.length, List.length_map]⟩, q⟩
  · cases e
/-- a kind's name -/
def tyn : D → Option String
  | .non => some "NoneType"
  | .bl _ => some "bool"
  | .int _ => some "int"
  | .str _ => some "str"
  | .lst _ => some "list"
  | .tup _ => some "tuple"
  | .scr _ => some "list"
  | .dic _ => some "dict"
  | _ => none
def isT (a n : String) : Bool := a == n || (a == "bool" && n == "int")
def dIsI : List D → Option D
  | [x, .ty n] => match tyn x with
    | some a => if n == "int" || n == "bool" || n == "str" || n == "list" || n == "tuple" || n == "dict" then some (.bl (isT a n)) else none
    | none => none
  | _ => none
theorem kit_all : ∀ a ∈ ["NoneType", "bool", "int", "str", "list", "tuple", "dict"], ∀ n ∈ ["int", "bool", "str", "list", "tuple", "dict"], kitB a n = some (isT a n) := by decide +kernel
theorem tyn_mem {x : D} {a : String} (h : tyn x = some a) : a ∈ ["NoneType", "bool", "int", "str", "list", "tuple", "dict"] := by
  cases x <;> simp [tyn] at h <;> subst h <;> simp
theorem Vw.tyX {F : Fz} {H : Hp} {v : V} {x : D} {a : String} (h : Vw G F H v x) (f : Same F.f H) (e : tyn x = some a) : TyX G.K H v (.type a) := by
  rcases h with h | ⟨p, u, w, rfl, hp, ow, rfl⟩ | ⟨_, _, _, e1x, _, e3⟩
  · cases h with
    | non => cases e; exact .base .non
    | bl b => cases e; exact .base (.bl b)
    | int i => cases e; exact .base (.int i)
    | str s _ => cases e; exact .base (.str _)
    | lst h1 _ => cases e; exact .base (.lst (f _ _ h1))
    | tup h1 _ =>
      cases e
      rcases same_seqT f h1 with (h | ⟨o, h⟩) | ⟨o, its, n, h, hc, _⟩
      · exact .base (.tup h)
      · exact .fTuple h
      · exact .kTuple h hc
    | scr h1 =>
      cases e
      rcases f.seq h1 with (h | ⟨o, h⟩) | ⟨o, its, n, h, hc, _⟩
      · exact .base (.lst h)
      · exact .base (.frz h)
      · exact .kList h hc
    | dicK h1 _ => cases e; exact .base (.dK (f _ _ h1))
    | obj _ _ _ _ => cases e
    | ty _ => cases e
    | err _ _ => cases e
    | loc _ => cases e
  · cases ow with
    | l r => cases e; exact .base (.lst hp)
    | kK r => cases e; exact .base (.dK hp)
  · first | (cases e3; done) | (subst e1x e3; rfl) | (subst e3; cases e; done) | (subst e3; simp_all; done) | (subst e3; contradiction)
theorem op_dIsI : OpA G (rIsi G.K) dIsI := fun F H vs xs d f hv e => by
  unfold dIsI at e
  split at e
  · split at e
    · rename_i x n _ a ha
      split at e
      · rename_i hn
        cases e
        cases hv with
        | cons h t =>
          cases t with
          | cons h2 t =>
            cases t
            cases h2.ty_eq
            have hm : n ∈ ["int", "bool", "str", "list", "tuple", "dict"] := by
              simp only [Bool.or_eq_true, beq_iff_eq] at hn
              simp only [List.mem_cons, List.not_mem_nil, or_false]
              rcases hn with ((((h | h) | h) | h) | h) | h <;> simp [h]
            exact gives_v (.bl _) f fun Q q => ⟨_, _, _, _, _, rfl, .ty n, h.tyX f ha, kit_ty (kit_all a (tyn_mem ha) n hm), q⟩
      · cases e
    · cases e
  · cases e
theorem VwAll.len {F : Fz} {H : Hp} {vs : List V} {ds : List D} (h : VwAll G F H vs ds) : vs.length = ds.length := by
  induction h with
  | nil => rfl
  | cons _ _ ih => simp [ih]
def boolsD : List D → Option (List Bool)
  | [] => some []
  | .bl b :: r => (boolsD r).map (b :: ·)
  | _ :: _ => none
theorem bools_eq : ∀ {ds : List D} {bs : List Bool}, boolsD ds = some bs → ds = bs.map D.bl
  | [], bs, h => by cases h; rfl
  | .bl b :: r, bs, h => by
    simp only [boolsD] at h
    cases hr : boolsD r with
    | none => rw [hr] at h; cases h
    | some cs => rw [hr] at h; cases h; rw [bools_eq hr]; rfl
def intsD : List D → Option (List Int)
  | [] => some []
  | .int b :: r => (intsD r).map (b :: ·)
  | _ :: _ => none
theorem ints_eq : ∀ {ds : List D} {bs : List Int}, intsD ds = some bs → ds = bs.map D.int
  | [], bs, h => by cases h; rfl
  | .int b :: r, bs, h => by
    simp only [intsD] at h
    cases hr : intsD r with
    | none => rw [hr] at h; cases h
    | some cs => rw [hr] at h; cases h; rw [ints_eq hr]; rfl
def strsD : List D → Option (List (List Nat))
  | [] => some []
  | .str b :: r => (strsD r).map (b :: ·)
  | _ :: _ => none
theorem strs_eq : ∀ {ds : List D} {bs : List (List Nat)}, strsD ds = some bs → ds = bs.map D.str
  | [], bs, h => by cases h; rfl
  | .str b :: r, bs, h => by
    simp only [strsD] at h
    cases hr : strsD r with
    | none => rw [hr] at h; cases h
    | some cs => rw [hr] at h; cases h; rw [strs_eq hr]; rfl
@[simp] theorem bools_map (bs : List Bool) : boolsD (bs.map D.bl) = some bs := by
  induction bs with
  | nil => rfl
  | cons b r ih => simp [boolsD, ih]
@[simp] theorem ints_map (bs : List Int) : intsD (bs.map D.int) = some bs := by
  induction bs with
  | nil => rfl
  | cons b r ih => simp [intsD, ih]
@[simp] theorem strs_map (bs : List (List Nat)) : strsD (bs.map D.str) = some bs := by
  induction bs with
  | nil => rfl
  | cons b r ih => simp [strsD, ih]
def dAll : List D → Option D
  | [.lst ds] => (boolsD ds).map fun bs => .bl (bs.all id)
  | _ => none
def dAny : List D → Option D
  | [.lst ds] => (boolsD ds).map fun bs => .bl (bs.any id)
  | _ => none
theorem op_dAll : OpA G (rAll G.K) dAll := fun F H vs xs d f hv e => by
  unfold dAll at e
  split at e
  · rename_i ds
    cases hb : boolsD ds with
    | none => rw [hb] at e; cases e
    | some bs =>
      rw [hb] at e; cases e
      cases bools_eq hb
      cases hv with
      | cons h t =>
        cases t
        obtain ⟨p, xs, rfl, h1, h2⟩ := h.seqL f rfl
        cases rp_bools_inv h2
        exact gives_v (.bl _) f fun Q q => ⟨_, _, rfl, h1, q⟩
  · cases e
theorem op_dAny : OpA G (rAny G.K) dAny := fun F H vs xs d f hv e => by
  unfold dAny at e
  split at e
  · rename_i ds
    cases hb : boolsD ds with
    | none => rw [hb] at e; cases e
    | some bs =>
      rw [hb] at e; cases e
      cases bools_eq hb
      cases hv with
      | cons h t =>
        cases t
        obtain ⟨p, xs, rfl, h1, h2⟩ := h.seqL f rfl
        cases rp_bools_inv h2
        exact gives_v (.bl _) f fun Q q => ⟨_, _, rfl, h1, q⟩
  · cases e
def dSum : List D → Option D
  | [.lst ds] => (intsD ds).map fun bs => .int bs.sum
  | _ => none
theorem op_dSum : OpA G (rSum G.K) dSum := fun F H vs xs d f hv e => by
  unfold dSum at e
  split at e
  · rename_i ds
    cases hb : intsD ds with
    | none => rw [hb] at e; cases e
    | some bs =>
      rw [hb] at e; cases e
      cases ints_eq hb
      cases hv with
      | cons h t =>
        cases t
        obtain ⟨p, xs, rfl, h1, h2⟩ := h.seqL f rfl
        cases rp_ints_inv h2
        exact gives_v (.int _) f fun Q q => ⟨_, _, rfl, h1, q⟩
  · cases e
def dAbs : List D → Option D
  | [.int i] => some (.int (if i < 0 then -i else i))
  | _ => none
def rAbs : List V → Hp → VK → Prop := fun xs H Q => ∃ i, xs = [.int i] ∧ Q (.int (if i < 0 then -i else i)) H
theorem op_dAbs : OpA G rAbs dAbs := fun F H vs xs d f hv e => by
  unfold dAbs at e
  split at e
  · cases e
    cases hv with | cons h t => cases t; cases h.int_eq; exact gives_v (.int _) f fun Q q => ⟨_, rfl, q⟩
  · cases e
def dMax : List D → Option D
  | [.int i, .int j] => some (.int (if j > i then j else i))
  | _ => none
def rMax2 : List V → Hp → VK → Prop := fun xs H Q => ∃ i j, xs = [.int i, .int j] ∧ Q (.int (if j > i then j else i)) H
theorem op_dMax : OpA G rMax2 dMax := fun F H vs xs d f hv e => by
  unfold dMax at e
  split at e
  · cases e
    cases hv with | cons h t => cases t with | cons h2 t => cases t; cases h.int_eq; cases h2.int_eq; exact gives_v (.int _) f fun Q q => ⟨_, _, rfl, q⟩
  · cases e
def dMin : List D → Option D
  | [.int i, .int j] => some (.int (if j < i then j else i))
  | _ => none
def rMin2 : List V → Hp → VK → Prop := fun xs H Q => ∃ i j, xs = [.int i, .int j] ∧ Q (.int (if j < i then j else i)) H
theorem op_dMin : OpA G rMin2 dMin := fun F H vs xs d f hv e => by
  unfold dMin at e
  split at e
  · cases e
    cases hv with | cons h t => cases t with | cons h2 t => cases t; cases h.int_eq; cases h2.int_eq; exact gives_v (.int _) f fun Q q => ⟨_, _, rfl, q⟩
  · cases e
def dOrd : List D → Option D
  | [.str [c]] => some (.int c)
  | _ => none
def rOrd : List V → Hp → VK → Prop := fun xs H Q => ∃ x : Str, xs = [.str x] ∧ x.length = 1 ∧ Q (.int (x.cps.getD 0 0 : Nat)) H
theorem op_dOrd : OpA G rOrd dOrd := fun F H vs xs d f hv e => by
  unfold dOrd at e
  split at e
  · cases e
    cases hv with | cons h t => cases t; obtain ⟨rfl, _⟩ := h.str_eq; exact gives_v (.int _) f fun Q q => ⟨_, rfl, rfl, q⟩
  · cases e
/-- list(x), tuple(x) -/
def seqD : D → Option (List D)
  | .lst ds => some ds
  | .tup ds => some ds
  | .scr ns => some (ns.map .int)
  | _ => none
theorem Vw.seq {F : Fz} {H : Hp} {v : V} {d : D} {ds : List D} (h : Vw G F H v d) (f : Same F.f H) (e : seqD d = some ds) : ∃ p xs, v = .ref p ∧ (SqL G.K H p xs ∨ SqT G.K H p xs) ∧ RpAll G F xs ds := by
  unfold seqD at e
  split at e
  · cases e; obtain ⟨p, xs, a, b, c⟩ := h.seqL f rfl; exact ⟨p, xs, a, .inl b, c⟩
  · cases e; obtain ⟨p, xs, a, b, c⟩ := h.tup f; exact ⟨p, xs, a, .inr b, c⟩
  · cases e; obtain ⟨p, xs, a, b, c⟩ := h.seqL f rfl; exact ⟨p, xs, a, .inl b, c⟩
  · cases e
def dListF : List D → Option Ow
  | [d] => (seqD d).map .l
  | _ => none
def rList (K : PySem.W.Frag) : List V → Hp → VK → Prop := fun xs H Q => ∃ p ys, xs = [.ref p] ∧ (SqL K H p ys ∨ SqT K H p ys) ∧ ∀ l, H l = none → Q (.ref l) (upd H l (.lst ys))
theorem op_dListF : OpAF G (rList G.K) dListF := fun F H vs xs d f hv e => by
  unfold dListF at e
  split at e
  · rename_i x
    cases hs : seqD x with
    | none => rw [hs] at e; cases e
    | some ds =>
      rw [hs] at e; cases e
      cases hv with | cons h t => cases t; obtain ⟨p, ys, rfl, h1, h2⟩ := h.seq f hs; exact lays_l h2 fun Q q => ⟨_, _, rfl, h1, q⟩
  · cases e
def dTuple : List D → Option D
  | [.lst ds] => some (.tup ds)
  | [.scr ns] => some (.tup (ns.map .int))
  | [.tup ds] => some (.tup ds)
  | _ => none
def rTuple (K : PySem.W.Frag) : List V → Hp → VK → Prop := fun xs H Q => ∃ p ys, xs = [.ref p] ∧ ((SqL K H p ys ∧ ∀ l, H l = none → Q (.ref l) (upd H l (.tup ys))) ∨ (SqT K H p ys ∧ Q (.ref p) H))
theorem op_dTuple : OpA G (rTuple G.K) dTuple := fun F H vs xs d f hv e => by
  unfold dTuple at e
  split at e
  · cases e
    cases hv with | cons h t => cases t; obtain ⟨p, ys, rfl, h1, h2⟩ := h.seqL f rfl; exact gives_tup h2 f fun Q q => ⟨_, _, rfl, .inl ⟨h1, q⟩⟩
  · cases e
    cases hv with | cons h t => cases t; obtain ⟨p, ys, rfl, h1, h2⟩ := h.seqL f rfl; exact gives_tup h2 f fun Q q => ⟨_, _, rfl, .inl ⟨h1, q⟩⟩
  · cases e
    cases hv with | cons h t => cases t; obtain ⟨p, ys, rfl, h1, h2⟩ := h.tup f; exact gives_v h.tup' f fun Q q => ⟨_, _, rfl, .inr ⟨h1, q⟩⟩
  · cases e
/-- a class as a value -/
theorem de_ty {B : Hp} {W : WX} {x : Str} {pos : Pos} {n : String} (hm : X.mg x = none) (hv : bootBuiltins x = some (.type n) := by decide +kernel) (hg : Gl X x := by rfl) (hn : x ≠ "__name__" := by decide) (hd : (x == ("__debug__" : Str)) = false := by decide) : DE X B W (.Name x pos) (kE (.ty n)) :=
  de_k (pe_bltn (v := .ty n) hg hm hv rfl hn hd) fun _ => .ty n
/-- a module's text or number -/
theorem de_gs {B : Hp} {W : WX} {x : Str} {pos : Pos} {s : List Nat} {t : Tok} (hm : X.mg x = some (.str (tx s) t)) (o : okS s = true := by decide) (hg : Gl X x := by rfl) (hd : (x == ("__debug__" : Str)) = false := by decide) : DE X B W (.Name x pos) (kE (.str s)) :=
  de_k (pe_glob (v := .str (tx s)) hg hm ⟨t, rfl⟩ hd) fun _ => .str s o
theorem de_gi {B : Hp} {W : WX} {x : Str} {pos : Pos} {i : Int} {t : Tok} (hm : X.mg x = some (.int i t)) (hg : Gl X x := by rfl) (hd : (x == ("__debug__" : Str)) = false := by decide) : DE X B W (.Name x pos) (kE (.int i)) :=
  de_k (pe_glob (v := .int i) hg hm ⟨t, rfl⟩ hd) fun _ => .int i

/-! ### what is walked -/
variable {B : Hp} {W : WX} {tg e : Expr} {es : List Expr} {pos : Pos}
theorem PI.or {wi wi' : TI} (h : PI X tg e wi) (h' : PI X tg e wi') : PI X tg e (fun σ H R => wi σ H R ∨ wi' σ H R) := ⟨fun pins s σ H R I q => q.elim (h.run pins s σ H R I) (h'.run pins s σ H R I)⟩
theorem walks_l {F : Fz} {K : PySem.W.Frag} {a : Addr} {xs : List V} {ds : List D} {mg} (h : SqL K F a xs) (r : RpAll ⟨K, mg⟩ F xs ds) : Walks ⟨K, mg⟩ (Itl K a) F ds := fun F' H' f f' i => by
  have hs := f'.seq (f.1.seq h)
  refine ⟨fun hi => ?_, fun hi => ⟨xs, hs, by rw [r.length]; exact hi⟩, fun d hd x H2 ⟨e, y⟩ => ?_⟩
  · obtain ⟨v, hv, _⟩ := r.get (List.getElem?_eq_getElem hi)
    exact ⟨xs, v, hs, hv⟩
  · subst e
    obtain ⟨v, hv, rv⟩ := r.get hd
    have := y xs hs
    rw [hv] at this; cases this
    exact ⟨F', Same.refl _, f', .refl, rv.mono f⟩
theorem walks_t {F : Fz} {K : PySem.W.Frag} {a : Addr} {xs : List V} {ds : List D} {mg} (h : SqT K F a xs) (r : RpAll ⟨K, mg⟩ F xs ds) : Walks ⟨K, mg⟩ (Itt K a) F ds := fun F' H' f f' i => by
  have hs := same_seqT f' (same_seqT f.1 h)
  refine ⟨fun hi => ?_, fun hi => ⟨xs, hs, by rw [r.length]; exact hi⟩, fun d hd x H2 ⟨e, y⟩ => ?_⟩
  · obtain ⟨v, hv, _⟩ := r.get (List.getElem?_eq_getElem hi)
    exact ⟨xs, v, hs, hv⟩
  · subst e
    obtain ⟨v, hv, rv⟩ := r.get hd
    have := y xs hs
    rw [hv] at this; cases this
    exact ⟨F', Same.refl _, f', .refl, rv.mono f⟩
def sgs (s : List Nat) : List D := s.map fun c => .str [c]
theorem walks_s {F : Fz} {s : List Nat} (o : okS s = true) : Walks G (Its (tx s)) F (sgs s) := fun F' H' f f' i => by
  have sz : (tx s).cps.size = s.length := by simp [tx]
  refine ⟨fun hi => ?_, fun hi => ?_, fun d hd x H2 ⟨e, c, hc, hx⟩ => ?_⟩
  · show i < (tx s).cps.size
    rw [sz]; simpa [sgs] using hi
  · show (tx s).cps.size ≤ i
    rw [sz]; simpa [sgs] using hi
  · subst e; subst hx
    have hc' : s[i]? = some c := by simpa [tx] using hc
    unfold sgs at hd
    rw [List.getElem?_map, hc'] at hd
    cases hd
    exact ⟨F', Same.refl _, f', .refl, .str [c] (okS_sub o fun c' m => by rw [List.mem_singleton] at m; subst m; exact List.mem_of_getElem? hc')⟩
/-- a list, a tuple, a text -/
def itD : D → Option (List D)
  | .lst ds => some ds
  | .tup ds => some ds
  | .scr ns => some (ns.map .int)
  | .str s => some (sgs s)
  | _ => none
def iE (f : Ev D) : Ev (List D) := fun S st => (f S st).bind fun d S st => got (itD d) S st
theorem di_e {f : Ev D} (h : DE X B W e f) : DI X B W tg e (iE f) :=
  pi_imp (PI.or (pi_list h) (PI.or (pi_tup h) (pi_str h))) fun σ H R ⟨F, S, st, o, q⟩ => by
    unfold iE at q
    have q2 := Post.bind (R := RD (Cx.g X) σ) q
    revert q q2
    generalize hr : f S st = r
    intro q q2
    have mk : ∀ {Q : VK}, Post (Cx.g X) B W (RD (Cx.g X) σ) σ F Q r → lift (Cx.g X) B W (RD (Cx.g X)) f σ H Q := fun {Q} q => ⟨F, S, st, o, by rw [hr]; exact q⟩
    cases r with
    | stuck => exact q2.elim
    | exc x S1 st1 => exact .inl (mk q)
    | ok d S1 st1 =>
      have key : ∀ {ds : List D}, itD d = some ds → ∀ F1 H1, Gr B F F1 → Ok (Cx.g X) B F1 σ H1 S1 st1 → ∀ J, Walks (Cx.g X) J F1 ds → R J H1 := fun {ds} hd F1 H1 g1 o1 J w => by
        have q3 : Post (Cx.g X) B W (RW (Cx.g X) σ) σ F R (got (itD d) S1 st1) := q
        rw [hd] at q3
        exact q3 J H1 F1 g1 o1 w
      cases d with
      | lst ds => exact .inl (mk fun v H1 F1 g1 o1 r1 => by cases r1 with | lst h1 h2 => exact ⟨_, rfl, ⟨_, o1.fH.seq (.inl (.inl h1))⟩, key rfl F1 H1 g1 o1 _ (walks_l (.inl (.inl h1)) h2)⟩)
      | scr ns => exact .inl (mk fun v H1 F1 g1 o1 r1 => by cases r1 with | scr h1 => exact ⟨_, rfl, ⟨_, o1.fH.seq h1⟩, key rfl F1 H1 g1 o1 _ (walks_l h1 (rp_ints (Cx.g X) F1 ns))⟩)
      | tup ds => exact .inr (.inl (mk fun v H1 F1 g1 o1 r1 => by cases r1 with | tup h1 h2 => exact ⟨_, rfl, ⟨_, same_seqT o1.fH h1⟩, key rfl F1 H1 g1 o1 _ (walks_t h1 h2)⟩))
      | str s => exact .inr (.inr (mk fun v H1 F1 g1 o1 r1 => by cases r1 with | str _ h1 => exact ⟨_, rfl, key rfl F1 H1 g1 o1 _ (walks_s h1)⟩))
      | _ =>
        exfalso
        exact (show Post (Cx.g X) B W (RW (Cx.g X) σ) σ F R .stuck from q)
/-- range(n) -/
def rng (n : Nat) (lo : Int) : List D := (List.range n).map fun (i : Nat) => D.int (lo + (i : Int))
theorem walks_r {F : Fz} {lo : Int} {n : Nat} : Walks G (Itr lo n) F (rng n lo) := fun F' H' f f' i => by
  refine ⟨fun hi => by show i < n; simpa [rng] using hi, fun hi => by show n ≤ i; simpa [rng] using hi, fun d hd x H2 ⟨e, hx⟩ => ?_⟩
  subst e; subst hx
  unfold rng at hd
  rw [List.getElem?_map] at hd
  cases hl : (List.range n)[i]? with
  | none => rw [hl] at hd; cases hd
  | some j =>
    rw [hl] at hd; cases hd
    have : j = i := by
      have := List.getElem?_eq_some_iff.mp hl
      obtain ⟨h1, h2⟩ := this
      simpa using h2.symm
    subst this
    exact ⟨F', Same.refl _, f', .refl, .int _⟩
def iR1 (f : Ev (List Opd)) : Ev (List D) := fun S st => (f S st).bind fun a S st => match vws S st a with
  | some [.int n] => if -1000000 ≤ n ∧ n ≤ 1000000 then .ok (rng n.toNat 0) S st else .stuck
  | _ => .stuck
def iR2 (f : Ev (List Opd)) : Ev (List D) := fun S st => (f S st).bind fun a S st => match vws S st a with
  | some [.int a, .int n] => if (-1000000 ≤ a ∧ a ≤ 1000000) ∧ -1000000 ≤ n ∧ n ≤ 1000000 then .ok (rng (n - a).toNat a) S st else .stuck
  | _ => .stuck
theorem di_r1 {f : Ev (List Opd)} {p : Pos} (hm : X.mg "range" = none) (h : DA X B W [e] f) (hg : Gl X "range" := by rfl) (hs : starEach [e] X.env = [(false, eval e X.env)] := by rfl) : DI X B W tg (.Call (.Name "range" p) [e] [] pos) (iR1 f) :=
  pi_imp (pi_range1 hg hm h hs) fun σ H R ⟨F, S, st, o, q⟩ => ⟨F, S, st, o, (Post.bind (R := RpO (Cx.g X) σ) q).mono fun vs H1 ⟨F1, d, S1, st1, g1, o1, r1, p1⟩ => by
    split at p1
    · rename_i n hn
      split at p1
      · rename_i hle
        have ra := o1.vws r1 hn
        cases ra with
        | cons h t =>
          cases t
          cases h.int_eq
          exact ⟨_, rfl, by omega, by omega, p1 _ H1 F1 .refl o1 walks_r⟩
      · exact p1.elim
    · exact p1.elim⟩
theorem di_r2 {e2 : Expr} {f : Ev (List Opd)} {p : Pos} (hm : X.mg "range" = none) (h : DA X B W [e, e2] f) (hg : Gl X "range" := by rfl) (hs : starEach [e, e2] X.env = [(false, eval e X.env), (false, eval e2 X.env)] := by rfl) (hs2 : starEach [e2] X.env = [(false, eval e2 X.env)] := by rfl) : DI X B W tg (.Call (.Name "range" p) [e, e2] [] pos) (iR2 f) :=
  pi_imp (pi_range2 hg hm h hs hs2) fun σ H R ⟨F, S, st, o, q⟩ => ⟨F, S, st, o, (Post.bind (R := RpO (Cx.g X) σ) q).mono fun vs H1 ⟨F1, d, S1, st1, g1, o1, r1, p1⟩ => by
    split at p1
    · rename_i a n hn
      split at p1
      · rename_i hle
        have ra := o1.vws r1 hn
        cases ra with
        | cons h t =>
          cases t with
          | cons h2 t =>
            cases t
            cases h.int_eq
            cases h2.int_eq
            exact ⟨_, _, rfl, ⟨by omega, by omega, by omega, by omega⟩, p1 _ H1 F1 .refl o1 walks_r⟩
      · exact p1.elim
    · exact p1.elim⟩
/-- with the numbers ahead -/
def enumD (ds : List D) : List D := ds.zipIdx.map fun p => .tup [.int p.2, p.1]
theorem new_tup {F' : Fz} {H' : Hp} {T : Addr} {xs : List V} {ds : List D} (f : Same F'.f H') (hT : H' T = none) (r : RpAll G F' xs ds) : ∃ f2, Same H' (upd H' T (.tup xs)) ∧ Same f2 (upd H' T (.tup xs)) ∧ GrH H' F'.f f2 ∧ Rp G ⟨f2, F'.m⟩ (.ref T) (.tup ds) :=
  ⟨upd F'.f T (.tup xs), same_new hT, same_upd2 f, gr_new f hT, .tup (.inl (.inl upd_same)) (r.mono (.up (gr_new (o := .tup xs) f hT).1))⟩
theorem walks_e {F : Fz} {K : PySem.W.Frag} {a : Addr} {xs : List V} {ds : List D} {mg} (h : SqL K F a xs) (r : RpAll ⟨K, mg⟩ F xs ds) : Walks ⟨K, mg⟩ (Ite K a) F (enumD ds) := fun F' H' f f' i => by
  have hs := f'.seq (f.1.seq h)
  have le : (enumD ds).length = ds.length := by simp [enumD]
  refine ⟨fun hi => ?_, fun hi => ⟨xs, hs, by rw [r.length, ← le]; exact hi⟩, fun d hd x H2 ⟨T, y, e1, hT, e2, hy⟩ => ?_⟩
  · rw [le] at hi
    obtain ⟨v, hv, _⟩ := r.get (List.getElem?_eq_getElem hi)
    exact ⟨xs, v, hs, hv⟩
  · subst e1; subst e2
    unfold enumD at hd
    rw [List.getElem?_map, List.getElem?_zipIdx] at hd
    cases hz : ds[i]? with
    | none => rw [hz] at hd; cases hd
    | some z =>
      rw [hz] at hd; cases hd
      obtain ⟨v, hv, rv⟩ := r.get hz
      have := hy xs hs
      rw [hv] at this; cases this
      have := new_tup (xs := [.int (i : Nat), _]) (ds := [.int ((i : Nat) : Int), z]) f' hT (.cons (.int _) (.one (rv.mono f)))
      simpa using this
def iEn (f : Ev (List Opd)) : Ev (List D) := fun S st => (f S st).bind fun a S st => match vds S a with
  | some [d] => match asL d with
    | some ds => .ok (enumD ds) S st
    | none => .stuck
  | _ => .stuck
theorem rp_asL {F : Fz} {v : V} {d : D} {ds : List D} (h : Rp G F v d) (e : asL d = some ds) : ∃ p xs, v = .ref p ∧ SqL G.K F p xs ∧ RpAll G F xs ds := by
  cases h with
  | lst h1 h2 => cases e; exact ⟨_, _, rfl, .inl (.inl h1), h2⟩
  | scr h1 => cases e; exact ⟨_, _, rfl, h1, rp_ints G F _⟩
  | _ => cases e
theorem di_en {elts : List Expr} {kk : Nat} {tpos : Pos} {f : Ev (List Opd)} {p : Pos} (hm : X.mg "enumerate" = none) (h : DA X B W [e] f) (hg : Gl X "enumerate" := by rfl) (hs : starEach [e] X.env = [(false, eval e X.env)] := by rfl) : DI X B W (.Tuple elts kk tpos) (.Call (.Name "enumerate" p) [e] [] pos) (iEn f) :=
  pi_imp (pi_enum hg hm h hs) fun σ H R ⟨F, S, st, o, q⟩ => ⟨F, S, st, o, (Post.bind (R := RpO (Cx.g X) σ) q).mono fun vs H1 ⟨F1, d, S1, st1, g1, o1, r1, p1⟩ => by
    split at p1
    · rename_i d hd
      split at p1
      · rename_i ds hds
        have ra := o1.vds r1 hd
        cases ra with
        | cons h t =>
          cases t
          obtain ⟨p, xs, rfl, h1, h2⟩ := rp_asL h hds
          exact ⟨p, xs, rfl, o1.fH.seq h1, p1 _ H1 F1 .refl o1 (walks_e h1 h2)⟩
      · exact p1.elim
    · exact p1.elim⟩
def zipD (ds es : List D) : List D := (ds.zip es).map fun p => .tup [p.1, p.2]
theorem walks_z {F : Fz} {K : PySem.W.Frag} {a b : Addr} {xs ys : List V} {ds es : List D} {mg} (h : SqL K F a xs) (r : RpAll ⟨K, mg⟩ F xs ds) (h' : SqL K F b ys) (r' : RpAll ⟨K, mg⟩ F ys es) : Walks ⟨K, mg⟩ (Itz K a b) F (zipD ds es) := fun F' H' f f' i => by
  have hs := f'.seq (f.1.seq h)
  have hs' := f'.seq (f.1.seq h')
  have le : (zipD ds es).length = min ds.length es.length := by simp [zipD]
  refine ⟨fun hi => ?_, fun hi => ⟨xs, ys, hs, hs', by rw [r.length, r'.length]; rw [le] at hi; omega⟩, fun d hd x H2 ⟨T, y, z, e1, hT, e2, hy, hz⟩ => ?_⟩
  · rw [le] at hi
    obtain ⟨v, hv, _⟩ := r.get (List.getElem?_eq_getElem (show i < ds.length by omega))
    obtain ⟨w, hw, _⟩ := r'.get (List.getElem?_eq_getElem (show i < es.length by omega))
    exact ⟨xs, ys, v, w, hs, hs', hv, hw⟩
  · subst e1; subst e2
    unfold zipD at hd
    rw [List.getElem?_map] at hd
    cases hq : (ds.zip es)[i]? with
    | none => rw [hq] at hd; cases hd
    | some q =>
      rw [hq] at hd; cases hd
      have hq' := List.getElem?_zip_eq_some.mp hq
      obtain ⟨v, hv, rv⟩ := r.get hq'.1
      obtain ⟨w, hw, rw'⟩ := r'.get hq'.2
      have e1 := hy xs hs
      rw [hv] at e1; cases e1
      have e2 := hz ys hs'
      rw [hw] at e2; cases e2
      exact new_tup (xs := [_, _]) (ds := [q.1, q.2]) f' hT (.cons (rv.mono f) (.one (rw'.mono f)))
def iZ (f : Ev (List Opd)) : Ev (List D) := fun S st => (f S st).bind fun a S st => match vds S a with
  | some [d, e] => match asL d, asL e with
    | some ds, some es => .ok (zipD ds es) S st
    | _, _ => .stuck
  | _ => .stuck
theorem di_z {elts : List Expr} {kk : Nat} {tpos : Pos} {e2 : Expr} {f : Ev (List Opd)} {p : Pos} (hm : X.mg "zip" = none) (h : DA X B W [e, e2] f) (hg : Gl X "zip" := by rfl) (hs : starEach [e, e2] X.env = (false, eval e X.env) :: starEach [e2] X.env := by rfl) (hpl : (backTo pos (starEach [e2] X.env)).any (·.1) = false := by rfl) : DI X B W (.Tuple elts kk tpos) (.Call (.Name "zip" p) [e, e2] [] pos) (iZ f) :=
  pi_imp (pi_zip hg hm h hs hpl) fun σ H R ⟨F, S, st, o, q⟩ => ⟨F, S, st, o, (Post.bind (R := RpO (Cx.g X) σ) q).mono fun vs H1 ⟨F1, d, S1, st1, g1, o1, r1, p1⟩ => by
    split at p1
    · rename_i d e hd
      split at p1
      · rename_i ds es hds hes
        have ra := o1.vds r1 hd
        cases ra with
        | cons h t =>
          cases t with
          | cons h' t =>
            cases t
            obtain ⟨p, xs, rfl, h1, h2⟩ := rp_asL h hds
            obtain ⟨p', ys, rfl, h1', h2'⟩ := rp_asL h' hes
            exact ⟨p, p', xs, ys, rfl, o1.fH.seq h1, o1.fH.seq h1', p1 _ H1 F1 .refl o1 (walks_z h1 h2 h1' h2')⟩
      · exact p1.elim
    · exact p1.elim⟩
theorem walks_v {F : Fz} {K : PySem.W.Frag} {a : Addr} {xs : List V} {ds : List D} {mg} (h : SqL K F a xs) (r : RpAll ⟨K, mg⟩ F xs ds) : Walks ⟨K, mg⟩ (Itv K a xs.length) F ds.reverse := fun F' H' f f' i => by
  have hs := f'.seq (f.1.seq h)
  have rl := r.length
  refine ⟨fun hi => ?_, fun hi => ?_, fun d hd x H2 ⟨e, y⟩ => ?_⟩
  · rw [List.length_reverse] at hi
    obtain ⟨v, hv, _⟩ := r.get (List.getElem?_eq_getElem (show xs.length - 1 - i < ds.length by omega))
    exact ⟨by omega, xs, v, hs, hv⟩
  · rw [List.length_reverse] at hi
    show xs.length ≤ i
    omega
  · subst e
    have hi : i < ds.length := by
      have := (List.getElem?_eq_some_iff.mp hd).1
      rwa [List.length_reverse] at this
    rw [List.getElem?_reverse hi] at hd
    rw [← rl] at hd
    obtain ⟨v, hv, rv⟩ := r.get hd
    have := y xs hs
    rw [hv] at this; cases this
    exact ⟨F', Same.refl _, f', .refl, rv.mono f⟩
def iV (f : Ev (List Opd)) : Ev (List D) := fun S st => (f S st).bind fun a S st => match vds S a with
  | some [d] => match asL d with
    | some ds => .ok ds.reverse S st
    | none => .stuck
  | _ => .stuck
theorem di_v {f : Ev (List Opd)} {p : Pos} (hm : X.mg "reversed" = none) (h : DA X B W [e] f) (hg : Gl X "reversed" := by rfl) (hs : starEach [e] X.env = [(false, eval e X.env)] := by rfl) : DI X B W tg (.Call (.Name "reversed" p) [e] [] pos) (iV f) :=
  pi_imp (pi_reversed hg hm h hs) fun σ H R ⟨F, S, st, o, q⟩ => ⟨F, S, st, o, (Post.bind (R := RpO (Cx.g X) σ) q).mono fun vs H1 ⟨F1, d, S1, st1, g1, o1, r1, p1⟩ => by
    split at p1
    · rename_i d hd
      split at p1
      · rename_i ds hds
        have ra := o1.vds r1 hd
        cases ra with
        | cons h t =>
          cases t
          obtain ⟨p, xs, rfl, h1, h2⟩ := rp_asL h hds
          exact ⟨p, xs, rfl, o1.fH.seq h1, p1 _ H1 F1 .refl o1 (walks_v h1 h2)⟩
      · exact p1.elim
    · exact p1.elim⟩
end
/-- the built-ins' names are the module's own nowhere -/
structure Bl (mg : Str → Option Value) : Prop where
  len : mg "len" = none
  isinstance : mg "isinstance" = none
  str : mg "str" = none
  int : mg "int" = none
  bool : mg "bool" = none
  list : mg "list" = none
  tuple : mg "tuple" = none
  dict : mg "dict" = none
  set : mg "set" = none
  range : mg "range" = none
  enumerate : mg "enumerate" = none
  zip : mg "zip" = none
  reversed : mg "reversed" = none
  sorted : mg "sorted" = none
  sum : mg "sum" = none
  all : mg "all" = none
  any : mg "any" = none
  abs : mg "abs" = none
  max : mg "max" = none
  min : mg "min" = none
  ord : mg "ord" = none
  divmod : mg "divmod" = none
  repr : mg "repr" = none
end DL

namespace DL
open PySem PySem.Spec PyProof.Rows L2
/-! ### defs with a default for the last parameter -/
section
variable {P : Program} {w : World} {K : PySem.W.Frag} {mg : Str → Option Value} {base : Heap}
theorem fnD_ok {x qual : Str} {st : Stmt} {f : Addr} {fd : FuncData} {N ps : List Str} {k : Nat} {b : EvS} {dvs : List V} (F : FunD K x qual (defArgs st) (defBody st) (defScope st) dvs [] f fd) (S : FnScope N ps (defScope st))
    (body : ∀ (B : Hp) (cdv : Value) (A : Around) (outer : List Env) (s : Shared) (H : Hp) (E : XK) (W : WX), Room k (A.deeper (envOfC qual (defScope st) s.heap.objs.size f cdv)) →
      Takes (cxOf (L2.CX P w) P w K mg base N qual (defScope st) f cdv A outer s H E) W → PassesOwn (model P w) (A.deeper (envOfC qual (defScope st) s.heap.objs.size f cdv)) (envOfC qual (defScope st) s.heap.objs.size f cdv) (cxOf (L2.CX P w) P w K mg base N qual (defScope st) f cdv A outer s H E).xe →
      DSs (cxOf (L2.CX P w) P w K mg base N qual (defScope st) f cdv A outer s H E) B W (defBody st) b) : FnOk P w K mg base (L2.CX P w) (k + 1) f fd ps (spOf ⟨K, mg⟩ ps.length (runB N.length b)) := by
  refine F.ok S (fun vs H Q E h => h.1) (fun cdv A outer s H vs Q E hr h => ?_)
  obtain ⟨hl, F0, ds, st0, f0, so0, r, q⟩ := h
  refine ⟨_, body (hid F0.m H) cdv A outer s H E (fun cls d _ H' => E cls d H') hr (takes_of rfl rfl rfl rfl) (passes_of rfl), ?_⟩
  have hN : ps.length ≤ N.length := by have := congrArg List.length S.pre; rw [List.length_take] at this; omega
  refine ⟨F0, _, st0, Ok.start f0 (hid_same _ _) so0 r (by omega), ?_⟩
  unfold runB at q
  revert q
  generalize b (ds.map Sl.d ++ List.replicate (N.length - ds.length) .no) st0 = r
  intro q
  cases r with
  | nx S1 st1 => exact fun σ' H' F' g o => q .non H' F' o.kp o.fH g o.so .non
  | ret d S1 st1 => exact fun v σ' H' F' g o rr => q v H' F' o.kp o.fH g o.so rr
  | exc y S1 st1 => exact fun c d σ' H' F' g o rr => q c d H' F' o.kp o.fH g o.so rr
  | bk S1 st1 => exact q.elim
  | ct S1 st1 => exact q.elim
  | rto w1 S1 st1 => exact q.elim
  | stuck => exact q.elim
/-- x, called in full or without the last one, whose default is v (of datum dv), or with it by its name kn -/
structure DefV (P : Program) (w : World) (K : PySem.W.Frag) (mg : Str → Option Value) (base : Heap) (k : Nat) (x : Str) (n : Nat) (c : CallT) (v : V) (kn : Str) : Prop where
  ex : ∃ f fd ps, FnOk P w K mg base (L2.CX P w) k f fd ps (spOf ⟨K, mg⟩ (n + 1) c) ∧ Binds K fd ps [] ∧ (∃ u, RelV v u ∧ Binds K fd ps [u]) ∧ KBn K fd ps n [kn] (fun us ws => us ++ ws) (fun vs zs => vs ++ zs) ∧ mg x = some (.ref f) ∧ PySem.W.keepIn K (.ref f) = true
theorem DefV.mono {k j : Nat} {x : Str} {n : Nat} {c : CallT} {v : V} {kn : Str} (d : DefV P w K mg base k x n c v kn) (h : k ≤ j) : DefV P w K mg base j x n c v kn := by
  obtain ⟨f, fd, ps, a, b, c, e, g, i⟩ := d.ex
  exact ⟨f, fd, ps, a.mono h, b, c, e, g, i⟩
theorem DefV.full {k : Nat} {x : Str} {n : Nat} {c : CallT} {v : V} {kn : Str} (d : DefV P w K mg base k x n c v kn) : Def P w K mg base k x (n + 1) c := by
  obtain ⟨f, fd, ps, a, b, c, e, g, i⟩ := d.ex
  exact ⟨f, fd, ps, a, b, g, i⟩
theorem defV_ok {x qual : Str} {st : Stmt} {f : Addr} {fd : FuncData} {N ps : List Str} {k n : Nat} {b : EvS} {v : V} {kn : Str} (F : FunD K x qual (defArgs st) (defBody st) (defScope st) [v] [] f fd) (S : FnScope N ps (defScope st)) (hm : mg x = some (.ref f)) (hn : ps.length = n + 1)
    (hfull : ∀ (T : Addr) (kV doc pm : Value) (an : Option Addr) (cdv ct : Value) (us its : List Value), us.length = n + 1 → its.length = 1 →
      ∃ k, bindArgs (PySem.W.fnOf x qual (defArgs st) (defBody st) (defScope st) (.ref T) kV doc pm an cdv ct) ⟨us, []⟩ = seqItems? (.ref T) >>= k ∧ k (some its.toArray) = pure (ps.zip (us ++ its.drop 1)))
    (hshort : ∀ (T : Addr) (kV doc pm : Value) (an : Option Addr) (cdv ct : Value) (us its : List Value), us.length = n → its.length = 1 →
      ∃ k, bindArgs (PySem.W.fnOf x qual (defArgs st) (defBody st) (defScope st) (.ref T) kV doc pm an cdv ct) ⟨us, []⟩ = seqItems? (.ref T) >>= k ∧ k (some its.toArray) = pure (ps.zip (us ++ its.drop 0)))
    (hkw : ∀ (T : Addr) (kV doc pm : Value) (an : Option Addr) (cdv ct : Value) (us its ws : List Value), us.length = n → its.length = 1 → ws.length = 1 →
      ∃ k, bindArgs (PySem.W.fnOf x qual (defArgs st) (defBody st) (defScope st) (.ref T) kV doc pm an cdv ct) ⟨us, [kn].zip ws⟩ = seqItems? (.ref T) >>= k ∧ k (some its.toArray) = pure (ps.zip (us ++ ws)))
    (body : ∀ (B : Hp) (cdv : Value) (A : Around) (outer : List Env) (s : Shared) (H : Hp) (E : XK) (W : WX), Room k (A.deeper (envOfC qual (defScope st) s.heap.objs.size f cdv)) →
      Takes (cxOf (L2.CX P w) P w K mg base N qual (defScope st) f cdv A outer s H E) W → PassesOwn (model P w) (A.deeper (envOfC qual (defScope st) s.heap.objs.size f cdv)) (envOfC qual (defScope st) s.heap.objs.size f cdv) (cxOf (L2.CX P w) P w K mg base N qual (defScope st) f cdv A outer s H E).xe →
      DSs (cxOf (L2.CX P w) P w K mg base N qual (defScope st) f cdv A outer s H E) B W (defBody st) b) : DefV P w K mg base (k + 1) x n (runB N.length b) v kn := by
  have h1 := fnD_ok F S body
  rw [hn] at h1
  obtain ⟨d1, r1, b1⟩ := F.binds1 (ps := ps) (n + 1) 1 (by simp) (by simp [hn]) hfull
  obtain ⟨d0, r0, b0⟩ := F.binds1 (ps := ps) n 0 (by simp) (by simp [hn]) hshort
  obtain ⟨its, kb⟩ := F.kbindsD (ps := ps) n [kn] (fun us _ ws => us ++ ws) (by simp) (fun a _ c => a.append c) hkw
  cases r1
  cases r0 with
  | cons a t =>
    cases t
    exact ⟨f, fd, ps, h1, b1, ⟨_, a, b0⟩, kb, hm, F.kp⟩
/-- the default's tuple as it stands behind the top -/
theorem funD_mk {x qual : Str} {st : Stmt} {f T : Addr} {oc oc2 : Value} {od an od2 : Option Addr} {osl sl2 : Array (Option Value)} {kV doc pm cdv ct u : Value} {n2 : Nat} {v : V} (l : K.lookup f = some ⟨oc, od, .func (PySem.W.fnOf x qual (defArgs st) (defBody st) (defScope st) (.ref T) kV doc pm an cdv ct), osl⟩)
    (lT : K.lookup T = some ⟨oc2, od2, .seq #[u] n2, sl2⟩) (ru : RelV v u) (c : PySem.W.codeIn K cdv qual = true) (k : PySem.W.keepIn K (.ref f) = true) : FunD K x qual (defArgs st) (defBody st) (defScope st) [v] [] f (PySem.W.fnOf x qual (defArgs st) (defBody st) (defScope st) (.ref T) kV doc pm an cdv ct) :=
  ⟨⟨oc, od, .ref T, kV, doc, pm, an, cdv, ct, osl, rfl, l, c, .inr ⟨by simp, T, _, [u], n2, rfl, lT, rfl, .cons ru .nil⟩, .inl rfl⟩, k⟩
end
/-- called without the last one -/
def cDf (c : CallT) (d : D) : CallT := fun ds st => c (ds ++ [d]) st
def tCallP (sp : Sp) (E : L2.St → XK) (ws : List V) (t : TA) : TE := fun σ H Q => t σ H fun vs H1 => sp (vs ++ ws) H1 Q (E σ)
def tCallQ (n : Nat) (sp : Sp) (E : L2.St → XK) (t tk : TA) : TE := fun σ H Q => t σ H fun vs H1 => tk σ H1 fun zs H2 => vs.length = n ∧ zs.length = 1 ∧ sp (vs ++ zs) H2 Q (E σ)
section
variable {X : Cx} {B : Hp} {W : WX} {e e2 : Expr} {es : List Expr} {pos p kpos : Pos} {k n : Nat} {x kn : Str} {c : CallT}
theorem run_dfl {f : Addr} {fd : FuncData} {ps : List Str} {sp : Sp} {pins : List (Addr × Obj)} {σ : L2.St} {H : Hp} {s : Shared} {Q : VK} {us ds : List Value} {vs ws : List V} (F : FnOk X.prog X.w X.K X.mg X.base (L2.CX X.prog X.w) k f fd ps sp) (hr : Room k X.A) (hb : Binds X.K fd ps ds) (tk : Takes X W)
    (I : Inv X pins σ H s) (r : Vals vs us) (rd : Vals ws ds) (h : sp (vs ++ ws) H Q (WE W σ)) : wpAny (model X.prog X.w) X.A (call (.ref f) us) (EP X pins σ Q) X.xe s := by
  have hl : (us ++ ds).length = ps.length := (r.append rd).length.symm.trans (F.len _ _ _ _ h)
  refine wpAny_call (codeAny_mono (F.run X.A X.stack s H ⟨us, []⟩ (us ++ ds) (vs ++ ws) Q (WE W σ) hr I.env0 (hb s us I.kIn hl) (r.append rd) h) fun y s2 hq => ?_)
  match y, hq with
  | .error u, hq => exact passAt tk σ pins H s u s2 I hq
  | .ok (.ret u), hq => exact I.after hq
  | .ok .next, hq => exact hq.elim
  | .ok .brk, hq => exact hq.elim
  | .ok .cont, hq => exact hq.elim
theorem run_kwl {f : Addr} {fd : FuncData} {ps : List Str} {sp : Sp} {pins : List (Addr × Obj)} {σ : L2.St} {H : Hp} {s : Shared} {Q : VK} {us ws : List Value} {vs zs : List V} (F : FnOk X.prog X.w X.K X.mg X.base (L2.CX X.prog X.w) k f fd ps sp) (hr : Room k X.A) (hb : KBn X.K fd ps n [kn] (fun us ws => us ++ ws) (fun vs zs => vs ++ zs)) (tk : Takes X W)
    (I : Inv X pins σ H s) (r : Vals vs us) (rz : Vals zs ws) (l1 : vs.length = n) (l2 : zs.length = 1) (h : sp (vs ++ zs) H Q (WE W σ)) : wpAny (model X.prog X.w) X.A (call (.ref f) us ([kn].zip ws)) (EP X pins σ Q) X.xe s := by
  have e1 : us.length = n := r.length.symm.trans l1
  have e2 : ws.length = 1 := rz.length.symm.trans l2
  refine wpAny_call (codeAny_mono (F.run X.A X.stack s H ⟨us, [kn].zip ws⟩ (us ++ ws) (vs ++ zs) Q (WE W σ) hr I.env0 (hb.to s us ws I.kIn e1 e2) (hb.rel r rz) h) fun y s2 hq => ?_)
  match y, hq with
  | .error u, hq => exact passAt tk σ pins H s u s2 I hq
  | .ok (.ret u), hq => exact I.after hq
  | .ok .next, hq => exact hq.elim
  | .ok .brk, hq => exact hq.elim
  | .ok .cont, hq => exact hq.elim
theorem pe_callP {f : Addr} {fd : FuncData} {ps : List Str} {sp : Sp} {ds : List Value} {ws : List V} {t : TA} (F : FnOk X.prog X.w X.K X.mg X.base (L2.CX X.prog X.w) k f fd ps sp) (hr : Room k X.A) (hg : Gl X x) (hm : X.mg x = some (.ref f)) (hk : PySem.W.keepIn X.K (.ref f) = true) (hb : Binds X.K fd ps ds) (rd : Vals ws ds) (tk : Takes X W)
    (ha : PA X (e :: es) t) (hdb : (x == ("__debug__" : Str)) = false := by decide) (he : starEach (e :: es) X.env = (false, eval e X.env) :: starEach es X.env := by rfl) (hpl : (backTo pos (starEach es X.env)).any (·.1) = false := by rfl) :
    PE X (.Call (.Name x p) (e :: es) [] pos) (tCallP sp (WE W) ws t) := by
  refine ⟨fun pins s σ H Q I h => ?_⟩
  refine wpAny_Call_Name_kw (ld_glob I hg hm ?_ hdb)
  exact PySem.W.callWith_K (h₀ := X.base) I.ok.mod.kin hk (thn (ha.run pos pins s σ H _ I h) fun us s1 ⟨vs, H1, I1, r, q⟩ => ⟨I1.kIn, run_dfl F hr hb tk I1 r rd q⟩) he hpl
theorem pe_callQ {f : Addr} {fd : FuncData} {ps : List Str} {sp : Sp} {t tkw : TA} {kws : List Keyword} (F : FnOk X.prog X.w X.K X.mg X.base (L2.CX X.prog X.w) k f fd ps sp) (hr : Room k X.A) (hg : Gl X x) (hm : X.mg x = some (.ref f)) (hk : PySem.W.keepIn X.K (.ref f) = true) (hb : KBn X.K fd ps n [kn] (fun us ws => us ++ ws) (fun vs zs => vs ++ zs)) (tk : Takes X W)
    (ha : PA X (e :: es) t) (hkw : PK X kws tkw) (hall : (backToKw pos (keywordEach kws X.env)).all (·.1.isSome) = true := by rfl) (hks : (backToKw pos (keywordEach kws X.env)).filterMap (·.1) = [kn] := by rfl)
    (hdb : (x == ("__debug__" : Str)) = false := by decide) (he : starEach (e :: es) X.env = (false, eval e X.env) :: starEach es X.env := by rfl)
    (hpl : ((backTo pos (starEach (e :: es) X.env)).any (·.1) || (backToKw pos (keywordEach kws X.env)).any (·.1.isNone)) = false := by rfl) :
    PE X (.Call (.Name x p) (e :: es) kws pos) (tCallQ n sp (WE W) t tkw) := by
  refine ⟨fun pins s σ H Q I h => ?_⟩
  refine wpAny_Call_Name_kw (ld_glob I hg hm ?_ hdb)
  refine PySem.W.callWith_KW (h₀ := X.base) I.ok.mod.kin hk hall (thn (ha.run pos pins s σ H _ I h) fun us s1 ⟨vs, H1, I1, r, q⟩ => thn (hkw.run pos pins s1 σ H1 _ I1 q) fun ws s2 ⟨zs, H2, I2, rz, l1, l2, q2⟩ => ⟨I2.kIn, ?_⟩) hpl he
  rw [hks]
  exact run_kwl F hr hb tk I2 r rz l1 l2 q2
theorem sp_dfl {G : Gx} {v : V} {d : D} {vs : List V} {H : Hp} {Q : VK} {E : XK} (hv : ∀ F, Rp G F v d) (h : spOf G n (cDf c d) vs H Q E) : spOf G (n + 1) c (vs ++ [v]) H Q E := by
  obtain ⟨hl, F, ds, st, f, so, r, q⟩ := h
  exact ⟨by simp [hl], F, ds ++ [d], st, f, so, r.append (.one (hv F)), q⟩
/-- x(e, ..), the last one by its default -/
theorem de_cD {fa : Ev (List Opd)} {v : V} (dv : D) (d : DefV X.prog X.w X.K X.mg X.base k x n c v kn) (hv : ∀ F, Rp (Cx.g X) F v dv) (hr : Room k X.A) (tk : Takes X W) (ha : DA X B W (e :: es) fa) (hl : aLen fa n := by repeat (first | exact aLen_n | refine aLen_c ?_)) (hg : Gl X x := by rfl) (hdb : (x == ("__debug__" : Str)) = false := by decide)
    (he : starEach (e :: es) X.env = (false, eval e X.env) :: starEach es X.env := by rfl) (hpl : (backTo pos (starEach es X.env)).any (·.1) = false := by rfl) : DE X B W (.Call (.Name x p) (e :: es) [] pos) (cE (cDf c dv) fa) := by
  obtain ⟨f, fd, ps, F, _, ⟨u, ru, hb⟩, _, hm, hk⟩ := d.ex
  refine pe_imp (pe_callP F hr hg hm hk hb (.cons ru .nil) tk ha hdb he hpl) fun σ H Q q => ?_
  obtain ⟨F0, S, st, o, q⟩ := call_lift (n := n) hl q
  exact ⟨F0, S, st, o, q.mono fun vs H1 z => sp_dfl hv z⟩
/-- x(e, .., kn=e2) -/
def cKE (c : CallT) (fa : Ev (List Opd)) (f2 : Ev D) : Ev D := fun S st => (fa S st).bind fun a S st => (f2 S st).bind fun d S st => match vds S a with
  | some ds => match c (ds ++ [d]) st with
    | .ok d _ st => .ok d S st
    | .exc x _ st => .exc x S st
    | .stuck => .stuck
  | none => .stuck
theorem Opd_len {G : Gx} {σ : L2.St} {F : Fz} {vs : List V} {as : List Opd} (h : RpO G σ F vs as) : vs.length = as.length := by
  induction h with
  | nil => rfl
  | cons _ _ ih => simp [ih]
theorem de_cK {fa : Ev (List Opd)} {f2 : Ev D} {v : V} (d : DefV X.prog X.w X.K X.mg X.base k x n c v kn) (hr : Room k X.A) (tk : Takes X W) (ha : DA X B W (e :: es) fa) (h2 : DE X B W e2 f2) (hl : aLen fa n := by repeat (first | exact aLen_n | refine aLen_c ?_)) (hg : Gl X x := by rfl) (hdb : (x == ("__debug__" : Str)) = false := by decide)
    (hall : (backToKw pos (keywordEach [⟨some kn, e2, kpos⟩] X.env)).all (·.1.isSome) = true := by rfl) (hks : (backToKw pos (keywordEach [⟨some kn, e2, kpos⟩] X.env)).filterMap (·.1) = [kn] := by rfl)
    (he : starEach (e :: es) X.env = (false, eval e X.env) :: starEach es X.env := by rfl) (hpl : ((backTo pos (starEach (e :: es) X.env)).any (·.1) || (backToKw pos (keywordEach [⟨some kn, e2, kpos⟩] X.env)).any (·.1.isNone)) = false := by rfl) : DE X B W (.Call (.Name x p) (e :: es) [⟨some kn, e2, kpos⟩] pos) (cKE c fa f2) := by
  obtain ⟨f, fd, ps, F, _, _, hb, hm, hk⟩ := d.ex
  refine pe_imp (pe_callQ F hr hg hm hk hb tk ha (pk_cons h2 pk_nil) hall hks hdb he hpl) fun σ H Q ⟨F0, S, st, o, q⟩ => ?_
  have hlen := hl S st
  refine ⟨F0, S, st, o, ?_⟩
  unfold cKE at q
  generalize fa S st = r at q hlen
  cases r with
  | exc y S1 st1 => exact q
  | stuck => exact q
  | ok a S1 st1 =>
    intro vs H1 F1 g1 o1 r1
    have q : Post (Cx.g X) B W (RD (Cx.g X) σ) σ F0 Q ((f2 S1 st1).bind fun d S st => match vds S a with
      | some ds => match c (ds ++ [d]) st with
        | .ok d _ st => .ok d S st
        | .exc x _ st => .exc x S st
        | .stuck => .stuck
      | none => .stuck) := q
    have q := Post.grow g1 q
    refine ⟨F1, S1, st1, o1, (Post.bind (R := RD (Cx.g X) σ) q).mono fun v2 H2 ⟨F2, d2, S2, st2, g2, o2, r2, p2⟩ => ?_⟩
    have l1 : vs.length = n := (Opd_len r1).trans (hlen _ _ _ rfl)
    refine ⟨l1, rfl, ?_⟩
    split at p2
    · rename_i ds hds
      have ra := o2.vds (r1.mono g2.1) hds
      refine ⟨by simp [l1], F2, ds ++ [d2], st2, o2.fH, o2.so.hid, ra.append (.one r2), ?_⟩
      revert p2
      generalize c (ds ++ [d2]) st2 = r
      intro p2
      cases r with
      | ok _ _ _ => exact fun v H' F' k f gr so rr => p2 v H' F' (o2.back k f gr so).1 (o2.back k f gr so).2 rr
      | exc _ _ _ => exact fun cls dd H' F' k f gr so rr => p2 cls dd H' F' (o2.back k f gr so).1 (o2.back k f gr so).2 rr
      | stuck => exact p2.elim
    · exact p2.elim
end
section
variable {S : Sls} {st : Store}
@[simp] theorem cKE_a (c : CallT) (fa : Ev (List Opd)) (f2 : Ev D) : cKE c fa f2 S st = (fa S st).bind fun a S st => (f2 S st).bind fun d S st => match vds S a with
  | some ds => match c (ds ++ [d]) st with
    | .ok d _ st => .ok d S st
    | .exc x _ st => .exc x S st
    | .stuck => .stuck
  | none => .stuck := rfl
@[simp] theorem cDf_a (c : CallT) (d : D) (ds : List D) : cDf c d ds st = c (ds ++ [d]) st := rfl
end
end DL

namespace DL
open PySem PySem.Spec PyProof.Rows L2
/-! ### xs[j] += e, of a slot's own list -/
theorem pg_lst {X : Cx} : PGet X (rIxL X.K) := by
  intro pins s σ H x y v u Q I rx ry h
  obtain ⟨p, xs, i, z, rfl, rfl, hq, he, q⟩ := h
  cases rx
  obtain ⟨t, rfl⟩ := ry
  obtain ⟨its, r, pl, hz⟩ := I.list hq
  obtain ⟨j, g1, g2, g3, g4, g5⟩ := atI_get he
  obtain ⟨w, ew, rw'⟩ := r.get g2
  have hl := r.length
  have hn := line63
  have fin : EP X pins σ Q w s := ⟨z, H, I, rw', q⟩
  by_cases i0 : 0 ≤ i
  · have hj : i.toNat = j := by
      rw [seqIndex_of i0 g5] at g1; exact Option.some.inj g1
    exact wpAny_getItem_list pl.isList i0 (by omega) (by rw [hj]; simpa using ew) fin
  · have hj : (i + (its.toArray.size : Int)).toNat = j := by
      rw [seqIndex_neg (by omega) g4] at g1
      rw [List.size_toArray, ← hl]; exact Option.some.inj g1
    exact wpAny_getItem_list_neg pl.isList (by omega) (by rw [List.size_toArray]; omega) (by omega) (by rw [hj]; simpa using ew) fin
def sAugS (i : Nat) (g : Int → Int → Int) (fj fv : Ev D) : EvS := fun S st => match S[i]? with
  | some (.own (.l _)) => (fj S st).out fun j S st => match j, S[i]? with
    | .int k, some (.own (.l ds)) => match L2.atI ds k with
      | some (.int a) => (fv S st).out fun y S st => match y, S[i]? with
        | .int b, some (.own (.l es)) => match ixN es.length k with
          | some j => .nx (S.set i (.own (.l (es.set j (.int (g a b)))))) st
          | none => .stuck
        | _, _ => .stuck
      | _ => .stuck
    | _, _ => .stuck
  | _ => .stuck
section
variable {X : Cx} {B : Hp} {W : WX} {e a b : Expr} {pos : Pos}
theorem ds_augS {i : Nat} {g : Int → Int → Int} {op : Operator} {fj fv : Ev D} {tpos : Pos} (ho : PE X a (tVar i)) (hj : DE X B W b fj) (hv : DE X B W e fv) (hp : PIp X op (ipI g))
    (hst : ∀ ov iv new, augStore b ov iv new = (do holding [new, ov, iv] (setItem ov iv new); release [new, ov, iv] []; pure .next) := by intros; rfl) : DS X B W (.AugAssign (.Subscript a b tpos) op e pos) (sAugS i g fj fv) :=
  ps_imp (ps_augS ho hj pg_lst hv hp set_list hst) fun D σ H ⟨F, S, st, o, q⟩ => by
    unfold sAugS at q
    split at q
    · rename_i ds0 hS0
      obtain ⟨p, u, e1, h1, h2, h3, r, _⟩ := o.sl i _ hS0
      refine ⟨_, e1, F, S, st, o, (Post.out (R := RD (Cx.g X) σ) q).mono fun jv H2 ⟨F2, jd, S2, st2, g2, o2, r2, p2⟩ => ?_⟩
      split at p2
      · rename_i k ds hS2
        split at p2
        · rename_i n hn
          obtain ⟨p', u', e1', h1', h2', h3', r', _⟩ := o2.sl i _ hS2
          rw [e1] at e1'; cases e1'
          cases r' with
          | l r' =>
            cases r2
            obtain ⟨vv, hvv, rv⟩ := r'.atI hn
            cases rv
            refine ⟨p, _, k, _, rfl, rfl, SqL.of h1', hvv, F2, S2, st2, o2, (Post.out (R := RD (Cx.g X) σ) p2).mono fun yv H3 ⟨F3, yd, S3, st3, g3, o3, r3, p3⟩ => ?_⟩
            split at p3
            · rename_i m es hS3
              split at p3
              · rename_i j hj
                obtain ⟨p2', u2', e2', k1, k2, k3, rr, _⟩ := o3.sl i _ hS3
                rw [e1] at e2'; cases e2'
                cases rr with
                | l rr =>
                  cases r3
                  exact ⟨n, m, rfl, rfl, p, _, k, j, rfl, rfl, k1, by rw [rr.length]; exact hj, p3 σ _ F3 .refl (o3.chg hS3 e1 (.l (rr.set j (.int _))))⟩
              · exact p3.elim
            · exact p3.elim
        · exact p2.elim
      · exact p2.elim
    · exact q.elim
end
end DL

namespace DL
open PySem PySem.Spec PyProof.Rows L2
section
variable {G : Gx} {X : Cx}
/-! ### texts: join, parts -/
def joinN (a : List Nat) : List (List Nat) → List Nat
  | [] => []
  | [x] => x
  | x :: y :: r => x ++ a ++ joinN a (y :: r)
theorem join_tx (a : List Nat) : ∀ ss : List (List Nat), Txt.join (tx a) (ss.map tx) = tx (joinN a ss) := fun ss => by
  show Builtin.Str.glued (tx a) (ss.map tx) = _
  rw [StrLaws.glued_eq_join]
  induction ss with
  | nil => rfl
  | cons x r ih =>
    cases r with
    | nil => rfl
    | cons y r =>
      show tx x ++ tx a ++ Str.join (tx a) ((y :: r).map tx) = _
      rw [ih, tx_app, tx_app]; rfl
theorem okS_join {a : List Nat} (h : okS a = true) : ∀ {ss : List (List Nat)}, (∀ s ∈ ss, okS s = true) → okS (joinN a ss) = true
  | [], _ => rfl
  | [x], k => k x (List.mem_cons_self ..)
  | x :: y :: r, k => okS_app (okS_app (k x (List.mem_cons_self ..)) h) (okS_join h fun s m => k s (List.mem_cons_of_mem _ m))
theorem strs_ok {F : Fz} : ∀ {xs : List V} {ss : List (List Nat)}, RpAll G F xs (ss.map D.str) → ∀ s ∈ ss, okS s = true
  | _, [], _, s, m => by cases m
  | _ :: _, x :: r, .cons h t, s, m => by
    cases h with
    | str _ o =>
      rcases List.mem_cons.mp m with e | m
      · rw [e]; exact o
      · exact strs_ok t s m
def dJoin : D → List D → Option D
  | .str a, [d] => match seqD d with
    | some ds => match strsD ds with
      | some ss => if (ss.map (·.length)).sum + ss.length * a.length ≤ 16777216 then some (.str (joinN a ss)) else none
      | none => none
    | none => none
  | _, _ => none
theorem op_dJoin : OpM G (fun x xs H Q => ∃ a p, ∃ ys : List Str, x = .str a ∧ xs = [.ref p] ∧ (SqL G.K H p (ys.map V.str) ∨ SqT G.K H p (ys.map V.str)) ∧ (ys.map (·.length)).sum + ys.length * a.length ≤ 16777216 ∧ Q (.str (Txt.join a ys)) H) dJoin := fun F H v vs x xs d f hv hvs e => by
  unfold dJoin at e
  split at e
  · rename_i a d1
    split at e
    · rename_i ds hds
      split at e
      · rename_i ss hss
        split at e
        · rename_i hle
          cases e
          obtain ⟨rfl, o⟩ := hv.str_eq
          cases hvs with
          | cons h t =>
            cases t
            obtain ⟨p, ys, rfl, h1, h2⟩ := h.seq f hds
            cases strs_eq hss
            cases rp_strs_inv h2
            have o2 := strs_ok h2
            refine gives_v (.str _ (okS_join o o2)) f fun Q q => ⟨_, _, _, rfl, rfl, h1, ?_, by rw [join_tx]; exact q⟩
            have e1 : ((ss.map tx).map (·.length)) = ss.map (·.length) := by
              rw [List.map_map]; exact List.map_congr_left fun s _ => tx_len s
            rw [e1, List.length_map, tx_len]; exact hle
        · cases e
      · cases e
    · cases e
  · cases e
/-- new lists of texts -/
theorem gives_strs {F : Fz} {H : Hp} {r : VK → Prop} {ss : List (List Nat)} (o : ∀ s ∈ ss, okS s = true) (f : Same F.f H) (h : ∀ Q : VK, rNewStrs (ss.map tx) H Q → r Q) : Gives r G F H (.lst (ss.map .str)) := by
  have rp : RpAll G F ((ss.map tx).map V.str) (ss.map D.str) := by rw [List.map_map]; exact rp_strs G F ss o
  exact gives_lst rp f fun Q q => h Q q
def cpsL (ys : List Str) : List (List Nat) := ys.map fun y => y.cps.toList
theorem map_tx_cps (ys : List Str) : (cpsL ys).map tx = ys := by
  unfold cpsL; rw [List.map_map]
  exact (List.map_congr_left fun y _ => tx_cps y).trans (List.map_id _)
def dSplit : D → List D → Option D
  | .str a, [.str b] => if 0 < b.length ∧ a.length + 2 ≤ 16777216 ∧ (∀ s ∈ cpsL (Txt.split (tx a) (tx b)), okS s = true) then some (.lst ((cpsL (Txt.split (tx a) (tx b))).map .str)) else none
  | _, _ => none
theorem op_dSplit : OpM G (fun x xs H Q => ∃ a b, x = .str a ∧ xs = [.str b] ∧ (b.length == 0) = false ∧ a.length + 2 ≤ sizeLine ∧ rNewStrs (Txt.split a b) H Q) dSplit := fun F H v vs x xs d f hv hvs e => by
  unfold dSplit at e
  split at e
  · split at e
    · rename_i h
      cases e
      obtain ⟨rfl, o⟩ := hv.str_eq
      cases hvs with
      | cons h1 t =>
        cases t
        obtain ⟨rfl, o1⟩ := h1.str_eq
        exact gives_strs h.2.2 f fun Q q => ⟨_, _, rfl, rfl, by rw [tx_len]; exact beq_false_of_ne (by omega), by rw [tx_len, sizeLine_eq]; exact h.2.1, by rw [map_tx_cps] at q; exact q⟩
    · cases e
  · cases e
def dWords : D → Option D
  | .str a => if a.length + 2 ≤ 16777216 ∧ (∀ s ∈ cpsL (Txt.words (tx a)), okS s = true) then some (.lst ((cpsL (Txt.words (tx a))).map .str)) else none
  | _ => none
theorem op_dWords : Op1 G (fun x H Q => ∃ a, x = .str a ∧ ([] : List V) = [] ∧ a.length + 2 ≤ sizeLine ∧ rNewStrs (Txt.words a) H Q) dWords := fun F H v x d f hv e => by
  unfold dWords at e
  split at e
  · split at e
    · rename_i h
      cases e
      obtain ⟨rfl, o⟩ := hv.str_eq
      exact gives_strs h.2 f fun Q q => ⟨_, rfl, rfl, by rw [tx_len, sizeLine_eq]; exact h.1, by rw [map_tx_cps] at q; exact q⟩
    · cases e
  · cases e
def d2S (g : List Nat → List Nat → D) : D → List D → Option D
  | .str a, [.str b] => some (g a b)
  | _, _ => none
def dStarts := d2S fun a b => .bl (Txt.startswith (tx a) (tx b))
def dEnds := d2S fun a b => .bl (Txt.endswith (tx a) (tx b))
def dFind := d2S fun a b => .int (Txt.find (tx a) (tx b))
theorem op_dStarts : OpM G (fun x xs H Q => ∃ a b, x = .str a ∧ xs = [.str b] ∧ Q (.bl (Txt.startswith a b)) H) dStarts := fun F H v vs x xs d f hv hvs e => by
  unfold dStarts d2S at e
  split at e
  · cases e
    obtain ⟨rfl, o⟩ := hv.str_eq
    cases hvs with | cons h1 t => cases t; obtain ⟨rfl, o1⟩ := h1.str_eq; exact gives_v (.bl _) f fun Q q => ⟨_, _, rfl, rfl, q⟩
  · cases e
theorem op_dEnds : OpM G (fun x xs H Q => ∃ a b, x = .str a ∧ xs = [.str b] ∧ Q (.bl (Txt.endswith a b)) H) dEnds := fun F H v vs x xs d f hv hvs e => by
  unfold dEnds d2S at e
  split at e
  · cases e
    obtain ⟨rfl, o⟩ := hv.str_eq
    cases hvs with | cons h1 t => cases t; obtain ⟨rfl, o1⟩ := h1.str_eq; exact gives_v (.bl _) f fun Q q => ⟨_, _, rfl, rfl, q⟩
  · cases e
theorem op_dFind : OpM G (fun x xs H Q => ∃ a b, x = .str a ∧ xs = [.str b] ∧ Q (.int (Txt.find a b)) H) dFind := fun F H v vs x xs d f hv hvs e => by
  unfold dFind d2S at e
  split at e
  · cases e
    obtain ⟨rfl, o⟩ := hv.str_eq
    cases hvs with | cons h1 t => cases t; obtain ⟨rfl, o1⟩ := h1.str_eq; exact gives_v (.int _) f fun Q q => ⟨_, _, rfl, rfl, q⟩
  · cases e
/-! ### numbers as texts -/
def numS (i : Int) : List Nat := (Str.ofString (toString i)).cps.toList
theorem okS_str (x : String) : okS (Str.ofString x).cps.toList = true := by
  have : (Str.ofString x).cps.toList = x.toList.map Char.toNat := PyProof.Rows.signs_ofString x
  rw [this]
  unfold okS
  rw [List.all_map, List.all_eq_true]
  intro c _
  simp
  have := c.valid
  show c.val.toNat < 1114112
  rcases this with h | h
  · exact Nat.lt_trans h (by decide)
  · exact h.2
theorem okS_num (i : Int) : okS (numS i) = true := okS_str _
def dStr : List D → Option D
  | [.int i] => if i.natAbs.log2 < 1920 then some (.str (numS i)) else none
  | _ => none
theorem op_dStr : OpA G (fun xs H Q => ∃ i, xs = [.int i] ∧ i.natAbs.log2 < 1920 ∧ Q (.str (toString i)) H) dStr := fun F H vs xs d f hv e => by
  unfold dStr at e
  split at e
  · split at e
    · rename_i h
      cases e
      cases hv with | cons h1 t => cases t; cases h1.int_eq; exact gives_v (.str _ (okS_num _)) f fun Q q => ⟨_, rfl, h, q⟩
    · cases e
  · cases e
def rIntAll : List V → Hp → VK → Prop := fun xs H Q => ((∃ i, xs = [.int i] ∧ Q (.int i) H) ∨ ∃ k, xs = [.bl k] ∧ Q (.int (if k then 1 else 0)) H) ∨ (∃ a n, xs = [.str a] ∧ PySem.intText? a = some n ∧ a.length ≤ 640 ∧ Q (.int n) H)
theorem opR_int : CallR X (.type "int") rIntAll := CallR.or call_int1 call_int_str
def dInt : List D → Option D
  | [.int i] => some (.int i)
  | [.bl k] => some (.int (if k then 1 else 0))
  | [.str s] => if s.length ≤ 640 then (PySem.intText? (tx s)).map .int else none
  | _ => none
theorem op_dInt : OpA G rIntAll dInt := fun F H vs xs d f hv e => by
  unfold dInt at e
  split at e
  · cases e
    cases hv with | cons h1 t => cases t; cases h1.int_eq; exact gives_v (.int _) f fun Q q => .inl (.inl ⟨_, rfl, q⟩)
  · cases e
    cases hv with | cons h1 t => cases t; cases h1.bl_eq; exact gives_v (.int _) f fun Q q => .inl (.inr ⟨_, rfl, q⟩)
  · rename_i s
    split at e
    · rename_i h
      cases hn : PySem.intText? (tx s) with
      | none => rw [hn] at e; cases e
      | some n =>
        rw [hn] at e; cases e
        cases hv with | cons h1 t => cases t; obtain ⟨rfl, o1⟩ := h1.str_eq; exact gives_v (.int _) f fun Q q => .inr ⟨_, n, rfl, hn, by rw [tx_len]; exact h, q⟩
    · cases e
  · cases e
/-! ### x.index(y) -/
def dDivmod : List D → Option D
  | [.int i, .int j] => if 0 < j ∧ j.natAbs.log2 < 9000 then some (.tup [.int (i / j), .int (i % j)]) else none
  | _ => none
end
/-! ### a op b op c -/
section
variable {X : Cx} {B : Hp} {W : WX} {e a b c : Expr} {es : List Expr} {pos : Pos}
def o3E (op op' : D → D → Option D) (fa fb fc : Ev Opd) : Ev D := fun S st => (fa S st).bind fun a S st => (fb S st).bind fun b S st =>
  match vw S st a, vw S st b with
  | some x, some y => match op x y with
    | some (.bl true) => (fc S st).bind fun c S st => match vw S st b, vw S st c with
      | some y, some z => got (op' y z) S st
      | _, _ => .stuck
    | some (.bl false) => .ok (.bl false) S st
    | _ => .stuck
  | _, _ => .stuck
theorem op3_lift {r r' : R2} {op op' : D → D → Option D} {fa fb fc : Ev Opd} (h : Op2 (Cx.g X) r op) (h' : Op2 (Cx.g X) r' op') {σ : L2.St} {H : Hp} {Q : VK} (q : lift (Cx.g X) B W (RD (Cx.g X)) (o3E op op' fa fb fc) σ H Q) :
    tChain r r' (lift (Cx.g X) B W (RO (Cx.g X)) fa) (lift (Cx.g X) B W (RO (Cx.g X)) fb) (lift (Cx.g X) B W (RO (Cx.g X)) fc) σ H Q := by
  obtain ⟨F, S, st, o, q⟩ := q
  refine ⟨F, S, st, o, (Post.bind (R := RO (Cx.g X) σ) q).mono fun v H1 ⟨F1, d, S1, st1, g1, o1, r1, p1⟩ => ⟨F1, S1, st1, o1, (Post.bind (R := RO (Cx.g X) σ) p1).mono fun w H2 ⟨F2, d2, S2, st2, g2, o2, r2, p2⟩ => ?_⟩⟩
  split at p2
  · rename_i x y hx hy
    split at p2
    · rename_i hz
      refine h F2 H2 v w x y _ o2.fH (o2.vw (r1.mono g2.1) hx) (o2.vw r2 hy) hz _ fun v' H' F' k f gr rr => ?_
      cases rr
      refine ⟨_, rfl, ?_⟩
      simp only [if_true]
      refine ⟨⟨F', F2.m⟩, S2, st2, o2.grow gr k f, ?_⟩
      have g' : Gr B F2 ⟨F', F2.m⟩ := o2.gr gr
      refine (Post.grow g' (Post.bind (R := RO (Cx.g X) σ) p2)).mono fun u H3 ⟨F3, d3, S3, st3, g3, o3, r3, p3⟩ => ?_
      split at p3
      · rename_i y' z hy' hz'
        obtain ⟨t, ht, p3⟩ := got_ok p3
        exact (h' F3 H3 w u y' z t o3.fH (o3.vw (r2.mono g3.1) hy') (o3.vw r3 hz') ht).fin o3 p3
      · exact p3.elim
    · rename_i hz
      refine h F2 H2 v w x y _ o2.fH (o2.vw (r1.mono g2.1) hx) (o2.vw r2 hy) hz _ fun v' H' F' k f gr rr => ?_
      cases rr
      refine ⟨_, rfl, ?_⟩
      simp only [Bool.false_eq_true, if_false]
      exact p2 _ H' _ (o2.gr gr) (o2.grow gr k f) (.bl _)
    · exact p2.elim
  · exact p2.elim
theorem de_chain {o o' : CmpOp} {r r' : R2} {op op' : D → D → Option D} {fa fb fc : Ev Opd} (ho : OpR X (compareOp o) r) (h : Op2 (Cx.g X) r op) (ho' : OpR X (compareOp o') r') (h' : Op2 (Cx.g X) r' op') (ha : DO X B W a fa) (hb : DO X B W b fb) (hc : DO X B W c fc)
    (hm : lastMarks [o, o'] [b, c] = false := by with_unfolding_all rfl) : DE X B W (.Compare a [o, o'] [b, c] pos) (o3E op op' fa fb fc) :=
  pe_imp (pe_chain ho ho' ha hb hc hm) fun _ _ _ q => op3_lift h h' q
theorem dt_chain {o o' : CmpOp} {r r' : R2} {op op' : D → D → Option D} {fa fb fc : Ev Opd} (ho : OpR X (compareOp o) r) (h : Op2 (Cx.g X) r op) (ho' : OpR X (compareOp o') r') (h' : Op2 (Cx.g X) r' op') (ha : DO X B W a fa) (hb : DO X B W b fb) (hc : DO X B W c fc)
    (hm : lastMarks [o, o'] [b, c] = false := by with_unfolding_all rfl) : DT X B W (.Compare a [o, o'] [b, c] pos) (tV (o3E op op' fa fb fc)) :=
  pt_imp (pt_chain ho ho' ha hb hc hm) fun _ _ _ q => test_lift (fun _ _ _ q => op3_lift h h' q) q
/-! ### list(reversed(x)) -/
end
end DL

namespace DL
open PySem PySem.Spec PyProof.Rows L2
/-! ### dicts with texts and numbers as keys -/
def kEq : D → D → Bool
  | .int i, .int j => i == j
  | .str s, .str t => s == t
  | _, _ => false
def isKey : D → Bool
  | .int _ => true
  | .str _ => true
  | _ => false
def lookD (es : List (D × D)) (k : D) : Option D := (es.find? fun e => kEq e.1 k).map (·.2)
def putD (es : List (D × D)) (k d : D) : List (D × D) := if (es.any fun e => kEq e.1 k) = true then es.map (fun e => if kEq e.1 k = true then (e.1, d) else e) else es ++ [(k, d)]
theorem kEq_key (a b : Key) : kEq (keyD a) (keyD b) = decide (a = b) := by
  cases a with
  | inl i => cases b with
    | inl j => by_cases h : i = j <;> simp [keyD, kEq, h]
    | inr y => simp [keyD, kEq]
  | inr x => cases b with
    | inl j => simp [keyD, kEq]
    | inr y =>
      obtain ⟨x⟩ := x; obtain ⟨y⟩ := y
      have : (x.toList = y.toList) ↔ (Sum.inr ⟨x⟩ : Key) = Sum.inr ⟨y⟩ := by
        constructor
        · intro h
          have : x = y := by cases x; cases y; exact congrArg Array.mk h
          rw [this]
        · intro h
          injection h with h; injection h with h; rw [h]
      simp only [keyD, kEq]
      by_cases h : x.toList = y.toList
      · rw [decide_eq_true (this.mp h)]; simpa using h
      · rw [decide_eq_false (fun z => h (this.mpr z))]; simpa using h
theorem RpK.look {G : Gx} {F : Fz} (k : Key) : ∀ {kvs : List (Key × V)} {es : List (D × D)}, RpK G F kvs es → (∃ v d, valV kvs k = some v ∧ lookD es (keyD k) = some d ∧ Rp G F v d) ∨ (valV kvs k = none ∧ lookD es (keyD k) = none)
  | _, _, .nil => .inr ⟨rfl, rfl⟩
  | _, _, .cons (k := j) (v := v) (d := d) o h t => by
    by_cases e : j = k
    · have e2 : kEq (keyD j) (keyD k) = true := by rw [kEq_key]; simpa using e
      exact .inl ⟨v, d, valV_pos e, by simp [lookD, List.find?_cons, e2], h⟩
    · have e2 : kEq (keyD j) (keyD k) = false := by rw [kEq_key]; simpa using e
      rcases RpK.look k t with ⟨v', d', a, b, c⟩ | ⟨a, b⟩
      · exact .inl ⟨v', d', by rw [valV_neg e]; exact a, by simpa [lookD, List.find?_cons, e2] using b, c⟩
      · exact .inr ⟨by rw [valV_neg e]; exact a, by simpa [lookD, List.find?_cons, e2] using b⟩
theorem RpK.any {G : Gx} {F : Fz} (k : Key) : ∀ {kvs : List (Key × V)} {es : List (D × D)}, RpK G F kvs es → (kvs.any fun kv => decide (kv.1 = k)) = es.any fun e => kEq e.1 (keyD k)
  | _, _, .nil => rfl
  | _, _, .cons o h t => by rw [List.any_cons, List.any_cons, RpK.any k t, kEq_key]
theorem RpK.repl {G : Gx} {F : Fz} (k : Key) {y : V} {d : D} (r : Rp G F y d) : ∀ {kvs : List (Key × V)} {es : List (D × D)}, RpK G F kvs es → RpK G F (kvs.map fun kv => if kv.1 = k then (kv.1, y) else kv) (es.map fun e => if kEq e.1 (keyD k) = true then (e.1, d) else e)
  | _, _, .nil => .nil
  | _, _, .cons (k := j) o h t => by
    rw [List.map_cons, List.map_cons, kEq_key]
    by_cases e : j = k
    · rw [if_pos e, if_pos (by simpa using e)]; exact .cons o r (RpK.repl k r t)
    · rw [if_neg e, if_neg (by simpa using e)]; exact .cons o h (RpK.repl k r t)
theorem RpK.snoc {G : Gx} {F : Fz} {k : Key} (hk : okK k = true) {y : V} {d : D} (r : Rp G F y d) : ∀ {kvs : List (Key × V)} {es : List (D × D)}, RpK G F kvs es → RpK G F (kvs ++ [(k, y)]) (es ++ [(keyD k, d)])
  | _, _, .nil => .cons hk r .nil
  | _, _, .cons o h t => .cons o h (RpK.snoc hk r t)
theorem RpK.put {G : Gx} {F : Fz} {k : Key} (hk : okK k = true) {y : V} {d : D} (r : Rp G F y d) {kvs : List (Key × V)} {es : List (D × D)} (t : RpK G F kvs es) : RpK G F (putK kvs k y) (putD es (keyD k) d) := by
  unfold putK putD
  rw [t.any k]
  split
  · exact t.repl k r
  · exact t.snoc hk r
theorem RpK.length {G : Gx} {F : Fz} : ∀ {kvs : List (Key × V)} {es : List (D × D)}, RpK G F kvs es → kvs.length = es.length
  | _, _, .nil => rfl
  | _, _, .cons _ _ t => by rw [List.length_cons, List.length_cons, t.length]
theorem rp_key {G : Gx} {F : Fz} {v : V} {d : D} (h : Rp G F v d) (e : isKey d = true) : ∃ k : Key, v = kV k ∧ keyD k = d ∧ okK k = true := by
  cases h with
  | int i => exact ⟨.inl i, rfl, rfl, rfl⟩
  | str s h => exact ⟨.inr (tx s), rfl, rfl, h⟩
  | _ => cases e
theorem vw_key {G : Gx} {F : Fz} {H : Hp} {v : V} {d : D} (h : Vw G F H v d) (e : isKey d = true) : ∃ k : Key, v = kV k ∧ keyD k = d ∧ okK k = true := by
  rcases h with h | ⟨p, u, w, rfl, hp, r, rfl⟩ | ⟨_, _, _, e1x, _, e3⟩
  · exact rp_key h e
  · cases r <;> cases e
  · first | (cases e3; done) | (subst e1x e3; rfl) | (subst e3; cases e; done) | (subst e3; simp_all; done) | (subst e3; contradiction)
theorem vw_dic {G : Gx} {F : Fz} {H : Hp} (f : Same F.f H) {v : V} {es : List (D × D)} (h : Vw G F H v (.dic es)) : ∃ a kvs, v = .ref a ∧ H a = some (.dK kvs) ∧ RpK G F kvs es := by
  rcases h with h | ⟨p, u, w, rfl, hp, r, e⟩ | ⟨_, _, _, e1x, _, e3⟩
  · cases h with
    | dicK h r => exact ⟨_, _, rfl, f _ _ h, r⟩
  · cases r with
    | l _ => cases e
    | kK r => cases e; exact ⟨p, _, rfl, hp, r⟩
  · first | (cases e3; done) | (subst e1x e3; rfl) | (subst e3; cases e; done) | (subst e3; simp_all; done) | (subst e3; contradiction)
/-- d[k] -/
def dGetK : D → D → Option D
  | .dic es, k => if isKey k = true then lookD es k else none
  | _, _ => none
def rIxDK : R2 := fun x y H Q => ∃ a v, x = .ref a ∧ DGet H a y (some v) ∧ Q v H
theorem ix_dK {X : Cx} (hu : X.A.units + 1 < cLine) : IxR X rIxDK := by
  intro value slice pins s σ H x y v u Q I rx ry h hs
  obtain ⟨a, r, rfl, g, q⟩ := h
  obtain rfl : v = Value.ref a := rx
  exact tail_any (dict_typeIs I g) PySem.F.slot_dict_getitem.lookup (d_getItem hu I g ry fun w' s3 I3 rw' => ⟨r, H, I3, rw', q⟩) hs
theorem op_dGetK {G : Gx} : Op2 G rIxDK dGetK := fun F H v w x y d f hv hw e => by
  unfold dGetK at e
  split at e
  · rename_i es k
    split at e
    · rename_i hk
      obtain ⟨a, kvs, rfl, ha, r⟩ := vw_dic f hv
      obtain ⟨k', rfl, rfl, ok⟩ := vw_key hw hk
      intro Q q
      rcases r.look k' with ⟨v', d', a1, a2, a3⟩ | ⟨a1, a2⟩
      · rw [a2] at e; cases e
        exact ⟨a, v', rfl, .inl ⟨kvs, k', .inl ha, rfl, a1.symm⟩, q v' H F (Same.refl H) f .refl a3⟩
      · rw [a2] at e; cases e
    · cases e
  · cases e
/-- k in d -/
def dInK : D → D → Option D
  | k, .dic es => if isKey k = true then some (.bl (lookD es k).isSome) else none
  | _, _ => none
def dNotInK : D → D → Option D
  | k, .dic es => if isKey k = true then some (.bl (!(lookD es k).isSome)) else none
  | _, _ => none
def rInDK : R2 := fun x y H Q => ∃ a o, y = .ref a ∧ DGet H a x o ∧ Q (.bl o.isSome) H
def rNotInDK : R2 := fun x y H Q => ∃ a o, y = .ref a ∧ DGet H a x o ∧ Q (.bl (!o.isSome)) H
theorem opR_inK {X : Cx} (hu : X.A.units + 1 < cLine) : OpR X (compareOp .In) rInDK := by
  intro pins s σ H x y v u Q I rx ry h
  obtain ⟨a, r, rfl, g, q⟩ := h
  obtain rfl : u = Value.ref a := ry
  exact d_in hu I g rx fun s3 I3 => ⟨.bl r.isSome, H, I3, rfl, q⟩
theorem opR_notInK {X : Cx} (hu : X.A.units + 1 < cLine) : OpR X (compareOp .NotIn) rNotInDK := by
  intro pins s σ H x y v u Q I rx ry h
  obtain ⟨a, r, rfl, g, q⟩ := h
  obtain rfl : u = Value.ref a := ry
  exact d_notIn hu I g rx fun s3 I3 => ⟨.bl (!r.isSome), H, I3, rfl, q⟩
theorem op_dInK {G : Gx} : Op2 G rInDK dInK := fun F H v w x y d f hv hw e => by
  unfold dInK at e
  split at e
  · rename_i k es
    split at e
    · rename_i hk
      cases e
      obtain ⟨a, kvs, rfl, ha, r⟩ := vw_dic f hw
      obtain ⟨k', rfl, rfl, ok⟩ := vw_key hv hk
      intro Q q
      refine ⟨a, valV kvs k', rfl, .inl ⟨kvs, k', .inl ha, rfl, rfl⟩, q _ H F (Same.refl H) f .refl ?_⟩
      rcases r.look k' with ⟨v', d', a1, a2, a3⟩ | ⟨a1, a2⟩
      · rw [a1, a2]; exact .bl _
      · rw [a1, a2]; exact .bl _
    · cases e
  · cases e
theorem op_dNotInK {G : Gx} : Op2 G rNotInDK dNotInK := fun F H v w x y d f hv hw e => by
  unfold dNotInK at e
  split at e
  · rename_i k es
    split at e
    · rename_i hk
      cases e
      obtain ⟨a, kvs, rfl, ha, r⟩ := vw_dic f hw
      obtain ⟨k', rfl, rfl, ok⟩ := vw_key hv hk
      intro Q q
      refine ⟨a, valV kvs k', rfl, .inl ⟨kvs, k', .inl ha, rfl, rfl⟩, q _ H F (Same.refl H) f .refl ?_⟩
      rcases r.look k' with ⟨v', d', a1, a2, a3⟩ | ⟨a1, a2⟩
      · rw [a1, a2]; exact .bl _
      · rw [a1, a2]; exact .bl _
    · cases e
  · cases e
/-- {} -/
def kF0 : Ev Ow := fun S st => .ok (.k []) S st
section
variable {X : Cx} {B : Hp} {W : WX} {pos : Pos}
theorem df_k0 : DF X B W (.Dict [] [] pos) kF0 :=
  pe_imp pe_dnewK fun σ H Q ⟨F, S, st, o, q⟩ => fun p hp => (show PostF (Cx.g X) B W σ F Q (.ok (.k []) S st) from q).new o hp (.kK .nil)
/-- d[k] = v, d in a slot of its own -/
def sPut (i : Nat) (fv fk : Ev D) : EvS := fun S st => (fv S st).out fun d S st => match S[i]? with
  | some (.own (.k _)) => (fk S st).out fun k S st => match S[i]? with
    | some (.own (.k es)) => if isKey k = true ∧ es.length < 16777216 then .nx (S.set i (.own (.k (putD es k d)))) st else .stuck
    | _ => .stuck
  | _ => .stuck
theorem ds_put {i : Nat} {a b e : Expr} {fv fk : Ev D} {tpos : Pos} (hu : X.A.units + 1 < cLine) (ho : PE X a (tVar i)) (hj : DE X B W b fk) (hv : DE X B W e fv) (hs : swapsWith e (some (.Subscript a b tpos)) pos.line X.env = pure false := by rfl) :
    DS X B W (.Assign [.Subscript a b tpos] e pos) (sPut i fv fk) :=
  ps_imp (ps_dput hu ho hj hv hs) fun D σ H ⟨F, S, st, o, q⟩ => ⟨F, S, st, o, (Post.out (R := RD (Cx.g X) σ) q).mono fun v H1 ⟨F1, d, S1, st1, g1, o1, r1, p1⟩ => by
    split at p1
    · rename_i es0 hS0
      obtain ⟨p, u, e1, h1, h2, h3, r, _⟩ := o1.sl i _ hS0
      refine ⟨_, e1, F1, S1, st1, o1, (Post.out (R := RD (Cx.g X) σ) p1).mono fun kv H2 ⟨F2, k, S2, st2, g2, o2, r2, p2⟩ => ?_⟩
      split at p2
      · rename_i es hS2
        split at p2
        · rename_i hk
          obtain ⟨hk, hl⟩ := hk
          obtain ⟨p', u', e1', h1', h2', h3', r', _⟩ := o2.sl i _ hS2
          rw [e1] at e1'; cases e1'
          cases r' with
          | kK r' =>
            obtain ⟨k', rfl, rfl, ok⟩ := rp_key r2 hk
            refine ⟨p, _, rfl, .inl ⟨_, k', h1', rfl, by rw [r'.length, sizeLine_eq]; exact hl, rfl⟩, p2 σ _ F2 .refl (o2.chg hS2 e1 (.kK (r'.put ok (r1.mono g2.1))))⟩
        · exact p2.elim
      · exact p2.elim
    · exact p1.elim⟩
/-! ### {k: v, ..}, the keys texts -/
def mergeD (es more : List (D × D)) : List (D × D) := more.foldl (fun acc e => putD acc e.1 e.2) es
theorem RpK.merge {G : Gx} {F : Fz} : ∀ {more : List (Key × V)} {ms : List (D × D)} {kvs : List (Key × V)} {es : List (D × D)}, RpK G F more ms → RpK G F kvs es → RpK G F (mergeK kvs more) (mergeD es ms)
  | _, _, _, _, .nil, h => h
  | _, _, _, _, .cons (k := k) (v := v) (vs := vs) (d := d) (ds := ds) o r t, h => show RpK G F (mergeK (putK _ k v) vs) (mergeD (putD _ (keyD k) d) ds) from RpK.merge t (h.put o r)
/-- the values of a display; they let nothing out -/
structure DKs (X : Cx) (pos : Pos) (keys : List (Option Expr)) (values : List Expr) (ks : List (List Nat)) (fa : Ev (List Opd)) : Prop where
  ex : ∃ trs, PPs X pos keys values trs ∧ keys.length = ks.length ∧ values.length = ks.length ∧ keys.all (·.isSome) = true ∧
    ∀ (B : Hp) (σ : L2.St) (H : Hp) (Q : List (V × V) → Hp → Prop), lift (Cx.g X) B W0 (RpO (Cx.g X)) fa σ H (fun vs H' => vs.length = ks.length → Q ((ks.map fun s => V.str (tx s)).zip vs) H') → tPairs trs σ H Q
theorem dks_n : DKs X pos [] [] [] aN := ⟨[], pps_nil, rfl, rfl, rfl, fun B σ H Q ⟨F, S, st, o, q⟩ => by
  exact q [] H F .refl o .nil rfl⟩
theorem dks_c {keys : List (Option Expr)} {v : Expr} {values : List Expr} {ks : List (List Nat)} {fa : Ev (List Opd)} {f : Ev Opd} (s : List Nat) {j} {kp : Pos} (hv : ∀ B, DO X B W0 v f) (h : DKs X pos keys values ks fa) :
    DKs X pos (some (.Constant (.str (tx s)) j kp) :: keys) (v :: values) (s :: ks) (aC f fa) := by
  obtain ⟨trs, h1, h2, h3, h4, h5⟩ := h.ex
  refine ⟨(tC (.str (tx s)), fun σ H Q => ∃ B, lift (Cx.g X) B W0 (RO (Cx.g X)) f σ H Q) :: trs, pps_cons pe_str ⟨fun pins s σ H Q I ⟨B, q⟩ => (hv B).run pins s σ H Q I q⟩ h1, by simp [h2], by simp [h3], by simpa using h4, fun B σ H Q ⟨F, S, st, o, q⟩ => ?_⟩
  refine ⟨B, F, S, st, o, (Post.bind (R := RO (Cx.g X) σ) q).mono fun y H1 ⟨F1, d, S1, st1, g1, o1, r1, p1⟩ => ?_⟩
  refine h5 B σ H1 _ ⟨F1, S1, st1, o1, (Post.bind (R := RpO (Cx.g X) σ) p1).mono fun vs H2 ⟨F2, ds, S2, st2, g2, o2, r2, p2⟩ hl => ?_⟩
  exact p2 (y :: vs) H2 F2 .refl o2 (.cons (r1.mono g2.1) r2) (by simp [hl])
def kF (ks : List (List Nat)) (fa : Ev (List Opd)) : Ev Ow := fun S st => (fa S st).calm.bind fun a S st => match vds S a with
  | some ds => if ds.length = ks.length then .ok (.k (mergeD [] ((ks.map D.str).zip ds))) S st else .stuck
  | none => .stuck
theorem zip_keys : ∀ (ks : List (List Nat)) (vs : List V), (ks.map fun s => V.str (tx s)).zip vs = ((ks.map fun s => (Sum.inr (tx s) : Key)).zip vs).map fun kv => (kV kv.1, kv.2)
  | [], _ => rfl
  | _ :: _, [] => rfl
  | s :: r, v :: vs => by
    rw [List.map_cons, List.map_cons, List.zip_cons_cons, List.zip_cons_cons, List.map_cons, zip_keys r vs]; rfl
theorem zip_rpK {G : Gx} {F : Fz} : ∀ {ks : List (List Nat)} {vs : List V} {ds : List D}, ks.all okS = true → RpAll G F vs ds → RpK G F ((ks.map fun s => (Sum.inr (tx s) : Key)).zip vs) ((ks.map D.str).zip ds)
  | [], _, _, _, _ => .nil
  | _ :: _, _, _, _, .nil => .nil
  | s :: r, _, _, h, .cons a t => by
    rw [List.all_cons, Bool.and_eq_true] at h
    rw [List.map_cons, List.map_cons, List.zip_cons_cons, List.zip_cons_cons]
    exact RpK.cons (k := .inr (tx s)) h.1 a (zip_rpK h.2 t)
theorem df_disp {keys : List (Option Expr)} {values : List Expr} {ks : List (List Nat)} {fa : Ev (List Opd)} (h : DKs X pos keys values ks fa) (hok : ks.all okS = true := by decide) (h0 : keys ≠ [] := by simp) (h15 : ks.length ≤ 15 := by decide) : DF X B W (.Dict keys values pos) (kF ks fa) := by
  obtain ⟨trs, h1, h2, h3, h4, h5⟩ := h.ex
  refine pe_imp (pe_disp h1 h4 (h2.trans h3.symm) h0 (by rw [h2]; exact h15)) fun σ H Q ⟨F, S, st, o, q⟩ p hp => ?_
  have hF : F p = none := o.fH.free hp
  have hB : B p = none := o.kp.free hp
  have no : ∀ (j : Nat) (es : Ow), S[j]? = some (.own es) → σ[j]? ≠ some (some (.ref p)) := fun j es e1 e2 => by
    obtain ⟨p', xs', e3, h1, _⟩ := o.sl j _ e1
    rw [e2] at e3; cases e3
    rw [hp] at h1; cases h1
  refine h5 (upd B p (.dK [])) σ _ _ ⟨F, S, st, (o.junk (same_new hp)).pin upd_same hF (o.so.new hp) no, ?_⟩
  unfold kF at q
  revert q
  generalize fa S st = r
  intro q
  cases r with
  | exc x S1 st1 => exact q.elim
  | stuck => exact q.elim
  | ok a S1 st1 =>
    intro vs H1 F1 g1 o1 r1 hl
    have q : PostF (Cx.g X) B W σ F Q (match vds S1 a with
      | some ds => if ds.length = ks.length then .ok (.k (mergeD [] ((ks.map D.str).zip ds))) S1 st1 else .stuck
      | none => .stuck) := q
    split at q
    · rename_i ds hds
      split at q
      · have rr := o1.vds r1 hds
        obtain ⟨g1', f1⟩ := g1.unpin hB hF
        obtain ⟨o1', no1, hm1⟩ := o1.unpin (u' := .dK (mergeK [] ((ks.map fun s => (Sum.inr (tx s) : Key)).zip vs))) hB f1 (fun x z => by cases z)
        exact ⟨o1.kp p _ upd_same, (ks.map fun s => (Sum.inr (tx s) : Key)).zip vs, zip_keys ks vs, by rw [List.length_zip, List.length_map]; omega, q p _ _ F1 g1' o1' upd_same f1 hB (.kK ((zip_rpK hok rr).merge .nil)) hm1 no1⟩
      · exact q.elim
    · exact q.elim
end
@[simp] theorem kEq_s (s t : List Nat) : kEq (.str s) (.str t) = (s == t) := rfl
@[simp] theorem kEq_i (s t : Int) : kEq (.int s) (.int t) = (s == t) := rfl
@[simp] theorem kEq_si (s : List Nat) (t : Int) : kEq (.str s) (.int t) = false := rfl
@[simp] theorem kEq_is (s : Int) (t : List Nat) : kEq (.int s) (.str t) = false := rfl
@[simp] theorem isKey_s (s : List Nat) : isKey (.str s) = true := rfl
@[simp] theorem isKey_i (s : Int) : isKey (.int s) = true := rfl
@[simp] theorem lookD_n (k : D) : lookD [] k = none := rfl
@[simp] theorem lookD_c (k' d : D) (r : List (D × D)) (k : D) : lookD ((k', d) :: r) k = if kEq k' k = true then some d else lookD r k := by
  unfold lookD
  rw [List.find?_cons]
  cases h : kEq k' k <;> simp [h]
@[simp] theorem putD_n (k d : D) : putD [] k d = [(k, d)] := rfl
@[simp] theorem mergeD_n (es : List (D × D)) : mergeD es [] = es := rfl
@[simp] theorem mergeD_c (es : List (D × D)) (k d : D) (r : List (D × D)) : mergeD es ((k, d) :: r) = mergeD (putD es k d) r := rfl
@[simp] theorem dGetK_a (es : List (D × D)) (k : D) : dGetK (.dic es) k = if isKey k = true then lookD es k else none := rfl
@[simp] theorem dInK_a (es : List (D × D)) (k : D) : dInK k (.dic es) = if isKey k = true then some (.bl (lookD es k).isSome) else none := rfl
@[simp] theorem dNotInK_a (es : List (D × D)) (k : D) : dNotInK k (.dic es) = if isKey k = true then some (.bl (!(lookD es k).isSome)) else none := rfl
@[simp] theorem Ow_k_d (es : List (D × D)) : (Ow.k es).d = .dic es := rfl
/-! ### list.index of a text -/
def idxS (s : List Nat) : List (List Nat) → Nat
  | [] => 0
  | x :: r => if x = s then 0 else idxS s r + 1
theorem idxS_at {s : List Nat} : ∀ {ss : List (List Nat)}, s ∈ ss → ss[idxS s ss]? = some s ∧ ∀ (m : Nat) (z : List Nat), m < idxS s ss → ss[m]? = some z → z ≠ s
  | x :: r, h => by
    unfold idxS
    by_cases e : x = s
    · rw [if_pos e]; exact ⟨by rw [e]; rfl, fun m z hm => by omega⟩
    · rw [if_neg e]
      have hr : s ∈ r := (List.mem_cons.mp h).resolve_left fun z => e z.symm
      obtain ⟨a, b⟩ := idxS_at hr
      refine ⟨by simpa using a, fun m z hm hz => ?_⟩
      cases m with
      | zero => cases hz; exact e
      | succ m => exact b m z (by omega) (by simpa using hz)
def dIndex : D → List D → Option D
  | .lst ds, [.str s] => match strsD ds with
    | some ss => if s ∈ ss then some (.int (idxS s ss : Nat)) else none
    | none => none
  | _, _ => none
theorem op_dIndex {G : Gx} : OpM G (fun x xs H Q => rIndex G.K x xs H Q) dIndex := fun F H v vs x xs d f hv hvs e => by
  unfold dIndex at e
  split at e
  · rename_i ds s
    split at e
    · rename_i ss hss
      split at e
      · rename_i hm
        cases e
        obtain ⟨p, ys, rfl, h1, h2⟩ : ∃ p ys, v = .ref p ∧ SqL G.K H p ys ∧ RpAll G F ys ds := by
          rcases hv with hv | ⟨p, u, w, rfl, hp, r, e⟩ | ⟨_, _, _, _, _, e⟩
          · cases hv with
            | lst h r => exact ⟨_, _, rfl, .inl (.inl (f _ _ h)), r⟩
          · cases r with
            | l r => cases e; exact ⟨_, _, rfl, .inl (.inl hp), r⟩
            | kK _ => cases e
          · cases e
        cases strs_eq hss
        cases rp_strs_inv h2
        cases hvs with
        | cons hw t =>
          cases t
          obtain ⟨rfl, o⟩ := hw.str_eq
          obtain ⟨a, b⟩ := idxS_at hm
          refine gives_v (.int _) f fun Q q => ⟨p, _, _, idxS s ss, .str (tx s), rfl, rfl, h1, rfl, by simp [flatV], ?_, by simp [eqV], fun m z' hlt hz => ?_, q⟩
          · simp [a]
          · simp only [List.getElem?_map] at hz
            cases q : ss[m]? with
            | none => rw [q] at hz; cases hz
            | some z =>
              rw [q] at hz; cases hz
              have := b m z hlt q
              simp only [eqV, beq_eq_false_iff_ne]
              exact fun e => this (tx_inj e)
      · cases e
    · cases e
  · cases e
@[simp] theorem dIndex_a (ss : List (List Nat)) (s : List Nat) (h : s ∈ ss) : dIndex (.lst (ss.map .str)) [.str s] = some (.int (idxS s ss : Nat)) := by
  simp [dIndex, h]
end DL

namespace DL
open PySem PySem.Spec PyProof.Rows L2
/-! ### dicts of the top, texts to texts -/
def DTab (P : Params) : List DictEntry → List (List Nat × List Nat) → Prop
  | [], [] => True
  | e :: r, q :: s => (∃ t t', e.key = .str (tx q.1) t ∧ e.hash = PyData.keyHash P (tx q.1) ∧ e.val = .str (tx q.2) t') ∧ DTab P r s
  | _, _ => False
def lookT (z : List Nat) : List (List Nat × List Nat) → Option (List Nat)
  | [] => none
  | (k, v) :: r => if k = z then some v else lookT z r
structure KTb (K : PySem.W.Frag) (w : World) (a : Addr) (tab : List (List Nat × List Nat)) : Prop where
  ex : ∃ es n, K.lookup a = some ⟨.type "dict", none, .dict es n, #[]⟩ ∧ DTab w.params es.toList tab ∧ (a == sysModules) = false
theorem DTab.lit {P : Params} : ∀ {es : List DictEntry} {tab : List (List Nat × List Nat)}, DTab P es tab → PySem.W.KeysLit P es
  | [], [], _ => trivial
  | e :: r, q :: s, ⟨⟨t, t', h1, h2, h3⟩, h⟩ => ⟨⟨_, t, h1, h2⟩, DTab.lit h⟩
theorem tx_beq (a b : List Nat) : (tx a == tx b) = decide (a = b) := by
  by_cases h : a = b
  · subst h; simp
  · rw [decide_eq_false h]
    exact beq_eq_false_iff_ne.mpr fun e => h (by unfold tx at e; injection e with e; simpa using e)
theorem DTab.find {P : Params} (z : List Nat) : ∀ {es : List DictEntry} {tab : List (List Nat × List Nat)}, DTab P es tab →
    (match lookT z tab with
      | some v => ∃ e t, es.find? (·.key.isStr (tx z)) = some e ∧ e.val = .str (tx v) t
      | none => es.find? (·.key.isStr (tx z)) = none ∧ es.any (·.refKey) = false)
  | [], [], _ => ⟨rfl, rfl⟩
  | e :: r, (k, v) :: s, ⟨⟨t, t', h1, h2, h3⟩, h⟩ => by
    have ih := DTab.find z h
    have hk : e.key.isStr (tx z) = decide (k = z) := by
      rw [h1]; show (tx k == tx z) = _; exact tx_beq k z
    unfold lookT
    by_cases hz : k = z
    · rw [if_pos hz]
      refine ⟨e, t', ?_, h3⟩
      rw [List.find?_cons, hk, decide_eq_true hz]
    · rw [if_neg hz]
      have hr : e.refKey = false := by unfold DictEntry.refKey; rw [h1]
      rw [decide_eq_false hz] at hk
      cases hl : lookT z s with
      | none =>
        rw [hl] at ih
        refine ⟨by rw [List.find?_cons, hk]; exact ih.1, by rw [List.any_cons, hr, ih.2]; rfl⟩
      | some v' =>
        rw [hl] at ih
        obtain ⟨e', t2, h5, h6⟩ := ih
        exact ⟨e', t2, by rw [List.find?_cons, hk]; exact h5, h6⟩
theorem KTb.ns {K : PySem.W.Frag} {w : World} {a : Addr} {tab : List (List Nat × List Nat)} (T : KTb K w a tab) (z : List Nat) :
    match lookT z tab with
    | some v => ∃ t, PySem.W.nsIn K a (tx z) = some (some (.str (tx v) t))
    | none => PySem.W.nsIn K a (tx z) = some none := by
  obtain ⟨es, n, hl, hd, _⟩ := T.ex
  have h := hd.find z
  unfold PySem.W.nsIn
  rw [hl]
  cases hq : lookT z tab with
  | none =>
    rw [hq] at h
    show (match es.toList.find? (·.key.isStr (tx z)) with
      | some e => some (some e.val)
      | none => if es.toList.any (·.refKey) then none else some none) = some none
    rw [h.1, h.2]; rfl
  | some v =>
    rw [hq] at h
    obtain ⟨e, t, h1, h2⟩ := h
    refine ⟨t, ?_⟩
    show (match es.toList.find? (·.key.isStr (tx z)) with
      | some e => some (some e.val)
      | none => if es.toList.any (·.refKey) then none else some none) = _
    rw [h1, ← h2]
theorem KTb.kd {K : PySem.W.Frag} {w : World} {a : Addr} {tab : List (List Nat × List Nat)} (T : KTb K w a tab) : ∃ es n, KDict K w a es n := by
  obtain ⟨es, n, hl, hd, hs⟩ := T.ex
  exact ⟨es, n, ⟨hl, hd.lit, hs⟩⟩
def dHasT (tab : List (List Nat × List Nat)) : D → Option D
  | .str z => some (.bl (lookT z tab).isSome)
  | _ => none
def dHasNT (tab : List (List Nat × List Nat)) : D → Option D
  | .str z => some (.bl (!(lookT z tab).isSome))
  | _ => none
def dGetT (tab : List (List Nat × List Nat)) : D → Option D
  | .str z => match lookT z tab with
    | some v => if okS v = true then some (.str v) else none
    | none => none
  | _ => none
theorem KTb.some {K : PySem.W.Frag} {w : World} {a : Addr} {tab : List (List Nat × List Nat)} (T : KTb K w a tab) (z : List Nat) : ∃ r : Option Value, PySem.W.nsIn K a (tx z) = some r ∧ r.isSome = (lookT z tab).isSome := by
  have h := T.ns z
  cases hq : lookT z tab with
  | none => rw [hq] at h; exact ⟨none, h, rfl⟩
  | some v => rw [hq] at h; obtain ⟨t, h⟩ := h; exact ⟨_, h, rfl⟩
section
variable {X : Cx} {B : Hp} {W : WX} {e : Expr} {x : Str} {p pos : Pos} {a : Addr} {tab : List (List Nat × List Nat)} {fa : Ev Opd}
theorem inT_lift (T : KTb X.K X.w a tab) (σ : L2.St) (H : Hp) (Q : VK) (q : lift (Cx.g X) B W (RD (Cx.g X)) (o1E (dHasT tab) fa) σ H Q) :
    tOp (fun x y H Q => ∃ (z : Str) (r : Option Value), x = .str z ∧ y = .ref a ∧ PySem.W.nsIn X.K a z = some r ∧ Q (.bl r.isSome) H) (lift (Cx.g X) B W (RO (Cx.g X)) fa) (tC (.ref a)) σ H Q := by
  obtain ⟨F, S, st, o, q⟩ := q
  refine ⟨F, S, st, o, (Post.bind (R := RO (Cx.g X) σ) q).mono fun v H1 ⟨F1, d, S1, st1, g1, o1, r1, p1⟩ => ?_⟩
  split at p1
  · rename_i y hy
    obtain ⟨b, hb, p1⟩ := got_ok p1
    have hv := o1.vw r1 hy
    unfold dHasT at hb
    split at hb
    · rename_i z
      cases hb
      obtain ⟨rfl, _⟩ := hv.str_eq
      obtain ⟨r, h1, h2⟩ := T.some z
      exact ⟨tx z, r, rfl, rfl, h1, by rw [h2]; exact p1 _ H1 F1 .refl o1 (.bl _)⟩
    · cases hb
  · exact p1.elim
theorem notInT_lift (T : KTb X.K X.w a tab) (σ : L2.St) (H : Hp) (Q : VK) (q : lift (Cx.g X) B W (RD (Cx.g X)) (o1E (dHasNT tab) fa) σ H Q) :
    tOp (fun x y H Q => ∃ (z : Str) (r : Option Value), x = .str z ∧ y = .ref a ∧ PySem.W.nsIn X.K a z = some r ∧ Q (.bl (!r.isSome)) H) (lift (Cx.g X) B W (RO (Cx.g X)) fa) (tC (.ref a)) σ H Q := by
  obtain ⟨F, S, st, o, q⟩ := q
  refine ⟨F, S, st, o, (Post.bind (R := RO (Cx.g X) σ) q).mono fun v H1 ⟨F1, d, S1, st1, g1, o1, r1, p1⟩ => ?_⟩
  split at p1
  · rename_i y hy
    obtain ⟨b, hb, p1⟩ := got_ok p1
    have hv := o1.vw r1 hy
    unfold dHasNT at hb
    split at hb
    · rename_i z
      cases hb
      obtain ⟨rfl, _⟩ := hv.str_eq
      obtain ⟨r, h1, h2⟩ := T.some z
      exact ⟨tx z, r, rfl, rfl, h1, by rw [h2]; exact p1 _ H1 F1 .refl o1 (.bl _)⟩
    · cases hb
  · exact p1.elim
theorem de_inT (hm : X.mg x = some (.ref a)) (T : KTb X.K X.w a tab) (ha : DO X B W e fa) (hg : Gl X x := by rfl) (hd : (x == ("__debug__" : Str)) = false := by decide) (hb : behindInMarks .In (.Name x p) = false := by with_unfolding_all rfl) :
    DE X B W (.Compare e [.In] [.Name x p] pos) (o1E (dHasT tab) fa) := by
  obtain ⟨es, n, D⟩ := T.kd
  exact pe_imp (pe_cmpR (op_in_kd D) ha (pe_glob (v := .ref a) hg hm rfl hd) hb) fun σ H Q q => inT_lift T σ H Q q
theorem dt_inT (hm : X.mg x = some (.ref a)) (T : KTb X.K X.w a tab) (ha : DO X B W e fa) (hg : Gl X x := by rfl) (hd : (x == ("__debug__" : Str)) = false := by decide) (hb : behindInMarks .In (.Name x p) = false := by with_unfolding_all rfl) :
    DT X B W (.Compare e [.In] [.Name x p] pos) (tV (o1E (dHasT tab) fa)) := by
  obtain ⟨es, n, D⟩ := T.kd
  exact pt_imp (pt_cmpR (op_in_kd D) ha (pe_glob (v := .ref a) hg hm rfl hd) hb) fun _ _ _ q => test_lift (fun σ H Q q => inT_lift T σ H Q q) q
theorem de_notInT (hm : X.mg x = some (.ref a)) (T : KTb X.K X.w a tab) (ha : DO X B W e fa) (hg : Gl X x := by rfl) (hd : (x == ("__debug__" : Str)) = false := by decide) (hb : behindInMarks .NotIn (.Name x p) = false := by with_unfolding_all rfl) :
    DE X B W (.Compare e [.NotIn] [.Name x p] pos) (o1E (dHasNT tab) fa) := by
  obtain ⟨es, n, D⟩ := T.kd
  exact pe_imp (pe_cmpR (op_notIn_kd D) ha (pe_glob (v := .ref a) hg hm rfl hd) hb) fun σ H Q q => notInT_lift T σ H Q q
theorem dt_notInT (hm : X.mg x = some (.ref a)) (T : KTb X.K X.w a tab) (ha : DO X B W e fa) (hg : Gl X x := by rfl) (hd : (x == ("__debug__" : Str)) = false := by decide) (hb : behindInMarks .NotIn (.Name x p) = false := by with_unfolding_all rfl) :
    DT X B W (.Compare e [.NotIn] [.Name x p] pos) (tV (o1E (dHasNT tab) fa)) := by
  obtain ⟨es, n, D⟩ := T.kd
  exact pt_imp (pt_cmpR (op_notIn_kd D) ha (pe_glob (v := .ref a) hg hm rfl hd) hb) fun _ _ _ q => test_lift (fun σ H Q q => notInT_lift T σ H Q q) q
theorem de_ixT (hm : X.mg x = some (.ref a)) (T : KTb X.K X.w a tab) (ha : DO X B W e fa) (hs : PlainIx e := by exact fun _ _ => rfl) (hg : Gl X x := by rfl) (hd : (x == ("__debug__" : Str)) = false := by decide) :
    DE X B W (.Subscript (.Name x p) e pos) (o1E (dGetT tab) fa) := by
  obtain ⟨es, n, hl, hdt, hlow⟩ := T.ex
  refine pe_imp (pe_ix (ix_kdict (X := X)) (pe_glob (v := .ref a) hg hm rfl hd) ha hs) fun σ H Q q => ?_
  obtain ⟨F, S, st, o, q⟩ := q
  refine ⟨F, S, st, o, (Post.bind (R := RO (Cx.g X) σ) q).mono fun v H1 ⟨F1, d, S1, st1, g1, o1, r1, p1⟩ => ?_⟩
  split at p1
  · rename_i y hy
    obtain ⟨b, hb, p1⟩ := got_ok p1
    have hv := o1.vw r1 hy
    unfold dGetT at hb
    split at hb
    · rename_i z
      split at hb
      · rename_i v' hv'
        split at hb
        · rename_i ok
          cases hb
          obtain ⟨rfl, _⟩ := hv.str_eq
          have hn := T.ns z
          rw [hv'] at hn
          obtain ⟨t, hn⟩ := hn
          exact ⟨a, tx z, .str (tx v'), rfl, rfl, ⟨es, n, _, hl, hdt.lit, hn, ⟨t, rfl⟩⟩, p1 _ H1 F1 .refl o1 (.str _ ok)⟩
        · cases hb
      · cases hb
    · cases hb
  · exact p1.elim
end
end DL

namespace DL
open PySem PySem.Spec PyProof.Rows L2
/-! ### a new list of flat data, made while a slot's own list is looked at -/
def noOwn : Sl → Bool
  | .own _ => false
  | _ => true
def oneOwn : Nat → Sls → Bool
  | _, [] => true
  | 0, _ :: r => r.all noOwn
  | k + 1, s :: r => noOwn s && oneOwn k r
theorem oneOwn_eq : ∀ {i : Nat} {S : Sls} {j : Nat} {w : Ow}, oneOwn i S = true → S[j]? = some (.own w) → j = i
  | i, [], j, w, _, h => by simp at h
  | 0, s :: r, 0, w, _, _ => rfl
  | 0, s :: r, j + 1, w, h, hj => by
    rw [List.getElem?_cons_succ] at hj
    have := List.all_eq_true.mp h _ (List.mem_of_getElem? hj)
    cases this
  | k + 1, s :: r, 0, w, h, hj => by
    rw [List.getElem?_cons_zero] at hj
    cases hj
    cases h
  | k + 1, s :: r, j + 1, w, h, hj => by
    rw [List.getElem?_cons_succ] at hj
    have h2 : oneOwn k r = true := by
      show oneOwn k r = true
      have : (noOwn s && oneOwn k r) = true := h
      rw [Bool.and_eq_true] at this; exact this.2
    rw [oneOwn_eq h2 hj]
theorem flat_any {G : Gx} {F F' : Fz} {v : V} {d : D} (h : Rp G F v d) (e : flatD d = true) : Rp G F' v d := by
  cases h <;> first | exact .non | exact .bl _ | exact .int _ | (exact .str _ ‹_›) | cases e
theorem flat_anys {G : Gx} {F F' : Fz} : ∀ {vs : List V} {ds : List D}, RpAll G F vs ds → ds.all flatD = true → RpAll G F' vs ds
  | _, _, .nil, _ => .nil
  | _, _, .cons h t, e => by
    rw [List.all_cons, Bool.and_eq_true] at e
    exact .cons (flat_any h e.1) (flat_anys t e.2)
open Classical in
noncomputable def borF (i : Nat) (f : Ev Ow) : Ev Ow := fun S st => match S[i]? with
  | some (.own w) => match f (S.set i (.d w.d)) st with
    | .ok (.l ys) S1 st1 => if (ys.all flatD = true ∧ S1 = S.set i (.d w.d)) ∧ oneOwn i S = true ∧ st1 = [] then .ok (.l ys) S st1 else .stuck
    | _ => .stuck
  | _ => .stuck
section
variable {X : Cx} {B : Hp} {W : WX} {e : Expr}
theorem df_bor {i : Nat} {f : Ev Ow} (h : DF X B W e f) : DF X B W e (borF i f) := pe_imp h fun σ H Q ⟨F, S, st, o, q⟩ => by
  unfold borF at q
  split at q
  · rename_i w hw
    obtain ⟨F', p, g, o', ep, rr⟩ := o.frz hw
    have hp : ∃ u, F' p = some u := by
      cases w with
      | l ds => cases rr with | lst h _ => exact ⟨_, h⟩
      | k ds => cases rr with | dicK h _ => exact ⟨_, h⟩
    refine ⟨F', _, st, o', ?_⟩
    generalize f (S.set i (.d w.d)) st = res at q ⊢
    split at q
    · rename_i ys S1 st1
      split at q
      · rename_i hc
        obtain ⟨⟨hf, hS⟩, h1, hst⟩ := hc
        subst hS
        subst hst
        intro p2 u2 H2 F2 g2 o2 hu hF hB ro hm2 no
        obtain ⟨up, hup⟩ := hp
        have sF : SmF F F2 := g.1.trans g2.1
        have np : p2 ≠ p := fun z => by
          subst z
          rw [g2.1.1 _ _ hup] at hF; cases hF
        have hi : i < S.length := (List.getElem?_eq_some_iff.mp hw).1
        have m2 : F2.m = [] := List.eq_nil_of_length_eq_zero o2.so.ml
        have m1 : F.m = [] := by
          obtain ⟨t, ht⟩ := sF.2
          rw [m2] at ht
          exact (List.append_eq_nil_iff.mp ht).1
        refine q p2 u2 H2 F .refl ⟨?_, o2.kp, ⟨by rw [m1]; rfl, by rw [m1]; exact List.nodup_nil, fun n x a e1 e2 => by simp at e1⟩, by have := o2.len; rw [List.length_set] at this; exact this, fun j s hj => ?_, o.ap⟩ hu (sF.free hF) hB ?_ (by rw [m1]; simp) (fun j es e1 e2 => ?_)
        · exact sF.1.trans o2.fH
        · have w0 := o.sl j s hj
          cases s with
          | no => trivial
          | d x => exact w0
          | own es' =>
            have hji := oneOwn_eq h1 hj
            subst hji
            rw [hw] at hj; cases hj
            obtain ⟨p3, xs3, a1, a2, a3, a4, a5, a6⟩ := w0
            rw [ep] at a1; cases a1
            refine ⟨p, xs3, ep, ?_, a3, a4, a5, a6⟩
            have hq : F' p = some xs3 := by
              have := o'.fH _ _ hup
              rw [a2] at this; cases this; exact hup
            exact o2.fH _ _ (g2.1.1 _ _ hq)
        · cases ro with
          | l t => exact .l (flat_anys t hf)
        · have hji := oneOwn_eq h1 e1
          subst hji
          rw [ep] at e2; cases e2
          exact np rfl
      · exact q.elim
    · exact q.elim
  · exact q.elim
end
end DL



namespace DL
open PySem PySem.Spec PyProof.Rows L2
/-! ### lower, upper, index of a text -/
def dLower : D → Option D
  | .str a => if a.length ≤ 5592405 ∧ a.all (· < 128) = true then some (.str (a.map PyProof.Rows.lo1)) else none
  | _ => none
def dUpper : D → Option D
  | .str a => if a.length ≤ 5592405 ∧ a.all (· < 128) = true then some (.str (a.map PyProof.Rows.up1)) else none
  | _ => none
theorem lower_tx {a : List Nat} (h : a.all (· < 128) = true) : Txt.lower (tx a) = tx (a.map PyProof.Rows.lo1) := by
  rw [PyProof.Rows.lower_ascii (x := tx a) (fun c hc => of_decide_eq_true (List.all_eq_true.mp h c hc))]
  simp [tx]
theorem upper_tx {a : List Nat} (h : a.all (· < 128) = true) : Txt.upper (tx a) = tx (a.map PyProof.Rows.up1) := by
  rw [PyProof.Rows.upper_ascii (x := tx a) (fun c hc => of_decide_eq_true (List.all_eq_true.mp h c hc))]
  simp [tx]
theorem lo1_lt {c : Nat} (h : c < 128) : PyProof.Rows.lo1 c < 128 := by unfold PyProof.Rows.lo1; split <;> omega
theorem up1_lt {c : Nat} (h : c < 128) : PyProof.Rows.up1 c < 128 := by unfold PyProof.Rows.up1; split <;> omega
theorem okS_up {a : List Nat} (h : a.all (· < 128) = true) : okS (a.map PyProof.Rows.up1) = true := by
  unfold okS
  rw [List.all_eq_true] at h ⊢
  intro c hc
  obtain ⟨x, hx, rfl⟩ := List.mem_map.mp hc
  have := up1_lt (of_decide_eq_true (h x hx))
  exact decide_eq_true (by omega)
theorem okS_lo {a : List Nat} (h : a.all (· < 128) = true) : okS (a.map PyProof.Rows.lo1) = true := by
  unfold okS
  rw [List.all_eq_true] at h ⊢
  intro c hc
  obtain ⟨x, hx, rfl⟩ := List.mem_map.mp hc
  have := lo1_lt (of_decide_eq_true (h x hx))
  exact decide_eq_true (by omega)
theorem op_dLower {G : Gx} : Op1 G (fun x H Q => ∃ a, x = .str a ∧ ([] : List V) = [] ∧ a.length ≤ 5592405 ∧ Q (.str (Txt.lower a)) H) dLower := fun F H v x d f hv e => by
  unfold dLower at e
  split at e
  · split at e
    · rename_i h
      cases e
      obtain ⟨rfl, o⟩ := hv.str_eq
      refine gives_v (.str _ (okS_lo h.2)) f fun Q q => ⟨_, rfl, rfl, by rw [tx_len]; exact h.1, ?_⟩
      rw [lower_tx h.2]; exact q
    · cases e
  · cases e
theorem op_dUpper {G : Gx} : Op1 G (fun x H Q => ∃ a, x = .str a ∧ ([] : List V) = [] ∧ a.length ≤ 5592405 ∧ Q (.str (Txt.upper a)) H) dUpper := fun F H v x d f hv e => by
  unfold dUpper at e
  split at e
  · split at e
    · rename_i h
      cases e
      obtain ⟨rfl, o⟩ := hv.str_eq
      refine gives_v (.str _ (okS_up h.2)) f fun Q q => ⟨_, rfl, rfl, by rw [tx_len]; exact h.1, ?_⟩
      rw [upper_tx h.2]; exact q
    · cases e
  · cases e
def dSIndex : D → List D → Option D
  | .str a, [.str b] => match Builtin.Str.occurrences (tx a) (tx b) 0 (tx a).length 1 with
    | i :: _ => some (.int (i : Nat))
    | [] => none
  | _, _ => none
theorem op_dSIndex {G : Gx} : OpM G (fun x xs H Q => ∃ a b i rest, x = .str a ∧ xs = [.str b] ∧ Builtin.Str.occurrences a b 0 a.length 1 = i :: rest ∧ Q (.int (i : Nat)) H) dSIndex := fun F H v vs x xs d f hv hvs e => by
  unfold dSIndex at e
  split at e
  · rename_i a b
    split at e
    · rename_i i rest hi
      cases e
      obtain ⟨rfl, o⟩ := hv.str_eq
      cases hvs with | cons h1 t => cases t; obtain ⟨rfl, o1⟩ := h1.str_eq; exact gives_v (.int _) f fun Q q => ⟨_, _, _, _, rfl, rfl, hi, q⟩
    · cases e
  · cases e
@[simp] theorem dLower_a (a : List Nat) (h : a.length ≤ 5592405) (h2 : a.all (· < 128) = true) : dLower (.str a) = some (.str (a.map PyProof.Rows.lo1)) := if_pos ⟨h, h2⟩
@[simp] theorem dUpper_a (a : List Nat) (h : a.length ≤ 5592405) (h2 : a.all (· < 128) = true) : dUpper (.str a) = some (.str (a.map PyProof.Rows.up1)) := if_pos ⟨h, h2⟩
end DL



namespace DL
open PySem PySem.Spec PyProof.Rows L2
/-! ### objects that stay -/
theorem RpF.look {G : Gx} {F : Fz} : ∀ {fs : List (Str × V)} {es : List (Nat × D)} {k : Nat} {d : D}, RpF G F fs es → okN k → es.lookup k = some d → ∃ v, fs.lookup (nmS k) = some v ∧ Rp G F v d
  | _, _, _, _, .nil, _, e => by cases e
  | _, _, k, d, .cons (k := k') o h t, ok, e => by
    rw [List.lookup_cons] at e ⊢
    by_cases hk : k = k'
    · subst hk
      rw [beq_self_eq_true] at e ⊢
      cases e
      exact ⟨_, rfl, h⟩
    · rw [beq_false_of_ne hk] at e
      rw [beq_false_of_ne fun z => hk (nmS_inj ok o z)]
      exact RpF.look t ok e
theorem RpF.miss {G : Gx} {F : Fz} : ∀ {fs : List (Str × V)} {es : List (Nat × D)} {k : Nat}, RpF G F fs es → okN k → es.lookup k = none → fs.lookup (nmS k) = none
  | _, _, _, .nil, _, _ => rfl
  | _, _, k, .cons (k := k') o h t, ok, e => by
    rw [List.lookup_cons] at e ⊢
    by_cases hk : k = k'
    · subst hk
      rw [beq_self_eq_true] at e
      cases e
    · rw [beq_false_of_ne hk] at e
      rw [beq_false_of_ne fun z => hk (nmS_inj ok o z)]
      exact RpF.miss t ok e
theorem RpF.zip {G : Gx} {F : Fz} : ∀ {vs : List V} {ds : List D} (ks : List Nat), (∀ k ∈ ks, okN k) → RpAll G F vs ds → RpF G F ((ks.map nmS).zip vs) (ks.zip ds)
  | _, _, [], _, _ => by simp; exact .nil
  | _, _, _ :: _, _, .nil => by simp; exact .nil
  | _, _, k :: ks, o, .cons h t => by
    simp only [List.map_cons, List.zip_cons_cons]
    exact .cons (o k (List.mem_cons_self ..)) h (RpF.zip ks (fun x m => o x (List.mem_cons_of_mem _ m)) t)
/-- o.f, of an instance of one of the classes cs -/
def dFld (cs : List Nat) (k : Nat) : D → Option D
  | .obj c es => if c ∈ cs then es.lookup k else none
  | _ => none
/-- what is known of the classes cs and a field's name -/
def ClsF (K : PySem.W.Frag) (mg : Str → Option Value) (cs : List Nat) (f : Str) : Prop := ∀ c ∈ cs, ∀ C, mg (nmS c) = some (.ref C) → Cls K C ∧ NoAttr K C f
theorem ClsF.nil {K : PySem.W.Frag} {mg : Str → Option Value} {f : Str} : ClsF K mg [] f := fun _ h => by cases h
theorem ClsF.cons {K : PySem.W.Frag} {mg : Str → Option Value} {f : Str} {c : Nat} {cs : List Nat} {C : Addr} (h : mg (nmS c) = some (.ref C)) (h1 : Cls K C) (h2 : NoAttr K C f) (t : ClsF K mg cs f) : ClsF K mg (c :: cs) f := fun x hx C' hC => by
  rcases List.mem_cons.mp hx with z | z
  · subst z
    rw [h] at hC; cases hC
    exact ⟨h1, h2⟩
  · exact t x z C' hC
section
variable {X : Cx} {B : Hp} {W : WX} {e a b c : Expr} {es : List Expr} {pos : Pos}
/-- v is an instance -/
theorem Vw.inst {G : Gx} {F : Fz} {H : Hp} {v : V} {c : Nat} {es : List (Nat × D)} (h : Vw G F H v (.obj c es)) (f : Same F.f H) : ∃ p C dx fs, v = .ref p ∧ H p = some (.ins C dx fs) ∧ G.mg (nmS c) = some (.ref C) ∧ RpF G F fs es := by
  rcases h with h | ⟨p, u, w, rfl, hp, ow, e⟩ | ⟨p, c', fs', rfl, ho, e⟩
  · cases h with
    | obj h1 h2 h3 h4 => exact ⟨_, _, _, _, rfl, f _ _ h1, h3, h4⟩
  · cases w <;> cases e
  · cases e
    obtain ⟨C, dx, vs, h1, h2, h3, h4⟩ := ho
    exact ⟨_, _, _, _, rfl, h1, h3, h4⟩
theorem de_fld {f : Str} {fa : Ev Opd} (cs : List Nat) (k : Nat) (hk : nmS k = f) (ok : okN k) (ht : ClsF X.K X.mg cs f) (ho : DO X B W a fa) (hb : attributeBase a f X.env (eval a X.env) = eval a X.env := by rfl) : DE X B W (.Attribute a f pos) (o1E (dFld cs k) fa) :=
  pe_imp (pe_fld ho hb) fun σ H Q ⟨F, S, st, o, q⟩ => ⟨F, S, st, o, (Post.bind (R := RO (Cx.g X) σ) q).mono fun v H1 ⟨F1, d, S1, st1, g1, o1, r1, p1⟩ => by
    split at p1
    · rename_i x hx
      obtain ⟨z, hz, p2⟩ := got_ok p1
      unfold dFld at hz
      split at hz
      · rename_i c es
        split at hz
        · rename_i hc
          obtain ⟨pi, C, dx, fs, rfl, h1, h3, h4⟩ := (o1.vw r1 hx).inst o1.fH
          obtain ⟨u, hu, ru⟩ := h4.look ok hz
          obtain ⟨t1, t2⟩ := ht c hc _ h3
          rw [hk] at hu
          exact ⟨_, _, _, _, _, rfl, h1, t1, t2, hu, p2 _ H1 F1 .refl o1 ru⟩
        · cases hz
      · cases hz
    · exact p1.elim⟩
/-! ### methods, by the receiver's class -/
def tMethX (X : Cx) (m : Str) (W : WX) (ta : TE) (t : TA) : TE := fun σ H Q => ta σ H fun x H1 => ∃ (a C dx : Addr) (fs : List (Str × V)) (f : Addr) (fd : FuncData) (ps : List Str) (k : Nat) (sp : Sp), x = .ref a ∧ H1 a = some (.ins C dx fs) ∧ fs.lookup m = none ∧
  Cls X.K C ∧ Meth X.K C m f ∧ FnOk X.prog X.w X.K X.mg X.base (L2.CX X.prog X.w) k f fd ps sp ∧ Room k X.A ∧ Binds X.K fd ps [] ∧ t σ H1 fun vs H2 => sp (.ref a :: vs) H2 Q (WE W σ)
theorem pe_methX {m : Str} {apos : Pos} {ta : TE} {t : TA} {pl : Sem Bool} (tk : Takes X W) (he : PE X a ta) (ha : PA X (e :: es) t)
    (hst : starEach (e :: es) X.env = (false, eval e X.env) :: starEach es X.env := by rfl) (hpl : (backTo pos (starEach es X.env)).any (·.1) = false := by rfl)
    (ht : eval (.Call (.Attribute a m apos) (e :: es) [] pos) X.env = (do
      let ov ← eval a X.env
      standAt apos.atName
      let (f, first) ← holding [ov] (getMethod ov m pl)
      callWith pos f first (backTo pos (starEach (e :: es) X.env)) (backToKw pos (keywordEach [] X.env))) := by rfl) :
    PE X (.Call (.Attribute a m apos) (e :: es) [] pos) (tMethX X m W ta t) := by
  refine ⟨fun pins s σ H Q I h => ?_⟩
  refine PySem.W.methodCall_KW (pl := pl) (thn (he.run pins s σ H _ I h) fun u s1 ⟨x, H1, I1, rx, ad, C, dx, fs, f, fd, ps, k, sp, ex, ea, l, cl, hm, F, hr, hb, q⟩ => ?_) ht
  subst ex
  obtain rfl : u = Value.ref ad := rx
  refine getmeth_ok I1 ea cl hm l ?_
  refine PySem.W.callWith_K (first := [.ref ad]) (h₀ := X.base) I.ok.mod.kin hm.kp (thn (ha.run pos pins s1 σ H1 _ I1 q) fun us s2 ⟨vs, H2, I2, r, q2⟩ => ⟨I2.kIn, ?_⟩) hst hpl
  exact run_fnS (us := .ref ad :: us) (vs := .ref ad :: vs) (E := WE W) F hr hb (passAt tk σ) I2 (.cons rfl r) q2
theorem pe_methX0 {m : Str} {apos : Pos} {ta : TE} {pl : Sem Bool} (tk : Takes X W) (he : PE X a ta)
    (ht : eval (.Call (.Attribute a m apos) [] [] pos) X.env = (do
      let ov ← eval a X.env
      standAt apos.atName
      let (f, first) ← holding [ov] (getMethod ov m pl)
      callWith pos f first (backTo pos (starEach [] X.env)) (backToKw pos (keywordEach [] X.env))) := by rfl) :
    PE X (.Call (.Attribute a m apos) [] [] pos) (tMethX X m W ta tNil) := by
  refine ⟨fun pins s σ H Q I h => ?_⟩
  refine PySem.W.methodCall_KW (pl := pl) (thn (he.run pins s σ H _ I h) fun u s1 ⟨x, H1, I1, rx, ad, C, dx, fs, f, fd, ps, k, sp, ex, ea, l, cl, hm, F, hr, hb, q⟩ => ?_) ht
  subst ex
  obtain rfl : u = Value.ref ad := rx
  refine getmeth_ok I1 ea cl hm l ?_
  exact PySem.W.callWith_K0 (first := [.ref ad]) I1.kIn hm.kp (run_fnS (us := [.ref ad]) (vs := [.ref ad]) (E := WE W) F hr hb (passAt tk σ) I1 (.cons rfl .nil) q)
structure MDef (P : Program) (w : World) (K : PySem.W.Frag) (mg : Str → Option Value) (base : Heap) (k : Nat) (m : Str) (n : Nat) (cs : List Nat) (tab : Nat → CallT) : Prop where
  ex : ∀ c ∈ cs, ∀ C, mg (nmS c) = some (.ref C) → ∃ f fd ps, Cls K C ∧ Meth K C m f ∧ FnOk P w K mg base (L2.CX P w) k f fd ps (spOf ⟨K, mg⟩ n (tab c)) ∧ Binds K fd ps []
theorem MDef.mono {P : Program} {w : World} {K : PySem.W.Frag} {mg : Str → Option Value} {base : Heap} {k j : Nat} {m : Str} {n : Nat} {cs : List Nat} {tab : Nat → CallT} (d : MDef P w K mg base k m n cs tab) (h : k ≤ j) : MDef P w K mg base j m n cs tab :=
  ⟨fun c hc C hC => by
    obtain ⟨f, fd, ps, a1, a2, a3, a4⟩ := d.ex c hc C hC
    exact ⟨f, fd, ps, a1, a2, a3.mono h, a4⟩⟩
theorem MDef.nil {P : Program} {w : World} {K : PySem.W.Frag} {mg : Str → Option Value} {base : Heap} {k : Nat} {m : Str} {n : Nat} {tab : Nat → CallT} : MDef P w K mg base k m n [] tab := ⟨fun _ h => by cases h⟩
theorem MDef.cons {P : Program} {w : World} {K : PySem.W.Frag} {mg : Str → Option Value} {base : Heap} {k : Nat} {m : Str} {n : Nat} {tab : Nat → CallT} {c : Nat} {cs : List Nat} {C f : Addr} {fd : FuncData} {ps : List Str} (h : mg (nmS c) = some (.ref C)) (h1 : Cls K C) (h2 : Meth K C m f)
    (h3 : FnOk P w K mg base (L2.CX P w) k f fd ps (spOf ⟨K, mg⟩ n (tab c))) (h4 : Binds K fd ps []) (t : MDef P w K mg base k m n cs tab) : MDef P w K mg base k m n (c :: cs) tab := ⟨fun x hx C' hC => by
  rcases List.mem_cons.mp hx with z | z
  · subst z
    rw [h] at hC; cases hC
    exact ⟨f, fd, ps, h1, h2, h3, h4⟩
  · exact t.ex x z C' hC⟩
def mcE (cs : List Nat) (mk : Nat) (tab : Nat → CallT) (fo : Ev D) (fa : Ev (List Opd)) : Ev D := fun S st => (fo S st).bind fun o S st => match o with
  | .obj c es => if c ∈ cs ∧ es.lookup mk = none then (fa S st).bind fun a S st => match vds S a with
      | some ds => match tab c (.obj c es :: ds) st with
        | .ok d _ st => .ok d S st
        | .exc x _ st => .exc x S st
        | .stuck => .stuck
      | none => .stuck
    else .stuck
  | _ => .stuck
theorem rpO_len {G : Gx} {σ : L2.St} {F : Fz} {vs : List V} {as : List Opd} (h : RpO G σ F vs as) : vs.length = as.length := by
  induction h with
  | nil => rfl
  | cons _ _ ih => simp [ih]
theorem mc_lift {m : Str} {mk k n : Nat} {cs : List Nat} {tab : Nat → CallT} {fo : Ev D} {fa : Ev (List Opd)} (hmk : nmS mk = m) (okm : okN mk) (d : MDef X.prog X.w X.K X.mg X.base k m (n + 1) cs tab) (hr : Room k X.A) (hl : aLen fa n) {σ : L2.St} {H : Hp} {Q : VK}
    (q : lift (Cx.g X) B W (RD (Cx.g X)) (mcE cs mk tab fo fa) σ H Q) : tMethX X m W (lift (Cx.g X) B W (RD (Cx.g X)) fo) (lift (Cx.g X) B W (RpO (Cx.g X)) fa) σ H Q := by
  obtain ⟨F, S, st, o, q⟩ := q
  refine ⟨F, S, st, o, (Post.bind (R := RD (Cx.g X) σ) q).mono fun v H1 ⟨F1, d1, S1, st1, g1, o1, r1, p1⟩ => ?_⟩
  split at p1
  · rename_i c es
    split at p1
    · rename_i hc
      have r1' : Rp (Cx.g X) F1 v (.obj c es) := r1
      cases r1 with
      | @obj a dx C _ fs _ h1 h2 h3 h4 =>
        obtain ⟨f, fd, ps, t1, t2, t3, t4⟩ := d.ex c hc.1 C h3
        refine ⟨a, C, dx, fs, f, fd, ps, k, _, rfl, o1.fH _ _ h1, by rw [← hmk]; exact h4.miss okm hc.2, t1, t2, t3, hr, t4, F1, S1, st1, o1, ?_⟩
        have key : ∀ (r : Res (List Opd)) (hl : ∀ r' S' st', r = .ok r' S' st' → r'.length = n), Post (Cx.g X) B W (RD (Cx.g X) σ) σ F1 Q (r.bind fun a S st => match vds S a with
            | some ds => match tab c (.obj c es :: ds) st with
              | .ok d _ st => .ok d S st
              | .exc x _ st => .exc x S st
              | .stuck => .stuck
            | none => .stuck) → Post (Cx.g X) B W (RpO (Cx.g X) σ) σ F1 (fun vs H2 => spOf (Cx.g X) (n + 1) (tab c) (.ref a :: vs) H2 Q (WE W σ)) r := by
          intro r hl q
          cases r with
          | exc y S2 st2 => exact q
          | stuck => exact q
          | ok as S2 st2 =>
            intro vs H2 F2 g2 o2 r2
            have q : Post (Cx.g X) B W (RD (Cx.g X) σ) σ F1 Q (match vds S2 as with
              | some ds => match tab c (.obj c es :: ds) st2 with
                | .ok d _ st => .ok d S2 st
                | .exc x _ st => .exc x S2 st
                | .stuck => .stuck
              | none => .stuck) := q
            split at q
            · rename_i ds hds
              have ra := o2.vds r2 hds
              refine ⟨?_, F2, .obj c es :: ds, st2, o2.fH, o2.so.hid, .cons (r1'.mono g2.1) ra, ?_⟩
              · rw [List.length_cons, rpO_len r2, hl _ _ _ rfl]
              · revert q
                generalize tab c (.obj c es :: ds) st2 = r
                intro q
                cases r with
                | ok _ _ _ => exact fun v H' F' k f gr so rr => q v H' F' (g2.trans (o2.back k f gr so).1) (o2.back k f gr so).2 rr
                | exc _ _ _ => exact fun cls dd H' F' k f gr so rr => q cls dd H' F' (g2.trans (o2.back k f gr so).1) (o2.back k f gr so).2 rr
                | stuck => exact q.elim
            · exact q.elim
        exact key _ (fun r' S' st' e => hl _ _ _ _ _ e) p1
    · exact p1.elim
  · exact p1.elim
theorem de_mc {m : Str} {mk k n : Nat} {cs : List Nat} {tab : Nat → CallT} {apos : Pos} {fo : Ev D} {fa : Ev (List Opd)} {pl : Sem Bool} (hmk : nmS mk = m) (okm : okN mk) (d : MDef X.prog X.w X.K X.mg X.base k m (n + 1) cs tab) (hr : Room k X.A) (tk : Takes X W)
    (ho : DE X B W a fo) (ha : DA X B W (e :: es) fa) (hl : aLen fa n := by repeat (first | exact aLen_n | refine aLen_c ?_))
    (hst : starEach (e :: es) X.env = (false, eval e X.env) :: starEach es X.env := by rfl) (hpl : (backTo pos (starEach es X.env)).any (·.1) = false := by rfl)
    (ht : eval (.Call (.Attribute a m apos) (e :: es) [] pos) X.env = (do
      let ov ← eval a X.env
      standAt apos.atName
      let (f, first) ← holding [ov] (getMethod ov m pl)
      callWith pos f first (backTo pos (starEach (e :: es) X.env)) (backToKw pos (keywordEach [] X.env))) := by rfl) :
    DE X B W (.Call (.Attribute a m apos) (e :: es) [] pos) (mcE cs mk tab fo fa) :=
  pe_imp (pe_methX tk ho ha hst hpl ht) fun _ _ _ q => mc_lift hmk okm d hr hl q
theorem de_mc0 {m : Str} {mk k : Nat} {cs : List Nat} {tab : Nat → CallT} {apos : Pos} {fo : Ev D} {pl : Sem Bool} (hmk : nmS mk = m) (okm : okN mk) (d : MDef X.prog X.w X.K X.mg X.base k m 1 cs tab) (hr : Room k X.A) (tk : Takes X W)
    (ho : DE X B W a fo)
    (ht : eval (.Call (.Attribute a m apos) [] [] pos) X.env = (do
      let ov ← eval a X.env
      standAt apos.atName
      let (f, first) ← holding [ov] (getMethod ov m pl)
      callWith pos f first (backTo pos (starEach [] X.env)) (backToKw pos (keywordEach [] X.env))) := by rfl) :
    DE X B W (.Call (.Attribute a m apos) [] [] pos) (mcE cs mk tab fo aN) :=
  pe_imp (pe_methX0 tk ho ht) fun σ H Q q => by
    obtain ⟨F, S, st, o, q⟩ := mc_lift hmk okm d hr aLen_n q
    refine ⟨F, S, st, o, q.mono ?_⟩
    rintro v H1 ⟨a, C, dx, fs, f, fd, ps, k, sp, e1, e2, e3, e4, e5, e6, e7, e8, F1, S1, st1, o1, q1⟩
    exact ⟨a, C, dx, fs, f, fd, ps, k, sp, e1, e2, e3, e4, e5, e6, e7, e8, q1 [] H1 F1 .refl o1 .nil⟩
end
/-! ### instances that are made -/
def spInit (C : Addr) (ks : List Nat) : Sp := fun vs H Q _ => ∃ (p dx : Addr) (args : List V), vs = .ref p :: args ∧ args.length = ks.length ∧ H p = some (.ins C dx []) ∧ Q .non (upd H p (.ins C dx ((ks.map nmS).zip args)))
structure IDef (P : Program) (w : World) (K : PySem.W.Frag) (mg : Str → Option Value) (base : Heap) (k : Nat) (x : Str) (c : Nat) (ks : List Nat) : Prop where
  ex : ∃ C f fd ps, mg x = some (.ref C) ∧ nmS c = x ∧ Mk K C f ∧ FnOk P w K mg base (L2.CX P w) k f fd ps (spInit C ks) ∧ Binds K fd ps [] ∧ ∀ k ∈ ks, okN k
/-- self.f = a parameter, one behind the other -/
def initT (K : PySem.W.Frag) : List Str → Nat → TS
  | [], _ => tNext
  | f :: r, i => tSeq (sFld K (tVar 0) (tVar i) f) (initT K r (i + 1))
theorem putF_new {f : Str} {v : V} : ∀ {fs : List (Str × V)}, f ∉ fs.map (·.1) → putF f v fs = fs ++ [(f, v)]
  | [], _ => rfl
  | (g, u) :: r, h => by
    have h1 : ¬ g = f := fun z => h (by simp [z])
    have h2 : f ∉ r.map (·.1) := fun z => h (by simp [z])
    show (if g = f then _ else (g, u) :: putF f v r) = _
    rw [if_neg h1, putF_new h2]; rfl
theorem init_read {K : PySem.W.Frag} {C dx p : Addr} {σ : L2.St} {D : Ends} (cl : Cls K C) (hp0 : σ[0]? = some (some (.ref p))) : ∀ (fs : List Str) (i : Nat) (vs : List V) (acc : List (Str × V)) (H : Hp),
    (∀ f ∈ fs, NoAttr K C f) → vs.length = fs.length → (∀ (j : Nat) (v : V), vs[j]? = some v → σ[i + j]? = some (some v)) → (acc.map (·.1) ++ fs).Nodup → acc.length + fs.length < 1000 → H p = some (.ins C dx acc) → D.nx σ (upd H p (.ins C dx (acc ++ fs.zip vs))) → initT K fs i D σ H
  | [], i, vs, acc, H, _, hl, _, _, _, hp, q => by
    have e : upd H p (.ins C dx (acc ++ ([] : List Str).zip vs)) = H := by
      funext b
      by_cases hb : b = p
      · subst hb; rw [upd_same, hp]; simp
      · rw [upd_ne hb]
    rw [e] at q; exact q
  | f :: r, i, [], acc, H, _, hl, _, _, _, _, _ => by simp at hl
  | f :: r, i, v :: vs, acc, H, hn, hl, hv, nd, h1000, hp, q => by
    have hnd : f ∉ acc.map (·.1) := fun z => by
      rw [List.nodup_append] at nd
      exact nd.2.2 _ z f (List.mem_cons_self ..) rfl
    refine ⟨v, by have := hv 0 v rfl; simpa using this, .ref p, hp0, p, C, dx, acc, rfl, hp, cl, hn f (List.mem_cons_self ..), by simp at h1000; omega, ?_⟩
    rw [putF_new hnd]
    refine init_read cl hp0 r (i + 1) vs (acc ++ [(f, v)]) _ (fun g m => hn g (List.mem_cons_of_mem _ m)) (by simpa using hl) (fun j u e => ?_) (by simpa using nd) (by simp at h1000 ⊢; omega) upd_same ?_
    · have := hv (j + 1) u (by simpa using e)
      rw [show i + 1 + j = i + (j + 1) by omega]; exact this
    · have e : upd (upd H p (.ins C dx (acc ++ [(f, v)]))) p (.ins C dx (acc ++ [(f, v)] ++ r.zip vs)) = upd H p (.ins C dx (acc ++ (f :: r).zip (v :: vs))) := by
        funext b
        by_cases hb : b = p
        · subst hb; rw [upd_same, upd_same]; simp
        · rw [upd_ne hb, upd_ne hb, upd_ne hb]
      rw [e]; exact q
section
variable {P : Program} {w : World} {K : PySem.W.Frag} {mg : Str → Option Value} {base : Heap}
/-- an __init__ that stores its parameters -/
theorem init_ok {qual : Str} {st : Stmt} {f C : Addr} {fd : FuncData} {N : List Str} {s0 : Str} {prest : List Str} {ks : List Nat} {fs : List Str} (F : Fun K "__init__" qual st f fd) (S : FnScope N (s0 :: prest) (defScope st)) (hks : ks.map nmS = fs) (hpl : prest.length = fs.length)
    (cl : Cls K C) (hn : ∀ f ∈ fs, NoAttr K C f) (nd : fs.Nodup) (hs : fs.length < 1000) (hN : N = s0 :: prest)
    (body : ∀ (cdv : Value) (A : Around) (outer : List Env) (s : Shared) (H : Hp) (E : XK), PSs (cxOf (L2.CX P w) P w K mg base N qual (defScope st) f cdv A outer s H E) (defBody st) (initT K fs 1)) : FnOk P w K mg base (L2.CX P w) 1 f fd (s0 :: prest) (spInit C ks) := by
  refine F.okX S (fun vs H Q E h => ?_) (fun cdv A outer s H vs Q E hr h => ?_)
  · obtain ⟨p, dx, args, e1, e2, _⟩ := h
    subst e1
    have := congrArg List.length hks
    simp at this ⊢
    omega
  · refine ⟨_, body cdv A outer s H E, ?_⟩
    obtain ⟨p, dx, args, e1, e2, hp, q⟩ := h
    subst e1
    rw [hks] at q
    refine init_read cl ?_ fs 1 args [] H hn (by have := congrArg List.length hks; simp at this; omega) (fun j v e => ?_) (by simpa using nd) (by simpa using hs) hp q
    · subst hN; rfl
    · subst hN
      show ((V.ref p :: args).map some ++ _)[1 + j]? = _
      have hj : j < args.length := (List.getElem?_eq_some_iff.mp e).1
      rw [List.getElem?_append_left (by simp; omega), List.getElem?_map, Nat.add_comm, List.getElem?_cons_succ, e]; rfl
end
def newE (c : Nat) (ks : List Nat) (fa : Ev (List Opd)) : Ev D := fun S st => (fa S st).bind fun a S st => match vds S a with
  | some ds => if ds.length = ks.length then .ok (.obj c (ks.zip ds)) S st else .stuck
  | none => .stuck
section
variable {X : Cx} {B : Hp} {W : WX} {e a b c : Expr} {es : List Expr} {pos p : Pos}
theorem de_new {x : Str} {k cn : Nat} {ks : List Nat} {fa : Ev (List Opd)} (d : IDef X.prog X.w X.K X.mg X.base k x cn ks) (hr : Room (k + 1) X.A) (ha : DA X B W (e :: es) fa) (hx : Passes (L2.CX X.prog X.w) X (fun _ _ _ => False) := by exact fun _ _ _ _ _ _ _ h => by obtain ⟨_, _, _, _, _, _, _, _, _, _, _, _, z⟩ := h; exact z.elim)
    (hg : Gl X x := by rfl) (hdb : (x == ("__debug__" : Str)) = false := by decide) (he : starEach (e :: es) X.env = (false, eval e X.env) :: starEach es X.env := by rfl) (hpl : (backTo pos (starEach es X.env)).any (·.1) = false := by rfl) :
    DE X B W (.Call (.Name x p) (e :: es) [] pos) (newE cn ks fa) := by
  obtain ⟨C, f, fd, ps, hm, hc, M, F, hb, hok⟩ := d.ex
  refine pe_imp (pe_make (E := fun _ _ _ => False) M F hr hg hm hb .nil hx ha hdb he hpl) fun σ H Q ⟨F0, S, st, o, q⟩ => ⟨F0, S, st, o, (Post.bind (R := RpO (Cx.g X) σ) q).mono fun vs H1 ⟨F1, d, S1, st1, g1, o1, r1, p1⟩ => ?_⟩
  split at p1
  · rename_i ds hds
    split at p1
    · rename_i hl
      have ra := o1.vds r1 hds
      intro y dx ny ndx nyx
      refine ⟨y, dx, vs, by rw [List.append_nil], by rw [ra.length, hl], upd_same, rfl, ?_⟩
      have ny1 : (upd H1 dx (.own y)) y = none := by rw [upd_ne (Ne.symm nyx)]; exact ny
      have o2 := (o1.gnew (u := .own y) ndx).gnew (u := .ins C dx ((ks.map nmS).zip vs)) ny1
      have g2 : Gr B F1 (F1.up dx (.own y)) := o1.grN ndx
      have g3 : Gr B (F1.up dx (.own y)) ((F1.up dx (.own y)).up y (.ins C dx ((ks.map nmS).zip vs))) := (o1.gnew (u := .own y) ndx).grN ny1
      have eH : upd (upd (upd H1 dx (.own y)) y (.ins C dx [])) y (.ins C dx ((ks.map nmS).zip vs)) = upd (upd H1 dx (.own y)) y (.ins C dx ((ks.map nmS).zip vs)) := by
        funext b
        by_cases hb : b = y
        · subst hb; rw [upd_same, upd_same]
        · rw [upd_ne hb, upd_ne hb, upd_ne hb]
      rw [eH]
      refine p1 _ _ _ (g2.trans g3) o2 (.obj (F := (F1.up dx (.own y)).up y (.ins C dx ((ks.map nmS).zip vs))) upd_same (by show upd (upd F1.f dx _) y _ dx = _; rw [upd_ne nyx]; exact upd_same) (by rw [hc]; exact hm) (RpF.zip ks hok (ra.mono (g2.trans g3).1)))
    · exact p1.elim
  · exact p1.elim
end
section
variable {S : Sls} {st : Store}
@[simp] theorem newE_a (c : Nat) (ks : List Nat) (fa : Ev (List Opd)) : newE c ks fa S st = (fa S st).bind fun a S st => match vds S a with
  | some ds => if ds.length = ks.length then .ok (.obj c (ks.zip ds)) S st else .stuck
  | none => .stuck := rfl
@[simp] theorem mcE_a (cs : List Nat) (mk : Nat) (tab : Nat → CallT) (fo : Ev D) (fa : Ev (List Opd)) : mcE cs mk tab fo fa S st = (fo S st).bind fun o S st => match o with
  | .obj c es => if c ∈ cs ∧ es.lookup mk = none then (fa S st).bind fun a S st => match vds S a with
      | some ds => match tab c (.obj c es :: ds) st with
        | .ok d _ st => .ok d S st
        | .exc x _ st => .exc x S st
        | .stuck => .stuck
      | none => .stuck
    else .stuck
  | _ => .stuck := rfl
@[simp] theorem dFld_a (cs : List Nat) (k c : Nat) (es : List (Nat × D)) : dFld cs k (.obj c es) = if c ∈ cs then es.lookup k else none := rfl
end
@[simp] theorem lk_n (k : Nat) : List.lookup k ([] : List (Nat × D)) = none := rfl
@[simp] theorem lk_c (k k' : Nat) (d : D) (r : List (Nat × D)) : List.lookup k ((k', d) :: r) = if k = k' then some d else List.lookup k r := by
  rw [List.lookup_cons]
  by_cases h : k = k'
  · subst h; simp
  · rw [beq_false_of_ne h, if_neg h]
theorem fn_stuck {P : Program} {w : World} {K : PySem.W.Frag} {mg : Str → Option Value} {base : Heap} {x qual : Str} {st : Stmt} {f : Addr} {fd : FuncData} {N ps : List Str} {k : Nat} (F : Fun K x qual st f fd) (S : FnScope N ps (defScope st)) : FnOk P w K mg base (L2.CX P w) (k + 1) f fd ps (spOf ⟨K, mg⟩ ps.length cStuck) :=
  F.okX S (fun vs H Q E h => h.1) (fun cdv A outer s H vs Q E hr h => by
    obtain ⟨_, _, _, _, _, _, _, q⟩ := h
    exact q.elim)
end DL

namespace DL
open PySem PySem.Spec PyProof.Rows L2
def mxD (ns : List Int) (d : Int) : Int := match ns with
  | [] => d
  | n :: r => r.foldl max n
theorem foldl_max_mem : ∀ (r : List Int) (n : Int), r.foldl max n ∈ n :: r ∧ ∀ y ∈ n :: r, y ≤ r.foldl max n
  | [], n => by simp
  | m :: r, n => by
    obtain ⟨h1, h2⟩ := foldl_max_mem r (max n m)
    rw [List.foldl_cons]
    refine ⟨?_, fun y hy => ?_⟩
    · rcases List.mem_cons.mp h1 with z | z
      · rw [z]
        by_cases h : n ≤ m
        · simp [Int.max_eq_right h]
        · simp [Int.max_eq_left (Int.le_of_not_le h)]
      · simp [z]
    · have h3 := h2 (max n m) (List.mem_cons_self ..)
      rcases List.mem_cons.mp hy with z | z
      · subst z; omega
      · rcases List.mem_cons.mp z with z | z
        · subst z; omega
        · exact h2 y (List.mem_cons_of_mem _ z)
theorem mx_uniq {ns : List Int} {m n : Int} (h1 : m ∈ ns) (h2 : ∀ y ∈ ns, y ≤ m) (h3 : n ∈ ns) (h4 : ∀ y ∈ ns, y ≤ n) : m = n := Int.le_antisymm (h4 m h1) (h2 n h3)
def rMaxDf (K : PySem.W.Frag) : List V → List V → Hp → VK → Prop := fun vs zs H Q => ∃ (a : Addr) (ns : List Int) (d : Int), vs = [.ref a] ∧ zs = [.int d] ∧ SqL K H a (ns.map V.int) ∧ Q (.int (mxD ns d)) H
section
variable {X : Cx} {B : Hp} {W : WX} {e f : Expr} {pos p kpos : Pos}
theorem cr_maxDf (hc : X.calm = true) : CallRK X (.builtin "max") [Str.ofString "default"] (rMaxDf X.K) := by
  intro pins s σ H vs zs us ws Q I r1 r2 h
  obtain ⟨a, ns, d, rfl, rfl, hs, q⟩ := h
  obtain ⟨its, rv, hl, _⟩ := I.list hs
  rw [Vals.ref1 r1]
  obtain ⟨u, rfl, hu⟩ := vals1 r2
  obtain ⟨t, rfl⟩ := hu
  have hi := rv.ints
  obtain ⟨xs, ex⟩ := hi.allInts.items
  have hn : numsOf (intItems xs).toList = ns := by rw [← ex]; exact hi.numsOf
  have hl2 : s.heap.IsList a its.toArray := hl.isList
  rw [ex] at hl2
  rw [nums_intItems] at hn
  refine call_max_walkD (PySem.W.iter_listW (A := X.A.in1) (I.ok.hd hc) hl2 fun s2 e W st hf hw hk => ⟨_, _, _, _, _, _, _, s.heap, fun i j => decide (numAt xs i > numAt xs j), rfl, W, st, hf, hw, hk, fun z t m => ?_, fun z => ⟨fun i j u v t B Z _ hu hv q => CmpOf.ints_gt (numAt xs) (fun _ _ => intItems_at) i j u v t B Z hu hv q, fun v t hv m => ?_⟩⟩)
  · obtain ⟨h', tk, rfl, old⟩ := PySem.W.moved_old e rfl m
    have : xs = #[] := Array.eq_empty_of_size_eq_zero (by simpa [intItems] using z)
    subst this
    have : ns = [] := by rw [← hn]; rfl
    subst this
    exact ⟨.int d, H, I.kept old, ⟨_, rfl⟩, q⟩
  · obtain ⟨h', tk, rfl, old⟩ := PySem.W.moved_old e rfl m
    have hsz : 0 < xs.size := by simpa [intItems] using z
    have hs2 : (intItems xs).size = xs.size := by simp [intItems]
    rw [hs2] at hv
    obtain ⟨t', rfl⟩ := intItems_at hv
    obtain ⟨h1, h2⟩ := argBest_gt (numAt xs) (xs.size - 1)
    have e1 : numAt xs (argBest (fun i j => decide (numAt xs i > numAt xs j)) (xs.size - 1)) = mxD ns d := by
      subst hn
      have hm : numAt xs (argBest (fun i j => decide (numAt xs i > numAt xs j)) (xs.size - 1)) ∈ xs.toList.map (·.1) := by
        rw [numAt_eq]; exact PySem.getD_mem (by rw [List.length_map, Array.length_toList]; omega)
      have hg : ∀ y ∈ xs.toList.map (·.1), y ≤ numAt xs (argBest (fun i j => decide (numAt xs i > numAt xs j)) (xs.size - 1)) := fun y hy => by
        obtain ⟨j, hj, rfl⟩ := mem_getD hy
        rw [List.length_map, Array.length_toList] at hj
        rw [← numAt_eq]; exact h2 j (by omega)
      cases hx : xs.toList.map (·.1) with
      | nil => rw [hx] at hm; cases hm
      | cons n r =>
        rw [hx] at hm hg
        obtain ⟨g1, g2⟩ := foldl_max_mem r n
        exact mx_uniq hm hg g1 g2
    rw [e1]
    exact ⟨.int (mxD ns d), H, I.kept old, ⟨t', rfl⟩, q⟩
def dMaxD : List D → D → Option D
  | [.lst ds], .int d => (intsD ds).map fun ns => .int (mxD ns d)
  | _, _ => none
def oKE (op : List D → D → Option D) (fa : Ev (List Opd)) (fd : Ev D) : Ev D := fun S st => (fa S st).bind fun a S st => (fd S st).bind fun d S st =>
  match vws S st a with
  | some x => got (op x d) S st
  | _ => .stuck
theorem de_maxD {fa : Ev (List Opd)} {fd : Ev D} (hm : X.mg "max" = none) (ha : DA X B W [e] fa) (hd : DE X B W f fd) (hc : X.calm = true := by rfl) (hg : Gl X "max" := by rfl)
    (he : backTo pos (starEach [e] X.env) = (false, eval e X.env) :: backTo pos (starEach [] X.env) := by rfl) (hpl : (backTo pos (starEach [e] X.env)).any (·.1) = false := by rfl)
    (hall : (backToKw pos (keywordEach [⟨some "default", f, kpos⟩] X.env)).all (·.1.isSome) = true := by rfl) (hnone : (backToKw pos (keywordEach [⟨some "default", f, kpos⟩] X.env)).any (·.1.isNone) = false := by rfl) (hks : (backToKw pos (keywordEach [⟨some "default", f, kpos⟩] X.env)).filterMap (·.1) = [Str.ofString "default"] := by rfl) :
    DE X B W (.Call (.Name "max" p) [e] [⟨some "default", f, kpos⟩] pos) (oKE dMaxD fa fd) :=
  pe_imp (pe_callBK (cr_maxDf hc) hg hm (by decide +kernel) ha (pk_cons hd pk_nil) (by decide) (by decide) he hpl hall hnone hks) fun σ H Q ⟨F, S, st, o, q⟩ => ⟨F, S, st, o, (Post.bind (R := RpO (Cx.g X) σ) q).mono fun v H1 ⟨F1, d, S1, st1, g1, o1, r1, p1⟩ =>
    ⟨F1, S1, st1, o1, (Post.bind (R := RD (Cx.g X) σ) p1).mono fun u H2 ⟨F2, d2, S2, st2, g2, o2, r2, p2⟩ => by
      split at p2
      · rename_i x hx
        obtain ⟨z, hz, p3⟩ := got_ok p2
        have ra := o2.vws (r1.mono g2.1) hx
        unfold dMaxD at hz
        split at hz
        · rename_i ds n
          cases hb : intsD ds with
          | none => rw [hb] at hz; cases hz
          | some ns =>
            rw [hb] at hz; cases hz
            cases ints_eq hb
            cases ra with
            | cons h t =>
              cases t
              obtain ⟨p, xs, rfl, h1, h2⟩ := h.seqL o2.fH rfl
              cases rp_ints_inv h2
              cases r2
              exact ⟨_, _, _, rfl, rfl, h1, p3 _ H2 F2 .refl o2 (.int _)⟩
        · cases hz
      · exact p2.elim⟩⟩
@[simp] theorem oKE_a (op : List D → D → Option D) (fa : Ev (List Opd)) (fd : Ev D) (S : Sls) (st : Store) : oKE op fa fd S st = (fa S st).bind fun a S st => (fd S st).bind fun d S st =>
  match vws S st a with
  | some x => got (op x d) S st
  | _ => .stuck := rfl
theorem dMaxD_a (ns : List Int) (d : Int) : dMaxD [.lst (ns.map .int)] (.int d) = some (.int (mxD ns d)) := by simp [dMaxD]
end
end DL

namespace DL
open PySem PySem.Spec PyProof.Rows L2
section
variable {X : Cx} {B : Hp} {W : WX} {e a b c : Expr} {es : List Expr} {pos p : Pos}
/-! ### lists of one's own, handed on and back -/
/-- the slot's own object, given away -/
def oZ (i : Nat) : Ev Ow := fun S st => match S[i]? with
  | some (.own w) => .ok w (S.set i .no) st
  | _ => .stuck
theorem df_z {i : Nat} (h : PE X e (tVar i)) : DF X B W e (oZ i) := pe_imp h fun σ H Q ⟨F, S, st, o, q⟩ => by
  unfold oZ at q
  split at q
  · rename_i w hw
    obtain ⟨p, u, e1, h1, h2, h3, r, hm⟩ := o.sl i _ hw
    refine ⟨_, e1, q p u H F .refl (o.drop i) h1 h2 h3 r hm fun j es e2 e3 => ?_⟩
    have hi : i < S.length := (List.getElem?_eq_some_iff.mp hw).1
    by_cases hj : i = j
    · subst hj
      rw [List.getElem?_set_self hi] at e2; cases e2
    · rw [List.getElem?_set_ne hj] at e2
      exact hj (o.ap i j _ _ p hw e2 e1 e3)
  · exact q.elim
/-- return, of a new list -/
def sRO (f : Ev Ow) : EvS := fun S st => (f S st).out fun w S st => .rto w S st
theorem ds_ro {f : Ev Ow} (h : DF X B W e f) : DS X B W (.Return (some e) pos) (sRO f) := ps_imp (ps_ret h) fun D σ H ⟨F, S, st, o, q⟩ => by
  refine ⟨F, S, st, o, ?_⟩
  unfold sRO at q
  generalize f S st = r at q ⊢
  cases r with
  | ok w S1 st1 => exact fun p u H' F' g o1 hu hF hB r hm no => q p u σ H' F' g o1 hu hF hB r hm
  | exc x S1 st1 => exact fun c d H' F' g o1 r => q c d σ H' F' g o1 r
  | stuck => exact q
end
/-- what a def does that hands back a list of its caller's own -/
abbrev CallO := List Sl → Store → Res Ow
def runBO (N : Nat) (b : EvS) : CallO := fun ss st => match b (ss ++ List.replicate (N - ss.length) .no) st with
  | .rto w _ st => .ok w [] st
  | .exc x _ st => .exc x [] st
  | _ => .stuck
def spOwn (G : Gx) (n : Nat) (c : CallO) : Sp := fun vs H Q E => vs.length = n ∧ ∃ (B : Hp) (F : Fz) (S0 : List Sl) (st : Store), S0.length = n ∧ (∀ N : List Str, n ≤ N.length → Ok G B F (L2.start N vs) H (S0 ++ List.replicate (N.length - S0.length) .no) st) ∧ match c S0 st with
  | .ok w _ st' => ∀ p u H' F', Gr B F F' → Same B H' → Same F'.f H' → StOk G B F' H' st' → H' p = some u → F' p = none → B p = none → OwRel G F' u w → p ∉ F'.m → Q (.ref p) H'
  | .exc x _ st' => ∀ cls dd H' F', Gr B F F' → Same B H' → Same F'.f H' → StOk G B F' H' st' → XRel G F' x cls dd H' → E cls dd H'
  | .stuck => False
structure DefO (P : Program) (w : World) (K : PySem.W.Frag) (mg : Str → Option Value) (base : Heap) (k : Nat) (x : Str) (n : Nat) (c : CallO) : Prop where
  ex : ∃ f fd ps, FnOk P w K mg base (L2.CX P w) k f fd ps (spOwn ⟨K, mg⟩ n c) ∧ Binds K fd ps [] ∧ mg x = some (.ref f) ∧ PySem.W.keepIn K (.ref f) = true
theorem DefO.mono {P : Program} {w : World} {K : PySem.W.Frag} {mg : Str → Option Value} {base : Heap} {k j : Nat} {x : Str} {n : Nat} {c : CallO} (d : DefO P w K mg base k x n c) (h : k ≤ j) : DefO P w K mg base j x n c := by
  obtain ⟨f, fd, ps, a, b, c, e⟩ := d.ex
  exact ⟨f, fd, ps, a.mono h, b, c, e⟩
section
variable {P : Program} {w : World} {K : PySem.W.Frag} {mg : Str → Option Value} {base : Heap}
theorem fno_ok {x qual : Str} {st : Stmt} {f : Addr} {fd : FuncData} {N ps : List Str} {k : Nat} {b : EvS} (F : Fun K x qual st f fd) (S : FnScope N ps (defScope st))
    (body : ∀ (B : Hp) (cdv : Value) (A : Around) (outer : List Env) (s : Shared) (H : Hp) (E : XK) (W : WX), Room k (A.deeper (envOfC qual (defScope st) s.heap.objs.size f cdv)) →
      Takes (cxOf (L2.CX P w) P w K mg base N qual (defScope st) f cdv A outer s H E) W → PassesOwn (model P w) (A.deeper (envOfC qual (defScope st) s.heap.objs.size f cdv)) (envOfC qual (defScope st) s.heap.objs.size f cdv) (cxOf (L2.CX P w) P w K mg base N qual (defScope st) f cdv A outer s H E).xe →
      DSs (cxOf (L2.CX P w) P w K mg base N qual (defScope st) f cdv A outer s H E) B W (defBody st) b) : FnOk P w K mg base (L2.CX P w) (k + 1) f fd ps (spOwn ⟨K, mg⟩ ps.length (runBO N.length b)) := by
  refine F.okX S (fun vs H Q E h => h.1) (fun cdv A outer s H vs Q E hr h => ?_)
  obtain ⟨hl, B, F0, S0, st0, hS0, ok0, q⟩ := h
  have hN : ps.length ≤ N.length := by have := congrArg List.length S.pre; rw [List.length_take] at this; omega
  refine ⟨_, body B cdv A outer s H E (fun cls d _ H' => E cls d H') hr (takes_of rfl rfl rfl rfl) (passes_of rfl), ?_⟩
  refine ⟨F0, _, st0, ok0 N hN, ?_⟩
  unfold runBO at q
  revert q
  generalize b (S0 ++ List.replicate (N.length - S0.length) .no) st0 = r
  intro q
  cases r with
  | rto w1 S1 st1 => exact fun p u σ' H' F' g o hu hF hB rr hm => q p u H' F' g o.kp o.fH o.so hu hF hB rr hm
  | exc y S1 st1 => exact fun c d σ' H' F' g o rr => q c d H' F' g o.kp o.fH o.so rr
  | nx S1 st1 => exact q.elim
  | ret d S1 st1 => exact q.elim
  | bk S1 st1 => exact q.elim
  | ct S1 st1 => exact q.elim
  | stuck => exact q.elim
theorem defo_ok {x qual : Str} {st : Stmt} {f : Addr} {fd : FuncData} {N ps : List Str} {k : Nat} {b : EvS} (F : Fun K x qual st f fd) (S : FnScope N ps (defScope st)) (hb : Binds K fd ps []) (hm : mg x = some (.ref f))
    (body : ∀ (B : Hp) (cdv : Value) (A : Around) (outer : List Env) (s : Shared) (H : Hp) (E : XK) (W : WX), Room k (A.deeper (envOfC qual (defScope st) s.heap.objs.size f cdv)) →
      Takes (cxOf (L2.CX P w) P w K mg base N qual (defScope st) f cdv A outer s H E) W → PassesOwn (model P w) (A.deeper (envOfC qual (defScope st) s.heap.objs.size f cdv)) (envOfC qual (defScope st) s.heap.objs.size f cdv) (cxOf (L2.CX P w) P w K mg base N qual (defScope st) f cdv A outer s H E).xe →
      DSs (cxOf (L2.CX P w) P w K mg base N qual (defScope st) f cdv A outer s H E) B W (defBody st) b) : DefO P w K mg base (k + 1) x ps.length (runBO N.length b) := ⟨f, fd, ps, fno_ok F S body, hb, hm, F.kp⟩
end
/-! ### calls -/
theorem start_ok {G : Gx} {B : Hp} {F : Fz} {H : Hp} {vs : List V} {S0 : List Sl} (fH : Same F.f H) (kp : Same B H) {st : Store} (so : StOk G B F H st) (hl : vs.length = S0.length) (sl : ∀ (i : Nat) (s : Sl), S0[i]? = some s → SlOk G B F H ((vs.map some)[i]?) s)
    (ap : ∀ (i j : Nat) (ds es : Ow) (p : Addr), S0[i]? = some (.own ds) → S0[j]? = some (.own es) → vs[i]? = some (.ref p) → vs[j]? = some (.ref p) → i = j) {N : List Str} (hN : S0.length ≤ N.length) : Ok G B F (L2.start N vs) H (S0 ++ List.replicate (N.length - S0.length) .no) st := by
  have get : ∀ (i : Nat) (s : Sl), (S0 ++ List.replicate (N.length - S0.length) Sl.no)[i]? = some s → (i < S0.length ∧ S0[i]? = some s) ∨ s = .no := fun i s e => by
    by_cases hi : i < S0.length
    · rw [List.getElem?_append_left hi] at e; exact .inl ⟨hi, e⟩
    · rw [List.getElem?_append_right (by omega), List.getElem?_replicate] at e
      split at e
      · cases e; exact .inr rfl
      · cases e
  have gv : ∀ i, i < S0.length → (L2.start N vs)[i]? = (vs.map some)[i]? := fun i hi => by
    unfold L2.start
    rw [List.getElem?_append_left (by simp; omega)]
  refine ⟨fH, kp, so, by simp [L2.start, hl], fun i s e => ?_, fun i j ds es p e1 e2 e3 e4 => ?_⟩
  · rcases get i s e with ⟨hi, e⟩ | e
    · have := sl i s e
      rw [gv i hi]; exact this
    · subst e; trivial
  · rcases get i _ e1 with ⟨hi, e1⟩ | e1
    · rcases get j _ e2 with ⟨hj, e2⟩ | e2
      · rw [gv i hi, List.getElem?_map] at e3
        rw [gv j hj, List.getElem?_map] at e4
        refine ap i j ds es p e1 e2 ?_ ?_
        · cases h : vs[i]? with
          | none => rw [h] at e3; cases e3
          | some v => rw [h] at e3; cases e3; rfl
        · cases h : vs[j]? with
          | none => rw [h] at e4; cases e4
          | some v => rw [h] at e4; cases e4; rfl
      · cases e2
    · cases e1
theorem rpAll_sl {G : Gx} {B : Hp} {F : Fz} {H : Hp} : ∀ {vs : List V} {ds : List D}, RpAll G F vs ds → ∀ (i : Nat) (s : Sl), (ds.map Sl.d)[i]? = some s → SlOk G B F H ((vs.map some)[i]?) s
  | vs, ds, r, i, s, e => by
    rw [List.getElem?_map] at e
    cases h : ds[i]? with
    | none => rw [h] at e; cases e
    | some d =>
      rw [h] at e; cases e
      obtain ⟨v, hv, rv⟩ := r.get h
      exact ⟨v, by rw [List.getElem?_map, hv]; rfl, rv⟩
/-- f(..) with data, a new list back -/
def coE (c : CallO) (fa : Ev (List Opd)) : Ev Ow := fun S st => (fa S st).bind fun a S st => match vds S a with
  | some ds => match c (ds.map .d) st with
    | .ok w _ st => .ok w S st
    | .exc x _ st => .exc x S st
    | .stuck => .stuck
  | none => .stuck
/-- f(x, ..), x a list of one's own, given away -/
def coF (c : CallO) (j : Nat) (fa : Ev (List Opd)) : Ev Ow := fun S st => match S[j]? with
  | some (.own _) => (fa S st).bind fun a S st => match vds S a, S[j]? with
    | some ds, some (.own w) => match c (.own w :: ds.map .d) st with
      | .ok w _ st => .ok w (S.set j .no) st
      | .exc x _ st => .exc x (S.set j .no) st
      | .stuck => .stuck
    | _, _ => .stuck
  | _ => .stuck
section
variable {X : Cx} {B : Hp} {W : WX} {e y : Expr} {es : List Expr} {pos p : Pos} {k : Nat} {x : Str} {n : Nat} {c : CallO}
theorem df_co {fa : Ev (List Opd)} (d : DefO X.prog X.w X.K X.mg X.base k x n c) (hr : Room k X.A) (tk : Takes X W) (ha : DA X B W (e :: es) fa) (hl : aLen fa n := by repeat (first | exact aLen_n | refine aLen_c ?_)) (hg : Gl X x := by rfl) (hdb : (x == ("__debug__" : Str)) = false := by decide)
    (he : starEach (e :: es) X.env = (false, eval e X.env) :: starEach es X.env := by rfl) (hpl : (backTo pos (starEach es X.env)).any (·.1) = false := by rfl) : DF X B W (.Call (.Name x p) (e :: es) [] pos) (coE c fa) := by
  obtain ⟨f, fd, ps, F, hb, hm, hk⟩ := d.ex
  refine pe_imp (pe_callS F hr hg hm hk hb (fun σ => passAt tk σ) ha hdb he hpl) fun σ H Q ⟨F0, S, st, o, q⟩ => ?_
  unfold coE at q
  have hl' := hl S st
  generalize hfa : fa S st = r at q hl'
  have key : Post (Cx.g X) B W (RpO (Cx.g X) σ) σ F0 (fun vs H1 => spOwn (Cx.g X) n c vs H1 Q (WE W σ)) r := by
    cases r with
    | exc z S1 st1 => exact q
    | stuck => exact q
    | ok as S1 st1 =>
      intro vs H1 F1 g1 o1 r1
      have q : PostF (Cx.g X) B W σ F0 Q (match vds S1 as with
        | some ds => match c (ds.map .d) st1 with
          | .ok w _ st => .ok w S1 st
          | .exc x _ st => .exc x S1 st
          | .stuck => .stuck
        | none => .stuck) := q
      split at q
      · rename_i ds hds
        have ra := o1.vds r1 hds
        have hn := hl' _ _ _ rfl
        have hv := rpO_len r1
        refine ⟨by omega, hid F1.m H1, F1, ds.map .d, st1, by rw [List.length_map, ← ra.length]; omega, fun N hN => start_ok o1.fH (hid_same _ _) o1.so.hid (by rw [List.length_map]; exact ra.length) (rpAll_sl ra) (fun i j a b p e1 _ _ _ => ?_) (by rw [List.length_map, ← ra.length]; omega), ?_⟩
        · rw [List.getElem?_map] at e1
          cases h : ds[i]? with
          | none => rw [h] at e1; cases e1
          | some d => rw [h] at e1; cases e1
        · revert q
          generalize c (ds.map .d) st1 = r2
          intro q
          cases r2 with
          | ok w S2 st2 =>
            intro p u H' F' g k' f so hu hF hB rr hm
            obtain ⟨gb, o2⟩ := o1.back k' f g so
            refine q p u H' F' (g1.trans gb) o2 hu hF (o1.hidB hB) rr hm fun j es e1 e2 => ?_
            obtain ⟨p', u', e3, h1, _, _, _, nm⟩ := o1.sl j _ e1
            rw [e2] at e3; cases e3
            rw [hid_out nm, h1] at hB; cases hB
          | exc z S2 st2 => exact fun cls dd H' F' g k' f so rr => q cls dd H' F' (g1.trans (o1.back k' f g so).1) (o1.back k' f g so).2 rr
          | stuck => exact q.elim
      · exact q.elim
  exact ⟨F0, S, st, o, by rw [hfa]; exact key⟩
theorem df_cof {j : Nat} {fa : Ev (List Opd)} (d : DefO X.prog X.w X.K X.mg X.base k x (n + 1) c) (hr : Room k X.A) (tk : Takes X W) (hy : PE X y (tVar j)) (ha : DA X B W (e :: es) fa) (hl : aLen fa n := by repeat (first | exact aLen_n | refine aLen_c ?_)) (hg : Gl X x := by rfl) (hdb : (x == ("__debug__" : Str)) = false := by decide)
    (he : starEach (y :: e :: es) X.env = (false, eval y X.env) :: starEach (e :: es) X.env := by rfl) (hpl : (backTo pos (starEach (e :: es) X.env)).any (·.1) = false := by rfl) : DF X B W (.Call (.Name x p) (y :: e :: es) [] pos) (coF c j fa) := by
  obtain ⟨f, fd, ps, F, hb, hm, hk⟩ := d.ex
  refine pe_imp (pe_callS F hr hg hm hk hb (fun σ => passAt tk σ) (pa_cons hy ha he) hdb he hpl) fun σ H Q ⟨F0, S, st, o, q⟩ => ?_
  unfold coF at q
  split at q
  · rename_i w0 hw0
    obtain ⟨p, u, e1, h1, h2, h3, r0, _⟩ := o.sl j _ hw0
    have hl' := hl S st
    generalize hfa : fa S st = r at q hl'
    have key : Post (Cx.g X) B W (RpO (Cx.g X) σ) σ F0 (fun vs H1 => spOwn (Cx.g X) (n + 1) c (.ref p :: vs) H1 Q (WE W σ)) r := by
      cases r with
      | exc z S1 st1 => exact q
      | stuck => exact q
      | ok as S1 st1 =>
        intro vs H1 F1 g1 o1 r1
        have q : PostF (Cx.g X) B W σ F0 Q (match vds S1 as, S1[j]? with
          | some ds, some (.own w) => match c (.own w :: ds.map .d) st1 with
            | .ok w _ st => .ok w (S1.set j .no) st
            | .exc x _ st => .exc x (S1.set j .no) st
            | .stuck => .stuck
          | _, _ => .stuck) := q
        split at q
        · rename_i ds w hds hw
          have ra := o1.vds r1 hds
          have hn := hl' _ _ _ rfl
          have hv := rpO_len r1
          obtain ⟨p', u, e1', k1, k2, k3, rw', nm⟩ := o1.sl j _ hw
          rw [e1] at e1'; cases e1'
          -- what the callee keeps: all but the list
          have kB : Same (fun a => if a = p then none else hid F1.m H1 a) H1 := fun a v q => by
            by_cases z : a = p
            · simp [z] at q
            · exact hid_same _ _ a v (by simpa [z] using q)
          have soB : StOk (Cx.g X) (fun a => if a = p then none else hid F1.m H1 a) F1 H1 st1 := ⟨o1.so.ml, o1.so.mn, fun n x a q1 q2 => by
            obtain ⟨z1, z2, z3⟩ := o1.so.hid.ob n x a q1 q2
            refine ⟨z1, ?_, z3⟩
            show (if a = p then none else hid F1.m H1 a) = none
            rw [z2]; split <;> rfl⟩
          refine ⟨by simp; omega, fun a => if a = p then none else hid F1.m H1 a, F1, .own w :: ds.map .d, st1, by simp [← ra.length]; omega, fun N hN => start_ok o1.fH kB soB (by simp [ra.length]) (fun i s e => ?_) (fun i j a b p e1 e2 _ _ => ?_) (by simp [← ra.length]; omega), ?_⟩
          · cases i with
            | zero =>
              simp at e; subst e
              exact ⟨p, u, by simp, k1, k2, by simp, rw', nm⟩
            | succ i =>
              have := rpAll_sl (B := fun a => if a = p then none else hid F1.m H1 a) (H := H1) ra i s (by simpa using e)
              cases s with
              | no => trivial
              | d x => exact this
              | own w => simp at e
          · have own0 : ∀ i a, (Sl.own w :: ds.map Sl.d)[i]? = some (.own a) → i = 0 := fun i a e => by
              cases i with
              | zero => rfl
              | succ i => simp at e
            rw [own0 i a e1, own0 j b e2]
          · revert q
            generalize c (.own w :: ds.map .d) st1 = r2
            intro q
            have back : ∀ {H' : Hp} {F' : Fz} {st' : Store}, Gr (fun a => if a = p then none else hid F1.m H1 a) F1 F' → Same (fun a => if a = p then none else hid F1.m H1 a) H' → Same F'.f H' → StOk (Cx.g X) (fun a => if a = p then none else hid F1.m H1 a) F' H' st' → Gr B F1 F' ∧ Ok (Cx.g X) B F' σ H' (S1.set j .no) st' := fun {H' F' st'} g kp f so => by
              have hB0 : ∀ a, (if a = p then none else hid F1.m H1 a) = none → B a = none := fun a z => by
                by_cases y : a = p
                · rw [y]; exact k3
                · rw [if_neg y] at z; exact o1.hidB z
              have nB : ∀ a, B a ≠ none → a ≠ p ∧ a ∉ F1.m := fun a z => ⟨fun y => z (by rw [y]; exact k3), fun y => by
                obtain ⟨_, _, n, x, _, _, q, _⟩ := o1.so.mem y; exact z q⟩
              refine ⟨⟨g.1, fun a z z' => hB0 a (g.2 a z z')⟩, f, fun a v q => ?_, ⟨so.ml, so.mn, fun n x a q1 q2 => ?_⟩, by rw [List.length_set]; exact o1.len, fun i s e => ?_, fun i1 j1 a1 b1 p1 q1 q2 q3 q4 => ?_⟩
              · obtain ⟨y1, y2⟩ := nB a (by rw [q]; simp)
                exact kp a v (by show (if a = p then none else hid F1.m H1 a) = _; rw [if_neg y1, hid_out y2]; exact o1.kp a v q)
              · obtain ⟨z1, z2, z3⟩ := so.ob n x a q1 q2
                exact ⟨z1, hB0 a z2, z3⟩
              · by_cases hi : j = i
                · have := set_lt e hi
                  subst hi
                  rw [List.getElem?_set_self this] at e; cases e; trivial
                · rw [List.getElem?_set_ne hi] at e
                  have h := o1.sl i s e
                  cases s with
                  | no => trivial
                  | d x =>
                    obtain ⟨v, a1, a2⟩ := h
                    exact ⟨v, a1, a2.mono g.1⟩
                  | own w2 =>
                    obtain ⟨p2, u2, a1, a2, a3, a4, a5, a6⟩ := h
                    have hp2 : p2 ≠ p := fun z => hi (o1.ap j i _ _ p hw e e1 (by rw [← z]; exact a1))
                    have hh : (if p2 = p then none else hid F1.m H1 p2) = some u2 := by rw [if_neg hp2, hid_out a6]; exact a2
                    refine ⟨p2, u2, a1, kp p2 u2 hh, ?_, a4, a5.mono g.1, fun z => ?_⟩
                    · cases z : F' p2 with
                      | none => rfl
                      | some v =>
                        have h9 : (if p2 = p then none else hid F1.m H1 p2) = none := g.2 p2 a3 (by rw [z]; simp)
                        rw [hh] at h9; cases h9
                    · obtain ⟨_, _, n, x, _, _, q, _⟩ := so.mem z
                      have q : (if p2 = p then none else hid F1.m H1 p2) = none := q
                      rw [hh] at q; cases q
              · have old : ∀ (i : Nat) (a : Ow), (S1.set j .no)[i]? = some (.own a) → S1[i]? = some (.own a) := fun i a e => by
                  by_cases hi : j = i
                  · have := set_lt e hi
                    subst hi
                    rw [List.getElem?_set_self this] at e; cases e
                  · rw [List.getElem?_set_ne hi] at e; exact e
                exact o1.ap i1 j1 a1 b1 p1 (old _ _ q1) (old _ _ q2) q3 q4
            cases r2 with
            | ok w' S2 st2 =>
              intro p2 u2 H' F' g k' f so hu hF hB rr hm
              obtain ⟨g', o2⟩ := back g k' f so
              have hB' : B p2 = none := by
                by_cases y : p2 = p
                · rw [y]; exact k3
                · exact o1.hidB (by simpa [y] using hB)
              refine q p2 u2 H' F' (g1.trans g') o2 hu hF hB' rr hm fun i es e e2 => ?_
              by_cases hi : j = i
              · have := set_lt e hi
                subst hi
                rw [List.getElem?_set_self this] at e; cases e
              · rw [List.getElem?_set_ne hi] at e
                obtain ⟨p3, u3, a1, a2, _, _, _, a6⟩ := o1.sl i _ e
                rw [e2] at a1; cases a1
                have hp2 : p2 ≠ p := fun z => hi (o1.ap j i _ _ p hw e e1 (by rw [← z]; exact e2))
                simp [hp2] at hB
                rw [hid_out a6, a2] at hB; cases hB
            | exc z S2 st2 =>
              intro cls dd H' F' g k' f so rr
              obtain ⟨g', o2⟩ := back g k' f so
              exact q cls dd H' F' (g1.trans g') o2 rr
            | stuck => exact q.elim
        · exact q.elim
    exact ⟨_, e1, F0, S, st, o, by rw [hfa]; exact key⟩
  · exact q.elim
end
end DL
namespace DL
open PySem PySem.Spec PyProof.Rows L2
section
variable {S : Sls} {st : Store}
@[simp] theorem oZ_a (i : Nat) : oZ i S st = match S[i]? with | some (.own w) => .ok w (S.set i .no) st | _ => .stuck := rfl
@[simp] theorem sRO_a (f : Ev Ow) : sRO f S st = (f S st).out fun w S st => .rto w S st := rfl
@[simp] theorem coE_a (c : CallO) (fa : Ev (List Opd)) : coE c fa S st = (fa S st).bind fun a S st => match vds S a with
  | some ds => match c (ds.map .d) st with
    | .ok w _ st => .ok w S st
    | .exc x _ st => .exc x S st
    | .stuck => .stuck
  | none => .stuck := rfl
@[simp] theorem coF_a (c : CallO) (j : Nat) (fa : Ev (List Opd)) : coF c j fa S st = match S[j]? with
  | some (.own _) => (fa S st).bind fun a S st => match vds S a, S[j]? with
    | some ds, some (.own w) => match c (.own w :: ds.map .d) st with
      | .ok w _ st => .ok w (S.set j .no) st
      | .exc x _ st => .exc x (S.set j .no) st
      | .stuck => .stuck
    | _, _ => .stuck
  | _ => .stuck := rfl
theorem runBO_a (N : Nat) (b : EvS) (ss : List Sl) : runBO N b ss st = match b (ss ++ List.replicate (N - ss.length) .no) st with
  | .rto w _ st => .ok w [] st
  | .exc x _ st => .exc x [] st
  | _ => .stuck := rfl
end
end DL


namespace DL
open PySem PySem.Spec PyProof.Rows L2
/-! ### set(x): what set makes, and what fills it -/
/-- the empty set, as set makes it -/
def noSet (w : World) : Obj := { cls := .type "set", dict := none, data := .set #[] 0 (.fresh 0 0 (!w.params.followText "set-order")) }
/-- s with an empty set behind all -/
def withSet (w : World) (s : Shared) : Shared := { s with heap := s.heap.push (noSet w) }
section
variable {P : Program} {w : World} {A : Around} {E : Value → Shared → Prop} {s : Shared}
theorem withSet_get : (withSet w s).heap.get? s.heap.objs.size = some (noSet w) := Heap.get?_push_size _ rfl
theorem withSet_old {b : Addr} {o : Obj} (e : s.heap.get? b = some o) : (withSet w s).heap.get? b = some o := Heap.get?_push_of_some _ e
/-- what a run told may be handed on -/
theorem run_with {M : Model} {c : Code} {Q1 : Value → Shared → Prop} {R : Result → Shared → Prop} (h : codeAny M A c (wants Q1 E) s) (k : ∀ v t, Q1 v t → R (.ok (.ret v)) t) (x : ∀ e t, E e t → R (.error e) t) : codeAny M A c R s :=
  codeAny_mono h fun r t q => match r, q with
    | .ok (.ret v), q => k v t q
    | .error e, q => x e t q
/-- set(x), by what fills the empty set from x -/
theorem set_by {x : Value} {Q : Value → Shared → Prop}
    (fill : codeAny (model P w) A.in1 (.call (.builtin "set.__init__") ⟨[.ref s.heap.objs.size, x], []⟩) (wants (fun r s2 => r = .none ∧ Q (.ref s.heap.objs.size) s2) E) (withSet w s)) :
    wpAny (model P w) A (call (.type "set") [x]) Q E s := by
  have FT := F.called_set
  have made := code_set_led1 (P := P) (w := w) (A := A.in1) (s := s) (E := E) x (Q₁ := fun o t => o = .ref s.heap.objs.size ∧ t = withSet w s) ⟨rfl, rfl⟩
  apply wpAny_call
  apply codeAny_of_tree
  apply wpAny_pure
  constructor
  · exact Code.quiet_builtin _ (by decide +kernel)
  apply codeAny_builtin F.entry_type_call
  rw [show Around.under A (.builtin "type.__call__" _) = A.in1 from Around.under_plain (c := .builtin "type.__call__" ⟨[.type "set", x], []⟩) rfl rfl]
  have := FT.notType
  have := FT.canCreate
  have := F.typeCall_set_1 x
  obtain ⟨top, others, line⟩ := FT.mro
  have := FT.made
  have := FT.sub
  repeat (any_goals (first | assumption | wp_step))
  apply run_with made (fun o t m => ?_) fun _ _ q => q
  obtain ⟨rfl, rfl⟩ := m
  have isT : Shared.TypeIs (withSet w s) (.ref s.heap.objs.size) "set" := ⟨_, withSet_get, rfl⟩
  have := FT.init.lookup
  have := FT.init.bind (.ref s.heap.objs.size)
  repeat (any_goals (first | assumption | wp_step))
  apply run_with fill (fun o t m => ?_) fun _ _ q => q
  obtain ⟨rfl, q⟩ := m
  repeat (any_goals (first | assumption | wp_step))
/-- what walks along a list, behind the empty set -/
def onList (w : World) (s : Shared) (l : Addr) : Shared := { withSet w s with heap := (withSet w s).heap.push { cls := .type "list_iterator", data := .fields #[.ref l, .int 0 0] } }
/-- set(l) of a list l, by what puts its things in one by one -/
theorem set_by_list {l : Addr} {items : Array Value} {Q : Value → Shared → Prop} (hl : s.heap.IsList l items)
    (go : codeAny (model P w) A.in1.in1 (.builtin "set.update.loop" ⟨[.ref s.heap.objs.size, .ref (s.heap.objs.size + 1)], []⟩) (wants (fun _ s2 => Q (.ref s.heap.objs.size) s2) E) (onList w s l)) :
    wpAny (model P w) A (call (.type "set") [.ref l]) Q E s := by
  apply set_by
  have isT : Shared.TypeIs (withSet w s) (.ref s.heap.objs.size) "set" := ⟨_, withSet_get, rfl⟩
  have hl2 : (withSet w s).heap.IsList l items := hl.push _
  have isL : Shared.TypeIs (withSet w s) (.ref l) "list" := hl2.typeIs
  have at0 := withSet_get (w := w) (s := s)
  have := F.sub_list_set
  have := F.sub_list_frozenset
  apply codeAny_call_builtin F.called_set.init.plain F.entry_set_init
  apply check_set_init_1 isT
  unfold Builtin.«set.__init__» Builtin.Frozenset.updateFrom noKeywords
  have walk : ∀ (K : Value → Shared → Prop) (X : Value → Shared → Prop), K (.ref (withSet w s).heap.objs.size) (onList w s l) → wpAny (model P w) A.in1.in1 (pyIter (.ref l)) K X (withSet w s) := fun K X q => wpAny_pyIter_list hl2 q
  generalize (pyIter : Value → Sem Value) = iter at walk ⊢
  have no : (Value.type "list" == Value.type "dict") = false := by decide
  have zz : (withSet w s).heap.objs.size = s.heap.objs.size + 1 := Heap.size_push ..
  rw [zz] at walk
  generalize withSet w s = s1 at *
  wp_walk
  apply walk
  apply wpAny_bind
  apply wpAny_runValue
  exact run_with go (fun _ _ q => wpAny_pure (wpAny_pure ⟨rfl, q⟩)) fun _ _ q => q
/-- a list's things, put one by one into the set at S; G i: so stands the set when i of them are in -/
theorem fill_list {l I S : Addr} {items : Array Value} {G : Nat → Heap → Prop} {K : Value → Shared → Prop} (hh : A.handled = none) (lI : l ≠ I) (sI : S ≠ I) (sl : S ≠ l)
    (keep : ∀ i h h', G i h → (∀ o, h.get? S = some o → h'.get? S = some o) → G i h')
    (add : ∀ i x (t : Shared) (B : Bool → Shared → Prop) (X : Value → Shared → Prop), items[i]? = some x → G i t.heap → (∀ r h' tk, Heap.SameBut S t.heap h' → G (i + 1) h' → B r { t with heap := h', toks := tk }) → wpAny (model P w) A.in1 (setAdd S x) B X t) :
    ∀ (m i : Nat) (t : Shared), i + m = items.size → t.heap.IsListIter I l i → t.heap.IsList l items → G i t.heap →
      (∀ h' tk, G items.size h' → (∀ b o, b ≠ S → b ≠ I → t.heap.get? b = some o → h'.get? b = some o) → K .none { t with heap := h', toks := tk }) →
      codeAny (model P w) A (.builtin "set.update.loop" ⟨[.ref S, .ref I], []⟩) (wants K E) t := by
  have turns : PySem.Walks P w A.in1 I [I, l] [I] items.size _ _ := PySem.Walks.list (A := A.in1) hh I l lI items
  have off : S ∉ [I] := fun z => sI (List.mem_singleton.mp z)
  intro m
  induction m with
  | zero =>
    intro i t e it li g fin
    obtain rfl : i = items.size := e
    apply codeAny_builtin PyProof.Rows.F.entry_set_update_loop
    rw [show Around.under A (.builtin "set.update.loop" ⟨[.ref S, .ref I], []⟩) = A.in1 from A.under_plainId (by decide +kernel) _]
    refine wpAny_bind ?_
    apply turns.done t _ _ ⟨it, li⟩
    intro h' tk k
    exact wpAny_pure (fin h' tk (keep _ _ _ g fun o q => k S o off q) fun b o _ bI q => k b o (fun z => bI (List.mem_singleton.mp z)) q)
  | succ m ih =>
    intro i t e it li g fin
    apply codeAny_builtin PyProof.Rows.F.entry_set_update_loop
    rw [show Around.under A (.builtin "set.update.loop" ⟨[.ref S, .ref I], []⟩) = A.in1 from A.under_plainId (by decide +kernel) _]
    refine wpAny_bind ?_
    apply turns.item i t _ _ (by omega) ⟨it, li⟩
    intro x h1 k1 hx st1 k
    apply wpAny_bind
    apply wpAny_holding
    apply add i x _ _ _ hx (keep _ _ _ g fun o q => k S o off q)
    intro r h2 k2 sb g2
    have old : ∀ b o, b ≠ S → h1.get? b = some o → h2.get? b = some o := fun b o z q => by rw [sb.2 b z]; exact q
    refine wpAny_pure ⟨plainId_quiet (by decide +kernel) _, ih (i + 1) _ (by omega) (st1.1.at fun o q => old _ _ (Ne.symm sI) q) (st1.2.at fun o q => old _ _ (Ne.symm sl) q) g2 ?_⟩
    intro h3 k3 g3 k'
    exact fin h3 k3 g3 fun b o bS bI q => k' b o bS bI (old b o bS (k b o (fun z => bI (List.mem_singleton.mp z)) q))
/-- set(l) of a list l, G as in fill_list -/
theorem set_of_list {l : Addr} {items : Array Value} {Q : Value → Shared → Prop} (G : Nat → Heap → Prop) (hh : A.handled = none) (hl : s.heap.IsList l items)
    (keep : ∀ i h h', G i h → (∀ o, h.get? s.heap.objs.size = some o → h'.get? s.heap.objs.size = some o) → G i h') (g0 : G 0 (withSet w s).heap)
    (add : ∀ i x (t : Shared) (B : Bool → Shared → Prop) (X : Value → Shared → Prop), items[i]? = some x → G i t.heap → (∀ r h' tk, Heap.SameBut s.heap.objs.size t.heap h' → G (i + 1) h' → B r { t with heap := h', toks := tk }) →
      wpAny (model P w) A.in1.in1.in1 (setAdd s.heap.objs.size x) B X t)
    (fin : ∀ h' tk, G items.size h' → (∀ b o, s.heap.get? b = some o → h'.get? b = some o) → Q (.ref s.heap.objs.size) { s with heap := h', toks := tk }) :
    wpAny (model P w) A (call (.type "set") [.ref l]) Q E s := by
  have lt : l < s.heap.objs.size := hl.elim fun _ q => Heap.lt_size q.1
  have top : (withSet w s).heap.objs.size = s.heap.objs.size + 1 := Heap.size_push ..
  apply set_by_list hl
  apply fill_list (A := A.in1.in1) (G := G) hh (Nat.ne_of_lt (Nat.lt_succ_of_lt lt)) (Nat.ne_of_lt (Nat.lt_succ_self _)) (Nat.ne_of_gt lt) keep add items.size 0 (onList w s l) (Nat.zero_add _)
  · exact ⟨{ cls := .type "list_iterator", data := .fields #[.ref l, .int 0 0] }, by
      have := Heap.get?_push_size (withSet w s).heap (o := { cls := .type "list_iterator", data := .fields #[.ref l, .int 0 0] }) rfl
      rw [top] at this; exact this, rfl, rfl⟩
  · exact (hl.push _).push _
  · exact keep _ _ _ g0 fun o q => Heap.get?_push_of_some _ q
  · intro h' tk g k
    refine fin h' tk g fun b o q => ?_
    have := Heap.lt_size q
    exact k b o (Nat.ne_of_lt this) (Nat.ne_of_lt (Nat.lt_succ_of_lt this)) (Heap.get?_push_of_some _ (Heap.get?_push_of_some _ q))
/-- set(l), l a list of whole numbers -/
theorem set_ints {l : Addr} {items : Array Value} {ns : List Int} {Q : Value → Shared → Prop} (hh : A.handled = none) (hl : s.heap.IsList l items) (hi : IntsAre items.toList ns) (hb : ns.length < 2000)
    (fin : ∀ h' tk c, SetR w h' s.heap.objs.size (fun j => decide (j ∈ ns)) c → (∀ b o, s.heap.get? b = some o → h'.get? b = some o) → Q (.ref s.heap.objs.size) { s with heap := h', toks := tk }) :
    wpAny (model P w) A (call (.type "set") [.ref l]) Q E s := by
  have len : ns.length = items.size := by rw [← Array.length_toList]; exact hi.length.symm
  apply set_of_list (fun i h => ∃ c, c ≤ i ∧ SetR w h s.heap.objs.size (fun j => decide (j ∈ ns.take i)) c) hh hl
  · rintro i h h' ⟨c, lc, R⟩ k
    exact ⟨c, lc, R.at k⟩
  · exact ⟨0, Nat.le_refl _, setR_new_at (ns := ns) withSet_get⟩
  · rintro i x t B X hx ⟨c, lc, R⟩ go
    have hi2 : i < items.size := (Array.getElem?_eq_some_iff.mp hx).1
    obtain ⟨tk, rfl⟩ := IntsAre.int_at hi i x (by rw [Array.getElem?_toList]; exact hx)
    apply wpAny_holding
    refine wpAny_bind ((intKind P w).pyHash (intKind_is P w _ tk) ?_)
    refine setR_add_hashed (s := { t with toks := t.toks + 1 }) R (by unfold scanBound; omega) fun h' sb R2 => go _ h' _ sb ⟨_, ?_, R2.congr fun j => ?_⟩
    · split <;> omega
    · rw [List.take_add_one, List.getD_eq_getElem?_getD, List.getElem?_eq_getElem (by omega)]
      rw [Bool.eq_iff_iff]; simp only [Bool.or_eq_true, decide_eq_true_eq, List.mem_append, Option.toList, Option.getD, List.mem_singleton]
  · rintro h' tk ⟨c, _, R⟩ k
    exact fin h' tk c (R.congr fun j => by rw [List.take_of_length_le (by omega)]) k
/-- how many unlike ones the first i are -/
def few (xs : List Str) : Nat → Nat
  | 0 => 0
  | i + 1 => if xs.getD i Str.empty ∈ xs.take i then few xs i else few xs i + 1
theorem few_le (xs : List Str) : ∀ i, few xs i ≤ i
  | 0 => Nat.le_refl _
  | i + 1 => by have := few_le xs i; unfold few; split <;> omega
/-- set(l), l a list of texts -/
theorem set_strs {l : Addr} {items : Array Value} {xs : List Str} {Q : Value → Shared → Prop} (hh : A.handled = none) (hl : s.heap.IsList l items) (hi : StrsAre items.toList xs) (hb : xs.length < 2000)
    (fin : ∀ h' tk, h'.SetOf (PySem.strKind P w) s.heap.objs.size (fun k => decide (k ∈ xs)) (few xs xs.length) → (∀ b o, s.heap.get? b = some o → h'.get? b = some o) → Q (.ref s.heap.objs.size) { s with heap := h', toks := tk }) :
    wpAny (model P w) A (call (.type "set") [.ref l]) Q E s := by
  have len : xs.length = items.size := by rw [← Array.length_toList]; exact hi.length.symm
  apply set_of_list (fun i h => h.SetOf (PySem.strKind P w) s.heap.objs.size (fun k => decide (k ∈ xs.take i)) (few xs i)) hh hl
  · rintro i h h' ⟨o, es, ep, tb, ho, r⟩ k
    exact ⟨o, es, ep, tb, k o ho, r⟩
  · exact SetOf_congr ((setObjOf_fresh (knd := PySem.strKind P w) _).setOf withSet_get (by decide)) (fun _ => by simp) rfl
  · rintro i x t B X hx R go
    have hi2 : i < items.size := (Array.getElem?_eq_some_iff.mp hx).1
    obtain ⟨tk, rfl⟩ := SS.strs_at hi i x (by rw [Array.getElem?_toList]; exact hx)
    have is1 := strKind_is P w (xs.getD i Str.empty) tk
    have := few_le xs i
    apply wpAny_holding
    refine wpAny_bind ((PySem.strKind P w).pyHash is1 ?_)
    refine wpAny_setAddHashed_of (knd := PySem.strKind P w) (s := { t with toks := t.toks + 1 }) is1 rfl R (by unfold scanBound; omega) fun h' sb R2 => go _ h' _ sb (SetOf_congr R2 (fun k => ?_) ?_)
    · rw [List.take_add_one, List.getD_eq_getElem?_getD, List.getElem?_eq_getElem (by omega)]
      rw [Bool.eq_iff_iff]; simp only [Bool.or_eq_true, decide_eq_true_eq, List.mem_append, Option.toList, Option.getD, List.mem_singleton]
    · rw [few]; simp
  · intro h' tk R k
    rw [len.symm] at R
    exact fin h' tk (SetOf_congr R (fun k => by rw [List.take_length]) rfl) k
end
end DL

namespace DL
open PySem PySem.Spec PyProof.Rows L2
def ins (x : Int) : List Int → List Int
  | [] => [x]
  | y :: r => if x < y then x :: y :: r else if x = y then y :: r else y :: ins x r
def srt : List Int → List Int
  | [] => []
  | x :: r => ins x (srt r)
theorem mem_ins {x z : Int} : ∀ {l : List Int}, z ∈ ins x l ↔ z = x ∨ z ∈ l
  | [] => by simp [ins]
  | y :: r => by
    unfold ins
    split
    · simp
    · split
      · rename_i h; subst h; simp
      · simp only [List.mem_cons, mem_ins (l := r)]
        constructor
        · rintro (h | h | h)
          · exact .inr (.inl h)
          · exact .inl h
          · exact .inr (.inr h)
        · rintro (h | h | h)
          · exact .inr (.inl h)
          · exact .inl h
          · exact .inr (.inr h)
theorem mem_srt {z : Int} : ∀ {l : List Int}, z ∈ srt l ↔ z ∈ l
  | [] => Iff.rfl
  | x :: r => by rw [srt, mem_ins, mem_srt (l := r), List.mem_cons]
theorem pw_ins {x : Int} : ∀ {l : List Int}, l.Pairwise (· < ·) → (ins x l).Pairwise (· < ·)
  | [], _ => by simp [ins]
  | y :: r, h => by
    rw [List.pairwise_cons] at h
    unfold ins
    split
    · rename_i hx
      rw [List.pairwise_cons]
      exact ⟨fun z hz => by
        rcases List.mem_cons.mp hz with e | e
        · rw [e]; exact hx
        · exact Int.lt_trans hx (h.1 z e), List.pairwise_cons.mpr h⟩
    · split
      · exact List.pairwise_cons.mpr h
      · rw [List.pairwise_cons]
        exact ⟨fun z hz => by
          rcases mem_ins.mp hz with e | e
          · rw [e]; omega
          · exact h.1 z e, pw_ins h.2⟩
theorem pw_srt : ∀ {l : List Int}, (srt l).Pairwise (· < ·)
  | [] => List.Pairwise.nil
  | x :: r => pw_ins pw_srt
theorem pw_uniq : ∀ {l m : List Int}, l.Pairwise (· < ·) → m.Pairwise (· < ·) → (∀ z, z ∈ l ↔ z ∈ m) → l = m
  | [], [], _, _, _ => rfl
  | [], y :: r, _, _, h => by have := (h y).mpr (List.mem_cons_self ..); cases this
  | x :: r, [], _, _, h => by have := (h x).mp (List.mem_cons_self ..); cases this
  | x :: r, y :: s, h1, h2, h => by
    rw [List.pairwise_cons] at h1 h2
    have e : x = y := by
      have a := (h x).mp (List.mem_cons_self ..)
      have b := (h y).mpr (List.mem_cons_self ..)
      rcases List.mem_cons.mp a with a | a
      · exact a
      · rcases List.mem_cons.mp b with b | b
        · exact b.symm
        · have := h1.1 y b; have := h2.1 x a; omega
    subst e
    rw [pw_uniq h1.2 h2.2 fun z => ⟨fun m => by
      rcases List.mem_cons.mp ((h z).mp (List.mem_cons_of_mem _ m)) with e | e
      · rw [e] at m; have := h1.1 x m; omega
      · exact e, fun m => by
      rcases List.mem_cons.mp ((h z).mpr (List.mem_cons_of_mem _ m)) with e | e
      · rw [e] at m; have := h2.1 x m; omega
      · exact e⟩]
/-! ### sorted(set(x)), x a list of ints -/
def tSrtSet (K : PySem.W.Frag) (te : TE) : TE := fun σ H Q => te σ H fun v H1 => ∃ (a : Addr) (ns : List Int), v = .ref a ∧ SqL K H1 a (ns.map V.int) ∧ ns.length < 1000 ∧ (srt ns).length < 64 ∧ ∀ q, H1 q = none → Q (.ref q) (upd H1 q (.lst ((srt ns).map V.int)))
section
variable {X : Cx} {B : Hp} {W : WX}
theorem pe_srtSet {e : Expr} {te : TE} {p p2 pos pos2 : Pos} (hc : X.calm = true) (hg : Gl X "sorted") (hm : X.mg "sorted" = none) (hg2 : Gl X "set") (hm2 : X.mg "set" = none) (he : PE X e te)
    (hs : starEach [e] X.env = (false, eval e X.env) :: starEach [] X.env := by rfl)
    (hs2 : starEach [.Call (.Name "set" p2) [e] [] pos2] X.env = (false, eval (.Call (.Name "set" p2) [e] [] pos2) X.env) :: starEach [] X.env := by rfl) :
    PE X (.Call (.Name "sorted" p) [.Call (.Name "set" p2) [e] [] pos2] [] pos) (tSrtSet X.K te) := by
  refine ⟨fun pins s σ H Q I h => ?_⟩
  refine Call_ (ld_blt (u := .builtin "sorted") I hg hm (by decide +kernel) ?_)
  refine PyProof.Rows.callWith_builtin1 (PyProof.Rows.args_cons ?_ rfl) rfl rfl
  refine Call_ (ld_blt I hg2 hm2 PyProof.Rows.boot_set ?_)
  refine PyProof.Rows.callWith_type1 (PyProof.Rows.args_cons (thn (he.run pins s σ H _ I h) fun u s1 ⟨v, H1, I1, r1, q1⟩ => PyProof.Rows.args_nil ?_) hs) hs rfl
  obtain ⟨a, ns, ev, hq, h1000, h64, q⟩ := q1
  subst ev
  obtain rfl : u = Value.ref a := r1
  obtain ⟨its, rv, p', hz⟩ := I1.list hq
  refine set_ints (I1.ok.hd hc) p'.isList (by simpa using rv.ints) (by omega) fun h' tk c R hk => PyProof.Rows.args_nil ?_
  have I2 : Inv X pins σ H1 { s1 with heap := h', toks := tk } := I1.kept hk
  have hc64 : c = (srt ns).length := by
    obtain ⟨o, es, ep, t, ho, hx, hd, hg, nd, hS, hb, hf, hn, _⟩ := id R
    have pm : (es.toList.map keyOf).Perm (srt ns) := (List.perm_ext_iff_of_nodup nd ((pw_srt (l := ns)).imp fun h => Int.ne_of_lt h)).mpr fun z => by
      rw [← hS z, mem_srt, decide_eq_true_eq]
    have := pm.length_eq
    rw [List.length_map, Array.length_toList, hn] at this
    exact this
  refine sorted_set (s := { s1 with heap := h', toks := tk }) R (I1.ok.hd hc) (by omega) fun s' pp out cc ks k g o hp hgg hi hss hmm hl => ?_
  have eks : ks = srt ns := pw_uniq hss pw_srt fun z => by rw [hmm z, mem_srt, decide_eq_true_eq]
  subst eks
  have hlen : ((srt ns).map V.int).length ≤ sizeLine := by rw [List.length_map, sizeLine_eq]; omega
  have hn : H1 pp = none := I2.hok.fresh hp
  have J : Inv X pins σ (upd H1 pp (.lst ((srt ns).map V.int))) { ({ s1 with heap := h', toks := tk } : Shared) with heap := s'.heap, gens := s'.gens, drawn := s'.drawn, toks := s'.toks } :=
    I2.call (ch := []) (Un.laid k hp hn) (I2.hok.laid k hp ⟨hlen, out.toList, cc, vals_of_ints hi, hgg⟩) (by rw [g]; exact I2.bare) (fun _ z => nomatch z)
  have e : s' = { ({ s1 with heap := h', toks := tk } : Shared) with heap := s'.heap, gens := s'.gens, drawn := s'.drawn, toks := s'.toks } := by
    cases s'
    cases s1
    cases o
    rfl
  rw [e]
  exact ⟨.ref pp, _, J, rfl, q pp hn⟩
def oSrt (fa : Ev Opd) : Ev Ow := fun S st => (fa S st).bind fun a S st => match vw S st a with
  | some x => match asL x with
    | some ds => match intsD ds with
      | some ns => if ns.length < 1000 ∧ (srt ns).length < 64 then .ok (.l ((srt ns).map .int)) S st else .stuck
      | none => .stuck
    | none => .stuck
  | _ => .stuck
theorem df_srtSet {e : Expr} {fa : Ev Opd} {p p2 pos pos2 : Pos} (hm : X.mg "sorted" = none) (hm2 : X.mg "set" = none) (he : DO X B W e fa) (hc : X.calm = true := by rfl) (hg : Gl X "sorted" := by rfl) (hg2 : Gl X "set" := by rfl)
    (hs : starEach [e] X.env = (false, eval e X.env) :: starEach [] X.env := by rfl)
    (hs2 : starEach [.Call (.Name "set" p2) [e] [] pos2] X.env = (false, eval (.Call (.Name "set" p2) [e] [] pos2) X.env) :: starEach [] X.env := by rfl) :
    DF X B W (.Call (.Name "sorted" p) [.Call (.Name "set" p2) [e] [] pos2] [] pos) (oSrt fa) :=
  pe_imp (pe_srtSet hc hg hm hg2 hm2 he hs hs2) fun σ H Q ⟨F, S, st, o, q⟩ => ⟨F, S, st, o, (PostF.bind (R := RO (Cx.g X) σ) q).mono fun v H1 ⟨F1, d, S1, st1, g1, o1, r1, p1⟩ => by
    split at p1
    · rename_i x hx
      split at p1
      · rename_i ds hds
        split at p1
        · rename_i ns hns
          split at p1
          · rename_i hl
            obtain ⟨a, xs, rfl, h1, h2⟩ := (o1.vw r1 hx).seqL o1.fH hds
            cases ints_eq hns
            cases rp_ints_inv h2
            exact ⟨a, ns, rfl, h1, hl.1, hl.2, fun q hq => p1.new o1 hq (.l (rp_ints (Cx.g X) F1 _))⟩
          · exact p1.elim
        · exact p1.elim
      · exact p1.elim
    · exact p1.elim⟩
@[simp] theorem oSrt_a (fa : Ev Opd) (S : Sls) (st : Store) : oSrt fa S st = (fa S st).bind fun a S st => match vw S st a with
  | some x => match asL x with
    | some ds => match intsD ds with
      | some ns => if ns.length < 1000 ∧ (srt ns).length < 64 then .ok (.l ((srt ns).map .int)) S st else .stuck
      | none => .stuck
    | none => .stuck
  | _ => .stuck := rfl
end
/-! ### len(set(x)), x a list of texts -/
def tLenSetS (K : PySem.W.Frag) (te : TE) : TE := fun σ H Q => te σ H fun v H1 => ∃ (a : Addr) (ys : List Str), v = .ref a ∧ SqL K H1 a (ys.map V.str) ∧ ys.length < 1000 ∧ Q (.int (few ys ys.length : Nat)) H1
theorem strs_vals : ∀ {ys : List Str} {us : List Value}, Vals (ys.map V.str) us → StrsAre us ys
  | [], _, .nil => .nil
  | _ :: _, _, .cons ⟨k, e⟩ t => by subst e; exact .cons _ k (strs_vals t)
section
variable {X : Cx} {B : Hp} {W : WX}
theorem pe_lenSetS {e : Expr} {te : TE} {p p2 pos pos2 : Pos} (hc : X.calm = true) (hg : Gl X "len") (hm : X.mg "len" = none) (hg2 : Gl X "set") (hm2 : X.mg "set" = none) (he : PE X e te)
    (hs : starEach [e] X.env = (false, eval e X.env) :: starEach [] X.env := by rfl) :
    PE X (.Call (.Name "len" p) [.Call (.Name "set" p2) [e] [] pos2] [] pos) (tLenSetS X.K te) := by
  constructor
  intro pins s σ H Q I h
  apply Call_ (ld_blt (u := .builtin "len") I hg hm boot_len _)
  apply PyProof.Rows.callWith_builtin1 (PyProof.Rows.args_cons _ rfl) rfl rfl
  apply Call_ (ld_blt I hg2 hm2 PyProof.Rows.boot_set _)
  apply PyProof.Rows.callWith_type1 (PyProof.Rows.args_cons (thn (he.run pins s σ H _ I h) _) hs) hs rfl
  rintro u s1 ⟨v, H1, I1, r1, a, ys, rfl, hq, short, q⟩
  apply PyProof.Rows.args_nil
  obtain rfl : u = Value.ref a := r1
  obtain ⟨us, ru, pl, _⟩ := I1.list hq
  apply set_strs (I1.ok.hd hc) pl.isList (by simpa using strs_vals ru) (by omega)
  intro h' tk S old
  apply PyProof.Rows.args_nil
  obtain ⟨o, es, ep, t, at1, ex, data, _, _, _, fits, many⟩ := S
  have := few_le ys ys.length
  apply call_len_set at1 ex data fits (by omega)
  rw [many]
  exact ⟨.int (few ys ys.length : Nat), H1, I1.kept (t' := tk + 1 + 1) old, ⟨_, rfl⟩, q⟩
def dLenSet : D → Option D := fun x => match asL x with
  | some ds => match strsD ds with
    | some ss => if ss.length < 1000 then some (.int (few (ss.map tx) ss.length : Nat)) else none
    | none => none
  | none => none
theorem de_lenSet {e : Expr} {fa : Ev Opd} {p p2 pos pos2 : Pos} (hm : X.mg "len" = none) (hm2 : X.mg "set" = none) (he : DO X B W e fa) (hc : X.calm = true := by rfl) (hg : Gl X "len" := by rfl) (hg2 : Gl X "set" := by rfl)
    (hs : starEach [e] X.env = (false, eval e X.env) :: starEach [] X.env := by rfl) :
    DE X B W (.Call (.Name "len" p) [.Call (.Name "set" p2) [e] [] pos2] [] pos) (o1E dLenSet fa) :=
  pe_imp (pe_lenSetS hc hg hm hg2 hm2 he hs) fun σ H Q ⟨F, S, st, o, q⟩ => ⟨F, S, st, o, (Post.bind (R := RO (Cx.g X) σ) q).mono fun v H1 ⟨F1, d, S1, st1, g1, o1, r1, p1⟩ => by
    split at p1
    · rename_i x hx
      obtain ⟨z, hz, p2⟩ := got_ok p1
      unfold dLenSet at hz
      split at hz
      · rename_i ds hds
        split at hz
        · rename_i ss hss
          split at hz
          · rename_i hl
            cases hz
            obtain ⟨a, xs, rfl, h1, h2⟩ := (o1.vw r1 hx).seqL o1.fH hds
            cases strs_eq hss
            cases rp_strs_inv h2
            exact ⟨a, _, rfl, h1, by rw [List.length_map]; exact hl, by rw [List.length_map]; exact p2 _ H1 F1 .refl o1 (.int _)⟩
          · cases hz
        · cases hz
      · cases hz
    · exact p1.elim⟩
theorem dLenSet_a (ss : List (List Nat)) (h : ss.length < 1000) : dLenSet (.lst (ss.map .str)) = some (.int (few (ss.map tx) ss.length : Nat)) := by simp [dLenSet, asL, h]
end
/-! ### divmod, bit_length -/
def dDm : List D → Option D
  | [.int i, .int j] => if 0 < j ∧ j.natAbs.log2 < 9000 then some (.tup [.int (i / j), .int (i % j)]) else none
  | _ => none
theorem op_dDm {G : Gx} : OpA G (fun xs H Q => ∃ i j, xs = [.int i, .int j] ∧ CDivP i j ∧ ∀ p, H p = none → Q (.ref p) (upd H p (.tup [.int (i / j), .int (i % j)]))) dDm := fun F H vs xs d f hv e => by
  unfold dDm at e
  split at e
  · rename_i i j
    split at e
    · rename_i h
      cases e
      have hc : CDivP i j := by
        refine ⟨h.1, ?_⟩
        have h0 : (j == 0) = false := beq_false_of_ne (by omega)
        show (decide ((if (j == 0) = true then 0 else j.natAbs.log2 / 30 + 1) > 300) && _) = false
        rw [h0]
        have : ¬ (j.natAbs.log2 / 30 + 1 > 300) := by omega
        simp [this]
      cases hv with | cons h1 t => cases t with | cons h2 t => cases t; cases h1.int_eq; cases h2.int_eq; exact gives_tup (.cons (.int _) (.one (.int _))) f fun Q q => ⟨_, _, rfl, hc, q⟩
    · cases e
  · cases e
@[simp] theorem dDm_a (i j : Int) (h0 : 0 < j) (h1 : j ≤ 10 ^ 200) : dDm [.int i, .int j] = some (.tup [.int (i / j), .int (i % j)]) := by
  have h2 : j.natAbs.log2 < 9000 := by
    have h3 : j.natAbs < 2 ^ 9000 := Nat.lt_of_le_of_lt (show j.natAbs ≤ 10 ^ 200 by omega) (by decide +kernel)
    exact (Nat.log2_lt (by omega)).mpr h3
  simp [dDm, h0, h2]
def dBits : D → Option D
  | .int i => some (.int (Builtin.Int.intBits i : Nat))
  | _ => none
section
variable {X : Cx} {B : Hp} {W : WX} {o : Expr} {pos apos : Pos}
theorem de_bits {fo : Ev Opd} (ho : DO X B W o fo) (hbase : attributeBase o "bit_length" X.env (eval o X.env) = eval o X.env := by rfl) (hline : (apos.endLine == pos.line) = true := by rfl) : DE X B W (.Call (.Attribute o "bit_length" apos) [] [] pos) (o1E dBits fo) :=
  pe_imp (pe_bits ho hbase hline) fun σ H Q ⟨F, S, st, o, q⟩ => ⟨F, S, st, o, (Post.bind (R := RO (Cx.g X) σ) q).mono fun v H1 ⟨F1, d, S1, st1, g1, o1, r1, p1⟩ => by
    split at p1
    · rename_i x hx
      obtain ⟨z, hz, p2⟩ := got_ok p1
      unfold dBits at hz
      split at hz
      · cases hz
        have := (o1.vw r1 hx).int_eq
        subst this
        exact ⟨_, rfl, p2 _ H1 F1 .refl o1 (.int _)⟩
      · cases hz
    · exact p1.elim⟩
end
/-! ### x += e of ints -/
def dAddI := dI0 fun i j => i + j
@[simp] theorem dAddI_a (i j : Int) : dAddI (.int i) (.int j) = some (.int (i + j)) := rfl
theorem op_dAddI {G : Gx} : Op2 G (ipI fun i j => i + j) dAddI := op2_I0
theorem op_dSubI {G : Gx} : Op2 G (ipI fun i j => i - j) dSub := op2_I0
end DL

namespace DL
open PySem PySem.Spec PyProof.Rows L2
/-- what a law's call is to come to -/
def LawOk (c : CallT) : Prop := ∀ ns : List Int, ns.length ≤ 63 → (∀ z ∈ ns, z.natAbs.log2 < 1048576) → ∃ st, c [.scr ns] [] = .ok (.bl true) [] st
def spLaw (K : PySem.W.Frag) : Sp := fun vs H Q _ => ∃ (a : Addr) (ns : List Int), vs = [.ref a] ∧ SqL K H a (ns.map V.int) ∧ ns.length ≤ 63 ∧ (∀ z ∈ ns, Builtin.Int.intBits z ≤ 1048576) ∧ ∀ H', Q (.bl true) H'
theorem law_imp {P : Program} {w : World} {K : PySem.W.Frag} {mg : Str → Option Value} {base : Heap} {CX : CXT} {k : Nat} {f : Addr} {fd : FuncData} {ps : List Str} {c : CallT} (h : LawOk c) (F : FnOk P w K mg base CX k f fd ps (spOf ⟨K, mg⟩ 1 c)) :
    FnOk P w K mg base CX k f fd ps (spLaw K) := F.imp fun vs H Q E ⟨a, ns, e, hS, hl, hb, q⟩ => by
  subst e
  obtain ⟨st, e⟩ := h ns hl fun z hz => by
    have := hb z hz
    by_cases h0 : z = 0
    · subst h0; decide
    · unfold Builtin.Int.intBits at this
      simp [h0] at this
      omega
  refine ⟨rfl, ⟨H, []⟩, [.scr ns], [], Same.refl H, ⟨rfl, List.nodup_nil, fun n x a e1 e2 => by simp at e1⟩, .one (.scr hS), ?_⟩
  rw [e]
  intro v H' F' _ _ _ _ r
  cases r
  exact q H'
end DL

namespace DL
open PySem PySem.Spec PyProof.Rows L2
/-! ### how a body computes: one row a form -/
/-- range(a, n) -/
def rgG (a n : Int) : Ev (List D) := fun S st => if (-1000000 ≤ a ∧ a ≤ 1000000) ∧ -1000000 ≤ n ∧ n ≤ 1000000 then .ok (rng (n - a).toNat a) S st else .stuck
@[simp] theorem rgG_ok (a n : Int) (S : Sls) (st : Store) (h0 : -1000000 ≤ a) (h1 : a ≤ 1000000) (h2 : -1000000 ≤ n) (h3 : n ≤ 1000000) : rgG a n S st = .ok (rng (n - a).toNat a) S st := if_pos ⟨⟨h0, h1⟩, h2, h3⟩
section
variable {S : Sls} {st : Store}
@[simp] theorem kE_a (d : D) : kE d S st = .ok d S st := rfl
@[simp] theorem vE_a (i : Nat) : vE i S st = match S[i]? with | some (.d d) => .ok d S st | _ => .stuck := rfl
@[simp] theorem zE_a (i : Nat) : zE i S st = match S[i]? with | some (.d d) => .ok d S st | some (.own w) => .ok w.d (S.set i (.d w.d)) st | _ => .stuck := rfl
@[simp] theorem oV_a (f : Ev D) : oV f S st = (f S st).bind fun d S st => .ok (.v d) S st := rfl
@[simp] theorem oS_a (i : Nat) : oS i S st = match S[i]? with | some .no => .stuck | none => .stuck | _ => .ok (.s i) S st := rfl
@[simp] theorem aN_a : aN S st = .ok [] S st := rfl
@[simp] theorem aC_a (f : Ev Opd) (g : Ev (List Opd)) : aC f g S st = (f S st).bind fun a S st => (g S st).bind fun r S st => .ok (a :: r) S st := rfl
@[simp] theorem vw_v (d : D) : vw S st (.v d) = some d := rfl
@[simp] theorem vd_v (d : D) : vd S (.v d) = some d := rfl
@[simp] theorem vd_h (n : Nat) : vd S (.h n) = some (.loc n) := rfl
@[simp] theorem vw_h (n : Nat) : vw S st (.h n) = match st[n]? with | some x => some x.d | none => none := rfl
@[simp] theorem Ob_o (w : Ow) : (Ob.o w).d = w.d := rfl
@[simp] theorem Ob_i (c : Nat) (fs : List (Nat × D)) : (Ob.i c fs).d = .obj c fs := rfl
@[simp] theorem vw_s (i : Nat) : vw S st (.s i) = match S[i]? with | some (.d d) => some d | some (.own w) => some w.d | _ => none := rfl
@[simp] theorem vd_s (i : Nat) : vd S (.s i) = match S[i]? with | some (.d d) => some d | _ => none := rfl
@[simp] theorem vws_n : vws S st [] = some [] := rfl
@[simp] theorem vws_c (o : Opd) (r : List Opd) : vws S st (o :: r) = match vw S st o, vws S st r with | some d, some ds => some (d :: ds) | _, _ => none := rfl
@[simp] theorem vds_n : vds S [] = some [] := rfl
@[simp] theorem vds_c (o : Opd) (r : List Opd) : vds S (o :: r) = match vd S o, vds S r with | some d, some ds => some (d :: ds) | _, _ => none := rfl
@[simp] theorem Ow_l (ds : List D) : (Ow.l ds).d = .lst ds := rfl
@[simp] theorem Ow_k (ds : List (D × D)) : (Ow.k ds).d = .dic ds := rfl
@[simp] theorem o2E_a (op : D → D → Option D) (fa fb : Ev Opd) : o2E op fa fb S st = (fa S st).bind fun a S st => (fb S st).bind fun b S st => match vw S st a, vw S st b with | some x, some y => got (op x y) S st | _, _ => .stuck := rfl
@[simp] theorem o1E_a (op : D → Option D) (fa : Ev Opd) : o1E op fa S st = (fa S st).bind fun a S st => match vw S st a with | some x => got (op x) S st | _ => .stuck := rfl
@[simp] theorem oAE_a (op : List D → Option D) (fa : Ev (List Opd)) : oAE op fa S st = (fa S st).bind fun a S st => match vws S st a with | some x => got (op x) S st | _ => .stuck := rfl
@[simp] theorem oAF_a (op : List D → Option Ow) (fa : Ev (List Opd)) : oAF op fa S st = (fa S st).bind fun a S st => match vws S st a with | some x => got (op x) S st | _ => .stuck := rfl
@[simp] theorem o2F_a (op : D → D → Option Ow) (fa fb : Ev Opd) : o2F op fa fb S st = (fa S st).bind fun a S st => (fb S st).bind fun b S st => match vw S st a, vw S st b with | some x, some y => got (op x y) S st | _, _ => .stuck := rfl
@[simp] theorem mE_a (T : String) (op : D → List D → Option D) (fo : Ev Opd) (fa : Ev (List Opd)) : mE T op fo fa S st = (fo S st).bind fun o S st => match vw S st o with
  | some y => if tyD T y = true then (fa S st).bind fun a S st => match vw S st o, vws S st a with | some y, some x => got (op y x) S st | _, _ => .stuck else .stuck
  | _ => .stuck := rfl
@[simp] theorem m0E_a (T : String) (op : D → Option D) (fo : Ev Opd) : m0E T op fo S st = (fo S st).bind fun o S st => match vw S st o with | some y => if tyD T y = true then got (op y) S st else .stuck | _ => .stuck := rfl
@[simp] theorem fE_a (f : Ev Ow) : fE f S st = (f S st).bind fun w S st => .ok w.d S st := rfl
@[simp] theorem lF_a (fa : Ev (List Opd)) : lF fa S st = (fa S st).bind fun a S st => match vds S a with | some ds => if ds.length ≤ 16777216 then .ok (.l ds) S st else .stuck | none => .stuck := rfl
@[simp] theorem pE_a (fa : Ev (List Opd)) : pE fa S st = (fa S st).bind fun a S st => match vds S a with | some ds => if ds.length ≤ 16777216 then .ok (.tup ds) S st else .stuck | none => .stuck := rfl
@[simp] theorem sN_a : sN S st = .ok none S st := rfl
@[simp] theorem sS_a (f : Ev D) : sS f S st = (f S st).bind fun d S st => match d with | .int i => .ok (some i) S st | _ => .stuck := rfl
@[simp] theorem slE_a (op : D → Option Int → Option Int → Option D) (fa : Ev Opd) (fl fu : Ev (Option Int)) : slE op fa fl fu S st = (fa S st).bind fun a S st => (fl S st).bind fun l S st => (fu S st).bind fun u S st => match vw S st a with | some x => got (op x l u) S st | _ => .stuck := rfl
@[simp] theorem cE_a (c : CallT) (fa : Ev (List Opd)) : cE c fa S st = (fa S st).bind fun a S st => match vds S a with
  | some ds => match c ds st with | .ok d _ st => .ok d S st | .exc x _ st => .exc x S st | .stuck => .stuck
  | none => .stuck := rfl
@[simp] theorem tT_a (f : Ev Opd) : tT f S st = (f S st).bind fun o S st => match vw S st o with | some d => got (tru d) S st | none => .stuck := rfl
@[simp] theorem tN_a (f : Ev Bool) : tN f S st = (f S st).bind fun b S st => .ok (!b) S st := rfl
@[simp] theorem tA_a (f g : Ev Bool) : tA f g S st = (f S st).bind fun b S st => if b = true then g S st else .ok false S st := rfl
@[simp] theorem tO_a (f g : Ev Bool) : tO f g S st = (f S st).bind fun b S st => if b = true then .ok true S st else g S st := rfl
@[simp] theorem tV_a (f : Ev D) : tV f S st = (f S st).bind fun d S st => match d with | .bl k => .ok k S st | _ => .stuck := rfl
@[simp] theorem tY_a : tY S st = .ok true S st := rfl
@[simp] theorem eA_a (f g : Ev D) : eA f g S st = (f S st).bind fun d S st => match d with | .bl b => if b = true then g S st else .ok (.bl false) S st | _ => .stuck := rfl
@[simp] theorem eO_a (f g : Ev D) : eO f g S st = (f S st).bind fun d S st => match d with | .bl b => if b = true then .ok (.bl true) S st else g S st | _ => .stuck := rfl
@[simp] theorem eN_a (f : Ev D) : eN f S st = (f S st).bind fun d S st => match d with | .bl b => .ok (.bl (!b)) S st | _ => .stuck := rfl
@[simp] theorem eI_a (t : Ev Bool) (f g : Ev D) : eI t f g S st = (t S st).bind fun b S st => if b = true then f S st else g S st := rfl
@[simp] theorem sNil_a : sNil S st = .nx S st := rfl
@[simp] theorem sSeq_a (f g : EvS) : sSeq f g S st = (f S st).then g := rfl
@[simp] theorem sBk_a : sBk S st = .bk S st := rfl
@[simp] theorem sCt_a : sCt S st = .ct S st := rfl
@[simp] theorem sE_a (f : Ev D) : sE f S st = (f S st).out fun _ S st => .nx S st := rfl
@[simp] theorem sR_a (f : Ev D) : sR f S st = (f S st).out fun d S st => .ret d S st := rfl
@[simp] theorem sRN_a : sRN S st = .ret .non S st := rfl
@[simp] theorem sI_a (t : Ev Bool) (f g : EvS) : sI t f g S st = (t S st).out fun b S st => if b = true then f S st else g S st := rfl
@[simp] theorem sV_a (i : Nat) (f : Ev D) : sV i f S st = (f S st).out fun d S st => .nx (S.set i (.d d)) st := rfl
@[simp] theorem sO_a (i : Nat) (f : Ev Ow) : sO i f S st = (f S st).out fun w S st => .nx (S.set i (.own w)) st := rfl
@[simp] theorem gV_a (i : Nat) (d : D) : gV i d S = some (S.set i (.d d)) := rfl
@[simp] theorem gN_a : gN [] S = some S := rfl
@[simp] theorem gC_a (g : Tg) (gs : List D → Sls → Option Sls) (d : D) (r : List D) : gC g gs (d :: r) S = match g d S with | some S' => gs r S' | none => none := rfl
@[simp] theorem gT_a (n : Nat) (gs : List D → Sls → Option Sls) (ds : List D) : gT n gs (.tup ds) S = if ds.length = n then gs ds S else none := rfl
@[simp] theorem sG_a (g : Tg) (f : Ev D) : sG g f S st = (f S st).out fun d S st => match g d S with | some S' => .nx S' st | none => .stuck := rfl
@[simp] theorem sAug_a (i : Nat) (op : D → D → Option D) (f : Ev Opd) : sAug i op f S st = match S[i]? with
  | some (.d x) => (f S st).out fun y S st => match vw S st y with
    | some y => match op x y with
      | some z => .nx (S.set i (.d z)) st
      | none => .stuck
    | none => .stuck
  | _ => .stuck := rfl
@[simp] theorem sF_a (f : Ev (List D)) (g : Tg) (b : EvS) : sF f g b S st = (f S st).out fun ds S st => forL g b ds S st := rfl
@[simp] theorem iE_a (f : Ev D) : iE f S st = (f S st).bind fun d S st => got (itD d) S st := rfl
@[simp] theorem iR1_a (f : Ev (List Opd)) : iR1 f S st = (f S st).bind fun a S st => match vws S st a with
  | some [.int n] => rgG 0 n S st
  | _ => .stuck := by
  unfold iR1 rgG
  congr 1; funext a S st
  rcases vws S st a with _ | l
  · rfl
  · rcases l with _ | ⟨x, r⟩
    · rfl
    · cases x <;> cases r <;> simp
@[simp] theorem iR2_a (f : Ev (List Opd)) : iR2 f S st = (f S st).bind fun a S st => match vws S st a with
  | some [.int a, .int n] => rgG a n S st
  | _ => .stuck := rfl
@[simp] theorem iEn_a (f : Ev (List Opd)) : iEn f S st = (f S st).bind fun a S st => match vds S a with
  | some [d] => match asL d with | some ds => .ok (enumD ds) S st | none => .stuck
  | _ => .stuck := rfl
@[simp] theorem iZ_a (f : Ev (List Opd)) : iZ f S st = (f S st).bind fun a S st => match vds S a with
  | some [d, e] => match asL d, asL e with | some ds, some es => .ok (zipD ds es) S st | _, _ => .stuck
  | _ => .stuck := rfl
@[simp] theorem iV_a (f : Ev (List Opd)) : iV f S st = (f S st).bind fun a S st => match vds S a with
  | some [d] => match asL d with | some ds => .ok ds.reverse S st | none => .stuck
  | _ => .stuck := rfl
@[simp] theorem lcF_a (fi : Ev (List D)) (g : Tg) (own : List Nat) (t : Ev Bool) (f : Ev D) : lcF fi g own t f S st = (fi S st).bind fun ds S st =>
  (lcL g own t f ds (wipeS S own) st).bind fun ys S' st => if ys.length ≤ 16777216 then .ok (.l ys) (restS S own S') st else .stuck := rfl
@[simp] theorem restS_n (S0 : Sls) : restS S0 [] S = S := rfl
@[simp] theorem restS_c (S0 : Sls) (i : Nat) (r : List Nat) : restS S0 (i :: r) S = match S0[i]? with | some (.d x) => restS S0 r (S.set i (.d x)) | _ => restS S0 r S := rfl
@[simp] theorem wipeS_n : wipeS S [] = S := rfl
@[simp] theorem wipeS_c (v : Nat) (vs : List Nat) : wipeS S (v :: vs) = (wipeS S vs).set v .no := rfl
@[simp] theorem sAp_a (i : Nat) (f : Ev Opd) : sAp i f S st = match S[i]? with
  | some (.own (.l _)) => (f S st).out fun o S st => match vd S o, S[i]? with
    | some d, some (.own (.l ds)) => if ds.length < 16777216 then .nx (S.set i (.own (.l (ds ++ [d])))) st else .stuck
    | _, _ => .stuck
  | _ => .stuck := rfl
@[simp] theorem sEx_a (i : Nat) (f : Ev D) : sEx i f S st = match S[i]? with
  | some (.own (.l _)) => (f S st).out fun d S st => match d, S[i]? with
    | .lst es, some (.own (.l ds)) => if ds.length + es.length ≤ 16777216 then .nx (S.set i (.own (.l (ds ++ es)))) st else .stuck
    | _, _ => .stuck
  | _ => .stuck := rfl
@[simp] theorem sP_a (i j : Nat) (fa : Ev (List Opd)) : sP i j fa S st = (fa S st).out fun a S st => match vds S a with
  | some [x, y] => .nx ((S.set i (.d x)).set j (.d y)) st
  | _ => .stuck := rfl
theorem runB_a (N : Nat) (b : EvS) (ds : List D) : runB N b ds st = match b (ds.map Sl.d ++ List.replicate (N - ds.length) .no) st with
  | .nx _ st => .ok .non [] st
  | .ret d _ st => .ok d [] st
  | .exc x _ st => .exc x [] st
  | _ => .stuck := rfl
end
@[simp] theorem dI2_a (c : Int → Int → Bool) (g : Int → Int → Int) (i j : Int) : dI2 c g (.int i) (.int j) = if c i j = true then some (.int (g i j)) else none := rfl
@[simp] theorem dI0_a (g : Int → Int → Int) (i j : Int) : dI0 g (.int i) (.int j) = some (.int (g i j)) := rfl
@[simp] theorem dSub_a (i j : Int) : dSub (.int i) (.int j) = some (.int (i - j)) := rfl
theorem log2_lit {j : Int} (h0 : 0 < j) (h1 : j ≤ 10 ^ 200) : j.natAbs.log2 < 9000 := by
  have h2 : j.natAbs < 2 ^ 9000 := by
    have : j.natAbs ≤ 10 ^ 200 := by omega
    exact Nat.lt_of_le_of_lt this (by decide +kernel)
  exact (Nat.log2_lt (by omega)).mpr h2
@[simp] theorem dFdiv_a (i j : Int) (h0 : 0 < j) (h1 : j ≤ 10 ^ 200) : dFdiv (.int i) (.int j) = some (.int (i / j)) := by
  show dI2 _ _ _ _ = _
  simp [dI2, h0, log2_lit h0 h1]
@[simp] theorem dMod_a (i j : Int) (h0 : 0 < j) : dMod (.int i) (.int j) = some (.int (i % j)) := by
  show dI2 _ _ _ _ = _
  simp [dI2, h0]
@[simp] theorem dAdd_i (i j : Int) : dAdd (.int i) (.int j) = some (.int (i + j)) := rfl
@[simp] theorem dAdd_s (s t : List Nat) (h : s.length + t.length ≤ 16777216) : dAdd (.str s) (.str t) = some (.str (s ++ t)) := if_pos h
@[simp] theorem dAdd_l (s t : List D) (h : s.length + t.length ≤ 16777216) : dAdd (.lst s) (.lst t) = some (.lst (s ++ t)) := if_pos h
@[simp] theorem dAdd_t (s t : List D) (h : s.length + t.length ≤ 16777216) : dAdd (.tup s) (.tup t) = some (.tup (s ++ t)) := if_pos h
@[simp] theorem dMul_i (i j : Int) (h : mulC i j = true) : dMul (.int i) (.int j) = some (.int (i * j)) := if_pos h
/-- below a million digits, say -/
def Sm (i : Int) : Prop := i.natAbs.log2 < 40000000
theorem mulC_of {i j : Int} (h : Sm i) (h' : Sm j) : mulC i j = true := decide_eq_true (by unfold Sm at h h'; omega)
theorem log2_lt {n k : Nat} (h : n < 2 ^ k) (hk : 0 < k) : n.log2 < k := by
  by_cases h0 : n = 0
  · subst h0; simpa using hk
  · exact (Nat.log2_lt h0).mpr h
theorem Sm.of {i : Int} (h : i.natAbs < 2 ^ 2000) : Sm i := by
  have := log2_lt h (by decide)
  unfold Sm; omega
theorem Sm.lit {i : Int} (h0 : -(10 ^ 200) ≤ i) (h1 : i ≤ 10 ^ 200) : Sm i := Sm.of (by
  have : i.natAbs ≤ 10 ^ 200 := by omega
  exact Nat.lt_of_le_of_lt this (by decide +kernel))
theorem Sm.small {i : Int} (h0 : -1000000000000 ≤ i) (h1 : i ≤ 1000000000000) : Sm i := .lit (by omega) (by omega)
@[simp] theorem dMul_s (s : List Nat) (k : Int) (h0 : 0 ≤ k) (h1 : k ≤ 1000000) (h2 : s.length * k.toNat ≤ 1000000) : dMul (.str s) (.int k) = some (.str (reps s k.toNat)) := by
  simp [dMul, h0, h1, h2]
@[simp] theorem dPow_a (i j : Int) (h : (decide (0 ≤ j) && decide (j ≤ 1000000) && decide (i.natAbs < 18446744073709551616)) = true) : dPow (.int i) (.int j) = some (.int (i ^ j.toNat)) := by
  rw [Bool.and_eq_true, Bool.and_eq_true] at h
  show dI2 _ _ _ _ = _
  simp only [dI2, h.1.1, h.1.2, h.2, Bool.and_self, Bool.true_or, if_true]
theorem dPow_w (i j : Int) (h0 : 0 ≤ j) (h1 : j ≤ 1000) (h : i.natAbs < 2 ^ 1000) : dPow (.int i) (.int j) = some (.int (i ^ j.toNat)) := by
  have h2 : i.natAbs.log2 < 1000 := by
    by_cases hz : i.natAbs = 0
    · rw [hz]; decide
    · exact (Nat.log2_lt hz).mpr h
  have h3 : ((i.natAbs.log2 + 1 : Nat) : Int) * j ≤ 134217728 := Int.le_trans (Int.mul_le_mul (by omega : ((i.natAbs.log2 + 1 : Nat) : Int) ≤ 1000) h1 h0 (by decide)) (by decide)
  show dI2 _ _ _ _ = _
  simp only [dI2, h0, h3, decide_true, Bool.or_true, Bool.and_self, if_true]
@[simp] theorem dLt_i (i j : Int) : dLt (.int i) (.int j) = some (.bl (decide (i < j))) := rfl
@[simp] theorem dLe_i (i j : Int) : dLe (.int i) (.int j) = some (.bl (decide (i ≤ j))) := rfl
@[simp] theorem dGt_i (i j : Int) : dGt (.int i) (.int j) = some (.bl (decide (j < i))) := rfl
@[simp] theorem dGe_i (i j : Int) : dGe (.int i) (.int j) = some (.bl (decide (j ≤ i))) := rfl
@[simp] theorem dLt_s (i j : List Nat) : dLt (.str i) (.str j) = some (.bl (decide (i < j))) := rfl
@[simp] theorem dLe_s (i j : List Nat) : dLe (.str i) (.str j) = some (.bl (!decide (j < i))) := rfl
@[simp] theorem dEq_a (a b : D) : dEq a b = if eqOk a = true ∧ eqOk b = true then some (.bl (deq a b)) else none := rfl
@[simp] theorem dNe_a (a b : D) : dNe a b = if eqOk a = true ∧ eqOk b = true then some (.bl (!deq a b)) else none := rfl
@[simp] theorem eqOk_non : eqOk .non = true := rfl
@[simp] theorem eqOk_bl (b : Bool) : eqOk (.bl b) = true := rfl
@[simp] theorem eqOk_int (b : Int) : eqOk (.int b) = true := rfl
@[simp] theorem eqOk_str (b : List Nat) : eqOk (.str b) = true := rfl
@[simp] theorem eqOk_nil : eqOk (.lst []) = true := rfl
@[simp] theorem deq_int (a b : Int) : deq (.int a) (.int b) = decide (a = b) := by simp [deq, toPy, PyData.eqv, Bool.beq_eq_decide_eq]
@[simp] theorem deq_bl (a b : Bool) : deq (.bl a) (.bl b) = decide (a = b) := by simp [deq, toPy, PyData.eqv, Bool.beq_eq_decide_eq]
@[simp] theorem deq_str (a b : List Nat) : deq (.str a) (.str b) = decide (a = b) := by
  have : (tx a == tx b) = decide (a = b) := by
    by_cases h : a = b
    · subst h; simp
    · simp [h]; exact fun z => h (tx_inj z)
  simp [deq, toPy, PyData.eqv, this]
@[simp] theorem deq_int_str (a : Int) (b : List Nat) : deq (.int a) (.str b) = false := by simp [deq, toPy, PyData.eqv]
@[simp] theorem deq_bl_str (a : Bool) (b : List Nat) : deq (.bl a) (.str b) = false := by simp [deq, toPy, PyData.eqv]
@[simp] theorem deq_non_str (b : List Nat) : deq .non (.str b) = false := by simp [deq, toPy, PyData.eqv]
@[simp] theorem deq_lst_str (a : List D) (b : List Nat) : deq (.lst a) (.str b) = false := by simp [deq, toPy, PyData.eqv]
@[simp] theorem deq_tup_str (a : List D) (b : List Nat) : deq (.tup a) (.str b) = false := by simp [deq, toPy, PyData.eqv]
@[simp] theorem deq_str_non (a : List Nat) : deq (.str a) .non = false := by simp [deq, toPy, PyData.eqv]
@[simp] theorem deq_non : deq .non .non = true := by simp [deq, toPy, PyData.eqv]
theorem deq_lst (a b : List D) : deq (.lst a) (.lst b) = deqs a b := by simp [deq, deqs, toPy, PyData.eqv]
theorem deq_tup (a b : List D) : deq (.tup a) (.tup b) = deqs a b := by simp [deq, deqs, toPy, PyData.eqv]
@[simp] theorem deqs_n : deqs [] [] = true := by simp [deqs, toPys, PyData.eqvAll]
@[simp] theorem deqs_c (a b : D) (r s : List D) : deqs (a :: r) (b :: s) = (deq a b && deqs r s) := by simp [deqs, deq, toPys, PyData.eqvAll]
@[simp] theorem deqs_nc (b : D) (s : List D) : deqs [] (b :: s) = false := by simp [deqs, toPys, PyData.eqvAll]
@[simp] theorem deqs_cn (b : D) (s : List D) : deqs (b :: s) [] = false := by simp [deqs, toPys, PyData.eqvAll]
@[simp] theorem dIs_n (x : D) : dIs x .non = some (.bl (isN x)) := by cases x <;> rfl
@[simp] theorem dIsNot_n (x : D) : dIsNot x .non = some (.bl (!isN x)) := by cases x <;> rfl
@[simp] theorem dIs_b (a b : Bool) : dIs (.bl a) (.bl b) = some (.bl (decide (a = b))) := rfl
@[simp] theorem dIsNot_b (a b : Bool) : dIsNot (.bl a) (.bl b) = some (.bl (!decide (a = b))) := rfl
@[simp] theorem isN_non : isN .non = true := rfl
@[simp] theorem isN_int (i : Int) : isN (.int i) = false := rfl
@[simp] theorem isN_str (i : List Nat) : isN (.str i) = false := rfl
@[simp] theorem isN_lst (i : List D) : isN (.lst i) = false := rfl
@[simp] theorem isN_tup (i : List D) : isN (.tup i) = false := rfl
@[simp] theorem isN_bl (i : Bool) : isN (.bl i) = false := rfl
@[simp] theorem dIn_a (x y : D) : dIn x y = (inD x y).map .bl := rfl
@[simp] theorem dNotIn_a (x y : D) : dNotIn x y = (inD x y).map fun b => .bl (!b) := rfl
@[simp] theorem inD_sg (c : Nat) (t : List Nat) : inD (.str [c]) (.str t) = some (decide (c ∈ t)) := rfl
@[simp] theorem inD_l (x : D) (ds : List D) : inD x (.lst ds) = if eqOk x = true ∧ eqOk (.lst ds) = true then some (ds.any fun z => deq z x) else none := rfl
@[simp] theorem inD_t (x : D) (ds : List D) : inD x (.tup ds) = if flatD x = true ∧ ds.all flatD = true then some (ds.any fun z => deq z x) else none := rfl
@[simp] theorem dIx_s (s : List Nat) (i : Int) (h : s.length ≤ 16777216) : dIx (.str s) (.int i) = (atI s i).map fun c => .str [c] := if_pos h
@[simp] theorem dIx_l (s : List D) (i : Int) : dIx (.lst s) (.int i) = atI s i := rfl
@[simp] theorem dIx_t (s : List D) (i : Int) : dIx (.tup s) (.int i) = atI s i := rfl
@[simp] theorem dIx_scr (s : List Int) (i : Int) : dIx (.scr s) (.int i) = (atI s i).map .int := rfl
@[simp] theorem dSl_s (s : List Nat) (l u : Option Int) (h : s.length ≤ 16777216) : dSl (.str s) l u = some (.str (cut s l u)) := if_pos h
@[simp] theorem dSl_l (s : List D) (l u : Option Int) : dSl (.lst s) l u = some (.lst (cut s l u)) := rfl
@[simp] theorem dSl_t (s : List D) (l u : Option Int) : dSl (.tup s) l u = some (.tup (cut s l u)) := rfl
@[simp] theorem dSl_scr (s : List Int) (l u : Option Int) : dSl (.scr s) l u = some (.lst (cut (s.map .int) l u)) := rfl
@[simp] theorem dLen_s (s : List Nat) (h : s.length ≤ 16777216) : dLen [.str s] = some (.int s.length) := if_pos h
@[simp] theorem dLen_l (s : List D) : dLen [.lst s] = some (.int s.length) := rfl
@[simp] theorem dLen_t (s : List D) : dLen [.tup s] = some (.int s.length) := rfl
@[simp] theorem dLen_scr (s : List Int) : dLen [.scr s] = some (.int s.length) := rfl
@[simp] theorem dAll_a (ds : List D) : dAll [.lst ds] = (boolsD ds).map fun bs => .bl (bs.all id) := rfl
@[simp] theorem dAny_a (ds : List D) : dAny [.lst ds] = (boolsD ds).map fun bs => .bl (bs.any id) := rfl
@[simp] theorem dSum_a (ds : List D) : dSum [.lst ds] = (intsD ds).map fun bs => .int bs.sum := rfl
@[simp] theorem itD_l (ds : List D) : itD (.lst ds) = some ds := rfl
@[simp] theorem itD_t (ds : List D) : itD (.tup ds) = some ds := rfl
@[simp] theorem itD_scr (ns : List Int) : itD (.scr ns) = some (ns.map .int) := rfl
@[simp] theorem itD_s (s : List Nat) : itD (.str s) = some (sgs s) := rfl
@[simp] theorem asL_l (ds : List D) : asL (.lst ds) = some ds := rfl
@[simp] theorem asL_scr (ns : List Int) : asL (.scr ns) = some (ns.map .int) := rfl
@[simp] theorem tru_bl (b : Bool) : tru (.bl b) = some b := rfl
@[simp] theorem tyD_s (s : List Nat) : tyD "str" (.str s) = true := rfl
@[simp] theorem tyD_l (s : List D) : tyD "list" (.lst s) = true := rfl
@[simp] theorem dIsI_str_s (s : List Nat) : dIsI [.str s, .ty "str"] = some (.bl true) := rfl
@[simp] theorem dIsI_str_i (i : Int) : dIsI [.int i, .ty "str"] = some (.bl false) := rfl
@[simp] theorem dIsI_str_b (i : Bool) : dIsI [.bl i, .ty "str"] = some (.bl false) := rfl
@[simp] theorem dIsI_str_n : dIsI [.non, .ty "str"] = some (.bl false) := rfl
@[simp] theorem dIsI_str_l (i : List D) : dIsI [.lst i, .ty "str"] = some (.bl false) := rfl
@[simp] theorem dIsI_str_t (i : List D) : dIsI [.tup i, .ty "str"] = some (.bl false) := rfl
@[simp] theorem dIsI_bool_b (i : Bool) : dIsI [.bl i, .ty "bool"] = some (.bl true) := rfl
@[simp] theorem dIsI_bool_i (i : Int) : dIsI [.int i, .ty "bool"] = some (.bl false) := rfl
@[simp] theorem dIsI_int_i (i : Int) : dIsI [.int i, .ty "int"] = some (.bl true) := rfl
theorem got_atI {xs : List D} {i : Int} {S : Sls} {st : Store} : got (atI xs i) S st = match atI xs i with | some d => .ok d S st | none => .stuck := by cases atI xs i <;> rfl
theorem atI_some {α : Type} {xs : List α} {i : Int} (h0 : 0 ≤ i) (h1 : i < xs.length) : ∃ x, atI xs i = some x ∧ x ∈ xs := by
  have hl : i.toNat < xs.length := by omega
  refine ⟨xs[i.toNat], ?_, List.getElem_mem hl⟩
  unfold atI ixN
  rw [if_pos h0, if_pos h1]
  simp [hl]
theorem atI_eq {α : Type} {xs : List α} {i : Int} (h0 : 0 ≤ i) (h1 : i < xs.length) : atI xs i = some (xs[i.toNat]'(by omega)) := by
  unfold atI ixN
  rw [if_pos h0, if_pos h1]
  simp
@[simp] theorem flatD_int (i : Int) : flatD (.int i) = true := rfl
@[simp] theorem flatD_str (i : List Nat) : flatD (.str i) = true := rfl
@[simp] theorem flatD_bl (i : Bool) : flatD (.bl i) = true := rfl
@[simp] theorem flatD_non : flatD .non = true := rfl
theorem flat_pure : ∀ {ds : List D}, ds.all flatD = true → pureDs ds = true ∧ depDs ds = 0
  | [], _ => by simp [pureDs, depDs]
  | d :: r, h => by
    rw [List.all_cons, Bool.and_eq_true] at h
    obtain ⟨a, b⟩ := flat_pure h.2
    have h1 := h.1
    cases d <;> simp [flatD] at h1 <;> simp [pureDs, pureD, depDs, depD, a, b]
@[simp] theorem eqOk_lst (ds : List D) (h : ds.all flatD = true) : eqOk (.lst ds) = true := by
  obtain ⟨a, b⟩ := flat_pure h
  simp [eqOk, pureD, depD, a, b]
@[simp] theorem eqOk_tup (ds : List D) (h : ds.all flatD = true) : eqOk (.tup ds) = true := by
  obtain ⟨a, b⟩ := flat_pure h
  simp [eqOk, pureD, depD, a, b]
@[simp] theorem flat_strs (ss : List (List Nat)) : (ss.map D.str).all flatD = true := by simp
@[simp] theorem flat_ints (ss : List Int) : (ss.map D.int).all flatD = true := by simp
/-! ### loops -/
theorem forL_ind {g : Tg} {body : EvS} (P : List D → Sls → Prop) (step : ∀ d r S st, P (d :: r) S → ∃ S1 S2, g d S = some S1 ∧ body S1 st = .nx S2 st ∧ P r S2) : ∀ (ds : List D) (S : Sls) (st : Store), P ds S → ∃ S', forL g body ds S st = .nx S' st ∧ P [] S'
  | [], S, st, h => ⟨S, rfl, h⟩
  | d :: r, S, st, h => by
    obtain ⟨S1, S2, e1, e2, h2⟩ := step d r S st h
    obtain ⟨S', e3, h3⟩ := forL_ind P step r S2 st h2
    exact ⟨S', by simp only [forL, e1, e2]; exact e3, h3⟩
@[simp] theorem forL_n (g : Tg) (body : EvS) (S : Sls) (st : Store) : forL g body [] S st = .nx S st := rfl
theorem forL_c (g : Tg) (body : EvS) (d : D) (r : List D) (S : Sls) (st : Store) : forL g body (d :: r) S st = match g d S with
    | some S1 => match body S1 st with
      | .nx S2 st2 => forL g body r S2 st2
      | .ct S2 st2 => forL g body r S2 st2
      | .rto w S2 st2 => .rto w S2 st2
      | .bk S2 st2 => .nx S2 st2
      | .ret v S2 st2 => .ret v S2 st2
      | .exc x S2 st2 => .exc x S2 st2
      | .stuck => .stuck
    | none => .stuck := rfl
/-- a loop that looks for one item and hands back v -/
theorem forL_find {g : Tg} {body : EvS} {st : Store} (p : D → Bool) (v : D) (I : Sls → Prop) : ∀ (ds : List D) (S : Sls), (∀ d ∈ ds, ∀ S, I S → ∃ S1, g d S = some S1 ∧ (p d = true → ∃ S2, body S1 st = .ret v S2 st) ∧ (p d = false → ∃ S2, body S1 st = .nx S2 st ∧ I S2)) → I S →
    (ds.any p = true → ∃ S', forL g body ds S st = .ret v S' st) ∧ (ds.any p = false → ∃ S', forL g body ds S st = .nx S' st ∧ I S')
  | [], S, _, hI => ⟨fun h => (by cases h), fun _ => ⟨S, rfl, hI⟩⟩
  | d :: r, S, h, hI => by
    obtain ⟨S1, e1, h1, h2⟩ := h d (List.mem_cons_self ..) S hI
    cases hp : p d with
    | true =>
      obtain ⟨S2, e2⟩ := h1 hp
      refine ⟨fun _ => ⟨S2, by rw [forL_c, e1]; simp only [e2]⟩, fun z => ?_⟩
      rw [List.any_cons, hp] at z; cases z
    | false =>
      obtain ⟨S2, e2, hI2⟩ := h2 hp
      have ih := forL_find p v I r S2 (fun d hd => h d (List.mem_cons_of_mem _ hd)) hI2
      rw [List.any_cons, hp, Bool.false_or]
      refine ⟨fun z => ?_, fun z => ?_⟩
      · obtain ⟨S', e3⟩ := ih.1 z
        exact ⟨S', by rw [forL_c, e1]; simp only [e2]; exact e3⟩
      · obtain ⟨S', e3, h3⟩ := ih.2 z
        exact ⟨S', by rw [forL_c, e1]; simp only [e2]; exact e3, h3⟩
theorem mem_sgs {s : List Nat} {d : D} (h : d ∈ sgs s) : ∃ c ∈ s, d = .str [c] := by
  unfold sgs at h
  obtain ⟨c, h1, h2⟩ := List.mem_map.mp h
  exact ⟨c, h1, h2.symm⟩
@[simp] theorem sgs_len (s : List Nat) : (sgs s).length = s.length := by simp [sgs]
theorem mem_enum {ds : List D} {d : D} (h : d ∈ enumD ds) : ∃ (k : Nat) (x : D), d = .tup [.int k, x] ∧ k < ds.length ∧ x ∈ ds := by
  unfold enumD at h
  obtain ⟨⟨x, k⟩, h1, h2⟩ := List.mem_map.mp h
  have h3 := List.mem_zipIdx' h1
  exact ⟨k, x, h2.symm, h3.1, by rw [h3.2]; exact List.getElem_mem _⟩
@[simp] theorem lcL_n (g : Tg) (own : List Nat) (t : Ev Bool) (f : Ev D) (S : Sls) (st : Store) : lcL g own t f [] S st = .ok [] S st := rfl
theorem lcL_c (g : Tg) (own : List Nat) (t : Ev Bool) (f : Ev D) (d : D) (r : List D) (S : Sls) (st : Store) : lcL g own t f (d :: r) S st = match g d S with
    | some S1 => (t S1 st).calm.bind fun b S2 st2 => if b = true then
        (f S2 st2).calm.bind fun y S3 st3 => (lcL g own t f r (wipeS S3 own) st3).bind fun ys S4 st4 => .ok (y :: ys) S4 st4
      else lcL g own t f r (wipeS S2 own) st2
    | none => .stuck := rfl
/-- a comprehension without tests that maps by m -/
theorem lcL_map {g : Tg} {own : List Nat} {f : Ev D} {S : Sls} {st : Store} (m : D → D) : ∀ (ds : List D), (∀ d ∈ ds, ∃ S1 S3, g d S = some S1 ∧ f S1 st = .ok (m d) S3 st ∧ wipeS S3 own = S) → lcL g own tY f ds S st = .ok (ds.map m) S st
  | [], _ => rfl
  | d :: r, h => by
    obtain ⟨S1, S3, e1, e2, e3⟩ := h d (List.mem_cons_self ..)
    have ih := lcL_map m r fun d hd => h d (List.mem_cons_of_mem _ hd)
    rw [lcL_c, e1]
    simp only [tY_a, Res.calm_ok, Res.bind_ok, if_true, e2, e3, ih, List.map_cons]
theorem lcL_filter {g : Tg} {own : List Nat} {t : Ev Bool} {f : Ev D} {S : Sls} {st : Store} (p : D → Bool) (m : D → D) : ∀ (ds : List D), (∀ d ∈ ds, ∃ S1 S2, g d S = some S1 ∧ t S1 st = .ok (p d) S2 st ∧ (p d = false → wipeS S2 own = S) ∧ (p d = true → ∃ S3, f S2 st = .ok (m d) S3 st ∧ wipeS S3 own = S)) → lcL g own t f ds S st = .ok ((ds.filter p).map m) S st
  | [], _ => rfl
  | d :: r, h => by
    obtain ⟨S1, S2, e1, e2, e3, e4⟩ := h d (List.mem_cons_self ..)
    have ih := lcL_filter p m r fun d hd => h d (List.mem_cons_of_mem _ hd)
    rw [lcL_c, e1]
    cases hp : p d with
    | false =>
      rw [hp] at e2
      simp only [e2, Res.calm_ok, Res.bind_ok, Bool.false_eq_true, if_false, e3 hp, ih, List.filter_cons, hp]
    | true =>
      obtain ⟨S3, e5, e6⟩ := e4 hp
      rw [hp] at e2
      simp only [e2, Res.calm_ok, Res.bind_ok, if_true, e5, e6, ih, List.filter_cons, hp, List.map_cons]
end DL

namespace DL
open PySem PySem.Spec PyProof.Rows L2
/-! ### slices, items -/
section
variable {α : Type}
theorem sIx_nn (n d : Nat) {v : Int} (h : 0 ≤ v) : HT.sIx n d (some v) = min v.toNat n := by
  show (if v < 0 then _ else _) = _
  rw [if_neg (by omega)]
theorem cut_none (xs : List α) : cut xs none none = xs := by
  unfold cut; simp [HT.sIx_none]
theorem cut_to (xs : List α) {k : Int} (h : 0 ≤ k) : cut xs none (some k) = xs.take k.toNat := by
  unfold cut
  rw [HT.sIx_none, sIx_nn _ _ h, List.drop_zero, Nat.sub_zero]
  by_cases hk : k.toNat ≤ xs.length
  · rw [Nat.min_eq_left hk]
  · rw [Nat.min_eq_right (by omega), List.take_length, List.take_of_length_le (by omega)]
theorem cut_from (xs : List α) {k : Int} (h : 0 ≤ k) : cut xs (some k) none = xs.drop k.toNat := by
  unfold cut
  rw [HT.sIx_none, sIx_nn _ _ h]
  by_cases hk : k.toNat ≤ xs.length
  · rw [Nat.min_eq_left hk]
    exact List.take_of_length_le (by rw [List.length_drop]; omega)
  · rw [Nat.min_eq_right (by omega), List.drop_length, List.drop_of_length_le (by omega), List.take_nil]
theorem cut_mid (xs : List α) {a b : Int} (h : 0 ≤ a) (h' : 0 ≤ b) : cut xs (some a) (some b) = (xs.take b.toNat).drop a.toNat := by
  unfold cut
  rw [sIx_nn _ _ h, sIx_nn _ _ h', List.drop_take]
  by_cases ha : a.toNat ≤ xs.length
  · rw [Nat.min_eq_left ha]
    by_cases hb : b.toNat ≤ xs.length
    · rw [Nat.min_eq_left hb]
    · rw [Nat.min_eq_right (by omega), List.take_of_length_le (by rw [List.length_drop]; omega), List.take_of_length_le (by rw [List.length_drop]; omega)]
  · rw [Nat.min_eq_right (by omega : xs.length ≤ a.toNat), List.drop_length, List.drop_of_length_le (by omega : xs.length ≤ a.toNat), List.take_nil, List.take_nil]
theorem cut_init (xs : List α) : cut xs none (some (-1)) = xs.dropLast := by
  unfold cut
  rw [HT.sIx_none, List.drop_zero, Nat.sub_zero, List.dropLast_eq_take]
  congr 1
  unfold HT.sIx
  simp only []
  rw [if_pos (by decide)]; omega
theorem cut_len (xs : List α) (l u : Option Int) : (cut xs l u).length ≤ xs.length := by
  unfold cut
  rw [List.length_take, List.length_drop]; omega
theorem cut_mem {xs : List α} {l u : Option Int} {x : α} (h : x ∈ cut xs l u) : x ∈ xs := List.mem_of_mem_drop (List.mem_of_mem_take h)
theorem atI_nn (xs : List α) {i : Int} (h : 0 ≤ i) : atI xs i = xs[i.toNat]? := by
  unfold atI ixN
  rw [if_pos h]
  split
  · rfl
  · rename_i h1
    rw [List.getElem?_eq_none (by omega)]; rfl
theorem atI_last (xs : List α) : atI xs (-1) = xs.getLast? := by
  unfold atI ixN
  rw [if_neg (by decide), List.getLast?_eq_getElem?]
  split
  · show xs[((-1 : Int) + xs.length).toNat]? = _
    congr 1; omega
  · have : xs.length = 0 := by omega
    rw [List.eq_nil_of_length_eq_zero this]; rfl
@[simp] theorem atI_zero (x : α) (xs : List α) : atI (x :: xs) 0 = some x := by rw [atI_nn _ (by decide)]; rfl
@[simp] theorem atI_one (x y : α) (xs : List α) : atI (x :: y :: xs) 1 = some y := by rw [atI_nn _ (by decide)]; rfl
@[simp] theorem atI_two (x y z : α) (xs : List α) : atI (x :: y :: z :: xs) 2 = some z := by rw [atI_nn _ (by decide)]; rfl
@[simp] theorem atI_three (x y z u : α) (xs : List α) : atI (x :: y :: z :: u :: xs) 3 = some u := by rw [atI_nn _ (by decide)]; rfl
@[simp] theorem atI_four (x y z u v : α) (xs : List α) : atI (x :: y :: z :: u :: v :: xs) 4 = some v := by rw [atI_nn _ (by decide)]; rfl
theorem atI_map {β : Type} (f : α → β) (xs : List α) (i : Int) : atI (xs.map f) i = (atI xs i).map f := by
  unfold atI
  rw [List.length_map]
  cases ixN xs.length i with
  | none => rfl
  | some j => simp
theorem cut_map {β : Type} (f : α → β) (xs : List α) (l u : Option Int) : cut (xs.map f) l u = (cut xs l u).map f := by
  unfold cut
  rw [List.length_map, List.map_take, List.map_drop]
end
/-! ### the script's cells -/
def cell (ns : List Int) (i : Int) : Int := (ns[i.toNat]?).getD 0
theorem sum_le {ss : List (List Nat)} {b : Nat} (h : ∀ s ∈ ss, s.length ≤ b) : (ss.map (·.length)).sum ≤ ss.length * b := by
  induction ss with
  | nil => simp
  | cons s r ih =>
    have h1 := h s (List.mem_cons_self ..)
    have h2 := ih fun t m => h t (List.mem_cons_of_mem _ m)
    simp only [List.map_cons, List.sum_cons, List.length_cons, Nat.succ_mul]
    omega
theorem joinN_len (a : List Nat) : ∀ ss : List (List Nat), (joinN a ss).length ≤ (ss.map (·.length)).sum + ss.length * a.length
  | [] => by simp [joinN]
  | [x] => by simp [joinN]
  | x :: y :: r => by
    have := joinN_len a (y :: r)
    simp only [joinN, List.length_append, List.map_cons, List.sum_cons, List.length_cons, Nat.succ_mul] at this ⊢
    omega
@[simp] theorem joinN_n (a : List Nat) : joinN a [] = [] := rfl
@[simp] theorem joinN_1 (a x : List Nat) : joinN a [x] = x := rfl
theorem joinN_c (a x y : List Nat) (r : List (List Nat)) : joinN a (x :: y :: r) = x ++ a ++ joinN a (y :: r) := rfl
@[simp] theorem joinN_e : ∀ ss : List (List Nat), joinN [] ss = ss.flatten
  | [] => rfl
  | [x] => by simp
  | x :: y :: r => by rw [joinN_c, joinN_e (y :: r)]; simp
/-! ### texts' operations -/
theorem dJoin_a (a : List Nat) (ss : List (List Nat)) (h : (ss.map (·.length)).sum + ss.length * a.length ≤ 16777216) : dJoin (.str a) [.lst (ss.map .str)] = some (.str (joinN a ss)) := by
  simp [dJoin, seqD, h]
@[simp] theorem dStr_a (i : Int) (h : i.natAbs.log2 < 1920) : dStr [.int i] = some (.str (numS i)) := by simp [dStr, h]
@[simp] theorem dInt_i (i : Int) : dInt [.int i] = some (.int i) := rfl
@[simp] theorem dInt_b (i : Bool) : dInt [.bl i] = some (.int (if i then 1 else 0)) := rfl
@[simp] theorem dMax_a (i j : Int) : dMax [.int i, .int j] = some (.int (if j > i then j else i)) := rfl
@[simp] theorem dMin_a (i j : Int) : dMin [.int i, .int j] = some (.int (if j < i then j else i)) := rfl
@[simp] theorem dAbs_a (i : Int) : dAbs [.int i] = some (.int (if i < 0 then -i else i)) := rfl
@[simp] theorem dOrd_a (c : Nat) : dOrd [.str [c]] = some (.int c) := rfl
@[simp] theorem dNeg_a (i : Int) : dNeg (.int i) = some (.int (-i)) := rfl
@[simp] theorem dListF_l (ds : List D) : dListF [.lst ds] = some (.l ds) := rfl
@[simp] theorem dListF_t (ds : List D) : dListF [.tup ds] = some (.l ds) := rfl
@[simp] theorem dListF_scr (ns : List Int) : dListF [.scr ns] = some (.l (ns.map .int)) := rfl
@[simp] theorem dTuple_l (ds : List D) : dTuple [.lst ds] = some (.tup ds) := rfl
@[simp] theorem dTuple_t (ds : List D) : dTuple [.tup ds] = some (.tup ds) := rfl
section
variable {S : Sls} {st : Store}
@[simp] theorem o3E_a (op op' : D → D → Option D) (fa fb fc : Ev Opd) : o3E op op' fa fb fc S st = (fa S st).bind fun a S st => (fb S st).bind fun b S st =>
  match vw S st a, vw S st b with
  | some x, some y => match op x y with
    | some (.bl true) => (fc S st).bind fun c S st => match vw S st b, vw S st c with
      | some y, some z => got (op' y z) S st
      | _, _ => .stuck
    | some (.bl false) => .ok (.bl false) S st
    | _ => .stuck
  | _, _ => .stuck := rfl
end
theorem deqs_refl : ∀ {ds : List D}, (∀ d ∈ ds, deq d d = true) → deqs ds ds = true
  | [], _ => deqs_n
  | d :: r, h => by
    rw [deqs_c, h d (List.mem_cons_self ..), deqs_refl fun x m => h x (List.mem_cons_of_mem _ m)]; rfl
theorem deq_refl_strs (ts : List (List Nat)) : deq (.lst (ts.map D.str)) (.lst (ts.map D.str)) = true := by
  rw [deq_lst]
  exact deqs_refl fun d h => by
    obtain ⟨s, _, rfl⟩ := List.mem_map.mp h
    simp
/-- a loop with a state of its own -/
theorem forL_acc {α : Type} {g : Tg} {body : EvS} {st : Store} (R : α → Sls → Prop) (f : α → D → α) (q : D → Prop) (step : ∀ a d S, q d → R a S → ∃ S1 S2, g d S = some S1 ∧ body S1 st = .nx S2 st ∧ R (f a d) S2) :
    ∀ (ds : List D) (a : α) (S : Sls), (∀ d ∈ ds, q d) → R a S → ∃ S', forL g body ds S st = .nx S' st ∧ R (ds.foldl f a) S'
  | [], a, S, _, h => ⟨S, rfl, h⟩
  | d :: r, a, S, hq, h => by
    obtain ⟨S1, S2, e1, e2, h2⟩ := step a d S (hq d (List.mem_cons_self ..)) h
    obtain ⟨S', e3, h3⟩ := forL_acc R f q step r (f a d) S2 (fun x m => hq x (List.mem_cons_of_mem _ m)) h2
    exact ⟨S', by rw [forL_c, e1]; simp only [e2]; exact e3, h3⟩
theorem rng_n (lo : Int) : rng 0 lo = [] := rfl
theorem rng_c (n : Nat) (lo : Int) : rng (n + 1) lo = .int lo :: rng n (lo + 1) := by
  unfold rng
  rw [List.range_succ_eq_map, List.map_cons, List.map_map]
  congr 1
  · simp
  · refine List.map_congr_left fun i _ => ?_
    simp; omega
@[simp] theorem rng_len (n : Nat) (lo : Int) : (rng n lo).length = n := by simp [rng]
/-! ### numbers as texts -/
open PySem.NumText in
theorem numS_nat (m : Nat) : numS (m : Int) = (Nat.toDigits 10 m).map Char.toNat := PySem.W.KIN.signs_num m
open PySem.NumText PySem.W in
theorem numS_dig {n : Int} (h : 0 ≤ n) : AllDigits (numS n) := by
  obtain ⟨m, rfl⟩ := Int.eq_ofNat_of_zero_le h
  intro c hc
  rw [numS_nat] at hc
  obtain ⟨ch, hch, e⟩ := List.mem_map.mp hc
  rw [← e]
  exact digit_range (Nat.isDigit_of_mem_toDigits (by decide) (by decide) hch)
theorem numS_ne {n : Int} (h : 0 ≤ n) : numS n ≠ [] := by
  obtain ⟨m, rfl⟩ := Int.eq_ofNat_of_zero_le h
  rw [numS_nat]
  intro e
  have h := toDigits_len_ge 10 m
  rw [List.map_eq_nil_iff.mp e] at h
  exact absurd h (by decide)
theorem numS_len {n : Int} {k : Nat} (h : 0 ≤ n) (hk : 0 < k) (hn : n < 10 ^ k) : (numS n).length ≤ k := by
  have : (Str.ofString (toString n)).length ≤ k := toString_length_le h hk hn
  simpa [numS, Str.length] using this
open PySem.NumText PySem.W in
theorem numS_val {n : Int} (h : 0 ≤ n) : (digitsVal (numS n) : Int) = n := by
  obtain ⟨m, rfl⟩ := Int.eq_ofNat_of_zero_le h
  rw [numS_nat, KIN.val_back]
open PySem.NumText in
theorem numS_reads {n : Int} (h : 0 ≤ n) (hn : n < 10 ^ 600) : PySem.intText? (tx (numS n)) = some n := by
  have e := intText_digits (x := tx (numS n)) (by rw [cps_tx]; exact numS_dig h) (by rw [cps_tx]; exact numS_ne h) (by rw [tx_len]; have := numS_len h (by decide) hn; omega)
  rw [cps_tx] at e
  rw [e, numS_val h]
theorem dInt_num {n : Int} (h : 0 ≤ n) (hn : n < 10 ^ 600) : dInt [.str (numS n)] = some (.int n) := by
  have := numS_len h (by decide) hn
  simp [dInt, numS_reads h hn, show (numS n).length ≤ 640 by omega]
theorem numS_inj {n m : Int} (h : 0 ≤ n) (h' : 0 ≤ m) (e : numS n = numS m) : n = m := by
  rw [← numS_val h, ← numS_val h', e]
theorem dStr_num {n : Int} (h : 0 ≤ n) (hn : n < 10 ^ 500) : dStr [.int n] = some (.str (numS n)) := by
  have : n.natAbs.log2 < 1920 := log2_lt (Nat.lt_of_lt_of_le (show n.natAbs < 10 ^ 500 by omega) (by decide +kernel)) (by decide)
  simp [dStr, this]
theorem dIn_strs (s : List Nat) (ts : List (List Nat)) : dIn (.str s) (.lst (ts.map .str)) = some (.bl (decide (s ∈ ts))) := by
  have : (ts.map D.str).any (fun z => deq z (.str s)) = decide (s ∈ ts) := by
    rw [List.any_map, Bool.eq_iff_iff, List.any_eq_true, decide_eq_true_eq]
    constructor
    · rintro ⟨x, hx, e⟩
      simp at e; subst e; exact hx
    · intro h; exact ⟨s, h, by simp⟩
  rw [dIn_a, inD_l, if_pos ⟨by simp, eqOk_lst _ (flat_strs ts)⟩, this]; rfl
theorem dNotIn_strs (s : List Nat) (ts : List (List Nat)) : dNotIn (.str s) (.lst (ts.map .str)) = some (.bl (!decide (s ∈ ts))) := by
  have := dIn_strs s ts
  simp only [dIn_a, dNotIn_a] at this ⊢
  cases h : inD (.str s) (.lst (ts.map .str)) with
  | none => rw [h] at this; cases this
  | some b => rw [h] at this; simp at this; simp [this]
/-- the last one that fits is held -/
theorem foldl_last {α : Type} [DecidableEq α] (w : α) : ∀ (xs : List α) (a : Option α), xs.foldl (fun a x => if x = w then some x else a) a = if w ∈ xs then some w else a
  | [], a => rfl
  | x :: r, a => by
    rw [List.foldl_cons, foldl_last w r]
    by_cases h : x = w
    · subst h; simp
    · simp [h, Ne.symm h]
theorem ints_of {P : Int → Prop} : ∀ {ds : List D}, (∀ d ∈ ds, ∃ k, d = .int k ∧ P k) → ∃ ks : List Int, ds = ks.map .int ∧ ∀ k ∈ ks, P k
  | [], _ => ⟨[], rfl, by simp⟩
  | d :: r, h => by
    obtain ⟨k, e, p⟩ := h d (List.mem_cons_self ..)
    obtain ⟨ks, e2, p2⟩ := ints_of (P := P) fun x m => h x (List.mem_cons_of_mem _ m)
    exact ⟨k :: ks, by rw [e, e2]; rfl, fun x m => by
      rcases List.mem_cons.mp m with z | z
      · rw [z]; exact p
      · exact p2 x z⟩
theorem strs_of {P : List Nat → Prop} : ∀ {ds : List D}, (∀ d ∈ ds, ∃ k, d = .str k ∧ P k) → ∃ ks : List (List Nat), ds = ks.map .str ∧ ∀ k ∈ ks, P k
  | [], _ => ⟨[], rfl, by simp⟩
  | d :: r, h => by
    obtain ⟨k, e, p⟩ := h d (List.mem_cons_self ..)
    obtain ⟨ks, e2, p2⟩ := strs_of (P := P) fun x m => h x (List.mem_cons_of_mem _ m)
    exact ⟨k :: ks, by rw [e, e2]; rfl, fun x m => by
      rcases List.mem_cons.mp m with z | z
      · rw [z]; exact p
      · exact p2 x z⟩
theorem cell_mem {ns : List Int} {P : Int → Prop} (h0 : P 0) (h : ∀ z ∈ ns, P z) (i : Int) : P (cell ns i) := by
  unfold cell
  cases e : ns[i.toNat]? with
  | none => exact h0
  | some z => exact h z (List.mem_of_getElem? e)
/-! ### comprehensions and loops over what is encoded -/
theorem lcL_mapF {α : Type} {g : Tg} {own : List Nat} {f : Ev D} {S : Sls} {st : Store} (enc : α → D) (out : α → D) : ∀ (xs : List α), (∀ x ∈ xs, ∃ S1 S3, g (enc x) S = some S1 ∧ f S1 st = .ok (out x) S3 st ∧ wipeS S3 own = S) → lcL g own tY f (xs.map enc) S st = .ok (xs.map out) S st
  | [], _ => rfl
  | x :: r, h => by
    obtain ⟨S1, S3, e1, e2, e3⟩ := h x (List.mem_cons_self ..)
    have ih := lcL_mapF enc out r fun y hy => h y (List.mem_cons_of_mem _ hy)
    rw [List.map_cons, lcL_c, e1]
    simp only [tY_a, Res.calm_ok, Res.bind_ok, if_true, e2, e3, ih, List.map_cons]
theorem lcL_filterF {α : Type} {g : Tg} {own : List Nat} {t : Ev Bool} {f : Ev D} {S : Sls} {st : Store} (enc : α → D) (p : α → Bool) (out : α → D) : ∀ (xs : List α), (∀ x ∈ xs, ∃ S1 S2, g (enc x) S = some S1 ∧ t S1 st = .ok (p x) S2 st ∧ (p x = false → wipeS S2 own = S) ∧ (p x = true → ∃ S3, f S2 st = .ok (out x) S3 st ∧ wipeS S3 own = S)) → lcL g own t f (xs.map enc) S st = .ok ((xs.filter p).map out) S st
  | [], _ => rfl
  | x :: r, h => by
    obtain ⟨S1, S2, e1, e2, e3, e4⟩ := h x (List.mem_cons_self ..)
    have ih := lcL_filterF enc p out r fun d hd => h d (List.mem_cons_of_mem _ hd)
    rw [List.map_cons, lcL_c, e1]
    cases hp : p x with
    | false =>
      rw [hp] at e2
      simp only [e2, Res.calm_ok, Res.bind_ok, Bool.false_eq_true, if_false, e3 hp, ih, List.filter_cons, hp]
    | true =>
      obtain ⟨S3, e5, e6⟩ := e4 hp
      rw [hp] at e2
      simp only [e2, Res.calm_ok, Res.bind_ok, if_true, e5, e6, ih, List.filter_cons, hp, List.map_cons]
theorem forL_accF {α β : Type} {g : Tg} {body : EvS} {st : Store} (enc : β → D) (R : α → Sls → Prop) (f : α → β → α) : ∀ (xs : List β) (a : α) (S : Sls), (∀ x ∈ xs, ∀ a S, R a S → ∃ S1 S2, g (enc x) S = some S1 ∧ body S1 st = .nx S2 st ∧ R (f a x) S2) → R a S → ∃ S', forL g body (xs.map enc) S st = .nx S' st ∧ R (xs.foldl f a) S'
  | [], a, S, _, h => ⟨S, rfl, h⟩
  | x :: r, a, S, hs, h => by
    obtain ⟨S1, S2, e1, e2, h2⟩ := hs x (List.mem_cons_self ..) a S h
    obtain ⟨S', e3, h3⟩ := forL_accF enc R f r (f a x) S2 (fun y m => hs y (List.mem_cons_of_mem _ m)) h2
    exact ⟨S', by rw [List.map_cons, forL_c, e1]; simp only [e2]; exact e3, h3⟩
/-- a loop over encoded items that hands back v at the first item with p -/
theorem forL_findF {β : Type} {g : Tg} {body : EvS} {st : Store} (enc : β → D) (p : β → Bool) (v : D) (I : Sls → Prop) : ∀ (xs : List β) (S : Sls), (∀ x ∈ xs, ∀ S, I S → ∃ S1, g (enc x) S = some S1 ∧ (p x = true → ∃ S2, body S1 st = .ret v S2 st) ∧ (p x = false → ∃ S2, body S1 st = .nx S2 st ∧ I S2)) → I S →
    (xs.any p = true → ∃ S', forL g body (xs.map enc) S st = .ret v S' st) ∧ (xs.any p = false → ∃ S', forL g body (xs.map enc) S st = .nx S' st ∧ I S')
  | [], S, _, hI => ⟨fun h => (by cases h), fun _ => ⟨S, rfl, hI⟩⟩
  | x :: r, S, h, hI => by
    obtain ⟨S1, e1, h1, h2⟩ := h x (List.mem_cons_self ..) S hI
    rw [List.map_cons]
    cases hp : p x with
    | true =>
      obtain ⟨S2, e2⟩ := h1 hp
      refine ⟨fun _ => ⟨S2, by rw [forL_c, e1]; simp only [e2]⟩, fun z => ?_⟩
      rw [List.any_cons, hp] at z; cases z
    | false =>
      obtain ⟨S2, e2, hI2⟩ := h2 hp
      have ih := forL_findF enc p v I r S2 (fun y hy => h y (List.mem_cons_of_mem _ hy)) hI2
      rw [List.any_cons, hp, Bool.false_or]
      refine ⟨fun z => ?_, fun z => ?_⟩
      · obtain ⟨S', e3⟩ := ih.1 z
        exact ⟨S', by rw [forL_c, e1]; simp only [e2]; exact e3⟩
      · obtain ⟨S', e3, h3⟩ := ih.2 z
        exact ⟨S', by rw [forL_c, e1]; simp only [e2]; exact e3, h3⟩
end DL

namespace DL
open PySem PySem.Spec PyProof.Rows L2
/-! ### the store's things -/
section
variable {G : Gx} {B : Hp} {F : Fz} {σ : L2.St} {H : Hp} {S : Sls} {st : Store}
theorem nodup_ix {α : Type} : ∀ {l : List α}, l.Nodup → ∀ {i j : Nat} (hi : i < l.length) (hj : j < l.length), l[i] = l[j] → i = j
  | [], _, i, _, hi, _, _ => absurd hi (by simp)
  | x :: r, h, 0, 0, _, _, _ => rfl
  | x :: r, h, 0, j + 1, _, hj, e => by
    rw [List.nodup_cons] at h
    exact absurd (by rw [show x = r[j]'(by simpa using hj) from e]; exact List.getElem_mem _) h.1
  | x :: r, h, i + 1, 0, hi, _, e => by
    rw [List.nodup_cons] at h
    exact absurd (by rw [show x = r[i]'(by simpa using hi) from e.symm]; exact List.getElem_mem _) h.1
  | x :: r, h, i + 1, j + 1, hi, hj, e => by
    rw [List.nodup_cons] at h
    exact congrArg Nat.succ (nodup_ix h.2 (by simpa using hi) (by simpa using hj) (by simpa using e))
theorem smf_app (F : Fz) (p : Addr) : SmF F ⟨F.f, F.m ++ [p]⟩ := ⟨Same.refl _, List.prefix_append _ _⟩
/-- a new thing is the store's from here on -/
theorem Ok.allocB (o : Ok G B F σ H S st) {p : Addr} {x : Ob} (hx : ObOk G F H p x) (hF : F p = none) (hB : B p = none) (hm : p ∉ F.m) (no : ∀ (j : Nat) (es : Ow), S[j]? = some (.own es) → σ[j]? ≠ some (some (.ref p))) :
    Gr B F ⟨F.f, F.m ++ [p]⟩ ∧ Ok G B ⟨F.f, F.m ++ [p]⟩ σ H S (st ++ [x]) := by
  have sm := smf_app F p
  refine ⟨⟨sm, fun a h1 h2 => absurd h1 h2⟩, o.fH, o.kp, ⟨?_, ?_, fun n y a e1 e2 => ?_⟩, o.len, fun i s e => ?_, o.ap⟩
  · show (F.m ++ [p]).length = (st ++ [x]).length
    rw [List.length_append, List.length_append, o.so.ml]; rfl
  · show (F.m ++ [p]).Nodup
    rw [List.nodup_append]
    exact ⟨o.so.mn, by simp, fun a ha b hb z => by simp at hb; subst hb; subst z; exact hm ha⟩
  · have e2 : (F.m ++ [p])[n]? = some a := e2
    by_cases hn : n < st.length
    · rw [List.getElem?_append_left hn] at e1
      rw [List.getElem?_append_left (by rw [o.so.ml]; exact hn)] at e2
      obtain ⟨h1, h2, h3⟩ := o.so.ob n y a e1 e2
      exact ⟨h1, h2, h3.grow sm (Same.refl H)⟩
    · rw [List.getElem?_append_right (by omega)] at e1
      rw [List.getElem?_append_right (by rw [o.so.ml]; omega)] at e2
      have hz : n - st.length = 0 := by
        have := (List.getElem?_eq_some_iff.mp e1).1
        simp at this; omega
      rw [hz] at e1
      rw [o.so.ml, hz] at e2
      cases e1; cases e2
      exact ⟨hF, hB, hx.grow sm (Same.refl H)⟩
  · have h := o.sl i s e
    cases s with
    | no => trivial
    | d x =>
      obtain ⟨v, a1, a2⟩ := h
      exact ⟨v, a1, a2.mono sm⟩
    | own w2 =>
      obtain ⟨p2, u2, a1, a2, a3, a4, a5, a6⟩ := h
      refine ⟨p2, u2, a1, a2, a3, a4, a5.mono sm, fun z => ?_⟩
      rcases List.mem_append.mp z with z | z
      · exact a6 z
      · simp at z; exact no i _ e (by rw [a1, z])
theorem Ok.alloc (o : Ok G B F σ H S st) {p : Addr} {u : HO} {w : Ow} (h : H p = some u) (hF : F p = none) (hB : B p = none) (hm : p ∉ F.m) (r : OwRel G F u w) (no : ∀ (j : Nat) (es : Ow), S[j]? = some (.own es) → σ[j]? ≠ some (some (.ref p))) :
    Gr B F ⟨F.f, F.m ++ [p]⟩ ∧ Ok G B ⟨F.f, F.m ++ [p]⟩ σ H S (st ++ [.o w]) := o.allocB (x := .o w) ⟨u, h, r⟩ hF hB hm no
theorem ow_noown {u : HO} {w : Ow} (r : OwRel G F u w) : ∀ x : Addr, u ≠ HO.own x := fun x z => by subst z; cases r
theorem Ok.updB (o : Ok G B F σ H S st) {n : Nat} {a : Addr} {x y : Ob} {u : HO} (e : st[n]? = some x) (ea : F.m[n]? = some a) (hno : ∀ z : Addr, H a ≠ some (HO.own z)) (r : ObOk G F (upd H a u) a y) : Ok G B F σ (upd H a u) S (st.set n y) := by
  obtain ⟨h1, h2, h3⟩ := o.so.ob n x a e ea
  have hn : n < st.length := (List.getElem?_eq_some_iff.mp e).1
  refine ⟨fun b v q => ?_, fun b v q => ?_, ⟨by rw [List.length_set]; exact o.so.ml, o.so.mn, fun k z b q1 q2 => ?_⟩, o.len, fun i s q => ?_, o.ap⟩
  · rw [upd_ne (ne_of_none q h1)]; exact o.fH _ _ q
  · rw [upd_ne (ne_of_none q h2)]; exact o.kp _ _ q
  · by_cases hk : n = k
    · subst hk
      rw [List.getElem?_set_self hn] at q1
      cases q1
      rw [ea] at q2; cases q2
      exact ⟨h1, h2, r⟩
    · rw [List.getElem?_set_ne hk] at q1
      obtain ⟨k1, k2, k3⟩ := o.so.ob k z b q1 q2
      have hb : b ≠ a := fun w => by
        subst w
        obtain ⟨l1, w1⟩ := List.getElem?_eq_some_iff.mp ea
        obtain ⟨l2, w2⟩ := List.getElem?_eq_some_iff.mp q2
        exact hk (nodup_ix o.so.mn l1 l2 (by rw [w1, w2]))
      exact ⟨k1, k2, k3.chg hb hno⟩
  · have h := o.sl i s q
    cases s with
    | no => trivial
    | d x => exact h
    | own w2 =>
      obtain ⟨p2, u2, a1, a2, a3, a4, a5, a6⟩ := h
      have : p2 ≠ a := fun z => a6 (by rw [z]; exact List.mem_of_getElem? ea)
      exact ⟨p2, u2, a1, by rw [upd_ne this]; exact a2, a3, a4, a5, a6⟩
theorem Ok.updO (o : Ok G B F σ H S st) {n : Nat} {a : Addr} {w w' : Ow} {u : HO} (e : st[n]? = some (.o w)) (ea : F.m[n]? = some a) (r : OwRel G F u w') : Ok G B F σ (upd H a u) S (st.set n (.o w')) := by
  obtain ⟨h1, h2, u0, h3, h4⟩ := o.so.ob n _ a e ea
  exact o.updB e ea (fun z q => by rw [h3] at q; exact ow_noown h4 z (Option.some.inj q)) ⟨u, upd_same, r⟩
end
/-- a datum as an operand: a thing of the store by its number -/
def hnd : D → Opd
  | .loc n => .h n
  | d => .v d
@[simp] theorem hnd_loc (n : Nat) : hnd (.loc n) = .h n := rfl
def oH (f : Ev D) : Ev Opd := fun S st => (f S st).bind fun d S st => .ok (hnd d) S st
/-- a new list or dict, the store's -/
def aE (f : Ev Ow) : Ev D := fun S st => (f S st).bind fun w S st => .ok (.loc st.length) S (st ++ [.o w])
/-- x.append(e) -/
def sApL (fo fe : Ev Opd) : EvS := fun S st => (fo S st).out fun a S st => match a with
  | .h n => match st[n]? with
    | some (.o (.l _)) => (fe S st).out fun b S st => match vd S b, st[n]? with
      | some d, some (.o (.l ds)) => if ds.length < 16777216 then .nx S (st.set n (.o (.l (ds ++ [d])))) else .stuck
      | _, _ => .stuck
    | _ => .stuck
  | _ => .stuck
/-- x.pop() -/
def ePopL (fo : Ev Opd) : Ev D := fun S st => (fo S st).bind fun a S st => match a with
  | .h n => match st[n]? with
    | some (.o (.l ds)) => match ds.getLast? with
      | some d => .ok d S (st.set n (.o (.l ds.dropLast)))
      | none => .stuck
    | _ => .stuck
  | _ => .stuck
/-- x.clear() -/
def eClrL (fo : Ev Opd) : Ev D := fun S st => (fo S st).bind fun a S st => match a with
  | .h n => match st[n]? with
    | some (.o (.l _)) => .ok .non S (st.set n (.o (.l [])))
    | _ => .stuck
  | _ => .stuck
/-- x[j] = e -/
def sSetL (fo : Ev Opd) (fv fj : Ev D) : EvS := fun S st => (fv S st).out fun d S st => (fo S st).out fun a S st => match a with
  | .h n => (fj S st).out fun j S st => match j, st[n]? with
    | .int k, some (.o (.l ds)) => match ixN ds.length k with
      | some j => .nx S (st.set n (.o (.l (ds.set j d))))
      | none => .stuck
    | _, _ => .stuck
  | _ => .stuck
section
variable {X : Cx} {B : Hp} {W : WX} {e a b : Expr} {es : List Expr} {pos : Pos}
theorem do_h {f : Ev D} (h : DE X B W e f) : DO X B W e (oH f) := pe_imp h fun σ H Q ⟨F, S, st, o, q⟩ =>
  ⟨F, S, st, o, (Post.bind (R := RD (Cx.g X) σ) q).mono fun v H1 ⟨F1, d, S1, st1, g1, o1, r, p⟩ => p v H1 F1 .refl o1 (by
    cases d with
    | loc n =>
      cases r with
      | loc h => exact ⟨_, h, rfl⟩
    | _ => exact r)⟩
theorem de_al {f : Ev Ow} (h : DF X B W e f) : DE X B W e (aE f) :=
  pe_imp h fun σ H Q ⟨F, S, st, o, q⟩ => ⟨F, S, st, o, by
    unfold aE at q
    generalize f S st = r at q ⊢
    cases r with
    | ok w S1 st1 =>
      intro p u H' F' g o1 hu hF hB r hm no
      obtain ⟨g', o'⟩ := o1.alloc hu hF hB hm r no
      refine q (.ref p) H' _ (g.trans g') o' (.loc ?_)
      show (F'.m ++ [p])[st1.length]? = some p
      rw [← o1.so.ml, List.getElem?_append_right (Nat.le_refl _), Nat.sub_self]; rfl
    | exc x S1 st1 => exact q
    | stuck => exact q⟩
theorem ds_apL {fo fe : Ev Opd} {apos pos' : Pos} (ho : DO X B W a fo) (h : DO X B W e fe) (hs : swapsWith (.Call (.Attribute a "append" apos) [e] [] pos') none pos.line X.env = pure false := by rfl)
    (hbase : attributeBase a "append" X.env (eval a X.env) = eval a X.env := by rfl)
    (hfew : ((backTo pos' (starEach [e] X.env)).all (fun x => !x.1) && (backToKw pos' (keywordEach [] X.env)).all (fun x => x.1.isSome)
      && decide (([e] : List Expr).length + ([] : List Keyword).length + (if ([] : List Keyword).isEmpty then 0 else 1) < 30)) = true := by rfl)
    (hline : (apos.endLine == pos'.line) = true := by rfl) (hst : starEach [e] X.env = (false, eval e X.env) :: starEach [] X.env := by rfl) :
    DS X B W (.Expr (.Call (.Attribute a "append" apos) [e] [] pos') pos) (sApL fo fe) :=
  ps_imp (ps_expr (pe_bm PySem.F.plainAttrs_list PySem.F.slot_list_append PySem.F.type_list_append mt_append ho (pa_cons h pa_nil hst) hbase hfew hline hst) hs) fun D σ H ⟨F, S, st, o, q⟩ => ⟨F, S, st, o, (Post.out (R := RO (Cx.g X) σ) q).mono fun v H1 ⟨F1, ao, S1, st1, g1, o1, r1, p1⟩ => by
    split at p1
    · rename_i n
      obtain ⟨aa, ha, rfl⟩ := r1
      split at p1
      · rename_i ds0 hst0
        obtain ⟨k1, k2, u0, k3, k4⟩ := o1.so.ob n _ aa hst0 ha
        cases k4 with
        | l k4 =>
          refine ⟨.inl ⟨rfl, _, .inl (.inl k3)⟩, F1, S1, st1, o1, (Post.out (R := RO (Cx.g X) σ) p1).mono fun v2 H2 ⟨F2, bo, S2, st2, g2, o2, r2, p2⟩ => ?_⟩
          split at p2
          · rename_i d ds hd hst2
            split at p2
            · rename_i hlen
              have ha2 := pre_get g2.1.2 ha
              obtain ⟨m1, m2, u2, m3, m4⟩ := o2.so.ob n _ aa hst2 ha2
              cases m4 with
              | l m4 =>
                exact ⟨aa, _, v2, rfl, rfl, m3, by rw [m4.length, sizeLine_eq]; exact hlen, p2 σ _ F2 .refl (o2.updO hst2 ha2 (.l (m4.append (.one (o2.vd r2 hd)))))⟩
            · exact p2.elim
          · exact p2.elim
      · exact p1.elim
    · exact p1.elim⟩
theorem de_popL {fo : Ev Opd} {apos : Pos} (ho : DO X B W a fo) (hbase : attributeBase a "pop" X.env (eval a X.env) = eval a X.env := by rfl) (hline : (apos.endLine == pos.line) = true := by rfl) :
    DE X B W (.Call (.Attribute a "pop" apos) [] [] pos) (ePopL fo) :=
  pe_imp (pe_bm0 PySem.F.plainAttrs_list PySem.F.slot_list_pop PySem.F.type_list_pop mt_pop ho hbase hline) fun σ H Q ⟨F, S, st, o, q⟩ => ⟨F, S, st, o, (Post.bind (R := RO (Cx.g X) σ) q).mono fun v H1 ⟨F1, ao, S1, st1, g1, o1, r1, p1⟩ => by
    split at p1
    · rename_i n
      obtain ⟨aa, ha, rfl⟩ := r1
      split at p1
      · rename_i ds hst0
        obtain ⟨k1, k2, u0, k3, k4⟩ := o1.so.ob n _ aa hst0 ha
        cases k4 with
        | l k4 =>
          split at p1
          · rename_i d hd
            rw [List.getLast?_eq_getElem?] at hd
            obtain ⟨y, hy, ry⟩ := k4.get hd
            exact ⟨.inl ⟨rfl, _, .inl (.inl k3)⟩, aa, _, y, rfl, rfl, k3, by rw [k4.length]; exact hy, p1 _ _ F1 .refl (o1.updO hst0 ha (.l k4.dropLast)) ry⟩
          · exact p1.elim
      · exact p1.elim
    · exact p1.elim⟩
theorem de_clrL {fo : Ev Opd} {apos : Pos} (ho : DO X B W a fo) (hbase : attributeBase a "clear" X.env (eval a X.env) = eval a X.env := by rfl) (hline : (apos.endLine == pos.line) = true := by rfl) :
    DE X B W (.Call (.Attribute a "clear" apos) [] [] pos) (eClrL fo) :=
  pe_imp (pe_bm0 PySem.F.plainAttrs_list PySem.F.slot_list_clear PySem.F.type_list_clear mt_clear ho hbase hline) fun σ H Q ⟨F, S, st, o, q⟩ => ⟨F, S, st, o, (Post.bind (R := RO (Cx.g X) σ) q).mono fun v H1 ⟨F1, ao, S1, st1, g1, o1, r1, p1⟩ => by
    split at p1
    · rename_i n
      obtain ⟨aa, ha, rfl⟩ := r1
      split at p1
      · rename_i ds hst0
        obtain ⟨k1, k2, u0, k3, k4⟩ := o1.so.ob n _ aa hst0 ha
        cases k4 with
        | l k4 => exact ⟨.inl ⟨rfl, _, .inl (.inl k3)⟩, aa, _, rfl, rfl, k3, p1 _ _ F1 .refl (o1.updO hst0 ha (.l .nil)) .non⟩
      · exact p1.elim
    · exact p1.elim⟩
theorem ds_setL {fo : Ev Opd} {fv fj : Ev D} {tpos : Pos} (ho : DO X B W a fo) (hj : DE X B W b fj) (hv : DE X B W e fv) (hs : swapsWithSole [.Subscript a b tpos] e pos.line X.env = pure false := by rfl) (hw : swappedStores [.Subscript a b tpos] e X.env = pure none := by rfl)
    (h1 : (assignEach [.Subscript a b tpos] X.env).map (·.2) = [assign (.Subscript a b tpos) X.env] := by rfl)
    (ha : ∀ v, assign (.Subscript a b tpos) X.env v = (do
      let ov ← holding [v] (eval a X.env)
      let iv ← holding [v, ov] (eval b X.env)
      standAt tpos
      holding [v, ov, iv] (setItem ov iv v)
      release [v, ov, iv] []) := by intro _; rfl) : DS X B W (.Assign [.Subscript a b tpos] e pos) (sSetL fo fv fj) :=
  ps_imp (ps_asg hv (pg_sub ho hj set_list ha) hs hw h1) fun D σ H ⟨F, S, st, o, q⟩ => ⟨F, S, st, o, (Post.out (R := RD (Cx.g X) σ) q).mono fun v H1 ⟨F1, d, S1, st1, g1, o1, r1, p1⟩ =>
    ⟨F1, S1, st1, o1, (Post.out (R := RO (Cx.g X) σ) p1).mono fun ov H2 ⟨F2, ao, S2, st2, g2, o2, r2, p2⟩ => by
      split at p2
      · rename_i n
        obtain ⟨aa, ha, rfl⟩ := r2
        refine ⟨F2, S2, st2, o2, (Post.out (R := RD (Cx.g X) σ) p2).mono fun jv H3 ⟨F3, jd, S3, st3, g3, o3, r3, p3⟩ => ?_⟩
        split at p3
        · rename_i k ds hst3
          split at p3
          · rename_i j hj
            have ha3 := pre_get g3.1.2 ha
            obtain ⟨m1, m2, u3, m3, m4⟩ := o3.so.ob n _ aa hst3 ha3
            cases m4 with
            | l m4 =>
              cases r3
              refine ⟨aa, _, k, j, rfl, rfl, m3, by rw [m4.length]; exact hj, p3 σ _ F3 .refl (o3.updO hst3 ha3 (.l (m4.set j ((r1.mono g2.1).mono g3.1))))⟩
          · exact p3.elim
        · exact p3.elim
      · exact p2.elim⟩⟩
end
end DL

namespace DL
open PySem PySem.Spec PyProof.Rows L2
/-! ### a call that has nothing to do with the caller's store -/
mutual
/-- no handle in it -/
def noL : D → Bool
  | .loc _ => false
  | .lst ds => noLs ds
  | .tup ds => noLs ds
  | .dic es => noLk es
  | .obj _ fs => noLf fs
  | _ => true
def noLs : List D → Bool
  | [] => true
  | d :: r => noL d && noLs r
def noLk : List (D × D) → Bool
  | [] => true
  | (_, d) :: r => noL d && noLk r
def noLf : List (Nat × D) → Bool
  | [] => true
  | (_, d) :: r => noL d && noLf r
end
section
variable {G : Gx} {F F' : Fz}
mutual
/-- data without handles ask nothing of the store -/
theorem Rp.alone (e : Same F.f F'.f) : ∀ {v : V} {d : D}, Rp G F v d → noL d = true → Rp G F' v d
  | _, _, .non, _ => .non
  | _, _, .bl b, _ => .bl b
  | _, _, .int i, _ => .int i
  | _, _, .str x h, _ => .str x h
  | _, _, .ty n, _ => .ty n
  | _, _, .err a c, _ => .err a c
  | _, _, .loc h, z => by rw [noL] at z; cases z
  | _, _, .lst h t, z => by rw [noL] at z; exact .lst (e _ _ h) (RpAll.alone e t z)
  | _, _, .tup h t, z => by rw [noL] at z; exact .tup (same_seqT e h) (RpAll.alone e t z)
  | _, _, .scr h, _ => .scr (e.seq h)
  | _, _, .dicK h t, z => by rw [noL] at z; exact .dicK (e _ _ h) (RpK.alone e t z)
  | _, _, .obj h h' g t, z => by rw [noL] at z; exact .obj (e _ _ h) (e _ _ h') g (RpF.alone e t z)
theorem RpAll.alone (e : Same F.f F'.f) : ∀ {vs : List V} {ds : List D}, RpAll G F vs ds → noLs ds = true → RpAll G F' vs ds
  | _, _, .nil, _ => .nil
  | _, _, .cons h t, z => by rw [noLs, Bool.and_eq_true] at z; exact .cons (Rp.alone e h z.1) (RpAll.alone e t z.2)
theorem RpK.alone (e : Same F.f F'.f) : ∀ {vs : List (Key × V)} {ds : List (D × D)}, RpK G F vs ds → noLk ds = true → RpK G F' vs ds
  | _, _, .nil, _ => .nil
  | _, _, .cons o h t, z => by rw [noLk, Bool.and_eq_true] at z; exact .cons o (Rp.alone e h z.1) (RpK.alone e t z.2)
theorem RpF.alone (e : Same F.f F'.f) : ∀ {vs : List (Str × V)} {ds : List (Nat × D)}, RpF G F vs ds → noLf ds = true → RpF G F' vs ds
  | _, _, .nil, _ => .nil
  | _, _, .cons o h t, z => by rw [noLf, Bool.and_eq_true] at z; exact .cons o (Rp.alone e h z.1) (RpF.alone e t z.2)
end
end
/-- c, with a store of its own -/
def solo (c : CallT) : CallT := fun ds st => if noLs ds = true then match c ds [] with
  | .ok d S _ => if noL d = true then .ok d S st else .stuck
  | .exc x S _ => if noLf x.fs = true then .exc x S st else .stuck
  | .stuck => .stuck
  else .stuck
theorem spOf_solo {G : Gx} {n : Nat} {c : CallT} (vs : List V) (H : Hp) (Q : VK) (E : XK) : spOf G n (solo c) vs H Q E → spOf G n c vs H Q E := by
  rintro ⟨hl, F, ds, st, f0, so, r, q⟩
  have nil0 : StOk G (hid [] H) ⟨F.f, []⟩ H [] := ⟨rfl, List.nodup_nil, fun n x a e _ => by cases e⟩
  by_cases z : noLs ds = true
  · rw [show solo c ds st = _ from if_pos z] at q
    refine ⟨hl, ⟨F.f, []⟩, ds, [], f0, nil0, RpAll.alone (F := F) (F' := ⟨F.f, []⟩) (fun _ _ e => e) r z, ?_⟩
    have key : ∀ (H' : Hp) (F1 : Fz), Same (hid [] H) H' → Same F1.f H' → Gr (hid [] H) ⟨F.f, []⟩ F1 →
        Same (hid F.m H) H' ∧ Gr (hid F.m H) F ⟨F1.f, F.m⟩ ∧ StOk G (hid F.m H) ⟨F1.f, F.m⟩ H' st := fun H' F1 k f g => by
      rw [hid_nil] at k g
      have g1 : Same F.f F1.f := g.1.1
      have g2 : ∀ a, F.f a = none → F1.f a ≠ none → H a = none := g.2
      refine ⟨fun a u e => k a u (hid_same _ _ a u e), ⟨⟨g1, List.prefix_refl _⟩, fun a h1 h2 => ?_⟩, so.ml, so.mn, fun n x a e1 e2 => ?_⟩
      · by_cases m : a ∈ F.m
        · exact hid_in m
        · rw [hid_out m]; exact g2 a h1 h2
      · obtain ⟨h1, h2, h3⟩ := so.ob n x a e1 e2
        refine ⟨?_, h2, h3.grow ⟨g1, List.prefix_refl _⟩ k⟩
        obtain ⟨u, hu⟩ := h3.ex
        by_cases y : F1.f a = none
        · exact y
        · have := g2 a h1 y
          rw [this] at hu; cases hu
    cases hc : c ds [] with
    | ok d S st1 =>
      rw [hc] at q
      dsimp only at q ⊢
      by_cases nd : noL d = true
      · rw [if_pos nd] at q
        intro v H' F1 k f g s rd
        obtain ⟨a, b, c⟩ := key H' F1 k f g
        exact q v H' ⟨F1.f, F.m⟩ a f b c (Rp.alone (F := F1) (F' := ⟨F1.f, F.m⟩) (fun _ _ e => e) rd nd)
      · rw [if_neg nd] at q; exact q.elim
    | exc x S st1 =>
      rw [hc] at q
      dsimp only at q ⊢
      by_cases nf : noLf x.fs = true
      · rw [if_pos nf] at q
        intro cls dd H' F1 k f g s rx
        obtain ⟨a, b, c⟩ := key H' F1 k f g
        refine q cls dd H' ⟨F1.f, F.m⟩ a f b c ?_
        obtain ⟨C, x1, x2, x3⟩ := rx
        exact ⟨C, x1, x2, x3.imp id fun ⟨y, ⟨e, ws, e1, e2, e3⟩⟩ => ⟨y, e, ws, e1, e2, RpF.alone (F := F1) (F' := ⟨F1.f, F.m⟩) (fun _ _ e => e) e3 nf⟩⟩
      · rw [if_neg nf] at q; exact q.elim
    | stuck => rw [hc] at q; exact q.elim
  · have e : solo c ds st = .stuck := if_neg z
    rw [e] at q; exact (show False from q).elim
theorem Def.solo {P : Program} {w : World} {K : PySem.W.Frag} {mg : Str → Option Value} {base : Heap} {k : Nat} {x : Str} {n : Nat} {c : CallT} (d : Def P w K mg base k x n c) : Def P w K mg base k x n (DL.solo c) := by
  obtain ⟨f, fd, ps, a, b, c, e⟩ := d.ex
  exact ⟨f, fd, ps, a.imp spOf_solo, b, c, e⟩
theorem solo_ok {c : CallT} {ds : List D} {st : Store} {d : D} {S : Sls} {st1 : Store} (h : c ds [] = .ok d S st1) (a : noLs ds = true) (b : noL d = true) : solo c ds st = .ok d S st := by
  rw [solo, if_pos a, h]; exact if_pos b
theorem solo_exc {c : CallT} {ds : List D} {st : Store} {x : Exc} {S : Sls} {st1 : Store} (h : c ds [] = .exc x S st1) (a : noLs ds = true) (b : noLf x.fs = true) : solo c ds st = .exc x S st := by
  rw [solo, if_pos a, h]; exact if_pos b
end DL

namespace DL
open PySem PySem.Spec PyProof.Rows L2
/-! ### a field of the store's instance is set -/
def putD' (k : Nat) (d : D) : List (Nat × D) → List (Nat × D)
  | [] => [(k, d)]
  | (g, x) :: r => if g = k then (g, d) :: r else (g, x) :: putD' k d r
theorem RpF.put {G : Gx} {F : Fz} {k : Nat} {v : V} {d : D} (ok : okN k) (r : Rp G F v d) : ∀ {fs : List (Str × V)} {es : List (Nat × D)}, RpF G F fs es → RpF G F (putF (nmS k) v fs) (putD' k d es)
  | _, _, .nil => .cons ok r .nil
  | _, _, .cons (k := k') o h t => by
    unfold putF putD'
    by_cases hk : k' = k
    · subst hk
      rw [if_pos rfl, if_pos rfl]
      exact .cons o r t
    · rw [if_neg hk, if_neg fun z => hk (nmS_inj o ok z)]
      exact .cons o h (t.put ok r)
theorem RpF.len {G : Gx} {F : Fz} : ∀ {fs : List (Str × V)} {es : List (Nat × D)}, RpF G F fs es → fs.length = es.length
  | _, _, .nil => rfl
  | _, _, .cons _ _ t => congrArg Nat.succ t.len
theorem Ok.updI {G : Gx} {B : Hp} {F : Fz} {σ : L2.St} {H : Hp} {S : Sls} {st : Store} (o : Ok G B F σ H S st) {n c : Nat} {a C dx : Addr} {es es' : List (Nat × D)} {vs vs' : List (Str × V)} (e : st[n]? = some (.i c es)) (ea : F.m[n]? = some a)
    (h1 : H a = some (.ins C dx vs)) (h2 : H dx = some (.own a)) (h3 : G.mg (nmS c) = some (.ref C)) (r : RpF G F vs' es') : Ok G B F σ (upd H a (.ins C dx vs')) S (st.set n (.i c es')) := by
  have ne : dx ≠ a := fun z => by rw [z, h1] at h2; cases h2
  exact o.updB e ea (fun z q => by rw [h1] at q; cases q) ⟨C, dx, vs', upd_same, by rw [upd_ne ne]; exact h2, h3, r⟩
/-- x.f = e -/
def sFL (cs : List Nat) (k : Nat) (fo : Ev Opd) (fe : Ev D) : EvS := fun S st => (fe S st).out fun d S st => (fo S st).out fun a S st => match a with
  | .h n => match st[n]? with
    | some (.i c es) => if c ∈ cs ∧ es.length < 1000 then .nx S (st.set n (.i c (putD' k d es))) else .stuck
    | _ => .stuck
  | _ => .stuck
/-- x.f op= e -/
def sFLA (cs : List Nat) (k : Nat) (op : D → D → Option D) (fo : Ev Opd) (fe : Ev Opd) : EvS := fun S st => (fo S st).out fun a S st => match a with
  | .h n => match st[n]? with
    | some (.i c es) => if c ∈ cs ∧ es.length < 1000 then match es.lookup k with
        | some u => (fe S st).out fun b S st => match vw S st b, st[n]? with
          | some y, some (.i c' es') => if c' = c ∧ es'.length < 1000 then match op u y with
              | some d => .nx S (st.set n (.i c (putD' k d es')))
              | none => .stuck
            else .stuck
          | _, _ => .stuck
        | none => .stuck
      else .stuck
    | _ => .stuck
  | _ => .stuck
section
variable {X : Cx} {B : Hp} {W : WX} {a value : Expr} {pos pos' : Pos} {f : Str} {fo : Ev Opd} {fe : Ev D}
theorem ds_fldL (cs : List Nat) (k : Nat) (hk : nmS k = f) (ok : okN k) (ht : ClsF X.K X.mg cs f) (ho : DO X B W a fo) (hv : DE X B W value fe) (hs : swapsWith value (some (.Attribute a f pos')) pos.line X.env = pure false := by rfl) :
    DS X B W (.Assign [.Attribute a f pos'] value pos) (sFL cs k fo fe) :=
  ps_imp (ps_fld ho hv hs) fun Dn σ H ⟨F, S, st, o, q⟩ => ⟨F, S, st, o, (Post.out (R := RD (Cx.g X) σ) q).mono fun v H1 ⟨F1, d, S1, st1, g1, o1, r1, p1⟩ =>
    ⟨F1, S1, st1, o1, (Post.out (R := RO (Cx.g X) σ) p1).mono fun ov H2 ⟨F2, ao, S2, st2, g2, o2, r2, p2⟩ => by
      split at p2
      · rename_i n
        obtain ⟨aa, ha, rfl⟩ := r2
        split at p2
        · rename_i c es hst
          split at p2
          · rename_i hc
            obtain ⟨m1, m2, C, dx, vs, m3, m4, m5, m6⟩ := o2.so.ob n _ aa hst ha
            obtain ⟨t1, t2⟩ := ht c hc.1 C m5
            refine ⟨aa, C, dx, vs, rfl, m3, t1, t2, by rw [m6.len]; exact hc.2, p2 σ _ F2 .refl (o2.updI hst ha m3 m4 m5 ?_)⟩
            rw [← hk]; exact m6.put ok (r1.mono g2.1)
          · exact p2.elim
        · exact p2.elim
      · exact p2.elim⟩⟩
end
/-! ### a method of the store's instance -/
def mhE (cs : List Nat) (mk : Nat) (tab : Nat → CallT) (fo : Ev D) (fa : Ev (List Opd)) : Ev D := fun S st => (fo S st).bind fun o S st => match o with
  | .loc n => match st[n]? with
    | some (.i c es) => if c ∈ cs ∧ es.lookup mk = none then (fa S st).bind fun a S st => match vds S a with
        | some ds => match tab c (.loc n :: ds) st with
          | .ok d _ st => .ok d S st
          | .exc x _ st => .exc x S st
          | .stuck => .stuck
        | none => .stuck
      else .stuck
    | _ => .stuck
  | _ => .stuck
section
variable {X : Cx} {B : Hp} {W : WX} {e a : Expr} {es : List Expr} {pos : Pos}
theorem mh_lift {m : Str} {mk k n : Nat} {cs : List Nat} {tab : Nat → CallT} {fo : Ev D} {fa : Ev (List Opd)} (hmk : nmS mk = m) (okm : okN mk) (d : MDef X.prog X.w X.K X.mg X.base k m (n + 1) cs tab) (hr : Room k X.A) (hl : aLen fa n) {σ : L2.St} {H : Hp} {Q : VK}
    (q : lift (Cx.g X) B W (RD (Cx.g X)) (mhE cs mk tab fo fa) σ H Q) : tMethX X m W (lift (Cx.g X) B W (RD (Cx.g X)) fo) (lift (Cx.g X) B W (RpO (Cx.g X)) fa) σ H Q := by
  obtain ⟨F, S, st, o, q⟩ := q
  refine ⟨F, S, st, o, (Post.bind (R := RD (Cx.g X) σ) q).mono fun v H1 ⟨F1, d1, S1, st1, g1, o1, r1, p1⟩ => ?_⟩
  split at p1
  · rename_i nn
    split at p1
    · rename_i c es hst
      split at p1
      · rename_i hc
        have r1' : Rp (Cx.g X) F1 v (.loc nn) := r1
        cases r1 with
        | @loc aa _ ha =>
          obtain ⟨m1, m2, C, dx, fs, m3, m4, m5, m6⟩ := o1.so.ob nn _ aa hst ha
          obtain ⟨f, fd, ps, t1, t2, t3, t4⟩ := d.ex c hc.1 C m5
          refine ⟨aa, C, dx, fs, f, fd, ps, k, _, rfl, m3, by rw [← hmk]; exact m6.miss okm hc.2, t1, t2, t3, hr, t4, F1, S1, st1, o1, ?_⟩
          have lens := fun r' S' st' e => hl S1 st1 r' S' st' e
          revert p1 lens
          generalize fa S1 st1 = r
          intro p1 lens
          cases r with
          | exc y S2 st2 => exact p1
          | stuck => exact p1
          | ok as S2 st2 =>
            intro vs H2 F2 g2 o2 r2
            have p2 : Post (Cx.g X) B W (RD (Cx.g X) σ) σ F1 Q (match vds S2 as with
              | some ds => match tab c (.loc nn :: ds) st2 with
                | .ok d _ st => .ok d S2 st
                | .exc x _ st => .exc x S2 st
                | .stuck => .stuck
              | none => .stuck) := p1
            split at p2
            · rename_i ds hds
              have ra := o2.vds r2 hds
              refine ⟨?_, F2, .loc nn :: ds, st2, o2.fH, o2.so.hid, .cons (r1'.mono g2.1) ra, ?_⟩
              · rw [List.length_cons, rpO_len r2, lens _ _ _ rfl]
              · revert p2
                generalize tab c (.loc nn :: ds) st2 = r
                intro p2
                cases r with
                | ok _ _ _ => exact fun v H' F' k f gr so rr => p2 v H' F' (g2.trans (o2.back k f gr so).1) (o2.back k f gr so).2 rr
                | exc _ _ _ => exact fun cls dd H' F' k f gr so rr => p2 cls dd H' F' (g2.trans (o2.back k f gr so).1) (o2.back k f gr so).2 rr
                | stuck => exact p2.elim
            · exact p2.elim
      · exact p1.elim
    · exact p1.elim
  · exact p1.elim
theorem de_mh {m : Str} {mk k n : Nat} {cs : List Nat} {tab : Nat → CallT} {apos : Pos} {fo : Ev D} {fa : Ev (List Opd)} {pl : Sem Bool} (hmk : nmS mk = m) (okm : okN mk) (d : MDef X.prog X.w X.K X.mg X.base k m (n + 1) cs tab) (hr : Room k X.A) (tk : Takes X W)
    (ho : DE X B W a fo) (ha : DA X B W (e :: es) fa) (hl : aLen fa n := by repeat (first | exact aLen_n | refine aLen_c ?_))
    (hst : starEach (e :: es) X.env = (false, eval e X.env) :: starEach es X.env := by rfl) (hpl : (backTo pos (starEach es X.env)).any (·.1) = false := by rfl)
    (ht : eval (.Call (.Attribute a m apos) (e :: es) [] pos) X.env = (do
      let ov ← eval a X.env
      standAt apos.atName
      let (f, first) ← holding [ov] (getMethod ov m pl)
      callWith pos f first (backTo pos (starEach (e :: es) X.env)) (backToKw pos (keywordEach [] X.env))) := by rfl) :
    DE X B W (.Call (.Attribute a m apos) (e :: es) [] pos) (mhE cs mk tab fo fa) :=
  pe_imp (pe_methX tk ho ha hst hpl ht) fun _ _ _ q => mh_lift hmk okm d hr hl q
theorem de_mh0 {m : Str} {mk k : Nat} {cs : List Nat} {tab : Nat → CallT} {apos : Pos} {fo : Ev D} {pl : Sem Bool} (hmk : nmS mk = m) (okm : okN mk) (d : MDef X.prog X.w X.K X.mg X.base k m 1 cs tab) (hr : Room k X.A) (tk : Takes X W)
    (ho : DE X B W a fo)
    (ht : eval (.Call (.Attribute a m apos) [] [] pos) X.env = (do
      let ov ← eval a X.env
      standAt apos.atName
      let (f, first) ← holding [ov] (getMethod ov m pl)
      callWith pos f first (backTo pos (starEach [] X.env)) (backToKw pos (keywordEach [] X.env))) := by rfl) :
    DE X B W (.Call (.Attribute a m apos) [] [] pos) (mhE cs mk tab fo aN) :=
  pe_imp (pe_methX0 tk ho ht) fun σ H Q q => by
    obtain ⟨F, S, st, o, q⟩ := mh_lift hmk okm d hr aLen_n q
    refine ⟨F, S, st, o, q.mono ?_⟩
    rintro v H1 ⟨a, C, dx, fs, f, fd, ps, k, sp, e1, e2, e3, e4, e5, e6, e7, e8, F1, S1, st1, o1, q1⟩
    exact ⟨a, C, dx, fs, f, fd, ps, k, sp, e1, e2, e3, e4, e5, e6, e7, e8, q1 [] H1 F1 .refl o1 .nil⟩
end
/-! ### an instance that is made, by a def of its own -/
theorem Ok.more {G : Gx} {B : Hp} {F : Fz} {σ : L2.St} {H H' : Hp} {S : Sls} {st : Store} (o : Ok G B F σ H S st) (k : Same H H') : Ok G B F σ H' S st :=
  ⟨o.fH.trans k, o.kp.trans k, ⟨o.so.ml, o.so.mn, fun n x a e1 e2 => ⟨(o.so.ob n x a e1 e2).1, (o.so.ob n x a e1 e2).2.1, (o.so.ob n x a e1 e2).2.2.grow (SmF.refl F) k⟩⟩, o.len, fun i s e => by
    have h := o.sl i s e
    cases s with
    | no => trivial
    | d x => exact h
    | own w =>
      obtain ⟨p, u, a1, a2, r⟩ := h
      exact ⟨p, u, a1, k _ _ a2, r⟩, o.ap⟩
structure IDefS (P : Program) (w : World) (K : PySem.W.Frag) (mg : Str → Option Value) (base : Heap) (k : Nat) (x : Str) (c n : Nat) (ci : CallT) : Prop where
  ex : ∃ C f fd ps, mg x = some (.ref C) ∧ nmS c = x ∧ Mk K C f ∧ FnOk P w K mg base (L2.CX P w) k f fd ps (spOf ⟨K, mg⟩ (n + 1) ci) ∧ Binds K fd ps []
def newH (c : Nat) (ci : CallT) (fa : Ev (List Opd)) : Ev D := fun S st => (fa S st).bind fun a S st => match vds S a with
  | some ds => match ci (.loc st.length :: ds) (st ++ [.i c []]) with
    | .ok .non _ st' => .ok (.loc st.length) S st'
    | _ => .stuck
  | none => .stuck
section
variable {X : Cx} {B : Hp} {W : WX} {e a : Expr} {es : List Expr} {pos p : Pos}
theorem de_newH {x : Str} {k cn n : Nat} {ci : CallT} {fa : Ev (List Opd)} (d : IDefS X.prog X.w X.K X.mg X.base k x cn n ci) (hr : Room (k + 1) X.A) (ha : DA X B W (e :: es) fa) (hl : aLen fa n := by repeat (first | exact aLen_n | refine aLen_c ?_))
    (hx : Passes (L2.CX X.prog X.w) X (fun _ _ _ => False) := by exact fun _ _ _ _ _ _ _ h => by obtain ⟨_, _, _, _, _, _, _, _, _, _, _, _, z⟩ := h; exact z.elim)
    (hg : Gl X x := by rfl) (hdb : (x == ("__debug__" : Str)) = false := by decide) (he : starEach (e :: es) X.env = (false, eval e X.env) :: starEach es X.env := by rfl) (hpl : (backTo pos (starEach es X.env)).any (·.1) = false := by rfl) :
    DE X B W (.Call (.Name x p) (e :: es) [] pos) (newH cn ci fa) := by
  obtain ⟨C, f, fd, ps, hm, hc, M, F, hb⟩ := d.ex
  refine pe_imp (pe_make (E := fun _ _ _ => False) M F hr hg hm hb .nil hx ha hdb he hpl) fun σ H Q ⟨F0, S, st, o, q⟩ => ⟨F0, S, st, o, ?_⟩
  have lens := fun r' S' st' e => hl S st r' S' st' e
  unfold newH at q
  revert q lens
  generalize fa S st = r
  intro q lens
  cases r with
  | exc y S2 st2 => exact q
  | stuck => exact q
  | ok as S1 st1 =>
    intro vs H1 F1 g1 o1 r1 y dx ny ndx nyx
    have q : Post (Cx.g X) B W (RD (Cx.g X) σ) σ F0 Q (match vds S1 as with
      | some ds => match ci (.loc st1.length :: ds) (st1 ++ [.i cn []]) with
        | .ok .non _ st' => .ok (.loc st1.length) S1 st'
        | _ => .stuck
      | none => .stuck) := q
    cases hv : vds S1 as with
    | none => rw [hv] at q; exact q.elim
    | some ds =>
      rw [hv] at q
      dsimp only at q
      have ra := o1.vds r1 hv
      have ny1 : (upd H1 dx (.own y)) y = none := by rw [upd_ne (Ne.symm nyx)]; exact ny
      have k2 : Same H1 (upd (upd H1 dx (.own y)) y (.ins C dx [])) := fun b u hu => by
        have b1 : b ≠ y := fun z => by rw [z, ny] at hu; cases hu
        have b2 : b ≠ dx := fun z => by rw [z, ndx] at hu; cases hu
        rw [upd_ne b1, upd_ne b2]; exact hu
      have o2 := o1.more k2
      have hy : upd (upd H1 dx (.own y)) y (.ins C dx []) y = some (.ins C dx []) := upd_same
      have hdx : upd (upd H1 dx (.own y)) y (.ins C dx []) dx = some (.own y) := by rw [upd_ne nyx, upd_same]
      have fy : F1 y = none := o1.fH.free ny
      have by' : B y = none := o1.kp.free ny
      have my : y ∉ F1.m := fun z => by
        obtain ⟨_, ⟨u, hu⟩, _⟩ := o1.so.mem z
        rw [ny] at hu; cases hu
      obtain ⟨g3, o3⟩ := o2.allocB (x := .i cn []) (p := y) ⟨C, dx, [], hy, hdx, by rw [← hc] at hm; exact hm, .nil⟩ fy by' my (fun j es e z => by
        obtain ⟨p2, u2, a1, a2, _⟩ := o1.sl j _ e
        rw [a1] at z
        cases z
        rw [ny] at a2; cases a2)
      rw [List.append_nil]
      refine ⟨?_, _, .loc st1.length :: ds, _, o3.fH, o3.so.hid, .cons (.loc ?_) (ra.mono g3.1), ?_⟩
      · rw [List.length_cons, rpO_len r1, lens _ _ _ rfl]
      · show (F1.m ++ [y])[st1.length]? = some y
        rw [← o1.so.ml, List.getElem?_append_right (Nat.le_refl _), Nat.sub_self]; rfl
      · have here : (F1.m ++ [y])[st1.length]? = some y := by
          rw [← o1.so.ml, List.getElem?_append_right (Nat.le_refl _), Nat.sub_self]; rfl
        revert q
        generalize ci (.loc st1.length :: ds) (st1 ++ [.i cn []]) = r
        intro q
        cases r with
        | exc _ _ _ => exact q.elim
        | stuck => exact q.elim
        | ok d3 _ st3 =>
          cases d3 with
          | non =>
            intro v H' F' k f gr so rr
            obtain ⟨g4, o4⟩ := o3.back k f gr so
            cases rr
            exact ⟨rfl, q (.ref y) H' F' ((g1.trans g3).trans g4) o4 (.loc (pre_get g4.1.2 here))⟩
          | _ => exact q.elim
end
end DL

namespace DL
open PySem PySem.Spec PyProof.Rows L2
/-! ### evaluation from the front -/
def Res.go {α β : Type} (r : Res α) (k : α → Sls → Store → β) (e : Exc → Sls → Store → β) (z : β) : β :=
  match r with
  | .ok a S st => k a S st
  | .exc x S st => e x S st
  | .stuck => z
/-- a slot read, a slot put, from the front -/
def getK {β : Type} (S : Sls) (i : Nat) (k : Sl → β) (z : β) : β := match S[i]? with
  | some s => k s
  | none => z
def setK {β : Type} (S : Sls) (i : Nat) (x : Sl) (k : Sls → β) : β := k (S.set i x)
def setS {β : Type} (st : Store) (n : Nat) (x : Ob) (k : Store → β) : β := k (st.set n x)
@[simp ↓] theorem setS_a {β : Type} (st : Store) (n : Nat) (x : Ob) (k : Store → β) : setS st n x k = k (st.set n x) := rfl
def iniK {β : Type} (n : Nat) (ds : List D) (k : Sls → β) : β := k (ds.map Sl.d ++ List.replicate (n - ds.length) .no)
section
variable {β : Type}
@[simp ↓] theorem getK_0 (s : Sl) (S : Sls) (k : Sl → β) (z : β) : getK (s :: S) 0 k z = k s := rfl
@[simp ↓] theorem getK_s (s : Sl) (S : Sls) (i : Nat) (k : Sl → β) (z : β) : getK (s :: S) (i + 1) k z = getK S i k z := by simp [getK]
@[simp ↓] theorem setK_0 (s x : Sl) (S : Sls) (k : Sls → β) : setK (s :: S) 0 x k = k (x :: S) := rfl
@[simp ↓] theorem setK_s (s x : Sl) (S : Sls) (i : Nat) (k : Sls → β) : setK (s :: S) (i + 1) x k = setK S i x (fun S => k (s :: S)) := by simp [setK]
@[simp ↓] theorem iniK_0 (k : Sls → β) : iniK 0 [] k = k [] := rfl
@[simp ↓] theorem iniK_d (n : Nat) (d : D) (ds : List D) (k : Sls → β) : iniK (n + 1) (d :: ds) k = iniK n ds (fun S => k (.d d :: S)) := by simp [iniK]
@[simp ↓] theorem iniK_n (n : Nat) (k : Sls → β) : iniK (n + 1) [] k = iniK n [] (fun S => k (.no :: S)) := by simp [iniK, List.replicate_succ]
def vwK {β : Type} (S : Sls) (st : Store) (o : Opd) (k : D → β) (z : β) : β := match vw S st o with
  | some d => k d
  | none => z
def vwsK {β : Type} (S : Sls) (st : Store) (o : List Opd) (k : List D → β) (z : β) : β := match vws S st o with
  | some d => k d
  | none => z
def vdsK {β : Type} (S : Sls) (o : List Opd) (k : List D → β) (z : β) : β := match vds S o with
  | some d => k d
  | none => z
def wipeK {β : Type} (S : Sls) (own : List Nat) (k : Sls → β) : β := k (wipeS S own)
def restK {β : Type} (S0 : Sls) (own : List Nat) (S : Sls) (k : Sls → β) : β := k (restS S0 own S)
@[simp ↓] theorem vwK_v (S : Sls) (st : Store) (d : D) (k : D → β) (z : β) : vwK S st (.v d) k z = k d := rfl
@[simp ↓] theorem vwK_s (S : Sls) (st : Store) (i : Nat) (k : D → β) (z : β) : vwK S st (.s i) k z = getK S i (fun s => match s with | .d d => k d | .own w => k w.d | .no => z) z := by
  unfold vwK getK; rw [vw_s]; rcases S[i]? with _ | s
  · rfl
  · cases s <;> rfl
@[simp ↓] theorem vwK_h (S : Sls) (st : Store) (n : Nat) (k : D → β) (z : β) : vwK S st (.h n) k z = match st[n]? with | some x => k x.d | none => z := by
  unfold vwK; rw [vw_h]; cases st[n]? <;> rfl
@[simp ↓] theorem vwsK_n (S : Sls) (st : Store) (k : List D → β) (z : β) : vwsK S st [] k z = k [] := rfl
@[simp ↓] theorem vwsK_c (S : Sls) (st : Store) (o : Opd) (r : List Opd) (k : List D → β) (z : β) : vwsK S st (o :: r) k z = vwK S st o (fun d => vwsK S st r (fun ds => k (d :: ds)) z) z := by
  unfold vwsK vwK; rw [vws_c]; cases vw S st o <;> cases vws S st r <;> rfl
@[simp ↓] theorem vdsK_n (S : Sls) (k : List D → β) (z : β) : vdsK S [] k z = k [] := rfl
@[simp ↓] theorem vdsK_v (S : Sls) (d : D) (r : List Opd) (k : List D → β) (z : β) : vdsK S (.v d :: r) k z = vdsK S r (fun ds => k (d :: ds)) z := by
  unfold vdsK; rw [vds_c, vd_v]; cases vds S r <;> rfl
@[simp ↓] theorem vdsK_h (S : Sls) (n : Nat) (r : List Opd) (k : List D → β) (z : β) : vdsK S (.h n :: r) k z = vdsK S r (fun ds => k (.loc n :: ds)) z := by
  unfold vdsK; rw [vds_c, vd_h]; cases vds S r <;> rfl
@[simp ↓] theorem vdsK_s (S : Sls) (i : Nat) (r : List Opd) (k : List D → β) (z : β) : vdsK S (.s i :: r) k z = getK S i (fun s => match s with | .d d => vdsK S r (fun ds => k (d :: ds)) z | _ => z) z := by
  unfold vdsK getK; rw [vds_c, vd_s]; rcases S[i]? with _ | s
  · rfl
  · cases s <;> cases vds S r <;> rfl
@[simp ↓] theorem wipeK_n (S : Sls) (k : Sls → β) : wipeK S [] k = k S := rfl
@[simp ↓] theorem wipeK_c (S : Sls) (v : Nat) (r : List Nat) (k : Sls → β) : wipeK S (v :: r) k = wipeK S r (fun S => setK S v .no k) := rfl
@[simp ↓] theorem restK_n (S0 S : Sls) (k : Sls → β) : restK S0 [] S k = k S := rfl
@[simp ↓] theorem restK_c (S0 S : Sls) (i : Nat) (r : List Nat) (k : Sls → β) : restK S0 (i :: r) S k = getK S0 i (fun s => match s with | .d x => setK S i (.d x) (fun S => restK S0 r S k) | _ => restK S0 r S k) (restK S0 r S k) := by
  unfold restK getK setK; rw [restS_c]; rcases S0[i]? with _ | s
  · rfl
  · cases s <;> rfl
def finB : Out → Res D
  | .nx _ st => .ok .non [] st
  | .ret d _ st => .ok d [] st
  | .exc x _ st => .exc x [] st
  | _ => .stuck
@[simp] theorem finB_nx (S : Sls) (st : Store) : finB (.nx S st) = .ok .non [] st := rfl
@[simp] theorem finB_ret (d : D) (S : Sls) (st : Store) : finB (.ret d S st) = .ok d [] st := rfl
@[simp] theorem finB_exc (x : Exc) (S : Sls) (st : Store) : finB (.exc x S st) = .exc x [] st := rfl
@[simp] theorem finB_stuck : finB .stuck = .stuck := rfl
def iniL {β : Type} (n : Nat) (ss : Sls) (k : Sls → β) : β := k (ss ++ List.replicate (n - ss.length) .no)
@[simp ↓] theorem iniL_0 (k : Sls → β) : iniL 0 [] k = k [] := rfl
@[simp ↓] theorem iniL_d (n : Nat) (d : Sl) (ds : Sls) (k : Sls → β) : iniL (n + 1) (d :: ds) k = iniL n ds (fun S => k (d :: S)) := by simp [iniL]
@[simp ↓] theorem iniL_n (n : Nat) (k : Sls → β) : iniL (n + 1) [] k = iniL n [] (fun S => k (.no :: S)) := by simp [iniL, List.replicate_succ]
def finO : Out → Res Ow
  | .rto w _ st => .ok w [] st
  | .exc x _ st => .exc x [] st
  | _ => .stuck
@[simp] theorem finO_rto (w : Ow) (S : Sls) (st : Store) : finO (.rto w S st) = .ok w [] st := rfl
@[simp] theorem finO_exc (x : Exc) (S : Sls) (st : Store) : finO (.exc x S st) = .exc x [] st := rfl
@[simp] theorem finO_stuck : finO .stuck = .stuck := rfl
theorem runBO_k (N : Nat) (b : EvS) (ss : List Sl) (st : Store) : runBO N b ss st = iniL N ss fun S => finO (b S st) := by
  rw [runBO_a]; show _ = finO (b _ _); cases b (ss ++ List.replicate (N - ss.length) .no) st <;> rfl
theorem runB_k (N : Nat) (b : EvS) (ds : List D) (st : Store) : runB N b ds st = iniK N ds fun S => finB (b S st) := by
  rw [runB_a]; show _ = finB (b _ _); cases b (ds.map Sl.d ++ List.replicate (N - ds.length) .no) st <;> rfl
end
section
variable {α β γ : Type} {S : Sls} {st : Store}
@[simp ↓] theorem Res.bind_go (r : Res α) (k : α → Sls → Store → Res β) : r.bind k = r.go k .exc .stuck := by cases r <;> rfl
@[simp ↓] theorem Res.out_go (r : Res α) (k : α → Sls → Store → Out) : r.out k = r.go k .exc .stuck := by cases r <;> rfl
@[simp ↓] theorem go_ok (a : α) (k : α → Sls → Store → β) (e : Exc → Sls → Store → β) (z : β) : (Res.ok a S st).go k e z = k a S st := rfl
@[simp ↓] theorem go_exc (x : Exc) (k : α → Sls → Store → β) (e : Exc → Sls → Store → β) (z : β) : (Res.exc x S st).go k e z = e x S st := rfl
@[simp ↓] theorem go_stuck (k : α → Sls → Store → β) (e : Exc → Sls → Store → β) (z : β) : (Res.stuck : Res α).go k e z = z := rfl
@[simp ↓] theorem go_go (r : Res α) (G : α → Sls → Store → Res γ) (k : γ → Sls → Store → β) (e : Exc → Sls → Store → β) (z : β) : (r.go G .exc .stuck).go k e z = r.go (fun a S st => (G a S st).go k e z) e z := by cases r <;> rfl
theorem go_bind (r : Res α) (G : α → Sls → Store → Res γ) (k : γ → Sls → Store → β) (e : Exc → Sls → Store → β) (z : β) : (r.bind G).go k e z = r.go (fun a S st => (G a S st).go k e z) e z := by cases r <;> rfl
@[simp ↓] theorem go_got (o : Option α) (k : α → Sls → Store → β) (e : Exc → Sls → Store → β) (z : β) : (got o S st).go k e z = match o with | some d => k d S st | none => z := by cases o <;> rfl
theorem go_c {r : Res α} {k k' : α → Sls → Store → β} {e : Exc → Sls → Store → β} {z : β} (h : ∀ a S st, k a S st = k' a S st) : r.go k e z = r.go k' e z := by cases r <;> first | rfl | exact h _ _ _
theorem calm_go (r : Res α) (k : α → Sls → Store → β) (e : Exc → Sls → Store → β) (z : β) : r.calm.go k e z = r.go k (fun _ _ _ => z) z := by cases r <;> rfl
@[simp ↓] theorem kE_g (d : D) (k : D → Sls → Store → β) (e : Exc → Sls → Store → β) (z : β) : (kE d S st).go k e z = k d S st := by
  rfl
@[simp ↓] theorem vE_g (i : Nat) (k : D → Sls → Store → β) (e : Exc → Sls → Store → β) (z : β) : (vE i S st).go k e z = getK S i (fun s => match s with | .d d => k d S st | _ => z) z := by
  rw [vE_a]; unfold getK; rcases S[i]? with _ | s
  · rfl
  · cases s <;> rfl
@[simp ↓] theorem zE_g (i : Nat) (k : D → Sls → Store → β) (e : Exc → Sls → Store → β) (z : β) : (zE i S st).go k e z = getK S i (fun s => match s with | .d d => k d S st | .own w => setK S i (.d w.d) (fun S => k w.d S st) | _ => z) z := by
  rw [zE_a]; unfold getK; rcases S[i]? with _ | s
  · rfl
  · cases s <;> rfl
@[simp ↓] theorem oV_g (f : Ev D) (k : Opd → Sls → Store → β) (e : Exc → Sls → Store → β) (z : β) : (oV f S st).go k e z = (f S st).go (fun d S st => k (.v d) S st) e z := by
  rw [oV_a, go_bind]; rfl
@[simp ↓] theorem oS_g (i : Nat) (k : Opd → Sls → Store → β) (e : Exc → Sls → Store → β) (z : β) : (oS i S st).go k e z = getK S i (fun s => match s with | .no => z | _ => k (.s i) S st) z := by
  rw [oS_a]; unfold getK; rcases S[i]? with _ | s
  · rfl
  · cases s <;> rfl
@[simp ↓] theorem aN_g  (k : List Opd → Sls → Store → β) (e : Exc → Sls → Store → β) (z : β) : (aN S st).go k e z = k [] S st := by
  rfl
@[simp ↓] theorem aC_g (f : Ev Opd) (g : Ev (List Opd)) (k : List Opd → Sls → Store → β) (e : Exc → Sls → Store → β) (z : β) : (aC f g S st).go k e z = (f S st).go (fun a S st => (g S st).go (fun r S st => k (a :: r) S st) e z) e z := by
  rw [aC_a, go_bind]; exact go_c fun a S st => by rw [go_bind]; rfl
@[simp ↓] theorem o2E_g (op : D → D → Option D) (fa fb : Ev Opd) (k : D → Sls → Store → β) (e : Exc → Sls → Store → β) (z : β) : (o2E op fa fb S st).go k e z = (fa S st).go (fun a S st => (fb S st).go (fun b S st => vwK S st a (fun x => vwK S st b (fun y => match op x y with | some d => k d S st | none => z) z) z) e z) e z := by
  simp only [vwK, vwsK, vdsK, wipeK, restK]
  rw [o2E_a, go_bind]; refine go_c fun a S st => ?_; rw [go_bind]; refine go_c fun b S st => ?_; cases vw S st a <;> cases vw S st b <;> first | rfl | (simp only [go_got]; done) | (simp only [go_got]; split <;> simp_all)
@[simp ↓ high] theorem o2E_gv (op : D → D → Option D) (f g : Ev D) (k : D → Sls → Store → β) (e : Exc → Sls → Store → β) (z : β) : (o2E op (oV f) (oV g) S st).go k e z = (f S st).go (fun x S st => (g S st).go (fun y S st => match op x y with | some d => k d S st | none => z) e z) e z := by
  rw [o2E_g, oV_g]; refine go_c fun a S st => ?_; rw [oV_g]; rfl
@[simp ↓] theorem o1E_g (op : D → Option D) (fa : Ev Opd) (k : D → Sls → Store → β) (e : Exc → Sls → Store → β) (z : β) : (o1E op fa S st).go k e z = (fa S st).go (fun a S st => vwK S st a (fun x => match op x with | some d => k d S st | none => z) z) e z := by
  simp only [vwK, vwsK, vdsK, wipeK, restK]
  rw [o1E_a, go_bind]; refine go_c fun a S st => ?_; cases vw S st a <;> first | rfl | (simp only [go_got]; done) | (simp only [go_got]; split <;> simp_all)
@[simp ↓] theorem oAE_g (op : List D → Option D) (fa : Ev (List Opd)) (k : D → Sls → Store → β) (e : Exc → Sls → Store → β) (z : β) : (oAE op fa S st).go k e z = (fa S st).go (fun a S st => vwsK S st a (fun x => match op x with | some d => k d S st | none => z) z) e z := by
  simp only [vwK, vwsK, vdsK, wipeK, restK]
  rw [oAE_a, go_bind]; refine go_c fun a S st => ?_; cases vws S st a <;> first | rfl | (simp only [go_got]; done) | (simp only [go_got]; split <;> simp_all)
@[simp ↓] theorem oAF_g (op : List D → Option Ow) (fa : Ev (List Opd)) (k : Ow → Sls → Store → β) (e : Exc → Sls → Store → β) (z : β) : (oAF op fa S st).go k e z = (fa S st).go (fun a S st => vwsK S st a (fun x => match op x with | some d => k d S st | none => z) z) e z := by
  simp only [vwK, vwsK, vdsK, wipeK, restK]
  rw [oAF_a, go_bind]; refine go_c fun a S st => ?_; cases vws S st a <;> first | rfl | (simp only [go_got]; done) | (simp only [go_got]; split <;> simp_all)
@[simp ↓] theorem o2F_g (op : D → D → Option Ow) (fa fb : Ev Opd) (k : Ow → Sls → Store → β) (e : Exc → Sls → Store → β) (z : β) : (o2F op fa fb S st).go k e z = (fa S st).go (fun a S st => (fb S st).go (fun b S st => vwK S st a (fun x => vwK S st b (fun y => match op x y with | some d => k d S st | none => z) z) z) e z) e z := by
  simp only [vwK, vwsK, vdsK, wipeK, restK]
  rw [o2F_a, go_bind]; refine go_c fun a S st => ?_; rw [go_bind]; refine go_c fun b S st => ?_; cases vw S st a <;> cases vw S st b <;> first | rfl | (simp only [go_got]; done) | (simp only [go_got]; split <;> simp_all)
@[simp ↓] theorem mE_g (T : String) (op : D → List D → Option D) (fo : Ev Opd) (fa : Ev (List Opd)) (k : D → Sls → Store → β) (e : Exc → Sls → Store → β) (z : β) : (mE T op fo fa S st).go k e z = (fo S st).go (fun o S st => vwK S st o (fun y => if tyD T y = true then (fa S st).go (fun a S st => vwK S st o (fun y => vwsK S st a (fun x => match op y x with | some d => k d S st | none => z) z) z) e z else z) z) e z := by
  simp only [vwK, vwsK, vdsK, wipeK, restK]
  rw [mE_a, go_bind]; refine go_c fun o S st => ?_
  cases vw S st o with
  | none => rfl
  | some y =>
    show Res.go (ite _ _ _) _ _ _ = ite _ _ _
    split
    · rw [go_bind]; refine go_c fun a S st => ?_; cases vw S st o <;> cases vws S st a <;> first | rfl | (simp only [go_got]; done) | (simp only [go_got]; split <;> simp_all)
    · rfl
@[simp ↓] theorem m0E_g (T : String) (op : D → Option D) (fo : Ev Opd) (k : D → Sls → Store → β) (e : Exc → Sls → Store → β) (z : β) : (m0E T op fo S st).go k e z = (fo S st).go (fun o S st => vwK S st o (fun y => if tyD T y = true then (match op y with | some d => k d S st | none => z) else z) z) e z := by
  simp only [vwK, vwsK, vdsK, wipeK, restK]
  rw [m0E_a, go_bind]; refine go_c fun o S st => ?_
  cases vw S st o with
  | none => rfl
  | some y =>
    show Res.go (ite _ _ _) _ _ _ = ite _ _ _
    split
    · simp only [go_got]; try (split <;> simp_all)
    · rfl
@[simp ↓] theorem fE_g (f : Ev Ow) (k : D → Sls → Store → β) (e : Exc → Sls → Store → β) (z : β) : (fE f S st).go k e z = (f S st).go (fun w S st => k w.d S st) e z := by
  rw [fE_a, go_bind]; rfl
@[simp ↓] theorem lF_g (fa : Ev (List Opd)) (k : Ow → Sls → Store → β) (e : Exc → Sls → Store → β) (z : β) : (lF fa S st).go k e z = (fa S st).go (fun a S st => vdsK S a (fun ds => if ds.length ≤ 16777216 then k (.l ds) S st else z) z) e z := by
  simp only [vwK, vwsK, vdsK, wipeK, restK]
  rw [lF_a, go_bind]; refine go_c fun a S st => ?_
  cases vds S a with
  | none => rfl
  | some ds => show Res.go (ite _ _ _) _ _ _ = ite _ _ _; split <;> rfl
@[simp ↓] theorem pE_g (fa : Ev (List Opd)) (k : D → Sls → Store → β) (e : Exc → Sls → Store → β) (z : β) : (pE fa S st).go k e z = (fa S st).go (fun a S st => vdsK S a (fun ds => if ds.length ≤ 16777216 then k (.tup ds) S st else z) z) e z := by
  simp only [vwK, vwsK, vdsK, wipeK, restK]
  rw [pE_a, go_bind]; refine go_c fun a S st => ?_
  cases vds S a with
  | none => rfl
  | some ds => show Res.go (ite _ _ _) _ _ _ = ite _ _ _; split <;> rfl
@[simp ↓] theorem sN_g  (k : Option Int → Sls → Store → β) (e : Exc → Sls → Store → β) (z : β) : (sN S st).go k e z = k none S st := by
  rfl
@[simp ↓] theorem sS_g (f : Ev D) (k : Option Int → Sls → Store → β) (e : Exc → Sls → Store → β) (z : β) : (sS f S st).go k e z = (f S st).go (fun d S st => match d with | .int i => k (some i) S st | _ => z) e z := by
  rw [sS_a, go_bind]; refine go_c fun d S st => ?_; cases d <;> rfl
@[simp ↓] theorem slE_g (op : D → Option Int → Option Int → Option D) (fa : Ev Opd) (fl fu : Ev (Option Int)) (k : D → Sls → Store → β) (e : Exc → Sls → Store → β) (z : β) : (slE op fa fl fu S st).go k e z = (fa S st).go (fun a S st => (fl S st).go (fun l S st => (fu S st).go (fun u S st => vwK S st a (fun x => match op x l u with | some d => k d S st | none => z) z) e z) e z) e z := by
  simp only [vwK, vwsK, vdsK, wipeK, restK]
  rw [slE_a, go_bind]; refine go_c fun a S st => ?_; rw [go_bind]; refine go_c fun l S st => ?_; rw [go_bind]; refine go_c fun u S st => ?_; cases vw S st a <;> first | rfl | (simp only [go_got]; done) | (simp only [go_got]; split <;> simp_all)
@[simp ↓] theorem cE_g (c : CallT) (fa : Ev (List Opd)) (k : D → Sls → Store → β) (e : Exc → Sls → Store → β) (z : β) : (cE c fa S st).go k e z = (fa S st).go (fun a S st => vdsK S a (fun ds => match c ds st with | .ok d _ st => k d S st | .exc x _ st => e x S st | .stuck => z) z) e z := by
  simp only [vwK, vwsK, vdsK, wipeK, restK]
  rw [cE_a, go_bind]; refine go_c fun a S st => ?_
  cases vds S a with
  | none => rfl
  | some ds => dsimp only; cases c ds st <;> rfl
@[simp ↓] theorem tT_g (f : Ev Opd) (k : Bool → Sls → Store → β) (e : Exc → Sls → Store → β) (z : β) : (tT f S st).go k e z = (f S st).go (fun o S st => vwK S st o (fun d => match tru d with | some b => k b S st | none => z) z) e z := by
  simp only [vwK, vwsK, vdsK, wipeK, restK]
  rw [tT_a, go_bind]; refine go_c fun a S st => ?_; cases vw S st a <;> first | rfl | (simp only [go_got]; done) | (simp only [go_got]; split <;> simp_all)
@[simp ↓] theorem tN_g (f : Ev Bool) (k : Bool → Sls → Store → β) (e : Exc → Sls → Store → β) (z : β) : (tN f S st).go k e z = (f S st).go (fun b S st => k (!b) S st) e z := by
  rw [tN_a, go_bind]; rfl
@[simp ↓] theorem tA_g (f g : Ev Bool) (k : Bool → Sls → Store → β) (e : Exc → Sls → Store → β) (z : β) : (tA f g S st).go k e z = (f S st).go (fun b S st => if b = true then (g S st).go k e z else k false S st) e z := by
  rw [tA_a, go_bind]; refine go_c fun b S st => ?_; cases b <;> rfl
@[simp ↓] theorem tO_g (f g : Ev Bool) (k : Bool → Sls → Store → β) (e : Exc → Sls → Store → β) (z : β) : (tO f g S st).go k e z = (f S st).go (fun b S st => if b = true then k true S st else (g S st).go k e z) e z := by
  rw [tO_a, go_bind]; refine go_c fun b S st => ?_; cases b <;> rfl
@[simp ↓] theorem tV_g (f : Ev D) (k : Bool → Sls → Store → β) (e : Exc → Sls → Store → β) (z : β) : (tV f S st).go k e z = (f S st).go (fun d S st => match d with | .bl b => k b S st | _ => z) e z := by
  rw [tV_a, go_bind]; refine go_c fun b S st => ?_; cases b <;> rfl
@[simp ↓] theorem tY_g  (k : Bool → Sls → Store → β) (e : Exc → Sls → Store → β) (z : β) : (tY S st).go k e z = k true S st := by
  rfl
@[simp ↓] theorem eA_g (f g : Ev D) (k : D → Sls → Store → β) (e : Exc → Sls → Store → β) (z : β) : (eA f g S st).go k e z = (f S st).go (fun d S st => match d with | .bl b => (if b = true then (g S st).go k e z else k (.bl false) S st) | _ => z) e z := by
  rw [eA_a, go_bind]; refine go_c fun d S st => ?_; cases d <;> first | rfl | (rename_i b; cases b <;> rfl)
@[simp ↓] theorem eO_g (f g : Ev D) (k : D → Sls → Store → β) (e : Exc → Sls → Store → β) (z : β) : (eO f g S st).go k e z = (f S st).go (fun d S st => match d with | .bl b => (if b = true then k (.bl true) S st else (g S st).go k e z) | _ => z) e z := by
  rw [eO_a, go_bind]; refine go_c fun d S st => ?_; cases d <;> first | rfl | (rename_i b; cases b <;> rfl)
@[simp ↓] theorem eN_g (f : Ev D) (k : D → Sls → Store → β) (e : Exc → Sls → Store → β) (z : β) : (eN f S st).go k e z = (f S st).go (fun d S st => match d with | .bl b => k (.bl (!b)) S st | _ => z) e z := by
  rw [eN_a, go_bind]; refine go_c fun d S st => ?_; cases d <;> rfl
@[simp ↓] theorem eI_g (t : Ev Bool) (f g : Ev D) (k : D → Sls → Store → β) (e : Exc → Sls → Store → β) (z : β) : (eI t f g S st).go k e z = (t S st).go (fun b S st => if b = true then (f S st).go k e z else (g S st).go k e z) e z := by
  rw [eI_a, go_bind]; refine go_c fun b S st => ?_; cases b <;> rfl
@[simp ↓] theorem iE_g (f : Ev D) (k : List D → Sls → Store → β) (e : Exc → Sls → Store → β) (z : β) : (iE f S st).go k e z = (f S st).go (fun d S st => match itD d with | some ds => k ds S st | none => z) e z := by
  rw [iE_a, go_bind]; refine go_c fun b S st => ?_; simp only [go_got]; try (split <;> simp_all)
@[simp ↓] theorem rgG_g (a n : Int) (k : List D → Sls → Store → β) (e : Exc → Sls → Store → β) (z : β) : (rgG a n S st).go k e z = if (-1000000 ≤ a ∧ a ≤ 1000000) ∧ -1000000 ≤ n ∧ n ≤ 1000000 then k (rng (n - a).toNat a) S st else z := by
  show Res.go (ite _ _ _) _ _ _ = ite _ _ _; split <;> rfl
@[simp ↓] theorem iR1_g (f : Ev (List Opd)) (k : List D → Sls → Store → β) (e : Exc → Sls → Store → β) (z : β) : (iR1 f S st).go k e z = (f S st).go (fun a S st => vwsK S st a (fun l => match l with | [.int n] => (rgG 0 n S st).go k e z | _ => z) z) e z := by
  simp only [vwK, vwsK, vdsK, wipeK, restK]
  rw [iR1_a, go_bind]; refine go_c fun a S st => ?_; rcases vws S st a with _ | l
  · rfl
  · rcases l with _ | ⟨x, r⟩
    · rfl
    · cases x <;> cases r <;> rfl
@[simp ↓] theorem iR2_g (f : Ev (List Opd)) (k : List D → Sls → Store → β) (e : Exc → Sls → Store → β) (z : β) : (iR2 f S st).go k e z = (f S st).go (fun a S st => vwsK S st a (fun l => match l with | [.int a, .int n] => (rgG a n S st).go k e z | _ => z) z) e z := by
  simp only [vwK, vwsK, vdsK, wipeK, restK]
  rw [iR2_a, go_bind]; refine go_c fun a S st => ?_; rcases vws S st a with _ | l
  · rfl
  · rcases l with _ | ⟨x, _ | ⟨y, r⟩⟩
    · rfl
    · cases x <;> rfl
    · cases x <;> first | rfl | (cases y <;> cases r <;> rfl)
@[simp ↓] theorem iEn_g (f : Ev (List Opd)) (k : List D → Sls → Store → β) (e : Exc → Sls → Store → β) (z : β) : (iEn f S st).go k e z = (f S st).go (fun a S st => vdsK S a (fun l => match l with | [d] => (match asL d with | some ds => k (enumD ds) S st | none => z) | _ => z) z) e z := by
  simp only [vwK, vwsK, vdsK, wipeK, restK]
  rw [iEn_a, go_bind]; refine go_c fun a S st => ?_; rcases vds S a with _ | l
  · rfl
  · rcases l with _ | ⟨x, r⟩
    · rfl
    · cases r with
      | nil => dsimp only; cases asL x <;> rfl
      | cons _ _ => rfl
@[simp ↓] theorem iV_g (f : Ev (List Opd)) (k : List D → Sls → Store → β) (e : Exc → Sls → Store → β) (z : β) : (iV f S st).go k e z = (f S st).go (fun a S st => vdsK S a (fun l => match l with | [d] => (match asL d with | some ds => k ds.reverse S st | none => z) | _ => z) z) e z := by
  simp only [vwK, vwsK, vdsK, wipeK, restK]
  rw [iV_a, go_bind]; refine go_c fun a S st => ?_; rcases vds S a with _ | l
  · rfl
  · rcases l with _ | ⟨x, r⟩
    · rfl
    · cases r with
      | nil => dsimp only; cases asL x <;> rfl
      | cons _ _ => rfl
@[simp ↓] theorem iZ_g (f : Ev (List Opd)) (k : List D → Sls → Store → β) (e : Exc → Sls → Store → β) (z : β) : (iZ f S st).go k e z = (f S st).go (fun a S st => vdsK S a (fun l => match l with | [d, d2] => (match asL d, asL d2 with | some ds, some es => k (zipD ds es) S st | _, _ => z) | _ => z) z) e z := by
  simp only [vwK, vwsK, vdsK, wipeK, restK]
  rw [iZ_a, go_bind]; refine go_c fun a S st => ?_; rcases vds S a with _ | l
  · rfl
  · rcases l with _ | ⟨x, _ | ⟨y, r⟩⟩
    · rfl
    · rfl
    · cases r with
      | nil => dsimp only; cases asL x <;> cases asL y <;> rfl
      | cons _ _ => rfl
@[simp ↓] theorem lcF_g (fi : Ev (List D)) (g : Tg) (own : List Nat) (t : Ev Bool) (f : Ev D) (k : Ow → Sls → Store → β) (e : Exc → Sls → Store → β) (z : β) : (lcF fi g own t f S st).go k e z = (fi S st).go (fun ds S st => wipeK S own fun Sw => match lcL g own t f ds Sw st with | .ok ys S2 st => (if ys.length ≤ 16777216 then restK S own S2 (fun S => k (.l ys) S st) else z) | .exc x S st => e x S st | .stuck => z) e z := by
  simp only [vwK, vwsK, vdsK, wipeK, restK]
  rw [lcF_a, go_bind]; refine go_c fun a S st => ?_; rw [go_bind]; cases lcL g own t f a (wipeS S own) st <;> try rfl
  show Res.go (ite _ _ _) _ _ _ = ite _ _ _; split <;> rfl
@[simp ↓] theorem o3E_g (op op2 : D → D → Option D) (f g h : Ev D) (k : D → Sls → Store → β) (e : Exc → Sls → Store → β) (z : β) : (o3E op op2 (oV f) (oV g) (oV h) S st).go k e z = (f S st).go (fun x S st => (g S st).go (fun y S st => match op x y with | some (.bl true) => (h S st).go (fun w S st => match op2 y w with | some d => k d S st | none => z) e z | some (.bl false) => k (.bl false) S st | _ => z) e z) e z := by
  rw [o3E_a, go_bind, oV_g]; refine go_c fun x S st => ?_; rw [go_bind, oV_g]; refine go_c fun y S st => ?_
  show Res.go (match op x y with | some (.bl true) => (oV h S st).bind fun c S st => (match some y, vw S st c with | some y, some z => got (op2 y z) S st | _, _ => .stuck) | some (.bl false) => .ok (.bl false) S st | _ => .stuck) _ _ _ = _
  rcases op x y with _ | d
  · rfl
  · cases d with
    | bl b => cases b with
      | true => show Res.go (Res.bind _ _) _ _ _ = _; rw [go_bind, oV_g]; refine go_c fun w S st => ?_; simp only [vw_v, go_got]; try (split <;> simp_all)
      | false => rfl
    | _ => rfl
@[simp ↓] theorem newE_g (c : Nat) (ks : List Nat) (fa : Ev (List Opd)) (k : D → Sls → Store → β) (e : Exc → Sls → Store → β) (z : β) : (newE c ks fa S st).go k e z = (fa S st).go (fun a S st => vdsK S a (fun ds => if ds.length = ks.length then k (.obj c (ks.zip ds)) S st else z) z) e z := by
  simp only [vwK, vwsK, vdsK, wipeK, restK]
  rw [newE_a, go_bind]; refine go_c fun a S st => ?_
  cases vds S a with
  | none => rfl
  | some ds => show Res.go (ite _ _ _) _ _ _ = ite _ _ _; split <;> rfl
@[simp ↓] theorem mcE_g (cs : List Nat) (mk : Nat) (tab : Nat → CallT) (fo : Ev D) (fa : Ev (List Opd)) (k : D → Sls → Store → β) (e : Exc → Sls → Store → β) (z : β) : (mcE cs mk tab fo fa S st).go k e z = (fo S st).go (fun o S st => match o with | .obj c es => (if c ∈ cs ∧ es.lookup mk = none then (fa S st).go (fun a S st => vdsK S a (fun ds => match tab c (.obj c es :: ds) st with | .ok d _ st => k d S st | .exc x _ st => e x S st | .stuck => z) z) e z else z) | _ => z) e z := by
  simp only [vwK, vwsK, vdsK, wipeK, restK]
  rw [mcE_a, go_bind]; refine go_c fun o S st => ?_
  cases o with
  | obj c es =>
    show Res.go (ite _ _ _) _ _ _ = ite _ _ _
    split
    · rw [go_bind]; refine go_c fun a S st => ?_
      cases vds S a with
      | none => rfl
      | some ds => dsimp only; cases tab c (.obj c es :: ds) st <;> rfl
    · rfl
  | _ => rfl
@[simp ↓] theorem oKE_g (op : List D → D → Option D) (fa : Ev (List Opd)) (fd : Ev D) (k : D → Sls → Store → β) (e : Exc → Sls → Store → β) (z : β) : (oKE op fa fd S st).go k e z = (fa S st).go (fun a S st => (fd S st).go (fun d S st => vwsK S st a (fun x => match op x d with | some d => k d S st | none => z) z) e z) e z := by
  simp only [vwK, vwsK, vdsK, wipeK, restK]
  rw [oKE_a, go_bind]; refine go_c fun a S st => ?_; rw [go_bind]; refine go_c fun d S st => ?_; cases vws S st a <;> first | rfl | (simp only [go_got]; done) | (simp only [go_got]; split <;> simp_all)
@[simp ↓] theorem cKE_g (c : CallT) (fa : Ev (List Opd)) (f2 : Ev D) (k : D → Sls → Store → β) (e : Exc → Sls → Store → β) (z : β) : (cKE c fa f2 S st).go k e z = (fa S st).go (fun a S st => (f2 S st).go (fun y S st => vdsK S a (fun ds => match c (ds ++ [y]) st with | .ok d _ st => k d S st | .exc x _ st => e x S st | .stuck => z) z) e z) e z := by
  simp only [vwK, vwsK, vdsK, wipeK, restK]
  rw [cKE_a, go_bind]; refine go_c fun a S st => ?_; rw [go_bind]; refine go_c fun y S st => ?_
  cases vds S a with
  | none => rfl
  | some ds => dsimp only; cases c (ds ++ [y]) st <;> rfl
@[simp ↓] theorem oZ_g (i : Nat) (k : Ow → Sls → Store → β) (e : Exc → Sls → Store → β) (z : β) : (oZ i S st).go k e z = getK S i (fun s => match s with | .own w => setK S i .no (fun S => k w S st) | _ => z) z := by
  rw [oZ_a]; unfold getK; rcases S[i]? with _ | s
  · rfl
  · cases s <;> rfl
@[simp ↓] theorem coE_g (c : CallO) (fa : Ev (List Opd)) (k : Ow → Sls → Store → β) (e : Exc → Sls → Store → β) (z : β) : (coE c fa S st).go k e z = (fa S st).go (fun a S st => vdsK S a (fun ds => match c (ds.map .d) st with | .ok w _ st => k w S st | .exc x _ st => e x S st | .stuck => z) z) e z := by
  simp only [vwK, vwsK, vdsK, wipeK, restK]
  rw [coE_a, go_bind]; refine go_c fun a S st => ?_
  cases vds S a with
  | none => rfl
  | some ds => dsimp only; cases c (ds.map .d) st <;> rfl
@[simp ↓] theorem coF_g (c : CallO) (j : Nat) (fa : Ev (List Opd)) (k : Ow → Sls → Store → β) (e : Exc → Sls → Store → β) (z : β) : (coF c j fa S st).go k e z = getK S j (fun s => match s with | .own _ => (fa S st).go (fun a S st => vdsK S a (fun ds => getK S j (fun s => match s with | .own w => (match c (.own w :: ds.map .d) st with | .ok w _ st => setK S j .no fun S => k w S st | .exc x _ st => setK S j .no fun S => e x S st | .stuck => z) | _ => z) z) z) e z | _ => z) z := by
  simp only [vwK, vwsK, vdsK, wipeK, restK]
  rw [coF_a]; unfold getK; rcases S[j]? with _ | s
  · rfl
  · cases s with
    | own w0 =>
      dsimp only; rw [go_bind]; refine go_c fun a S st => ?_
      cases vds S a with
      | none => rfl
      | some ds =>
        dsimp only
        rcases S[j]? with _ | s
        · rfl
        · cases s with
          | own w => dsimp only; cases c (.own w :: ds.map .d) st <;> rfl
          | _ => rfl
    | _ => rfl
@[simp ↓] theorem oSrt_g (fa : Ev Opd) (k : Ow → Sls → Store → β) (e : Exc → Sls → Store → β) (z : β) : (oSrt fa S st).go k e z = (fa S st).go (fun a S st => vwK S st a (fun x => match asL x with | some ds => (match intsD ds with | some ns => (if ns.length < 1000 ∧ (srt ns).length < 64 then k (.l ((srt ns).map .int)) S st else z) | none => z) | none => z) z) e z := by
  simp only [vwK, vwsK, vdsK, wipeK, restK]
  rw [oSrt_a, go_bind]; refine go_c fun a S st => ?_
  cases vw S st a with
  | none => rfl
  | some x =>
    dsimp only
    cases asL x with
    | none => rfl
    | some ds =>
      dsimp only
      cases intsD ds with
      | none => rfl
      | some ns => dsimp only; split <;> rfl
@[simp ↓] theorem kF0_g  (k : Ow → Sls → Store → β) (e : Exc → Sls → Store → β) (z : β) : (kF0 S st).go k e z = k (.k []) S st := by
  rfl
@[simp ↓] theorem kF_g (ks : List (List Nat)) (fa : Ev (List Opd)) (k : Ow → Sls → Store → β) (e : Exc → Sls → Store → β) (z : β) : (kF ks fa S st).go k e z = (fa S st).go (fun a S st => vdsK S a (fun ds => if ds.length = ks.length then k (.k (mergeD [] ((ks.map D.str).zip ds))) S st else z) z) (fun _ _ _ => z) z := by
  simp only [vwK, vwsK, vdsK, wipeK, restK]
  unfold kF; rw [go_bind, calm_go]; refine go_c fun a S st => ?_
  cases vds S a with
  | none => rfl
  | some ds => show Res.go (ite _ _ _) _ _ _ = ite _ _ _; split <;> rfl
@[simp ↓] theorem isE_g (T : XTab) (a : Addr) (cx : Nat) (ts : List (Option Nat)) (i : Nat) (k : D → Sls → Store → β) (e : Exc → Sls → Store → β) (z : β) : (isE T a cx ts i S st).go k e z = getK S i (fun s => match s with | .d (.err a2 c2) => (if a2 = a ∧ c2 = cx then (match isX T cx ts with | some b => k (.bl b) S st | none => z) else z) | _ => z) z := by
  unfold isE getK; rcases S[i]? with _ | s
  · rfl
  · cases s with
    | d x => cases x <;> try rfl
             dsimp only; split
             · cases isX T cx ts <;> rfl
             · rfl
    | _ => rfl
@[simp ↓] theorem cPE_g (f : CallP) (a : Addr) (cx i : Nat) (k : D → Sls → Store → β) (e : Exc → Sls → Store → β) (z : β) : (cPE f a cx i S st).go k e z = getK S i (fun s => match s with | .d (.err a2 c2) => (if a2 = a ∧ c2 = cx then (match f a cx [.err a cx] st with | .ok d _ st => k d S st | _ => z) else z) | _ => z) z := by
  unfold cPE getK; rcases S[i]? with _ | s
  · rfl
  · cases s with
    | d x => cases x <;> try rfl
             dsimp only; split
             · cases f a cx [.err a cx] st <;> rfl
             · rfl
    | _ => rfl
@[simp ↓] theorem oH_g (f : Ev D) (k : Opd → Sls → Store → β) (e : Exc → Sls → Store → β) (z : β) : (oH f S st).go k e z = (f S st).go (fun d S st => k (hnd d) S st) e z := by
  unfold oH; rw [go_bind]; refine go_c fun d S st => ?_; rfl
@[simp ↓] theorem aE_g (f : Ev Ow) (k : D → Sls → Store → β) (e : Exc → Sls → Store → β) (z : β) : (aE f S st).go k e z = (f S st).go (fun w S st => k (.loc st.length) S (st ++ [.o w])) e z := by
  unfold aE; rw [go_bind]; refine go_c fun d S st => ?_; rfl
@[simp ↓] theorem mhE_g (cs : List Nat) (mk : Nat) (tab : Nat → CallT) (fo : Ev D) (fa : Ev (List Opd)) (k : D → Sls → Store → β) (e : Exc → Sls → Store → β) (z : β) : (mhE cs mk tab fo fa S st).go k e z = (fo S st).go (fun o S st => match o with | .loc n => (match st[n]? with | some (.i c es) => (if c ∈ cs ∧ es.lookup mk = none then (fa S st).go (fun a S st => vdsK S a (fun ds => match tab c (.loc n :: ds) st with | .ok d _ st => k d S st | .exc x _ st => e x S st | .stuck => z) z) e z else z) | _ => z) | _ => z) e z := by
  simp only [vwK, vwsK, vdsK, wipeK, restK]
  unfold mhE; rw [go_bind]; refine go_c fun o S st => ?_
  cases o with
  | loc n =>
    dsimp only
    rcases st[n]? with _ | x
    · rfl
    · cases x with
      | i c es =>
        show Res.go (ite _ _ _) _ _ _ = ite _ _ _
        split
        · rw [go_bind]; refine go_c fun a S st => ?_
          cases vds S a with
          | none => rfl
          | some ds => dsimp only; cases tab c (.loc n :: ds) st <;> rfl
        · rfl
      | _ => rfl
  | _ => rfl
@[simp ↓] theorem newH_g (c : Nat) (ci : CallT) (fa : Ev (List Opd)) (k : D → Sls → Store → β) (e : Exc → Sls → Store → β) (z : β) : (newH c ci fa S st).go k e z = (fa S st).go (fun a S st => vdsK S a (fun ds => match ci (.loc st.length :: ds) (st ++ [.i c []]) with | .ok .non _ st2 => k (.loc st.length) S st2 | _ => z) z) e z := by
  simp only [vwK, vwsK, vdsK, wipeK, restK]
  unfold newH; rw [go_bind]; refine go_c fun a S st => ?_
  cases vds S a with
  | none => rfl
  | some ds =>
    dsimp only
    generalize ci (.loc st.length :: ds) (st ++ [.i c []]) = r
    rcases r with d | _ | _
    · cases d <;> rfl
    · rfl
    · rfl
@[simp ↓] theorem ePopL_g (fo : Ev Opd) (k : D → Sls → Store → β) (e : Exc → Sls → Store → β) (z : β) : (ePopL fo S st).go k e z = (fo S st).go (fun a S st => match a with | .h n => (match st[n]? with | some (.o (.l ds)) => (match ds.getLast? with | some d => setS st n (.o (.l ds.dropLast)) fun st => k d S st | none => z) | _ => z) | _ => z) e z := by
  unfold ePopL; rw [go_bind]; refine go_c fun a S st => ?_
  cases a with
  | h n =>
    dsimp only
    rcases st[n]? with _ | x
    · rfl
    · cases x with
      | o w => cases w with
        | l ds => dsimp only; cases ds.getLast? <;> rfl
        | k _ => rfl
      | _ => rfl
  | _ => rfl
@[simp ↓] theorem eClrL_g (fo : Ev Opd) (k : D → Sls → Store → β) (e : Exc → Sls → Store → β) (z : β) : (eClrL fo S st).go k e z = (fo S st).go (fun a S st => match a with | .h n => (match st[n]? with | some (.o (.l _)) => setS st n (.o (.l [])) fun st => k .non S st | _ => z) | _ => z) e z := by
  unfold eClrL; rw [go_bind]; refine go_c fun a S st => ?_
  cases a with
  | h n =>
    dsimp only
    rcases st[n]? with _ | x
    · rfl
    · cases x with
      | o w => cases w with
        | l ds => rfl
        | k _ => rfl
      | _ => rfl
  | _ => rfl
@[simp ↓] theorem sNil_p  : sNil S st = .nx S st := by rfl
@[simp ↓] theorem sSeq_p (f g : EvS) : sSeq f g S st = (f S st).then g := by rfl
@[simp ↓] theorem sE_p (f : Ev D) : sE f S st = (f S st).go (fun _ S st => .nx S st) .exc .stuck := by exact Res.out_go ..
@[simp ↓] theorem sRO_p (f : Ev Ow) : sRO f S st = (f S st).go (fun w S st => .rto w S st) .exc .stuck := by exact Res.out_go ..
@[simp ↓] theorem sR_p (f : Ev D) : sR f S st = (f S st).go (fun d S st => .ret d S st) .exc .stuck := by exact Res.out_go ..
@[simp ↓] theorem sI_p (t : Ev Bool) (f g : EvS) : sI t f g S st = (t S st).go (fun b S st => if b = true then f S st else g S st) .exc .stuck := by exact Res.out_go ..
@[simp ↓] theorem sV_p (i : Nat) (f : Ev D) : sV i f S st = (f S st).go (fun d S st => setK S i (.d d) fun S => .nx S st) .exc .stuck := by exact Res.out_go ..
@[simp ↓] theorem sO_p (i : Nat) (f : Ev Ow) : sO i f S st = (f S st).go (fun w S st => setK S i (.own w) fun S => .nx S st) .exc .stuck := by exact Res.out_go ..
@[simp ↓] theorem sG_p (g : Tg) (f : Ev D) : sG g f S st = (f S st).go (fun d S st => match g d S with | some S2 => .nx S2 st | none => .stuck) .exc .stuck := by exact Res.out_go ..
@[simp ↓] theorem sF_p (f : Ev (List D)) (g : Tg) (b : EvS) : sF f g b S st = (f S st).go (fun ds S st => forL g b ds S st) .exc .stuck := by exact Res.out_go ..
@[simp ↓] theorem sAug_p (i : Nat) (op : D → D → Option D) (f : Ev Opd) : sAug i op f S st = getK S i (fun s => match s with | .d x => (f S st).go (fun y S st => vwK S st y (fun y => match op x y with | some v => setK S i (.d v) fun S => .nx S st | none => .stuck) .stuck) .exc .stuck | _ => .stuck) .stuck := by
  simp only [vwK, vwsK, vdsK]
  rw [sAug_a]; unfold getK; rcases S[i]? with _ | s
  · rfl
  · cases s with
    | d x => exact Res.out_go ..
    | _ => rfl
@[simp ↓] theorem sAp_p (i : Nat) (f : Ev D) : sAp i (oV f) S st = getK S i (fun s => match s with | .own (.l _) => (f S st).go (fun d S st => getK S i (fun s => match s with | .own (.l ds) => if ds.length < 16777216 then setK S i (.own (.l (ds ++ [d]))) fun S => .nx S st else .stuck | _ => .stuck) .stuck) .exc .stuck | _ => .stuck) .stuck := by 
  rw [sAp_a]; unfold getK; rcases S[i]? with _ | ⟨_ | _ | ⟨_ | _⟩⟩ <;> try rfl
  dsimp only; rw [Res.out_go, oV_g]; refine go_c fun d S st => ?_
  dsimp only [vd_v]; rcases S[i]? with _ | ⟨_ | _ | ⟨_ | _⟩⟩ <;> rfl
@[simp ↓] theorem sEx_p (i : Nat) (f : Ev D) : sEx i f S st = getK S i (fun s => match s with | .own (.l _) => (f S st).go (fun d S st => match d with | .lst es => getK S i (fun s => match s with | .own (.l ds) => if ds.length + es.length ≤ 16777216 then setK S i (.own (.l (ds ++ es))) fun S => .nx S st else .stuck | _ => .stuck) .stuck | _ => .stuck) .exc .stuck | _ => .stuck) .stuck := by 
  rw [sEx_a]; unfold getK; rcases S[i]? with _ | ⟨_ | _ | ⟨_ | _⟩⟩ <;> try rfl
  dsimp only; rw [Res.out_go]; refine go_c fun d S st => ?_
  cases d <;> try rfl
  dsimp only; rcases S[i]? with _ | ⟨_ | _ | ⟨_ | _⟩⟩ <;> rfl
@[simp ↓] theorem sSet_p (i : Nat) (fv fj : Ev D) : sSet i fv fj S st = (fv S st).go (fun d S st => getK S i (fun s => match s with | .own (.l _) => (fj S st).go (fun j S st => match j with | .int n => getK S i (fun s => match s with | .own (.l ds) => (match ixN ds.length n with | some j => setK S i (.own (.l (ds.set j d))) fun S => .nx S st | none => .stuck) | _ => .stuck) .stuck | _ => .stuck) .exc .stuck | _ => .stuck) .stuck) .exc .stuck := by 
  show (fv S st).out _ = _; rw [Res.out_go]; refine go_c fun d S st => ?_
  unfold getK; rcases S[i]? with _ | ⟨_ | _ | ⟨_ | _⟩⟩ <;> try rfl
  dsimp only; rw [Res.out_go]; refine go_c fun j S st => ?_
  cases j <;> try rfl
  dsimp only; rcases S[i]? with _ | ⟨_ | _ | ⟨_ | _⟩⟩ <;> rfl
@[simp ↓] theorem sAugS_p (i : Nat) (g : Int → Int → Int) (fj fv : Ev D) : sAugS i g fj fv S st = getK S i (fun s => match s with | .own (.l _) => (fj S st).go (fun j S st => match j with | .int n => getK S i (fun s => match s with | .own (.l ds) => (match L2.atI ds n with | some (.int a) => (fv S st).go (fun y S st => match y with | .int b => getK S i (fun s => match s with | .own (.l es) => (match ixN es.length n with | some j => setK S i (.own (.l (es.set j (.int (g a b))))) fun S => .nx S st | none => .stuck) | _ => .stuck) .stuck | _ => .stuck) .exc .stuck | _ => .stuck) | _ => .stuck) .stuck | _ => .stuck) .exc .stuck | _ => .stuck) .stuck := by 
  unfold sAugS getK; rcases S[i]? with _ | ⟨_ | _ | ⟨_ | _⟩⟩ <;> try rfl
  dsimp only; rw [Res.out_go]; refine go_c fun j S st => ?_
  cases j <;> try rfl
  rename_i n; dsimp only; rcases S[i]? with _ | ⟨_ | _ | ⟨_ | _⟩⟩ <;> try rfl
  rename_i ds; dsimp only; rcases L2.atI ds n with _ | d
  · rfl
  · cases d <;> try rfl
    dsimp only; rw [Res.out_go]; refine go_c fun y S st => ?_
    cases y <;> try rfl
    dsimp only; rcases S[i]? with _ | ⟨_ | _ | ⟨_ | _⟩⟩ <;> rfl
@[simp ↓] theorem sPut_p (i : Nat) (fv fj : Ev D) : sPut i fv fj S st = (fv S st).go (fun d S st => getK S i (fun s => match s with | .own (.k _) => (fj S st).go (fun j S st => getK S i (fun s => match s with | .own (.k ds) => (if isKey j = true ∧ ds.length < 16777216 then setK S i (.own (.k (putD ds j d))) fun S => .nx S st else .stuck) | _ => .stuck) .stuck) .exc .stuck | _ => .stuck) .stuck) .exc .stuck := by 
  show (fv S st).out _ = _; rw [Res.out_go]; refine go_c fun d S st => ?_
  unfold getK; rcases S[i]? with _ | ⟨_ | _ | ⟨_ | _⟩⟩ <;> try rfl
  dsimp only; rw [Res.out_go]; refine go_c fun j S st => ?_
  rcases S[i]? with _ | ⟨_ | _ | ⟨_ | _⟩⟩ <;> rfl
@[simp ↓] theorem sP_p (i j : Nat) (fa : Ev (List Opd)) : sP i j fa S st = (fa S st).go (fun a S st => vdsK S a (fun l => match l with | [x, y] => setK S i (.d x) fun S => setK S j (.d y) fun S => .nx S st | _ => .stuck) .stuck) .exc .stuck := by
  simp only [vwK, vwsK, vdsK]
  rw [sP_a, Res.out_go]; refine go_c fun a S st => ?_
  rcases vds S a with _ | l
  · rfl
  · rcases l with _ | ⟨x, _ | ⟨y, _ | ⟨w, r⟩⟩⟩ <;> rfl
@[simp ↓] theorem sApL_p (fo : Ev Opd) (f : Ev D) : sApL fo (oV f) S st = (fo S st).go (fun a S st => match a with | .h n => (match st[n]? with | some (.o (.l _)) => (f S st).go (fun d S st => match st[n]? with | some (.o (.l ds)) => (if ds.length < 16777216 then setS st n (.o (.l (ds ++ [d]))) fun st => .nx S st else .stuck) | _ => .stuck) .exc .stuck | _ => .stuck) | _ => .stuck) .exc .stuck := by 
  unfold sApL; rw [Res.out_go]; refine go_c fun a S st => ?_
  cases a with
  | h n =>
    dsimp only
    rcases st[n]? with _ | x
    · rfl
    · cases x with
      | o w => cases w with
        | l ds => dsimp only; rw [Res.out_go, oV_g]; refine go_c fun d S st => ?_; dsimp only [vd_v]; rcases st[n]? with _ | x
                  · rfl
                  · cases x with
                    | o w => cases w <;> rfl
                    | _ => rfl
        | k _ => rfl
      | _ => rfl
  | _ => rfl
@[simp ↓] theorem sFL_p (cs : List Nat) (kf : Nat) (fo : Ev Opd) (fe : Ev D) : sFL cs kf fo fe S st = (fe S st).go (fun d S st => (fo S st).go (fun a S st => match a with | .h n => (match st[n]? with | some (.i c es) => (if c ∈ cs ∧ es.length < 1000 then setS st n (.i c (putD' kf d es)) fun st => .nx S st else .stuck) | _ => .stuck) | _ => .stuck) .exc .stuck) .exc .stuck := by 
  unfold sFL; rw [Res.out_go]; refine go_c fun d S st => ?_; rw [Res.out_go]; refine go_c fun a S st => ?_
  cases a with
  | h n =>
    dsimp only
    rcases st[n]? with _ | x
    · rfl
    · cases x <;> rfl
  | _ => rfl
@[simp ↓] theorem sSetL_p (fo : Ev Opd) (fv fj : Ev D) : sSetL fo fv fj S st = (fv S st).go (fun d S st => (fo S st).go (fun a S st => match a with | .h n => (fj S st).go (fun j S st => match j with | .int i => (match st[n]? with | some (.o (.l ds)) => (match ixN ds.length i with | some j => setS st n (.o (.l (ds.set j d))) fun st => .nx S st | none => .stuck) | _ => .stuck) | _ => .stuck) .exc .stuck | _ => .stuck) .exc .stuck) .exc .stuck := by 
  unfold sSetL; rw [Res.out_go]; refine go_c fun d S st => ?_; rw [Res.out_go]; refine go_c fun a S st => ?_
  cases a with
  | h n =>
    dsimp only; rw [Res.out_go]; refine go_c fun j S st => ?_
    cases j <;> try rfl
    dsimp only
    rcases st[n]? with _ | x
    · rfl
    · cases x with
      | o w => cases w <;> rfl
      | _ => rfl
  | _ => rfl
@[simp ↓] theorem sX_p (c : Nat) : sX c S st = .exc ⟨c, []⟩ S st := by rfl
@[simp] theorem clr_nx (i : Nat) (S : Sls) (st : Store) : clr i (.nx S st) = .nx (S.set i .no) st := rfl
@[simp] theorem clr_ret (i : Nat) (d : D) (S : Sls) (st : Store) : clr i (.ret d S st) = .ret d (S.set i .no) st := rfl
@[simp] theorem pickO_c (o : Out) : pickO (fun _ => o) = o := pickO_eq fun _ => rfl
theorem sTryA_exc {T : XTab} {h i c : Nat} {fb : EvS} {fs : Addr → Nat → EvS} {S1 : Sls} {st1 : Store} {o : Out} (e : fb S st = .exc ⟨c, []⟩ S1 st1) (hl : xLook T c h = some true) (ho : ∀ a, clr i (fs a c (S1.set i (.d (.err a c))) st1) = o) : sTryA T h i fb fs S st = o := by unfold sTryA; rw [e]; dsimp only; rw [hl]; exact pickO_eq ho
theorem sTryA_nx {T : XTab} {h i : Nat} {fb : EvS} {fs : Addr → Nat → EvS} {S1 : Sls} {st1 : Store} (e : fb S st = .nx S1 st1) : sTryA T h i fb fs S st = .nx S1 st1 := by unfold sTryA; rw [e]
theorem sTryA_ret {T : XTab} {h i : Nat} {fb : EvS} {fs : Addr → Nat → EvS} {d : D} {S1 : Sls} {st1 : Store} (e : fb S st = .ret d S1 st1) : sTryA T h i fb fs S st = .ret d S1 st1 := by unfold sTryA; rw [e]
theorem then_go {α : Type} (r : Res α) (G : α → Sls → Store → Out) (k : Sls → Store → Out) : (r.out G).then k = r.go (fun a S st => (G a S st).then k) .exc .stuck := by cases r <;> rfl
@[simp ↓] theorem then_go2 {α : Type} (r : Res α) (G : α → Sls → Store → Out) (k : Sls → Store → Out) : (r.go G .exc .stuck).then k = r.go (fun a S st => (G a S st).then k) .exc .stuck := by cases r <;> rfl
@[simp ↓] theorem then_getK (S : Sls) (i : Nat) (G : Sl → Out) (k : Sls → Store → Out) : (getK S i G .stuck).then k = getK S i (fun s => (G s).then k) .stuck := by unfold getK; cases S[i]? <;> rfl
@[simp ↓] theorem then_setK (S : Sls) (i : Nat) (x : Sl) (G : Sls → Out) (k : Sls → Store → Out) : (setK S i x G).then k = setK S i x (fun S => (G S).then k) := rfl
@[simp ↓] theorem then_ite (c : Prop) [Decidable c] (a b : Out) (k : Sls → Store → Out) : (if c then a else b).then k = if c then a.then k else b.then k := by split <;> rfl
@[simp ↓] theorem sSeq_t (f g : EvS) (k : Sls → Store → Out) : (sSeq f g S st).then k = (f S st).then fun S st => (g S st).then k := by
  show ((f S st).then g).then k = _; cases f S st <;> rfl
@[simp ↓] theorem sE_t (f : Ev D) (k : Sls → Store → Out) : (sE f S st).then k = (f S st).go (fun _ S st => k S st) .exc .stuck := by
  rw [sE_a, then_go]; rfl
@[simp ↓] theorem sV_t (i : Nat) (f : Ev D) (k : Sls → Store → Out) : (sV i f S st).then k = (f S st).go (fun d S st => setK S i (.d d) fun S => k S st) .exc .stuck := by
  rw [sV_a, then_go]; rfl
@[simp ↓] theorem sO_t (i : Nat) (f : Ev Ow) (k : Sls → Store → Out) : (sO i f S st).then k = (f S st).go (fun w S st => setK S i (.own w) fun S => k S st) .exc .stuck := by
  rw [sO_a, then_go]; rfl
@[simp ↓] theorem sI_t (t : Ev Bool) (f g : EvS) (k : Sls → Store → Out) : (sI t f g S st).then k = (t S st).go (fun b S st => if b = true then (f S st).then k else (g S st).then k) .exc .stuck := by
  rw [sI_a, then_go]; exact go_c fun b S st => by cases b <;> rfl
@[simp ↓] theorem sG_t (g : Tg) (f : Ev D) (k : Sls → Store → Out) : (sG g f S st).then k = (f S st).go (fun d S st => match g d S with | some S2 => k S2 st | none => .stuck) .exc .stuck := by
  rw [sG_a, then_go]; exact go_c fun b S st => by cases g b S <;> rfl
@[simp ↓] theorem sF_t (f : Ev (List D)) (g : Tg) (b : EvS) (k : Sls → Store → Out) : (sF f g b S st).then k = (f S st).go (fun ds S st => match forL g b ds S st with | .nx S st => k S st | .ret d S st => .ret d S st | .bk S st => .bk S st | .ct S st => .ct S st | .rto w S st => .rto w S st | .exc x S st => .exc x S st | .stuck => .stuck) .exc .stuck := by
  rw [sF_a, then_go]; refine go_c fun ds S st => ?_; cases forL g b ds S st <;> rfl
@[simp ↓] theorem sW_t (c : Ev Bool) (b : EvS) (k : Sls → Store → Out) : (sW c b S st).then k = match sW c b S st with | .nx S st => k S st | .ret d S st => .ret d S st | .bk S st => .bk S st | .ct S st => .ct S st | .rto w S st => .rto w S st | .exc x S st => .exc x S st | .stuck => .stuck := by
  cases sW c b S st <;> rfl
@[simp ↓] theorem sNil_t  (k : Sls → Store → Out) : (sNil S st).then k = k S st := by
  rfl
@[simp ↓] theorem sR_t (f : Ev D) (k : Sls → Store → Out) : (sR f S st).then k = (f S st).go (fun d S st => .ret d S st) .exc .stuck := by
  rw [sR_a, then_go]; rfl
@[simp ↓] theorem sRO_t (f : Ev Ow) (k : Sls → Store → Out) : (sRO f S st).then k = (f S st).go (fun w S st => .rto w S st) .exc .stuck := by
  rw [sRO_a, then_go]; rfl
@[simp ↓] theorem then_rto_p (w : Ow) (k : Sls → Store → Out) : (Out.rto w S st).then k = .rto w S st := rfl
@[simp ↓] theorem then_nx_p (k : Sls → Store → Out) : (Out.nx S st).then k = k S st := rfl
@[simp ↓] theorem then_ret_p (d : D) (k : Sls → Store → Out) : (Out.ret d S st).then k = .ret d S st := rfl
@[simp ↓] theorem then_bk_p (k : Sls → Store → Out) : (Out.bk S st).then k = .bk S st := rfl
@[simp ↓] theorem then_ct_p (k : Sls → Store → Out) : (Out.ct S st).then k = .ct S st := rfl
@[simp ↓] theorem then_exc_p (x : Exc) (k : Sls → Store → Out) : (Out.exc x S st).then k = .exc x S st := rfl
@[simp ↓] theorem sAug_t (i : Nat) (op : D → D → Option D) (f : Ev Opd) (k : Sls → Store → Out) : (sAug i op f S st).then k = getK S i (fun s => match s with | .d x => (f S st).go (fun y S st => vwK S st y (fun y => match op x y with | some v => setK S i (.d v) fun S => k S st | none => .stuck) .stuck) .exc .stuck | _ => .stuck) .stuck := by
  rw [sAug_p]; simp only [vwK, vwsK, vdsK]; unfold getK; rcases S[i]? with _ | s
  · rfl
  · cases s with
    | d x =>
      dsimp only; rw [then_go2]; refine go_c fun y S st => ?_
      cases vw S st y with
      | none => rfl
      | some y => dsimp only; cases op x y <;> rfl
    | _ => rfl
@[simp ↓] theorem sAp_t (i : Nat) (f : Ev D) (k : Sls → Store → Out) : (sAp i (oV f) S st).then k = getK S i (fun s => match s with | .own (.l _) => (f S st).go (fun d S st => getK S i (fun s => match s with | .own (.l ds) => if ds.length < 16777216 then setK S i (.own (.l (ds ++ [d]))) fun S => k S st else .stuck | _ => .stuck) .stuck) .exc .stuck | _ => .stuck) .stuck := by
  rw [sAp_p]; unfold getK; rcases S[i]? with _ | ⟨_ | _ | ⟨_ | _⟩⟩ <;> try rfl
  dsimp only; rw [then_go2]; refine go_c fun d S st => ?_
  rcases S[i]? with _ | ⟨_ | _ | ⟨_ | _⟩⟩ <;> try rfl
  dsimp only; split <;> rfl
@[simp ↓] theorem sEx_t (i : Nat) (f : Ev D) (k : Sls → Store → Out) : (sEx i f S st).then k = getK S i (fun s => match s with | .own (.l _) => (f S st).go (fun d S st => match d with | .lst es => getK S i (fun s => match s with | .own (.l ds) => if ds.length + es.length ≤ 16777216 then setK S i (.own (.l (ds ++ es))) fun S => k S st else .stuck | _ => .stuck) .stuck | _ => .stuck) .exc .stuck | _ => .stuck) .stuck := by
  rw [sEx_p]; unfold getK; rcases S[i]? with _ | ⟨_ | _ | ⟨_ | _⟩⟩ <;> try rfl
  dsimp only; rw [then_go2]; refine go_c fun d S st => ?_
  cases d <;> try rfl
  dsimp only; rcases S[i]? with _ | ⟨_ | _ | ⟨_ | _⟩⟩ <;> try rfl
  dsimp only; split <;> rfl
@[simp ↓] theorem sSet_t (i : Nat) (fv fj : Ev D) (k : Sls → Store → Out) : (sSet i fv fj S st).then k = (fv S st).go (fun d S st => getK S i (fun s => match s with | .own (.l _) => (fj S st).go (fun j S st => match j with | .int n => getK S i (fun s => match s with | .own (.l ds) => (match ixN ds.length n with | some j => setK S i (.own (.l (ds.set j d))) fun S => k S st | none => .stuck) | _ => .stuck) .stuck | _ => .stuck) .exc .stuck | _ => .stuck) .stuck) .exc .stuck := by
  rw [sSet_p]; rw [then_go2]; refine go_c fun d S st => ?_
  unfold getK; rcases S[i]? with _ | ⟨_ | _ | ⟨_ | _⟩⟩ <;> try rfl
  dsimp only; rw [then_go2]; refine go_c fun j S st => ?_
  cases j with
  | int n =>
    dsimp only
    rcases S[i]? with _ | s
    · rfl
    · cases s with
      | own w => cases w with
        | l ds => dsimp only; cases ixN ds.length n <;> rfl
        | k _ => rfl
      | _ => rfl
  | _ => rfl
@[simp ↓] theorem sAugS_t (i : Nat) (g : Int → Int → Int) (fj fv : Ev D) (k : Sls → Store → Out) : (sAugS i g fj fv S st).then k = getK S i (fun s => match s with | .own (.l _) => (fj S st).go (fun j S st => match j with | .int n => getK S i (fun s => match s with | .own (.l ds) => (match L2.atI ds n with | some (.int a) => (fv S st).go (fun y S st => match y with | .int b => getK S i (fun s => match s with | .own (.l es) => (match ixN es.length n with | some j => setK S i (.own (.l (es.set j (.int (g a b))))) fun S => k S st | none => .stuck) | _ => .stuck) .stuck | _ => .stuck) .exc .stuck | _ => .stuck) | _ => .stuck) .stuck | _ => .stuck) .exc .stuck | _ => .stuck) .stuck := by
  rw [sAugS_p]; unfold getK; rcases S[i]? with _ | ⟨_ | _ | ⟨_ | _⟩⟩ <;> try rfl
  dsimp only; rw [then_go2]; refine go_c fun j S st => ?_
  cases j <;> try rfl
  rename_i n; dsimp only; rcases S[i]? with _ | ⟨_ | _ | ⟨_ | _⟩⟩ <;> try rfl
  rename_i ds; dsimp only; rcases L2.atI ds n with _ | d
  · rfl
  · cases d <;> try rfl
    dsimp only; rw [then_go2]; refine go_c fun y S st => ?_
    cases y <;> try rfl
    dsimp only; rcases S[i]? with _ | s
    · rfl
    · cases s with
      | own w => cases w with
        | l es => dsimp only; cases ixN es.length n <;> rfl
        | k _ => rfl
      | _ => rfl
@[simp ↓] theorem sPut_t (i : Nat) (fv fj : Ev D) (k : Sls → Store → Out) : (sPut i fv fj S st).then k = (fv S st).go (fun d S st => getK S i (fun s => match s with | .own (.k _) => (fj S st).go (fun j S st => getK S i (fun s => match s with | .own (.k ds) => (if isKey j = true ∧ ds.length < 16777216 then setK S i (.own (.k (putD ds j d))) fun S => k S st else .stuck) | _ => .stuck) .stuck) .exc .stuck | _ => .stuck) .stuck) .exc .stuck := by
  rw [sPut_p]; rw [then_go2]; refine go_c fun d S st => ?_
  unfold getK; rcases S[i]? with _ | ⟨_ | _ | ⟨_ | _⟩⟩ <;> try rfl
  dsimp only; rw [then_go2]; refine go_c fun j S st => ?_
  rcases S[i]? with _ | ⟨_ | _ | ⟨_ | _⟩⟩ <;> try rfl
  dsimp only; split <;> rfl
@[simp ↓] theorem sP_t (i j : Nat) (fa : Ev (List Opd)) (k : Sls → Store → Out) : (sP i j fa S st).then k = (fa S st).go (fun a S st => vdsK S a (fun l => match l with | [x, y] => setK S i (.d x) fun S => setK S j (.d y) fun S => k S st | _ => .stuck) .stuck) .exc .stuck := by
  rw [sP_p]; simp only [vwK, vwsK, vdsK]; rw [then_go2]; refine go_c fun a S st => ?_
  rcases vds S a with _ | l
  · rfl
  · rcases l with _ | ⟨x, _ | ⟨y, _ | ⟨w, r⟩⟩⟩ <;> rfl
@[simp ↓] theorem sApL_t (fo : Ev Opd) (f : Ev D) (k : Sls → Store → Out) : (sApL fo (oV f) S st).then k = (fo S st).go (fun a S st => match a with | .h n => (match st[n]? with | some (.o (.l _)) => (f S st).go (fun d S st => match st[n]? with | some (.o (.l ds)) => (if ds.length < 16777216 then setS st n (.o (.l (ds ++ [d]))) fun st => k S st else .stuck) | _ => .stuck) .exc .stuck | _ => .stuck) | _ => .stuck) .exc .stuck := by
  rw [sApL_p]; rw [then_go2]; refine go_c fun a S st => ?_
  cases a with
  | h n =>
    dsimp only
    rcases st[n]? with _ | x
    · rfl
    · cases x with
      | o w => cases w with
        | l ds => dsimp only; rw [then_go2]; refine go_c fun d S st => ?_; rcases st[n]? with _ | x
                  · rfl
                  · cases x with
                    | o w => cases w with
                      | l ds => dsimp only; split <;> rfl
                      | k _ => rfl
                    | _ => rfl
        | k _ => rfl
      | _ => rfl
  | _ => rfl
@[simp ↓] theorem sFL_t (cs : List Nat) (kf : Nat) (fo : Ev Opd) (fe : Ev D) (k : Sls → Store → Out) : (sFL cs kf fo fe S st).then k = (fe S st).go (fun d S st => (fo S st).go (fun a S st => match a with | .h n => (match st[n]? with | some (.i c es) => (if c ∈ cs ∧ es.length < 1000 then setS st n (.i c (putD' kf d es)) fun st => k S st else .stuck) | _ => .stuck) | _ => .stuck) .exc .stuck) .exc .stuck := by
  rw [sFL_p]; rw [then_go2]; refine go_c fun d S st => ?_; rw [then_go2]; refine go_c fun a S st => ?_
  cases a with
  | h n =>
    dsimp only
    rcases st[n]? with _ | x
    · rfl
    · cases x with
      | i c es => dsimp only; split <;> rfl
      | _ => rfl
  | _ => rfl
@[simp ↓] theorem sSetL_t (fo : Ev Opd) (fv fj : Ev D) (k : Sls → Store → Out) : (sSetL fo fv fj S st).then k = (fv S st).go (fun d S st => (fo S st).go (fun a S st => match a with | .h n => (fj S st).go (fun j S st => match j with | .int i => (match st[n]? with | some (.o (.l ds)) => (match ixN ds.length i with | some j => setS st n (.o (.l (ds.set j d))) fun st => k S st | none => .stuck) | _ => .stuck) | _ => .stuck) .exc .stuck | _ => .stuck) .exc .stuck) .exc .stuck := by
  rw [sSetL_p]; rw [then_go2]; refine go_c fun d S st => ?_; rw [then_go2]; refine go_c fun a S st => ?_
  cases a with
  | h n =>
    dsimp only; rw [then_go2]; refine go_c fun j S st => ?_
    cases j with
    | int i =>
      dsimp only
      rcases st[n]? with _ | x
      · rfl
      · cases x with
        | o w => cases w with
          | l ds => dsimp only; cases ixN ds.length i <;> rfl
          | k _ => rfl
        | _ => rfl
    | _ => rfl
  | _ => rfl
theorem sW_true {c : Ev Bool} {b : EvS} {S S1 S2 : Sls} {st st1 st2 : Store} (h : c S st = .ok true S1 st1) (h2 : b S1 st1 = .nx S2 st2) : sW c b S st = sW c b S2 st2 := by
  rw [sW_eq, h]
  show (match b S1 st1 with | .nx S2 st2 => sW c b S2 st2 | .ct S2 st2 => sW c b S2 st2 | .rto w S2 st2 => .rto w S2 st2 | .bk S2 st2 => .nx S2 st2 | .ret v S2 st2 => .ret v S2 st2 | .exc x S2 st2 => .exc x S2 st2 | .stuck => .stuck) = _
  rw [h2]
theorem sW_false {c : Ev Bool} {b : EvS} {S S1 : Sls} {st st1 : Store} (h : c S st = .ok false S1 st1) : sW c b S st = .nx S1 st1 := by
  rw [sW_eq, h]; rfl
theorem sW_out {c : Ev Bool} {b : EvS} {S S1 S2 : Sls} {st st1 st2 : Store} {v : D} (h : c S st = .ok true S1 st1) (h2 : b S1 st1 = .ret v S2 st2) : sW c b S st = .ret v S2 st2 := by
  rw [sW_eq, h]
  show (match b S1 st1 with | .nx S2 st2 => sW c b S2 st2 | .ct S2 st2 => sW c b S2 st2 | .rto w S2 st2 => .rto w S2 st2 | .bk S2 st2 => .nx S2 st2 | .ret v S2 st2 => .ret v S2 st2 | .exc x S2 st2 => .exc x S2 st2 | .stuck => .stuck) = _
  rw [h2]
theorem sW_bk {c : Ev Bool} {b : EvS} {S S1 S2 : Sls} {st st1 st2 : Store} (h : c S st = .ok true S1 st1) (h2 : b S1 st1 = .bk S2 st2) : sW c b S st = .nx S2 st2 := by
  rw [sW_eq, h]
  show (match b S1 st1 with | .nx S2 st2 => sW c b S2 st2 | .ct S2 st2 => sW c b S2 st2 | .rto w S2 st2 => .rto w S2 st2 | .bk S2 st2 => .nx S2 st2 | .ret v S2 st2 => .ret v S2 st2 | .exc x S2 st2 => .exc x S2 st2 | .stuck => .stuck) = _
  rw [h2]
theorem getK_of {β : Type} {S : Sls} {i : Nat} {s : Sl} (h : S[i]? = some s) (k : Sl → β) (z : β) : getK S i k z = k s := by unfold getK; rw [h]
end
end DL

namespace DL
/-- a comprehension over data that are told by a list -/
theorem lcL_list {α : Type} {g : Tg} {own : List Nat} {f : Ev D} {S : Sls} {st : Store} (fd fy : α → D) : ∀ (as : List α), (∀ a ∈ as, ∃ S1 S3, g (fd a) S = some S1 ∧ f S1 st = .ok (fy a) S3 st ∧ wipeS S3 own = S) → lcL g own tY f (as.map fd) S st = .ok (as.map fy) S st
  | [], _ => rfl
  | a :: r, h => by
    obtain ⟨S1, S3, e1, e2, e3⟩ := h a (List.mem_cons_self ..)
    have ih := lcL_list fd fy r fun a ha => h a (List.mem_cons_of_mem _ ha)
    rw [List.map_cons, lcL_c, e1]
    simp only [tY_a, Res.calm_ok, Res.bind_ok, if_true, e2, e3, ih, List.map_cons]
end DL
namespace Pt
open DL
/-! ### patterns and their texts -/
inductive H where
  | many | kind | rank
  deriving DecidableEq
def H.s : H → List Nat
  | .many => [109, 97, 110, 121]
  | .kind => [107, 105, 110, 100]
  | .rank => [114, 97, 110, 107]
def H.m : H → Nat
  | .many => 35
  | .kind => 126
  | .rank => 94
mutual
inductive P where
  | txt (s : List Nat) | gap (w : List Nat) | say (k : List Nat) (bs : List (List Nat × List Nat)) | cho (h : H) (g : List Nat) (as : List Arm)
inductive Arm where
  | mk (n : List Nat) (i : List P)
end
def Arm.n : Arm → List Nat
  | .mk n _ => n
def Arm.i : Arm → List P
  | .mk _ i => i
/-- a bind's datum -/
def bD (b : List Nat × List Nat) : D := .tup [.str b.1, .str b.2]
mutual
def P.d : P → D
  | .txt s => .tup [.str [116, 101, 120, 116], .str s]
  | .gap w => .tup [.str [103, 97, 112], .str w]
  | .say k bs => .tup [.str [115, 97, 121], .str k, .lst (bs.map bD)]
  | .cho h g as => .tup [.str h.s, .str g, .lst (dAs as)]
def Arm.d : Arm → D
  | .mk n i => .tup [.str n, .lst (dPs i)]
def dPs : List P → List D
  | [] => []
  | p :: r => p.d :: dPs r
def dAs : List Arm → List D
  | [] => []
  | a :: r => a.d :: dAs r
end
theorem dPs_map : ∀ ps : List P, dPs ps = ps.map P.d
  | [] => rfl
  | p :: r => by simp [dPs, dPs_map r]
theorem dAs_map : ∀ ps : List Arm, dAs ps = ps.map Arm.d
  | [] => rfl
  | p :: r => by simp [dAs, dAs_map r]
theorem dPs_app (a b : List P) : dPs (a ++ b) = dPs a ++ dPs b := by simp [dPs_map]
theorem dAs_app (a b : List Arm) : dAs (a ++ b) = dAs a ++ dAs b := by simp [dAs_map]
/-- the text of a bind -/
def bT (b : List Nat × List Nat) : List Nat := 32 :: b.1 ++ 61 :: b.2
mutual
def P.t : P → List Nat
  | .txt s => s
  | .gap w => 123 :: (w ++ [125])
  | .say k bs => 123 :: 64 :: (k ++ ((bs.map bT).flatten ++ [125]))
  | .cho h g as => 123 :: h.m :: (g ++ (tAs as ++ [125]))
def Arm.t : Arm → List Nat
  | .mk n i => 32 :: (n ++ 91 :: (tPs i ++ [93]))
def tPs : List P → List Nat
  | [] => []
  | p :: r => p.t ++ tPs r
def tAs : List Arm → List Nat
  | [] => []
  | a :: r => a.t ++ tAs r
end
theorem tPs_app : ∀ a b : List P, tPs (a ++ b) = tPs a ++ tPs b
  | [], b => rfl
  | p :: r, b => by simp [tPs, tPs_app r b]
theorem tAs_app : ∀ a b : List Arm, tAs (a ++ b) = tAs a ++ tAs b
  | [], b => rfl
  | p :: r, b => by simp [tAs, tAs_app r b]
/-! ### signs and words -/
def isL (c : Nat) : Bool := decide (97 ≤ c) && decide (c ≤ 122)
def isF (c : Nat) : Bool := decide (48 ≤ c) && decide (c ≤ 57)
def plain (c : Nat) : Bool := decide (32 ≤ c) && decide (c ≤ 126) && !(c == 123 || c == 125 || c == 91 || c == 93) && !(c == 37)
abbrev ELSE : List Nat := [101, 108, 115, 101]
def isW (w : List Nat) : Bool := decide (1 ≤ w.length) && decide (w.length ≤ 8) && !decide (w = ELSE) && w.all isL
/-- figures as an arm may have them -/
def okFig (f : List Nat) : Bool := decide (1 ≤ f.length) && decide (f.length ≤ 59) && !(decide (1 < f.length) && decide (f.head? = some 48)) && f.all isF
def okName (h : H) (n : List Nat) : Bool := decide (n = ELSE) || isW n || (decide (h = .many) && decide (n.head? = some 61) && okFig n.tail)
/-! ### the parser, on what is left of the text -/
def word (r : List Nat) : Option (List Nat × List Nat) := if isW (r.takeWhile isL) = true then some (r.takeWhile isL, r.dropWhile isL) else none
def sign (c : Nat) (r : List Nat) : Option (List Nat) := if r.head? = some c then some r.tail else none
def name (h : H) (r : List Nat) : Option (List Nat × List Nat) :=
  if h = .many ∧ r.head? = some 61 then
    if okFig (r.tail.takeWhile isF) = true then some (61 :: r.tail.takeWhile isF, r.tail.dropWhile isF) else none
  else if r.takeWhile isL = ELSE then some (ELSE, r.drop 4) else word r
def binds : Nat → List (List Nat × List Nat) → List Nat → Option (List (List Nat × List Nat) × List Nat)
  | 0, _, _ => none
  | n + 1, acc, r => if r.head? = some 32 then
      match word r.tail with
      | none => none
      | some (a, r1) => match sign 61 r1 with
        | none => none
        | some r2 => match word r2 with
          | none => none
          | some (b, r3) => if a ∈ acc.map (·.1) ∨ acc.length = 4 then none else binds n (acc ++ [(a, b)]) r3
    else some (acc, r)
def arms (rec : List Nat → Option (List P × List Nat)) (h : H) : Nat → List Arm → List Nat → Option (List Arm × List Nat)
  | 0, _, _ => none
  | n + 1, acc, r => if r.head? = some 32 then
      match name h r.tail with
      | none => none
      | some (a, r1) => if a ∈ acc.map Arm.n ∨ acc.length = 8 then none else
        match sign 91 r1 with
        | none => none
        | some r2 => match rec r2 with
          | none => none
          | some (i, r3) => match sign 93 r3 with
            | none => none
            | some r4 => arms rec h n (acc ++ [.mk a i]) r4
    else some (acc, r)
def howOf (r : List Nat) : Option H := if r.head? = some 35 then some .many else if r.head? = some 126 then some .kind else if r.head? = some 94 then some .rank else none
def brace (rec : List Nat → Option (List P × List Nat)) (deep : Nat) (r : List Nat) : Option (P × List Nat) :=
  if r.head? = some 64 then
    match word r.tail with
    | none => none
    | some (k, r1) => match binds (r1.length + 1) [] r1 with
      | none => none
      | some (bs, r2) => (sign 125 r2).map fun r3 => (.say k bs, r3)
  else match howOf r with
    | none => match word r with
      | none => none
      | some (g, r1) => (sign 125 r1).map fun r2 => (.gap g, r2)
    | some h => if deep = 4 then none else
      match word r.tail with
      | none => none
      | some (g, r1) => match arms rec h (r1.length + 1) [] r1 with
        | none => none
        | some (as, r2) => if as.isEmpty = true then none else (sign 125 r2).map fun r3 => (.cho h g as, r3)
def loop (rec : List Nat → Option (List P × List Nat)) (deep : Nat) : Nat → List P → List Nat → Option (List P × List Nat)
  | 0, _, _ => none
  | n + 1, acc, r =>
    if r = [] ∨ r.head? = some 93 then some (acc, r)
    else if r.head? = some 123 then
      match brace rec deep r.tail with
      | none => none
      | some (p, r1) => loop rec deep n (acc ++ [p]) r1
    else if (r.takeWhile plain).isEmpty = true then none
    else loop rec deep n (acc ++ [.txt (r.takeWhile plain)]) (r.dropWhile plain)
def parts : Nat → Nat → List Nat → Option (List P × List Nat)
  | 0, _, _ => none
  | k + 1, deep, r => loop (parts k (deep + 1)) deep (r.length + 1) [] r
/-! ### what is left is an end of the text -/
theorem dw_suf (p : Nat → Bool) (r : List Nat) : r.dropWhile p <:+ r := List.dropWhile_suffix p
theorem tl_suf (r : List Nat) : r.tail <:+ r := List.tail_suffix r
theorem word_suf {r w r' : List Nat} (h : word r = some (w, r')) : r' <:+ r ∧ w ≠ [] := by
  unfold word at h
  split at h
  · rename_i hw
    cases h
    refine ⟨dw_suf _ _, fun e => ?_⟩
    rw [e] at hw; cases hw
  · cases h
theorem word_lt {r w r' : List Nat} (h : word r = some (w, r')) : r'.length < r.length := by
  obtain ⟨h1, h2⟩ := word_suf h
  unfold word at h
  split at h
  · cases h
    have := congrArg List.length (List.takeWhile_append_dropWhile (p := isL) (l := r))
    rw [List.length_append] at this
    have : (r.takeWhile isL).length ≠ 0 := by simpa using h2
    omega
  · cases h
theorem sign_suf {c : Nat} {r r' : List Nat} (h : sign c r = some r') : r' <:+ r ∧ r'.length < r.length ∧ r = c :: r' := by
  unfold sign at h
  split at h
  · cases h
    cases r with
    | nil => rename_i h; cases h
    | cons d r =>
      rename_i h
      simp at h
      exact ⟨tl_suf _, by simp, by simp [h]⟩
  · cases h
theorem name_suf {h : H} {r w r' : List Nat} (e : name h r = some (w, r')) : r' <:+ r ∧ r'.length < r.length := by
  unfold name at e
  split at e
  · rename_i hh
    split at e
    · rename_i hf
      cases e
      cases r with
      | nil => cases hh.2
      | cons d r =>
        refine ⟨(dw_suf _ _).trans (tl_suf _), ?_⟩
        have := (dw_suf isF r).length_le
        simp only [List.tail_cons, List.length_cons]; omega
    · cases e
  · split at e
    · rename_i hE
      cases e
      refine ⟨List.drop_suffix _ _, ?_⟩
      have h1 : 4 ≤ r.length := by
        have := (List.takeWhile_prefix (p := isL) (l := r)).length_le
        rw [hE] at this; exact this
      rw [List.length_drop]; omega
    · exact ⟨(word_suf e).1, word_lt e⟩
theorem binds_suf : ∀ {n : Nat} {acc : List (List Nat × List Nat)} {r : List Nat} {bs : List (List Nat × List Nat)} {r' : List Nat}, binds n acc r = some (bs, r') → r' <:+ r
  | 0, _, _, _, _, h => by cases h
  | n + 1, acc, r, bs, r', h => by
    unfold binds at h
    split at h
    · split at h
      · cases h
      · rename_i a r1 h1
        split at h
        · cases h
        · rename_i r2 h2
          split at h
          · cases h
          · rename_i b r3 h3
            split at h
            · cases h
            · exact (binds_suf h).trans ((word_suf h3).1.trans ((sign_suf h2).1.trans ((word_suf h1).1.trans (tl_suf r))))
    · cases h; exact List.suffix_refl _
theorem arms_suf {rec : List Nat → Option (List P × List Nat)} (hr : ∀ r i r', rec r = some (i, r') → r' <:+ r) {h : H} : ∀ {n : Nat} {acc : List Arm} {r : List Nat} {bs : List Arm} {r' : List Nat}, arms rec h n acc r = some (bs, r') → r' <:+ r
  | 0, _, _, _, _, e => by cases e
  | n + 1, acc, r, bs, r', e => by
    unfold arms at e
    split at e
    · split at e
      · cases e
      · rename_i a r1 h1
        split at e
        · cases e
        · split at e
          · cases e
          · rename_i r2 h2
            split at e
            · cases e
            · rename_i i r3 h3
              split at e
              · cases e
              · rename_i r4 h4
                exact (arms_suf hr e).trans ((sign_suf h4).1.trans ((hr _ _ _ h3).trans ((sign_suf h2).1.trans ((name_suf h1).1.trans (tl_suf r)))))
    · cases e; exact List.suffix_refl _
theorem map_some' {α β : Type} {o : Option α} {f : α → β} {b : β} (h : o.map f = some b) : ∃ a, o = some a ∧ f a = b := by
  cases o with
  | none => cases h
  | some a => exact ⟨a, rfl, by simpa using h⟩
theorem brace_suf {rec : List Nat → Option (List P × List Nat)} (hr : ∀ r i r', rec r = some (i, r') → r' <:+ r) {deep : Nat} {r : List Nat} {p : P} {r' : List Nat} (e : brace rec deep r = some (p, r')) : r' <:+ r := by
  unfold brace at e
  split at e
  · split at e
    · cases e
    · rename_i k r1 h1
      split at e
      · cases e
      · rename_i bs r2 h2
        obtain ⟨r3, h3, e3⟩ := map_some' e
        cases e3
        exact (sign_suf h3).1.trans ((binds_suf h2).trans ((word_suf h1).1.trans (tl_suf r)))
  · split at e
    · split at e
      · cases e
      · rename_i g r1 h1
        obtain ⟨r3, h3, e3⟩ := map_some' e
        cases e3
        exact (sign_suf h3).1.trans (word_suf h1).1
    · split at e
      · cases e
      · split at e
        · cases e
        · rename_i g r1 h1
          split at e
          · cases e
          · rename_i as r2 h2
            split at e
            · cases e
            · obtain ⟨r3, h3, e3⟩ := map_some' e
              cases e3
              exact (sign_suf h3).1.trans ((arms_suf hr h2).trans ((word_suf h1).1.trans (tl_suf r)))
theorem loop_suf {rec : List Nat → Option (List P × List Nat)} (hr : ∀ r i r', rec r = some (i, r') → r' <:+ r) {deep : Nat} : ∀ {n : Nat} {acc : List P} {r : List Nat} {bs : List P} {r' : List Nat}, loop rec deep n acc r = some (bs, r') → r' <:+ r
  | 0, _, _, _, _, e => by cases e
  | n + 1, acc, r, bs, r', e => by
    unfold loop at e
    split at e
    · cases e; exact List.suffix_refl _
    · split at e
      · split at e
        · cases e
        · rename_i p r1 h1
          exact (loop_suf hr e).trans ((brace_suf hr h1).trans (tl_suf r))
      · split at e
        · cases e
        · exact (loop_suf hr e).trans (dw_suf _ _)
theorem parts_suf : ∀ {k deep : Nat} {r : List Nat} {i : List P} {r' : List Nat}, parts k deep r = some (i, r') → r' <:+ r
  | 0, _, _, _, _, e => by cases e
  | k + 1, deep, r, i, r', e => loop_suf (fun _ _ _ => parts_suf) e
end Pt

namespace Pt
open DL
/-! ### how deep -/
mutual
def P.lv : P → Nat
  | .txt _ => 0
  | .gap _ => 0
  | .say _ _ => 0
  | .cho _ _ as => lvAs as + 1
def Arm.lv : Arm → Nat
  | .mk _ i => lvPs i
def lvPs : List P → Nat
  | [] => 0
  | p :: r => max p.lv (lvPs r)
def lvAs : List Arm → Nat
  | [] => 0
  | a :: r => max a.lv (lvAs r)
end
theorem lvPs_app : ∀ a b : List P, lvPs (a ++ b) = max (lvPs a) (lvPs b)
  | [], b => by simp [lvPs]
  | p :: r, b => by simp [lvPs, lvPs_app r b, Nat.max_assoc]
theorem lvAs_app : ∀ a b : List Arm, lvAs (a ++ b) = max (lvAs a) (lvAs b)
  | [], b => by simp [lvAs]
  | p :: r, b => by simp [lvAs, lvAs_app r b, Nat.max_assoc]
theorem bs_dep : ∀ bs : List (List Nat × List Nat), depDs (bs.map bD) ≤ 1 ∧ pureDs (bs.map bD) = true
  | [] => by simp [depDs, pureDs]
  | b :: r => by
    obtain ⟨h1, h2⟩ := bs_dep r
    simp [depDs, pureDs, bD, depD, pureD, h1, h2]
mutual
theorem P.dep : ∀ p : P, depD p.d ≤ 4 * p.lv + 3 ∧ pureD p.d = true
  | .txt s => by simp [P.d, depD, depDs, pureD, pureDs, P.lv]
  | .gap s => by simp [P.d, depD, depDs, pureD, pureDs, P.lv]
  | .say k bs => by
    have := bs_dep bs
    simp [P.d, depD, depDs, pureD, pureDs, P.lv, this.2]
    omega
  | .cho h g as => by
    have := as_dep as
    simp [P.d, depD, depDs, pureD, pureDs, P.lv, this.2]
    omega
theorem Arm.dep : ∀ a : Arm, depD a.d ≤ 4 * a.lv + 5 ∧ pureD a.d = true
  | .mk n i => by
    have := ps_dep i
    simp [Arm.d, depD, depDs, pureD, pureDs, Arm.lv, this.2]
    omega
theorem ps_dep : ∀ ps : List P, depDs (dPs ps) ≤ 4 * lvPs ps + 3 ∧ pureDs (dPs ps) = true
  | [] => by simp [dPs, depDs, pureDs, lvPs]
  | p :: r => by
    have h1 := P.dep p
    have h2 := ps_dep r
    simp [dPs, depDs, pureDs, lvPs, h1.2, h2.2]
    omega
theorem as_dep : ∀ as : List Arm, depDs (dAs as) ≤ 4 * lvAs as + 5 ∧ pureDs (dAs as) = true
  | [] => by simp [dAs, depDs, pureDs, lvAs]
  | p :: r => by
    have h1 := Arm.dep p
    have h2 := as_dep r
    simp [dAs, depDs, pureDs, lvAs, h1.2, h2.2]
    omega
end
theorem ps_eqOk {ps : List P} (h : lvPs ps ≤ 10) : eqOk (.lst (dPs ps)) = true := by
  have := ps_dep ps
  unfold eqOk
  rw [Bool.and_eq_true]
  exact ⟨this.2, decide_eq_true (by show depDs _ + 1 ≤ 60; omega)⟩
theorem as_eqOk {as : List Arm} (h : lvAs as ≤ 10) : eqOk (.lst (dAs as)) = true := by
  have := as_dep as
  unfold eqOk
  rw [Bool.and_eq_true]
  exact ⟨this.2, decide_eq_true (by show depDs _ + 1 ≤ 60; omega)⟩
theorem bs_self : ∀ bs : List (List Nat × List Nat), deqs (bs.map bD) (bs.map bD) = true
  | [] => by simp
  | b :: r => by simp [bs_self r, bD, deq_tup]
mutual
theorem P.self : ∀ p : P, deq p.d p.d = true
  | .txt s => by simp [P.d, deq_tup]
  | .gap s => by simp [P.d, deq_tup]
  | .say k bs => by simp [P.d, deq_tup, deq_lst, bs_self bs]
  | .cho h g as => by simp [P.d, deq_tup, deq_lst, as_self as]
theorem Arm.self : ∀ a : Arm, deq a.d a.d = true
  | .mk n i => by simp [Arm.d, deq_tup, deq_lst, ps_self i]
theorem ps_self : ∀ ps : List P, deqs (dPs ps) (dPs ps) = true
  | [] => by simp [dPs]
  | p :: r => by simp [dPs, P.self p, ps_self r]
theorem as_self : ∀ as : List Arm, deqs (dAs as) (dAs as) = true
  | [] => by simp [dAs]
  | p :: r => by simp [dAs, Arm.self p, as_self r]
end
theorem deq_as_nil (as : List Arm) : deq (.lst (dAs as)) (.lst []) = as.isEmpty := by
  rw [deq_lst]; cases as <;> simp [dAs]
theorem arms_lv {rec : List Nat → Option (List P × List Nat)} {m : Nat} (hr : ∀ r i r', rec r = some (i, r') → lvPs i ≤ m) {h : H} : ∀ {n : Nat} {acc : List Arm} {r : List Nat} {bs : List Arm} {r' : List Nat}, arms rec h n acc r = some (bs, r') → lvAs acc ≤ m → lvAs bs ≤ m
  | 0, _, _, _, _, e => by cases e
  | n + 1, acc, r, bs, r', e => by
    unfold arms at e
    intro ha
    split at e
    · split at e
      · cases e
      · rename_i a r1 h1
        split at e
        · cases e
        · split at e
          · cases e
          · rename_i r2 h2
            split at e
            · cases e
            · rename_i i r3 h3
              split at e
              · cases e
              · rename_i r4 h4
                refine arms_lv hr e ?_
                have := hr _ _ _ h3
                rw [lvAs_app]
                simp [lvAs, Arm.lv]; omega
    · cases e; exact ha
theorem brace_lv {rec : List Nat → Option (List P × List Nat)} {m : Nat} (hr : ∀ r i r', rec r = some (i, r') → lvPs i ≤ m) {deep : Nat} {r : List Nat} {p : P} {r' : List Nat} (e : brace rec deep r = some (p, r')) : p.lv ≤ m + 1 := by
  unfold brace at e
  split at e
  · split at e
    · cases e
    · rename_i k r1 h1
      split at e
      · cases e
      · rename_i bs r2 h2
        obtain ⟨r3, h3, e3⟩ := map_some' e
        cases e3
        simp [P.lv]
  · split at e
    · split at e
      · cases e
      · rename_i g r1 h1
        obtain ⟨r3, h3, e3⟩ := map_some' e
        cases e3
        simp [P.lv]
    · split at e
      · cases e
      · split at e
        · cases e
        · rename_i g r1 h1
          split at e
          · cases e
          · rename_i as r2 h2
            split at e
            · cases e
            · obtain ⟨r3, h3, e3⟩ := map_some' e
              cases e3
              have := arms_lv hr h2 (by simp [lvAs])
              simp [P.lv]; omega
theorem brace_lv4 {rec : List Nat → Option (List P × List Nat)} {r : List Nat} {p : P} {r' : List Nat} (e : brace rec 4 r = some (p, r')) : p.lv = 0 := by
  unfold brace at e
  split at e
  · split at e
    · cases e
    · rename_i k r1 h1
      split at e
      · cases e
      · rename_i bs r2 h2
        obtain ⟨r3, h3, e3⟩ := map_some' e
        cases e3
        simp [P.lv]
  · split at e
    · split at e
      · cases e
      · rename_i g r1 h1
        obtain ⟨r3, h3, e3⟩ := map_some' e
        cases e3
        simp [P.lv]
    · rw [if_pos rfl] at e; cases e
theorem loop_lv {rec : List Nat → Option (List P × List Nat)} {m : Nat} {deep : Nat} (hb : ∀ r p r', brace rec deep r = some (p, r') → p.lv ≤ m) : ∀ {n : Nat} {acc : List P} {r : List Nat} {bs : List P} {r' : List Nat}, loop rec deep n acc r = some (bs, r') → lvPs acc ≤ m → lvPs bs ≤ m
  | 0, _, _, _, _, e => by cases e
  | n + 1, acc, r, bs, r', e => by
    unfold loop at e
    intro ha
    split at e
    · cases e; exact ha
    · split at e
      · split at e
        · cases e
        · rename_i p r1 h1
          refine loop_lv hb e ?_
          have := hb _ _ _ h1
          rw [lvPs_app]; simp [lvPs]; omega
      · split at e
        · cases e
        · refine loop_lv hb e ?_
          rw [lvPs_app]; simp [lvPs, P.lv]; omega
theorem parts_lv : ∀ {k deep : Nat} {r : List Nat} {i : List P} {r' : List Nat}, parts k deep r = some (i, r') → lvPs i ≤ k
  | 0, _, _, _, _, e => by cases e
  | k + 1, deep, r, i, r', e => loop_lv (fun r p r' h => brace_lv (fun r i r' h => parts_lv h) h) e (by simp [lvPs])
theorem parts_lv4 {k deep : Nat} (h : deep ≤ 4) : ∀ {r : List Nat} {i : List P} {r' : List Nat}, parts k deep r = some (i, r') → lvPs i + deep ≤ 4 := by
  induction k generalizing deep with
  | zero => intro r i r' e; cases e
  | succ k ih =>
    intro r i r' e
    by_cases h4 : deep = 4
    · subst h4
      have := loop_lv (m := 0) (fun r p r' h => Nat.le_of_eq (brace_lv4 h)) e (by simp [lvPs])
      omega
    · have := loop_lv (m := 4 - deep) (fun r p r' h => by
        have := brace_lv (m := 4 - (deep + 1)) (fun r i r' h => by
          have := ih (deep := deep + 1) (by omega) h
          omega) h
        omega) e (by simp [lvPs])
      omega
end Pt
namespace Pt
open DL
/-! ### how many parts; reading -/
mutual
def P.sz : P → Nat
  | .txt _ => 1
  | .gap _ => 1
  | .say _ _ => 1
  | .cho _ _ as => szAs as + 1
def Arm.sz : Arm → Nat
  | .mk _ i => szPs i
def szPs : List P → Nat
  | [] => 0
  | p :: r => p.sz + szPs r
def szAs : List Arm → Nat
  | [] => 0
  | a :: r => a.sz + szAs r
end
theorem szPs_app : ∀ a b : List P, szPs (a ++ b) = szPs a + szPs b
  | [], b => by simp [szPs]
  | p :: r, b => by simp [szPs, szPs_app r b]; omega
def read (s : List Nat) : Option (List P) :=
  if 1000 < s.length then none else
  match parts 6 0 s with
  | some (ps, r') => if r' ≠ [] ∨ 40 < szPs ps then none else some ps
  | none => none
end Pt

namespace Pt
open DL
/-! ### patterns as they may be -/
def isT : P → Bool
  | .txt _ => true
  | _ => false
def hdT : List P → Bool
  | p :: _ => isT p
  | [] => false
mutual
def P.ok (m : Nat) : P → Prop
  | .txt s => s ≠ [] ∧ s.all plain = true
  | .gap w => isW w = true
  | .say k bs => isW k = true ∧ (∀ b ∈ bs, isW b.1 = true ∧ isW b.2 = true) ∧ bs.length ≤ 4 ∧ (bs.map (·.1)).Nodup
  | .cho h g as => 1 ≤ m ∧ isW g = true ∧ as ≠ [] ∧ as.length ≤ 8 ∧ (as.map Arm.n).Nodup ∧ okAs h (m - 1) as
def Arm.ok (h : H) (m : Nat) : Arm → Prop
  | .mk n i => okName h n = true ∧ okPs m i
def okPs (m : Nat) : List P → Prop
  | [] => True
  | p :: r => p.ok m ∧ (isT p && hdT r) = false ∧ okPs m r
def okAs (h : H) (m : Nat) : List Arm → Prop
  | [] => True
  | a :: r => a.ok h m ∧ okAs h m r
end
/-- no sign of p begins the rest -/
def no (p : Nat → Bool) (r : List Nat) : Prop := ∀ c, r.head? = some c → p c = false
theorem no_nil (p : Nat → Bool) : no p [] := fun c h => by cases h
theorem no_cons {p : Nat → Bool} {c : Nat} {r : List Nat} (h : p c = false) : no p (c :: r) := fun d e => by cases e; exact h
theorem no_dw (p : Nat → Bool) (r : List Nat) : no p (r.dropWhile p) := by
  induction r with
  | nil => exact no_nil p
  | cons c r ih =>
    rw [List.dropWhile_cons]
    split
    · exact ih
    · rename_i h; exact no_cons (by simpa using h)
theorem tk_app {p : Nat → Bool} {w r : List Nat} (h : w.all p = true) (n : no p r) : (w ++ r).takeWhile p = w ∧ (w ++ r).dropWhile p = r := by
  induction w with
  | nil =>
    cases r with
    | nil => exact ⟨rfl, rfl⟩
    | cons c r =>
      have := n c rfl
      simp [this]
  | cons c w ih =>
    rw [List.all_cons, Bool.and_eq_true] at h
    obtain ⟨a, b⟩ := ih h.2
    simp [h.1, a, b]
theorem isW_all {w : List Nat} (h : isW w = true) : w.all isL = true ∧ w ≠ [] ∧ w ≠ ELSE ∧ w.length ≤ 8 := by
  unfold isW at h
  simp only [Bool.and_eq_true, decide_eq_true_eq, Bool.not_eq_true', decide_eq_false_iff_not] at h
  exact ⟨h.2, fun e => by rw [e] at h; simp at h, h.1.2, h.1.1.2⟩
theorem word_app {w r : List Nat} (h : isW w = true) (n : no isL r) : word (w ++ r) = some (w, r) := by
  obtain ⟨a, b⟩ := tk_app (isW_all h).1 n
  unfold word
  rw [a, b, if_pos h]
theorem word_inv {r w r' : List Nat} (h : word r = some (w, r')) : r = w ++ r' ∧ isW w = true ∧ no isL r' := by
  unfold word at h
  split at h
  · rename_i hw
    cases h
    exact ⟨(List.takeWhile_append_dropWhile ..).symm, hw, no_dw _ _⟩
  · cases h
theorem sign_app (c : Nat) (r : List Nat) : sign c (c :: r) = some r := by simp [sign]
theorem okFig_all {f : List Nat} (h : okFig f = true) : f.all isF = true := by
  unfold okFig at h
  simp only [Bool.and_eq_true] at h
  exact h.2
theorem name_app {h : H} {w r : List Nat} (ok : okName h w = true) (n : no isL r) (n2 : no isF r) : name h (w ++ r) = some (w, r) := by
  unfold okName at ok
  simp only [Bool.or_eq_true, Bool.and_eq_true, decide_eq_true_eq] at ok
  have el : ELSE.all isL = true := by decide
  unfold name
  rcases ok with (rfl | h1) | ⟨⟨rfl, h2⟩, h3⟩
  · rw [if_neg (fun z => by have := z.2; simp at this), (tk_app el n).1, if_pos rfl]; rfl
  · obtain ⟨a, b, c, _⟩ := isW_all h1
    cases w with
    | nil => exact absurd rfl b
    | cons x w =>
      have hx : x ≠ 61 := fun e => by
        subst e
        rw [List.all_cons, Bool.and_eq_true] at a
        exact absurd a.1 (by decide)
      rw [if_neg (fun z => hx (by simpa using z.2)), (tk_app a n).1, if_neg c, word_app h1 n]
  · cases w with
    | nil => cases h2
    | cons x w =>
      simp at h2
      subst h2
      simp only [List.tail_cons] at h3
      obtain ⟨a, b⟩ := tk_app (okFig_all h3) n2
      simp only [List.cons_append, List.head?_cons, List.tail_cons, a, b, h3, and_self, if_true]
theorem name_inv {h : H} {w r r' : List Nat} (e : name h r = some (w, r')) : r = w ++ r' ∧ okName h w = true := by
  unfold name at e
  split at e
  · rename_i hh
    split at e
    · rename_i hf
      cases e
      cases r with
      | nil => cases hh.2
      | cons c r =>
        obtain ⟨h1, h2⟩ := hh
        simp at h2
        subst h2
        simp only [List.tail_cons] at hf ⊢
        refine ⟨by simp, ?_⟩
        unfold okName
        simp [hf, h1]
    · cases e
  · split at e
    · rename_i hE
      cases e
      refine ⟨?_, by simp [okName]⟩
      have h1 := (List.takeWhile_append_dropWhile (p := isL) (l := r)).symm
      rw [hE] at h1
      have h2 : r.drop 4 = r.dropWhile isL := by
        conv => lhs; rw [h1]
        rfl
      rw [h2]; exact h1
    · obtain ⟨a, b, _⟩ := word_inv e
      exact ⟨a, by unfold okName; rw [b]; simp⟩
theorem L_sp : isL 32 = false := by decide
theorem L_eq : isL 61 = false := by decide
theorem L_rb : isL 125 = false := by decide
theorem L_lb : isL 91 = false := by decide
theorem F_lb : isF 91 = false := by decide
theorem binds_app : ∀ (bs : List (List Nat × List Nat)) (n : Nat) (acc : List (List Nat × List Nat)) (r : List Nat), ((bs.map bT).flatten ++ r).length < n → (∀ b ∈ bs, isW b.1 = true ∧ isW b.2 = true) → acc.length + bs.length ≤ 4 →
    ((acc ++ bs).map (·.1)).Nodup → no isL r → r.head? ≠ some 32 → binds n acc ((bs.map bT).flatten ++ r) = some (acc ++ bs, r)
  | [], 0, _, _, h, _, _, _, _, _ => by omega
  | [], n + 1, acc, r, h, _, _, _, _, hs => by
    simp only [List.map_nil, List.flatten_nil, List.nil_append, List.append_nil]
    rw [binds, if_neg hs]
  | (a, b) :: bs, 0, _, _, h, _, _, _, _, _ => by omega
  | (a, b) :: bs, n + 1, acc, r, h, hw, hl, hn, hnl, hs => by
    obtain ⟨wa, wb⟩ := hw (a, b) (List.mem_cons_self ..)
    have e : (((a, b) :: bs).map bT).flatten ++ r = 32 :: (a ++ (61 :: (b ++ ((bs.map bT).flatten ++ r)))) := by simp [bT]
    have n1 : no isL ((bs.map bT).flatten ++ r) := by
      cases bs with
      | nil => exact hnl
      | cons c bs => exact no_cons L_sp
    rw [e] at h ⊢
    rw [binds, List.head?_cons, if_pos rfl, List.tail_cons, word_app wa (no_cons L_eq)]
    simp only [sign_app, word_app wb n1]
    have h1 : ¬ (a ∈ acc.map (·.1) ∨ acc.length = 4) := fun z => by
      rcases z with z | z
      · rw [List.map_append, List.nodup_append] at hn
        exact hn.2.2 a z a (by simp) rfl
      · simp only [List.length_cons] at hl; omega
    rw [if_neg h1, binds_app bs n (acc ++ [(a, b)]) r (by simp at h ⊢; omega) (fun b hb => hw b (List.mem_cons_of_mem _ hb)) (by simp at hl ⊢; omega) (by simpa using hn) hnl hs]
    simp
theorem nodup_snoc {l : List (List Nat)} {a : List Nat} (h : l.Nodup) (n : ¬ a ∈ l) : (l ++ [a]).Nodup := by
  rw [List.nodup_append]
  exact ⟨h, by simp, fun x hx y hy e => by simp at hy; subst hy; subst e; exact n hx⟩
theorem binds_inv : ∀ {n : Nat} {acc : List (List Nat × List Nat)} {r : List Nat} {bs : List (List Nat × List Nat)} {r' : List Nat}, binds n acc r = some (bs, r') → acc.length ≤ 4 → (acc.map (·.1)).Nodup →
    ∃ cs, bs = acc ++ cs ∧ r = (cs.map bT).flatten ++ r' ∧ (∀ b ∈ cs, isW b.1 = true ∧ isW b.2 = true) ∧ bs.length ≤ 4 ∧ (bs.map (·.1)).Nodup
  | 0, _, _, _, _, h, _, _ => by cases h
  | n + 1, acc, r, bs, r', h, hl, hn => by
    unfold binds at h
    split at h
    · rename_i h32
      split at h
      · cases h
      · rename_i a r1 h1
        split at h
        · cases h
        · rename_i r2 h2
          split at h
          · cases h
          · rename_i b r3 h3
            split at h
            · cases h
            · rename_i hb
              obtain ⟨e1, w1, _⟩ := word_inv h1
              obtain ⟨e3, w3, _⟩ := word_inv h3
              have e2 := (sign_suf h2).2.2
              obtain ⟨cs, f1, f2, f3, f4, f5⟩ := binds_inv h (by rw [List.length_append, List.length_singleton]; have : ¬ acc.length = 4 := fun z => hb (.inr z); omega) (by
                rw [List.map_append, List.map_singleton]; exact nodup_snoc hn (fun z => hb (.inl z)))
              refine ⟨(a, b) :: cs, by rw [f1]; simp, ?_, ?_, f4, f5⟩
              · cases r with
                | nil => cases h32
                | cons c r =>
                  simp at h32 e1
                  subst h32
                  rw [e1, e2, e3, f2]; simp [bT]
              · intro x hx
                rcases List.mem_cons.mp hx with rfl | hx
                · exact ⟨w1, w3⟩
                · exact f3 x hx
    · cases h; exact ⟨[], by simp, by simp, by simp, hl, hn⟩
/-- the rest ends the parts -/
def stop (r : List Nat) : Prop := r = [] ∨ r.head? = some 93
theorem stop_no {r : List Nat} (h : stop r) : no plain r := fun c e => by
  rcases h with rfl | h
  · cases e
  · rw [h] at e; cases e; decide
theorem arms_app {rec : List Nat → Option (List P × List Nat)} {h : H} {m : Nat} (hr : ∀ ps r, okPs m ps → stop r → rec (tPs ps ++ r) = some (ps, r)) : ∀ (as : List Arm) (n : Nat) (acc : List Arm) (r : List Nat), (tAs as ++ r).length < n → okAs h m as → acc.length + as.length ≤ 8 →
    ((acc ++ as).map Arm.n).Nodup → r.head? ≠ some 32 → arms rec h n acc (tAs as ++ r) = some (acc ++ as, r)
  | [], 0, _, _, e, _, _, _, _ => by omega
  | [], n + 1, acc, r, e, _, _, _, hs => by
    simp only [tAs, List.nil_append, List.append_nil]
    rw [arms, if_neg hs]
  | .mk a i :: as, 0, _, _, e, _, _, _, _ => by omega
  | .mk a i :: as, n + 1, acc, r, e, hok, hl, hn, hs => by
    obtain ⟨⟨o1, o2⟩, o3⟩ := hok
    have e' : tAs (.mk a i :: as) ++ r = 32 :: (a ++ (91 :: (tPs i ++ (93 :: (tAs as ++ r))))) := by simp [tAs, Arm.t]
    rw [e'] at e ⊢
    rw [arms, List.head?_cons, if_pos rfl, List.tail_cons, name_app o1 (no_cons L_lb) (no_cons F_lb)]
    have h1 : ¬ (a ∈ acc.map Arm.n ∨ acc.length = 8) := fun z => by
      rcases z with z | z
      · rw [List.map_append, List.nodup_append] at hn
        exact hn.2.2 a z a (by simp [Arm.n]) rfl
      · simp only [List.length_cons] at hl; omega
    simp only
    rw [if_neg h1]
    have hri := hr i (93 :: (tAs as ++ r)) o2 (.inr rfl)
    simp only [sign_app, hri]
    rw [arms_app hr as n (acc ++ [Arm.mk a i]) r (by simp at e ⊢; omega) o3 (by simp at hl ⊢; omega) (by simpa using hn) hs]
    simp
theorem arms_inv {rec : List Nat → Option (List P × List Nat)} {h : H} {m : Nat} (hr : ∀ r ps r', rec r = some (ps, r') → r = tPs ps ++ r' ∧ okPs m ps) : ∀ {n : Nat} {acc : List Arm} {r : List Nat} {bs : List Arm} {r' : List Nat}, arms rec h n acc r = some (bs, r') → acc.length ≤ 8 → (acc.map Arm.n).Nodup →
    ∃ cs, bs = acc ++ cs ∧ r = tAs cs ++ r' ∧ okAs h m cs ∧ bs.length ≤ 8 ∧ (bs.map Arm.n).Nodup
  | 0, _, _, _, _, e, _, _ => by cases e
  | n + 1, acc, r, bs, r', e, hl, hn => by
    unfold arms at e
    split at e
    · rename_i h32
      split at e
      · cases e
      · rename_i a r1 h1
        split at e
        · cases e
        · rename_i hb
          split at e
          · cases e
          · rename_i r2 h2
            split at e
            · cases e
            · rename_i i r3 h3
              split at e
              · cases e
              · rename_i r4 h4
                obtain ⟨e1, w1⟩ := name_inv h1
                have e2 := (sign_suf h2).2.2
                have e4 := (sign_suf h4).2.2
                obtain ⟨e3, w3⟩ := hr _ _ _ h3
                obtain ⟨cs, f1, f2, f3, f4, f5⟩ := arms_inv hr e (by rw [List.length_append, List.length_singleton]; have : ¬ acc.length = 8 := fun z => hb (.inr z); omega) (by
                  rw [List.map_append, List.map_singleton]; exact nodup_snoc hn (fun z => hb (.inl z)))
                refine ⟨.mk a i :: cs, by rw [f1]; simp, ?_, ⟨⟨w1, w3⟩, f3⟩, f4, f5⟩
                cases r with
                | nil => cases h32
                | cons c r =>
                  simp at h32 e1
                  subst h32
                  rw [e1, e2, e3, e4, f2]; simp [tAs, Arm.t]
    · cases e; exact ⟨[], by simp, by simp [tAs], trivial, hl, hn⟩
theorem how_m (h : H) (r : List Nat) : howOf (h.m :: r) = some h := by cases h <;> rfl
theorem m_64 (h : H) : h.m ≠ 64 := by cases h <;> decide
theorem how_L {c : Nat} {r : List Nat} (h : isL c = true) : howOf (c :: r) = none ∧ c ≠ 64 := by
  unfold isL at h
  simp only [Bool.and_eq_true, decide_eq_true_eq] at h
  refine ⟨?_, by omega⟩
  have h1 : c ≠ 35 := by omega
  have h2 : c ≠ 126 := by omega
  have h3 : c ≠ 94 := by omega
  simp [howOf, h1, h2, h3]
theorem brace_app {rec : List Nat → Option (List P × List Nat)} {deep : Nat} (hd : deep ≤ 4) (hr : deep ≠ 4 → ∀ ps r, okPs (4 - (deep + 1)) ps → stop r → rec (tPs ps ++ r) = some (ps, r)) {p : P} {q r : List Nat} (ok : p.ok (4 - deep)) (e : p.t = 123 :: q) (nt : isT p = false) : brace rec deep (q ++ r) = some (p, r) := by
  cases p with
  | txt s => cases nt
  | gap w =>
    simp only [P.t, List.cons.injEq, true_and] at e
    subst e
    have ok : isW w = true := ok
    obtain ⟨a, b, c, _⟩ := isW_all ok
    cases w with
    | nil => exact absurd rfl b
    | cons x w =>
      rw [List.all_cons, Bool.and_eq_true] at a
      obtain ⟨k1, k2⟩ := how_L (r := w ++ (125 :: r)) a.1
      have e : x :: w ++ [125] ++ r = (x :: w) ++ (125 :: r) := by simp
      unfold brace
      rw [e, if_neg (by simpa using k2)]
      rw [show howOf (x :: w ++ 125 :: r) = none from k1]
      simp only
      rw [word_app ok (no_cons L_rb)]
      simp [sign_app]
  | say k bs =>
    simp only [P.t, List.cons.injEq, true_and] at e
    subst e
    obtain ⟨o1, o2, o3, o4⟩ := ok
    unfold brace
    rw [List.cons_append, List.head?_cons, if_pos rfl, List.tail_cons, List.append_assoc]
    have n1 : no isL (((bs.map bT).flatten ++ [125]) ++ r) := by
      cases bs with
      | nil => exact no_cons L_rb
      | cons b bs => exact no_cons L_sp
    rw [word_app o1 n1]
    simp only
    rw [List.append_assoc, binds_app bs _ [] ([125] ++ r) (by omega) o2 (by simpa using o3) (by simpa using o4) (no_cons L_rb) (by simp)]
    simp [sign_app]
  | cho h g as =>
    simp only [P.t, List.cons.injEq, true_and] at e
    subst e
    obtain ⟨o0, o1, o2, o3, o4, o5⟩ := ok
    have hd4 : deep ≠ 4 := by omega
    unfold brace
    rw [List.cons_append, if_neg (by simpa using m_64 h), how_m]
    simp only
    rw [if_neg hd4, List.tail_cons, List.append_assoc]
    have n1 : no isL ((tAs as ++ [125]) ++ r) := by
      cases as with
      | nil => exact no_cons L_rb
      | cons b bs => cases b; exact no_cons L_sp
    rw [word_app o1 n1]
    simp only
    have e4 : 4 - deep - 1 = 4 - (deep + 1) := by omega
    rw [e4] at o5
    rw [List.append_assoc, arms_app (hr hd4) as _ [] ([125] ++ r) (by omega) o5 (by simpa using o3) (by simpa using o4) (by simp)]
    cases as with
    | nil => exact absurd rfl o2
    | cons a as => simp [sign_app]
theorem brace_inv {rec : List Nat → Option (List P × List Nat)} {deep : Nat} (hd : deep ≤ 4) (hr : deep ≠ 4 → ∀ r ps r', rec r = some (ps, r') → r = tPs ps ++ r' ∧ okPs (4 - (deep + 1)) ps) {p : P} {r r' : List Nat} (e : brace rec deep r = some (p, r')) : 123 :: r = p.t ++ r' ∧ p.ok (4 - deep) ∧ isT p = false := by
  unfold brace at e
  split at e
  · rename_i h64
    split at e
    · cases e
    · rename_i k r1 h1
      split at e
      · cases e
      · rename_i bs r2 h2
        obtain ⟨r3, h3, e3⟩ := map_some' e
        cases e3
        obtain ⟨e1, w1, _⟩ := word_inv h1
        obtain ⟨cs, f1, f2, f3, f4, f5⟩ := binds_inv h2 (by simp) (by simp)
        have e4 := (sign_suf h3).2.2
        simp at f1
        subst f1
        refine ⟨?_, ⟨w1, f3, f4, f5⟩, rfl⟩
        cases r with
        | nil => cases h64
        | cons c r =>
          simp at h64 e1
          subst h64
          rw [e1, f2, e4]; simp [P.t]
  · split at e
    · split at e
      · cases e
      · rename_i g r1 h1
        obtain ⟨r3, h3, e3⟩ := map_some' e
        cases e3
        obtain ⟨e1, w1, _⟩ := word_inv h1
        have e4 := (sign_suf h3).2.2
        exact ⟨by rw [e1, e4]; simp [P.t], w1, rfl⟩
    · rename_i h hh
      split at e
      · cases e
      · rename_i hd4
        split at e
        · cases e
        · rename_i g r1 h1
          split at e
          · cases e
          · rename_i as r2 h2
            split at e
            · cases e
            · rename_i hem
              obtain ⟨r3, h3, e3⟩ := map_some' e
              cases e3
              obtain ⟨e1, w1, _⟩ := word_inv h1
              obtain ⟨cs, f1, f2, f3, f4, f5⟩ := arms_inv (hr hd4) h2 (by simp) (by simp)
              have e4 := (sign_suf h3).2.2
              simp at f1
              subst f1
              refine ⟨?_, ⟨by omega, w1, fun z => by subst z; exact hem rfl, f4, f5, ?_⟩, rfl⟩
              · cases r with
                | nil => cases hh
                | cons c r =>
                  have hc : c = h.m := by
                    unfold howOf at hh
                    simp only [List.head?_cons, Option.some.injEq] at hh
                    split at hh
                    · cases hh; assumption
                    · split at hh
                      · cases hh; assumption
                      · split at hh
                        · cases hh; assumption
                        · cases hh
                  subst hc
                  simp at e1
                  rw [e1, f2, e4]; simp [P.t]
              · rw [show 4 - deep - 1 = 4 - (deep + 1) by omega]; exact f3
theorem P.t_ne {p : P} {m : Nat} (h : p.ok m) : p.t ≠ [] := by
  cases p with
  | txt s => exact h.1
  | gap w => simp [P.t]
  | say k bs => simp [P.t]
  | cho h g as => simp [P.t]
theorem P.t_br {p : P} (h : isT p = false) : ∃ q, p.t = 123 :: q := by
  cases p with
  | txt s => cases h
  | gap w => exact ⟨_, rfl⟩
  | say k bs => exact ⟨_, rfl⟩
  | cho h g as => exact ⟨_, rfl⟩
theorem loop_app {rec : List Nat → Option (List P × List Nat)} {deep : Nat} (hd : deep ≤ 4) (hr : deep ≠ 4 → ∀ ps r, okPs (4 - (deep + 1)) ps → stop r → rec (tPs ps ++ r) = some (ps, r)) : ∀ (ps : List P) (n : Nat) (acc : List P) (r : List Nat), (tPs ps ++ r).length < n → okPs (4 - deep) ps → stop r →
    loop rec deep n acc (tPs ps ++ r) = some (acc ++ ps, r)
  | [], 0, _, _, e, _, _ => by omega
  | [], n + 1, acc, r, e, _, hs => by
    simp only [tPs, List.nil_append, List.append_nil]
    rw [loop, if_pos (show r = [] ∨ r.head? = some 93 from hs)]
  | p :: ps, 0, _, _, e, _, _ => by omega
  | p :: ps, n + 1, acc, r, e, hok, hs => by
    obtain ⟨o1, o2, o3⟩ := hok
    rw [tPs, List.append_assoc] at e ⊢
    cases hp : isT p with
    | false =>
      obtain ⟨q, hq⟩ := P.t_br hp
      rw [hq] at e ⊢
      rw [List.cons_append] at e ⊢
      rw [loop, if_neg (fun z => by rcases z with z | z; exact absurd z (by simp); exact absurd z (by simp)), List.head?_cons, if_pos rfl, List.tail_cons, brace_app hd hr o1 hq hp]
      simp only
      rw [loop_app hd hr ps n (acc ++ [p]) r (by simp at e ⊢; omega) o3 hs]
      simp
    | true =>
      cases p with
      | txt s =>
        obtain ⟨k1, k2⟩ := o1
        simp only [P.t] at e ⊢
        rw [hp, Bool.true_and] at o2
        have n1 : no plain (tPs ps ++ r) := by
          cases ps with
          | nil => exact stop_no hs
          | cons p2 ps =>
            obtain ⟨q, hq⟩ := P.t_br (p := p2) o2
            rw [tPs, hq]; exact no_cons (by decide)
        obtain ⟨a, b⟩ := tk_app k2 n1
        cases s with
        | nil => exact absurd rfl k1
        | cons c s =>
          rw [List.all_cons, Bool.and_eq_true] at k2
          have c93 : c ≠ 93 := fun z => by subst z; exact absurd k2.1 (by decide)
          have c123 : c ≠ 123 := fun z => by subst z; exact absurd k2.1 (by decide)
          rw [loop, if_neg (fun z => by rcases z with z | z; exact absurd z (by simp); exact c93 (by simpa using z)), if_neg (by simpa using c123), a, b]
          rw [if_neg (by simp)]
          rw [loop_app hd hr ps n (acc ++ [P.txt (c :: s)]) r (by simp at e ⊢; omega) o3 hs]
          simp
      | _ => cases hp
theorem loop_inv {rec : List Nat → Option (List P × List Nat)} {deep : Nat} (hd : deep ≤ 4) (hr : deep ≠ 4 → ∀ r ps r', rec r = some (ps, r') → r = tPs ps ++ r' ∧ okPs (4 - (deep + 1)) ps) : ∀ {n : Nat} {acc : List P} {r : List Nat} {bs : List P} {r' : List Nat}, loop rec deep n acc r = some (bs, r') →
    ∃ ps, bs = acc ++ ps ∧ r = tPs ps ++ r' ∧ okPs (4 - deep) ps ∧ stop r' ∧ (no plain r → hdT ps = false)
  | 0, _, _, _, _, e => by cases e
  | n + 1, acc, r, bs, r', e => by
    unfold loop at e
    split at e
    · rename_i hs
      cases e; exact ⟨[], by simp, by simp [tPs], trivial, hs, fun _ => rfl⟩
    · split at e
      · rename_i h123
        split at e
        · cases e
        · rename_i p r1 h1
          obtain ⟨f1, f2, f3⟩ := brace_inv hd hr h1
          obtain ⟨ps, g1, g2, g3, g4, g5⟩ := loop_inv hd hr e
          refine ⟨p :: ps, by rw [g1]; simp, ?_, ⟨f2, by rw [f3]; rfl, g3⟩, g4, fun _ => f3⟩
          cases r with
          | nil => cases h123
          | cons c r =>
            simp at h123
            subst h123
            simp only [List.tail_cons] at f1
            rw [f1, g2]; simp [tPs]
      · rename_i n123
        split at e
        · cases e
        · rename_i hem
          obtain ⟨ps, g1, g2, g3, g4, g5⟩ := loop_inv hd hr e
          have hne : r.takeWhile plain ≠ [] := fun z => by rw [z] at hem; exact hem rfl
          refine ⟨.txt (r.takeWhile plain) :: ps, by rw [g1]; simp, ?_, ⟨⟨hne, List.all_takeWhile⟩, ?_, g3⟩, g4, fun hn => ?_⟩
          · rw [tPs, List.append_assoc, ← g2]
            exact (List.takeWhile_append_dropWhile ..).symm
          · rw [g5 (no_dw _ _)]; simp
          · cases r with
            | nil => exact absurd rfl hne
            | cons c r =>
              have := hn c rfl
              rw [List.takeWhile_cons, this] at hne
              exact absurd rfl hne
theorem parts_app : ∀ (k deep : Nat), deep ≤ 4 → 5 ≤ deep + k → ∀ (ps : List P) (r : List Nat), okPs (4 - deep) ps → stop r → parts k deep (tPs ps ++ r) = some (ps, r)
  | 0, deep, h, h2, _, _, _, _ => by omega
  | k + 1, deep, h, h2, ps, r, ok, hs => by
    rw [parts]
    have := loop_app h (fun h4 ps r o s => parts_app k (deep + 1) (by omega) (by omega) ps r o s) ps ((tPs ps ++ r).length + 1) [] r (by omega) ok hs
    simpa using this
theorem parts_inv : ∀ (k deep : Nat), deep ≤ 4 → ∀ {r : List Nat} {ps : List P} {r' : List Nat}, parts k deep r = some (ps, r') → r = tPs ps ++ r' ∧ okPs (4 - deep) ps ∧ stop r'
  | 0, deep, h, _, _, _, e => by cases e
  | k + 1, deep, h, r, ps, r', e => by
    obtain ⟨qs, f1, f2, f3, f4, _⟩ := loop_inv h (fun h4 r ps r' e => by
      obtain ⟨a, b, _⟩ := parts_inv k (deep + 1) (by omega) e
      exact ⟨a, b⟩) e
    simp at f1
    subst f1
    exact ⟨f2, f3, f4⟩
/-- a text reads as a pattern just where it is the text of one that may be -/
theorem read_app {ps : List P} (ok : okPs 4 ps) (h1 : (tPs ps).length ≤ 1000) (h2 : szPs ps ≤ 40) : read (tPs ps) = some ps := by
  have := parts_app 6 0 (by omega) (by omega) ps [] ok (.inl rfl)
  rw [List.append_nil] at this
  unfold read
  rw [if_neg (by omega), this]
  simp only
  rw [if_neg (by simp; omega)]
theorem read_inv {s : List Nat} {ps : List P} (e : read s = some ps) : s = tPs ps ∧ okPs 4 ps ∧ szPs ps ≤ 40 ∧ s.length ≤ 1000 := by
  unfold read at e
  split at e
  · cases e
  · rename_i hl
    split at e
    · rename_i qs r' hp
      split at e
      · cases e
      · rename_i hb
        cases e
        obtain ⟨a, b, c⟩ := parts_inv 6 0 (by omega) hp
        have : r' = [] := Classical.byContradiction fun z => hb (.inl z)
        subst this
        rw [List.append_nil] at a
        exact ⟨a, b, by omega, by omega⟩
    · cases e
end Pt

namespace Pt
open DL
/-! ### the loops, as far as they go -/
theorem binds_go : ∀ (bs : List (List Nat × List Nat)) (n : Nat) (acc : List (List Nat × List Nat)) (r : List Nat), (∀ b ∈ bs, isW b.1 = true ∧ isW b.2 = true) → acc.length + bs.length ≤ 4 →
    ((acc ++ bs).map (·.1)).Nodup → no isL r → binds (n + bs.length) acc ((bs.map bT).flatten ++ r) = binds n (acc ++ bs) r
  | [], n, acc, r, _, _, _, _ => by simp
  | (a, b) :: bs, n, acc, r, hw, hl, hn, hnl => by
    obtain ⟨wa, wb⟩ := hw (a, b) (List.mem_cons_self ..)
    have e : (((a, b) :: bs).map bT).flatten ++ r = 32 :: (a ++ (61 :: (b ++ ((bs.map bT).flatten ++ r)))) := by simp [bT]
    have n1 : no isL ((bs.map bT).flatten ++ r) := by
      cases bs with
      | nil => exact hnl
      | cons c bs => exact no_cons L_sp
    rw [e, List.length_cons, ← Nat.add_assoc]
    rw [binds, List.head?_cons, if_pos rfl, List.tail_cons, word_app wa (no_cons L_eq)]
    simp only [sign_app, word_app wb n1]
    have h1 : ¬ (a ∈ acc.map (·.1) ∨ acc.length = 4) := fun z => by
      rcases z with z | z
      · rw [List.map_append, List.nodup_append] at hn
        exact hn.2.2 a z a (by simp) rfl
      · simp only [List.length_cons] at hl; omega
    rw [if_neg h1, binds_go bs n (acc ++ [(a, b)]) r (fun b hb => hw b (List.mem_cons_of_mem _ hb)) (by simp at hl ⊢; omega) (by simpa using hn) hnl]
    simp
theorem arms_go {rec : List Nat → Option (List P × List Nat)} {h : H} {m : Nat} (hr : ∀ ps r, okPs m ps → stop r → rec (tPs ps ++ r) = some (ps, r)) : ∀ (as : List Arm) (n : Nat) (acc : List Arm) (r : List Nat), okAs h m as → acc.length + as.length ≤ 8 →
    ((acc ++ as).map Arm.n).Nodup → arms rec h (n + as.length) acc (tAs as ++ r) = arms rec h n (acc ++ as) r
  | [], n, acc, r, _, _, _ => by simp [tAs]
  | .mk a i :: as, n, acc, r, hok, hl, hn => by
    obtain ⟨⟨o1, o2⟩, o3⟩ := hok
    have e' : tAs (.mk a i :: as) ++ r = 32 :: (a ++ (91 :: (tPs i ++ (93 :: (tAs as ++ r))))) := by simp [tAs, Arm.t]
    rw [e', List.length_cons, ← Nat.add_assoc]
    rw [arms, List.head?_cons, if_pos rfl, List.tail_cons, name_app o1 (no_cons L_lb) (no_cons F_lb)]
    have h1 : ¬ (a ∈ acc.map Arm.n ∨ acc.length = 8) := fun z => by
      rcases z with z | z
      · rw [List.map_append, List.nodup_append] at hn
        exact hn.2.2 a z a (by simp [Arm.n]) rfl
      · simp only [List.length_cons] at hl; omega
    simp only
    rw [if_neg h1]
    have hri := hr i (93 :: (tAs as ++ r)) o2 (.inr rfl)
    simp only [sign_app, hri]
    rw [arms_go hr as n (acc ++ [Arm.mk a i]) r o3 (by simp at hl ⊢; omega) (by simpa using hn)]
    simp
/-- a brace at the begin that is none -/
theorem parts_none {k deep : Nat} {r : List Nat} (h : brace (parts k (deep + 1)) deep r = none) : parts (k + 1) deep (123 :: r) = none := by
  rw [parts, loop, if_neg (fun z => by rcases z with z | z; exact absurd z (by simp); exact absurd z (by simp)), List.head?_cons, if_pos rfl, List.tail_cons, h]
theorem read_none {r : List Nat} (h : brace (parts 5 1) 0 r = none) : read (123 :: r) = none := by
  unfold read
  split
  · rfl
  · rw [parts_none h]
theorem cho_t (h : H) (g : List Nat) (as : List Arm) : (P.cho h g as).t = 123 :: (h.m :: (g ++ (tAs as ++ [125]))) := by simp [P.t]
theorem brace_cho {rec : List Nat → Option (List P × List Nat)} {deep : Nat} {h : H} {g r : List Nat} (hg : isW g = true) (n : no isL r) (ha : deep ≠ 4 → arms rec h (r.length + 1) [] r = none) : brace rec deep (h.m :: (g ++ r)) = none := by
  unfold brace
  rw [if_neg (by simpa using m_64 h), how_m]
  simp only
  by_cases h4 : deep = 4
  · rw [if_pos h4]
  · rw [if_neg h4, List.tail_cons, word_app hg n]
    simp only
    rw [ha h4]
/-- the first arm's name is none -/
theorem arms_name {rec : List Nat → Option (List P × List Nat)} {h : H} {n : Nat} {acc : List Arm} {r : List Nat} (e : name h r = none) : arms rec h (n + 1) acc (32 :: r) = none := by
  rw [arms, List.head?_cons, if_pos rfl, List.tail_cons, e]
theorem arms_many {rec : List Nat → Option (List P × List Nat)} {h : H} {n : Nat} {acc : List Arm} {a r r1 : List Nat} (e : name h r = some (a, r1)) (hb : a ∈ acc.map Arm.n ∨ acc.length = 8) : arms rec h (n + 1) acc (32 :: r) = none := by
  rw [arms, List.head?_cons, if_pos rfl, List.tail_cons, e]
  simp only
  rw [if_pos hb]
theorem arms_deep {rec : List Nat → Option (List P × List Nat)} {h : H} {n : Nat} {a : List Nat} {i : List P} {r : List Nat} (o : okName h a = true) (e : rec (tPs i ++ 93 :: r) = none) : arms rec h (n + 1) [] (32 :: (a ++ 91 :: (tPs i ++ 93 :: r))) = none := by
  rw [arms, List.head?_cons, if_pos rfl, List.tail_cons, name_app o (no_cons L_lb) (no_cons F_lb)]
  simp only
  rw [if_neg (by simp)]
  simp only [sign_app, e]
/-! ### words as they are drawn -/
theorem isW_of {w : List Nat} (h1 : 1 ≤ w.length) (h2 : w.length ≤ 8) (h3 : w ≠ ELSE) (h4 : w.all isL = true) : isW w = true := by
  unfold isW
  simp only [Bool.and_eq_true, decide_eq_true_eq, Bool.not_eq_true', decide_eq_false_iff_not]
  exact ⟨⟨⟨h1, h2⟩, h3⟩, h4⟩
theorem gap_brace {w r : List Nat} {rec : List Nat → Option (List P × List Nat)} {deep : Nat} (hw : w.all isL = true) (h0 : w ≠ []) (h : isW w = false) : brace rec deep (w ++ 125 :: r) = none := by
  cases w with
  | nil => exact absurd rfl h0
  | cons x w =>
    have a := hw
    rw [List.all_cons, Bool.and_eq_true] at a
    obtain ⟨k1, k2⟩ := how_L (r := w ++ (125 :: r)) a.1
    unfold brace
    rw [List.cons_append, if_neg (by simpa using k2), k1]
    simp only
    have : word (x :: (w ++ 125 :: r)) = none := by
      unfold word
      rw [← List.cons_append, (tk_app hw (no_cons L_rb)).1, if_neg (by rw [h]; decide)]
    rw [this]
theorem say_brace {w r : List Nat} {rec : List Nat → Option (List P × List Nat)} {deep : Nat} (hw : w.all isL = true) (h : isW w = false) : brace rec deep (64 :: (w ++ 125 :: r)) = none := by
  unfold brace
  rw [List.head?_cons, if_pos rfl, List.tail_cons]
  have : word (w ++ 125 :: r) = none := by
    unfold word
    rw [(tk_app hw (no_cons L_rb)).1, if_neg (by rw [h]; decide)]
  rw [this]
end Pt

namespace M
open PySem PySem.Spec PyProof.Rows L2 DL
def topS (i : Nat) : Stmt := PySem.Challenge.pw_saywell_k13_spoilt_texts.main.body.getD i (.Pass ⟨0, 0, 0, 0⟩)
abbrev xT : XTab := [(1446867055838488785518, 1446867055838488785518, true), (1446867055838488785518, 77431305626980, false), (1446867055838488785518, 21499177861738087, false), (1446867055838488785518, 336874201465, false), (1446867055838488785518, 1446866215807293155173, false), (1446867055838488785518, 5651822323626567026, false), (1446867055838488785518, 22077439389819749, false), (1446867055838488785518, 22077448131470707, false), (1446867055838488785518, 22077456503107175, false), (1446867055838488785518, 5651828894943638885, false), (1446867055838488785518, 22077464975799653, false), (1446867055838488785518, 1446869044807779053159, false), (1446867055838488785518, 6008216717068758898, true), (1446867055838488785518, 6084203974253437300, false), (1446867055838488785518, 23766421873979001, false)]
abbrev k_FIGURES : List Nat := [48, 49, 50, 51, 52, 53, 54, 55, 56, 57]
theorem ok_k_FIGURES : okS k_FIGURES = true := by decide
abbrev k_HOWS : List (List Nat × List Nat) := [([35], [109, 97, 110, 121]), ([126], [107, 105, 110, 100]), ([94], [114, 97, 110, 107])]
abbrev k_LETTERS : List Nat := [97, 98, 99, 100, 101, 102, 103, 104, 105, 106, 107, 108, 109, 110, 111, 112, 113, 114, 115, 116, 117, 118, 119, 120, 121, 122]
theorem ok_k_LETTERS : okS k_LETTERS = true := by decide
abbrev k_MARKS : List (List Nat × List Nat) := [([109, 97, 110, 121], [35]), ([107, 105, 110, 100], [126]), ([114, 97, 110, 107], [94])]
abbrev s__law_plain : Stmt := topS 45
abbrev N__law_plain : List Str := ["_law_number", "_law_many_here", "_law_some", "_law_found", "_law_k"]
theorem sc__law_plain : FnScope N__law_plain ["_law_number", "_law_many_here"] (defScope s__law_plain) := ⟨rfl, rfl, rfl, by decide +kernel, rfl, by decide +kernel, by decide +kernel⟩
noncomputable def L__law_plain_1 : EvS :=
   sSeq (sV 0 (o2E dMod (oV (o2E dAdd (oV (o2E dMul (oV (vE 0)) (oV (kE (.int 16807))))) (oV (vE 4)))) (oV (kE (.int 2147483647)))))
   (sI (tV (o2E dEq (oV (o2E dMod (oV (vE 0)) (oV (kE (.int 4))))) (oV (kE (.int 0))))) (sV 3 (o2E dAdd (oV (vE 3)) (oV (kE (.str [32]))))) (sV 3 (o2E dAdd (oV (vE 3)) (oV (o2E dIx (oV (vE 2)) (oV (o2E dMod (oV (o2E dFdiv (oV (vE 0)) (oV (kE (.int 4))))) (oV (kE (.int 90))))))))))
noncomputable def b__law_plain : EvS :=
   sSeq (sV 2 (kE (.str [32, 33, 34, 35, 36, 38, 39, 40, 41, 42, 43, 44, 45, 46, 47, 48, 49, 50, 51, 52, 53, 54, 55, 56, 57, 58, 59, 60, 61, 62, 63, 64, 65, 66, 67, 68, 69, 70, 71, 72, 73, 74, 75, 76, 77, 78, 79, 80, 81, 82, 83, 84, 85, 86, 87, 88, 89, 90, 92, 94, 95, 96, 97, 98, 99, 100, 101, 102, 103, 104, 105, 106, 107, 108, 109, 110, 111, 112, 113, 114, 115, 116, 117, 118, 119, 120, 121, 122, 124, 126])))
   (sSeq (sV 3 (kE (.str [])))
   (sSeq (sF (iR1 (aC (oV (vE 1)) (aN))) (gV 4) (L__law_plain_1))
   (sR (vE 3))))
noncomputable def c__law_plain : CallT := runB 5 b__law_plain
abbrev s__law_word : Stmt := topS 44
abbrev N__law_word : List Str := ["_law_number", "_law_some", "_law_rest", "_law_found", "_law_k"]
theorem sc__law_word : FnScope N__law_word ["_law_number"] (defScope s__law_word) := ⟨rfl, rfl, rfl, by decide +kernel, rfl, by decide +kernel, by decide +kernel⟩
noncomputable def L__law_word_1 : EvS :=
   sSeq (sV 3 (o2E dAdd (oV (vE 3)) (oV (o2E dIx (oV (vE 1)) (oV (o2E dMod (oV (vE 2)) (oV (kE (.int 26)))))))))
   (sV 2 (o2E dFdiv (oV (vE 2)) (oV (kE (.int 26)))))
noncomputable def b__law_word : EvS :=
   sSeq (sV 1 (kE (.str [97, 98, 99, 100, 101, 102, 103, 104, 105, 106, 107, 108, 109, 110, 111, 112, 113, 114, 115, 116, 117, 118, 119, 120, 121, 122])))
   (sSeq (sV 2 (o2E dFdiv (oV (vE 0)) (oV (kE (.int 8)))))
   (sSeq (sV 3 (kE (.str [])))
   (sSeq (sF (iR1 (aC (oV (o2E dAdd (oV (kE (.int 1))) (oV (o2E dMod (oV (vE 0)) (oV (kE (.int 8))))))) (aN))) (gV 4) (L__law_word_1))
   (sSeq (sI (tV (o2E dEq (oV (vE 3)) (oV (kE (.str [101, 108, 115, 101]))))) (sR (kE (.str [101, 108, 115, 101, 110]))) (sNil))
   (sR (vE 3))))))
noncomputable def c__law_word : CallT := runB 5 b__law_word
abbrev s__law_name : Stmt := topS 47
abbrev N__law_name : List Str := ["_law_number", "_law_how"]
theorem sc__law_name : FnScope N__law_name ["_law_number", "_law_how"] (defScope s__law_name) := ⟨rfl, rfl, rfl, by decide +kernel, rfl, by decide +kernel, by decide +kernel⟩
noncomputable def b__law_name : EvS :=
   sSeq (sI (tV (o2E dEq (oV (o2E dMod (oV (vE 0)) (oV (kE (.int 4))))) (oV (kE (.int 0))))) (sR (kE (.str [101, 108, 115, 101]))) (sNil))
   (sSeq (sI (tA (tV (o2E dEq (oV (o2E dMod (oV (vE 0)) (oV (kE (.int 4))))) (oV (kE (.int 1))))) (tV (o2E dEq (oV (vE 1)) (oV (kE (.str [109, 97, 110, 121])))))) (sSeq (sI (tV (o2E dEq (oV (o2E dMod (oV (o2E dFdiv (oV (vE 0)) (oV (kE (.int 4))))) (oV (kE (.int 8))))) (oV (kE (.int 3))))) (sR (o2E dAdd (oV (kE (.str [61]))) (oV (oAE dStr (aC (oV (o2E dMod (oV (o2E dFdiv (oV (vE 0)) (oV (kE (.int 32))))) (oV (o2E dPow (oV (kE (.int 10))) (oV (kE (.int 59))))))) (aN)))))) (sNil))
   (sR (o2E dAdd (oV (kE (.str [61]))) (oV (oAE dStr (aC (oV (o2E dMod (oV (o2E dFdiv (oV (vE 0)) (oV (kE (.int 32))))) (oV (kE (.int 12))))) (aN))))))) (sNil))
   (sR (cE c__law_word (aC (oV (o2E dFdiv (oV (vE 0)) (oV (kE (.int 4))))) (aN)))))
noncomputable def c__law_name : CallT := runB 2 b__law_name
abbrev s__law_gap : Stmt := topS 46
abbrev N__law_gap : List Str := ["_law_number"]
theorem sc__law_gap : FnScope N__law_gap ["_law_number"] (defScope s__law_gap) := ⟨rfl, rfl, rfl, by decide +kernel, rfl, by decide +kernel, by decide +kernel⟩
noncomputable def b__law_gap : EvS :=
   sSeq (sI (tV (o2E dGt (oV (o2E dMod (oV (vE 0)) (oV (kE (.int 3))))) (oV (kE (.int 0))))) (sR (o2E dIx (oV (fE (lF (aC (oV (kE (.str [110]))) (aC (oV (kE (.str [109]))) (aC (oV (kE (.str [119, 104, 111]))) (aN))))))) (oV (o2E dMod (oV (o2E dFdiv (oV (vE 0)) (oV (kE (.int 3))))) (oV (kE (.int 3))))))) (sNil))
   (sR (cE c__law_word (aC (oV (o2E dFdiv (oV (vE 0)) (oV (kE (.int 3))))) (aN))))
noncomputable def c__law_gap : CallT := runB 1 b__law_gap
abbrev s__law_shut : Stmt := topS 49
abbrev N__law_shut : List Str := ["_law_frames", "_law_here", "_law_how", "_law_gap_here", "_law_boughs", "_law_name_here", "_law_outer"]
theorem sc__law_shut : FnScope N__law_shut ["_law_frames", "_law_here"] (defScope s__law_shut) := ⟨rfl, rfl, rfl, by decide +kernel, rfl, by decide +kernel, by decide +kernel⟩
noncomputable def b__law_shut : EvS :=
   sSeq (sG (gT 5 (gC (gV 2) (gC (gV 3) (gC (gV 4) (gC (gV 5) (gC (gV 6) (gN))))))) (ePopL (oH (vE 0))))
   (sR (o2E dAdd (oV (vE 6)) (oV (fE (lF (aC (oV (pE (aC (oV (vE 2)) (aC (oV (vE 3)) (aC (oV (o2E dAdd (oV (vE 4)) (oV (fE (lF (aC (oV (pE (aC (oV (vE 5)) (aC (oV (vE 1)) (aN))))) (aN))))))) (aN)))))) (aN)))))))
noncomputable def c__law_shut : CallT := runB 7 b__law_shut
abbrev s__law_binds : Stmt := topS 48
abbrev N__law_binds : List Str := ["_law_number", "_law_found", "_law_k", "_law_theirs", "_law_one", "_law_other"]
theorem sc__law_binds : FnScope N__law_binds ["_law_number"] (defScope s__law_binds) := ⟨rfl, rfl, rfl, by decide +kernel, rfl, by decide +kernel, by decide +kernel⟩
noncomputable def E__law_binds_1 : Ev D :=
   vE 4
noncomputable def L__law_binds_1 : EvS :=
   sSeq (sV 3 (cE c__law_gap (aC (oV (o2E dAdd (oV (o2E dFdiv (oV (vE 0)) (oV (kE (.int 5))))) (oV (o2E dMul (oV (kE (.int 7))) (oV (vE 2)))))) (aN))))
   (sI (tV (o2E dNotIn (oV (vE 3)) (oV (fE (borF 1 (lcF (iE (vE 1)) (gT 2 (gC (gV 4) (gC (gV 5) (gN)))) [4, 5] (tY) (E__law_binds_1))))))) (sAp 1 (oV (pE (aC (oV (vE 3)) (aC (oV (cE c__law_gap (aC (oV (o2E dAdd (oV (o2E dFdiv (oV (vE 0)) (oV (kE (.int 11))))) (oV (o2E dMul (oV (vE 2)) (oV (vE 2)))))) (aN)))) (aN)))))) (sNil))
noncomputable def b__law_binds : EvS :=
   sSeq (sO 1 (lF (aN)))
   (sSeq (sF (iR1 (aC (oV (o2E dMod (oV (vE 0)) (oV (kE (.int 5))))) (aN))) (gV 2) (L__law_binds_1))
   (sR (zE 1)))
noncomputable def c__law_binds : CallT := solo (runB 6 b__law_binds)
abbrev s__law_pattern : Stmt := topS 50
abbrev N__law_pattern : List Str := ["_law_cells", "_law_frames", "_law_here", "_law_spent", "_law_k", "_law_cell", "_law_number", "_law_way", "_law_rest", "_law_how", "_law_gap_here", "_law_boughs", "_law_name_here", "_law_outer", "_law_other", "_law_one", "_law_inner"]
theorem sc__law_pattern : FnScope N__law_pattern ["_law_cells"] (defScope s__law_pattern) := ⟨rfl, rfl, rfl, by decide +kernel, rfl, by decide +kernel, by decide +kernel⟩
noncomputable def E__law_pattern_1 : Ev D :=
   vE 15
noncomputable def L__law_pattern_1 : EvS :=
   sSeq (sV 6 (o2E dMod (oV (o2E dAdd (oV (o2E dMul (oV (vE 5)) (oV (kE (.int 48271))))) (oV (o2E dMul (oV (vE 4)) (oV (vE 4)))))) (oV (o2E dPow (oV (kE (.int 10))) (oV (kE (.int 60)))))))
   (sSeq (sV 7 (o2E dMod (oV (vE 6)) (oV (kE (.int 8)))))
   (sSeq (sV 8 (o2E dFdiv (oV (vE 6)) (oV (kE (.int 8)))))
   (sSeq (sI (tV (o2E dGt (oV (vE 3)) (oV (kE (.int 860))))) (sBk) (sNil))
   (sI (tA (tV (o2E dLt (oV (vE 7)) (oV (kE (.int 2))))) (tO (tV (o2E dEq (oV (vE 2)) (oV (fE (lF (aN)))))) (tV (o2E dNe (oV (o2E dIx (oV (o2E dIx (oV (vE 2)) (oV (o1E dNeg (oV (kE (.int 1))))))) (oV (kE (.int 0))))) (oV (kE (.str [116, 101, 120, 116]))))))) (sSeq (sV 2 (o2E dAdd (oV (vE 2)) (oV (fE (lF (aC (oV (pE (aC (oV (kE (.str [116, 101, 120, 116]))) (aC (oV (cE c__law_plain (aC (oV (o2E dFdiv (oV (vE 8)) (oV (kE (.int 12))))) (aC (oV (o2E dAdd (oV (kE (.int 1))) (oV (o2E dMod (oV (vE 8)) (oV (kE (.int 12))))))) (aN))))) (aN))))) (aN)))))))
   (sV 3 (o2E dAdd (oV (vE 3)) (oV (kE (.int 12)))))) (sI (tA (tV (o2E dEq (oV (vE 7)) (oV (kE (.int 2))))) (tV (o2E dLt (oV (oAE dLen (aC (oH (vE 1)) (aN)))) (oV (kE (.int 4)))))) (sSeq (sV 9 (o2E dIx (oV (fE (lF (aC (oV (kE (.str [109, 97, 110, 121]))) (aC (oV (kE (.str [107, 105, 110, 100]))) (aC (oV (kE (.str [114, 97, 110, 107]))) (aN))))))) (oV (o2E dMod (oV (vE 8)) (oV (kE (.int 3)))))))
   (sSeq (sApL (oH (vE 1)) (oV (pE (aC (oV (vE 9)) (aC (oV (cE c__law_gap (aC (oV (o2E dFdiv (oV (vE 8)) (oV (kE (.int 3))))) (aN)))) (aC (oV (fE (lF (aN)))) (aC (oV (cE c__law_name (aC (oV (o2E dFdiv (oV (vE 8)) (oV (kE (.int 9))))) (aC (oV (vE 9)) (aN))))) (aC (oV (vE 2)) (aN)))))))))
   (sSeq (sV 2 (fE (lF (aN))))
   (sV 3 (o2E dAdd (oV (vE 3)) (oV (kE (.int 75)))))))) (sI (tA (tV (o2E dEq (oV (vE 7)) (oV (kE (.int 3))))) (tV (o2E dNe (oH (vE 1)) (oV (fE (lF (aN))))))) (sSeq (sG (gT 5 (gC (gV 9) (gC (gV 10) (gC (gV 11) (gC (gV 12) (gC (gV 13) (gN))))))) (o2E dIx (oH (vE 1)) (oV (o1E dNeg (oV (kE (.int 1)))))))
   (sSeq (sV 14 (cE c__law_name (aC (oV (vE 8)) (aC (oV (vE 9)) (aN)))))
   (sI (tA (tV (o2E dLt (oV (oAE dLen (aC (oV (vE 11)) (aN)))) (oV (kE (.int 7))))) (tV (o2E dNotIn (oV (vE 14)) (oV (o2E dAdd (oV (fE (lcF (iE (vE 11)) (gT 2 (gC (gV 15) (gC (gV 16) (gN)))) [15, 16] (tY) (E__law_pattern_1)))) (oV (fE (lF (aC (oV (vE 12)) (aN)))))))))) (sSeq (sSetL (oH (vE 1)) (pE (aC (oV (vE 9)) (aC (oV (vE 10)) (aC (oV (o2E dAdd (oV (vE 11)) (oV (fE (lF (aC (oV (pE (aC (oV (vE 12)) (aC (oV (vE 2)) (aN))))) (aN))))))) (aC (oV (vE 14)) (aC (oV (vE 13)) (aN))))))) (o1E dNeg (oV (kE (.int 1)))))
   (sSeq (sV 2 (fE (lF (aN))))
   (sV 3 (o2E dAdd (oV (vE 3)) (oV (kE (.int 64))))))) (sNil)))) (sI (tA (tV (o2E dEq (oV (vE 7)) (oV (kE (.int 4))))) (tV (o2E dNe (oH (vE 1)) (oV (fE (lF (aN))))))) (sV 2 (cE c__law_shut (aC (oV (vE 1)) (aC (oV (vE 2)) (aN))))) (sI (tV (o2E dEq (oV (vE 7)) (oV (kE (.int 5))))) (sSeq (sV 2 (o2E dAdd (oV (vE 2)) (oV (fE (lF (aC (oV (pE (aC (oV (kE (.str [115, 97, 121]))) (aC (oV (cE c__law_word (aC (oV (o2E dFdiv (oV (vE 8)) (oV (kE (.int 5))))) (aN)))) (aC (oV (cE c__law_binds (aC (oV (vE 8)) (aN)))) (aN)))))) (aN)))))))
   (sV 3 (o2E dAdd (oV (vE 3)) (oV (kE (.int 84)))))) (sSeq (sV 2 (o2E dAdd (oV (vE 2)) (oV (fE (lF (aC (oV (pE (aC (oV (kE (.str [103, 97, 112]))) (aC (oV (cE c__law_gap (aC (oV (vE 8)) (aN)))) (aN))))) (aN)))))))
   (sV 3 (o2E dAdd (oV (vE 3)) (oV (kE (.int 10))))))))))))))
noncomputable def W__law_pattern_1 : Ev Bool :=
   tV (o2E dNe (oH (vE 1)) (oV (fE (lF (aN)))))
noncomputable def L__law_pattern_2 : EvS :=
   sV 2 (cE c__law_shut (aC (oV (vE 1)) (aC (oV (vE 2)) (aN))))
noncomputable def b__law_pattern : EvS :=
   sSeq (sV 1 (aE (lF (aN))))
   (sSeq (sV 2 (fE (lF (aN))))
   (sSeq (sV 3 (kE (.int 0)))
   (sSeq (sF (iEn (aC (oV (slE dSl (oV (vE 0)) (sN) (sS (kE (.int 40))))) (aN))) (gT 2 (gC (gV 4) (gC (gV 5) (gN)))) (L__law_pattern_1))
   (sSeq (sW (W__law_pattern_1) (L__law_pattern_2))
   (sR (vE 2))))))
noncomputable def c__law_pattern : CallT := solo (runB 17 b__law_pattern)
abbrev s__law_text : Stmt := topS 51
abbrev N__law_text : List Str := ["_law_pattern_here", "_law_found", "_law_part", "_law_binds_here", "_law_theirs", "_law_mine", "_law_boughs", "_law_name_here", "_law_inner", "_law_mark"]
theorem sc__law_text : FnScope N__law_text ["_law_pattern_here"] (defScope s__law_text) := ⟨rfl, rfl, rfl, by decide +kernel, rfl, by decide +kernel, by decide +kernel⟩
noncomputable def E__law_text_1 (rec : CallT) : Ev D :=
   o2E dAdd (oV (o2E dAdd (oV (o2E dAdd (oV (kE (.str [32]))) (oV (vE 4)))) (oV (kE (.str [61]))))) (oV (vE 5))
noncomputable def E__law_text_2 (rec : CallT) : Ev D :=
   o2E dAdd (oV (o2E dAdd (oV (o2E dAdd (oV (o2E dAdd (oV (kE (.str [32]))) (oV (vE 7)))) (oV (kE (.str [91]))))) (oV (cE rec (aC (oV (vE 8)) (aN)))))) (oV (kE (.str [93])))
noncomputable def L__law_text_1 (rec : CallT) : EvS :=
   sI (tV (o2E dEq (oV (o2E dIx (oV (vE 2)) (oV (kE (.int 0))))) (oV (kE (.str [116, 101, 120, 116]))))) (sV 1 (o2E dAdd (oV (vE 1)) (oV (o2E dIx (oV (vE 2)) (oV (kE (.int 1))))))) (sI (tV (o2E dEq (oV (o2E dIx (oV (vE 2)) (oV (kE (.int 0))))) (oV (kE (.str [103, 97, 112]))))) (sV 1 (o2E dAdd (oV (o2E dAdd (oV (o2E dAdd (oV (vE 1)) (oV (kE (.str [123]))))) (oV (o2E dIx (oV (vE 2)) (oV (kE (.int 1))))))) (oV (kE (.str [125]))))) (sI (tV (o2E dEq (oV (o2E dIx (oV (vE 2)) (oV (kE (.int 0))))) (oV (kE (.str [115, 97, 121]))))) (sSeq (sV 3 (fE (lcF (iE (o2E dIx (oV (vE 2)) (oV (kE (.int 2))))) (gT 2 (gC (gV 4) (gC (gV 5) (gN)))) [4, 5] (tY) (E__law_text_1 rec))))
   (sV 1 (o2E dAdd (oV (o2E dAdd (oV (o2E dAdd (oV (o2E dAdd (oV (vE 1)) (oV (kE (.str [123, 64]))))) (oV (o2E dIx (oV (vE 2)) (oV (kE (.int 1))))))) (oV (mE "str" dJoin (oV (kE (.str []))) (aC (oV (vE 3)) (aN)))))) (oV (kE (.str [125])))))) (sSeq (sV 6 (fE (lcF (iE (o2E dIx (oV (vE 2)) (oV (kE (.int 2))))) (gT 2 (gC (gV 7) (gC (gV 8) (gN)))) [7, 8] (tY) (E__law_text_2 rec))))
   (sSeq (sV 9 (o2E dGetK (oV (fE (kF [[109, 97, 110, 121], [107, 105, 110, 100], [114, 97, 110, 107]] (aC (oV (kE (.str [35]))) (aC (oV (kE (.str [126]))) (aC (oV (kE (.str [94]))) (aN))))))) (oV (o2E dIx (oV (vE 2)) (oV (kE (.int 0)))))))
   (sV 1 (o2E dAdd (oV (o2E dAdd (oV (o2E dAdd (oV (o2E dAdd (oV (o2E dAdd (oV (vE 1)) (oV (kE (.str [123]))))) (oV (vE 9)))) (oV (o2E dIx (oV (vE 2)) (oV (kE (.int 1))))))) (oV (mE "str" dJoin (oV (kE (.str []))) (aC (oV (vE 6)) (aN)))))) (oV (kE (.str [125])))))))))
noncomputable def b__law_text (rec : CallT) : EvS :=
   sSeq (sV 1 (kE (.str [])))
   (sSeq (sF (iE (vE 0)) (gV 2) (L__law_text_1 rec))
   (sR (vE 1)))
noncomputable def c__law_text : Nat → CallT
  | 0 => cStuck
  | k + 1 => runB 10 (b__law_text (c__law_text k))
abbrev s__law_spoilt : Stmt := topS 52
abbrev N__law_spoilt : List Str := ["_law_text_here", "_law_cell", "_law_number", "_law_way", "_law_at", "_law_far", "_law_sign"]
theorem sc__law_spoilt : FnScope N__law_spoilt ["_law_text_here", "_law_cell"] (defScope s__law_spoilt) := ⟨rfl, rfl, rfl, by decide +kernel, rfl, by decide +kernel, by decide +kernel⟩
noncomputable def b__law_spoilt : EvS :=
   sSeq (sV 2 (o2E dMod (oV (o2E dAdd (oV (o2E dMul (oV (vE 1)) (oV (kE (.int 69621))))) (oV (kE (.int 5))))) (oV (o2E dPow (oV (kE (.int 10))) (oV (kE (.int 60)))))))
   (sSeq (sV 3 (o2E dMod (oV (vE 2)) (oV (kE (.int 8)))))
   (sSeq (sV 4 (o2E dMod (oV (o2E dFdiv (oV (vE 2)) (oV (kE (.int 8))))) (oV (o2E dAdd (oV (oAE dLen (aC (oV (vE 0)) (aN)))) (oV (kE (.int 1)))))))
   (sSeq (sV 5 (o2E dAdd (oV (kE (.int 1))) (oV (o2E dMod (oV (o2E dFdiv (oV (vE 2)) (oV (kE (.int 8192))))) (oV (kE (.int 9)))))))
   (sSeq (sV 6 (o2E dIx (oV (kE (.str [123, 125, 91, 93, 35, 126, 94, 64, 61, 32, 97, 101, 48, 55, 61, 110]))) (oV (o2E dMod (oV (o2E dFdiv (oV (vE 2)) (oV (kE (.int 73728))))) (oV (kE (.int 16)))))))
   (sSeq (sI (tV (o2E dLt (oV (vE 3)) (oV (kE (.int 2))))) (sR (o2E dAdd (oV (o2E dAdd (oV (slE dSl (oV (vE 0)) (sN) (sS (vE 4)))) (oV (vE 6)))) (oV (slE dSl (oV (vE 0)) (sS (vE 4)) (sN))))) (sNil))
   (sSeq (sI (tV (o2E dEq (oV (vE 3)) (oV (kE (.int 2))))) (sR (o2E dAdd (oV (o2E dAdd (oV (slE dSl (oV (vE 0)) (sN) (sS (vE 4)))) (oV (vE 6)))) (oV (slE dSl (oV (vE 0)) (sS (o2E dAdd (oV (vE 4)) (oV (kE (.int 1))))) (sN))))) (sNil))
   (sSeq (sI (tV (o2E dEq (oV (vE 3)) (oV (kE (.int 3))))) (sR (o2E dAdd (oV (slE dSl (oV (vE 0)) (sN) (sS (vE 4)))) (oV (slE dSl (oV (vE 0)) (sS (o2E dAdd (oV (vE 4)) (oV (vE 5)))) (sN))))) (sNil))
   (sSeq (sI (tV (o2E dEq (oV (vE 3)) (oV (kE (.int 4))))) (sR (o2E dAdd (oV (o2E dAdd (oV (slE dSl (oV (vE 0)) (sN) (sS (vE 4)))) (oV (slE dSl (oV (vE 0)) (sS (vE 4)) (sS (o2E dAdd (oV (vE 4)) (oV (vE 5)))))))) (oV (slE dSl (oV (vE 0)) (sS (vE 4)) (sN))))) (sNil))
   (sSeq (sI (tV (o2E dEq (oV (vE 3)) (oV (kE (.int 5))))) (sR (o2E dAdd (oV (slE dSl (oV (vE 0)) (sS (vE 4)) (sN))) (oV (slE dSl (oV (vE 0)) (sN) (sS (vE 4)))))) (sNil))
   (sR (vE 0)))))))))))
noncomputable def c__law_spoilt : CallT := runB 7 b__law_spoilt
abbrev s_is_plain : Stmt := topS 19
abbrev N_is_plain : List Str := ["sign"]
theorem sc_is_plain : FnScope N_is_plain ["sign"] (defScope s_is_plain) := ⟨rfl, rfl, rfl, by decide +kernel, rfl, by decide +kernel, by decide +kernel⟩
noncomputable def b_is_plain : EvS :=
   sR (eA (o3E dLe dLe (oV (kE (.str [32]))) (oV (vE 0)) (oV (kE (.str [126])))) (eA (o2E dNotIn (oV (vE 0)) (oV (kE (.str [123, 125, 91, 93])))) (o2E dNe (oV (oAE dOrd (aC (oV (vE 0)) (aN)))) (oV (kE (.int 37))))))
noncomputable def c_is_plain : CallT := runB 1 b_is_plain
abbrev s_run_of : Stmt := topS 20
abbrev N_run_of : List Str := ["text", "at", "signs", "end"]
theorem sc_run_of : FnScope N_run_of ["text", "at", "signs"] (defScope s_run_of) := ⟨rfl, rfl, rfl, by decide +kernel, rfl, by decide +kernel, by decide +kernel⟩
noncomputable def W_run_of_1 : Ev Bool :=
   tA (tV (o2E dLt (oV (vE 3)) (oV (oAE dLen (aC (oV (vE 0)) (aN)))))) (tV (o2E dIn (oV (o2E dIx (oV (vE 0)) (oV (vE 3)))) (oV (vE 2))))
noncomputable def L_run_of_1 : EvS :=
   sV 3 (o2E dAdd (oV (vE 3)) (oV (kE (.int 1))))
noncomputable def b_run_of : EvS :=
   sSeq (sV 3 (vE 1))
   (sSeq (sW (W_run_of_1) (L_run_of_1))
   (sR (slE dSl (oV (vE 0)) (sS (vE 1)) (sS (vE 3)))))
noncomputable def c_run_of : CallT := runB 4 b_run_of
abbrev s_is_word : Stmt := topS 18
abbrev N_is_word : List Str := ["thing", "sign"]
theorem sc_is_word : FnScope N_is_word ["thing"] (defScope s_is_word) := ⟨rfl, rfl, rfl, by decide +kernel, rfl, by decide +kernel, by decide +kernel⟩
noncomputable def E_is_word_1 : Ev D :=
   o2E dIn (oV (vE 1)) (oV (kE (.str k_LETTERS)))
noncomputable def b_is_word : EvS :=
   sSeq (sI (tO (tN (tT (oV (oAE dIsI (aC (oV (vE 0)) (aC (oV (kE (.ty "str"))) (aN))))))) (tO (tV (o2E dLt (oV (oAE dLen (aC (oV (vE 0)) (aN)))) (oV (kE (.int 1))))) (tO (tV (o2E dGt (oV (oAE dLen (aC (oV (vE 0)) (aN)))) (oV (kE (.int 8))))) (tV (o2E dEq (oV (vE 0)) (oV (kE (.str [101, 108, 115, 101])))))))) (sR (kE (.bl false))) (sNil))
   (sR (oAE dAll (aC (oV (fE (lcF (iE (vE 0)) (gV 1) [1] (tY) (E_is_word_1)))) (aN))))
noncomputable def c_is_word : CallT := runB 2 b_is_word
abbrev s_scan_word : Stmt := topS 29
abbrev N_scan_word : List Str := ["text", "at", "word"]
theorem sc_scan_word : FnScope N_scan_word ["text", "at"] (defScope s_scan_word) := ⟨rfl, rfl, rfl, by decide +kernel, rfl, by decide +kernel, by decide +kernel⟩
noncomputable def b_scan_word : EvS :=
   sSeq (sV 2 (cE c_run_of (aC (oV (vE 0)) (aC (oV (vE 1)) (aC (oV (kE (.str k_LETTERS))) (aN))))))
   (sSeq (sI (tN (tT (oV (cE c_is_word (aC (oV (vE 2)) (aN)))))) (sX 1446867055838488785518) (sNil))
   (sR (pE (aC (oV (vE 2)) (aC (oV (o2E dAdd (oV (vE 1)) (oV (oAE dLen (aC (oV (vE 2)) (aN)))))) (aN))))))
noncomputable def c_scan_word : CallT := runB 3 b_scan_word
abbrev s_scan_name : Stmt := topS 30
abbrev N_scan_name : List Str := ["text", "at", "how", "figures"]
theorem sc_scan_name : FnScope N_scan_name ["text", "at", "how"] (defScope s_scan_name) := ⟨rfl, rfl, rfl, by decide +kernel, rfl, by decide +kernel, by decide +kernel⟩
noncomputable def b_scan_name : EvS :=
   sSeq (sI (tA (tV (o2E dEq (oV (vE 2)) (oV (kE (.str [109, 97, 110, 121]))))) (tV (o2E dEq (oV (slE dSl (oV (vE 0)) (sS (vE 1)) (sS (o2E dAdd (oV (vE 1)) (oV (kE (.int 1))))))) (oV (kE (.str [61])))))) (sSeq (sV 3 (cE c_run_of (aC (oV (vE 0)) (aC (oV (o2E dAdd (oV (vE 1)) (oV (kE (.int 1))))) (aC (oV (kE (.str k_FIGURES))) (aN))))))
   (sSeq (sI (tO (tV (o2E dEq (oV (vE 3)) (oV (kE (.str []))))) (tO (tV (o2E dGt (oV (oAE dLen (aC (oV (vE 3)) (aN)))) (oV (kE (.int 59))))) (tA (tV (o2E dGt (oV (oAE dLen (aC (oV (vE 3)) (aN)))) (oV (kE (.int 1))))) (tV (o2E dEq (oV (o2E dIx (oV (vE 3)) (oV (kE (.int 0))))) (oV (kE (.str [48])))))))) (sX 1446867055838488785518) (sNil))
   (sR (pE (aC (oV (o2E dAdd (oV (kE (.str [61]))) (oV (vE 3)))) (aC (oV (o2E dAdd (oV (o2E dAdd (oV (vE 1)) (oV (kE (.int 1))))) (oV (oAE dLen (aC (oV (vE 3)) (aN)))))) (aN))))))) (sNil))
   (sSeq (sI (tV (o2E dEq (oV (cE c_run_of (aC (oV (vE 0)) (aC (oV (vE 1)) (aC (oV (kE (.str k_LETTERS))) (aN)))))) (oV (kE (.str [101, 108, 115, 101]))))) (sR (pE (aC (oV (kE (.str [101, 108, 115, 101]))) (aC (oV (o2E dAdd (oV (vE 1)) (oV (kE (.int 4))))) (aN))))) (sNil))
   (sR (cE c_scan_word (aC (oV (vE 0)) (aC (oV (vE 1)) (aN))))))
noncomputable def c_scan_name : CallT := runB 4 b_scan_name
abbrev s_past_sign : Stmt := topS 28
abbrev N_past_sign : List Str := ["text", "at", "sign"]
theorem sc_past_sign : FnScope N_past_sign ["text", "at", "sign"] (defScope s_past_sign) := ⟨rfl, rfl, rfl, by decide +kernel, rfl, by decide +kernel, by decide +kernel⟩
noncomputable def b_past_sign : EvS :=
   sSeq (sI (tV (o2E dNe (oV (slE dSl (oV (vE 0)) (sS (vE 1)) (sS (o2E dAdd (oV (vE 1)) (oV (kE (.int 1))))))) (oV (vE 2)))) (sX 1446867055838488785518) (sNil))
   (sR (o2E dAdd (oV (vE 1)) (oV (kE (.int 1)))))
noncomputable def c_past_sign : CallT := runB 3 b_past_sign
abbrev s_scan_binds : Stmt := topS 32
abbrev N_scan_binds : List Str := ["text", "at", "binds", "theirs", "mine", "one", "other"]
theorem sc_scan_binds : FnScope N_scan_binds ["text", "at"] (defScope s_scan_binds) := ⟨rfl, rfl, rfl, by decide +kernel, rfl, by decide +kernel, by decide +kernel⟩
noncomputable def E_scan_binds_1 : Ev D :=
   vE 5
noncomputable def W_scan_binds_1 : Ev Bool :=
   tV (o2E dEq (oV (slE dSl (oV (vE 0)) (sS (vE 1)) (sS (o2E dAdd (oV (vE 1)) (oV (kE (.int 1))))))) (oV (kE (.str [32]))))
noncomputable def L_scan_binds_1 : EvS :=
   sSeq (sG (gT 2 (gC (gV 3) (gC (gV 1) (gN)))) (cE c_scan_word (aC (oV (vE 0)) (aC (oV (o2E dAdd (oV (vE 1)) (oV (kE (.int 1))))) (aN)))))
   (sSeq (sG (gT 2 (gC (gV 4) (gC (gV 1) (gN)))) (cE c_scan_word (aC (oV (vE 0)) (aC (oV (cE c_past_sign (aC (oV (vE 0)) (aC (oV (vE 1)) (aC (oV (kE (.str [61]))) (aN)))))) (aN)))))
   (sSeq (sI (tO (tV (o2E dIn (oV (vE 3)) (oV (fE (borF 2 (lcF (iE (vE 2)) (gT 2 (gC (gV 5) (gC (gV 6) (gN)))) [5, 6] (tY) (E_scan_binds_1))))))) (tV (o2E dEq (oV (oAE dLen (aC (oS 2) (aN)))) (oV (kE (.int 4)))))) (sX 1446867055838488785518) (sNil))
   (sAp 2 (oV (pE (aC (oV (vE 3)) (aC (oV (vE 4)) (aN))))))))
noncomputable def b_scan_binds : EvS :=
   sSeq (sO 2 (lF (aN)))
   (sSeq (sW (W_scan_binds_1) (L_scan_binds_1))
   (sR (pE (aC (oV (zE 2)) (aC (oV (vE 1)) (aN))))))
noncomputable def c_scan_binds : CallT := runB 7 b_scan_binds
abbrev s_scan_arms : Stmt := topS 31
abbrev N_scan_arms : List Str := ["text", "at", "how", "deep", "arms", "names", "name", "inner"]
theorem sc_scan_arms : FnScope N_scan_arms ["text", "at", "how", "deep"] (defScope s_scan_arms) := ⟨rfl, rfl, rfl, by decide +kernel, rfl, by decide +kernel, by decide +kernel⟩
noncomputable def W_scan_arms_1 (rec : CallT) : Ev Bool :=
   tV (o2E dEq (oV (slE dSl (oV (vE 0)) (sS (vE 1)) (sS (o2E dAdd (oV (vE 1)) (oV (kE (.int 1))))))) (oV (kE (.str [32]))))
noncomputable def L_scan_arms_1 (rec : CallT) : EvS :=
   sSeq (sG (gT 2 (gC (gV 6) (gC (gV 1) (gN)))) (cE c_scan_name (aC (oV (vE 0)) (aC (oV (o2E dAdd (oV (vE 1)) (oV (kE (.int 1))))) (aC (oV (vE 2)) (aN))))))
   (sSeq (sI (tO (tV (o2E dIn (oV (vE 6)) (oS 5))) (tV (o2E dEq (oV (oAE dLen (aC (oS 5) (aN)))) (oV (kE (.int 8)))))) (sX 1446867055838488785518) (sNil))
   (sSeq (sAp 5 (oV (vE 6)))
   (sSeq (sG (gT 2 (gC (gV 7) (gC (gV 1) (gN)))) (cE rec (aC (oV (vE 0)) (aC (oV (cE c_past_sign (aC (oV (vE 0)) (aC (oV (vE 1)) (aC (oV (kE (.str [91]))) (aN)))))) (aC (oV (vE 3)) (aN))))))
   (sSeq (sAp 4 (oV (pE (aC (oV (vE 6)) (aC (oV (vE 7)) (aN))))))
   (sV 1 (cE c_past_sign (aC (oV (vE 0)) (aC (oV (vE 1)) (aC (oV (kE (.str [93]))) (aN))))))))))
noncomputable def b_scan_arms (rec : CallT) : EvS :=
   sSeq (sO 4 (lF (aN)))
   (sSeq (sO 5 (lF (aN)))
   (sSeq (sW (W_scan_arms_1 rec) (L_scan_arms_1 rec))
   (sSeq (sI (tV (o2E dEq (oS 4) (oV (fE (lF (aN)))))) (sX 1446867055838488785518) (sNil))
   (sR (pE (aC (oV (zE 4)) (aC (oV (vE 1)) (aN))))))))
noncomputable def c_scan_arms (rec : CallT) : CallT := runB 8 (b_scan_arms rec)
abbrev s_scan_brace : Stmt := topS 33
abbrev N_scan_brace : List Str := ["text", "at", "deep", "sign", "key", "binds", "gap", "arms"]
theorem sc_scan_brace : FnScope N_scan_brace ["text", "at", "deep"] (defScope s_scan_brace) := ⟨rfl, rfl, rfl, by decide +kernel, rfl, by decide +kernel, by decide +kernel⟩
noncomputable def b_scan_brace (rec : CallT) : EvS :=
   sSeq (sV 3 (slE dSl (oV (vE 0)) (sS (vE 1)) (sS (o2E dAdd (oV (vE 1)) (oV (kE (.int 1)))))))
   (sSeq (sI (tV (o2E dEq (oV (vE 3)) (oV (kE (.str [64]))))) (sSeq (sG (gT 2 (gC (gV 4) (gC (gV 1) (gN)))) (cE c_scan_word (aC (oV (vE 0)) (aC (oV (o2E dAdd (oV (vE 1)) (oV (kE (.int 1))))) (aN)))))
   (sSeq (sG (gT 2 (gC (gV 5) (gC (gV 1) (gN)))) (cE c_scan_binds (aC (oV (vE 0)) (aC (oV (vE 1)) (aN)))))
   (sR (pE (aC (oV (pE (aC (oV (kE (.str [115, 97, 121]))) (aC (oV (vE 4)) (aC (oV (vE 5)) (aN)))))) (aC (oV (cE c_past_sign (aC (oV (vE 0)) (aC (oV (vE 1)) (aC (oV (kE (.str [125]))) (aN)))))) (aN))))))) (sNil))
   (sSeq (sI (tV (o1E (dHasNT k_HOWS) (oV (vE 3)))) (sSeq (sG (gT 2 (gC (gV 6) (gC (gV 1) (gN)))) (cE c_scan_word (aC (oV (vE 0)) (aC (oV (vE 1)) (aN)))))
   (sR (pE (aC (oV (pE (aC (oV (kE (.str [103, 97, 112]))) (aC (oV (vE 6)) (aN))))) (aC (oV (cE c_past_sign (aC (oV (vE 0)) (aC (oV (vE 1)) (aC (oV (kE (.str [125]))) (aN)))))) (aN)))))) (sNil))
   (sSeq (sI (tV (o2E dEq (oV (vE 2)) (oV (kE (.int 4))))) (sX 1446867055838488785518) (sNil))
   (sSeq (sG (gT 2 (gC (gV 6) (gC (gV 1) (gN)))) (cE c_scan_word (aC (oV (vE 0)) (aC (oV (o2E dAdd (oV (vE 1)) (oV (kE (.int 1))))) (aN)))))
   (sSeq (sG (gT 2 (gC (gV 7) (gC (gV 1) (gN)))) (cE (c_scan_arms rec) (aC (oV (vE 0)) (aC (oV (vE 1)) (aC (oV (o1E (dGetT k_HOWS) (oV (vE 3)))) (aC (oV (o2E dAdd (oV (vE 2)) (oV (kE (.int 1))))) (aN)))))))
   (sR (pE (aC (oV (pE (aC (oV (o1E (dGetT k_HOWS) (oV (vE 3)))) (aC (oV (vE 6)) (aC (oV (vE 7)) (aN)))))) (aC (oV (cE c_past_sign (aC (oV (vE 0)) (aC (oV (vE 1)) (aC (oV (kE (.str [125]))) (aN)))))) (aN))))))))))
noncomputable def c_scan_brace (rec : CallT) : CallT := runB 8 (b_scan_brace rec)
abbrev s_scan_parts : Stmt := topS 34
abbrev N_scan_parts : List Str := ["text", "at", "deep", "parts", "part", "end"]
theorem sc_scan_parts : FnScope N_scan_parts ["text", "at", "deep"] (defScope s_scan_parts) := ⟨rfl, rfl, rfl, by decide +kernel, rfl, by decide +kernel, by decide +kernel⟩
noncomputable def W_scan_parts_1 (rec : CallT) : Ev Bool :=
   tA (tV (o2E dLt (oV (vE 5)) (oV (oAE dLen (aC (oV (vE 0)) (aN)))))) (tT (oV (cE c_is_plain (aC (oV (o2E dIx (oV (vE 0)) (oV (vE 5)))) (aN)))))
noncomputable def L_scan_parts_1 (rec : CallT) : EvS :=
   sV 5 (o2E dAdd (oV (vE 5)) (oV (kE (.int 1))))
noncomputable def W_scan_parts_2 (rec : CallT) : Ev Bool :=
   tA (tV (o2E dLt (oV (vE 1)) (oV (oAE dLen (aC (oV (vE 0)) (aN)))))) (tV (o2E dNe (oV (o2E dIx (oV (vE 0)) (oV (vE 1)))) (oV (kE (.str [93])))))
noncomputable def L_scan_parts_2 (rec : CallT) : EvS :=
   sI (tV (o2E dEq (oV (o2E dIx (oV (vE 0)) (oV (vE 1)))) (oV (kE (.str [123]))))) (sSeq (sG (gT 2 (gC (gV 4) (gC (gV 1) (gN)))) (cE (c_scan_brace rec) (aC (oV (vE 0)) (aC (oV (o2E dAdd (oV (vE 1)) (oV (kE (.int 1))))) (aC (oV (vE 2)) (aN))))))
   (sAp 3 (oV (vE 4)))) (sSeq (sV 5 (vE 1))
   (sSeq (sW (W_scan_parts_1 rec) (L_scan_parts_1 rec))
   (sSeq (sI (tV (o2E dEq (oV (vE 5)) (oV (vE 1)))) (sX 1446867055838488785518) (sNil))
   (sSeq (sAp 3 (oV (pE (aC (oV (kE (.str [116, 101, 120, 116]))) (aC (oV (slE dSl (oV (vE 0)) (sS (vE 1)) (sS (vE 5)))) (aN))))))
   (sV 1 (vE 5))))))
noncomputable def b_scan_parts (rec : CallT) : EvS :=
   sSeq (sO 3 (lF (aN)))
   (sSeq (sW (W_scan_parts_2 rec) (L_scan_parts_2 rec))
   (sR (pE (aC (oV (zE 3)) (aC (oV (vE 1)) (aN))))))
noncomputable def c_scan_parts : Nat → CallT
  | 0 => cStuck
  | k + 1 => runB 6 (b_scan_parts (c_scan_parts k))
abbrev s_is_choice : Stmt := topS 40
abbrev N_is_choice : List Str := ["part"]
theorem sc_is_choice : FnScope N_is_choice ["part"] (defScope s_is_choice) := ⟨rfl, rfl, rfl, by decide +kernel, rfl, by decide +kernel, by decide +kernel⟩
noncomputable def b_is_choice : EvS :=
   sR (o1E (dHasT k_MARKS) (oV (o2E dIx (oV (vE 0)) (oV (kE (.int 0))))))
noncomputable def c_is_choice : CallT := runB 1 b_is_choice
abbrev s_inner_of : Stmt := topS 41
abbrev N_inner_of : List Str := ["part", "name", "inner"]
theorem sc_inner_of : FnScope N_inner_of ["part"] (defScope s_inner_of) := ⟨rfl, rfl, rfl, by decide +kernel, rfl, by decide +kernel, by decide +kernel⟩
noncomputable def E_inner_of_1 : Ev D :=
   vE 2
noncomputable def b_inner_of : EvS :=
   sSeq (sI (tT (oV (cE c_is_choice (aC (oV (vE 0)) (aN))))) (sR (fE (lcF (iE (o2E dIx (oV (vE 0)) (oV (kE (.int 2))))) (gT 2 (gC (gV 1) (gC (gV 2) (gN)))) [1, 2] (tY) (E_inner_of_1)))) (sNil))
   (sR (fE (lF (aN))))
noncomputable def c_inner_of : CallT := runB 3 b_inner_of
abbrev s_size : Stmt := topS 42
abbrev N_size : List Str := ["pattern", "many", "part", "inner"]
theorem sc_size : FnScope N_size ["pattern"] (defScope s_size) := ⟨rfl, rfl, rfl, by decide +kernel, rfl, by decide +kernel, by decide +kernel⟩
noncomputable def E_size_1 (rec : CallT) : Ev D :=
   cE rec (aC (oV (vE 3)) (aN))
noncomputable def L_size_1 (rec : CallT) : EvS :=
   sV 1 (o2E dAdd (oV (o2E dAdd (oV (vE 1)) (oV (kE (.int 1))))) (oV (oAE dSum (aC (oV (fE (lcF (iE (cE c_inner_of (aC (oV (vE 2)) (aN)))) (gV 3) [3] (tY) (E_size_1 rec)))) (aN)))))
noncomputable def b_size (rec : CallT) : EvS :=
   sSeq (sV 1 (kE (.int 0)))
   (sSeq (sF (iE (vE 0)) (gV 2) (L_size_1 rec))
   (sR (vE 1)))
noncomputable def c_size : Nat → CallT
  | 0 => cStuck
  | k + 1 => runB 4 (b_size (c_size k))
abbrev s_read : Stmt := topS 39
abbrev N_read : List Str := ["text", "pattern", "end"]
theorem sc_read : FnScope N_read ["text"] (defScope s_read) := ⟨rfl, rfl, rfl, by decide +kernel, rfl, by decide +kernel, by decide +kernel⟩
noncomputable def b_read : EvS :=
   sSeq (sI (tO (tN (tT (oV (oAE dIsI (aC (oV (vE 0)) (aC (oV (kE (.ty "str"))) (aN))))))) (tV (o2E dGt (oV (oAE dLen (aC (oV (vE 0)) (aN)))) (oV (kE (.int 1000)))))) (sX 1446867055838488785518) (sNil))
   (sSeq (sG (gT 2 (gC (gV 1) (gC (gV 2) (gN)))) (cE (c_scan_parts 6) (aC (oV (vE 0)) (aC (oV (kE (.int 0))) (aC (oV (kE (.int 0))) (aN))))))
   (sSeq (sI (tO (tV (o2E dLt (oV (vE 2)) (oV (oAE dLen (aC (oV (vE 0)) (aN)))))) (tV (o2E dGt (oV (cE (c_size 8) (aC (oV (vE 1)) (aN)))) (oV (kE (.int 40)))))) (sX 1446867055838488785518) (sNil))
   (sR (vE 1))))
noncomputable def c_read : CallT := runB 3 b_read
abbrev s__law_refused : Stmt := topS 60
abbrev N__law_refused : List Str := ["_law_text_here", "e", "_law_others"]
theorem sc__law_refused : FnScope N__law_refused ["_law_text_here"] (defScope s__law_refused) := ⟨rfl, rfl, rfl, by decide +kernel, rfl, by decide +kernel, by decide +kernel⟩
noncomputable def L__law_refused_1 : EvS :=
   sE (cE c_read (aC (oV (vE 0)) (aN)))
noncomputable def X__law_refused_1 : Addr → Nat → EvS :=
   fun a c => sSeq (sV 2 (fE (lF (aC (oV (isE xT a c [(some 22077439389819749)] 1)) (aC (oV (isE xT a c [(some 22077448131470707)] 1)) (aC (oV (isE xT a c [(some 5651822323626567026)] 1)) (aC (oV (isE xT a c [(some 336874201465)] 1)) (aN))))))))
   (sSeq (sV 2 (o2E dAdd (oV (vE 2)) (oV (fE (lF (aC (oV (isE xT a c [(some 5651828894943638885)] 1)) (aC (oV (isE xT a c [(some 22077456503107175)] 1)) (aC (oV (isE xT a c [(some 1446866215807293155173)] 1)) (aN)))))))))
   (sSeq (sV 2 (o2E dAdd (oV (vE 2)) (oV (fE (lF (aC (oV (isE xT a c [(some 22077464975799653)] 1)) (aC (oV (isE xT a c [(some 21499177861738087)] 1)) (aC (oV (isE xT a c [(some 6084203974253437300)] 1)) (aN)))))))))
   (sSeq (sV 2 (o2E dAdd (oV (vE 2)) (oV (fE (lF (aC (oV (isE xT a c [(some 23766421873979001)] 1)) (aC (oV (isE xT a c [(some 77431305626980)] 1)) (aC (oV (isE xT a c [(some 1446869044807779053159)] 1)) (aN)))))))))
   (sR (eA (isE xT a c [(some 1446867055838488785518)] 1) (eA (isE xT a c [none] 1) (o2E dNotIn (oV (kE (.bl true))) (oV (vE 2)))))))))
noncomputable def b__law_refused : EvS :=
   sSeq (sTryA xT 6008216717068758898 1 (L__law_refused_1) (X__law_refused_1))
   (sR (kE (.bl false)))
noncomputable def c__law_refused : CallT := runB 3 b__law_refused
abbrev s__law_is_plain : Stmt := topS 57
abbrev N__law_is_plain : List Str := ["_law_sign"]
theorem sc__law_is_plain : FnScope N__law_is_plain ["_law_sign"] (defScope s__law_is_plain) := ⟨rfl, rfl, rfl, by decide +kernel, rfl, by decide +kernel, by decide +kernel⟩
noncomputable def b__law_is_plain : EvS :=
   sR (eA (o2E dLe (oV (kE (.str [32]))) (oV (vE 0))) (eA (o2E dLe (oV (vE 0)) (oV (kE (.str [126])))) (o2E dNotIn (oV (vE 0)) (oV (kE (.str [123, 125, 91, 93]))))))
noncomputable def c__law_is_plain : CallT := runB 1 b__law_is_plain
abbrev s__law_is_word : Stmt := topS 53
abbrev N__law_is_word : List Str := ["_law_word_here", "_law_sign"]
theorem sc__law_is_word : FnScope N__law_is_word ["_law_word_here"] (defScope s__law_is_word) := ⟨rfl, rfl, rfl, by decide +kernel, rfl, by decide +kernel, by decide +kernel⟩
noncomputable def E__law_is_word_1 : Ev D :=
   vE 1
noncomputable def T__law_is_word_1 : Ev Bool :=
   tV (o2E dNotIn (oV (vE 1)) (oV (kE (.str [97, 98, 99, 100, 101, 102, 103, 104, 105, 106, 107, 108, 109, 110, 111, 112, 113, 114, 115, 116, 117, 118, 119, 120, 121, 122]))))
noncomputable def b__law_is_word : EvS :=
   sSeq (sI (tO (tN (tT (oV (oAE dIsI (aC (oV (vE 0)) (aC (oV (kE (.ty "str"))) (aN))))))) (tO (tV (o2E dEq (oV (vE 0)) (oV (kE (.str [101, 108, 115, 101]))))) (tO (tV (o2E dLt (oV (oAE dLen (aC (oV (vE 0)) (aN)))) (oV (kE (.int 1))))) (tV (o2E dGt (oV (oAE dLen (aC (oV (vE 0)) (aN)))) (oV (kE (.int 8)))))))) (sR (kE (.bl false))) (sNil))
   (sR (o2E dEq (oV (fE (lcF (iE (vE 0)) (gV 1) [1] (T__law_is_word_1) (E__law_is_word_1)))) (oV (fE (lF (aN))))))
noncomputable def c__law_is_word : CallT := runB 2 b__law_is_word
abbrev s__law_is_pairs : Stmt := topS 55
abbrev N__law_is_pairs : List Str := ["_law_pairs", "_law_many_here", "_law_pair"]
theorem sc__law_is_pairs : FnScope N__law_is_pairs ["_law_pairs", "_law_many_here"] (defScope s__law_is_pairs) := ⟨rfl, rfl, rfl, by decide +kernel, rfl, by decide +kernel, by decide +kernel⟩
noncomputable def L__law_is_pairs_1 : EvS :=
   sI (tO (tN (tT (oV (oAE dIsI (aC (oV (vE 2)) (aC (oV (kE (.ty "tuple"))) (aN))))))) (tO (tV (o2E dNe (oV (oAE dLen (aC (oV (vE 2)) (aN)))) (oV (kE (.int 2))))) (tN (tT (oV (oAE dIsI (aC (oV (o2E dIx (oV (vE 2)) (oV (kE (.int 0))))) (aC (oV (kE (.ty "str"))) (aN))))))))) (sR (kE (.bl false))) (sNil)
noncomputable def E__law_is_pairs_1 : Ev D :=
   o2E dIx (oV (vE 2)) (oV (kE (.int 0)))
noncomputable def b__law_is_pairs : EvS :=
   sSeq (sI (tO (tN (tT (oV (oAE dIsI (aC (oV (vE 0)) (aC (oV (kE (.ty "list"))) (aN))))))) (tV (o2E dGt (oV (oAE dLen (aC (oV (vE 0)) (aN)))) (oV (vE 1))))) (sR (kE (.bl false))) (sNil))
   (sSeq (sF (iE (vE 0)) (gV 2) (L__law_is_pairs_1))
   (sR (o2E dEq (oV (o1E dLenSet (oV (fE (lcF (iE (vE 0)) (gV 2) [2] (tY) (E__law_is_pairs_1)))))) (oV (oAE dLen (aC (oV (vE 0)) (aN)))))))
noncomputable def c__law_is_pairs : CallT := runB 3 b__law_is_pairs
abbrev s__law_is_name : Stmt := topS 54
abbrev N__law_is_name : List Str := ["_law_name_here", "_law_how", "_law_figures", "_law_sign"]
theorem sc__law_is_name : FnScope N__law_is_name ["_law_name_here", "_law_how"] (defScope s__law_is_name) := ⟨rfl, rfl, rfl, by decide +kernel, rfl, by decide +kernel, by decide +kernel⟩
noncomputable def E__law_is_name_1 : Ev D :=
   vE 3
noncomputable def T__law_is_name_1 : Ev Bool :=
   tV (o2E dNotIn (oV (vE 3)) (oV (kE (.str [48, 49, 50, 51, 52, 53, 54, 55, 56, 57]))))
noncomputable def b__law_is_name : EvS :=
   sSeq (sI (tN (tT (oV (oAE dIsI (aC (oV (vE 0)) (aC (oV (kE (.ty "str"))) (aN))))))) (sR (kE (.bl false))) (sNil))
   (sSeq (sI (tA (tV (o2E dEq (oV (vE 1)) (oV (kE (.str [109, 97, 110, 121]))))) (tV (o2E dEq (oV (slE dSl (oV (vE 0)) (sN) (sS (kE (.int 1))))) (oV (kE (.str [61])))))) (sSeq (sV 2 (slE dSl (oV (vE 0)) (sS (kE (.int 1))) (sN)))
   (sSeq (sI (tO (tV (o2E dLt (oV (oAE dLen (aC (oV (vE 2)) (aN)))) (oV (kE (.int 1))))) (tO (tV (o2E dGt (oV (oAE dLen (aC (oV (vE 2)) (aN)))) (oV (kE (.int 59))))) (tA (tV (o2E dGt (oV (oAE dLen (aC (oV (vE 2)) (aN)))) (oV (kE (.int 1))))) (tV (o2E dEq (oV (o2E dIx (oV (vE 2)) (oV (kE (.int 0))))) (oV (kE (.str [48])))))))) (sR (kE (.bl false))) (sNil))
   (sR (o2E dEq (oV (fE (lcF (iE (vE 2)) (gV 3) [3] (T__law_is_name_1) (E__law_is_name_1)))) (oV (fE (lF (aN)))))))) (sNil))
   (sR (eO (o2E dEq (oV (vE 0)) (oV (kE (.str [101, 108, 115, 101])))) (cE c__law_is_word (aC (oV (vE 0)) (aN))))))
noncomputable def c__law_is_name : CallT := runB 4 b__law_is_name
abbrev s__law_is_part : Stmt := topS 56
abbrev N__law_is_part : List Str := ["_law_part", "_law_deep", "_law_one", "_law_name_here", "_law_inner"]
theorem sc__law_is_part : FnScope N__law_is_part ["_law_part", "_law_deep"] (defScope s__law_is_part) := ⟨rfl, rfl, rfl, by decide +kernel, rfl, by decide +kernel, by decide +kernel⟩
noncomputable def E__law_is_part_1 (rec : CallT) : Ev D :=
   vE 2
noncomputable def T__law_is_part_1 (rec : CallT) : Ev Bool :=
   tO (tN (tT (oV (cE c__law_is_word (aC (oV (o2E dIx (oV (vE 2)) (oV (kE (.int 0))))) (aN)))))) (tN (tT (oV (cE c__law_is_word (aC (oV (o2E dIx (oV (vE 2)) (oV (kE (.int 1))))) (aN))))))
noncomputable def L__law_is_part_1 (rec : CallT) : EvS :=
   sI (tO (tN (tT (oV (cE c__law_is_name (aC (oV (vE 3)) (aC (oV (o2E dIx (oV (vE 0)) (oV (kE (.int 0))))) (aN))))))) (tN (tT (oV (cE rec (aC (oV (vE 4)) (aC (oV (o2E dAdd (oV (vE 1)) (oV (kE (.int 1))))) (aN)))))))) (sR (kE (.bl false))) (sNil)
noncomputable def b__law_is_part (rec : CallT) : EvS :=
   sSeq (sI (tO (tN (tT (oV (oAE dIsI (aC (oV (vE 0)) (aC (oV (kE (.ty "tuple"))) (aN))))))) (tO (tV (o2E dLt (oV (oAE dLen (aC (oV (vE 0)) (aN)))) (oV (kE (.int 2))))) (tN (tT (oV (oAE dIsI (aC (oV (o2E dIx (oV (vE 0)) (oV (kE (.int 0))))) (aC (oV (kE (.ty "str"))) (aN))))))))) (sR (kE (.bl false))) (sNil))
   (sSeq (sI (tV (o2E dEq (oV (o2E dIx (oV (vE 0)) (oV (kE (.int 0))))) (oV (kE (.str [116, 101, 120, 116]))))) (sR (eA (o2E dEq (oV (oAE dLen (aC (oV (vE 0)) (aN)))) (oV (kE (.int 2)))) (eA (oAE dIsI (aC (oV (o2E dIx (oV (vE 0)) (oV (kE (.int 1))))) (aC (oV (kE (.ty "str"))) (aN)))) (o2E dNe (oV (o2E dIx (oV (vE 0)) (oV (kE (.int 1))))) (oV (kE (.str []))))))) (sNil))
   (sSeq (sI (tV (o2E dEq (oV (o2E dIx (oV (vE 0)) (oV (kE (.int 0))))) (oV (kE (.str [103, 97, 112]))))) (sR (eA (o2E dEq (oV (oAE dLen (aC (oV (vE 0)) (aN)))) (oV (kE (.int 2)))) (cE c__law_is_word (aC (oV (o2E dIx (oV (vE 0)) (oV (kE (.int 1))))) (aN))))) (sNil))
   (sSeq (sI (tO (tV (o2E dNe (oV (oAE dLen (aC (oV (vE 0)) (aN)))) (oV (kE (.int 3))))) (tO (tN (tT (oV (cE c__law_is_word (aC (oV (o2E dIx (oV (vE 0)) (oV (kE (.int 1))))) (aN)))))) (tV (o2E dNotIn (oV (o2E dIx (oV (vE 0)) (oV (kE (.int 0))))) (oV (fE (lF (aC (oV (kE (.str [115, 97, 121]))) (aC (oV (kE (.str [109, 97, 110, 121]))) (aC (oV (kE (.str [107, 105, 110, 100]))) (aC (oV (kE (.str [114, 97, 110, 107]))) (aN)))))))))))) (sR (kE (.bl false))) (sNil))
   (sSeq (sI (tV (o2E dEq (oV (o2E dIx (oV (vE 0)) (oV (kE (.int 0))))) (oV (kE (.str [115, 97, 121]))))) (sSeq (sI (tN (tT (oV (cE c__law_is_pairs (aC (oV (o2E dIx (oV (vE 0)) (oV (kE (.int 2))))) (aC (oV (kE (.int 4))) (aN))))))) (sR (kE (.bl false))) (sNil))
   (sR (o2E dEq (oV (fE (lcF (iE (o2E dIx (oV (vE 0)) (oV (kE (.int 2))))) (gV 2) [2] (T__law_is_part_1 rec) (E__law_is_part_1 rec)))) (oV (fE (lF (aN))))))) (sNil))
   (sSeq (sI (tO (tV (o2E dEq (oV (vE 1)) (oV (kE (.int 4))))) (tO (tN (tT (oV (cE c__law_is_pairs (aC (oV (o2E dIx (oV (vE 0)) (oV (kE (.int 2))))) (aC (oV (kE (.int 8))) (aN))))))) (tV (o2E dEq (oV (o2E dIx (oV (vE 0)) (oV (kE (.int 2))))) (oV (fE (lF (aN)))))))) (sR (kE (.bl false))) (sNil))
   (sSeq (sF (iE (o2E dIx (oV (vE 0)) (oV (kE (.int 2))))) (gT 2 (gC (gV 3) (gC (gV 4) (gN)))) (L__law_is_part_1 rec))
   (sR (kE (.bl true)))))))))
noncomputable def c__law_is_part (rec : CallT) : CallT := runB 5 (b__law_is_part rec)
abbrev s__law_is_pattern : Stmt := topS 58
abbrev N__law_is_pattern : List Str := ["_law_pattern_here", "_law_deep", "_law_text_ahead", "_law_part", "_law_sign"]
theorem sc__law_is_pattern : FnScope N__law_is_pattern ["_law_pattern_here", "_law_deep"] (defScope s__law_is_pattern) := ⟨rfl, rfl, rfl, by decide +kernel, rfl, by decide +kernel, by decide +kernel⟩
noncomputable def E__law_is_pattern_1 (rec : CallT) : Ev D :=
   vE 4
noncomputable def T__law_is_pattern_1 (rec : CallT) : Ev Bool :=
   tN (tT (oV (cE c__law_is_plain (aC (oV (vE 4)) (aN)))))
noncomputable def L__law_is_pattern_1 (rec : CallT) : EvS :=
   sSeq (sI (tN (tT (oV (cE (c__law_is_part rec) (aC (oV (vE 3)) (aC (oV (vE 1)) (aN))))))) (sR (kE (.bl false))) (sNil))
   (sSeq (sI (tA (tV (o2E dEq (oV (o2E dIx (oV (vE 3)) (oV (kE (.int 0))))) (oV (kE (.str [116, 101, 120, 116]))))) (tT (oV (vE 2)))) (sR (kE (.bl false))) (sNil))
   (sSeq (sV 2 (o2E dEq (oV (o2E dIx (oV (vE 3)) (oV (kE (.int 0))))) (oV (kE (.str [116, 101, 120, 116])))))
   (sI (tA (tT (oV (vE 2))) (tV (o2E dNe (oV (fE (lcF (iE (o2E dIx (oV (vE 3)) (oV (kE (.int 1))))) (gV 4) [4] (T__law_is_pattern_1 rec) (E__law_is_pattern_1 rec)))) (oV (fE (lF (aN))))))) (sR (kE (.bl false))) (sNil))))
noncomputable def b__law_is_pattern (rec : CallT) : EvS :=
   sSeq (sI (tN (tT (oV (oAE dIsI (aC (oV (vE 0)) (aC (oV (kE (.ty "list"))) (aN))))))) (sR (kE (.bl false))) (sNil))
   (sSeq (sV 2 (kE (.bl false)))
   (sSeq (sF (iE (vE 0)) (gV 3) (L__law_is_pattern_1 rec))
   (sR (kE (.bl true)))))
noncomputable def c__law_is_pattern : Nat → CallT
  | 0 => cStuck
  | k + 1 => runB 5 (b__law_is_pattern (c__law_is_pattern k))
abbrev s__law_many : Stmt := topS 59
abbrev N__law_many : List Str := ["_law_pattern_here", "_law_found", "_law_part", "_law_name_here", "_law_inner"]
theorem sc__law_many : FnScope N__law_many ["_law_pattern_here"] (defScope s__law_many) := ⟨rfl, rfl, rfl, by decide +kernel, rfl, by decide +kernel, by decide +kernel⟩
noncomputable def E__law_many_1 (rec : CallT) : Ev D :=
   cE rec (aC (oV (vE 4)) (aN))
noncomputable def L__law_many_1 (rec : CallT) : EvS :=
   sI (tV (o2E dIn (oV (o2E dIx (oV (vE 2)) (oV (kE (.int 0))))) (oV (fE (lF (aC (oV (kE (.str [109, 97, 110, 121]))) (aC (oV (kE (.str [107, 105, 110, 100]))) (aC (oV (kE (.str [114, 97, 110, 107]))) (aN))))))))) (sV 1 (o2E dAdd (oV (vE 1)) (oV (oAE dSum (aC (oV (fE (lcF (iE (o2E dIx (oV (vE 2)) (oV (kE (.int 2))))) (gT 2 (gC (gV 3) (gC (gV 4) (gN)))) [3, 4] (tY) (E__law_many_1 rec)))) (aN)))))) (sNil)
noncomputable def b__law_many (rec : CallT) : EvS :=
   sSeq (sV 1 (oAE dLen (aC (oV (vE 0)) (aN))))
   (sSeq (sF (iE (vE 0)) (gV 2) (L__law_many_1 rec))
   (sR (vE 1)))
noncomputable def c__law_many : Nat → CallT
  | 0 => cStuck
  | k + 1 => runB 5 (b__law_many (c__law_many k))
abbrev s_law : Stmt := topS 61
abbrev N_law : List Str := ["_law_script", "_law_text_here", "_law_cell", "_law_found"]
theorem sc_law : FnScope N_law ["_law_script"] (defScope s_law) := ⟨rfl, rfl, rfl, by decide +kernel, rfl, by decide +kernel, by decide +kernel⟩
noncomputable def L_law_1 : EvS :=
   sV 1 (cE c__law_spoilt (aC (oV (vE 1)) (aC (oV (vE 2)) (aN))))
noncomputable def L_law_2 : EvS :=
   sV 3 (cE c_read (aC (oV (vE 1)) (aN)))
noncomputable def X_law_1 : Nat → EvS :=
   fun c => sV 3 (kE .non)
noncomputable def b_law : EvS :=
   sSeq (sV 1 (cE (c__law_text 8) (aC (oV (cE c__law_pattern (aC (oV (slE dSl (oV (vE 0)) (sS (kE (.int 2))) (sN))) (aN)))) (aN))))
   (sSeq (sF (iE (slE dSl (oV (vE 0)) (sN) (sS (kE (.int 2))))) (gV 2) (L_law_1))
   (sSeq (sV 3 (kE .non))
   (sSeq (sTry xT 1446867055838488785518 (L_law_2) (X_law_1))
   (sSeq (sI (tV (o2E dIs (oV (vE 3)) (oV (kE .non)))) (sR (cE c__law_refused (aC (oV (vE 1)) (aN)))) (sNil))
   (sSeq (sI (tO (tN (tT (oV (cE (c__law_is_pattern 20) (aC (oV (vE 3)) (aC (oV (kE (.int 0))) (aN))))))) (tO (tV (o2E dGt (oV (cE (c__law_many 8) (aC (oV (vE 3)) (aN)))) (oV (kE (.int 40))))) (tV (o2E dGt (oV (oAE dLen (aC (oV (vE 1)) (aN)))) (oV (kE (.int 1000))))))) (sR (kE (.bl false))) (sNil))
   (sR (o2E dEq (oV (cE (c__law_text 8) (aC (oV (vE 3)) (aN)))) (oV (vE 1)))))))))
noncomputable def c_law : CallT := runB 4 b_law
section
variable {P : Program} {w : World} {K : PySem.W.Frag} {mg : Str → Option Value} {base : Heap}
theorem ok__law_plain (hB : Bl mg) (hT : XT K mg xT) {f : Addr} {fd : FuncData} (F : Fun K "_law_plain" "_law_plain" s__law_plain f fd) (hm : mg "_law_plain" = some (.ref f)) : Def P w K mg base 2 "_law_plain" 2 c__law_plain :=
  def_ok (N := N__law_plain) (ps := ["_law_number", "_law_many_here"]) F sc__law_plain (F.binds (ps := ["_law_number", "_law_many_here"]) fun _ _ _ _ _ _ us hl => match us, hl with | [_, _], _ => rfl) hm fun B cdv A outer s H E W hr tk pw => by
    have hu := hr.units
    have hu5 : (A.deeper (envOfC "_law_plain" (defScope s__law_plain) s.heap.objs.size f cdv)).units + 65 < cLine := by have := hr.un; omega
    exact (dss_c (ds_v (i := 2) sc__law_plain.nd (de_str [32, 33, 34, 35, 36, 38, 39, 40, 41, 42, 43, 44, 45, 46, 47, 48, 49, 50, 51, 52, 53, 54, 55, 56, 57, 58, 59, 60, 61, 62, 63, 64, 65, 66, 67, 68, 69, 70, 71, 72, 73, 74, 75, 76, 77, 78, 79, 80, 81, 82, 83, 84, 85, 86, 87, 88, 89, 90, 92, 94, 95, 96, 97, 98, 99, 100, 101, 102, 103, 104, 105, 106, 107, 108, 109, 110, 111, 112, 113, 114, 115, 116, 117, 118, 119, 120, 121, 122, 124, 126]))
   (dss_c (ds_v (i := 3) sc__law_plain.nd (de_str []))
   (dss_c (ds_f pw rfl (di_r1 hB.range (da_c (do_v (de_v (pv 1))) da_n)) (dg_v (i := 4) sc__law_plain.nd) (dss_c (ds_v (i := 0) sc__law_plain.nd (de_bin op_mod op_dMod (do_v (de_bin opR_add op_dAdd (do_v (de_bin opR_mul op_dMul (do_v (de_v (pv 0))) (do_v de_int))) (do_v (de_v (pv 4))))) (do_v de_int)))
   (dss_1 (ds_i (dt_cmp (op_eqD hu) op_dEq (do_v (de_bin op_mod op_dMod (do_v (de_v (pv 0))) (do_v de_int))) (do_v de_int) (nomark _)) (dss_1 (ds_v (i := 3) sc__law_plain.nd (de_bin opR_add op_dAdd (do_v (de_v (pv 3))) (do_v (de_str [32]))))) (dss_1 (ds_v (i := 3) sc__law_plain.nd (de_bin opR_add op_dAdd (do_v (de_v (pv 3))) (do_v (de_ix ix_seq op_dIx (do_v (de_v (pv 2))) (do_v (de_bin op_mod op_dMod (do_v (de_bin op_fdivW op_dFdiv (do_v (de_v (pv 0))) (do_v de_int))) (do_v de_int))))))))))))
   (dss_1 (ds_r (de_v (pv 3)))))))
theorem ok__law_word (hB : Bl mg) (hT : XT K mg xT) {f : Addr} {fd : FuncData} (F : Fun K "_law_word" "_law_word" s__law_word f fd) (hm : mg "_law_word" = some (.ref f)) : Def P w K mg base 2 "_law_word" 1 c__law_word :=
  def_ok (N := N__law_word) (ps := ["_law_number"]) F sc__law_word (F.binds (ps := ["_law_number"]) fun _ _ _ _ _ _ us hl => match us, hl with | [_], _ => rfl) hm fun B cdv A outer s H E W hr tk pw => by
    have hu := hr.units
    have hu5 : (A.deeper (envOfC "_law_word" (defScope s__law_word) s.heap.objs.size f cdv)).units + 65 < cLine := by have := hr.un; omega
    exact (dss_c (ds_v (i := 1) sc__law_word.nd (de_str [97, 98, 99, 100, 101, 102, 103, 104, 105, 106, 107, 108, 109, 110, 111, 112, 113, 114, 115, 116, 117, 118, 119, 120, 121, 122]))
   (dss_c (ds_v (i := 2) sc__law_word.nd (de_bin op_fdivW op_dFdiv (do_v (de_v (pv 0))) (do_v de_int)))
   (dss_c (ds_v (i := 3) sc__law_word.nd (de_str []))
   (dss_c (ds_f pw rfl (di_r1 hB.range (da_c (do_v (de_bin opR_add op_dAdd (do_v de_int) (do_v (de_bin op_mod op_dMod (do_v (de_v (pv 0))) (do_v de_int))))) da_n)) (dg_v (i := 4) sc__law_word.nd) (dss_c (ds_v (i := 3) sc__law_word.nd (de_bin opR_add op_dAdd (do_v (de_v (pv 3))) (do_v (de_ix ix_seq op_dIx (do_v (de_v (pv 1))) (do_v (de_bin op_mod op_dMod (do_v (de_v (pv 2))) (do_v de_int)))))))
   (dss_1 (ds_v (i := 2) sc__law_word.nd (de_bin op_fdivW op_dFdiv (do_v (de_v (pv 2))) (do_v de_int))))))
   (dss_c (ds_i (dt_cmp (op_eqD hu) op_dEq (do_v (de_v (pv 3))) (do_v (de_str [101, 108, 115, 101])) (nomark _)) (dss_1 (ds_r (de_str [101, 108, 115, 101, 110]))) dss_n)
   (dss_1 (ds_r (de_v (pv 3)))))))))
theorem ok__law_name (hB : Bl mg) (hT : XT K mg xT) {f : Addr} {fd : FuncData} (F : Fun K "_law_name" "_law_name" s__law_name f fd) (hm : mg "_law_name" = some (.ref f)) (d__law_word : Def P w K mg base 2 "_law_word" 1 c__law_word) : Def P w K mg base 3 "_law_name" 2 c__law_name :=
  def_ok (N := N__law_name) (ps := ["_law_number", "_law_how"]) F sc__law_name (F.binds (ps := ["_law_number", "_law_how"]) fun _ _ _ _ _ _ us hl => match us, hl with | [_, _], _ => rfl) hm fun B cdv A outer s H E W hr tk pw => by
    have hu := hr.units
    have hu5 : (A.deeper (envOfC "_law_name" (defScope s__law_name) s.heap.objs.size f cdv)).units + 65 < cLine := by have := hr.un; omega
    have d__law_word := d__law_word.mono (j := 2) (by omega)
    exact (dss_c (ds_i (dt_cmp (op_eqD hu) op_dEq (do_v (de_bin op_mod op_dMod (do_v (de_v (pv 0))) (do_v de_int))) (do_v de_int) (nomark _)) (dss_1 (ds_r (de_str [101, 108, 115, 101]))) dss_n)
   (dss_c (ds_i (dt_w (dw_a (dt_cmp (op_eqD hu) op_dEq (do_v (de_bin op_mod op_dMod (do_v (de_v (pv 0))) (do_v de_int))) (do_v de_int) (nomark _)) (dw_1a (dt_cmp (op_eqD hu) op_dEq (do_v (de_v (pv 1))) (do_v (de_str [109, 97, 110, 121])) (nomark _))))) (dss_c (ds_i (dt_cmp (op_eqD hu) op_dEq (do_v (de_bin op_mod op_dMod (do_v (de_bin op_fdivW op_dFdiv (do_v (de_v (pv 0))) (do_v de_int))) (do_v de_int))) (do_v de_int) (nomark _)) (dss_1 (ds_r (de_bin opR_add op_dAdd (do_v (de_str [61])) (do_v (de_ct call_str_int op_dStr hB.str (da_c (do_v (de_bin op_mod op_dMod (do_v (de_bin op_fdivW op_dFdiv (do_v (de_v (pv 0))) (do_v de_int))) (do_v (de_bin op_powW op_dPow (do_v de_int) (do_v de_int))))) da_n)))))) dss_n)
   (dss_1 (ds_r (de_bin opR_add op_dAdd (do_v (de_str [61])) (do_v (de_ct call_str_int op_dStr hB.str (da_c (do_v (de_bin op_mod op_dMod (do_v (de_bin op_fdivW op_dFdiv (do_v (de_v (pv 0))) (do_v de_int))) (do_v de_int))) da_n))))))) dss_n)
   (dss_1 (ds_r (de_c d__law_word hr tk (da_c (do_v (de_bin op_fdivW op_dFdiv (do_v (de_v (pv 0))) (do_v de_int))) da_n))))))
theorem ok__law_gap (hB : Bl mg) (hT : XT K mg xT) {f : Addr} {fd : FuncData} (F : Fun K "_law_gap" "_law_gap" s__law_gap f fd) (hm : mg "_law_gap" = some (.ref f)) (d__law_word : Def P w K mg base 2 "_law_word" 1 c__law_word) : Def P w K mg base 3 "_law_gap" 1 c__law_gap :=
  def_ok (N := N__law_gap) (ps := ["_law_number"]) F sc__law_gap (F.binds (ps := ["_law_number"]) fun _ _ _ _ _ _ us hl => match us, hl with | [_], _ => rfl) hm fun B cdv A outer s H E W hr tk pw => by
    have hu := hr.units
    have hu5 : (A.deeper (envOfC "_law_gap" (defScope s__law_gap) s.heap.objs.size f cdv)).units + 65 < cLine := by have := hr.un; omega
    have d__law_word := d__law_word.mono (j := 2) (by omega)
    exact (dss_c (ds_i (dt_cmp opR_gt op_dCmp (do_v (de_bin op_mod op_dMod (do_v (de_v (pv 0))) (do_v de_int))) (do_v de_int) (nomark _)) (dss_1 (ds_r (de_ix ix_seq op_dIx (do_v (de_f (df_l (da_c (do_v (de_str [110])) (da_c (do_v (de_str [109])) (da_c (do_v (de_str [119, 104, 111])) da_n)))))) (do_v (de_bin op_mod op_dMod (do_v (de_bin op_fdivW op_dFdiv (do_v (de_v (pv 0))) (do_v de_int))) (do_v de_int)))))) dss_n)
   (dss_1 (ds_r (de_c d__law_word hr tk (da_c (do_v (de_bin op_fdivW op_dFdiv (do_v (de_v (pv 0))) (do_v de_int))) da_n)))))
theorem ok__law_shut (hB : Bl mg) (hT : XT K mg xT) {f : Addr} {fd : FuncData} (F : Fun K "_law_shut" "_law_shut" s__law_shut f fd) (hm : mg "_law_shut" = some (.ref f)) : Def P w K mg base 2 "_law_shut" 2 c__law_shut :=
  def_ok (N := N__law_shut) (ps := ["_law_frames", "_law_here"]) F sc__law_shut (F.binds (ps := ["_law_frames", "_law_here"]) fun _ _ _ _ _ _ us hl => match us, hl with | [_, _], _ => rfl) hm fun B cdv A outer s H E W hr tk pw => by
    have hu := hr.units
    have hu5 : (A.deeper (envOfC "_law_shut" (defScope s__law_shut) s.heap.objs.size f cdv)).units + 65 < cLine := by have := hr.un; omega
    exact (dss_c (ds_g (de_popL (do_h (de_v (pv 0)))) (dg_t rfl (dgs_c (dg_v (i := 2) sc__law_shut.nd) (dgs_c (dg_v (i := 3) sc__law_shut.nd) (dgs_c (dg_v (i := 4) sc__law_shut.nd) (dgs_c (dg_v (i := 5) sc__law_shut.nd) (dgs_c (dg_v (i := 6) sc__law_shut.nd) dgs_n)))))))
   (dss_1 (ds_r (de_bin opR_add op_dAdd (do_v (de_v (pv 6))) (do_v (de_f (df_l (da_c (do_v (de_p (da_c (do_v (de_v (pv 2))) (da_c (do_v (de_v (pv 3))) (da_c (do_v (de_bin opR_add op_dAdd (do_v (de_v (pv 4))) (do_v (de_f (df_l (da_c (do_v (de_p (da_c (do_v (de_v (pv 5))) (da_c (do_v (de_v (pv 1))) da_n)))) da_n)))))) da_n))))) da_n))))))))
theorem ok__law_binds (hB : Bl mg) (hT : XT K mg xT) {f : Addr} {fd : FuncData} (F : Fun K "_law_binds" "_law_binds" s__law_binds f fd) (hm : mg "_law_binds" = some (.ref f)) (d__law_gap : Def P w K mg base 3 "_law_gap" 1 c__law_gap) : Def P w K mg base 4 "_law_binds" 1 c__law_binds :=
  Def.solo <| def_ok (N := N__law_binds) (ps := ["_law_number"]) F sc__law_binds (F.binds (ps := ["_law_number"]) fun _ _ _ _ _ _ us hl => match us, hl with | [_], _ => rfl) hm fun B cdv A outer s H E W hr tk pw => by
    have hu := hr.units
    have hu5 : (A.deeper (envOfC "_law_binds" (defScope s__law_binds) s.heap.objs.size f cdv)).units + 65 < cLine := by have := hr.un; omega
    have d__law_gap := d__law_gap.mono (j := 3) (by omega)
    exact (dss_c (ds_o (i := 1) sc__law_binds.nd (df_l da_n))
   (dss_c (ds_f pw rfl (di_r1 hB.range (da_c (do_v (de_bin op_mod op_dMod (do_v (de_v (pv 0))) (do_v de_int))) da_n)) (dg_v (i := 2) sc__law_binds.nd) (dss_c (ds_v (i := 3) sc__law_binds.nd (de_c d__law_gap hr tk (da_c (do_v (de_bin opR_add op_dAdd (do_v (de_bin op_fdivW op_dFdiv (do_v (de_v (pv 0))) (do_v de_int))) (do_v (de_bin opR_mul op_dMul (do_v de_int) (do_v (de_v (pv 2))))))) da_n)))
   (dss_1 (ds_i (dt_cmp (opR_notIn hu5) op_dNotIn (do_v (de_v (pv 3))) (do_v (de_f (df_bor (i := 1) (df_lc [("_law_one", 4), ("_law_other", 5)] rfl sc__law_binds.nd (blkOk_by (N := N__law_binds) (sc := defScope s__law_binds) (by decide +kernel)) (di_e (de_v (pv 1))) (tgB_t (tgsB_c (tgB_v (by decide)) (tgsB_c (tgB_v (by decide)) tgsB_n))) (fun _ _ _ _ _ => (pg_tup rfl (pgs_cons (pg_name (i := 4) sc__law_binds.nd rfl (Or.inl rfl) (by first | exact .inl rfl | exact .inr rfl)) (pgs_cons (pg_name (i := 5) sc__law_binds.nd rfl (Or.inl rfl) (by first | exact .inl rfl | exact .inr rfl)) pgs_nil)))) (fun _ _ _ _ _ _ => dts_n) (fun _ _ _ _ _ _ => (de_v (pv 4))))))) (by with_unfolding_all rfl)) (dss_1 (ds_ap (pv 1) (do_v (de_p (da_c (do_v (de_v (pv 3))) (da_c (do_v (de_c d__law_gap hr tk (da_c (do_v (de_bin opR_add op_dAdd (do_v (de_bin op_fdivW op_dFdiv (do_v (de_v (pv 0))) (do_v de_int))) (do_v (de_bin opR_mul op_dMul (do_v (de_v (pv 2))) (do_v (de_v (pv 2))))))) da_n))) da_n)))))) dss_n))))
   (dss_1 (ds_r (de_z (pv 1))))))
theorem ok__law_pattern (hB : Bl mg) (hT : XT K mg xT) {f : Addr} {fd : FuncData} (F : Fun K "_law_pattern" "_law_pattern" s__law_pattern f fd) (hm : mg "_law_pattern" = some (.ref f)) (d__law_plain : Def P w K mg base 2 "_law_plain" 2 c__law_plain) (d__law_name : Def P w K mg base 3 "_law_name" 2 c__law_name) (d__law_gap : Def P w K mg base 3 "_law_gap" 1 c__law_gap) (d__law_shut : Def P w K mg base 2 "_law_shut" 2 c__law_shut) (d__law_binds : Def P w K mg base 4 "_law_binds" 1 c__law_binds) (d__law_word : Def P w K mg base 2 "_law_word" 1 c__law_word) : Def P w K mg base 5 "_law_pattern" 1 c__law_pattern :=
  Def.solo <| def_ok (N := N__law_pattern) (ps := ["_law_cells"]) F sc__law_pattern (F.binds (ps := ["_law_cells"]) fun _ _ _ _ _ _ us hl => match us, hl with | [_], _ => rfl) hm fun B cdv A outer s H E W hr tk pw => by
    have hu := hr.units
    have hu5 : (A.deeper (envOfC "_law_pattern" (defScope s__law_pattern) s.heap.objs.size f cdv)).units + 65 < cLine := by have := hr.un; omega
    have d__law_plain := d__law_plain.mono (j := 4) (by omega)
    have d__law_name := d__law_name.mono (j := 4) (by omega)
    have d__law_gap := d__law_gap.mono (j := 4) (by omega)
    have d__law_shut := d__law_shut.mono (j := 4) (by omega)
    have d__law_binds := d__law_binds.mono (j := 4) (by omega)
    have d__law_word := d__law_word.mono (j := 4) (by omega)
    exact (dss_c (ds_v (i := 1) sc__law_pattern.nd (de_al (df_l da_n)))
   (dss_c (ds_v (i := 2) sc__law_pattern.nd (de_f (df_l da_n)))
   (dss_c (ds_v (i := 3) sc__law_pattern.nd de_int)
   (dss_c (ds_f pw rfl (di_en hB.enumerate (da_c (do_v (de_sl sl_all op_dSl (do_v (de_v (pv 0))) dp_n (dp_s de_int))) da_n)) (dg_t rfl (dgs_c (dg_v (i := 4) sc__law_pattern.nd) (dgs_c (dg_v (i := 5) sc__law_pattern.nd) dgs_n))) (dss_c (ds_v (i := 6) sc__law_pattern.nd (de_bin op_mod op_dMod (do_v (de_bin opR_add op_dAdd (do_v (de_bin opR_mul op_dMul (do_v (de_v (pv 5))) (do_v de_int))) (do_v (de_bin opR_mul op_dMul (do_v (de_v (pv 4))) (do_v (de_v (pv 4))))))) (do_v (de_bin op_powW op_dPow (do_v de_int) (do_v de_int)))))
   (dss_c (ds_v (i := 7) sc__law_pattern.nd (de_bin op_mod op_dMod (do_v (de_v (pv 6))) (do_v de_int)))
   (dss_c (ds_v (i := 8) sc__law_pattern.nd (de_bin op_fdivW op_dFdiv (do_v (de_v (pv 6))) (do_v de_int)))
   (dss_c (ds_i (dt_cmp opR_gt op_dCmp (do_v (de_v (pv 3))) (do_v de_int) (nomark _)) (dss_1 ds_bk) dss_n)
   (dss_1 (ds_i (dt_w (dw_a (dt_cmp opR_lt op_dCmp (do_v (de_v (pv 7))) (do_v de_int) (nomark _)) (dw_1a (dt_w (dw_o (dt_cmp (op_eqD hu) op_dEq (do_v (de_v (pv 2))) (do_v (de_f (df_l da_n))) (nomark _)) (dw_1o (dt_cmp (op_neD hu) op_dNe (do_v (de_ix ix_seq op_dIx (do_v (de_ix ix_seq op_dIx (do_v (de_v (pv 2))) (do_v (de_un un_neg op_dNeg (do_v de_int))))) (do_v de_int))) (do_v (de_str [116, 101, 120, 116])) (nomark _)))))))) (dss_c (ds_v (i := 2) sc__law_pattern.nd (de_bin opR_add op_dAdd (do_v (de_v (pv 2))) (do_v (de_f (df_l (da_c (do_v (de_p (da_c (do_v (de_str [116, 101, 120, 116])) (da_c (do_v (de_c d__law_plain hr tk (da_c (do_v (de_bin op_fdivW op_dFdiv (do_v (de_v (pv 8))) (do_v de_int))) (da_c (do_v (de_bin opR_add op_dAdd (do_v de_int) (do_v (de_bin op_mod op_dMod (do_v (de_v (pv 8))) (do_v de_int))))) da_n)))) da_n)))) da_n))))))
   (dss_1 (ds_v (i := 3) sc__law_pattern.nd (de_bin opR_add op_dAdd (do_v (de_v (pv 3))) (do_v de_int))))) (dss_1 (ds_i (dt_w (dw_a (dt_cmp (op_eqD hu) op_dEq (do_v (de_v (pv 7))) (do_v de_int) (nomark _)) (dw_1a (dt_cmp opR_lt op_dCmp (do_v (de_cb call_len op_dLen hB.len (da_c (do_h (de_v (pv 1))) da_n))) (do_v de_int) (nomark _))))) (dss_c (ds_v (i := 9) sc__law_pattern.nd (de_ix ix_seq op_dIx (do_v (de_f (df_l (da_c (do_v (de_str [109, 97, 110, 121])) (da_c (do_v (de_str [107, 105, 110, 100])) (da_c (do_v (de_str [114, 97, 110, 107])) da_n)))))) (do_v (de_bin op_mod op_dMod (do_v (de_v (pv 8))) (do_v de_int)))))
   (dss_c (ds_apL (do_h (de_v (pv 1))) (do_v (de_p (da_c (do_v (de_v (pv 9))) (da_c (do_v (de_c d__law_gap hr tk (da_c (do_v (de_bin op_fdivW op_dFdiv (do_v (de_v (pv 8))) (do_v de_int))) da_n))) (da_c (do_v (de_f (df_l da_n))) (da_c (do_v (de_c d__law_name hr tk (da_c (do_v (de_bin op_fdivW op_dFdiv (do_v (de_v (pv 8))) (do_v de_int))) (da_c (do_v (de_v (pv 9))) da_n)))) (da_c (do_v (de_v (pv 2))) da_n))))))))
   (dss_c (ds_v (i := 2) sc__law_pattern.nd (de_f (df_l da_n)))
   (dss_1 (ds_v (i := 3) sc__law_pattern.nd (de_bin opR_add op_dAdd (do_v (de_v (pv 3))) (do_v de_int))))))) (dss_1 (ds_i (dt_w (dw_a (dt_cmp (op_eqD hu) op_dEq (do_v (de_v (pv 7))) (do_v de_int) (nomark _)) (dw_1a (dt_cmp (op_neD hu) op_dNe (do_h (de_v (pv 1))) (do_v (de_f (df_l da_n))) (nomark _))))) (dss_c (ds_g (de_ix ix_seq op_dIx (do_h (de_v (pv 1))) (do_v (de_un un_neg op_dNeg (do_v de_int)))) (dg_t rfl (dgs_c (dg_v (i := 9) sc__law_pattern.nd) (dgs_c (dg_v (i := 10) sc__law_pattern.nd) (dgs_c (dg_v (i := 11) sc__law_pattern.nd) (dgs_c (dg_v (i := 12) sc__law_pattern.nd) (dgs_c (dg_v (i := 13) sc__law_pattern.nd) dgs_n)))))))
   (dss_c (ds_v (i := 14) sc__law_pattern.nd (de_c d__law_name hr tk (da_c (do_v (de_v (pv 8))) (da_c (do_v (de_v (pv 9))) da_n))))
   (dss_1 (ds_i (dt_w (dw_a (dt_cmp opR_lt op_dCmp (do_v (de_cb call_len op_dLen hB.len (da_c (do_v (de_v (pv 11))) da_n))) (do_v de_int) (nomark _)) (dw_1a (dt_cmp (opR_notIn hu5) op_dNotIn (do_v (de_v (pv 14))) (do_v (de_bin opR_add op_dAdd (do_v (de_f (df_lc [("_law_one", 15), ("_law_inner", 16)] rfl sc__law_pattern.nd (blkOk_by (N := N__law_pattern) (sc := defScope s__law_pattern) (by decide +kernel)) (di_e (de_v (pv 11))) (tgB_t (tgsB_c (tgB_v (by decide)) (tgsB_c (tgB_v (by decide)) tgsB_n))) (fun _ _ _ _ _ => (pg_tup rfl (pgs_cons (pg_name (i := 15) sc__law_pattern.nd rfl (Or.inl rfl) (by first | exact .inl rfl | exact .inr rfl)) (pgs_cons (pg_name (i := 16) sc__law_pattern.nd rfl (Or.inl rfl) (by first | exact .inl rfl | exact .inr rfl)) pgs_nil)))) (fun _ _ _ _ _ _ => dts_n) (fun _ _ _ _ _ _ => (de_v (pv 15)))))) (do_v (de_f (df_l (da_c (do_v (de_v (pv 12))) da_n)))))) (by with_unfolding_all rfl))))) (dss_c (ds_setL (do_h (de_v (pv 1))) (de_un un_neg op_dNeg (do_v de_int)) (de_p (da_c (do_v (de_v (pv 9))) (da_c (do_v (de_v (pv 10))) (da_c (do_v (de_bin opR_add op_dAdd (do_v (de_v (pv 11))) (do_v (de_f (df_l (da_c (do_v (de_p (da_c (do_v (de_v (pv 12))) (da_c (do_v (de_v (pv 2))) da_n)))) da_n)))))) (da_c (do_v (de_v (pv 14))) (da_c (do_v (de_v (pv 13))) da_n)))))))
   (dss_c (ds_v (i := 2) sc__law_pattern.nd (de_f (df_l da_n)))
   (dss_1 (ds_v (i := 3) sc__law_pattern.nd (de_bin opR_add op_dAdd (do_v (de_v (pv 3))) (do_v de_int)))))) dss_n)))) (dss_1 (ds_i (dt_w (dw_a (dt_cmp (op_eqD hu) op_dEq (do_v (de_v (pv 7))) (do_v de_int) (nomark _)) (dw_1a (dt_cmp (op_neD hu) op_dNe (do_h (de_v (pv 1))) (do_v (de_f (df_l da_n))) (nomark _))))) (dss_1 (ds_v (i := 2) sc__law_pattern.nd (de_c d__law_shut hr tk (da_c (do_v (de_v (pv 1))) (da_c (do_v (de_v (pv 2))) da_n))))) (dss_1 (ds_i (dt_cmp (op_eqD hu) op_dEq (do_v (de_v (pv 7))) (do_v de_int) (nomark _)) (dss_c (ds_v (i := 2) sc__law_pattern.nd (de_bin opR_add op_dAdd (do_v (de_v (pv 2))) (do_v (de_f (df_l (da_c (do_v (de_p (da_c (do_v (de_str [115, 97, 121])) (da_c (do_v (de_c d__law_word hr tk (da_c (do_v (de_bin op_fdivW op_dFdiv (do_v (de_v (pv 8))) (do_v de_int))) da_n))) (da_c (do_v (de_c d__law_binds hr tk (da_c (do_v (de_v (pv 8))) da_n))) da_n))))) da_n))))))
   (dss_1 (ds_v (i := 3) sc__law_pattern.nd (de_bin opR_add op_dAdd (do_v (de_v (pv 3))) (do_v de_int))))) (dss_c (ds_v (i := 2) sc__law_pattern.nd (de_bin opR_add op_dAdd (do_v (de_v (pv 2))) (do_v (de_f (df_l (da_c (do_v (de_p (da_c (do_v (de_str [103, 97, 112])) (da_c (do_v (de_c d__law_gap hr tk (da_c (do_v (de_v (pv 8))) da_n))) da_n)))) da_n))))))
   (dss_1 (ds_v (i := 3) sc__law_pattern.nd (de_bin opR_add op_dAdd (do_v (de_v (pv 3))) (do_v de_int))))))))))))))))))))
   (dss_c (ds_w pw (dt_cmp (op_neD hu) op_dNe (do_h (de_v (pv 1))) (do_v (de_f (df_l da_n))) (nomark _)) (dss_1 (ds_v (i := 2) sc__law_pattern.nd (de_c d__law_shut hr tk (da_c (do_v (de_v (pv 1))) (da_c (do_v (de_v (pv 2))) da_n))))))
   (dss_1 (ds_r (de_v (pv 2)))))))))
theorem ok__law_text (hB : Bl mg) (hT : XT K mg xT) {f : Addr} {fd : FuncData} (F : Fun K "_law_text" "_law_text" s__law_text f fd) (hm : mg "_law_text" = some (.ref f)) : ∀ k, Def P w K mg base (2 + k) "_law_text" 1 (c__law_text k)
  | 0 => def_stuck (ps := ["_law_pattern_here"]) F sc__law_text (F.binds (ps := ["_law_pattern_here"]) fun _ _ _ _ _ _ us hl => match us, hl with | [_], _ => rfl) hm
  | k + 1 => def_ok (N := N__law_text) (ps := ["_law_pattern_here"]) (k := 2 + k) F sc__law_text (F.binds (ps := ["_law_pattern_here"]) fun _ _ _ _ _ _ us hl => match us, hl with | [_], _ => rfl) hm fun B cdv A outer s H E W hr tk pw => by
    have hrec := ok__law_text hB hT F hm k
    have hu := hr.units
    have hu5 : (A.deeper (envOfC "_law_text" (defScope s__law_text) s.heap.objs.size f cdv)).units + 65 < cLine := by have := hr.un; omega
    exact (dss_c (ds_v (i := 1) sc__law_text.nd (de_str []))
   (dss_c (ds_f pw rfl (di_e (de_v (pv 0))) (dg_v (i := 2) sc__law_text.nd) (dss_1 (ds_i (dt_cmp (op_eqD hu) op_dEq (do_v (de_ix ix_seq op_dIx (do_v (de_v (pv 2))) (do_v de_int))) (do_v (de_str [116, 101, 120, 116])) (nomark _)) (dss_1 (ds_v (i := 1) sc__law_text.nd (de_bin opR_add op_dAdd (do_v (de_v (pv 1))) (do_v (de_ix ix_seq op_dIx (do_v (de_v (pv 2))) (do_v de_int)))))) (dss_1 (ds_i (dt_cmp (op_eqD hu) op_dEq (do_v (de_ix ix_seq op_dIx (do_v (de_v (pv 2))) (do_v de_int))) (do_v (de_str [103, 97, 112])) (nomark _)) (dss_1 (ds_v (i := 1) sc__law_text.nd (de_bin opR_add op_dAdd (do_v (de_bin opR_add op_dAdd (do_v (de_bin opR_add op_dAdd (do_v (de_v (pv 1))) (do_v (de_str [123])))) (do_v (de_ix ix_seq op_dIx (do_v (de_v (pv 2))) (do_v de_int))))) (do_v (de_str [125]))))) (dss_1 (ds_i (dt_cmp (op_eqD hu) op_dEq (do_v (de_ix ix_seq op_dIx (do_v (de_v (pv 2))) (do_v de_int))) (do_v (de_str [115, 97, 121])) (nomark _)) (dss_c (ds_vlc (i := 3) [("_law_theirs", 4), ("_law_mine", 5)] rfl sc__law_text.nd (blkOk_by (N := N__law_text) (sc := defScope s__law_text) (by decide +kernel)) (di_e (de_ix ix_seq op_dIx (do_v (de_v (pv 2))) (do_v de_int))) (tgB_t (tgsB_c (tgB_v (by decide)) (tgsB_c (tgB_v (by decide)) tgsB_n))) (fun _ _ _ _ _ => (pg_tup rfl (pgs_cons (pg_name (i := 4) sc__law_text.nd rfl (Or.inl rfl) (by first | exact .inl rfl | exact .inr rfl)) (pgs_cons (pg_name (i := 5) sc__law_text.nd rfl (Or.inl rfl) (by first | exact .inl rfl | exact .inr rfl)) pgs_nil)))) (fun _ _ _ _ _ _ => dts_n) (fun _ _ _ _ _ _ => (de_bin opR_add op_dAdd (do_v (de_bin opR_add op_dAdd (do_v (de_bin opR_add op_dAdd (do_v (de_str [32])) (do_v (de_v (pv 4))))) (do_v (de_str [61])))) (do_v (de_v (pv 5))))))
   (dss_1 (ds_v (i := 1) sc__law_text.nd (de_bin opR_add op_dAdd (do_v (de_bin opR_add op_dAdd (do_v (de_bin opR_add op_dAdd (do_v (de_bin opR_add op_dAdd (do_v (de_v (pv 1))) (do_v (de_str [123, 64])))) (do_v (de_ix ix_seq op_dIx (do_v (de_v (pv 2))) (do_v de_int))))) (do_v (de_m PySem.F.plainAttrs_str PySem.F.slot_str_join PySem.F.type_str_join mt_join op_dJoin (do_v (de_str [])) (da_c (do_v (de_v (pv 3))) da_n))))) (do_v (de_str [125])))))) (dss_c (ds_vlc (i := 6) [("_law_name_here", 7), ("_law_inner", 8)] rfl sc__law_text.nd (blkOk_by (N := N__law_text) (sc := defScope s__law_text) (by decide +kernel)) (di_e (de_ix ix_seq op_dIx (do_v (de_v (pv 2))) (do_v de_int))) (tgB_t (tgsB_c (tgB_v (by decide)) (tgsB_c (tgB_v (by decide)) tgsB_n))) (fun _ _ _ _ _ => (pg_tup rfl (pgs_cons (pg_name (i := 7) sc__law_text.nd rfl (Or.inl rfl) (by first | exact .inl rfl | exact .inr rfl)) (pgs_cons (pg_name (i := 8) sc__law_text.nd rfl (Or.inl rfl) (by first | exact .inl rfl | exact .inr rfl)) pgs_nil)))) (fun _ _ _ _ _ _ => dts_n) (fun _ _ _ _ _ _ => (de_bin opR_add op_dAdd (do_v (de_bin opR_add op_dAdd (do_v (de_bin opR_add op_dAdd (do_v (de_bin opR_add op_dAdd (do_v (de_str [32])) (do_v (de_v (pv 7))))) (do_v (de_str [91])))) (do_v (de_c hrec hr takes0 (da_c (do_v (de_v (pv 8))) da_n))))) (do_v (de_str [93])))))
   (dss_c (ds_v (i := 9) sc__law_text.nd (de_ix (ix_dK (Nat.lt_of_le_of_lt (Nat.add_le_add_left (by decide : 1 ≤ 65) _) hu5)) op_dGetK (do_v (de_f (df_disp (dks_c [109, 97, 110, 121] (fun _ => (do_v (de_str [35]))) (dks_c [107, 105, 110, 100] (fun _ => (do_v (de_str [126]))) (dks_c [114, 97, 110, 107] (fun _ => (do_v (de_str [94]))) dks_n)))))) (do_v (de_ix ix_seq op_dIx (do_v (de_v (pv 2))) (do_v de_int)))))
   (dss_1 (ds_v (i := 1) sc__law_text.nd (de_bin opR_add op_dAdd (do_v (de_bin opR_add op_dAdd (do_v (de_bin opR_add op_dAdd (do_v (de_bin opR_add op_dAdd (do_v (de_bin opR_add op_dAdd (do_v (de_v (pv 1))) (do_v (de_str [123])))) (do_v (de_v (pv 9))))) (do_v (de_ix ix_seq op_dIx (do_v (de_v (pv 2))) (do_v de_int))))) (do_v (de_m PySem.F.plainAttrs_str PySem.F.slot_str_join PySem.F.type_str_join mt_join op_dJoin (do_v (de_str [])) (da_c (do_v (de_v (pv 6))) da_n))))) (do_v (de_str [125]))))))))))))))
   (dss_1 (ds_r (de_v (pv 1))))))
theorem ok__law_spoilt (hB : Bl mg) (hT : XT K mg xT) {f : Addr} {fd : FuncData} (F : Fun K "_law_spoilt" "_law_spoilt" s__law_spoilt f fd) (hm : mg "_law_spoilt" = some (.ref f)) : Def P w K mg base 2 "_law_spoilt" 2 c__law_spoilt :=
  def_ok (N := N__law_spoilt) (ps := ["_law_text_here", "_law_cell"]) F sc__law_spoilt (F.binds (ps := ["_law_text_here", "_law_cell"]) fun _ _ _ _ _ _ us hl => match us, hl with | [_, _], _ => rfl) hm fun B cdv A outer s H E W hr tk pw => by
    have hu := hr.units
    have hu5 : (A.deeper (envOfC "_law_spoilt" (defScope s__law_spoilt) s.heap.objs.size f cdv)).units + 65 < cLine := by have := hr.un; omega
    exact (dss_c (ds_v (i := 2) sc__law_spoilt.nd (de_bin op_mod op_dMod (do_v (de_bin opR_add op_dAdd (do_v (de_bin opR_mul op_dMul (do_v (de_v (pv 1))) (do_v de_int))) (do_v de_int))) (do_v (de_bin op_powW op_dPow (do_v de_int) (do_v de_int)))))
   (dss_c (ds_v (i := 3) sc__law_spoilt.nd (de_bin op_mod op_dMod (do_v (de_v (pv 2))) (do_v de_int)))
   (dss_c (ds_v (i := 4) sc__law_spoilt.nd (de_bin op_mod op_dMod (do_v (de_bin op_fdivW op_dFdiv (do_v (de_v (pv 2))) (do_v de_int))) (do_v (de_bin opR_add op_dAdd (do_v (de_cb call_len op_dLen hB.len (da_c (do_v (de_v (pv 0))) da_n))) (do_v de_int)))))
   (dss_c (ds_v (i := 5) sc__law_spoilt.nd (de_bin opR_add op_dAdd (do_v de_int) (do_v (de_bin op_mod op_dMod (do_v (de_bin op_fdivW op_dFdiv (do_v (de_v (pv 2))) (do_v de_int))) (do_v de_int)))))
   (dss_c (ds_v (i := 6) sc__law_spoilt.nd (de_ix ix_seq op_dIx (do_v (de_str [123, 125, 91, 93, 35, 126, 94, 64, 61, 32, 97, 101, 48, 55, 61, 110])) (do_v (de_bin op_mod op_dMod (do_v (de_bin op_fdivW op_dFdiv (do_v (de_v (pv 2))) (do_v de_int))) (do_v de_int)))))
   (dss_c (ds_i (dt_cmp opR_lt op_dCmp (do_v (de_v (pv 3))) (do_v de_int) (nomark _)) (dss_1 (ds_r (de_bin opR_add op_dAdd (do_v (de_bin opR_add op_dAdd (do_v (de_sl sl_all op_dSl (do_v (de_v (pv 0))) dp_n (dp_s (de_v (pv 4))))) (do_v (de_v (pv 6))))) (do_v (de_sl sl_all op_dSl (do_v (de_v (pv 0))) (dp_s (de_v (pv 4))) dp_n))))) dss_n)
   (dss_c (ds_i (dt_cmp (op_eqD hu) op_dEq (do_v (de_v (pv 3))) (do_v de_int) (nomark _)) (dss_1 (ds_r (de_bin opR_add op_dAdd (do_v (de_bin opR_add op_dAdd (do_v (de_sl sl_all op_dSl (do_v (de_v (pv 0))) dp_n (dp_s (de_v (pv 4))))) (do_v (de_v (pv 6))))) (do_v (de_sl sl_all op_dSl (do_v (de_v (pv 0))) (dp_s (de_bin opR_add op_dAdd (do_v (de_v (pv 4))) (do_v de_int))) dp_n))))) dss_n)
   (dss_c (ds_i (dt_cmp (op_eqD hu) op_dEq (do_v (de_v (pv 3))) (do_v de_int) (nomark _)) (dss_1 (ds_r (de_bin opR_add op_dAdd (do_v (de_sl sl_all op_dSl (do_v (de_v (pv 0))) dp_n (dp_s (de_v (pv 4))))) (do_v (de_sl sl_all op_dSl (do_v (de_v (pv 0))) (dp_s (de_bin opR_add op_dAdd (do_v (de_v (pv 4))) (do_v (de_v (pv 5))))) dp_n))))) dss_n)
   (dss_c (ds_i (dt_cmp (op_eqD hu) op_dEq (do_v (de_v (pv 3))) (do_v de_int) (nomark _)) (dss_1 (ds_r (de_bin opR_add op_dAdd (do_v (de_bin opR_add op_dAdd (do_v (de_sl sl_all op_dSl (do_v (de_v (pv 0))) dp_n (dp_s (de_v (pv 4))))) (do_v (de_sl sl_all op_dSl (do_v (de_v (pv 0))) (dp_s (de_v (pv 4))) (dp_s (de_bin opR_add op_dAdd (do_v (de_v (pv 4))) (do_v (de_v (pv 5))))))))) (do_v (de_sl sl_all op_dSl (do_v (de_v (pv 0))) (dp_s (de_v (pv 4))) dp_n))))) dss_n)
   (dss_c (ds_i (dt_cmp (op_eqD hu) op_dEq (do_v (de_v (pv 3))) (do_v de_int) (nomark _)) (dss_1 (ds_r (de_bin opR_add op_dAdd (do_v (de_sl sl_all op_dSl (do_v (de_v (pv 0))) (dp_s (de_v (pv 4))) dp_n)) (do_v (de_sl sl_all op_dSl (do_v (de_v (pv 0))) dp_n (dp_s (de_v (pv 4)))))))) dss_n)
   (dss_1 (ds_r (de_v (pv 0))))))))))))))
theorem ok_is_plain (hB : Bl mg) (hT : XT K mg xT) {f : Addr} {fd : FuncData} (F : Fun K "is_plain" "is_plain" s_is_plain f fd) (hm : mg "is_plain" = some (.ref f)) : Def P w K mg base 2 "is_plain" 1 c_is_plain :=
  def_ok (N := N_is_plain) (ps := ["sign"]) F sc_is_plain (F.binds (ps := ["sign"]) fun _ _ _ _ _ _ us hl => match us, hl with | [_], _ => rfl) hm fun B cdv A outer s H E W hr tk pw => by
    have hu := hr.units
    have hu5 : (A.deeper (envOfC "is_plain" (defScope s_is_plain) s.heap.objs.size f cdv)).units + 65 < cLine := by have := hr.un; omega
    exact (dss_1 (ds_r (de_a (de_chain opR_le op_dCmp opR_le op_dCmp (do_v (de_str [32])) (do_v (de_v (pv 0))) (do_v (de_str [126]))) (de_a (de_cmp (opR_notIn hu5) op_dNotIn (do_v (de_v (pv 0))) (do_v (de_str [123, 125, 91, 93])) (by with_unfolding_all rfl)) (de_1 (de_cmp (op_neD hu) op_dNe (do_v (de_cb call_ord op_dOrd hB.ord (da_c (do_v (de_v (pv 0))) da_n))) (do_v de_int) (nomark _)))))))
theorem ok_run_of (hB : Bl mg) (hT : XT K mg xT) {f : Addr} {fd : FuncData} (F : Fun K "run_of" "run_of" s_run_of f fd) (hm : mg "run_of" = some (.ref f)) : Def P w K mg base 2 "run_of" 3 c_run_of :=
  def_ok (N := N_run_of) (ps := ["text", "at", "signs"]) F sc_run_of (F.binds (ps := ["text", "at", "signs"]) fun _ _ _ _ _ _ us hl => match us, hl with | [_, _, _], _ => rfl) hm fun B cdv A outer s H E W hr tk pw => by
    have hu := hr.units
    have hu5 : (A.deeper (envOfC "run_of" (defScope s_run_of) s.heap.objs.size f cdv)).units + 65 < cLine := by have := hr.un; omega
    exact (dss_c (ds_v (i := 3) sc_run_of.nd (de_v (pv 1)))
   (dss_c (ds_w pw (dt_w (dw_a (dt_cmp opR_lt op_dCmp (do_v (de_v (pv 3))) (do_v (de_cb call_len op_dLen hB.len (da_c (do_v (de_v (pv 0))) da_n))) (nomark _)) (dw_1a (dt_cmp (opR_in hu5) op_dIn (do_v (de_ix ix_seq op_dIx (do_v (de_v (pv 0))) (do_v (de_v (pv 3))))) (do_v (de_v (pv 2))) (by with_unfolding_all rfl))))) (dss_1 (ds_v (i := 3) sc_run_of.nd (de_bin opR_add op_dAdd (do_v (de_v (pv 3))) (do_v de_int)))))
   (dss_1 (ds_r (de_sl sl_all op_dSl (do_v (de_v (pv 0))) (dp_s (de_v (pv 1))) (dp_s (de_v (pv 3))))))))
theorem ok_is_word (hB : Bl mg) (hT : XT K mg xT) {f : Addr} {fd : FuncData} (F : Fun K "is_word" "is_word" s_is_word f fd) (hm : mg "is_word" = some (.ref f)) {t_LETTERS : Tok} (hc_LETTERS : mg "LETTERS" = some (.str (tx k_LETTERS) t_LETTERS)) : Def P w K mg base 2 "is_word" 1 c_is_word :=
  def_ok (N := N_is_word) (ps := ["thing"]) F sc_is_word (F.binds (ps := ["thing"]) fun _ _ _ _ _ _ us hl => match us, hl with | [_], _ => rfl) hm fun B cdv A outer s H E W hr tk pw => by
    have hu := hr.units
    have hu5 : (A.deeper (envOfC "is_word" (defScope s_is_word) s.heap.objs.size f cdv)).units + 65 < cLine := by have := hr.un; omega
    exact (dss_c (ds_i (dt_w (dw_o (dt_n (dt_t (do_v (de_cb call_isi op_dIsI hB.isinstance (da_c (do_v (de_v (pv 0))) (da_c (do_v (de_ty hB.str)) da_n)))))) (dw_o (dt_cmp opR_lt op_dCmp (do_v (de_cb call_len op_dLen hB.len (da_c (do_v (de_v (pv 0))) da_n))) (do_v de_int) (nomark _)) (dw_o (dt_cmp opR_gt op_dCmp (do_v (de_cb call_len op_dLen hB.len (da_c (do_v (de_v (pv 0))) da_n))) (do_v de_int) (nomark _)) (dw_1o (dt_cmp (op_eqD hu) op_dEq (do_v (de_v (pv 0))) (do_v (de_str [101, 108, 115, 101])) (nomark _))))))) (dss_1 (ds_r de_bl)) dss_n)
   (dss_1 (ds_r (de_cb (cr_all rfl) op_dAll hB.all (da_c (do_v (de_f (df_lc [("sign", 1)] rfl sc_is_word.nd (blkOk_by (N := N_is_word) (sc := defScope s_is_word) (by decide +kernel)) (di_e (de_v (pv 0))) (tgB_v (by decide)) (fun _ _ _ _ _ => (pg_name (i := 1) sc_is_word.nd rfl (Or.inl rfl) (by first | exact .inl rfl | exact .inr rfl))) (fun _ _ _ _ _ _ => dts_n) (fun _ _ _ _ _ _ => (de_cmp (opR_in hu5) op_dIn (do_v (de_v (pv 1))) (do_v (de_gs hc_LETTERS ok_k_LETTERS)) (by with_unfolding_all rfl)))))) da_n)))))
theorem ok_scan_word (hB : Bl mg) (hT : XT K mg xT) {f : Addr} {fd : FuncData} (F : Fun K "scan_word" "scan_word" s_scan_word f fd) (hm : mg "scan_word" = some (.ref f)) {t_LETTERS : Tok} (hc_LETTERS : mg "LETTERS" = some (.str (tx k_LETTERS) t_LETTERS)) (d_run_of : Def P w K mg base 2 "run_of" 3 c_run_of) (d_is_word : Def P w K mg base 2 "is_word" 1 c_is_word) : Def P w K mg base 3 "scan_word" 2 c_scan_word :=
  def_ok (N := N_scan_word) (ps := ["text", "at"]) F sc_scan_word (F.binds (ps := ["text", "at"]) fun _ _ _ _ _ _ us hl => match us, hl with | [_, _], _ => rfl) hm fun B cdv A outer s H E W hr tk pw => by
    have hu := hr.units
    have hu5 : (A.deeper (envOfC "scan_word" (defScope s_scan_word) s.heap.objs.size f cdv)).units + 65 < cLine := by have := hr.un; omega
    have d_run_of := d_run_of.mono (j := 2) (by omega)
    have d_is_word := d_is_word.mono (j := 2) (by omega)
    exact (dss_c (ds_v (i := 2) sc_scan_word.nd (de_c d_run_of hr tk (da_c (do_v (de_v (pv 0))) (da_c (do_v (de_v (pv 1))) (da_c (do_v (de_gs hc_LETTERS ok_k_LETTERS)) da_n)))))
   (dss_c (ds_i (dt_n (dt_t (do_v (de_c d_is_word hr tk (da_c (do_v (de_v (pv 2))) da_n))))) (dss_1 (ds_raise hT (by decide +kernel) (by decide +kernel) tk)) dss_n)
   (dss_1 (ds_r (de_p (da_c (do_v (de_v (pv 2))) (da_c (do_v (de_bin opR_add op_dAdd (do_v (de_v (pv 1))) (do_v (de_cb call_len op_dLen hB.len (da_c (do_v (de_v (pv 2))) da_n))))) da_n)))))))
theorem ok_scan_name (hB : Bl mg) (hT : XT K mg xT) {f : Addr} {fd : FuncData} (F : Fun K "scan_name" "scan_name" s_scan_name f fd) (hm : mg "scan_name" = some (.ref f)) {t_FIGURES : Tok} (hc_FIGURES : mg "FIGURES" = some (.str (tx k_FIGURES) t_FIGURES)) {t_LETTERS : Tok} (hc_LETTERS : mg "LETTERS" = some (.str (tx k_LETTERS) t_LETTERS)) {t_MOST_FIGURES : Tok} (hc_MOST_FIGURES : mg "MOST_FIGURES" = some (.int 59 t_MOST_FIGURES)) (d_run_of : Def P w K mg base 2 "run_of" 3 c_run_of) (d_scan_word : Def P w K mg base 3 "scan_word" 2 c_scan_word) : Def P w K mg base 4 "scan_name" 3 c_scan_name :=
  def_ok (N := N_scan_name) (ps := ["text", "at", "how"]) F sc_scan_name (F.binds (ps := ["text", "at", "how"]) fun _ _ _ _ _ _ us hl => match us, hl with | [_, _, _], _ => rfl) hm fun B cdv A outer s H E W hr tk pw => by
    have hu := hr.units
    have hu5 : (A.deeper (envOfC "scan_name" (defScope s_scan_name) s.heap.objs.size f cdv)).units + 65 < cLine := by have := hr.un; omega
    have d_run_of := d_run_of.mono (j := 3) (by omega)
    have d_scan_word := d_scan_word.mono (j := 3) (by omega)
    exact (dss_c (ds_i (dt_w (dw_a (dt_cmp (op_eqD hu) op_dEq (do_v (de_v (pv 2))) (do_v (de_str [109, 97, 110, 121])) (nomark _)) (dw_1a (dt_cmp (op_eqD hu) op_dEq (do_v (de_sl sl_all op_dSl (do_v (de_v (pv 0))) (dp_s (de_v (pv 1))) (dp_s (de_bin opR_add op_dAdd (do_v (de_v (pv 1))) (do_v de_int))))) (do_v (de_str [61])) (nomark _))))) (dss_c (ds_v (i := 3) sc_scan_name.nd (de_c d_run_of hr tk (da_c (do_v (de_v (pv 0))) (da_c (do_v (de_bin opR_add op_dAdd (do_v (de_v (pv 1))) (do_v de_int))) (da_c (do_v (de_gs hc_FIGURES ok_k_FIGURES)) da_n)))))
   (dss_c (ds_i (dt_w (dw_o (dt_cmp (op_eqD hu) op_dEq (do_v (de_v (pv 3))) (do_v (de_str [])) (nomark _)) (dw_o (dt_cmp opR_gt op_dCmp (do_v (de_cb call_len op_dLen hB.len (da_c (do_v (de_v (pv 3))) da_n))) (do_v (de_gi hc_MOST_FIGURES)) (nomark _)) (dw_1o (dt_w (dw_a (dt_cmp opR_gt op_dCmp (do_v (de_cb call_len op_dLen hB.len (da_c (do_v (de_v (pv 3))) da_n))) (do_v de_int) (nomark _)) (dw_1a (dt_cmp (op_eqD hu) op_dEq (do_v (de_ix ix_seq op_dIx (do_v (de_v (pv 3))) (do_v de_int))) (do_v (de_str [48])) (nomark _))))))))) (dss_1 (ds_raise hT (by decide +kernel) (by decide +kernel) tk)) dss_n)
   (dss_1 (ds_r (de_p (da_c (do_v (de_bin opR_add op_dAdd (do_v (de_str [61])) (do_v (de_v (pv 3))))) (da_c (do_v (de_bin opR_add op_dAdd (do_v (de_bin opR_add op_dAdd (do_v (de_v (pv 1))) (do_v de_int))) (do_v (de_cb call_len op_dLen hB.len (da_c (do_v (de_v (pv 3))) da_n))))) da_n))))))) dss_n)
   (dss_c (ds_i (dt_cmp (op_eqD hu) op_dEq (do_v (de_c d_run_of hr tk (da_c (do_v (de_v (pv 0))) (da_c (do_v (de_v (pv 1))) (da_c (do_v (de_gs hc_LETTERS ok_k_LETTERS)) da_n))))) (do_v (de_str [101, 108, 115, 101])) (nomark _)) (dss_1 (ds_r (de_p (da_c (do_v (de_str [101, 108, 115, 101])) (da_c (do_v (de_bin opR_add op_dAdd (do_v (de_v (pv 1))) (do_v de_int))) da_n))))) dss_n)
   (dss_1 (ds_r (de_c d_scan_word hr tk (da_c (do_v (de_v (pv 0))) (da_c (do_v (de_v (pv 1))) da_n)))))))
theorem ok_past_sign (hB : Bl mg) (hT : XT K mg xT) {f : Addr} {fd : FuncData} (F : Fun K "past_sign" "past_sign" s_past_sign f fd) (hm : mg "past_sign" = some (.ref f)) : Def P w K mg base 2 "past_sign" 3 c_past_sign :=
  def_ok (N := N_past_sign) (ps := ["text", "at", "sign"]) F sc_past_sign (F.binds (ps := ["text", "at", "sign"]) fun _ _ _ _ _ _ us hl => match us, hl with | [_, _, _], _ => rfl) hm fun B cdv A outer s H E W hr tk pw => by
    have hu := hr.units
    have hu5 : (A.deeper (envOfC "past_sign" (defScope s_past_sign) s.heap.objs.size f cdv)).units + 65 < cLine := by have := hr.un; omega
    exact (dss_c (ds_i (dt_cmp (op_neD hu) op_dNe (do_v (de_sl sl_all op_dSl (do_v (de_v (pv 0))) (dp_s (de_v (pv 1))) (dp_s (de_bin opR_add op_dAdd (do_v (de_v (pv 1))) (do_v de_int))))) (do_v (de_v (pv 2))) (nomark _)) (dss_1 (ds_raise hT (by decide +kernel) (by decide +kernel) tk)) dss_n)
   (dss_1 (ds_r (de_bin opR_add op_dAdd (do_v (de_v (pv 1))) (do_v de_int)))))
theorem ok_scan_binds (hB : Bl mg) (hT : XT K mg xT) {f : Addr} {fd : FuncData} (F : Fun K "scan_binds" "scan_binds" s_scan_binds f fd) (hm : mg "scan_binds" = some (.ref f)) {t_MOST_BINDS : Tok} (hc_MOST_BINDS : mg "MOST_BINDS" = some (.int 4 t_MOST_BINDS)) (d_scan_word : Def P w K mg base 3 "scan_word" 2 c_scan_word) (d_past_sign : Def P w K mg base 2 "past_sign" 3 c_past_sign) : Def P w K mg base 4 "scan_binds" 2 c_scan_binds :=
  def_ok (N := N_scan_binds) (ps := ["text", "at"]) F sc_scan_binds (F.binds (ps := ["text", "at"]) fun _ _ _ _ _ _ us hl => match us, hl with | [_, _], _ => rfl) hm fun B cdv A outer s H E W hr tk pw => by
    have hu := hr.units
    have hu5 : (A.deeper (envOfC "scan_binds" (defScope s_scan_binds) s.heap.objs.size f cdv)).units + 65 < cLine := by have := hr.un; omega
    have d_scan_word := d_scan_word.mono (j := 3) (by omega)
    have d_past_sign := d_past_sign.mono (j := 3) (by omega)
    exact (dss_c (ds_o (i := 2) sc_scan_binds.nd (df_l da_n))
   (dss_c (ds_w pw (dt_cmp (op_eqD hu) op_dEq (do_v (de_sl sl_all op_dSl (do_v (de_v (pv 0))) (dp_s (de_v (pv 1))) (dp_s (de_bin opR_add op_dAdd (do_v (de_v (pv 1))) (do_v de_int))))) (do_v (de_str [32])) (nomark _)) (dss_c (ds_g (de_c d_scan_word hr tk (da_c (do_v (de_v (pv 0))) (da_c (do_v (de_bin opR_add op_dAdd (do_v (de_v (pv 1))) (do_v de_int))) da_n))) (dg_t rfl (dgs_c (dg_v (i := 3) sc_scan_binds.nd) (dgs_c (dg_v (i := 1) sc_scan_binds.nd) dgs_n))))
   (dss_c (ds_g (de_c d_scan_word hr tk (da_c (do_v (de_v (pv 0))) (da_c (do_v (de_c d_past_sign hr tk (da_c (do_v (de_v (pv 0))) (da_c (do_v (de_v (pv 1))) (da_c (do_v (de_str [61])) da_n))))) da_n))) (dg_t rfl (dgs_c (dg_v (i := 4) sc_scan_binds.nd) (dgs_c (dg_v (i := 1) sc_scan_binds.nd) dgs_n))))
   (dss_c (ds_i (dt_w (dw_o (dt_cmp (opR_in hu5) op_dIn (do_v (de_v (pv 3))) (do_v (de_f (df_bor (i := 2) (df_lc [("one", 5), ("other", 6)] rfl sc_scan_binds.nd (blkOk_by (N := N_scan_binds) (sc := defScope s_scan_binds) (by decide +kernel)) (di_e (de_v (pv 2))) (tgB_t (tgsB_c (tgB_v (by decide)) (tgsB_c (tgB_v (by decide)) tgsB_n))) (fun _ _ _ _ _ => (pg_tup rfl (pgs_cons (pg_name (i := 5) sc_scan_binds.nd rfl (Or.inl rfl) (by first | exact .inl rfl | exact .inr rfl)) (pgs_cons (pg_name (i := 6) sc_scan_binds.nd rfl (Or.inl rfl) (by first | exact .inl rfl | exact .inr rfl)) pgs_nil)))) (fun _ _ _ _ _ _ => dts_n) (fun _ _ _ _ _ _ => (de_v (pv 5))))))) (by with_unfolding_all rfl)) (dw_1o (dt_cmp (op_eqD hu) op_dEq (do_v (de_cb call_len op_dLen hB.len (da_c (do_s (pv 2)) da_n))) (do_v (de_gi hc_MOST_BINDS)) (nomark _))))) (dss_1 (ds_raise hT (by decide +kernel) (by decide +kernel) tk)) dss_n)
   (dss_1 (ds_ap (pv 2) (do_v (de_p (da_c (do_v (de_v (pv 3))) (da_c (do_v (de_v (pv 4))) da_n))))))))))
   (dss_1 (ds_r (de_p (da_c (do_v (de_z (pv 2))) (da_c (do_v (de_v (pv 1))) da_n)))))))
theorem ok_scan_arms (hB : Bl mg) (hT : XT K mg xT) {f : Addr} {fd : FuncData} (F : Fun K "scan_arms" "scan_arms" s_scan_arms f fd) (hm : mg "scan_arms" = some (.ref f)) {t_MOST_ARMS : Tok} (hc_MOST_ARMS : mg "MOST_ARMS" = some (.int 8 t_MOST_ARMS)) (d_scan_name : Def P w K mg base 4 "scan_name" 3 c_scan_name) (d_past_sign : Def P w K mg base 2 "past_sign" 3 c_past_sign) {q : Nat} {rec : CallT} (hrec : Def P w K mg base (5 + q) "scan_parts" 3 rec) : Def P w K mg base (5 + q + 1) "scan_arms" 4 (c_scan_arms rec) :=
  (def_ok (N := N_scan_arms) (ps := ["text", "at", "how", "deep"]) (k := 5 + q + 0) F sc_scan_arms (F.binds (ps := ["text", "at", "how", "deep"]) fun _ _ _ _ _ _ us hl => match us, hl with | [_, _, _, _], _ => rfl) hm fun B cdv A outer s H E W hr tk pw => by
    have hrec := hrec.mono (j := 5 + q + 0) (by omega)
    have hu := hr.units
    have hu5 : (A.deeper (envOfC "scan_arms" (defScope s_scan_arms) s.heap.objs.size f cdv)).units + 65 < cLine := by have := hr.un; omega
    have d_scan_name := d_scan_name.mono (j := 5 + q + 0) (by omega)
    have d_past_sign := d_past_sign.mono (j := 5 + q + 0) (by omega)
    exact (dss_c (ds_o (i := 4) sc_scan_arms.nd (df_l da_n))
   (dss_c (ds_o (i := 5) sc_scan_arms.nd (df_l da_n))
   (dss_c (ds_w pw (dt_cmp (op_eqD hu) op_dEq (do_v (de_sl sl_all op_dSl (do_v (de_v (pv 0))) (dp_s (de_v (pv 1))) (dp_s (de_bin opR_add op_dAdd (do_v (de_v (pv 1))) (do_v de_int))))) (do_v (de_str [32])) (nomark _)) (dss_c (ds_g (de_c d_scan_name hr tk (da_c (do_v (de_v (pv 0))) (da_c (do_v (de_bin opR_add op_dAdd (do_v (de_v (pv 1))) (do_v de_int))) (da_c (do_v (de_v (pv 2))) da_n)))) (dg_t rfl (dgs_c (dg_v (i := 6) sc_scan_arms.nd) (dgs_c (dg_v (i := 1) sc_scan_arms.nd) dgs_n))))
   (dss_c (ds_i (dt_w (dw_o (dt_cmp (opR_in hu5) op_dIn (do_v (de_v (pv 6))) (do_s (pv 5)) (by with_unfolding_all rfl)) (dw_1o (dt_cmp (op_eqD hu) op_dEq (do_v (de_cb call_len op_dLen hB.len (da_c (do_s (pv 5)) da_n))) (do_v (de_gi hc_MOST_ARMS)) (nomark _))))) (dss_1 (ds_raise hT (by decide +kernel) (by decide +kernel) tk)) dss_n)
   (dss_c (ds_ap (pv 5) (do_v (de_v (pv 6))))
   (dss_c (ds_g (de_c hrec hr tk (da_c (do_v (de_v (pv 0))) (da_c (do_v (de_c d_past_sign hr tk (da_c (do_v (de_v (pv 0))) (da_c (do_v (de_v (pv 1))) (da_c (do_v (de_str [91])) da_n))))) (da_c (do_v (de_v (pv 3))) da_n)))) (dg_t rfl (dgs_c (dg_v (i := 7) sc_scan_arms.nd) (dgs_c (dg_v (i := 1) sc_scan_arms.nd) dgs_n))))
   (dss_c (ds_ap (pv 4) (do_v (de_p (da_c (do_v (de_v (pv 6))) (da_c (do_v (de_v (pv 7))) da_n)))))
   (dss_1 (ds_v (i := 1) sc_scan_arms.nd (de_c d_past_sign hr tk (da_c (do_v (de_v (pv 0))) (da_c (do_v (de_v (pv 1))) (da_c (do_v (de_str [93])) da_n))))))))))))
   (dss_c (ds_i (dt_cmp (op_eqD hu) op_dEq (do_s (pv 4)) (do_v (de_f (df_l da_n))) (nomark _)) (dss_1 (ds_raise hT (by decide +kernel) (by decide +kernel) tk)) dss_n)
   (dss_1 (ds_r (de_p (da_c (do_v (de_z (pv 4))) (da_c (do_v (de_v (pv 1))) da_n)))))))))).mono (by omega)
theorem ok_scan_brace (hB : Bl mg) (hT : XT K mg xT) {f : Addr} {fd : FuncData} (F : Fun K "scan_brace" "scan_brace" s_scan_brace f fd) (hm : mg "scan_brace" = some (.ref f)) {t_DEEP : Tok} (hc_DEEP : mg "DEEP" = some (.int 4 t_DEEP)) {a_k_HOWS : Addr} (hc_HOWS : mg "HOWS" = some (.ref a_k_HOWS)) (hK_HOWS : KTb K w a_k_HOWS k_HOWS) (d_scan_word : Def P w K mg base 3 "scan_word" 2 c_scan_word) (d_scan_binds : Def P w K mg base 4 "scan_binds" 2 c_scan_binds) (d_past_sign : Def P w K mg base 2 "past_sign" 3 c_past_sign) {q : Nat} {rec : CallT} (hrec : Def P w K mg base (5 + q) "scan_parts" 3 rec) (d_scan_arms : Def P w K mg base (5 + q + 1) "scan_arms" 4 (c_scan_arms rec)) : Def P w K mg base (5 + q + 2) "scan_brace" 3 (c_scan_brace rec) :=
  (def_ok (N := N_scan_brace) (ps := ["text", "at", "deep"]) (k := 5 + q + 1) F sc_scan_brace (F.binds (ps := ["text", "at", "deep"]) fun _ _ _ _ _ _ us hl => match us, hl with | [_, _, _], _ => rfl) hm fun B cdv A outer s H E W hr tk pw => by
    have hrec := hrec.mono (j := 5 + q + 1) (by omega)
    have d_scan_arms := d_scan_arms.mono (j := 5 + q + 1) (by omega)
    have hu := hr.units
    have hu5 : (A.deeper (envOfC "scan_brace" (defScope s_scan_brace) s.heap.objs.size f cdv)).units + 65 < cLine := by have := hr.un; omega
    have d_scan_word := d_scan_word.mono (j := 5 + q + 1) (by omega)
    have d_scan_binds := d_scan_binds.mono (j := 5 + q + 1) (by omega)
    have d_past_sign := d_past_sign.mono (j := 5 + q + 1) (by omega)
    exact (dss_c (ds_v (i := 3) sc_scan_brace.nd (de_sl sl_all op_dSl (do_v (de_v (pv 0))) (dp_s (de_v (pv 1))) (dp_s (de_bin opR_add op_dAdd (do_v (de_v (pv 1))) (do_v de_int)))))
   (dss_c (ds_i (dt_cmp (op_eqD hu) op_dEq (do_v (de_v (pv 3))) (do_v (de_str [64])) (nomark _)) (dss_c (ds_g (de_c d_scan_word hr tk (da_c (do_v (de_v (pv 0))) (da_c (do_v (de_bin opR_add op_dAdd (do_v (de_v (pv 1))) (do_v de_int))) da_n))) (dg_t rfl (dgs_c (dg_v (i := 4) sc_scan_brace.nd) (dgs_c (dg_v (i := 1) sc_scan_brace.nd) dgs_n))))
   (dss_c (ds_g (de_c d_scan_binds hr tk (da_c (do_v (de_v (pv 0))) (da_c (do_v (de_v (pv 1))) da_n))) (dg_t rfl (dgs_c (dg_v (i := 5) sc_scan_brace.nd) (dgs_c (dg_v (i := 1) sc_scan_brace.nd) dgs_n))))
   (dss_1 (ds_r (de_p (da_c (do_v (de_p (da_c (do_v (de_str [115, 97, 121])) (da_c (do_v (de_v (pv 4))) (da_c (do_v (de_v (pv 5))) da_n))))) (da_c (do_v (de_c d_past_sign hr tk (da_c (do_v (de_v (pv 0))) (da_c (do_v (de_v (pv 1))) (da_c (do_v (de_str [125])) da_n))))) da_n))))))) dss_n)
   (dss_c (ds_i (dt_notInT hc_HOWS hK_HOWS (do_v (de_v (pv 3)))) (dss_c (ds_g (de_c d_scan_word hr tk (da_c (do_v (de_v (pv 0))) (da_c (do_v (de_v (pv 1))) da_n))) (dg_t rfl (dgs_c (dg_v (i := 6) sc_scan_brace.nd) (dgs_c (dg_v (i := 1) sc_scan_brace.nd) dgs_n))))
   (dss_1 (ds_r (de_p (da_c (do_v (de_p (da_c (do_v (de_str [103, 97, 112])) (da_c (do_v (de_v (pv 6))) da_n)))) (da_c (do_v (de_c d_past_sign hr tk (da_c (do_v (de_v (pv 0))) (da_c (do_v (de_v (pv 1))) (da_c (do_v (de_str [125])) da_n))))) da_n)))))) dss_n)
   (dss_c (ds_i (dt_cmp (op_eqD hu) op_dEq (do_v (de_v (pv 2))) (do_v (de_gi hc_DEEP)) (nomark _)) (dss_1 (ds_raise hT (by decide +kernel) (by decide +kernel) tk)) dss_n)
   (dss_c (ds_g (de_c d_scan_word hr tk (da_c (do_v (de_v (pv 0))) (da_c (do_v (de_bin opR_add op_dAdd (do_v (de_v (pv 1))) (do_v de_int))) da_n))) (dg_t rfl (dgs_c (dg_v (i := 6) sc_scan_brace.nd) (dgs_c (dg_v (i := 1) sc_scan_brace.nd) dgs_n))))
   (dss_c (ds_g (de_c d_scan_arms hr tk (da_c (do_v (de_v (pv 0))) (da_c (do_v (de_v (pv 1))) (da_c (do_v (de_ixT hc_HOWS hK_HOWS (do_v (de_v (pv 3))))) (da_c (do_v (de_bin opR_add op_dAdd (do_v (de_v (pv 2))) (do_v de_int))) da_n))))) (dg_t rfl (dgs_c (dg_v (i := 7) sc_scan_brace.nd) (dgs_c (dg_v (i := 1) sc_scan_brace.nd) dgs_n))))
   (dss_1 (ds_r (de_p (da_c (do_v (de_p (da_c (do_v (de_ixT hc_HOWS hK_HOWS (do_v (de_v (pv 3))))) (da_c (do_v (de_v (pv 6))) (da_c (do_v (de_v (pv 7))) da_n))))) (da_c (do_v (de_c d_past_sign hr tk (da_c (do_v (de_v (pv 0))) (da_c (do_v (de_v (pv 1))) (da_c (do_v (de_str [125])) da_n))))) da_n)))))))))))).mono (by omega)
theorem ok_scan_parts (hB : Bl mg) (hT : XT K mg xT) {f : Addr} {fd : FuncData} (F : Fun K "scan_parts" "scan_parts" s_scan_parts f fd) (hm : mg "scan_parts" = some (.ref f)) {t_DEEP : Tok} (hc_DEEP : mg "DEEP" = some (.int 4 t_DEEP)) {a_k_HOWS : Addr} (hc_HOWS : mg "HOWS" = some (.ref a_k_HOWS)) (hK_HOWS : KTb K w a_k_HOWS k_HOWS) {t_MOST_ARMS : Tok} (hc_MOST_ARMS : mg "MOST_ARMS" = some (.int 8 t_MOST_ARMS)) (d_is_plain : Def P w K mg base 2 "is_plain" 1 c_is_plain) (d_scan_name : Def P w K mg base 4 "scan_name" 3 c_scan_name) (d_past_sign : Def P w K mg base 2 "past_sign" 3 c_past_sign) (d_scan_word : Def P w K mg base 3 "scan_word" 2 c_scan_word) (d_scan_binds : Def P w K mg base 4 "scan_binds" 2 c_scan_binds) {f_scan_arms : Addr} {fd_scan_arms : FuncData} (F_scan_arms : Fun K "scan_arms" "scan_arms" s_scan_arms f_scan_arms fd_scan_arms) (hm_scan_arms : mg "scan_arms" = some (.ref f_scan_arms)) {f_scan_brace : Addr} {fd_scan_brace : FuncData} (F_scan_brace : Fun K "scan_brace" "scan_brace" s_scan_brace f_scan_brace fd_scan_brace) (hm_scan_brace : mg "scan_brace" = some (.ref f_scan_brace)) : ∀ k, Def P w K mg base (5 + 3 * k) "scan_parts" 3 (c_scan_parts k)
  | 0 => (def_stuck (ps := ["text", "at", "deep"]) (k := 4) F sc_scan_parts (F.binds (ps := ["text", "at", "deep"]) fun _ _ _ _ _ _ us hl => match us, hl with | [_, _, _], _ => rfl) hm).mono (by omega)
  | k + 1 => (def_ok (N := N_scan_parts) (ps := ["text", "at", "deep"]) (k := 5 + 3 * k + 2) F sc_scan_parts (F.binds (ps := ["text", "at", "deep"]) fun _ _ _ _ _ _ us hl => match us, hl with | [_, _, _], _ => rfl) hm fun B cdv A outer s H E W hr tk pw => by
    have hrec := ok_scan_parts hB hT F hm hc_DEEP hc_HOWS hK_HOWS hc_MOST_ARMS d_is_plain d_scan_name d_past_sign d_scan_word d_scan_binds F_scan_arms hm_scan_arms F_scan_brace hm_scan_brace k
    have d_scan_arms := ok_scan_arms hB hT F_scan_arms hm_scan_arms hc_MOST_ARMS d_scan_name d_past_sign (q := 3 * k) hrec
    have d_scan_brace := ok_scan_brace hB hT F_scan_brace hm_scan_brace hc_DEEP hc_HOWS hK_HOWS d_scan_word d_scan_binds d_past_sign (q := 3 * k) hrec d_scan_arms
    have hrec := hrec.mono (j := 5 + 3 * k + 2) (by omega)
    have d_scan_arms := d_scan_arms.mono (j := 5 + 3 * k + 2) (by omega)
    have d_scan_brace := d_scan_brace.mono (j := 5 + 3 * k + 2) (by omega)
    have hu := hr.units
    have hu5 : (A.deeper (envOfC "scan_parts" (defScope s_scan_parts) s.heap.objs.size f cdv)).units + 65 < cLine := by have := hr.un; omega
    have d_is_plain := d_is_plain.mono (j := 5 + 3 * k + 2) (by omega)
    exact (dss_c (ds_o (i := 3) sc_scan_parts.nd (df_l da_n))
   (dss_c (ds_w pw (dt_w (dw_a (dt_cmp opR_lt op_dCmp (do_v (de_v (pv 1))) (do_v (de_cb call_len op_dLen hB.len (da_c (do_v (de_v (pv 0))) da_n))) (nomark _)) (dw_1a (dt_cmp (op_neD hu) op_dNe (do_v (de_ix ix_seq op_dIx (do_v (de_v (pv 0))) (do_v (de_v (pv 1))))) (do_v (de_str [93])) (nomark _))))) (dss_1 (ds_i (dt_cmp (op_eqD hu) op_dEq (do_v (de_ix ix_seq op_dIx (do_v (de_v (pv 0))) (do_v (de_v (pv 1))))) (do_v (de_str [123])) (nomark _)) (dss_c (ds_g (de_c d_scan_brace hr tk (da_c (do_v (de_v (pv 0))) (da_c (do_v (de_bin opR_add op_dAdd (do_v (de_v (pv 1))) (do_v de_int))) (da_c (do_v (de_v (pv 2))) da_n)))) (dg_t rfl (dgs_c (dg_v (i := 4) sc_scan_parts.nd) (dgs_c (dg_v (i := 1) sc_scan_parts.nd) dgs_n))))
   (dss_1 (ds_ap (pv 3) (do_v (de_v (pv 4)))))) (dss_c (ds_v (i := 5) sc_scan_parts.nd (de_v (pv 1)))
   (dss_c (ds_w pw (dt_w (dw_a (dt_cmp opR_lt op_dCmp (do_v (de_v (pv 5))) (do_v (de_cb call_len op_dLen hB.len (da_c (do_v (de_v (pv 0))) da_n))) (nomark _)) (dw_1a (dt_t (do_v (de_c d_is_plain hr tk (da_c (do_v (de_ix ix_seq op_dIx (do_v (de_v (pv 0))) (do_v (de_v (pv 5))))) da_n))))))) (dss_1 (ds_v (i := 5) sc_scan_parts.nd (de_bin opR_add op_dAdd (do_v (de_v (pv 5))) (do_v de_int)))))
   (dss_c (ds_i (dt_cmp (op_eqD hu) op_dEq (do_v (de_v (pv 5))) (do_v (de_v (pv 1))) (nomark _)) (dss_1 (ds_raise hT (by decide +kernel) (by decide +kernel) tk)) dss_n)
   (dss_c (ds_ap (pv 3) (do_v (de_p (da_c (do_v (de_str [116, 101, 120, 116])) (da_c (do_v (de_sl sl_all op_dSl (do_v (de_v (pv 0))) (dp_s (de_v (pv 1))) (dp_s (de_v (pv 5))))) da_n)))))
   (dss_1 (ds_v (i := 1) sc_scan_parts.nd (de_v (pv 5)))))))))))
   (dss_1 (ds_r (de_p (da_c (do_v (de_z (pv 3))) (da_c (do_v (de_v (pv 1))) da_n)))))))).mono (by omega)
theorem ok_is_choice (hB : Bl mg) (hT : XT K mg xT) {f : Addr} {fd : FuncData} (F : Fun K "is_choice" "is_choice" s_is_choice f fd) (hm : mg "is_choice" = some (.ref f)) {a_k_MARKS : Addr} (hc_MARKS : mg "MARKS" = some (.ref a_k_MARKS)) (hK_MARKS : KTb K w a_k_MARKS k_MARKS) : Def P w K mg base 2 "is_choice" 1 c_is_choice :=
  def_ok (N := N_is_choice) (ps := ["part"]) F sc_is_choice (F.binds (ps := ["part"]) fun _ _ _ _ _ _ us hl => match us, hl with | [_], _ => rfl) hm fun B cdv A outer s H E W hr tk pw => by
    have hu := hr.units
    have hu5 : (A.deeper (envOfC "is_choice" (defScope s_is_choice) s.heap.objs.size f cdv)).units + 65 < cLine := by have := hr.un; omega
    exact (dss_1 (ds_r (de_inT hc_MARKS hK_MARKS (do_v (de_ix ix_seq op_dIx (do_v (de_v (pv 0))) (do_v de_int))))))
theorem ok_inner_of (hB : Bl mg) (hT : XT K mg xT) {f : Addr} {fd : FuncData} (F : Fun K "inner_of" "inner_of" s_inner_of f fd) (hm : mg "inner_of" = some (.ref f)) (d_is_choice : Def P w K mg base 2 "is_choice" 1 c_is_choice) : Def P w K mg base 3 "inner_of" 1 c_inner_of :=
  def_ok (N := N_inner_of) (ps := ["part"]) F sc_inner_of (F.binds (ps := ["part"]) fun _ _ _ _ _ _ us hl => match us, hl with | [_], _ => rfl) hm fun B cdv A outer s H E W hr tk pw => by
    have hu := hr.units
    have hu5 : (A.deeper (envOfC "inner_of" (defScope s_inner_of) s.heap.objs.size f cdv)).units + 65 < cLine := by have := hr.un; omega
    have d_is_choice := d_is_choice.mono (j := 2) (by omega)
    exact (dss_c (ds_i (dt_t (do_v (de_c d_is_choice hr tk (da_c (do_v (de_v (pv 0))) da_n)))) (dss_1 (ds_r (de_f (df_lc [("name", 1), ("inner", 2)] rfl sc_inner_of.nd (blkOk_by (N := N_inner_of) (sc := defScope s_inner_of) (by decide +kernel)) (di_e (de_ix ix_seq op_dIx (do_v (de_v (pv 0))) (do_v de_int))) (tgB_t (tgsB_c (tgB_v (by decide)) (tgsB_c (tgB_v (by decide)) tgsB_n))) (fun _ _ _ _ _ => (pg_tup rfl (pgs_cons (pg_name (i := 1) sc_inner_of.nd rfl (Or.inl rfl) (by first | exact .inl rfl | exact .inr rfl)) (pgs_cons (pg_name (i := 2) sc_inner_of.nd rfl (Or.inl rfl) (by first | exact .inl rfl | exact .inr rfl)) pgs_nil)))) (fun _ _ _ _ _ _ => dts_n) (fun _ _ _ _ _ _ => (de_v (pv 2))))))) dss_n)
   (dss_1 (ds_r (de_f (df_l da_n)))))
theorem ok_size (hB : Bl mg) (hT : XT K mg xT) {f : Addr} {fd : FuncData} (F : Fun K "size" "size" s_size f fd) (hm : mg "size" = some (.ref f)) (d_inner_of : Def P w K mg base 3 "inner_of" 1 c_inner_of) : ∀ k, Def P w K mg base (4 + k) "size" 1 (c_size k)
  | 0 => def_stuck (ps := ["pattern"]) F sc_size (F.binds (ps := ["pattern"]) fun _ _ _ _ _ _ us hl => match us, hl with | [_], _ => rfl) hm
  | k + 1 => def_ok (N := N_size) (ps := ["pattern"]) (k := 4 + k) F sc_size (F.binds (ps := ["pattern"]) fun _ _ _ _ _ _ us hl => match us, hl with | [_], _ => rfl) hm fun B cdv A outer s H E W hr tk pw => by
    have hrec := ok_size hB hT F hm d_inner_of k
    have hu := hr.units
    have hu5 : (A.deeper (envOfC "size" (defScope s_size) s.heap.objs.size f cdv)).units + 65 < cLine := by have := hr.un; omega
    have d_inner_of := d_inner_of.mono (j := 4 + k) (by omega)
    exact (dss_c (ds_v (i := 1) sc_size.nd de_int)
   (dss_c (ds_f pw rfl (di_e (de_v (pv 0))) (dg_v (i := 2) sc_size.nd) (dss_1 (ds_v (i := 1) sc_size.nd (de_bin opR_add op_dAdd (do_v (de_bin opR_add op_dAdd (do_v (de_v (pv 1))) (do_v de_int))) (do_v (de_cb (cr_sum rfl) op_dSum hB.sum (da_c (do_v (de_f (df_lc [("inner", 3)] rfl sc_size.nd (blkOk_by (N := N_size) (sc := defScope s_size) (by decide +kernel)) (di_e (de_c d_inner_of hr tk (da_c (do_v (de_v (pv 2))) da_n))) (tgB_v (by decide)) (fun _ _ _ _ _ => (pg_name (i := 3) sc_size.nd rfl (Or.inl rfl) (by first | exact .inl rfl | exact .inr rfl))) (fun _ _ _ _ _ _ => dts_n) (fun _ _ _ _ _ _ => (de_c hrec hr takes0 (da_c (do_v (de_v (pv 3))) da_n)))))) da_n)))))))
   (dss_1 (ds_r (de_v (pv 1))))))
theorem ok_read (hB : Bl mg) (hT : XT K mg xT) {f : Addr} {fd : FuncData} (F : Fun K "read" "read" s_read f fd) (hm : mg "read" = some (.ref f)) {t_MOST_PARTS : Tok} (hc_MOST_PARTS : mg "MOST_PARTS" = some (.int 40 t_MOST_PARTS)) {t_MOST_SIGNS : Tok} (hc_MOST_SIGNS : mg "MOST_SIGNS" = some (.int 1000 t_MOST_SIGNS)) (d_scan_parts : Def P w K mg base 23 "scan_parts" 3 (c_scan_parts 6)) (d_size : Def P w K mg base 12 "size" 1 (c_size 8)) : Def P w K mg base 24 "read" 1 c_read :=
  def_ok (N := N_read) (ps := ["text"]) F sc_read (F.binds (ps := ["text"]) fun _ _ _ _ _ _ us hl => match us, hl with | [_], _ => rfl) hm fun B cdv A outer s H E W hr tk pw => by
    have hu := hr.units
    have hu5 : (A.deeper (envOfC "read" (defScope s_read) s.heap.objs.size f cdv)).units + 65 < cLine := by have := hr.un; omega
    have d_scan_parts := d_scan_parts.mono (j := 23) (by omega)
    have d_size := d_size.mono (j := 23) (by omega)
    exact (dss_c (ds_i (dt_w (dw_o (dt_n (dt_t (do_v (de_cb call_isi op_dIsI hB.isinstance (da_c (do_v (de_v (pv 0))) (da_c (do_v (de_ty hB.str)) da_n)))))) (dw_1o (dt_cmp opR_gt op_dCmp (do_v (de_cb call_len op_dLen hB.len (da_c (do_v (de_v (pv 0))) da_n))) (do_v (de_gi hc_MOST_SIGNS)) (nomark _))))) (dss_1 (ds_raise hT (by decide +kernel) (by decide +kernel) tk)) dss_n)
   (dss_c (ds_g (de_c d_scan_parts hr tk (da_c (do_v (de_v (pv 0))) (da_c (do_v de_int) (da_c (do_v de_int) da_n)))) (dg_t rfl (dgs_c (dg_v (i := 1) sc_read.nd) (dgs_c (dg_v (i := 2) sc_read.nd) dgs_n))))
   (dss_c (ds_i (dt_w (dw_o (dt_cmp opR_lt op_dCmp (do_v (de_v (pv 2))) (do_v (de_cb call_len op_dLen hB.len (da_c (do_v (de_v (pv 0))) da_n))) (nomark _)) (dw_1o (dt_cmp opR_gt op_dCmp (do_v (de_c d_size hr tk (da_c (do_v (de_v (pv 1))) da_n))) (do_v (de_gi hc_MOST_PARTS)) (nomark _))))) (dss_1 (ds_raise hT (by decide +kernel) (by decide +kernel) tk)) dss_n)
   (dss_1 (ds_r (de_v (pv 1)))))))
theorem ok__law_refused (hB : Bl mg) (hT : XT K mg xT) {f : Addr} {fd : FuncData} (F : Fun K "_law_refused" "_law_refused" s__law_refused f fd) (hm : mg "_law_refused" = some (.ref f)) (d_read : Def P w K mg base 24 "read" 1 c_read) : Def P w K mg base 25 "_law_refused" 1 c__law_refused :=
  def_ok (N := N__law_refused) (ps := ["_law_text_here"]) F sc__law_refused (F.binds (ps := ["_law_text_here"]) fun _ _ _ _ _ _ us hl => match us, hl with | [_], _ => rfl) hm fun B cdv A outer s H E W hr tk pw => by
    have hu := hr.units
    have hu5 : (A.deeper (envOfC "_law_refused" (defScope s__law_refused) s.heap.objs.size f cdv)).units + 65 < cLine := by have := hr.un; omega
    have d_read := d_read.mono (j := 24) (by omega)
    exact (dss_c (ds_tryA (i := 1) hT (hnm_of hT (by decide +kernel) (by decide +kernel)) tk sc__law_refused.nd (fun W' pn xe tk pw => (dss_1 (ds_e (de_c d_read hr tk (da_c (do_v (de_v (pv 0))) da_n))))) (fun a oe C pn c hC hxc hz hfl => (dss_c (ds_v (i := 2) sc__law_refused.nd (de_f (df_l (da_c (do_v (de_isI1 hT List.mem_cons_self hz hfl hC hxc hB.isinstance (pv 1) (.own rfl (by decide) (by decide +kernel) (by decide +kernel) .nil))) (da_c (do_v (de_isI1 hT List.mem_cons_self hz hfl hC hxc hB.isinstance (pv 1) (.own rfl (by decide) (by decide +kernel) (by decide +kernel) .nil))) (da_c (do_v (de_isI1 hT List.mem_cons_self hz hfl hC hxc hB.isinstance (pv 1) (.own rfl (by decide) (by decide +kernel) (by decide +kernel) .nil))) (da_c (do_v (de_isI1 hT List.mem_cons_self hz hfl hC hxc hB.isinstance (pv 1) (.own rfl (by decide) (by decide +kernel) (by decide +kernel) .nil))) da_n)))))))
   (dss_c (ds_v (i := 2) sc__law_refused.nd (de_bin opR_add op_dAdd (do_v (de_v (pv 2))) (do_v (de_f (df_l (da_c (do_v (de_isI1 hT List.mem_cons_self hz hfl hC hxc hB.isinstance (pv 1) (.own rfl (by decide) (by decide +kernel) (by decide +kernel) .nil))) (da_c (do_v (de_isI1 hT List.mem_cons_self hz hfl hC hxc hB.isinstance (pv 1) (.own rfl (by decide) (by decide +kernel) (by decide +kernel) .nil))) (da_c (do_v (de_isI1 hT List.mem_cons_self hz hfl hC hxc hB.isinstance (pv 1) (.own rfl (by decide) (by decide +kernel) (by decide +kernel) .nil))) da_n))))))))
   (dss_c (ds_v (i := 2) sc__law_refused.nd (de_bin opR_add op_dAdd (do_v (de_v (pv 2))) (do_v (de_f (df_l (da_c (do_v (de_isI1 hT List.mem_cons_self hz hfl hC hxc hB.isinstance (pv 1) (.own rfl (by decide) (by decide +kernel) (by decide +kernel) .nil))) (da_c (do_v (de_isI1 hT List.mem_cons_self hz hfl hC hxc hB.isinstance (pv 1) (.own rfl (by decide) (by decide +kernel) (by decide +kernel) .nil))) (da_c (do_v (de_isI1 hT List.mem_cons_self hz hfl hC hxc hB.isinstance (pv 1) (.own rfl (by decide) (by decide +kernel) (by decide +kernel) .nil))) da_n))))))))
   (dss_c (ds_v (i := 2) sc__law_refused.nd (de_bin opR_add op_dAdd (do_v (de_v (pv 2))) (do_v (de_f (df_l (da_c (do_v (de_isI1 hT List.mem_cons_self hz hfl hC hxc hB.isinstance (pv 1) (.own rfl (by decide) (by decide +kernel) (by decide +kernel) .nil))) (da_c (do_v (de_isI1 hT List.mem_cons_self hz hfl hC hxc hB.isinstance (pv 1) (.own rfl (by decide) (by decide +kernel) (by decide +kernel) .nil))) (da_c (do_v (de_isI1 hT List.mem_cons_self hz hfl hC hxc hB.isinstance (pv 1) (.own rfl (by decide) (by decide +kernel) (by decide +kernel) .nil))) da_n))))))))
   (dss_1 (ds_r (de_a (de_isI1 hT List.mem_cons_self hz hfl hC hxc hB.isinstance (pv 1) (.own rfl (by decide) (by decide +kernel) (by decide +kernel) .nil)) (de_a (de_isI1 hT List.mem_cons_self hz hfl hC hxc hB.isinstance (pv 1) (.ve rfl .nil)) (de_1 (de_cmp (opR_notIn hu5) op_dNotIn (do_v de_bl) (do_v (de_v (pv 2))) (by with_unfolding_all rfl)))))))))))))
   (dss_1 (ds_r de_bl)))
theorem ok__law_is_plain (hB : Bl mg) (hT : XT K mg xT) {f : Addr} {fd : FuncData} (F : Fun K "_law_is_plain" "_law_is_plain" s__law_is_plain f fd) (hm : mg "_law_is_plain" = some (.ref f)) : Def P w K mg base 2 "_law_is_plain" 1 c__law_is_plain :=
  def_ok (N := N__law_is_plain) (ps := ["_law_sign"]) F sc__law_is_plain (F.binds (ps := ["_law_sign"]) fun _ _ _ _ _ _ us hl => match us, hl with | [_], _ => rfl) hm fun B cdv A outer s H E W hr tk pw => by
    have hu := hr.units
    have hu5 : (A.deeper (envOfC "_law_is_plain" (defScope s__law_is_plain) s.heap.objs.size f cdv)).units + 65 < cLine := by have := hr.un; omega
    exact (dss_1 (ds_r (de_a (de_cmp opR_le op_dCmp (do_v (de_str [32])) (do_v (de_v (pv 0))) (nomark _)) (de_a (de_cmp opR_le op_dCmp (do_v (de_v (pv 0))) (do_v (de_str [126])) (nomark _)) (de_1 (de_cmp (opR_notIn hu5) op_dNotIn (do_v (de_v (pv 0))) (do_v (de_str [123, 125, 91, 93])) (by with_unfolding_all rfl)))))))
theorem ok__law_is_word (hB : Bl mg) (hT : XT K mg xT) {f : Addr} {fd : FuncData} (F : Fun K "_law_is_word" "_law_is_word" s__law_is_word f fd) (hm : mg "_law_is_word" = some (.ref f)) : Def P w K mg base 2 "_law_is_word" 1 c__law_is_word :=
  def_ok (N := N__law_is_word) (ps := ["_law_word_here"]) F sc__law_is_word (F.binds (ps := ["_law_word_here"]) fun _ _ _ _ _ _ us hl => match us, hl with | [_], _ => rfl) hm fun B cdv A outer s H E W hr tk pw => by
    have hu := hr.units
    have hu5 : (A.deeper (envOfC "_law_is_word" (defScope s__law_is_word) s.heap.objs.size f cdv)).units + 65 < cLine := by have := hr.un; omega
    exact (dss_c (ds_i (dt_w (dw_o (dt_n (dt_t (do_v (de_cb call_isi op_dIsI hB.isinstance (da_c (do_v (de_v (pv 0))) (da_c (do_v (de_ty hB.str)) da_n)))))) (dw_o (dt_cmp (op_eqD hu) op_dEq (do_v (de_v (pv 0))) (do_v (de_str [101, 108, 115, 101])) (nomark _)) (dw_o (dt_cmp opR_lt op_dCmp (do_v (de_cb call_len op_dLen hB.len (da_c (do_v (de_v (pv 0))) da_n))) (do_v de_int) (nomark _)) (dw_1o (dt_cmp opR_gt op_dCmp (do_v (de_cb call_len op_dLen hB.len (da_c (do_v (de_v (pv 0))) da_n))) (do_v de_int) (nomark _))))))) (dss_1 (ds_r de_bl)) dss_n)
   (dss_1 (ds_r (de_cmp (op_eqD hu) op_dEq (do_v (de_f (df_lc [("_law_sign", 1)] rfl sc__law_is_word.nd (blkOk_by (N := N__law_is_word) (sc := defScope s__law_is_word) (by decide +kernel)) (di_e (de_v (pv 0))) (tgB_v (by decide)) (fun _ _ _ _ _ => (pg_name (i := 1) sc__law_is_word.nd rfl (Or.inl rfl) (by first | exact .inl rfl | exact .inr rfl))) (fun _ _ _ _ _ _ => (dts_1 (dt_cmp (opR_notIn hu5) op_dNotIn (do_v (de_v (pv 1))) (do_v (de_str [97, 98, 99, 100, 101, 102, 103, 104, 105, 106, 107, 108, 109, 110, 111, 112, 113, 114, 115, 116, 117, 118, 119, 120, 121, 122])) (by with_unfolding_all rfl)))) (fun _ _ _ _ _ _ => (de_v (pv 1)))))) (do_v (de_f (df_l da_n))) (nomark _)))))
theorem ok__law_is_pairs (hB : Bl mg) (hT : XT K mg xT) {f : Addr} {fd : FuncData} (F : Fun K "_law_is_pairs" "_law_is_pairs" s__law_is_pairs f fd) (hm : mg "_law_is_pairs" = some (.ref f)) : Def P w K mg base 2 "_law_is_pairs" 2 c__law_is_pairs :=
  def_ok (N := N__law_is_pairs) (ps := ["_law_pairs", "_law_many_here"]) F sc__law_is_pairs (F.binds (ps := ["_law_pairs", "_law_many_here"]) fun _ _ _ _ _ _ us hl => match us, hl with | [_, _], _ => rfl) hm fun B cdv A outer s H E W hr tk pw => by
    have hu := hr.units
    have hu5 : (A.deeper (envOfC "_law_is_pairs" (defScope s__law_is_pairs) s.heap.objs.size f cdv)).units + 65 < cLine := by have := hr.un; omega
    exact (dss_c (ds_i (dt_w (dw_o (dt_n (dt_t (do_v (de_cb call_isi op_dIsI hB.isinstance (da_c (do_v (de_v (pv 0))) (da_c (do_v (de_ty hB.list)) da_n)))))) (dw_1o (dt_cmp opR_gt op_dCmp (do_v (de_cb call_len op_dLen hB.len (da_c (do_v (de_v (pv 0))) da_n))) (do_v (de_v (pv 1))) (nomark _))))) (dss_1 (ds_r de_bl)) dss_n)
   (dss_c (ds_f pw rfl (di_e (de_v (pv 0))) (dg_v (i := 2) sc__law_is_pairs.nd) (dss_1 (ds_i (dt_w (dw_o (dt_n (dt_t (do_v (de_cb call_isi op_dIsI hB.isinstance (da_c (do_v (de_v (pv 2))) (da_c (do_v (de_ty hB.tuple)) da_n)))))) (dw_o (dt_cmp (op_neD hu) op_dNe (do_v (de_cb call_len op_dLen hB.len (da_c (do_v (de_v (pv 2))) da_n))) (do_v de_int) (nomark _)) (dw_1o (dt_n (dt_t (do_v (de_cb call_isi op_dIsI hB.isinstance (da_c (do_v (de_ix ix_seq op_dIx (do_v (de_v (pv 2))) (do_v de_int))) (da_c (do_v (de_ty hB.str)) da_n)))))))))) (dss_1 (ds_r de_bl)) dss_n)))
   (dss_1 (ds_r (de_cmp (op_eqD hu) op_dEq (do_v (de_lenSet hB.len hB.set (do_v (de_f (df_lc [("_law_pair", 2)] rfl sc__law_is_pairs.nd (blkOk_by (N := N__law_is_pairs) (sc := defScope s__law_is_pairs) (by decide +kernel)) (di_e (de_v (pv 0))) (tgB_v (by decide)) (fun _ _ _ _ _ => (pg_name (i := 2) sc__law_is_pairs.nd rfl (Or.inl rfl) (by first | exact .inl rfl | exact .inr rfl))) (fun _ _ _ _ _ _ => dts_n) (fun _ _ _ _ _ _ => (de_ix ix_seq op_dIx (do_v (de_v (pv 2))) (do_v de_int)))))))) (do_v (de_cb call_len op_dLen hB.len (da_c (do_v (de_v (pv 0))) da_n))) (nomark _))))))
theorem ok__law_is_name (hB : Bl mg) (hT : XT K mg xT) {f : Addr} {fd : FuncData} (F : Fun K "_law_is_name" "_law_is_name" s__law_is_name f fd) (hm : mg "_law_is_name" = some (.ref f)) (d__law_is_word : Def P w K mg base 2 "_law_is_word" 1 c__law_is_word) : Def P w K mg base 3 "_law_is_name" 2 c__law_is_name :=
  def_ok (N := N__law_is_name) (ps := ["_law_name_here", "_law_how"]) F sc__law_is_name (F.binds (ps := ["_law_name_here", "_law_how"]) fun _ _ _ _ _ _ us hl => match us, hl with | [_, _], _ => rfl) hm fun B cdv A outer s H E W hr tk pw => by
    have hu := hr.units
    have hu5 : (A.deeper (envOfC "_law_is_name" (defScope s__law_is_name) s.heap.objs.size f cdv)).units + 65 < cLine := by have := hr.un; omega
    have d__law_is_word := d__law_is_word.mono (j := 2) (by omega)
    exact (dss_c (ds_i (dt_n (dt_t (do_v (de_cb call_isi op_dIsI hB.isinstance (da_c (do_v (de_v (pv 0))) (da_c (do_v (de_ty hB.str)) da_n)))))) (dss_1 (ds_r de_bl)) dss_n)
   (dss_c (ds_i (dt_w (dw_a (dt_cmp (op_eqD hu) op_dEq (do_v (de_v (pv 1))) (do_v (de_str [109, 97, 110, 121])) (nomark _)) (dw_1a (dt_cmp (op_eqD hu) op_dEq (do_v (de_sl sl_all op_dSl (do_v (de_v (pv 0))) dp_n (dp_s de_int))) (do_v (de_str [61])) (nomark _))))) (dss_c (ds_v (i := 2) sc__law_is_name.nd (de_sl sl_all op_dSl (do_v (de_v (pv 0))) (dp_s de_int) dp_n))
   (dss_c (ds_i (dt_w (dw_o (dt_cmp opR_lt op_dCmp (do_v (de_cb call_len op_dLen hB.len (da_c (do_v (de_v (pv 2))) da_n))) (do_v de_int) (nomark _)) (dw_o (dt_cmp opR_gt op_dCmp (do_v (de_cb call_len op_dLen hB.len (da_c (do_v (de_v (pv 2))) da_n))) (do_v de_int) (nomark _)) (dw_1o (dt_w (dw_a (dt_cmp opR_gt op_dCmp (do_v (de_cb call_len op_dLen hB.len (da_c (do_v (de_v (pv 2))) da_n))) (do_v de_int) (nomark _)) (dw_1a (dt_cmp (op_eqD hu) op_dEq (do_v (de_ix ix_seq op_dIx (do_v (de_v (pv 2))) (do_v de_int))) (do_v (de_str [48])) (nomark _))))))))) (dss_1 (ds_r de_bl)) dss_n)
   (dss_1 (ds_r (de_cmp (op_eqD hu) op_dEq (do_v (de_f (df_lc [("_law_sign", 3)] rfl sc__law_is_name.nd (blkOk_by (N := N__law_is_name) (sc := defScope s__law_is_name) (by decide +kernel)) (di_e (de_v (pv 2))) (tgB_v (by decide)) (fun _ _ _ _ _ => (pg_name (i := 3) sc__law_is_name.nd rfl (Or.inl rfl) (by first | exact .inl rfl | exact .inr rfl))) (fun _ _ _ _ _ _ => (dts_1 (dt_cmp (opR_notIn hu5) op_dNotIn (do_v (de_v (pv 3))) (do_v (de_str [48, 49, 50, 51, 52, 53, 54, 55, 56, 57])) (by with_unfolding_all rfl)))) (fun _ _ _ _ _ _ => (de_v (pv 3)))))) (do_v (de_f (df_l da_n))) (nomark _)))))) dss_n)
   (dss_1 (ds_r (de_o (de_cmp (op_eqD hu) op_dEq (do_v (de_v (pv 0))) (do_v (de_str [101, 108, 115, 101])) (nomark _)) (de_1 (de_c d__law_is_word hr tk (da_c (do_v (de_v (pv 0))) da_n))))))))
theorem ok__law_is_part (hB : Bl mg) (hT : XT K mg xT) {f : Addr} {fd : FuncData} (F : Fun K "_law_is_part" "_law_is_part" s__law_is_part f fd) (hm : mg "_law_is_part" = some (.ref f)) (d__law_is_word : Def P w K mg base 2 "_law_is_word" 1 c__law_is_word) (d__law_is_pairs : Def P w K mg base 2 "_law_is_pairs" 2 c__law_is_pairs) (d__law_is_name : Def P w K mg base 3 "_law_is_name" 2 c__law_is_name) {q : Nat} {rec : CallT} (hrec : Def P w K mg base (4 + q) "_law_is_pattern" 2 rec) : Def P w K mg base (4 + q + 1) "_law_is_part" 2 (c__law_is_part rec) :=
  (def_ok (N := N__law_is_part) (ps := ["_law_part", "_law_deep"]) (k := 4 + q + 0) F sc__law_is_part (F.binds (ps := ["_law_part", "_law_deep"]) fun _ _ _ _ _ _ us hl => match us, hl with | [_, _], _ => rfl) hm fun B cdv A outer s H E W hr tk pw => by
    have hrec := hrec.mono (j := 4 + q + 0) (by omega)
    have hu := hr.units
    have hu5 : (A.deeper (envOfC "_law_is_part" (defScope s__law_is_part) s.heap.objs.size f cdv)).units + 65 < cLine := by have := hr.un; omega
    have d__law_is_word := d__law_is_word.mono (j := 4 + q + 0) (by omega)
    have d__law_is_pairs := d__law_is_pairs.mono (j := 4 + q + 0) (by omega)
    have d__law_is_name := d__law_is_name.mono (j := 4 + q + 0) (by omega)
    exact (dss_c (ds_i (dt_w (dw_o (dt_n (dt_t (do_v (de_cb call_isi op_dIsI hB.isinstance (da_c (do_v (de_v (pv 0))) (da_c (do_v (de_ty hB.tuple)) da_n)))))) (dw_o (dt_cmp opR_lt op_dCmp (do_v (de_cb call_len op_dLen hB.len (da_c (do_v (de_v (pv 0))) da_n))) (do_v de_int) (nomark _)) (dw_1o (dt_n (dt_t (do_v (de_cb call_isi op_dIsI hB.isinstance (da_c (do_v (de_ix ix_seq op_dIx (do_v (de_v (pv 0))) (do_v de_int))) (da_c (do_v (de_ty hB.str)) da_n)))))))))) (dss_1 (ds_r de_bl)) dss_n)
   (dss_c (ds_i (dt_cmp (op_eqD hu) op_dEq (do_v (de_ix ix_seq op_dIx (do_v (de_v (pv 0))) (do_v de_int))) (do_v (de_str [116, 101, 120, 116])) (nomark _)) (dss_1 (ds_r (de_a (de_cmp (op_eqD hu) op_dEq (do_v (de_cb call_len op_dLen hB.len (da_c (do_v (de_v (pv 0))) da_n))) (do_v de_int) (nomark _)) (de_a (de_cb call_isi op_dIsI hB.isinstance (da_c (do_v (de_ix ix_seq op_dIx (do_v (de_v (pv 0))) (do_v de_int))) (da_c (do_v (de_ty hB.str)) da_n))) (de_1 (de_cmp (op_neD hu) op_dNe (do_v (de_ix ix_seq op_dIx (do_v (de_v (pv 0))) (do_v de_int))) (do_v (de_str [])) (nomark _))))))) dss_n)
   (dss_c (ds_i (dt_cmp (op_eqD hu) op_dEq (do_v (de_ix ix_seq op_dIx (do_v (de_v (pv 0))) (do_v de_int))) (do_v (de_str [103, 97, 112])) (nomark _)) (dss_1 (ds_r (de_a (de_cmp (op_eqD hu) op_dEq (do_v (de_cb call_len op_dLen hB.len (da_c (do_v (de_v (pv 0))) da_n))) (do_v de_int) (nomark _)) (de_1 (de_c d__law_is_word hr tk (da_c (do_v (de_ix ix_seq op_dIx (do_v (de_v (pv 0))) (do_v de_int))) da_n)))))) dss_n)
   (dss_c (ds_i (dt_w (dw_o (dt_cmp (op_neD hu) op_dNe (do_v (de_cb call_len op_dLen hB.len (da_c (do_v (de_v (pv 0))) da_n))) (do_v de_int) (nomark _)) (dw_o (dt_n (dt_t (do_v (de_c d__law_is_word hr tk (da_c (do_v (de_ix ix_seq op_dIx (do_v (de_v (pv 0))) (do_v de_int))) da_n))))) (dw_1o (dt_cmp (opR_notIn hu5) op_dNotIn (do_v (de_ix ix_seq op_dIx (do_v (de_v (pv 0))) (do_v de_int))) (do_v (de_f (df_l (da_c (do_v (de_str [115, 97, 121])) (da_c (do_v (de_str [109, 97, 110, 121])) (da_c (do_v (de_str [107, 105, 110, 100])) (da_c (do_v (de_str [114, 97, 110, 107])) da_n))))))) (by with_unfolding_all rfl)))))) (dss_1 (ds_r de_bl)) dss_n)
   (dss_c (ds_i (dt_cmp (op_eqD hu) op_dEq (do_v (de_ix ix_seq op_dIx (do_v (de_v (pv 0))) (do_v de_int))) (do_v (de_str [115, 97, 121])) (nomark _)) (dss_c (ds_i (dt_n (dt_t (do_v (de_c d__law_is_pairs hr tk (da_c (do_v (de_ix ix_seq op_dIx (do_v (de_v (pv 0))) (do_v de_int))) (da_c (do_v de_int) da_n)))))) (dss_1 (ds_r de_bl)) dss_n)
   (dss_1 (ds_r (de_cmp (op_eqD hu) op_dEq (do_v (de_f (df_lc [("_law_one", 2)] rfl sc__law_is_part.nd (blkOk_by (N := N__law_is_part) (sc := defScope s__law_is_part) (by decide +kernel)) (di_e (de_ix ix_seq op_dIx (do_v (de_v (pv 0))) (do_v de_int))) (tgB_v (by decide)) (fun _ _ _ _ _ => (pg_name (i := 2) sc__law_is_part.nd rfl (Or.inl rfl) (by first | exact .inl rfl | exact .inr rfl))) (fun _ _ _ _ _ _ => (dts_1 (dt_w (dw_o (dt_n (dt_t (do_v (de_c d__law_is_word hr takes0 (da_c (do_v (de_ix ix_seq op_dIx (do_v (de_v (pv 2))) (do_v de_int))) da_n))))) (dw_1o (dt_n (dt_t (do_v (de_c d__law_is_word hr takes0 (da_c (do_v (de_ix ix_seq op_dIx (do_v (de_v (pv 2))) (do_v de_int))) da_n)))))))))) (fun _ _ _ _ _ _ => (de_v (pv 2)))))) (do_v (de_f (df_l da_n))) (nomark _))))) dss_n)
   (dss_c (ds_i (dt_w (dw_o (dt_cmp (op_eqD hu) op_dEq (do_v (de_v (pv 1))) (do_v de_int) (nomark _)) (dw_o (dt_n (dt_t (do_v (de_c d__law_is_pairs hr tk (da_c (do_v (de_ix ix_seq op_dIx (do_v (de_v (pv 0))) (do_v de_int))) (da_c (do_v de_int) da_n)))))) (dw_1o (dt_cmp (op_eqD hu) op_dEq (do_v (de_ix ix_seq op_dIx (do_v (de_v (pv 0))) (do_v de_int))) (do_v (de_f (df_l da_n))) (nomark _)))))) (dss_1 (ds_r de_bl)) dss_n)
   (dss_c (ds_f pw rfl (di_e (de_ix ix_seq op_dIx (do_v (de_v (pv 0))) (do_v de_int))) (dg_t rfl (dgs_c (dg_v (i := 3) sc__law_is_part.nd) (dgs_c (dg_v (i := 4) sc__law_is_part.nd) dgs_n))) (dss_1 (ds_i (dt_w (dw_o (dt_n (dt_t (do_v (de_c d__law_is_name hr tk (da_c (do_v (de_v (pv 3))) (da_c (do_v (de_ix ix_seq op_dIx (do_v (de_v (pv 0))) (do_v de_int))) da_n)))))) (dw_1o (dt_n (dt_t (do_v (de_c hrec hr tk (da_c (do_v (de_v (pv 4))) (da_c (do_v (de_bin opR_add op_dAdd (do_v (de_v (pv 1))) (do_v de_int))) da_n))))))))) (dss_1 (ds_r de_bl)) dss_n)))
   (dss_1 (ds_r de_bl)))))))))).mono (by omega)
theorem ok__law_is_pattern (hB : Bl mg) (hT : XT K mg xT) {f : Addr} {fd : FuncData} (F : Fun K "_law_is_pattern" "_law_is_pattern" s__law_is_pattern f fd) (hm : mg "_law_is_pattern" = some (.ref f)) (d__law_is_plain : Def P w K mg base 2 "_law_is_plain" 1 c__law_is_plain) (d__law_is_word : Def P w K mg base 2 "_law_is_word" 1 c__law_is_word) (d__law_is_pairs : Def P w K mg base 2 "_law_is_pairs" 2 c__law_is_pairs) (d__law_is_name : Def P w K mg base 3 "_law_is_name" 2 c__law_is_name) {f__law_is_part : Addr} {fd__law_is_part : FuncData} (F__law_is_part : Fun K "_law_is_part" "_law_is_part" s__law_is_part f__law_is_part fd__law_is_part) (hm__law_is_part : mg "_law_is_part" = some (.ref f__law_is_part)) : ∀ k, Def P w K mg base (4 + 2 * k) "_law_is_pattern" 2 (c__law_is_pattern k)
  | 0 => (def_stuck (ps := ["_law_pattern_here", "_law_deep"]) (k := 3) F sc__law_is_pattern (F.binds (ps := ["_law_pattern_here", "_law_deep"]) fun _ _ _ _ _ _ us hl => match us, hl with | [_, _], _ => rfl) hm).mono (by omega)
  | k + 1 => (def_ok (N := N__law_is_pattern) (ps := ["_law_pattern_here", "_law_deep"]) (k := 4 + 2 * k + 1) F sc__law_is_pattern (F.binds (ps := ["_law_pattern_here", "_law_deep"]) fun _ _ _ _ _ _ us hl => match us, hl with | [_, _], _ => rfl) hm fun B cdv A outer s H E W hr tk pw => by
    have hrec := ok__law_is_pattern hB hT F hm d__law_is_plain d__law_is_word d__law_is_pairs d__law_is_name F__law_is_part hm__law_is_part k
    have d__law_is_part := ok__law_is_part hB hT F__law_is_part hm__law_is_part d__law_is_word d__law_is_pairs d__law_is_name (q := 2 * k) hrec
    have hrec := hrec.mono (j := 4 + 2 * k + 1) (by omega)
    have d__law_is_part := d__law_is_part.mono (j := 4 + 2 * k + 1) (by omega)
    have hu := hr.units
    have hu5 : (A.deeper (envOfC "_law_is_pattern" (defScope s__law_is_pattern) s.heap.objs.size f cdv)).units + 65 < cLine := by have := hr.un; omega
    have d__law_is_plain := d__law_is_plain.mono (j := 4 + 2 * k + 1) (by omega)
    exact (dss_c (ds_i (dt_n (dt_t (do_v (de_cb call_isi op_dIsI hB.isinstance (da_c (do_v (de_v (pv 0))) (da_c (do_v (de_ty hB.list)) da_n)))))) (dss_1 (ds_r de_bl)) dss_n)
   (dss_c (ds_v (i := 2) sc__law_is_pattern.nd de_bl)
   (dss_c (ds_f pw rfl (di_e (de_v (pv 0))) (dg_v (i := 3) sc__law_is_pattern.nd) (dss_c (ds_i (dt_n (dt_t (do_v (de_c d__law_is_part hr tk (da_c (do_v (de_v (pv 3))) (da_c (do_v (de_v (pv 1))) da_n)))))) (dss_1 (ds_r de_bl)) dss_n)
   (dss_c (ds_i (dt_w (dw_a (dt_cmp (op_eqD hu) op_dEq (do_v (de_ix ix_seq op_dIx (do_v (de_v (pv 3))) (do_v de_int))) (do_v (de_str [116, 101, 120, 116])) (nomark _)) (dw_1a (dt_t (do_v (de_v (pv 2))))))) (dss_1 (ds_r de_bl)) dss_n)
   (dss_c (ds_v (i := 2) sc__law_is_pattern.nd (de_cmp (op_eqD hu) op_dEq (do_v (de_ix ix_seq op_dIx (do_v (de_v (pv 3))) (do_v de_int))) (do_v (de_str [116, 101, 120, 116])) (nomark _)))
   (dss_1 (ds_i (dt_w (dw_a (dt_t (do_v (de_v (pv 2)))) (dw_1a (dt_cmp (op_neD hu) op_dNe (do_v (de_f (df_lc [("_law_sign", 4)] rfl sc__law_is_pattern.nd (blkOk_by (N := N__law_is_pattern) (sc := defScope s__law_is_pattern) (by decide +kernel)) (di_e (de_ix ix_seq op_dIx (do_v (de_v (pv 3))) (do_v de_int))) (tgB_v (by decide)) (fun _ _ _ _ _ => (pg_name (i := 4) sc__law_is_pattern.nd rfl (Or.inl rfl) (by first | exact .inl rfl | exact .inr rfl))) (fun _ _ _ _ _ _ => (dts_1 (dt_n (dt_t (do_v (de_c d__law_is_plain hr takes0 (da_c (do_v (de_v (pv 4))) da_n))))))) (fun _ _ _ _ _ _ => (de_v (pv 4)))))) (do_v (de_f (df_l da_n))) (nomark _))))) (dss_1 (ds_r de_bl)) dss_n))))))
   (dss_1 (ds_r de_bl)))))).mono (by omega)
theorem ok__law_many (hB : Bl mg) (hT : XT K mg xT) {f : Addr} {fd : FuncData} (F : Fun K "_law_many" "_law_many" s__law_many f fd) (hm : mg "_law_many" = some (.ref f)) : ∀ k, Def P w K mg base (2 + k) "_law_many" 1 (c__law_many k)
  | 0 => def_stuck (ps := ["_law_pattern_here"]) F sc__law_many (F.binds (ps := ["_law_pattern_here"]) fun _ _ _ _ _ _ us hl => match us, hl with | [_], _ => rfl) hm
  | k + 1 => def_ok (N := N__law_many) (ps := ["_law_pattern_here"]) (k := 2 + k) F sc__law_many (F.binds (ps := ["_law_pattern_here"]) fun _ _ _ _ _ _ us hl => match us, hl with | [_], _ => rfl) hm fun B cdv A outer s H E W hr tk pw => by
    have hrec := ok__law_many hB hT F hm k
    have hu := hr.units
    have hu5 : (A.deeper (envOfC "_law_many" (defScope s__law_many) s.heap.objs.size f cdv)).units + 65 < cLine := by have := hr.un; omega
    exact (dss_c (ds_v (i := 1) sc__law_many.nd (de_cb call_len op_dLen hB.len (da_c (do_v (de_v (pv 0))) da_n)))
   (dss_c (ds_f pw rfl (di_e (de_v (pv 0))) (dg_v (i := 2) sc__law_many.nd) (dss_1 (ds_i (dt_cmp (opR_in hu5) op_dIn (do_v (de_ix ix_seq op_dIx (do_v (de_v (pv 2))) (do_v de_int))) (do_v (de_f (df_l (da_c (do_v (de_str [109, 97, 110, 121])) (da_c (do_v (de_str [107, 105, 110, 100])) (da_c (do_v (de_str [114, 97, 110, 107])) da_n)))))) (by with_unfolding_all rfl)) (dss_1 (ds_v (i := 1) sc__law_many.nd (de_bin opR_add op_dAdd (do_v (de_v (pv 1))) (do_v (de_cb (cr_sum rfl) op_dSum hB.sum (da_c (do_v (de_f (df_lc [("_law_name_here", 3), ("_law_inner", 4)] rfl sc__law_many.nd (blkOk_by (N := N__law_many) (sc := defScope s__law_many) (by decide +kernel)) (di_e (de_ix ix_seq op_dIx (do_v (de_v (pv 2))) (do_v de_int))) (tgB_t (tgsB_c (tgB_v (by decide)) (tgsB_c (tgB_v (by decide)) tgsB_n))) (fun _ _ _ _ _ => (pg_tup rfl (pgs_cons (pg_name (i := 3) sc__law_many.nd rfl (Or.inl rfl) (by first | exact .inl rfl | exact .inr rfl)) (pgs_cons (pg_name (i := 4) sc__law_many.nd rfl (Or.inl rfl) (by first | exact .inl rfl | exact .inr rfl)) pgs_nil)))) (fun _ _ _ _ _ _ => dts_n) (fun _ _ _ _ _ _ => (de_c hrec hr takes0 (da_c (do_v (de_v (pv 4))) da_n)))))) da_n)))))) dss_n)))
   (dss_1 (ds_r (de_v (pv 1))))))
theorem ok_law (hB : Bl mg) (hT : XT K mg xT) {f : Addr} {fd : FuncData} (F : Fun K "law" "law" s_law f fd) (d__law_pattern : Def P w K mg base 5 "_law_pattern" 1 c__law_pattern) (d__law_text : Def P w K mg base 10 "_law_text" 1 (c__law_text 8)) (d__law_spoilt : Def P w K mg base 2 "_law_spoilt" 2 c__law_spoilt) (d_read : Def P w K mg base 24 "read" 1 c_read) (d__law_refused : Def P w K mg base 25 "_law_refused" 1 c__law_refused) (d__law_is_pattern : Def P w K mg base 44 "_law_is_pattern" 2 (c__law_is_pattern 20)) (d__law_many : Def P w K mg base 10 "_law_many" 1 (c__law_many 8)) : FnOk P w K mg base (L2.CX P w) 45 f fd ["_law_script"] (spOf ⟨K, mg⟩ 1 c_law) :=
  fn_ok (N := N_law) (ps := ["_law_script"]) F sc_law fun B cdv A outer s H E W hr tk pw => by
    have hu := hr.units
    have hu5 : (A.deeper (envOfC "law" (defScope s_law) s.heap.objs.size f cdv)).units + 65 < cLine := by have := hr.un; omega
    have d__law_pattern := d__law_pattern.mono (j := 44) (by omega)
    have d__law_text := d__law_text.mono (j := 44) (by omega)
    have d__law_spoilt := d__law_spoilt.mono (j := 44) (by omega)
    have d_read := d_read.mono (j := 44) (by omega)
    have d__law_refused := d__law_refused.mono (j := 44) (by omega)
    have d__law_is_pattern := d__law_is_pattern.mono (j := 44) (by omega)
    have d__law_many := d__law_many.mono (j := 44) (by omega)
    exact (dss_c (ds_v (i := 1) sc_law.nd (de_c d__law_text hr tk (da_c (do_v (de_c d__law_pattern hr tk (da_c (do_v (de_sl sl_all op_dSl (do_v (de_v (pv 0))) (dp_s de_int) dp_n)) da_n))) da_n)))
   (dss_c (ds_f pw rfl (di_e (de_sl sl_all op_dSl (do_v (de_v (pv 0))) dp_n (dp_s de_int))) (dg_v (i := 2) sc_law.nd) (dss_1 (ds_v (i := 1) sc_law.nd (de_c d__law_spoilt hr tk (da_c (do_v (de_v (pv 1))) (da_c (do_v (de_v (pv 2))) da_n))))))
   (dss_c (ds_v (i := 3) sc_law.nd de_non)
   (dss_c (ds_tryO hT (hnm_of hT (by decide +kernel) (by decide +kernel)) tk (fun W' pn xe tk pw => (dss_1 (ds_v (i := 3) sc_law.nd (de_c d_read hr tk (da_c (do_v (de_v (pv 1))) da_n))))) (fun a oe C pn c hC hxc hz hfl => (dss_1 (ds_v (i := 3) sc_law.nd de_non))))
   (dss_c (ds_i (dt_cmp opR_is op_dIs (do_v (de_v (pv 3))) (do_v de_non) (nomark _)) (dss_1 (ds_r (de_c d__law_refused hr tk (da_c (do_v (de_v (pv 1))) da_n)))) dss_n)
   (dss_c (ds_i (dt_w (dw_o (dt_n (dt_t (do_v (de_c d__law_is_pattern hr tk (da_c (do_v (de_v (pv 3))) (da_c (do_v de_int) da_n)))))) (dw_o (dt_cmp opR_gt op_dCmp (do_v (de_c d__law_many hr tk (da_c (do_v (de_v (pv 3))) da_n))) (do_v de_int) (nomark _)) (dw_1o (dt_cmp opR_gt op_dCmp (do_v (de_cb call_len op_dLen hB.len (da_c (do_v (de_v (pv 1))) da_n))) (do_v de_int) (nomark _)))))) (dss_1 (ds_r de_bl)) dss_n)
   (dss_1 (ds_r (de_cmp (op_eqD hu) op_dEq (do_v (de_c d__law_text hr tk (da_c (do_v (de_v (pv 3))) da_n))) (do_v (de_v (pv 1))) (nomark _))))))))))
end
-- levels: D:_law_plain=2 D:_law_word=2 D:_law_name=3 D:_law_gap=3 D:_law_shut=2 D:_law_binds=4 D:_law_pattern=5 D:_law_text=10 D:_law_spoilt=2 D:is_plain=2 D:run_of=2 D:is_word=2 D:scan_word=3 D:scan_name=4 D:past_sign=2 D:scan_binds=4 D:scan_arms=0 D:scan_brace=0 D:scan_parts=23 D:is_choice=2 D:inner_of=3 D:size=12 D:read=24 D:_law_refused=25 D:_law_is_plain=2 D:_law_is_word=2 D:_law_is_pairs=2 D:_law_is_name=3 D:_law_is_part=0 D:_law_is_pattern=44 D:_law_many=10 D:law=45
/-! ### the end -/
theorem all_mk {P : Program} {w : World} {K : PySem.W.Frag} {h : Heap} {mg : Str → Option Value} {fa : Addr} (hc : LawOk c_law) (X : K.In h) (G : h.Ns mainGlobals mg) (hfa : mg "law" = some (.ref fa)) {f__law_plain : Addr} {oc__law_plain kV__law_plain dc__law_plain pm__law_plain cd__law_plain ct__law_plain : Value} {od__law_plain an__law_plain : Option Addr} {sl__law_plain : Array (Option Value)} {f__law_word : Addr} {oc__law_word kV__law_word dc__law_word pm__law_word cd__law_word ct__law_word : Value} {od__law_word an__law_word : Option Addr} {sl__law_word : Array (Option Value)} {f__law_name : Addr} {oc__law_name kV__law_name dc__law_name pm__law_name cd__law_name ct__law_name : Value} {od__law_name an__law_name : Option Addr} {sl__law_name : Array (Option Value)} {f__law_gap : Addr} {oc__law_gap kV__law_gap dc__law_gap pm__law_gap cd__law_gap ct__law_gap : Value} {od__law_gap an__law_gap : Option Addr} {sl__law_gap : Array (Option Value)} {f__law_shut : Addr} {oc__law_shut kV__law_shut dc__law_shut pm__law_shut cd__law_shut ct__law_shut : Value} {od__law_shut an__law_shut : Option Addr} {sl__law_shut : Array (Option Value)} {f__law_binds : Addr} {oc__law_binds kV__law_binds dc__law_binds pm__law_binds cd__law_binds ct__law_binds : Value} {od__law_binds an__law_binds : Option Addr} {sl__law_binds : Array (Option Value)} {f__law_pattern : Addr} {oc__law_pattern kV__law_pattern dc__law_pattern pm__law_pattern cd__law_pattern ct__law_pattern : Value} {od__law_pattern an__law_pattern : Option Addr} {sl__law_pattern : Array (Option Value)} {f__law_text : Addr} {oc__law_text kV__law_text dc__law_text pm__law_text cd__law_text ct__law_text : Value} {od__law_text an__law_text : Option Addr} {sl__law_text : Array (Option Value)} {f__law_spoilt : Addr} {oc__law_spoilt kV__law_spoilt dc__law_spoilt pm__law_spoilt cd__law_spoilt ct__law_spoilt : Value} {od__law_spoilt an__law_spoilt : Option Addr} {sl__law_spoilt : Array (Option Value)} {f_is_plain : Addr} {oc_is_plain kV_is_plain dc_is_plain pm_is_plain cd_is_plain ct_is_plain : Value} {od_is_plain an_is_plain : Option Addr} {sl_is_plain : Array (Option Value)} {f_run_of : Addr} {oc_run_of kV_run_of dc_run_of pm_run_of cd_run_of ct_run_of : Value} {od_run_of an_run_of : Option Addr} {sl_run_of : Array (Option Value)} {f_is_word : Addr} {oc_is_word kV_is_word dc_is_word pm_is_word cd_is_word ct_is_word : Value} {od_is_word an_is_word : Option Addr} {sl_is_word : Array (Option Value)} {f_scan_word : Addr} {oc_scan_word kV_scan_word dc_scan_word pm_scan_word cd_scan_word ct_scan_word : Value} {od_scan_word an_scan_word : Option Addr} {sl_scan_word : Array (Option Value)} {f_scan_name : Addr} {oc_scan_name kV_scan_name dc_scan_name pm_scan_name cd_scan_name ct_scan_name : Value} {od_scan_name an_scan_name : Option Addr} {sl_scan_name : Array (Option Value)} {f_past_sign : Addr} {oc_past_sign kV_past_sign dc_past_sign pm_past_sign cd_past_sign ct_past_sign : Value} {od_past_sign an_past_sign : Option Addr} {sl_past_sign : Array (Option Value)} {f_scan_binds : Addr} {oc_scan_binds kV_scan_binds dc_scan_binds pm_scan_binds cd_scan_binds ct_scan_binds : Value} {od_scan_binds an_scan_binds : Option Addr} {sl_scan_binds : Array (Option Value)} {f_scan_arms : Addr} {oc_scan_arms kV_scan_arms dc_scan_arms pm_scan_arms cd_scan_arms ct_scan_arms : Value} {od_scan_arms an_scan_arms : Option Addr} {sl_scan_arms : Array (Option Value)} {f_scan_brace : Addr} {oc_scan_brace kV_scan_brace dc_scan_brace pm_scan_brace cd_scan_brace ct_scan_brace : Value} {od_scan_brace an_scan_brace : Option Addr} {sl_scan_brace : Array (Option Value)} {f_scan_parts : Addr} {oc_scan_parts kV_scan_parts dc_scan_parts pm_scan_parts cd_scan_parts ct_scan_parts : Value} {od_scan_parts an_scan_parts : Option Addr} {sl_scan_parts : Array (Option Value)} {f_is_choice : Addr} {oc_is_choice kV_is_choice dc_is_choice pm_is_choice cd_is_choice ct_is_choice : Value} {od_is_choice an_is_choice : Option Addr} {sl_is_choice : Array (Option Value)} {f_inner_of : Addr} {oc_inner_of kV_inner_of dc_inner_of pm_inner_of cd_inner_of ct_inner_of : Value} {od_inner_of an_inner_of : Option Addr} {sl_inner_of : Array (Option Value)} {f_size : Addr} {oc_size kV_size dc_size pm_size cd_size ct_size : Value} {od_size an_size : Option Addr} {sl_size : Array (Option Value)} {f_read : Addr} {oc_read kV_read dc_read pm_read cd_read ct_read : Value} {od_read an_read : Option Addr} {sl_read : Array (Option Value)} {f__law_refused : Addr} {oc__law_refused kV__law_refused dc__law_refused pm__law_refused cd__law_refused ct__law_refused : Value} {od__law_refused an__law_refused : Option Addr} {sl__law_refused : Array (Option Value)} {f__law_is_plain : Addr} {oc__law_is_plain kV__law_is_plain dc__law_is_plain pm__law_is_plain cd__law_is_plain ct__law_is_plain : Value} {od__law_is_plain an__law_is_plain : Option Addr} {sl__law_is_plain : Array (Option Value)} {f__law_is_word : Addr} {oc__law_is_word kV__law_is_word dc__law_is_word pm__law_is_word cd__law_is_word ct__law_is_word : Value} {od__law_is_word an__law_is_word : Option Addr} {sl__law_is_word : Array (Option Value)} {f__law_is_pairs : Addr} {oc__law_is_pairs kV__law_is_pairs dc__law_is_pairs pm__law_is_pairs cd__law_is_pairs ct__law_is_pairs : Value} {od__law_is_pairs an__law_is_pairs : Option Addr} {sl__law_is_pairs : Array (Option Value)} {f__law_is_name : Addr} {oc__law_is_name kV__law_is_name dc__law_is_name pm__law_is_name cd__law_is_name ct__law_is_name : Value} {od__law_is_name an__law_is_name : Option Addr} {sl__law_is_name : Array (Option Value)} {f__law_is_part : Addr} {oc__law_is_part kV__law_is_part dc__law_is_part pm__law_is_part cd__law_is_part ct__law_is_part : Value} {od__law_is_part an__law_is_part : Option Addr} {sl__law_is_part : Array (Option Value)} {f__law_is_pattern : Addr} {oc__law_is_pattern kV__law_is_pattern dc__law_is_pattern pm__law_is_pattern cd__law_is_pattern ct__law_is_pattern : Value} {od__law_is_pattern an__law_is_pattern : Option Addr} {sl__law_is_pattern : Array (Option Value)} {f__law_many : Addr} {oc__law_many kV__law_many dc__law_many pm__law_many cd__law_many ct__law_many : Value} {od__law_many an__law_many : Option Addr} {sl__law_many : Array (Option Value)} {f_law : Addr} {oc_law kV_law dc_law pm_law cd_law ct_law : Value} {od_law an_law : Option Addr} {sl_law : Array (Option Value)} {C_Flawed : Addr} {C_Lacking : Addr} {C_NoDay : Addr} {C_NoMessage : Addr} {C_NoNumber : Addr} {C_NoPattern : Addr} {C_NoPlace : Addr} {C_NoRules : Addr} {C_NoThing : Addr} {C_NoTongue : Addr} {C_NoValue : Addr} {C_NoWriting : Addr} {C_SayError : Addr} {C_TooGreat : Addr} {C_TooMany : Addr} {t_DEEP : Tok} {t_FIGURES : Tok} {a_k_HOWS : Addr} {es_HOWS : Array DictEntry} {nn_HOWS : Nat} {t_LETTERS : Tok} {a_k_MARKS : Addr} {es_MARKS : Array DictEntry} {nn_MARKS : Nat} {t_MOST_ARMS : Tok} {t_MOST_BINDS : Tok} {t_MOST_FIGURES : Tok} {t_MOST_PARTS : Tok} {t_MOST_SIGNS : Tok}
    (a__law_plain : PySem.W.nsIn K mainGlobals "_law_plain" = some (some (.ref f__law_plain)))
    (l__law_plain : K.lookup f__law_plain = some ⟨oc__law_plain, od__law_plain, .func (PySem.W.fnOf "_law_plain" "_law_plain" (defArgs s__law_plain) (defBody s__law_plain) (defScope s__law_plain) .none kV__law_plain dc__law_plain pm__law_plain an__law_plain cd__law_plain ct__law_plain), sl__law_plain⟩)
    (q__law_plain : PySem.W.codeIn K cd__law_plain "_law_plain" = true)
    (k__law_plain : PySem.W.keepIn K (.ref f__law_plain) = true)
    (a__law_word : PySem.W.nsIn K mainGlobals "_law_word" = some (some (.ref f__law_word)))
    (l__law_word : K.lookup f__law_word = some ⟨oc__law_word, od__law_word, .func (PySem.W.fnOf "_law_word" "_law_word" (defArgs s__law_word) (defBody s__law_word) (defScope s__law_word) .none kV__law_word dc__law_word pm__law_word an__law_word cd__law_word ct__law_word), sl__law_word⟩)
    (q__law_word : PySem.W.codeIn K cd__law_word "_law_word" = true)
    (k__law_word : PySem.W.keepIn K (.ref f__law_word) = true)
    (a__law_name : PySem.W.nsIn K mainGlobals "_law_name" = some (some (.ref f__law_name)))
    (l__law_name : K.lookup f__law_name = some ⟨oc__law_name, od__law_name, .func (PySem.W.fnOf "_law_name" "_law_name" (defArgs s__law_name) (defBody s__law_name) (defScope s__law_name) .none kV__law_name dc__law_name pm__law_name an__law_name cd__law_name ct__law_name), sl__law_name⟩)
    (q__law_name : PySem.W.codeIn K cd__law_name "_law_name" = true)
    (k__law_name : PySem.W.keepIn K (.ref f__law_name) = true)
    (a__law_gap : PySem.W.nsIn K mainGlobals "_law_gap" = some (some (.ref f__law_gap)))
    (l__law_gap : K.lookup f__law_gap = some ⟨oc__law_gap, od__law_gap, .func (PySem.W.fnOf "_law_gap" "_law_gap" (defArgs s__law_gap) (defBody s__law_gap) (defScope s__law_gap) .none kV__law_gap dc__law_gap pm__law_gap an__law_gap cd__law_gap ct__law_gap), sl__law_gap⟩)
    (q__law_gap : PySem.W.codeIn K cd__law_gap "_law_gap" = true)
    (k__law_gap : PySem.W.keepIn K (.ref f__law_gap) = true)
    (a__law_shut : PySem.W.nsIn K mainGlobals "_law_shut" = some (some (.ref f__law_shut)))
    (l__law_shut : K.lookup f__law_shut = some ⟨oc__law_shut, od__law_shut, .func (PySem.W.fnOf "_law_shut" "_law_shut" (defArgs s__law_shut) (defBody s__law_shut) (defScope s__law_shut) .none kV__law_shut dc__law_shut pm__law_shut an__law_shut cd__law_shut ct__law_shut), sl__law_shut⟩)
    (q__law_shut : PySem.W.codeIn K cd__law_shut "_law_shut" = true)
    (k__law_shut : PySem.W.keepIn K (.ref f__law_shut) = true)
    (a__law_binds : PySem.W.nsIn K mainGlobals "_law_binds" = some (some (.ref f__law_binds)))
    (l__law_binds : K.lookup f__law_binds = some ⟨oc__law_binds, od__law_binds, .func (PySem.W.fnOf "_law_binds" "_law_binds" (defArgs s__law_binds) (defBody s__law_binds) (defScope s__law_binds) .none kV__law_binds dc__law_binds pm__law_binds an__law_binds cd__law_binds ct__law_binds), sl__law_binds⟩)
    (q__law_binds : PySem.W.codeIn K cd__law_binds "_law_binds" = true)
    (k__law_binds : PySem.W.keepIn K (.ref f__law_binds) = true)
    (a__law_pattern : PySem.W.nsIn K mainGlobals "_law_pattern" = some (some (.ref f__law_pattern)))
    (l__law_pattern : K.lookup f__law_pattern = some ⟨oc__law_pattern, od__law_pattern, .func (PySem.W.fnOf "_law_pattern" "_law_pattern" (defArgs s__law_pattern) (defBody s__law_pattern) (defScope s__law_pattern) .none kV__law_pattern dc__law_pattern pm__law_pattern an__law_pattern cd__law_pattern ct__law_pattern), sl__law_pattern⟩)
    (q__law_pattern : PySem.W.codeIn K cd__law_pattern "_law_pattern" = true)
    (k__law_pattern : PySem.W.keepIn K (.ref f__law_pattern) = true)
    (a__law_text : PySem.W.nsIn K mainGlobals "_law_text" = some (some (.ref f__law_text)))
    (l__law_text : K.lookup f__law_text = some ⟨oc__law_text, od__law_text, .func (PySem.W.fnOf "_law_text" "_law_text" (defArgs s__law_text) (defBody s__law_text) (defScope s__law_text) .none kV__law_text dc__law_text pm__law_text an__law_text cd__law_text ct__law_text), sl__law_text⟩)
    (q__law_text : PySem.W.codeIn K cd__law_text "_law_text" = true)
    (k__law_text : PySem.W.keepIn K (.ref f__law_text) = true)
    (a__law_spoilt : PySem.W.nsIn K mainGlobals "_law_spoilt" = some (some (.ref f__law_spoilt)))
    (l__law_spoilt : K.lookup f__law_spoilt = some ⟨oc__law_spoilt, od__law_spoilt, .func (PySem.W.fnOf "_law_spoilt" "_law_spoilt" (defArgs s__law_spoilt) (defBody s__law_spoilt) (defScope s__law_spoilt) .none kV__law_spoilt dc__law_spoilt pm__law_spoilt an__law_spoilt cd__law_spoilt ct__law_spoilt), sl__law_spoilt⟩)
    (q__law_spoilt : PySem.W.codeIn K cd__law_spoilt "_law_spoilt" = true)
    (k__law_spoilt : PySem.W.keepIn K (.ref f__law_spoilt) = true)
    (a_is_plain : PySem.W.nsIn K mainGlobals "is_plain" = some (some (.ref f_is_plain)))
    (l_is_plain : K.lookup f_is_plain = some ⟨oc_is_plain, od_is_plain, .func (PySem.W.fnOf "is_plain" "is_plain" (defArgs s_is_plain) (defBody s_is_plain) (defScope s_is_plain) .none kV_is_plain dc_is_plain pm_is_plain an_is_plain cd_is_plain ct_is_plain), sl_is_plain⟩)
    (q_is_plain : PySem.W.codeIn K cd_is_plain "is_plain" = true)
    (k_is_plain : PySem.W.keepIn K (.ref f_is_plain) = true)
    (a_run_of : PySem.W.nsIn K mainGlobals "run_of" = some (some (.ref f_run_of)))
    (l_run_of : K.lookup f_run_of = some ⟨oc_run_of, od_run_of, .func (PySem.W.fnOf "run_of" "run_of" (defArgs s_run_of) (defBody s_run_of) (defScope s_run_of) .none kV_run_of dc_run_of pm_run_of an_run_of cd_run_of ct_run_of), sl_run_of⟩)
    (q_run_of : PySem.W.codeIn K cd_run_of "run_of" = true)
    (k_run_of : PySem.W.keepIn K (.ref f_run_of) = true)
    (a_is_word : PySem.W.nsIn K mainGlobals "is_word" = some (some (.ref f_is_word)))
    (l_is_word : K.lookup f_is_word = some ⟨oc_is_word, od_is_word, .func (PySem.W.fnOf "is_word" "is_word" (defArgs s_is_word) (defBody s_is_word) (defScope s_is_word) .none kV_is_word dc_is_word pm_is_word an_is_word cd_is_word ct_is_word), sl_is_word⟩)
    (q_is_word : PySem.W.codeIn K cd_is_word "is_word" = true)
    (k_is_word : PySem.W.keepIn K (.ref f_is_word) = true)
    (a_scan_word : PySem.W.nsIn K mainGlobals "scan_word" = some (some (.ref f_scan_word)))
    (l_scan_word : K.lookup f_scan_word = some ⟨oc_scan_word, od_scan_word, .func (PySem.W.fnOf "scan_word" "scan_word" (defArgs s_scan_word) (defBody s_scan_word) (defScope s_scan_word) .none kV_scan_word dc_scan_word pm_scan_word an_scan_word cd_scan_word ct_scan_word), sl_scan_word⟩)
    (q_scan_word : PySem.W.codeIn K cd_scan_word "scan_word" = true)
    (k_scan_word : PySem.W.keepIn K (.ref f_scan_word) = true)
    (a_scan_name : PySem.W.nsIn K mainGlobals "scan_name" = some (some (.ref f_scan_name)))
    (l_scan_name : K.lookup f_scan_name = some ⟨oc_scan_name, od_scan_name, .func (PySem.W.fnOf "scan_name" "scan_name" (defArgs s_scan_name) (defBody s_scan_name) (defScope s_scan_name) .none kV_scan_name dc_scan_name pm_scan_name an_scan_name cd_scan_name ct_scan_name), sl_scan_name⟩)
    (q_scan_name : PySem.W.codeIn K cd_scan_name "scan_name" = true)
    (k_scan_name : PySem.W.keepIn K (.ref f_scan_name) = true)
    (a_past_sign : PySem.W.nsIn K mainGlobals "past_sign" = some (some (.ref f_past_sign)))
    (l_past_sign : K.lookup f_past_sign = some ⟨oc_past_sign, od_past_sign, .func (PySem.W.fnOf "past_sign" "past_sign" (defArgs s_past_sign) (defBody s_past_sign) (defScope s_past_sign) .none kV_past_sign dc_past_sign pm_past_sign an_past_sign cd_past_sign ct_past_sign), sl_past_sign⟩)
    (q_past_sign : PySem.W.codeIn K cd_past_sign "past_sign" = true)
    (k_past_sign : PySem.W.keepIn K (.ref f_past_sign) = true)
    (a_scan_binds : PySem.W.nsIn K mainGlobals "scan_binds" = some (some (.ref f_scan_binds)))
    (l_scan_binds : K.lookup f_scan_binds = some ⟨oc_scan_binds, od_scan_binds, .func (PySem.W.fnOf "scan_binds" "scan_binds" (defArgs s_scan_binds) (defBody s_scan_binds) (defScope s_scan_binds) .none kV_scan_binds dc_scan_binds pm_scan_binds an_scan_binds cd_scan_binds ct_scan_binds), sl_scan_binds⟩)
    (q_scan_binds : PySem.W.codeIn K cd_scan_binds "scan_binds" = true)
    (k_scan_binds : PySem.W.keepIn K (.ref f_scan_binds) = true)
    (a_scan_arms : PySem.W.nsIn K mainGlobals "scan_arms" = some (some (.ref f_scan_arms)))
    (l_scan_arms : K.lookup f_scan_arms = some ⟨oc_scan_arms, od_scan_arms, .func (PySem.W.fnOf "scan_arms" "scan_arms" (defArgs s_scan_arms) (defBody s_scan_arms) (defScope s_scan_arms) .none kV_scan_arms dc_scan_arms pm_scan_arms an_scan_arms cd_scan_arms ct_scan_arms), sl_scan_arms⟩)
    (q_scan_arms : PySem.W.codeIn K cd_scan_arms "scan_arms" = true)
    (k_scan_arms : PySem.W.keepIn K (.ref f_scan_arms) = true)
    (a_scan_brace : PySem.W.nsIn K mainGlobals "scan_brace" = some (some (.ref f_scan_brace)))
    (l_scan_brace : K.lookup f_scan_brace = some ⟨oc_scan_brace, od_scan_brace, .func (PySem.W.fnOf "scan_brace" "scan_brace" (defArgs s_scan_brace) (defBody s_scan_brace) (defScope s_scan_brace) .none kV_scan_brace dc_scan_brace pm_scan_brace an_scan_brace cd_scan_brace ct_scan_brace), sl_scan_brace⟩)
    (q_scan_brace : PySem.W.codeIn K cd_scan_brace "scan_brace" = true)
    (k_scan_brace : PySem.W.keepIn K (.ref f_scan_brace) = true)
    (a_scan_parts : PySem.W.nsIn K mainGlobals "scan_parts" = some (some (.ref f_scan_parts)))
    (l_scan_parts : K.lookup f_scan_parts = some ⟨oc_scan_parts, od_scan_parts, .func (PySem.W.fnOf "scan_parts" "scan_parts" (defArgs s_scan_parts) (defBody s_scan_parts) (defScope s_scan_parts) .none kV_scan_parts dc_scan_parts pm_scan_parts an_scan_parts cd_scan_parts ct_scan_parts), sl_scan_parts⟩)
    (q_scan_parts : PySem.W.codeIn K cd_scan_parts "scan_parts" = true)
    (k_scan_parts : PySem.W.keepIn K (.ref f_scan_parts) = true)
    (a_is_choice : PySem.W.nsIn K mainGlobals "is_choice" = some (some (.ref f_is_choice)))
    (l_is_choice : K.lookup f_is_choice = some ⟨oc_is_choice, od_is_choice, .func (PySem.W.fnOf "is_choice" "is_choice" (defArgs s_is_choice) (defBody s_is_choice) (defScope s_is_choice) .none kV_is_choice dc_is_choice pm_is_choice an_is_choice cd_is_choice ct_is_choice), sl_is_choice⟩)
    (q_is_choice : PySem.W.codeIn K cd_is_choice "is_choice" = true)
    (k_is_choice : PySem.W.keepIn K (.ref f_is_choice) = true)
    (a_inner_of : PySem.W.nsIn K mainGlobals "inner_of" = some (some (.ref f_inner_of)))
    (l_inner_of : K.lookup f_inner_of = some ⟨oc_inner_of, od_inner_of, .func (PySem.W.fnOf "inner_of" "inner_of" (defArgs s_inner_of) (defBody s_inner_of) (defScope s_inner_of) .none kV_inner_of dc_inner_of pm_inner_of an_inner_of cd_inner_of ct_inner_of), sl_inner_of⟩)
    (q_inner_of : PySem.W.codeIn K cd_inner_of "inner_of" = true)
    (k_inner_of : PySem.W.keepIn K (.ref f_inner_of) = true)
    (a_size : PySem.W.nsIn K mainGlobals "size" = some (some (.ref f_size)))
    (l_size : K.lookup f_size = some ⟨oc_size, od_size, .func (PySem.W.fnOf "size" "size" (defArgs s_size) (defBody s_size) (defScope s_size) .none kV_size dc_size pm_size an_size cd_size ct_size), sl_size⟩)
    (q_size : PySem.W.codeIn K cd_size "size" = true)
    (k_size : PySem.W.keepIn K (.ref f_size) = true)
    (a_read : PySem.W.nsIn K mainGlobals "read" = some (some (.ref f_read)))
    (l_read : K.lookup f_read = some ⟨oc_read, od_read, .func (PySem.W.fnOf "read" "read" (defArgs s_read) (defBody s_read) (defScope s_read) .none kV_read dc_read pm_read an_read cd_read ct_read), sl_read⟩)
    (q_read : PySem.W.codeIn K cd_read "read" = true)
    (k_read : PySem.W.keepIn K (.ref f_read) = true)
    (a__law_refused : PySem.W.nsIn K mainGlobals "_law_refused" = some (some (.ref f__law_refused)))
    (l__law_refused : K.lookup f__law_refused = some ⟨oc__law_refused, od__law_refused, .func (PySem.W.fnOf "_law_refused" "_law_refused" (defArgs s__law_refused) (defBody s__law_refused) (defScope s__law_refused) .none kV__law_refused dc__law_refused pm__law_refused an__law_refused cd__law_refused ct__law_refused), sl__law_refused⟩)
    (q__law_refused : PySem.W.codeIn K cd__law_refused "_law_refused" = true)
    (k__law_refused : PySem.W.keepIn K (.ref f__law_refused) = true)
    (a__law_is_plain : PySem.W.nsIn K mainGlobals "_law_is_plain" = some (some (.ref f__law_is_plain)))
    (l__law_is_plain : K.lookup f__law_is_plain = some ⟨oc__law_is_plain, od__law_is_plain, .func (PySem.W.fnOf "_law_is_plain" "_law_is_plain" (defArgs s__law_is_plain) (defBody s__law_is_plain) (defScope s__law_is_plain) .none kV__law_is_plain dc__law_is_plain pm__law_is_plain an__law_is_plain cd__law_is_plain ct__law_is_plain), sl__law_is_plain⟩)
    (q__law_is_plain : PySem.W.codeIn K cd__law_is_plain "_law_is_plain" = true)
    (k__law_is_plain : PySem.W.keepIn K (.ref f__law_is_plain) = true)
    (a__law_is_word : PySem.W.nsIn K mainGlobals "_law_is_word" = some (some (.ref f__law_is_word)))
    (l__law_is_word : K.lookup f__law_is_word = some ⟨oc__law_is_word, od__law_is_word, .func (PySem.W.fnOf "_law_is_word" "_law_is_word" (defArgs s__law_is_word) (defBody s__law_is_word) (defScope s__law_is_word) .none kV__law_is_word dc__law_is_word pm__law_is_word an__law_is_word cd__law_is_word ct__law_is_word), sl__law_is_word⟩)
    (q__law_is_word : PySem.W.codeIn K cd__law_is_word "_law_is_word" = true)
    (k__law_is_word : PySem.W.keepIn K (.ref f__law_is_word) = true)
    (a__law_is_pairs : PySem.W.nsIn K mainGlobals "_law_is_pairs" = some (some (.ref f__law_is_pairs)))
    (l__law_is_pairs : K.lookup f__law_is_pairs = some ⟨oc__law_is_pairs, od__law_is_pairs, .func (PySem.W.fnOf "_law_is_pairs" "_law_is_pairs" (defArgs s__law_is_pairs) (defBody s__law_is_pairs) (defScope s__law_is_pairs) .none kV__law_is_pairs dc__law_is_pairs pm__law_is_pairs an__law_is_pairs cd__law_is_pairs ct__law_is_pairs), sl__law_is_pairs⟩)
    (q__law_is_pairs : PySem.W.codeIn K cd__law_is_pairs "_law_is_pairs" = true)
    (k__law_is_pairs : PySem.W.keepIn K (.ref f__law_is_pairs) = true)
    (a__law_is_name : PySem.W.nsIn K mainGlobals "_law_is_name" = some (some (.ref f__law_is_name)))
    (l__law_is_name : K.lookup f__law_is_name = some ⟨oc__law_is_name, od__law_is_name, .func (PySem.W.fnOf "_law_is_name" "_law_is_name" (defArgs s__law_is_name) (defBody s__law_is_name) (defScope s__law_is_name) .none kV__law_is_name dc__law_is_name pm__law_is_name an__law_is_name cd__law_is_name ct__law_is_name), sl__law_is_name⟩)
    (q__law_is_name : PySem.W.codeIn K cd__law_is_name "_law_is_name" = true)
    (k__law_is_name : PySem.W.keepIn K (.ref f__law_is_name) = true)
    (a__law_is_part : PySem.W.nsIn K mainGlobals "_law_is_part" = some (some (.ref f__law_is_part)))
    (l__law_is_part : K.lookup f__law_is_part = some ⟨oc__law_is_part, od__law_is_part, .func (PySem.W.fnOf "_law_is_part" "_law_is_part" (defArgs s__law_is_part) (defBody s__law_is_part) (defScope s__law_is_part) .none kV__law_is_part dc__law_is_part pm__law_is_part an__law_is_part cd__law_is_part ct__law_is_part), sl__law_is_part⟩)
    (q__law_is_part : PySem.W.codeIn K cd__law_is_part "_law_is_part" = true)
    (k__law_is_part : PySem.W.keepIn K (.ref f__law_is_part) = true)
    (a__law_is_pattern : PySem.W.nsIn K mainGlobals "_law_is_pattern" = some (some (.ref f__law_is_pattern)))
    (l__law_is_pattern : K.lookup f__law_is_pattern = some ⟨oc__law_is_pattern, od__law_is_pattern, .func (PySem.W.fnOf "_law_is_pattern" "_law_is_pattern" (defArgs s__law_is_pattern) (defBody s__law_is_pattern) (defScope s__law_is_pattern) .none kV__law_is_pattern dc__law_is_pattern pm__law_is_pattern an__law_is_pattern cd__law_is_pattern ct__law_is_pattern), sl__law_is_pattern⟩)
    (q__law_is_pattern : PySem.W.codeIn K cd__law_is_pattern "_law_is_pattern" = true)
    (k__law_is_pattern : PySem.W.keepIn K (.ref f__law_is_pattern) = true)
    (a__law_many : PySem.W.nsIn K mainGlobals "_law_many" = some (some (.ref f__law_many)))
    (l__law_many : K.lookup f__law_many = some ⟨oc__law_many, od__law_many, .func (PySem.W.fnOf "_law_many" "_law_many" (defArgs s__law_many) (defBody s__law_many) (defScope s__law_many) .none kV__law_many dc__law_many pm__law_many an__law_many cd__law_many ct__law_many), sl__law_many⟩)
    (q__law_many : PySem.W.codeIn K cd__law_many "_law_many" = true)
    (k__law_many : PySem.W.keepIn K (.ref f__law_many) = true)
    (a_law : PySem.W.nsIn K mainGlobals "law" = some (some (.ref f_law)))
    (l_law : K.lookup f_law = some ⟨oc_law, od_law, .func (PySem.W.fnOf "law" "law" (defArgs s_law) (defBody s_law) (defScope s_law) .none kV_law dc_law pm_law an_law cd_law ct_law), sl_law⟩)
    (q_law : PySem.W.codeIn K cd_law "law" = true)
    (k_law : PySem.W.keepIn K (.ref f_law) = true)
    (aC_Flawed : PySem.W.nsIn K mainGlobals "Flawed" = some (some (.ref C_Flawed)))
    (xbe_Flawed : PySem.W.subIn K (.ref C_Flawed) (.type "BaseException") = some true)
    (xhd_Flawed : PySem.W.hasDictIn K C_Flawed = true)
    (xty_Flawed : PySem.W.typeIn K (.ref C_Flawed) = some (.type "type"))
    (aC_Lacking : PySem.W.nsIn K mainGlobals "Lacking" = some (some (.ref C_Lacking)))
    (xbe_Lacking : PySem.W.subIn K (.ref C_Lacking) (.type "BaseException") = some true)
    (xhd_Lacking : PySem.W.hasDictIn K C_Lacking = true)
    (xty_Lacking : PySem.W.typeIn K (.ref C_Lacking) = some (.type "type"))
    (aC_NoDay : PySem.W.nsIn K mainGlobals "NoDay" = some (some (.ref C_NoDay)))
    (xbe_NoDay : PySem.W.subIn K (.ref C_NoDay) (.type "BaseException") = some true)
    (xhd_NoDay : PySem.W.hasDictIn K C_NoDay = true)
    (xty_NoDay : PySem.W.typeIn K (.ref C_NoDay) = some (.type "type"))
    (aC_NoMessage : PySem.W.nsIn K mainGlobals "NoMessage" = some (some (.ref C_NoMessage)))
    (xbe_NoMessage : PySem.W.subIn K (.ref C_NoMessage) (.type "BaseException") = some true)
    (xhd_NoMessage : PySem.W.hasDictIn K C_NoMessage = true)
    (xty_NoMessage : PySem.W.typeIn K (.ref C_NoMessage) = some (.type "type"))
    (aC_NoNumber : PySem.W.nsIn K mainGlobals "NoNumber" = some (some (.ref C_NoNumber)))
    (xbe_NoNumber : PySem.W.subIn K (.ref C_NoNumber) (.type "BaseException") = some true)
    (xhd_NoNumber : PySem.W.hasDictIn K C_NoNumber = true)
    (xty_NoNumber : PySem.W.typeIn K (.ref C_NoNumber) = some (.type "type"))
    (aC_NoPattern : PySem.W.nsIn K mainGlobals "NoPattern" = some (some (.ref C_NoPattern)))
    (xbe_NoPattern : PySem.W.subIn K (.ref C_NoPattern) (.type "BaseException") = some true)
    (xhd_NoPattern : PySem.W.hasDictIn K C_NoPattern = true)
    (xty_NoPattern : PySem.W.typeIn K (.ref C_NoPattern) = some (.type "type"))
    (aC_NoPlace : PySem.W.nsIn K mainGlobals "NoPlace" = some (some (.ref C_NoPlace)))
    (xbe_NoPlace : PySem.W.subIn K (.ref C_NoPlace) (.type "BaseException") = some true)
    (xhd_NoPlace : PySem.W.hasDictIn K C_NoPlace = true)
    (xty_NoPlace : PySem.W.typeIn K (.ref C_NoPlace) = some (.type "type"))
    (aC_NoRules : PySem.W.nsIn K mainGlobals "NoRules" = some (some (.ref C_NoRules)))
    (xbe_NoRules : PySem.W.subIn K (.ref C_NoRules) (.type "BaseException") = some true)
    (xhd_NoRules : PySem.W.hasDictIn K C_NoRules = true)
    (xty_NoRules : PySem.W.typeIn K (.ref C_NoRules) = some (.type "type"))
    (aC_NoThing : PySem.W.nsIn K mainGlobals "NoThing" = some (some (.ref C_NoThing)))
    (xbe_NoThing : PySem.W.subIn K (.ref C_NoThing) (.type "BaseException") = some true)
    (xhd_NoThing : PySem.W.hasDictIn K C_NoThing = true)
    (xty_NoThing : PySem.W.typeIn K (.ref C_NoThing) = some (.type "type"))
    (aC_NoTongue : PySem.W.nsIn K mainGlobals "NoTongue" = some (some (.ref C_NoTongue)))
    (xbe_NoTongue : PySem.W.subIn K (.ref C_NoTongue) (.type "BaseException") = some true)
    (xhd_NoTongue : PySem.W.hasDictIn K C_NoTongue = true)
    (xty_NoTongue : PySem.W.typeIn K (.ref C_NoTongue) = some (.type "type"))
    (aC_NoValue : PySem.W.nsIn K mainGlobals "NoValue" = some (some (.ref C_NoValue)))
    (xbe_NoValue : PySem.W.subIn K (.ref C_NoValue) (.type "BaseException") = some true)
    (xhd_NoValue : PySem.W.hasDictIn K C_NoValue = true)
    (xty_NoValue : PySem.W.typeIn K (.ref C_NoValue) = some (.type "type"))
    (aC_NoWriting : PySem.W.nsIn K mainGlobals "NoWriting" = some (some (.ref C_NoWriting)))
    (xbe_NoWriting : PySem.W.subIn K (.ref C_NoWriting) (.type "BaseException") = some true)
    (xhd_NoWriting : PySem.W.hasDictIn K C_NoWriting = true)
    (xty_NoWriting : PySem.W.typeIn K (.ref C_NoWriting) = some (.type "type"))
    (aC_SayError : PySem.W.nsIn K mainGlobals "SayError" = some (some (.ref C_SayError)))
    (xbe_SayError : PySem.W.subIn K (.ref C_SayError) (.type "BaseException") = some true)
    (xhd_SayError : PySem.W.hasDictIn K C_SayError = true)
    (xty_SayError : PySem.W.typeIn K (.ref C_SayError) = some (.type "type"))
    (aC_TooGreat : PySem.W.nsIn K mainGlobals "TooGreat" = some (some (.ref C_TooGreat)))
    (xbe_TooGreat : PySem.W.subIn K (.ref C_TooGreat) (.type "BaseException") = some true)
    (xhd_TooGreat : PySem.W.hasDictIn K C_TooGreat = true)
    (xty_TooGreat : PySem.W.typeIn K (.ref C_TooGreat) = some (.type "type"))
    (aC_TooMany : PySem.W.nsIn K mainGlobals "TooMany" = some (some (.ref C_TooMany)))
    (xbe_TooMany : PySem.W.subIn K (.ref C_TooMany) (.type "BaseException") = some true)
    (xhd_TooMany : PySem.W.hasDictIn K C_TooMany = true)
    (xty_TooMany : PySem.W.typeIn K (.ref C_TooMany) = some (.type "type"))
    (xex_NoPattern : PySem.W.excIn K C_NoPattern [.type "ValueError", .type "Exception", .type "BaseException", .type "object"] "ValueError.__new__" = true)
    (xkp_NoPattern : PySem.W.keepIn K (.ref C_NoPattern) = true)
    (xve_NoPattern : PySem.W.subIn K (.ref C_NoPattern) (.type "ValueError") = some true)
    (xme_NoPattern : PySem.W.subIn K (.ref C_NoPattern) (.ref C_NoPattern) = some true)
    (xg2_NoPattern : PySem.W.findIn K (.ref C_NoPattern) "__getattribute__" = some (some (.builtin "BaseException.__getattribute__")))
    (xk2_NoPattern : PySem.W.findIn K (.ref C_NoPattern) "__getattr__" = some none)
    (xa2_NoPattern : PySem.W.findIn K (.ref C_NoPattern) "__class__" = some (some (.builtin "object.__class__")))
    (xm2_NoPattern : PySem.W.mroIn K C_NoPattern (.type "object") = some true)
    (xsp : PySem.W.specialIn K (.builtin "object.__class__") "__get__" = some (some (.builtin "getset_descriptor.__get__")))
    (xta : PySem.W.takesIn K (.builtin "object.__class__") = some true)
    (xs_NoPattern_Flawed : PySem.W.subIn K (.ref C_NoPattern) (.ref C_Flawed) = some false)
    (xs_NoPattern_Lacking : PySem.W.subIn K (.ref C_NoPattern) (.ref C_Lacking) = some false)
    (xs_NoPattern_NoDay : PySem.W.subIn K (.ref C_NoPattern) (.ref C_NoDay) = some false)
    (xs_NoPattern_NoMessage : PySem.W.subIn K (.ref C_NoPattern) (.ref C_NoMessage) = some false)
    (xs_NoPattern_NoNumber : PySem.W.subIn K (.ref C_NoPattern) (.ref C_NoNumber) = some false)
    (xs_NoPattern_NoPlace : PySem.W.subIn K (.ref C_NoPattern) (.ref C_NoPlace) = some false)
    (xs_NoPattern_NoRules : PySem.W.subIn K (.ref C_NoPattern) (.ref C_NoRules) = some false)
    (xs_NoPattern_NoThing : PySem.W.subIn K (.ref C_NoPattern) (.ref C_NoThing) = some false)
    (xs_NoPattern_NoTongue : PySem.W.subIn K (.ref C_NoPattern) (.ref C_NoTongue) = some false)
    (xs_NoPattern_NoValue : PySem.W.subIn K (.ref C_NoPattern) (.ref C_NoValue) = some false)
    (xs_NoPattern_NoWriting : PySem.W.subIn K (.ref C_NoPattern) (.ref C_NoWriting) = some false)
    (xs_NoPattern_SayError : PySem.W.subIn K (.ref C_NoPattern) (.ref C_SayError) = some true)
    (xs_NoPattern_TooGreat : PySem.W.subIn K (.ref C_NoPattern) (.ref C_TooGreat) = some false)
    (xs_NoPattern_TooMany : PySem.W.subIn K (.ref C_NoPattern) (.ref C_TooMany) = some false)
    (z_ValueError : PySem.W.nsIn K mainGlobals "ValueError" = some none)
    (z_len : PySem.W.nsIn K mainGlobals "len" = some none)
    (z_isinstance : PySem.W.nsIn K mainGlobals "isinstance" = some none)
    (z_str : PySem.W.nsIn K mainGlobals "str" = some none)
    (z_int : PySem.W.nsIn K mainGlobals "int" = some none)
    (z_bool : PySem.W.nsIn K mainGlobals "bool" = some none)
    (z_list : PySem.W.nsIn K mainGlobals "list" = some none)
    (z_tuple : PySem.W.nsIn K mainGlobals "tuple" = some none)
    (z_dict : PySem.W.nsIn K mainGlobals "dict" = some none)
    (z_set : PySem.W.nsIn K mainGlobals "set" = some none)
    (z_range : PySem.W.nsIn K mainGlobals "range" = some none)
    (z_enumerate : PySem.W.nsIn K mainGlobals "enumerate" = some none)
    (z_zip : PySem.W.nsIn K mainGlobals "zip" = some none)
    (z_reversed : PySem.W.nsIn K mainGlobals "reversed" = some none)
    (z_sorted : PySem.W.nsIn K mainGlobals "sorted" = some none)
    (z_sum : PySem.W.nsIn K mainGlobals "sum" = some none)
    (z_all : PySem.W.nsIn K mainGlobals "all" = some none)
    (z_any : PySem.W.nsIn K mainGlobals "any" = some none)
    (z_abs : PySem.W.nsIn K mainGlobals "abs" = some none)
    (z_max : PySem.W.nsIn K mainGlobals "max" = some none)
    (z_min : PySem.W.nsIn K mainGlobals "min" = some none)
    (z_ord : PySem.W.nsIn K mainGlobals "ord" = some none)
    (z_divmod : PySem.W.nsIn K mainGlobals "divmod" = some none)
    (z_repr : PySem.W.nsIn K mainGlobals "repr" = some none)
    (g_DEEP : PySem.W.nsIn K mainGlobals "DEEP" = some (some (.int 4 t_DEEP)))
    (g_FIGURES : PySem.W.nsIn K mainGlobals "FIGURES" = some (some (.str (tx k_FIGURES) t_FIGURES)))
    (g_HOWS : PySem.W.nsIn K mainGlobals "HOWS" = some (some (.ref a_k_HOWS)))
    (l_k_HOWS : K.lookup a_k_HOWS = some ⟨.type "dict", none, .dict es_HOWS nn_HOWS, #[]⟩)
    (kd_HOWS : DTab w.params es_HOWS.toList k_HOWS)
    (low_HOWS : (a_k_HOWS == sysModules) = false)
    (g_LETTERS : PySem.W.nsIn K mainGlobals "LETTERS" = some (some (.str (tx k_LETTERS) t_LETTERS)))
    (g_MARKS : PySem.W.nsIn K mainGlobals "MARKS" = some (some (.ref a_k_MARKS)))
    (l_k_MARKS : K.lookup a_k_MARKS = some ⟨.type "dict", none, .dict es_MARKS nn_MARKS, #[]⟩)
    (kd_MARKS : DTab w.params es_MARKS.toList k_MARKS)
    (low_MARKS : (a_k_MARKS == sysModules) = false)
    (g_MOST_ARMS : PySem.W.nsIn K mainGlobals "MOST_ARMS" = some (some (.int 8 t_MOST_ARMS)))
    (g_MOST_BINDS : PySem.W.nsIn K mainGlobals "MOST_BINDS" = some (some (.int 4 t_MOST_BINDS)))
    (g_MOST_FIGURES : PySem.W.nsIn K mainGlobals "MOST_FIGURES" = some (some (.int 59 t_MOST_FIGURES)))
    (g_MOST_PARTS : PySem.W.nsIn K mainGlobals "MOST_PARTS" = some (some (.int 40 t_MOST_PARTS)))
    (g_MOST_SIGNS : PySem.W.nsIn K mainGlobals "MOST_SIGNS" = some (some (.int 1000 t_MOST_SIGNS))) :
    ∃ fd : FuncData, (∀ (s : Shared) (v : Value), BindsTo s fd ⟨[v], []⟩ [("_law_script", v)]) ∧ ∀ base : Heap, K.In base → base.Ns mainGlobals mg → FnOk P w K mg base (L2.CX P w) 45 fa fd ["_law_script"] (spLaw K) := by
  have e := hfa.symm.trans (PySem.W.mg_of X G a_law)
  cases e
  have hB : Bl mg := ⟨PySem.W.mg_none_of X G z_len, PySem.W.mg_none_of X G z_isinstance, PySem.W.mg_none_of X G z_str, PySem.W.mg_none_of X G z_int, PySem.W.mg_none_of X G z_bool, PySem.W.mg_none_of X G z_list, PySem.W.mg_none_of X G z_tuple, PySem.W.mg_none_of X G z_dict, PySem.W.mg_none_of X G z_set, PySem.W.mg_none_of X G z_range, PySem.W.mg_none_of X G z_enumerate, PySem.W.mg_none_of X G z_zip, PySem.W.mg_none_of X G z_reversed, PySem.W.mg_none_of X G z_sorted, PySem.W.mg_none_of X G z_sum, PySem.W.mg_none_of X G z_all, PySem.W.mg_none_of X G z_any, PySem.W.mg_none_of X G z_abs, PySem.W.mg_none_of X G z_max, PySem.W.mg_none_of X G z_min, PySem.W.mg_none_of X G z_ord, PySem.W.mg_none_of X G z_divmod, PySem.W.mg_none_of X G z_repr⟩
  have hc_DEEP := PySem.W.mg_of X G g_DEEP
  have hc_FIGURES := PySem.W.mg_of X G g_FIGURES
  have hc_HOWS := PySem.W.mg_of X G g_HOWS
  have hK_HOWS : KTb K w a_k_HOWS k_HOWS := ⟨_, _, l_k_HOWS, kd_HOWS, low_HOWS⟩
  have hc_LETTERS := PySem.W.mg_of X G g_LETTERS
  have hc_MARKS := PySem.W.mg_of X G g_MARKS
  have hK_MARKS : KTb K w a_k_MARKS k_MARKS := ⟨_, _, l_k_MARKS, kd_MARKS, low_MARKS⟩
  have hc_MOST_ARMS := PySem.W.mg_of X G g_MOST_ARMS
  have hc_MOST_BINDS := PySem.W.mg_of X G g_MOST_BINDS
  have hc_MOST_FIGURES := PySem.W.mg_of X G g_MOST_FIGURES
  have hc_MOST_PARTS := PySem.W.mg_of X G g_MOST_PARTS
  have hc_MOST_SIGNS := PySem.W.mg_of X G g_MOST_SIGNS
  have F__law_plain := fun_mk (st := s__law_plain) l__law_plain q__law_plain k__law_plain
  have F__law_word := fun_mk (st := s__law_word) l__law_word q__law_word k__law_word
  have F__law_name := fun_mk (st := s__law_name) l__law_name q__law_name k__law_name
  have F__law_gap := fun_mk (st := s__law_gap) l__law_gap q__law_gap k__law_gap
  have F__law_shut := fun_mk (st := s__law_shut) l__law_shut q__law_shut k__law_shut
  have F__law_binds := fun_mk (st := s__law_binds) l__law_binds q__law_binds k__law_binds
  have F__law_pattern := fun_mk (st := s__law_pattern) l__law_pattern q__law_pattern k__law_pattern
  have F__law_text := fun_mk (st := s__law_text) l__law_text q__law_text k__law_text
  have F__law_spoilt := fun_mk (st := s__law_spoilt) l__law_spoilt q__law_spoilt k__law_spoilt
  have F_is_plain := fun_mk (st := s_is_plain) l_is_plain q_is_plain k_is_plain
  have F_run_of := fun_mk (st := s_run_of) l_run_of q_run_of k_run_of
  have F_is_word := fun_mk (st := s_is_word) l_is_word q_is_word k_is_word
  have F_scan_word := fun_mk (st := s_scan_word) l_scan_word q_scan_word k_scan_word
  have F_scan_name := fun_mk (st := s_scan_name) l_scan_name q_scan_name k_scan_name
  have F_past_sign := fun_mk (st := s_past_sign) l_past_sign q_past_sign k_past_sign
  have F_scan_binds := fun_mk (st := s_scan_binds) l_scan_binds q_scan_binds k_scan_binds
  have F_scan_arms := fun_mk (st := s_scan_arms) l_scan_arms q_scan_arms k_scan_arms
  have F_scan_brace := fun_mk (st := s_scan_brace) l_scan_brace q_scan_brace k_scan_brace
  have F_scan_parts := fun_mk (st := s_scan_parts) l_scan_parts q_scan_parts k_scan_parts
  have F_is_choice := fun_mk (st := s_is_choice) l_is_choice q_is_choice k_is_choice
  have F_inner_of := fun_mk (st := s_inner_of) l_inner_of q_inner_of k_inner_of
  have F_size := fun_mk (st := s_size) l_size q_size k_size
  have F_read := fun_mk (st := s_read) l_read q_read k_read
  have F__law_refused := fun_mk (st := s__law_refused) l__law_refused q__law_refused k__law_refused
  have F__law_is_plain := fun_mk (st := s__law_is_plain) l__law_is_plain q__law_is_plain k__law_is_plain
  have F__law_is_word := fun_mk (st := s__law_is_word) l__law_is_word q__law_is_word k__law_is_word
  have F__law_is_pairs := fun_mk (st := s__law_is_pairs) l__law_is_pairs q__law_is_pairs k__law_is_pairs
  have F__law_is_name := fun_mk (st := s__law_is_name) l__law_is_name q__law_is_name k__law_is_name
  have F__law_is_part := fun_mk (st := s__law_is_part) l__law_is_part q__law_is_part k__law_is_part
  have F__law_is_pattern := fun_mk (st := s__law_is_pattern) l__law_is_pattern q__law_is_pattern k__law_is_pattern
  have F__law_many := fun_mk (st := s__law_many) l__law_many q__law_many k__law_many
  have F_law := fun_mk (st := s_law) l_law q_law k_law
  have xC_Flawed : mg (nmS 77431305626980) = some (.ref C_Flawed) := by rw [show nmS 77431305626980 = "Flawed" from by decide +kernel]; exact PySem.W.mg_of X G aC_Flawed
  have hcl_Flawed : HCl K C_Flawed := ⟨xbe_Flawed, xhd_Flawed, xty_Flawed⟩
  have xC_Lacking : mg (nmS 21499177861738087) = some (.ref C_Lacking) := by rw [show nmS 21499177861738087 = "Lacking" from by decide +kernel]; exact PySem.W.mg_of X G aC_Lacking
  have hcl_Lacking : HCl K C_Lacking := ⟨xbe_Lacking, xhd_Lacking, xty_Lacking⟩
  have xC_NoDay : mg (nmS 336874201465) = some (.ref C_NoDay) := by rw [show nmS 336874201465 = "NoDay" from by decide +kernel]; exact PySem.W.mg_of X G aC_NoDay
  have hcl_NoDay : HCl K C_NoDay := ⟨xbe_NoDay, xhd_NoDay, xty_NoDay⟩
  have xC_NoMessage : mg (nmS 1446866215807293155173) = some (.ref C_NoMessage) := by rw [show nmS 1446866215807293155173 = "NoMessage" from by decide +kernel]; exact PySem.W.mg_of X G aC_NoMessage
  have hcl_NoMessage : HCl K C_NoMessage := ⟨xbe_NoMessage, xhd_NoMessage, xty_NoMessage⟩
  have xC_NoNumber : mg (nmS 5651822323626567026) = some (.ref C_NoNumber) := by rw [show nmS 5651822323626567026 = "NoNumber" from by decide +kernel]; exact PySem.W.mg_of X G aC_NoNumber
  have hcl_NoNumber : HCl K C_NoNumber := ⟨xbe_NoNumber, xhd_NoNumber, xty_NoNumber⟩
  have xC_NoPattern : mg (nmS 1446867055838488785518) = some (.ref C_NoPattern) := by rw [show nmS 1446867055838488785518 = "NoPattern" from by decide +kernel]; exact PySem.W.mg_of X G aC_NoPattern
  have hcl_NoPattern : HCl K C_NoPattern := ⟨xbe_NoPattern, xhd_NoPattern, xty_NoPattern⟩
  have xC_NoPlace : mg (nmS 22077439389819749) = some (.ref C_NoPlace) := by rw [show nmS 22077439389819749 = "NoPlace" from by decide +kernel]; exact PySem.W.mg_of X G aC_NoPlace
  have hcl_NoPlace : HCl K C_NoPlace := ⟨xbe_NoPlace, xhd_NoPlace, xty_NoPlace⟩
  have xC_NoRules : mg (nmS 22077448131470707) = some (.ref C_NoRules) := by rw [show nmS 22077448131470707 = "NoRules" from by decide +kernel]; exact PySem.W.mg_of X G aC_NoRules
  have hcl_NoRules : HCl K C_NoRules := ⟨xbe_NoRules, xhd_NoRules, xty_NoRules⟩
  have xC_NoThing : mg (nmS 22077456503107175) = some (.ref C_NoThing) := by rw [show nmS 22077456503107175 = "NoThing" from by decide +kernel]; exact PySem.W.mg_of X G aC_NoThing
  have hcl_NoThing : HCl K C_NoThing := ⟨xbe_NoThing, xhd_NoThing, xty_NoThing⟩
  have xC_NoTongue : mg (nmS 5651828894943638885) = some (.ref C_NoTongue) := by rw [show nmS 5651828894943638885 = "NoTongue" from by decide +kernel]; exact PySem.W.mg_of X G aC_NoTongue
  have hcl_NoTongue : HCl K C_NoTongue := ⟨xbe_NoTongue, xhd_NoTongue, xty_NoTongue⟩
  have xC_NoValue : mg (nmS 22077464975799653) = some (.ref C_NoValue) := by rw [show nmS 22077464975799653 = "NoValue" from by decide +kernel]; exact PySem.W.mg_of X G aC_NoValue
  have hcl_NoValue : HCl K C_NoValue := ⟨xbe_NoValue, xhd_NoValue, xty_NoValue⟩
  have xC_NoWriting : mg (nmS 1446869044807779053159) = some (.ref C_NoWriting) := by rw [show nmS 1446869044807779053159 = "NoWriting" from by decide +kernel]; exact PySem.W.mg_of X G aC_NoWriting
  have hcl_NoWriting : HCl K C_NoWriting := ⟨xbe_NoWriting, xhd_NoWriting, xty_NoWriting⟩
  have xC_SayError : mg (nmS 6008216717068758898) = some (.ref C_SayError) := by rw [show nmS 6008216717068758898 = "SayError" from by decide +kernel]; exact PySem.W.mg_of X G aC_SayError
  have hcl_SayError : HCl K C_SayError := ⟨xbe_SayError, xhd_SayError, xty_SayError⟩
  have xC_TooGreat : mg (nmS 6084203974253437300) = some (.ref C_TooGreat) := by rw [show nmS 6084203974253437300 = "TooGreat" from by decide +kernel]; exact PySem.W.mg_of X G aC_TooGreat
  have hcl_TooGreat : HCl K C_TooGreat := ⟨xbe_TooGreat, xhd_TooGreat, xty_TooGreat⟩
  have xC_TooMany : mg (nmS 23766421873979001) = some (.ref C_TooMany) := by rw [show nmS 23766421873979001 = "TooMany" from by decide +kernel]; exact PySem.W.mg_of X G aC_TooMany
  have hcl_TooMany : HCl K C_TooMany := ⟨xbe_TooMany, xhd_TooMany, xty_TooMany⟩
  have xcl_NoPattern : XCl K C_NoPattern := ⟨xex_NoPattern, xkp_NoPattern, xty_NoPattern, ⟨xg2_NoPattern, xk2_NoPattern, xbe_NoPattern, xhd_NoPattern, xa2_NoPattern, xsp, xta, xm2_NoPattern⟩, xve_NoPattern, xme_NoPattern⟩
  have hT : XT K mg xT := (.cons xC_NoPattern xC_NoPattern xme_NoPattern xcl_NoPattern hcl_NoPattern (.cons xC_NoPattern xC_Flawed xs_NoPattern_Flawed xcl_NoPattern hcl_Flawed (.cons xC_NoPattern xC_Lacking xs_NoPattern_Lacking xcl_NoPattern hcl_Lacking (.cons xC_NoPattern xC_NoDay xs_NoPattern_NoDay xcl_NoPattern hcl_NoDay (.cons xC_NoPattern xC_NoMessage xs_NoPattern_NoMessage xcl_NoPattern hcl_NoMessage (.cons xC_NoPattern xC_NoNumber xs_NoPattern_NoNumber xcl_NoPattern hcl_NoNumber (.cons xC_NoPattern xC_NoPlace xs_NoPattern_NoPlace xcl_NoPattern hcl_NoPlace (.cons xC_NoPattern xC_NoRules xs_NoPattern_NoRules xcl_NoPattern hcl_NoRules (.cons xC_NoPattern xC_NoThing xs_NoPattern_NoThing xcl_NoPattern hcl_NoThing (.cons xC_NoPattern xC_NoTongue xs_NoPattern_NoTongue xcl_NoPattern hcl_NoTongue (.cons xC_NoPattern xC_NoValue xs_NoPattern_NoValue xcl_NoPattern hcl_NoValue (.cons xC_NoPattern xC_NoWriting xs_NoPattern_NoWriting xcl_NoPattern hcl_NoWriting (.cons xC_NoPattern xC_SayError xs_NoPattern_SayError xcl_NoPattern hcl_SayError (.cons xC_NoPattern xC_TooGreat xs_NoPattern_TooGreat xcl_NoPattern hcl_TooGreat (.cons xC_NoPattern xC_TooMany xs_NoPattern_TooMany xcl_NoPattern hcl_TooMany (.nil (PySem.W.mg_none_of X G z_ValueError)))))))))))))))))
  refine ⟨PySem.W.fnOf "law" "law" (defArgs s_law) (defBody s_law) (defScope s_law) .none kV_law dc_law pm_law an_law cd_law ct_law, fun s v => .of_eq rfl, fun base _ _ => ?_⟩
  have d__law_plain : Def P w K mg base 2 "_law_plain" 2 c__law_plain := ok__law_plain hB hT F__law_plain (PySem.W.mg_of X G a__law_plain)
  have d__law_word : Def P w K mg base 2 "_law_word" 1 c__law_word := ok__law_word hB hT F__law_word (PySem.W.mg_of X G a__law_word)
  have d__law_name : Def P w K mg base 3 "_law_name" 2 c__law_name := ok__law_name hB hT F__law_name (PySem.W.mg_of X G a__law_name) d__law_word
  have d__law_gap : Def P w K mg base 3 "_law_gap" 1 c__law_gap := ok__law_gap hB hT F__law_gap (PySem.W.mg_of X G a__law_gap) d__law_word
  have d__law_shut : Def P w K mg base 2 "_law_shut" 2 c__law_shut := ok__law_shut hB hT F__law_shut (PySem.W.mg_of X G a__law_shut)
  have d__law_binds : Def P w K mg base 4 "_law_binds" 1 c__law_binds := ok__law_binds hB hT F__law_binds (PySem.W.mg_of X G a__law_binds) d__law_gap
  have d__law_pattern : Def P w K mg base 5 "_law_pattern" 1 c__law_pattern := ok__law_pattern hB hT F__law_pattern (PySem.W.mg_of X G a__law_pattern) d__law_plain d__law_name d__law_gap d__law_shut d__law_binds d__law_word
  have d__law_text : Def P w K mg base 10 "_law_text" 1 (c__law_text 8) := ok__law_text hB hT F__law_text (PySem.W.mg_of X G a__law_text) 8
  have d__law_spoilt : Def P w K mg base 2 "_law_spoilt" 2 c__law_spoilt := ok__law_spoilt hB hT F__law_spoilt (PySem.W.mg_of X G a__law_spoilt)
  have d_is_plain : Def P w K mg base 2 "is_plain" 1 c_is_plain := ok_is_plain hB hT F_is_plain (PySem.W.mg_of X G a_is_plain)
  have d_run_of : Def P w K mg base 2 "run_of" 3 c_run_of := ok_run_of hB hT F_run_of (PySem.W.mg_of X G a_run_of)
  have d_is_word : Def P w K mg base 2 "is_word" 1 c_is_word := ok_is_word hB hT F_is_word (PySem.W.mg_of X G a_is_word) hc_LETTERS
  have d_scan_word : Def P w K mg base 3 "scan_word" 2 c_scan_word := ok_scan_word hB hT F_scan_word (PySem.W.mg_of X G a_scan_word) hc_LETTERS d_run_of d_is_word
  have d_scan_name : Def P w K mg base 4 "scan_name" 3 c_scan_name := ok_scan_name hB hT F_scan_name (PySem.W.mg_of X G a_scan_name) hc_FIGURES hc_LETTERS hc_MOST_FIGURES d_run_of d_scan_word
  have d_past_sign : Def P w K mg base 2 "past_sign" 3 c_past_sign := ok_past_sign hB hT F_past_sign (PySem.W.mg_of X G a_past_sign)
  have d_scan_binds : Def P w K mg base 4 "scan_binds" 2 c_scan_binds := ok_scan_binds hB hT F_scan_binds (PySem.W.mg_of X G a_scan_binds) hc_MOST_BINDS d_scan_word d_past_sign
  have d_scan_parts : Def P w K mg base 23 "scan_parts" 3 (c_scan_parts 6) := ok_scan_parts hB hT F_scan_parts (PySem.W.mg_of X G a_scan_parts) hc_DEEP hc_HOWS hK_HOWS hc_MOST_ARMS d_is_plain d_scan_name d_past_sign d_scan_word d_scan_binds F_scan_arms (PySem.W.mg_of X G a_scan_arms) F_scan_brace (PySem.W.mg_of X G a_scan_brace) 6
  have d_is_choice : Def P w K mg base 2 "is_choice" 1 c_is_choice := ok_is_choice hB hT F_is_choice (PySem.W.mg_of X G a_is_choice) hc_MARKS hK_MARKS
  have d_inner_of : Def P w K mg base 3 "inner_of" 1 c_inner_of := ok_inner_of hB hT F_inner_of (PySem.W.mg_of X G a_inner_of) d_is_choice
  have d_size : Def P w K mg base 12 "size" 1 (c_size 8) := ok_size hB hT F_size (PySem.W.mg_of X G a_size) d_inner_of 8
  have d_read : Def P w K mg base 24 "read" 1 c_read := ok_read hB hT F_read (PySem.W.mg_of X G a_read) hc_MOST_PARTS hc_MOST_SIGNS d_scan_parts d_size
  have d__law_refused : Def P w K mg base 25 "_law_refused" 1 c__law_refused := ok__law_refused hB hT F__law_refused (PySem.W.mg_of X G a__law_refused) d_read
  have d__law_is_plain : Def P w K mg base 2 "_law_is_plain" 1 c__law_is_plain := ok__law_is_plain hB hT F__law_is_plain (PySem.W.mg_of X G a__law_is_plain)
  have d__law_is_word : Def P w K mg base 2 "_law_is_word" 1 c__law_is_word := ok__law_is_word hB hT F__law_is_word (PySem.W.mg_of X G a__law_is_word)
  have d__law_is_pairs : Def P w K mg base 2 "_law_is_pairs" 2 c__law_is_pairs := ok__law_is_pairs hB hT F__law_is_pairs (PySem.W.mg_of X G a__law_is_pairs)
  have d__law_is_name : Def P w K mg base 3 "_law_is_name" 2 c__law_is_name := ok__law_is_name hB hT F__law_is_name (PySem.W.mg_of X G a__law_is_name) d__law_is_word
  have d__law_is_pattern : Def P w K mg base 44 "_law_is_pattern" 2 (c__law_is_pattern 20) := ok__law_is_pattern hB hT F__law_is_pattern (PySem.W.mg_of X G a__law_is_pattern) d__law_is_plain d__law_is_word d__law_is_pairs d__law_is_name F__law_is_part (PySem.W.mg_of X G a__law_is_part) 20
  have d__law_many : Def P w K mg base 10 "_law_many" 1 (c__law_many 8) := ok__law_many hB hT F__law_many (PySem.W.mg_of X G a__law_many) 8
  exact law_imp hc (ok_law hB hT F_law d__law_pattern d__law_text d__law_spoilt d_read d__law_refused d__law_is_pattern d__law_many)
end M

namespace M
open PySem PySem.Spec PyProof.Rows L2 DL Pt
abbrev np : Exc := ⟨1446867055838488785518, []⟩
/-- the place at which the rest r of s begins -/
def At (s r : List Nat) : Int := (s.length : Int) - r.length
section
variable {s r : List Nat}
theorem At_0 : At s s = 0 := by unfold At; omega
theorem At_nil : At s [] = s.length := by unfold At; simp
theorem At_nn (h : r <:+ s) : 0 ≤ At s r := by have := h.length_le; unfold At; omega
theorem At_le : At s r ≤ s.length := by unfold At; omega
theorem At_lt (h : r <:+ s) (hn : r ≠ []) : At s r < s.length := by
  have : r.length ≠ 0 := by simpa using hn
  unfold At; omega
theorem At_tl (hn : r ≠ []) : At s r + 1 = At s r.tail := by
  cases r with
  | nil => exact absurd rfl hn
  | cons c r => unfold At; simp only [List.tail_cons, List.length_cons]; omega
theorem At_add (w r' : List Nat) (h : r = w ++ r') : At s r + w.length = At s r' := by
  subst h; unfold At; rw [List.length_append]; omega
theorem At_nat (h : r <:+ s) : (At s r).toNat = s.length - r.length := by have := h.length_le; unfold At; omega
theorem At_drop (h : r <:+ s) : s.drop (At s r).toNat = r := by
  rw [At_nat h]; exact (List.suffix_iff_eq_drop.mp h).symm
theorem At_sl (h : r <:+ s) (hl : s.length ≤ 16777216) : dSl (.str s) (some (At s r)) (some (At s r + 1)) = some (.str (r.take 1)) := by
  rw [dSl_s _ _ _ hl, cut_mid _ (At_nn h) (by have := At_nn h; omega)]
  have h1 : (At s r + 1).toNat = 1 + (At s r).toNat := by have := At_nn h; omega
  rw [h1, List.drop_take, At_drop h, show 1 + (At s r).toNat - (At s r).toNat = 1 by omega]
theorem At_cut {w r' : List Nat} (h : r <:+ s) (e : r = w ++ r') (hl : s.length ≤ 16777216) : dSl (.str s) (some (At s r)) (some (At s r')) = some (.str w) := by
  have h' : r' <:+ s := List.IsSuffix.trans ⟨w, e.symm⟩ h
  rw [dSl_s _ _ _ hl, cut_mid _ (At_nn h) (At_nn h'), List.drop_take, At_drop h]
  have h1 : (At s r').toNat - (At s r).toNat = w.length := by
    rw [At_nat h, At_nat h']
    have := h.length_le
    have : r.length = w.length + r'.length := by rw [e, List.length_append]
    omega
  rw [h1, e, List.take_left']
  rfl
theorem At_ix {c : Nat} (h : (c :: r) <:+ s) (hl : s.length ≤ 16777216) : dIx (.str s) (.int (At s (c :: r))) = some (.str [c]) := by
  rw [dIx_s _ _ hl, atI_nn _ (At_nn h)]
  have := At_drop h
  have h2 : s[(At s (c :: r)).toNat]? = (s.drop (At s (c :: r)).toNat)[0]? := by rw [List.getElem?_drop]; simp
  rw [h2, this]; rfl
theorem At_ltT (h : r <:+ s) (hn : r ≠ []) : dLt (.int (At s r)) (.int (s.length : Int)) = some (.bl true) := by rw [dLt_i, decide_eq_true (At_lt h hn)]
theorem At_ltF : dLt (.int (At s [])) (.int (s.length : Int)) = some (.bl false) := by rw [dLt_i, At_nil, decide_eq_false (by omega)]
end
theorem suf_tl {c : Nat} {r s : List Nat} (h : (c :: r) <:+ s) : r <:+ s := (List.suffix_cons c r).trans h
section
variable {s L : List Nat} {p : Nat → Bool} {st : Store}
theorem run_loop (hp : ∀ c, p c = decide (c ∈ L)) (hl : s.length ≤ 16777216) (a : D) : ∀ r : List Nat, r <:+ s →
    sW W_run_of_1 L_run_of_1 [.d (.str s), .d a, .d (.str L), .d (.int (At s r))] st = .nx [.d (.str s), .d a, .d (.str L), .d (.int (At s (r.dropWhile p)))] st
  | [], h => by
    have h1 := At_ltF (s := s)
    have h2 : dLen [.str s] = some (.int (s.length : Int)) := dLen_s _ hl
    refine sW_false ?_
    rw [W_run_of_1]
    generalize D.str s = sd at *
    generalize (s.length : Int) = n at *
    simp only [List.dropWhile_nil]
    generalize At s [] = q at *
    simp (maxSteps := 30000) (disch := first | assumption | (simp; done) | omega | (simp; omega)) [h1, h2]
  | c :: r, h => by
    have h1 := At_ltT h (by simp)
    have h2 : dLen [.str s] = some (.int (s.length : Int)) := dLen_s _ hl
    have h3 := At_ix h hl
    have h4 : inD (.str [c]) (.str L) = some (p c) := by rw [inD_sg, hp]
    cases hc : p c with
    | false =>
      rw [hc] at h4
      rw [List.dropWhile_cons, if_neg (by rw [hc]; decide)]
      refine sW_false ?_
      rw [W_run_of_1]
      generalize D.str s = sd at *
      generalize D.str [c] = cd at *
      generalize D.str L = ld at *
      generalize (s.length : Int) = n at *
      generalize At s (c :: r) = q at *
      simp (maxSteps := 30000) (disch := first | assumption | (simp; done) | omega | (simp; omega)) [h1, h2, h3, h4]
    | true =>
      rw [hc] at h4
      rw [List.dropWhile_cons, if_pos hc]
      have ih := run_loop hp hl a r (suf_tl h)
      have h5 : At s (c :: r) + 1 = At s r := At_tl (by simp)
      rw [← ih]
      refine sW_true (S1 := [.d (.str s), .d a, .d (.str L), .d (.int (At s (c :: r)))]) (st1 := st) ?_ ?_
      · rw [W_run_of_1]
        generalize D.str s = sd at *
        generalize D.str [c] = cd at *
        generalize D.str L = ld at *
        generalize (s.length : Int) = n at *
        generalize At s (c :: r) = q at *
        simp (maxSteps := 30000) (disch := first | assumption | (simp; done) | omega | (simp; omega)) [h1, h2, h3, h4]
      · rw [L_run_of_1, ← h5]
        generalize D.str s = sd at *
        generalize D.str L = ld at *
        generalize At s (c :: r) = q at *
        simp (maxSteps := 30000) (disch := first | assumption | (simp; done) | omega | (simp; omega)) []
theorem run_ok (hp : ∀ c, p c = decide (c ∈ L)) (hl : s.length ≤ 16777216) {r : List Nat} (h : r <:+ s) : c_run_of [.str s, .int (At s r), .str L] st = .ok (.str (r.takeWhile p)) [] st := by
  have h1 := run_loop (st := st) hp hl (.int (At s r)) r h
  have h2 := At_cut h (List.takeWhile_append_dropWhile (p := p) (l := r)).symm hl
  rw [c_run_of, runB_k, b_run_of]
  generalize D.str s = sd at *
  generalize D.str L = ld at *
  generalize At s r = q at *
  generalize At s (r.dropWhile p) = q2 at *
  simp (maxSteps := 30000) (disch := first | assumption | (simp; done) | omega | (simp; omega)) [h1, h2]
end
theorem isL_mem (c : Nat) : isL c = decide (c ∈ k_LETTERS) := by
  have : (c ∈ k_LETTERS) ↔ (97 ≤ c ∧ c ≤ 122) := by
    simp only [List.mem_cons, List.not_mem_nil, or_false]; omega
  unfold isL
  by_cases h : 97 ≤ c ∧ c ≤ 122
  · rw [decide_eq_true (this.mpr h), decide_eq_true h.1, decide_eq_true h.2]; rfl
  · rw [decide_eq_false (fun z => h (this.mp z))]
    by_cases h1 : 97 ≤ c
    · rw [decide_eq_false (fun z => h ⟨h1, z⟩)]; simp
    · rw [decide_eq_false h1]; rfl
theorem isF_mem (c : Nat) : isF c = decide (c ∈ k_FIGURES) := by
  have : (c ∈ k_FIGURES) ↔ (48 ≤ c ∧ c ≤ 57) := by
    simp only [List.mem_cons, List.not_mem_nil, or_false]; omega
  unfold isF
  by_cases h : 48 ≤ c ∧ c ≤ 57
  · rw [decide_eq_true (this.mpr h), decide_eq_true h.1, decide_eq_true h.2]; rfl
  · rw [decide_eq_false (fun z => h (this.mp z))]
    by_cases h1 : 48 ≤ c
    · rw [decide_eq_false (fun z => h ⟨h1, z⟩)]; simp
    · rw [decide_eq_false h1]; rfl
end M

namespace M
open PySem PySem.Spec PyProof.Rows L2 DL Pt
theorem w_key (L : List Nat) (s : List Nat) (st : Store) : lcL (gV 1) [1] tY (o2E dIn (oV (vE 1)) (oV (kE (D.str L)))) (sgs s) [.d (.str s), .no] st = .ok ((s.map fun c => decide (c ∈ L)).map D.bl) [.d (.str s), .no] st := by
  have key := lcL_map (g := gV 1) (own := [1]) (f := o2E dIn (oV (vE 1)) (oV (kE (D.str L)))) (S := [.d (.str s), .no]) (st := st) (fun d => match d with | .str [c] => .bl (decide (c ∈ L)) | _ => .non) (sgs s) (fun d hd => by
    obtain ⟨c, _, rfl⟩ := mem_sgs hd
    exact ⟨_, _, rfl, by simp <;> rfl, by simp⟩)
  rw [key]
  simp [sgs, List.map_map, Function.comp_def]
theorem is_word_ok (s : List Nat) (st : Store) (hl : s.length ≤ 16777216) : c_is_word [.str s] st = .ok (.bl (Pt.isW s)) [] st := by
  have key := w_key k_LETTERS s st
  have ea : (s.map fun c => decide (c ∈ k_LETTERS)).all id = s.all Pt.isL := by
    rw [List.all_map]; congr 1; funext c; exact (isL_mem c).symm
  by_cases c1 : s.length < 1
  · have : s = [] := List.eq_nil_of_length_eq_zero (by omega)
    subst this
    simp [c_is_word, runB_a, b_is_word, Pt.isW]
  by_cases c2 : 8 < s.length
  · have c3 : ¬ s.length ≤ 8 := by omega
    have c4 : (8 : Int) < (s.length : Int) := by omega
    have c5 : s ≠ [] := fun e => by subst e; simp at c1
    simp [c_is_word, runB_a, b_is_word, Pt.isW, hl, c2, c3, c4, c5]
  have c3 : s.length ≤ 8 := by omega
  have c4 : ¬ (8 : Int) < (s.length : Int) := by omega
  have c5 : s ≠ [] := fun e => by subst e; simp at c1
  have c6 : 1 ≤ s.length := by omega
  have c7 : ¬ (s.length : Int) < 1 := by omega
  by_cases c8 : s = [101, 108, 115, 101]
  · subst c8
    simp [c_is_word, runB_a, b_is_word, Pt.isW]
  · simp only [c_is_word, runB_a, b_is_word, E_is_word_1]
    generalize k_LETTERS = L at key ea ⊢
    simp [Pt.isW, hl, c2, c3, c4, c5, c6, c7, c8, key, -List.all_map, -List.map_map, ea]
section
variable {s : List Nat} {st : Store}
theorem tk_len {s r : List Nat} (p : Nat → Bool) (h : r <:+ s) : (r.takeWhile p).length ≤ s.length := by
  have h1 := (List.takeWhile_prefix (p := p) (l := r)).length_le
  have h2 := h.length_le
  omega
theorem word_ok (hl : s.length ≤ 16777216) {r : List Nat} (h : r <:+ s) : c_scan_word [.str s, .int (At s r)] st = match Pt.word r with
    | some (w, r') => .ok (.tup [.str w, .int (At s r')]) [] st
    | none => .exc np [] st := by
  have h1 := run_ok (st := st) isL_mem hl h
  have hw : (r.takeWhile Pt.isL).length ≤ 16777216 := by have := tk_len Pt.isL h; omega
  have h2 := is_word_ok (r.takeWhile Pt.isL) st hw
  have h3 : dLen [.str (r.takeWhile Pt.isL)] = some (.int ((r.takeWhile Pt.isL).length : Int)) := dLen_s _ hw
  have h4 := At_add (s := s) _ _ (List.takeWhile_append_dropWhile (p := Pt.isL) (l := r)).symm
  unfold Pt.word
  cases hc : Pt.isW (r.takeWhile Pt.isL) with
  | true =>
    rw [hc] at h2
    rw [if_pos rfl, c_scan_word, runB_k, b_scan_word]
    simp only
    rw [← h4]
    generalize D.str (r.takeWhile Pt.isL) = wd at *
    generalize D.str s = sd at *
    generalize D.str k_LETTERS = ld at *
    generalize ((r.takeWhile Pt.isL).length : Int) = n at *
    generalize At s r = q at *
    simp (maxSteps := 30000) (disch := first | assumption | (simp; done) | omega | (simp; omega)) [h1, h2, h3]
  | false =>
    rw [hc] at h2
    rw [if_neg (by decide), c_scan_word, runB_k, b_scan_word]
    simp only
    generalize D.str (r.takeWhile Pt.isL) = wd at *
    generalize D.str s = sd at *
    generalize D.str k_LETTERS = ld at *
    generalize At s r = q at *
    simp (maxSteps := 30000) (disch := first | assumption | (simp; done) | omega | (simp; omega)) [h1, h2, h3]
theorem hd_take {r : List Nat} {c : Nat} : (r.take 1 = [c]) ↔ r.head? = some c := by
  cases r <;> simp
theorem sign_ok (hl : s.length ≤ 16777216) {r : List Nat} (h : r <:+ s) (c : Nat) : c_past_sign [.str s, .int (At s r), .str [c]] st = match Pt.sign c r with
    | some r' => .ok (.int (At s r')) [] st
    | none => .exc np [] st := by
  have h1 := At_sl h hl
  have e1 : eqOk (.str (r.take 1)) = true := rfl
  have e2 : eqOk (.str [c]) = true := rfl
  unfold Pt.sign
  by_cases hc : r.head? = some c
  · have e3 : deq (.str (r.take 1)) (.str [c]) = true := by rw [deq_str, decide_eq_true (hd_take.mpr hc)]
    have h5 : At s r + 1 = At s r.tail := At_tl (fun z => by subst z; cases hc)
    rw [if_pos hc, c_past_sign, runB_k, b_past_sign]
    simp only
    rw [← h5]
    generalize D.str (r.take 1) = wd at *
    generalize D.str s = sd at *
    generalize D.str [c] = ld at *
    generalize At s r = q at *
    simp (maxSteps := 30000) (disch := first | assumption | (simp; done) | omega | (simp; omega)) [h1, e1, e2, e3]
  · have e3 : deq (.str (r.take 1)) (.str [c]) = false := by rw [deq_str, decide_eq_false (fun z => hc (hd_take.mp z))]
    rw [if_neg hc, c_past_sign, runB_k, b_past_sign]
    simp only
    generalize D.str (r.take 1) = wd at *
    generalize D.str s = sd at *
    generalize D.str [c] = ld at *
    generalize At s r = q at *
    simp (maxSteps := 30000) (disch := first | assumption | (simp; done) | omega | (simp; omega)) [h1, e1, e2, e3]
end
end M

namespace M
open PySem PySem.Spec PyProof.Rows L2 DL Pt
theorem hs_many (h : H) : deq (.str h.s) (.str [109, 97, 110, 121]) = decide (h = .many) := by
  rw [deq_str]; cases h <;> decide
theorem okFig_cases (f : List Nat) (hf : f.all Pt.isF = true) : (f = [] ∧ okFig f = false) ∨ (f ≠ [] ∧ 59 < f.length ∧ okFig f = false) ∨ (∃ c g, f = c :: g ∧ f.length ≤ 59 ∧ 1 < f.length ∧ c = 48 ∧ okFig f = false) ∨ (∃ c g, f = c :: g ∧ f.length ≤ 59 ∧ ¬ (1 < f.length ∧ c = 48) ∧ okFig f = true) := by
  cases f with
  | nil => exact .inl ⟨rfl, rfl⟩
  | cons c g =>
    by_cases h1 : 59 < (c :: g).length
    · refine .inr (.inl ⟨by simp, h1, ?_⟩)
      unfold okFig
      rw [decide_eq_false (show ¬ (c :: g).length ≤ 59 by omega)]; simp
    · by_cases h2 : 1 < (c :: g).length ∧ c = 48
      · refine .inr (.inr (.inl ⟨c, g, rfl, by omega, h2.1, h2.2, ?_⟩))
        unfold okFig
        rw [decide_eq_true h2.1, decide_eq_true (show (c :: g).head? = some 48 by rw [h2.2]; rfl)]; simp
      · refine .inr (.inr (.inr ⟨c, g, rfl, by omega, h2, ?_⟩))
        unfold okFig
        rw [hf, decide_eq_true (show 1 ≤ (c :: g).length by simp), decide_eq_true (show (c :: g).length ≤ 59 by omega)]
        have : (decide (1 < (c :: g).length) && decide ((c :: g).head? = some 48)) = false := by
          by_cases h3 : 1 < (c :: g).length
          · rw [decide_eq_false (show ¬ (c :: g).head? = some 48 from fun z => h2 ⟨h3, by simpa using z⟩)]; simp
          · rw [decide_eq_false h3]; rfl
        rw [this]; rfl
theorem tkall (p : Nat → Bool) (r : List Nat) : (r.takeWhile p).all p = true := List.all_takeWhile
section
variable {s : List Nat} {st : Store}
theorem name_ok (hl : s.length ≤ 16777000) {r : List Nat} (hr : r <:+ s) (h : H) : c_scan_name [.str s, .int (At s r), .str h.s] st = match Pt.name h r with
    | some (w, r') => .ok (.tup [.str w, .int (At s r')]) [] st
    | none => .exc np [] st := by
  have l1 : s.length ≤ 16777216 := by omega
  have e1 : eqOk (.str h.s) = true := rfl
  have e1' : eqOk (.str [109, 97, 110, 121]) = true := rfl
  have e2 := hs_many h
  have s1 := At_sl hr l1
  have e3 : eqOk (.str (r.take 1)) = true := rfl
  have e3' : eqOk (.str [61]) = true := rfl
  have e4 : deq (.str (r.take 1)) (.str [61]) = decide (r.head? = some 61) := by
    rw [deq_str]; congr 1; exact propext hd_take
  unfold Pt.name
  by_cases hA : h = .many ∧ r.head? = some 61
  · rw [if_pos hA]
    obtain ⟨rfl, hh⟩ := hA
    have hne : r ≠ [] := fun z => by subst z; cases hh
    have ht : r.tail <:+ s := (tl_suf r).trans hr
    have h5 : At s r + 1 = At s r.tail := At_tl hne
    have f1 := run_ok (st := st) isF_mem l1 ht
    have e5 : eqOk (.str (r.tail.takeWhile Pt.isF)) = true := rfl
    have e5' : eqOk (.str []) = true := rfl
    have lf := tk_len Pt.isF ht
    have l2 : dLen [.str (r.tail.takeWhile Pt.isF)] = some (.int ((r.tail.takeWhile Pt.isF).length : Int)) := dLen_s _ (by omega)
    have h6 := At_add (s := s) _ _ (List.takeWhile_append_dropWhile (p := Pt.isF) (l := r.tail)).symm
    rw [decide_eq_true hh] at e4
    have a1 : dAdd (.str [61]) (.str (r.tail.takeWhile Pt.isF)) = some (.str (61 :: r.tail.takeWhile Pt.isF)) := dAdd_s _ _ (by simp only [List.length_singleton]; omega)
    rw [c_scan_name, runB_k, b_scan_name]
    simp only [decide_true] at e2
    rcases okFig_cases _ (tkall Pt.isF r.tail) with ⟨z1, z2⟩ | ⟨z1, z2, z3⟩ | ⟨c, g, z1, z2, z3, z4, z5⟩ | ⟨c, g, z1, z2, z3, z4⟩
    · rw [if_neg (by rw [z2]; decide)]
      have e6 : deq (.str (r.tail.takeWhile Pt.isF)) (.str []) = true := by rw [deq_str, z1]; rfl
      simp only
      generalize D.str (r.tail.takeWhile Pt.isF) = fd at *
      generalize D.str (r.take 1) = td at *
      generalize D.str s = sd at *
      generalize D.str k_FIGURES = ld at *
      generalize D.str H.many.s = md at *
      generalize D.str [109, 97, 110, 121] = md2 at *
      generalize D.str [61] = eqd at *
      generalize At s r.tail = q2 at *
      generalize At s r = q at *
      subst h5
      simp (maxSteps := 30000) (disch := first | assumption | (simp; done) | omega | (simp; omega)) [e1, e1', e2, s1, e3, e3', e4, f1, e5, e5', e6]
    · rw [if_neg (by rw [z3]; decide)]
      have e6 : deq (.str (r.tail.takeWhile Pt.isF)) (.str []) = false := by rw [deq_str, decide_eq_false z1]
      have g1 : dGt (.int ((r.tail.takeWhile Pt.isF).length : Int)) (.int 59) = some (.bl true) := by rw [dGt_i, decide_eq_true (by omega)]
      simp only
      generalize D.str (r.tail.takeWhile Pt.isF) = fd at *
      generalize ((r.tail.takeWhile Pt.isF).length : Int) = n at *
      generalize D.str (r.take 1) = td at *
      generalize D.str s = sd at *
      generalize D.str k_FIGURES = ld at *
      generalize D.str H.many.s = md at *
      generalize D.str [109, 97, 110, 121] = md2 at *
      generalize D.str [61] = eqd at *
      generalize At s r.tail = q2 at *
      generalize At s r = q at *
      subst h5
      simp (maxSteps := 30000) (disch := first | assumption | (simp; done) | omega | (simp; omega)) [e1, e1', e2, s1, e3, e3', e4, f1, e5, e5', e6, l2, g1]
    · rw [if_neg (by rw [z5]; decide)]
      have e6 : deq (.str (r.tail.takeWhile Pt.isF)) (.str []) = false := by rw [deq_str, decide_eq_false (by rw [z1]; simp)]
      have g1 : dGt (.int ((r.tail.takeWhile Pt.isF).length : Int)) (.int 59) = some (.bl false) := by rw [dGt_i, decide_eq_false (by omega)]
      have g2 : dGt (.int ((r.tail.takeWhile Pt.isF).length : Int)) (.int 1) = some (.bl true) := by rw [dGt_i, decide_eq_true (by omega)]
      have g3 : dIx (.str (r.tail.takeWhile Pt.isF)) (.int 0) = some (.str [48]) := by rw [dIx_s _ _ (by omega), atI_nn _ (by omega), z1, z4]; rfl
      have g4 : deq (.str [48]) (.str [48]) = true := by simp
      have g5 : eqOk (.str [48]) = true := rfl
      simp only
      generalize D.str (r.tail.takeWhile Pt.isF) = fd at *
      generalize ((r.tail.takeWhile Pt.isF).length : Int) = n at *
      generalize D.str (r.take 1) = td at *
      generalize D.str s = sd at *
      generalize D.str k_FIGURES = ld at *
      generalize D.str H.many.s = md at *
      generalize D.str [109, 97, 110, 121] = md2 at *
      generalize D.str [61] = eqd at *
      generalize D.str [48] = zd at *
      generalize At s r.tail = q2 at *
      generalize At s r = q at *
      subst h5
      simp (maxSteps := 30000) (disch := first | assumption | (simp; done) | omega | (simp; omega)) [e1, e1', e2, s1, e3, e3', e4, f1, e5, e5', e6, l2, g1, g2, g3, g4, g5]
    · rw [if_pos z4]
      have e6 : deq (.str (r.tail.takeWhile Pt.isF)) (.str []) = false := by rw [deq_str, decide_eq_false (by rw [z1]; simp)]
      have g1 : dGt (.int ((r.tail.takeWhile Pt.isF).length : Int)) (.int 59) = some (.bl false) := by rw [dGt_i, decide_eq_false (by omega)]
      have g3 : dIx (.str (r.tail.takeWhile Pt.isF)) (.int 0) = some (.str [c]) := by rw [dIx_s _ _ (by omega), atI_nn _ (by omega), z1]; rfl
      have g5 : eqOk (.str [48]) = true := rfl
      have g6 : eqOk (.str [c]) = true := rfl
      simp only
      rw [← h6]
      by_cases g7 : 1 < (r.tail.takeWhile Pt.isF).length
      · have g2 : dGt (.int ((r.tail.takeWhile Pt.isF).length : Int)) (.int 1) = some (.bl true) := by rw [dGt_i, decide_eq_true (by omega)]
        have g4 : deq (.str [c]) (.str [48]) = false := by rw [deq_str, decide_eq_false (fun z => z3 ⟨g7, by simpa using z⟩)]
        generalize D.str (61 :: r.tail.takeWhile Pt.isF) = rd at *
        generalize D.str (r.tail.takeWhile Pt.isF) = fd at *
        generalize ((r.tail.takeWhile Pt.isF).length : Int) = n at *
        generalize D.str (r.take 1) = td at *
        generalize D.str s = sd at *
        generalize D.str k_FIGURES = ld at *
        generalize D.str H.many.s = md at *
        generalize D.str [109, 97, 110, 121] = md2 at *
        generalize D.str [61] = eqd at *
        generalize D.str [48] = zd at *
        generalize D.str [c] = cd at *
        generalize At s r.tail = q2 at *
        generalize At s r = q at *
        subst h5
        simp (maxSteps := 30000) (disch := first | assumption | (simp; done) | omega | (simp; omega)) [e1, e1', e2, s1, e3, e3', e4, f1, e5, e5', e6, l2, g1, g2, g3, g4, g5, g6, a1]
      · have g2 : dGt (.int ((r.tail.takeWhile Pt.isF).length : Int)) (.int 1) = some (.bl false) := by rw [dGt_i, decide_eq_false (by omega)]
        generalize D.str (61 :: r.tail.takeWhile Pt.isF) = rd at *
        generalize D.str (r.tail.takeWhile Pt.isF) = fd at *
        generalize ((r.tail.takeWhile Pt.isF).length : Int) = n at *
        generalize D.str (r.take 1) = td at *
        generalize D.str s = sd at *
        generalize D.str k_FIGURES = ld at *
        generalize D.str H.many.s = md at *
        generalize D.str [109, 97, 110, 121] = md2 at *
        generalize D.str [61] = eqd at *
        generalize At s r.tail = q2 at *
        generalize At s r = q at *
        subst h5
        simp (maxSteps := 30000) (disch := first | assumption | (simp; done) | omega | (simp; omega)) [e1, e1', e2, s1, e3, e3', e4, f1, e5, e5', e6, l2, g1, g2, a1]
  · rw [if_neg hA]
    have f1 := run_ok (st := st) isL_mem l1 hr
    have f2 := word_ok (st := st) l1 hr
    have e5 : eqOk (.str (r.takeWhile Pt.isL)) = true := rfl
    have e5' : eqOk (.str [101, 108, 115, 101]) = true := rfl
    have e6 : deq (.str (r.takeWhile Pt.isL)) (.str [101, 108, 115, 101]) = decide (r.takeWhile Pt.isL = ELSE) := deq_str _ _
    have hcond : (decide (h = .many) && decide (r.head? = some 61)) = false := by
      by_cases z : h = .many
      · rw [decide_eq_false (fun y => hA ⟨z, y⟩)]; simp
      · rw [decide_eq_false z]; rfl
    have cnd : ∀ x3, (tA (tV (o2E dEq (oV (vE 2)) (oV (kE (.str [109, 97, 110, 121]))))) (tV (o2E dEq (oV (slE dSl (oV (vE 0)) (sS (vE 1)) (sS (o2E dAdd (oV (vE 1)) (oV (kE (.int 1))))))) (oV (kE (.str [61])))))) [.d (.str s), .d (.int (At s r)), .d (.str h.s), x3] st = .ok false [.d (.str s), .d (.int (At s r)), .d (.str h.s), x3] st := fun x3 => by
      generalize decide (h = .many) = b1 at *
      generalize decide (r.head? = some 61) = b2 at *
      generalize D.str (r.take 1) = td at *
      generalize D.str s = sd at *
      generalize D.str h.s = md at *
      generalize D.str [109, 97, 110, 121] = md2 at *
      generalize D.str [61] = eqd at *
      generalize At s r = q at *
      cases b1
      · simp [e1, e1', e2]
      · cases b2
        · simp [e1, e1', e2, s1, e3, e3', e4]
        · cases hcond
    by_cases hE : r.takeWhile Pt.isL = ELSE
    · rw [if_pos hE]
      rw [decide_eq_true hE] at e6
      have h4 : 4 ≤ r.length := by
        have := (List.takeWhile_prefix (p := Pt.isL) (l := r)).length_le
        rw [hE] at this; exact this
      have h5 : At s r + 4 = At s (r.drop 4) := by
        have := At_add (s := s) (r := r) (r.take 4) (r.drop 4) (List.take_append_drop 4 r).symm
        rw [List.length_take] at this
        omega
      rw [c_scan_name, runB_k, b_scan_name]
      simp only
      rw [← h5]
      simp only [sSeq_a, sI_a, iniK_d, iniK_n, iniK_0, cnd, Res.out_ok, Bool.false_eq_true, if_false, sNil_a, Out.then_nx]
      clear cnd
      generalize D.str (r.takeWhile Pt.isL) = fd at *
      generalize D.str s = sd at *
      generalize D.str k_LETTERS = ld at *
      generalize D.str h.s = md at *
      generalize D.str [101, 108, 115, 101] = md2 at *
      generalize At s r = q at *
      simp (maxSteps := 30000) (disch := first | assumption | (simp; done) | omega | (simp; omega)) [e5, e5', e6, f1]
    · rw [if_neg hE]
      rw [decide_eq_false hE] at e6
      rw [c_scan_name, runB_k, b_scan_name]
      simp only [sSeq_a, sI_a, iniK_d, iniK_n, iniK_0, cnd, Res.out_ok, Bool.false_eq_true, if_false, sNil_a, Out.then_nx]
      clear cnd
      generalize D.str (r.takeWhile Pt.isL) = fd at *
      generalize D.str s = sd at *
      generalize D.str k_LETTERS = ld at *
      generalize D.str h.s = md at *
      generalize D.str [101, 108, 115, 101] = md2 at *
      generalize At s r = q at *
      cases hw : Pt.word r with
      | none =>
        rw [hw] at f2
        simp only at f2
        simp (maxSteps := 30000) (disch := first | assumption | (simp; done) | omega | (simp; omega)) [e5, e5', e6, f1, f2]
      | some x =>
        obtain ⟨w, r'⟩ := x
        rw [hw] at f2
        simp only at f2
        simp (maxSteps := 30000) (disch := first | assumption | (simp; done) | omega | (simp; omega)) [e5, e5', e6, f1, f2]
end
end M

namespace M
open PySem PySem.Spec PyProof.Rows L2 DL Pt
theorem sW_exc {c : Ev Bool} {b : EvS} {S S1 S2 : Sls} {st st1 st2 : Store} {x : Exc} (h : c S st = .ok true S1 st1) (h2 : b S1 st1 = .exc x S2 st2) : sW c b S st = .exc x S2 st2 := by
  rw [sW_eq, h]
  show (match b S1 st1 with | .nx S2 st2 => sW c b S2 st2 | .ct S2 st2 => sW c b S2 st2 | .rto w S2 st2 => .rto w S2 st2 | .bk S2 st2 => .nx S2 st2 | .ret v S2 st2 => .ret v S2 st2 | .exc x S2 st2 => .exc x S2 st2 | .stuck => .stuck) = _
  rw [h2]
section
variable {s : List Nat}
theorem bor_names (t a x3 x4 : D) (acc : List (List Nat × List Nat)) (ha : acc.length ≤ 16777216) :
    borF 2 (lcF (iE (vE 2)) (gT 2 (gC (gV 5) (gC (gV 6) (gN)))) [5, 6] (tY) (E_scan_binds_1)) [.d t, .d a, .own (.l (acc.map bD)), .d x3, .d x4, .no, .no] []
    = .ok (.l ((acc.map (·.1)).map D.str)) [.d t, .d a, .own (.l (acc.map bD)), .d x3, .d x4, .no, .no] [] := by
  have key := lcL_map (g := gT 2 (gC (gV 5) (gC (gV 6) (gN)))) (own := [5, 6]) (f := E_scan_binds_1) (S := [.d t, .d a, .d (.lst (acc.map bD)), .d x3, .d x4, .no, .no]) (st := []) (fun d => match d with | .tup (.str c :: _) => .str c | _ => .non) (acc.map bD) (fun d hd => by
    obtain ⟨b, _, rfl⟩ := List.mem_map.mp hd
    exact ⟨_, _, rfl, by rw [E_scan_binds_1]; simp [bD] <;> rfl, by simp⟩)
  rw [List.map_map] at key
  have e1 : ((fun d => match d with | .tup (.str c :: _) => .str c | _ => D.non) ∘ bD : (List Nat × List Nat) → D) = D.str ∘ (·.1) := by
    funext b; rfl
  rw [e1, ← List.map_map] at key
  have e2 : lcF (iE (vE 2)) (gT 2 (gC (gV 5) (gC (gV 6) (gN)))) [5, 6] (tY) (E_scan_binds_1) [.d t, .d a, .d (.lst (acc.map bD)), .d x3, .d x4, .no, .no] [] = .ok (.l ((acc.map (·.1)).map D.str)) [.d t, .d a, .d (.lst (acc.map bD)), .d x3, .d x4, .no, .no] [] := by
    have hl : ((acc.map (·.1)).map D.str).length ≤ 16777216 := by simpa using ha
    generalize (acc.map (·.1)).map D.str = ys at *
    generalize acc.map bD = bs at *
    simp [key, hl]
  have hf : ((acc.map (·.1)).map D.str).all flatD = true := flat_strs _
  unfold borF
  generalize (acc.map (·.1)).map D.str = ys at *
  generalize acc.map bD = bs at *
  show (match lcF _ _ _ _ _ [.d t, .d a, .d (.lst bs), .d x3, .d x4, .no, .no] [] with
    | .ok (.l ys) S1 st1 => _
    | _ => _) = _
  rw [e2]
  exact if_pos ⟨⟨hf, rfl⟩, rfl, rfl⟩
theorem any_mem (a : List Nat) (l : List (List Nat)) : ((l.map D.str).any fun z => deq z (.str a)) = decide (a ∈ l) := by
  induction l with
  | nil => rfl
  | cons b r ih =>
    rw [List.map_cons, List.any_cons, ih, deq_str]
    by_cases h : b = a
    · subst h; simp
    · rw [decide_eq_false h, Bool.false_or]
      by_cases h2 : a ∈ r
      · rw [decide_eq_true h2, decide_eq_true (List.mem_cons_of_mem _ h2)]
      · rw [decide_eq_false h2, decide_eq_false (fun z => by rcases List.mem_cons.mp z with z | z; exact h z.symm; exact h2 z)]
theorem spc (hl : s.length ≤ 16777216) {r : List Nat} (hr : r <:+ s) (c : Nat) : deq (.str (r.take 1)) (.str [c]) = decide (r.head? = some c) := by
  rw [deq_str]; congr 1; exact propext hd_take
theorem binds_loop (hl : s.length ≤ 16777000) : ∀ (n : Nat) (acc : List (List Nat × List Nat)) (r : List Nat) (x3 x4 : Sl), r.length < n → acc.length ≤ 4 → r <:+ s →
    match Pt.binds n acc r with
    | some (bs, r') => ∃ x3' x4', sW W_scan_binds_1 L_scan_binds_1 [.d (.str s), .d (.int (At s r)), .own (.l (acc.map bD)), x3, x4, .no, .no] [] = .nx [.d (.str s), .d (.int (At s r')), .own (.l (bs.map bD)), x3', x4', .no, .no] []
    | none => ∃ S', sW W_scan_binds_1 L_scan_binds_1 [.d (.str s), .d (.int (At s r)), .own (.l (acc.map bD)), x3, x4, .no, .no] [] = .exc np S' [] := by
  intro n
  induction n with
  | zero => intro acc r x3 x4 h; omega
  | succ n ih =>
    intro acc r x3 x4 hn ha hr
    have l1 : s.length ≤ 16777216 := by omega
    have s1 := At_sl hr l1
    have e3 : eqOk (.str (r.take 1)) = true := rfl
    have e3' : eqOk (.str [32]) = true := rfl
    have e4 := spc l1 hr 32
    rw [Pt.binds]
    by_cases h32 : r.head? = some 32
    · rw [if_pos h32]
      rw [decide_eq_true h32] at e4
      have hne : r ≠ [] := fun z => by subst z; cases h32
      have hW : W_scan_binds_1 [.d (.str s), .d (.int (At s r)), .own (.l (acc.map bD)), x3, x4, .no, .no] [] = .ok true [.d (.str s), .d (.int (At s r)), .own (.l (acc.map bD)), x3, x4, .no, .no] [] := by
        rw [W_scan_binds_1]
        generalize D.str (r.take 1) = td at *
        generalize D.str s = sd at *
        generalize D.str [32] = ld at *
        generalize At s r = q at *
        simp (maxSteps := 30000) (disch := first | assumption | (simp; done) | omega | (simp; omega)) [s1, e3, e3', e4]
      have ht : r.tail <:+ s := (tl_suf r).trans hr
      have h5 : At s r + 1 = At s r.tail := At_tl hne
      have w1 := word_ok (st := []) l1 ht
      have hlt : r.tail.length < r.length := by
        have : r.length ≠ 0 := by simpa using hne
        simp; omega
      cases hw1 : Pt.word r.tail with
      | none =>
        rw [hw1] at w1
        simp only at w1 ⊢
        refine ⟨_, sW_exc (S2 := [.d (.str s), .d (.int (At s r)), .own (.l (acc.map bD)), x3, x4, .no, .no]) (st2 := []) hW ?_⟩
        rw [L_scan_binds_1]
        generalize D.str s = sd at *
        generalize At s r.tail = q2 at *
        generalize At s r = q at *
        subst h5
        simp (maxSteps := 30000) (disch := first | assumption | (simp; done) | omega | (simp; omega)) [w1]
      | some y =>
        obtain ⟨a, r1⟩ := y
        rw [hw1] at w1
        simp only at w1 ⊢
        have hr1 : r1 <:+ s := (word_suf hw1).1.trans ht
        have hlt1 := word_lt hw1
        have g1 := sign_ok (st := []) l1 hr1 61
        cases hg1 : Pt.sign 61 r1 with
        | none =>
          rw [hg1] at g1
          simp only at g1 ⊢
          refine ⟨_, sW_exc (S2 := [.d (.str s), .d (.int (At s r1)), .own (.l (acc.map bD)), .d (.str a), x4, .no, .no]) (st2 := []) hW ?_⟩
          rw [L_scan_binds_1]
          generalize D.str s = sd at *
          generalize D.str a = ad at *
          generalize At s r.tail = q2 at *
          generalize At s r1 = q3 at *
          generalize At s r = q at *
          subst h5
          simp (maxSteps := 30000) (disch := first | assumption | (simp; done) | omega | (simp; omega)) [w1, g1]
        | some r2 =>
          rw [hg1] at g1
          simp only at g1 ⊢
          obtain ⟨sf2, lt2, _⟩ := sign_suf hg1
          have hr2 : r2 <:+ s := sf2.trans hr1
          have w2 := word_ok (st := []) l1 hr2
          cases hw2 : Pt.word r2 with
          | none =>
            rw [hw2] at w2
            simp only at w2 ⊢
            refine ⟨_, sW_exc (S2 := [.d (.str s), .d (.int (At s r1)), .own (.l (acc.map bD)), .d (.str a), x4, .no, .no]) (st2 := []) hW ?_⟩
            rw [L_scan_binds_1]
            generalize D.str s = sd at *
            generalize D.str a = ad at *
            generalize At s r.tail = q2 at *
            generalize At s r1 = q3 at *
            generalize At s r2 = q4 at *
            generalize At s r = q at *
            subst h5
            simp (maxSteps := 30000) (disch := first | assumption | (simp; done) | omega | (simp; omega)) [w1, g1, w2]
          | some y2 =>
            obtain ⟨b, r3⟩ := y2
            rw [hw2] at w2
            simp only at w2 ⊢
            have hr3 : r3 <:+ s := (word_suf hw2).1.trans hr2
            have hlt3 := word_lt hw2
            have bn := bor_names (.str s) (.int (At s r3)) (.str a) (.str b) acc (by omega)
            have i1 : inD (.str a) (.lst ((acc.map (·.1)).map D.str)) = some (decide (a ∈ acc.map (·.1))) := by
              rw [inD_l, if_pos ⟨rfl, eqOk_lst _ (flat_strs _)⟩, any_mem]
            have d1 : dLen [.lst (acc.map bD)] = some (.int (acc.length : Int)) := by rw [dLen_l, List.length_map]
            have d2 : deq (.int (acc.length : Int)) (.int 4) = decide (acc.length = 4) := by
              rw [deq_int]; congr 1; exact propext ⟨fun h => by omega, fun h => by omega⟩
            have d3 : (acc.map bD).length < 16777216 := by simp; omega
            have hbr : borF 2 (lcF (iE (vE 2)) (gT 2 (gC (gV 5) (gC (gV 6) (gN)))) [5, 6] (tY) (E_scan_binds_1)) = borF 2 (lcF (iE (vE 2)) (gT 2 (gC (gV 5) (gC (gV 6) (gN)))) [5, 6] (tY) (E_scan_binds_1)) := rfl
            by_cases hbad : a ∈ acc.map (·.1) ∨ acc.length = 4
            · rw [if_pos hbad]
              refine ⟨_, sW_exc (S2 := [.d (.str s), .d (.int (At s r3)), .own (.l (acc.map bD)), .d (.str a), .d (.str b), .no, .no]) (st2 := []) hW ?_⟩
              rw [L_scan_binds_1]
              generalize borF 2 (lcF (iE (vE 2)) (gT 2 (gC (gV 5) (gC (gV 6) (gN)))) [5, 6] (tY) (E_scan_binds_1)) = bf at *
              by_cases hm : a ∈ acc.map (·.1)
              · rw [decide_eq_true hm] at i1
                generalize D.str s = sd at *
                generalize D.str a = ad at *
                generalize D.str b = bd at *
                generalize (acc.map (·.1)).map D.str = ns at *
                generalize acc.map bD = al at *
                generalize At s r.tail = q2 at *
                generalize At s r1 = q3 at *
                generalize At s r2 = q4 at *
                generalize At s r3 = q5 at *
                generalize At s r = q at *
                subst h5
                simp (maxSteps := 30000) (disch := first | assumption | (simp; done) | omega | (simp; omega)) [w1, g1, w2, bn, i1]
              · have h4 : acc.length = 4 := hbad.resolve_left hm
                rw [decide_eq_false hm] at i1
                rw [decide_eq_true h4] at d2
                generalize D.str s = sd at *
                generalize D.str a = ad at *
                generalize D.str b = bd at *
                generalize (acc.map (·.1)).map D.str = ns at *
                generalize acc.map bD = al at *
                generalize (acc.length : Int) = nn at *
                generalize At s r.tail = q2 at *
                generalize At s r1 = q3 at *
                generalize At s r2 = q4 at *
                generalize At s r3 = q5 at *
                generalize At s r = q at *
                subst h5
                simp (maxSteps := 30000) (disch := first | assumption | (simp; done) | omega | (simp; omega)) [w1, g1, w2, bn, i1, d1, d2]
            · rw [if_neg hbad]
              have hm : ¬ a ∈ acc.map (·.1) := fun z => hbad (.inl z)
              have h4 : ¬ acc.length = 4 := fun z => hbad (.inr z)
              have hb : L_scan_binds_1 [.d (.str s), .d (.int (At s r)), .own (.l (acc.map bD)), x3, x4, .no, .no] [] = .nx [.d (.str s), .d (.int (At s r3)), .own (.l ((acc ++ [(a, b)]).map bD)), .d (.str a), .d (.str b), .no, .no] [] := by
                rw [L_scan_binds_1, List.map_append, List.map_singleton]
                rw [decide_eq_false hm] at i1
                rw [decide_eq_false h4] at d2
                have e9 : bD (a, b) = .tup [.str a, .str b] := rfl
                rw [e9]
                generalize borF 2 (lcF (iE (vE 2)) (gT 2 (gC (gV 5) (gC (gV 6) (gN)))) [5, 6] (tY) (E_scan_binds_1)) = bf at *
                generalize D.str s = sd at *
                generalize D.str a = ad at *
                generalize D.str b = bd at *
                generalize (acc.map (·.1)).map D.str = ns at *
                generalize acc.map bD = al at *
                generalize (acc.length : Int) = nn at *
                generalize At s r.tail = q2 at *
                generalize At s r1 = q3 at *
                generalize At s r2 = q4 at *
                generalize At s r3 = q5 at *
                generalize At s r = q at *
                subst h5
                simp (maxSteps := 30000) (disch := first | assumption | (simp; done) | omega | (simp; omega)) [w1, g1, w2, bn, i1, d1, d2, d3]
              have hh := ih (acc ++ [(a, b)]) r3 (.d (.str a)) (.d (.str b)) (by omega) (by rw [List.length_append, List.length_singleton]; omega) hr3
              rw [sW_true hW hb]
              exact hh
    · rw [if_neg h32]
      rw [decide_eq_false h32] at e4
      refine ⟨x3, x4, sW_false ?_⟩
      rw [W_scan_binds_1]
      generalize D.str (r.take 1) = td at *
      generalize D.str s = sd at *
      generalize D.str [32] = ld at *
      generalize At s r = q at *
      simp (maxSteps := 30000) (disch := first | assumption | (simp; done) | omega | (simp; omega)) [s1, e3, e3', e4]
theorem binds_ok (hl : s.length ≤ 16777000) {r : List Nat} (hr : r <:+ s) : c_scan_binds [.str s, .int (At s r)] [] = match Pt.binds (r.length + 1) [] r with
    | some (bs, r') => .ok (.tup [.lst (bs.map bD), .int (At s r')]) [] []
    | none => .exc np [] [] := by
  have h := binds_loop hl (r.length + 1) [] r .no .no (by omega) (by simp) hr
  have eb : c_scan_binds [.str s, .int (At s r)] [] = finB ((sSeq (sW (W_scan_binds_1) (L_scan_binds_1)) (sR (pE (aC (oV (zE 2)) (aC (oV (vE 1)) (aN)))))) [.d (.str s), .d (.int (At s r)), .own (.l []), .no, .no, .no, .no] []) := by
    rw [c_scan_binds, runB_k, b_scan_binds]
    generalize sSeq (sW (W_scan_binds_1) (L_scan_binds_1)) (sR (pE (aC (oV (zE 2)) (aC (oV (vE 1)) (aN))))) = f
    simp (maxSteps := 30000) (disch := first | assumption | (simp; done) | omega | (simp; omega)) []
  rw [eb]
  cases hb : Pt.binds (r.length + 1) [] r with
  | none =>
    rw [hb] at h
    obtain ⟨S', h⟩ := h
    rw [List.map_nil] at h
    simp [h]
  | some x =>
    obtain ⟨bs, r'⟩ := x
    rw [hb] at h
    obtain ⟨x3, x4, h⟩ := h
    rw [List.map_nil] at h
    simp only
    generalize bs.map bD = bl at *
    simp [h]
end
end M

namespace M
open PySem PySem.Spec PyProof.Rows L2 DL Pt
theorem cle (a c : Nat) : dLe (.str [a]) (.str [c]) = some (.bl (decide (a ≤ c))) := by
  show some (D.bl (!decide (([c] : List Nat) < [a]))) = _
  congr 2
  have : (([c] : List Nat) < [a]) ↔ c < a := by
    rw [List.cons_lt_cons_iff]; simp
  by_cases h : a ≤ c
  · rw [decide_eq_true h, decide_eq_false (by rw [this]; omega)]; rfl
  · rw [decide_eq_false h, decide_eq_true (by rw [this]; omega)]; rfl
theorem plain_ok (c : Nat) (st : Store) : c_is_plain [.str [c]] st = .ok (.bl (Pt.plain c)) [] st := by
  have h1 := cle 32 c
  have h2 := cle c 126
  have h3 : inD (.str [c]) (.str [123, 125, 91, 93]) = some (c == 123 || c == 125 || c == 91 || c == 93) := by
    rw [inD_sg]; congr 1
    by_cases a : c ∈ [123, 125, 91, 93]
    · rw [decide_eq_true a]; simp at a; rcases a with rfl | rfl | rfl | rfl <;> rfl
    · rw [decide_eq_false a]; simp at a; obtain ⟨q1, q2, q3, q4⟩ := a; simp [q1, q2, q3, q4]
  have h4 : dOrd [.str [c]] = some (.int c) := rfl
  have h5 : deq (.int (c : Int)) (.int 37) = (c == 37) := by
    rw [deq_int]
    by_cases a : c = 37
    · subst a; rfl
    · rw [decide_eq_false (by omega)]; simp [a]
  have e1 : eqOk (.int (c : Int)) = true := rfl
  unfold Pt.plain
  rw [c_is_plain, runB_k, b_is_plain]
  generalize (c == 123 || c == 125 || c == 91 || c == 93) = b3 at *
  generalize (c == 37) = b4 at *
  generalize decide (32 ≤ c) = b1 at *
  generalize decide (c ≤ 126) = b2 at *
  generalize (c : Int) = ci at *
  generalize D.str [c] = cd at *
  cases b1
  · simp (maxSteps := 30000) (disch := first | assumption | (simp; done) | omega | (simp; omega)) [h1, h2, h3, h4, h5, e1]
  · cases b2
    · simp (maxSteps := 30000) (disch := first | assumption | (simp; done) | omega | (simp; omega)) [h1, h2, h3, h4, h5, e1]
    · cases b3
      · simp (maxSteps := 30000) (disch := first | assumption | (simp; done) | omega | (simp; omega)) [h1, h2, h3, h4, h5, e1]
      · simp (maxSteps := 30000) (disch := first | assumption | (simp; done) | omega | (simp; omega)) [h1, h2, h3, h4, h5, e1]
/-- what a call of the parser for the inner parts does -/
structure RecOk (s : List Nat) (deep : Nat) (rec : CallT) (prec : List Nat → Option (List P × List Nat)) : Prop where
  ok : ∀ (r : List Nat), r <:+ s → rec [.str s, .int (At s r), .int deep] [] = match prec r with
    | some (ps, r') => .ok (.tup [.lst (dPs ps), .int (At s r')]) [] []
    | none => .exc np [] []
  suf : ∀ r i r', prec r = some (i, r') → r' <:+ r
  lv : ∀ r i r', prec r = some (i, r') → lvPs i ≤ 9
section
variable {s : List Nat} {deep : Nat} {rec : CallT} {prec : List Nat → Option (List P × List Nat)}
theorem an_map (acc : List Arm) : ((acc.map Arm.n).map D.str).length = acc.length := by simp
theorem arms_loop (R : RecOk s deep rec prec) (hl : s.length ≤ 16777000) (h : H) : ∀ (n : Nat) (acc : List Arm) (r : List Nat) (x6 x7 : Sl), r.length < n → acc.length ≤ 8 → r <:+ s →
    match Pt.arms prec h n acc r with
    | some (bs, r') => ∃ x6' x7' ns, sW (W_scan_arms_1 rec) (L_scan_arms_1 rec) [.d (.str s), .d (.int (At s r)), .d (.str h.s), .d (.int deep), .own (.l (dAs acc)), .own (.l ((acc.map Arm.n).map D.str)), x6, x7] [] = .nx [.d (.str s), .d (.int (At s r')), .d (.str h.s), .d (.int deep), .own (.l (dAs bs)), ns, x6', x7'] []
    | none => ∃ S', sW (W_scan_arms_1 rec) (L_scan_arms_1 rec) [.d (.str s), .d (.int (At s r)), .d (.str h.s), .d (.int deep), .own (.l (dAs acc)), .own (.l ((acc.map Arm.n).map D.str)), x6, x7] [] = .exc np S' [] := by
  intro n
  induction n with
  | zero => intro acc r x6 x7 h; omega
  | succ n ih =>
    intro acc r x6 x7 hn ha hr
    have l1 : s.length ≤ 16777216 := by omega
    have s1 := At_sl hr l1
    have e3 : eqOk (.str (r.take 1)) = true := rfl
    have e3' : eqOk (.str [32]) = true := rfl
    have e4 := spc l1 hr 32
    rw [Pt.arms]
    by_cases h32 : r.head? = some 32
    · rw [if_pos h32]
      rw [decide_eq_true h32] at e4
      have hne : r ≠ [] := fun z => by subst z; cases h32
      have hW : W_scan_arms_1 rec [.d (.str s), .d (.int (At s r)), .d (.str h.s), .d (.int deep), .own (.l (dAs acc)), .own (.l ((acc.map Arm.n).map D.str)), x6, x7] [] = .ok true [.d (.str s), .d (.int (At s r)), .d (.str h.s), .d (.int deep), .own (.l (dAs acc)), .own (.l ((acc.map Arm.n).map D.str)), x6, x7] [] := by
        rw [W_scan_arms_1]
        generalize D.str (r.take 1) = td at *
        generalize D.str s = sd at *
        generalize D.str [32] = ld at *
        generalize At s r = q at *
        simp (maxSteps := 30000) (disch := first | assumption | (simp; done) | omega | (simp; omega)) [s1, e3, e3', e4]
      have ht : r.tail <:+ s := (tl_suf r).trans hr
      have h5 : At s r + 1 = At s r.tail := At_tl hne
      have w1 := name_ok (st := []) hl ht h
      have hlt : r.tail.length < r.length := by
        have : r.length ≠ 0 := by simpa using hne
        simp; omega
      cases hw1 : Pt.name h r.tail with
      | none =>
        rw [hw1] at w1
        simp only at w1 ⊢
        refine ⟨_, sW_exc (S2 := [.d (.str s), .d (.int (At s r)), .d (.str h.s), .d (.int deep), .own (.l (dAs acc)), .own (.l ((acc.map Arm.n).map D.str)), x6, x7]) (st2 := []) hW ?_⟩
        rw [L_scan_arms_1]
        generalize D.str s = sd at *
        generalize D.str h.s = hd at *
        generalize dAs acc = al at *
        generalize (acc.map Arm.n).map D.str = nl at *
        generalize At s r.tail = q2 at *
        generalize At s r = q at *
        subst h5
        simp (maxSteps := 30000) (disch := first | assumption | (simp; done) | omega | (simp; omega)) [w1]
      | some y =>
        obtain ⟨a, r1⟩ := y
        rw [hw1] at w1
        simp only at w1 ⊢
        obtain ⟨sf1, hlt1⟩ := name_suf hw1
        have hr1 : r1 <:+ s := sf1.trans ht
        have i1 : inD (.str a) (.lst ((acc.map Arm.n).map D.str)) = some (decide (a ∈ acc.map Arm.n)) := by
          rw [inD_l, if_pos ⟨rfl, eqOk_lst _ (flat_strs _)⟩, any_mem]
        have d1 : dLen [.lst ((acc.map Arm.n).map D.str)] = some (.int (acc.length : Int)) := by rw [dLen_l, an_map]
        have d2 : deq (.int (acc.length : Int)) (.int 8) = decide (acc.length = 8) := by
          rw [deq_int]; congr 1; exact propext ⟨fun h => by omega, fun h => by omega⟩
        have d3 : ((acc.map Arm.n).map D.str).length < 16777216 := by rw [an_map]; omega
        have d4 : (dAs acc).length < 16777216 := by rw [dAs_map, List.length_map]; omega
        by_cases hbad : a ∈ acc.map Arm.n ∨ acc.length = 8
        · rw [if_pos hbad]
          refine ⟨_, sW_exc (S2 := [.d (.str s), .d (.int (At s r1)), .d (.str h.s), .d (.int deep), .own (.l (dAs acc)), .own (.l ((acc.map Arm.n).map D.str)), .d (.str a), x7]) (st2 := []) hW ?_⟩
          rw [L_scan_arms_1]
          by_cases hm : a ∈ acc.map Arm.n
          · rw [decide_eq_true hm] at i1
            generalize D.str s = sd at *
            generalize D.str a = ad at *
            generalize D.str h.s = hd at *
            generalize dAs acc = al at *
            generalize (acc.map Arm.n).map D.str = nl at *
            generalize At s r.tail = q2 at *
            generalize At s r1 = q3 at *
            generalize At s r = q at *
            subst h5
            simp (maxSteps := 30000) (disch := first | assumption | (simp; done) | omega | (simp; omega)) [w1, i1]
          · have h4 : acc.length = 8 := hbad.resolve_left hm
            rw [decide_eq_false hm] at i1
            rw [decide_eq_true h4] at d2
            generalize D.str s = sd at *
            generalize D.str a = ad at *
            generalize D.str h.s = hd at *
            generalize dAs acc = al at *
            generalize (acc.map Arm.n).map D.str = nl at *
            generalize (acc.length : Int) = nn at *
            generalize At s r.tail = q2 at *
            generalize At s r1 = q3 at *
            generalize At s r = q at *
            subst h5
            simp (maxSteps := 30000) (disch := first | assumption | (simp; done) | omega | (simp; omega)) [w1, i1, d1, d2]
        · rw [if_neg hbad]
          have hm : ¬ a ∈ acc.map Arm.n := fun z => hbad (.inl z)
          have h4 : ¬ acc.length = 8 := fun z => hbad (.inr z)
          rw [decide_eq_false hm] at i1
          rw [decide_eq_false h4] at d2
          have g1 := sign_ok (st := []) l1 hr1 91
          cases hg1 : Pt.sign 91 r1 with
          | none =>
            rw [hg1] at g1
            simp only at g1 ⊢
            refine ⟨_, sW_exc (S2 := [.d (.str s), .d (.int (At s r1)), .d (.str h.s), .d (.int deep), .own (.l (dAs acc)), .own (.l ((acc.map Arm.n).map D.str ++ [.str a])), .d (.str a), x7]) (st2 := []) hW ?_⟩
            rw [L_scan_arms_1]
            generalize D.str s = sd at *
            generalize D.str a = ad at *
            generalize D.str h.s = hd at *
            generalize dAs acc = al at *
            generalize (acc.map Arm.n).map D.str = nl at *
            generalize (acc.length : Int) = nn at *
            generalize At s r.tail = q2 at *
            generalize At s r1 = q3 at *
            generalize At s r = q at *
            subst h5
            simp (maxSteps := 30000) (disch := first | assumption | (simp; done) | omega | (simp; omega)) [w1, i1, d1, d2, d3, g1]
          | some r2 =>
            rw [hg1] at g1
            simp only at g1 ⊢
            obtain ⟨sf2, lt2, _⟩ := sign_suf hg1
            have hr2 : r2 <:+ s := sf2.trans hr1
            have w2 := R.ok r2 hr2
            cases hw2 : prec r2 with
            | none =>
              rw [hw2] at w2
              simp only at w2 ⊢
              refine ⟨_, sW_exc (S2 := [.d (.str s), .d (.int (At s r1)), .d (.str h.s), .d (.int deep), .own (.l (dAs acc)), .own (.l ((acc.map Arm.n).map D.str ++ [.str a])), .d (.str a), x7]) (st2 := []) hW ?_⟩
              rw [L_scan_arms_1]
              generalize D.str s = sd at *
              generalize D.str a = ad at *
              generalize D.str h.s = hd at *
              generalize dAs acc = al at *
              generalize (acc.map Arm.n).map D.str = nl at *
              generalize (acc.length : Int) = nn at *
              generalize (deep : Int) = dp at *
              generalize At s r.tail = q2 at *
              generalize At s r1 = q3 at *
              generalize At s r2 = q4 at *
              generalize At s r = q at *
              subst h5
              simp (maxSteps := 30000) (disch := first | assumption | (simp; done) | omega | (simp; omega)) [w1, i1, d1, d2, d3, g1, w2]
            | some y2 =>
              obtain ⟨b, r3⟩ := y2
              rw [hw2] at w2
              simp only at w2 ⊢
              have sf3 := R.suf _ _ _ hw2
              have hr3 : r3 <:+ s := sf3.trans hr2
              have hlt3 := sf3.length_le
              have g3 := sign_ok (st := []) l1 hr3 93
              have e9 : (Arm.mk a b).d = .tup [.str a, .lst (dPs b)] := rfl
              have e10 : dAs (acc ++ [.mk a b]) = dAs acc ++ [.tup [.str a, .lst (dPs b)]] := by rw [dAs_app]; rfl
              have e11 : (acc ++ [Arm.mk a b]).map Arm.n = acc.map Arm.n ++ [a] := by simp [Arm.n]
              cases hg3 : Pt.sign 93 r3 with
              | none =>
                rw [hg3] at g3
                simp only at g3 ⊢
                refine ⟨_, sW_exc (S2 := [.d (.str s), .d (.int (At s r3)), .d (.str h.s), .d (.int deep), .own (.l (dAs acc ++ [.tup [.str a, .lst (dPs b)]])), .own (.l ((acc.map Arm.n).map D.str ++ [.str a])), .d (.str a), .d (.lst (dPs b))]) (st2 := []) hW ?_⟩
                rw [L_scan_arms_1]
                generalize D.str s = sd at *
                generalize D.str a = ad at *
                generalize D.lst (dPs b) = bd at *
                generalize D.str h.s = hd at *
                generalize dAs acc = al at *
                generalize (acc.map Arm.n).map D.str = nl at *
                generalize (acc.length : Int) = nn at *
                generalize (deep : Int) = dp at *
                generalize At s r.tail = q2 at *
                generalize At s r1 = q3 at *
                generalize At s r2 = q4 at *
                generalize At s r3 = q5 at *
                generalize At s r = q at *
                subst h5
                simp (maxSteps := 30000) (disch := first | assumption | (simp; done) | omega | (simp; omega)) [w1, i1, d1, d2, d3, d4, g1, w2, g3]
              | some r4 =>
                rw [hg3] at g3
                simp only at g3 ⊢
                obtain ⟨sf4, lt4, _⟩ := sign_suf hg3
                have hr4 : r4 <:+ s := sf4.trans hr3
                have hb : L_scan_arms_1 rec [.d (.str s), .d (.int (At s r)), .d (.str h.s), .d (.int deep), .own (.l (dAs acc)), .own (.l ((acc.map Arm.n).map D.str)), x6, x7] [] = .nx [.d (.str s), .d (.int (At s r4)), .d (.str h.s), .d (.int deep), .own (.l (dAs (acc ++ [.mk a b]))), .own (.l (((acc ++ [Arm.mk a b]).map Arm.n).map D.str)), .d (.str a), .d (.lst (dPs b))] [] := by
                  rw [L_scan_arms_1, e10, e11, List.map_append, List.map_singleton]
                  generalize D.str s = sd at *
                  generalize D.str a = ad at *
                  generalize D.lst (dPs b) = bd at *
                  generalize D.str h.s = hd at *
                  generalize dAs acc = al at *
                  generalize (acc.map Arm.n).map D.str = nl at *
                  generalize (acc.length : Int) = nn at *
                  generalize (deep : Int) = dp at *
                  generalize At s r.tail = q2 at *
                  generalize At s r1 = q3 at *
                  generalize At s r2 = q4 at *
                  generalize At s r3 = q5 at *
                  generalize At s r4 = q6 at *
                  generalize At s r = q at *
                  subst h5
                  simp (maxSteps := 30000) (disch := first | assumption | (simp; done) | omega | (simp; omega)) [w1, i1, d1, d2, d3, d4, g1, w2, g3]
                have hh := ih (acc ++ [.mk a b]) r4 (.d (.str a)) (.d (.lst (dPs b))) (by omega) (by rw [List.length_append, List.length_singleton]; omega) hr4
                rw [sW_true hW hb]
                exact hh
    · rw [if_neg h32]
      rw [decide_eq_false h32] at e4
      refine ⟨x6, x7, .own (.l ((acc.map Arm.n).map D.str)), sW_false ?_⟩
      rw [W_scan_arms_1]
      generalize D.str (r.take 1) = td at *
      generalize D.str s = sd at *
      generalize D.str [32] = ld at *
      generalize At s r = q at *
      simp (maxSteps := 30000) (disch := first | assumption | (simp; done) | omega | (simp; omega)) [s1, e3, e3', e4]
end
end M

namespace M
open PySem PySem.Spec PyProof.Rows L2 DL Pt
section
variable {s : List Nat} {deep : Nat} {rec : CallT} {prec : List Nat → Option (List P × List Nat)}
theorem arms_ok (R : RecOk s deep rec prec) (hl : s.length ≤ 16777000) (h : H) {r : List Nat} (hr : r <:+ s) : c_scan_arms rec [.str s, .int (At s r), .str h.s, .int deep] [] = match Pt.arms prec h (r.length + 1) [] r with
    | some (as, r') => if as.isEmpty = true then .exc np [] [] else .ok (.tup [.lst (dAs as), .int (At s r')]) [] []
    | none => .exc np [] [] := by
  have hh := arms_loop R hl h (r.length + 1) [] r .no .no (by omega) (by simp) hr
  have eb : c_scan_arms rec [.str s, .int (At s r), .str h.s, .int deep] [] = finB ((sSeq (sW (W_scan_arms_1 rec) (L_scan_arms_1 rec)) (sSeq (sI (tV (o2E dEq (oS 4) (oV (fE (lF (aN)))))) (sX 1446867055838488785518) (sNil)) (sR (pE (aC (oV (zE 4)) (aC (oV (vE 1)) (aN))))))) [.d (.str s), .d (.int (At s r)), .d (.str h.s), .d (.int deep), .own (.l []), .own (.l []), .no, .no] []) := by
    rw [c_scan_arms, runB_k, b_scan_arms]
    generalize sSeq (sW (W_scan_arms_1 rec) (L_scan_arms_1 rec)) _ = f
    simp (maxSteps := 30000) (disch := first | assumption | (simp; done) | omega | (simp; omega)) []
  rw [eb]
  have en : dAs [] = [] := rfl
  have en2 : (([] : List Arm).map Arm.n).map D.str = [] := rfl
  rw [en, en2] at hh
  cases ha : Pt.arms prec h (r.length + 1) [] r with
  | none =>
    rw [ha] at hh
    obtain ⟨S', hh⟩ := hh
    simp [hh]
  | some x =>
    obtain ⟨as, r'⟩ := x
    rw [ha] at hh
    obtain ⟨x6, x7, ns, hh⟩ := hh
    simp only
    have q1 := as_eqOk (as := as) (by have := arms_lv (m := 9) R.lv ha (by simp [lvAs]); omega)
    have q2 := deq_as_nil as
    have q3 : eqOk (.lst []) = true := rfl
    generalize dAs as = al at *
    generalize as.isEmpty = b at *
    cases b
    · rw [if_neg (by decide)]
      simp only [sSeq_a, hh, Out.then_nx]
      simp (maxSteps := 30000) (disch := first | assumption | (simp; done) | omega | (simp; omega)) [q1, q2, q3]
    · rw [if_pos rfl]
      simp only [sSeq_a, hh, Out.then_nx]
      simp (maxSteps := 30000) (disch := first | assumption | (simp; done) | omega | (simp; omega)) [q1, q2, q3]
theorem hows (r : List Nat) : dHasNT k_HOWS (.str (r.take 1)) = some (.bl (howOf r).isNone) ∧ ∀ h, howOf r = some h → dGetT k_HOWS (.str (r.take 1)) = some (.str h.s) := by
  cases r with
  | nil => exact ⟨rfl, fun h e => by cases e⟩
  | cons c r =>
    show dHasNT k_HOWS (.str [c]) = some (.bl (howOf (c :: r)).isNone) ∧ ∀ h, howOf (c :: r) = some h → dGetT k_HOWS (.str [c]) = some (.str h.s)
    by_cases h1 : c = 35
    · subst h1; exact ⟨rfl, fun h e => by cases e; rfl⟩
    · by_cases h2 : c = 126
      · subst h2; exact ⟨rfl, fun h e => by cases e; rfl⟩
      · by_cases h3 : c = 94
        · subst h3; exact ⟨rfl, fun h e => by cases e; rfl⟩
        · have e0 : howOf (c :: r) = none := by simp [howOf, h1, h2, h3]
          rw [e0]
          refine ⟨?_, fun h e => by cases e⟩
          have : lookT [c] k_HOWS = none := by simp [lookT, Ne.symm h1, Ne.symm h2, Ne.symm h3]
          unfold dHasNT
          simp only [this]; rfl
theorem brace_ok (R : deep ≠ 4 → RecOk s (deep + 1) rec prec) (hl : s.length ≤ 16777000) (hd : deep ≤ 4) {r : List Nat} (hr : r <:+ s) : c_scan_brace rec [.str s, .int (At s r), .int deep] [] = match Pt.brace prec deep r with
    | some (p, r') => .ok (.tup [p.d, .int (At s r')]) [] []
    | none => .exc np [] [] := by
  have l1 : s.length ≤ 16777216 := by omega
  have s1 := At_sl hr l1
  have e3 : eqOk (.str (r.take 1)) = true := rfl
  have e3' : eqOk (.str [64]) = true := rfl
  have e4 := spc l1 hr 64
  unfold Pt.brace
  by_cases h64 : r.head? = some 64
  · rw [if_pos h64]
    rw [decide_eq_true h64] at e4
    have hne : r ≠ [] := fun z => by subst z; cases h64
    have ht : r.tail <:+ s := (tl_suf r).trans hr
    have h5 : At s r + 1 = At s r.tail := At_tl hne
    have w1 := word_ok (st := []) l1 ht
    rw [c_scan_brace, runB_k, b_scan_brace]
    cases hw1 : Pt.word r.tail with
    | none =>
      rw [hw1] at w1
      simp only at w1 ⊢
      generalize D.str (r.take 1) = td at *
      generalize D.str [64] = sg at *
      generalize D.str s = sd at *
      generalize At s r.tail = q2 at *
      generalize At s r = q at *
      subst h5
      simp (maxSteps := 30000) (disch := first | assumption | (simp; done) | omega | (simp; omega)) [w1, s1, e3, e3', e4]
    | some y =>
      obtain ⟨k, r1⟩ := y
      rw [hw1] at w1
      simp only at w1 ⊢
      have hr1 : r1 <:+ s := (word_suf hw1).1.trans ht
      have b1 := binds_ok hl hr1
      cases hb1 : Pt.binds (r1.length + 1) [] r1 with
      | none =>
        rw [hb1] at b1
        simp only at b1 ⊢
        generalize D.str (r.take 1) = td at *
        generalize D.str [64] = sg at *
        generalize D.str s = sd at *
        generalize D.str k = kd at *
        generalize At s r.tail = q2 at *
        generalize At s r1 = q3 at *
        generalize At s r = q at *
        subst h5
        simp (maxSteps := 30000) (disch := first | assumption | (simp; done) | omega | (simp; omega)) [w1, s1, e3, e3', e4, b1]
      | some y2 =>
        obtain ⟨bs, r2⟩ := y2
        rw [hb1] at b1
        simp only at b1 ⊢
        have hr2 : r2 <:+ s := (binds_suf hb1).trans hr1
        have g1 := sign_ok (st := []) l1 hr2 125
        cases hg1 : Pt.sign 125 r2 with
        | none =>
          rw [hg1] at g1
          simp only [Option.map_none] at g1 ⊢
          generalize D.str (r.take 1) = td at *
          generalize D.str [64] = sg at *
          generalize D.str s = sd at *
          generalize D.str k = kd at *
          generalize D.lst (bs.map bD) = bd at *
          generalize At s r.tail = q2 at *
          generalize At s r1 = q3 at *
          generalize At s r2 = q4 at *
          generalize At s r = q at *
          subst h5
          simp (maxSteps := 30000) (disch := first | assumption | (simp; done) | omega | (simp; omega)) [w1, s1, e3, e3', e4, b1, g1]
        | some r3 =>
          rw [hg1] at g1
          simp only [Option.map_some] at g1 ⊢
          have ep : (P.say k bs).d = .tup [.str [115, 97, 121], .str k, .lst (bs.map bD)] := rfl
          rw [ep]
          generalize D.str (r.take 1) = td at *
          generalize D.str [64] = sg at *
          generalize D.str s = sd at *
          generalize D.str k = kd at *
          generalize D.lst (bs.map bD) = bd at *
          generalize At s r.tail = q2 at *
          generalize At s r1 = q3 at *
          generalize At s r2 = q4 at *
          generalize At s r3 = q5 at *
          generalize At s r = q at *
          subst h5
          simp (maxSteps := 30000) (disch := first | assumption | (simp; done) | omega | (simp; omega)) [w1, s1, e3, e3', e4, b1, g1]
  · rw [if_neg h64]
    rw [decide_eq_false h64] at e4
    obtain ⟨k1, k2⟩ := hows r
    rw [c_scan_brace, runB_k, b_scan_brace]
    cases hh : howOf r with
    | none =>
      rw [hh] at k1
      simp only [Option.isNone_none] at k1 ⊢
      have w1 := word_ok (st := []) l1 hr
      cases hw1 : Pt.word r with
      | none =>
        rw [hw1] at w1
        simp only at w1 ⊢
        clear k2
        generalize D.str (r.take 1) = td at *
        generalize D.str [64] = sg at *
        generalize D.str s = sd at *
        generalize At s r = q at *
        simp (maxSteps := 30000) (disch := first | assumption | (simp; done) | omega | (simp; omega)) [w1, s1, e3, e3', e4, k1]
      | some y =>
        obtain ⟨g, r1⟩ := y
        rw [hw1] at w1
        simp only at w1 ⊢
        have hr1 : r1 <:+ s := (word_suf hw1).1.trans hr
        have g1 := sign_ok (st := []) l1 hr1 125
        clear k2
        cases hg1 : Pt.sign 125 r1 with
        | none =>
          rw [hg1] at g1
          simp only [Option.map_none] at g1 ⊢
          generalize D.str (r.take 1) = td at *
          generalize D.str [64] = sg at *
          generalize D.str s = sd at *
          generalize D.str g = gd at *
          generalize At s r1 = q3 at *
          generalize At s r = q at *
          simp (maxSteps := 30000) (disch := first | assumption | (simp; done) | omega | (simp; omega)) [w1, s1, e3, e3', e4, k1, g1]
        | some r2 =>
          rw [hg1] at g1
          simp only [Option.map_some] at g1 ⊢
          have ep : (P.gap g).d = .tup [.str [103, 97, 112], .str g] := rfl
          rw [ep]
          generalize D.str (r.take 1) = td at *
          generalize D.str [64] = sg at *
          generalize D.str s = sd at *
          generalize D.str g = gd at *
          generalize At s r1 = q3 at *
          generalize At s r2 = q4 at *
          generalize At s r = q at *
          simp (maxSteps := 30000) (disch := first | assumption | (simp; done) | omega | (simp; omega)) [w1, s1, e3, e3', e4, k1, g1]
    | some h =>
      rw [hh] at k1
      have k2 := k2 h hh
      simp only [Option.isNone_some] at k1 ⊢
      have d4 : deq (.int (deep : Int)) (.int 4) = decide (deep = 4) := by
        rw [deq_int]; congr 1; exact propext ⟨fun h => by omega, fun h => by omega⟩
      have e5 : eqOk (.int (deep : Int)) = true := rfl
      by_cases h4 : deep = 4
      · rw [if_pos h4]
        rw [decide_eq_true h4] at d4
        generalize D.str (r.take 1) = td at *
        generalize D.str [64] = sg at *
        generalize D.str s = sd at *
        generalize (deep : Int) = dp at *
        generalize At s r = q at *
        simp (maxSteps := 30000) (disch := first | assumption | (simp; done) | omega | (simp; omega)) [s1, e3, e3', e4, k1, d4, e5]
      · rw [if_neg h4]
        rw [decide_eq_false h4] at d4
        have hne : r ≠ [] := fun z => by subst z; cases hh
        have ht : r.tail <:+ s := (tl_suf r).trans hr
        have h5 : At s r + 1 = At s r.tail := At_tl hne
        have w1 := word_ok (st := []) l1 ht
        have dd : ((deep : Int) + 1) = ((deep + 1 : Nat) : Int) := by omega
        cases hw1 : Pt.word r.tail with
        | none =>
          rw [hw1] at w1
          simp only at w1 ⊢
          generalize D.str (r.take 1) = td at *
          generalize D.str [64] = sg at *
          generalize D.str s = sd at *
          generalize (deep : Int) = dp at *
          generalize At s r.tail = q2 at *
          generalize At s r = q at *
          subst h5
          simp (maxSteps := 30000) (disch := first | assumption | (simp; done) | omega | (simp; omega)) [s1, e3, e3', e4, k1, d4, e5, w1]
        | some y =>
          obtain ⟨g, r1⟩ := y
          rw [hw1] at w1
          simp only at w1 ⊢
          have hr1 : r1 <:+ s := (word_suf hw1).1.trans ht
          have a1 := arms_ok (R h4) hl h hr1
          cases ha1 : Pt.arms prec h (r1.length + 1) [] r1 with
          | none =>
            rw [ha1] at a1
            simp only at a1 ⊢
            generalize D.str (r.take 1) = td at *
            generalize D.str [64] = sg at *
            generalize D.str s = sd at *
            generalize D.str h.s = hd at *
            generalize ((deep + 1 : Nat) : Int) = dp1 at *
            generalize (deep : Int) = dp at *
            generalize At s r.tail = q2 at *
            generalize At s r1 = q3 at *
            generalize At s r = q at *
            subst h5
            subst dd
            simp (maxSteps := 30000) (disch := first | assumption | (simp; done) | omega | (simp; omega)) [s1, e3, e3', e4, k1, k2, d4, e5, w1, a1]
          | some y2 =>
            obtain ⟨as, r2⟩ := y2
            rw [ha1] at a1
            simp only at a1 ⊢
            have hr2 : r2 <:+ s := (arms_suf (R h4).suf ha1).trans hr1
            cases hem : as.isEmpty with
            | true =>
              rw [hem, if_pos rfl] at a1
              rw [if_pos rfl]
              simp only
              generalize D.str (r.take 1) = td at *
              generalize D.str [64] = sg at *
              generalize D.str s = sd at *
              generalize D.str h.s = hd at *
              generalize ((deep + 1 : Nat) : Int) = dp1 at *
              generalize (deep : Int) = dp at *
              generalize At s r.tail = q2 at *
              generalize At s r1 = q3 at *
              generalize At s r = q at *
              subst h5
              subst dd
              simp (maxSteps := 30000) (disch := first | assumption | (simp; done) | omega | (simp; omega)) [s1, e3, e3', e4, k1, k2, d4, e5, w1, a1]
            | false =>
              rw [hem, if_neg (by decide)] at a1
              rw [if_neg (by decide)]
              have g1 := sign_ok (st := []) l1 hr2 125
              cases hg1 : Pt.sign 125 r2 with
              | none =>
                rw [hg1] at g1
                simp only [Option.map_none] at g1 ⊢
                generalize D.str (r.take 1) = td at *
                generalize D.str [64] = sg at *
                generalize D.str s = sd at *
                generalize D.str h.s = hd at *
                generalize D.lst (dAs as) = ad at *
                generalize ((deep + 1 : Nat) : Int) = dp1 at *
                generalize (deep : Int) = dp at *
                generalize At s r.tail = q2 at *
                generalize At s r1 = q3 at *
                generalize At s r2 = q4 at *
                generalize At s r = q at *
                subst h5
                subst dd
                simp (maxSteps := 30000) (disch := first | assumption | (simp; done) | omega | (simp; omega)) [s1, e3, e3', e4, k1, k2, d4, e5, w1, a1, g1]
              | some r3 =>
                rw [hg1] at g1
                simp only [Option.map_some] at g1 ⊢
                have ep : (P.cho h g as).d = .tup [.str h.s, .str g, .lst (dAs as)] := rfl
                rw [ep]
                generalize D.str (r.take 1) = td at *
                generalize D.str [64] = sg at *
                generalize D.str s = sd at *
                generalize D.str h.s = hd at *
                generalize D.lst (dAs as) = ad at *
                generalize ((deep + 1 : Nat) : Int) = dp1 at *
                generalize (deep : Int) = dp at *
                generalize At s r.tail = q2 at *
                generalize At s r1 = q3 at *
                generalize At s r2 = q4 at *
                generalize At s r3 = q5 at *
                generalize At s r = q at *
                subst h5
                subst dd
                simp (maxSteps := 30000) (disch := first | assumption | (simp; done) | omega | (simp; omega)) [s1, e3, e3', e4, k1, k2, d4, e5, w1, a1, g1]
end
end M

namespace M
open PySem PySem.Spec PyProof.Rows L2 DL Pt
section
variable {s : List Nat} {deep : Nat} {rec : CallT} {prec : List Nat → Option (List P × List Nat)}
theorem plain_loop (hl : s.length ≤ 16777216) (a dp x3 : Sl) (x4 : Sl) (c0 : D) : ∀ r : List Nat, r <:+ s →
    sW (W_scan_parts_1 rec) (L_scan_parts_1 rec) [.d (.str s), .d c0, dp, x3, x4, .d (.int (At s r))] [] = .nx [.d (.str s), .d c0, dp, x3, x4, .d (.int (At s (r.dropWhile Pt.plain)))] []
  | [], h => by
    have h1 := At_ltF (s := s)
    have h2 : dLen [.str s] = some (.int (s.length : Int)) := dLen_s _ hl
    refine sW_false ?_
    rw [W_scan_parts_1]
    generalize D.str s = sd at *
    generalize (s.length : Int) = n at *
    simp only [List.dropWhile_nil]
    generalize At s [] = q at *
    simp (maxSteps := 30000) (disch := first | assumption | (simp; done) | omega | (simp; omega)) [h1, h2]
  | c :: r, h => by
    have h1 := At_ltT h (by simp)
    have h2 : dLen [.str s] = some (.int (s.length : Int)) := dLen_s _ hl
    have h3 := At_ix h hl
    have h4 := plain_ok c []
    cases hc : Pt.plain c with
    | false =>
      rw [hc] at h4
      rw [List.dropWhile_cons, if_neg (by rw [hc]; decide)]
      refine sW_false ?_
      rw [W_scan_parts_1]
      generalize D.str s = sd at *
      generalize D.str [c] = cd at *
      generalize (s.length : Int) = n at *
      generalize At s (c :: r) = q at *
      simp (maxSteps := 30000) (disch := first | assumption | (simp; done) | omega | (simp; omega)) [h1, h2, h3, h4]
    | true =>
      rw [hc] at h4
      rw [List.dropWhile_cons, if_pos hc]
      have ih := plain_loop hl a dp x3 x4 c0 r (suf_tl h)
      have h5 : At s (c :: r) + 1 = At s r := At_tl (by simp)
      rw [← ih]
      refine sW_true (S1 := [.d (.str s), .d c0, dp, x3, x4, .d (.int (At s (c :: r)))]) (st1 := []) ?_ ?_
      · rw [W_scan_parts_1]
        generalize D.str s = sd at *
        generalize D.str [c] = cd at *
        generalize (s.length : Int) = n at *
        generalize At s (c :: r) = q at *
        simp (maxSteps := 30000) (disch := first | assumption | (simp; done) | omega | (simp; omega)) [h1, h2, h3, h4]
      · rw [L_scan_parts_1, ← h5]
        generalize D.str s = sd at *
        generalize At s (c :: r) = q at *
        simp (maxSteps := 30000) (disch := first | assumption | (simp; done) | omega | (simp; omega)) []
theorem dw_len_eq (p : Nat → Bool) (r : List Nat) : (r.dropWhile p).length = r.length ↔ r.takeWhile p = [] := by
  have := congrArg List.length (List.takeWhile_append_dropWhile (p := p) (l := r))
  rw [List.length_append] at this
  constructor
  · intro h
    exact List.eq_nil_of_length_eq_zero (by omega)
  · intro h
    rw [h] at this; simpa using this
theorem parts_loop (R : deep ≠ 4 → RecOk s (deep + 1) rec prec) (hsuf : ∀ r i r', prec r = some (i, r') → r' <:+ r) (hl : s.length ≤ 16777000) (hd : deep ≤ 4) : ∀ (n : Nat) (acc : List P) (r : List Nat) (x4 x5 : Sl), r.length < n → acc.length + r.length ≤ s.length → r <:+ s →
    match Pt.loop prec deep n acc r with
    | some (bs, r') => ∃ x4' x5', sW (W_scan_parts_2 rec) (L_scan_parts_2 rec) [.d (.str s), .d (.int (At s r)), .d (.int deep), .own (.l (dPs acc)), x4, x5] [] = .nx [.d (.str s), .d (.int (At s r')), .d (.int deep), .own (.l (dPs bs)), x4', x5'] []
    | none => ∃ S', sW (W_scan_parts_2 rec) (L_scan_parts_2 rec) [.d (.str s), .d (.int (At s r)), .d (.int deep), .own (.l (dPs acc)), x4, x5] [] = .exc np S' [] := by
  intro n
  induction n with
  | zero => intro acc r x4 x5 h; omega
  | succ n ih =>
    intro acc r x4 x5 hn ha hr
    have l1 : s.length ≤ 16777216 := by omega
    have h2 : dLen [.str s] = some (.int (s.length : Int)) := dLen_s _ l1
    cases r with
    | nil =>
      rw [Pt.loop, if_pos (.inl rfl)]
      have h1 := At_ltF (s := s)
      refine ⟨x4, x5, sW_false ?_⟩
      rw [W_scan_parts_2]
      generalize D.str s = sd at *
      generalize (s.length : Int) = n at *
      generalize At s [] = q at *
      simp (maxSteps := 30000) (disch := first | assumption | (simp; done) | omega | (simp; omega)) [h1, h2]
    | cons c r =>
      have h1 := At_ltT hr (by simp)
      have h3 := At_ix hr l1
      have q1 : eqOk (.str [c]) = true := rfl
      have q2 : eqOk (.str [93]) = true := rfl
      have q3 : eqOk (.str [123]) = true := rfl
      have q4 : deq (.str [c]) (.str [93]) = decide (c = 93) := by rw [deq_str]; congr 1; simp
      have q5 : deq (.str [c]) (.str [123]) = decide (c = 123) := by rw [deq_str]; congr 1; simp
      rw [Pt.loop]
      by_cases h93 : c = 93
      · rw [if_pos (.inr (by rw [h93]; rfl))]
        rw [decide_eq_true h93] at q4
        refine ⟨x4, x5, sW_false ?_⟩
        rw [W_scan_parts_2]
        generalize D.str s = sd at *
        generalize D.str [c] = cd at *
        generalize D.str [93] = kd at *
        generalize (s.length : Int) = n at *
        generalize At s (c :: r) = q at *
        simp (maxSteps := 30000) (disch := first | assumption | (simp; done) | omega | (simp; omega)) [h1, h2, h3, q1, q2, q4]
      · rw [if_neg (fun z => by rcases z with z | z; exact absurd z (by simp); exact h93 (by simpa using z))]
        rw [decide_eq_false h93] at q4
        have hW : W_scan_parts_2 rec [.d (.str s), .d (.int (At s (c :: r))), .d (.int deep), .own (.l (dPs acc)), x4, x5] [] = .ok true [.d (.str s), .d (.int (At s (c :: r))), .d (.int deep), .own (.l (dPs acc)), x4, x5] [] := by
          rw [W_scan_parts_2]
          generalize D.str s = sd at *
          generalize D.str [c] = cd at *
          generalize D.str [93] = kd at *
          generalize (s.length : Int) = n at *
          generalize At s (c :: r) = q at *
          simp (maxSteps := 30000) (disch := first | assumption | (simp; done) | omega | (simp; omega)) [h1, h2, h3, q1, q2, q4]
        have d4 : (dPs acc).length < 16777216 := by rw [dPs_map, List.length_map]; omega
        by_cases h123 : c = 123
        · rw [if_pos (by rw [h123]; rfl), List.tail_cons]
          rw [decide_eq_true h123] at q5
          have hr1 := suf_tl hr
          have h5 : At s (c :: r) + 1 = At s r := At_tl (by simp)
          have b1 := brace_ok R hl hd hr1
          cases hb1 : Pt.brace prec deep r with
          | none =>
            rw [hb1] at b1
            simp only at b1 ⊢
            refine ⟨_, sW_exc (S2 := [.d (.str s), .d (.int (At s (c :: r))), .d (.int deep), .own (.l (dPs acc)), x4, x5]) (st2 := []) hW ?_⟩
            rw [L_scan_parts_2]
            generalize D.str s = sd at *
            generalize D.str [c] = cd at *
            generalize D.str [123] = kd at *
            generalize dPs acc = al at *
            generalize (deep : Int) = dp at *
            generalize At s r = q2' at *
            generalize At s (c :: r) = q at *
            subst h5
            simp (maxSteps := 30000) (disch := first | assumption | (simp; done) | omega | (simp; omega)) [h3, q1, q3, q5, b1]
          | some y =>
            obtain ⟨p, r1⟩ := y
            rw [hb1] at b1
            simp only at b1 ⊢
            have sf := brace_suf hsuf hb1
            have hl1 := sf.length_le
            have e10 : dPs (acc ++ [p]) = dPs acc ++ [p.d] := by rw [dPs_app]; rfl
            have hb : L_scan_parts_2 rec [.d (.str s), .d (.int (At s (c :: r))), .d (.int deep), .own (.l (dPs acc)), x4, x5] [] = .nx [.d (.str s), .d (.int (At s r1)), .d (.int deep), .own (.l (dPs (acc ++ [p]))), .d p.d, x5] [] := by
              rw [L_scan_parts_2, e10]
              generalize D.str s = sd at *
              generalize D.str [c] = cd at *
              generalize D.str [123] = kd at *
              generalize dPs acc = al at *
              generalize p.d = pd at *
              generalize (deep : Int) = dp at *
              generalize At s r1 = q3' at *
              generalize At s r = q2' at *
              generalize At s (c :: r) = q at *
              subst h5
              simp (maxSteps := 30000) (disch := first | assumption | (simp; done) | omega | (simp; omega)) [h3, q1, q3, q5, b1, d4]
            rw [sW_true hW hb]
            refine ih (acc ++ [p]) r1 (.d p.d) x5 (by simp at hn; omega) ?_ (sf.trans hr1)
            rw [List.length_append, List.length_singleton]
            simp at ha; omega
        · rw [if_neg (fun z => h123 (by simpa using z))]
          rw [decide_eq_false h123] at q5
          have pl := plain_loop (rec := rec) l1 (.d (.int deep)) (.d (.int deep)) (.own (.l (dPs acc))) x4 (.int (At s (c :: r))) (c :: r) hr
          have q6 : eqOk (.int (At s ((c :: r).dropWhile Pt.plain))) = true := rfl
          have q7 : eqOk (.int (At s (c :: r))) = true := rfl
          have q8 : deq (.int (At s ((c :: r).dropWhile Pt.plain))) (.int (At s (c :: r))) = ((c :: r).takeWhile Pt.plain).isEmpty := by
            rw [deq_int]
            have := dw_len_eq Pt.plain (c :: r)
            by_cases h : (c :: r).takeWhile Pt.plain = []
            · have h9 := this.mpr h
              rw [h, decide_eq_true (by unfold At; omega)]; rfl
            · have h9 : ¬ ((c :: r).dropWhile Pt.plain).length = (c :: r).length := fun z => h (this.mp z)
              rw [decide_eq_false (by unfold At; omega)]
              cases hq : (c :: r).takeWhile Pt.plain with
              | nil => exact absurd hq h
              | cons _ _ => rfl
          cases hem : ((c :: r).takeWhile Pt.plain).isEmpty with
          | true =>
            rw [if_pos rfl]
            rw [hem] at q8
            refine ⟨_, sW_exc (S2 := [.d (.str s), .d (.int (At s (c :: r))), .d (.int deep), .own (.l (dPs acc)), x4, .d (.int (At s ((c :: r).dropWhile Pt.plain)))]) (st2 := []) hW ?_⟩
            rw [L_scan_parts_2]
            generalize D.str s = sd at *
            generalize D.str [c] = cd at *
            generalize D.str [123] = kd at *
            generalize dPs acc = al at *
            generalize (deep : Int) = dp at *
            generalize At s ((c :: r).dropWhile Pt.plain) = q2' at *
            generalize At s (c :: r) = q at *
            simp (maxSteps := 30000) (disch := first | assumption | (simp; done) | omega | (simp; omega)) [h3, q1, q3, q5, pl, q6, q7, q8]
          | false =>
            rw [if_neg (by decide)]
            rw [hem] at q8
            have e := (List.takeWhile_append_dropWhile (p := Pt.plain) (l := c :: r)).symm
            have s2 := At_cut hr e l1
            have e10 : dPs (acc ++ [.txt ((c :: r).takeWhile Pt.plain)]) = dPs acc ++ [.tup [.str [116, 101, 120, 116], .str ((c :: r).takeWhile Pt.plain)]] := by rw [dPs_app]; rfl
            have hb : L_scan_parts_2 rec [.d (.str s), .d (.int (At s (c :: r))), .d (.int deep), .own (.l (dPs acc)), x4, x5] [] = .nx [.d (.str s), .d (.int (At s ((c :: r).dropWhile Pt.plain))), .d (.int deep), .own (.l (dPs (acc ++ [.txt ((c :: r).takeWhile Pt.plain)]))), x4, .d (.int (At s ((c :: r).dropWhile Pt.plain)))] [] := by
              rw [L_scan_parts_2, e10]
              generalize D.str s = sd at *
              generalize D.str [c] = cd at *
              generalize D.str [123] = kd at *
              generalize D.str ((c :: r).takeWhile Pt.plain) = td at *
              generalize dPs acc = al at *
              generalize (deep : Int) = dp at *
              generalize At s ((c :: r).dropWhile Pt.plain) = q2' at *
              generalize At s (c :: r) = q at *
              simp (maxSteps := 30000) (disch := first | assumption | (simp; done) | omega | (simp; omega)) [h3, q1, q3, q5, pl, q6, q7, q8, s2, d4]
            rw [sW_true hW hb]
            have hne : ((c :: r).takeWhile Pt.plain) ≠ [] := fun z => by rw [z] at hem; cases hem
            have h7 := congrArg List.length e
            rw [List.length_append] at h7
            have h8 : ((c :: r).takeWhile Pt.plain).length ≠ 0 := by simpa using hne
            refine ih _ _ x4 (.d (.int (At s ((c :: r).dropWhile Pt.plain)))) (by omega) ?_ ((dw_suf _ _).trans hr)
            rw [List.length_append, List.length_singleton]
            omega
theorem parts_ok (hl : s.length ≤ 16777000) : ∀ (k deep : Nat), 5 ≤ deep + k → deep ≤ 4 → k ≤ 9 → RecOk s deep (c_scan_parts k) (Pt.parts k deep) := by
  intro k
  induction k with
  | zero => intro deep h1 h2; omega
  | succ k ih =>
    intro deep h1 h2 h3
    have R : deep ≠ 4 → RecOk s (deep + 1) (c_scan_parts k) (Pt.parts k (deep + 1)) := fun h => ih (deep + 1) (by omega) (by omega) (by omega)
    refine ⟨fun r hr => ?_, fun r i r' e => parts_suf e, fun r i r' e => by have := parts_lv e; omega⟩
    have hh := parts_loop R (fun r i r' e => parts_suf e) hl h2 (r.length + 1) [] r .no .no (by omega) (by have := hr.length_le; simp; omega) hr
    have eb : c_scan_parts (k + 1) [.str s, .int (At s r), .int deep] [] = finB ((sSeq (sW (W_scan_parts_2 (c_scan_parts k)) (L_scan_parts_2 (c_scan_parts k))) (sR (pE (aC (oV (zE 3)) (aC (oV (vE 1)) (aN)))))) [.d (.str s), .d (.int (At s r)), .d (.int deep), .own (.l []), .no, .no] []) := by
      rw [c_scan_parts, runB_k, b_scan_parts]
      generalize sSeq (sW (W_scan_parts_2 (c_scan_parts k)) (L_scan_parts_2 (c_scan_parts k))) _ = f
      simp (maxSteps := 30000) (disch := first | assumption | (simp; done) | omega | (simp; omega)) []
    rw [eb, Pt.parts]
    have en : dPs [] = [] := rfl
    rw [en] at hh
    cases ha : Pt.loop (Pt.parts k (deep + 1)) deep (r.length + 1) [] r with
    | none =>
      rw [ha] at hh
      obtain ⟨S', hh⟩ := hh
      simp [hh]
    | some x =>
      obtain ⟨ps, r'⟩ := x
      rw [ha] at hh
      obtain ⟨x4, x5, hh⟩ := hh
      simp only
      generalize dPs ps = al at *
      simp only [sSeq_a, hh, Out.then_nx]
      simp (maxSteps := 30000) (disch := first | assumption | (simp; done) | omega | (simp; omega)) []
end
end M

namespace M
open PySem PySem.Spec PyProof.Rows L2 DL Pt
section
def P.inn : P → List Arm
  | .cho _ _ as => as
  | _ => []
theorem is_choice_ok (p : P) (st : Store) : c_is_choice [p.d] st = .ok (.bl (match p with | .cho _ _ _ => true | _ => false)) [] st := by
  cases p with
  | txt s => rfl
  | gap s => rfl
  | say k bs => rfl
  | cho h g as => cases h <;> rfl
theorem inner_ok (p : P) (st : Store) (hl : (P.inn p).length ≤ 16777216) : c_inner_of [p.d] st = .ok (.lst ((P.inn p).map fun a => .lst (dPs a.i))) [] st := by
  have h1 := is_choice_ok p st
  cases p with
  | txt s =>
    rw [c_inner_of, runB_k, b_inner_of]
    simp only [P.inn] at h1 ⊢
    generalize (P.txt s).d = pd at *
    simp (maxSteps := 30000) (disch := first | assumption | (simp; done) | omega | (simp; omega)) [h1]
  | gap s =>
    rw [c_inner_of, runB_k, b_inner_of]
    simp only [P.inn] at h1 ⊢
    generalize (P.gap s).d = pd at *
    simp (maxSteps := 30000) (disch := first | assumption | (simp; done) | omega | (simp; omega)) [h1]
  | say k bs =>
    rw [c_inner_of, runB_k, b_inner_of]
    simp only [P.inn] at h1 ⊢
    generalize (P.say k bs).d = pd at *
    simp (maxSteps := 30000) (disch := first | assumption | (simp; done) | omega | (simp; omega)) [h1]
  | cho h g as =>
    have h2 : dIx (P.cho h g as).d (.int 2) = some (.lst (dAs as)) := rfl
    have key := lcL_map (g := gT 2 (gC (gV 1) (gC (gV 2) (gN)))) (own := [1, 2]) (f := E_inner_of_1) (S := [.d (P.cho h g as).d, .no, .no]) (st := st) (fun d => match d with | .tup [_, i] => i | _ => .non) (dAs as) (fun d hd => by
      rw [dAs_map] at hd
      obtain ⟨a, _, rfl⟩ := List.mem_map.mp hd
      cases a
      exact ⟨_, _, rfl, by rw [E_inner_of_1]; simp [Arm.d] <;> rfl, by simp⟩)
    have e1 : (dAs as).map (fun d => match d with | .tup [_, i] => i | _ => .non) = as.map fun a => .lst (dPs a.i) := by
      rw [dAs_map, List.map_map]; congr 1; funext a; cases a; rfl
    rw [e1] at key
    have hl2 : (as.map fun a => D.lst (dPs a.i)).length ≤ 16777216 := by simpa [P.inn] using hl
    rw [c_inner_of, runB_k, b_inner_of]
    simp only [P.inn] at h1 ⊢
    generalize (as.map fun a => D.lst (dPs a.i)) = il at *
    generalize dAs as = al at *
    generalize (P.cho h g as).d = pd at *
    simp (maxSteps := 30000) (disch := first | assumption | (simp; done) | omega | (simp; omega)) [h1, h2, key, hl2]
theorem sz_inn (p : P) : p.sz = 1 + ((P.inn p).map fun a => szPs a.i).sum := by
  cases p with
  | cho h g as =>
    have : ∀ as : List Arm, szAs as = (as.map fun a => szPs a.i).sum := fun as => by
      induction as with
      | nil => simp [szAs]
      | cons a r ih => cases a; simp [szAs, Arm.sz, Arm.i, ih]
    simp [P.sz, P.inn, this]; omega
  | _ => simp [P.sz, P.inn]
theorem lv_inn (p : P) {a : Arm} (h : a ∈ P.inn p) : lvPs a.i < p.lv := by
  cases p with
  | cho hh g as =>
    have : ∀ as : List Arm, a ∈ as → lvPs a.i ≤ lvAs as := fun as h => by
      induction as with
      | nil => cases h
      | cons b r ih =>
        rcases List.mem_cons.mp h with rfl | h
        · cases a; simp [lvAs, Arm.lv, Arm.i]; omega
        · have := ih h; simp [lvAs]; omega
    have := this as h
    simp [P.lv]; omega
  | _ => cases h
theorem as_len : ∀ as : List Arm, as.length ≤ (tAs as).length
  | [] => by simp
  | .mk n i :: r => by have := as_len r; simp [tAs, Arm.t]; omega
theorem inn_len (p : P) : (P.inn p).length ≤ p.t.length := by
  cases p with
  | cho h g as => have := as_len as; simp [P.inn, P.t]; omega
  | _ => simp [P.inn]
theorem inn_t {p : P} {a : Arm} (h : a ∈ P.inn p) : (tPs a.i).length ≤ p.t.length := by
  cases p with
  | cho hh g as =>
    have : ∀ as : List Arm, a ∈ as → (tPs a.i).length ≤ (tAs as).length := fun as h => by
      induction as with
      | nil => cases h
      | cons b r ih =>
        rcases List.mem_cons.mp h with rfl | h
        · cases a; simp [tAs, Arm.t, Arm.i]; omega
        · have := ih h; simp [tAs]; omega
    have := this as h
    simp [P.t]; omega
  | _ => cases h
theorem sum_ints (l : List Nat) : ((l.map fun n : Nat => (n : Int)).sum) = (l.sum : Nat) := by
  induction l with
  | nil => rfl
  | cons a r ih => simp [ih]
theorem size_ok : ∀ (k : Nat) (ps : List P), lvPs ps < k → (tPs ps).length ≤ 16777216 → c_size k [.lst (dPs ps)] [] = .ok (.int (szPs ps : Nat)) [] [] := by
  intro k
  induction k with
  | zero => intro ps h; omega
  | succ k ih =>
    intro ps hlv ht
    have key : ∀ (qs : List P) (n : Nat) (x2 : Sl) (pd : D), (∀ q ∈ qs, q.lv ≤ k ∧ q.t.length ≤ 16777216) → ∃ x2', forL (gV 2) (L_size_1 (c_size k)) (dPs qs) [.d pd, .d (.int (n : Nat)), x2, .no] [] = .nx [.d pd, .d (.int ((n + szPs qs : Nat))), x2', .no] [] := by
      intro qs
      induction qs with
      | nil => intro n x2 pd _; exact ⟨x2, rfl⟩
      | cons q qs ihq =>
        intro n x2 pd hq
        obtain ⟨q1, q2⟩ := hq q (List.mem_cons_self ..)
        have hi := inner_ok q [] (by have := inn_len q; omega)
        have kk := lcL_list (g := gV 3) (own := [3]) (f := E_size_1 (c_size k)) (S := [.d pd, .d (.int (n : Nat)), .d q.d, .no]) (st := []) (fun a : Arm => .lst (dPs a.i)) (fun a => .int (szPs a.i : Nat)) (P.inn q) (fun a ha => by
          have h1 := ih a.i (by have := lv_inn q ha; omega) (by have := inn_t ha; omega)
          refine ⟨_, [.d pd, .d (.int (n : Nat)), .d q.d, .d (.lst (dPs a.i))], rfl, ?_, by simp⟩
          rw [E_size_1]
          generalize D.lst (dPs a.i) = ad at *
          simp [h1])
        have hl : ((P.inn q).map fun a => D.int (szPs a.i : Nat)).length ≤ 16777216 := by have := inn_len q; simp; omega
        have hs : dSum [.lst ((P.inn q).map fun a => D.int (szPs a.i : Nat))] = some (.int (((P.inn q).map fun a => szPs a.i).sum : Nat)) := by
          have e : ((P.inn q).map fun a => D.int (szPs a.i : Nat)) = ((((P.inn q).map fun a => szPs a.i)).map fun n : Nat => (n : Int)).map D.int := by simp [List.map_map, Function.comp_def]
          rw [e, dSum_a, DL.ints_map, ← sum_ints]; rfl
        have hsz : ((n : Int) + 1 + (((P.inn q).map fun a => szPs a.i).sum : Nat)) = ((n + q.sz : Nat) : Int) := by rw [sz_inn q]; omega
        have hb : L_size_1 (c_size k) [.d pd, .d (.int (n : Nat)), .d q.d, .no] [] = .nx [.d pd, .d (.int ((n + q.sz : Nat))), .d q.d, .no] [] := by
          rw [L_size_1, ← hsz]
          generalize ((P.inn q).map fun a => D.int (szPs a.i : Nat)) = il at *
          generalize ((P.inn q).map fun a => D.lst (dPs a.i)) = jl at *
          generalize ((((P.inn q).map fun a => szPs a.i).sum : Nat) : Int) = sm at *
          generalize (n : Int) = ni at *
          generalize q.d = qd at *
          clear ihq ih hsz
          simp (maxSteps := 30000) (disch := first | assumption | (simp; done) | omega | (simp; omega)) [hi, kk, hl, hs]
        obtain ⟨x2', e⟩ := ihq (n + q.sz) (.d q.d) pd (fun q hq' => hq q (List.mem_cons_of_mem _ hq'))
        refine ⟨x2', ?_⟩
        rw [dPs, forL_c, gV_a]
        simp only [List.set_cons_succ, List.set_cons_zero, hb]
        rw [e, szPs, Nat.add_assoc]
    have hq : ∀ q ∈ ps, q.lv ≤ k ∧ q.t.length ≤ 16777216 := by
      have a1 : ∀ ps : List P, ∀ q ∈ ps, q.lv ≤ lvPs ps ∧ q.t.length ≤ (tPs ps).length := fun ps => by
        induction ps with
        | nil => intro q h; cases h
        | cons p r ihp =>
          intro q h
          rcases List.mem_cons.mp h with rfl | h
          · simp [lvPs, tPs]; omega
          · have := ihp q h; simp [lvPs, tPs]; omega
      intro q h
      have := a1 ps q h; omega
    obtain ⟨x2', e⟩ := key ps 0 .no (.lst (dPs ps)) hq
    rw [c_size, runB_k, b_size]
    rw [Nat.zero_add] at e
    have e0 : ((0 : Nat) : Int) = 0 := rfl
    rw [e0] at e
    have hi : itD (.lst (dPs ps)) = some (dPs ps) := rfl
    generalize dPs ps = pl at *
    clear key ih
    simp (maxSteps := 30000) (disch := first | assumption | (simp; done) | omega | (simp; omega)) [e, hi]
theorem read_ok (s : List Nat) (hl : s.length ≤ 16777000) : c_read [.str s] [] = match Pt.read s with
    | some ps => .ok (.lst (dPs ps)) [] []
    | none => .exc np [] [] := by
  have l1 : dLen [.str s] = some (.int (s.length : Int)) := dLen_s _ (by omega)
  have i1 : dIsI [.str s, .ty "str"] = some (.bl true) := rfl
  unfold Pt.read
  by_cases h : 1000 < s.length
  · have g1 : dGt (.int (s.length : Int)) (.int 1000) = some (.bl true) := by rw [dGt_i, decide_eq_true (by omega)]
    rw [if_pos h, c_read, runB_k, b_read]
    simp only
    generalize D.str s = sd at *
    generalize (s.length : Int) = n at *
    simp (maxSteps := 30000) (disch := first | assumption | (simp; done) | omega | (simp; omega)) [l1, i1, g1]
  · have g1 : dGt (.int (s.length : Int)) (.int 1000) = some (.bl false) := by rw [dGt_i, decide_eq_false (by omega)]
    have R := (parts_ok (s := s) hl 6 0 (by omega) (by omega) (by omega)).ok s (List.suffix_refl _)
    rw [At_0] at R
    have e00 : ((0 : Nat) : Int) = 0 := rfl
    rw [e00] at R
    rw [if_neg h, c_read, runB_k, b_read]
    cases hp : Pt.parts 6 0 s with
    | none =>
      rw [hp] at R
      simp only at R ⊢
      generalize D.str s = sd at *
      generalize (s.length : Int) = n at *
      simp (maxSteps := 30000) (disch := first | assumption | (simp; done) | omega | (simp; omega)) [l1, i1, g1, R]
    | some y =>
      obtain ⟨ps, r'⟩ := y
      rw [hp] at R
      simp only at R ⊢
      obtain ⟨f1, f2, f3⟩ := parts_inv 6 0 (by omega) hp
      have hlv : lvPs ps ≤ 6 := parts_lv hp
      have ht : (tPs ps).length ≤ s.length := by rw [f1]; simp
      have hs := size_ok 8 ps (by omega) (by omega)
      have hsuf : r' <:+ s := ⟨tPs ps, f1.symm⟩
      by_cases hr : r' = []
      · subst hr
        have g2 := At_ltF (s := s)
        by_cases h40 : 40 < szPs ps
        · have g3 : dGt (.int (szPs ps : Nat)) (.int 40) = some (.bl true) := by rw [dGt_i, decide_eq_true (by omega)]
          rw [if_pos (.inr h40)]
          simp only
          generalize D.str s = sd at *
          generalize D.lst (dPs ps) = pd at *
          generalize (s.length : Int) = n at *
          generalize ((szPs ps : Nat) : Int) = z at *
          generalize At s [] = q at *
          simp (maxSteps := 30000) (disch := first | assumption | (simp; done) | omega | (simp; omega)) [l1, i1, g1, R, g2, g3, hs]
        · have g3 : dGt (.int (szPs ps : Nat)) (.int 40) = some (.bl false) := by rw [dGt_i, decide_eq_false (by omega)]
          rw [if_neg (by simp; omega)]
          simp only
          generalize D.str s = sd at *
          generalize D.lst (dPs ps) = pd at *
          generalize (s.length : Int) = n at *
          generalize ((szPs ps : Nat) : Int) = z at *
          generalize At s [] = q at *
          simp (maxSteps := 30000) (disch := first | assumption | (simp; done) | omega | (simp; omega)) [l1, i1, g1, R, g2, g3, hs]
      · have g2 := At_ltT hsuf hr
        rw [if_pos (.inl hr)]
        simp only
        generalize D.str s = sd at *
        generalize D.lst (dPs ps) = pd at *
        generalize (s.length : Int) = n at *
        generalize At s r' = q at *
        simp (maxSteps := 30000) (disch := first | assumption | (simp; done) | omega | (simp; omega)) [l1, i1, g1, R, g2]
end
end M

namespace M
open PySem PySem.Spec PyProof.Rows L2 DL Pt
theorem flat_sum (l : List (List Nat)) : (l.map (·.length)).sum = l.flatten.length := List.length_flatten.symm
theorem tAs_flat : ∀ as : List Arm, tAs as = (as.map Arm.t).flatten
  | [] => rfl
  | a :: r => by simp [tAs, tAs_flat r]
theorem bs_len : ∀ bs : List (List Nat × List Nat), bs.length ≤ ((bs.map bT).flatten).length
  | [] => by simp
  | b :: r => by
    have := bs_len r
    rw [List.map_cons, List.flatten_cons, List.length_append, List.length_cons]
    have : 1 ≤ (bT b).length := by simp [bT]
    omega
theorem mark_ok (h : H) : dGetK (.dic (putD (putD [(.str [109, 97, 110, 121], .str [35])] (.str [107, 105, 110, 100]) (.str [126])) (.str [114, 97, 110, 107]) (.str [94]))) (.str h.s) = some (.str [h.m]) := by
  cases h <;> rfl
section
variable {st : Store}
theorem E1_ok {rec : CallT} (S : Sls) (a b : List Nat) (h4 : S[4]? = some (.d (.str a))) (h5 : S[5]? = some (.d (.str b))) (hl : a.length + b.length ≤ 1000000) : E__law_text_1 rec S st = .ok (.str (bT (a, b))) S st := by
  have a1 : dAdd (.str [32]) (.str a) = some (.str (32 :: a)) := dAdd_s _ _ (by simp; omega)
  have a2 : dAdd (.str (32 :: a)) (.str [61]) = some (.str (32 :: a ++ [61])) := dAdd_s _ _ (by simp; omega)
  have a3 : dAdd (.str (32 :: a ++ [61])) (.str b) = some (.str (32 :: a ++ [61] ++ b)) := dAdd_s _ _ (by simp; omega)
  have e : bT (a, b) = 32 :: a ++ [61] ++ b := by simp [bT]
  rw [E__law_text_1, e]
  simp only [o2E_a, oV_a, kE_a, vE_a, h4, h5, Res.bind_ok, vw_v, a1, a2, a3, got_some]
theorem E2_ok {rec : CallT} (S : Sls) (a : Arm) (h7 : S[7]? = some (.d (.str a.n))) (h8 : S[8]? = some (.d (.lst (dPs a.i)))) (hr : rec [.lst (dPs a.i)] st = .ok (.str (tPs a.i)) [] st) (hl : a.t.length ≤ 1000000) : E__law_text_2 rec S st = .ok (.str a.t) S st := by
  obtain ⟨n, i⟩ := a
  simp only [Arm.n, Arm.i, Arm.t] at *
  simp at hl
  have a1 : dAdd (.str [32]) (.str n) = some (.str (32 :: n)) := dAdd_s _ _ (by simp; omega)
  have a2 : dAdd (.str (32 :: n)) (.str [91]) = some (.str (32 :: n ++ [91])) := dAdd_s _ _ (by simp; omega)
  have a3 : dAdd (.str (32 :: n ++ [91])) (.str (tPs i)) = some (.str (32 :: n ++ [91] ++ tPs i)) := dAdd_s _ _ (by simp; omega)
  have a4 : dAdd (.str (32 :: n ++ [91] ++ tPs i)) (.str [93]) = some (.str (32 :: n ++ [91] ++ tPs i ++ [93])) := dAdd_s _ _ (by simp; omega)
  have e : 32 :: (n ++ 91 :: (tPs i ++ [93])) = 32 :: n ++ [91] ++ tPs i ++ [93] := by simp
  rw [E__law_text_2, e]
  generalize D.lst (dPs i) = id at *
  simp only [o2E_a, oV_a, kE_a, vE_a, h7, h8, Res.bind_ok, vw_v, a1, a2, got_some, cE_a, aC_a, aN_a, vds_c, vds_n, vd_v, hr, a3, a4]
theorem text_ok : ∀ (k : Nat) (ps : List P), lvPs ps < k → (tPs ps).length ≤ 100000 → c__law_text k [.lst (dPs ps)] st = .ok (.str (tPs ps)) [] st := by
  intro k
  induction k with
  | zero => intro ps h; omega
  | succ k ih =>
    intro ps hlv ht
    have key : ∀ (qs : List P) (acc : List Nat) (x2 x3 x6 x9 : Sl) (pd : D), (∀ q ∈ qs, q.lv ≤ k) → acc.length + (tPs qs).length ≤ 100000 → ∃ S', forL (gV 2) (L__law_text_1 (c__law_text k)) (dPs qs) [.d pd, .d (.str acc), x2, x3, .no, .no, x6, .no, .no, x9] st = .nx S' st ∧ S'[1]? = some (.d (.str (acc ++ tPs qs))) := by
      intro qs
      induction qs with
      | nil => intro acc x2 x3 x6 x9 pd _ _; exact ⟨_, rfl, by simp [tPs]⟩
      | cons q qs ihq =>
        intro acc x2 x3 x6 x9 pd hq hl
        have hq1 := hq q (List.mem_cons_self ..)
        rw [tPs, List.length_append] at hl
        have hb : ∃ x3' x6' x9', L__law_text_1 (c__law_text k) [.d pd, .d (.str acc), .d q.d, x3, .no, .no, x6, .no, .no, x9] st = .nx [.d pd, .d (.str (acc ++ q.t)), .d q.d, x3', .no, .no, x6', .no, .no, x9'] st := by
          cases q with
          | txt s =>
            simp only [P.t] at hl
            have i0 : dIx (P.txt s).d (.int 0) = some (.str [116, 101, 120, 116]) := rfl
            have i1 : dIx (P.txt s).d (.int 1) = some (.str s) := rfl
            have a1 : dAdd (.str acc) (.str s) = some (.str (acc ++ s)) := dAdd_s _ _ (by omega)
            refine ⟨x3, x6, x9, ?_⟩
            rw [L__law_text_1]
            simp only [P.t]
            generalize (P.txt s).d = qd at *
            generalize D.str (acc ++ s) = rd at *
            generalize D.str s = sd at *
            generalize D.str acc = ad at *
            simp (maxSteps := 30000) (disch := first | assumption | (simp; done) | omega | (simp; omega)) [i0, i1, a1]
          | gap w =>
            simp only [P.t] at hl
            simp at hl
            have i0 : dIx (P.gap w).d (.int 0) = some (.str [103, 97, 112]) := rfl
            have i1 : dIx (P.gap w).d (.int 1) = some (.str w) := rfl
            have a1 : dAdd (.str acc) (.str [123]) = some (.str (acc ++ [123])) := dAdd_s _ _ (by simp; omega)
            have a2 : dAdd (.str (acc ++ [123])) (.str w) = some (.str (acc ++ [123] ++ w)) := dAdd_s _ _ (by simp; omega)
            have a3 : dAdd (.str (acc ++ [123] ++ w)) (.str [125]) = some (.str (acc ++ [123] ++ w ++ [125])) := dAdd_s _ _ (by simp; omega)
            have e : acc ++ (P.gap w).t = acc ++ [123] ++ w ++ [125] := by simp [P.t]
            refine ⟨x3, x6, x9, ?_⟩
            rw [L__law_text_1, e]
            generalize (P.gap w).d = qd at *
            generalize D.str (acc ++ [123] ++ w ++ [125]) = rd at *
            generalize D.str (acc ++ [123] ++ w) = r2 at *
            generalize D.str (acc ++ [123]) = r3 at *
            generalize D.str w = sd at *
            generalize D.str acc = ad at *
            simp (maxSteps := 30000) (disch := first | assumption | (simp; done) | omega | (simp; omega)) [i0, i1, a1, a2, a3]
          | say w bs =>
            have e : acc ++ (P.say w bs).t = acc ++ [123, 64] ++ w ++ (bs.map bT).flatten ++ [125] := by simp [P.t]
            simp only [P.t] at hl
            simp only [List.length_cons, List.length_append, List.length_nil] at hl
            have i0 : dIx (P.say w bs).d (.int 0) = some (.str [115, 97, 121]) := rfl
            have i1 : dIx (P.say w bs).d (.int 1) = some (.str w) := rfl
            have i2 : dIx (P.say w bs).d (.int 2) = some (.lst (bs.map bD)) := rfl
            have a1 : dAdd (.str acc) (.str [123, 64]) = some (.str (acc ++ [123, 64])) := dAdd_s _ _ (by simp; omega)
            have a2 : dAdd (.str (acc ++ [123, 64])) (.str w) = some (.str (acc ++ [123, 64] ++ w)) := dAdd_s _ _ (by simp; omega)
            have a3 : dAdd (.str (acc ++ [123, 64] ++ w)) (.str (bs.map bT).flatten) = some (.str (acc ++ [123, 64] ++ w ++ (bs.map bT).flatten)) := dAdd_s _ _ (by simp only [List.length_append, List.length_cons, List.length_nil]; omega)
            have a4 : dAdd (.str (acc ++ [123, 64] ++ w ++ (bs.map bT).flatten)) (.str [125]) = some (.str (acc ++ [123, 64] ++ w ++ (bs.map bT).flatten ++ [125])) := dAdd_s _ _ (by simp only [List.length_append, List.length_cons, List.length_nil]; omega)
            have bl : ∀ b ∈ bs, (bT b).length ≤ ((bs.map bT).flatten).length := fun b hb => by
              have := List.Sublist.length_le (List.sublist_flatten_of_mem (List.mem_map_of_mem (f := bT) hb))
              exact this
            have kk := lcL_list (g := gT 2 (gC (gV 4) (gC (gV 5) (gN)))) (own := [4, 5]) (f := E__law_text_1 (c__law_text k)) (S := [.d pd, .d (.str acc), .d (P.say w bs).d, x3, .no, .no, x6, .no, .no, x9]) (st := st) bD (fun b => .str (bT b)) bs (fun b hb => by
              have hlb := bl b hb
              refine ⟨_, [.d pd, .d (.str acc), .d (P.say w bs).d, x3, .d (.str b.1), .d (.str b.2), x6, .no, .no, x9], rfl, ?_, rfl⟩
              exact E1_ok (a := b.1) (b := b.2) _ rfl rfl (by have e2 : (bT b).length = b.1.length + b.2.length + 2 := (by simp [bT]; omega); omega))
            have hlen : (bs.map fun b => D.str (bT b)).length ≤ 16777216 := by
              have := bs_len bs
              rw [List.length_map]; omega
            have ej : (bs.map fun b => D.str (bT b)) = (bs.map bT).map D.str := by simp [List.map_map, Function.comp_def]
            have j1 : dJoin (.str []) [.lst (bs.map fun b => D.str (bT b))] = some (.str (bs.map bT).flatten) := by
              rw [ej, dJoin_a _ _ (by rw [flat_sum]; simp only [List.length_nil, Nat.mul_zero, Nat.add_zero]; omega), joinN_e]
            have ty : tyD "str" (.str []) = true := rfl
            refine ⟨.d (.lst (bs.map fun b => D.str (bT b))), x6, x9, ?_⟩
            rw [L__law_text_1, e]
            generalize (bs.map fun b => D.str (bT b)) = il at *
            generalize bs.map bD = jl at *
            generalize (P.say w bs).d = qd at *
            generalize D.str (acc ++ [123, 64] ++ w ++ (bs.map bT).flatten ++ [125]) = rd at *
            generalize D.str (acc ++ [123, 64] ++ w ++ (bs.map bT).flatten) = r2 at *
            generalize D.str (bs.map bT).flatten = fd at *
            generalize D.str (acc ++ [123, 64] ++ w) = r3 at *
            generalize D.str (acc ++ [123, 64]) = r4 at *
            generalize D.str w = sd at *
            generalize D.str acc = ad at *
            clear ihq ih bl ej
            simp (maxSteps := 30000) (disch := first | assumption | (simp; done) | omega | (simp; omega)) [i0, i1, i2, a1, a2, a3, a4, kk, hlen, j1, ty]
          | cho h w as =>
            have e : acc ++ (P.cho h w as).t = acc ++ [123] ++ [h.m] ++ w ++ (as.map Arm.t).flatten ++ [125] := by simp [P.t, tAs_flat]
            simp only [P.t] at hl
            simp only [List.length_cons, List.length_append, List.length_nil] at hl
            rw [tAs_flat] at hl
            have n1 : (h.s == [116, 101, 120, 116]) = false ∧ (h.s == [103, 97, 112]) = false ∧ (h.s == [115, 97, 121]) = false := by cases h <;> decide
            have i0 : dIx (P.cho h w as).d (.int 0) = some (.str h.s) := rfl
            have i1 : dIx (P.cho h w as).d (.int 1) = some (.str w) := rfl
            have i2 : dIx (P.cho h w as).d (.int 2) = some (.lst (dAs as)) := rfl
            have q1 : deq (.str h.s) (.str [116, 101, 120, 116]) = false := by rw [deq_str]; cases h <;> rfl
            have q2 : deq (.str h.s) (.str [103, 97, 112]) = false := by rw [deq_str]; cases h <;> rfl
            have q3 : deq (.str h.s) (.str [115, 97, 121]) = false := by rw [deq_str]; cases h <;> rfl
            have q0 : eqOk (.str h.s) = true := rfl
            have mk := mark_ok h
            have a1 : dAdd (.str acc) (.str [123]) = some (.str (acc ++ [123])) := dAdd_s _ _ (by simp; omega)
            have a2 : dAdd (.str (acc ++ [123])) (.str [h.m]) = some (.str (acc ++ [123] ++ [h.m])) := dAdd_s _ _ (by simp; omega)
            have a3 : dAdd (.str (acc ++ [123] ++ [h.m])) (.str w) = some (.str (acc ++ [123] ++ [h.m] ++ w)) := dAdd_s _ _ (by simp only [List.length_append, List.length_cons, List.length_nil]; omega)
            have a4 : dAdd (.str (acc ++ [123] ++ [h.m] ++ w)) (.str (as.map Arm.t).flatten) = some (.str (acc ++ [123] ++ [h.m] ++ w ++ (as.map Arm.t).flatten)) := dAdd_s _ _ (by simp only [List.length_append, List.length_cons, List.length_nil]; omega)
            have a5 : dAdd (.str (acc ++ [123] ++ [h.m] ++ w ++ (as.map Arm.t).flatten)) (.str [125]) = some (.str (acc ++ [123] ++ [h.m] ++ w ++ (as.map Arm.t).flatten ++ [125])) := dAdd_s _ _ (by simp only [List.length_append, List.length_cons, List.length_nil]; omega)
            have bl : ∀ b ∈ as, (Arm.t b).length ≤ ((as.map Arm.t).flatten).length := fun b hb => by
              exact List.Sublist.length_le (List.sublist_flatten_of_mem (List.mem_map_of_mem (f := Arm.t) hb))
            have kk := lcL_list (g := gT 2 (gC (gV 7) (gC (gV 8) (gN)))) (own := [7, 8]) (f := E__law_text_2 (c__law_text k)) (S := [.d pd, .d (.str acc), .d (P.cho h w as).d, x3, .no, .no, x6, .no, .no, x9]) (st := st) Arm.d (fun b => .str (Arm.t b)) as (fun b hb => by
              have hlb := bl b hb
              obtain ⟨bn, bi⟩ := b
              have hlv2 : lvPs bi < k := by
                have : lvPs (Arm.mk bn bi).i < (P.cho h w as).lv := lv_inn (.cho h w as) (a := .mk bn bi) hb
                simp only [Arm.i] at this; omega
              have hle : (tPs bi).length ≤ (Arm.t (.mk bn bi)).length := by simp [Arm.t]; omega
              refine ⟨_, [.d pd, .d (.str acc), .d (P.cho h w as).d, x3, .no, .no, x6, .d (.str bn), .d (.lst (dPs bi)), x9], rfl, ?_, rfl⟩
              exact E2_ok (a := .mk bn bi) _ rfl rfl (ih bi hlv2 (by omega)) (by omega))
            rw [← dAs_map] at kk
            have hlen : (as.map fun b => D.str (Arm.t b)).length ≤ 16777216 := by
              have := as_len as
              rw [tAs_flat] at this
              simp; omega
            have ej : (as.map fun b => D.str (Arm.t b)) = (as.map Arm.t).map D.str := by simp [List.map_map, Function.comp_def]
            have j1 : dJoin (.str []) [.lst (as.map fun b => D.str (Arm.t b))] = some (.str (as.map Arm.t).flatten) := by
              rw [ej, dJoin_a _ _ (by rw [flat_sum]; simp only [List.length_nil, Nat.mul_zero, Nat.add_zero]; omega), joinN_e]
            have ty : tyD "str" (.str []) = true := rfl
            refine ⟨x3, .d (.lst (as.map fun b => D.str (Arm.t b))), .d (.str [h.m]), ?_⟩
            rw [L__law_text_1, e]
            generalize (as.map fun b => D.str (Arm.t b)) = il at *
            generalize dAs as = jl at *
            generalize (P.cho h w as).d = qd at *
            generalize D.str (acc ++ [123] ++ [h.m] ++ w ++ (as.map Arm.t).flatten ++ [125]) = rd at *
            generalize D.str (acc ++ [123] ++ [h.m] ++ w ++ (as.map Arm.t).flatten) = r2 at *
            generalize D.str (as.map Arm.t).flatten = fd at *
            generalize D.str (acc ++ [123] ++ [h.m] ++ w) = r3 at *
            generalize D.str (acc ++ [123] ++ [h.m]) = r5 at *
            generalize D.str (acc ++ [123]) = r4 at *
            generalize D.str w = sd at *
            generalize D.str acc = ad at *
            generalize D.str h.s = hd at *
            generalize D.str [h.m] = md at *
            clear ihq ih bl ej
            simp (maxSteps := 30000) (disch := first | assumption | (simp; done) | omega | (simp; omega)) [i0, i1, i2, q0, q1, q2, q3, mk, a1, a2, a3, a4, a5, kk, hlen, j1, ty, -dGetK_a]
        obtain ⟨x3', x6', x9', hb⟩ := hb
        obtain ⟨S', e, e2⟩ := ihq (acc ++ q.t) (.d q.d) x3' x6' x9' pd (fun q hq' => hq q (List.mem_cons_of_mem _ hq')) (by rw [List.length_append]; omega)
        refine ⟨S', ?_, by rw [e2, tPs, List.append_assoc]⟩
        rw [dPs, forL_c, gV_a]
        simp only [List.set_cons_succ, List.set_cons_zero, hb]
        exact e
    have hq : ∀ q ∈ ps, q.lv ≤ k := by
      have a1 : ∀ ps : List P, ∀ q ∈ ps, q.lv ≤ lvPs ps := fun ps => by
        induction ps with
        | nil => intro q h; cases h
        | cons p r ihp =>
          intro q h
          rcases List.mem_cons.mp h with rfl | h
          · simp [lvPs]; omega
          · have := ihp q h; simp [lvPs]; omega
      intro q h
      have := a1 ps q h; omega
    obtain ⟨S', e, e2⟩ := key ps [] .no .no .no .no (.lst (dPs ps)) hq (by simpa using ht)
    rw [c__law_text, runB_k, b__law_text]
    rw [List.nil_append] at e2
    have hi : itD (.lst (dPs ps)) = some (dPs ps) := rfl
    generalize dPs ps = pl at *
    clear key ih
    simp (maxSteps := 30000) (disch := first | assumption | (simp; done) | omega | (simp; omega)) [e, hi]
    rw [getK_of e2]
    rfl
end
end M

namespace M
open PySem PySem.Spec PyProof.Rows L2 DL Pt
/-- a comprehension whose test no thing passes -/
theorem lcL_none {α : Type} {g : Tg} {own : List Nat} {t : Ev Bool} {f : Ev D} {S : Sls} {st : Store} (enc : α → D) : ∀ (xs : List α), (∀ x ∈ xs, ∃ S1 S2, g (enc x) S = some S1 ∧ t S1 st = .ok false S2 st ∧ wipeS S2 own = S) → lcL g own t f (xs.map enc) S st = .ok [] S st
  | [], _ => rfl
  | x :: r, h => by
    obtain ⟨S1, S2, e1, e2, e3⟩ := h x (List.mem_cons_self ..)
    have ih := lcL_none (g := g) (own := own) (t := t) (f := f) (S := S) (st := st) enc r fun y hy => h y (List.mem_cons_of_mem _ hy)
    rw [List.map_cons, lcL_c, e1]
    simp only [e2, Res.calm_ok, Res.bind_ok, Bool.false_eq_true, if_false, e3, ih]
theorem sgs_map (s : List Nat) : sgs s = s.map fun c => D.str [c] := by simp [sgs]
section
variable {st : Store}
theorem nin (c : Nat) (L : List Nat) (h : c ∈ L) : inD (.str [c]) (.str L) = some true := by
  simp [inD, h]
theorem lis_word_ok (s : List Nat) (h : isW s = true) : c__law_is_word [.str s] st = .ok (.bl true) [] st := by
  obtain ⟨h1, h2, h3, h4⟩ := isW_all h
  have key := lcL_none (g := gV 1) (own := [1]) (t := T__law_is_word_1) (f := E__law_is_word_1) (S := [.d (.str s), .no]) (st := st) (fun c => D.str [c]) s (fun c hc => by
    refine ⟨[.d (.str s), .d (.str [c])], [.d (.str s), .d (.str [c])], rfl, ?_, rfl⟩
    have hn := nin c k_LETTERS (by
      have := List.all_eq_true.mp h1 c hc
      rw [isL_mem] at this; simpa using this)
    rw [T__law_is_word_1]
    generalize D.str k_LETTERS = ld at *
    generalize D.str [c] = cd at *
    simp (maxSteps := 30000) (disch := first | assumption | (simp; done) | omega | (simp; omega)) [hn])
  rw [← sgs_map] at key
  have q3 : deq (.str s) (.str ELSE) = decide (s = ELSE) := deq_str _ _
  rw [decide_eq_false h3] at q3
  have q1 : eqOk (.str s) = true := rfl
  have q2 : eqOk (.str ELSE) = true := rfl
  have c1 : dLen [.str s] = some (.int s.length) := by simp [dLen]; omega
  have c2 : ¬ ((s.length : Int) < 1) := by
    have : s.length ≠ 0 := fun z => h2 (List.eq_nil_of_length_eq_zero z)
    omega
  have c3 : ¬ ((8 : Int) < (s.length : Int)) := by omega
  have c4 : itD (.str s) = some (sgs s) := by rfl
  have i1 : dIsI [.str s, .ty "str"] = some (.bl true) := rfl
  have ed : deq (.lst []) (.lst []) = true := by rw [deq_lst]; simp
  rw [c__law_is_word, runB_k, b__law_is_word]
  generalize sgs s = sg at *
  generalize D.str s = sd at *
  generalize D.str ELSE = el at *
  generalize (s.length : Int) = sl at *
  simp (maxSteps := 30000) (disch := first | assumption | (simp; done) | omega | (simp; omega)) [key, q1, q2, q3, c1, c2, c3, c4, i1, ed]
end
end M

namespace M
open PySem PySem.Spec PyProof.Rows L2 DL Pt
section
variable {st : Store}
theorem lis_plain_ok (c : Nat) (h : Pt.plain c = true) : c__law_is_plain [.str [c]] st = .ok (.bl true) [] st := by
  unfold Pt.plain at h
  simp only [Bool.and_eq_true, decide_eq_true_eq, Bool.not_eq_true', Bool.or_eq_false_iff] at h
  have h1 := cle 32 c
  have h2 := cle c 126
  rw [decide_eq_true h.1.1.1] at h1
  rw [decide_eq_true h.1.1.2] at h2
  have h3 : inD (.str [c]) (.str [123, 125, 91, 93]) = some false := by
    rw [inD_sg]; congr 1
    obtain ⟨⟨⟨q1, q2⟩, q3⟩, q4⟩ := h.1.2
    simp only [beq_eq_false_iff_ne] at q1 q2 q3 q4
    simp [q1, q2, q3, q4]
  rw [c__law_is_plain, runB_k, b__law_is_plain]
  generalize D.str [123, 125, 91, 93] = bd at *
  generalize D.str [c] = cd at *
  simp (maxSteps := 30000) (disch := first | assumption | (simp; done) | omega | (simp; omega)) [h1, h2, h3]
theorem lis_name_ok (h : H) (s : List Nat) (ok : okName h s = true) : c__law_is_name [.str s, .str h.s] st = .ok (.bl true) [] st := by
  have i1 : dIsI [.str s, .ty "str"] = some (.bl true) := rfl
  have m1 : deq (.str h.s) (.str [109, 97, 110, 121]) = decide (h = .many) := by rw [deq_str]; cases h <;> rfl
  have q1 : eqOk (.str h.s) = true := rfl
  have q2 : eqOk (.str [109, 97, 110, 121]) = true := rfl
  have q3 : eqOk (.str (s.take 1)) = true := rfl
  have q4 : eqOk (.str [61]) = true := rfl
  have q5 : eqOk (.str s) = true := rfl
  have q6 : eqOk (.str ELSE) = true := rfl
  have sl : s.length ≤ 60 := by
    unfold okName at ok
    simp only [Bool.or_eq_true, Bool.and_eq_true, decide_eq_true_eq] at ok
    rcases ok with (rfl | h1) | ⟨⟨_, h2⟩, h3⟩
    · decide
    · have := (isW_all h1).2.2.2; omega
    · unfold okFig at h3
      simp only [Bool.and_eq_true, decide_eq_true_eq] at h3
      have : s.length ≤ s.tail.length + 1 := by cases s <;> simp
      omega
  have s1 : dSl (.str s) none (some 1) = some (.str (s.take 1)) := by rw [dSl_s, cut_to _ (by omega)] <;> first | rfl | omega
  by_cases hc : h = .many ∧ s.take 1 = [61]
  · obtain ⟨rfl, hc⟩ := hc
    have hd : ∃ f, s = 61 :: f := by
      cases s with
      | nil => simp at hc
      | cons a f => simp at hc; exact ⟨f, by rw [hc]⟩
    obtain ⟨f, rfl⟩ := hd
    have hf : okFig f = true := by
      unfold okName at ok
      simp only [Bool.or_eq_true, Bool.and_eq_true, decide_eq_true_eq] at ok
      rcases ok with (e | h1) | ⟨_, h3⟩
      · cases e
      · have := (isW_all h1).1; simp [isL] at this
      · exact h3
    have fa := okFig_all hf
    unfold okFig at hf
    simp only [Bool.and_eq_true, decide_eq_true_eq, Bool.not_eq_true', Bool.and_eq_false_imp, decide_eq_false_iff_not] at hf
    obtain ⟨⟨⟨f1, f2⟩, f3⟩, f4⟩ := hf
    have s2 : dSl (.str (61 :: f)) (some 1) none = some (.str f) := by rw [dSl_s, cut_from _ (by omega)] <;> first | rfl | omega
    have c1 : dLen [.str f] = some (.int f.length) := by simp [dLen]; omega
    have c2 : ¬ ((f.length : Int) < 1) := by omega
    have c3 : ¬ ((59 : Int) < (f.length : Int)) := by omega
    have key := lcL_none (g := gV 3) (own := [3]) (t := T__law_is_name_1) (f := E__law_is_name_1) (S := [.d (.str (61 :: f)), .d (.str H.many.s), .d (.str f), .no]) (st := st) (fun c => D.str [c]) f (fun c hc => by
      refine ⟨[.d (.str (61 :: f)), .d (.str H.many.s), .d (.str f), .d (.str [c])], [.d (.str (61 :: f)), .d (.str H.many.s), .d (.str f), .d (.str [c])], rfl, ?_, rfl⟩
      have hn := nin c k_FIGURES (by
        have := List.all_eq_true.mp fa c hc
        rw [isF_mem] at this; simpa using this)
      rw [T__law_is_name_1]
      generalize D.str k_FIGURES = ld at *
      generalize D.str [c] = cd at *
      generalize D.str (61 :: f) = fd at *
      generalize D.str H.many.s = hd at *
      simp (maxSteps := 30000) (disch := first | assumption | (simp; done) | omega | (simp; omega)) [hn])
    rw [← sgs_map] at key
    have hi : itD (.str f) = some (sgs f) := rfl
    have ed : deq (.lst []) (.lst []) = true := by rw [deq_lst]; simp
    have e1 : deq (.str ((61 :: f).take 1)) (.str [61]) = true := by rw [deq_str]; simp
    rw [decide_eq_true rfl] at m1
    cases f with
    | nil => simp at f1
    | cons a g =>
      have ix : dIx (.str (a :: g)) (.int 0) = some (.str [a]) := by rw [dIx_s _ _ (by simp at sl ⊢; omega)]; simp [atI, ixN]
      have e2 : deq (.str [a]) (.str [48]) = decide (a = 48) := by rw [deq_str]; simp
      have e3 : eqOk (.str [a]) = true := rfl
      have e4 : eqOk (.str [48]) = true := rfl
      rw [c__law_is_name, runB_k, b__law_is_name]
      by_cases l1 : (1 : Int) < ((a :: g).length : Int)
      · have a48 : a ≠ 48 := fun z => by
          have := f3 (by omega)
          simp [z] at this
        rw [decide_eq_false a48] at e2
        generalize sgs (a :: g) = sg at *
        generalize ((a :: g).length : Int) = sl at *
        generalize D.str ((61 :: a :: g).take 1) = t1 at *
        generalize D.str (61 :: a :: g) = sd at *
        generalize D.str (a :: g) = fd at *
        generalize D.str H.many.s = hd at *
        generalize D.str [109, 97, 110, 121] = md at *
        generalize D.str [48] = nd at *
        generalize D.str [61] = qd at *
        generalize D.str [a] = ad at *
        simp (maxSteps := 30000) (disch := first | assumption | (simp; done) | omega | (simp; omega)) [i1, m1, q1, q2, q3, q4, s1, s2, c1, c2, c3, key, hi, ed, e1, ix, e2, e3, e4, l1]
      · generalize sgs (a :: g) = sg at *
        generalize ((a :: g).length : Int) = sl at *
        generalize D.str ((61 :: a :: g).take 1) = t1 at *
        generalize D.str (61 :: a :: g) = sd at *
        generalize D.str (a :: g) = fd at *
        generalize D.str H.many.s = hd at *
        generalize D.str [109, 97, 110, 121] = md at *
        generalize D.str [61] = qd at *
        simp (maxSteps := 30000) (disch := first | assumption | (simp; done) | omega | (simp; omega)) [i1, m1, q1, q2, q3, q4, s1, s2, c1, c2, c3, key, hi, ed, e1, l1]
  · have e1 : deq (.str (s.take 1)) (.str [61]) = decide (s.take 1 = [61]) := deq_str _ _
    have cc : s = ELSE ∨ isW s = true := by
      unfold okName at ok
      simp only [Bool.or_eq_true, Bool.and_eq_true, decide_eq_true_eq] at ok
      rcases ok with h1 | ⟨⟨h1, h2⟩, h3⟩
      · exact h1
      · refine absurd ⟨h1, ?_⟩ hc
        cases s with
        | nil => cases h2
        | cons a f => simp at h2; simp [h2]
    have q7 : deq (.str s) (.str ELSE) = decide (s = ELSE) := deq_str _ _
    have fin : ∀ b1 b2 : Bool, (b1 && b2) = false → deq (.str h.s) (.str [109, 97, 110, 121]) = b1 → deq (.str (s.take 1)) (.str [61]) = b2 → c__law_is_name [.str s, .str h.s] st = .ok (.bl true) [] st := by
      intro b1 b2 hb m1 e1
      rw [c__law_is_name, runB_k, b__law_is_name]
      by_cases hE : s = ELSE
      · rw [decide_eq_true hE] at q7
        generalize D.str (s.take 1) = t1 at *
        generalize D.str s = sd at *
        generalize D.str h.s = hd at *
        generalize D.str [109, 97, 110, 121] = md at *
        generalize D.str [61] = qd at *
        generalize D.str ELSE = el at *
        cases b1
        · simp (maxSteps := 30000) (disch := first | assumption | (simp; done) | omega | (simp; omega)) [i1, m1, q1, q2, q5, q6, q7]
        · cases b2
          · simp (maxSteps := 30000) (disch := first | assumption | (simp; done) | omega | (simp; omega)) [i1, m1, q1, q2, q3, q4, q5, q6, q7, s1, e1]
          · cases hb
      · rw [decide_eq_false hE] at q7
        have w := lis_word_ok (st := st) s (cc.resolve_left hE)
        generalize D.str (s.take 1) = t1 at *
        generalize D.str s = sd at *
        generalize D.str h.s = hd at *
        generalize D.str [109, 97, 110, 121] = md at *
        generalize D.str [61] = qd at *
        generalize D.str ELSE = el at *
        cases b1
        · simp (maxSteps := 30000) (disch := first | assumption | (simp; done) | omega | (simp; omega)) [i1, m1, q1, q2, q5, q6, q7, w]
        · cases b2
          · simp (maxSteps := 30000) (disch := first | assumption | (simp; done) | omega | (simp; omega)) [i1, m1, q1, q2, q3, q4, q5, q6, q7, s1, e1, w]
          · cases hb
    refine fin _ _ ?_ m1 e1
    simp only [Bool.and_eq_false_imp, decide_eq_true_eq, decide_eq_false_iff_not]
    exact fun a b => hc ⟨a, b⟩
end
end M

namespace M
open PySem PySem.Spec PyProof.Rows L2 DL Pt
theorem nodup_few : ∀ (xs : List Str) (i : Nat), xs.Nodup → i ≤ xs.length → few xs i = i
  | xs, 0, _, _ => rfl
  | xs, i + 1, h, l => by
    have ih := nodup_few xs i h (by omega)
    rw [few, if_neg, ih]
    intro m
    obtain ⟨j, hj, e⟩ := List.mem_iff_getElem.mp m
    rw [List.length_take] at hj
    rw [List.getElem_take, List.getD_eq_getElem?_getD, List.getElem?_eq_getElem (by omega), Option.getD_some] at e
    have := (List.nodup_iff_pairwise_ne.mp h)
    have := List.pairwise_iff_getElem.mp this j i (by omega) (by omega) (by omega)
    exact this e
theorem tx_nodup {ss : List (List Nat)} (h : ss.Nodup) : (ss.map tx).Nodup := by
  rw [List.nodup_iff_pairwise_ne, List.pairwise_map]
  exact (List.nodup_iff_pairwise_ne.mp h).imp fun n e => n (tx_inj e)
section
variable {st : Store}
/-- a bind or an arm: a tuple of a text and a thing -/
def pD (q : List Nat × D) : D := .tup [.str q.1, q.2]
theorem pairs_loop (mx : D) : ∀ (qs : List (List Nat × D)) (pd : D) (x2 : Sl), ∃ x2', forL (gV 2) L__law_is_pairs_1 (qs.map pD) [.d pd, .d mx, x2] st = .nx [.d pd, .d mx, x2'] st
  | [], pd, x2 => ⟨x2, rfl⟩
  | q :: qs, pd, x2 => by
    have i1 : dIsI [pD q, .ty "tuple"] = some (.bl true) := rfl
    have i2 : dLen [pD q] = some (.int 2) := rfl
    have i3 : dIx (pD q) (.int 0) = some (.str q.1) := rfl
    have i4 : dIsI [.str q.1, .ty "str"] = some (.bl true) := rfl
    have hb : L__law_is_pairs_1 [.d pd, .d mx, .d (pD q)] st = .nx [.d pd, .d mx, .d (pD q)] st := by
      rw [L__law_is_pairs_1]
      generalize pD q = qd at *
      generalize D.str q.1 = sd at *
      simp (maxSteps := 30000) (disch := first | assumption | (simp; done) | omega | (simp; omega)) [i1, i2, i3, i4]
    obtain ⟨x2', e⟩ := pairs_loop mx qs pd (.d (pD q))
    refine ⟨x2', ?_⟩
    rw [List.map_cons, forL_c, gV_a]
    simp only [List.set_cons_succ, List.set_cons_zero, hb]
    exact e
theorem lis_pairs_ok (qs : List (List Nat × D)) (n : Nat) (h : qs.length ≤ n) (hn : n ≤ 100) (nd : (qs.map (·.1)).Nodup) : c__law_is_pairs [.lst (qs.map pD), .int (n : Nat)] st = .ok (.bl true) [] st := by
  obtain ⟨x2', e1⟩ := pairs_loop (st := st) (.int (n : Nat)) qs (.lst (qs.map pD)) .no
  have key := lcL_list (g := gV 2) (own := [2]) (f := E__law_is_pairs_1) (S := [.d (.lst (qs.map pD)), .d (.int (n : Nat)), .no]) (st := st) pD (fun q => D.str q.1) qs (fun q _ => by
    have i3 : dIx (pD q) (.int 0) = some (.str q.1) := rfl
    refine ⟨[.d (.lst (qs.map pD)), .d (.int (n : Nat)), .d (pD q)], [.d (.lst (qs.map pD)), .d (.int (n : Nat)), .d (pD q)], rfl, ?_, rfl⟩
    rw [E__law_is_pairs_1]
    generalize pD q = qd at *
    generalize D.str q.1 = sd at *
    simp (maxSteps := 30000) (disch := first | assumption | (simp; done) | omega | (simp; omega)) [i3])
  have ek : qs.map (fun q => D.str q.1) = (qs.map (·.1)).map D.str := by rw [List.map_map]; rfl
  rw [ek] at key
  have l1 : dLen [.lst (qs.map pD)] = some (.int qs.length) := by simp [dLen] <;> omega
  have l2 : ¬ ((n : Int) < (qs.length : Int)) := by omega
  have l3 : dLenSet (.lst ((qs.map (·.1)).map .str)) = some (.int qs.length) := by
    rw [dLenSet_a _ (by simp; omega), nodup_few _ _ (tx_nodup nd) (by simp)]; simp
  have l4 : ((qs.map (·.1)).map D.str).length ≤ 16777216 := by simp; omega
  have i1 : dIsI [.lst (qs.map pD), .ty "list"] = some (.bl true) := rfl
  have hi : itD (.lst (qs.map pD)) = some (qs.map pD) := rfl
  rw [c__law_is_pairs, runB_k, b__law_is_pairs]
  generalize (qs.map (·.1)).map D.str = yd at *
  generalize qs.map pD = pd at *
  generalize (qs.length : Int) = ql at *
  generalize (n : Int) = ni at *
  simp (maxSteps := 30000) (disch := first | assumption | (simp; done) | omega | (simp; omega)) [e1, key, l1, l2, l3, l4, i1, hi]
  cases x2' <;> rfl
end
end M

namespace M
open PySem PySem.Spec PyProof.Rows L2 DL Pt
section
variable {st : Store} {rec : CallT}
abbrev TXT : List Nat := [116, 101, 120, 116]
abbrev GAP : List Nat := [103, 97, 112]
abbrev SAY : List Nat := [115, 97, 121]
theorem bD_pD (bs : List (List Nat × List Nat)) : bs.map bD = (bs.map fun b => (b.1, D.str b.2)).map pD := by rw [List.map_map]; rfl
theorem dAs_pD (as : List Arm) : dAs as = (as.map fun a => (a.n, D.lst (dPs a.i))).map pD := by
  rw [dAs_map, List.map_map]; congr 1; funext a; cases a; rfl
theorem arms_turns (rec : CallT) (h : H) (deep : Nat) (pd : D) (hp : dIx pd (.int 0) = some (.str h.s)) (hd : deep ≤ 100) : ∀ (as : List Arm) (x2 x3 x4 : Sl), (∀ a ∈ as, okName h a.n = true ∧ rec [.lst (dPs a.i), .int ((deep + 1 : Nat) : Int)] st = .ok (.bl true) [] st) →
    ∃ x3' x4', forL (gT 2 (gC (gV 3) (gC (gV 4) (gN)))) (L__law_is_part_1 rec) (dAs as) [.d pd, .d (.int (deep : Nat)), x2, x3, x4] st = .nx [.d pd, .d (.int (deep : Nat)), x2, x3', x4'] st
  | [], x2, x3, x4, _ => ⟨x3, x4, rfl⟩
  | a :: as, x2, x3, x4, ha => by
    obtain ⟨h1, h2⟩ := ha a (List.mem_cons_self ..)
    have w := lis_name_ok (st := st) h a.n h1
    have ea : ((deep : Nat) : Int) + 1 = ((deep + 1 : Nat) : Int) := by omega
    rw [← ea] at h2
    have hb : L__law_is_part_1 rec [.d pd, .d (.int (deep : Nat)), x2, .d (.str a.n), .d (.lst (dPs a.i))] st = .nx [.d pd, .d (.int (deep : Nat)), x2, .d (.str a.n), .d (.lst (dPs a.i))] st := by
      rw [L__law_is_part_1]
      generalize D.str a.n = sd at *
      generalize D.str h.s = hd at *
      generalize D.lst (dPs a.i) = id at *
      generalize (deep : Int) = dd at *
      simp (maxSteps := 30000) (disch := first | assumption | (simp; done) | omega | (simp; omega)) [w, hp, h2]
    obtain ⟨x3', x4', e⟩ := arms_turns rec h deep pd hp hd as x2 (.d (.str a.n)) (.d (.lst (dPs a.i))) (fun b hb => ha b (List.mem_cons_of_mem _ hb))
    refine ⟨x3', x4', ?_⟩
    rw [dAs, forL_c]
    have eg : gT 2 (gC (gV 3) (gC (gV 4) (gN))) a.d [.d pd, .d (.int (deep : Nat)), x2, x3, x4] = some [.d pd, .d (.int (deep : Nat)), x2, .d (.str a.n), .d (.lst (dPs a.i))] := by cases a; rfl
    rw [eg]
    simp only [hb]
    exact e
theorem how_ne (h : H) : h.s ≠ TXT ∧ h.s ≠ GAP ∧ h.s ≠ SAY := by cases h <;> decide
theorem part_ok (deep m : Nat) (hd : deep ≤ 4) (hm : m = 4 - deep) (p : P) (ok : p.ok m) (hl : p.lv ≤ 10) (hr : ∀ h g as, p = .cho h g as → ∀ a ∈ as, rec [.lst (dPs a.i), .int ((deep + 1 : Nat) : Int)] st = .ok (.bl true) [] st) :
    c__law_is_part rec [p.d, .int (deep : Nat)] st = .ok (.bl true) [] st := by
  have q1 : eqOk (.str TXT) = true := rfl
  have q2 : eqOk (.str GAP) = true := rfl
  have q3 : eqOk (.str SAY) = true := rfl
  have ed : deq (.lst []) (.lst []) = true := by rw [deq_lst]; simp
  have sd : ∀ x y : List Nat, deq (.str x) (.str y) = decide (x = y) := deq_str
  cases p with
  | txt s =>
    have i1 : dIsI [(P.txt s).d, .ty "tuple"] = some (.bl true) := rfl
    have i2 : dLen [(P.txt s).d] = some (.int 2) := rfl
    have i3 : dIx (P.txt s).d (.int 0) = some (.str TXT) := rfl
    have i4 : dIx (P.txt s).d (.int 1) = some (.str s) := rfl
    have i5 : dIsI [.str s, .ty "str"] = some (.bl true) := rfl
    have i6 : dIsI [.str TXT, .ty "str"] = some (.bl true) := rfl
    have e1 : deq (.str TXT) (.str TXT) = true := by rw [sd]; exact decide_eq_true rfl
    have e2 : deq (.str s) (.str []) = false := by rw [sd]; exact decide_eq_false ok.1
    have q4 : eqOk (.str s) = true := rfl
    rw [c__law_is_part, runB_k, b__law_is_part]
    generalize (P.txt s).d = pd at *
    generalize D.str s = sd at *
    generalize D.str TXT = td at *
    generalize (deep : Int) = dd at *
    simp (maxSteps := 30000) (disch := first | assumption | (simp; done) | omega | (simp; omega)) [i1, i2, i3, i4, i5, i6, e1, e2, q1, q4]
  | gap s =>
    have i1 : dIsI [(P.gap s).d, .ty "tuple"] = some (.bl true) := rfl
    have i2 : dLen [(P.gap s).d] = some (.int 2) := rfl
    have i3 : dIx (P.gap s).d (.int 0) = some (.str GAP) := rfl
    have i4 : dIx (P.gap s).d (.int 1) = some (.str s) := rfl
    have i6 : dIsI [.str GAP, .ty "str"] = some (.bl true) := rfl
    have e1 : deq (.str GAP) (.str TXT) = false := by rw [sd]; decide
    have e2 : deq (.str GAP) (.str GAP) = true := by rw [sd]; decide
    have w := lis_word_ok (st := st) s ok
    rw [c__law_is_part, runB_k, b__law_is_part]
    generalize (P.gap s).d = pd at *
    generalize D.str s = sd at *
    generalize D.str TXT = td at *
    generalize D.str GAP = gd at *
    generalize (deep : Int) = dd at *
    simp (maxSteps := 30000) (disch := first | assumption | (simp; done) | omega | (simp; omega)) [i1, i2, i3, i4, i6, e1, e2, q1, q2, w]
  | say k bs =>
    obtain ⟨o1, o2, o3, o4⟩ := ok
    have i1 : dIsI [(P.say k bs).d, .ty "tuple"] = some (.bl true) := rfl
    have i2 : dLen [(P.say k bs).d] = some (.int 3) := rfl
    have i3 : dIx (P.say k bs).d (.int 0) = some (.str SAY) := rfl
    have i4 : dIx (P.say k bs).d (.int 1) = some (.str k) := rfl
    have i5 : dIx (P.say k bs).d (.int 2) = some (.lst (bs.map bD)) := rfl
    have i6 : dIsI [.str SAY, .ty "str"] = some (.bl true) := rfl
    have e1 : deq (.str SAY) (.str TXT) = false := by rw [sd]; decide
    have e2 : deq (.str SAY) (.str GAP) = false := by rw [sd]; decide
    have e3 : deq (.str SAY) (.str SAY) = true := by rw [sd]; decide
    have w := lis_word_ok (st := st) k o1
    have n1 : inD (.str SAY) (.lst [.str SAY, .str [109, 97, 110, 121], .str [107, 105, 110, 100], .str [114, 97, 110, 107]]) = some true := rfl
    have pr := lis_pairs_ok (st := st) (bs.map fun b => (b.1, D.str b.2)) 4 (by simpa using o3) (by omega) (by simpa [List.map_map, Function.comp_def] using o4)
    rw [← bD_pD] at pr
    have key := lcL_none (g := gV 2) (own := [2]) (t := T__law_is_part_1 rec) (f := E__law_is_part_1 rec) (S := [.d (P.say k bs).d, .d (.int (deep : Nat)), .no, .no, .no]) (st := st) bD bs (fun b hb => by
      have w1 := lis_word_ok (st := st) b.1 (o2 b hb).1
      have w2 := lis_word_ok (st := st) b.2 (o2 b hb).2
      have j1 : dIx (bD b) (.int 0) = some (.str b.1) := rfl
      have j2 : dIx (bD b) (.int 1) = some (.str b.2) := rfl
      refine ⟨[.d (P.say k bs).d, .d (.int (deep : Nat)), .d (bD b), .no, .no], [.d (P.say k bs).d, .d (.int (deep : Nat)), .d (bD b), .no, .no], rfl, ?_, rfl⟩
      rw [T__law_is_part_1]
      generalize bD b = bd at *
      generalize D.str b.1 = b1 at *
      generalize D.str b.2 = b2 at *
      generalize (P.say k bs).d = pd at *
      generalize (deep : Int) = dd at *
      simp (maxSteps := 30000) (disch := first | assumption | (simp; done) | omega | (simp; omega)) [w1, w2, j1, j2])
    have hi : itD (.lst (bs.map bD)) = some (bs.map bD) := rfl
    have e4 : ((4 : Nat) : Int) = 4 := rfl
    rw [e4] at pr
    rw [c__law_is_part, runB_k, b__law_is_part]
    generalize (P.say k bs).d = pd at *
    generalize bs.map bD = bl at *
    generalize D.str k = sd at *
    generalize D.str TXT = td at *
    generalize D.str GAP = gd at *
    generalize D.str SAY = yd at *
    generalize (deep : Int) = dd at *
    simp (maxSteps := 30000) (disch := first | assumption | (simp; done) | omega | (simp; omega)) [i1, i2, i3, i4, i5, i6, e1, e2, e3, q1, q2, q3, w, n1, pr, key, hi, ed]
  | cho h g as =>
    obtain ⟨o0, o1, o2, o3, o4, o5⟩ := ok
    have i1 : dIsI [(P.cho h g as).d, .ty "tuple"] = some (.bl true) := rfl
    have i2 : dLen [(P.cho h g as).d] = some (.int 3) := rfl
    have i3 : dIx (P.cho h g as).d (.int 0) = some (.str h.s) := rfl
    have i4 : dIx (P.cho h g as).d (.int 1) = some (.str g) := rfl
    have i5 : dIx (P.cho h g as).d (.int 2) = some (.lst (dAs as)) := rfl
    have i6 : dIsI [.str h.s, .ty "str"] = some (.bl true) := rfl
    have q4 : eqOk (.str h.s) = true := rfl
    obtain ⟨z1, z2, z3⟩ := how_ne h
    have e1 : deq (.str h.s) (.str TXT) = false := by rw [sd]; exact decide_eq_false z1
    have e2 : deq (.str h.s) (.str GAP) = false := by rw [sd]; exact decide_eq_false z2
    have e3 : deq (.str h.s) (.str SAY) = false := by rw [sd]; exact decide_eq_false z3
    have w := lis_word_ok (st := st) g o1
    have n1 : inD (.str h.s) (.lst [.str SAY, .str [109, 97, 110, 121], .str [107, 105, 110, 100], .str [114, 97, 110, 107]]) = some true := by cases h <;> rfl
    have pr := lis_pairs_ok (st := st) (as.map fun a => (a.n, D.lst (dPs a.i))) 8 (by simpa using o3) (by omega) (by simpa [List.map_map, Function.comp_def] using o4)
    rw [← dAs_pD] at pr
    have e8 : ((8 : Nat) : Int) = 8 := rfl
    rw [e8] at pr
    have names : ∀ as : List Arm, okAs h (m - 1) as → ∀ a ∈ as, okName h a.n = true := fun as => by
      induction as with
      | nil => intro _ a ha; cases ha
      | cons b r ih =>
        intro o a ha
        rcases List.mem_cons.mp ha with rfl | ha
        · have := o.1; cases a; exact this.1
        · exact ih o.2 a ha
    obtain ⟨x3', x4', ar⟩ := arms_turns (st := st) rec h deep (P.cho h g as).d i3 (by omega) as .no .no .no (fun a ha => ⟨names as o5 a ha, hr h g as rfl a ha⟩)
    have hi : itD (.lst (dAs as)) = some (dAs as) := rfl
    have lv : lvAs as ≤ 10 := by rw [P.lv] at hl; omega
    have d4 : deq (.int (deep : Int)) (.int 4) = false := by rw [deq_int]; exact decide_eq_false (by omega)
    have q5 : eqOk (.lst (dAs as)) = true := as_eqOk lv
    have ds : deq (.lst (dAs as)) (.lst []) = false := by
      rw [deq_as_nil]; cases as with
      | nil => exact absurd rfl o2
      | cons a r => rfl
    have q6 : eqOk (.int (deep : Int)) = true := rfl
    rw [c__law_is_part, runB_k, b__law_is_part]
    generalize (P.cho h g as).d = pd at *
    generalize dAs as = al at *
    generalize D.str g = sd at *
    generalize D.str h.s = hd at *
    generalize D.str TXT = td at *
    generalize D.str GAP = gd at *
    generalize D.str SAY = yd at *
    generalize (deep : Int) = dd at *
    simp (maxSteps := 30000) (disch := first | assumption | (simp; done) | omega | (simp; omega)) [i1, i2, i3, i4, i5, i6, e1, e2, e3, q1, q2, q3, q4, q5, q6, w, n1, pr, ar, hi, ds, d4]
end
end M

namespace M
open PySem PySem.Spec PyProof.Rows L2 DL Pt
section
variable {st : Store}
theorem turn_one (rec : CallT) (deep m : Nat) (hd : deep ≤ 4) (hm : m = 4 - deep) (p : P) (ok : p.ok m) (hl : p.lv ≤ 10) (hr : ∀ h g as, p = .cho h g as → ∀ a ∈ as, rec [.lst (dPs a.i), .int ((deep + 1 : Nat) : Int)] st = .ok (.bl true) [] st)
    (pd : D) (b : Bool) (hb : (b && isT p) = false) (x4 : Sl) : ∃ x4', L__law_is_pattern_1 rec [.d pd, .d (.int (deep : Nat)), .d (.bl b), .d p.d, x4] st = .nx [.d pd, .d (.int (deep : Nat)), .d (.bl (isT p)), .d p.d, x4'] st := by
  have pk := part_ok (st := st) (rec := rec) deep m hd hm p ok hl hr
  have q1 : eqOk (.str TXT) = true := rfl
  have ed : deq (.lst []) (.lst []) = true := by rw [deq_lst]; simp
  cases p with
  | txt s =>
    have hb0 : b = false := by cases b; rfl; cases hb
    subst hb0
    have i3 : dIx (P.txt s).d (.int 0) = some (.str TXT) := rfl
    have i4 : dIx (P.txt s).d (.int 1) = some (.str s) := rfl
    have e1 : deq (.str TXT) (.str TXT) = true := by rw [deq_str]; exact decide_eq_true rfl
    have hi : itD (.str s) = some (sgs s) := rfl
    have key := lcL_none (g := gV 4) (own := [4]) (t := T__law_is_pattern_1 rec) (f := E__law_is_pattern_1 rec) (S := [.d pd, .d (.int (deep : Nat)), .d (.bl true), .d (P.txt s).d, .no]) (st := st) (fun c => D.str [c]) s (fun c hc => by
      have w := lis_plain_ok (st := st) c (List.all_eq_true.mp ok.2 c hc)
      refine ⟨[.d pd, .d (.int (deep : Nat)), .d (.bl true), .d (P.txt s).d, .d (.str [c])], [.d pd, .d (.int (deep : Nat)), .d (.bl true), .d (P.txt s).d, .d (.str [c])], rfl, ?_, rfl⟩
      rw [T__law_is_pattern_1]
      generalize D.str [c] = cd at *
      generalize (P.txt s).d = td at *
      generalize (deep : Int) = dd at *
      simp (maxSteps := 30000) (disch := first | assumption | (simp; done) | omega | (simp; omega)) [w])
    rw [← sgs_map] at key
    have et : isT (P.txt s) = true := rfl
    rw [et]
    refine ⟨(match x4 with | .d x => .d x | _ => .no), ?_⟩
    rw [L__law_is_pattern_1]
    generalize sgs s = sg at *
    generalize D.str s = sd at *
    generalize D.str TXT = td at *
    generalize (P.txt s).d = qd at *
    generalize (deep : Int) = dd at *
    simp (maxSteps := 30000) (disch := first | assumption | (simp; done) | omega | (simp; omega)) [pk, i3, i4, e1, hi, key, ed, q1]
    cases x4 <;> rfl
  | gap s =>
    have i3 : dIx (P.gap s).d (.int 0) = some (.str GAP) := rfl
    have e1 : deq (.str GAP) (.str TXT) = false := by rw [deq_str]; decide
    have q2 : eqOk (.str GAP) = true := rfl
    have et : isT (P.gap s) = false := rfl
    rw [et]
    refine ⟨x4, ?_⟩
    rw [L__law_is_pattern_1]
    generalize D.str GAP = sd at *
    generalize D.str TXT = td at *
    generalize (P.gap s).d = qd at *
    generalize (deep : Int) = dd at *
    simp (maxSteps := 30000) (disch := first | assumption | (simp; done) | omega | (simp; omega)) [pk, i3, e1, q1, q2]
  | say k bs =>
    have i3 : dIx (P.say k bs).d (.int 0) = some (.str SAY) := rfl
    have e1 : deq (.str SAY) (.str TXT) = false := by rw [deq_str]; decide
    have q2 : eqOk (.str SAY) = true := rfl
    have et : isT (P.say k bs) = false := rfl
    rw [et]
    refine ⟨x4, ?_⟩
    rw [L__law_is_pattern_1]
    generalize D.str SAY = sd at *
    generalize D.str TXT = td at *
    generalize (P.say k bs).d = qd at *
    generalize (deep : Int) = dd at *
    simp (maxSteps := 30000) (disch := first | assumption | (simp; done) | omega | (simp; omega)) [pk, i3, e1, q1, q2]
  | cho h g as =>
    have i3 : dIx (P.cho h g as).d (.int 0) = some (.str h.s) := rfl
    have e1 : deq (.str h.s) (.str TXT) = false := by rw [deq_str]; exact decide_eq_false (how_ne h).1
    have q2 : eqOk (.str h.s) = true := rfl
    have et : isT (P.cho h g as) = false := rfl
    rw [et]
    refine ⟨x4, ?_⟩
    rw [L__law_is_pattern_1]
    generalize D.str h.s = sd at *
    generalize D.str TXT = td at *
    generalize (P.cho h g as).d = qd at *
    generalize (deep : Int) = dd at *
    simp (maxSteps := 30000) (disch := first | assumption | (simp; done) | omega | (simp; omega)) [pk, i3, e1, q1, q2]
theorem okAs_mem {h : H} {m : Nat} : ∀ {as : List Arm}, okAs h m as → ∀ a ∈ as, okPs m a.i
  | b :: r, o, a, ha => by
    rcases List.mem_cons.mp ha with rfl | ha
    · have := o.1; cases a; exact this.2
    · exact okAs_mem o.2 a ha
theorem lvAs_mem : ∀ {as : List Arm} {a : Arm}, a ∈ as → lvPs a.i ≤ lvAs as
  | b :: r, a, ha => by
    rw [lvAs]
    rcases List.mem_cons.mp ha with rfl | ha
    · cases a; simp [Arm.lv, Arm.i]; omega
    · have := lvAs_mem ha; omega
theorem is_pattern_ok : ∀ (k deep : Nat) (ps : List P), deep ≤ 4 → okPs (4 - deep) ps → lvPs ps < k → lvPs ps ≤ 10 → c__law_is_pattern k [.lst (dPs ps), .int (deep : Nat)] st = .ok (.bl true) [] st
  | 0, deep, ps, _, _, h, _ => by omega
  | k + 1, deep, ps, hd, ok, h1, h2 => by
    have turns : ∀ (qs : List P) (pd : D) (b : Bool) (x3 x4 : Sl), okPs (4 - deep) qs → lvPs qs ≤ k → lvPs qs ≤ 10 → (b && hdT qs) = false →
        ∃ b' x3' x4', forL (gV 3) (L__law_is_pattern_1 (c__law_is_pattern k)) (dPs qs) [.d pd, .d (.int (deep : Nat)), .d (.bl b), x3, x4] st = .nx [.d pd, .d (.int (deep : Nat)), .d (.bl b'), x3', x4'] st := by
      intro qs
      induction qs with
      | nil => intro pd b x3 x4 _ _ _ _; exact ⟨b, x3, x4, rfl⟩
      | cons q qs ih =>
        intro pd b x3 x4 o l1 l2 hb
        obtain ⟨o1, o2, o3⟩ := o
        rw [lvPs] at l1 l2
        obtain ⟨x4', e1⟩ := turn_one (st := st) (c__law_is_pattern k) deep (4 - deep) hd rfl q o1 (by omega) (fun h g as e a ha => by
          subst e
          obtain ⟨z0, _, _, _, _, z5⟩ := o1
          have := okAs_mem z5 a ha
          have lv := lvAs_mem ha
          rw [P.lv] at l1 l2
          exact is_pattern_ok k (deep + 1) a.i (by omega) (by rw [show 4 - (deep + 1) = 4 - deep - 1 by omega]; exact this) (by omega) (by omega)) pd b hb x4
        obtain ⟨b', x3', x4'', e2⟩ := ih pd (isT q) (.d q.d) x4' o3 (by omega) (by omega) o2
        refine ⟨b', x3', x4'', ?_⟩
        rw [dPs, forL_c, gV_a]
        simp only [List.set_cons_succ, List.set_cons_zero, e1]
        exact e2
    obtain ⟨b', x3', x4', e⟩ := turns ps (.lst (dPs ps)) false .no .no ok (by omega) h2 rfl
    have i1 : dIsI [.lst (dPs ps), .ty "list"] = some (.bl true) := rfl
    have hi : itD (.lst (dPs ps)) = some (dPs ps) := rfl
    rw [c__law_is_pattern, runB_k, b__law_is_pattern]
    generalize dPs ps = pl at *
    generalize (deep : Int) = dd at *
    clear turns
    simp (maxSteps := 30000) (disch := first | assumption | (simp; done) | omega | (simp; omega)) [e, i1, hi]
end
end M

namespace M
open PySem PySem.Spec PyProof.Rows L2 DL Pt
section
variable {st : Store}
theorem ref_none {s : List Nat} (hl : s.length ≤ 16777000) (h : Pt.read s = none) : c__law_refused [.str s] [] = .ok (.bl true) [] [] := by
  have r := read_ok s hl
  rw [h] at r
  simp only at r
  have h1 : L__law_refused_1 [.d (.str s), .no, .no] [] = .exc np [.d (.str s), .no, .no] [] := by
    rw [L__law_refused_1]
    generalize D.str s = sd at *
    simp (maxSteps := 30000) (disch := first | assumption | (simp; done) | omega | (simp; omega)) [r]
  have xl : xLook xT 1446867055838488785518 6008216717068758898 = some true := by decide +kernel
  have x1 : isX xT 1446867055838488785518 [(some 22077439389819749)] = some false := by decide +kernel
  have x2 : isX xT 1446867055838488785518 [(some 22077448131470707)] = some false := by decide +kernel
  have x3 : isX xT 1446867055838488785518 [(some 5651822323626567026)] = some false := by decide +kernel
  have x4 : isX xT 1446867055838488785518 [(some 336874201465)] = some false := by decide +kernel
  have x5 : isX xT 1446867055838488785518 [(some 5651828894943638885)] = some false := by decide +kernel
  have x6 : isX xT 1446867055838488785518 [(some 22077456503107175)] = some false := by decide +kernel
  have x7 : isX xT 1446867055838488785518 [(some 1446866215807293155173)] = some false := by decide +kernel
  have x8 : isX xT 1446867055838488785518 [(some 22077464975799653)] = some false := by decide +kernel
  have x9 : isX xT 1446867055838488785518 [(some 21499177861738087)] = some false := by decide +kernel
  have x10 : isX xT 1446867055838488785518 [(some 6084203974253437300)] = some false := by decide +kernel
  have x11 : isX xT 1446867055838488785518 [(some 23766421873979001)] = some false := by decide +kernel
  have x12 : isX xT 1446867055838488785518 [(some 77431305626980)] = some false := by decide +kernel
  have x13 : isX xT 1446867055838488785518 [(some 1446869044807779053159)] = some false := by decide +kernel
  have x14 : isX xT 1446867055838488785518 [(some 1446867055838488785518)] = some true := by decide +kernel
  have x15 : isX xT 1446867055838488785518 [none] = some true := by decide +kernel
  have n1 : inD (.bl true) (.lst [.bl false, .bl false, .bl false, .bl false, .bl false, .bl false, .bl false, .bl false, .bl false, .bl false, .bl false, .bl false, .bl false]) = some false := rfl
  have h3 := sTryA_exc (T := xT) (i := 1) (h := 6008216717068758898) (fs := X__law_refused_1) (o := .ret (.bl true) [.d (.str s), .no, .d (.lst [.bl false, .bl false, .bl false, .bl false, .bl false, .bl false, .bl false, .bl false, .bl false, .bl false, .bl false, .bl false, .bl false])] []) h1 xl (fun a => by
    have key : ∀ (ts : List (Option Nat)) (b : Bool), isX xT 1446867055838488785518 ts = some b → ∀ x : Sl, isE xT a 1446867055838488785518 ts 1 [.d (.str s), .d (.err a 1446867055838488785518), x] [] = .ok (.bl b) [.d (.str s), .d (.err a 1446867055838488785518), x] [] := fun ts b e x => by
      unfold isE
      simp [e]
    have f1 := key [(some 22077439389819749)] false x1
    have f2 := key [(some 22077448131470707)] false x2
    have f3 := key [(some 5651822323626567026)] false x3
    have f4 := key [(some 336874201465)] false x4
    have f5 := key [(some 5651828894943638885)] false x5
    have f6 := key [(some 22077456503107175)] false x6
    have f7 := key [(some 1446866215807293155173)] false x7
    have f8 := key [(some 22077464975799653)] false x8
    have f9 := key [(some 21499177861738087)] false x9
    have f10 := key [(some 6084203974253437300)] false x10
    have f11 := key [(some 23766421873979001)] false x11
    have f12 := key [(some 77431305626980)] false x12
    have f13 := key [(some 1446869044807779053159)] false x13
    have f14 := key [(some 1446867055838488785518)] true x14
    have f15 := key [none] true x15
    show clr 1 (X__law_refused_1 a 1446867055838488785518 [.d (.str s), .d (.err a 1446867055838488785518), .no] []) = _
    unfold X__law_refused_1
    generalize isE xT a 1446867055838488785518 [(some 22077439389819749)] 1 = e1 at *
    generalize isE xT a 1446867055838488785518 [(some 22077448131470707)] 1 = e2 at *
    generalize isE xT a 1446867055838488785518 [(some 5651822323626567026)] 1 = e3 at *
    generalize isE xT a 1446867055838488785518 [(some 336874201465)] 1 = e4 at *
    generalize isE xT a 1446867055838488785518 [(some 5651828894943638885)] 1 = e5 at *
    generalize isE xT a 1446867055838488785518 [(some 22077456503107175)] 1 = e6 at *
    generalize isE xT a 1446867055838488785518 [(some 1446866215807293155173)] 1 = e7 at *
    generalize isE xT a 1446867055838488785518 [(some 22077464975799653)] 1 = e8 at *
    generalize isE xT a 1446867055838488785518 [(some 21499177861738087)] 1 = e9 at *
    generalize isE xT a 1446867055838488785518 [(some 6084203974253437300)] 1 = e10 at *
    generalize isE xT a 1446867055838488785518 [(some 23766421873979001)] 1 = e11 at *
    generalize isE xT a 1446867055838488785518 [(some 77431305626980)] 1 = e12 at *
    generalize isE xT a 1446867055838488785518 [(some 1446869044807779053159)] 1 = e13 at *
    generalize isE xT a 1446867055838488785518 [(some 1446867055838488785518)] 1 = e14 at *
    generalize isE xT a 1446867055838488785518 [none] 1 = e15 at *
    generalize D.err a 1446867055838488785518 = er at *
    generalize D.str s = sd at *
    clear key x1 x2 x3 x4 x5 x6 x7 x8 x9 x10 x11 x12 x13 x14 x15
    simp (maxSteps := 30000) (disch := first | assumption | (simp; done) | omega | (simp; omega)) [f1, f2, f3, f4, f5, f6, f7, f8, f9, f10, f11, f12, f13, f14, f15, n1]
    )
  rw [c__law_refused, runB_k, b__law_refused]
  generalize sTryA xT 6008216717068758898 1 L__law_refused_1 X__law_refused_1 = f at *
  generalize D.str s = sd at *
  simp (maxSteps := 30000) (disch := first | assumption | (simp; done) | omega | (simp; omega)) [h3]
def inS (q : P) : Nat := ((P.inn q).map fun a => szPs a.i).sum
theorem many_ok : ∀ (k : Nat) (ps : List P), lvPs ps < k → (tPs ps).length ≤ 16777216 → c__law_many k [.lst (dPs ps)] st = .ok (.int (szPs ps : Nat)) [] st := by
  intro k
  induction k with
  | zero => intro ps h; omega
  | succ k ih =>
    intro ps hlv ht
    have key : ∀ (qs : List P) (n : Nat) (x2 x3 x4 : Sl) (pd : D), (∀ q ∈ qs, q.lv ≤ k ∧ q.t.length ≤ 16777216) → ∃ x2' x3' x4', forL (gV 2) (L__law_many_1 (c__law_many k)) (dPs qs) [.d pd, .d (.int (n : Nat)), x2, x3, x4] st = .nx [.d pd, .d (.int ((n + (qs.map inS).sum : Nat))), x2', x3', x4'] st := by
      intro qs
      induction qs with
      | nil => intro n x2 x3 x4 pd _; exact ⟨x2, x3, x4, rfl⟩
      | cons q qs ihq =>
        intro n x2 x3 x4 pd hq
        obtain ⟨q1, q2⟩ := hq q (List.mem_cons_self ..)
        have next : ∃ y3 y4, L__law_many_1 (c__law_many k) [.d pd, .d (.int (n : Nat)), .d q.d, x3, x4] st = .nx [.d pd, .d (.int ((n + inS q : Nat))), .d q.d, y3, y4] st := by
          have qs1 : ∀ x : List Nat, eqOk (.str x) = true := fun _ => rfl
          cases q with
          | txt s =>
            have i3 : dIx (P.txt s).d (.int 0) = some (.str TXT) := rfl
            have n1 : inD (.str TXT) (.lst [.str [109, 97, 110, 121], .str [107, 105, 110, 100], .str [114, 97, 110, 107]]) = some false := rfl
            refine ⟨x3, x4, ?_⟩
            rw [L__law_many_1]
            simp only [inS, P.inn, List.map_nil, List.sum_nil, Nat.add_zero]
            generalize (P.txt s).d = qd at *
            generalize D.str TXT = td at *
            generalize (n : Int) = ni at *
            clear ihq ih
            simp (maxSteps := 30000) (disch := first | assumption | (simp; done) | omega | (simp; omega)) [i3, n1]
          | gap s =>
            have i3 : dIx (P.gap s).d (.int 0) = some (.str GAP) := rfl
            have n1 : inD (.str GAP) (.lst [.str [109, 97, 110, 121], .str [107, 105, 110, 100], .str [114, 97, 110, 107]]) = some false := rfl
            refine ⟨x3, x4, ?_⟩
            rw [L__law_many_1]
            simp only [inS, P.inn, List.map_nil, List.sum_nil, Nat.add_zero]
            generalize (P.gap s).d = qd at *
            generalize D.str GAP = td at *
            generalize (n : Int) = ni at *
            clear ihq ih
            simp (maxSteps := 30000) (disch := first | assumption | (simp; done) | omega | (simp; omega)) [i3, n1]
          | say w bs =>
            have i3 : dIx (P.say w bs).d (.int 0) = some (.str SAY) := rfl
            have n1 : inD (.str SAY) (.lst [.str [109, 97, 110, 121], .str [107, 105, 110, 100], .str [114, 97, 110, 107]]) = some false := rfl
            refine ⟨x3, x4, ?_⟩
            rw [L__law_many_1]
            simp only [inS, P.inn, List.map_nil, List.sum_nil, Nat.add_zero]
            generalize (P.say w bs).d = qd at *
            generalize D.str SAY = td at *
            generalize (n : Int) = ni at *
            clear ihq ih
            simp (maxSteps := 30000) (disch := first | assumption | (simp; done) | omega | (simp; omega)) [i3, n1]
          | cho h g as =>
            have i3 : dIx (P.cho h g as).d (.int 0) = some (.str h.s) := rfl
            have i5 : dIx (P.cho h g as).d (.int 2) = some (.lst (dAs as)) := rfl
            have hi : itD (.lst (dAs as)) = some (dAs as) := rfl
            have n1 : inD (.str h.s) (.lst [.str [109, 97, 110, 121], .str [107, 105, 110, 100], .str [114, 97, 110, 107]]) = some true := by cases h <;> rfl
            have kk := lcL_list (g := gT 2 (gC (gV 3) (gC (gV 4) (gN)))) (own := [3, 4]) (f := E__law_many_1 (c__law_many k)) (S := [.d pd, .d (.int (n : Nat)), .d (P.cho h g as).d, .no, .no]) (st := st) Arm.d (fun a => .int (szPs a.i : Nat)) as (fun a ha => by
              have h1 := ih a.i (by have := lv_inn (P.cho h g as) (a := a) ha; omega) (by have := inn_t (p := P.cho h g as) (a := a) ha; omega)
              refine ⟨[.d pd, .d (.int (n : Nat)), .d (P.cho h g as).d, .d (.str a.n), .d (.lst (dPs a.i))], [.d pd, .d (.int (n : Nat)), .d (P.cho h g as).d, .d (.str a.n), .d (.lst (dPs a.i))], by cases a; rfl, ?_, rfl⟩
              rw [E__law_many_1]
              generalize D.lst (dPs a.i) = ad at *
              generalize D.str a.n = sd at *
              generalize (P.cho h g as).d = qd at *
              generalize (n : Int) = ni at *
              clear ihq ih
              simp (maxSteps := 30000) (disch := first | assumption | (simp; done) | omega | (simp; omega)) [h1])
            rw [← dAs_map] at kk
            have hl : (as.map fun a => D.int (szPs a.i : Nat)).length ≤ 16777216 := by have := inn_len (P.cho h g as); simp [P.inn] at this ⊢; omega
            have hs : dSum [.lst (as.map fun a => D.int (szPs a.i : Nat))] = some (.int ((as.map fun a => szPs a.i).sum : Nat)) := by
              have e : (as.map fun a => D.int (szPs a.i : Nat)) = ((as.map fun a => szPs a.i).map fun n : Nat => (n : Int)).map D.int := by simp [List.map_map, Function.comp_def]
              rw [e, dSum_a, DL.ints_map, ← sum_ints]; rfl
            refine ⟨(match x3 with | .d x => .d x | _ => .no), (match x4 with | .d x => .d x | _ => .no), ?_⟩
            rw [L__law_many_1]
            have hsz : ((n + inS (P.cho h g as) : Nat) : Int) = (n : Int) + ((as.map fun a => szPs a.i).sum : Nat) := by simp [inS, P.inn]
            rw [hsz]
            generalize (as.map fun a => D.int (szPs a.i : Nat)) = il at *
            generalize ((as.map fun a => szPs a.i).sum : Nat) = sm at *
            generalize (P.cho h g as).d = qd at *
            generalize dAs as = al at *
            generalize D.str h.s = td at *
            generalize (n : Int) = ni at *
            clear ihq ih hsz
            simp (maxSteps := 30000) (disch := first | assumption | (simp; done) | omega | (simp; omega)) [i3, i5, hi, n1, kk, hl, hs]
            cases x3 <;> cases x4 <;> rfl
        obtain ⟨y3, y4, hb⟩ := next
        obtain ⟨x2', x3', x4', e⟩ := ihq (n + inS q) (.d q.d) y3 y4 pd (fun q hq' => hq q (List.mem_cons_of_mem _ hq'))
        refine ⟨x2', x3', x4', ?_⟩
        rw [dPs, forL_c, gV_a]
        simp only [List.set_cons_succ, List.set_cons_zero, hb]
        rw [e, List.map_cons, List.sum_cons, Nat.add_assoc]
    have hq : ∀ q ∈ ps, q.lv ≤ k ∧ q.t.length ≤ 16777216 := by
      have a1 : ∀ ps : List P, ∀ q ∈ ps, q.lv ≤ lvPs ps ∧ q.t.length ≤ (tPs ps).length := fun ps => by
        induction ps with
        | nil => intro q h; cases h
        | cons p r ihp =>
          intro q h
          rcases List.mem_cons.mp h with rfl | h
          · simp [lvPs, tPs]; omega
          · have := ihp q h; simp [lvPs, tPs]; omega
      intro q h
      have := a1 ps q h; omega
    have lens : ∀ ps : List P, szPs ps = ps.length + (ps.map inS).sum := fun ps => by
      induction ps with
      | nil => rfl
      | cons p r ihp => rw [szPs, ihp, sz_inn p, List.map_cons, List.sum_cons, List.length_cons, inS]; omega
    obtain ⟨x2', x3', x4', e⟩ := key ps ps.length .no .no .no (.lst (dPs ps)) hq
    rw [← lens ps] at e
    have l0 : dLen [.lst (dPs ps)] = some (.int ps.length) := by rw [dPs_map]; simp [dLen]
    rw [c__law_many, runB_k, b__law_many]
    have hi : itD (.lst (dPs ps)) = some (dPs ps) := rfl
    generalize dPs ps = pl at *
    generalize (ps.length : Int) = nl at *
    generalize (szPs ps : Int) = sz at *
    clear key ih lens
    simp (maxSteps := 30000) (disch := first | assumption | (simp; done) | omega | (simp; omega)) [e, hi, l0]
end
end M

namespace M
open PySem PySem.Spec PyProof.Rows L2 DL Pt
theorem dAdd_ss (a b : List Nat) (h : a.length + b.length ≤ 16000000) : dAdd (.str a) (.str b) = some (.str (a ++ b)) := dAdd_s _ _ (by omega)
theorem ix_m (t : List Nat) (i : Int) (h0 : 0 ≤ i) (h1 : i < t.length) (hl : t.length ≤ 16777216) : ∃ c, dIx (.str t) (.int i) = some (.str [c]) := by
  obtain ⟨x, e, m⟩ := atI_some h0 h1
  exact ⟨x, by rw [dIx_s _ _ hl, e]; rfl⟩
section
variable {st : Store}
abbrev SIGNS : List Nat := [123, 125, 91, 93, 35, 126, 94, 64, 61, 32, 97, 101, 48, 55, 61, 110]
theorem spoilt_ok (s : List Nat) (z : Int) (hs : s.length ≤ 1000000) (hz : z.natAbs.log2 < 1048576) : ∃ u, c__law_spoilt [.str s, .int z] st = .ok (.str u) [] st ∧ u.length ≤ 3 * s.length + 1 := by
  have mz : mulC z 69621 = true := mulC_of (by unfold Sm; omega) (Sm.small (by omega) (by omega))
  have m1 : dMul (.int z) (.int 69621) = some (.int (z * 69621)) := dMul_i _ _ mz
  have p1 : dPow (.int 10) (.int 60) = some (.int (10 ^ 60)) := dPow_a _ _ (by decide)
  have d1 : dMod (.int (z * 69621 + 5)) (.int (10 ^ 60)) = some (.int ((z * 69621 + 5) % 10 ^ 60)) := dMod_a _ _ (by decide)
  generalize hn : (z * 69621 + 5) % 10 ^ 60 = n at d1
  have hn0 : 0 ≤ n := by rw [← hn]; exact Int.emod_nonneg _ (by decide)
  have c1 : dLen [.str s] = some (.int s.length) := by simp [dLen] <;> omega
  have d2 : dMod (.int (n / 8)) (.int ((s.length : Int) + 1)) = some (.int (n / 8 % ((s.length : Int) + 1))) := dMod_a _ _ (by omega)
  generalize ha : n / 8 % ((s.length : Int) + 1) = at0 at d2
  have ha0 : 0 ≤ at0 := by rw [← ha]; exact Int.emod_nonneg _ (by omega)
  obtain ⟨c, ix⟩ := ix_m SIGNS (n / 73728 % 16) (by omega) (by simp; omega) (by simp)
  generalize hf : 1 + n / 8192 % 9 = far at *
  have q (l u : Option Int) : dSl (.str s) l u = some (.str (cut s l u)) := dSl_s s l u (by omega)
  have q1 := q none (some at0)
  have q2 := q (some at0) none
  have q3 := q (some (at0 + 1)) none
  have q4 := q (some (at0 + far)) none
  have q5 := q (some at0) (some (at0 + far))
  have l1 := cut_len s none (some at0)
  have l2 := cut_len s (some at0) none
  have l3 := cut_len s (some (at0 + 1)) none
  have l4 := cut_len s (some (at0 + far)) none
  have l5 := cut_len s (some at0) (some (at0 + far))
  clear q
  generalize cut s none (some at0) = u1 at *
  generalize cut s (some at0) none = u2 at *
  generalize cut s (some (at0 + 1)) none = u3 at *
  generalize cut s (some (at0 + far)) none = u4 at *
  generalize cut s (some at0) (some (at0 + far)) = u5 at *
  have a1 := dAdd_ss u1 [c] (by simp; omega)
  have a2 := dAdd_ss (u1 ++ [c]) u2 (by simp; omega)
  have a3 := dAdd_ss (u1 ++ [c]) u3 (by simp; omega)
  have a4 := dAdd_ss u1 u4 (by omega)
  have a5 := dAdd_ss u1 u5 (by omega)
  have a6 := dAdd_ss (u1 ++ u5) u2 (by simp; omega)
  have a7 := dAdd_ss u2 u1 (by omega)
  have w0 : 0 ≤ n % 8 ∧ n % 8 < 8 := by omega
  have e1 : ∀ j : Int, deq (.int (n % 8)) (.int j) = decide (n % 8 = j) := fun j => deq_int _ _
  have ei : ∀ j : Int, eqOk (.int j) = true := fun _ => rfl
  have g8 : (0 : Int) < 8 := by omega
  have run : ∀ u : List Nat, (∃ (w : Int), n % 8 = w ∧ (w < 2 ∧ u = u1 ++ [c] ++ u2 ∨ w = 2 ∧ u = u1 ++ [c] ++ u3 ∨ w = 3 ∧ u = u1 ++ u4 ∨ w = 4 ∧ u = u1 ++ u5 ++ u2 ∨ w = 5 ∧ u = u2 ++ u1 ∨ 5 < w ∧ u = s)) → c__law_spoilt [.str s, .int z] st = .ok (.str u) [] st := by
    rintro u ⟨w, hw, hu⟩
    rw [hw] at e1
    have b2 := e1 2
    have b3 := e1 3
    have b4 := e1 4
    have b5 := e1 5
    clear e1 hn ha mz w0
    rw [c__law_spoilt, runB_k, b__law_spoilt]
    rcases hu with ⟨h, rfl⟩ | ⟨rfl, rfl⟩ | ⟨rfl, rfl⟩ | ⟨rfl, rfl⟩ | ⟨rfl, rfl⟩ | ⟨h, rfl⟩
    · generalize D.str (u1 ++ [c] ++ u2) = r2 at *
      generalize D.str (u1 ++ [c]) = r1 at *
      generalize D.str u1 = v1 at *
      generalize D.str u2 = v2 at *
      generalize D.str SIGNS = sg at *
      generalize D.str [c] = cd at *
      generalize D.str s = sd at *
      generalize (s.length : Int) = sl at *
      generalize z * 69621 = z1 at *
      generalize (10 ^ 60 : Int) = big at *
      simp (maxSteps := 30000) (disch := first | assumption | (simp; done) | omega | (simp; omega)) [m1, p1, d1, c1, d2, ix, hf, hw, h, q1, q2, a1, a2]
    · rw [decide_eq_true rfl] at b2
      generalize D.str (u1 ++ [c] ++ u3) = r2 at *
      generalize D.str (u1 ++ [c]) = r1 at *
      generalize D.str u1 = v1 at *
      generalize D.str u3 = v2 at *
      generalize D.str SIGNS = sg at *
      generalize D.str [c] = cd at *
      generalize D.str s = sd at *
      generalize (s.length : Int) = sl at *
      generalize z * 69621 = z1 at *
      generalize (10 ^ 60 : Int) = big at *
      simp (maxSteps := 30000) (disch := first | assumption | (simp; done) | omega | (simp; omega)) [m1, p1, d1, c1, d2, ix, hf, hw, q1, q3, a1, a3, b2, ei]
    · rw [decide_eq_false (by omega)] at b2
      rw [decide_eq_true rfl] at b3
      generalize D.str (u1 ++ u4) = r2 at *
      generalize D.str u1 = v1 at *
      generalize D.str u4 = v2 at *
      generalize D.str SIGNS = sg at *
      generalize D.str [c] = cd at *
      generalize D.str s = sd at *
      generalize (s.length : Int) = sl at *
      generalize z * 69621 = z1 at *
      generalize (10 ^ 60 : Int) = big at *
      simp (maxSteps := 30000) (disch := first | assumption | (simp; done) | omega | (simp; omega)) [m1, p1, d1, c1, d2, ix, hf, hw, q1, q4, a4, b2, b3, ei]
    · rw [decide_eq_false (by omega)] at b2
      rw [decide_eq_false (by omega)] at b3
      rw [decide_eq_true rfl] at b4
      generalize D.str (u1 ++ u5 ++ u2) = r2 at *
      generalize D.str (u1 ++ u5) = r1 at *
      generalize D.str u1 = v1 at *
      generalize D.str u2 = v2 at *
      generalize D.str u5 = v5 at *
      generalize D.str SIGNS = sg at *
      generalize D.str [c] = cd at *
      generalize D.str s = sd at *
      generalize (s.length : Int) = sl at *
      generalize z * 69621 = z1 at *
      generalize (10 ^ 60 : Int) = big at *
      simp (maxSteps := 30000) (disch := first | assumption | (simp; done) | omega | (simp; omega)) [m1, p1, d1, c1, d2, ix, hf, hw, q1, q2, q5, a5, a6, b2, b3, b4, ei]
    · rw [decide_eq_false (by omega)] at b2
      rw [decide_eq_false (by omega)] at b3
      rw [decide_eq_false (by omega)] at b4
      rw [decide_eq_true rfl] at b5
      generalize D.str (u2 ++ u1) = r2 at *
      generalize D.str u1 = v1 at *
      generalize D.str u2 = v2 at *
      generalize D.str SIGNS = sg at *
      generalize D.str [c] = cd at *
      generalize D.str s = sd at *
      generalize (s.length : Int) = sl at *
      generalize z * 69621 = z1 at *
      generalize (10 ^ 60 : Int) = big at *
      simp (maxSteps := 30000) (disch := first | assumption | (simp; done) | omega | (simp; omega)) [m1, p1, d1, c1, d2, ix, hf, hw, q1, q2, a7, b2, b3, b4, b5, ei]
    · rw [decide_eq_false (by omega)] at b2 b3 b4 b5
      have nl : ¬ w < 2 := by omega
      generalize D.str SIGNS = sg at *
      generalize D.str [c] = cd at *
      generalize D.str u = sd at *
      generalize (u.length : Int) = sl at *
      generalize z * 69621 = z1 at *
      generalize (10 ^ 60 : Int) = big at *
      simp (maxSteps := 30000) (disch := first | assumption | (simp; done) | omega | (simp; omega)) [m1, p1, d1, c1, d2, ix, hf, hw, nl, b2, b3, b4, b5, ei]
  by_cases h1 : n % 8 < 2
  · exact ⟨_, run _ ⟨_, rfl, .inl ⟨h1, rfl⟩⟩, by simp; omega⟩
  by_cases h2 : n % 8 = 2
  · exact ⟨_, run _ ⟨_, rfl, .inr (.inl ⟨h2, rfl⟩)⟩, by simp; omega⟩
  by_cases h3 : n % 8 = 3
  · exact ⟨_, run _ ⟨_, rfl, .inr (.inr (.inl ⟨h3, rfl⟩))⟩, by simp; omega⟩
  by_cases h4 : n % 8 = 4
  · exact ⟨_, run _ ⟨_, rfl, .inr (.inr (.inr (.inl ⟨h4, rfl⟩)))⟩, by simp; omega⟩
  by_cases h5 : n % 8 = 5
  · exact ⟨_, run _ ⟨_, rfl, .inr (.inr (.inr (.inr (.inl ⟨h5, rfl⟩))))⟩, by simp; omega⟩
  · exact ⟨_, run _ ⟨_, rfl, .inr (.inr (.inr (.inr (.inr ⟨by omega, rfl⟩))))⟩, by omega⟩
end
end M

namespace M
open PySem PySem.Spec PyProof.Rows L2 DL Pt
abbrev AZ : List Nat := [97, 98, 99, 100, 101, 102, 103, 104, 105, 106, 107, 108, 109, 110, 111, 112, 113, 114, 115, 116, 117, 118, 119, 120, 121, 122]
section
variable {st : Store}
theorem word_loop (nd : D) : ∀ (m : Nat) (lo rest : Int) (acc : List Nat) (x4 : Sl), 0 ≤ rest → acc.length + m ≤ 8 →
    ∃ rest' acc' x4', forL (gV 4) L__law_word_1 (rng m lo) [.d nd, .d (.str AZ), .d (.int rest), .d (.str acc), x4] st = .nx [.d nd, .d (.str AZ), .d (.int rest'), .d (.str acc'), x4'] st ∧ acc'.length = acc.length + m
  | 0, lo, rest, acc, x4, h0, hl => ⟨rest, acc, x4, rfl, rfl⟩
  | m + 1, lo, rest, acc, x4, h0, hl => by
    obtain ⟨c, e⟩ := ix_m AZ (rest % 26) (by omega) (by simp; omega) (by simp)
    have a1 := dAdd_ss acc [c] (by simp; omega)
    have hb : L__law_word_1 [.d nd, .d (.str AZ), .d (.int rest), .d (.str acc), .d (.int lo)] st = .nx [.d nd, .d (.str AZ), .d (.int (rest / 26)), .d (.str (acc ++ [c])), .d (.int lo)] st := by
      rw [L__law_word_1]
      generalize D.str AZ = az at *
      generalize D.str (acc ++ [c]) = r at *
      generalize D.str [c] = cd at *
      generalize D.str acc = ad at *
      simp (maxSteps := 30000) (disch := first | assumption | (simp; done) | omega | (simp; omega)) [e, a1]
    obtain ⟨rest', acc', x4', e1, e3⟩ := word_loop nd m (lo + 1) (rest / 26) (acc ++ [c]) (.d (.int lo)) (by omega) (by rw [List.length_append, List.length_singleton]; omega)
    refine ⟨rest', acc', x4', ?_, by rw [e3, List.length_append, List.length_singleton]; omega⟩
    rw [rng_c, forL_c, gV_a]
    simp only [List.set_cons_succ, List.set_cons_zero, hb]
    exact e1
theorem lword_ok (n : Int) (h : 0 ≤ n) : ∃ w, c__law_word [.int n] st = .ok (.str w) [] st ∧ w.length ≤ 8 := by
  obtain ⟨rest', acc, x4', e1, e3⟩ := word_loop (st := st) (.int n) (1 + (n % 8)).toNat 0 (n / 8) [] .no (by omega) (by simp; omega)
  have hl2 : acc.length ≤ 8 := by rw [e3]; simp; omega
  have hg1 : -1000000 ≤ 1 + n % 8 := by omega
  have hg2 : 1 + n % 8 ≤ 1000000 := by omega
  have q1 : eqOk (.str acc) = true := rfl
  have q2 : eqOk (.str ELSE) = true := rfl
  have q3 : deq (.str acc) (.str ELSE) = decide (acc = ELSE) := deq_str _ _
  by_cases hE : acc = ELSE
  · refine ⟨[101, 108, 115, 101, 110], ?_, by decide⟩
    rw [decide_eq_true hE] at q3
    rw [c__law_word, runB_k, b__law_word]
    generalize D.str ELSE = ed at *
    generalize D.str AZ = az at *
    generalize D.str [101, 108, 115, 101, 110] = nd at *
    generalize D.str [] = zd at *
    generalize D.str acc = ad at *
    simp (maxSteps := 30000) (disch := first | assumption | (simp; done) | omega | (simp; omega)) [hg1, hg2, e1, q1, q2, q3]
  · refine ⟨acc, ?_, hl2⟩
    rw [decide_eq_false hE] at q3
    rw [c__law_word, runB_k, b__law_word]
    generalize D.str ELSE = ed at *
    generalize D.str AZ = az at *
    generalize D.str [101, 108, 115, 101, 110] = nd at *
    generalize D.str [] = zd at *
    generalize D.str acc = ad at *
    simp (maxSteps := 30000) (disch := first | assumption | (simp; done) | omega | (simp; omega)) [hg1, hg2, e1, q1, q2, q3]
theorem lgap_ok (n : Int) (h : 0 ≤ n) : ∃ w, c__law_gap [.int n] st = .ok (.str w) [] st ∧ w.length ≤ 8 := by
  by_cases c : 0 < n % 3
  · have ix : ∃ w, dIx (.lst [.str [110], .str [109], .str [119, 104, 111]]) (.int (n / 3 % 3)) = some (.str w) ∧ w.length ≤ 8 := by
      have : n / 3 % 3 = 0 ∨ n / 3 % 3 = 1 ∨ n / 3 % 3 = 2 := by omega
      rcases this with e | e | e <;> rw [e]
      · exact ⟨[110], rfl, by simp⟩
      · exact ⟨[109], rfl, by simp⟩
      · exact ⟨[119, 104, 111], rfl, by simp⟩
    obtain ⟨w, ix, hw⟩ := ix
    refine ⟨w, ?_, hw⟩
    rw [c__law_gap, runB_k, b__law_gap]
    generalize D.str [110] = s1 at *
    generalize D.str [109] = s2 at *
    generalize D.str [119, 104, 111] = s3 at *
    generalize D.str w = wd at *
    simp (maxSteps := 30000) (disch := first | assumption | (simp; done) | omega | (simp; omega)) [ix, c]
  · obtain ⟨w, e, hw⟩ := lword_ok (st := st) (n / 3) (by omega)
    refine ⟨w, ?_, hw⟩
    rw [c__law_gap, runB_k, b__law_gap]
    generalize D.str w = wd at *
    simp (maxSteps := 30000) (disch := first | assumption | (simp; done) | omega | (simp; omega)) [e, c]
theorem lname_ok (n : Int) (hn : 0 ≤ n) (h : H) : ∃ w, c__law_name [.int n, .str h.s] st = .ok (.str w) [] st ∧ w.length ≤ 60 := by
  have e0 : ∀ i j : Int, deq (.int i) (.int j) = decide (i = j) := deq_int
  have ei : ∀ j : Int, eqOk (.int j) = true := fun _ => rfl
  have m1 : deq (.str h.s) (.str [109, 97, 110, 121]) = decide (h = .many) := by rw [deq_str]; cases h <;> rfl
  have q1 : eqOk (.str h.s) = true := rfl
  have q2 : eqOk (.str [109, 97, 110, 121]) = true := rfl
  have b0 := e0 (n % 4) 0
  have b1 := e0 (n % 4) 1
  have b2 := e0 (n / 4 % 8) 3
  clear e0
  by_cases c0 : n % 4 = 0
  · rw [decide_eq_true c0] at b0
    refine ⟨ELSE, ?_, by decide⟩
    rw [c__law_name, runB_k, b__law_name]
    generalize D.str ELSE = ed at *
    generalize D.str h.s = hd at *
    simp (maxSteps := 30000) (disch := first | assumption | (simp; done) | omega | (simp; omega)) [b0, ei]
  rw [decide_eq_false c0] at b0
  by_cases c1 : n % 4 = 1 ∧ h = .many
  · rw [decide_eq_true c1.1] at b1
    rw [decide_eq_true c1.2] at m1
    have p1 : dPow (.int 10) (.int 59) = some (.int (10 ^ 59)) := dPow_a _ _ (by decide)
    have d1 : dMod (.int (n / 32)) (.int (10 ^ 59)) = some (.int (n / 32 % 10 ^ 59)) := dMod_a _ _ (by decide)
    have z0 : 0 ≤ n / 32 % 10 ^ 59 := Int.emod_nonneg _ (by decide)
    have z1 : n / 32 % 10 ^ 59 < 10 ^ 59 := Int.emod_lt_of_pos _ (by decide)
    have t1 := dStr_num z0 (Int.lt_trans z1 (by decide +kernel))
    have t2 : dStr [.int (n / 32 % 12)] = some (.str (numS (n / 32 % 12))) := dStr_num (by omega) (Int.lt_trans (show n / 32 % 12 < 12 by omega) (by decide +kernel))
    have l1 := numS_len z0 (show 0 < 59 by decide) z1
    have l2 : (numS (n / 32 % 12)).length ≤ 59 := numS_len (by omega) (by decide) (Int.lt_trans (show n / 32 % 12 < 12 by omega) (by decide +kernel))
    have a1 := dAdd_ss [61] (numS (n / 32 % 10 ^ 59)) (Nat.le_trans (Nat.add_le_add_left l1 1) (by decide))
    have a2 := dAdd_ss [61] (numS (n / 32 % 12)) (by simp; omega)
    by_cases c2 : n / 4 % 8 = 3
    · rw [decide_eq_true c2] at b2
      refine ⟨[61] ++ numS (n / 32 % 10 ^ 59), ?_, by rw [List.length_append]; exact Nat.add_le_add_left l1 1⟩
      rw [c__law_name, runB_k, b__law_name]
      generalize D.str ([61] ++ numS (n / 32 % 10 ^ 59)) = rd at *
      generalize D.str (numS (n / 32 % 10 ^ 59)) = nd at *
      generalize D.str h.s = hd at *
      generalize D.str [109, 97, 110, 121] = md at *
      generalize D.str [61] = qd at *
      generalize n / 32 % 10 ^ 59 = nn at *
      generalize (10 ^ 59 : Int) = big at *
      simp (maxSteps := 30000) (disch := first | assumption | (simp; done) | omega | (simp; omega)) [b0, b1, b2, m1, q1, q2, p1, d1, t1, a1, ei]
    · rw [decide_eq_false c2] at b2
      refine ⟨[61] ++ numS (n / 32 % 12), ?_, by simp; omega⟩
      rw [c__law_name, runB_k, b__law_name]
      generalize D.str ([61] ++ numS (n / 32 % 12)) = rd at *
      generalize D.str (numS (n / 32 % 12)) = nd at *
      generalize D.str h.s = hd at *
      generalize D.str [109, 97, 110, 121] = md at *
      generalize D.str [61] = qd at *
      clear t1 d1 z0 z1 l1 a1
      simp (maxSteps := 30000) (disch := first | assumption | (simp; done) | omega | (simp; omega)) [b0, b1, b2, m1, q1, q2, t2, a2, ei]
  · obtain ⟨w, e, hw⟩ := lword_ok (st := st) (n / 4) (by omega)
    refine ⟨w, ?_, by omega⟩
    have fin : ∀ v1 v2 : Bool, (v1 && v2) = false → deq (.int (n % 4)) (.int 1) = v1 → deq (.str h.s) (.str [109, 97, 110, 121]) = v2 → c__law_name [.int n, .str h.s] st = .ok (.str w) [] st := by
      intro v1 v2 hv b1 m1
      rw [c__law_name, runB_k, b__law_name]
      generalize D.str h.s = hd at *
      generalize D.str [109, 97, 110, 121] = md at *
      generalize D.str w = wd at *
      cases v1
      · simp (maxSteps := 30000) (disch := first | assumption | (simp; done) | omega | (simp; omega)) [b0, b1, ei, e]
      · cases v2
        · simp (maxSteps := 30000) (disch := first | assumption | (simp; done) | omega | (simp; omega)) [b0, b1, m1, q1, q2, ei, e]
        · cases hv
    refine fin _ _ ?_ b1 m1
    simp only [Bool.and_eq_false_imp, decide_eq_true_eq, decide_eq_false_iff_not]
    exact fun a b => c1 ⟨a, b⟩
theorem plain_loop2 (md : D) (some_ : List Nat) (h90 : some_.length = 90) : ∀ (m : Nat) (lo : Int) (n : Int) (acc : List Nat) (x4 : Sl), 0 ≤ n → n.natAbs.log2 < 1048576 → 0 ≤ lo → lo + m ≤ 100 → acc.length + m ≤ 100 →
    ∃ n' acc' x4', forL (gV 4) L__law_plain_1 (rng m lo) [.d (.int n), .d md, .d (.str some_), .d (.str acc), x4] st = .nx [.d (.int n'), .d md, .d (.str some_), .d (.str acc'), x4'] st ∧ acc'.length = acc.length + m
  | 0, lo, n, acc, x4, h0, hz, _, _, hl => ⟨n, acc, x4, rfl, rfl⟩
  | m + 1, lo, n, acc, x4, h0, hz, l0, l1, hl => by
    have mz : mulC n 16807 = true := mulC_of (by unfold Sm; omega) (Sm.small (by omega) (by omega))
    have m1 : dMul (.int n) (.int 16807) = some (.int (n * 16807)) := dMul_i _ _ mz
    have d1 : dMod (.int (n * 16807 + lo)) (.int 2147483647) = some (.int ((n * 16807 + lo) % 2147483647)) := dMod_a _ _ (by decide)
    generalize hm : (n * 16807 + lo) % 2147483647 = r at d1
    have r0 : 0 ≤ r := by omega
    have r1 : r < 2147483647 := by omega
    have rl : r.natAbs.log2 < 1048576 := by
      have : r.natAbs < 2 ^ 40 := Nat.lt_of_lt_of_le (show r.natAbs < 2147483647 by omega) (by decide)
      by_cases z : r.natAbs = 0
      · rw [z]; decide
      · exact Nat.lt_trans ((Nat.log2_lt z).mpr this) (by decide)
    have b1 : deq (.int (r % 4)) (.int 0) = decide (r % 4 = 0) := deq_int _ _
    have ei : ∀ j : Int, eqOk (.int j) = true := fun _ => rfl
    obtain ⟨c, ix⟩ := ix_m some_ (r / 4 % 90) (by omega) (by rw [h90]; omega) (by omega)
    have next : ∃ c', L__law_plain_1 [.d (.int n), .d md, .d (.str some_), .d (.str acc), .d (.int lo)] st = .nx [.d (.int r), .d md, .d (.str some_), .d (.str (acc ++ [c'])), .d (.int lo)] st := by
      by_cases z : r % 4 = 0
      · refine ⟨32, ?_⟩
        have a1 := dAdd_ss acc [32] (by simp; omega)
        rw [decide_eq_true z] at b1
        rw [L__law_plain_1]
        generalize D.str some_ = sd at *
        generalize D.str (acc ++ [32]) = rd at *
        generalize D.str acc = ad at *
        generalize D.str [32] = bd at *
        generalize n * 16807 = n1 at *
        clear hm mz
        simp (maxSteps := 30000) (disch := first | assumption | (simp; done) | omega | (simp; omega)) [m1, d1, b1, ei, a1]
      · refine ⟨c, ?_⟩
        have a1 := dAdd_ss acc [c] (by simp; omega)
        rw [decide_eq_false z] at b1
        rw [L__law_plain_1]
        generalize D.str some_ = sd at *
        generalize D.str (acc ++ [c]) = rd at *
        generalize D.str acc = ad at *
        generalize D.str [c] = bd at *
        generalize n * 16807 = n1 at *
        clear hm mz
        simp (maxSteps := 30000) (disch := first | assumption | (simp; done) | omega | (simp; omega)) [m1, d1, b1, ei, ix, a1]
    obtain ⟨c', hb⟩ := next
    obtain ⟨n', acc', x4', e1, e3⟩ := plain_loop2 md some_ h90 m (lo + 1) r (acc ++ [c']) (.d (.int lo)) r0 rl (by omega) (by omega) (by rw [List.length_append, List.length_singleton]; omega)
    refine ⟨n', acc', x4', ?_, by rw [e3, List.length_append, List.length_singleton]; omega⟩
    rw [rng_c, forL_c, gV_a]
    simp only [List.set_cons_succ, List.set_cons_zero, hb]
    exact e1
theorem lplain_ok (n : Int) (h : 0 ≤ n) (hz : n.natAbs.log2 < 1048576) (m : Int) (m0 : 0 ≤ m) (m1 : m ≤ 12) : ∃ w, c__law_plain [.int n, .int m] st = .ok (.str w) [] st ∧ w.length ≤ 12 := by
  obtain ⟨n', acc, x4', e1, e3⟩ := plain_loop2 (st := st) (.int m) [32, 33, 34, 35, 36, 38, 39, 40, 41, 42, 43, 44, 45, 46, 47, 48, 49, 50, 51, 52, 53, 54, 55, 56, 57, 58, 59, 60, 61, 62, 63, 64, 65, 66, 67, 68, 69, 70, 71, 72, 73, 74, 75, 76, 77, 78, 79, 80, 81, 82, 83, 84, 85, 86, 87, 88, 89, 90, 92, 94, 95, 96, 97, 98, 99, 100, 101, 102, 103, 104, 105, 106, 107, 108, 109, 110, 111, 112, 113, 114, 115, 116, 117, 118, 119, 120, 121, 122, 124, 126] rfl m.toNat 0 n [] .no h hz (by omega) (by omega) (by simp; omega)
  have hg1 : -1000000 ≤ m := by omega
  have hg2 : m ≤ 1000000 := by omega
  refine ⟨acc, ?_, by rw [e3]; simp; omega⟩
  rw [c__law_plain, runB_k, b__law_plain]
  generalize D.str [32, 33, 34, 35, 36, 38, 39, 40, 41, 42, 43, 44, 45, 46, 47, 48, 49, 50, 51, 52, 53, 54, 55, 56, 57, 58, 59, 60, 61, 62, 63, 64, 65, 66, 67, 68, 69, 70, 71, 72, 73, 74, 75, 76, 77, 78, 79, 80, 81, 82, 83, 84, 85, 86, 87, 88, 89, 90, 92, 94, 95, 96, 97, 98, 99, 100, 101, 102, 103, 104, 105, 106, 107, 108, 109, 110, 111, 112, 113, 114, 115, 116, 117, 118, 119, 120, 121, 122, 124, 126] = sd at *
  generalize D.str acc = ad at *
  generalize D.str [] = zd at *
  simp (maxSteps := 30000) (disch := first | assumption | (simp; done) | omega | (simp; omega)) [hg1, hg2, e1]
end
end M

namespace M
open PySem PySem.Spec PyProof.Rows L2 DL Pt
theorem bs_noL (bs : List (List Nat × List Nat)) : noLs (bs.map bD) = true := by
  induction bs with
  | nil => rfl
  | cons b r ih => rw [List.map_cons, noLs, ih]; rfl
mutual
theorem p_noL : ∀ p : P, noL p.d = true
  | .txt _ => rfl
  | .gap _ => rfl
  | .say _ bs => by simp [P.d, noL, noLs, bs_noL]
  | .cho _ _ as => by simp [P.d, noL, noLs, as_noL as]
theorem a_noL : ∀ a : Arm, noL a.d = true
  | .mk _ i => by simp [Arm.d, noL, noLs, ps_noL i]
theorem ps_noL : ∀ ps : List P, noLs (dPs ps) = true
  | [] => rfl
  | p :: r => by rw [dPs, noLs, p_noL p, ps_noL r]; rfl
theorem as_noL : ∀ as : List Arm, noLs (dAs as) = true
  | [] => rfl
  | a :: r => by rw [dAs, noLs, a_noL a, as_noL r]; rfl
end
theorem bor_binds (nd kd th : D) (acc : List (List Nat × List Nat)) (ha : acc.length ≤ 100) :
    borF 1 (lcF (iE (vE 1)) (gT 2 (gC (gV 4) (gC (gV 5) (gN)))) [4, 5] (tY) (E__law_binds_1)) [.d nd, .own (.l (acc.map bD)), .d kd, .d th, .no, .no] []
    = .ok (.l ((acc.map (·.1)).map D.str)) [.d nd, .own (.l (acc.map bD)), .d kd, .d th, .no, .no] [] := by
  have key := lcL_list (g := gT 2 (gC (gV 4) (gC (gV 5) (gN)))) (own := [4, 5]) (f := E__law_binds_1) (S := [.d nd, .d (.lst (acc.map bD)), .d kd, .d th, .no, .no]) (st := []) bD (fun b => D.str b.1) acc (fun b _ => by
    exact ⟨[.d nd, .d (.lst (acc.map bD)), .d kd, .d th, .d (.str b.1), .d (.str b.2)], [.d nd, .d (.lst (acc.map bD)), .d kd, .d th, .d (.str b.1), .d (.str b.2)], rfl, by rw [E__law_binds_1]; rfl, rfl⟩)
  have e1 : acc.map (fun b => D.str b.1) = (acc.map (·.1)).map D.str := by rw [List.map_map]; rfl
  rw [e1] at key
  have e2 : lcF (iE (vE 1)) (gT 2 (gC (gV 4) (gC (gV 5) (gN)))) [4, 5] (tY) (E__law_binds_1) [.d nd, .d (.lst (acc.map bD)), .d kd, .d th, .no, .no] [] = .ok (.l ((acc.map (·.1)).map D.str)) [.d nd, .d (.lst (acc.map bD)), .d kd, .d th, .no, .no] [] := by
    have hl : ((acc.map (·.1)).map D.str).length ≤ 16777216 := by simp; omega
    generalize (acc.map (·.1)).map D.str = ys at *
    generalize acc.map bD = bs at *
    simp [key, hl]
  have hf : ((acc.map (·.1)).map D.str).all flatD = true := flat_strs _
  unfold borF
  generalize (acc.map (·.1)).map D.str = ys at *
  generalize acc.map bD = bs at *
  show (match lcF _ _ _ _ _ [.d nd, .d (.lst bs), .d kd, .d th, .no, .no] [] with
    | .ok (.l ys) S1 st1 => _
    | _ => _) = _
  rw [e2]
  exact if_pos ⟨⟨hf, rfl⟩, rfl, rfl⟩
def smallB (bs : List (List Nat × List Nat)) : Prop := ∀ b ∈ bs, b.1.length ≤ 8 ∧ b.2.length ≤ 8
theorem binds_turns (n : Int) (h0 : 0 ≤ n) : ∀ (m : Nat) (lo : Nat) (acc : List (List Nat × List Nat)) (x2 x3 : Sl), lo + m ≤ 4 → acc.length + m ≤ 4 → smallB acc →
    ∃ acc' x2' x3', forL (gV 2) L__law_binds_1 (rng m (lo : Int)) [.d (.int n), .own (.l (acc.map bD)), x2, x3, .no, .no] [] = .nx [.d (.int n), .own (.l (acc'.map bD)), x2', x3', .no, .no] [] ∧ acc'.length ≤ acc.length + m ∧ smallB acc'
  | 0, lo, acc, x2, x3, _, _, hs => ⟨acc, x2, x3, rfl, Nat.le_refl _, hs⟩
  | m + 1, lo, acc, x2, x3, hlo, hl, hs => by
    have mk1 : dMul (.int 7) (.int (lo : Int)) = some (.int (7 * lo)) := dMul_i _ _ (mulC_of (Sm.small (by omega) (by omega)) (Sm.small (by omega) (by omega)))
    have mk2 : dMul (.int (lo : Int)) (.int (lo : Int)) = some (.int ((lo : Int) * lo)) := dMul_i _ _ (mulC_of (Sm.small (by omega) (by omega)) (Sm.small (by omega) (by omega)))
    have sq : 0 ≤ (lo : Int) * lo := Int.mul_nonneg (by omega) (by omega)
    obtain ⟨w, e1, hw⟩ := lgap_ok (st := []) (n / 5 + 7 * lo) (by omega)
    obtain ⟨v, e2, hv⟩ := lgap_ok (st := []) (n / 11 + (lo : Int) * lo) (by omega)
    have bn := bor_binds (.int n) (.int (lo : Int)) (.str w) acc (by omega)
    have q1 : eqOk (.str w) = true := rfl
    have q2 : eqOk (.lst ((acc.map (·.1)).map D.str)) = true := eqOk_lst _ (flat_strs _)
    have nn : inD (.str w) (.lst ((acc.map (·.1)).map D.str)) = some (decide (w ∈ acc.map (·.1))) := by
      show (if _ then _ else _) = _
      rw [if_pos ⟨q1, q2⟩, any_mem]
    have ll : (acc.map bD).length < 16777216 := by simp; omega
    have next : ∃ acc', L__law_binds_1 [.d (.int n), .own (.l (acc.map bD)), .d (.int (lo : Int)), x3, .no, .no] [] = .nx [.d (.int n), .own (.l (acc'.map bD)), .d (.int (lo : Int)), .d (.str w), .no, .no] [] ∧ acc'.length ≤ acc.length + 1 ∧ smallB acc' := by
      by_cases hm : w ∈ acc.map (·.1)
      · refine ⟨acc, ?_, by omega, hs⟩
        rw [decide_eq_true hm] at nn
        rw [L__law_binds_1]
        generalize borF 1 _ = bf at *
        generalize (acc.map (·.1)).map D.str = ys at *
        generalize acc.map bD = bl at *
        generalize D.str w = wd at *
        generalize (lo : Int) * lo = l2 at *
        generalize (lo : Int) = l1 at *
        generalize 7 * l1 = l7 at *
        clear hm
        simp (maxSteps := 30000) (disch := first | assumption | (simp; done) | omega | (simp; omega)) [mk1, e1, bn, nn]
      · refine ⟨acc ++ [(w, v)], ?_, by simp, fun b hb => ?_⟩
        · rw [decide_eq_false hm] at nn
          have eb : (acc ++ [(w, v)]).map bD = acc.map bD ++ [D.tup [.str w, .str v]] := by simp [bD]
          rw [eb, L__law_binds_1]
          generalize borF 1 _ = bf at *
          generalize (acc.map (·.1)).map D.str = ys at *
          generalize acc.map bD = bl at *
          generalize D.str w = wd at *
          generalize D.str v = vd at *
          generalize (lo : Int) * lo = l2 at *
          generalize (lo : Int) = l1 at *
          generalize 7 * l1 = l7 at *
          clear hm eb
          simp (maxSteps := 30000) (disch := first | assumption | (simp; done) | omega | (simp; omega)) [mk1, mk2, e1, e2, bn, nn, ll]
        · rcases List.mem_append.mp hb with hb | hb
          · exact hs b hb
          · rw [List.mem_singleton.mp hb]; exact ⟨hw, hv⟩
    obtain ⟨acc', hb, h1, h2⟩ := next
    obtain ⟨acc2, x2', x3', e3, h3, h4⟩ := binds_turns n h0 m (lo + 1) acc' (.d (.int (lo : Int))) (.d (.str w)) (by omega) (by omega) h2
    refine ⟨acc2, x2', x3', ?_, by omega, h4⟩
    rw [rng_c, forL_c, gV_a]
    simp only [List.set_cons_succ, List.set_cons_zero, hb]
    have : (lo : Int) + 1 = ((lo + 1 : Nat) : Int) := by omega
    rw [this]
    exact e3
theorem lbinds_ok (n : Int) (h : 0 ≤ n) {st : Store} : ∃ bs, c__law_binds [.int n] st = .ok (.lst (bs.map bD)) [] st ∧ bs.length ≤ 4 ∧ smallB bs := by
  obtain ⟨bs, x2', x3', e, h1, h2⟩ := binds_turns n h (n % 5).toNat 0 [] .no .no (by omega) (by simp; omega) (fun b hb => by cases hb)
  refine ⟨bs, ?_, by simp at h1; omega, h2⟩
  have hg1 : -1000000 ≤ n % 5 := by omega
  have hg2 : n % 5 ≤ 1000000 := by omega
  have hl : (bs.map bD).length ≤ 16777216 := by simp at h1 ⊢; omega
  unfold c__law_binds
  refine solo_ok (st1 := []) ?_ rfl (by rw [noL]; exact bs_noL bs)
  rw [runB_k, b__law_binds]
  have e0 : ((0 : Nat) : Int) = 0 := rfl
  rw [e0, List.map_nil] at e
  generalize bs.map bD = bl at *
  simp (maxSteps := 30000) (disch := first | assumption | (simp; done) | omega | (simp; omega)) [hg1, hg2, e, hl]
end M

namespace M
open PySem PySem.Spec PyProof.Rows L2 DL Pt
/-- a choice under way -/
structure Frm where
  h : H
  g : List Nat
  bs : List Arm
  n : List Nat
  o : List P
def Frm.d (f : Frm) : D := .tup [.str f.h.s, .str f.g, .lst (dAs f.bs), .str f.n, .lst (dPs f.o)]
def Frm.shut (f : Frm) (here : List P) : List P := f.o ++ [.cho f.h f.g (f.bs ++ [.mk f.n here])]
theorem shut_ok (fs : List Frm) (f : Frm) (here : List P) (h1 : f.o.length ≤ 1000) (h2 : f.bs.length ≤ 1000) : c__law_shut [.loc 0, .lst (dPs here)] [.o (.l ((fs ++ [f]).map Frm.d))] = .ok (.lst (dPs (f.shut here))) [] [.o (.l (fs.map Frm.d))] := by
  have e1 : (fs ++ [f]).map Frm.d = fs.map Frm.d ++ [.tup [.str f.h.s, .str f.g, .lst (dAs f.bs), .str f.n, .lst (dPs f.o)]] := by rw [List.map_append]; rfl
  have e2 : dPs (f.shut here) = dPs f.o ++ [.tup [.str f.h.s, .str f.g, .lst (dAs f.bs ++ [.tup [.str f.n, .lst (dPs here)]])]] := by
    unfold Frm.shut; rw [dPs_app]; simp only [dPs, P.d, dAs_app, dAs, Arm.d]
  have l1 : (dPs f.o).length ≤ 1000 := by rw [dPs_map]; simpa using h1
  have l2 : (dAs f.bs).length ≤ 1000 := by rw [dAs_map]; simpa using h2
  rw [e1, e2, c__law_shut, runB_k, b__law_shut]
  generalize fs.map Frm.d = fl at *
  generalize dPs f.o = od at *
  generalize dAs f.bs = bd at *
  generalize dPs here = hd at *
  generalize D.str f.h.s = s1 at *
  generalize D.str f.g = s2 at *
  generalize D.str f.n = s3 at *
  simp (maxSteps := 30000) (disch := first | assumption | (simp; done) | omega | (simp; omega)) []
end M

namespace M
open PySem PySem.Spec PyProof.Rows L2 DL Pt
noncomputable def C1 : Ev Bool := tA (tV (o2E dLt (oV (vE 7)) (oV (kE (.int 2))))) (tO (tV (o2E dEq (oV (vE 2)) (oV (fE (lF (aN)))))) (tV (o2E dNe (oV (o2E dIx (oV (o2E dIx (oV (vE 2)) (oV (o1E dNeg (oV (kE (.int 1))))))) (oV (kE (.int 0))))) (oV (kE (.str [116, 101, 120, 116]))))))
noncomputable def B1 : EvS := sSeq (sV 2 (o2E dAdd (oV (vE 2)) (oV (fE (lF (aC (oV (pE (aC (oV (kE (.str [116, 101, 120, 116]))) (aC (oV (cE c__law_plain (aC (oV (o2E dFdiv (oV (vE 8)) (oV (kE (.int 12))))) (aC (oV (o2E dAdd (oV (kE (.int 1))) (oV (o2E dMod (oV (vE 8)) (oV (kE (.int 12))))))) (aN))))) (aN))))) (aN))))))) (sV 3 (o2E dAdd (oV (vE 3)) (oV (kE (.int 12)))))
noncomputable def C2 : Ev Bool := tA (tV (o2E dEq (oV (vE 7)) (oV (kE (.int 2))))) (tV (o2E dLt (oV (oAE dLen (aC (oH (vE 1)) (aN)))) (oV (kE (.int 4)))))
noncomputable def B2 : EvS := sSeq (sV 9 (o2E dIx (oV (fE (lF (aC (oV (kE (.str [109, 97, 110, 121]))) (aC (oV (kE (.str [107, 105, 110, 100]))) (aC (oV (kE (.str [114, 97, 110, 107]))) (aN))))))) (oV (o2E dMod (oV (vE 8)) (oV (kE (.int 3))))))) (sSeq (sApL (oH (vE 1)) (oV (pE (aC (oV (vE 9)) (aC (oV (cE c__law_gap (aC (oV (o2E dFdiv (oV (vE 8)) (oV (kE (.int 3))))) (aN)))) (aC (oV (fE (lF (aN)))) (aC (oV (cE c__law_name (aC (oV (o2E dFdiv (oV (vE 8)) (oV (kE (.int 9))))) (aC (oV (vE 9)) (aN))))) (aC (oV (vE 2)) (aN))))))))) (sSeq (sV 2 (fE (lF (aN)))) (sV 3 (o2E dAdd (oV (vE 3)) (oV (kE (.int 75)))))))
noncomputable def C3 : Ev Bool := tA (tV (o2E dEq (oV (vE 7)) (oV (kE (.int 3))))) (tV (o2E dNe (oH (vE 1)) (oV (fE (lF (aN))))))
noncomputable def B3 : EvS := sSeq (sG (gT 5 (gC (gV 9) (gC (gV 10) (gC (gV 11) (gC (gV 12) (gC (gV 13) (gN))))))) (o2E dIx (oH (vE 1)) (oV (o1E dNeg (oV (kE (.int 1))))))) (sSeq (sV 14 (cE c__law_name (aC (oV (vE 8)) (aC (oV (vE 9)) (aN))))) (sI (tA (tV (o2E dLt (oV (oAE dLen (aC (oV (vE 11)) (aN)))) (oV (kE (.int 7))))) (tV (o2E dNotIn (oV (vE 14)) (oV (o2E dAdd (oV (fE (lcF (iE (vE 11)) (gT 2 (gC (gV 15) (gC (gV 16) (gN)))) [15, 16] (tY) (E__law_pattern_1)))) (oV (fE (lF (aC (oV (vE 12)) (aN)))))))))) (sSeq (sSetL (oH (vE 1)) (pE (aC (oV (vE 9)) (aC (oV (vE 10)) (aC (oV (o2E dAdd (oV (vE 11)) (oV (fE (lF (aC (oV (pE (aC (oV (vE 12)) (aC (oV (vE 2)) (aN))))) (aN))))))) (aC (oV (vE 14)) (aC (oV (vE 13)) (aN))))))) (o1E dNeg (oV (kE (.int 1))))) (sSeq (sV 2 (fE (lF (aN)))) (sV 3 (o2E dAdd (oV (vE 3)) (oV (kE (.int 64))))))) (sNil)))
noncomputable def C4 : Ev Bool := tA (tV (o2E dEq (oV (vE 7)) (oV (kE (.int 4))))) (tV (o2E dNe (oH (vE 1)) (oV (fE (lF (aN))))))
noncomputable def B4 : EvS := sV 2 (cE c__law_shut (aC (oV (vE 1)) (aC (oV (vE 2)) (aN))))
noncomputable def C5 : Ev Bool := tV (o2E dEq (oV (vE 7)) (oV (kE (.int 5))))
noncomputable def B5 : EvS := sSeq (sV 2 (o2E dAdd (oV (vE 2)) (oV (fE (lF (aC (oV (pE (aC (oV (kE (.str [115, 97, 121]))) (aC (oV (cE c__law_word (aC (oV (o2E dFdiv (oV (vE 8)) (oV (kE (.int 5))))) (aN)))) (aC (oV (cE c__law_binds (aC (oV (vE 8)) (aN)))) (aN)))))) (aN))))))) (sV 3 (o2E dAdd (oV (vE 3)) (oV (kE (.int 84)))))
noncomputable def B6 : EvS := sSeq (sV 2 (o2E dAdd (oV (vE 2)) (oV (fE (lF (aC (oV (pE (aC (oV (kE (.str [103, 97, 112]))) (aC (oV (cE c__law_gap (aC (oV (vE 8)) (aN)))) (aN))))) (aN))))))) (sV 3 (o2E dAdd (oV (vE 3)) (oV (kE (.int 10)))))
noncomputable def A1 : EvS := sV 6 (o2E dMod (oV (o2E dAdd (oV (o2E dMul (oV (vE 5)) (oV (kE (.int 48271))))) (oV (o2E dMul (oV (vE 4)) (oV (vE 4)))))) (oV (o2E dPow (oV (kE (.int 10))) (oV (kE (.int 60))))))
noncomputable def A2 : EvS := sV 7 (o2E dMod (oV (vE 6)) (oV (kE (.int 8))))
noncomputable def A3 : EvS := sV 8 (o2E dFdiv (oV (vE 6)) (oV (kE (.int 8))))
noncomputable def A4 : EvS := sI (tV (o2E dGt (oV (vE 3)) (oV (kE (.int 860))))) (sBk) (sNil)
theorem body_eq : L__law_pattern_1 = sSeq A1 (sSeq A2 (sSeq A3 (sSeq A4 (sI C1 B1 (sI C2 B2 (sI C3 B3 (sI C4 B4 (sI C5 B5 B6)))))))) := rfl
theorem at_last {α : Type} (xs : List α) (x : α) : atI (xs ++ [x]) (-1) = some x := by
  exact L2.atI_last xs x
variable {cd : D} {here : List P} {sp k z n w r : Int} {x9 x10 x11 x12 x13 x14 : Sl} {fs : List Frm}
theorem last_tag (p : P) : ∃ t, dIx p.d (.int 0) = some (.str t) := by
  cases p with
  | txt s => exact ⟨_, rfl⟩
  | gap s => exact ⟨_, rfl⟩
  | say a b => exact ⟨_, rfl⟩
  | cho h g as => exact ⟨_, rfl⟩
theorem C1_ok (hl : lvPs here ≤ 10) : ∃ b, C1 [.d cd, .d (.loc 0), .d (.lst (dPs here)), .d (.int sp), .d (.int k), .d (.int z), .d (.int n), .d (.int w), .d (.int r), x9, x10, x11, x12, x13, x14, .no, .no] [.o (.l ((fs).map Frm.d))] = .ok b [.d cd, .d (.loc 0), .d (.lst (dPs here)), .d (.int sp), .d (.int k), .d (.int z), .d (.int n), .d (.int w), .d (.int r), x9, x10, x11, x12, x13, x14, .no, .no] [.o (.l ((fs).map Frm.d))] := by
  have q1 : eqOk (.lst (dPs here)) = true := ps_eqOk hl
  have q2 : eqOk (.lst []) = true := rfl
  generalize fs.map Frm.d = fl at *
  by_cases c : w < 2
  · rcases List.eq_nil_or_concat here with rfl | ⟨h0, p, rfl⟩
    · have ed : deq (.lst []) (.lst []) = true := by rw [deq_lst]; simp
      refine ⟨true, ?_⟩
      rw [C1]
      simp only [dPs] at q1 ⊢
      simp (maxSteps := 30000) (disch := first | assumption | (simp; done) | omega | (simp; omega)) [c, q2, ed]
    · rw [List.concat_eq_append] at *
      have ed : deq (.lst (dPs (h0 ++ [p]))) (.lst []) = false := by rw [deq_lst, dPs_app]; cases dPs h0 <;> simp [dPs]
      have ea : atI (dPs (h0 ++ [p])) (-1) = some p.d := by rw [dPs_app]; exact at_last _ _
      obtain ⟨t, e0⟩ := last_tag p
      have q3 : eqOk (.str t) = true := rfl
      have q4 : eqOk (.str TXT) = true := rfl
      refine ⟨!deq (.str t) (.str TXT), ?_⟩
      rw [C1]
      generalize dPs (h0 ++ [p]) = hd at *
      generalize p.d = pd at *
      generalize hb : deq (.str t) (.str TXT) = b at *
      generalize D.str t = td at *
      generalize D.str TXT = xd at *
      simp (maxSteps := 30000) (disch := first | assumption | (simp; done) | omega | (simp; omega)) [c, q1, q2, q3, q4, ed, ea, e0, hb]
  · refine ⟨false, ?_⟩
    rw [C1]
    generalize dPs here = hd at *
    simp (maxSteps := 30000) (disch := first | assumption | (simp; done) | omega | (simp; omega)) [c]
theorem C2_ok : ∃ b, C2 [.d cd, .d (.loc 0), .d (.lst (dPs here)), .d (.int sp), .d (.int k), .d (.int z), .d (.int n), .d (.int w), .d (.int r), x9, x10, x11, x12, x13, x14, .no, .no] [.o (.l ((fs).map Frm.d))] = .ok b [.d cd, .d (.loc 0), .d (.lst (dPs here)), .d (.int sp), .d (.int k), .d (.int z), .d (.int n), .d (.int w), .d (.int r), x9, x10, x11, x12, x13, x14, .no, .no] [.o (.l ((fs).map Frm.d))] ∧ (b = true → fs.length < 4) := by
  have e1 : deq (.int w) (.int 2) = decide (w = 2) := deq_int _ _
  have q1 : ∀ j, eqOk (.int j) = true := fun _ => rfl
  have l1 : dLen [.lst (fs.map Frm.d)] = some (.int fs.length) := by simp [dLen]
  by_cases c : w = 2
  · rw [decide_eq_true c] at e1
    by_cases c2 : fs.length < 4
    · have c3 : (fs.length : Int) < 4 := by omega
      refine ⟨true, ?_, fun _ => c2⟩
      rw [C2]
      generalize fs.map Frm.d = fl at *
      generalize dPs here = hd at *
      generalize (fs.length : Int) = nl at *
      clear c2
      simp (maxSteps := 30000) (disch := first | assumption | (simp; done) | omega | (simp; omega)) [e1, q1, l1, c3]
    · have c3 : ¬ (fs.length : Int) < 4 := by omega
      refine ⟨false, ?_, fun h => by cases h⟩
      rw [C2]
      generalize fs.map Frm.d = fl at *
      generalize dPs here = hd at *
      generalize (fs.length : Int) = nl at *
      clear c2
      simp (maxSteps := 30000) (disch := first | assumption | (simp; done) | omega | (simp; omega)) [e1, q1, l1, c3]
  · rw [decide_eq_false c] at e1
    refine ⟨false, ?_, fun h => by cases h⟩
    rw [C2]
    generalize fs.map Frm.d = fl at *
    generalize dPs here = hd at *
    simp (maxSteps := 30000) (disch := first | assumption | (simp; done) | omega | (simp; omega)) [e1, q1]
theorem fd_dep (f : Frm) : depD f.d ≤ 4 * max (lvAs f.bs) (lvPs f.o) + 9 ∧ pureD f.d = true := by
  have a := as_dep f.bs
  have b := ps_dep f.o
  unfold Frm.d
  simp [depD, depDs, pureD, pureDs, a.2, b.2]
  omega
theorem fs_dep : ∀ fs : List Frm, (∀ f ∈ fs, lvAs f.bs ≤ 4 ∧ lvPs f.o ≤ 4) → depDs (fs.map Frm.d) ≤ 30 ∧ pureDs (fs.map Frm.d) = true
  | [], _ => ⟨by simp [depDs], rfl⟩
  | f :: fs, h => by
    obtain ⟨a, b⟩ := fs_dep fs fun g hg => h g (List.mem_cons_of_mem _ hg)
    obtain ⟨c, d⟩ := fd_dep f
    obtain ⟨e, g⟩ := h f (List.mem_cons_self ..)
    rw [List.map_cons]
    refine ⟨?_, by rw [pureDs, d, b]; rfl⟩
    simp [depDs]; omega
end M

namespace M
open PySem PySem.Spec PyProof.Rows L2 DL Pt
variable {cd : D} {here : List P} {sp k z n w r : Int} {x9 x10 x11 x12 x13 x14 : Sl} {fs : List Frm}
theorem fs_eqOk (h : ∀ f ∈ fs, lvAs f.bs ≤ 4 ∧ lvPs f.o ≤ 4) : eqOk (.lst (fs.map Frm.d)) = true := by
  have := fs_dep fs h
  unfold eqOk
  rw [Bool.and_eq_true]
  exact ⟨this.2, decide_eq_true (by show depDs _ + 1 ≤ 60; omega)⟩
theorem fs_deq : deq (.lst (fs.map Frm.d)) (.lst []) = fs.isEmpty := by
  cases fs with
  | nil => rw [List.map_nil, deq_lst]; simp
  | cons f r => rw [List.map_cons, deq_lst]; simp
theorem C3_ok (h : ∀ f ∈ fs, lvAs f.bs ≤ 4 ∧ lvPs f.o ≤ 4) : ∃ b, C3 [.d cd, .d (.loc 0), .d (.lst (dPs here)), .d (.int sp), .d (.int k), .d (.int z), .d (.int n), .d (.int w), .d (.int r), x9, x10, x11, x12, x13, x14, .no, .no] [.o (.l ((fs).map Frm.d))] = .ok b [.d cd, .d (.loc 0), .d (.lst (dPs here)), .d (.int sp), .d (.int k), .d (.int z), .d (.int n), .d (.int w), .d (.int r), x9, x10, x11, x12, x13, x14, .no, .no] [.o (.l ((fs).map Frm.d))] ∧ (b = true → fs ≠ []) := by
  have e1 : deq (.int w) (.int 3) = decide (w = 3) := deq_int _ _
  have q1 : ∀ j, eqOk (.int j) = true := fun _ => rfl
  have q2 := fs_eqOk h
  have q3 : eqOk (.lst []) = true := rfl
  have e2 := fs_deq (fs := fs)
  by_cases c : w = 3
  · rw [decide_eq_true c] at e1
    refine ⟨!fs.isEmpty, ?_, fun h => by cases fs <;> simp_all⟩
    rw [C3]
    generalize fs.isEmpty = em at *
    generalize fs.map Frm.d = fl at *
    generalize dPs here = hd at *
    simp (maxSteps := 30000) (disch := first | assumption | (simp; done) | omega | (simp; omega)) [e1, q1, q2, q3, e2]
  · rw [decide_eq_false c] at e1
    refine ⟨false, ?_, fun h => by cases h⟩
    rw [C3]
    generalize fs.map Frm.d = fl at *
    generalize dPs here = hd at *
    simp (maxSteps := 30000) (disch := first | assumption | (simp; done) | omega | (simp; omega)) [e1, q1]
theorem C4_ok (h : ∀ f ∈ fs, lvAs f.bs ≤ 4 ∧ lvPs f.o ≤ 4) : ∃ b, C4 [.d cd, .d (.loc 0), .d (.lst (dPs here)), .d (.int sp), .d (.int k), .d (.int z), .d (.int n), .d (.int w), .d (.int r), x9, x10, x11, x12, x13, x14, .no, .no] [.o (.l ((fs).map Frm.d))] = .ok b [.d cd, .d (.loc 0), .d (.lst (dPs here)), .d (.int sp), .d (.int k), .d (.int z), .d (.int n), .d (.int w), .d (.int r), x9, x10, x11, x12, x13, x14, .no, .no] [.o (.l ((fs).map Frm.d))] ∧ (b = true → fs ≠ []) := by
  have e1 : deq (.int w) (.int 4) = decide (w = 4) := deq_int _ _
  have q1 : ∀ j, eqOk (.int j) = true := fun _ => rfl
  have q2 := fs_eqOk h
  have q3 : eqOk (.lst []) = true := rfl
  have e2 := fs_deq (fs := fs)
  by_cases c : w = 4
  · rw [decide_eq_true c] at e1
    refine ⟨!fs.isEmpty, ?_, fun h => by cases fs <;> simp_all⟩
    rw [C4]
    generalize fs.isEmpty = em at *
    generalize fs.map Frm.d = fl at *
    generalize dPs here = hd at *
    simp (maxSteps := 30000) (disch := first | assumption | (simp; done) | omega | (simp; omega)) [e1, q1, q2, q3, e2]
  · rw [decide_eq_false c] at e1
    refine ⟨false, ?_, fun h => by cases h⟩
    rw [C4]
    generalize fs.map Frm.d = fl at *
    generalize dPs here = hd at *
    simp (maxSteps := 30000) (disch := first | assumption | (simp; done) | omega | (simp; omega)) [e1, q1]
theorem C5_ok : ∃ b, C5 [.d cd, .d (.loc 0), .d (.lst (dPs here)), .d (.int sp), .d (.int k), .d (.int z), .d (.int n), .d (.int w), .d (.int r), x9, x10, x11, x12, x13, x14, .no, .no] [.o (.l ((fs).map Frm.d))] = .ok b [.d cd, .d (.loc 0), .d (.lst (dPs here)), .d (.int sp), .d (.int k), .d (.int z), .d (.int n), .d (.int w), .d (.int r), x9, x10, x11, x12, x13, x14, .no, .no] [.o (.l ((fs).map Frm.d))] := by
  have e1 : deq (.int w) (.int 5) = decide (w = 5) := deq_int _ _
  have q1 : ∀ j, eqOk (.int j) = true := fun _ => rfl
  refine ⟨decide (w = 5), ?_⟩
  rw [C5]
  generalize decide (w = 5) = b at *
  generalize fs.map Frm.d = fl at *
  generalize dPs here = hd at *
  simp (maxSteps := 30000) (disch := first | assumption | (simp; done) | omega | (simp; omega)) [e1, q1]
theorem B1_ok (h0 : 0 ≤ r) (hr : r < 10 ^ 60) (hl : here.length ≤ 1000) : ∃ s, B1 [.d cd, .d (.loc 0), .d (.lst (dPs here)), .d (.int sp), .d (.int k), .d (.int z), .d (.int n), .d (.int w), .d (.int r), x9, x10, x11, x12, x13, x14, .no, .no] [.o (.l ((fs).map Frm.d))] = .nx [.d cd, .d (.loc 0), .d (.lst (dPs (here ++ [.txt s]))), .d (.int (sp + 12)), .d (.int k), .d (.int z), .d (.int n), .d (.int w), .d (.int r), x9, x10, x11, x12, x13, x14, .no, .no] [.o (.l ((fs).map Frm.d))] ∧ s.length ≤ 12 := by
  have z : (r / 12).natAbs.log2 < 1048576 := by
    have : (r / 12).natAbs < 2 ^ 200 := Nat.lt_of_le_of_lt (show (r / 12).natAbs ≤ 10 ^ 60 by omega) (by decide)
    by_cases q : (r / 12).natAbs = 0
    · rw [q]; decide
    · exact Nat.lt_trans ((Nat.log2_lt q).mpr this) (by decide)
  obtain ⟨s, e, hs⟩ := lplain_ok (st := [.o (.l ((fs).map Frm.d))]) (r / 12) (by omega) z (1 + r % 12) (by omega) (by omega)
  refine ⟨s, ?_, hs⟩
  have l1 : (dPs here).length ≤ 1000 := by rw [dPs_map]; simpa using hl
  have e2 : dPs (here ++ [.txt s]) = dPs here ++ [.tup [.str TXT, .str s]] := by rw [dPs_app]; rfl
  rw [B1, e2]
  generalize fs.map Frm.d = fl at *
  generalize dPs here = hd at *
  generalize D.str s = sd at *
  generalize D.str TXT = td at *
  clear z
  simp (maxSteps := 30000) (disch := first | assumption | (simp; done) | omega | (simp; omega)) [e]
theorem hows_ix (h0 : 0 ≤ r) : ∃ h : H, dIx (.lst [.str [109, 97, 110, 121], .str [107, 105, 110, 100], .str [114, 97, 110, 107]]) (.int (r % 3)) = some (.str h.s) := by
  have : r % 3 = 0 ∨ r % 3 = 1 ∨ r % 3 = 2 := by omega
  rcases this with e | e | e <;> rw [e]
  · exact ⟨.many, rfl⟩
  · exact ⟨.kind, rfl⟩
  · exact ⟨.rank, rfl⟩
theorem B2_ok (h0 : 0 ≤ r) (hf : fs.length ≤ 4) : ∃ (h : H) (g nm : List Nat), B2 [.d cd, .d (.loc 0), .d (.lst (dPs here)), .d (.int sp), .d (.int k), .d (.int z), .d (.int n), .d (.int w), .d (.int r), x9, x10, x11, x12, x13, x14, .no, .no] [.o (.l ((fs).map Frm.d))] = .nx [.d cd, .d (.loc 0), .d (.lst (dPs [])), .d (.int (sp + 75)), .d (.int k), .d (.int z), .d (.int n), .d (.int w), .d (.int r), (.d (.str h.s)), x10, x11, x12, x13, x14, .no, .no] [.o (.l ((fs ++ [(⟨h, g, [], nm, here⟩ : Frm)]).map Frm.d))] ∧ g.length ≤ 8 ∧ nm.length ≤ 60 := by
  obtain ⟨h, ix⟩ := hows_ix h0
  obtain ⟨g, e1, hg⟩ := lgap_ok (st := [.o (.l ((fs).map Frm.d))]) (r / 3) (by omega)
  obtain ⟨nm, e2, hn⟩ := lname_ok (st := [.o (.l ((fs).map Frm.d))]) (r / 9) (by omega) h
  refine ⟨h, g, nm, ?_, hg, hn⟩
  have e3 : (fs ++ [⟨h, g, [], nm, here⟩] : List Frm).map Frm.d = fs.map Frm.d ++ [.tup [.str h.s, .str g, .lst [], .str nm, .lst (dPs here)]] := by rw [List.map_append]; rfl
  have l1 : (fs.map Frm.d).length < 16777216 := by simp; omega
  rw [B2, e3]
  simp only [dPs]
  generalize fs.map Frm.d = fl at *
  generalize dPs here = hd at *
  generalize D.str h.s = s1 at *
  generalize D.str g = s2 at *
  generalize D.str nm = s3 at *
  generalize D.str [109, 97, 110, 121] = k1 at *
  generalize D.str [107, 105, 110, 100] = k2 at *
  generalize D.str [114, 97, 110, 107] = k3 at *
  simp (maxSteps := 30000) (disch := first | assumption | (simp; done) | omega | (simp; omega)) [ix, e1, e2, l1]
theorem B4_ok (f : Frm) (h1 : f.o.length ≤ 1000) (h2 : f.bs.length ≤ 1000) : B4 [.d cd, .d (.loc 0), .d (.lst (dPs here)), .d (.int sp), .d (.int k), .d (.int z), .d (.int n), .d (.int w), .d (.int r), x9, x10, x11, x12, x13, x14, .no, .no] [.o (.l ((fs ++ [f]).map Frm.d))] = .nx [.d cd, .d (.loc 0), .d (.lst (dPs (f.shut here))), .d (.int sp), .d (.int k), .d (.int z), .d (.int n), .d (.int w), .d (.int r), x9, x10, x11, x12, x13, x14, .no, .no] [.o (.l ((fs).map Frm.d))] := by
  have e := shut_ok fs f here h1 h2
  rw [B4]
  generalize (fs ++ [f]).map Frm.d = fl at *
  generalize fs.map Frm.d = gl at *
  generalize dPs (f.shut here) = rd at *
  generalize dPs here = hd at *
  simp (maxSteps := 30000) (disch := first | assumption | (simp; done) | omega | (simp; omega)) [e]
theorem B5_ok (h0 : 0 ≤ r) (hl : here.length ≤ 1000) : ∃ wd bs, B5 [.d cd, .d (.loc 0), .d (.lst (dPs here)), .d (.int sp), .d (.int k), .d (.int z), .d (.int n), .d (.int w), .d (.int r), x9, x10, x11, x12, x13, x14, .no, .no] [.o (.l ((fs).map Frm.d))] = .nx [.d cd, .d (.loc 0), .d (.lst (dPs (here ++ [.say wd bs]))), .d (.int (sp + 84)), .d (.int k), .d (.int z), .d (.int n), .d (.int w), .d (.int r), x9, x10, x11, x12, x13, x14, .no, .no] [.o (.l ((fs).map Frm.d))] ∧ wd.length ≤ 8 ∧ bs.length ≤ 4 ∧ smallB bs := by
  obtain ⟨wd, e1, hw⟩ := lword_ok (st := [.o (.l ((fs).map Frm.d))]) (r / 5) (by omega)
  obtain ⟨bs, e2, hb, hs⟩ := lbinds_ok r h0 (st := [.o (.l ((fs).map Frm.d))])
  refine ⟨wd, bs, ?_, hw, hb, hs⟩
  have l1 : (dPs here).length ≤ 1000 := by rw [dPs_map]; simpa using hl
  have e3 : dPs (here ++ [.say wd bs]) = dPs here ++ [.tup [.str SAY, .str wd, .lst (bs.map bD)]] := by rw [dPs_app]; rfl
  rw [B5, e3]
  generalize fs.map Frm.d = fl at *
  generalize dPs here = hd at *
  generalize D.str wd = s1 at *
  generalize bs.map bD = bl at *
  generalize D.str SAY = td at *
  simp (maxSteps := 30000) (disch := first | assumption | (simp; done) | omega | (simp; omega)) [e1, e2]
theorem B6_ok (h0 : 0 ≤ r) (hl : here.length ≤ 1000) : ∃ wd, B6 [.d cd, .d (.loc 0), .d (.lst (dPs here)), .d (.int sp), .d (.int k), .d (.int z), .d (.int n), .d (.int w), .d (.int r), x9, x10, x11, x12, x13, x14, .no, .no] [.o (.l ((fs).map Frm.d))] = .nx [.d cd, .d (.loc 0), .d (.lst (dPs (here ++ [.gap wd]))), .d (.int (sp + 10)), .d (.int k), .d (.int z), .d (.int n), .d (.int w), .d (.int r), x9, x10, x11, x12, x13, x14, .no, .no] [.o (.l ((fs).map Frm.d))] ∧ wd.length ≤ 8 := by
  obtain ⟨wd, e1, hw⟩ := lgap_ok (st := [.o (.l ((fs).map Frm.d))]) r h0
  refine ⟨wd, ?_, hw⟩
  have l1 : (dPs here).length ≤ 1000 := by rw [dPs_map]; simpa using hl
  have e3 : dPs (here ++ [.gap wd]) = dPs here ++ [.tup [.str GAP, .str wd]] := by rw [dPs_app]; rfl
  rw [B6, e3]
  generalize fs.map Frm.d = fl at *
  generalize dPs here = hd at *
  generalize D.str wd = s1 at *
  generalize D.str GAP = td at *
  simp (maxSteps := 30000) (disch := first | assumption | (simp; done) | omega | (simp; omega)) [e1]
end M

namespace M
open PySem PySem.Spec PyProof.Rows L2 DL Pt
noncomputable def G1 : EvS := sG (gT 5 (gC (gV 9) (gC (gV 10) (gC (gV 11) (gC (gV 12) (gC (gV 13) (gN))))))) (o2E dIx (oH (vE 1)) (oV (o1E dNeg (oV (kE (.int 1))))))
noncomputable def V1 : EvS := sV 14 (cE c__law_name (aC (oV (vE 8)) (aC (oV (vE 9)) (aN))))
noncomputable def Y3 : Ev D := o2E dAdd (oV (fE (lcF (iE (vE 11)) (gT 2 (gC (gV 15) (gC (gV 16) (gN)))) [15, 16] (tY) (E__law_pattern_1)))) (oV (fE (lF (aC (oV (vE 12)) (aN)))))
noncomputable def CC : Ev Bool := tA (tV (o2E dLt (oV (oAE dLen (aC (oV (vE 11)) (aN)))) (oV (kE (.int 7))))) (tV (o2E dNotIn (oV (vE 14)) (oV Y3)))
noncomputable def T1 : EvS := sSetL (oH (vE 1)) (pE (aC (oV (vE 9)) (aC (oV (vE 10)) (aC (oV (o2E dAdd (oV (vE 11)) (oV (fE (lF (aC (oV (pE (aC (oV (vE 12)) (aC (oV (vE 2)) (aN))))) (aN))))))) (aC (oV (vE 14)) (aC (oV (vE 13)) (aN))))))) (o1E dNeg (oV (kE (.int 1))))
noncomputable def T2 : EvS := sV 2 (fE (lF (aN)))
noncomputable def T3 : EvS := sV 3 (o2E dAdd (oV (vE 3)) (oV (kE (.int 64))))
theorem B3_eq : B3 = sSeq G1 (sSeq V1 (sI CC (sSeq T1 (sSeq T2 T3)) (sNil))) := rfl
variable {cd : D} {here : List P} {sp k z n w r : Int} {x9 x10 x11 x12 x13 x14 : Sl} {fl : List D} {st : Store} {s1 s2 s3 s4 : D} {bd od hd : List D}
theorem G1_ok : G1 [.d cd, .d (.loc 0), .d (.lst hd), .d (.int sp), .d (.int k), .d (.int z), .d (.int n), .d (.int w), .d (.int r), x9, x10, x11, x12, x13, x14, .no, .no] [.o (.l (fl ++ [.tup [s1, s2, .lst bd, s3, .lst od]]))] = .nx [.d cd, .d (.loc 0), .d (.lst hd), .d (.int sp), .d (.int k), .d (.int z), .d (.int n), .d (.int w), .d (.int r), (.d s1), (.d s2), (.d (.lst bd)), (.d s3), (.d (.lst od)), x14, .no, .no] [.o (.l (fl ++ [.tup [s1, s2, .lst bd, s3, .lst od]]))] := by
  have ea : atI (fl ++ [.tup [s1, s2, .lst bd, s3, .lst od]]) (-1) = some (.tup [s1, s2, .lst bd, s3, .lst od]) := at_last _ _
  rw [G1]
  simp (maxSteps := 30000) (disch := first | assumption | (simp; done) | omega | (simp; omega)) [ea]
theorem V1_ok (e : c__law_name [.int r, s1] st = .ok s4 [] st) : V1 [.d cd, .d (.loc 0), .d (.lst hd), .d (.int sp), .d (.int k), .d (.int z), .d (.int n), .d (.int w), .d (.int r), (.d s1), x10, x11, x12, x13, x14, .no, .no] st = .nx [.d cd, .d (.loc 0), .d (.lst hd), .d (.int sp), .d (.int k), .d (.int z), .d (.int n), .d (.int w), .d (.int r), (.d s1), x10, x11, x12, x13, (.d s4), .no, .no] st := by
  rw [V1]; simp (maxSteps := 30000) (disch := first | assumption | (simp; done) | omega | (simp; omega)) [e]
theorem Y3_ok (as : List Arm) (hb : as.length ≤ 7) : Y3 [.d cd, .d (.loc 0), .d (.lst hd), .d (.int sp), .d (.int k), .d (.int z), .d (.int n), .d (.int w), .d (.int r), (.d s1), (.d s2), (.d (.lst (dAs as))), (.d s3), (.d (.lst od)), (.d s4), .no, .no] st = .ok (.lst ((as.map Arm.n).map D.str ++ [s3])) [.d cd, .d (.loc 0), .d (.lst hd), .d (.int sp), .d (.int k), .d (.int z), .d (.int n), .d (.int w), .d (.int r), (.d s1), (.d s2), (.d (.lst (dAs as))), (.d s3), (.d (.lst od)), (.d s4), .no, .no] st := by
  have key := lcL_list (g := gT 2 (gC (gV 15) (gC (gV 16) (gN)))) (own := [15, 16]) (f := E__law_pattern_1) (S := [.d cd, .d (.loc 0), .d (.lst hd), .d (.int sp), .d (.int k), .d (.int z), .d (.int n), .d (.int w), .d (.int r), (.d s1), (.d s2), (.d (.lst (dAs as))), (.d s3), (.d (.lst od)), (.d s4), .no, .no]) (st := st) Arm.d (fun a => D.str a.n) as (fun a _ => by
    refine ⟨[.d cd, .d (.loc 0), .d (.lst hd), .d (.int sp), .d (.int k), .d (.int z), .d (.int n), .d (.int w), .d (.int r), .d s1, .d s2, .d (.lst (dAs as)), .d s3, .d (.lst od), .d s4, .d (.str a.n), .d (.lst (dPs a.i))],
      [.d cd, .d (.loc 0), .d (.lst hd), .d (.int sp), .d (.int k), .d (.int z), .d (.int n), .d (.int w), .d (.int r), .d s1, .d s2, .d (.lst (dAs as)), .d s3, .d (.lst od), .d s4, .d (.str a.n), .d (.lst (dPs a.i))], by cases a; rfl, by rw [E__law_pattern_1]; rfl, rfl⟩)
  rw [← dAs_map] at key
  have ek : as.map (fun a => D.str a.n) = (as.map Arm.n).map D.str := by rw [List.map_map]; rfl
  rw [ek] at key
  have hi : itD (.lst (dAs as)) = some (dAs as) := rfl
  have l2 : ((as.map Arm.n).map D.str).length ≤ 16777216 := by simp; omega
  have ad : dAdd (.lst ((as.map Arm.n).map D.str)) (.lst [s3]) = some (.lst ((as.map Arm.n).map D.str ++ [s3])) := dAdd_l _ _ (by simp; omega)
  rw [Y3]
  clear ek
  generalize (as.map Arm.n).map D.str = ys at *
  generalize dAs as = al at *
  simp (maxSteps := 30000) (disch := first | assumption | (simp; done) | omega | (simp; omega)) [hi, key, l2, ad]
theorem CC_ok (as : List Arm) (hb : as.length ≤ 7) (a b : List Nat) : ∃ c, CC [.d cd, .d (.loc 0), .d (.lst hd), .d (.int sp), .d (.int k), .d (.int z), .d (.int n), .d (.int w), .d (.int r), (.d s1), (.d s2), (.d (.lst (dAs as))), (.d (.str a)), (.d (.lst od)), (.d (.str b)), .no, .no] st = .ok c [.d cd, .d (.loc 0), .d (.lst hd), .d (.int sp), .d (.int k), .d (.int z), .d (.int n), .d (.int w), .d (.int r), (.d s1), (.d s2), (.d (.lst (dAs as))), (.d (.str a)), (.d (.lst od)), (.d (.str b)), .no, .no] st ∧ (c = true → as.length < 7) := by
  have y := Y3_ok (cd := cd) (hd := hd) (sp := sp) (k := k) (z := z) (n := n) (w := w) (r := r) (st := st) (s1 := s1) (s2 := s2) (s3 := .str a) (od := od) (s4 := .str b) as hb
  have l0 : dLen [.lst (dAs as)] = some (.int as.length) := by rw [dAs_map]; simp [dLen]
  have es : (as.map Arm.n).map D.str ++ [.str a] = (as.map Arm.n ++ [a]).map D.str := by simp
  have nn : inD (.str b) (.lst ((as.map Arm.n).map D.str ++ [.str a])) = some (decide (b ∈ as.map Arm.n ++ [a])) := by
    rw [es]
    show (if _ then _ else _) = _
    rw [if_pos ⟨rfl, eqOk_lst _ (flat_strs _)⟩, any_mem]
  generalize decide (b ∈ as.map Arm.n ++ [a]) = v at nn
  by_cases c1 : as.length < 7
  · have c1' : (as.length : Int) < 7 := by omega
    refine ⟨!v, ?_, fun _ => c1⟩
    rw [CC]
    generalize Y3 = Y at *
    generalize (as.map Arm.n).map D.str ++ [.str a] = ys at *
    generalize dAs as = al at *
    generalize D.str a = ad at *
    generalize D.str b = bd at *
    generalize (as.length : Int) = nl at *
    clear es c1 hb
    simp (maxSteps := 30000) (disch := first | assumption | (simp; done) | omega | (simp; omega)) [y, l0, c1', nn]
  · have c1' : ¬ (as.length : Int) < 7 := by omega
    refine ⟨false, ?_, fun h => by cases h⟩
    rw [CC]
    generalize Y3 = Y at *
    generalize (as.map Arm.n).map D.str ++ [.str a] = ys at *
    generalize dAs as = al at *
    generalize D.str a = ad at *
    generalize D.str b = bd at *
    generalize (as.length : Int) = nl at *
    clear es c1 hb nn y
    simp (maxSteps := 30000) (disch := first | assumption | (simp; done) | omega | (simp; omega)) [l0, c1']
theorem T1_ok (l1 : bd.length ≤ 1000) : T1 [.d cd, .d (.loc 0), .d (.lst hd), .d (.int sp), .d (.int k), .d (.int z), .d (.int n), .d (.int w), .d (.int r), (.d s1), (.d s2), (.d (.lst bd)), (.d s3), (.d (.lst od)), (.d s4), .no, .no] [.o (.l (fl ++ [.tup [s1, s2, .lst bd, s3, .lst od]]))] = .nx [.d cd, .d (.loc 0), .d (.lst hd), .d (.int sp), .d (.int k), .d (.int z), .d (.int n), .d (.int w), .d (.int r), (.d s1), (.d s2), (.d (.lst bd)), (.d s3), (.d (.lst od)), (.d s4), .no, .no] [.o (.l (fl ++ [.tup [s1, s2, .lst (bd ++ [.tup [s3, .lst hd]]), s4, .lst od]]))] := by
  have ix : ixN (fl.length + 1) (-1) = some fl.length := by
    unfold ixN
    rw [if_neg (by omega), if_pos (by omega)]; congr 1; omega
  have e : ∀ x y : D, (fl ++ [x]).set fl.length y = fl ++ [y] := fun x y => by
    rw [List.set_append_right _ _ (Nat.le_refl _), Nat.sub_self]; rfl
  rw [T1]
  simp (maxSteps := 30000) (disch := first | assumption | (simp; done) | omega | (simp; omega)) [ix, e]
theorem B3_ok (f : Frm) (fs : List Frm) (h0 : 0 ≤ r) (hb : f.bs.length ≤ 7) : ∃ (nm : List Nat), nm.length ≤ 60 ∧
    (B3 [.d cd, .d (.loc 0), .d (.lst (dPs here)), .d (.int sp), .d (.int k), .d (.int z), .d (.int n), .d (.int w), .d (.int r), x9, x10, x11, x12, x13, x14, .no, .no] [.o (.l ((fs ++ [f]).map Frm.d))] = .nx [.d cd, .d (.loc 0), .d (.lst (dPs here)), .d (.int sp), .d (.int k), .d (.int z), .d (.int n), .d (.int w), .d (.int r), (.d (.str f.h.s)), (.d (.str f.g)), (.d (.lst (dAs f.bs))), (.d (.str f.n)), (.d (.lst (dPs f.o))), (.d (.str nm)), .no, .no] [.o (.l ((fs ++ [f]).map Frm.d))] ∨
     f.bs.length < 7 ∧ B3 [.d cd, .d (.loc 0), .d (.lst (dPs here)), .d (.int sp), .d (.int k), .d (.int z), .d (.int n), .d (.int w), .d (.int r), x9, x10, x11, x12, x13, x14, .no, .no] [.o (.l ((fs ++ [f]).map Frm.d))] = .nx [.d cd, .d (.loc 0), .d (.lst (dPs [])), .d (.int (sp + 64)), .d (.int k), .d (.int z), .d (.int n), .d (.int w), .d (.int r), (.d (.str f.h.s)), (.d (.str f.g)), (.d (.lst (dAs f.bs))), (.d (.str f.n)), (.d (.lst (dPs f.o))), (.d (.str nm)), .no, .no] [.o (.l ((fs ++ [(⟨f.h, f.g, f.bs ++ [.mk f.n here], nm, f.o⟩ : Frm)]).map Frm.d))]) := by
  obtain ⟨nm, e1, hn⟩ := lname_ok (st := [.o (.l ((fs ++ [f]).map Frm.d))]) r h0 f.h
  refine ⟨nm, hn, ?_⟩
  have m1 : (fs ++ [f]).map Frm.d = fs.map Frm.d ++ [.tup [.str f.h.s, .str f.g, .lst (dAs f.bs), .str f.n, .lst (dPs f.o)]] := by rw [List.map_append]; rfl
  have m2 : (fs ++ [(⟨f.h, f.g, f.bs ++ [.mk f.n here], nm, f.o⟩ : Frm)]).map Frm.d = fs.map Frm.d ++ [.tup [.str f.h.s, .str f.g, .lst (dAs f.bs ++ [.tup [.str f.n, .lst (dPs here)]]), .str nm, .lst (dPs f.o)]] := by
    rw [List.map_append]; simp [Frm.d, dAs_app, dAs, Arm.d]
  have l1 : (dAs f.bs).length ≤ 1000 := by rw [dAs_map]; simp; omega
  rw [m1] at e1
  rw [m1, m2]
  have g := G1_ok (cd := cd) (hd := dPs here) (sp := sp) (k := k) (z := z) (n := n) (w := w) (r := r) (x9 := x9) (x10 := x10) (x11 := x11) (x12 := x12) (x13 := x13) (x14 := x14) (fl := fs.map Frm.d) (s1 := .str f.h.s) (s2 := .str f.g) (s3 := .str f.n) (bd := dAs f.bs) (od := dPs f.o)
  have v := V1_ok (cd := cd) (hd := dPs here) (sp := sp) (k := k) (z := z) (n := n) (w := w) (x10 := .d (.str f.g)) (x11 := .d (.lst (dAs f.bs))) (x12 := .d (.str f.n)) (x13 := .d (.lst (dPs f.o))) (x14 := x14) e1
  obtain ⟨c, cc, hc⟩ := CC_ok (cd := cd) (hd := dPs here) (sp := sp) (k := k) (z := z) (n := n) (w := w) (r := r) (st := [.o (.l (fs.map Frm.d ++ [.tup [.str f.h.s, .str f.g, .lst (dAs f.bs), .str f.n, .lst (dPs f.o)]]))]) (s1 := .str f.h.s) (s2 := .str f.g) (od := dPs f.o) f.bs hb f.n nm
  have t1 := T1_ok (cd := cd) (hd := dPs here) (sp := sp) (k := k) (z := z) (n := n) (w := w) (r := r) (fl := fs.map Frm.d) (s1 := .str f.h.s) (s2 := .str f.g) (s3 := .str f.n) (s4 := .str nm) (od := dPs f.o) l1
  rw [B3_eq]
  simp only [dPs]
  generalize dPs f.o = od at *
  generalize dAs f.bs = bd at *
  generalize dPs here = hd at *
  generalize D.str f.h.s = s1 at *
  generalize D.str f.g = s2 at *
  generalize D.str f.n = s3 at *
  generalize D.str nm = s4 at *
  generalize fs.map Frm.d = fl at *
  generalize G1 = G at *
  generalize V1 = V at *
  generalize CC = C at *
  generalize T1 = T at *
  clear m1 m2 e1
  cases c with
  | false => left; simp (maxSteps := 30000) (disch := first | assumption | (simp; done) | omega | (simp; omega)) [g, v, cc]
  | true => right; refine ⟨hc rfl, ?_⟩; rw [T2, T3]; simp (maxSteps := 30000) (disch := first | assumption | (simp; done) | omega | (simp; omega)) [g, v, cc, t1]
end M

namespace M
open PySem PySem.Spec PyProof.Rows L2 DL Pt
def okF (j : Nat) : Nat → List Frm → Prop
  | _, [] => True
  | i, f :: r => (lvPs f.o + i ≤ 4 ∧ lvAs f.bs + (i + 1) ≤ 4 ∧ f.o.length ≤ j ∧ f.bs.length ≤ 7) ∧ okF j (i + 1) r
theorem okF_app {j : Nat} : ∀ {a b : List Frm} {i : Nat}, okF j i (a ++ b) ↔ okF j i a ∧ okF j (i + a.length) b
  | [], b, i => by simp [okF]
  | f :: a, b, i => by
    have := okF_app (j := j) (a := a) (b := b) (i := i + 1)
    simp only [List.cons_append, okF, this, List.length_cons]
    rw [show i + 1 + a.length = i + (a.length + 1) by omega]; simp only [and_assoc]
theorem okF_up {j j' : Nat} (h : j ≤ j') : ∀ {a : List Frm} {i : Nat}, okF j i a → okF j' i a
  | [], _, _ => trivial
  | f :: a, i, q => ⟨⟨q.1.1, q.1.2.1, by have := q.1.2.2.1; omega, q.1.2.2.2⟩, okF_up h q.2⟩
theorem okF_lv {j : Nat} : ∀ {a : List Frm} {i : Nat}, okF j i a → ∀ f ∈ a, lvAs f.bs ≤ 4 ∧ lvPs f.o ≤ 4
  | f :: a, i, q, g, h => by
    rcases List.mem_cons.mp h with rfl | h
    · have := q.1; omega
    · exact okF_lv q.2 g h
def wF (f : Frm) : Nat := (tPs f.o).length + f.g.length + (tAs f.bs).length + f.n.length + 10
structure Inv (j : Nat) (fs : List Frm) (here : List P) : Prop where
  dep : fs.length ≤ 4
  lv : lvPs here + fs.length ≤ 4
  ok : okF j 0 fs
  hl : here.length ≤ j
  wt : (tPs here).length + (fs.map wF).sum ≤ 100 * j
theorem Inv.up {j : Nat} {fs : List Frm} {here : List P} (v : Inv j fs here) : Inv (j + 1) fs here :=
  ⟨v.dep, v.lv, okF_up (by omega) v.ok, by have := v.hl; omega, by have := v.wt; omega⟩
theorem Inv.add {j : Nat} {fs : List Frm} {here : List P} (v : Inv j fs here) (p : P) (h0 : p.lv = 0) (h1 : p.t.length ≤ 100) : Inv (j + 1) fs (here ++ [p]) := by
  refine ⟨v.dep, ?_, okF_up (by omega) v.ok, by have := v.hl; simp; omega, ?_⟩
  · have := v.lv; rw [lvPs_app]; simp [lvPs, h0]; omega
  · have := v.wt; rw [tPs_app]; simp [tPs]; omega
theorem Inv.push {j : Nat} {fs : List Frm} {here : List P} (v : Inv j fs here) (h : H) (g nm : List Nat) (h1 : g.length ≤ 8) (h2 : nm.length ≤ 60) (h3 : fs.length < 4) : Inv (j + 1) (fs ++ [(⟨h, g, [], nm, here⟩ : Frm)]) [] := by
  have := v.lv; have := v.hl; have := v.wt
  refine ⟨by simp; omega, by simp [lvPs]; omega, okF_app.mpr ⟨okF_up (by omega) v.ok, ⟨?_, trivial⟩⟩, by simp, ?_⟩
  · simp [lvAs]; omega
  · simp [tPs, wF, tAs]; omega
theorem Inv.put {j : Nat} {fs : List Frm} {f : Frm} {here : List P} (v : Inv j (fs ++ [f]) here) (nm : List Nat) (h2 : nm.length ≤ 60) (h3 : f.bs.length < 7) : Inv (j + 1) (fs ++ [(⟨f.h, f.g, f.bs ++ [.mk f.n here], nm, f.o⟩ : Frm)]) [] := by
  have a1 := v.lv; have a2 := v.hl; have a3 := v.wt; have a4 := v.dep
  obtain ⟨o1, o2, _⟩ := okF_app.mp v.ok
  simp only [List.length_append, List.length_singleton, List.map_append, List.map_cons, List.map_nil, List.sum_append, List.sum_cons, List.sum_nil, wF] at a1 a3 a4
  refine ⟨by simp; omega, by simp [lvPs]; omega, okF_app.mpr ⟨okF_up (by omega) o1, ⟨?_, trivial⟩⟩, by simp, ?_⟩
  · simp [lvAs_app, lvAs, Arm.lv]; omega
  · simp [tPs, wF, tAs_app, tAs, Arm.t]; omega
theorem Inv.shut {j : Nat} {fs : List Frm} {f : Frm} {here : List P} (v : Inv j (fs ++ [f]) here) : Inv (j + 1) fs (f.shut here) := by
  have a1 := v.lv; have a2 := v.hl; have a3 := v.wt; have a4 := v.dep
  obtain ⟨o1, o2, _⟩ := okF_app.mp v.ok
  simp only [List.length_append, List.length_singleton, List.map_append, List.map_cons, List.map_nil, List.sum_append, List.sum_cons, List.sum_nil, wF] at a1 a3 a4
  refine ⟨by omega, ?_, okF_up (by omega) o1, by unfold Frm.shut; simp; omega, ?_⟩
  · unfold Frm.shut; rw [lvPs_app]; simp [lvPs, P.lv, lvAs_app, lvAs, Arm.lv]; omega
  · unfold Frm.shut; rw [tPs_app]; simp [tPs, P.t, tAs_app, tAs, Arm.t]; omega
theorem bT_len {bs : List (List Nat × List Nat)} (h : smallB bs) : ((bs.map bT).flatten).length ≤ 18 * bs.length := by
  induction bs with
  | nil => simp
  | cons b r ih =>
    have h1 := h b (List.mem_cons_self ..)
    have h2 := ih fun c hc => h c (List.mem_cons_of_mem _ hc)
    rw [List.map_cons, List.flatten_cons, List.length_append, List.length_cons]
    have : (bT b).length ≤ 18 := by simp [bT]; omega
    omega
theorem sI_t {c : Ev Bool} {a b : EvS} {S S1 : Sls} {st st1 : Store} (h : c S st = .ok true S1 st1) : sI c a b S st = a S1 st1 := by
  unfold sI; rw [h]; rfl
theorem sI_f {c : Ev Bool} {a b : EvS} {S S1 : Sls} {st st1 : Store} (h : c S st = .ok false S1 st1) : sI c a b S st = b S1 st1 := by
  unfold sI; rw [h]; rfl
variable {cd : D} {here : List P} {sp z n w r : Int} {x6 x7 x8 x9 x10 x11 x12 x13 x14 : Sl} {fs : List Frm}
theorem rest_ok {k : Int} (j : Nat) (hj : j ≤ 60) (v : Inv j fs here) (h0 : 0 ≤ r) (hr : r < 10 ^ 60) :
    ∃ fs' here' sp' y9 y10 y11 y12 y13 y14, Inv (j + 1) fs' here' ∧ sI C1 B1 (sI C2 B2 (sI C3 B3 (sI C4 B4 (sI C5 B5 B6)))) [.d cd, .d (.loc 0), .d (.lst (dPs here)), .d (.int sp), .d (.int k), .d (.int z), .d (.int n), .d (.int w), .d (.int r), x9, x10, x11, x12, x13, x14, .no, .no] [.o (.l ((fs).map Frm.d))] = .nx [.d cd, .d (.loc 0), .d (.lst (dPs here')), .d (.int sp'), .d (.int k), .d (.int z), .d (.int n), .d (.int w), .d (.int r), y9, y10, y11, y12, y13, y14, .no, .no] [.o (.l ((fs').map Frm.d))] := by
  have hl := v.hl
  have lv := v.lv
  have hd := v.dep
  obtain ⟨b1, c1⟩ := C1_ok (cd := cd) (here := here) (sp := sp) (k := k) (z := z) (n := n) (w := w) (r := r) (x9 := x9) (x10 := x10) (x11 := x11) (x12 := x12) (x13 := x13) (x14 := x14) (fs := fs) (by omega)
  cases b1 with
  | true =>
    rw [sI_t c1]
    obtain ⟨s, e, hs⟩ := B1_ok (cd := cd) (here := here) (sp := sp) (k := k) (z := z) (n := n) (w := w) (r := r) (x9 := x9) (x10 := x10) (x11 := x11) (x12 := x12) (x13 := x13) (x14 := x14) (fs := fs) h0 hr (by omega)
    exact ⟨_, _, _, _, _, _, _, _, _, v.add (.txt s) rfl (by simp [P.t]; omega), e⟩
  | false =>
    rw [sI_f c1]
    obtain ⟨b2, c2, d2⟩ := C2_ok (cd := cd) (here := here) (sp := sp) (k := k) (z := z) (n := n) (w := w) (r := r) (x9 := x9) (x10 := x10) (x11 := x11) (x12 := x12) (x13 := x13) (x14 := x14) (fs := fs)
    cases b2 with
    | true =>
      rw [sI_t c2]
      obtain ⟨h, g, nm, e, h1, h2⟩ := B2_ok (cd := cd) (here := here) (sp := sp) (k := k) (z := z) (n := n) (w := w) (r := r) (x9 := x9) (x10 := x10) (x11 := x11) (x12 := x12) (x13 := x13) (x14 := x14) (fs := fs) h0 hd
      exact ⟨_, [], _, _, _, _, _, _, _, v.push h g nm h1 h2 (d2 rfl), e⟩
    | false =>
      rw [sI_f c2]
      obtain ⟨b3, c3, d3⟩ := C3_ok (cd := cd) (here := here) (sp := sp) (k := k) (z := z) (n := n) (w := w) (r := r) (x9 := x9) (x10 := x10) (x11 := x11) (x12 := x12) (x13 := x13) (x14 := x14) (fs := fs) (okF_lv v.ok)
      cases b3 with
      | true =>
        rw [sI_t c3]
        rcases List.eq_nil_or_concat fs with e | ⟨fs0, f, rfl⟩
        · exact absurd e (d3 rfl)
        rw [List.concat_eq_append] at *
        obtain ⟨o1, o2, _⟩ := okF_app.mp v.ok
        obtain ⟨nm, hn, e | ⟨h7, e⟩⟩ := B3_ok (cd := cd) (here := here) (sp := sp) (k := k) (z := z) (n := n) (w := w) (r := r) (x9 := x9) (x10 := x10) (x11 := x11) (x12 := x12) (x13 := x13) (x14 := x14) f fs0 h0 (by omega)
        · exact ⟨_, _, _, _, _, _, _, _, _, v.up, e⟩
        · exact ⟨_, [], _, _, _, _, _, _, _, v.put nm hn h7, e⟩
      | false =>
        rw [sI_f c3]
        obtain ⟨b4, c4, d4⟩ := C4_ok (cd := cd) (here := here) (sp := sp) (k := k) (z := z) (n := n) (w := w) (r := r) (x9 := x9) (x10 := x10) (x11 := x11) (x12 := x12) (x13 := x13) (x14 := x14) (fs := fs) (okF_lv v.ok)
        cases b4 with
        | true =>
          rw [sI_t c4]
          rcases List.eq_nil_or_concat fs with e | ⟨fs0, f, rfl⟩
          · exact absurd e (d4 rfl)
          rw [List.concat_eq_append] at *
          obtain ⟨o1, o2, _⟩ := okF_app.mp v.ok
          exact ⟨_, _, _, _, _, _, _, _, _, v.shut, B4_ok f (by omega) (by omega)⟩
        | false =>
          rw [sI_f c4]
          obtain ⟨b5, c5⟩ := C5_ok (cd := cd) (here := here) (sp := sp) (k := k) (z := z) (n := n) (w := w) (r := r) (x9 := x9) (x10 := x10) (x11 := x11) (x12 := x12) (x13 := x13) (x14 := x14) (fs := fs)
          cases b5 with
          | true =>
            rw [sI_t c5]
            obtain ⟨wd, bs, e, h1, h2, h3⟩ := B5_ok (cd := cd) (here := here) (sp := sp) (k := k) (z := z) (n := n) (w := w) (r := r) (x9 := x9) (x10 := x10) (x11 := x11) (x12 := x12) (x13 := x13) (x14 := x14) (fs := fs) h0 (by omega)
            have := bT_len h3
            exact ⟨_, _, _, _, _, _, _, _, _, v.add (.say wd bs) rfl (by simp [P.t] at this ⊢; omega), e⟩
          | false =>
            rw [sI_f c5]
            obtain ⟨wd, e, h1⟩ := B6_ok (cd := cd) (here := here) (sp := sp) (k := k) (z := z) (n := n) (w := w) (r := r) (x9 := x9) (x10 := x10) (x11 := x11) (x12 := x12) (x13 := x13) (x14 := x14) (fs := fs) h0 (by omega)
            exact ⟨_, _, _, _, _, _, _, _, _, v.add (.gap wd) rfl (by simp [P.t]; omega), e⟩
end M

namespace M
open PySem PySem.Spec PyProof.Rows L2 DL Pt
variable {cd : D} {here : List P} {sp z n w r : Int} {x4 x5 x6 x7 x8 x9 x10 x11 x12 x13 x14 : Sl} {fs : List Frm}
theorem turn_ok (j : Nat) (hj : j < 40) (hz : z.natAbs.log2 < 1048576) (v : Inv j fs here) :
    ∃ fs' here' sp' y6 y7 y8 y9 y10 y11 y12 y13 y14, Inv (j + 1) fs' here' ∧
     (L__law_pattern_1 [.d cd, .d (.loc 0), .d (.lst (dPs here)), .d (.int sp), .d (.int (j : Int)), .d (.int z), x6, x7, x8, x9, x10, x11, x12, x13, x14, .no, .no] [.o (.l ((fs).map Frm.d))] = .nx [.d cd, .d (.loc 0), .d (.lst (dPs here')), .d (.int sp'), .d (.int (j : Int)), .d (.int z), y6, y7, y8, y9, y10, y11, y12, y13, y14, .no, .no] [.o (.l ((fs').map Frm.d))] ∨
      L__law_pattern_1 [.d cd, .d (.loc 0), .d (.lst (dPs here)), .d (.int sp), .d (.int (j : Int)), .d (.int z), x6, x7, x8, x9, x10, x11, x12, x13, x14, .no, .no] [.o (.l ((fs).map Frm.d))] = .bk [.d cd, .d (.loc 0), .d (.lst (dPs here')), .d (.int sp'), .d (.int (j : Int)), .d (.int z), y6, y7, y8, y9, y10, y11, y12, y13, y14, .no, .no] [.o (.l ((fs').map Frm.d))]) := by
  have mz : mulC z 48271 = true := mulC_of (by unfold Sm; omega) (Sm.small (by omega) (by omega))
  have mk : mulC (j : Int) (j : Int) = true := mulC_of (Sm.small (by omega) (by omega)) (Sm.small (by omega) (by omega))
  have m1 : dMul (.int z) (.int 48271) = some (.int (z * 48271)) := dMul_i _ _ mz
  have m2 : dMul (.int (j : Int)) (.int (j : Int)) = some (.int ((j : Int) * j)) := dMul_i _ _ mk
  have p1 : dPow (.int 10) (.int 60) = some (.int (10 ^ 60)) := dPow_a _ _ (by decide)
  have d1 : dMod (.int (z * 48271 + (j : Int) * j)) (.int (10 ^ 60)) = some (.int ((z * 48271 + (j : Int) * j) % 10 ^ 60)) := dMod_a _ _ (by decide)
  generalize hn : (z * 48271 + (j : Int) * j) % 10 ^ 60 = n at d1
  have hn0 : 0 ≤ n := by rw [← hn]; exact Int.emod_nonneg _ (by decide)
  have hn1 : n < 10 ^ 60 := by rw [← hn]; exact Int.emod_lt_of_pos _ (by decide)
  obtain ⟨fs', here', sp', y9, y10, y11, y12, y13, y14, v', e⟩ := rest_ok (cd := cd) (sp := sp) (k := (j : Int)) (z := z) (n := n) (w := n % 8) (r := n / 8) (x9 := x9) (x10 := x10) (x11 := x11) (x12 := x12) (x13 := x13) (x14 := x14) j (by omega) v (by omega) (by omega)
  by_cases c : 860 < sp
  · refine ⟨fs, here, sp, .d (.int n), .d (.int (n % 8)), .d (.int (n / 8)), x9, x10, x11, x12, x13, x14, v.up, .inr ?_⟩
    rw [body_eq, A1, A2, A3, A4]
    clear e v' v hn mz mk
    generalize sI C1 B1 _ = rest at *
    generalize fs.map Frm.d = fl at *
    generalize dPs here = hd at *
    generalize z * 48271 = z1 at *
    generalize (j : Int) * j = k1 at *
    generalize (10 ^ 60 : Int) = big at *
    simp (maxSteps := 30000) (disch := first | assumption | (simp; done) | omega | (simp; omega)) [m1, m2, p1, d1, c]
  · refine ⟨fs', here', sp', .d (.int n), .d (.int (n % 8)), .d (.int (n / 8)), y9, y10, y11, y12, y13, y14, v', .inl ?_⟩
    rw [body_eq, A1, A2, A3, A4]
    clear v' v hn mz mk
    generalize sI C1 B1 _ = rest at *
    generalize fs.map Frm.d = fl at *
    generalize fs'.map Frm.d = fl' at *
    generalize dPs here = hd at *
    generalize dPs here' = hd' at *
    generalize z * 48271 = z1 at *
    generalize (j : Int) * j = k1 at *
    generalize (10 ^ 60 : Int) = big at *
    simp (maxSteps := 30000) (disch := first | assumption | (simp; done) | omega | (simp; omega)) [m1, m2, p1, d1, c, e]
theorem turns_ok : ∀ (zs : List Int) (j : Nat) (fs : List Frm) (here : List P) (sp : Int) (x4 x5 x6 x7 x8 x9 x10 x11 x12 x13 x14 : Sl), j + zs.length ≤ 40 → (∀ z ∈ zs, z.natAbs.log2 < 1048576) → Inv j fs here →
    ∃ fs' here' sp' y4 y5 y6 y7 y8 y9 y10 y11 y12 y13 y14, Inv 40 fs' here' ∧
     forL (gT 2 (gC (gV 4) (gC (gV 5) (gN)))) L__law_pattern_1 ((zs.zipIdx j).map fun p => D.tup [.int (p.2 : Int), .int p.1]) [.d cd, .d (.loc 0), .d (.lst (dPs here)), .d (.int sp), x4, x5, x6, x7, x8, x9, x10, x11, x12, x13, x14, .no, .no] [.o (.l ((fs).map Frm.d))] = .nx [.d cd, .d (.loc 0), .d (.lst (dPs here')), .d (.int sp'), y4, y5, y6, y7, y8, y9, y10, y11, y12, y13, y14, .no, .no] [.o (.l ((fs').map Frm.d))]
  | [], j, fs, here, sp, x4, x5, x6, x7, x8, x9, x10, x11, x12, x13, x14, h, _, v => by
    refine ⟨fs, here, sp, _, _, _, _, _, _, _, _, _, _, _, ⟨v.dep, v.lv, okF_up (by simp at h; omega) v.ok, by have := v.hl; simp at h; omega, by have := v.wt; simp at h; omega⟩, rfl⟩
  | z :: zs, j, fs, here, sp, x4, x5, x6, x7, x8, x9, x10, x11, x12, x13, x14, h, hz, v => by
    rw [List.length_cons] at h
    obtain ⟨fs1, here1, sp1, y6, y7, y8, y9, y10, y11, y12, y13, y14, v1, e⟩ := turn_ok (cd := cd) (sp := sp) (x6 := x6) (x7 := x7) (x8 := x8) (x9 := x9) (x10 := x10) (x11 := x11) (x12 := x12) (x13 := x13) (x14 := x14) j (by omega) (hz z (List.mem_cons_self ..)) v
    have eg : gT 2 (gC (gV 4) (gC (gV 5) (gN))) (D.tup [.int (j : Int), .int z]) [.d cd, .d (.loc 0), .d (.lst (dPs here)), .d (.int sp), x4, x5, x6, x7, x8, x9, x10, x11, x12, x13, x14, .no, .no] = some [.d cd, .d (.loc 0), .d (.lst (dPs here)), .d (.int sp), .d (.int (j : Int)), .d (.int z), x6, x7, x8, x9, x10, x11, x12, x13, x14, .no, .no] := rfl
    rcases e with e | e
    · obtain ⟨fs2, here2, sp2, q4, q5, q6, q7, q8, q9, q10, q11, q12, q13, q14, v2, e2⟩ := turns_ok zs (j + 1) fs1 here1 sp1 (.d (.int (j : Int))) (.d (.int z)) y6 y7 y8 y9 y10 y11 y12 y13 y14 (by omega) (fun z hz' => hz z (List.mem_cons_of_mem _ hz')) v1
      refine ⟨fs2, here2, sp2, q4, q5, q6, q7, q8, q9, q10, q11, q12, q13, q14, v2, ?_⟩
      rw [List.zipIdx_cons, List.map_cons, forL_c, eg]
      simp only [e]
      exact e2
    · refine ⟨fs1, here1, sp1, .d (.int (j : Int)), .d (.int z), y6, y7, y8, y9, y10, y11, y12, y13, y14, ⟨v1.dep, v1.lv, okF_up (by omega) v1.ok, by have := v1.hl; omega, by have := v1.wt; omega⟩, ?_⟩
      rw [List.zipIdx_cons, List.map_cons, forL_c, eg]
      simp only [e]
theorem close_ok : ∀ (m j : Nat) (fs : List Frm) (here : List P) (x3 : Sl) (x4 x5 x6 x7 x8 x9 x10 x11 x12 x13 x14 : Sl), fs.length = m → j + m ≤ 50 → Inv j fs here →
    ∃ here', Inv (j + m) [] here' ∧ sW W__law_pattern_1 L__law_pattern_2 [.d cd, .d (.loc 0), .d (.lst (dPs here)), x3, x4, x5, x6, x7, x8, x9, x10, x11, x12, x13, x14, .no, .no] [.o (.l ((fs).map Frm.d))] = .nx [.d cd, .d (.loc 0), .d (.lst (dPs here')), x3, x4, x5, x6, x7, x8, x9, x10, x11, x12, x13, x14, .no, .no] [.o (.l [])]
  | 0, j, fs, here, x3, x4, x5, x6, x7, x8, x9, x10, x11, x12, x13, x14, hm, _, v => by
    have : fs = [] := List.eq_nil_of_length_eq_zero hm
    subst this
    refine ⟨here, v, ?_⟩
    have ed : deq (.lst []) (.lst []) = true := by rw [deq_lst]; simp
    have q : eqOk (.lst []) = true := rfl
    refine sW_false ?_
    rw [W__law_pattern_1, List.map_nil]
    generalize dPs here = hd at *
    simp (maxSteps := 30000) (disch := first | assumption | (simp; done) | omega | (simp; omega)) [ed, q]
  | m + 1, j, fs, here, x3, x4, x5, x6, x7, x8, x9, x10, x11, x12, x13, x14, hm, hj, v => by
    rcases List.eq_nil_or_concat fs with e | ⟨fs0, f, rfl⟩
    · subst e; cases hm
    rw [List.concat_eq_append] at *
    obtain ⟨o1, o2, _⟩ := okF_app.mp v.ok
    have q := fs_eqOk (okF_lv v.ok)
    have q2 : eqOk (.lst []) = true := rfl
    have ed := fs_deq (fs := fs0 ++ [f])
    have em : (fs0 ++ [f]).isEmpty = false := by cases fs0 <;> rfl
    rw [em] at ed
    have hw : W__law_pattern_1 [.d cd, .d (.loc 0), .d (.lst (dPs here)), x3, x4, x5, x6, x7, x8, x9, x10, x11, x12, x13, x14, .no, .no] [.o (.l ((fs0 ++ [f]).map Frm.d))] = .ok true [.d cd, .d (.loc 0), .d (.lst (dPs here)), x3, x4, x5, x6, x7, x8, x9, x10, x11, x12, x13, x14, .no, .no] [.o (.l ((fs0 ++ [f]).map Frm.d))] := by
      rw [W__law_pattern_1]
      generalize (fs0 ++ [f]).map Frm.d = fl at *
      generalize dPs here = hd at *
      simp (maxSteps := 30000) (disch := first | assumption | (simp; done) | omega | (simp; omega)) [ed, q, q2]
    have s := shut_ok fs0 f here (by omega) (by omega)
    have hb : L__law_pattern_2 [.d cd, .d (.loc 0), .d (.lst (dPs here)), x3, x4, x5, x6, x7, x8, x9, x10, x11, x12, x13, x14, .no, .no] [.o (.l ((fs0 ++ [f]).map Frm.d))] = .nx [.d cd, .d (.loc 0), .d (.lst (dPs (f.shut here))), x3, x4, x5, x6, x7, x8, x9, x10, x11, x12, x13, x14, .no, .no] [.o (.l ((fs0).map Frm.d))] := by
      rw [L__law_pattern_2]
      generalize (fs0 ++ [f]).map Frm.d = fl at *
      generalize fs0.map Frm.d = gl at *
      generalize dPs (f.shut here) = rd at *
      generalize dPs here = hd at *
      simp (maxSteps := 30000) (disch := first | assumption | (simp; done) | omega | (simp; omega)) [s]
    obtain ⟨here', v', e⟩ := close_ok m (j + 1) fs0 (f.shut here) x3 x4 x5 x6 x7 x8 x9 x10 x11 x12 x13 x14 (by simpa using hm) (by omega) v.shut
    refine ⟨here', by rw [show j + (m + 1) = j + 1 + m by omega]; exact v', ?_⟩
    rw [sW_true hw hb]
    exact e
theorem ints_noL : ∀ zs : List Int, noLs (zs.map D.int) = true
  | [] => rfl
  | z :: r => by rw [List.map_cons, noLs, ints_noL r]; rfl
theorem pattern_ok (zs : List Int) (hz : ∀ z ∈ zs, z.natAbs.log2 < 1048576) {st : Store} : ∃ ps, c__law_pattern [.lst (zs.map D.int)] st = .ok (.lst (dPs ps)) [] st ∧ lvPs ps ≤ 4 ∧ (tPs ps).length ≤ 10000 := by
  have v0 : Inv 0 [] [] := ⟨by simp, by simp [lvPs], trivial, by simp, by simp [tPs]⟩
  obtain ⟨fs, here, sp, y4, y5, y6, y7, y8, y9, y10, y11, y12, y13, y14, v1, e1⟩ := turns_ok (cd := .lst (zs.map D.int)) (zs.take 40) 0 [] [] 0 .no .no .no .no .no .no .no .no .no .no .no (by simp; omega) (fun z hz' => hz z (List.mem_of_mem_take hz')) v0
  obtain ⟨ps, v2, e2⟩ := close_ok (cd := .lst (zs.map D.int)) fs.length 40 fs here (.d (.int sp)) y4 y5 y6 y7 y8 y9 y10 y11 y12 y13 y14 rfl (by have := v1.dep; omega) v1
  have a1 := v1.dep
  have a2 := v2.lv
  have a3 := v2.wt
  refine ⟨ps, ?_, by simpa using a2, by simp at a3; omega⟩
  unfold c__law_pattern
  refine solo_ok (st1 := [.o (.l [])]) ?_ ?_ (by rw [noL]; exact ps_noL ps)
  · have hc : dSl (.lst (zs.map D.int)) none (some 40) = some (.lst ((zs.take 40).map D.int)) := by rw [dSl_l, cut_to _ (by omega)]; simp [List.map_take]
    have he : enumD ((zs.take 40).map D.int) = ((zs.take 40).zipIdx 0).map fun p => D.tup [.int (p.2 : Int), .int p.1] := by
      unfold enumD
      rw [List.zipIdx_map, List.map_map]; rfl
    have al : asL (.lst ((zs.take 40).map D.int)) = some ((zs.take 40).map D.int) := rfl
    rw [← he] at e1
    rw [runB_k, b__law_pattern]
    simp only [dPs, List.map_nil] at e1
    generalize (zs.take 40).map D.int = ld at *
    generalize D.lst (zs.map D.int) = cd at *
    generalize dPs ps = pd at *
    generalize dPs here = hd at *
    generalize fs.map Frm.d = fl at *
    simp (maxSteps := 30000) (disch := first | assumption | (simp; done) | omega | (simp; omega)) [hc, al, e1, e2]
  · show noLs [D.lst (zs.map D.int)] = true
    simp [noLs, noL, ints_noL]
end M

namespace M
open PySem PySem.Spec PyProof.Rows L2 DL Pt
theorem sTry_to {T : XTab} {h c : Nat} {fb : EvS} {fs : Nat → EvS} {S S1 S2 : Sls} {st st1 st2 : Store} (e : fb S st = .exc ⟨c, []⟩ S1 st1) (hl : xLook T c h = some true) (ho : fs c S1 st1 = .nx S2 st2) : sTry T h fb fs S st = .nx S2 st2 := by
  unfold sTry; rw [e]; dsimp only; rw [hl]; dsimp only; rw [ho]; rfl
theorem sTry_nx {T : XTab} {h : Nat} {fb : EvS} {fs : Nat → EvS} {S S1 : Sls} {st st1 : Store} (e : fb S st = .nx S1 st1) : sTry T h fb fs S st = .nx S1 st1 := by
  unfold sTry; rw [e]
theorem spoils (cd : D) : ∀ (zs : List Int) (s : List Nat) (x2 : Sl), zs.length ≤ 2 → s.length * 3 ^ zs.length + 2 * zs.length * 3 ^ zs.length ≤ 1000000 → (∀ z ∈ zs, z.natAbs.log2 < 1048576) →
    ∃ u x2', forL (gV 2) L_law_1 (zs.map D.int) [.d cd, .d (.str s), x2, .no] [] = .nx [.d cd, .d (.str u), x2', .no] [] ∧ u.length ≤ 1000000
  | [], s, x2, _, h, _ => ⟨s, x2, rfl, by simpa using h⟩
  | z :: zs, s, x2, hl, h, hz => by
    rw [List.length_cons] at hl h
    have p3 : 1 ≤ 3 ^ zs.length := Nat.one_le_pow _ _ (by decide)
    rw [Nat.pow_succ] at h
    have h1 : s.length ≤ 1000000 := by
      have : s.length * 1 ≤ s.length * (3 ^ zs.length * 3) := Nat.mul_le_mul_left _ (by omega)
      omega
    obtain ⟨u, e, hu⟩ := spoilt_ok (st := []) s z h1 (hz z (List.mem_cons_self ..))
    have hb : L_law_1 [.d cd, .d (.str s), .d (.int z), .no] [] = .nx [.d cd, .d (.str u), .d (.int z), .no] [] := by
      rw [L_law_1]
      generalize D.str u = ud at *
      generalize D.str s = sd at *
      simp (maxSteps := 30000) (disch := first | assumption | (simp; done) | omega | (simp; omega)) [e]
    obtain ⟨v, x2', e2, hv⟩ := spoils cd zs u (.d (.int z)) (by omega) (by
      have h2 : u.length * 3 ^ zs.length ≤ (3 * s.length + 1) * 3 ^ zs.length := Nat.mul_le_mul_right _ hu
      have h3 : (3 * s.length + 1) * 3 ^ zs.length = s.length * (3 ^ zs.length * 3) + 3 ^ zs.length := by rw [Nat.add_mul, Nat.one_mul, Nat.mul_comm 3, Nat.mul_assoc, Nat.mul_comm 3]
      have h4 : 2 * (zs.length + 1) * (3 ^ zs.length * 3) = 6 * zs.length * 3 ^ zs.length + 6 * 3 ^ zs.length := by
        rw [Nat.mul_add, Nat.add_mul]
        have : 2 * zs.length * (3 ^ zs.length * 3) = 6 * zs.length * 3 ^ zs.length := by
          rw [Nat.mul_comm (3 ^ zs.length) 3, ← Nat.mul_assoc]; congr 1; omega
        rw [this]; omega
      have h5 : 6 * zs.length * 3 ^ zs.length = 3 * (2 * zs.length * 3 ^ zs.length) := by rw [← Nat.mul_assoc]; congr 1; omega
      omega) (fun y hy => hz y (List.mem_cons_of_mem _ hy))
    refine ⟨v, x2', ?_, hv⟩
    rw [List.map_cons, forL_c, gV_a]
    simp only [List.set_cons_succ, List.set_cons_zero, hb]
    exact e2
theorem lawOk : LawOk c_law := fun ns hl hb => by
  obtain ⟨ps, pe, plv, plen⟩ := pattern_ok (ns.drop 2) (fun z hz => hb z (List.mem_of_mem_drop hz)) (st := [])
  have te := text_ok (st := []) 8 ps (by omega) (by omega)
  have h1 : dSl (.scr ns) (some 2) none = some (.lst ((ns.drop 2).map D.int)) := by rw [dSl_scr, cut_from _ (by omega)]; simp [List.map_drop]
  have h2 : dSl (.scr ns) none (some 2) = some (.lst ((ns.take 2).map D.int)) := by rw [dSl_scr, cut_to _ (by omega)]; simp [List.map_take]
  obtain ⟨s, x2', le, hs⟩ := spoils (.scr ns) (ns.take 2) (tPs ps) .no (by simp; omega) (by
    have : (ns.take 2).length ≤ 2 := by simp; omega
    have h9 : 3 ^ (ns.take 2).length ≤ 9 := by
      have : 3 ^ (ns.take 2).length ≤ 3 ^ 2 := Nat.pow_le_pow_right (by decide) this
      omega
    have a : (tPs ps).length * 3 ^ (ns.take 2).length ≤ 10000 * 9 := Nat.mul_le_mul plen h9
    have b : 2 * (ns.take 2).length * 3 ^ (ns.take 2).length ≤ 4 * 9 := Nat.mul_le_mul (by omega) h9
    omega) (fun z hz => hb z (List.mem_of_mem_take hz))
  have hi : itD (.lst ((ns.take 2).map D.int)) = some ((ns.take 2).map D.int) := rfl
  have rd := read_ok s (by omega)
  refine ⟨[], ?_⟩
  cases hr : Pt.read s with
  | none =>
    rw [hr] at rd
    simp only at rd
    have e1 : L_law_2 [.d (.scr ns), .d (.str s), x2', .d .non] [] = .exc np [.d (.scr ns), .d (.str s), x2', .d .non] [] := by
      rw [L_law_2]
      generalize D.str s = sd at *
      generalize D.scr ns = cd at *
      simp (maxSteps := 30000) (disch := first | assumption | (simp; done) | omega | (simp; omega)) [rd]
    have xl : xLook xT 1446867055838488785518 1446867055838488785518 = some true := by decide +kernel
    have e3 := sTry_to (T := xT) (fs := X_law_1) (S2 := [.d (.scr ns), .d (.str s), x2', .d .non]) (st2 := []) e1 xl rfl
    have rf := ref_none (by omega) hr
    rw [c_law, runB_k, b_law]
    generalize sTry xT 1446867055838488785518 L_law_2 X_law_1 = tr at *
    generalize D.lst (dPs ps) = pd at *
    generalize D.str (tPs ps) = td at *
    generalize D.str s = sd at *
    generalize (ns.take 2).map D.int = zd at *
    generalize (ns.drop 2).map D.int = yd at *
    generalize D.scr ns = cd at *
    clear hr rd e1 hs plen
    simp (maxSteps := 30000) (disch := first | assumption | (simp; done) | omega | (simp; omega)) [h1, h2, pe, te, hi, le, e3, rf]
  | some qs =>
    rw [hr] at rd
    simp only at rd
    obtain ⟨es, ok, sz, sl⟩ := read_inv hr
    have lv : lvPs qs ≤ 4 := by
      have hr2 := hr
      unfold Pt.read at hr2
      split at hr2
      · cases hr2
      · cases hp : parts 6 0 s with
        | none => rw [hp] at hr2; cases hr2
        | some q =>
          obtain ⟨i, r'⟩ := q
          rw [hp] at hr2
          have := parts_lv4 (k := 6) (deep := 0) (by omega) hp
          dsimp only at hr2
          split at hr2
          · cases hr2
          · cases hr2; omega
    have e1 : L_law_2 [.d (.scr ns), .d (.str s), x2', .d .non] [] = .nx [.d (.scr ns), .d (.str s), x2', .d (.lst (dPs qs))] [] := by
      rw [L_law_2]
      generalize D.str s = sd at *
      generalize D.scr ns = cd at *
      generalize D.lst (dPs qs) = qd at *
      simp (maxSteps := 30000) (disch := first | assumption | (simp; done) | omega | (simp; omega)) [rd]
    have e3 := sTry_nx (T := xT) (h := 1446867055838488785518) (fs := X_law_1) e1
    have ip := is_pattern_ok (st := []) 20 0 qs (by omega) ok (by omega) (by omega)
    have i0 : ((0 : Nat) : Int) = 0 := rfl
    rw [i0] at ip
    have my := many_ok (st := []) 8 qs (by omega) (by rw [← es]; omega)
    have tq := text_ok (st := []) 8 qs (by omega) (by rw [← es]; omega)
    rw [← es] at tq
    have c1 : ¬ ((40 : Int) < (szPs qs : Nat)) := by omega
    have c2 : dLen [.str s] = some (.int s.length) := by simp [dLen] <;> omega
    have c3 : ¬ ((1000 : Int) < (s.length : Nat)) := by omega
    have d1 : dIs (.lst (dPs qs)) .non = some (.bl false) := rfl
    have q1 : eqOk (.str s) = true := rfl
    have d2 : deq (.str s) (.str s) = true := by rw [deq_str]; exact decide_eq_true rfl
    rw [c_law, runB_k, b_law]
    generalize sTry xT 1446867055838488785518 L_law_2 X_law_1 = tr at *
    generalize D.lst (dPs ps) = pd at *
    generalize D.lst (dPs qs) = qd at *
    generalize D.str (tPs ps) = td at *
    generalize D.str s = sd at *
    generalize (ns.take 2).map D.int = zd at *
    generalize (ns.drop 2).map D.int = yd at *
    generalize D.scr ns = cd at *
    generalize ((szPs qs : Nat) : Int) = nz at *
    generalize ((s.length : Nat) : Int) = nl at *
    clear hr rd e1 hs plen ok es
    simp (maxSteps := 30000) (disch := first | assumption | (simp; done) | omega | (simp; omega)) [h1, h2, pe, te, hi, le, e3, ip, my, tq, c1, c2, c3, d1, d2, q1]
end M

open PySem PySem.W PyProof.Rows
set_option maxRecDepth 100000 in
set_option maxHeartbeats 0 in
theorem PySem.Challenge.cw_saywell_k13_spoilt_texts_holds : PySem.Challenge.rw_saywell_k13_spoilt_texts.Holds := by
  w_on; o_law; k_head; (case hw => w_witness2)
  k_fill
  refine L2.walk_ofB (l := PySem.Challenge.rw_saywell_k13_spoilt_texts) (n := 63) (k := 45) (x := "_law_script") (CX := fun w => L2.CX PySem.Challenge.rw_saywell_k13_spoilt_texts.prog w) (sp := fun w => DL.spLaw _) rfl (by decide) rfl ⟨rfl, by decide, by decide⟩ (fun w h Y => PySem.W.kIn_of Y) ?F (fun _ _ a ns hl hb _ hS => ⟨a, ns, rfl, hS, hl, hb, fun _ => rfl⟩) (fun _ _ _ _ _ h => by obtain ⟨_, _, _, _, _, _, _, _, _, _, _, _, z⟩ := h; exact z.elim)
  case F =>
    intro w mg fa h KX G hmg
    refine' M.all_mk M.lawOk KX G hmg ?a__law_plain ?l__law_plain ?q__law_plain ?k__law_plain ?a__law_word ?l__law_word ?q__law_word ?k__law_word ?a__law_name ?l__law_name ?q__law_name ?k__law_name ?a__law_gap ?l__law_gap ?q__law_gap ?k__law_gap ?a__law_shut ?l__law_shut ?q__law_shut ?k__law_shut ?a__law_binds ?l__law_binds ?q__law_binds ?k__law_binds ?a__law_pattern ?l__law_pattern ?q__law_pattern ?k__law_pattern ?a__law_text ?l__law_text ?q__law_text ?k__law_text ?a__law_spoilt ?l__law_spoilt ?q__law_spoilt ?k__law_spoilt ?a_is_plain ?l_is_plain ?q_is_plain ?k_is_plain ?a_run_of ?l_run_of ?q_run_of ?k_run_of ?a_is_word ?l_is_word ?q_is_word ?k_is_word ?a_scan_word ?l_scan_word ?q_scan_word ?k_scan_word ?a_scan_name ?l_scan_name ?q_scan_name ?k_scan_name ?a_past_sign ?l_past_sign ?q_past_sign ?k_past_sign ?a_scan_binds ?l_scan_binds ?q_scan_binds ?k_scan_binds ?a_scan_arms ?l_scan_arms ?q_scan_arms ?k_scan_arms ?a_scan_brace ?l_scan_brace ?q_scan_brace ?k_scan_brace ?a_scan_parts ?l_scan_parts ?q_scan_parts ?k_scan_parts ?a_is_choice ?l_is_choice ?q_is_choice ?k_is_choice ?a_inner_of ?l_inner_of ?q_inner_of ?k_inner_of ?a_size ?l_size ?q_size ?k_size ?a_read ?l_read ?q_read ?k_read ?a__law_refused ?l__law_refused ?q__law_refused ?k__law_refused ?a__law_is_plain ?l__law_is_plain ?q__law_is_plain ?k__law_is_plain ?a__law_is_word ?l__law_is_word ?q__law_is_word ?k__law_is_word ?a__law_is_pairs ?l__law_is_pairs ?q__law_is_pairs ?k__law_is_pairs ?a__law_is_name ?l__law_is_name ?q__law_is_name ?k__law_is_name ?a__law_is_part ?l__law_is_part ?q__law_is_part ?k__law_is_part ?a__law_is_pattern ?l__law_is_pattern ?q__law_is_pattern ?k__law_is_pattern ?a__law_many ?l__law_many ?q__law_many ?k__law_many ?a_law ?l_law ?q_law ?k_law ?aC_Flawed ?xbe_Flawed ?xhd_Flawed ?xty_Flawed ?aC_Lacking ?xbe_Lacking ?xhd_Lacking ?xty_Lacking ?aC_NoDay ?xbe_NoDay ?xhd_NoDay ?xty_NoDay ?aC_NoMessage ?xbe_NoMessage ?xhd_NoMessage ?xty_NoMessage ?aC_NoNumber ?xbe_NoNumber ?xhd_NoNumber ?xty_NoNumber ?aC_NoPattern ?xbe_NoPattern ?xhd_NoPattern ?xty_NoPattern ?aC_NoPlace ?xbe_NoPlace ?xhd_NoPlace ?xty_NoPlace ?aC_NoRules ?xbe_NoRules ?xhd_NoRules ?xty_NoRules ?aC_NoThing ?xbe_NoThing ?xhd_NoThing ?xty_NoThing ?aC_NoTongue ?xbe_NoTongue ?xhd_NoTongue ?xty_NoTongue ?aC_NoValue ?xbe_NoValue ?xhd_NoValue ?xty_NoValue ?aC_NoWriting ?xbe_NoWriting ?xhd_NoWriting ?xty_NoWriting ?aC_SayError ?xbe_SayError ?xhd_SayError ?xty_SayError ?aC_TooGreat ?xbe_TooGreat ?xhd_TooGreat ?xty_TooGreat ?aC_TooMany ?xbe_TooMany ?xhd_TooMany ?xty_TooMany ?xex_NoPattern ?xkp_NoPattern ?xve_NoPattern ?xme_NoPattern ?xg2_NoPattern ?xk2_NoPattern ?xa2_NoPattern ?xm2_NoPattern ?xsp ?xta ?xs_NoPattern_Flawed ?xs_NoPattern_Lacking ?xs_NoPattern_NoDay ?xs_NoPattern_NoMessage ?xs_NoPattern_NoNumber ?xs_NoPattern_NoPlace ?xs_NoPattern_NoRules ?xs_NoPattern_NoThing ?xs_NoPattern_NoTongue ?xs_NoPattern_NoValue ?xs_NoPattern_NoWriting ?xs_NoPattern_SayError ?xs_NoPattern_TooGreat ?xs_NoPattern_TooMany ?z_ValueError ?z_len ?z_isinstance ?z_str ?z_int ?z_bool ?z_list ?z_tuple ?z_dict ?z_set ?z_range ?z_enumerate ?z_zip ?z_reversed ?z_sorted ?z_sum ?z_all ?z_any ?z_abs ?z_max ?z_min ?z_ord ?z_divmod ?z_repr ?g_DEEP ?g_FIGURES ?g_HOWS ?l_k_HOWS ?kd_HOWS ?low_HOWS ?g_LETTERS ?g_MARKS ?l_k_MARKS ?kd_MARKS ?low_MARKS ?g_MOST_ARMS ?g_MOST_BINDS ?g_MOST_FIGURES ?g_MOST_PARTS ?g_MOST_SIGNS
    (case a__law_plain => k_is)
    (case l__law_plain => k_is)
    (case q__law_plain => k_is)
    (case k__law_plain => k_is)
    (case a__law_word => k_is)
    (case l__law_word => k_is)
    (case q__law_word => k_is)
    (case k__law_word => k_is)
    (case a__law_name => k_is)
    (case l__law_name => k_is)
    (case q__law_name => k_is)
    (case k__law_name => k_is)
    (case a__law_gap => k_is)
    (case l__law_gap => k_is)
    (case q__law_gap => k_is)
    (case k__law_gap => k_is)
    (case a__law_shut => k_is)
    (case l__law_shut => k_is)
    (case q__law_shut => k_is)
    (case k__law_shut => k_is)
    (case a__law_binds => k_is)
    (case l__law_binds => k_is)
    (case q__law_binds => k_is)
    (case k__law_binds => k_is)
    (case a__law_pattern => k_is)
    (case l__law_pattern => k_is)
    (case q__law_pattern => k_is)
    (case k__law_pattern => k_is)
    (case a__law_text => k_is)
    (case l__law_text => k_is)
    (case q__law_text => k_is)
    (case k__law_text => k_is)
    (case a__law_spoilt => k_is)
    (case l__law_spoilt => k_is)
    (case q__law_spoilt => k_is)
    (case k__law_spoilt => k_is)
    (case a_is_plain => k_is)
    (case l_is_plain => k_is)
    (case q_is_plain => k_is)
    (case k_is_plain => k_is)
    (case a_run_of => k_is)
    (case l_run_of => k_is)
    (case q_run_of => k_is)
    (case k_run_of => k_is)
    (case a_is_word => k_is)
    (case l_is_word => k_is)
    (case q_is_word => k_is)
    (case k_is_word => k_is)
    (case a_scan_word => k_is)
    (case l_scan_word => k_is)
    (case q_scan_word => k_is)
    (case k_scan_word => k_is)
    (case a_scan_name => k_is)
    (case l_scan_name => k_is)
    (case q_scan_name => k_is)
    (case k_scan_name => k_is)
    (case a_past_sign => k_is)
    (case l_past_sign => k_is)
    (case q_past_sign => k_is)
    (case k_past_sign => k_is)
    (case a_scan_binds => k_is)
    (case l_scan_binds => k_is)
    (case q_scan_binds => k_is)
    (case k_scan_binds => k_is)
    (case a_scan_arms => k_is)
    (case l_scan_arms => k_is)
    (case q_scan_arms => k_is)
    (case k_scan_arms => k_is)
    (case a_scan_brace => k_is)
    (case l_scan_brace => k_is)
    (case q_scan_brace => k_is)
    (case k_scan_brace => k_is)
    (case a_scan_parts => k_is)
    (case l_scan_parts => k_is)
    (case q_scan_parts => k_is)
    (case k_scan_parts => k_is)
    (case a_is_choice => k_is)
    (case l_is_choice => k_is)
    (case q_is_choice => k_is)
    (case k_is_choice => k_is)
    (case a_inner_of => k_is)
    (case l_inner_of => k_is)
    (case q_inner_of => k_is)
    (case k_inner_of => k_is)
    (case a_size => k_is)
    (case l_size => k_is)
    (case q_size => k_is)
    (case k_size => k_is)
    (case a_read => k_is)
    (case l_read => k_is)
    (case q_read => k_is)
    (case k_read => k_is)
    (case a__law_refused => k_is)
    (case l__law_refused => k_is)
    (case q__law_refused => k_is)
    (case k__law_refused => k_is)
    (case a__law_is_plain => k_is)
    (case l__law_is_plain => k_is)
    (case q__law_is_plain => k_is)
    (case k__law_is_plain => k_is)
    (case a__law_is_word => k_is)
    (case l__law_is_word => k_is)
    (case q__law_is_word => k_is)
    (case k__law_is_word => k_is)
    (case a__law_is_pairs => k_is)
    (case l__law_is_pairs => k_is)
    (case q__law_is_pairs => k_is)
    (case k__law_is_pairs => k_is)
    (case a__law_is_name => k_is)
    (case l__law_is_name => k_is)
    (case q__law_is_name => k_is)
    (case k__law_is_name => k_is)
    (case a__law_is_part => k_is)
    (case l__law_is_part => k_is)
    (case q__law_is_part => k_is)
    (case k__law_is_part => k_is)
    (case a__law_is_pattern => k_is)
    (case l__law_is_pattern => k_is)
    (case q__law_is_pattern => k_is)
    (case k__law_is_pattern => k_is)
    (case a__law_many => k_is)
    (case l__law_many => k_is)
    (case q__law_many => k_is)
    (case k__law_many => k_is)
    (case a_law => k_is)
    (case l_law => k_is)
    (case q_law => k_is)
    (case k_law => k_is)
    (case aC_Flawed => k_is)
    (case xbe_Flawed => k_is)
    (case xhd_Flawed => k_is)
    (case xty_Flawed => k_is)
    (case aC_Lacking => k_is)
    (case xbe_Lacking => k_is)
    (case xhd_Lacking => k_is)
    (case xty_Lacking => k_is)
    (case aC_NoDay => k_is)
    (case xbe_NoDay => k_is)
    (case xhd_NoDay => k_is)
    (case xty_NoDay => k_is)
    (case aC_NoMessage => k_is)
    (case xbe_NoMessage => k_is)
    (case xhd_NoMessage => k_is)
    (case xty_NoMessage => k_is)
    (case aC_NoNumber => k_is)
    (case xbe_NoNumber => k_is)
    (case xhd_NoNumber => k_is)
    (case xty_NoNumber => k_is)
    (case aC_NoPattern => k_is)
    (case xbe_NoPattern => k_is)
    (case xhd_NoPattern => k_is)
    (case xty_NoPattern => k_is)
    (case aC_NoPlace => k_is)
    (case xbe_NoPlace => k_is)
    (case xhd_NoPlace => k_is)
    (case xty_NoPlace => k_is)
    (case aC_NoRules => k_is)
    (case xbe_NoRules => k_is)
    (case xhd_NoRules => k_is)
    (case xty_NoRules => k_is)
    (case aC_NoThing => k_is)
    (case xbe_NoThing => k_is)
    (case xhd_NoThing => k_is)
    (case xty_NoThing => k_is)
    (case aC_NoTongue => k_is)
    (case xbe_NoTongue => k_is)
    (case xhd_NoTongue => k_is)
    (case xty_NoTongue => k_is)
    (case aC_NoValue => k_is)
    (case xbe_NoValue => k_is)
    (case xhd_NoValue => k_is)
    (case xty_NoValue => k_is)
    (case aC_NoWriting => k_is)
    (case xbe_NoWriting => k_is)
    (case xhd_NoWriting => k_is)
    (case xty_NoWriting => k_is)
    (case aC_SayError => k_is)
    (case xbe_SayError => k_is)
    (case xhd_SayError => k_is)
    (case xty_SayError => k_is)
    (case aC_TooGreat => k_is)
    (case xbe_TooGreat => k_is)
    (case xhd_TooGreat => k_is)
    (case xty_TooGreat => k_is)
    (case aC_TooMany => k_is)
    (case xbe_TooMany => k_is)
    (case xhd_TooMany => k_is)
    (case xty_TooMany => k_is)
    (case xex_NoPattern => k_exc)
    (case xkp_NoPattern => k_is)
    (case xve_NoPattern => k_is)
    (case xme_NoPattern => k_is)
    (case xg2_NoPattern => k_is)
    (case xk2_NoPattern => k_is)
    (case xa2_NoPattern => k_is)
    (case xm2_NoPattern => k_is)
    (case xsp => k_is)
    (case xta => k_is)
    (case xs_NoPattern_Flawed => k_is)
    (case xs_NoPattern_Lacking => k_is)
    (case xs_NoPattern_NoDay => k_is)
    (case xs_NoPattern_NoMessage => k_is)
    (case xs_NoPattern_NoNumber => k_is)
    (case xs_NoPattern_NoPlace => k_is)
    (case xs_NoPattern_NoRules => k_is)
    (case xs_NoPattern_NoThing => k_is)
    (case xs_NoPattern_NoTongue => k_is)
    (case xs_NoPattern_NoValue => k_is)
    (case xs_NoPattern_NoWriting => k_is)
    (case xs_NoPattern_SayError => k_is)
    (case xs_NoPattern_TooGreat => k_is)
    (case xs_NoPattern_TooMany => k_is)
    (case z_ValueError => k_is)
    (case z_len => k_is)
    (case z_isinstance => k_is)
    (case z_str => k_is)
    (case z_int => k_is)
    (case z_bool => k_is)
    (case z_list => k_is)
    (case z_tuple => k_is)
    (case z_dict => k_is)
    (case z_set => k_is)
    (case z_range => k_is)
    (case z_enumerate => k_is)
    (case z_zip => k_is)
    (case z_reversed => k_is)
    (case z_sorted => k_is)
    (case z_sum => k_is)
    (case z_all => k_is)
    (case z_any => k_is)
    (case z_abs => k_is)
    (case z_max => k_is)
    (case z_min => k_is)
    (case z_ord => k_is)
    (case z_divmod => k_is)
    (case z_repr => k_is)
    (case g_DEEP => k_is)
    (case g_FIGURES => k_is)
    (case g_HOWS => k_is)
    (case l_k_HOWS => k_is)
    (case kd_HOWS => exact ⟨⟨_, _, rfl, rfl, rfl⟩, ⟨⟨_, _, rfl, rfl, rfl⟩, ⟨⟨_, _, rfl, rfl, rfl⟩, trivial⟩⟩⟩)
    (case low_HOWS => exact rfl)
    (case g_LETTERS => k_is)
    (case g_MARKS => k_is)
    (case l_k_MARKS => k_is)
    (case kd_MARKS => exact ⟨⟨_, _, rfl, rfl, rfl⟩, ⟨⟨_, _, rfl, rfl, rfl⟩, ⟨⟨_, _, rfl, rfl, rfl⟩, trivial⟩⟩⟩)
    (case low_MARKS => exact rfl)
    (case g_MOST_ARMS => k_is)
    (case g_MOST_BINDS => k_is)
    (case g_MOST_FIGURES => k_is)
    (case g_MOST_PARTS => k_is)
    (case g_MOST_SIGNS => k_is)
