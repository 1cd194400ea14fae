import PyProof.Rows.All
import Wide.All
import OpenK.AllK
import Wide.FinOn
import HandS.ForMost
import HandS.ForExc
import HandS.Wide
import HandS.IsInst
import HandS.StrMore
import HandS.Conv
import HandS.Deep
import HandS.TupAny
import HandS.Style
import HandS.WideBits
import HandS.EndBits
import KE.KDictKeyed
import HandS.ExcIs
import HandS.TryOnly
import HandS.HotCalls
import HandS.MakeKw
import HandS.Rev
import KE.IntTextLaws
import KE.KIntText
import HandS.Dict
import HandS.More
import KE.GoesZip
import HandS.Replace
import PyProof.MinMaxWalk
import PyProof.WalkInts
import PyProof.SeqI3
import KE.DataMinMax
import HandS.SortKw
import HandS.SetFor
import HandS.Strs
import HandS.NoneIn
import HandS.SetTxt0
import PySem.Challenge.RW_saywell_k53_whole_roads
set_option Elab.async false
set_option linter.all false
set_option maxRecDepth 100000
set_option autoImplicit false
set_option maxHeartbeats 4000000
namespace DL
open PySem PySem.Spec PyProof.Rows L2

/-! ### data -/
/-- what a value tells: texts by their codes; scr: a list of ints from outside; obj: an instance that stays as it is -/
inductive D where
  | non | bl (b : Bool) | int (i : Int) | str (s : List Nat)
  | lst (ds : List D) | tup (ds : List D) | scr (ns : List Int) | dic (es : List (D × D)) | obj (c : Nat) (fs : List (Nat × D)) | ty (n : String) | err (a : Addr) (c : Nat) | loc (n : Nat)
instance : Inhabited D := ⟨.non⟩
/-- the text of these codes -/
def tx (s : List Nat) : Str := ⟨s.toArray⟩
theorem tx_cps (x : Str) : tx x.cps.toList = x := rfl
theorem cps_tx (s : List Nat) : (tx s).cps.toList = s := rfl
theorem tx_inj {s t : List Nat} (h : tx s = tx t) : s = t := by
  have := congrArg (fun x : Str => x.cps.toList) h
  exact this
theorem tx_len (s : List Nat) : (tx s).length = s.length := by simp [tx, Str.length]
theorem tx_app (s t : List Nat) : tx s ++ tx t = tx (s ++ t) := by
  show Str.append (tx s) (tx t) = _
  simp [Str.append, tx]
/-- a name's number: its signs, base 256 -/
def nmL : Nat → Nat → List Nat → List Nat
  | 0, _, acc => acc
  | k + 1, n, acc => if n = 0 then acc else nmL k (n / 256) (n % 256 :: acc)
def nmS (n : Nat) : Str := tx (nmL 64 n [])
def nmV (l : List Nat) (a : Nat) : Nat := l.foldl (fun a c => a * 256 + c) a
theorem nmL_val : ∀ (k n : Nat) (acc : List Nat), n < 256 ^ k → nmV (nmL k n acc) 0 = nmV acc n
  | 0, n, acc, h => by
    have : n = 0 := by simpa using h
    subst this; rfl
  | k + 1, n, acc, h => by
    unfold nmL
    split
    · rename_i h0; rw [h0]
    · rw [nmL_val k (n / 256) _ (by rw [Nat.pow_succ] at h; omega)]
      show nmV acc (n / 256 * 256 + n % 256) = _
      congr 1; omega
abbrev okN (n : Nat) : Prop := n < 256 ^ 64
theorem nmS_inj {n m : Nat} (h : okN n) (h' : okN m) (e : nmS n = nmS m) : n = m := by
  have e1 : nmV (nmL 64 n []) 0 = nmV (nmL 64 m []) 0 := congrArg (fun l => nmV l 0) (tx_inj e)
  rw [nmL_val 64 n [] h, nmL_val 64 m [] h'] at e1
  exact e1
/-- what stands behind the top, as far as it is needed -/
structure Gx where
  K : PySem.W.Frag
  mg : Str → Option Value
  w : World
/-- what stays, and where the things of the store stand -/
structure Fz where
  f : Hp
  m : List Addr
instance : CoeFun Fz (fun _ => Addr → Option HO) := ⟨Fz.f⟩
instance : Coe Fz Hp := ⟨Fz.f⟩
def Fz.up (F : Fz) (p : Addr) (u : HO) : Fz := ⟨upd F.f p u, F.m⟩
def SmF (F F' : Fz) : Prop := Same F.f F'.f ∧ F.m <+: F'.m
theorem SmF.refl (F : Fz) : SmF F F := ⟨Same.refl _, List.prefix_refl _⟩
theorem SmF.trans {F F1 F2 : Fz} (a : SmF F F1) (b : SmF F1 F2) : SmF F F2 := ⟨a.1.trans b.1, a.2.trans b.2⟩
theorem SmF.free {F F' : Fz} (e : SmF F F') {p : Addr} (h : F' p = none) : F p = none := e.1.free h
theorem SmF.of {f f' : Hp} {m : List Addr} (h : Same f f') : SmF ⟨f, m⟩ ⟨f', m⟩ := ⟨h, List.prefix_refl _⟩
theorem SmF.up {F : Fz} {f' : Hp} (h : Same F.f f') : SmF F ⟨f', F.m⟩ := ⟨h, List.prefix_refl _⟩
theorem pre_get {m m' : List Addr} (h : m <+: m') {n : Nat} {a : Addr} (e : m[n]? = some a) : m'[n]? = some a := by
  obtain ⟨t, rfl⟩ := h
  have hn : n < m.length := (List.getElem?_eq_some_iff.mp e).1
  rw [List.getElem?_append_left hn]; exact e
/-- all signs are signs -/
def okS (s : List Nat) : Bool := s.all (· < 1114112)
theorem okS_app {s t : List Nat} (h : okS s = true) (h' : okS t = true) : okS (s ++ t) = true := by
  unfold okS at *; rw [List.all_append, h, h']; rfl
theorem okS_sub {s t : List Nat} (h : okS s = true) (i : ∀ c ∈ t, c ∈ s) : okS t = true := by
  unfold okS at *
  rw [List.all_eq_true] at h ⊢
  exact fun c m => h c (i c m)
def okK : Key → Bool
  | .inl _ => true
  | .inr x => okS x.cps.toList
def keyD : Key → D
  | .inl i => .int i
  | .inr x => .str x.cps.toList
mutual
inductive Rp (G : Gx) (F : Fz) : V → D → Prop
  | non : Rp G F .non .non
  | bl (b : Bool) : Rp G F (.bl b) (.bl b)
  | int (i : Int) : Rp G F (.int i) (.int i)
  | str (s : List Nat) (h : okS s = true) : Rp G F (.str (tx s)) (.str s)
  | ty (n : String) : Rp G F (.ty n) (.ty n)
  | err (a : Addr) (c : Nat) : Rp G F (.ref a) (.err a c)
  | loc {a : Addr} {n : Nat} : F.m[n]? = some a → Rp G F (.ref a) (.loc n)
  | lst {a : Addr} {xs : List V} {ds : List D} : F a = some (.lst xs) → RpAll G F xs ds → Rp G F (.ref a) (.lst ds)
  | tup {a : Addr} {xs : List V} {ds : List D} : SqT G.K F.f a xs → RpAll G F xs ds → Rp G F (.ref a) (.tup ds)
  | scr {a : Addr} {ns : List Int} : SqL G.K F.f a (ns.map V.int) → Rp G F (.ref a) (.scr ns)
  | dicK {a : Addr} {kvs : List (Key × V)} {es : List (D × D)} : F a = some (.dK kvs) → RpK G F kvs es → Rp G F (.ref a) (.dic es)
  | obj {a dx C : Addr} {c : Nat} {fs : List (Str × V)} {es : List (Nat × D)} : F a = some (.ins C dx fs) → F dx = some (.own a) → G.mg (nmS c) = some (.ref C) → RpF G F fs es → Rp G F (.ref a) (.obj c es)
inductive RpAll (G : Gx) (F : Fz) : List V → List D → Prop
  | nil : RpAll G F [] []
  | cons {v : V} {vs : List V} {d : D} {ds : List D} : Rp G F v d → RpAll G F vs ds → RpAll G F (v :: vs) (d :: ds)
inductive RpK (G : Gx) (F : Fz) : List (Key × V) → List (D × D) → Prop
  | nil : RpK G F [] []
  | cons {k : Key} {v : V} {vs : List (Key × V)} {d : D} {ds : List (D × D)} : okK k = true → Rp G F v d → RpK G F vs ds → RpK G F ((k, v) :: vs) ((keyD k, d) :: ds)
inductive RpF (G : Gx) (F : Fz) : List (Str × V) → List (Nat × D) → Prop
  | nil : RpF G F [] []
  | cons {k : Nat} {v : V} {vs : List (Str × V)} {d : D} {ds : List (Nat × D)} : okN k → Rp G F v d → RpF G F vs ds → RpF G F ((nmS k, v) :: vs) ((k, d) :: ds)
end
theorem same_seqT {K : PySem.W.Frag} {H H' : Hp} {a : Addr} {xs : List V} (e : Same H H') (h : SqT K H a xs) : SqT K H' a xs := by
  rcases h with (h | ⟨o, h⟩) | h
  · exact .inl (.inl (e _ _ h))
  · exact .inl (.inr ⟨o, e _ _ h⟩)
  · exact .inr h
mutual
theorem Rp.mono {G : Gx} {F F' : Fz} (e : SmF F F') : ∀ {v : V} {d : D}, Rp G F v d → Rp G F' v d
  | _, _, .non => .non
  | _, _, .bl b => .bl b
  | _, _, .int i => .int i
  | _, _, .str x h => .str x h
  | _, _, .ty n => .ty n
  | _, _, .err a c => .err a c
  | _, _, .loc h => .loc (pre_get e.2 h)
  | _, _, .lst h t => .lst (e.1 _ _ h) (RpAll.mono e t)
  | _, _, .tup h t => .tup (same_seqT e.1 h) (RpAll.mono e t)
  | _, _, .scr h => .scr (e.1.seq h)
  | _, _, .dicK h t => .dicK (e.1 _ _ h) (RpK.mono e t)
  | _, _, .obj h h' g t => .obj (e.1 _ _ h) (e.1 _ _ h') g (RpF.mono e t)
theorem RpAll.mono {G : Gx} {F F' : Fz} (e : SmF F F') : ∀ {vs : List V} {ds : List D}, RpAll G F vs ds → RpAll G F' vs ds
  | _, _, .nil => .nil
  | _, _, .cons h t => .cons (Rp.mono e h) (RpAll.mono e t)
theorem RpK.mono {G : Gx} {F F' : Fz} (e : SmF F F') : ∀ {vs : List (Key × V)} {ds : List (D × D)}, RpK G F vs ds → RpK G F' vs ds
  | _, _, .nil => .nil
  | _, _, .cons o h t => .cons o (Rp.mono e h) (RpK.mono e t)
theorem RpF.mono {G : Gx} {F F' : Fz} (e : SmF F F') : ∀ {vs : List (Str × V)} {ds : List (Nat × D)}, RpF G F vs ds → RpF G F' vs ds
  | _, _, .nil => .nil
  | _, _, .cons o h t => .cons o (Rp.mono e h) (RpF.mono e t)
end
section
variable {G : Gx} {F : Fz}
theorem RpAll.length : ∀ {vs : List V} {ds : List D}, RpAll G F vs ds → vs.length = ds.length
  | _, _, .nil => rfl
  | _, _, .cons _ t => congrArg Nat.succ (RpAll.length t)
theorem RpAll.append : ∀ {vs ws : List V} {ds es : List D}, RpAll G F vs ds → RpAll G F ws es → RpAll G F (vs ++ ws) (ds ++ es)
  | _, _, _, _, .nil, b => b
  | _, _, _, _, .cons h t, b => .cons h (RpAll.append t b)
theorem RpAll.one {v : V} {d : D} (h : Rp G F v d) : RpAll G F [v] [d] := .cons h .nil
theorem RpAll.get : ∀ {vs : List V} {ds : List D} {i : Nat} {d : D}, RpAll G F vs ds → ds[i]? = some d → ∃ v, vs[i]? = some v ∧ Rp G F v d
  | _, _, _, _, .nil, e => by simp at e
  | _, _, 0, _, .cons h _, e => by simp at e; subst e; exact ⟨_, rfl, h⟩
  | _, _, i + 1, _, .cons _ t, e => by
    obtain ⟨v, e', h⟩ := RpAll.get (i := i) t (by simpa using e)
    exact ⟨v, by simpa using e', h⟩
theorem RpAll.getV : ∀ {vs : List V} {ds : List D} {i : Nat} {v : V}, RpAll G F vs ds → vs[i]? = some v → ∃ d, ds[i]? = some d ∧ Rp G F v d
  | _, _, _, _, .nil, e => by simp at e
  | _, _, 0, _, .cons h _, e => by simp at e; subst e; exact ⟨_, rfl, h⟩
  | _, _, i + 1, _, .cons _ t, e => by
    obtain ⟨v, e', h⟩ := RpAll.getV (i := i) t (by simpa using e)
    exact ⟨v, by simpa using e', h⟩
theorem RpAll.take : ∀ {vs : List V} {ds : List D} (n : Nat), RpAll G F vs ds → RpAll G F (vs.take n) (ds.take n)
  | _, _, 0, _ => by simp; exact .nil
  | _, _, _ + 1, .nil => .nil
  | _, _, n + 1, .cons h t => .cons h (RpAll.take n t)
theorem RpAll.drop : ∀ {vs : List V} {ds : List D} (n : Nat), RpAll G F vs ds → RpAll G F (vs.drop n) (ds.drop n)
  | _, _, 0, h => h
  | _, _, _ + 1, .nil => .nil
  | _, _, n + 1, .cons _ t => RpAll.drop n t
theorem RpAll.set : ∀ {vs : List V} {ds : List D} (n : Nat) {v : V} {d : D}, RpAll G F vs ds → Rp G F v d → RpAll G F (vs.set n v) (ds.set n d)
  | _, _, _, _, _, .nil, _ => .nil
  | _, _, 0, _, _, .cons _ t, h => .cons h t
  | _, _, n + 1, _, _, .cons h' t, h => .cons h' (RpAll.set n t h)
theorem rp_ints (G : Gx) (F : Fz) : ∀ ns : List Int, RpAll G F (ns.map V.int) (ns.map D.int)
  | [] => .nil
  | n :: r => .cons (.int n) (rp_ints G F r)
theorem rp_strs (G : Gx) (F : Fz) : ∀ ns : List (List Nat), (∀ n ∈ ns, okS n = true) → RpAll G F (ns.map (V.str ∘ tx)) (ns.map D.str)
  | [], _ => .nil
  | n :: r, h => .cons (.str n (h n (List.mem_cons_self ..))) (rp_strs G F r fun m q => h m (List.mem_cons_of_mem _ q))
theorem rp_strs_inv : ∀ {vs : List V} {ns : List (List Nat)}, RpAll G F vs (ns.map D.str) → vs = (ns.map tx).map V.str
  | [], [], _ => rfl
  | [], _ :: _, h => by cases h
  | _ :: _, [], h => by cases h
  | v :: vs, n :: ns, h => by
    cases h with
    | cons h t =>
      cases h
      rw [rp_strs_inv t]; rfl
theorem rp_ints_inv : ∀ {vs : List V} {ns : List Int}, RpAll G F vs (ns.map D.int) → vs = ns.map V.int
  | [], [], _ => rfl
  | [], _ :: _, h => by cases h
  | _ :: _, [], h => by cases h
  | v :: vs, n :: ns, h => by
    cases h with
    | cons h t =>
      cases h
      rw [rp_ints_inv t]; rfl
theorem rp_bools_inv : ∀ {vs : List V} {ns : List Bool}, RpAll G F vs (ns.map D.bl) → vs = ns.map V.bl
  | [], [], _ => rfl
  | [], _ :: _, h => by cases h
  | _ :: _, [], h => by cases h
  | v :: vs, n :: ns, h => by
    cases h with
    | cons h t =>
      cases h
      rw [rp_bools_inv t]; rfl
end

/-! ### the state -/
/-- what an object of a slot's own holds -/
inductive Ow where
  | l (ds : List D) | k (es : List (D × D))
inductive OwRel (G : Gx) (F : Fz) : HO → Ow → Prop
  | l {xs : List V} {ds : List D} : RpAll G F xs ds → OwRel G F (.lst xs) (.l ds)
  | kK {xs : List (Key × V)} {ds : List (D × D)} : RpK G F xs ds → OwRel G F (.dK xs) (.k ds)
theorem OwRel.mono {G : Gx} {F F' : Fz} (e : SmF F F') {u : HO} {o : Ow} (h : OwRel G F u o) : OwRel G F' u o := by
  cases h with
  | l t => exact .l (t.mono e)
  | kK t => exact .kK (t.mono e)
def Ow.d : Ow → D
  | .l ds => .lst ds
  | .k es => .dic es
theorem OwRel.rp {G : Gx} {F : Fz} {u : HO} {o : Ow} {a : Addr} (h : OwRel G F u o) (e : F a = some u) : Rp G F (.ref a) o.d := by
  cases h with
  | l t => exact .lst e t
  | kK t => exact .dicK e t
/-! a dict whose keys are tuples -/
mutual
def keyN : D → Option NestedKey
  | .non => some .none
  | .int i => some (.num i)
  | .str s => some (.text (tx s))
  | .tup ds => (keyNs ds).map .tup
  | _ => none
def keyNs : List D → Option (List NestedKey)
  | [] => some []
  | d :: r => match keyN d, keyNs r with
    | some k, some ks => some (k :: ks)
    | _, _ => none
end
/-- a tuple that is a key: not too deep -/
def keyT (d : D) : Option NestedKey := match d with
  | .tup _ => match keyN d with
    | some k => if k.depth ≤ 8 then some k else none
    | none => none
  | _ => none
def TalO (w : World) (a : Addr) (kvs : List (NestedKey × Addr × V)) : HO := .ext fun h => kvs.length ≤ sizeLine ∧ (a == sysModules) = false ∧ ∃ us : List Value, Vals (kvs.map (·.2.2)) us ∧
  ∃ o es ep, h.get? a = some o ∧ o.ExactDict ∧ o.data = .dict es ep ∧ es.toList = (kvs.zip us).map (fun p => (⟨p.1.1.hash w, .ref p.1.2.1, p.2⟩ : DictEntry)) ∧ (kvs.map (·.1)).Nodup
theorem tal_not {w : World} {a : Addr} {kvs : List (NestedKey × Addr × V)} : ∀ x : Addr, TalO w a kvs ≠ HO.own x := fun x z => by
  unfold TalO at z; cases z
inductive RpT (G : Gx) (F : Fz) : List (NestedKey × Addr × V) → List (D × D) → Prop
  | nil : RpT G F [] []
  | cons {k : NestedKey} {a : Addr} {v : V} {vs : List (NestedKey × Addr × V)} {d x : D} {es : List (D × D)} : keyT d = some k → Rp G F (.ref a) d → Rp G F v x → RpT G F vs es → RpT G F ((k, a, v) :: vs) ((d, x) :: es)
theorem RpT.mono {G : Gx} {F F' : Fz} (e : SmF F F') : ∀ {vs : List (NestedKey × Addr × V)} {es : List (D × D)}, RpT G F vs es → RpT G F' vs es
  | _, _, .nil => .nil
  | _, _, .cons k r x t => .cons k (r.mono e) (x.mono e) (RpT.mono e t)
/-- a thing of the store: a list or a dict, an instance, a dict whose keys are tuples -/
inductive Ob where
  | o (w : Ow) | i (c : Nat) (fs : List (Nat × D)) | t (es : List (D × D))
abbrev Store := List Ob
def Ob.d : Ob → D
  | .o w => w.d
  | .i c fs => .obj c fs
  | .t _ => .non
def ObOk (G : Gx) (F : Fz) (H : Hp) (a : Addr) : Ob → Prop
  | .o w => ∃ u, H a = some u ∧ OwRel G F u w
  | .i c fs => ∃ C dx vs, H a = some (.ins C dx vs) ∧ H dx = some (.own a) ∧ G.mg (nmS c) = some (.ref C) ∧ RpF G F vs fs
  | .t es => ∃ kvs, H a = some (TalO G.w a kvs) ∧ RpT G F kvs es
theorem ObOk.grow {G : Gx} {F F' : Fz} {H H' : Hp} {a : Addr} {ob : Ob} (e : SmF F F') (k : Same H H') (h : ObOk G F H a ob) : ObOk G F' H' a ob := by
  cases ob with
  | o w => obtain ⟨u, h1, h2⟩ := h; exact ⟨u, k _ _ h1, h2.mono e⟩
  | i c fs => obtain ⟨C, dx, vs, h1, h2, h3, h4⟩ := h; exact ⟨C, dx, vs, k _ _ h1, k _ _ h2, h3, h4.mono e⟩
  | t es => obtain ⟨kvs, h1, h2⟩ := h; exact ⟨kvs, k _ _ h1, h2.mono e⟩
theorem ObOk.ex {G : Gx} {F : Fz} {H : Hp} {a : Addr} {ob : Ob} (h : ObOk G F H a ob) : ∃ u, H a = some u := by
  cases ob with
  | o w => obtain ⟨u, h1, h2⟩ := h; exact ⟨u, h1⟩
  | i c fs => obtain ⟨C, dx, vs, h1, _⟩ := h; exact ⟨_, h1⟩
  | t es => obtain ⟨kvs, h1, _⟩ := h; exact ⟨_, h1⟩
/-- another thing changes -/
theorem ObOk.chg {G : Gx} {F : Fz} {H : Hp} {a p : Addr} {u : HO} {ob : Ob} (h : ObOk G F H a ob) (n : a ≠ p) (no : ∀ x : Addr, H p ≠ some (HO.own x)) : ObOk G F (upd H p u) a ob := by
  cases ob with
  | o w => obtain ⟨u, h1, h2⟩ := h; exact ⟨u, by rw [upd_ne n]; exact h1, h2⟩
  | i c fs =>
    obtain ⟨C, dx, vs, h1, h2, h3, h4⟩ := h
    have hd : dx ≠ p := fun z => no a (by rw [← z]; exact h2)
    exact ⟨C, dx, vs, by rw [upd_ne n]; exact h1, by rw [upd_ne hd]; exact h2, h3, h4⟩
  | t es => obtain ⟨kvs, h1, h2⟩ := h; exact ⟨kvs, by rw [upd_ne n]; exact h1, h2⟩
/-- what a slot holds: nothing that is known, a datum that stays, an object of its own that may change -/
inductive Sl where
  | no | d (x : D) | own (o : Ow)
/-- .. of maps of what stays -/
def GrH (B f f' : Hp) : Prop := Same f f' ∧ ∀ a, f a = none → f' a ≠ none → B a = none
theorem GrH.refl {B F : Hp} : GrH B F F := ⟨Same.refl F, fun a h h' => absurd h h'⟩
theorem GrH.trans {B F F1 F2 : Hp} (a : GrH B F F1) (b : GrH B F1 F2) : GrH B F F2 := ⟨a.1.trans b.1, fun x h h' => by
  by_cases e : F1 x = none
  · exact b.2 x e h'
  · exact a.2 x h e⟩
theorem GrH.under {B H F F' : Hp} (e : Same B H) (g : GrH H F F') : GrH B F F' := ⟨g.1, fun a h h' => e.free (g.2 a h h')⟩
def Gr (B : Hp) (F F' : Fz) : Prop := SmF F F' ∧ ∀ a, F a = none → F' a ≠ none → B a = none
theorem Gr.refl {B : Hp} {F : Fz} : Gr B F F := ⟨SmF.refl F, fun a h h' => absurd h h'⟩
theorem Gr.trans {B : Hp} {F F1 F2 : Fz} (a : Gr B F F1) (b : Gr B F1 F2) : Gr B F F2 := ⟨a.1.trans b.1, fun x h h' => by
  by_cases e : F1 x = none
  · exact b.2 x e h'
  · exact a.2 x h e⟩
theorem Gr.under {B H : Hp} {F F' : Fz} (e : Same B H) (g : Gr H F F') : Gr B F F' := ⟨g.1, fun a h h' => e.free (g.2 a h h')⟩
theorem GrH.z {B : Hp} {F : Fz} {f' : Hp} (g : GrH B F.f f') : Gr B F ⟨f', F.m⟩ := ⟨.up g.1, g.2⟩
def SlOk (G : Gx) (B : Hp) (F : Fz) (H : Hp) (o : Option (Option V)) : Sl → Prop
  | .no => True
  | .d x => ∃ v, o = some (some v) ∧ Rp G F v x
  | .own w => ∃ p u, o = some (some (.ref p)) ∧ H p = some u ∧ F p = none ∧ B p = none ∧ OwRel G F u w ∧ p ∉ F.m
/-- the store's things -/
structure StOk (G : Gx) (B : Hp) (F : Fz) (H : Hp) (st : Store) : Prop where
  ml : F.m.length = st.length
  mn : F.m.Nodup
  ob : ∀ (n : Nat) (x : Ob) (a : Addr), st[n]? = some x → F.m[n]? = some a → F a = none ∧ B a = none ∧ ObOk G F H a x
structure Ok (G : Gx) (B : Hp) (F : Fz) (σ : L2.St) (H : Hp) (S : List Sl) (st : Store) : Prop where
  fH : Same F.f H
  kp : Same B H
  so : StOk G B F H st
  len : σ.length = S.length
  sl : ∀ (i : Nat) (s : Sl), S[i]? = some s → SlOk G B F H σ[i]? s
  ap : ∀ (i j : Nat) (ds es : Ow) (p : Addr), S[i]? = some (.own ds) → S[j]? = some (.own es) → σ[i]? = some (some (.ref p)) → σ[j]? = some (some (.ref p)) → i = j
section
variable {G : Gx} {B H H' : Hp} {F F' : Fz} {f' : Hp} {σ : L2.St} {S : List Sl} {st : Store}
theorem StOk.has (o : StOk G B F H st) {n : Nat} {a : Addr} (h : F.m[n]? = some a) : ∃ x, st[n]? = some x ∧ F a = none ∧ B a = none ∧ ObOk G F H a x := by
  have hn : n < st.length := by rw [← o.ml]; exact (List.getElem?_eq_some_iff.mp h).1
  exact ⟨_, List.getElem?_eq_getElem hn, o.ob n _ a (List.getElem?_eq_getElem hn) h⟩
theorem StOk.mem (o : StOk G B F H st) {a : Addr} (h : a ∈ F.m) : F a = none ∧ (∃ u, H a = some u) ∧ ∃ (n : Nat) (x : Ob), F.m[n]? = some a ∧ st[n]? = some x ∧ B a = none ∧ ObOk G F H a x := by
  obtain ⟨n, hn⟩ := List.getElem?_of_mem h
  obtain ⟨x, e, h1, h2, h3⟩ := o.has hn
  exact ⟨h1, h3.ex, n, x, hn, e, h2, h3⟩
theorem StOk.new (o : StOk G B F H st) {p : Addr} (h : H p = none) : p ∉ F.m := fun z => by
  obtain ⟨_, ⟨u, hu⟩, _⟩ := o.mem z
  rw [h] at hu; cases hu
theorem StOk.grow (o : StOk G B F H st) (g : GrH H F.f f') (k : Same H H') : StOk G B ⟨f', F.m⟩ H' st := by
  refine ⟨o.ml, o.mn, fun n x a e1 e2 => ?_⟩
  obtain ⟨h1, h2, h3⟩ := o.ob n x a e1 e2
  refine ⟨?_, h2, h3.grow (.up g.1) k⟩
  cases q : f' a with
  | none => exact q
  | some u =>
    have := g.2 a h1 (by rw [q]; simp)
    obtain ⟨u', hu⟩ := h3.ex
    rw [hu] at this; cases this
/-- the heap grows, so does what stays -/
theorem Ok.grow (o : Ok G B F σ H S st) (g : GrH H F.f f') (k : Same H H') (f : Same f' H') : Ok G B ⟨f', F.m⟩ σ H' S st := by
  refine ⟨f, o.kp.trans k, o.so.grow g k, o.len, fun i s e => ?_, o.ap⟩
  have h := o.sl i s e
  cases s with
  | no => trivial
  | d x =>
    obtain ⟨v, e1, r⟩ := h
    exact ⟨v, e1, r.mono (.up g.1)⟩
  | own ds =>
    obtain ⟨p, xs, e1, h1, h2, h3, r, nm⟩ := h
    refine ⟨p, xs, e1, k _ _ h1, ?_, h3, r.mono (.up g.1), nm⟩
    cases q : f' p with
    | none => exact q
    | some u =>
      have := g.2 p h2 (by rw [q]; simp)
      rw [h1] at this; cases this
theorem same_new {H : Hp} {p : Addr} {o : HO} (h : H p = none) : Same H (upd H p o) := fun b u q => by rw [upd_ne (ne_of_none q h)]; exact q
theorem same_upd2 {F H : Hp} {p : Addr} {o : HO} (f : Same F H) : Same (upd F p o) (upd H p o) := fun b u q => by
  by_cases e : b = p
  · subst e; rw [upd_same] at q ⊢; exact q
  · rw [upd_ne e] at q ⊢; exact f _ _ q
theorem gr_new {F H : Hp} {p : Addr} {o : HO} (f : Same F H) (h : H p = none) : GrH H F (upd F p o) := ⟨same_new (f.free h), fun a h1 h2 => by
  by_cases e : a = p
  · subst e; exact h
  · rw [upd_ne e] at h2; exact absurd h1 h2⟩
theorem Ok.gnew (o : Ok G B F σ H S st) {p : Addr} {u : HO} (h : H p = none) : Ok G B (F.up p u) σ (upd H p u) S st := o.grow (gr_new o.fH h) (same_new h) (same_upd2 o.fH)
theorem Ok.gr (o : Ok G B F σ H S st) (g : GrH H F.f f') : Gr B F ⟨f', F.m⟩ := (g.under o.kp).z
theorem Ok.grN (o : Ok G B F σ H S st) {p : Addr} {u : HO} (h : H p = none) : Gr B F (F.up p u) := o.gr (gr_new o.fH h)
/-- a new object that isn't told of -/
theorem Ok.junk (o : Ok G B F σ H S st) (k : Same H H') : Ok G B F σ H' S st := o.grow .refl k (o.fH.trans k)
theorem Ok.get {i : Nat} {x : D} (o : Ok G B F σ H S st) (e : S[i]? = some (.d x)) : ∃ v, σ[i]? = some (some v) ∧ Rp G F v x := o.sl i _ e
theorem set_lt {α : Type} {S : List α} {i j : Nat} {x s : α} (e : (S.set i x)[j]? = some s) (z : i = j) : i < S.length := by
  subst z
  have := (List.getElem?_eq_some_iff.mp e).1
  rw [List.length_set] at this; exact this
/-- a slot takes a datum -/
theorem Ok.set (o : Ok G B F σ H S st) (i : Nat) {v : V} {x : D} (r : Rp G F v x) : Ok G B F (σ.set i (some v)) H (S.set i (.d x)) st := by
  refine ⟨o.fH, o.kp, o.so, by rw [List.length_set, List.length_set]; exact o.len, fun j s e => ?_, fun j k ds es p e1 e2 e3 e4 => ?_⟩
  · by_cases hj : i = j
    · have hi := set_lt e hj
      subst hj
      rw [List.getElem?_set_self hi] at e
      cases e
      exact ⟨v, by rw [List.getElem?_set_self (by rw [o.len]; exact hi)], r⟩
    · rw [List.getElem?_set_ne hj] at e
      have h := o.sl j s e
      rw [List.getElem?_set_ne hj]
      exact h
  · have n1 : i ≠ j := fun z => by
      have hi := set_lt e1 z
      subst z
      rw [List.getElem?_set_self hi] at e1; cases e1
    have n2 : i ≠ k := fun z => by
      have hi := set_lt e2 z
      subst z
      rw [List.getElem?_set_self hi] at e2; cases e2
    rw [List.getElem?_set_ne n1] at e1 e3
    rw [List.getElem?_set_ne n2] at e2 e4
    exact o.ap j k ds es p e1 e2 e3 e4
/-- a slot takes an object of its own: H p is known, p is no other slot's, nor kept, nor frozen -/
theorem Ok.setOwnAt (o : Ok G B F σ H S st) (i : Nat) {p : Addr} {u : HO} {w : Ow} (h : H p = some u) (hF : F p = none) (hB : B p = none) (hm : p ∉ F.m) (r : OwRel G F u w)
    (no : ∀ (j : Nat) (es : Ow), S[j]? = some (.own es) → σ[j]? ≠ some (some (.ref p))) : Ok G B F (σ.set i (some (.ref p))) H (S.set i (.own w)) st := by
  refine ⟨o.fH, o.kp, o.so, by rw [List.length_set, List.length_set]; exact o.len, fun j s e => ?_, fun j k ds1 es p1 e1 e2 e3 e4 => ?_⟩
  · by_cases hj : i = j
    · have hi := set_lt e hj
      subst hj
      rw [List.getElem?_set_self hi] at e
      cases e
      exact ⟨p, u, by rw [List.getElem?_set_self (by rw [o.len]; exact hi)], h, hF, hB, r, hm⟩
    · rw [List.getElem?_set_ne hj] at e
      rw [List.getElem?_set_ne hj]
      exact o.sl j s e
  · by_cases hj : i = j
    · by_cases hk : i = k
      · exact hj.symm.trans hk
      · have hi := set_lt e1 hj
        subst hj
        rw [List.getElem?_set_self (by rw [o.len]; exact hi)] at e3
        rw [List.getElem?_set_ne hk] at e2 e4
        have e5 : p1 = p := by
          have := Option.some.inj (Option.some.inj e3)
          exact (V.ref.inj this).symm
        exact absurd (by rw [← e5]; exact e4) (no k es e2)
    · by_cases hk : i = k
      · have hi := set_lt e2 hk
        subst hk
        rw [List.getElem?_set_self (by rw [o.len]; exact hi)] at e4
        rw [List.getElem?_set_ne hj] at e1 e3
        have e5 : p1 = p := by
          have := Option.some.inj (Option.some.inj e4)
          exact (V.ref.inj this).symm
        exact absurd (by rw [← e5]; exact e3) (no j ds1 e1)
      · rw [List.getElem?_set_ne hj] at e1 e3
        rw [List.getElem?_set_ne hk] at e2 e4
        exact o.ap j k ds1 es p1 e1 e2 e3 e4
/-- a slot takes an object that is new -/
theorem Ok.setOwn (o : Ok G B F σ H S st) (i : Nat) {p : Addr} {u : HO} {w : Ow} (h : H p = none) (r : OwRel G F u w) : Ok G B F (σ.set i (some (.ref p))) (upd H p u) (S.set i (.own w)) st := by
  refine (o.junk (same_new h)).setOwnAt i upd_same (o.fH.free h) (o.kp.free h) (o.so.new h) r fun j es e1 e2 => ?_
  obtain ⟨p', xs', e3, h1, _⟩ := o.sl j _ e1
  rw [e2] at e3; cases e3
  rw [h] at h1; cases h1
/-- the own object of a slot changes -/
theorem Ok.chg (o : Ok G B F σ H S st) {i : Nat} {p : Addr} {u : HO} {w w' : Ow} (e : S[i]? = some (.own w)) (ep : σ[i]? = some (some (.ref p))) (r : OwRel G F u w') : Ok G B F σ (upd H p u) (S.set i (.own w')) st := by
  obtain ⟨p', xs', e3, h1, h2, h3, hr, hm⟩ := o.sl i _ e
  rw [ep] at e3; cases e3
  have hi : i < S.length := (List.getElem?_eq_some_iff.mp e).1
  have old : ∀ (j : Nat) (es' : Ow), (S.set i (.own w'))[j]? = some (.own es') → ∃ ds', S[j]? = some (.own ds') := fun j es' q => by
    by_cases hj : i = j
    · subst hj; exact ⟨w, e⟩
    · rw [List.getElem?_set_ne hj] at q; exact ⟨es', q⟩
  have hno : ∀ x : Addr, H p ≠ some (HO.own x) := fun x z => by
    rw [h1] at z; cases z; cases hr
  refine ⟨fun b u q => ?_, fun b u q => ?_, ⟨o.so.ml, o.so.mn, fun n x a q1 q2 => ?_⟩, by rw [List.length_set]; exact o.len, fun j s q => ?_, fun j k ds1 es1 p1 q1 q2 q3 q4 => ?_⟩
  · rw [upd_ne (ne_of_none q h2)]; exact o.fH _ _ q
  · rw [upd_ne (ne_of_none q h3)]; exact o.kp _ _ q
  · obtain ⟨k1, k2, k3⟩ := o.so.ob n x a q1 q2
    exact ⟨k1, k2, k3.chg (fun z => hm (by rw [← z]; exact List.mem_of_getElem? q2)) hno⟩
  · by_cases hj : i = j
    · subst hj
      rw [List.getElem?_set_self hi] at q
      cases q
      exact ⟨p, u, ep, upd_same, h2, h3, r, hm⟩
    · rw [List.getElem?_set_ne hj] at q
      have w := o.sl j s q
      cases s with
      | no => trivial
      | d x => exact w
      | own es' =>
        obtain ⟨p2, xs2, a1, a2, a3, a4, a5, a6⟩ := w
        have : p2 ≠ p := fun z => hj (o.ap i j _ es' p2 e q (by rw [z]; exact ep) a1)
        exact ⟨p2, xs2, a1, by rw [upd_ne this]; exact a2, a3, a4, a5, a6⟩
  · obtain ⟨d1, b1⟩ := old j ds1 q1
    obtain ⟨d2, b2⟩ := old k es1 q2
    exact o.ap j k d1 d2 p1 b1 b2 q3 q4
/-- an own object is left as it is, from here on -/
theorem Ok.frz (o : Ok G B F σ H S st) {i : Nat} {w : Ow} (e : S[i]? = some (.own w)) : ∃ F' p, Gr B F F' ∧ Ok G B F' σ H (S.set i (.d w.d)) st ∧ σ[i]? = some (some (.ref p)) ∧ Rp G F' (.ref p) w.d := by
  obtain ⟨p, u, ep, h1, h2, h3, r, hm⟩ := o.sl i _ e
  have sm0 : Same F.f (upd F.f p u) := same_new h2
  have sm : SmF F (F.up p u) := .up sm0
  have hi : i < S.length := (List.getElem?_eq_some_iff.mp e).1
  have rr : Rp G (F.up p u) (.ref p) w.d := (r.mono sm).rp upd_same
  refine ⟨F.up p u, p, ⟨sm, fun a q1 q2 => ?_⟩, ⟨fun b u q => ?_, o.kp, ⟨o.so.ml, o.so.mn, fun n x a q1 q2 => ?_⟩, by rw [List.length_set]; exact o.len, fun j s q => ?_, fun j k ds1 es1 p1 q1 q2 q3 q4 => ?_⟩, ep, rr⟩
  · by_cases z : a = p
    · subst z; exact h3
    · have q2 : upd F.f p u a ≠ none := q2
      rw [upd_ne z] at q2; exact absurd q1 q2
  · have q : upd F.f p _ b = _ := q
    by_cases z : b = p
    · subst z; rw [upd_same] at q; cases q; exact h1
    · rw [upd_ne z] at q; exact o.fH _ _ q
  · obtain ⟨k1, k2, k3⟩ := o.so.ob n x a q1 q2
    have z : a ≠ p := fun z => hm (by rw [← z]; exact List.mem_of_getElem? q2)
    exact ⟨by show upd F.f p u a = none; rw [upd_ne z]; exact k1, k2, k3.grow sm (Same.refl H)⟩
  · by_cases hj : i = j
    · subst hj
      rw [List.getElem?_set_self hi] at q
      cases q
      exact ⟨_, ep, rr⟩
    · rw [List.getElem?_set_ne hj] at q
      have w := o.sl j s q
      cases s with
      | no => trivial
      | d x =>
        obtain ⟨v, a1, a2⟩ := w
        exact ⟨v, a1, a2.mono sm⟩
      | own es' =>
        obtain ⟨p2, xs2, a1, a2, a3, a4, a5, a6⟩ := w
        have : p2 ≠ p := fun z => hj (o.ap i j _ es' p2 e q (by rw [z]; exact ep) a1)
        exact ⟨p2, xs2, a1, a2, by show upd F.f p u p2 = none; rw [upd_ne this]; exact a3, a4, a5.mono sm, a6⟩
  · have n1 : i ≠ j := fun z => by subst z; rw [List.getElem?_set_self hi] at q1; cases q1
    have n2 : i ≠ k := fun z => by subst z; rw [List.getElem?_set_self hi] at q2; cases q2
    rw [List.getElem?_set_ne n1] at q1
    rw [List.getElem?_set_ne n2] at q2
    exact o.ap j k ds1 es1 p1 q1 q2 q3 q4
/-- less is known -/
theorem Ok.drop (o : Ok G B F σ H S st) (i : Nat) : Ok G B F σ H (S.set i .no) st := by
  refine ⟨o.fH, o.kp, o.so, by rw [List.length_set]; exact o.len, fun j s q => ?_, fun j k ds1 es1 p1 q1 q2 q3 q4 => ?_⟩
  · by_cases hj : i = j
    · have hi := set_lt q hj
      subst hj
      rw [List.getElem?_set_self hi] at q
      cases q
      trivial
    · rw [List.getElem?_set_ne hj] at q
      exact o.sl j s q
  · have f : ∀ {j : Nat} {d : Ow}, (S.set i .no)[j]? = some (.own d) → S[j]? = some (.own d) := fun {j d} q => by
      by_cases z : i = j
      · have hi := set_lt q z
        subst z
        rw [List.getElem?_set_self hi] at q; cases q
      · rw [List.getElem?_set_ne z] at q; exact q
    exact o.ap j k ds1 es1 p1 (f q1) (f q2) q3 q4
/-- a slot that isn't told of may hold anything -/
theorem Ok.any (o : Ok G B F σ H S st) (i : Nat) (x : Option V) : Ok G B F (σ.set i x) H (S.set i .no) st := by
  refine ⟨o.fH, o.kp, o.so, by rw [List.length_set, List.length_set]; exact o.len, fun j s q => ?_, fun j k ds1 es1 p1 q1 q2 q3 q4 => ?_⟩
  · by_cases hj : i = j
    · have hi := set_lt q hj
      subst hj
      rw [List.getElem?_set_self hi] at q
      cases q
      trivial
    · rw [List.getElem?_set_ne hj] at q ⊢
      exact o.sl j s q
  · have f : ∀ {j : Nat} {d : Ow}, (S.set i .no)[j]? = some (.own d) → i ≠ j := fun {j d} q z => by
      have hi := set_lt q z
      subst z
      rw [List.getElem?_set_self hi] at q; cases q
    have n1 := f q1
    have n2 := f q2
    rw [List.getElem?_set_ne n1] at q1 q3
    rw [List.getElem?_set_ne n2] at q2 q4
    exact o.ap j k ds1 es1 p1 q1 q2 q3 q4
end
end DL

namespace DL
open PySem PySem.Spec PyProof.Rows L2

/-! ### results -/
structure Exc where
  c : Nat
  fs : List (Nat × D)
abbrev Sls := List Sl
inductive Res (α : Type) where
  | ok (a : α) (S : Sls) (st : Store)
  | exc (x : Exc) (S : Sls) (st : Store)
  | stuck
def Res.bind {α β : Type} (r : Res α) (k : α → Sls → Store → Res β) : Res β :=
  match r with
  | .ok a S st => k a S st
  | .exc x S st => .exc x S st
  | .stuck => .stuck
@[simp] theorem Res.bind_ok {α β : Type} (a : α) (S : Sls) (st : Store) (k : α → Sls → Store → Res β) : (Res.ok a S st).bind k = k a S st := rfl
@[simp] theorem Res.bind_exc {α β : Type} (x : Exc) (S : Sls) (st : Store) (k : α → Sls → Store → Res β) : (Res.exc x S st : Res α).bind k = .exc x S st := rfl
@[simp] theorem Res.bind_stuck {α β : Type} (k : α → Sls → Store → Res β) : (Res.stuck : Res α).bind k = .stuck := rfl
inductive Out where
  | nx (S : Sls) (st : Store)
  | ret (d : D) (S : Sls) (st : Store)
  | bk (S : Sls) (st : Store)
  | ct (S : Sls) (st : Store)
  | rto (w : Ow) (S : Sls) (st : Store)
  | exc (x : Exc) (S : Sls) (st : Store)
  | stuck
def Res.out {α : Type} (r : Res α) (k : α → Sls → Store → Out) : Out :=
  match r with
  | .ok a S st => k a S st
  | .exc x S st => .exc x S st
  | .stuck => .stuck
@[simp] theorem Res.out_ok {α : Type} (a : α) (S : Sls) (st : Store) (k : α → Sls → Store → Out) : (Res.ok a S st).out k = k a S st := rfl
@[simp] theorem Res.out_exc {α : Type} (x : Exc) (S : Sls) (st : Store) (k : α → Sls → Store → Out) : (Res.exc x S st : Res α).out k = .exc x S st := rfl
@[simp] theorem Res.out_stuck {α : Type} (k : α → Sls → Store → Out) : (Res.stuck : Res α).out k = .stuck := rfl
def Out.then (r : Out) (k : Sls → Store → Out) : Out :=
  match r with
  | .nx S st => k S st
  | r => r
@[simp] theorem Out.then_nx (S : Sls) (st : Store) (k : Sls → Store → Out) : (Out.nx S st).then k = k S st := rfl
@[simp] theorem Out.then_ret (d : D) (S : Sls) (st : Store) (k : Sls → Store → Out) : (Out.ret d S st).then k = .ret d S st := rfl
@[simp] theorem Out.then_bk (S : Sls) (st : Store) (k : Sls → Store → Out) : (Out.bk S st).then k = .bk S st := rfl
@[simp] theorem Out.then_rto (w : Ow) (S : Sls) (st : Store) (k : Sls → Store → Out) : (Out.rto w S st).then k = .rto w S st := rfl
@[simp] theorem Out.then_ct (S : Sls) (st : Store) (k : Sls → Store → Out) : (Out.ct S st).then k = .ct S st := rfl
@[simp] theorem Out.then_exc (x : Exc) (S : Sls) (st : Store) (k : Sls → Store → Out) : (Out.exc x S st).then k = .exc x S st := rfl
@[simp] theorem Out.then_stuck (k : Sls → Store → Out) : Out.stuck.then k = .stuck := rfl
abbrev Ev (α : Type) := Sls → Store → Res α
abbrev EvS := Sls → Store → Out
/-- what a def does with its arguments -/
abbrev CallT := List D → Store → Res D
/-- an operand: a datum, or what stands in a slot at the time of the operation -/
inductive Opd where
  | v (d : D) | s (i : Nat) | h (n : Nat)

/-! ### what a result says -/
def XRel (G : Gx) (F : Fz) (x : Exc) (cls : Value) (dd : Option Addr) (H : Hp) : Prop :=
  ∃ C, G.mg (nmS x.c) = some (.ref C) ∧ cls = .ref C ∧ ((x.fs = [] ∧ dd = none) ∨ (x.fs ≠ [] ∧ ∃ a vs, dd = some a ∧ H a = some (.xd vs) ∧ RpF G F vs x.fs))
section
variable (G : Gx) (B : Hp) (W : WX)
def Post {α β : Type} (R : Fz → β → α → Prop) (σ : L2.St) (F : Fz) (Q : β → Hp → Prop) : Res α → Prop
  | .ok d S' st' => ∀ v H' F', Gr B F F' → Ok G B F' σ H' S' st' → R F' v d → Q v H'
  | .exc x S' st' => ∀ cls dd H' F', Gr B F F' → Ok G B F' σ H' S' st' → XRel G F' x cls dd H' → W cls dd σ H'
  | .stuck => False
def PostS (F : Fz) (D : Ends) : Out → Prop
  | .nx S' st' => ∀ σ' H' F', Gr B F F' → Ok G B F' σ' H' S' st' → D.nx σ' H'
  | .ret d S' st' => ∀ v σ' H' F', Gr B F F' → Ok G B F' σ' H' S' st' → Rp G F' v d → D.rt v H'
  | .bk S' st' => ∀ σ' H' F', Gr B F F' → Ok G B F' σ' H' S' st' → D.bk σ' H'
  | .ct S' st' => ∀ σ' H' F', Gr B F F' → Ok G B F' σ' H' S' st' → D.ct σ' H'
  | .rto w S' st' => ∀ p u σ' H' F', Gr B F F' → Ok G B F' σ' H' S' st' → H' p = some u → F' p = none → B p = none → OwRel G F' u w → p ∉ F'.m → D.rt (.ref p) H'
  | .exc x S' st' => ∀ cls dd σ' H' F', Gr B F F' → Ok G B F' σ' H' S' st' → XRel G F' x cls dd H' → W cls dd σ' H'
  | .stuck => False
end
section
variable {G : Gx} {B : Hp} {W : WX}
theorem Post.grow {α β : Type} {R : Fz → β → α → Prop} {σ : L2.St} {F F' : Fz} {Q : β → Hp → Prop} {r : Res α} (g : Gr B F F') (h : Post G B W R σ F Q r) : Post G B W R σ F' Q r := by
  cases r with
  | ok d S st => exact fun v H' F2 g2 o r => h v H' F2 (g.trans g2) o r
  | exc x S st => exact fun c d H' F2 g2 o r => h c d H' F2 (g.trans g2) o r
  | stuck => exact h
theorem PostS.grow {F F' : Fz} {D : Ends} {r : Out} (g : Gr B F F') (h : PostS G B W F D r) : PostS G B W F' D r := by
  cases r with
  | nx S st => exact fun σ' H' F2 g2 o => h σ' H' F2 (g.trans g2) o
  | bk S st => exact fun σ' H' F2 g2 o => h σ' H' F2 (g.trans g2) o
  | ct S st => exact fun σ' H' F2 g2 o => h σ' H' F2 (g.trans g2) o
  | rto w S st => exact fun p u σ' H' F2 g2 o => h p u σ' H' F2 (g.trans g2) o
  | ret d S st => exact fun v σ' H' F2 g2 o r => h v σ' H' F2 (g.trans g2) o r
  | exc x S st => exact fun c d σ' H' F2 g2 o r => h c d σ' H' F2 (g.trans g2) o r
  | stuck => exact h
theorem Post.bind {α β γ δ : Type} {R : Fz → β → α → Prop} {R' : Fz → δ → γ → Prop} {σ : L2.St} {F : Fz} {Q : δ → Hp → Prop} {r : Res α} {k : α → Sls → Store → Res γ} (h : Post G B W R' σ F Q (r.bind k)) :
    Post G B W R σ F (fun v H1 => ∃ F1 d S1 st1, Gr B F F1 ∧ Ok G B F1 σ H1 S1 st1 ∧ R F1 v d ∧ Post G B W R' σ F1 Q (k d S1 st1)) r := by
  cases r with
  | ok d S st => exact fun v H' F' g o r => ⟨F', d, S, st, g, o, r, Post.grow g h⟩
  | exc x S st => exact h
  | stuck => exact h
theorem Post.out {α β : Type} {R : Fz → β → α → Prop} {σ : L2.St} {F : Fz} {Dn : Ends} {r : Res α} {k : α → Sls → Store → Out} (h : PostS G B W F Dn (r.out k)) :
    Post G B W R σ F (fun v H1 => ∃ F1 d S1 st1, Gr B F F1 ∧ Ok G B F1 σ H1 S1 st1 ∧ R F1 v d ∧ PostS G B W F1 Dn (k d S1 st1)) r := by
  cases r with
  | ok d S st => exact fun v H' F' g o r => ⟨F', d, S, st, g, o, r, PostS.grow g h⟩
  | exc x S st => exact fun c d H' F' g o r => h c d σ H' F' g o r
  | stuck => exact h
theorem Post.mono {α β : Type} {R : Fz → β → α → Prop} {σ : L2.St} {F : Fz} {Q Q' : β → Hp → Prop} {r : Res α} (h : Post G B W R σ F Q r) (i : ∀ v H, Q v H → Q' v H) : Post G B W R σ F Q' r := by
  cases r with
  | ok d S st => exact fun v H' F' g o r => i _ _ (h v H' F' g o r)
  | exc x S st => exact h
  | stuck => exact h
end
/-- a reading, of a state that bears these data -/
def lift {α β : Type} (G : Gx) (B : Hp) (W : WX) (R : L2.St → Fz → β → α → Prop) (f : Ev α) : L2.St → Hp → (β → Hp → Prop) → Prop := fun σ H Q =>
  ∃ F S st, Ok G B F σ H S st ∧ Post G B W (R σ) σ F Q (f S st)
def liftS (G : Gx) (B : Hp) (W : WX) (f : EvS) : TS := fun D σ H => ∃ F S st, Ok G B F σ H S st ∧ PostS G B W F D (f S st)
def RD (G : Gx) : L2.St → Fz → V → D → Prop := fun _ F v d => Rp G F v d
/-- an operand's value -/
def RO (G : Gx) : L2.St → Fz → V → Opd → Prop := fun σ F v o => match o with
  | .v d => Rp G F v d
  | .s i => σ[i]? = some (some v)
  | .h n => ∃ a, F.m[n]? = some a ∧ v = .ref a
inductive RpO (G : Gx) (σ : L2.St) (F : Fz) : List V → List Opd → Prop
  | nil : RpO G σ F [] []
  | cons {v : V} {vs : List V} {o : Opd} {os : List Opd} : RO G σ F v o → RpO G σ F vs os → RpO G σ F (v :: vs) (o :: os)
theorem RO.mono {G : Gx} {σ : L2.St} {F F' : Fz} {v : V} {o : Opd} (e : SmF F F') (h : RO G σ F v o) : RO G σ F' v o := by
  cases o with
  | v d => exact Rp.mono e h
  | s i => exact h
  | h n =>
    obtain ⟨a, h1, h2⟩ := h
    exact ⟨a, pre_get e.2 h1, h2⟩
theorem RpO.mono {G : Gx} {σ : L2.St} {F F' : Fz} (e : SmF F F') : ∀ {vs : List V} {os : List Opd}, RpO G σ F vs os → RpO G σ F' vs os
  | _, _, .nil => .nil
  | _, _, .cons h t => .cons (h.mono e) (RpO.mono e t)
abbrev Cx.g (X : Cx) : Gx := ⟨X.K, X.mg, X.w⟩
/-- what an operand holds: a datum, or the slot's own object as it stands -/
def vw (S : Sls) (st : Store) : Opd → Option D
  | .v d => some d
  | .s i => match S[i]? with
    | some (.d d) => some d
    | some (.own w) => some w.d
    | _ => none
  | .h n => match st[n]? with
    | some (.t _) => none
    | some x => some x.d
    | none => none
/-- .. where no object of the slot's own is handed on -/
def vd (S : Sls) : Opd → Option D
  | .v d => some d
  | .s i => match S[i]? with
    | some (.d d) => some d
    | _ => none
  | .h n => some (.loc n)
def vws (S : Sls) (st : Store) : List Opd → Option (List D)
  | [] => some []
  | o :: r => match vw S st o, vws S st r with
    | some d, some ds => some (d :: ds)
    | _, _ => none
def vds (S : Sls) : List Opd → Option (List D)
  | [] => some []
  | o :: r => match vd S o, vds S r with
    | some d, some ds => some (d :: ds)
    | _, _ => none
/-- v shows d now -/
def Vw (G : Gx) (F : Fz) (H : Hp) (v : V) (d : D) : Prop := Rp G F v d ∨ (∃ p u w, v = .ref p ∧ H p = some u ∧ OwRel G F u w ∧ d = w.d) ∨ ∃ p c fs, v = .ref p ∧ ObOk G F H p (.i c fs) ∧ d = .obj c fs
inductive VwAll (G : Gx) (F : Fz) (H : Hp) : List V → List D → Prop
  | nil : VwAll G F H [] []
  | cons {v : V} {vs : List V} {d : D} {ds : List D} : Vw G F H v d → VwAll G F H vs ds → VwAll G F H (v :: vs) (d :: ds)
section
variable {G : Gx} {B : Hp} {F : Fz} {H : Hp} {σ : L2.St} {S : Sls} {st : Store}
theorem Ok.vw (o : Ok G B F σ H S st) {v : V} {a : Opd} {d : D} (r : RO G σ F v a) (e : vw S st a = some d) : Vw G F H v d := by
  cases a with
  | v x => simp [DL.vw] at e; subst e; exact .inl r
  | s i =>
    have r : σ[i]? = some (some v) := r
    simp only [DL.vw] at e
    split at e
    · rename_i x hx
      cases e
      obtain ⟨v', e1, q⟩ := o.sl i _ hx
      rw [r] at e1; cases e1
      exact .inl q
    · rename_i w hx
      cases e
      obtain ⟨p, u, e1, q1, q2, q3, q, _⟩ := o.sl i _ hx
      rw [r] at e1; cases e1
      exact .inr (.inl ⟨p, u, w, rfl, q1, q, rfl⟩)
    · cases e
  | h n =>
    obtain ⟨a, h1, h2⟩ := r
    simp only [DL.vw] at e
    obtain ⟨x, e1, k1, k2, k3⟩ := o.so.has h1
    rw [e1] at e
    cases x with
    | o w => cases e; obtain ⟨u, q1, q2⟩ := k3; exact .inr (.inl ⟨a, u, w, h2, q1, q2, rfl⟩)
    | i c fs => cases e; exact .inr (.inr ⟨a, c, fs, h2, k3, rfl⟩)
    | t es => cases e
theorem Ok.vd (o : Ok G B F σ H S st) {v : V} {a : Opd} {d : D} (r : RO G σ F v a) (e : vd S a = some d) : Rp G F v d := by
  cases a with
  | v x => simp [DL.vd] at e; subst e; exact r
  | s i =>
    have r : σ[i]? = some (some v) := r
    simp only [DL.vd] at e
    split at e
    · rename_i x hx
      cases e
      obtain ⟨v', e1, q⟩ := o.sl i _ hx
      rw [r] at e1; cases e1
      exact q
    · cases e
  | h n =>
    obtain ⟨a, h1, h2⟩ := r
    simp only [DL.vd] at e
    cases e
    subst h2
    exact .loc h1
theorem Ok.vws (o : Ok G B F σ H S st) : ∀ {vs : List V} {as : List Opd} {ds : List D}, RpO G σ F vs as → vws S st as = some ds → VwAll G F H vs ds
  | _, _, _, .nil, e => by simp [DL.vws] at e; subst e; exact .nil
  | _, _, _, .cons h t, e => by
    simp only [DL.vws] at e
    split at e
    · rename_i a b ha hb
      cases e
      exact .cons (o.vw h ha) (Ok.vws o t hb)
    · cases e
theorem Ok.vds (o : Ok G B F σ H S st) : ∀ {vs : List V} {as : List Opd} {ds : List D}, RpO G σ F vs as → vds S as = some ds → RpAll G F vs ds
  | _, _, _, .nil, e => by simp [DL.vds] at e; subst e; exact .nil
  | _, _, _, .cons h t, e => by
    simp only [DL.vds] at e
    split at e
    · rename_i a b ha hb
      cases e
      exact .cons (o.vd h ha) (Ok.vds o t hb)
    · cases e
end

/-! ### the judgements -/
def DE (X : Cx) (B : Hp) (W : WX) (e : Expr) (f : Ev D) : Prop := PE X e (lift (Cx.g X) B W (RD (Cx.g X)) f)
def DO (X : Cx) (B : Hp) (W : WX) (e : Expr) (f : Ev Opd) : Prop := PE X e (lift (Cx.g X) B W (RO (Cx.g X)) f)
def DA (X : Cx) (B : Hp) (W : WX) (es : List Expr) (f : Ev (List Opd)) : Prop := PA X es (lift (Cx.g X) B W (RpO (Cx.g X)) f)
def RB : L2.St → Fz → Bool → Bool → Prop := fun _ _ v d => v = d
def DT (X : Cx) (B : Hp) (W : WX) (e : Expr) (f : Ev Bool) : Prop := PT X e (lift (Cx.g X) B W RB f)
def DW (X : Cx) (B : Hp) (W : WX) (e : Expr) (f : Ev Bool) : Prop := PW X e (lift (Cx.g X) B W RB f)
def DS (X : Cx) (B : Hp) (W : WX) (s : Stmt) (f : EvS) : Prop := PS X s (liftS (Cx.g X) B W f)
def DSs (X : Cx) (B : Hp) (W : WX) (s : List Stmt) (f : EvS) : Prop := PSs X s (liftS (Cx.g X) B W f)
theorem pe_imp {X : Cx} {e : Expr} {t t' : TE} (h : PE X e t) (i : ∀ σ H Q, t' σ H Q → t σ H Q) : PE X e t' := ⟨fun pins s σ H Q I q => h.run pins s σ H Q I (i σ H Q q)⟩
theorem pt_imp {X : Cx} {e : Expr} {t t' : TT} (h : PT X e t) (i : ∀ σ H Q, t' σ H Q → t σ H Q) : PT X e t' := ⟨fun pins s σ H Q I q => h.run pins s σ H Q I (i σ H Q q)⟩
theorem pw_imp {X : Cx} {e : Expr} {t t' : TT} (h : PW X e t) (i : ∀ σ H Q, t' σ H Q → t σ H Q) : PW X e t' := ⟨fun wh pins s σ H Q I q => h.run wh pins s σ H Q I (i σ H Q q)⟩
theorem pa_imp {X : Cx} {es : List Expr} {t t' : TA} (h : PA X es t) (i : ∀ σ H Q, t' σ H Q → t σ H Q) : PA X es t' := ⟨fun pos pins s σ H Q I q => h.run pos pins s σ H Q I (i σ H Q q)⟩
theorem ps_imp {X : Cx} {s : Stmt} {t t' : TS} (h : PS X s t) (i : ∀ D σ H, t' D σ H → t D σ H) : PS X s t' := ⟨fun pins sh σ H D I q => h.run pins sh σ H D I (i D σ H q)⟩
theorem pss_imp {X : Cx} {s : List Stmt} {t t' : TS} (h : PSs X s t) (i : ∀ D σ H, t' D σ H → t D σ H) : PSs X s t' := ⟨fun pins sh σ H D I q => h.run pins sh σ H D I (i D σ H q)⟩
section
variable {X : Cx} {B : Hp} {W : WX} {e a b c : Expr} {es : List Expr} {pos : Pos}

/-! ### names, constants -/
def kE (d : D) : Ev D := fun S st => .ok d S st
def vE (i : Nat) : Ev D := fun S st => match S[i]? with
  | some (.d d) => .ok d S st
  | _ => .stuck
/-- the slot's own object, left as it is from here on -/
def zE (i : Nat) : Ev D := fun S st => match S[i]? with
  | some (.d d) => .ok d S st
  | some (.own w) => .ok w.d (S.set i (.d w.d)) st
  | _ => .stuck
def oV (f : Ev D) : Ev Opd := fun S st => (f S st).bind fun d S st => .ok (.v d) S st
def oS (i : Nat) : Ev Opd := fun S st => match S[i]? with
  | some .no => .stuck
  | none => .stuck
  | _ => .ok (.s i) S st
theorem de_k {v : V} {d : D} (h : PE X e (tC v)) (r : ∀ F, Rp (Cx.g X) F v d) : DE X B W e (kE d) :=
  pe_imp h fun σ H Q ⟨F, S, st, o, q⟩ => q v H F .refl o (r F)
theorem de_non {j} : DE X B W (.Constant .none j pos) (kE .non) := de_k pe_non fun _ => .non
theorem de_bl {t j} : DE X B W (.Constant (.bool t) j pos) (kE (.bl t)) := de_k pe_bl fun _ => .bl _
theorem de_int {i j} : DE X B W (.Constant (.int i) j pos) (kE (.int i)) := de_k pe_int fun _ => .int _
theorem de_str {x j} (s : List Nat) (h : x = tx s := by rfl) (o : okS s = true := by decide) : DE X B W (.Constant (.str x) j pos) (kE (.str s)) := by
  subst h; exact de_k pe_str fun _ => .str _ o
theorem de_v {i : Nat} (h : PE X e (tVar i)) : DE X B W e (vE i) := pe_imp h fun σ H Q ⟨F, S, st, o, q⟩ => by
  unfold vE at q
  split at q
  · rename_i d hd
    obtain ⟨v, e1, r⟩ := o.sl i _ hd
    exact ⟨v, e1, q v H F .refl o r⟩
  · exact q.elim
theorem de_z {i : Nat} (h : PE X e (tVar i)) : DE X B W e (zE i) := pe_imp h fun σ H Q ⟨F, S, st, o, q⟩ => by
  unfold zE at q
  split at q
  · rename_i d hd
    obtain ⟨v, e1, r⟩ := o.sl i _ hd
    exact ⟨v, e1, q v H F .refl o r⟩
  · rename_i w hw
    obtain ⟨F', p, g, o', e1, r⟩ := o.frz hw
    exact ⟨_, e1, q _ H F' g o' r⟩
  · exact q.elim
theorem do_v {f : Ev D} (h : DE X B W e f) : DO X B W e (oV f) := pe_imp h fun σ H Q ⟨F, S, st, o, q⟩ =>
  ⟨F, S, st, o, (Post.bind (R := RD (Cx.g X) σ) q).mono fun v H1 ⟨F1, d, S1, st1, g, o1, r, p⟩ => p v H1 F1 .refl o1 r⟩
theorem do_s {i : Nat} (h : PE X e (tVar i)) : DO X B W e (oS i) := pe_imp h fun σ H Q ⟨F, S, st, o, q⟩ => by
  unfold oS at q
  split at q
  · exact q.elim
  · exact q.elim
  · rename_i n1 n2
    cases hs : S[i]? with
    | none => exact absurd hs n2
    | some s =>
      have h := o.sl i s hs
      cases s with
      | no => exact absurd hs n1
      | d x =>
        obtain ⟨v, e1, r⟩ := h
        exact ⟨v, e1, q v H F .refl o e1⟩
      | own w =>
        obtain ⟨p, u, e1, _⟩ := h
        exact ⟨_, e1, q _ H F .refl o e1⟩

/-! ### argument lists -/
def aN : Ev (List Opd) := fun S st => .ok [] S st
def aC (f : Ev Opd) (g : Ev (List Opd)) : Ev (List Opd) := fun S st => (f S st).bind fun a S st => (g S st).bind fun r S st => .ok (a :: r) S st
theorem da_n : DA X B W [] aN := pa_imp pa_nil fun σ H Q ⟨F, S, st, o, q⟩ => q [] H F .refl o .nil
theorem da_c {f : Ev Opd} {g : Ev (List Opd)} (h : DO X B W e f) (t : DA X B W es g) (hs : starEach (e :: es) X.env = (false, eval e X.env) :: starEach es X.env := by rfl) : DA X B W (e :: es) (aC f g) :=
  pa_imp (pa_cons h t hs) fun σ H Q ⟨F, S, st, o, q⟩ => ⟨F, S, st, o, (Post.bind (R := RO (Cx.g X) σ) q).mono fun v H1 ⟨F1, d, S1, st1, g1, o1, r1, p1⟩ =>
    ⟨F1, S1, st1, o1, (Post.bind (R := RpO (Cx.g X) σ) p1).mono fun vs H2 ⟨F2, ds, S2, st2, g2, o2, r2, p2⟩ => p2 _ H2 F2 .refl o2 (.cons (r1.mono g2.1) r2)⟩⟩
end

/-! ### operations by data -/
/-- r, whatever else is wanted, where op tells d -/
def Gives (r : VK → Prop) (G : Gx) (F : Fz) (H : Hp) (d : D) : Prop := ∀ Q : VK, (∀ v' H' (f' : Hp), Same H H' → Same f' H' → GrH H F.f f' → Rp G ⟨f', F.m⟩ v' d → Q v' H') → r Q
def Op2 (G : Gx) (r : R2) (op : D → D → Option D) : Prop := ∀ (F : Fz) H v w x y d, Same F.f H → Vw G F H v x → Vw G F H w y → op x y = some d → Gives (r v w H) G F H d
def Op1 (G : Gx) (r : V → Hp → VK → Prop) (op : D → Option D) : Prop := ∀ (F : Fz) H v x d, Same F.f H → Vw G F H v x → op x = some d → Gives (r v H) G F H d
def OpA (G : Gx) (r : List V → Hp → VK → Prop) (op : List D → Option D) : Prop := ∀ (F : Fz) H vs xs d, Same F.f H → VwAll G F H vs xs → op xs = some d → Gives (r vs H) G F H d
def OpM (G : Gx) (r : V → List V → Hp → VK → Prop) (op : D → List D → Option D) : Prop := ∀ (F : Fz) H v vs x xs d, Same F.f H → Vw G F H v x → VwAll G F H vs xs → op x xs = some d → Gives (r v vs H) G F H d
def got {α : Type} (o : Option α) (S : Sls) (st : Store) : Res α := match o with
  | some d => .ok d S st
  | none => .stuck
@[simp] theorem got_some {α : Type} (d : α) (S : Sls) (st : Store) : got (some d) S st = .ok d S st := rfl
@[simp] theorem got_none {α : Type} (S : Sls) (st : Store) : got (none : Option α) S st = .stuck := rfl
theorem Gives.fin {r : VK → Prop} {G : Gx} {B : Hp} {F : Fz} {H : Hp} {W : WX} {σ : L2.St} {S : Sls} {st : Store} {d : D} {Q : VK} (g : Gives r G F H d) (o : Ok G B F σ H S st) (p : Post G B W (RD G σ) σ F Q (.ok d S st)) : r Q :=
  g Q fun v' H' F' k f gr rr => p v' H' _ (o.gr gr) (o.grow gr k f) rr
def o2E (op : D → D → Option D) (fa fb : Ev Opd) : Ev D := fun S st => (fa S st).bind fun a S st => (fb S st).bind fun b S st =>
  match vw S st a, vw S st b with
  | some x, some y => got (op x y) S st
  | _, _ => .stuck
def o1E (op : D → Option D) (fa : Ev Opd) : Ev D := fun S st => (fa S st).bind fun a S st =>
  match vw S st a with
  | some x => got (op x) S st
  | _ => .stuck
def oAE (op : List D → Option D) (fa : Ev (List Opd)) : Ev D := fun S st => (fa S st).bind fun a S st =>
  match vws S st a with
  | some x => got (op x) S st
  | _ => .stuck
def oME (op : D → List D → Option D) (fo : Ev Opd) (fa : Ev (List Opd)) : Ev D := fun S st => (fo S st).bind fun o S st => (fa S st).bind fun a S st =>
  match vw S st o, vws S st a with
  | some y, some x => got (op y x) S st
  | _, _ => .stuck
theorem got_ok {α β : Type} {G : Gx} {B : Hp} {F : Fz} {W : WX} {σ : L2.St} {R : Fz → β → α → Prop} {Q : β → Hp → Prop} {x : Option α} {S : Sls} {st : Store} (p : Post G B W R σ F Q (got x S st)) : ∃ d, x = some d ∧ Post G B W R σ F Q (.ok d S st) := by
  cases x with
  | none => exact p.elim
  | some d => exact ⟨d, rfl, p⟩
section
variable {X : Cx} {B : Hp} {W : WX} {e a b c : Expr} {es : List Expr} {pos : Pos}
theorem op2_lift {r : R2} {op : D → D → Option D} {fa fb : Ev Opd} (h : Op2 (Cx.g X) r op) {σ : L2.St} {H : Hp} {Q : VK} (q : lift (Cx.g X) B W (RD (Cx.g X)) (o2E op fa fb) σ H Q) :
    tOp r (lift (Cx.g X) B W (RO (Cx.g X)) fa) (lift (Cx.g X) B W (RO (Cx.g X)) fb) σ H Q := by
  obtain ⟨F, S, st, o, q⟩ := q
  refine ⟨F, S, st, o, (Post.bind (R := RO (Cx.g X) σ) q).mono fun v H1 ⟨F1, d, S1, st1, g1, o1, r1, p1⟩ => ⟨F1, S1, st1, o1, (Post.bind (R := RO (Cx.g X) σ) p1).mono fun w H2 ⟨F2, d2, S2, st2, g2, o2, r2, p2⟩ => ?_⟩⟩
  split at p2
  · rename_i x y hx hy
    obtain ⟨z, hz, p2⟩ := got_ok p2
    exact (h F2 H2 v w x y z o2.fH (o2.vw (r1.mono g2.1) hx) (o2.vw r2 hy) hz).fin o2 p2
  · exact p2.elim
theorem de_bin {o : Operator} {r : R2} {op : D → D → Option D} {fa fb : Ev Opd} (ho : OpR X (binaryOp o) r) (h : Op2 (Cx.g X) r op) (ha : DO X B W a fa) (hb : DO X B W b fb) : DE X B W (.BinOp a o b pos) (o2E op fa fb) :=
  pe_imp (pe_op ho ha hb) fun _ _ _ q => op2_lift h q
theorem de_cmp {o : CmpOp} {r : R2} {op : D → D → Option D} {fa fb : Ev Opd} (ho : OpR X (compareOp o) r) (h : Op2 (Cx.g X) r op) (ha : DO X B W a fa) (hb : DO X B W b fb) (hm : behindInMarks o b = false) : DE X B W (.Compare a [o] [b] pos) (o2E op fa fb) :=
  pe_imp (pe_cmpR ho ha hb hm) fun _ _ _ q => op2_lift h q
/-- a value that is a bool, as a test -/
def tV (f : Ev D) : Ev Bool := fun S st => (f S st).bind fun d S st => match d with
  | .bl k => .ok k S st
  | _ => .stuck
theorem test_lift {t : TE} {f : Ev D} {σ : L2.St} {H : Hp} {Q : Bool → Hp → Prop} (i : ∀ σ H Q, lift (Cx.g X) B W (RD (Cx.g X)) f σ H Q → t σ H Q) (q : lift (Cx.g X) B W RB (tV f) σ H Q) : tTest t σ H Q := by
  obtain ⟨F, S, st, o, q⟩ := q
  refine i σ H _ ⟨F, S, st, o, (Post.bind (R := RD (Cx.g X) σ) q).mono fun v H1 ⟨F1, d, S1, st1, g1, o1, r1, p1⟩ => ?_⟩
  split at p1
  · cases r1
    exact ⟨_, rfl, p1 _ H1 F1 .refl o1 rfl⟩
  · exact p1.elim
theorem dt_cmp {o : CmpOp} {r : R2} {op : D → D → Option D} {fa fb : Ev Opd} (ho : OpR X (compareOp o) r) (h : Op2 (Cx.g X) r op) (ha : DO X B W a fa) (hb : DO X B W b fb) (hm : behindInMarks o b = false) : DT X B W (.Compare a [o] [b] pos) (tV (o2E op fa fb)) :=
  pt_imp (pt_cmpR ho ha hb hm) fun _ _ _ q => test_lift (fun _ _ _ q => op2_lift h q) q
theorem de_ix {r : R2} {op : D → D → Option D} {fa fb : Ev Opd} (ho : IxR X r) (h : Op2 (Cx.g X) r op) (ha : DO X B W a fa) (hb : DO X B W b fb) (hs : PlainIx b := by exact fun _ _ => rfl) : DE X B W (.Subscript a b pos) (o2E op fa fb) :=
  pe_imp (pe_ix ho ha hb hs) fun _ _ _ q => op2_lift h q
theorem de_un {o : UnaryOp} {r : V → Hp → VK → Prop} {op : D → Option D} {fa : Ev Opd} (ho : UnR X (unaryOp o) r) (h : Op1 (Cx.g X) r op) (ha : DO X B W a fa) : DE X B W (.UnaryOp o a pos) (o1E op fa) :=
  pe_imp (pe_un ho ha) fun σ H Q ⟨F, S, st, o, q⟩ => ⟨F, S, st, o, (Post.bind (R := RO (Cx.g X) σ) q).mono fun v H1 ⟨F1, d, S1, st1, g1, o1, r1, p1⟩ => by
    split at p1
    · rename_i x hx
      obtain ⟨z, hz, p1⟩ := got_ok p1
      exact (h F1 H1 v x z o1.fH (o1.vw r1 hx) hz).fin o1 p1
    · exact p1.elim⟩
theorem opA_lift {r : List V → Hp → VK → Prop} {op : List D → Option D} {fa : Ev (List Opd)} (h : OpA (Cx.g X) r op) {σ : L2.St} {H : Hp} {Q : VK} (q : lift (Cx.g X) B W (RD (Cx.g X)) (oAE op fa) σ H Q) :
    tCB r (lift (Cx.g X) B W (RpO (Cx.g X)) fa) σ H Q := by
  obtain ⟨F, S, st, o, q⟩ := q
  refine ⟨F, S, st, o, (Post.bind (R := RpO (Cx.g X) σ) q).mono fun v H1 ⟨F1, d, S1, st1, g1, o1, r1, p1⟩ => ?_⟩
  split at p1
  · rename_i x hx
    obtain ⟨z, hz, p1⟩ := got_ok p1
    exact (h F1 H1 v x z o1.fH (o1.vws r1 hx) hz).fin o1 p1
  · exact p1.elim
theorem de_cb {x : Str} {p : Pos} {id : String} {r : List V → Hp → VK → Prop} {op : List D → Option D} {fa : Ev (List Opd)} (hc : CallR X (.builtin id) r) (h : OpA (Cx.g X) r op) (hm : X.mg x = none) (ha : DA X B W (e :: es) fa)
    (hg : Gl X x := by rfl) (hv : bootBuiltins x = some (.builtin id) := by decide +kernel) (hn : x ≠ "__name__" := by decide) (hdb : (x == ("__debug__" : Str)) = false := by decide)
    (he : starEach (e :: es) X.env = (false, eval e X.env) :: starEach es X.env := by rfl) (hpl : (backTo pos (starEach es X.env)).any (·.1) = false := by rfl) : DE X B W (.Call (.Name x p) (e :: es) [] pos) (oAE op fa) :=
  pe_imp (pe_callB hc hg hm hv ha hn hdb he hpl) fun _ _ _ q => opA_lift h q
theorem de_ct {x : Str} {p : Pos} {T : String} {r : List V → Hp → VK → Prop} {op : List D → Option D} {fa : Ev (List Opd)} (hc : CallR X (.type T) r) (h : OpA (Cx.g X) r op) (hm : X.mg x = none) (ha : DA X B W (e :: es) fa)
    (hg : Gl X x := by rfl) (hv : bootBuiltins x = some (.type T) := by decide +kernel) (hn : x ≠ "__name__" := by decide) (hdb : (x == ("__debug__" : Str)) = false := by decide)
    (he : starEach (e :: es) X.env = (false, eval e X.env) :: starEach es X.env := by rfl) (hpl : (backTo pos (starEach es X.env)).any (·.1) = false := by rfl) : DE X B W (.Call (.Name x p) (e :: es) [] pos) (oAE op fa) :=
  pe_imp (pe_callTy hc hg hm hv ha hn hdb he hpl) fun _ _ _ q => opA_lift h q
/-- the receiver's type, by its datum -/
def tyD (T : String) : D → Bool
  | .str _ => T == "str"
  | .int _ => T == "int"
  | .lst _ => T == "list"
  | .scr _ => T == "list"
  | .dic _ => T == "dict"
  | _ => false
theorem Vw.ty {G : Gx} {F : Fz} {H : Hp} {v : V} {d : D} {T : String} (h : Vw G F H v d) (f : Same F.f H) (t : tyD T d = true) : tyV G.K T v H := by
  rcases h with h | ⟨p, u, w, rfl, hp, ow, rfl⟩ | ⟨p, c, fs, rfl, ho, rfl⟩
  · cases h with
    | str s _ => exact beq_iff_eq.mp t
    | int i => exact beq_iff_eq.mp t
    | lst e r => exact .inl ⟨beq_iff_eq.mp t, _, .inl (.inl (f _ _ e))⟩
    | scr e => exact .inl ⟨beq_iff_eq.mp t, _, f.seq e⟩
    | dicK e r => exact .inr (.inr (.inl ⟨beq_iff_eq.mp t, .inl ⟨_, f _ _ e⟩⟩))
    | _ => cases t
  · cases ow with
    | l r => exact .inl ⟨beq_iff_eq.mp t, _, .inl (.inl hp)⟩
    | kK r => exact .inr (.inr (.inl ⟨beq_iff_eq.mp t, .inl ⟨_, hp⟩⟩))
  · cases t
/-- the type is looked at ahead of the arguments -/
def mE (T : String) (op : D → List D → Option D) (fo : Ev Opd) (fa : Ev (List Opd)) : Ev D := fun S st => (fo S st).bind fun o S st =>
  match vw S st o with
  | some y => if tyD T y = true then (fa S st).bind fun a S st =>
      match vw S st o, vws S st a with
      | some y, some x => got (op y x) S st
      | _, _ => .stuck
    else .stuck
  | _ => .stuck
theorem de_m {T id : String} {name : Str} {apos : Pos} {r : V → List V → Hp → VK → Prop} {op : D → List D → Option D} {fo : Ev Opd} {fa : Ev (List Opd)} (pa : PlainAttrs T) (slot : Slot T name id) (hty : typeOf (.builtin id) = pure (.type "method_descriptor")) (hm : MtR X id r) (h : OpM (Cx.g X) r op)
    (ho : DO X B W a fo) (ha : DA X B W (e :: es) fa)
    (hbase : attributeBase a name X.env (eval a X.env) = eval a X.env := by rfl)
    (hfew : ((backTo pos (starEach (e :: es) X.env)).all (fun x => !x.1) && (backToKw pos (keywordEach [] X.env)).all (fun x => x.1.isSome)
      && decide ((e :: es).length + ([] : List Keyword).length + (if ([] : List Keyword).isEmpty then 0 else 1) < 30)) = true := by rfl)
    (hline : (apos.endLine == pos.line) = true := by rfl) (hs : starEach (e :: es) X.env = (false, eval e X.env) :: starEach es X.env := by rfl) (hplain : (backTo pos (starEach es X.env)).any (·.1) = false := by rfl) :
    DE X B W (.Call (.Attribute a name apos) (e :: es) [] pos) (mE T op fo fa) :=
  pe_imp (pe_bm pa slot hty hm ho ha hbase hfew hline hs hplain) fun σ H Q ⟨F, S, st, o, q⟩ => ⟨F, S, st, o, (Post.bind (R := RO (Cx.g X) σ) q).mono fun v H1 ⟨F1, d, S1, st1, g1, o1, r1, p1⟩ => by
    split at p1
    · rename_i y hy
      split at p1
      · rename_i ht
        refine ⟨(o1.vw r1 hy).ty o1.fH ht, F1, S1, st1, o1, (Post.bind (R := RpO (Cx.g X) σ) p1).mono fun vs H2 ⟨F2, ds, S2, st2, g2, o2, r2, p2⟩ => ?_⟩
        split at p2
        · rename_i y' x hy' hx
          obtain ⟨z, hz, p2⟩ := got_ok p2
          exact (h F2 H2 v vs y' x z o2.fH (o2.vw (r1.mono g2.1) hy') (o2.vws r2 hx) hz).fin o2 p2
        · exact p2.elim
      · exact p1.elim
    · exact p1.elim⟩
def m0E (T : String) (op : D → Option D) (fo : Ev Opd) : Ev D := fun S st => (fo S st).bind fun o S st =>
  match vw S st o with
  | some y => if tyD T y = true then got (op y) S st else .stuck
  | _ => .stuck
theorem de_m0 {T id : String} {name : Str} {apos : Pos} {r : V → List V → Hp → VK → Prop} {op : D → Option D} {fo : Ev Opd} (pa : PlainAttrs T) (slot : Slot T name id) (hty : typeOf (.builtin id) = pure (.type "method_descriptor")) (hm : MtR X id r) (h : Op1 (Cx.g X) (fun v => r v []) op)
    (ho : DO X B W a fo) (hbase : attributeBase a name X.env (eval a X.env) = eval a X.env := by rfl) (hline : (apos.endLine == pos.line) = true := by rfl) :
    DE X B W (.Call (.Attribute a name apos) [] [] pos) (m0E T op fo) :=
  pe_imp (pe_bm0 pa slot hty hm ho hbase hline) fun σ H Q ⟨F, S, st, o, q⟩ => ⟨F, S, st, o, (Post.bind (R := RO (Cx.g X) σ) q).mono fun v H1 ⟨F1, d, S1, st1, g1, o1, r1, p1⟩ => by
    split at p1
    · rename_i y hy
      split at p1
      · rename_i ht
        obtain ⟨z, hz, p1⟩ := got_ok p1
        exact ⟨(o1.vw r1 hy).ty o1.fH ht, (h F1 H1 v y z o1.fH (o1.vw r1 hy) hz).fin o1 p1⟩
      · exact p1.elim
    · exact p1.elim⟩
end
end DL

namespace DL
open PySem PySem.Spec PyProof.Rows L2

/-- no exception leaves -/
def Res.calm {α : Type} : Res α → Res α
  | .exc _ _ _ => .stuck
  | r => r
@[simp] theorem Res.calm_ok {α : Type} (a : α) (S : Sls) (st : Store) : (Res.ok a S st).calm = .ok a S st := rfl
abbrev W0 : WX := fun _ _ _ _ => False
theorem Post.calm {G : Gx} {B : Hp} {W : WX} {α β : Type} {R : Fz → β → α → Prop} {σ : L2.St} {F : Fz} {Q : β → Hp → Prop} {r : Res α} (h : Post G B W R σ F Q r.calm) : Post G B W0 R σ F Q r := by
  cases r with
  | ok d S st => exact h
  | exc x S st => exact h.elim
  | stuck => exact h
section
variable {X : Cx} {B : Hp} {W : WX} {e a b c : Expr} {es : List Expr} {s : Stmt} {ss : List Stmt} {pos : Pos}

/-! ### tests -/
def tru : D → Option Bool
  | .non => some false
  | .bl b => some b
  | .int i => some (i != 0)
  | .str s => if s.length ≤ 16777216 then some (!s.isEmpty) else none
  | .lst ds => some (!ds.isEmpty)
  | .tup ds => some (!ds.isEmpty)
  | .scr ns => some (!ns.isEmpty)
  | _ => none
theorem isEmpty_all {G : Gx} {F : Fz} {xs : List V} {ds : List D} (r : RpAll G F xs ds) : xs.isEmpty = ds.isEmpty := by cases r <;> rfl
theorem Vw.tru {G : Gx} {F : Fz} {H : Hp} {v : V} {d : D} {k : Bool} (h : Vw G F H v d) (f : Same F.f H) (e : tru d = some k) : TruV G.K v H k := by
  rcases h with h | ⟨p, u, w, rfl, hp, ow, rfl⟩ | ⟨p, c, fs, rfl, ho, rfl⟩
  · cases h with
    | non => exact (Option.some.inj (show some _ = some k from e)).symm
    | bl => exact (Option.some.inj (show some _ = some k from e)).symm
    | int => exact (Option.some.inj (show some _ = some k from e)).symm
    | str s _ =>
      simp only [DL.tru] at e
      split at e
      · cases e
        refine ⟨by rw [tx_len, sizeLine_eq]; assumption, ?_⟩
        rw [tx_len]
        cases s with
        | nil => rfl
        | cons x r =>
          simp only [List.isEmpty_cons, Bool.not_false]
          have : (((x :: r).length : Nat) : Int) ≠ 0 := by simp only [List.length_cons]; omega
          exact (bne_iff_ne.mpr this).symm
      · cases e
    | lst e' r => have e := Option.some.inj (show some _ = some k from e); subst e; exact .inl ⟨_, .inl (.inl (f _ _ e')), by rw [isEmpty_all r]⟩
    | tup e' r => have e := Option.some.inj (show some _ = some k from e); subst e; exact .inr (.inl ⟨_, same_seqT f e', by rw [isEmpty_all r]⟩)
    | scr e' => have e := Option.some.inj (show some _ = some k from e); subst e; exact .inl ⟨_, f.seq e', by cases ‹List Int› <;> rfl⟩
    | _ => cases e
  · cases ow with
    | l r => have e := Option.some.inj (show some _ = some k from e); subst e; exact .inl ⟨_, .inl (.inl hp), by rw [isEmpty_all r]⟩
    | _ => cases e
  · cases e
def tT (f : Ev Opd) : Ev Bool := fun S st => (f S st).bind fun o S st => match vw S st o with
  | some d => got (tru d) S st
  | none => .stuck
theorem dt_t {f : Ev Opd} (h : DO X B W a f) (he : ∀ whole, isTrue a X.env whole = (do let v ← whole; standAt a.pos; holding [v] (truthy v)) := by exact fun _ => rfl) : DT X B W a (tT f) :=
  pt_imp (pt_truth h he) fun σ H Q ⟨F, S, st, o, q⟩ => ⟨F, S, st, o, (Post.bind (R := RO (Cx.g X) σ) q).mono fun v H1 ⟨F1, d, S1, st1, g1, o1, r1, p1⟩ => by
    split at p1
    · rename_i x hx
      obtain ⟨k, hk, p1⟩ := got_ok p1
      exact ⟨k, (o1.vw r1 hx).tru o1.fH hk, p1 k H1 F1 .refl o1 rfl⟩
    · exact p1.elim⟩
def tN (f : Ev Bool) : Ev Bool := fun S st => (f S st).bind fun b S st => .ok (!b) S st
theorem dt_n {f : Ev Bool} (h : DT X B W a f) : DT X B W (.UnaryOp .Not a pos) (tN f) :=
  pt_imp (pt_not h) fun σ H Q ⟨F, S, st, o, q⟩ => ⟨F, S, st, o, (Post.bind (R := RB σ) q).mono fun v H1 ⟨F1, d, S1, st1, g1, o1, r1, p1⟩ => by
    cases r1
    exact p1 _ H1 F1 .refl o1 rfl⟩
def tA (f g : Ev Bool) : Ev Bool := fun S st => (f S st).bind fun b S st => if b = true then g S st else .ok false S st
def tO (f g : Ev Bool) : Ev Bool := fun S st => (f S st).bind fun b S st => if b = true then .ok true S st else g S st
theorem dw_1a {f : Ev Bool} (h : DT X B W a f) : DW X B W (.BoolOp .And [a] pos) f := pw_and1 h
theorem dw_1o {f : Ev Bool} (h : DT X B W a f) : DW X B W (.BoolOp .Or [a] pos) f := pw_or1 h
theorem dw_a {rest : List Expr} {f g : Ev Bool} (h : DT X B W a f) (t : DW X B W (.BoolOp .And (b :: rest) pos) g) : DW X B W (.BoolOp .And (a :: b :: rest) pos) (tA f g) :=
  pw_imp (pw_and h t) fun σ H Q ⟨F, S, st, o, q⟩ => ⟨F, S, st, o, (Post.bind (R := RB σ) q).mono fun v H1 ⟨F1, d, S1, st1, g1, o1, r1, p1⟩ => by
    cases r1
    cases v with
    | true => exact ⟨F1, S1, st1, o1, p1⟩
    | false => exact p1 _ H1 F1 .refl o1 rfl⟩
theorem dw_o {rest : List Expr} {f g : Ev Bool} (h : DT X B W a f) (t : DW X B W (.BoolOp .Or (b :: rest) pos) g) : DW X B W (.BoolOp .Or (a :: b :: rest) pos) (tO f g) :=
  pw_imp (pw_or h t) fun σ H Q ⟨F, S, st, o, q⟩ => ⟨F, S, st, o, (Post.bind (R := RB σ) q).mono fun v H1 ⟨F1, d, S1, st1, g1, o1, r1, p1⟩ => by
    cases r1
    cases v with
    | false => exact ⟨F1, S1, st1, o1, p1⟩
    | true => exact p1 _ H1 F1 .refl o1 rfl⟩
theorem dt_w {f : Ev Bool} (h : DW X B W a f) : DT X B W a f := PW.pt h
/-- as values: bools -/
def eA (f g : Ev D) : Ev D := fun S st => (f S st).bind fun d S st => match d with
  | .bl b => if b = true then g S st else .ok (.bl false) S st
  | _ => .stuck
def eO (f g : Ev D) : Ev D := fun S st => (f S st).bind fun d S st => match d with
  | .bl b => if b = true then .ok (.bl true) S st else g S st
  | _ => .stuck
def eN (f : Ev D) : Ev D := fun S st => (f S st).bind fun d S st => match d with
  | .bl b => .ok (.bl (!b)) S st
  | _ => .stuck
theorem de_1 {op} {f : Ev D} (h : DE X B W a f) : DE X B W (.BoolOp op [a] pos) f := pe_one h
theorem de_a {rest : List Expr} {f g : Ev D} (h : DE X B W a f) (t : DE X B W (.BoolOp .And (b :: rest) pos) g) : DE X B W (.BoolOp .And (a :: b :: rest) pos) (eA f g) :=
  pe_imp (pe_and h t) fun σ H Q ⟨F, S, st, o, q⟩ => ⟨F, S, st, o, (Post.bind (R := RD (Cx.g X) σ) q).mono fun v H1 ⟨F1, d, S1, st1, g1, o1, r1, p1⟩ => by
    split at p1
    · rename_i k
      cases r1
      refine ⟨_, rfl, ?_⟩
      cases k with
      | true => exact ⟨F1, S1, st1, o1, p1⟩
      | false => exact p1 _ H1 F1 .refl o1 (.bl _)
    · exact p1.elim⟩
theorem de_o {rest : List Expr} {f g : Ev D} (h : DE X B W a f) (t : DE X B W (.BoolOp .Or (b :: rest) pos) g) : DE X B W (.BoolOp .Or (a :: b :: rest) pos) (eO f g) :=
  pe_imp (pe_or h t) fun σ H Q ⟨F, S, st, o, q⟩ => ⟨F, S, st, o, (Post.bind (R := RD (Cx.g X) σ) q).mono fun v H1 ⟨F1, d, S1, st1, g1, o1, r1, p1⟩ => by
    split at p1
    · rename_i k
      cases r1
      refine ⟨_, rfl, ?_⟩
      cases k with
      | false => exact ⟨F1, S1, st1, o1, p1⟩
      | true => exact p1 _ H1 F1 .refl o1 (.bl _)
    · exact p1.elim⟩
theorem de_n {f : Ev D} (h : DE X B W a f) : DE X B W (.UnaryOp .Not a pos) (eN f) :=
  pe_imp (pe_not h) fun σ H Q ⟨F, S, st, o, q⟩ => ⟨F, S, st, o, (Post.bind (R := RD (Cx.g X) σ) q).mono fun v H1 ⟨F1, d, S1, st1, g1, o1, r1, p1⟩ => by
    split at p1
    · cases r1
      exact ⟨_, rfl, p1 _ H1 F1 .refl o1 (.bl _)⟩
    · exact p1.elim⟩
def eI (t : Ev Bool) (f g : Ev D) : Ev D := fun S st => (t S st).bind fun b S st => if b = true then f S st else g S st
theorem de_i {t : Ev Bool} {f g : Ev D} (ht : DT X B W c t) (hf : DE X B W a f) (hg : DE X B W b g) : DE X B W (.IfExp c a b pos) (eI t f g) :=
  pe_imp (pe_ifExp ht hf hg) fun σ H Q ⟨F, S, st, o, q⟩ => ⟨F, S, st, o, (Post.bind (R := RB σ) q).mono fun v H1 ⟨F1, d, S1, st1, g1, o1, r1, p1⟩ => by
    cases r1
    cases v with
    | true => exact ⟨F1, S1, st1, o1, p1⟩
    | false => exact ⟨F1, S1, st1, o1, p1⟩⟩

/-! ### objects that are new -/
def PostF (G : Gx) (B : Hp) (W : WX) (σ : L2.St) (F : Fz) (Q : VK) : Res Ow → Prop
  | .ok w S' st' => ∀ p u H' F', Gr B F F' → Ok G B F' σ H' S' st' → H' p = some u → F' p = none → B p = none → OwRel G F' u w → p ∉ F'.m → (∀ (j : Nat) (es : Ow), S'[j]? = some (.own es) → σ[j]? ≠ some (some (.ref p))) → Q (.ref p) H'
  | .exc x S' st' => ∀ cls dd H' F', Gr B F F' → Ok G B F' σ H' S' st' → XRel G F' x cls dd H' → W cls dd σ H'
  | .stuck => False
def liftF (G : Gx) (B : Hp) (W : WX) (f : Ev Ow) : TE := fun σ H Q => ∃ F S st, Ok G B F σ H S st ∧ PostF G B W σ F Q (f S st)
def DF (X : Cx) (B : Hp) (W : WX) (e : Expr) (f : Ev Ow) : Prop := PE X e (liftF (Cx.g X) B W f)
theorem PostF.grow {G : Gx} {σ : L2.St} {F F' : Fz} {Q : VK} {r : Res Ow} (g : Gr B F F') (h : PostF G B W σ F Q r) : PostF G B W σ F' Q r := by
  cases r with
  | ok d S st => exact fun p u H' F2 g2 => h p u H' F2 (g.trans g2)
  | exc x S st => exact fun c d H' F2 g2 o r => h c d H' F2 (g.trans g2) o r
  | stuck => exact h
theorem PostF.bind {G : Gx} {α β : Type} {R : Fz → β → α → Prop} {σ : L2.St} {F : Fz} {Q : VK} {r : Res α} {k : α → Sls → Store → Res Ow} (h : PostF G B W σ F Q (r.bind k)) :
    Post G B W R σ F (fun v H1 => ∃ F1 d S1 st1, Gr B F F1 ∧ Ok G B F1 σ H1 S1 st1 ∧ R F1 v d ∧ PostF G B W σ F1 Q (k d S1 st1)) r := by
  cases r with
  | ok d S st => exact fun v H' F' g o r => ⟨F', d, S, st, g, o, r, PostF.grow g h⟩
  | exc x S st => exact h
  | stuck => exact h
/-- .. laid just now -/
theorem PostF.new {G : Gx} {σ : L2.St} {F : Fz} {H : Hp} {Q : VK} {S : Sls} {st : Store} {w : Ow} (o : Ok G B F σ H S st) (h : PostF G B W σ F Q (.ok w S st)) {p : Addr} {u : HO} (hp : H p = none) (r : OwRel G F u w) : Q (.ref p) (upd H p u) := by
  refine h p u _ F .refl (o.junk (same_new hp)) upd_same (o.fH.free hp) (o.kp.free hp) r (o.so.new hp) fun j es e1 e2 => ?_
  obtain ⟨p', xs', e3, h1, _⟩ := o.sl j _ e1
  rw [e2] at e3; cases e3
  rw [hp] at h1; cases h1
theorem Ok.frzAt {G : Gx} {F : Fz} {H : Hp} {σ : L2.St} {S : Sls} {st : Store} (o : Ok G B F σ H S st) {p : Addr} {u : HO} (h : H p = some u) (hF : F p = none) (hB : B p = none) (hm : p ∉ F.m) (no : ∀ (j : Nat) (es : Ow), S[j]? = some (.own es) → σ[j]? ≠ some (some (.ref p))) :
    Gr B F (F.up p u) ∧ Ok G B (F.up p u) σ H S st := by
  have sm : SmF F (F.up p u) := .up (same_new hF)
  refine ⟨⟨sm, fun a q1 q2 => ?_⟩, fun b u q => ?_, o.kp, ⟨o.so.ml, o.so.mn, fun n x a q1 q2 => ?_⟩, o.len, fun j s q => ?_, o.ap⟩
  · by_cases z : a = p
    · subst z; exact hB
    · have q2 : upd F.f p u a ≠ none := q2
      rw [upd_ne z] at q2; exact absurd q1 q2
  · have q : upd F.f p _ b = _ := q
    by_cases z : b = p
    · subst z; rw [upd_same] at q; cases q; exact h
    · rw [upd_ne z] at q; exact o.fH _ _ q
  · obtain ⟨k1, k2, k3⟩ := o.so.ob n x a q1 q2
    have z : a ≠ p := fun z => hm (by rw [← z]; exact List.mem_of_getElem? q2)
    exact ⟨by show upd F.f p u a = none; rw [upd_ne z]; exact k1, k2, k3.grow sm (Same.refl H)⟩
  · have w := o.sl j s q
    cases s with
    | no => trivial
    | d x =>
      obtain ⟨v, a1, a2⟩ := w
      exact ⟨v, a1, a2.mono sm⟩
    | own es' =>
      obtain ⟨p2, xs2, a1, a2, a3, a4, a5, a6⟩ := w
      have : p2 ≠ p := fun z => no j _ q (by rw [a1, z])
      exact ⟨p2, xs2, a1, a2, by show upd F.f p u p2 = none; rw [upd_ne this]; exact a3, a4, a5.mono sm, a6⟩
/-- .. kept as it is -/
def fE (f : Ev Ow) : Ev D := fun S st => (f S st).bind fun w S st => .ok w.d S st
theorem postF_fE {G : Gx} {B : Hp} {W : WX} {σ : L2.St} {F : Fz} {Q : VK} {r : Res Ow} (q : Post G B W (RD G σ) σ F Q (r.bind fun w S st => .ok w.d S st)) : PostF G B W σ F Q r := by
  cases r with
  | ok w S1 st1 =>
    intro p u H' F' g o1 hu hF hB r hm no
    obtain ⟨g', o'⟩ := o1.frzAt hu hF hB hm no
    exact q _ H' _ (g.trans g') o' ((r.mono g'.1).rp upd_same)
  | exc x S1 st1 => exact q
  | stuck => exact q
theorem de_f {f : Ev Ow} (h : DF X B W e f) : DE X B W e (fE f) :=
  pe_imp h fun σ H Q ⟨F, S, st, o, q⟩ => ⟨F, S, st, o, postF_fE q⟩
/-- r lays a new object that holds w -/
def Lays (r : VK → Prop) (G : Gx) (F : Fz) (H : Hp) (w : Ow) : Prop := ∀ Q : VK, (∀ p u, H p = none → OwRel G F u w → Q (.ref p) (upd H p u)) → r Q
def Op2F (G : Gx) (r : R2) (op : D → D → Option Ow) : Prop := ∀ (F : Fz) H v w x y d, Same F.f H → Vw G F H v x → Vw G F H w y → op x y = some d → Lays (r v w H) G F H d
def OpAF (G : Gx) (r : List V → Hp → VK → Prop) (op : List D → Option Ow) : Prop := ∀ (F : Fz) H vs xs d, Same F.f H → VwAll G F H vs xs → op xs = some d → Lays (r vs H) G F H d
def OpMF (G : Gx) (r : V → List V → Hp → VK → Prop) (op : D → List D → Option Ow) : Prop := ∀ (F : Fz) H v vs x xs d, Same F.f H → Vw G F H v x → VwAll G F H vs xs → op x xs = some d → Lays (r v vs H) G F H d
theorem Lays.gives {r : VK → Prop} {G : Gx} {F : Fz} {H : Hp} {w : Ow} (f : Same F.f H) (h : Lays r G F H w) : Gives r G F H w.d := fun Q k => h Q fun p u hp r =>
  k _ _ (upd F.f p u) (same_new hp) (same_upd2 f) (gr_new f hp) ((r.mono (.up (gr_new f hp).1)).rp upd_same)
theorem postF_got {G : Gx} {F : Fz} {σ : L2.St} {Q : VK} {x : Option Ow} {S : Sls} {st : Store} (p : PostF G B W σ F Q (got x S st)) : ∃ d, x = some d ∧ PostF G B W σ F Q (.ok d S st) := by
  cases x with
  | none => exact p.elim
  | some d => exact ⟨d, rfl, p⟩
theorem Lays.fin {r : VK → Prop} {G : Gx} {F : Fz} {H : Hp} {σ : L2.St} {S : Sls} {st : Store} {w : Ow} {Q : VK} (g : Lays r G F H w) (o : Ok G B F σ H S st) (p : PostF G B W σ F Q (.ok w S st)) : r Q :=
  g Q fun q u hq r => p.new o hq r
def o2F (op : D → D → Option Ow) (fa fb : Ev Opd) : Ev Ow := fun S st => (fa S st).bind fun a S st => (fb S st).bind fun b S st =>
  match vw S st a, vw S st b with
  | some x, some y => got (op x y) S st
  | _, _ => .stuck
def oAF (op : List D → Option Ow) (fa : Ev (List Opd)) : Ev Ow := fun S st => (fa S st).bind fun a S st =>
  match vws S st a with
  | some x => got (op x) S st
  | _ => .stuck
theorem df_bin {o : Operator} {r : R2} {op : D → D → Option Ow} {fa fb : Ev Opd} (ho : OpR X (binaryOp o) r) (h : Op2F (Cx.g X) r op) (ha : DO X B W a fa) (hb : DO X B W b fb) : DF X B W (.BinOp a o b pos) (o2F op fa fb) :=
  pe_imp (pe_op ho ha hb) fun σ H Q ⟨F, S, st, o, q⟩ => ⟨F, S, st, o, (PostF.bind (R := RO (Cx.g X) σ) q).mono fun v H1 ⟨F1, d, S1, st1, g1, o1, r1, p1⟩ =>
    ⟨F1, S1, st1, o1, (PostF.bind (R := RO (Cx.g X) σ) p1).mono fun w H2 ⟨F2, d2, S2, st2, g2, o2, r2, p2⟩ => by
      split at p2
      · rename_i x y hx hy
        obtain ⟨z, hz, p2⟩ := postF_got p2
        exact (h F2 H2 v w x y z o2.fH (o2.vw (r1.mono g2.1) hx) (o2.vw r2 hy) hz).fin o2 p2
      · exact p2.elim⟩⟩
theorem df_ct {x : Str} {p : Pos} {T : String} {r : List V → Hp → VK → Prop} {op : List D → Option Ow} {fa : Ev (List Opd)} (hc : CallR X (.type T) r) (h : OpAF (Cx.g X) r op) (hm : X.mg x = none) (ha : DA X B W (e :: es) fa)
    (hg : Gl X x := by rfl) (hv : bootBuiltins x = some (.type T) := by decide +kernel) (hn : x ≠ "__name__" := by decide) (hdb : (x == ("__debug__" : Str)) = false := by decide)
    (he : starEach (e :: es) X.env = (false, eval e X.env) :: starEach es X.env := by rfl) (hpl : (backTo pos (starEach es X.env)).any (·.1) = false := by rfl) : DF X B W (.Call (.Name x p) (e :: es) [] pos) (oAF op fa) :=
  pe_imp (pe_callTy hc hg hm hv ha hn hdb he hpl) fun σ H Q ⟨F, S, st, o, q⟩ => ⟨F, S, st, o, (PostF.bind (R := RpO (Cx.g X) σ) q).mono fun v H1 ⟨F1, d, S1, st1, g1, o1, r1, p1⟩ => by
    split at p1
    · rename_i x hx
      obtain ⟨z, hz, p1⟩ := postF_got p1
      exact (h F1 H1 v x z o1.fH (o1.vws r1 hx) hz).fin o1 p1
    · exact p1.elim⟩
theorem df_cb {x : Str} {p : Pos} {T : String} {r : List V → Hp → VK → Prop} {op : List D → Option Ow} {fa : Ev (List Opd)} (hc : CallR X (.builtin T) r) (h : OpAF (Cx.g X) r op) (hm : X.mg x = none) (ha : DA X B W (e :: es) fa)
    (hg : Gl X x := by rfl) (hv : bootBuiltins x = some (.builtin T) := by decide +kernel) (hn : x ≠ "__name__" := by decide) (hdb : (x == ("__debug__" : Str)) = false := by decide)
    (he : starEach (e :: es) X.env = (false, eval e X.env) :: starEach es X.env := by rfl) (hpl : (backTo pos (starEach es X.env)).any (·.1) = false := by rfl) : DF X B W (.Call (.Name x p) (e :: es) [] pos) (oAF op fa) :=
  pe_imp (pe_callB hc hg hm hv ha hn hdb he hpl) fun σ H Q ⟨F, S, st, o, q⟩ => ⟨F, S, st, o, (PostF.bind (R := RpO (Cx.g X) σ) q).mono fun v H1 ⟨F1, d, S1, st1, g1, o1, r1, p1⟩ => by
    split at p1
    · rename_i x hx
      obtain ⟨z, hz, p1⟩ := postF_got p1
      exact (h F1 H1 v x z o1.fH (o1.vws r1 hx) hz).fin o1 p1
    · exact p1.elim⟩
/-- [a, b, ..] -/
def lF (fa : Ev (List Opd)) : Ev Ow := fun S st => (fa S st).bind fun a S st => match vds S a with
  | some ds => if ds.length ≤ 16777216 then .ok (.l ds) S st else .stuck
  | none => .stuck
theorem df_l {fa : Ev (List Opd)} (ha : DA X B W es fa) : DF X B W (.List es pos) (lF fa) :=
  pe_imp (pe_lst ha) fun σ H Q ⟨F, S, st, o, q⟩ => ⟨F, S, st, o, (PostF.bind (R := RpO (Cx.g X) σ) q).mono fun v H1 ⟨F1, d, S1, st1, g1, o1, r1, p1⟩ => by
    split at p1
    · rename_i x hx
      split at p1
      · have rr := o1.vds r1 hx
        exact ⟨by rw [rr.length, sizeLine_eq]; assumption, fun p hp => p1.new o1 hp (.l rr)⟩
      · exact p1.elim
    · exact p1.elim⟩
/-- (a, b, ..) -/
def pE (fa : Ev (List Opd)) : Ev D := fun S st => (fa S st).bind fun a S st => match vds S a with
  | some ds => if ds.length ≤ 16777216 then .ok (.tup ds) S st else .stuck
  | none => .stuck
theorem de_p {fa : Ev (List Opd)} {x1} (ha : DA X B W es fa) : DE X B W (.Tuple es x1 pos) (pE fa) :=
  pe_imp (pe_tup ha) fun σ H Q ⟨F, S, st, o, q⟩ => ⟨F, S, st, o, (Post.bind (R := RpO (Cx.g X) σ) q).mono fun v H1 ⟨F1, d, S1, st1, g1, o1, r1, p1⟩ => by
    split at p1
    · rename_i x hx
      split at p1
      · have rr := o1.vds r1 hx
        exact ⟨by rw [rr.length, sizeLine_eq]; assumption, fun p hp => p1 _ _ (F1.up p (.tup v)) (o1.grN hp) (o1.gnew hp) (.tup (.inl (.inl upd_same)) (rr.mono (o1.grN (u := .tup v) hp).1))⟩
      · exact p1.elim
    · exact p1.elim⟩

/-! ### slices -/
def RP : L2.St → Fz → Option Int → Option Int → Prop := fun _ _ v d => v = d
def DP (X : Cx) (B : Hp) (W : WX) (e : Option Expr) (f : Ev (Option Int)) : Prop := PO X e (lift (Cx.g X) B W RP f)
theorem po_imp {X : Cx} {e : Option Expr} {t t' : TO} (h : PO X e t) (i : ∀ σ H Q, t' σ H Q → t σ H Q) : PO X e t' := ⟨fun pins s σ H Q I q => h.run pins s σ H Q I (i σ H Q q)⟩
def sN : Ev (Option Int) := fun S st => .ok none S st
def sS (f : Ev D) : Ev (Option Int) := fun S st => (f S st).bind fun d S st => match d with
  | .int i => .ok (some i) S st
  | _ => .stuck
theorem dp_n : DP X B W none sN := po_imp po_none fun σ H Q ⟨F, S, st, o, q⟩ => q _ H F .refl o rfl
theorem dp_s {f : Ev D} (h : DE X B W e f) : DP X B W (some e) (sS f) := po_imp (po_some h) fun σ H Q ⟨F, S, st, o, q⟩ => ⟨F, S, st, o, (Post.bind (R := RD (Cx.g X) σ) q).mono fun v H1 ⟨F1, d, S1, st1, g1, o1, r1, p1⟩ => by
  split at p1
  · cases r1
    exact ⟨_, rfl, p1 _ H1 F1 .refl o1 rfl⟩
  · exact p1.elim⟩
def OpS (G : Gx) (r : V → Option Int → Option Int → Hp → VK → Prop) (op : D → Option Int → Option Int → Option D) : Prop := ∀ (F : Fz) H v x l u d, Same F.f H → Vw G F H v x → op x l u = some d → Gives (r v l u H) G F H d
def slE (op : D → Option Int → Option Int → Option D) (fa : Ev Opd) (fl fu : Ev (Option Int)) : Ev D := fun S st => (fa S st).bind fun a S st => (fl S st).bind fun l S st => (fu S st).bind fun u S st =>
  match vw S st a with
  | some x => got (op x l u) S st
  | _ => .stuck
theorem de_sl {r : V → Option Int → Option Int → Hp → VK → Prop} {op : D → Option Int → Option Int → Option D} {lo hi : Option Expr} {p2 : Pos} {fa : Ev Opd} {fl fu : Ev (Option Int)} (hr : SlR X r) (h : OpS (Cx.g X) r op) (ha : DO X B W a fa) (hl : DP X B W lo fl) (hu : DP X B W hi fu) :
    DE X B W (.Subscript a (.Slice lo hi none p2) pos) (slE op fa fl fu) :=
  pe_imp (pe_slice hr ha hl hu) fun σ H Q ⟨F, S, st, o, q⟩ => ⟨F, S, st, o, (Post.bind (R := RO (Cx.g X) σ) q).mono fun v H1 ⟨F1, d, S1, st1, g1, o1, r1, p1⟩ =>
    ⟨F1, S1, st1, o1, (Post.bind (R := RP σ) p1).mono fun l H2 ⟨F2, l', S2, st2, g2, o2, e2, p2⟩ => ⟨F2, S2, st2, o2, (Post.bind (R := RP σ) p2).mono fun u H3 ⟨F3, u', S3, st3, g3, o3, e3, p3⟩ => by
      cases e2; cases e3
      split at p3
      · rename_i x hx
        obtain ⟨z, hz, p3⟩ := got_ok p3
        exact (h F3 H3 v x _ _ z o3.fH (o3.vw (r1.mono (g2.1.trans g3.1)) hx) hz).fin o3 p3
      · exact p3.elim⟩⟩⟩
end

/-! ### calls of defs -/
/-- all but the store's things -/
def hid (m : List Addr) (H : Hp) : Hp := fun a => if a ∈ m then none else H a
theorem hid_in {m : List Addr} {H : Hp} {a : Addr} (h : a ∈ m) : hid m H a = none := if_pos h
theorem hid_out {m : List Addr} {H : Hp} {a : Addr} (h : a ∉ m) : hid m H a = H a := if_neg h
theorem hid_same (m : List Addr) (H : Hp) : Same (hid m H) H := fun a u e => by
  by_cases h : a ∈ m
  · rw [hid_in h] at e; cases e
  · rw [hid_out h] at e; exact e
theorem hid_nil (H : Hp) : hid [] H = H := by funext a; exact hid_out (by simp)
def spOf (G : Gx) (n : Nat) (c : CallT) : Sp := fun vs H Q E => vs.length = n ∧ ∃ (F : Fz) (ds : List D) (st : Store), Same F.f H ∧ StOk G (hid F.m H) F H st ∧ RpAll G F vs ds ∧ match c ds st with
  | .ok d _ st' => ∀ v H' (F' : Fz), Same (hid F.m H) H' → Same F'.f H' → Gr (hid F.m H) F F' → StOk G (hid F.m H) F' H' st' → Rp G F' v d → Q v H'
  | .exc x _ st' => ∀ cls dd H' (F' : Fz), Same (hid F.m H) H' → Same F'.f H' → Gr (hid F.m H) F F' → StOk G (hid F.m H) F' H' st' → XRel G F' x cls dd H' → E cls dd H'
  | .stuck => False
/-- the store's things for a callee: they may change -/
theorem StOk.hid {G : Gx} {B H : Hp} {F : Fz} {st : Store} (o : StOk G B F H st) : StOk G (DL.hid F.m H) F H st :=
  ⟨o.ml, o.mn, fun n x a e1 e2 => ⟨(o.ob n x a e1 e2).1, hid_in (List.mem_of_getElem? e2), (o.ob n x a e1 e2).2.2⟩⟩
theorem Ok.hidB {G : Gx} {B : Hp} {F : Fz} {σ : L2.St} {H : Hp} {S : Sls} {st : Store} (o : Ok G B F σ H S st) {a : Addr} (z : hid F.m H a = none) : B a = none := by
  by_cases h : a ∈ F.m
  · obtain ⟨_, _, n, x, _, _, q, _⟩ := o.so.mem h; exact q
  · rw [hid_out h] at z; exact o.kp.free z
/-- behind a call -/
theorem Ok.back {G : Gx} {B : Hp} {F F' : Fz} {σ : L2.St} {H H' : Hp} {S : Sls} {st st' : Store} (o : Ok G B F σ H S st) (k : Same (hid F.m H) H') (f : Same F'.f H') (g : Gr (hid F.m H) F F') (s : StOk G (hid F.m H) F' H' st') : Gr B F F' ∧ Ok G B F' σ H' S st' := by
  have key : ∀ a, hid F.m H a = none → B a = none := fun a z => by
    by_cases h : a ∈ F.m
    · obtain ⟨_, _, n, x, _, _, q, _⟩ := o.so.mem h; exact q
    · rw [hid_out h] at z; exact o.kp.free z
  refine ⟨⟨g.1, fun a h1 h2 => key a (g.2 a h1 h2)⟩, f, fun a u e => ?_, ⟨s.ml, s.mn, fun n x a e1 e2 => ?_⟩, o.len, fun i sl e => ?_, o.ap⟩
  · have hm : a ∉ F.m := fun z => by
      obtain ⟨_, _, n, x, _, _, q, _⟩ := o.so.mem z
      rw [q] at e; cases e
    exact k a u (by rw [hid_out hm]; exact o.kp a u e)
  · obtain ⟨h1, h2, h3⟩ := s.ob n x a e1 e2
    exact ⟨h1, key a h2, h3⟩
  · have h := o.sl i sl e
    cases sl with
    | no => trivial
    | d x =>
      obtain ⟨v, a1, a2⟩ := h
      exact ⟨v, a1, a2.mono g.1⟩
    | own w =>
      obtain ⟨p, u, a1, a2, a3, a4, a5, a6⟩ := h
      have hp : hid F.m H p = some u := by rw [hid_out a6]; exact a2
      refine ⟨p, u, a1, k p u hp, ?_, a4, a5.mono g.1, fun z => ?_⟩
      · cases z : F' p with
        | none => rfl
        | some v =>
          have := g.2 p a3 (by rw [z]; simp)
          rw [hp] at this; cases this
      · obtain ⟨_, _, n, x, _, _, q, _⟩ := s.mem z
        rw [hp] at q; cases q
structure Def (P : Program) (w : World) (K : PySem.W.Frag) (mg : Str → Option Value) (base : Heap) (k : Nat) (x : Str) (n : Nat) (c : CallT) : Prop where
  ex : ∃ f fd ps, FnOk P w K mg base (L2.CX P w) k f fd ps (spOf ⟨K, mg, w⟩ n c) ∧ Binds K fd ps [] ∧ mg x = some (.ref f) ∧ PySem.W.keepIn K (.ref f) = true
theorem Def.mono {P : Program} {w : World} {K : PySem.W.Frag} {mg : Str → Option Value} {base : Heap} {k j : Nat} {x : Str} {n : Nat} {c : CallT} (d : Def P w K mg base k x n c) (h : k ≤ j) : Def P w K mg base j x n c := by
  obtain ⟨f, fd, ps, a, b, c, e⟩ := d.ex
  exact ⟨f, fd, ps, a.mono h, b, c, e⟩
def cE (c : CallT) (fa : Ev (List Opd)) : Ev D := fun S st => (fa S st).bind fun a S st => match vds S a with
  | some ds => match c ds st with
    | .ok d _ st => .ok d S st
    | .exc x _ st => .exc x S st
    | .stuck => .stuck
  | none => .stuck
section
variable {X : Cx} {B : Hp} {W : WX} {e : Expr} {es : List Expr} {pos p : Pos} {k : Nat} {x : Str} {n : Nat} {c : CallT}
theorem call_lift {fa : Ev (List Opd)} {σ : L2.St} {H : Hp} {Q : VK} (hn : ∀ S st r S' st', fa S st = .ok r S' st' → r.length = n) (q : lift (Cx.g X) B W (RD (Cx.g X)) (cE c fa) σ H Q) :
    tCallS (spOf (Cx.g X) n c) (WE W) (lift (Cx.g X) B W (RpO (Cx.g X)) fa) σ H Q := by
  obtain ⟨F, S, st, o, q⟩ := q
  have key : ∀ (r : Res (List Opd)) (hl : ∀ r' S' st', r = .ok r' S' st' → r'.length = n), Post (Cx.g X) B W (RD (Cx.g X) σ) σ F Q (r.bind fun a S st => match vds S a with
      | some ds => match c ds st with
        | .ok d _ st => .ok d S st
        | .exc x _ st => .exc x S st
        | .stuck => .stuck
      | none => .stuck) → Post (Cx.g X) B W (RpO (Cx.g X) σ) σ F (fun vs H1 => spOf (Cx.g X) n c vs H1 Q (WE W σ)) r := by
    intro r hl q
    cases r with
    | exc y S1 st1 => exact q
    | stuck => exact q
    | ok a S1 st1 =>
      intro vs H1 F1 g1 o1 r1
      have q : Post (Cx.g X) B W (RD (Cx.g X) σ) σ F Q (match vds S1 a with
        | some ds => match c ds st1 with
          | .ok d _ st => .ok d S1 st
          | .exc x _ st => .exc x S1 st
          | .stuck => .stuck
        | none => .stuck) := q
      split at q
      · rename_i ds hds
        have ra := o1.vds r1 hds
        refine ⟨?_, F1, ds, st1, o1.fH, o1.so.hid, ra, ?_⟩
        · have l1 := hl _ _ _ rfl
          have : ∀ {vs : List V} {as : List Opd}, RpO (Cx.g X) σ F1 vs as → vs.length = as.length := by
            intro vs as h
            induction h with
            | nil => rfl
            | cons _ _ ih => simp [ih]
          rw [this r1, l1]
        · split at q
          · exact fun v H' F' k f gr so rr => q v H' F' (g1.trans (o1.back k f gr so).1) (o1.back k f gr so).2 rr
          · exact fun cls dd H' F' k f gr so rr => q cls dd H' F' (g1.trans (o1.back k f gr so).1) (o1.back k f gr so).2 rr
          · exact q.elim
      · exact q.elim
  exact ⟨F, S, st, o, key _ (fun r' S' st' e => hn _ _ _ _ _ e) q⟩
/-- an argument list of n -/
def aLen (f : Ev (List Opd)) (n : Nat) : Prop := ∀ S st r S' st', f S st = .ok r S' st' → r.length = n
theorem aLen_n : aLen aN 0 := fun S st r S' st' h => by
  have : Res.ok [] S st = Res.ok r S' st' := h
  injection this with h1 _ _
  subst h1; rfl
theorem aLen_c {f : Ev Opd} {g : Ev (List Opd)} {n : Nat} (h : aLen g n) : aLen (aC f g) (n + 1) := fun S st r S' st' q => by
  unfold aC at q
  cases h1 : f S st with
  | ok a S1 st1 =>
    rw [h1, Res.bind_ok] at q
    cases h2 : g S1 st1 with
    | ok b S2 st2 =>
      rw [h2, Res.bind_ok] at q
      injection q with q1 _ _
      subst q1
      simp [h _ _ _ _ _ h2]
    | exc y S2 st2 => rw [h2] at q; cases q
    | stuck => rw [h2] at q; cases q
  | exc y S1 st1 => rw [h1] at q; cases q
  | stuck => rw [h1] at q; cases q
theorem de_c {fa : Ev (List Opd)} (d : Def X.prog X.w X.K X.mg X.base k x n c) (hr : Room k X.A) (tk : Takes X W) (ha : DA X B W (e :: es) fa) (hl : aLen fa n := by repeat (first | exact aLen_n | refine aLen_c ?_)) (hg : Gl X x := by rfl) (hdb : (x == ("__debug__" : Str)) = false := by decide)
    (he : starEach (e :: es) X.env = (false, eval e X.env) :: starEach es X.env := by rfl) (hpl : (backTo pos (starEach es X.env)).any (·.1) = false := by rfl) : DE X B W (.Call (.Name x p) (e :: es) [] pos) (cE c fa) := by
  obtain ⟨f, fd, ps, F, hb, hm, hk⟩ := d.ex
  exact pe_imp (pe_callS F hr hg hm hk hb (fun σ => passAt tk σ) ha hdb he hpl) fun σ H Q q => call_lift hl q
end
end DL

namespace DL
open PySem PySem.Spec PyProof.Rows L2
section
variable {X : Cx} {B : Hp} {W : WX} {e a b c : Expr} {es : List Expr} {s : Stmt} {ss : List Stmt} {pos : Pos}

/-! ### statements -/
def sNil : EvS := fun S st => .nx S st
def sSeq (f g : EvS) : EvS := fun S st => (f S st).then g
theorem PostS.then {G : Gx} {F : Fz} {D : Ends} {r : Out} {k : Sls → Store → Out} (h : PostS G B W F D (r.then k)) : PostS G B W F { D with nx := fun σ H => ∃ F1 S1 st1, Gr B F F1 ∧ Ok G B F1 σ H S1 st1 ∧ PostS G B W F1 D (k S1 st1) } r := by
  cases r with
  | nx S st => exact fun σ' H' F' g o => ⟨F', S, st, g, o, PostS.grow g h⟩
  | _ => exact h
theorem dss_n : DSs X B W [] sNil := pss_imp pss_nil fun D σ H ⟨F, S, st, o, q⟩ => q σ H F .refl o
theorem dss_c {f g : EvS} (h : DS X B W s f) (t : DSs X B W ss g) : DSs X B W (s :: ss) (sSeq f g) :=
  pss_imp (pss_cons h t) fun D σ H ⟨F, S, st, o, q⟩ => by
    refine ⟨F, S, st, o, ?_⟩
    have q2 := PostS.then q
    generalize f S st = r at q2
    cases r with
    | nx S1 st1 =>
      intro σ' H' F' g o1
      obtain ⟨F1, S2, st2, g2, o2, p⟩ := q2 σ' H' F' g o1
      exact ⟨F1, S2, st2, o2, p⟩
    | _ => exact q2
theorem dss_1 {f : EvS} (h : DS X B W s f) : DSs X B W [s] f := pss_one h
def sBk : EvS := fun S st => .bk S st
def sCt : EvS := fun S st => .ct S st
def sStuck : EvS := fun _ _ => .stuck
theorem ds_pass : DS X B W (.Pass pos) sNil := ps_imp ps_pass fun D σ H ⟨F, S, st, o, q⟩ => q σ H F .refl o
theorem ds_bk : DS X B W (.Break pos) sBk := ps_imp ps_break fun D σ H ⟨F, S, st, o, q⟩ => q σ H F .refl o
theorem ds_ct : DS X B W (.Continue pos) sCt := ps_imp ps_continue fun D σ H ⟨F, S, st, o, q⟩ => q σ H F .refl o
/-- a statement that is never come to -/
theorem ds_never : DS X B W s sStuck := ps_imp ps_never fun D σ H ⟨F, S, st, o, q⟩ => q
def sE (f : Ev D) : EvS := fun S st => (f S st).out fun _ S st => .nx S st
theorem ds_e {f : Ev D} (h : DE X B W e f) (hs : swapsWith e none pos.line X.env = pure false := by rfl) : DS X B W (.Expr e pos) (sE f) :=
  ps_imp (ps_expr h hs) fun D σ H ⟨F, S, st, o, q⟩ => ⟨F, S, st, o, (Post.out (R := RD (Cx.g X) σ) q).mono fun v H1 ⟨F1, d, S1, st1, g1, o1, r1, p1⟩ => p1 σ H1 F1 .refl o1⟩
def sR (f : Ev D) : EvS := fun S st => (f S st).out fun d S st => .ret d S st
theorem ds_r {f : Ev D} (h : DE X B W e f) : DS X B W (.Return (some e) pos) (sR f) :=
  ps_imp (ps_ret h) fun D σ H ⟨F, S, st, o, q⟩ => ⟨F, S, st, o, (Post.out (R := RD (Cx.g X) σ) q).mono fun v H1 ⟨F1, d, S1, st1, g1, o1, r1, p1⟩ => p1 v σ H1 F1 .refl o1 r1⟩
def sRN : EvS := fun S st => .ret .non S st
theorem ds_rn : DS X B W (.Return none pos) sRN := ps_imp ps_retN fun D σ H ⟨F, S, st, o, q⟩ => q .non σ H F .refl o .non
def sI (t : Ev Bool) (f g : EvS) : EvS := fun S st => (t S st).out fun b S st => if b = true then f S st else g S st
theorem ds_i {t : Ev Bool} {f g : EvS} {tb fb : List Stmt} (ht : DT X B W c t) (hf : DSs X B W tb f) (hg : DSs X B W fb g) : DS X B W (.If c tb fb pos) (sI t f g) :=
  ps_imp (ps_if ht hf hg) fun D σ H ⟨F, S, st, o, q⟩ => ⟨F, S, st, o, (Post.out (R := RB σ) q).mono fun v H1 ⟨F1, d, S1, st1, g1, o1, r1, p1⟩ => by
    cases r1
    cases v with
    | true => exact ⟨F1, S1, st1, o1, p1⟩
    | false => exact ⟨F1, S1, st1, o1, p1⟩⟩

/-! ### stores -/
def setD (i : Nat) (d : D) (S : Sls) : Sls := S.set i (.d d)
def sV (i : Nat) (f : Ev D) : EvS := fun S st => (f S st).out fun d S st => .nx (S.set i (.d d)) st
theorem ds_v {i : Nat} {x : Str} {px : Pos} {f : Ev D} (nd : X.N.Nodup) (h : DE X B W e f) (hi : X.N[i]? = some x := by rfl) (hx : Loc X.env.scope x := by first | exact .inl rfl | exact .inr rfl) (hs : swapsWith e (some (.Name x px)) pos.line X.env = pure false := by rfl)
    (hf : X.fn x = true ∨ X.env.scope.names.lookup x = some .local := by first | exact .inl rfl | exact .inr rfl) : DS X B W (.Assign [.Name x px] e pos) (sV i f) :=
  ps_imp (ps_set (i := i) nd hi hx h hs hf) fun D σ H ⟨F, S, st, o, q⟩ => ⟨F, S, st, o, (Post.out (R := RD (Cx.g X) σ) q).mono fun v H1 ⟨F1, d, S1, st1, g1, o1, r1, p1⟩ => p1 _ H1 F1 .refl (o1.set i r1)⟩
/-- a new object, the slot's own -/
def sO (i : Nat) (f : Ev Ow) : EvS := fun S st => (f S st).out fun w S st => .nx (S.set i (.own w)) st
theorem postF_own {G : Gx} {σ : L2.St} {F : Fz} {Dn : Ends} {i : Nat} {r : Res Ow} (q : PostS G B W F Dn (r.out fun w S st => .nx (S.set i (.own w)) st)) : PostF G B W σ F (fun v H1 => Dn.nx (σ.set i (some v)) H1) r := by
  cases r with
  | ok w S1 st1 => exact fun p u H' F' g o1 hu hF hB r hm no => q _ H' F' g (o1.setOwnAt i hu hF hB hm r no)
  | exc x S1 st1 => exact fun c d H' F' g o r => q c d σ H' F' g o r
  | stuck => exact q
theorem ds_o {i : Nat} {x : Str} {px : Pos} {f : Ev Ow} (nd : X.N.Nodup) (h : DF X B W e f) (hi : X.N[i]? = some x := by rfl) (hx : Loc X.env.scope x := by first | exact .inl rfl | exact .inr rfl) (hs : swapsWith e (some (.Name x px)) pos.line X.env = pure false := by rfl)
    (hf : X.fn x = true ∨ X.env.scope.names.lookup x = some .local := by first | exact .inl rfl | exact .inr rfl) : DS X B W (.Assign [.Name x px] e pos) (sO i f) :=
  ps_imp (ps_set (i := i) nd hi hx h hs hf) fun D σ H ⟨F, S, st, o, q⟩ => ⟨F, S, st, o, postF_own q⟩
/-- targets by data -/
abbrev Tg := D → Sls → Option Sls
def liftG (G : Gx) (B : Hp) (g : Tg) : TG := fun v σ H Q => ∃ F S st d S', Ok G B F σ H S st ∧ Rp G F v d ∧ g d S = some S' ∧ ∀ σ' H' F', Gr B F F' → Ok G B F' σ' H' S' st → Q σ' H'
def liftGs (G : Gx) (B : Hp) (g : List D → Sls → Option Sls) : TGs := fun vs σ H Q => ∃ F S st ds S', Ok G B F σ H S st ∧ RpAll G F vs ds ∧ g ds S = some S' ∧ ∀ σ' H' F', Gr B F F' → Ok G B F' σ' H' S' st → Q σ' H'
def DG (X : Cx) (B : Hp) (e : Expr) (g : Tg) : Prop := PG X e (liftG (Cx.g X) B g)
def DGs (X : Cx) (B : Hp) (es : List Expr) (g : List D → Sls → Option Sls) : Prop := PGs X es (liftGs (Cx.g X) B g)
theorem pg_imp {X : Cx} {e : Expr} {t t' : TG} (h : PG X e t) (i : ∀ v σ H Q, t' v σ H Q → t v σ H Q) : PG X e t' := ⟨fun pins s σ H v u Q I r q => h.run pins s σ H v u Q I r (i v σ H Q q)⟩
theorem pgs_imp {X : Cx} {es : List Expr} {t t' : TGs} (h : PGs X es t) (i : ∀ v σ H Q, t' v σ H Q → t v σ H Q) : PGs X es t' := ⟨fun pins s σ H v u Q I r q => h.run pins s σ H v u Q I r (i v σ H Q q)⟩
def gV (i : Nat) : Tg := fun d S => some (S.set i (.d d))
theorem dg_v {i : Nat} {x : Str} {px : Pos} (nd : X.N.Nodup) (hi : X.N[i]? = some x := by rfl) (hx : Loc X.env.scope x := by first | exact .inl rfl | exact .inr rfl) (hf : X.fn x = true ∨ X.env.scope.names.lookup x = some .local := by first | exact .inl rfl | exact .inr rfl) : DG X B (.Name x px) (gV i) :=
  pg_imp (pg_name nd hi hx hf) fun v σ H Q ⟨F, S, st, d, S', o, r, e, q⟩ => by
    cases e
    exact q _ H F .refl (o.set i r)
def gN : List D → Sls → Option Sls := fun ds S => match ds with
  | [] => some S
  | _ => none
def gC (g : Tg) (gs : List D → Sls → Option Sls) : List D → Sls → Option Sls := fun ds S => match ds with
  | d :: r => match g d S with
    | some S' => gs r S'
    | none => none
  | [] => none
theorem dgs_n : DGs X B [] gN := pgs_imp pgs_nil fun vs σ H Q ⟨F, S, st, ds, S', o, r, e, q⟩ => by
  cases r with
  | nil => cases e; exact ⟨rfl, q σ H F .refl o⟩
  | cons _ _ => cases e
theorem dgs_c {g : Tg} {gs : List D → Sls → Option Sls} (h : DG X B e g) (t : DGs X B es gs) (hs : (assignEach (e :: es) X.env).map (·.2) = assign e X.env :: (assignEach es X.env).map (·.2) := by rfl) : DGs X B (e :: es) (gC g gs) :=
  pgs_imp (pgs_cons h t hs) fun vs σ H Q ⟨F, S, st, ds, S', o, r, e, q⟩ => by
    cases r with
    | nil => cases e
    | cons r1 r2 =>
      unfold gC at e
      simp only at e
      split at e
      · rename_i S1 hS1
        exact ⟨_, _, rfl, F, S, st, _, S1, o, r1, hS1, fun σ' H' F' g o' => ⟨F', S1, st, _, S', o', r2.mono g.1, e, fun σ2 H2 F2 g2 o2 => q σ2 H2 F2 (g.trans g2) o2⟩⟩
      · cases e
def gT (n : Nat) (gs : List D → Sls → Option Sls) : Tg := fun d S => match d with
  | .tup ds => if ds.length = n then gs ds S else none
  | _ => none
theorem dg_t {n : Nat} {k : Nat} {gs : List D → Sls → Option Sls} (hc : X.calm = true) (h : DGs X B es gs) (hn : (assignEach es X.env).length = n := by rfl) (hst : (assignEach es X.env).findIdx? (·.1) = none := by rfl) : DG X B (.Tuple es k pos) (gT n gs) :=
  pg_imp (pg_tup hc h hn hst) fun v σ H Q ⟨F, S, st, d, S', o, r, e, q⟩ => by
    unfold gT at e
    split at e
    · split at e
      · rename_i hl
        cases r with
        | tup h1 h2 =>
          exact ⟨_, _, rfl, same_seqT o.fH h1, by rw [h2.length]; exact hl, F, S, st, _, S', o, h2, e, q⟩
      · cases e
    · cases e
def sG (g : Tg) (f : Ev D) : EvS := fun S st => (f S st).out fun d S st => match g d S with
  | some S' => .nx S' st
  | none => .stuck
theorem ds_g {tg : Expr} {g : Tg} {f : Ev D} (h : DE X B W e f) (hg : DG X B tg g) (hs : swapsWithSole [tg] e pos.line X.env = pure false := by rfl) (hw : swappedStores [tg] e X.env = pure none := by rfl)
    (h1 : (assignEach [tg] X.env).map (·.2) = [assign tg X.env] := by rfl) : DS X B W (.Assign [tg] e pos) (sG g f) :=
  ps_imp (ps_asg h hg hs hw h1) fun D σ H ⟨F, S, st, o, q⟩ => ⟨F, S, st, o, (Post.out (R := RD (Cx.g X) σ) q).mono fun v H1 ⟨F1, d, S1, st1, g1, o1, r1, p1⟩ => by
    split at p1
    · rename_i S' hS
      exact ⟨F1, S1, st1, d, S', o1, r1, hS, fun σ' H' F' g o' => p1 σ' H' F' g o'⟩
    · exact p1.elim⟩
/-- x op= e, ints and texts -/
def sAug (i : Nat) (op : D → D → Option D) (f : Ev Opd) : EvS := fun S st => match S[i]? with
  | some (.d x) => (f S st).out fun y S st => match vw S st y with
    | some y => match op x y with
      | some z => .nx (S.set i (.d z)) st
      | none => .stuck
    | none => .stuck
  | _ => .stuck
theorem ds_aug {i : Nat} {x : Str} {px : Pos} {o : Operator} {r : R2} {op : D → D → Option D} {f : Ev Opd} (ho : PIp X o r) (hop : Op2 (Cx.g X) r op) (nd : X.N.Nodup) (h : DO X B W e f)
    (hi : X.N[i]? = some x := by rfl) (hx : Loc X.env.scope x := by first | exact .inl rfl | exact .inr rfl) (hf : X.fn x = true ∨ X.env.scope.names.lookup x = some .local := by first | exact .inl rfl | exact .inr rfl) :
    DS X B W (.AugAssign (.Name x px) o e pos) (sAug i op f) :=
  ps_imp (ps_aug nd hi hx h ho hf) fun D σ H ⟨F, S, st, o, q⟩ => by
    unfold sAug at q
    split at q
    · rename_i d hd
      obtain ⟨v, e1, rv⟩ := o.sl i _ hd
      refine ⟨v, e1, F, S, st, o, (Post.out (R := RO (Cx.g X) σ) q).mono fun y H1 ⟨F1, d1, S1, st1, g1, o1, r1, p1⟩ => ?_⟩
      split at p1
      · rename_i y' hy
        split at p1
        · rename_i z hz
          exact hop F1 H1 v y d y' z o1.fH (.inl (rv.mono g1.1)) (o1.vw r1 hy) hz _ fun v' H' F' k f gr rr => p1 _ H' _ (o1.gr gr) ((o1.grow gr k f).set i rr)
        · exact p1.elim
      · exact p1.elim
    · exact q.elim

/-! ### what is walked -/
def Walks (G : Gx) (J : It) (F : Fz) (ds : List D) : Prop := ∀ (F' : Fz) H', SmF F F' → Same F'.f H' → ∀ i, (i < ds.length → J.go i H') ∧ (ds.length ≤ i → J.stop i H') ∧
  ∀ d, ds[i]? = some d → ∀ x H2, J.yld i H' x H2 → ∃ f2, Same H' H2 ∧ Same f2 H2 ∧ GrH H' F'.f f2 ∧ Rp G ⟨f2, F'.m⟩ x d
def RW (G : Gx) : L2.St → Fz → It → List D → Prop := fun _ F J ds => Walks G J F ds
def DI (X : Cx) (B : Hp) (W : WX) (tg iter : Expr) (f : Ev (List D)) : Prop := PI X tg iter (lift (Cx.g X) B W (RW (Cx.g X)) f)
theorem pi_imp {X : Cx} {tg iter : Expr} {t t' : TI} (h : PI X tg iter t) (i : ∀ σ H R, t' σ H R → t σ H R) : PI X tg iter t' := ⟨fun pins s σ H R I q => h.run pins s σ H R I (i σ H R q)⟩
def forL (g : Tg) (body : EvS) : List D → EvS
  | [], S, st => .nx S st
  | d :: r, S, st => match g d S with
    | some S1 => match body S1 st with
      | .nx S2 st2 => forL g body r S2 st2
      | .ct S2 st2 => forL g body r S2 st2
      | .rto w S2 st2 => .rto w S2 st2
      | .bk S2 st2 => .nx S2 st2
      | .ret v S2 st2 => .ret v S2 st2
      | .exc x S2 st2 => .exc x S2 st2
      | .stuck => .stuck
    | none => .stuck
def sF (f : Ev (List D)) (g : Tg) (body : EvS) : EvS := fun S st => (f S st).out fun ds S st => forL g body ds S st
theorem ds_f {tg iter : Expr} {body : List Stmt} {f : Ev (List D)} {g : Tg} {fb : EvS} (hp : PassesOwn (model X.prog X.w) X.A X.env X.xe) (hc : X.calm = true) (hi : DI X B W tg iter f) (hg : DG X B tg g) (hb : DSs X B W body fb)
    (hs : ∀ x, foldedSetIterable iter X.env x = pure x := by intro _; rfl) : DS X B W (.For tg iter body [] pos) (sF f g fb) :=
  ps_imp (ps_for hp hc hi hg hb hs) fun D σ H ⟨F, S, st, o, q⟩ => ⟨F, S, st, o, (Post.out (R := RW (Cx.g X) σ) q).mono fun J H1 ⟨F1, ds, S1, st1, g1, o1, r1, p1⟩ => by
    refine ⟨fun i m σ H => i ≤ ds.length ∧ m = ds.length - i ∧ ∃ F' S' st', Gr B F1 F' ∧ Ok (Cx.g X) B F' σ H S' st' ∧ PostS (Cx.g X) B W F' D (forL g fb (ds.drop i) S' st'), ⟨ds.length, Nat.zero_le _, by simp, F1, S1, st1, .refl, o1, by simpa using p1⟩, ?_⟩
    rintro i m σ2 H2 ⟨hi2, rfl, F2, S2, st2, g2, o2, p2⟩
    obtain ⟨wgo, wstop, wyld⟩ := r1 F2 H2 g2.1 o2.fH i
    by_cases hlt : i < ds.length
    · have hd : ds.drop i = ds[i] :: ds.drop (i + 1) := List.drop_eq_getElem_cons hlt
      rw [hd] at p2
      simp only [forL] at p2
      refine .inr ⟨wgo hlt, fun σ' H' => ∃ F' S' st', Gr B F1 F' ∧ Ok (Cx.g X) B F' σ' H' S' st' ∧ PostS (Cx.g X) B W F' D (forL g fb (ds.drop (i + 1)) S' st'), fun σ' H' ⟨F', S', st', a, b, c⟩ => ⟨ds.length - (i + 1), by omega, hlt, rfl, F', S', st', a, b, c⟩, fun x H' hy => ?_⟩
      obtain ⟨F3, k3, f3, gr3, rx⟩ := wyld _ (List.getElem?_eq_getElem hlt) x H' hy
      split at p2
      · rename_i S3 hS3
        refine ⟨_, S2, st2, ds[i], S3, o2.grow gr3 k3 f3, rx, hS3, fun σ4 H4 F4 g4 o4 => ⟨F4, S3, st2, o4, ?_⟩⟩
        have gg : Gr B F2 F4 := (o2.gr gr3).trans g4
        revert p2
        generalize fb S3 st2 = r
        intro p2
        cases r with
        | nx S5 st5 => exact fun σ5 H5 F5 g5 o5 => ⟨F5, S5, st5, g2.trans (gg.trans g5), o5, PostS.grow (gg.trans g5) p2⟩
        | ct S5 st5 => exact fun σ5 H5 F5 g5 o5 => ⟨F5, S5, st5, g2.trans (gg.trans g5), o5, PostS.grow (gg.trans g5) p2⟩
        | rto w5 S5 st5 => exact fun p5 u5 σ5 H5 F5 g5 o5 => p2 p5 u5 σ5 H5 F5 (gg.trans g5) o5
        | bk S5 st5 => exact fun σ5 H5 F5 g5 o5 => p2 σ5 H5 F5 (gg.trans g5) o5
        | ret v S5 st5 => exact fun v' σ5 H5 F5 g5 o5 r5 => p2 v' σ5 H5 F5 (gg.trans g5) o5 r5
        | exc y S5 st5 => exact fun c' d' σ5 H5 F5 g5 o5 r5 => p2 c' d' σ5 H5 F5 (gg.trans g5) o5 r5
        | stuck => exact p2
      · exact p2.elim
    · have e : i = ds.length := by omega
      subst e
      rw [List.drop_length] at p2
      exact .inl ⟨wstop (Nat.le_refl _), p2 σ2 H2 F2 .refl o2⟩⟩

/-! ### while -/
/-- n turns at most -/
def whN (c : Ev Bool) (b : EvS) : Nat → EvS
  | 0, _, _ => .stuck
  | n + 1, S, st => (c S st).out fun k S st => if k = true then
      match b S st with
      | .nx S2 st2 => whN c b n S2 st2
      | .ct S2 st2 => whN c b n S2 st2
      | .rto w S2 st2 => .rto w S2 st2
      | .bk S2 st2 => .nx S2 st2
      | .ret v S2 st2 => .ret v S2 st2
      | .exc x S2 st2 => .exc x S2 st2
      | .stuck => .stuck
    else .nx S st
open Classical in
noncomputable def sW (c : Ev Bool) (b : EvS) : EvS := fun S st => if h : ∃ n, whN c b n S st ≠ .stuck then whN c b (Classical.choose h) S st else .stuck
theorem ds_w {body : List Stmt} {t : Ev Bool} {fb : EvS} (hp : PassesOwn (model X.prog X.w) X.A X.env X.xe) (ht : DT X B W c t) (hb : DSs X B W body fb) : DS X B W (.While c body [] pos) (sW t fb) :=
  ps_imp (ps_while hp ht hb) fun D σ H ⟨F, S, st, o, q⟩ => by
    unfold sW at q
    split at q
    · rename_i hex
      revert q
      generalize Classical.choose hex = n
      intro q
      refine ⟨fun m σ H => ∃ F S st, Ok (Cx.g X) B F σ H S st ∧ PostS (Cx.g X) B W F D (whN t fb m S st), ⟨n, F, S, st, o, q⟩, ?_⟩
      rintro m σ2 H2 ⟨F2, S2, st2, o2, p2⟩
      cases m with
      | zero => exact p2.elim
      | succ m =>
        refine ⟨F2, S2, st2, o2, (Post.out (R := RB σ2) p2).mono fun k H3 ⟨F3, d, S3, st3, g3, o3, r3, p3⟩ => ?_⟩
        cases r3
        cases k with
        | false => exact p3 σ2 H3 F3 .refl o3
        | true =>
          refine iteT ⟨fun σ' H' => ∃ F S st, Ok (Cx.g X) B F σ' H' S st ∧ PostS (Cx.g X) B W F D (whN t fb m S st), fun σ' H' h => ⟨m, Nat.lt_succ_self _, h⟩, F3, S3, st3, o3, ?_⟩
          simp only [if_true] at p3
          revert p3
          generalize fb S3 st3 = r
          intro p2
          cases r with
          | nx S5 st5 => exact fun σ5 H5 F5 g5 o5 => ⟨F5, S5, st5, o5, PostS.grow g5 p2⟩
          | ct S5 st5 => exact fun σ5 H5 F5 g5 o5 => ⟨F5, S5, st5, o5, PostS.grow g5 p2⟩
          | rto w5 S5 st5 => exact p2
          | bk S5 st5 => exact p2
          | ret v S5 st5 => exact p2
          | exc y S5 st5 => exact p2
          | stuck => exact p2
    · exact q.elim
end
/-- more turns don't harm -/
theorem whN_mono {c : Ev Bool} {b : EvS} : ∀ {n : Nat} {S : Sls} {st : Store}, whN c b n S st ≠ .stuck → ∀ m, n ≤ m → whN c b m S st = whN c b n S st
  | 0, _, _, h, _, _ => absurd rfl h
  | n + 1, S, st, h, m, hm => by
    obtain ⟨m, rfl⟩ : ∃ k, m = k + 1 := ⟨m - 1, by omega⟩
    simp only [whN] at h ⊢
    cases hc : c S st with
    | stuck => rfl
    | exc x S1 st1 => rfl
    | ok k S1 st1 =>
      rw [hc] at h
      simp only [Res.out_ok] at h ⊢
      cases k with
      | false => rfl
      | true =>
        simp only [if_true] at h ⊢
        cases hb : b S1 st1 with
        | nx S2 st2 => rw [hb] at h; exact whN_mono h m (by omega)
        | ct S2 st2 => rw [hb] at h; exact whN_mono h m (by omega)
        | _ => rfl
theorem sW_of {c : Ev Bool} {b : EvS} {n : Nat} {S : Sls} {st : Store} {r : Out} (h : whN c b n S st = r) (hr : r ≠ .stuck) : sW c b S st = r := by
  have hx : ∃ n, whN c b n S st ≠ .stuck := ⟨n, by rw [h]; exact hr⟩
  unfold sW
  rw [dif_pos hx]
  have h1 := Classical.choose_spec hx
  have h2 : whN c b n S st ≠ .stuck := by rw [h]; exact hr
  rw [← h, ← whN_mono h1 (max (Classical.choose hx) n) (Nat.le_max_left _ _), whN_mono h2 _ (Nat.le_max_right _ _)]
/-- one turn -/
theorem sW_eq (c : Ev Bool) (b : EvS) (S : Sls) (st : Store) : sW c b S st = (c S st).out fun k S st => if k = true then
      match b S st with
      | .nx S2 st2 => sW c b S2 st2
      | .ct S2 st2 => sW c b S2 st2
      | .rto w S2 st2 => .rto w S2 st2
      | .bk S2 st2 => .nx S2 st2
      | .ret v S2 st2 => .ret v S2 st2
      | .exc x S2 st2 => .exc x S2 st2
      | .stuck => .stuck
    else .nx S st := by
  by_cases hx : ∃ n, whN c b n S st ≠ .stuck
  · obtain ⟨n, hn⟩ := hx
    rw [sW_of rfl hn]
    cases n with
    | zero => exact absurd rfl hn
    | succ n =>
      simp only [whN] at hn ⊢
      cases hc : c S st with
      | stuck => rfl
      | exc x S1 st1 => rfl
      | ok k S1 st1 =>
        rw [hc] at hn
        simp only [Res.out_ok] at hn ⊢
        cases k with
        | false => rfl
        | true =>
          simp only [if_true] at hn ⊢
          cases hb : b S1 st1 with
          | nx S2 st2 => rw [hb] at hn; exact (sW_of rfl hn).symm
          | ct S2 st2 => rw [hb] at hn; exact (sW_of rfl hn).symm
          | _ => rfl
  · have hs : sW c b S st = .stuck := by unfold sW; rw [dif_neg hx]
    rw [hs]
    have all : ∀ n, whN c b n S st = .stuck := fun n => Classical.byContradiction fun z => hx ⟨n, z⟩
    cases hc : c S st with
    | stuck => rfl
    | exc x S1 st1 => have := all 1; simp only [whN, hc] at this; cases this
    | ok k S1 st1 =>
      simp only [Res.out_ok]
      cases k with
      | false => have := all 1; simp only [whN, hc, Res.out_ok] at this; cases this
      | true =>
        simp only [if_true]
        have st' : ∀ n, (match b S1 st1 with
          | .nx S2 st2 => whN c b n S2 st2
          | .ct S2 st2 => whN c b n S2 st2
          | .rto w S2 st2 => .rto w S2 st2
          | .bk S2 st2 => .nx S2 st2
          | .ret v S2 st2 => .ret v S2 st2
          | .exc x S2 st2 => .exc x S2 st2
          | .stuck => .stuck) = Out.stuck := fun n => by have := all (n + 1); simp only [whN, hc, Res.out_ok, if_true] at this; exact this
        cases hb : b S1 st1 with
        | nx S2 st2 =>
          rw [hb] at st'
          have : ¬ ∃ n, whN c b n S2 st2 ≠ .stuck := fun ⟨n, z⟩ => z (st' n)
          show Out.stuck = sW c b S2 st2
          unfold sW; rw [dif_neg this]
        | ct S2 st2 =>
          rw [hb] at st'
          have : ¬ ∃ n, whN c b n S2 st2 ≠ .stuck := fun ⟨n, z⟩ => z (st' n)
          show Out.stuck = sW c b S2 st2
          unfold sW; rw [dif_neg this]
        | bk S2 st2 => rw [hb] at st'; have := st' 0; cases this
        | ret v S2 st2 => rw [hb] at st'; have := st' 0; cases this
        | rto w S2 st2 => rw [hb] at st'; have := st' 0; cases this
        | exc x S2 st2 => rw [hb] at st'; have := st' 0; cases this
        | stuck => rfl
end DL

namespace DL
open PySem PySem.Spec PyProof.Rows L2

/-! ### list comprehensions -/
def wipeS (S : Sls) : List Nat → Sls
  | [] => S
  | v :: vs => (wipeS S vs).set v .no
theorem wipeS_length (S : Sls) : ∀ vs : List Nat, (wipeS S vs).length = S.length
  | [] => rfl
  | v :: vs => by unfold wipeS; rw [List.length_set, wipeS_length S vs]
section
variable {G : Gx} {B : Hp} {F : Fz} {H : Hp} {σ : L2.St} {S : Sls} {st : Store}
theorem Ok.wipe (o : Ok G B F σ H S st) : ∀ vs : List Nat, Ok G B F (L2.wipe σ vs) H (wipeS S vs) st
  | [] => o
  | v :: vs => (Ok.wipe o vs).any v none
theorem wipeS_no : ∀ {vs : List Nat} {S : Sls} {i : Nat}, i ∈ vs → ∀ s, (wipeS S vs)[i]? = some s → s = .no
  | v :: vs, S, i, h, s, e => by
    unfold wipeS at e
    by_cases hv : v = i
    · have hi := set_lt e hv
      subst hv
      rw [List.getElem?_set_self hi] at e
      cases e; rfl
    · rw [List.getElem?_set_ne hv] at e
      exact wipeS_no ((List.mem_cons.mp h).resolve_left fun z => hv z.symm) s e
/-- the block's end: its slots are not told of -/
theorem Ok.unwipe {vs : List Nat} (o : Ok G B F (L2.wipe σ vs) H S st) (hS : ∀ i ∈ vs, ∀ s, S[i]? = some s → s = .no) : Ok G B F σ H S st := by
  have get : ∀ (i : Nat) (p : V), i ∉ vs → (σ[i]? = some (some p) ↔ (L2.wipe σ vs)[i]? = some (some p)) := fun i p h => by rw [wipe_out h]
  refine ⟨o.fH, o.kp, o.so, by rw [← o.len, wipe_length], fun i s e => ?_, fun i j ds es p e1 e2 e3 e4 => ?_⟩
  · by_cases hi : i ∈ vs
    · rw [hS i hi s e]; trivial
    · have h := o.sl i s e
      rw [wipe_out hi] at h
      exact h
  · have h1 : i ∉ vs := fun z => by have := hS i z _ e1; cases this
    have h2 : j ∉ vs := fun z => by have := hS j z _ e2; cases this
    exact o.ap i j ds es p e1 e2 (by rw [wipe_out h1]; exact e3) (by rw [wipe_out h2]; exact e4)
/-- an object beside the state is kept -/
theorem Ok.pin (o : Ok G B F σ H S st) {D : Addr} {u : HO} (hD : H D = some u) (hF : F D = none) (hm : D ∉ F.m) (no : ∀ (j : Nat) (es : Ow), S[j]? = some (.own es) → σ[j]? ≠ some (some (.ref D))) : Ok G (upd B D u) F σ H S st := by
  refine ⟨o.fH, fun b v q => ?_, ⟨o.so.ml, o.so.mn, fun n x a e1 e2 => ?_⟩, o.len, fun i s e => ?_, o.ap⟩
  · by_cases z : b = D
    · subst z; rw [upd_same] at q; cases q; exact hD
    · rw [upd_ne z] at q; exact o.kp _ _ q
  · obtain ⟨h1, h2, h3⟩ := o.so.ob n x a e1 e2
    have z : a ≠ D := fun z => hm (by rw [← z]; exact List.mem_of_getElem? e2)
    exact ⟨h1, by rw [upd_ne z]; exact h2, h3⟩
  · have h := o.sl i s e
    cases s with
    | no => trivial
    | d x => exact h
    | own w =>
      obtain ⟨p, u', e1, h1, h2, h3, r, nm⟩ := h
      have : p ≠ D := fun z => no i _ e (by rw [e1, z])
      exact ⟨p, u', e1, h1, h2, by rw [upd_ne this]; exact h3, r, nm⟩
theorem Ok.unpin {D : Addr} {u u' : HO} (o : Ok G (upd B D u) F σ H S st) (hB : B D = none) (hF : F D = none) (hno : ∀ x : Addr, u ≠ HO.own x) : Ok G B F σ (upd H D u') S st ∧ (∀ (j : Nat) (es : Ow), S[j]? = some (.own es) → σ[j]? ≠ some (some (.ref D))) ∧ D ∉ F.m := by
  have hD : H D = some u := o.kp D u upd_same
  have no : ∀ (j : Nat) (es : Ow), S[j]? = some (.own es) → σ[j]? ≠ some (some (.ref D)) := fun j es e z => by
    obtain ⟨p, u', e1, h1, h2, h3, r⟩ := o.sl j _ e
    rw [z] at e1; cases e1
    rw [upd_same] at h3; cases h3
  have hm : D ∉ F.m := fun z => by
    obtain ⟨_, _, n, x, _, _, q, _⟩ := o.so.mem z
    rw [upd_same] at q; cases q
  refine ⟨⟨fun b v q => ?_, fun b v q => ?_, ⟨o.so.ml, o.so.mn, fun n x a e1 e2 => ?_⟩, o.len, fun i s e => ?_, o.ap⟩, no, hm⟩
  · rw [upd_ne (ne_of_none q hF)]; exact o.fH _ _ q
  · have hb := ne_of_none q hB
    rw [upd_ne hb]; exact o.kp _ _ (by rw [upd_ne hb]; exact q)
  · obtain ⟨h1, h2, h3⟩ := o.so.ob n x a e1 e2
    have z : a ≠ D := fun z => hm (by rw [← z]; exact List.mem_of_getElem? e2)
    rw [upd_ne z] at h2
    exact ⟨h1, h2, h3.chg z (fun x q => hno x (by rw [hD] at q; exact Option.some.inj q))⟩
  · have h := o.sl i s e
    cases s with
    | no => trivial
    | d x => exact h
    | own w =>
      obtain ⟨p, u', e1, h1, h2, h3, r, nm⟩ := h
      have hp : p ≠ D := fun z => no i _ e (by rw [e1, z])
      rw [upd_ne hp] at h3
      exact ⟨p, u', e1, by rw [upd_ne hp]; exact h1, h2, h3, r, nm⟩
theorem Gr.unpin {D : Addr} {u : HO} {F F' : Fz} (g : Gr (upd B D u) F F') (hB : B D = none) (hF : F D = none) : Gr B F F' ∧ F' D = none := by
  refine ⟨⟨g.1, fun a h h' => ?_⟩, ?_⟩
  · have := g.2 a h h'
    by_cases z : a = D
    · rw [z]; exact hB
    · rw [upd_ne z] at this; exact this
  · cases q : F' D with
    | none => rfl
    | some v =>
      have := g.2 D hF (by rw [q]; simp)
      rw [upd_same] at this; cases this
end
/-- the elements, one by one; own: the block's slots -/
def lcL (g : Tg) (own : List Nat) (t : Ev Bool) (f : Ev D) : List D → Ev (List D)
  | [], S, st => .ok [] S st
  | d :: r, S, st => match g d S with
    | some S1 => (t S1 st).calm.bind fun b S2 st2 => if b = true then
        (f S2 st2).calm.bind fun y S3 st3 => (lcL g own t f r (wipeS S3 own) st3).bind fun ys S4 st4 => .ok (y :: ys) S4 st4
      else lcL g own t f r (wipeS S2 own) st2
    | none => .stuck
def tY : Ev Bool := fun S st => .ok true S st
/-- behind the block: what stood in its slots ahead of it -/
def restS (S0 : List Sl) : List Nat → List Sl → List Sl
  | [], S => S
  | i :: r, S => match S0[i]? with
    | some (.d x) => restS S0 r (S.set i (.d x))
    | _ => restS S0 r S
theorem Ok.put {G : Gx} {B : Hp} {F : Fz} {H : Hp} {σ : L2.St} {S : List Sl} {st : Store} (o : Ok G B F σ H S st) {i : Nat} {v : V} {x : D} (e : σ[i]? = some (some v)) (r : Rp G F v x) : Ok G B F σ H (S.set i (.d x)) st := by
  have := o.set i r
  rwa [show σ.set i (some v) = σ from by
    obtain ⟨h1, h2⟩ := List.getElem?_eq_some_iff.mp e
    rw [← h2, List.set_getElem_self]] at this
theorem Ok.rest {G : Gx} {B : Hp} {F F' : Fz} {H H' : Hp} {σ : L2.St} {S0 : List Sl} {st0 st : Store} (o0 : Ok G B F σ H S0 st0) (e : SmF F F') : ∀ (own : List Nat) (S : List Sl), Ok G B F' σ H' S st → Ok G B F' σ H' (restS S0 own S) st
  | [], S, o => o
  | i :: r, S, o => by
    unfold restS
    split
    · rename_i x hx
      obtain ⟨v, e1, rv⟩ := o0.sl i _ hx
      exact Ok.rest o0 e r _ (o.put e1 (rv.mono e))
    · exact Ok.rest o0 e r S o
theorem restS_own {S0 : List Sl} : ∀ (own : List Nat) (S : List Sl) (j : Nat) (w : Ow), (restS S0 own S)[j]? = some (.own w) → S[j]? = some (.own w)
  | [], _, _, _, h => h
  | i :: r, S, j, w, h => by
    unfold restS at h
    split at h
    · have := restS_own r _ j w h
      by_cases hj : i = j
      · have hi := set_lt this hj
        subst hj
        rw [List.getElem?_set_self hi] at this; cases this
      · rw [List.getElem?_set_ne hj] at this; exact this
    · exact restS_own r S j w h
def lcF (fi : Ev (List D)) (g : Tg) (own : List Nat) (t : Ev Bool) (f : Ev D) : Ev Ow := fun S st => (fi S st).bind fun ds S st =>
  (lcL g own t f ds (wipeS S own) st).bind fun ys S' st => if ys.length ≤ 16777216 then .ok (.l ys) (restS S own S') st else .stuck
abbrev bX (X : Cx) (s : Shared) (H : Hp) (scope : Scope) (cl : List (Str × Addr)) (C : Addr) (fp : List Addr) : Cx := X.blk s H scope (compEnvC scope cl C X.env) fp
def DTs (X : Cx) (B : Hp) (W : WX) (es : List Expr) (f : Ev Bool) : Prop := PTs X es (lift (Cx.g X) B W RB f)
theorem pts_imp {X : Cx} {es : List Expr} {t t' : TT} (h : PTs X es t) (i : ∀ σ H Q, t' σ H Q → t σ H Q) : PTs X es t' := ⟨fun pins s σ H Q I q => h.run pins s σ H Q I (i σ H Q q)⟩
theorem dts_n {X : Cx} {B : Hp} {W : WX} : DTs X B W [] tY := pts_imp pts_nil fun σ H Q ⟨F, S, st, o, q⟩ => q true H F .refl o rfl
theorem dts_1 {X : Cx} {B : Hp} {W : WX} {e : Expr} {f : Ev Bool} (h : DT X B W e f) : DTs X B W [e] f := pts_one h
theorem calm_exc {α : Type} {r : Res α} {x : Exc} {S : Sls} {st : Store} (h : r.calm = .exc x S st) : False := by
  cases r <;> cases h
theorem lcL_noexc {g : Tg} {own : List Nat} {t : Ev Bool} {f : Ev D} : ∀ {ds : List D} {S : Sls} {st : Store} {x : Exc} {S' : Sls} {st' : Store}, lcL g own t f ds S st = .exc x S' st' → False
  | [], _, _, _, _, _, h => by cases h
  | d :: r, S, st, x, S', st', h => by
    simp only [lcL] at h
    split at h
    · rename_i S1 _
      cases ht : (t S1 st).calm with
      | exc _ _ _ => exact calm_exc ht
      | stuck => rw [ht] at h; cases h
      | ok b S2 st2 =>
        rw [ht, Res.bind_ok] at h
        split at h
        · cases hf : (f S2 st2).calm with
          | exc _ _ _ => exact calm_exc hf
          | stuck => rw [hf] at h; cases h
          | ok y S3 st3 =>
            rw [hf, Res.bind_ok] at h
            cases hl : lcL g own t f r (wipeS S3 own) st3 with
            | ok ys S4 st4 => rw [hl] at h; cases h
            | stuck => rw [hl] at h; cases h
            | exc x2 S4 st4 => exact lcL_noexc hl
        · exact lcL_noexc h
    · cases h
theorem lc_lift {X : Cx} {B : Hp} {W : WX} {fi : Ev (List D)} {g : Tg} {own : List Nat} {t : Ev Bool} {f : Ev D} {gV : TG} {tt : TT} {te : TE}
    (ht : ∀ B σ H Q, lift (Cx.g X) B W0 RB t σ H Q → tt σ H Q) (he : ∀ B σ H Q, lift (Cx.g X) B W0 (RD (Cx.g X)) f σ H Q → te σ H Q)
    (hgB : ∀ B' v σ H Q, liftG (Cx.g X) B' g v σ H Q → ∀ Q', (∀ σ' H', Q σ' H' → wipe σ' own = wipe σ own → Q' σ' H') → gV v σ H Q')
    {σ : L2.St} {H : Hp} {Q : VK} (q : liftF (Cx.g X) B W (lcF fi g own t f) σ H Q) : tLc (lift (Cx.g X) B W (RW (Cx.g X)) fi) gV tt te own σ H Q := by
  obtain ⟨F, S, st, o, q⟩ := q
  refine ⟨F, S, st, o, (PostF.bind (R := RW (Cx.g X) σ) q).mono fun J H1 ⟨F1, ds, S1, st1, g1, o1, r1, p1⟩ Da hD => ?_⟩
  -- what is left to do, and what it comes to
  let Tot : List D → Res (List D) → Prop := fun acc r => PostF (Cx.g X) B W σ F1 Q (r.bind fun ys S st => if (acc ++ ys).length ≤ 16777216 then .ok (.l (acc ++ ys)) (restS S1 own S) st else .stuck)
  let Wv : Nat → Nat → Hp → Prop := fun i m H' => i ≤ ds.length ∧ m = ds.length - i ∧ ∃ acc xs F' S' st', Gr B F1 F' ∧ Ok (Cx.g X) B F' (wipe σ own) H' S' st' ∧ (∀ i ∈ own, ∀ s, S'[i]? = some s → s = .no) ∧
    H' Da = some (.lst xs) ∧ RpAll (Cx.g X) F' xs acc ∧ F' Da = none ∧ B Da = none ∧ Da ∉ F'.m ∧ (∀ (j : Nat) (es : Ow), S'[j]? = some (.own es) → (wipe σ own)[j]? ≠ some (some (.ref Da))) ∧ Tot acc (lcL g own t f (ds.drop i) S' st')
  have hF1 : F1 Da = none := o1.fH.free hD
  have hBD : B Da = none := o1.kp.free hD
  refine ⟨Wv, ⟨ds.length, Nat.zero_le _, by simp, [], [], F1, wipeS S1 own, st1, .refl, ?_, fun i hi s e => wipeS_no hi s e, upd_same, .nil, hF1, hBD, o1.so.new hD, ?_, by simpa [Tot] using p1⟩, ?_⟩
  · exact (o1.wipe own).junk (same_new hD)
  · intro j es e1 e2
    obtain ⟨p', xs', e3, h1, _⟩ := (o1.wipe own).sl j _ e1
    rw [e2] at e3; cases e3
    rw [hD] at h1; cases h1
  rintro i m H2 ⟨hi2, rfl, acc, xs, F2, S2, st2, g2, o2, n2, d2, ra, f2, b2, hm2, no2, p2⟩
  obtain ⟨wgo, wstop, wyld⟩ := r1 F2 H2 g2.1 o2.fH i
  by_cases hlt : i < ds.length
  · have hd : ds.drop i = ds[i] :: ds.drop (i + 1) := List.drop_eq_getElem_cons hlt
    rw [hd] at p2
    simp only [lcL, Tot] at p2
    refine .inr ⟨wgo hlt, fun H' => Wv (i + 1) (ds.length - (i + 1)) H', fun H' h => ⟨ds.length - (i + 1), by omega, h⟩, fun x H3 hy => ?_⟩
    obtain ⟨F3f, k3, f3, gr3, rx⟩ := wyld _ (List.getElem?_eq_getElem hlt) x H3 hy
    let F3 : Fz := ⟨F3f, F2.m⟩
    split at p2
    · rename_i S3 hS3
      have f3D : F3 Da = none := by
        cases z : F3 Da with
        | none => rfl
        | some v =>
          have := gr3.2 Da f2 (by rw [show F3f Da = _ from z]; simp)
          rw [d2] at this; cases this
      have o3 := (o2.grow gr3 k3 f3).pin (k3 _ _ d2) f3D hm2 no2
      have g23 : Gr B F2 F3 := o2.gr gr3
      refine hgB (upd B Da (.lst xs)) x _ _ (fun σ4 H4 => ∃ F4, Gr (upd B Da (.lst xs)) F3 F4 ∧ Ok (Cx.g X) (upd B Da (.lst xs)) F4 σ4 H4 S3 st2) ⟨F3, S2, st2, ds[i], S3, o3, rx, hS3, fun σ' H' F' gg oo => ⟨F', gg, oo⟩⟩ _ fun σ4 H4 ⟨F4, g4, o4⟩ hw => ?_
      have hw' : wipe σ4 own = wipe σ own := by
        rw [hw]
        have : ∀ vs : List Nat, wipe (wipe σ vs) vs = wipe σ vs := fun vs => by
          refine List.ext_getElem? fun j => ?_
          by_cases hj : j ∈ vs
          · have e1 : ∀ τ : L2.St, (wipe τ vs)[j]? = (τ[j]?).map fun _ => none := fun τ => by
              cases q1 : (wipe τ vs)[j]? with
              | none =>
                have : τ[j]? = none := by
                  rw [List.getElem?_eq_none_iff] at q1 ⊢
                  rwa [wipe_length] at q1
                rw [this]; rfl
              | some y =>
                have hl : j < τ.length := by
                  have := (List.getElem?_eq_some_iff.mp q1).1
                  rwa [wipe_length] at this
                rw [List.getElem?_eq_getElem hl]
                cases y with
                | none => rfl
                | some y => exact absurd hj (wipe_some q1).2
            rw [e1, e1]
            cases σ[j]? <;> rfl
          · rw [wipe_out hj]
        exact this own
      refine ⟨hw', ?_⟩
      -- the test
      refine ht (upd B Da (.lst xs)) σ4 H4 _ ⟨F4, S3, st2, o4, ?_⟩
      revert p2
      generalize t S3 st2 = r
      intro p2
      cases r with
      | stuck => exact p2
      | exc y S5 st5 => exact p2.elim
      | ok bb S5 st5 =>
        simp only [Res.calm_ok, Res.bind_ok] at p2
        intro b H5 F5 g5 o5 e5
        cases e5
        obtain ⟨g4', f4⟩ := g4.unpin hBD f3D
        obtain ⟨g5', f5⟩ := g5.unpin hBD f4
        have gAll : Gr B F2 F5 := g23.trans (g4'.trans g5')
        cases bb with
        | false =>
          refine (if_neg Bool.false_ne_true).mpr ?_
          simp only [Bool.false_eq_true, if_false] at p2
          have h5D : H5 Da = some (.lst xs) := o5.kp Da _ upd_same
          obtain ⟨o6, no6, hm6⟩ := Ok.unpin (u' := .lst xs) o5 hBD f5 (fun x z => by cases z)
          have e6 : upd H5 Da (.lst xs) = H5 := by
            funext b; by_cases z : b = Da
            · subst z; rw [upd_same, h5D]
            · rw [upd_ne z]
          rw [e6] at o6
          have o7 := o6.wipe own
          rw [hw'] at o7
          refine ⟨hlt, rfl, acc, xs, F5, wipeS S5 own, st5, g2.trans gAll, o7, fun i hi s e => wipeS_no hi s e, h5D, ra.mono gAll.1, f5, hBD, hm6, fun j es e1 e2 => ?_, p2⟩
          obtain ⟨p', u', e3, h1, _, h3, _⟩ := (o5.wipe own).sl j _ e1
          rw [hw', e2] at e3; cases e3
          rw [upd_same] at h3; cases h3
        | true =>
          refine (if_pos rfl).mpr ?_
          simp only [if_true] at p2
          refine he (upd B Da (.lst xs)) σ4 H5 _ ⟨F5, S5, st5, o5, ?_⟩
          revert p2
          generalize f S5 st5 = r2
          intro p2
          cases r2 with
          | stuck => exact p2
          | exc y S6 st6 => exact p2.elim
          | ok yy S6 st6 =>
            simp only [Res.calm_ok, Res.bind_ok] at p2
            intro y H6 F6 g6 o6 ry
            obtain ⟨g6', f6⟩ := g6.unpin hBD f5
            have gA : Gr B F2 F6 := gAll.trans g6'
            have h6D : H6 Da = some (.lst xs) := o6.kp Da _ upd_same
            obtain ⟨o7, no7, hm7⟩ := Ok.unpin (u' := .lst (xs ++ [y])) o6 hBD f6 (fun x z => by cases z)
            have o8 := o7.wipe own
            rw [hw'] at o8
            have p3 : Tot (acc ++ [yy]) (lcL g own t f (ds.drop (i + 1)) (wipeS S6 own) st6) := by
              show PostF _ _ _ _ _ _ _
              revert p2
              generalize lcL g own t f (ds.drop (i + 1)) (wipeS S6 own) st6 = r3
              intro p2
              cases r3 with
              | ok ys S7 st7 => simpa using p2
              | exc _ _ _ => exact p2
              | stuck => exact p2
            have hlen : acc.length < 16777216 := by
              have p4 := p3
              simp only [Tot] at p4
              revert p4
              generalize h3 : lcL g own t f (ds.drop (i + 1)) (wipeS S6 own) st6 = r3
              intro p4
              cases r3 with
              | ok ys S7 st7 =>
                simp only [Res.bind_ok] at p4
                split at p4
                · rename_i hh
                  simp at hh; omega
                · exact p4.elim
              | exc x' S' st' =>
                exfalso
                exact lcL_noexc h3
              | stuck => exact p4.elim
            refine ⟨xs, h6D, by rw [ra.length, sizeLine_eq]; exact hlen, hlt, rfl, acc ++ [yy], xs ++ [y], F6, wipeS S6 own, st6, g2.trans gA, o8, fun i hi s e => wipeS_no hi s e, upd_same, (ra.mono gA.1).append (.one ry), f6, hBD, hm7, fun j es e1 e2 => ?_, p3⟩
            obtain ⟨p', u', e3, h1, _, h3, _⟩ := (o6.wipe own).sl j _ e1
            rw [hw', e2] at e3; cases e3
            rw [upd_same] at h3; cases h3
    · exact p2.elim
  · have e : i = ds.length := by omega
    subst e
    rw [List.drop_length] at p2
    simp only [lcL, Tot, Res.bind_ok, List.append_nil] at p2
    refine .inl ⟨wstop (Nat.le_refl _), ?_⟩
    split at p2
    · have oo := o2.unwipe n2
      refine p2 Da (.lst xs) H2 F2 g2 (o1.rest g2.1 own S2 oo) d2 f2 hBD (.l ra) hm2 fun j es e1 e2 => ?_
      replace e1 := restS_own own S2 j es e1
      have hj : j ∉ own := fun z => by have := n2 j z _ e1; cases this
      exact no2 j es e1 (by rw [wipe_out hj]; exact e2)
    · exact p2.elim
end DL

namespace DL
open PySem PySem.Spec PyProof.Rows L2

/-! ### a block's targets -/
def TgB (G : Gx) (own : List Nat) (g : Tg) (gv : TG) : Prop := ∀ B v σ H Q, liftG G B g v σ H Q → ∀ Q', (∀ σ' H', Q σ' H' → wipe σ' own = wipe σ own → Q' σ' H') → gv v σ H Q'
def TgsB (G : Gx) (own : List Nat) (g : List D → Sls → Option Sls) (gv : TGs) : Prop := ∀ B v σ H Q, liftGs G B g v σ H Q → ∀ Q', (∀ σ' H', Q σ' H' → wipe σ' own = wipe σ own → Q' σ' H') → gv v σ H Q'
theorem wipe_set {i : Nat} {x : Option V} : ∀ {own : List Nat} {σ : L2.St}, i ∈ own → wipe (σ.set i x) own = wipe σ own
  | v :: vs, σ, h => by
    unfold wipe
    by_cases hv : i ∈ vs
    · rw [wipe_set hv]
    · have e : i = v := (List.mem_cons.mp h).resolve_right hv
      subst e
      have : ∀ {vs : List Nat} {σ : L2.St}, i ∉ vs → wipe (σ.set i x) vs = (wipe σ vs).set i x := by
        intro vs
        induction vs with
        | nil => intro σ _; rfl
        | cons w ws ih =>
          intro σ h
          have h1 : i ≠ w := fun z => h (by rw [z]; exact List.mem_cons_self ..)
          have h2 : i ∉ ws := fun z => h (List.mem_cons_of_mem _ z)
          unfold wipe
          rw [ih h2, List.set_comm _ _ h1]
      rw [this hv, List.set_set]
theorem tgB_v {G : Gx} {own : List Nat} {i : Nat} (h : i ∈ own) : TgB G own (gV i) (gName i) := fun B v σ H Q ⟨F, S, st, d, S', o, r, e, q⟩ Q' k => by
  cases e
  exact k _ H (q _ H F .refl (o.set i r)) (wipe_set h)
theorem tgsB_n {G : Gx} {own : List Nat} : TgsB G own gN gNil := fun B v σ H Q ⟨F, S, st, ds, S', o, r, e, q⟩ Q' k => by
  cases r with
  | nil => cases e; exact ⟨rfl, k _ H (q σ H F .refl o) rfl⟩
  | cons _ _ => cases e
theorem tgsB_c {G : Gx} {own : List Nat} {g : Tg} {gv : TG} {gs : List D → Sls → Option Sls} {gvs : TGs} (h : TgB G own g gv) (t : TgsB G own gs gvs) : TgsB G own (gC g gs) (gCons gv gvs) := fun B vs σ H Q ⟨F, S, st, ds, S', o, r, e, q⟩ Q' k => by
  cases r with
  | nil => cases e
  | cons r1 r2 =>
    unfold gC at e
    simp only at e
    split at e
    · rename_i S1 hS1
      refine ⟨_, _, rfl, h B _ σ H (fun σ' H' => ∃ F', Gr B F F' ∧ Ok G B F' σ' H' S1 st) ⟨F, S, st, _, S1, o, r1, hS1, fun σ' H' F' g o' => ⟨F', g, o'⟩⟩ _ fun σ1 H1 ⟨F1, g1, o1⟩ w1 => ?_⟩
      refine t B _ σ1 H1 Q ⟨F1, S1, st, _, S', o1, r2.mono g1.1, e, fun σ2 H2 F2 g2 o2 => q σ2 H2 F2 (g1.trans g2) o2⟩ _ fun σ2 H2 q2 w2 => k σ2 H2 q2 (w2.trans w1)
    · cases e
theorem tgB_t {G : Gx} {own : List Nat} {n : Nat} {gs : List D → Sls → Option Sls} {gvs : TGs} (h : TgsB G own gs gvs) : TgB G own (gT n gs) (gTup G.K n gvs) := fun B v σ H Q ⟨F, S, st, d, S', o, r, e, q⟩ Q' k => by
  unfold gT at e
  split at e
  · split at e
    · rename_i hl
      cases r with
      | tup h1 h2 =>
        exact ⟨_, _, rfl, same_seqT o.fH h1, by rw [h2.length]; exact hl, h B _ σ H Q ⟨F, S, st, _, S', o, h2, e, q⟩ Q' k⟩
    · cases e
  · cases e
section
variable {X : Cx} {B : Hp} {W : WX} {e a b c : Expr} {es : List Expr} {s : Stmt} {ss : List Stmt} {pos : Pos}
theorem lc_parts {elt : Expr} {ifs : List Expr} {scope : Scope} {t : Ev Bool} {f : Ev D}
    (ht : ∀ (B : Hp) (s : Shared) (H : Hp) (cl : List (Str × Addr)) (C : Addr) (fp : List Addr), DTs (bX X s H scope cl C fp) B W0 ifs t) (he : ∀ (B : Hp) (s : Shared) (H : Hp) (cl : List (Str × Addr)) (C : Addr) (fp : List Addr), DE (bX X s H scope cl C fp) B W0 elt f) :
    (∀ (s : Shared) (H : Hp) (C : Addr) (cl : List (Str × Addr)) (fp : List Addr), PTs (X.blk s H scope (compEnvC scope cl C X.env) fp) ifs (fun σ H Q => ∃ B, lift (Cx.g X) B W0 RB t σ H Q)) ∧
    (∀ (s : Shared) (H : Hp) (C : Addr) (cl : List (Str × Addr)) (fp : List Addr), PE (X.blk s H scope (compEnvC scope cl C X.env) fp) elt (fun σ H Q => ∃ B, lift (Cx.g X) B W0 (RD (Cx.g X)) f σ H Q)) :=
  ⟨fun s H C cl fp => ⟨fun pins s' σ H' Q I ⟨B, q⟩ => (ht B s H cl C fp).run pins s' σ H' Q I q⟩, fun s H C cl fp => ⟨fun pins s' σ H' Q I ⟨B, q⟩ => (he B s H cl C fp).run pins s' σ H' Q I q⟩⟩
theorem df_lc {elt tg iter : Expr} {ifs : List Expr} {scope : Scope} (own : List (Str × Nat)) {fi : Ev (List D)} {g : Tg} {gv : TG} {t : Ev Bool} {f : Ev D} (hc : X.calm = true) (nd : X.N.Nodup) (ok : BlkOk X.N X.env.scope scope own) (hi : DI X B W tg iter fi) (hgv : TgB (Cx.g X) (own.map (·.2)) g gv)
    (hg : ∀ (s : Shared) (H : Hp) (C : Addr) (cl : List (Str × Addr)) (fp : List Addr), PG (X.blk s H scope (compEnvC scope cl C X.env) fp) tg gv)
    (ht : ∀ (B : Hp) (s : Shared) (H : Hp) (cl : List (Str × Addr)) (C : Addr) (fp : List Addr), DTs (bX X s H scope cl C fp) B W0 ifs t) (he : ∀ (B : Hp) (s : Shared) (H : Hp) (cl : List (Str × Addr)) (C : Addr) (fp : List Addr), DE (bX X s H scope cl C fp) B W0 elt f)
    (hs : ∀ x, foldedSetIterable iter X.env x = pure x := by intro _; rfl) : DF X B W (.ListComp elt [⟨tg, iter, ifs, 0⟩] scope pos) (lcF fi g (own.map (·.2)) t f) :=
  pe_imp (pe_lc hc nd hi ok hg (lc_parts ht he).1 (lc_parts ht he).2 hs) fun σ H Q q => lc_lift (fun B σ H Q q => ⟨B, q⟩) (fun B σ H Q q => ⟨B, q⟩) (fun B v σ H Q q => hgv B v σ H Q q) q
/-- y = [..] on one line, y a local: kept -/
theorem ds_vlc {i : Nat} {y : Str} {py : Pos} {elt tg iter : Expr} {ifs : List Expr} {scope : Scope} {lpos : Pos} (own : List (Str × Nat)) {fi : Ev (List D)} {g : Tg} {gv : TG} {t : Ev Bool} {f : Ev D} (hc : X.calm = true) (nd : X.N.Nodup) (ok : BlkOk X.N X.env.scope scope own) (hi : DI X B W tg iter fi) (hgv : TgB (Cx.g X) (own.map (·.2)) g gv)
    (hg : ∀ (s : Shared) (H : Hp) (C : Addr) (cl : List (Str × Addr)) (fp : List Addr), PG (X.blk s H scope (compEnvC scope cl C X.env) fp) tg gv)
    (ht : ∀ (B : Hp) (s : Shared) (H : Hp) (cl : List (Str × Addr)) (C : Addr) (fp : List Addr), DTs (bX X s H scope cl C fp) B W0 ifs t) (he : ∀ (B : Hp) (s : Shared) (H : Hp) (cl : List (Str × Addr)) (C : Addr) (fp : List Addr), DE (bX X s H scope cl C fp) B W0 elt f)
    (hyl : X.env.scope.names.lookup y = some .local := by rfl) (hsw : swapsWith (.ListComp elt [⟨tg, iter, ifs, 0⟩] scope lpos) (some (.Name y py)) pos.line X.env = pure true := by exact sw_true rfl rfl rfl (by decide +kernel)) (hy : X.N[i]? = some y := by rfl)
    (hs : ∀ x, foldedSetIterable iter X.env x = pure x := by intro _; rfl) : DS X B W (.Assign [.Name y py] (.ListComp elt [⟨tg, iter, ifs, 0⟩] scope lpos) pos) (sV i (fE (lcF fi g (own.map (·.2)) t f))) :=
  ps_imp (ps_setLc hc nd hy hyl hsw hi ok hg (lc_parts ht he).1 (lc_parts ht he).2 hs) fun D σ H q => lc_lift (fun B σ H Q q => ⟨B, q⟩) (fun B σ H Q q => ⟨B, q⟩) (fun B v σ H Q q => hgv B v σ H Q q) (by
    obtain ⟨F, S, st, o, q⟩ := q
    refine ⟨F, S, st, o, postF_fE ?_⟩
    unfold sV fE at q
    generalize lcF fi g (own.map (·.2)) t f S st = r at q ⊢
    cases r with
    | ok w S1 st1 => exact fun v H' F' g o r => q _ H' F' g (o.set i r)
    | exc x S1 st1 => exact fun c d H' F' g o r => q c d σ H' F' g o r
    | stuck => exact q)
theorem ds_olc {i : Nat} {y : Str} {py : Pos} {elt tg iter : Expr} {ifs : List Expr} {scope : Scope} {lpos : Pos} (own : List (Str × Nat)) {fi : Ev (List D)} {g : Tg} {gv : TG} {t : Ev Bool} {f : Ev D} (hc : X.calm = true) (nd : X.N.Nodup) (ok : BlkOk X.N X.env.scope scope own) (hi : DI X B W tg iter fi) (hgv : TgB (Cx.g X) (own.map (·.2)) g gv)
    (hg : ∀ (s : Shared) (H : Hp) (C : Addr) (cl : List (Str × Addr)) (fp : List Addr), PG (X.blk s H scope (compEnvC scope cl C X.env) fp) tg gv)
    (ht : ∀ (B : Hp) (s : Shared) (H : Hp) (cl : List (Str × Addr)) (C : Addr) (fp : List Addr), DTs (bX X s H scope cl C fp) B W0 ifs t) (he : ∀ (B : Hp) (s : Shared) (H : Hp) (cl : List (Str × Addr)) (C : Addr) (fp : List Addr), DE (bX X s H scope cl C fp) B W0 elt f)
    (hyl : X.env.scope.names.lookup y = some .local := by rfl) (hsw : swapsWith (.ListComp elt [⟨tg, iter, ifs, 0⟩] scope lpos) (some (.Name y py)) pos.line X.env = pure true := by exact sw_true rfl rfl rfl (by decide +kernel)) (hy : X.N[i]? = some y := by rfl)
    (hs : ∀ x, foldedSetIterable iter X.env x = pure x := by intro _; rfl) : DS X B W (.Assign [.Name y py] (.ListComp elt [⟨tg, iter, ifs, 0⟩] scope lpos) pos) (sO i (lcF fi g (own.map (·.2)) t f)) :=
  ps_imp (ps_setLc hc nd hy hyl hsw hi ok hg (lc_parts ht he).1 (lc_parts ht he).2 hs) fun D σ H q => lc_lift (fun B σ H Q q => ⟨B, q⟩) (fun B σ H Q q => ⟨B, q⟩) (fun B v σ H Q q => hgv B v σ H Q q) (by
    obtain ⟨F, S, st, o, q⟩ := q
    exact ⟨F, S, st, o, postF_own q⟩)

/-! ### a, b = x, y -/
def sP (i j : Nat) (fa : Ev (List Opd)) : EvS := fun S st => (fa S st).out fun a S st => match vds S a with
  | some [x, y] => .nx ((S.set i (.d x)).set j (.d y)) st
  | _ => .stuck
theorem ds_p {i j : Nat} {x y : Str} {px py pt : Pos} {kt k2 pt2} {fa : Ev (List Opd)} (hc : X.calm = true) (nd : X.N.Nodup) (ha : DA X B W [a, b] fa) (hi : X.N[i]? = some x := by rfl) (hj : X.N[j]? = some y := by rfl) (hij : i ≠ j := by decide)
    (hx : X.env.scope.names.lookup x = some .local := by rfl) (hy : X.env.scope.names.lookup y = some .local := by rfl)
    (hw : swappedStores [.Tuple [.Name x px, .Name y py] kt pt] (.Tuple [a, b] k2 pt2) X.env = pure (some [x, y]) := by rfl)
    (hs : swapsWithSole [.Tuple [.Name x px, .Name y py] kt pt] (.Tuple [a, b] k2 pt2) pos.line X.env = pure false := by rfl) :
    DS X B W (.Assign [.Tuple [.Name x px, .Name y py] kt pt] (.Tuple [a, b] k2 pt2) pos) (sP i j fa) :=
  ps_imp (ps_par hc nd hi hj hij hx hy ha hw hs) fun D σ H ⟨F, S, st, o, q⟩ => ⟨F, S, st, o, (Post.out (R := RpO (Cx.g X) σ) q).mono fun vs H1 ⟨F1, d, S1, st1, g1, o1, r1, p1⟩ => by
    split at p1
    · rename_i x y hxy
      have ra := o1.vds r1 hxy
      cases ra with
      | cons ra rb =>
        cases rb with
        | cons rb rc =>
          cases rc
          exact ⟨_, _, rfl, p1 _ H1 F1 .refl ((o1.set i ra).set j rb)⟩
    · exact p1.elim⟩

/-! ### own lists, changed -/
/-- x.append(e) -/
def sAp (i : Nat) (f : Ev Opd) : EvS := fun S st => match S[i]? with
  | some (.own (.l _)) => (f S st).out fun o S st => match vd S o, S[i]? with
    | some d, some (.own (.l ds)) => if ds.length < 16777216 then .nx (S.set i (.own (.l (ds ++ [d])))) st else .stuck
    | _, _ => .stuck
  | _ => .stuck
theorem ds_ap {i : Nat} {f : Ev Opd} {apos pos' : Pos} (ho : PE X a (tVar i)) (h : DO X B W e f) (hs : swapsWith (.Call (.Attribute a "append" apos) [e] [] pos') none pos.line X.env = pure false := by rfl)
    (hbase : attributeBase a "append" X.env (eval a X.env) = eval a X.env := by rfl)
    (hfew : ((backTo pos' (starEach [e] X.env)).all (fun x => !x.1) && (backToKw pos' (keywordEach [] X.env)).all (fun x => x.1.isSome)
      && decide (([e] : List Expr).length + ([] : List Keyword).length + (if ([] : List Keyword).isEmpty then 0 else 1) < 30)) = true := by rfl)
    (hline : (apos.endLine == pos'.line) = true := by rfl) (hst : starEach [e] X.env = (false, eval e X.env) :: starEach [] X.env := by rfl) :
    DS X B W (.Expr (.Call (.Attribute a "append" apos) [e] [] pos') pos) (sAp i f) :=
  ps_imp (ps_expr (pe_bm PySem.F.plainAttrs_list PySem.F.slot_list_append PySem.F.type_list_append mt_append ho (pa_cons h pa_nil hst) hbase hfew hline hst) hs) fun D σ H ⟨F, S, st, o, q⟩ => by
    unfold sAp at q
    split at q
    · rename_i ds0 hS0
      obtain ⟨p, u, e1, h1, h2, h3, r, _⟩ := o.sl i _ hS0
      cases r with
      | l r =>
        refine ⟨_, e1, .inl ⟨rfl, _, .inl (.inl h1)⟩, F, S, st, o, (Post.out (R := RO (Cx.g X) σ) q).mono fun v H1 ⟨F1, o', S1, st1, g1, o1, r1, p1⟩ => ?_⟩
        split at p1
        · rename_i d ds hd hS1
          split at p1
          · rename_i hlen
            obtain ⟨p', u', e1', h1', h2', h3', r', _⟩ := o1.sl i _ hS1
            rw [e1] at e1'; cases e1'
            cases r' with
            | l r' =>
              refine ⟨p, _, v, rfl, rfl, h1', by rw [r'.length, sizeLine_eq]; exact hlen, p1 σ _ F1 .refl (o1.chg hS1 e1 (.l (r'.append (.one (o1.vd r1 hd)))))⟩
          · exact p1.elim
        · exact p1.elim
    · exact q.elim
/-- x.extend(e), e a list that stays -/
def sEx (i : Nat) (f : Ev D) : EvS := fun S st => match S[i]? with
  | some (.own (.l _)) => (f S st).out fun d S st => match d, S[i]? with
    | .lst es, some (.own (.l ds)) => if ds.length + es.length ≤ 16777216 then .nx (S.set i (.own (.l (ds ++ es)))) st else .stuck
    | _, _ => .stuck
  | _ => .stuck
theorem ds_ex {i : Nat} {f : Ev D} {apos pos' : Pos} (ho : PE X a (tVar i)) (h : DE X B W e f) (hs : swapsWith (.Call (.Attribute a "extend" apos) [e] [] pos') none pos.line X.env = pure false := by rfl)
    (hbase : attributeBase a "extend" X.env (eval a X.env) = eval a X.env := by rfl)
    (hfew : ((backTo pos' (starEach [e] X.env)).all (fun x => !x.1) && (backToKw pos' (keywordEach [] X.env)).all (fun x => x.1.isSome)
      && decide (([e] : List Expr).length + ([] : List Keyword).length + (if ([] : List Keyword).isEmpty then 0 else 1) < 30)) = true := by rfl)
    (hline : (apos.endLine == pos'.line) = true := by rfl) (hst : starEach [e] X.env = (false, eval e X.env) :: starEach [] X.env := by rfl) :
    DS X B W (.Expr (.Call (.Attribute a "extend" apos) [e] [] pos') pos) (sEx i f) :=
  ps_imp (ps_expr (pe_bm PySem.F.plainAttrs_list PySem.F.slot_list_extend PySem.F.type_list_extend mt_extend ho (pa_cons h pa_nil hst) hbase hfew hline hst) hs) fun D σ H ⟨F, S, st, o, q⟩ => by
    unfold sEx at q
    split at q
    · rename_i ds0 hS0
      obtain ⟨p, u, e1, h1, h2, h3, r, _⟩ := o.sl i _ hS0
      cases r with
      | l r =>
        refine ⟨_, e1, .inl ⟨rfl, _, .inl (.inl h1)⟩, F, S, st, o, (Post.out (R := RD (Cx.g X) σ) q).mono fun v H1 ⟨F1, o', S1, st1, g1, o1, r1, p1⟩ => ?_⟩
        split at p1
        · rename_i es ds hS1
          split at p1
          · rename_i hlen
            obtain ⟨p', u', e1', h1', h2', h3', r', _⟩ := o1.sl i _ hS1
            rw [e1] at e1'; cases e1'
            cases r' with
            | l r' =>
              cases r1 with
              | lst hb rb =>
                refine ⟨p, _, _, _, rfl, rfl, h1', o1.fH _ _ hb, by rw [r'.length, rb.length, sizeLine_eq]; exact hlen, p1 σ _ F1 .refl (o1.chg hS1 e1 (.l (r'.append rb)))⟩
          · exact p1.elim
        · exact p1.elim
    · exact q.elim
/-- x.pop(), as a value -/
def ePop (i : Nat) : Ev D := fun S st => match S[i]? with
  | some (.own (.l ds)) => match ds.getLast? with
    | some d => .ok d (S.set i (.own (.l ds.dropLast))) st
    | none => .stuck
  | _ => .stuck
theorem RpAll.dropLast {G : Gx} {F : Fz} {vs : List V} {ds : List D} (r : RpAll G F vs ds) : RpAll G F vs.dropLast ds.dropLast := by
  rw [List.dropLast_eq_take, List.dropLast_eq_take, r.length]
  exact r.take _
theorem de_pop {i : Nat} {apos : Pos} (ho : PE X a (tVar i)) (hbase : attributeBase a "pop" X.env (eval a X.env) = eval a X.env := by rfl) (hline : (apos.endLine == pos.line) = true := by rfl) :
    DE X B W (.Call (.Attribute a "pop" apos) [] [] pos) (ePop i) :=
  pe_imp (pe_bm0 PySem.F.plainAttrs_list PySem.F.slot_list_pop PySem.F.type_list_pop mt_pop ho hbase hline) fun σ H Q ⟨F, S, st, o, q⟩ => by
    unfold ePop at q
    split at q
    · rename_i ds0 hS0
      obtain ⟨p, u, e1, h1, h2, h3, r, _⟩ := o.sl i _ hS0
      cases r with
      | l r =>
        split at q
        · rename_i d hd
          rw [List.getLast?_eq_getElem?] at hd
          obtain ⟨y, hy, ry⟩ := r.get hd
          refine ⟨_, e1, .inl ⟨rfl, _, .inl (.inl h1)⟩, p, _, y, rfl, rfl, h1, by rw [r.length]; exact hy, q _ _ F .refl (o.chg hS0 e1 (.l r.dropLast)) ry⟩
        · exact q.elim
    · exact q.elim
/-- x[j] = e -/
def sSet (i : Nat) (fv : Ev D) (fj : Ev D) : EvS := fun S st => (fv S st).out fun d S st => match S[i]? with
  | some (.own (.l _)) => (fj S st).out fun j S st => match j, S[i]? with
    | .int k, some (.own (.l ds)) => match ixN ds.length k with
      | some j => .nx (S.set i (.own (.l (ds.set j d)))) st
      | none => .stuck
    | _, _ => .stuck
  | _ => .stuck
theorem ds_set {i : Nat} {fv fj : Ev D} {tpos : Pos} (ho : PE X a (tVar i)) (hj : DE X B W b fj) (hv : DE X B W e fv) (hs : swapsWithSole [.Subscript a b tpos] e pos.line X.env = pure false := by rfl) (hw : swappedStores [.Subscript a b tpos] e X.env = pure none := by rfl)
    (h1 : (assignEach [.Subscript a b tpos] X.env).map (·.2) = [assign (.Subscript a b tpos) X.env] := by rfl)
    (ha : ∀ v, assign (.Subscript a b tpos) X.env v = (do
      let ov ← holding [v] (eval a X.env)
      let iv ← holding [v, ov] (eval b X.env)
      standAt tpos
      holding [v, ov, iv] (setItem ov iv v)
      release [v, ov, iv] []) := by intro _; rfl) : DS X B W (.Assign [.Subscript a b tpos] e pos) (sSet i fv fj) :=
  ps_imp (ps_asg hv (pg_sub ho hj set_list ha) hs hw h1) fun D σ H ⟨F, S, st, o, q⟩ => ⟨F, S, st, o, (Post.out (R := RD (Cx.g X) σ) q).mono fun v H1 ⟨F1, d, S1, st1, g1, o1, r1, p1⟩ => by
    split at p1
    · rename_i ds0 hS0
      obtain ⟨p, u, e1, h1, h2, h3, r, _⟩ := o1.sl i _ hS0
      refine ⟨_, e1, F1, S1, st1, o1, (Post.out (R := RD (Cx.g X) σ) p1).mono fun jv H2 ⟨F2, jd, S2, st2, g2, o2, r2, p2⟩ => ?_⟩
      split at p2
      · rename_i k ds hS2
        split at p2
        · rename_i j hj
          obtain ⟨p', u', e1', h1', h2', h3', r', _⟩ := o2.sl i _ hS2
          rw [e1] at e1'; cases e1'
          cases r' with
          | l r' =>
            cases r2
            refine ⟨p, _, k, j, rfl, rfl, h1', by rw [r'.length]; exact hj, p2 σ _ F2 .refl (o2.chg hS2 e1 (.l (r'.set j (r1.mono g2.1))))⟩
        · exact p2.elim
      · exact p2.elim
    · exact p1.elim⟩
end
/-! ### defs -/
def runB (N : Nat) (b : EvS) : CallT := fun ds st => match b (ds.map Sl.d ++ List.replicate (N - ds.length) .no) st with
  | .nx _ st => .ok .non [] st
  | .ret d _ st => .ok d [] st
  | .exc x _ st => .exc x [] st
  | _ => .stuck
theorem Ok.start {G : Gx} {B : Hp} {F : Fz} {H : Hp} {N : List Str} {vs : List V} {ds : List D} {st : Store} (f : Same F.f H) (kp : Same B H) (so : StOk G B F H st) (r : RpAll G F vs ds) (hl : vs.length ≤ N.length) : Ok G B F (start N vs) H (ds.map Sl.d ++ List.replicate (N.length - ds.length) .no) st := by
  have rl := r.length
  refine ⟨f, kp, so, by simp [L2.start, rl], fun i s e => ?_, fun i j a b p e1 e2 e3 e4 => ?_⟩
  · by_cases hi : i < ds.length
    · rw [List.getElem?_append_left (by simpa using hi), List.getElem?_map] at e
      cases q : ds[i]? with
      | none => rw [q] at e; cases e
      | some d =>
        rw [q] at e; cases e
        obtain ⟨v, hv, rv⟩ := r.get q
        refine ⟨v, ?_, rv⟩
        unfold L2.start
        rw [List.getElem?_append_left (by simpa [rl] using hi), List.getElem?_map, hv]; rfl
    · rw [List.getElem?_append_right (by simpa using hi), List.getElem?_replicate] at e
      split at e
      · cases e; trivial
      · cases e
  · by_cases hi : i < ds.length
    · rw [List.getElem?_append_left (by simpa using hi), List.getElem?_map] at e1
      cases q : ds[i]? with
      | none => rw [q] at e1; cases e1
      | some d => rw [q] at e1; cases e1
    · rw [List.getElem?_append_right (by simpa using hi), List.getElem?_replicate] at e1
      split at e1 <;> cases e1
section
variable {P : Program} {w : World} {K : PySem.W.Frag} {mg : Str → Option Value} {base : Heap}
/-- THE RULE for a def -/
theorem fn_ok {x qual : Str} {st : Stmt} {f : Addr} {fd : FuncData} {N ps : List Str} {k : Nat} {b : EvS} (F : Fun K x qual st f fd) (S : FnScope N ps (defScope st)) 
    (body : ∀ (B : Hp) (cdv : Value) (A : Around) (outer : List Env) (s : Shared) (H : Hp) (E : XK) (W : WX), Room k (A.deeper (envOfC qual (defScope st) s.heap.objs.size f cdv)) →
      Takes (cxOf (L2.CX P w) P w K mg base N qual (defScope st) f cdv A outer s H E) W → PassesOwn (model P w) (A.deeper (envOfC qual (defScope st) s.heap.objs.size f cdv)) (envOfC qual (defScope st) s.heap.objs.size f cdv) (cxOf (L2.CX P w) P w K mg base N qual (defScope st) f cdv A outer s H E).xe →
      DSs (cxOf (L2.CX P w) P w K mg base N qual (defScope st) f cdv A outer s H E) B W (defBody st) b) : FnOk P w K mg base (L2.CX P w) (k + 1) f fd ps (spOf ⟨K, mg, w⟩ ps.length (runB N.length b)) := by
  refine F.okX S (fun vs H Q E h => h.1) (fun cdv A outer s H vs Q E hr h => ?_)
  obtain ⟨hl, F0, ds, st0, f0, so0, r, q⟩ := h
  refine ⟨_, body (hid F0.m H) cdv A outer s H E (fun cls d _ H' => E cls d H') hr (takes_of rfl rfl rfl rfl) (passes_of rfl), ?_⟩
  have hN : ps.length ≤ N.length := by have := congrArg List.length S.pre; rw [List.length_take] at this; omega
  refine ⟨F0, _, st0, Ok.start f0 (hid_same _ _) so0 r (by omega), ?_⟩
  unfold runB at q
  revert q
  generalize b (ds.map Sl.d ++ List.replicate (N.length - ds.length) .no) st0 = r
  intro q
  cases r with
  | nx S1 st1 => exact fun σ' H' F' g o => q .non H' F' o.kp o.fH g o.so .non
  | ret d S1 st1 => exact fun v σ' H' F' g o rr => q v H' F' o.kp o.fH g o.so rr
  | exc y S1 st1 => exact fun c d σ' H' F' g o rr => q c d H' F' o.kp o.fH g o.so rr
  | bk S1 st1 => exact q.elim
  | ct S1 st1 => exact q.elim
  | rto w1 S1 st1 => exact q.elim
  | stuck => exact q.elim
theorem def_ok {x qual : Str} {st : Stmt} {f : Addr} {fd : FuncData} {N ps : List Str} {k : Nat} {b : EvS} (F : Fun K x qual st f fd) (S : FnScope N ps (defScope st)) (hb : Binds K fd ps []) (hm : mg x = some (.ref f))
    (body : ∀ (B : Hp) (cdv : Value) (A : Around) (outer : List Env) (s : Shared) (H : Hp) (E : XK) (W : WX), Room k (A.deeper (envOfC qual (defScope st) s.heap.objs.size f cdv)) →
      Takes (cxOf (L2.CX P w) P w K mg base N qual (defScope st) f cdv A outer s H E) W → PassesOwn (model P w) (A.deeper (envOfC qual (defScope st) s.heap.objs.size f cdv)) (envOfC qual (defScope st) s.heap.objs.size f cdv) (cxOf (L2.CX P w) P w K mg base N qual (defScope st) f cdv A outer s H E).xe →
      DSs (cxOf (L2.CX P w) P w K mg base N qual (defScope st) f cdv A outer s H E) B W (defBody st) b) : Def P w K mg base (k + 1) x ps.length (runB N.length b) := ⟨f, fd, ps, fn_ok F S body, hb, hm, F.kp⟩
/-- nothing is promised -/
def cStuck : CallT := fun _ _ => .stuck
theorem def_stuck {x qual : Str} {st : Stmt} {f : Addr} {fd : FuncData} {N ps : List Str} {k : Nat} (F : Fun K x qual st f fd) (S : FnScope N ps (defScope st)) (hb : Binds K fd ps []) (hm : mg x = some (.ref f)) : Def P w K mg base (k + 1) x ps.length cStuck := by
  refine ⟨f, fd, ps, F.okX S (fun vs H Q E h => h.1) (fun cdv A outer s H vs Q E hr h => ?_), hb, hm, F.kp⟩
  obtain ⟨_, _, _, _, _, _, _, q⟩ := h
  exact q.elim
end
end DL

namespace DL
open PySem PySem.Spec PyProof.Rows L2
/-! ### own exception classes: who stands under whom -/
/-- (c, t, b): an instance of c is (b), or is none, of t -/
abbrev XTab := List (Nat × Nat × Bool)
def xLook : XTab → Nat → Nat → Option Bool
  | [], _, _ => none
  | (c, t, b) :: r, x, y => if x = c ∧ y = t then some b else xLook r x y
theorem xLook_mem : ∀ {T : XTab} {x y : Nat} {b : Bool}, xLook T x y = some b → (x, y, b) ∈ T
  | (c, t, d) :: r, x, y, b, h => by
    unfold xLook at h
    split at h
    · rename_i e
      obtain ⟨rfl, rfl⟩ := e
      cases h; simp
    · simp [xLook_mem h]
/-- a class that is raised -/
structure XCl (K : PySem.W.Frag) (C : Addr) : Prop where
  ex : PySem.W.excIn K C [.type "ValueError", .type "Exception", .type "BaseException", .type "object"] "ValueError.__new__" = true
  kp : PySem.W.keepIn K (.ref C) = true
  ty : PySem.W.typeIn K (.ref C) = some (.type "type")
  is : ExcC K C
  ve : PySem.W.subIn K (.ref C) (.type "ValueError") = some true
  me : PySem.W.subIn K (.ref C) (.ref C) = some true
/-- a class that is asked for -/
structure HCl (K : PySem.W.Frag) (C : Addr) : Prop where
  be : PySem.W.subIn K (.ref C) (.type "BaseException") = some true
  hd : PySem.W.hasDictIn K C = true
  ty : PySem.W.typeIn K (.ref C) = some (.type "type")
structure XT (K : PySem.W.Frag) (mg : Str → Option Value) (T : XTab) : Prop where
  rows : ∀ c t b, (c, t, b) ∈ T → ∃ C Ct, mg (nmS c) = some (.ref C) ∧ mg (nmS t) = some (.ref Ct) ∧ PySem.W.subIn K (.ref C) (.ref Ct) = some b ∧ XCl K C ∧ HCl K Ct
  ve : mg "ValueError" = none
theorem XT.nil {K : PySem.W.Frag} {mg : Str → Option Value} (h : mg "ValueError" = none) : XT K mg [] := ⟨(fun _ _ _ h => by cases h), h⟩
theorem XT.cons {K : PySem.W.Frag} {mg : Str → Option Value} {T : XTab} {c t : Nat} {b : Bool} {C Ct : Addr} (h1 : mg (nmS c) = some (.ref C)) (h2 : mg (nmS t) = some (.ref Ct)) (h3 : PySem.W.subIn K (.ref C) (.ref Ct) = some b) (h4 : XCl K C) (h5 : HCl K Ct) (h : XT K mg T) : XT K mg ((c, t, b) :: T) :=
  ⟨fun c' t' b' m => by
    rcases List.mem_cons.mp m with e | m
    · cases e; exact ⟨C, Ct, h1, h2, h3, h4, h5⟩
    · exact h.rows _ _ _ m, h.ve⟩
/-- whether an exception of class c is one of these (none: ValueError) -/
def isX (T : XTab) (c : Nat) : List (Option Nat) → Option Bool
  | [] => some false
  | none :: _ => some true
  | some t :: r => match xLook T c t with
    | some true => some true
    | some false => isX T c r
    | none => none
section
variable {K : PySem.W.Frag} {mg : Str → Option Value} {T : XTab}
theorem kit_own {C Ct : Addr} {b : Bool} (h : PySem.W.subIn K (.ref C) (.ref Ct) = some b) (hx : XCl K C) (hh : HCl K Ct) : PySem.W.kitOne K (.ref C) (.ref Ct) = some b := by
  unfold PySem.W.kitOne
  by_cases e : C = Ct
  · subst e
    rw [if_pos (by simp)]
    rw [hx.me] at h; exact h
  · rw [if_neg (by simpa using e)]
    obtain ⟨cd, hc, _⟩ := PySem.W.any_some hh.hd
    unfold PySem.W.kitCls
    dsimp only
    rw [if_pos (by rw [hc, hh.ty]; rfl)]
    exact h
theorem kit_ve {C : Addr} (hx : XCl K C) : PySem.W.kitOne K (.ref C) (.type "ValueError") = some true := by
  unfold PySem.W.kitOne
  rw [if_neg (by simp)]
  unfold PySem.W.kitCls
  dsimp only
  rw [if_pos (by decide +kernel)]
  exact hx.ve
/-- the classes' values -/
inductive TVs (mg : Str → Option Value) : List (Option Nat) → List V → List Value → Prop
  | nil : TVs mg [] [] []
  | ve {ts : List (Option Nat)} {vs : List V} {us : List Value} : TVs mg ts vs us → TVs mg (none :: ts) (.ty "ValueError" :: vs) (.type "ValueError" :: us)
  | own {t : Nat} {C : Addr} {ts : List (Option Nat)} {vs : List V} {us : List Value} : mg (nmS t) = some (.ref C) → TVs mg ts vs us → TVs mg (some t :: ts) (.ref C :: vs) (.ref C :: us)
theorem TVs.cls : ∀ {ts : List (Option Nat)} {vs : List V} {us : List Value}, TVs mg ts vs us → Paired ClsV vs us
  | _, _, _, .nil => .nil
  | _, _, _, .ve h => .cons (.ty _) h.cls
  | _, _, _, .own _ h => .cons (.own _) h.cls
theorem isX_kit (hT : XT K mg T) {c : Nat} {C : Addr} (hC : mg (nmS c) = some (.ref C)) (hx : XCl K C) : ∀ {ts : List (Option Nat)} {vs : List V} {us : List Value} {b : Bool}, TVs mg ts vs us → isX T c ts = some b → PySem.W.kitAny K (.ref C) us = some b
  | _, _, _, b, .nil, h => h
  | _, _, _, b, .ve r, h => by
    unfold isX at h
    unfold PySem.W.kitAny
    rw [kit_ve hx]; exact h
  | _, _, _, b, .own (t := t) ht r, h => by
    unfold isX at h
    unfold PySem.W.kitAny
    split at h
    · rename_i e
      obtain ⟨C1, C2, a1, a2, a3, a4, a5⟩ := hT.rows _ _ _ (xLook_mem e)
      rw [hC] at a1; cases a1
      rw [ht] at a2; cases a2
      rw [kit_own a3 a4 a5]; exact h
    · rename_i e
      obtain ⟨C1, C2, a1, a2, a3, a4, a5⟩ := hT.rows _ _ _ (xLook_mem e)
      rw [hC] at a1; cases a1
      rw [ht] at a2; cases a2
      rw [kit_own a3 a4 a5]; exact isX_kit hT hC hx r h
    · cases h
end
/-! ### isinstance of a caught one -/
section
variable {X : Cx} {B : Hp} {W : WX} {e : Expr} {es : List Expr} {pos p pe p2 : Pos} {a C : Addr} {oe : Obj} {cx : Nat} {T : XTab}
theorem inst_pin {pins : List (Addr × Obj)} {σ : L2.St} {H : Hp} {s : Shared} (hp : (a, oe) ∈ X.pn) (hz : Zc (.ref C) none oe) (hf : ∃ vs, oe.data = .fields vs) (I : Inv X pins σ H s) : PySem.W.InstAt s.heap a oe C none := by
  obtain ⟨hget, _⟩ := I.pin (a, oe) (List.mem_append.mpr (.inl hp))
  obtain ⟨vs, hv⟩ := hf
  obtain ⟨oc, od, oda, osl⟩ := oe
  obtain ⟨z1, z2⟩ := hz
  dsimp only at z1 z2 hv
  subst z1 z2 hv
  exact ⟨hget, rfl, rfl, trivial⟩
/-- isinstance(n, T), T one class or a tuple of them that was just laid -/
def rIsP (K : PySem.W.Frag) (C a : Addr) : List V → Hp → VK → Prop := fun xs H Q => (∃ (c : V) (cv : Value) (b : Bool), xs = [.ref a, c] ∧ ClsV c cv ∧ PySem.W.kitOne K (.ref C) cv = some b ∧ Q (.bl b) H) ∨
  ∃ (tp : Addr) (cs : List V) (us : List Value) (b : Bool), xs = [.ref a, .ref tp] ∧ H tp = some (.tup cs) ∧ Paired ClsV cs us ∧ PySem.W.kitAny K (.ref C) us = some b ∧ Q (.bl b) H
theorem call_isP (hp : (a, oe) ∈ X.pn) (hz : Zc (.ref C) none oe) (hf : ∃ vs, oe.data = .fields vs) (hc : ExcC X.K C) : CallR X (.builtin "isinstance") (rIsP X.K C a) := by
  intro pins s σ H xs us Q I r h
  have J := inst_pin hp hz hf I
  have Z := PySem.W.handS_kitx_exc (x := a) (ox := oe) hc.hg hc.hk hc.hs hc.hd hc.ha hc.hn hc.ht hc.hm
  rcases h with ⟨c, cv, b, rfl, k, ek, q⟩ | ⟨tp, cs, ws, b, rfl, hT, k, ek, q⟩
  · obtain ⟨u1, u2, rfl, r1, r2⟩ := vals2 r
    cases (show u1 = Value.ref a from r1)
    have := k.eq r2
    subst this
    exact PySem.W.kia_one Z I.kIn J ek (fun z => nomatch z) fun tk => ⟨.bl b, H, I.kept (t' := tk) fun _ _ z => z, rfl, q⟩
  · obtain ⟨u1, u2, rfl, r1, r2⟩ := vals2 r
    cases (show u1 = Value.ref a from r1)
    cases (show u2 = Value.ref tp from r2)
    obtain ⟨_, its, rv, o, g1, g2, n, g3⟩ := (show ObjOk X.prog X.w H s.heap tp (.tup cs) from I.hok tp _ hT)
    have e3 := ClsV.all k rv
    subst e3
    obtain ⟨oc, od, dt, sl⟩ := o
    simp only at g2 g3
    subst g2 g3
    exact PySem.W.kia_tup Z I.kIn J g1 ek (fun z => nomatch z) fun tk => ⟨.bl b, H, I.kept (t' := tk) fun _ _ z => z, rfl, q⟩
/-- isinstance(n, T), n in slot i the exception at a, of class cx -/
def isE (T : XTab) (a : Addr) (cx : Nat) (ts : List (Option Nat)) (i : Nat) : Ev D := fun S st => match S[i]? with
  | some (.d (.err a' c')) => if a' = a ∧ c' = cx then got ((isX T cx ts).map D.bl) S st else .stuck
  | _ => .stuck
theorem Ok.errSlot {G : Gx} {B : Hp} {F : Fz} {H : Hp} {σ : L2.St} {S : Sls} {st : Store} (o : Ok G B F σ H S st) {i : Nat} {a : Addr} {c : Nat} (h : S[i]? = some (.d (.err a c))) : σ[i]? = some (some (.ref a)) := by
  obtain ⟨v, e, r⟩ := o.sl i _ h
  cases r
  exact e
/-- one class -/
theorem de_isE1 {i : Nat} {n : Str} {t : Option Nat} {v : V} {u : Value} (hT : XT X.K X.mg T) (hp : (a, oe) ∈ X.pn) (hz : Zc (.ref C) none oe) (hf : ∃ vs, oe.data = .fields vs) (hC : X.mg (nmS cx) = some (.ref C)) (hx : XCl X.K C) (hi : X.mg "isinstance" = none)
    (hn : PE X (.Name n pe) (tVar i)) (he : PE X e (tC v)) (hv : TVs X.mg [t] [v] [u]) (hg : Gl X "isinstance" := by rfl)
    (hs : starEach [.Name n pe, e] X.env = (false, eval (.Name n pe) X.env) :: starEach [e] X.env := by rfl) (hs2 : starEach [e] X.env = (false, eval e X.env) :: starEach [] X.env := by rfl) (hpl : (backTo pos (starEach [e] X.env)).any (·.1) = false := by rfl) : DE X B W (.Call (.Name "isinstance" p) [.Name n pe, e] [] pos) (isE T a cx [t] i) :=
  pe_imp (pe_callB (call_isP hp hz hf hx.is) hg hi rfl (pa_cons hn (pa_cons he pa_nil hs2) hs) (by decide) (by decide) hs hpl) fun σ H Q ⟨F, S, st, o, q⟩ => by
    unfold isE at q
    split at q
    · rename_i a' c' hS
      split at q
      · rename_i hh
        obtain ⟨rfl, rfl⟩ := hh
        cases hb : isX T c' [t] with
        | none => rw [hb] at q; exact q.elim
        | some b =>
          rw [hb] at q
          have hk := isX_kit hT hC hx hv hb
          refine ⟨_, o.errSlot hS, .inl ⟨v, u, b, rfl, ?_, ?_, q (.bl b) H F .refl o (.bl b)⟩⟩
          · cases hv.cls with
            | cons k _ => exact k
          · unfold PySem.W.kitAny at hk
            split at hk
            · rename_i e1; rw [e1]; exact hk
            · rename_i e1; rw [e1]; exact hk
            · cases hk
      · exact q.elim
    · exact q.elim
/-- the names of a tuple of classes -/
inductive TNs (X : Cx) : List Expr → List (Option Nat) → List V → Prop
  | nil : TNs X [] [] []
  | cons {e : Expr} {es : List Expr} {t : Option Nat} {ts : List (Option Nat)} {v : V} {vs : List V} : PE X e (tC v) → starEach (e :: es) X.env = (false, eval e X.env) :: starEach es X.env → TNs X es ts vs → TNs X (e :: es) (t :: ts) (v :: vs)
theorem TNs.pa : ∀ {es : List Expr} {ts : List (Option Nat)} {vs : List V}, TNs X es ts vs → PA X es (fun _ H Q => Q vs H)
  | _, _, _, .nil => pa_imp pa_nil fun _ _ _ q => q
  | _, _, _, .cons h hs t => pa_imp (pa_cons h t.pa hs) fun _ _ _ q => q
/-- several classes -/
theorem de_isET {i : Nat} {n : Str} {ts : List (Option Nat)} {vs : List V} {us : List Value} {x1} (hT : XT X.K X.mg T) (hp : (a, oe) ∈ X.pn) (hz : Zc (.ref C) none oe) (hf : ∃ vs, oe.data = .fields vs) (hC : X.mg (nmS cx) = some (.ref C)) (hx : XCl X.K C) (hi : X.mg "isinstance" = none)
    (hn : PE X (.Name n pe) (tVar i)) (he : TNs X es ts vs) (hv : TVs X.mg ts vs us) (hl : vs.length ≤ 1000) (hg : Gl X "isinstance" := by rfl)
    (hs : starEach [.Name n pe, .Tuple es x1 p2] X.env = (false, eval (.Name n pe) X.env) :: starEach [.Tuple es x1 p2] X.env := by rfl) (hs2 : starEach [.Tuple es x1 p2] X.env = (false, eval (.Tuple es x1 p2) X.env) :: starEach [] X.env := by rfl) (hpl : (backTo pos (starEach [.Tuple es x1 p2] X.env)).any (·.1) = false := by rfl) : DE X B W (.Call (.Name "isinstance" p) [.Name n pe, .Tuple es x1 p2] [] pos) (isE T a cx ts i) :=
  pe_imp (pe_callB (call_isP hp hz hf hx.is) hg hi rfl (pa_cons hn (pa_cons (pe_tup he.pa) pa_nil hs2) hs) (by decide) (by decide) hs hpl) fun σ H Q ⟨F, S, st, o, q⟩ => by
    unfold isE at q
    split at q
    · rename_i a' c' hS
      split at q
      · rename_i hh
        obtain ⟨rfl, rfl⟩ := hh
        cases hb : isX T c' ts with
        | none => rw [hb] at q; exact q.elim
        | some b =>
          rw [hb] at q
          have hk := isX_kit hT hC hx hv hb
          exact ⟨_, o.errSlot hS, Nat.le_of_lt (small1000 (Nat.le_of_lt_succ (Nat.lt_succ_of_le hl))), fun tp htp => .inr ⟨tp, vs, us, b, rfl, upd_same, hv.cls, hk, q (.bl b) _ F .refl (o.junk (same_new htp)) (.bl b)⟩⟩
      · exact q.elim
    · exact q.elim
end
end DL

namespace DL
open PySem PySem.Spec PyProof.Rows L2
/-! ### raise, try -/
def sX (c : Nat) : EvS := fun S st => .exc ⟨c, []⟩ S st
/-- nothing is let out -/
def noX : Out → Out
  | .exc _ _ _ => .stuck
  | r => r
/-- try: body, except h: suite (by the class of what was raised) -/
def sTry (T : XTab) (h : Nat) (fb : EvS) (fs : Nat → EvS) : EvS := fun S st => match fb S st with
  | .exc x S1 st1 => match xLook T x.c h, x.fs with
    | some true, [] => noX (fs x.c S1 st1)
    | some false, _ => .exc x S1 st1
    | _, _ => .stuck
  | r => r
/-- slot i is gone -/
def clr (i : Nat) : Out → Out
  | .nx S st => .nx (S.set i .no) st
  | .ret d S st => .ret d (S.set i .no) st
  | .bk S st => .bk (S.set i .no) st
  | .ct S st => .ct (S.set i .no) st
  | .rto w S st => .rto w (S.set i .no) st
  | .exc _ _ _ => .stuck
  | .stuck => .stuck
/-- what comes of every address -/
noncomputable def pickO (r : Addr → Out) : Out := by
  classical
  exact if h : ∃ o, ∀ a, r a = o then Classical.choose h else .stuck
theorem pickO_eq {r : Addr → Out} {o : Out} (h : ∀ a, r a = o) : pickO r = o := by
  have hx : ∃ o, ∀ a, r a = o := ⟨o, h⟩
  unfold pickO
  rw [dif_pos hx]
  rw [← Classical.choose_spec hx 0, h 0]
/-- try: body, except h as n (slot i): suite -/
noncomputable def sTryA (T : XTab) (h i : Nat) (fb : EvS) (fs : Addr → Nat → EvS) : EvS := fun S st => match fb S st with
  | .exc x S1 st1 => match xLook T x.c h, x.fs with
    | some true, [] => pickO fun a => clr i (fs a x.c (S1.set i (.d (.err a x.c))) st1)
    | some false, _ => .exc x S1 st1
    | _, _ => .stuck
  | r => r
section
variable {X : Cx} {B : Hp} {W : WX} {pos p p2 p3 np pos2 : Pos} {T : XTab}
theorem ds_raise {c : Nat} {x m : Str} {j : Nat} (hT : XT X.K X.mg T) (hc : (c, c, true) ∈ T) (hx : nmS c = x) (tk : Takes X W) (hcalm : X.calm = true := by rfl) (hg : Gl X x := by rfl) (hdb : (x == ("__debug__" : Str)) = false := by decide) :
    DS X B W (.Raise (some (.Call (.Name x p) [.Constant (.str m) j p2] [] p3)) none pos) (sX c) := by
  obtain ⟨C, C2, a1, a2, a3, a4, a5⟩ := hT.rows _ _ _ hc
  rw [a1] at a2; cases a2
  have a1' := a1
  rw [hx] at a1
  exact ps_imp (ps_raise hcalm tk (pmk_own PySem.F.excBase_ValueError a4.ex a1 a4.kp (raises_own a5.be a4.ty) hg hdb)) fun D σ H ⟨F, S, st, o, q⟩ => q (.ref C) none σ H F .refl o ⟨C, a1', rfl, .inl ⟨rfl, rfl⟩⟩
/-- a class that a clause names -/
structure HNm (X : Cx) (h : Nat) (x : Str) : Prop where
  ex : ∃ C, X.mg x = some (.ref C) ∧ HCl X.K C
  nm : nmS h = x
theorem XT.exm (hT : XT X.K X.mg T) {c h : Nat} {C Ch : Addr} {b : Bool} (e : xLook T c h = some b) (hC : X.mg (nmS c) = some (.ref C)) (hh : X.mg (nmS h) = some (.ref Ch)) : PySem.W.exmOne X.K (.ref C) (.ref Ch) = some b ∧ XCl X.K C := by
  obtain ⟨C1, C2, a1, a2, a3, a4, a5⟩ := hT.rows _ _ _ (xLook_mem e)
  rw [hC] at a1; cases a1
  rw [hh] at a2; cases a2
  exact ⟨PySem.W.exm_ref a5.be a5.hd a5.ty a3, a4⟩
theorem PostS.noX {G : Gx} {F F' : Fz} {D : Ends} {r : Out} (g : Gr B F F') (q : PostS G B W F D (noX r)) : PostS G B (fun _ _ _ _ => False) F' D r := by
  cases r with
  | exc x S st => exact q.elim
  | nx S st => exact PostS.grow (W := fun _ _ _ _ => False) g (r := .nx S st) q
  | ret d S st => exact PostS.grow (W := fun _ _ _ _ => False) g (r := .ret d S st) q
  | bk S st => exact PostS.grow (W := fun _ _ _ _ => False) g (r := .bk S st) q
  | ct S st => exact PostS.grow (W := fun _ _ _ _ => False) g (r := .ct S st) q
  | rto w S st => exact PostS.grow (W := fun _ _ _ _ => False) g (r := .rto w S st) q
  | stuck => exact q
theorem ds_tryO {h : Nat} {x : Str} {body suite : List Stmt} {b0 : Stmt} {fb : EvS} {fs : Nat → EvS} (hT : XT X.K X.mg T) (hh : HNm X h x) (tk : Takes X W)
    (hb : ∀ (W' : WX) (pn : List (Addr × Obj)) (xe : Value → Shared → Prop), Takes (X.tr pn xe) W' → PassesOwn (model X.prog X.w) X.A X.env xe → DSs (X.tr pn xe) B W' body fb)
    (hsu : ∀ (a : Addr) (oe : Obj) (C : Addr) (pn : List (Addr × Obj)) (c : Nat), X.mg (nmS c) = some (.ref C) → XCl X.K C → Zc (.ref C) none oe → (∃ vs, oe.data = .fields vs) → DSs (X.suite a ((a, oe) :: pn)) B (fun _ _ _ _ => False) (b0 :: suite) (fs c))
    (hs : X.stack = X.env :: X.outer := by rfl) (hf : X.env.frame = some X.env.locals := by rfl) (hg : Gl X x := by rfl) (hdb : (x == ("__debug__" : Str)) = false := by decide) :
    DS X B W (.Try body [.ExceptHandler (some (.Name x np)) none (b0 :: suite) pos2] [] [] pos) (sTry T h fb fs) := by
  obtain ⟨⟨Ch, hCh, hcl⟩, hnm⟩ := hh
  have hCh' : X.mg (nmS h) = some (.ref Ch) := by rw [hnm]; exact hCh
  refine ps_imp (ps_try_only (ts := fun a cls d D σ H => ∃ (c : Nat) (C : Addr), cls = .ref C ∧ d = none ∧ X.mg (nmS c) = some (.ref C) ∧ XCl X.K C ∧ liftS (Cx.g X) B (fun _ _ _ _ => False) (fs c) D σ H) (tb := fun W' => liftS (Cx.g X) B W' fb) hs hf ⟨hg, hdb, .inl hCh⟩ tk hb (fun a oe cls d pn hz hfl => ⟨fun pins sh σ H D I z => ?_⟩)) fun D σ H ⟨F, S, st, o, q⟩ => ?_
  · obtain ⟨c, C, e1, e2, e3, e4, q⟩ := z
    subst e1; subst e2
    exact (hsu a oe C pn c e3 e4 hz hfl).run pins sh σ H D I q
  · refine ⟨F, S, st, o, ?_⟩
    unfold sTry at q
    generalize fb S st = r at q
    cases r with
    | exc x S1 st1 =>
      intro cls dd σ' H' F' g o' xr
      obtain ⟨C, hC, rfl, hd⟩ := id xr
      dsimp only at q
      cases hl : xLook T x.c h with
      | none => rw [hl] at q; exact q.elim
      | some b =>
        obtain ⟨hexm, hxc⟩ := hT.exm hl hC hCh'
        rw [hl] at q
        cases b with
        | false => exact ⟨false, hexm, fun z => (by cases z), fun _ => q _ _ σ' H' F' g o' xr⟩
        | true =>
          cases hfs : x.fs with
          | cons y r => rw [hfs] at q; exact q.elim
          | nil =>
            rw [hfs] at q
            have hdn : dd = none := by
              rcases hd with ⟨_, e⟩ | ⟨n, _⟩
              · exact e
              · exact absurd hfs n
            exact ⟨true, hexm, fun _ a ha => ⟨x.c, C, rfl, hdn, hC, hxc, F', S1, st1, o', PostS.noX g q⟩, fun z => (by cases z)⟩
    | nx S st => exact q
    | ret d S st => exact q
    | bk S st => exact q
    | ct S st => exact q
    | rto w S st => exact q
    | stuck => exact q
theorem PostS.clr {G : Gx} {F F' : Fz} {i : Nat} {D : Ends} {r : Out} (g : Gr B F F') (q : PostS G B W F D (clr i r)) :
    PostS G B (fun _ _ _ _ => False) F' { nx := fun σ' H' => D.nx (σ'.set i none) H', rt := D.rt, bk := fun σ' H' => D.bk (σ'.set i none) H', ct := fun σ' H' => D.ct (σ'.set i none) H' } r := by
  cases r with
  | exc x S st => exact q.elim
  | nx S st => exact fun σ' H' F2 g2 o => q (σ'.set i none) H' F2 (g.trans g2) (o.any i none)
  | ret d S st => exact fun v σ' H' F2 g2 o r => q v (σ'.set i none) H' F2 (g.trans g2) (o.any i none) r
  | bk S st => exact fun σ' H' F2 g2 o => q (σ'.set i none) H' F2 (g.trans g2) (o.any i none)
  | ct S st => exact fun σ' H' F2 g2 o => q (σ'.set i none) H' F2 (g.trans g2) (o.any i none)
  | rto w S st => exact fun p u σ' H' F2 g2 o => q p u (σ'.set i none) H' F2 (g.trans g2) (o.any i none)
  | stuck => exact q
theorem pickO_at {r : Addr → Out} (a : Addr) : pickO r = .stuck ∨ pickO r = r a := by
  unfold pickO
  by_cases h : ∃ o, ∀ a, r a = o
  · rw [dif_pos h]; exact .inr (Classical.choose_spec h a).symm
  · rw [dif_neg h]; exact .inl rfl
theorem ds_tryA {h i : Nat} {x n : Str} {body suite : List Stmt} {b0 : Stmt} {fb : EvS} {fs : Addr → Nat → EvS} (hT : XT X.K X.mg T) (hh : HNm X h x) (tk : Takes X W)
    (hN : X.N.Nodup)
    (hb : ∀ (W' : WX) (pn : List (Addr × Obj)) (xe : Value → Shared → Prop), Takes (X.tr pn xe) W' → PassesOwn (model X.prog X.w) X.A X.env xe → DSs (X.tr pn xe) B W' body fb)
    (hsu : ∀ (a : Addr) (oe : Obj) (C : Addr) (pn : List (Addr × Obj)) (c : Nat), X.mg (nmS c) = some (.ref C) → XCl X.K C → Zc (.ref C) none oe → (∃ vs, oe.data = .fields vs) → DSs (X.suite a ((a, oe) :: pn)) B (fun _ _ _ _ => False) (b0 :: suite) (fs a c))
    (hi : X.N[i]? = some n := by rfl) (hln : X.env.kindOf n = some .local := by rfl)
    (hs : X.stack = X.env :: X.outer := by rfl) (hf : X.env.frame = some X.env.locals := by rfl) (hg : Gl X x := by rfl) (hdb : (x == ("__debug__" : Str)) = false := by decide) :
    DS X B W (.Try body [.ExceptHandler (some (.Name x np)) (some n) (b0 :: suite) pos2] [] [] pos) (sTryA T h i fb fs) := by
  obtain ⟨⟨Ch, hCh, hcl⟩, hnm⟩ := hh
  have hCh' : X.mg (nmS h) = some (.ref Ch) := by rw [hnm]; exact hCh
  refine ps_imp (ps_try_as (ts := fun a cls d D σ H => ∃ (c : Nat) (C : Addr), cls = .ref C ∧ d = none ∧ X.mg (nmS c) = some (.ref C) ∧ XCl X.K C ∧ liftS (Cx.g X) B (fun _ _ _ _ => False) (fs a c) D σ H) (tb := fun W' => liftS (Cx.g X) B W' fb) hs hf hN hi hln ⟨hg, hdb, .inl hCh⟩ tk hb (fun a oe cls d pn hz hfl => ⟨fun pins sh σ H D I z => ?_⟩)) fun D σ H ⟨F, S, st, o, q⟩ => ?_
  · obtain ⟨c, C, e1, e2, e3, e4, q⟩ := z
    subst e1; subst e2
    exact (hsu a oe C pn c e3 e4 hz hfl).run pins sh σ H D I q
  · refine ⟨F, S, st, o, ?_⟩
    unfold sTryA at q
    generalize fb S st = r at q
    cases r with
    | exc x S1 st1 =>
      intro cls dd σ' H' F' g o' xr
      obtain ⟨C, hC, rfl, hd⟩ := id xr
      dsimp only at q
      cases hl : xLook T x.c h with
      | none => rw [hl] at q; exact q.elim
      | some b =>
        obtain ⟨hexm, hxc⟩ := hT.exm hl hC hCh'
        rw [hl] at q
        cases b with
        | false => exact ⟨false, hexm, fun z => (by cases z), fun _ => q _ _ σ' H' F' g o' xr⟩
        | true =>
          cases hfs : x.fs with
          | cons y r => rw [hfs] at q; exact q.elim
          | nil =>
            rw [hfs] at q
            have hdn : dd = none := by
              rcases hd with ⟨_, e⟩ | ⟨n, _⟩
              · exact e
              · exact absurd hfs n
            refine ⟨true, hexm, fun _ a ha => ⟨x.c, C, rfl, hdn, hC, hxc, F', _, st1, o'.set i (.err a x.c), ?_⟩, fun z => (by cases z)⟩
            dsimp only at q
            rcases pickO_at (r := fun a => DL.clr i (fs a x.c (S1.set i (.d (.err a x.c))) st1)) a with e | e
            · rw [e] at q; exact q.elim
            · rw [e] at q; exact PostS.clr g q
    | nx S st => exact q
    | ret d S st => exact q
    | bk S st => exact q
    | ct S st => exact q
    | rto w S st => exact q
    | stuck => exact q
end
/-! ### a def that is handed the caught exception -/
section
variable {P : Program} {w : World} {K : PySem.W.Frag} {mg : Str → Option Value} {base : Heap}
/-- what such a def says of the exception at a, of class c -/
abbrev CallP := Addr → Nat → CallT
def spP (G : Gx) (a : Addr) (c : Nat) (f : CallP) : Sp := fun vs H Q _ => vs = [.ref a] ∧ ∃ (F : Fz) (st : Store), Same F.f H ∧ StOk G (hid F.m H) F H st ∧ match f a c [.err a c] st with
  | .ok d _ st' => ∀ v H' (F' : Fz), Same (hid F.m H) H' → Same F'.f H' → Gr (hid F.m H) F F' → StOk G (hid F.m H) F' H' st' → Rp G F' v d → Q v H'
  | _ => False
structure DefP (P : Program) (w : World) (K : PySem.W.Frag) (mg : Str → Option Value) (base : Heap) (k : Nat) (x : Str) (f : CallP) : Prop where
  ex : ∃ (fa : Addr) (fd : FuncData) (n : Str), Binds K fd [n] [] ∧ mg x = some (.ref fa) ∧ PySem.W.keepIn K (.ref fa) = true ∧
    ∀ (a : Addr) (oe : Obj) (c : Nat) (C : Addr), mg (nmS c) = some (.ref C) → XCl K C → Zc (.ref C) none oe → (∃ vs, oe.data = .fields vs) →
      ∀ (A : Around) (outer : List Env) (s : Shared) (H : Hp) (args : Args) (us : List Value) (vs : List V) (Q : VK) (E : XK), L2H.RoomH k A → L2H.PinOk outer H s (a, oe) → Env0 P w K mg base A outer s H → BindsTo s fd args ([n].zip us) → Vals vs us → spP ⟨K, mg, w⟩ a c f vs H Q E →
        codeAny (model P w) A (.call (.ref fa) args) (CR (L2.CX P w) outer P w H s Q E) s
theorem defP_ok {x qual n : Str} {st : Stmt} {f : Addr} {fd : FuncData} {N : List Str} {k : Nat} {b : Addr → Nat → EvS} (F : Fun K x qual st f fd) (S : FnScope N [n] (defScope st)) (hb : Binds K fd [n] []) (hm : mg x = some (.ref f))
    (body : ∀ (a : Addr) (oe : Obj) (c : Nat) (C : Addr), mg (nmS c) = some (.ref C) → XCl K C → Zc (.ref C) none oe → (∃ vs, oe.data = .fields vs) → ∀ (B : Hp) (cdv : Value) (A : Around) (outer : List Env) (s : Shared) (H : Hp) (E : XK),
      DSs (L2H.cxH (L2.CX P w) P w K mg base N qual (defScope st) f cdv A outer s H E (a, oe)) B (fun _ _ _ _ => False) (defBody st) (b a c)) : DefP P w K mg base (k + 1) x (fun a c => runB N.length (b a c)) := by
  refine ⟨f, fd, n, hb, hm, F.kp, fun a oe c C hC hx hz hf A outer s H args us vs Q E hr hpin e0 hbi r hsp => ?_⟩
  obtain ⟨oc, od, kV, doc, pm, an, cdv, ct, osl, rfl, lk, hcd⟩ := F.ex
  obtain ⟨rfl, F0, st0, f0, so0, q⟩ := hsp
  have KX : K.In s.heap := e0.mod.kin.keeps fun b o e => (e0.bs b o e).1
  have lim : s.heap.NoLimit := e0.mod.nolimit.keeps fun b o e => (e0.bs b o e).1
  have hkind : ∀ y ∈ [n].zip us, (defScope st).names.lookup y.1 = some .local ∨ ((defScope st).names.lookup y.1 = some .cell ∧ ((cellsFrom (s.heap.objs.size + 1) (defScope st).names []).lookup y.1).isSome = true) := fun ⟨y, v⟩ hy => by
    rcases S.par y (List.of_mem_zip hy).1 with q | q
    · exact .inl q
    · exact .inr ⟨q, PySem.W.cellsFrom_some _ _ _ (.inl q)⟩
  refine codeAny_call_function hr.depth (KX _ _ lk) rfl S.co S.gen rfl (PySem.W.codeRec_of KX hcd) (hbi _ _ _ _ ?_)
  refine wpAny_newFunctionEnv_cells S.kind hkind fun env he s1 y => ?_
  subst he
  refine ⟨lim.keeps y.toInCall.keep, codeAny_func ?_⟩
  have hN : 1 ≤ N.length := by have := congrArg List.length S.pre; rw [List.length_take] at this; simp at this; omega
  have ra : RpAll (⟨K, mg, w⟩ : Gx) F0 [V.ref a] [D.err a c] := .cons (.err a c) .nil
  have I : Inv (L2H.cxH (L2.CX P w) P w K mg base N qual (defScope st) f cdv A outer s H E (a, oe)) [] (L2.start N [.ref a]) H s1 := L2H.inv_startH S hpin e0 rfl r y
  have hq : liftS (⟨K, mg, w⟩ : Gx) (hid F0.m H) (fun _ _ _ _ => False) (b a c) { nx := fun _ H' => Q .non H', rt := Q } (L2.start N [.ref a]) H := by
    refine ⟨F0, _, st0, Ok.start f0 (hid_same _ _) so0 ra (by simpa using hN), ?_⟩
    unfold runB at q
    dsimp only at q
    revert q
    generalize b a c ([D.err a c].map Sl.d ++ List.replicate (N.length - [D.err a c].length) .no) st0 = r
    intro q
    cases r with
    | nx S1 st1 => exact fun σ' H' F' g o => q .non H' F' o.kp o.fH g o.so .non
    | ret d S1 st1 => exact fun v σ' H' F' g o rr => q v H' F' o.kp o.fH g o.so rr
    | exc y S1 st1 => exact q.elim
    | bk S1 st1 => exact q.elim
    | ct S1 st1 => exact q.elim
    | rto w1 S1 st1 => exact q.elim
    | stuck => exact q.elim
  refine wpAny_mono ((body a oe c C hC hx hz hf (hid F0.m H) cdv A outer s H E).run [] s1 (L2.start N [.ref a]) H _ I hq) (fun fl s' hs => ?_) fun e s' hs => hs
  have fin : ∀ {σ' : L2.St} {H' : Hp} {v : V} {u : Value}, Inv (L2H.cxH (L2.CX P w) P w K mg base N qual (defScope st) f cdv A outer s H E (a, oe)) [] σ' H' s' → RelV v u → Q v H' → CE outer P w H s Q u s' :=
    fun {σ' H' v u} J rv q => ⟨v, H', J.os, J.bare, J.base, J.hok, rv, q⟩
  cases fl with
  | ret u =>
    obtain ⟨v, σ', H', J, rv, q⟩ := hs
    exact fin J rv q
  | next =>
    obtain ⟨σ', H', J, q⟩ := hs
    exact fin (v := V.non) (u := Value.none) J rfl q
  | brk =>
    obtain ⟨_, _, _, q⟩ := hs
    exact False.elim q
  | cont =>
    obtain ⟨_, _, _, q⟩ := hs
    exact False.elim q
theorem DefP.mono {k j : Nat} {x : Str} {f : CallP} (d : DefP P w K mg base k x f) (h : k ≤ j) : DefP P w K mg base j x f := by
  obtain ⟨fa, fd, n, h1, h2, h3, h4⟩ := d.ex
  exact ⟨fa, fd, n, h1, h2, h3, fun a oe c C hC hx hz hf A outer s H args us vs Q E hr => h4 a oe c C hC hx hz hf A outer s H args us vs Q E (hr.mono h)⟩
end
/-- x(n), n in slot i the exception at a, of class c -/
def cPE (f : CallP) (a : Addr) (c i : Nat) : Ev D := fun S st => match S[i]? with
  | some (.d (.err a' c')) => if a' = a ∧ c' = c then (match f a c [.err a c] st with
    | .ok d _ st => .ok d S st
    | _ => .stuck) else .stuck
  | _ => .stuck
section
variable {X : Cx} {B : Hp} {W : WX} {pos p pe : Pos} {a C : Addr} {oe : Obj} {c i k : Nat} {x n : Str} {f : CallP}
theorem de_cP (d : DefP X.prog X.w X.K X.mg X.base k x f) (hr : L2H.RoomH k X.A) (hC : X.mg (nmS c) = some (.ref C)) (hx : XCl X.K C) (hz : Zc (.ref C) none oe) (hf : ∃ vs, oe.data = .fields vs) (hp : (a, oe) ∈ X.pn) (tk : Takes X (fun _ _ _ _ => False))
    (hn : PE X (.Name n pe) (tVar i)) (hg : Gl X x := by rfl) (hdb : (x == ("__debug__" : Str)) = false := by decide)
    (he : starEach [.Name n pe] X.env = (false, eval (.Name n pe) X.env) :: starEach [] X.env := by rfl) (hpl : (backTo pos (starEach [] X.env)).any (·.1) = false := by rfl) : DE X B W (.Call (.Name x p) [.Name n pe] [] pos) (cPE f a c i) := by
  obtain ⟨fa, fd, m, hb, hm, hk, F⟩ := d.ex
  refine ⟨fun pins s σ H Q I h => ?_⟩
  refine wpAny_Call_Name_kw (ld_glob I hg hm ?_ hdb)
  obtain ⟨F0, S, st, o, q⟩ := h
  unfold cPE at q
  split at q
  · rename_i a' c' hS
    split at q
    · rename_i hh
      obtain ⟨rfl, rfl⟩ := hh
      have ha : PA X [.Name n pe] _ := pa_cons hn pa_nil he
      refine PySem.W.callWith_K (h₀ := X.base) I.ok.mod.kin hk (thn (ha.run pos pins s σ H (fun vs H1 => vs = [.ref a'] ∧ H1 = H) I ⟨_, o.errSlot hS, rfl, rfl⟩) fun us s1 ⟨vs, H1, I1, r, q1⟩ => ⟨I1.kIn, ?_⟩) he hpl
      obtain ⟨rfl, rfl⟩ := q1
      obtain ⟨u1, rfl, r1⟩ : ∃ u1, us = [u1] ∧ RelV (.ref a') u1 := by
        cases r with
        | cons r1 r2 => cases r2; exact ⟨_, rfl, r1⟩
      have P1 := I1.pin (a', oe) (List.mem_append_left _ hp)
      have hpin : L2H.PinOk X.stack H1 s1 (a', oe) := ⟨P1.1, P1.2.1, fun hm => (List.mem_cons.mp (I1.stkSub a' hm)).elim P1.2.2.1 P1.2.2.2.1, P1.2.2.2.2⟩
      have b := hb s1 [u1] I1.kIn rfl
      rw [List.append_nil] at b
      refine wpAny_call (codeAny_mono (F a' oe c' C hC hx hz hf X.A X.stack s1 H1 ⟨[u1], []⟩ [u1] [.ref a'] Q (WE (fun _ _ _ _ => False) σ) hr hpin I1.env0 b r ⟨rfl, F0, st, o.fH, o.so.hid, ?_⟩) fun r s' hq => ?_)
      · revert q
        generalize f a' c' [.err a' c'] st = r'
        intro q
        cases r' with
        | ok d S1 st1 => exact fun v H' F' k g gr so rr => q v H' F' (o.back k g gr so).1 (o.back k g gr so).2 rr
        | exc y S1 st1 => exact q.elim
        | stuck => exact q.elim
      · cases r with
        | error e => exact passAt tk σ pins H1 s1 e s' I1 hq
        | ok fl =>
          cases fl with
          | ret u => exact I1.after hq
          | next => exact False.elim hq
          | brk => exact False.elim hq
          | cont => exact False.elim hq
    · exact q.elim
  · exact q.elim
end
/-! ### isinstance of a caught one, by names -/
def tgt (T : XTab) (t : Nat) : Bool := T.any fun r => r.2.1 == t
theorem tgt_ex {K : PySem.W.Frag} {mg : Str → Option Value} {T : XTab} (hT : XT K mg T) {t : Nat} (h : tgt T t = true) : ∃ Ct, mg (nmS t) = some (.ref Ct) ∧ HCl K Ct := by
  unfold tgt at h
  obtain ⟨⟨c, t', b⟩, hm, e⟩ := List.any_eq_true.mp h
  have e' : t' = t := by simpa using e
  subst e'
  obtain ⟨C, Ct, a1, a2, a3, a4, a5⟩ := hT.rows _ _ _ hm
  exact ⟨Ct, a2, a5⟩
theorem hnm_of {X : Cx} {T : XTab} (hT : XT X.K X.mg T) {h : Nat} {x : Str} (ht : tgt T h = true) (hx : nmS h = x) : HNm X h x := by
  obtain ⟨C, a, b⟩ := tgt_ex hT ht
  rw [hx] at a
  exact ⟨⟨C, a, b⟩, hx⟩
inductive TN (X : Cx) (T : XTab) : List Expr → List (Option Nat) → Prop
  | nil : TN X T [] []
  | ve {p : Pos} {es : List Expr} {ts : List (Option Nat)} : Gl X "ValueError" → TN X T es ts → TN X T (.Name "ValueError" p :: es) (none :: ts)
  | own {x : Str} {t : Nat} {p : Pos} {es : List Expr} {ts : List (Option Nat)} : Gl X x → (x == ("__debug__" : Str)) = false → nmS t = x → tgt T t = true → TN X T es ts → TN X T (.Name x p :: es) (some t :: ts)
section
variable {X : Cx} {B : Hp} {W : WX} {T : XTab}
theorem TN.all (hT : XT X.K X.mg T) : ∀ {es : List Expr} {ts : List (Option Nat)}, TN X T es ts → ∃ vs us, TNs X es ts vs ∧ TVs X.mg ts vs us ∧ vs.length = ts.length
  | _, _, .nil => ⟨[], [], .nil, .nil, rfl⟩
  | _, _, .ve hg r => by
    obtain ⟨vs, us, a, b, c⟩ := r.all hT
    exact ⟨_, _, .cons (pe_bltn (v := .ty "ValueError") (u := .type "ValueError") hg hT.ve rfl rfl) rfl a, .ve b, by simp [c]⟩
  | _, _, .own hg hd hx ht r => by
    obtain ⟨vs, us, a, b, c⟩ := r.all hT
    obtain ⟨Ct, m, h⟩ := tgt_ex hT ht
    have m' := m
    rw [hx] at m
    exact ⟨_, _, .cons (pe_glob (v := .ref Ct) (u := .ref Ct) hg m rfl hd) rfl a, .own m' b, by simp [c]⟩
variable {a C : Addr} {oe : Obj} {cx : Nat} {pos p pe p2 : Pos}
theorem de_isI1 {i : Nat} {n : Str} {t : Option Nat} {e : Expr} (hT : XT X.K X.mg T) (hp : (a, oe) ∈ X.pn) (hz : Zc (.ref C) none oe) (hf : ∃ vs, oe.data = .fields vs) (hC : X.mg (nmS cx) = some (.ref C)) (hx : XCl X.K C) (hi : X.mg "isinstance" = none)
    (hn : PE X (.Name n pe) (tVar i)) (he : TN X T [e] [t]) (hg : Gl X "isinstance" := by rfl)
    (hs : starEach [.Name n pe, e] X.env = (false, eval (.Name n pe) X.env) :: starEach [e] X.env := by rfl) (hpl : (backTo pos (starEach [e] X.env)).any (·.1) = false := by rfl) : DE X B W (.Call (.Name "isinstance" p) [.Name n pe, e] [] pos) (isE T a cx [t] i) := by
  obtain ⟨vs, us, h1, h2, h3⟩ := he.all hT
  cases h1 with
  | cons h1 hs2 r =>
    cases r
    cases h2 with
    | ve r => cases r; exact de_isE1 hT hp hz hf hC hx hi hn h1 (.ve .nil) hg hs hs2 hpl
    | own m r => cases r; exact de_isE1 hT hp hz hf hC hx hi hn h1 (.own m .nil) hg hs hs2 hpl
theorem de_isIT {i : Nat} {n : Str} {ts : List (Option Nat)} {es : List Expr} {x1} (hT : XT X.K X.mg T) (hp : (a, oe) ∈ X.pn) (hz : Zc (.ref C) none oe) (hf : ∃ vs, oe.data = .fields vs) (hC : X.mg (nmS cx) = some (.ref C)) (hx : XCl X.K C) (hi : X.mg "isinstance" = none)
    (hn : PE X (.Name n pe) (tVar i)) (he : TN X T es ts) (hl : ts.length ≤ 1000 := by decide) (hg : Gl X "isinstance" := by rfl)
    (hs : starEach [.Name n pe, .Tuple es x1 p2] X.env = (false, eval (.Name n pe) X.env) :: starEach [.Tuple es x1 p2] X.env := by rfl) (hs2 : starEach [.Tuple es x1 p2] X.env = (false, eval (.Tuple es x1 p2) X.env) :: starEach [] X.env := by rfl) (hpl : (backTo pos (starEach [.Tuple es x1 p2] X.env)).any (·.1) = false := by rfl) : DE X B W (.Call (.Name "isinstance" p) [.Name n pe, .Tuple es x1 p2] [] pos) (isE T a cx ts i) := by
  obtain ⟨vs, us, h1, h2, h3⟩ := he.all hT
  exact de_isET hT hp hz hf hC hx hi hn h1 h2 (by omega) hg hs hs2 hpl
end
end DL

namespace DL
open PySem PySem.Spec PyProof.Rows L2

theorem OpR.or {X : Cx} {f : Value → Value → Sem Value} {r r' : R2} (h : OpR X f r) (h' : OpR X f r') : OpR X f (fun x y H Q => r x y H Q ∨ r' x y H Q) := by
  intro pins s σ H x y v u Q I rx ry q
  rcases q with q | q
  · exact h pins s σ H x y v u Q I rx ry q
  · exact h' pins s σ H x y v u Q I rx ry q
theorem CallR.or {X : Cx} {f : Value} {r r' : List V → Hp → VK → Prop} (h : CallR X f r) (h' : CallR X f r') : CallR X f (fun x H Q => r x H Q ∨ r' x H Q) := by
  intro pins s σ H xs us Q I rs q
  rcases q with q | q
  · exact h pins s σ H xs us Q I rs q
  · exact h' pins s σ H xs us Q I rs q

/-! ### data, seen -/
section
variable {G : Gx} {F : Fz} {H : Hp} {v : V} {d : D}
theorem Vw.int_eq {i : Int} (h : Vw G F H v (.int i)) : v = .int i := by
  rcases h with h | ⟨_, _, w, _, _, _, e⟩ | ⟨_, _, _, e1x, _, e3⟩
  · cases h; rfl
  · cases w <;> cases e
  · first | (cases e3; done) | (subst e1x e3; rfl) | (subst e3; cases e; done) | (subst e3; simp_all; done) | (subst e3; contradiction)
theorem Vw.bl_eq {i : Bool} (h : Vw G F H v (.bl i)) : v = .bl i := by
  rcases h with h | ⟨_, _, w, _, _, _, e⟩ | ⟨_, _, _, e1x, _, e3⟩
  · cases h; rfl
  · cases w <;> cases e
  · first | (cases e3; done) | (subst e1x e3; rfl) | (subst e3; cases e; done) | (subst e3; simp_all; done) | (subst e3; contradiction)
theorem Vw.non_eq (h : Vw G F H v .non) : v = .non := by
  rcases h with h | ⟨_, _, w, _, _, _, e⟩ | ⟨_, _, _, e1x, _, e3⟩
  · cases h; rfl
  · cases w <;> cases e
  · first | (cases e3; done) | (subst e1x e3; rfl) | (subst e3; cases e; done) | (subst e3; simp_all; done) | (subst e3; contradiction)
theorem Vw.ty_eq {n : String} (h : Vw G F H v (.ty n)) : v = .ty n := by
  rcases h with h | ⟨_, _, w, _, _, _, e⟩ | ⟨_, _, _, e1x, _, e3⟩
  · cases h; rfl
  · cases w <;> cases e
  · first | (cases e3; done) | (subst e1x e3; rfl) | (subst e3; cases e; done) | (subst e3; simp_all; done) | (subst e3; contradiction)
theorem Vw.str_eq {s : List Nat} (h : Vw G F H v (.str s)) : v = .str (tx s) ∧ okS s = true := by
  rcases h with h | ⟨_, _, w, _, _, _, e⟩ | ⟨_, _, _, e1x, _, e3⟩
  · cases h with | str _ o => exact ⟨rfl, o⟩
  · cases w <;> cases e
  · first | (cases e3; done) | (subst e1x e3; rfl) | (subst e3; cases e; done) | (subst e3; simp_all; done) | (subst e3; contradiction)
def asL : D → Option (List D)
  | .lst ds => some ds
  | .scr ns => some (ns.map .int)
  | _ => none
theorem Vw.seqL {ds : List D} (h : Vw G F H v d) (f : Same F.f H) (e : asL d = some ds) : ∃ p xs, v = .ref p ∧ SqL G.K H p xs ∧ RpAll G F xs ds := by
  rcases h with h | ⟨p, u, w, rfl, hp, ow, rfl⟩ | ⟨_, _, _, e1x, _, e3⟩
  · cases h with
    | lst h1 h2 => cases e; exact ⟨_, _, rfl, .inl (.inl (f _ _ h1)), h2⟩
    | scr h1 => cases e; exact ⟨_, _, rfl, f.seq h1, rp_ints G F _⟩
    | _ => cases e
  · cases ow with
    | l r => cases e; exact ⟨_, _, rfl, .inl (.inl hp), r⟩
    | _ => cases e
  · first | (cases e3; done) | (subst e1x e3; rfl) | (subst e3; cases e; done) | (subst e3; simp_all; done) | (subst e3; contradiction)
theorem Vw.lst {ds : List D} (h : Vw G F H v (.lst ds)) (f : Same F.f H) : ∃ p xs, v = .ref p ∧ H p = some (.lst xs) ∧ RpAll G F xs ds := by
  rcases h with h | ⟨p, u, w, rfl, hp, ow, e⟩ | ⟨_, _, _, e1x, _, e3⟩
  · cases h with
    | lst h1 h2 => exact ⟨_, _, rfl, f _ _ h1, h2⟩
  · cases ow with
    | l r => cases e; exact ⟨_, _, rfl, hp, r⟩
    | _ => cases e
  · first | (cases e3; done) | (subst e1x e3; rfl) | (subst e3; cases e; done) | (subst e3; simp_all; done) | (subst e3; contradiction)
theorem Vw.tup {ds : List D} (h : Vw G F H v (.tup ds)) (f : Same F.f H) : ∃ p xs, v = .ref p ∧ SqT G.K H p xs ∧ RpAll G F xs ds := by
  rcases h with h | ⟨p, u, w, rfl, hp, ow, e⟩ | ⟨_, _, _, e1x, _, e3⟩
  · cases h with
    | tup h1 h2 => exact ⟨_, _, rfl, same_seqT f h1, h2⟩
  · cases w <;> cases e
  · first | (cases e3; done) | (subst e1x e3; rfl) | (subst e3; cases e; done) | (subst e3; simp_all; done) | (subst e3; contradiction)
theorem Vw.tup' {ds : List D} (h : Vw G F H v (.tup ds)) : Rp G F v (.tup ds) := by
  rcases h with h | ⟨p, u, w, rfl, hp, ow, e⟩ | ⟨_, _, _, e1x, _, e3⟩
  · exact h
  · cases w <;> cases e
  · first | (cases e3; done) | (subst e1x e3; rfl) | (subst e3; cases e; done) | (subst e3; simp_all; done) | (subst e3; contradiction)
theorem gives_v {r : VK → Prop} (rp : Rp G F v d) (f : Same F.f H) (h : ∀ Q : VK, Q v H → r Q) : Gives r G F H d := fun Q k => h Q (k v H F (Same.refl H) f .refl rp)
theorem gives_tup {r : VK → Prop} {xs : List V} {ds : List D} (rp : RpAll G F xs ds) (f : Same F.f H) (h : ∀ Q : VK, (∀ p, H p = none → Q (.ref p) (upd H p (.tup xs))) → r Q) : Gives r G F H (.tup ds) := fun Q k => h Q fun p hp =>
  k _ _ (upd F.f p (.tup xs)) (same_new hp) (same_upd2 f) (gr_new f hp) (.tup (.inl (.inl upd_same)) (rp.mono (.up (gr_new (o := .tup xs) f hp).1)))
theorem lays_l {r : VK → Prop} {xs : List V} {ds : List D} (rp : RpAll G F xs ds) (h : ∀ Q : VK, (∀ p, H p = none → Q (.ref p) (upd H p (.lst xs))) → r Q) : Lays r G F H (.l ds) := fun Q k => h Q fun p hp => k p _ hp (.l rp)
theorem gives_lst {r : VK → Prop} {xs : List V} {ds : List D} (rp : RpAll G F xs ds) (f : Same F.f H) (h : ∀ Q : VK, (∀ p, H p = none → Q (.ref p) (upd H p (.lst xs))) → r Q) : Gives r G F H (.lst ds) := (lays_l rp h).gives f
end
section
variable {G : Gx} {X : Cx}

/-! ### numbers -/
def dI2 (c : Int → Int → Bool) (g : Int → Int → Int) : D → D → Option D
  | .int i, .int j => if c i j = true then some (.int (g i j)) else none
  | _, _ => none
theorem op2_I {C : Int → Int → Prop} {c : Int → Int → Bool} {g : Int → Int → Int} (hc : ∀ i j, c i j = true → C i j) : Op2 G (rI C fun i j => .int (g i j)) (dI2 c g) := fun F H v w x y d f hv hw e => by
  unfold dI2 at e
  split at e
  · split at e
    · rename_i i j h
      cases e
      cases hv.int_eq; cases hw.int_eq
      exact gives_v (.int _) f fun Q q => ⟨i, j, rfl, rfl, hc i j h, q⟩
    · cases e
  · cases e
def dI0 (g : Int → Int → Int) : D → D → Option D
  | .int i, .int j => some (.int (g i j))
  | _, _ => none
theorem op2_I0 {g : Int → Int → Int} : Op2 G (rI0 fun i j => .int (g i j)) (dI0 g) := fun F H v w x y d f hv hw e => by
  unfold dI0 at e
  split at e
  · cases e
    cases hv.int_eq; cases hw.int_eq
    exact gives_v (.int _) f fun Q q => ⟨_, _, rfl, rfl, q⟩
  · cases e
def dSub := dI0 fun i j => i - j
theorem op_dSub : Op2 G (rI0 fun i j => .int (i - j)) dSub := op2_I0
/-- a bound for a product -/
def mulC (i j : Int) : Bool := decide (i.natAbs.log2 + j.natAbs.log2 < 100000000)
theorem mulC_ok {i j : Int} (h : mulC i j = true) : CMulX i j := by
  have h := of_decide_eq_true h
  have b : ∀ x : Int, Builtin.Int.intBits x ≤ x.natAbs.log2 + 1 := fun x => by
    unfold Builtin.Int.intBits
    split <;> omega
  have h1 := b i
  have h2 := b j
  unfold CMulX
  omega
def dFdiv := dI2 (fun _ j => decide (0 < j) && decide (j.natAbs.log2 < 9000)) fun i j => i / j
theorem op_dFdiv : Op2 G (rI CDivW fun i j => .int (i / j)) dFdiv := op2_I fun i j h => by
  rw [Bool.and_eq_true] at h
  exact ⟨of_decide_eq_true h.1, of_decide_eq_true h.2⟩
def dMod := dI2 (fun _ j => decide (0 < j)) fun i j => i % j
theorem op_dMod : Op2 G (rI (fun _ j => 0 < j) fun i j => .int (i % j)) dMod := op2_I fun i j h => of_decide_eq_true h
/-- ** with a small base, or of few bits in all -/
def CPowW (i j : Int) : Prop := 0 ≤ j ∧ (Builtin.Int.intBits i : Int) * j ≤ 2 ^ 27
theorem op_powW {X : Cx} : OpR X (binaryOp .Pow) (rI CPowW fun i j => .int (i ^ j.toNat)) := opI fun _ _ _ _ _ _ _ hc q => pow_int hc.1 hc.2 q
def dPow := dI2 (fun i j => decide (0 ≤ j) && (decide (j ≤ 1000000) && decide (i.natAbs < 18446744073709551616) || decide (((i.natAbs.log2 + 1 : Nat) : Int) * j ≤ 134217728))) fun i j => i ^ j.toNat
theorem op_dPow : Op2 G (rI CPowW fun i j => .int (i ^ j.toNat)) dPow := op2_I fun i j h => by
  rw [Bool.and_eq_true, Bool.or_eq_true, Bool.and_eq_true] at h
  have h0 := of_decide_eq_true h.1
  refine ⟨h0, ?_⟩
  rcases h.2 with h | h
  · have h1 := of_decide_eq_true h.1
    have h2 := of_decide_eq_true h.2
    exact bits_mul_le (a := i) (by omega) h0 h1
  · have h := of_decide_eq_true h
    have b : (Builtin.Int.intBits i : Int) ≤ ((i.natAbs.log2 + 1 : Nat) : Int) := by
      unfold Builtin.Int.intBits
      split <;> omega
    exact Int.le_trans (Int.mul_le_mul_of_nonneg_right b h0) h
def dShr := dI2 (fun _ j => decide (0 ≤ j)) fun i j => i / 2 ^ j.toNat
theorem op_dShr : Op2 G (rI (fun _ j => 0 ≤ j) fun i j => .int (i / 2 ^ j.toNat)) dShr := op2_I fun i j h => of_decide_eq_true h
def dShl := dI2 (fun i j => decide (0 ≤ j) && decide (i.natAbs.log2 + j < 100000000)) fun i j => i * 2 ^ j.toNat
theorem op_dShl : Op2 G (rI CShl fun i j => .int (i * 2 ^ j.toNat)) dShl := op2_I fun i j h => by
  rw [Bool.and_eq_true] at h
  have h1 := of_decide_eq_true h.1
  have h2 := of_decide_eq_true h.2
  have b : Builtin.Int.intBits i ≤ i.natAbs.log2 + 1 := by
    unfold Builtin.Int.intBits
    split <;> omega
  exact ⟨h1, by omega⟩
def dAnd := dI0 Builtin.bitAnd
theorem op_dAnd : Op2 G (rI0 fun i j => .int (Builtin.bitAnd i j)) dAnd := op2_I0
def dOr := dI0 Builtin.bitOr
theorem op_dOr : Op2 G (rI0 fun i j => .int (Builtin.bitOr i j)) dOr := op2_I0
def dXor := dI0 Builtin.bitXor
theorem op_dXor : Op2 G (rI0 fun i j => .int (Builtin.bitXor i j)) dXor := op2_I0
def dNeg : D → Option D
  | .int i => some (.int (-i))
  | _ => none
theorem op_dNeg : Op1 G (rU fun i => .int (-i)) dNeg := fun F H v x d f hv e => by
  unfold dNeg at e
  split at e
  · cases e; cases hv.int_eq
    exact gives_v (.int _) f fun Q q => ⟨_, rfl, q⟩
  · cases e

/-! ### +, * of several kinds -/
def rAddS : R2 := fun x y H Q => ∃ i j, x = .str i ∧ y = .str j ∧ i.length + j.length ≤ sizeLine ∧ Q (.str (i ++ j)) H
def rAddD (K : PySem.W.Frag) : R2 := fun x y H Q => rI0 (fun i j => .int (i + j)) x y H Q ∨ rAddS x y H Q ∨ rCat x y H Q ∨ rCatA K x y H Q
theorem opR_add : OpR X (binaryOp .Add) (rAddD X.K) := OpR.or op_add (OpR.or op_add_str (OpR.or op_cat op_catA))
def dAdd : D → D → Option D
  | .int i, .int j => some (.int (i + j))
  | .str s, .str t => if s.length + t.length ≤ 16777216 then some (.str (s ++ t)) else none
  | .lst s, .lst t => if s.length + t.length ≤ 16777216 then some (.lst (s ++ t)) else none
  | .tup s, .tup t => if s.length + t.length ≤ 16777216 then some (.tup (s ++ t)) else none
  | _, _ => none
theorem op_dAdd : Op2 G (rAddD G.K) dAdd := fun F H v w x y d f hv hw e => by
  unfold dAdd at e
  split at e
  · cases e
    cases hv.int_eq; cases hw.int_eq
    exact gives_v (.int _) f fun Q q => .inl ⟨_, _, rfl, rfl, q⟩
  · split at e
    · rename_i h
      cases e
      obtain ⟨rfl, o1⟩ := hv.str_eq
      obtain ⟨rfl, o2⟩ := hw.str_eq
      exact gives_v (.str _ (okS_app o1 o2)) f fun Q q => .inr (.inl ⟨_, _, rfl, rfl, by rw [tx_len, tx_len, sizeLine_eq]; exact h, by rw [tx_app]; exact q⟩)
    · cases e
  · split at e
    · rename_i h
      cases e
      obtain ⟨p, xs, rfl, h1, r1⟩ := hv.lst f
      obtain ⟨q, ys, rfl, h2, r2⟩ := hw.lst f
      exact gives_lst (r1.append r2) f fun Q q => .inr (.inr (.inl ⟨_, _, _, _, rfl, rfl, h1, h2, by rw [r1.length, r2.length, sizeLine_eq]; exact h, q⟩))
    · cases e
  · split at e
    · rename_i h
      cases e
      obtain ⟨p, xs, rfl, h1, r1⟩ := hv.tup f
      obtain ⟨q, ys, rfl, h2, r2⟩ := hw.tup f
      have l1 := r1.length
      have l2 := r2.length
      intro Q k
      refine .inr (.inr (.inr ⟨_, _, _, _, rfl, rfl, h1, h2, by rw [l1, l2, sizeLine_eq]; exact h, fun e => ?_, fun e1 e2 => ?_, fun _ _ => ?_⟩))
      · subst e
        cases r1
        exact k _ _ F (Same.refl H) f .refl hw.tup'
      · subst e2
        cases r2
        rw [List.append_nil] at k
        exact k _ _ F (Same.refl H) f .refl hv.tup'
      · exact fun p hp => gives_tup (r := fun Q => ∀ p, H p = none → Q (.ref p) (upd H p (.tup (xs ++ ys)))) (r1.append r2) f (fun Q q => q) Q k p hp
    · cases e
  · cases e
/-- .. as a new list -/
def dAddF : D → D → Option Ow
  | .lst s, .lst t => if s.length + t.length ≤ 16777216 then some (.l (s ++ t)) else none
  | _, _ => none
theorem op_dAddF : Op2F G (rAddD G.K) dAddF := fun F H v w x y d f hv hw e => by
  unfold dAddF at e
  split at e
  · split at e
    · rename_i h
      cases e
      obtain ⟨p, xs, rfl, h1, r1⟩ := hv.lst f
      obtain ⟨q, ys, rfl, h2, r2⟩ := hw.lst f
      exact lays_l (r1.append r2) fun Q q => .inr (.inr (.inl ⟨_, _, _, _, rfl, rfl, h1, h2, by rw [r1.length, r2.length, sizeLine_eq]; exact h, q⟩))
    · cases e
  · cases e
/-- n copies, one behind the other -/
def reps {α : Type} (s : List α) (n : Nat) : List α := (List.replicate n s).flatten
def rMulS : R2 := fun x y H Q => ∃ s k, x = .str s ∧ y = .int k ∧ MulOk s k ∧ Q (.str (Txt.mul s k)) H
theorem op_mulS : OpR X (binaryOp .Mult) rMulS := by
  intro pins s σ H x y v u Q I rx ry h
  obtain ⟨z, k, rfl, rfl, hk, q⟩ := h
  obtain ⟨t, rfl⟩ := rx
  obtain ⟨t', rfl⟩ := ry
  exact SB.mul hk fun t2 k2 => ⟨.str _, H, I.tok _, ⟨_, rfl⟩, q⟩
def rMulD : R2 := fun x y H Q => rI CMulX (fun i j => .int (i * j)) x y H Q ∨ rMulS x y H Q ∨ rRep x y H Q
theorem opR_mul : OpR X (binaryOp .Mult) rMulD := OpR.or op_mulX (OpR.or op_mulS op_rep)
theorem foldl_app (x : Array Nat) : ∀ (n : Nat) (a : Array Nat), ((List.replicate n x).foldl (· ++ ·) a).toList = a.toList ++ reps x.toList n
  | 0, a => by simp [reps]
  | n + 1, a => by
    rw [List.replicate_succ, List.foldl_cons, foldl_app x n]
    simp [reps, List.replicate_succ]
theorem mul_reps (s : List Nat) (n : Int) : Txt.mul (tx s) n = tx (reps s n.toNat) := by
  unfold Txt.mul
  split
  · rename_i h
    have : n.toNat = 0 := by omega
    rw [this]; rfl
  · split
    · rename_i h1 h2
      rw [Bool.or_eq_true] at h2
      rcases h2 with h2 | h2
      · have : n = 1 := by simpa using h2
        subst this
        simp [reps, tx]
      · have : s = [] := by
          rw [tx_len] at h2
          exact List.eq_nil_of_length_eq_zero (by simpa using h2)
        subst this
        simp [reps, tx]
    · have e : ((List.replicate n.toNat (tx s).cps).foldl (· ++ ·) #[]).toList = reps s n.toNat := by
        rw [foldl_app]; simp [tx]
      rw [← e]
      simp [tx]
theorem okS_reps {s : List Nat} (h : okS s = true) (n : Nat) : okS (reps s n) = true := okS_sub h fun c m => by
  unfold reps at m
  obtain ⟨l, h1, h2⟩ := List.mem_flatten.mp m
  rw [(List.mem_replicate.mp h1).2] at h2
  exact h2
theorem RpAll.reps {G : Gx} {F : Fz} {xs : List V} {ds : List D} (r : RpAll G F xs ds) : ∀ n : Nat, RpAll G F (List.replicate n xs).flatten (DL.reps ds n)
  | 0 => .nil
  | n + 1 => by
    rw [List.replicate_succ, List.flatten_cons]
    unfold DL.reps
    rw [List.replicate_succ, List.flatten_cons]
    exact r.append (RpAll.reps r n)
def dMul : D → D → Option D
  | .int i, .int j => if mulC i j = true then some (.int (i * j)) else none
  | .str s, .int k => if decide (0 ≤ k) && decide (k ≤ 1000000) && decide (s.length * k.toNat ≤ 1000000) then some (.str (reps s k.toNat)) else none
  | .lst s, .int k => if decide (0 ≤ k) && decide (k ≤ 1000000) && decide (s.length * k.toNat ≤ 1000000) then some (.lst (reps s k.toNat)) else none
  | _, _ => none
theorem mulOk_of {s : List Nat} {k : Int} (h0 : 0 ≤ k) (h1 : k ≤ 1000000) (h2 : s.length * k.toNat ≤ 1000000) : MulOk (tx s) k := by
  refine ⟨?_, fun a b => ?_, fun a b => ?_⟩
  · rw [decide_eq_false (by omega), decide_eq_false (by omega)]; rfl
  · rw [tx_len]
    have hk : 0 < k.toNat := by omega
    have hs : s.length ≤ 1000000 := Nat.le_trans (Nat.le_mul_of_pos_right _ hk) h2
    have : (1000000 : Int) ≤ (2 ^ 63 - 1) / k := by
      refine (Int.le_ediv_iff_mul_le (by omega)).mpr ?_
      have : (1000000 : Int) * k ≤ 1000000 * 1000000 := Int.mul_le_mul_of_nonneg_left h1 (by decide)
      omega
    omega
  · rw [tx_len]
    unfold Builtin.Str.tooLong
    have := sizeLine_eq
    simp
    omega
theorem op_dMul : Op2 G rMulD dMul := fun F H v w x y d f hv hw e => by
  unfold dMul at e
  split at e
  · split at e
    · rename_i h
      cases e
      cases hv.int_eq; cases hw.int_eq
      exact gives_v (.int _) f fun Q q => .inl ⟨_, _, rfl, rfl, mulC_ok h, q⟩
    · cases e
  · split at e
    · rename_i h
      cases e
      obtain ⟨rfl, o1⟩ := hv.str_eq
      cases hw.int_eq
      rw [Bool.and_eq_true, Bool.and_eq_true, decide_eq_true_eq, decide_eq_true_eq, decide_eq_true_eq] at h
      exact gives_v (.str _ (okS_reps o1 _)) f fun Q q => .inr (.inl ⟨_, _, rfl, rfl, mulOk_of h.1.1 h.1.2 h.2, by rw [mul_reps]; exact q⟩)
    · cases e
  · split at e
    · rename_i h
      cases e
      obtain ⟨p, xs, rfl, h1, r1⟩ := hv.lst f
      cases hw.int_eq
      rw [Bool.and_eq_true, Bool.and_eq_true, decide_eq_true_eq, decide_eq_true_eq, decide_eq_true_eq] at h
      have l1 := r1.length
      exact gives_lst (r1.reps _) f fun Q q => .inr (.inr ⟨_, _, _, rfl, rfl, h1, by omega, by omega, by rw [l1, sizeLine_eq]; omega, q⟩)
    · cases e
  · cases e
end
end DL

namespace DL
open PySem PySem.Spec PyProof.Rows L2

/-! ### == -/
mutual
def toPy : D → PyData
  | .non => .none
  | .bl b => .bool b
  | .int i => .int i
  | .str s => .str (tx s)
  | .lst ds => .list (toPys ds)
  | .tup ds => .tuple (toPys ds)
  | .scr ns => .list (ns.map .int)
  | .dic _ => .dict []
  | .obj _ _ => .dict []
  | .ty _ => .dict []
  | .err _ _ => .dict []
  | .loc _ => .dict []
def toPys : List D → List PyData
  | [] => []
  | d :: r => toPy d :: toPys r
end
mutual
/-- None, truths, numbers, texts, lists and tuples of them -/
def pureD : D → Bool
  | .lst ds => pureDs ds
  | .tup ds => pureDs ds
  | .dic _ => false
  | .obj _ _ => false
  | .ty _ => false
  | .err _ _ => false
  | .loc _ => false
  | _ => true
def pureDs : List D → Bool
  | [] => true
  | d :: r => pureD d && pureDs r
end
mutual
def depD : D → Nat
  | .lst ds => depDs ds + 1
  | .tup ds => depDs ds + 1
  | .scr _ => 1
  | _ => 0
def depDs : List D → Nat
  | [] => 0
  | d :: r => max (depD d) (depDs r)
end
def deq (a b : D) : Bool := PyData.eqv (toPy a) (toPy b)
def deqs (a b : List D) : Bool := PyData.eqvAll (toPys a) (toPys b)
section
variable {G : Gx} {F : Fz} {H : Hp}
theorem lay_ints : ∀ ns : List Int, PyData.canLayAll0 (ns.map .int) = true
  | [] => rfl
  | n :: r => by simp [PyData.canLayAll0, PyData.canLay0, lay_ints r]
theorem dep_ints : ∀ ns : List Int, PyData.depthAll (ns.map .int) = 0
  | [] => rfl
  | n :: r => by simp [PyData.depthAll, PyData.depth, dep_ints r]
theorem strOk_of {s : List Nat} (h : okS s = true) : PyData.strOk (tx s) = true := by
  unfold PyData.strOk tx okS at *
  simpa using h
mutual
theorem depth_toPy : ∀ d : D, PyData.depth (toPy d) ≤ depD d ∨ pureD d = false
  | .non => .inl (by simp [toPy, PyData.depth])
  | .bl b => .inl (by simp [toPy, PyData.depth])
  | .int i => .inl (by simp [toPy, PyData.depth])
  | .str s => .inl (by simp [toPy, PyData.depth])
  | .lst ds => by
    rcases depth_toPys ds with h | h
    · exact .inl (by simp [toPy, PyData.depth, depD]; exact h)
    · exact .inr (by simp [pureD, h])
  | .tup ds => by
    rcases depth_toPys ds with h | h
    · exact .inl (by simp [toPy, PyData.depth, depD]; exact h)
    · exact .inr (by simp [pureD, h])
  | .scr ns => .inl (by simp [toPy, PyData.depth, depD, dep_ints])
  | .dic _ => .inr (by simp [pureD])
  | .obj _ _ => .inr (by simp [pureD])
  | .ty _ => .inr (by simp [pureD])
  | .err _ _ => .inr (by simp [pureD])
  | .loc _ => .inr (by simp [pureD])
theorem depth_toPys : ∀ ds : List D, PyData.depthAll (toPys ds) ≤ depDs ds ∨ pureDs ds = false
  | [] => .inl (by simp [toPys, PyData.depthAll])
  | d :: r => by
    rcases depth_toPy d with h | h
    · rcases depth_toPys r with h' | h'
      · exact .inl (by simp [toPys, PyData.depthAll, depDs]; omega)
      · exact .inr (by simp [pureDs, h'])
    · exact .inr (by simp [pureDs, h])
end
mutual
theorem Rp.dp (e : Same F.f H) : ∀ {v : V} {d : D}, Rp G F v d → pureD d = true → Dp G.K H v (toPy d) ∧ PyData.canLay0 (toPy d) = true
  | _, _, .non, _ => ⟨by simp [toPy]; exact .non, by simp [toPy, PyData.canLay0]⟩
  | _, _, .bl b, _ => ⟨by simp [toPy]; exact .bl b, by simp [toPy, PyData.canLay0]⟩
  | _, _, .int i, _ => ⟨by simp [toPy]; exact .int i, by simp [toPy, PyData.canLay0]⟩
  | _, _, .str x h, _ => ⟨by simp [toPy]; exact .str _, by simp [toPy, PyData.canLay0, strOk_of h]⟩
  | _, _, .lst h t, p => by
    obtain ⟨h1, h2⟩ := RpAll.dp e t (by simpa [pureD] using p)
    exact ⟨by simp [toPy]; exact .lst (.inl (.inl (e _ _ h))) h1, by simp [toPy, PyData.canLay0, h2]⟩
  | _, _, .tup h t, p => by
    obtain ⟨h1, h2⟩ := RpAll.dp e t (by simpa [pureD] using p)
    exact ⟨by simp [toPy]; exact .tup (same_seqT e h) h1, by simp [toPy, PyData.canLay0, h2]⟩
  | _, _, .scr (ns := ns) h, p => by
    have : ∀ ns : List Int, DpAll G.K H (ns.map V.int) (ns.map PyData.int) := fun ns => by
      induction ns with
      | nil => exact .nil
      | cons n r ih => exact .cons (.int n) ih
    exact ⟨by simp only [toPy]; exact .lst (e.seq h) (this ns), by simp [toPy, PyData.canLay0, lay_ints]⟩
  | _, _, .dicK _ _, p => by simp [pureD] at p
  | _, _, .obj _ _ _ _, p => by simp [pureD] at p
  | _, _, .err _ _, p => by simp [pureD] at p
  | _, _, .loc _, p => by simp [pureD] at p
  | _, _, .ty _, p => by simp [pureD] at p
theorem RpAll.dp (e : Same F.f H) : ∀ {vs : List V} {ds : List D}, RpAll G F vs ds → pureDs ds = true → DpAll G.K H vs (toPys ds) ∧ PyData.canLayAll0 (toPys ds) = true
  | _, _, .nil, _ => ⟨by simp [toPys]; exact .nil, by simp [toPys, PyData.canLayAll0]⟩
  | _, _, .cons h t, p => by
    simp [pureDs] at p
    obtain ⟨h1, h2⟩ := Rp.dp e h p.1
    obtain ⟨h3, h4⟩ := RpAll.dp e t p.2
    exact ⟨by simp [toPys]; exact .cons h1 h3, by simp [toPys, PyData.canLayAll0, h2, h4]⟩
end
def eqOk (d : D) : Bool := pureD d && decide (depD d ≤ 60)
theorem Vw.dp {v : V} {d : D} (h : Vw G F H v d) (e : Same F.f H) (p : eqOk d = true) : Dp G.K H v (toPy d) ∧ SeqAt.shaped (toPy d) = true := by
  unfold eqOk at p
  rw [Bool.and_eq_true, decide_eq_true_eq] at p
  have dp : PyData.depth (toPy d) ≤ depD d := (depth_toPy d).resolve_right (by rw [p.1]; simp)
  have fin : PyData.canLay0 (toPy d) = true → SeqAt.shaped (toPy d) = true := fun h => by
    unfold SeqAt.shaped
    rw [h, decide_eq_true (by omega)]; rfl
  rcases h with h | ⟨q, u, w, rfl, hp, ow, rfl⟩ | ⟨_, _, _, e1x, _, e3⟩
  · obtain ⟨a, b⟩ := h.dp e p.1
    exact ⟨a, fin b⟩
  · cases ow with
    | l r =>
      obtain ⟨h1, h2⟩ := r.dp e (by simpa [Ow.d, pureD] using p.1)
      exact ⟨by simp [Ow.d, toPy]; exact .lst (.inl (.inl hp)) h1, fin (by simp [Ow.d, toPy, PyData.canLay0, h2])⟩
    | _ => simp [Ow.d, pureD] at p
  · first | (cases e3; done) | (subst e1x e3; rfl) | (subst e3; cases e; done) | (subst e3; simp_all; done) | (subst e3; contradiction)
end
def dEq (a b : D) : Option D := if eqOk a = true ∧ eqOk b = true then some (.bl (deq a b)) else none
def dNe (a b : D) : Option D := if eqOk a = true ∧ eqOk b = true then some (.bl (!deq a b)) else none
section
variable {G : Gx} {X : Cx}
theorem op_dEq : Op2 G (rEqD G.K) dEq := fun F H v w x y d f hv hw e => by
  unfold dEq at e
  split at e
  · rename_i h
    cases e
    obtain ⟨a, b⟩ := hv.dp f h.1
    obtain ⟨a', b'⟩ := hw.dp f h.2
    exact gives_v (.bl _) f fun Q q => ⟨_, _, a, a', b, b', q⟩
  · cases e
theorem op_dNe : Op2 G (rNeD G.K) dNe := fun F H v w x y d f hv hw e => by
  unfold dNe at e
  split at e
  · rename_i h
    cases e
    obtain ⟨a, b⟩ := hv.dp f h.1
    obtain ⟨a', b'⟩ := hw.dp f h.2
    exact gives_v (.bl _) f fun Q q => ⟨_, _, a, a', b, b', q⟩
  · cases e

/-! ### order -/
def dCmp (p : Int → Int → Bool) (q : List Nat → List Nat → Bool) : D → D → Option D
  | .int i, .int j => some (.bl (p i j))
  | .str s, .str t => some (.bl (q s t))
  | _, _ => none
def rCmp (p : Int → Int → Bool) (q : List Nat → List Nat → Bool) : R2 := fun x y H Q => rI0 (fun i j => .bl (p i j)) x y H Q ∨ (∃ i j : Str, x = .str i ∧ y = .str j ∧ Q (.bl (q i.cps.toList j.cps.toList)) H)
theorem op_dCmp {p : Int → Int → Bool} {q : List Nat → List Nat → Bool} : Op2 G (rCmp p q) (dCmp p q) := fun F H v w x y d f hv hw e => by
  unfold dCmp at e
  split at e
  · cases e
    cases hv.int_eq; cases hw.int_eq
    exact gives_v (.bl _) f fun Q q => .inl ⟨_, _, rfl, rfl, q⟩
  · cases e
    obtain ⟨rfl, o1⟩ := hv.str_eq
    obtain ⟨rfl, o2⟩ := hw.str_eq
    exact gives_v (.bl _) f fun Q q => .inr ⟨_, _, rfl, rfl, q⟩
  · cases e
def dLt := dCmp (fun i j => decide (i < j)) fun s t => decide (s < t)
def dLe := dCmp (fun i j => decide (i ≤ j)) fun s t => !decide (t < s)
def dGt := dCmp (fun i j => decide (j < i)) fun s t => decide (t < s)
def dGe := dCmp (fun i j => decide (j ≤ i)) fun s t => !decide (s < t)
theorem opR_lt : OpR X (compareOp .Lt) (rCmp (fun i j => decide (i < j)) fun s t => decide (s < t)) := OpR.or op_lt op_lt_str
theorem opR_le : OpR X (compareOp .LtE) (rCmp (fun i j => decide (i ≤ j)) fun s t => !decide (t < s)) := OpR.or op_le op_le_str
theorem opR_gt : OpR X (compareOp .Gt) (rCmp (fun i j => decide (j < i)) fun s t => decide (t < s)) := OpR.or op_gt op_gt_str
theorem opR_ge : OpR X (compareOp .GtE) (rCmp (fun i j => decide (j ≤ i)) fun s t => !decide (s < t)) := OpR.or op_ge op_ge_str
/-- is None, is a truth -/
def isN : D → Bool
  | .non => true
  | _ => false
def dIs : D → D → Option D
  | x, .non => some (.bl (isN x))
  | .bl a, .bl b => some (.bl (decide (a = b)))
  | _, _ => none
def dIsNot : D → D → Option D
  | x, .non => some (.bl (!isN x))
  | .bl a, .bl b => some (.bl (!decide (a = b)))
  | _, _ => none
def rIsN : R2 := fun x y H Q => y = .non ∧ Q (.bl (decide (x = .non))) H
def rNotN : R2 := fun x y H Q => y = .non ∧ Q (.bl (!decide (x = .non))) H
def rIsD : R2 := fun x y H Q => rIsN x y H Q ∨ rIsB x y H Q
def rIsNotD : R2 := fun x y H Q => rNotN x y H Q ∨ rNotB x y H Q
theorem opR_is : OpR X (compareOp .Is) rIsD := OpR.or op_isN op_isBl
theorem opR_isNot : OpR X (compareOp .IsNot) rIsNotD := OpR.or op_notN op_notBl
theorem Vw.isN {F : Fz} {H : Hp} {v : V} {x : D} (h : Vw G F H v x) : decide (v = .non) = isN x := by
  rcases h with h | ⟨p, u, w, rfl, _, _, rfl⟩ | ⟨_, _, _, e1x, _, e3⟩
  · cases h <;> rfl
  · cases w <;> rfl
  · first | (cases e3; done) | (subst e1x e3; rfl) | (subst e3; cases e; done) | (subst e3; simp_all; done) | (subst e3; contradiction)
theorem op_dIs : Op2 G rIsD dIs := fun F H v w x y d f hv hw e => by
  unfold dIs at e
  split at e
  · cases e
    cases hw.non_eq
    exact gives_v (.bl _) f fun Q q => .inl ⟨rfl, by rw [hv.isN]; exact q⟩
  · cases e
    cases hv.bl_eq; cases hw.bl_eq
    exact gives_v (.bl _) f fun Q q => .inr ⟨_, _, rfl, rfl, q⟩
  · cases e
theorem op_dIsNot : Op2 G rIsNotD dIsNot := fun F H v w x y d f hv hw e => by
  unfold dIsNot at e
  split at e
  · cases e
    cases hw.non_eq
    exact gives_v (.bl _) f fun Q q => .inl ⟨rfl, by rw [hv.isN]; exact q⟩
  · cases e
    cases hv.bl_eq; cases hw.bl_eq
    exact gives_v (.bl _) f fun Q q => .inr ⟨_, _, rfl, rfl, q⟩
  · cases e

/-! ### in -/
def flatD : D → Bool
  | .non => true
  | .bl _ => true
  | .int _ => true
  | .str _ => true
  | _ => false
theorem flat_v {F : Fz} {v : V} {d : D} (h : Rp G F v d) (e : flatD d = true) : flatV v = true := by cases h <;> first | rfl | cases e
theorem eqV_deq {F : Fz} {v w : V} {d e : D} (h : Rp G F v d) (h' : Rp G F w e) (f : flatD d = true) (f' : flatD e = true) : eqV v w = deq d e := by
  cases h <;> cases h' <;> simp_all [eqV, deq, toPy, PyData.eqv, flatD]
theorem flat_all {F : Fz} : ∀ {xs : List V} {ds : List D}, RpAll G F xs ds → ds.all flatD = true → xs.all flatV = true
  | _, _, .nil, _ => rfl
  | _, _, .cons h t, e => by
    rw [List.all_cons, Bool.and_eq_true] at e ⊢
    exact ⟨flat_v h e.1, flat_all t e.2⟩
theorem inV_any {F : Fz} {v : V} {d : D} (h : Rp G F v d) (f : flatD d = true) : ∀ {xs : List V} {ds : List D}, RpAll G F xs ds → ds.all flatD = true → inV v xs = ds.any fun z => deq z d
  | _, _, .nil, _ => rfl
  | _, _, .cons h' t, e => by
    rw [List.all_cons, Bool.and_eq_true] at e
    have ih := inV_any h f t e.2
    unfold inV at ih ⊢
    rw [List.any_cons, List.any_cons, ih, eqV_deq h' h e.1 f]
theorem toPys_any (d : D) : ∀ ds : List D, ((toPys ds).any fun z => PyData.eqv z (toPy d)) = ds.any fun z => deq z d
  | [] => rfl
  | x :: r => by rw [toPys, List.any_cons, List.any_cons, toPys_any d r]; rfl
/-- x in y -/
def inD (x : D) : D → Option Bool
  | .str t => match x with
    | .str [c] => some (decide (c ∈ t))
    | _ => none
  | .lst ds => if eqOk x = true ∧ eqOk (.lst ds) = true then some (ds.any fun z => deq z x) else none
  | .tup ds => if flatD x = true ∧ ds.all flatD = true then some (ds.any fun z => deq z x) else none
  | _ => none
def rInSg : R2 := fun x y H Q => ∃ (c : Nat) (z : Str), x = .str ⟨#[c]⟩ ∧ y = .str z ∧ Q (.bl (decide (c ∈ z.cps.toList))) H
def rNotInSg : R2 := fun x y H Q => ∃ (c : Nat) (z : Str), x = .str ⟨#[c]⟩ ∧ y = .str z ∧ Q (.bl (!decide (c ∈ z.cps.toList))) H
def rInAll (K : PySem.W.Frag) : R2 := fun x y H Q => rInSg x y H Q ∨ rInD K x y H Q ∨ rIn K false x y H Q
def rNotInAll (K : PySem.W.Frag) : R2 := fun x y H Q => rNotInSg x y H Q ∨ rNotInD K x y H Q ∨ rIn K true x y H Q
theorem opR_in (hu : X.A.units + 65 < cLine) : OpR X (compareOp .In) (rInAll X.K) := OpR.or op_in_sign (OpR.or (op_inD hu) op_in_seq)
theorem opR_notIn (hu : X.A.units + 65 < cLine) : OpR X (compareOp .NotIn) (rNotInAll X.K) := OpR.or op_notIn_sign (OpR.or (op_notInD hu) op_notIn_seq)
def dIn (x y : D) : Option D := (inD x y).map .bl
def dNotIn (x y : D) : Option D := (inD x y).map fun b => .bl (!b)
theorem Vw.rp_flat {F : Fz} {H : Hp} {v : V} {d : D} (h : Vw G F H v d) (e : flatD d = true) : Rp G F v d := by
  rcases h with h | ⟨p, u, w, rfl, _, _, rfl⟩ | ⟨_, _, _, e1x, _, e3⟩
  · exact h
  · cases w <;> cases e
  · first | (cases e3; done) | (subst e1x e3; rfl) | (subst e3; cases e; done) | (subst e3; simp_all; done) | (subst e3; contradiction)
theorem in_cases {F : Fz} {H : Hp} {v w : V} {x y : D} {b : Bool} (f : Same F.f H) (hv : Vw G F H v x) (hw : Vw G F H w y) (e : inD x y = some b) :
    (∃ c z, v = .str ⟨#[c]⟩ ∧ w = .str z ∧ b = decide (c ∈ z.cps.toList)) ∨ (∃ d ds, Dp G.K H v d ∧ Dp G.K H w (.list ds) ∧ SeqAt.shaped d = true ∧ SeqAt.shaped (.list ds) = true ∧ b = ds.any fun z => PyData.eqv z d) ∨
    (∃ p xs, w = .ref p ∧ (SqL G.K H p xs ∨ SqT G.K H p xs) ∧ flatV v = true ∧ xs.all flatV = true ∧ b = inV v xs) := by
  unfold inD at e
  split at e
  · split at e
    · cases e
      obtain ⟨rfl, _⟩ := hv.str_eq
      obtain ⟨rfl, _⟩ := hw.str_eq
      exact .inl ⟨_, _, rfl, rfl, rfl⟩
    · cases e
  · split at e
    · rename_i h
      cases e
      obtain ⟨a, b⟩ := hv.dp f h.1
      obtain ⟨a', b'⟩ := hw.dp f h.2
      exact .inr (.inl ⟨_, _, a, a', b, b', (toPys_any _ _).symm⟩)
    · cases e
  · split at e
    · rename_i h
      cases e
      obtain ⟨p, xs, rfl, h1, h2⟩ := hw.tup f
      have rv := hv.rp_flat h.1
      exact .inr (.inr ⟨p, xs, rfl, .inr h1, flat_v rv h.1, flat_all h2 h.2, (inV_any rv h.1 h2 h.2).symm⟩)
    · cases e
  · cases e
theorem op_dIn : Op2 G (rInAll G.K) dIn := fun F H v w x y d f hv hw e => by
  unfold dIn at e
  cases h : inD x y with
  | none => rw [h] at e; cases e
  | some b =>
    rw [h] at e; cases e
    refine gives_v (.bl _) f fun Q q => ?_
    rcases in_cases f hv hw h with ⟨c, z, h1, h2, h3⟩ | ⟨d, ds, h1, h2, h3, h4, h5⟩ | ⟨p, xs, h1, h2, h3, h4, h5⟩
    · exact .inl ⟨c, z, h1, h2, by rw [← h3]; exact q⟩
    · exact .inr (.inl ⟨d, ds, h1, h2, h3, h4, by rw [← h5]; exact q⟩)
    · exact .inr (.inr ⟨p, xs, h1, h2, h3, h4, by rw [h5] at q; exact q⟩)
theorem op_dNotIn : Op2 G (rNotInAll G.K) dNotIn := fun F H v w x y d f hv hw e => by
  unfold dNotIn at e
  cases h : inD x y with
  | none => rw [h] at e; cases e
  | some b =>
    rw [h] at e; cases e
    refine gives_v (.bl _) f fun Q q => ?_
    rcases in_cases f hv hw h with ⟨c, z, h1, h2, h3⟩ | ⟨d, ds, h1, h2, h3, h4, h5⟩ | ⟨p, xs, h1, h2, h3, h4, h5⟩
    · exact .inl ⟨c, z, h1, h2, by rw [← h3]; exact q⟩
    · exact .inr (.inl ⟨d, ds, h1, h2, h3, h4, by rw [← h5]; exact q⟩)
    · exact .inr (.inr ⟨p, xs, h1, h2, h3, h4, by rw [h5] at q; exact q⟩)

/-! ### subscripts, slices -/
def dIx : D → D → Option D
  | .str s, .int i => if s.length ≤ 16777216 then (atI s i).map fun c => .str [c] else none
  | .lst ds, .int i => atI ds i
  | .tup ds, .int i => atI ds i
  | .scr ns, .int i => (atI ns i).map .int
  | _, _ => none
theorem RpAll.atI {F : Fz} {xs : List V} {ds : List D} {i : Int} {d : D} (r : RpAll G F xs ds) (e : L2.atI ds i = some d) : ∃ v, L2.atI xs i = some v ∧ Rp G F v d := by
  unfold L2.atI at e ⊢
  rw [r.length]
  cases h : ixN ds.length i with
  | none => rw [h] at e; cases e
  | some j =>
    rw [h] at e
    exact r.get e
theorem op_dIx : Op2 G (rIx G.K) dIx := fun F H v w x y d f hv hw e => by
  unfold dIx at e
  split at e
  · split at e
    · rename_i s i hs
      cases hw.int_eq
      obtain ⟨rfl, o⟩ := hv.str_eq
      cases h : atI s i with
      | none => rw [h] at e; cases e
      | some c =>
        rw [h] at e; cases e
        refine gives_v (v := .str (tx [c])) (.str [c] (okS_sub o fun c' m => ?_)) f fun Q q => .inr (.inr ⟨_, _, c, rfl, rfl, by rw [tx_len, sizeLine_eq]; exact hs, h, q⟩)
        rw [List.mem_singleton] at m
        subst m
        unfold atI at h
        cases h2 : ixN s.length i with
        | none => rw [h2] at h; cases h
        | some j => rw [h2] at h; exact List.mem_of_getElem? h
    · cases e
  · cases hw.int_eq
    obtain ⟨p, xs, rfl, h1, h2⟩ := hv.seqL f rfl
    obtain ⟨z, hz, rz⟩ := h2.atI e
    exact gives_v rz f fun Q q => .inl ⟨_, _, _, _, rfl, rfl, h1, hz, q⟩
  · cases hw.int_eq
    obtain ⟨p, xs, rfl, h1, h2⟩ := hv.tup f
    obtain ⟨z, hz, rz⟩ := h2.atI e
    exact gives_v rz f fun Q q => .inr (.inl ⟨_, _, _, _, rfl, rfl, h1, hz, q⟩)
  · rename_i ns i
    cases hw.int_eq
    obtain ⟨p, xs, rfl, h1, h2⟩ := hv.seqL f rfl
    have e2 : L2.atI (ns.map D.int) i = some d := by
      unfold L2.atI at e ⊢
      rw [List.length_map]
      cases h : ixN ns.length i with
      | none => rw [h] at e; cases e
      | some j =>
        rw [h] at e
        simp only [Option.bind_some] at e ⊢
        rw [List.getElem?_map]
        exact e
    obtain ⟨z, hz, rz⟩ := h2.atI e2
    exact gives_v rz f fun Q q => .inl ⟨_, _, _, _, rfl, rfl, h1, hz, q⟩
  · cases e
/-- xs[lo:hi] -/
def cut {α : Type} (xs : List α) (lo hi : Option Int) : List α := (xs.drop (HT.sIx xs.length 0 lo)).take (HT.sIx xs.length xs.length hi - HT.sIx xs.length 0 lo)
def dSl : D → Option Int → Option Int → Option D
  | .str s, l, u => if s.length ≤ 16777216 then some (.str (cut s l u)) else none
  | .lst ds, l, u => some (.lst (cut ds l u))
  | .scr ns, l, u => some (.lst (cut (ns.map .int) l u))
  | .tup ds, l, u => some (.tup (cut ds l u))
  | _, _, _ => none
theorem SlR.or' {r r' : V → Option Int → Option Int → Hp → VK → Prop} (h : SlR X r) (h' : SlR X r') : SlR X (fun x lo hi H Q => r x lo hi H Q ∨ r' x lo hi H Q) := SlR.or h h'
def rSlAll (K : PySem.W.Frag) : V → Option Int → Option Int → Hp → VK → Prop := fun x l u H Q => rSlS x l u H Q ∨ rSlL K x l u H Q ∨ rSlA K x l u H Q
theorem sl_all : SlR X (rSlAll X.K) := SlR.or sl_str (SlR.or sl_list sl_tupA)
theorem RpAll.cut {F : Fz} {xs : List V} {ds : List D} (r : RpAll G F xs ds) (l u : Option Int) : RpAll G F (cutV xs l u) (DL.cut ds l u) := by
  unfold cutV DL.cut
  rw [r.length]
  exact (r.drop _).take _
theorem cut_whole {α : Type} {xs : List α} {l u : Option Int} (h : HT.sIx xs.length 0 l = 0 ∧ HT.sIx xs.length xs.length u = xs.length) : cut xs l u = xs := by
  unfold cut
  rw [h.1, h.2]
  simp
theorem op_dSl : OpS G (rSlAll G.K) dSl := fun F H v x l u d f hv e => by
  unfold dSl at e
  split at e
  · split at e
    · rename_i s hs
      cases e
      obtain ⟨rfl, o⟩ := hv.str_eq
      have ec : cutS (tx s) l u = tx (cut s l u) := by unfold cutS cut; rw [cps_tx, tx_len]; rfl
      exact gives_v (v := .str (tx (cut s l u))) (.str _ (okS_sub o fun c m => by
        unfold cut at m
        exact List.mem_of_mem_drop (List.mem_of_mem_take m))) f fun Q q => .inl ⟨_, rfl, by rw [tx_len, sizeLine_eq]; exact hs, by rw [ec]; exact q⟩
    · cases e
  · cases e
    obtain ⟨p, xs, rfl, h1, h2⟩ := hv.seqL f rfl
    exact gives_lst (h2.cut l u) f fun Q q => .inr (.inl ⟨_, _, rfl, h1, q⟩)
  · cases e
    obtain ⟨p, xs, rfl, h1, h2⟩ := hv.seqL f rfl
    exact gives_lst (h2.cut l u) f fun Q q => .inr (.inl ⟨_, _, rfl, h1, q⟩)
  · cases e
    obtain ⟨p, xs, rfl, h1, h2⟩ := hv.tup f
    have hl := h2.length
    intro Q k
    refine .inr (.inr ⟨_, _, rfl, h1, fun h => ?_, fun h => ?_⟩)
    · rw [hl] at h
      rw [cut_whole h] at k
      exact k _ _ F (Same.refl H) f .refl hv.tup'
    · exact gives_tup (r := fun Q => ∀ p, H p = none → Q (.ref p) (upd H p (.tup (cutV xs l u)))) (h2.cut l u) f (fun Q q => q) Q k
  · cases e
end
end DL

namespace DL
open PySem PySem.Spec PyProof.Rows L2
section
variable {G : Gx} {X : Cx}

/-! ### built-ins -/
def dLen : List D → Option D
  | [.str s] => if s.length ≤ 16777216 then some (.int s.length) else none
  | [.lst ds] => some (.int ds.length)
  | [.tup ds] => some (.int ds.length)
  | [.scr ns] => some (.int ns.length)
  | _ => none
def rLen (K : PySem.W.Frag) : List V → Hp → VK → Prop := fun xs H Q => ∃ x n, xs = [x] ∧ LenV K x H n ∧ Q (.int n) H
theorem op_dLen : OpA G (rLen G.K) dLen := fun F H vs xs d f hv e => by
  unfold dLen at e
  split at e
  · split at e
    · rename_i hs
      cases e
      cases hv with | cons h t => cases t; obtain ⟨rfl, _⟩ := h.str_eq; exact gives_v (.int _) f fun Q q => ⟨_, _, rfl, ⟨by rw [tx_len, sizeLine_eq]; exact hs, (tx_len _).symm⟩, q⟩
    · cases e
  · cases e
    cases hv with | cons h t => cases t; obtain ⟨p, xs, rfl, h1, h2⟩ := h.seqL f rfl; exact gives_v (.int _) f fun Q q => ⟨_, _, rfl, .inl ⟨_, h1, h2.length.symm⟩, q⟩
  · cases e
    cases hv with | cons h t => cases t; obtain ⟨p, xs, rfl, h1, h2⟩ := h.tup f; exact gives_v (.int _) f fun Q q => ⟨_, _, rfl, .inr ⟨_, h1, h2.length.symm⟩, q⟩
  · cases e
    cases hv with | cons h t => cases t; obtain ⟨p, xs, rfl, h1, h2⟩ := h.seqL f rfl; exact gives_v (.int _) f fun Q q => ⟨_, _, rfl, .inl ⟨_, h1, by rw [h2.length, List.length_map]⟩, q⟩
  · cases e
/-- a kind's name -/
def tyn : D → Option String
  | .non => some "NoneType"
  | .bl _ => some "bool"
  | .int _ => some "int"
  | .str _ => some "str"
  | .lst _ => some "list"
  | .tup _ => some "tuple"
  | .scr _ => some "list"
  | .dic _ => some "dict"
  | _ => none
def isT (a n : String) : Bool := a == n || (a == "bool" && n == "int")
def dIsI : List D → Option D
  | [x, .ty n] => match tyn x with
    | some a => if n == "int" || n == "bool" || n == "str" || n == "list" || n == "tuple" || n == "dict" then some (.bl (isT a n)) else none
    | none => none
  | _ => none
theorem kit_all : ∀ a ∈ ["NoneType", "bool", "int", "str", "list", "tuple", "dict"], ∀ n ∈ ["int", "bool", "str", "list", "tuple", "dict"], kitB a n = some (isT a n) := by decide +kernel
theorem tyn_mem {x : D} {a : String} (h : tyn x = some a) : a ∈ ["NoneType", "bool", "int", "str", "list", "tuple", "dict"] := by
  cases x <;> simp [tyn] at h <;> subst h <;> simp
theorem Vw.tyX {F : Fz} {H : Hp} {v : V} {x : D} {a : String} (h : Vw G F H v x) (f : Same F.f H) (e : tyn x = some a) : TyX G.K H v (.type a) := by
  rcases h with h | ⟨p, u, w, rfl, hp, ow, rfl⟩ | ⟨_, _, _, e1x, _, e3⟩
  · cases h with
    | non => cases e; exact .base .non
    | bl b => cases e; exact .base (.bl b)
    | int i => cases e; exact .base (.int i)
    | str s _ => cases e; exact .base (.str _)
    | lst h1 _ => cases e; exact .base (.lst (f _ _ h1))
    | tup h1 _ =>
      cases e
      rcases same_seqT f h1 with (h | ⟨o, h⟩) | ⟨o, its, n, h, hc, _⟩
      · exact .base (.tup h)
      · exact .fTuple h
      · exact .kTuple h hc
    | scr h1 =>
      cases e
      rcases f.seq h1 with (h | ⟨o, h⟩) | ⟨o, its, n, h, hc, _⟩
      · exact .base (.lst h)
      · exact .base (.frz h)
      · exact .kList h hc
    | dicK h1 _ => cases e; exact .base (.dK (f _ _ h1))
    | obj _ _ _ _ => cases e
    | ty _ => cases e
    | err _ _ => cases e
    | loc _ => cases e
  · cases ow with
    | l r => cases e; exact .base (.lst hp)
    | kK r => cases e; exact .base (.dK hp)
  · first | (cases e3; done) | (subst e1x e3; rfl) | (subst e3; cases e; done) | (subst e3; simp_all; done) | (subst e3; contradiction)
theorem op_dIsI : OpA G (rIsi G.K) dIsI := fun F H vs xs d f hv e => by
  unfold dIsI at e
  split at e
  · split at e
    · rename_i x n _ a ha
      split at e
      · rename_i hn
        cases e
        cases hv with
        | cons h t =>
          cases t with
          | cons h2 t =>
            cases t
            cases h2.ty_eq
            have hm : n ∈ ["int", "bool", "str", "list", "tuple", "dict"] := by
              simp only [Bool.or_eq_true, beq_iff_eq] at hn
              simp only [List.mem_cons, List.not_mem_nil, or_false]
              rcases hn with ((((h | h) | h) | h) | h) | h <;> simp [h]
            exact gives_v (.bl _) f fun Q q => ⟨_, _, _, _, _, rfl, .ty n, h.tyX f ha, kit_ty (kit_all a (tyn_mem ha) n hm), q⟩
      · cases e
    · cases e
  · cases e
theorem VwAll.len {F : Fz} {H : Hp} {vs : List V} {ds : List D} (h : VwAll G F H vs ds) : vs.length = ds.length := by
  induction h with
  | nil => rfl
  | cons _ _ ih => simp [ih]
def boolsD : List D → Option (List Bool)
  | [] => some []
  | .bl b :: r => (boolsD r).map (b :: ·)
  | _ :: _ => none
theorem bools_eq : ∀ {ds : List D} {bs : List Bool}, boolsD ds = some bs → ds = bs.map D.bl
  | [], bs, h => by cases h; rfl
  | .bl b :: r, bs, h => by
    simp only [boolsD] at h
    cases hr : boolsD r with
    | none => rw [hr] at h; cases h
    | some cs => rw [hr] at h; cases h; rw [bools_eq hr]; rfl
def intsD : List D → Option (List Int)
  | [] => some []
  | .int b :: r => (intsD r).map (b :: ·)
  | _ :: _ => none
theorem ints_eq : ∀ {ds : List D} {bs : List Int}, intsD ds = some bs → ds = bs.map D.int
  | [], bs, h => by cases h; rfl
  | .int b :: r, bs, h => by
    simp only [intsD] at h
    cases hr : intsD r with
    | none => rw [hr] at h; cases h
    | some cs => rw [hr] at h; cases h; rw [ints_eq hr]; rfl
def strsD : List D → Option (List (List Nat))
  | [] => some []
  | .str b :: r => (strsD r).map (b :: ·)
  | _ :: _ => none
theorem strs_eq : ∀ {ds : List D} {bs : List (List Nat)}, strsD ds = some bs → ds = bs.map D.str
  | [], bs, h => by cases h; rfl
  | .str b :: r, bs, h => by
    simp only [strsD] at h
    cases hr : strsD r with
    | none => rw [hr] at h; cases h
    | some cs => rw [hr] at h; cases h; rw [strs_eq hr]; rfl
@[simp] theorem bools_map (bs : List Bool) : boolsD (bs.map D.bl) = some bs := by
  induction bs with
  | nil => rfl
  | cons b r ih => simp [boolsD, ih]
@[simp] theorem ints_map (bs : List Int) : intsD (bs.map D.int) = some bs := by
  induction bs with
  | nil => rfl
  | cons b r ih => simp [intsD, ih]
@[simp] theorem strs_map (bs : List (List Nat)) : strsD (bs.map D.str) = some bs := by
  induction bs with
  | nil => rfl
  | cons b r ih => simp [strsD, ih]
def dAll : List D → Option D
  | [.lst ds] => (boolsD ds).map fun bs => .bl (bs.all id)
  | _ => none
def dAny : List D → Option D
  | [.lst ds] => (boolsD ds).map fun bs => .bl (bs.any id)
  | _ => none
theorem op_dAll : OpA G (rAll G.K) dAll := fun F H vs xs d f hv e => by
  unfold dAll at e
  split at e
  · rename_i ds
    cases hb : boolsD ds with
    | none => rw [hb] at e; cases e
    | some bs =>
      rw [hb] at e; cases e
      cases bools_eq hb
      cases hv with
      | cons h t =>
        cases t
        obtain ⟨p, xs, rfl, h1, h2⟩ := h.seqL f rfl
        cases rp_bools_inv h2
        exact gives_v (.bl _) f fun Q q => ⟨_, _, rfl, h1, q⟩
  · cases e
theorem op_dAny : OpA G (rAny G.K) dAny := fun F H vs xs d f hv e => by
  unfold dAny at e
  split at e
  · rename_i ds
    cases hb : boolsD ds with
    | none => rw [hb] at e; cases e
    | some bs =>
      rw [hb] at e; cases e
      cases bools_eq hb
      cases hv with
      | cons h t =>
        cases t
        obtain ⟨p, xs, rfl, h1, h2⟩ := h.seqL f rfl
        cases rp_bools_inv h2
        exact gives_v (.bl _) f fun Q q => ⟨_, _, rfl, h1, q⟩
  · cases e
def dSum : List D → Option D
  | [.lst ds] => (intsD ds).map fun bs => .int bs.sum
  | _ => none
theorem op_dSum : OpA G (rSum G.K) dSum := fun F H vs xs d f hv e => by
  unfold dSum at e
  split at e
  · rename_i ds
    cases hb : intsD ds with
    | none => rw [hb] at e; cases e
    | some bs =>
      rw [hb] at e; cases e
      cases ints_eq hb
      cases hv with
      | cons h t =>
        cases t
        obtain ⟨p, xs, rfl, h1, h2⟩ := h.seqL f rfl
        cases rp_ints_inv h2
        exact gives_v (.int _) f fun Q q => ⟨_, _, rfl, h1, q⟩
  · cases e
def dAbs : List D → Option D
  | [.int i] => some (.int (if i < 0 then -i else i))
  | _ => none
def rAbs : List V → Hp → VK → Prop := fun xs H Q => ∃ i, xs = [.int i] ∧ Q (.int (if i < 0 then -i else i)) H
theorem op_dAbs : OpA G rAbs dAbs := fun F H vs xs d f hv e => by
  unfold dAbs at e
  split at e
  · cases e
    cases hv with | cons h t => cases t; cases h.int_eq; exact gives_v (.int _) f fun Q q => ⟨_, rfl, q⟩
  · cases e
def dMax : List D → Option D
  | [.int i, .int j] => some (.int (if j > i then j else i))
  | _ => none
def rMax2 : List V → Hp → VK → Prop := fun xs H Q => ∃ i j, xs = [.int i, .int j] ∧ Q (.int (if j > i then j else i)) H
theorem op_dMax : OpA G rMax2 dMax := fun F H vs xs d f hv e => by
  unfold dMax at e
  split at e
  · cases e
    cases hv with | cons h t => cases t with | cons h2 t => cases t; cases h.int_eq; cases h2.int_eq; exact gives_v (.int _) f fun Q q => ⟨_, _, rfl, q⟩
  · cases e
def dMin : List D → Option D
  | [.int i, .int j] => some (.int (if j < i then j else i))
  | _ => none
def rMin2 : List V → Hp → VK → Prop := fun xs H Q => ∃ i j, xs = [.int i, .int j] ∧ Q (.int (if j < i then j else i)) H
theorem op_dMin : OpA G rMin2 dMin := fun F H vs xs d f hv e => by
  unfold dMin at e
  split at e
  · cases e
    cases hv with | cons h t => cases t with | cons h2 t => cases t; cases h.int_eq; cases h2.int_eq; exact gives_v (.int _) f fun Q q => ⟨_, _, rfl, q⟩
  · cases e
def dOrd : List D → Option D
  | [.str [c]] => some (.int c)
  | _ => none
def rOrd : List V → Hp → VK → Prop := fun xs H Q => ∃ x : Str, xs = [.str x] ∧ x.length = 1 ∧ Q (.int (x.cps.getD 0 0 : Nat)) H
theorem op_dOrd : OpA G rOrd dOrd := fun F H vs xs d f hv e => by
  unfold dOrd at e
  split at e
  · cases e
    cases hv with | cons h t => cases t; obtain ⟨rfl, _⟩ := h.str_eq; exact gives_v (.int _) f fun Q q => ⟨_, rfl, rfl, q⟩
  · cases e
/-- list(x), tuple(x) -/
def seqD : D → Option (List D)
  | .lst ds => some ds
  | .tup ds => some ds
  | .scr ns => some (ns.map .int)
  | _ => none
theorem Vw.seq {F : Fz} {H : Hp} {v : V} {d : D} {ds : List D} (h : Vw G F H v d) (f : Same F.f H) (e : seqD d = some ds) : ∃ p xs, v = .ref p ∧ (SqL G.K H p xs ∨ SqT G.K H p xs) ∧ RpAll G F xs ds := by
  unfold seqD at e
  split at e
  · cases e; obtain ⟨p, xs, a, b, c⟩ := h.seqL f rfl; exact ⟨p, xs, a, .inl b, c⟩
  · cases e; obtain ⟨p, xs, a, b, c⟩ := h.tup f; exact ⟨p, xs, a, .inr b, c⟩
  · cases e; obtain ⟨p, xs, a, b, c⟩ := h.seqL f rfl; exact ⟨p, xs, a, .inl b, c⟩
  · cases e
def dListF : List D → Option Ow
  | [d] => (seqD d).map .l
  | _ => none
def rList (K : PySem.W.Frag) : List V → Hp → VK → Prop := fun xs H Q => ∃ p ys, xs = [.ref p] ∧ (SqL K H p ys ∨ SqT K H p ys) ∧ ∀ l, H l = none → Q (.ref l) (upd H l (.lst ys))
theorem op_dListF : OpAF G (rList G.K) dListF := fun F H vs xs d f hv e => by
  unfold dListF at e
  split at e
  · rename_i x
    cases hs : seqD x with
    | none => rw [hs] at e; cases e
    | some ds =>
      rw [hs] at e; cases e
      cases hv with | cons h t => cases t; obtain ⟨p, ys, rfl, h1, h2⟩ := h.seq f hs; exact lays_l h2 fun Q q => ⟨_, _, rfl, h1, q⟩
  · cases e
def dTuple : List D → Option D
  | [.lst ds] => some (.tup ds)
  | [.scr ns] => some (.tup (ns.map .int))
  | [.tup ds] => some (.tup ds)
  | _ => none
def rTuple (K : PySem.W.Frag) : List V → Hp → VK → Prop := fun xs H Q => ∃ p ys, xs = [.ref p] ∧ ((SqL K H p ys ∧ ∀ l, H l = none → Q (.ref l) (upd H l (.tup ys))) ∨ (SqT K H p ys ∧ Q (.ref p) H))
theorem op_dTuple : OpA G (rTuple G.K) dTuple := fun F H vs xs d f hv e => by
  unfold dTuple at e
  split at e
  · cases e
    cases hv with | cons h t => cases t; obtain ⟨p, ys, rfl, h1, h2⟩ := h.seqL f rfl; exact gives_tup h2 f fun Q q => ⟨_, _, rfl, .inl ⟨h1, q⟩⟩
  · cases e
    cases hv with | cons h t => cases t; obtain ⟨p, ys, rfl, h1, h2⟩ := h.seqL f rfl; exact gives_tup h2 f fun Q q => ⟨_, _, rfl, .inl ⟨h1, q⟩⟩
  · cases e
    cases hv with | cons h t => cases t; obtain ⟨p, ys, rfl, h1, h2⟩ := h.tup f; exact gives_v h.tup' f fun Q q => ⟨_, _, rfl, .inr ⟨h1, q⟩⟩
  · cases e
/-- a class as a value -/
theorem de_ty {B : Hp} {W : WX} {x : Str} {pos : Pos} {n : String} (hm : X.mg x = none) (hv : bootBuiltins x = some (.type n) := by decide +kernel) (hg : Gl X x := by rfl) (hn : x ≠ "__name__" := by decide) (hd : (x == ("__debug__" : Str)) = false := by decide) : DE X B W (.Name x pos) (kE (.ty n)) :=
  de_k (pe_bltn (v := .ty n) hg hm hv rfl hn hd) fun _ => .ty n
/-- a module's text or number -/
theorem de_gs {B : Hp} {W : WX} {x : Str} {pos : Pos} {s : List Nat} {t : Tok} (hm : X.mg x = some (.str (tx s) t)) (o : okS s = true := by decide) (hg : Gl X x := by rfl) (hd : (x == ("__debug__" : Str)) = false := by decide) : DE X B W (.Name x pos) (kE (.str s)) :=
  de_k (pe_glob (v := .str (tx s)) hg hm ⟨t, rfl⟩ hd) fun _ => .str s o
theorem de_gi {B : Hp} {W : WX} {x : Str} {pos : Pos} {i : Int} {t : Tok} (hm : X.mg x = some (.int i t)) (hg : Gl X x := by rfl) (hd : (x == ("__debug__" : Str)) = false := by decide) : DE X B W (.Name x pos) (kE (.int i)) :=
  de_k (pe_glob (v := .int i) hg hm ⟨t, rfl⟩ hd) fun _ => .int i

/-! ### what is walked -/
variable {B : Hp} {W : WX} {tg e : Expr} {es : List Expr} {pos : Pos}
theorem PI.or {wi wi' : TI} (h : PI X tg e wi) (h' : PI X tg e wi') : PI X tg e (fun σ H R => wi σ H R ∨ wi' σ H R) := ⟨fun pins s σ H R I q => q.elim (h.run pins s σ H R I) (h'.run pins s σ H R I)⟩
theorem walks_l {F : Fz} {K : PySem.W.Frag} {a : Addr} {xs : List V} {ds : List D} {mg} {w : World} (h : SqL K F a xs) (r : RpAll ⟨K, mg, w⟩ F xs ds) : Walks ⟨K, mg, w⟩ (Itl K a) F ds := fun F' H' f f' i => by
  have hs := f'.seq (f.1.seq h)
  refine ⟨fun hi => ?_, fun hi => ⟨xs, hs, by rw [r.length]; exact hi⟩, fun d hd x H2 ⟨e, y⟩ => ?_⟩
  · obtain ⟨v, hv, _⟩ := r.get (List.getElem?_eq_getElem hi)
    exact ⟨xs, v, hs, hv⟩
  · subst e
    obtain ⟨v, hv, rv⟩ := r.get hd
    have := y xs hs
    rw [hv] at this; cases this
    exact ⟨F', Same.refl _, f', .refl, rv.mono f⟩
theorem walks_t {F : Fz} {K : PySem.W.Frag} {a : Addr} {xs : List V} {ds : List D} {mg} {w : World} (h : SqT K F a xs) (r : RpAll ⟨K, mg, w⟩ F xs ds) : Walks ⟨K, mg, w⟩ (Itt K a) F ds := fun F' H' f f' i => by
  have hs := same_seqT f' (same_seqT f.1 h)
  refine ⟨fun hi => ?_, fun hi => ⟨xs, hs, by rw [r.length]; exact hi⟩, fun d hd x H2 ⟨e, y⟩ => ?_⟩
  · obtain ⟨v, hv, _⟩ := r.get (List.getElem?_eq_getElem hi)
    exact ⟨xs, v, hs, hv⟩
  · subst e
    obtain ⟨v, hv, rv⟩ := r.get hd
    have := y xs hs
    rw [hv] at this; cases this
    exact ⟨F', Same.refl _, f', .refl, rv.mono f⟩
def sgs (s : List Nat) : List D := s.map fun c => .str [c]
theorem walks_s {F : Fz} {s : List Nat} (o : okS s = true) : Walks G (Its (tx s)) F (sgs s) := fun F' H' f f' i => by
  have sz : (tx s).cps.size = s.length := by simp [tx]
  refine ⟨fun hi => ?_, fun hi => ?_, fun d hd x H2 ⟨e, c, hc, hx⟩ => ?_⟩
  · show i < (tx s).cps.size
    rw [sz]; simpa [sgs] using hi
  · show (tx s).cps.size ≤ i
    rw [sz]; simpa [sgs] using hi
  · subst e; subst hx
    have hc' : s[i]? = some c := by simpa [tx] using hc
    unfold sgs at hd
    rw [List.getElem?_map, hc'] at hd
    cases hd
    exact ⟨F', Same.refl _, f', .refl, .str [c] (okS_sub o fun c' m => by rw [List.mem_singleton] at m; subst m; exact List.mem_of_getElem? hc')⟩
/-- a list, a tuple, a text -/
def itD : D → Option (List D)
  | .lst ds => some ds
  | .tup ds => some ds
  | .scr ns => some (ns.map .int)
  | .str s => some (sgs s)
  | _ => none
def iE (f : Ev D) : Ev (List D) := fun S st => (f S st).bind fun d S st => got (itD d) S st
theorem di_e {f : Ev D} (h : DE X B W e f) : DI X B W tg e (iE f) :=
  pi_imp (PI.or (pi_list h) (PI.or (pi_tup h) (pi_str h))) fun σ H R ⟨F, S, st, o, q⟩ => by
    unfold iE at q
    have q2 := Post.bind (R := RD (Cx.g X) σ) q
    revert q q2
    generalize hr : f S st = r
    intro q q2
    have mk : ∀ {Q : VK}, Post (Cx.g X) B W (RD (Cx.g X) σ) σ F Q r → lift (Cx.g X) B W (RD (Cx.g X)) f σ H Q := fun {Q} q => ⟨F, S, st, o, by rw [hr]; exact q⟩
    cases r with
    | stuck => exact q2.elim
    | exc x S1 st1 => exact .inl (mk q)
    | ok d S1 st1 =>
      have key : ∀ {ds : List D}, itD d = some ds → ∀ F1 H1, Gr B F F1 → Ok (Cx.g X) B F1 σ H1 S1 st1 → ∀ J, Walks (Cx.g X) J F1 ds → R J H1 := fun {ds} hd F1 H1 g1 o1 J w => by
        have q3 : Post (Cx.g X) B W (RW (Cx.g X) σ) σ F R (got (itD d) S1 st1) := q
        rw [hd] at q3
        exact q3 J H1 F1 g1 o1 w
      cases d with
      | lst ds => exact .inl (mk fun v H1 F1 g1 o1 r1 => by cases r1 with | lst h1 h2 => exact ⟨_, rfl, ⟨_, o1.fH.seq (.inl (.inl h1))⟩, key rfl F1 H1 g1 o1 _ (walks_l (.inl (.inl h1)) h2)⟩)
      | scr ns => exact .inl (mk fun v H1 F1 g1 o1 r1 => by cases r1 with | scr h1 => exact ⟨_, rfl, ⟨_, o1.fH.seq h1⟩, key rfl F1 H1 g1 o1 _ (walks_l h1 (rp_ints (Cx.g X) F1 ns))⟩)
      | tup ds => exact .inr (.inl (mk fun v H1 F1 g1 o1 r1 => by cases r1 with | tup h1 h2 => exact ⟨_, rfl, ⟨_, same_seqT o1.fH h1⟩, key rfl F1 H1 g1 o1 _ (walks_t h1 h2)⟩))
      | str s => exact .inr (.inr (mk fun v H1 F1 g1 o1 r1 => by cases r1 with | str _ h1 => exact ⟨_, rfl, key rfl F1 H1 g1 o1 _ (walks_s h1)⟩))
      | _ =>
        exfalso
        exact (show Post (Cx.g X) B W (RW (Cx.g X) σ) σ F R .stuck from q)
/-- range(n) -/
def rng (n : Nat) (lo : Int) : List D := (List.range n).map fun (i : Nat) => D.int (lo + (i : Int))
theorem walks_r {F : Fz} {lo : Int} {n : Nat} : Walks G (Itr lo n) F (rng n lo) := fun F' H' f f' i => by
  refine ⟨fun hi => by show i < n; simpa [rng] using hi, fun hi => by show n ≤ i; simpa [rng] using hi, fun d hd x H2 ⟨e, hx⟩ => ?_⟩
  subst e; subst hx
  unfold rng at hd
  rw [List.getElem?_map] at hd
  cases hl : (List.range n)[i]? with
  | none => rw [hl] at hd; cases hd
  | some j =>
    rw [hl] at hd; cases hd
    have : j = i := by
      have := List.getElem?_eq_some_iff.mp hl
      obtain ⟨h1, h2⟩ := this
      simpa using h2.symm
    subst this
    exact ⟨F', Same.refl _, f', .refl, .int _⟩
def iR1 (f : Ev (List Opd)) : Ev (List D) := fun S st => (f S st).bind fun a S st => match vws S st a with
  | some [.int n] => if -1000000 ≤ n ∧ n ≤ 1000000 then .ok (rng n.toNat 0) S st else .stuck
  | _ => .stuck
def iR2 (f : Ev (List Opd)) : Ev (List D) := fun S st => (f S st).bind fun a S st => match vws S st a with
  | some [.int a, .int n] => if (-1000000 ≤ a ∧ a ≤ 1000000) ∧ -1000000 ≤ n ∧ n ≤ 1000000 then .ok (rng (n - a).toNat a) S st else .stuck
  | _ => .stuck
theorem di_r1 {f : Ev (List Opd)} {p : Pos} (hm : X.mg "range" = none) (h : DA X B W [e] f) (hg : Gl X "range" := by rfl) (hs : starEach [e] X.env = [(false, eval e X.env)] := by rfl) : DI X B W tg (.Call (.Name "range" p) [e] [] pos) (iR1 f) :=
  pi_imp (pi_range1 hg hm h hs) fun σ H R ⟨F, S, st, o, q⟩ => ⟨F, S, st, o, (Post.bind (R := RpO (Cx.g X) σ) q).mono fun vs H1 ⟨F1, d, S1, st1, g1, o1, r1, p1⟩ => by
    split at p1
    · rename_i n hn
      split at p1
      · rename_i hle
        have ra := o1.vws r1 hn
        cases ra with
        | cons h t =>
          cases t
          cases h.int_eq
          exact ⟨_, rfl, by omega, by omega, p1 _ H1 F1 .refl o1 walks_r⟩
      · exact p1.elim
    · exact p1.elim⟩
theorem di_r2 {e2 : Expr} {f : Ev (List Opd)} {p : Pos} (hm : X.mg "range" = none) (h : DA X B W [e, e2] f) (hg : Gl X "range" := by rfl) (hs : starEach [e, e2] X.env = [(false, eval e X.env), (false, eval e2 X.env)] := by rfl) (hs2 : starEach [e2] X.env = [(false, eval e2 X.env)] := by rfl) : DI X B W tg (.Call (.Name "range" p) [e, e2] [] pos) (iR2 f) :=
  pi_imp (pi_range2 hg hm h hs hs2) fun σ H R ⟨F, S, st, o, q⟩ => ⟨F, S, st, o, (Post.bind (R := RpO (Cx.g X) σ) q).mono fun vs H1 ⟨F1, d, S1, st1, g1, o1, r1, p1⟩ => by
    split at p1
    · rename_i a n hn
      split at p1
      · rename_i hle
        have ra := o1.vws r1 hn
        cases ra with
        | cons h t =>
          cases t with
          | cons h2 t =>
            cases t
            cases h.int_eq
            cases h2.int_eq
            exact ⟨_, _, rfl, ⟨by omega, by omega, by omega, by omega⟩, p1 _ H1 F1 .refl o1 walks_r⟩
      · exact p1.elim
    · exact p1.elim⟩
/-- with the numbers ahead -/
def enumD (ds : List D) : List D := ds.zipIdx.map fun p => .tup [.int p.2, p.1]
theorem new_tup {F' : Fz} {H' : Hp} {T : Addr} {xs : List V} {ds : List D} (f : Same F'.f H') (hT : H' T = none) (r : RpAll G F' xs ds) : ∃ f2, Same H' (upd H' T (.tup xs)) ∧ Same f2 (upd H' T (.tup xs)) ∧ GrH H' F'.f f2 ∧ Rp G ⟨f2, F'.m⟩ (.ref T) (.tup ds) :=
  ⟨upd F'.f T (.tup xs), same_new hT, same_upd2 f, gr_new f hT, .tup (.inl (.inl upd_same)) (r.mono (.up (gr_new (o := .tup xs) f hT).1))⟩
theorem walks_e {F : Fz} {K : PySem.W.Frag} {a : Addr} {xs : List V} {ds : List D} {mg} {w : World} (h : SqL K F a xs) (r : RpAll ⟨K, mg, w⟩ F xs ds) : Walks ⟨K, mg, w⟩ (Ite K a) F (enumD ds) := fun F' H' f f' i => by
  have hs := f'.seq (f.1.seq h)
  have le : (enumD ds).length = ds.length := by simp [enumD]
  refine ⟨fun hi => ?_, fun hi => ⟨xs, hs, by rw [r.length, ← le]; exact hi⟩, fun d hd x H2 ⟨T, y, e1, hT, e2, hy⟩ => ?_⟩
  · rw [le] at hi
    obtain ⟨v, hv, _⟩ := r.get (List.getElem?_eq_getElem hi)
    exact ⟨xs, v, hs, hv⟩
  · subst e1; subst e2
    unfold enumD at hd
    rw [List.getElem?_map, List.getElem?_zipIdx] at hd
    cases hz : ds[i]? with
    | none => rw [hz] at hd; cases hd
    | some z =>
      rw [hz] at hd; cases hd
      obtain ⟨v, hv, rv⟩ := r.get hz
      have := hy xs hs
      rw [hv] at this; cases this
      have := new_tup (xs := [.int (i : Nat), _]) (ds := [.int ((i : Nat) : Int), z]) f' hT (.cons (.int _) (.one (rv.mono f)))
      simpa using this
def iEn (f : Ev (List Opd)) : Ev (List D) := fun S st => (f S st).bind fun a S st => match vds S a with
  | some [d] => match asL d with
    | some ds => .ok (enumD ds) S st
    | none => .stuck
  | _ => .stuck
theorem rp_asL {F : Fz} {v : V} {d : D} {ds : List D} (h : Rp G F v d) (e : asL d = some ds) : ∃ p xs, v = .ref p ∧ SqL G.K F p xs ∧ RpAll G F xs ds := by
  cases h with
  | lst h1 h2 => cases e; exact ⟨_, _, rfl, .inl (.inl h1), h2⟩
  | scr h1 => cases e; exact ⟨_, _, rfl, h1, rp_ints G F _⟩
  | _ => cases e
theorem di_en {elts : List Expr} {kk : Nat} {tpos : Pos} {f : Ev (List Opd)} {p : Pos} (hm : X.mg "enumerate" = none) (h : DA X B W [e] f) (hg : Gl X "enumerate" := by rfl) (hs : starEach [e] X.env = [(false, eval e X.env)] := by rfl) : DI X B W (.Tuple elts kk tpos) (.Call (.Name "enumerate" p) [e] [] pos) (iEn f) :=
  pi_imp (pi_enum hg hm h hs) fun σ H R ⟨F, S, st, o, q⟩ => ⟨F, S, st, o, (Post.bind (R := RpO (Cx.g X) σ) q).mono fun vs H1 ⟨F1, d, S1, st1, g1, o1, r1, p1⟩ => by
    split at p1
    · rename_i d hd
      split at p1
      · rename_i ds hds
        have ra := o1.vds r1 hd
        cases ra with
        | cons h t =>
          cases t
          obtain ⟨p, xs, rfl, h1, h2⟩ := rp_asL h hds
          exact ⟨p, xs, rfl, o1.fH.seq h1, p1 _ H1 F1 .refl o1 (walks_e h1 h2)⟩
      · exact p1.elim
    · exact p1.elim⟩
def zipD (ds es : List D) : List D := (ds.zip es).map fun p => .tup [p.1, p.2]
theorem walks_z {F : Fz} {K : PySem.W.Frag} {a b : Addr} {xs ys : List V} {ds es : List D} {mg} {w : World} (h : SqL K F a xs) (r : RpAll ⟨K, mg, w⟩ F xs ds) (h' : SqL K F b ys) (r' : RpAll ⟨K, mg, w⟩ F ys es) : Walks ⟨K, mg, w⟩ (Itz K a b) F (zipD ds es) := fun F' H' f f' i => by
  have hs := f'.seq (f.1.seq h)
  have hs' := f'.seq (f.1.seq h')
  have le : (zipD ds es).length = min ds.length es.length := by simp [zipD]
  refine ⟨fun hi => ?_, fun hi => ⟨xs, ys, hs, hs', by rw [r.length, r'.length]; rw [le] at hi; omega⟩, fun d hd x H2 ⟨T, y, z, e1, hT, e2, hy, hz⟩ => ?_⟩
  · rw [le] at hi
    obtain ⟨v, hv, _⟩ := r.get (List.getElem?_eq_getElem (show i < ds.length by omega))
    obtain ⟨w, hw, _⟩ := r'.get (List.getElem?_eq_getElem (show i < es.length by omega))
    exact ⟨xs, ys, v, w, hs, hs', hv, hw⟩
  · subst e1; subst e2
    unfold zipD at hd
    rw [List.getElem?_map] at hd
    cases hq : (ds.zip es)[i]? with
    | none => rw [hq] at hd; cases hd
    | some q =>
      rw [hq] at hd; cases hd
      have hq' := List.getElem?_zip_eq_some.mp hq
      obtain ⟨v, hv, rv⟩ := r.get hq'.1
      obtain ⟨w, hw, rw'⟩ := r'.get hq'.2
      have e1 := hy xs hs
      rw [hv] at e1; cases e1
      have e2 := hz ys hs'
      rw [hw] at e2; cases e2
      exact new_tup (xs := [_, _]) (ds := [q.1, q.2]) f' hT (.cons (rv.mono f) (.one (rw'.mono f)))
def iZ (f : Ev (List Opd)) : Ev (List D) := fun S st => (f S st).bind fun a S st => match vds S a with
  | some [d, e] => match asL d, asL e with
    | some ds, some es => .ok (zipD ds es) S st
    | _, _ => .stuck
  | _ => .stuck
theorem di_z {elts : List Expr} {kk : Nat} {tpos : Pos} {e2 : Expr} {f : Ev (List Opd)} {p : Pos} (hm : X.mg "zip" = none) (h : DA X B W [e, e2] f) (hg : Gl X "zip" := by rfl) (hs : starEach [e, e2] X.env = (false, eval e X.env) :: starEach [e2] X.env := by rfl) (hpl : (backTo pos (starEach [e2] X.env)).any (·.1) = false := by rfl) : DI X B W (.Tuple elts kk tpos) (.Call (.Name "zip" p) [e, e2] [] pos) (iZ f) :=
  pi_imp (pi_zip hg hm h hs hpl) fun σ H R ⟨F, S, st, o, q⟩ => ⟨F, S, st, o, (Post.bind (R := RpO (Cx.g X) σ) q).mono fun vs H1 ⟨F1, d, S1, st1, g1, o1, r1, p1⟩ => by
    split at p1
    · rename_i d e hd
      split at p1
      · rename_i ds es hds hes
        have ra := o1.vds r1 hd
        cases ra with
        | cons h t =>
          cases t with
          | cons h' t =>
            cases t
            obtain ⟨p, xs, rfl, h1, h2⟩ := rp_asL h hds
            obtain ⟨p', ys, rfl, h1', h2'⟩ := rp_asL h' hes
            exact ⟨p, p', xs, ys, rfl, o1.fH.seq h1, o1.fH.seq h1', p1 _ H1 F1 .refl o1 (walks_z h1 h2 h1' h2')⟩
      · exact p1.elim
    · exact p1.elim⟩
theorem walks_v {F : Fz} {K : PySem.W.Frag} {a : Addr} {xs : List V} {ds : List D} {mg} {w : World} (h : SqL K F a xs) (r : RpAll ⟨K, mg, w⟩ F xs ds) : Walks ⟨K, mg, w⟩ (Itv K a xs.length) F ds.reverse := fun F' H' f f' i => by
  have hs := f'.seq (f.1.seq h)
  have rl := r.length
  refine ⟨fun hi => ?_, fun hi => ?_, fun d hd x H2 ⟨e, y⟩ => ?_⟩
  · rw [List.length_reverse] at hi
    obtain ⟨v, hv, _⟩ := r.get (List.getElem?_eq_getElem (show xs.length - 1 - i < ds.length by omega))
    exact ⟨by omega, xs, v, hs, hv⟩
  · rw [List.length_reverse] at hi
    show xs.length ≤ i
    omega
  · subst e
    have hi : i < ds.length := by
      have := (List.getElem?_eq_some_iff.mp hd).1
      rwa [List.length_reverse] at this
    rw [List.getElem?_reverse hi] at hd
    rw [← rl] at hd
    obtain ⟨v, hv, rv⟩ := r.get hd
    have := y xs hs
    rw [hv] at this; cases this
    exact ⟨F', Same.refl _, f', .refl, rv.mono f⟩
def iV (f : Ev (List Opd)) : Ev (List D) := fun S st => (f S st).bind fun a S st => match vds S a with
  | some [d] => match asL d with
    | some ds => .ok ds.reverse S st
    | none => .stuck
  | _ => .stuck
theorem di_v {f : Ev (List Opd)} {p : Pos} (hm : X.mg "reversed" = none) (h : DA X B W [e] f) (hg : Gl X "reversed" := by rfl) (hs : starEach [e] X.env = [(false, eval e X.env)] := by rfl) : DI X B W tg (.Call (.Name "reversed" p) [e] [] pos) (iV f) :=
  pi_imp (pi_reversed hg hm h hs) fun σ H R ⟨F, S, st, o, q⟩ => ⟨F, S, st, o, (Post.bind (R := RpO (Cx.g X) σ) q).mono fun vs H1 ⟨F1, d, S1, st1, g1, o1, r1, p1⟩ => by
    split at p1
    · rename_i d hd
      split at p1
      · rename_i ds hds
        have ra := o1.vds r1 hd
        cases ra with
        | cons h t =>
          cases t
          obtain ⟨p, xs, rfl, h1, h2⟩ := rp_asL h hds
          exact ⟨p, xs, rfl, o1.fH.seq h1, p1 _ H1 F1 .refl o1 (walks_v h1 h2)⟩
      · exact p1.elim
    · exact p1.elim⟩
end
/-- the built-ins' names are the module's own nowhere -/
structure Bl (mg : Str → Option Value) : Prop where
  len : mg "len" = none
  isinstance : mg "isinstance" = none
  str : mg "str" = none
  int : mg "int" = none
  bool : mg "bool" = none
  list : mg "list" = none
  tuple : mg "tuple" = none
  dict : mg "dict" = none
  set : mg "set" = none
  range : mg "range" = none
  enumerate : mg "enumerate" = none
  zip : mg "zip" = none
  reversed : mg "reversed" = none
  sorted : mg "sorted" = none
  sum : mg "sum" = none
  all : mg "all" = none
  any : mg "any" = none
  abs : mg "abs" = none
  max : mg "max" = none
  min : mg "min" = none
  ord : mg "ord" = none
  divmod : mg "divmod" = none
  repr : mg "repr" = none
end DL

namespace DL
open PySem PySem.Spec PyProof.Rows L2
/-! ### defs with a default for the last parameter -/
section
variable {P : Program} {w : World} {K : PySem.W.Frag} {mg : Str → Option Value} {base : Heap}
theorem fnD_ok {x qual : Str} {st : Stmt} {f : Addr} {fd : FuncData} {N ps : List Str} {k : Nat} {b : EvS} {dvs : List V} (F : FunD K x qual (defArgs st) (defBody st) (defScope st) dvs [] f fd) (S : FnScope N ps (defScope st))
    (body : ∀ (B : Hp) (cdv : Value) (A : Around) (outer : List Env) (s : Shared) (H : Hp) (E : XK) (W : WX), Room k (A.deeper (envOfC qual (defScope st) s.heap.objs.size f cdv)) →
      Takes (cxOf (L2.CX P w) P w K mg base N qual (defScope st) f cdv A outer s H E) W → PassesOwn (model P w) (A.deeper (envOfC qual (defScope st) s.heap.objs.size f cdv)) (envOfC qual (defScope st) s.heap.objs.size f cdv) (cxOf (L2.CX P w) P w K mg base N qual (defScope st) f cdv A outer s H E).xe →
      DSs (cxOf (L2.CX P w) P w K mg base N qual (defScope st) f cdv A outer s H E) B W (defBody st) b) : FnOk P w K mg base (L2.CX P w) (k + 1) f fd ps (spOf ⟨K, mg, w⟩ ps.length (runB N.length b)) := by
  refine F.ok S (fun vs H Q E h => h.1) (fun cdv A outer s H vs Q E hr h => ?_)
  obtain ⟨hl, F0, ds, st0, f0, so0, r, q⟩ := h
  refine ⟨_, body (hid F0.m H) cdv A outer s H E (fun cls d _ H' => E cls d H') hr (takes_of rfl rfl rfl rfl) (passes_of rfl), ?_⟩
  have hN : ps.length ≤ N.length := by have := congrArg List.length S.pre; rw [List.length_take] at this; omega
  refine ⟨F0, _, st0, Ok.start f0 (hid_same _ _) so0 r (by omega), ?_⟩
  unfold runB at q
  revert q
  generalize b (ds.map Sl.d ++ List.replicate (N.length - ds.length) .no) st0 = r
  intro q
  cases r with
  | nx S1 st1 => exact fun σ' H' F' g o => q .non H' F' o.kp o.fH g o.so .non
  | ret d S1 st1 => exact fun v σ' H' F' g o rr => q v H' F' o.kp o.fH g o.so rr
  | exc y S1 st1 => exact fun c d σ' H' F' g o rr => q c d H' F' o.kp o.fH g o.so rr
  | bk S1 st1 => exact q.elim
  | ct S1 st1 => exact q.elim
  | rto w1 S1 st1 => exact q.elim
  | stuck => exact q.elim
/-- x, called in full or without the last one, whose default is v (of datum dv), or with it by its name kn -/
structure DefV (P : Program) (w : World) (K : PySem.W.Frag) (mg : Str → Option Value) (base : Heap) (k : Nat) (x : Str) (n : Nat) (c : CallT) (v : V) (kn : Str) : Prop where
  ex : ∃ f fd ps, FnOk P w K mg base (L2.CX P w) k f fd ps (spOf ⟨K, mg, w⟩ (n + 1) c) ∧ Binds K fd ps [] ∧ (∃ u, RelV v u ∧ Binds K fd ps [u]) ∧ KBn K fd ps n [kn] (fun us ws => us ++ ws) (fun vs zs => vs ++ zs) ∧ mg x = some (.ref f) ∧ PySem.W.keepIn K (.ref f) = true
theorem DefV.mono {k j : Nat} {x : Str} {n : Nat} {c : CallT} {v : V} {kn : Str} (d : DefV P w K mg base k x n c v kn) (h : k ≤ j) : DefV P w K mg base j x n c v kn := by
  obtain ⟨f, fd, ps, a, b, c, e, g, i⟩ := d.ex
  exact ⟨f, fd, ps, a.mono h, b, c, e, g, i⟩
theorem DefV.full {k : Nat} {x : Str} {n : Nat} {c : CallT} {v : V} {kn : Str} (d : DefV P w K mg base k x n c v kn) : Def P w K mg base k x (n + 1) c := by
  obtain ⟨f, fd, ps, a, b, c, e, g, i⟩ := d.ex
  exact ⟨f, fd, ps, a, b, g, i⟩
theorem defV_ok {x qual : Str} {st : Stmt} {f : Addr} {fd : FuncData} {N ps : List Str} {k n : Nat} {b : EvS} {v : V} {kn : Str} (F : FunD K x qual (defArgs st) (defBody st) (defScope st) [v] [] f fd) (S : FnScope N ps (defScope st)) (hm : mg x = some (.ref f)) (hn : ps.length = n + 1)
    (hfull : ∀ (T : Addr) (kV doc pm : Value) (an : Option Addr) (cdv ct : Value) (us its : List Value), us.length = n + 1 → its.length = 1 →
      ∃ k, bindArgs (PySem.W.fnOf x qual (defArgs st) (defBody st) (defScope st) (.ref T) kV doc pm an cdv ct) ⟨us, []⟩ = seqItems? (.ref T) >>= k ∧ k (some its.toArray) = pure (ps.zip (us ++ its.drop 1)))
    (hshort : ∀ (T : Addr) (kV doc pm : Value) (an : Option Addr) (cdv ct : Value) (us its : List Value), us.length = n → its.length = 1 →
      ∃ k, bindArgs (PySem.W.fnOf x qual (defArgs st) (defBody st) (defScope st) (.ref T) kV doc pm an cdv ct) ⟨us, []⟩ = seqItems? (.ref T) >>= k ∧ k (some its.toArray) = pure (ps.zip (us ++ its.drop 0)))
    (hkw : ∀ (T : Addr) (kV doc pm : Value) (an : Option Addr) (cdv ct : Value) (us its ws : List Value), us.length = n → its.length = 1 → ws.length = 1 →
      ∃ k, bindArgs (PySem.W.fnOf x qual (defArgs st) (defBody st) (defScope st) (.ref T) kV doc pm an cdv ct) ⟨us, [kn].zip ws⟩ = seqItems? (.ref T) >>= k ∧ k (some its.toArray) = pure (ps.zip (us ++ ws)))
    (body : ∀ (B : Hp) (cdv : Value) (A : Around) (outer : List Env) (s : Shared) (H : Hp) (E : XK) (W : WX), Room k (A.deeper (envOfC qual (defScope st) s.heap.objs.size f cdv)) →
      Takes (cxOf (L2.CX P w) P w K mg base N qual (defScope st) f cdv A outer s H E) W → PassesOwn (model P w) (A.deeper (envOfC qual (defScope st) s.heap.objs.size f cdv)) (envOfC qual (defScope st) s.heap.objs.size f cdv) (cxOf (L2.CX P w) P w K mg base N qual (defScope st) f cdv A outer s H E).xe →
      DSs (cxOf (L2.CX P w) P w K mg base N qual (defScope st) f cdv A outer s H E) B W (defBody st) b) : DefV P w K mg base (k + 1) x n (runB N.length b) v kn := by
  have h1 := fnD_ok F S body
  rw [hn] at h1
  obtain ⟨d1, r1, b1⟩ := F.binds1 (ps := ps) (n + 1) 1 (by simp) (by simp [hn]) hfull
  obtain ⟨d0, r0, b0⟩ := F.binds1 (ps := ps) n 0 (by simp) (by simp [hn]) hshort
  obtain ⟨its, kb⟩ := F.kbindsD (ps := ps) n [kn] (fun us _ ws => us ++ ws) (by simp) (fun a _ c => a.append c) hkw
  cases r1
  cases r0 with
  | cons a t =>
    cases t
    exact ⟨f, fd, ps, h1, b1, ⟨_, a, b0⟩, kb, hm, F.kp⟩
/-- the default's tuple as it stands behind the top -/
theorem funD_mk {x qual : Str} {st : Stmt} {f T : Addr} {oc oc2 : Value} {od an od2 : Option Addr} {osl sl2 : Array (Option Value)} {kV doc pm cdv ct u : Value} {n2 : Nat} {v : V} (l : K.lookup f = some ⟨oc, od, .func (PySem.W.fnOf x qual (defArgs st) (defBody st) (defScope st) (.ref T) kV doc pm an cdv ct), osl⟩)
    (lT : K.lookup T = some ⟨oc2, od2, .seq #[u] n2, sl2⟩) (ru : RelV v u) (c : PySem.W.codeIn K cdv qual = true) (k : PySem.W.keepIn K (.ref f) = true) : FunD K x qual (defArgs st) (defBody st) (defScope st) [v] [] f (PySem.W.fnOf x qual (defArgs st) (defBody st) (defScope st) (.ref T) kV doc pm an cdv ct) :=
  ⟨⟨oc, od, .ref T, kV, doc, pm, an, cdv, ct, osl, rfl, l, c, .inr ⟨by simp, T, _, [u], n2, rfl, lT, rfl, .cons ru .nil⟩, .inl rfl⟩, k⟩
end
/-- called without the last one -/
def cDf (c : CallT) (d : D) : CallT := fun ds st => c (ds ++ [d]) st
def tCallP (sp : Sp) (E : L2.St → XK) (ws : List V) (t : TA) : TE := fun σ H Q => t σ H fun vs H1 => sp (vs ++ ws) H1 Q (E σ)
def tCallQ (n : Nat) (sp : Sp) (E : L2.St → XK) (t tk : TA) : TE := fun σ H Q => t σ H fun vs H1 => tk σ H1 fun zs H2 => vs.length = n ∧ zs.length = 1 ∧ sp (vs ++ zs) H2 Q (E σ)
section
variable {X : Cx} {B : Hp} {W : WX} {e e2 : Expr} {es : List Expr} {pos p kpos : Pos} {k n : Nat} {x kn : Str} {c : CallT}
theorem run_dfl {f : Addr} {fd : FuncData} {ps : List Str} {sp : Sp} {pins : List (Addr × Obj)} {σ : L2.St} {H : Hp} {s : Shared} {Q : VK} {us ds : List Value} {vs ws : List V} (F : FnOk X.prog X.w X.K X.mg X.base (L2.CX X.prog X.w) k f fd ps sp) (hr : Room k X.A) (hb : Binds X.K fd ps ds) (tk : Takes X W)
    (I : Inv X pins σ H s) (r : Vals vs us) (rd : Vals ws ds) (h : sp (vs ++ ws) H Q (WE W σ)) : wpAny (model X.prog X.w) X.A (call (.ref f) us) (EP X pins σ Q) X.xe s := by
  have hl : (us ++ ds).length = ps.length := (r.append rd).length.symm.trans (F.len _ _ _ _ h)
  refine wpAny_call (codeAny_mono (F.run X.A X.stack s H ⟨us, []⟩ (us ++ ds) (vs ++ ws) Q (WE W σ) hr I.env0 (hb s us I.kIn hl) (r.append rd) h) fun y s2 hq => ?_)
  match y, hq with
  | .error u, hq => exact passAt tk σ pins H s u s2 I hq
  | .ok (.ret u), hq => exact I.after hq
  | .ok .next, hq => exact hq.elim
  | .ok .brk, hq => exact hq.elim
  | .ok .cont, hq => exact hq.elim
theorem run_kwl {f : Addr} {fd : FuncData} {ps : List Str} {sp : Sp} {pins : List (Addr × Obj)} {σ : L2.St} {H : Hp} {s : Shared} {Q : VK} {us ws : List Value} {vs zs : List V} (F : FnOk X.prog X.w X.K X.mg X.base (L2.CX X.prog X.w) k f fd ps sp) (hr : Room k X.A) (hb : KBn X.K fd ps n [kn] (fun us ws => us ++ ws) (fun vs zs => vs ++ zs)) (tk : Takes X W)
    (I : Inv X pins σ H s) (r : Vals vs us) (rz : Vals zs ws) (l1 : vs.length = n) (l2 : zs.length = 1) (h : sp (vs ++ zs) H Q (WE W σ)) : wpAny (model X.prog X.w) X.A (call (.ref f) us ([kn].zip ws)) (EP X pins σ Q) X.xe s := by
  have e1 : us.length = n := r.length.symm.trans l1
  have e2 : ws.length = 1 := rz.length.symm.trans l2
  refine wpAny_call (codeAny_mono (F.run X.A X.stack s H ⟨us, [kn].zip ws⟩ (us ++ ws) (vs ++ zs) Q (WE W σ) hr I.env0 (hb.to s us ws I.kIn e1 e2) (hb.rel r rz) h) fun y s2 hq => ?_)
  match y, hq with
  | .error u, hq => exact passAt tk σ pins H s u s2 I hq
  | .ok (.ret u), hq => exact I.after hq
  | .ok .next, hq => exact hq.elim
  | .ok .brk, hq => exact hq.elim
  | .ok .cont, hq => exact hq.elim
theorem pe_callP {f : Addr} {fd : FuncData} {ps : List Str} {sp : Sp} {ds : List Value} {ws : List V} {t : TA} (F : FnOk X.prog X.w X.K X.mg X.base (L2.CX X.prog X.w) k f fd ps sp) (hr : Room k X.A) (hg : Gl X x) (hm : X.mg x = some (.ref f)) (hk : PySem.W.keepIn X.K (.ref f) = true) (hb : Binds X.K fd ps ds) (rd : Vals ws ds) (tk : Takes X W)
    (ha : PA X (e :: es) t) (hdb : (x == ("__debug__" : Str)) = false := by decide) (he : starEach (e :: es) X.env = (false, eval e X.env) :: starEach es X.env := by rfl) (hpl : (backTo pos (starEach es X.env)).any (·.1) = false := by rfl) :
    PE X (.Call (.Name x p) (e :: es) [] pos) (tCallP sp (WE W) ws t) := by
  refine ⟨fun pins s σ H Q I h => ?_⟩
  refine wpAny_Call_Name_kw (ld_glob I hg hm ?_ hdb)
  exact PySem.W.callWith_K (h₀ := X.base) I.ok.mod.kin hk (thn (ha.run pos pins s σ H _ I h) fun us s1 ⟨vs, H1, I1, r, q⟩ => ⟨I1.kIn, run_dfl F hr hb tk I1 r rd q⟩) he hpl
theorem pe_callQ {f : Addr} {fd : FuncData} {ps : List Str} {sp : Sp} {t tkw : TA} {kws : List Keyword} (F : FnOk X.prog X.w X.K X.mg X.base (L2.CX X.prog X.w) k f fd ps sp) (hr : Room k X.A) (hg : Gl X x) (hm : X.mg x = some (.ref f)) (hk : PySem.W.keepIn X.K (.ref f) = true) (hb : KBn X.K fd ps n [kn] (fun us ws => us ++ ws) (fun vs zs => vs ++ zs)) (tk : Takes X W)
    (ha : PA X (e :: es) t) (hkw : PK X kws tkw) (hall : (backToKw pos (keywordEach kws X.env)).all (·.1.isSome) = true := by rfl) (hks : (backToKw pos (keywordEach kws X.env)).filterMap (·.1) = [kn] := by rfl)
    (hdb : (x == ("__debug__" : Str)) = false := by decide) (he : starEach (e :: es) X.env = (false, eval e X.env) :: starEach es X.env := by rfl)
    (hpl : ((backTo pos (starEach (e :: es) X.env)).any (·.1) || (backToKw pos (keywordEach kws X.env)).any (·.1.isNone)) = false := by rfl) :
    PE X (.Call (.Name x p) (e :: es) kws pos) (tCallQ n sp (WE W) t tkw) := by
  refine ⟨fun pins s σ H Q I h => ?_⟩
  refine wpAny_Call_Name_kw (ld_glob I hg hm ?_ hdb)
  refine PySem.W.callWith_KW (h₀ := X.base) I.ok.mod.kin hk hall (thn (ha.run pos pins s σ H _ I h) fun us s1 ⟨vs, H1, I1, r, q⟩ => thn (hkw.run pos pins s1 σ H1 _ I1 q) fun ws s2 ⟨zs, H2, I2, rz, l1, l2, q2⟩ => ⟨I2.kIn, ?_⟩) hpl he
  rw [hks]
  exact run_kwl F hr hb tk I2 r rz l1 l2 q2
theorem sp_dfl {G : Gx} {v : V} {d : D} {vs : List V} {H : Hp} {Q : VK} {E : XK} (hv : ∀ F, Rp G F v d) (h : spOf G n (cDf c d) vs H Q E) : spOf G (n + 1) c (vs ++ [v]) H Q E := by
  obtain ⟨hl, F, ds, st, f, so, r, q⟩ := h
  exact ⟨by simp [hl], F, ds ++ [d], st, f, so, r.append (.one (hv F)), q⟩
/-- x(e, ..), the last one by its default -/
theorem de_cD {fa : Ev (List Opd)} {v : V} (dv : D) (d : DefV X.prog X.w X.K X.mg X.base k x n c v kn) (hv : ∀ F, Rp (Cx.g X) F v dv) (hr : Room k X.A) (tk : Takes X W) (ha : DA X B W (e :: es) fa) (hl : aLen fa n := by repeat (first | exact aLen_n | refine aLen_c ?_)) (hg : Gl X x := by rfl) (hdb : (x == ("__debug__" : Str)) = false := by decide)
    (he : starEach (e :: es) X.env = (false, eval e X.env) :: starEach es X.env := by rfl) (hpl : (backTo pos (starEach es X.env)).any (·.1) = false := by rfl) : DE X B W (.Call (.Name x p) (e :: es) [] pos) (cE (cDf c dv) fa) := by
  obtain ⟨f, fd, ps, F, _, ⟨u, ru, hb⟩, _, hm, hk⟩ := d.ex
  refine pe_imp (pe_callP F hr hg hm hk hb (.cons ru .nil) tk ha hdb he hpl) fun σ H Q q => ?_
  obtain ⟨F0, S, st, o, q⟩ := call_lift (n := n) hl q
  exact ⟨F0, S, st, o, q.mono fun vs H1 z => sp_dfl hv z⟩
/-- x(e, .., kn=e2) -/
def cKE (c : CallT) (fa : Ev (List Opd)) (f2 : Ev D) : Ev D := fun S st => (fa S st).bind fun a S st => (f2 S st).bind fun d S st => match vds S a with
  | some ds => match c (ds ++ [d]) st with
    | .ok d _ st => .ok d S st
    | .exc x _ st => .exc x S st
    | .stuck => .stuck
  | none => .stuck
theorem Opd_len {G : Gx} {σ : L2.St} {F : Fz} {vs : List V} {as : List Opd} (h : RpO G σ F vs as) : vs.length = as.length := by
  induction h with
  | nil => rfl
  | cons _ _ ih => simp [ih]
theorem de_cK {fa : Ev (List Opd)} {f2 : Ev D} {v : V} (d : DefV X.prog X.w X.K X.mg X.base k x n c v kn) (hr : Room k X.A) (tk : Takes X W) (ha : DA X B W (e :: es) fa) (h2 : DE X B W e2 f2) (hl : aLen fa n := by repeat (first | exact aLen_n | refine aLen_c ?_)) (hg : Gl X x := by rfl) (hdb : (x == ("__debug__" : Str)) = false := by decide)
    (hall : (backToKw pos (keywordEach [⟨some kn, e2, kpos⟩] X.env)).all (·.1.isSome) = true := by rfl) (hks : (backToKw pos (keywordEach [⟨some kn, e2, kpos⟩] X.env)).filterMap (·.1) = [kn] := by rfl)
    (he : starEach (e :: es) X.env = (false, eval e X.env) :: starEach es X.env := by rfl) (hpl : ((backTo pos (starEach (e :: es) X.env)).any (·.1) || (backToKw pos (keywordEach [⟨some kn, e2, kpos⟩] X.env)).any (·.1.isNone)) = false := by rfl) : DE X B W (.Call (.Name x p) (e :: es) [⟨some kn, e2, kpos⟩] pos) (cKE c fa f2) := by
  obtain ⟨f, fd, ps, F, _, _, hb, hm, hk⟩ := d.ex
  refine pe_imp (pe_callQ F hr hg hm hk hb tk ha (pk_cons h2 pk_nil) hall hks hdb he hpl) fun σ H Q ⟨F0, S, st, o, q⟩ => ?_
  have hlen := hl S st
  refine ⟨F0, S, st, o, ?_⟩
  unfold cKE at q
  generalize fa S st = r at q hlen
  cases r with
  | exc y S1 st1 => exact q
  | stuck => exact q
  | ok a S1 st1 =>
    intro vs H1 F1 g1 o1 r1
    have q : Post (Cx.g X) B W (RD (Cx.g X) σ) σ F0 Q ((f2 S1 st1).bind fun d S st => match vds S a with
      | some ds => match c (ds ++ [d]) st with
        | .ok d _ st => .ok d S st
        | .exc x _ st => .exc x S st
        | .stuck => .stuck
      | none => .stuck) := q
    have q := Post.grow g1 q
    refine ⟨F1, S1, st1, o1, (Post.bind (R := RD (Cx.g X) σ) q).mono fun v2 H2 ⟨F2, d2, S2, st2, g2, o2, r2, p2⟩ => ?_⟩
    have l1 : vs.length = n := (Opd_len r1).trans (hlen _ _ _ rfl)
    refine ⟨l1, rfl, ?_⟩
    split at p2
    · rename_i ds hds
      have ra := o2.vds (r1.mono g2.1) hds
      refine ⟨by simp [l1], F2, ds ++ [d2], st2, o2.fH, o2.so.hid, ra.append (.one r2), ?_⟩
      revert p2
      generalize c (ds ++ [d2]) st2 = r
      intro p2
      cases r with
      | ok _ _ _ => exact fun v H' F' k f gr so rr => p2 v H' F' (o2.back k f gr so).1 (o2.back k f gr so).2 rr
      | exc _ _ _ => exact fun cls dd H' F' k f gr so rr => p2 cls dd H' F' (o2.back k f gr so).1 (o2.back k f gr so).2 rr
      | stuck => exact p2.elim
    · exact p2.elim
end
section
variable {S : Sls} {st : Store}
@[simp] theorem cKE_a (c : CallT) (fa : Ev (List Opd)) (f2 : Ev D) : cKE c fa f2 S st = (fa S st).bind fun a S st => (f2 S st).bind fun d S st => match vds S a with
  | some ds => match c (ds ++ [d]) st with
    | .ok d _ st => .ok d S st
    | .exc x _ st => .exc x S st
    | .stuck => .stuck
  | none => .stuck := rfl
@[simp] theorem cDf_a (c : CallT) (d : D) (ds : List D) : cDf c d ds st = c (ds ++ [d]) st := rfl
end
end DL

namespace DL
open PySem PySem.Spec PyProof.Rows L2
/-! ### xs[j] += e, of a slot's own list -/
theorem pg_lst {X : Cx} : PGet X (rIxL X.K) := by
  intro pins s σ H x y v u Q I rx ry h
  obtain ⟨p, xs, i, z, rfl, rfl, hq, he, q⟩ := h
  cases rx
  obtain ⟨t, rfl⟩ := ry
  obtain ⟨its, r, pl, hz⟩ := I.list hq
  obtain ⟨j, g1, g2, g3, g4, g5⟩ := atI_get he
  obtain ⟨w, ew, rw'⟩ := r.get g2
  have hl := r.length
  have hn := line63
  have fin : EP X pins σ Q w s := ⟨z, H, I, rw', q⟩
  by_cases i0 : 0 ≤ i
  · have hj : i.toNat = j := by
      rw [seqIndex_of i0 g5] at g1; exact Option.some.inj g1
    exact wpAny_getItem_list pl.isList i0 (by omega) (by rw [hj]; simpa using ew) fin
  · have hj : (i + (its.toArray.size : Int)).toNat = j := by
      rw [seqIndex_neg (by omega) g4] at g1
      rw [List.size_toArray, ← hl]; exact Option.some.inj g1
    exact wpAny_getItem_list_neg pl.isList (by omega) (by rw [List.size_toArray]; omega) (by omega) (by rw [hj]; simpa using ew) fin
def sAugS (i : Nat) (g : Int → Int → Int) (fj fv : Ev D) : EvS := fun S st => match S[i]? with
  | some (.own (.l _)) => (fj S st).out fun j S st => match j, S[i]? with
    | .int k, some (.own (.l ds)) => match L2.atI ds k with
      | some (.int a) => (fv S st).out fun y S st => match y, S[i]? with
        | .int b, some (.own (.l es)) => match ixN es.length k with
          | some j => .nx (S.set i (.own (.l (es.set j (.int (g a b)))))) st
          | none => .stuck
        | _, _ => .stuck
      | _ => .stuck
    | _, _ => .stuck
  | _ => .stuck
section
variable {X : Cx} {B : Hp} {W : WX} {e a b : Expr} {pos : Pos}
theorem ds_augS {i : Nat} {g : Int → Int → Int} {op : Operator} {fj fv : Ev D} {tpos : Pos} (ho : PE X a (tVar i)) (hj : DE X B W b fj) (hv : DE X B W e fv) (hp : PIp X op (ipI g))
    (hst : ∀ ov iv new, augStore b ov iv new = (do holding [new, ov, iv] (setItem ov iv new); release [new, ov, iv] []; pure .next) := by intros; rfl) : DS X B W (.AugAssign (.Subscript a b tpos) op e pos) (sAugS i g fj fv) :=
  ps_imp (ps_augS ho hj pg_lst hv hp set_list hst) fun D σ H ⟨F, S, st, o, q⟩ => by
    unfold sAugS at q
    split at q
    · rename_i ds0 hS0
      obtain ⟨p, u, e1, h1, h2, h3, r, _⟩ := o.sl i _ hS0
      refine ⟨_, e1, F, S, st, o, (Post.out (R := RD (Cx.g X) σ) q).mono fun jv H2 ⟨F2, jd, S2, st2, g2, o2, r2, p2⟩ => ?_⟩
      split at p2
      · rename_i k ds hS2
        split at p2
        · rename_i n hn
          obtain ⟨p', u', e1', h1', h2', h3', r', _⟩ := o2.sl i _ hS2
          rw [e1] at e1'; cases e1'
          cases r' with
          | l r' =>
            cases r2
            obtain ⟨vv, hvv, rv⟩ := r'.atI hn
            cases rv
            refine ⟨p, _, k, _, rfl, rfl, SqL.of h1', hvv, F2, S2, st2, o2, (Post.out (R := RD (Cx.g X) σ) p2).mono fun yv H3 ⟨F3, yd, S3, st3, g3, o3, r3, p3⟩ => ?_⟩
            split at p3
            · rename_i m es hS3
              split at p3
              · rename_i j hj
                obtain ⟨p2', u2', e2', k1, k2, k3, rr, _⟩ := o3.sl i _ hS3
                rw [e1] at e2'; cases e2'
                cases rr with
                | l rr =>
                  cases r3
                  exact ⟨n, m, rfl, rfl, p, _, k, j, rfl, rfl, k1, by rw [rr.length]; exact hj, p3 σ _ F3 .refl (o3.chg hS3 e1 (.l (rr.set j (.int _))))⟩
              · exact p3.elim
            · exact p3.elim
        · exact p2.elim
      · exact p2.elim
    · exact q.elim
end
end DL

namespace DL
open PySem PySem.Spec PyProof.Rows L2
section
variable {G : Gx} {X : Cx}
/-! ### texts: join, parts -/
def joinN (a : List Nat) : List (List Nat) → List Nat
  | [] => []
  | [x] => x
  | x :: y :: r => x ++ a ++ joinN a (y :: r)
theorem join_tx (a : List Nat) : ∀ ss : List (List Nat), Txt.join (tx a) (ss.map tx) = tx (joinN a ss) := fun ss => by
  show Builtin.Str.glued (tx a) (ss.map tx) = _
  rw [StrLaws.glued_eq_join]
  induction ss with
  | nil => rfl
  | cons x r ih =>
    cases r with
    | nil => rfl
    | cons y r =>
      show tx x ++ tx a ++ Str.join (tx a) ((y :: r).map tx) = _
      rw [ih, tx_app, tx_app]; rfl
theorem okS_join {a : List Nat} (h : okS a = true) : ∀ {ss : List (List Nat)}, (∀ s ∈ ss, okS s = true) → okS (joinN a ss) = true
  | [], _ => rfl
  | [x], k => k x (List.mem_cons_self ..)
  | x :: y :: r, k => okS_app (okS_app (k x (List.mem_cons_self ..)) h) (okS_join h fun s m => k s (List.mem_cons_of_mem _ m))
theorem strs_ok {F : Fz} : ∀ {xs : List V} {ss : List (List Nat)}, RpAll G F xs (ss.map D.str) → ∀ s ∈ ss, okS s = true
  | _, [], _, s, m => by cases m
  | _ :: _, x :: r, .cons h t, s, m => by
    cases h with
    | str _ o =>
      rcases List.mem_cons.mp m with e | m
      · rw [e]; exact o
      · exact strs_ok t s m
def dJoin : D → List D → Option D
  | .str a, [d] => match seqD d with
    | some ds => match strsD ds with
      | some ss => if (ss.map (·.length)).sum + ss.length * a.length ≤ 16777216 then some (.str (joinN a ss)) else none
      | none => none
    | none => none
  | _, _ => none
theorem op_dJoin : OpM G (fun x xs H Q => ∃ a p, ∃ ys : List Str, x = .str a ∧ xs = [.ref p] ∧ (SqL G.K H p (ys.map V.str) ∨ SqT G.K H p (ys.map V.str)) ∧ (ys.map (·.length)).sum + ys.length * a.length ≤ 16777216 ∧ Q (.str (Txt.join a ys)) H) dJoin := fun F H v vs x xs d f hv hvs e => by
  unfold dJoin at e
  split at e
  · rename_i a d1
    split at e
    · rename_i ds hds
      split at e
      · rename_i ss hss
        split at e
        · rename_i hle
          cases e
          obtain ⟨rfl, o⟩ := hv.str_eq
          cases hvs with
          | cons h t =>
            cases t
            obtain ⟨p, ys, rfl, h1, h2⟩ := h.seq f hds
            cases strs_eq hss
            cases rp_strs_inv h2
            have o2 := strs_ok h2
            refine gives_v (.str _ (okS_join o o2)) f fun Q q => ⟨_, _, _, rfl, rfl, h1, ?_, by rw [join_tx]; exact q⟩
            have e1 : ((ss.map tx).map (·.length)) = ss.map (·.length) := by
              rw [List.map_map]; exact List.map_congr_left fun s _ => tx_len s
            rw [e1, List.length_map, tx_len]; exact hle
        · cases e
      · cases e
    · cases e
  · cases e
/-- new lists of texts -/
theorem gives_strs {F : Fz} {H : Hp} {r : VK → Prop} {ss : List (List Nat)} (o : ∀ s ∈ ss, okS s = true) (f : Same F.f H) (h : ∀ Q : VK, rNewStrs (ss.map tx) H Q → r Q) : Gives r G F H (.lst (ss.map .str)) := by
  have rp : RpAll G F ((ss.map tx).map V.str) (ss.map D.str) := by rw [List.map_map]; exact rp_strs G F ss o
  exact gives_lst rp f fun Q q => h Q q
def cpsL (ys : List Str) : List (List Nat) := ys.map fun y => y.cps.toList
theorem map_tx_cps (ys : List Str) : (cpsL ys).map tx = ys := by
  unfold cpsL; rw [List.map_map]
  exact (List.map_congr_left fun y _ => tx_cps y).trans (List.map_id _)
def dSplit : D → List D → Option D
  | .str a, [.str b] => if 0 < b.length ∧ a.length + 2 ≤ 16777216 ∧ (∀ s ∈ cpsL (Txt.split (tx a) (tx b)), okS s = true) then some (.lst ((cpsL (Txt.split (tx a) (tx b))).map .str)) else none
  | _, _ => none
theorem op_dSplit : OpM G (fun x xs H Q => ∃ a b, x = .str a ∧ xs = [.str b] ∧ (b.length == 0) = false ∧ a.length + 2 ≤ sizeLine ∧ rNewStrs (Txt.split a b) H Q) dSplit := fun F H v vs x xs d f hv hvs e => by
  unfold dSplit at e
  split at e
  · split at e
    · rename_i h
      cases e
      obtain ⟨rfl, o⟩ := hv.str_eq
      cases hvs with
      | cons h1 t =>
        cases t
        obtain ⟨rfl, o1⟩ := h1.str_eq
        exact gives_strs h.2.2 f fun Q q => ⟨_, _, rfl, rfl, by rw [tx_len]; exact beq_false_of_ne (by omega), by rw [tx_len, sizeLine_eq]; exact h.2.1, by rw [map_tx_cps] at q; exact q⟩
    · cases e
  · cases e
def dWords : D → Option D
  | .str a => if a.length + 2 ≤ 16777216 ∧ (∀ s ∈ cpsL (Txt.words (tx a)), okS s = true) then some (.lst ((cpsL (Txt.words (tx a))).map .str)) else none
  | _ => none
theorem op_dWords : Op1 G (fun x H Q => ∃ a, x = .str a ∧ ([] : List V) = [] ∧ a.length + 2 ≤ sizeLine ∧ rNewStrs (Txt.words a) H Q) dWords := fun F H v x d f hv e => by
  unfold dWords at e
  split at e
  · split at e
    · rename_i h
      cases e
      obtain ⟨rfl, o⟩ := hv.str_eq
      exact gives_strs h.2 f fun Q q => ⟨_, rfl, rfl, by rw [tx_len, sizeLine_eq]; exact h.1, by rw [map_tx_cps] at q; exact q⟩
    · cases e
  · cases e
def d2S (g : List Nat → List Nat → D) : D → List D → Option D
  | .str a, [.str b] => some (g a b)
  | _, _ => none
def dStarts := d2S fun a b => .bl (Txt.startswith (tx a) (tx b))
def dEnds := d2S fun a b => .bl (Txt.endswith (tx a) (tx b))
def dFind := d2S fun a b => .int (Txt.find (tx a) (tx b))
theorem op_dStarts : OpM G (fun x xs H Q => ∃ a b, x = .str a ∧ xs = [.str b] ∧ Q (.bl (Txt.startswith a b)) H) dStarts := fun F H v vs x xs d f hv hvs e => by
  unfold dStarts d2S at e
  split at e
  · cases e
    obtain ⟨rfl, o⟩ := hv.str_eq
    cases hvs with | cons h1 t => cases t; obtain ⟨rfl, o1⟩ := h1.str_eq; exact gives_v (.bl _) f fun Q q => ⟨_, _, rfl, rfl, q⟩
  · cases e
theorem op_dEnds : OpM G (fun x xs H Q => ∃ a b, x = .str a ∧ xs = [.str b] ∧ Q (.bl (Txt.endswith a b)) H) dEnds := fun F H v vs x xs d f hv hvs e => by
  unfold dEnds d2S at e
  split at e
  · cases e
    obtain ⟨rfl, o⟩ := hv.str_eq
    cases hvs with | cons h1 t => cases t; obtain ⟨rfl, o1⟩ := h1.str_eq; exact gives_v (.bl _) f fun Q q => ⟨_, _, rfl, rfl, q⟩
  · cases e
theorem op_dFind : OpM G (fun x xs H Q => ∃ a b, x = .str a ∧ xs = [.str b] ∧ Q (.int (Txt.find a b)) H) dFind := fun F H v vs x xs d f hv hvs e => by
  unfold dFind d2S at e
  split at e
  · cases e
    obtain ⟨rfl, o⟩ := hv.str_eq
    cases hvs with | cons h1 t => cases t; obtain ⟨rfl, o1⟩ := h1.str_eq; exact gives_v (.int _) f fun Q q => ⟨_, _, rfl, rfl, q⟩
  · cases e
/-! ### numbers as texts -/
def numS (i : Int) : List Nat := (Str.ofString (toString i)).cps.toList
theorem okS_str (x : String) : okS (Str.ofString x).cps.toList = true := by
  have : (Str.ofString x).cps.toList = x.toList.map Char.toNat := PyProof.Rows.signs_ofString x
  rw [this]
  unfold okS
  rw [List.all_map, List.all_eq_true]
  intro c _
  simp
  have := c.valid
  show c.val.toNat < 1114112
  rcases this with h | h
  · exact Nat.lt_trans h (by decide)
  · exact h.2
theorem okS_num (i : Int) : okS (numS i) = true := okS_str _
def dStr : List D → Option D
  | [.int i] => if i.natAbs.log2 < 1920 then some (.str (numS i)) else none
  | _ => none
theorem op_dStr : OpA G (fun xs H Q => ∃ i, xs = [.int i] ∧ i.natAbs.log2 < 1920 ∧ Q (.str (toString i)) H) dStr := fun F H vs xs d f hv e => by
  unfold dStr at e
  split at e
  · split at e
    · rename_i h
      cases e
      cases hv with | cons h1 t => cases t; cases h1.int_eq; exact gives_v (.str _ (okS_num _)) f fun Q q => ⟨_, rfl, h, q⟩
    · cases e
  · cases e
def rIntAll : List V → Hp → VK → Prop := fun xs H Q => ((∃ i, xs = [.int i] ∧ Q (.int i) H) ∨ ∃ k, xs = [.bl k] ∧ Q (.int (if k then 1 else 0)) H) ∨ (∃ a n, xs = [.str a] ∧ PySem.intText? a = some n ∧ a.length ≤ 640 ∧ Q (.int n) H)
theorem opR_int : CallR X (.type "int") rIntAll := CallR.or call_int1 call_int_str
def dInt : List D → Option D
  | [.int i] => some (.int i)
  | [.bl k] => some (.int (if k then 1 else 0))
  | [.str s] => if s.length ≤ 640 then (PySem.intText? (tx s)).map .int else none
  | _ => none
theorem op_dInt : OpA G rIntAll dInt := fun F H vs xs d f hv e => by
  unfold dInt at e
  split at e
  · cases e
    cases hv with | cons h1 t => cases t; cases h1.int_eq; exact gives_v (.int _) f fun Q q => .inl (.inl ⟨_, rfl, q⟩)
  · cases e
    cases hv with | cons h1 t => cases t; cases h1.bl_eq; exact gives_v (.int _) f fun Q q => .inl (.inr ⟨_, rfl, q⟩)
  · rename_i s
    split at e
    · rename_i h
      cases hn : PySem.intText? (tx s) with
      | none => rw [hn] at e; cases e
      | some n =>
        rw [hn] at e; cases e
        cases hv with | cons h1 t => cases t; obtain ⟨rfl, o1⟩ := h1.str_eq; exact gives_v (.int _) f fun Q q => .inr ⟨_, n, rfl, hn, by rw [tx_len]; exact h, q⟩
    · cases e
  · cases e
/-! ### x.index(y) -/
def dDivmod : List D → Option D
  | [.int i, .int j] => if 0 < j ∧ j.natAbs.log2 < 9000 then some (.tup [.int (i / j), .int (i % j)]) else none
  | _ => none
end
/-! ### a op b op c -/
section
variable {X : Cx} {B : Hp} {W : WX} {e a b c : Expr} {es : List Expr} {pos : Pos}
def o3E (op op' : D → D → Option D) (fa fb fc : Ev Opd) : Ev D := fun S st => (fa S st).bind fun a S st => (fb S st).bind fun b S st =>
  match vw S st a, vw S st b with
  | some x, some y => match op x y with
    | some (.bl true) => (fc S st).bind fun c S st => match vw S st b, vw S st c with
      | some y, some z => got (op' y z) S st
      | _, _ => .stuck
    | some (.bl false) => .ok (.bl false) S st
    | _ => .stuck
  | _, _ => .stuck
theorem op3_lift {r r' : R2} {op op' : D → D → Option D} {fa fb fc : Ev Opd} (h : Op2 (Cx.g X) r op) (h' : Op2 (Cx.g X) r' op') {σ : L2.St} {H : Hp} {Q : VK} (q : lift (Cx.g X) B W (RD (Cx.g X)) (o3E op op' fa fb fc) σ H Q) :
    tChain r r' (lift (Cx.g X) B W (RO (Cx.g X)) fa) (lift (Cx.g X) B W (RO (Cx.g X)) fb) (lift (Cx.g X) B W (RO (Cx.g X)) fc) σ H Q := by
  obtain ⟨F, S, st, o, q⟩ := q
  refine ⟨F, S, st, o, (Post.bind (R := RO (Cx.g X) σ) q).mono fun v H1 ⟨F1, d, S1, st1, g1, o1, r1, p1⟩ => ⟨F1, S1, st1, o1, (Post.bind (R := RO (Cx.g X) σ) p1).mono fun w H2 ⟨F2, d2, S2, st2, g2, o2, r2, p2⟩ => ?_⟩⟩
  split at p2
  · rename_i x y hx hy
    split at p2
    · rename_i hz
      refine h F2 H2 v w x y _ o2.fH (o2.vw (r1.mono g2.1) hx) (o2.vw r2 hy) hz _ fun v' H' F' k f gr rr => ?_
      cases rr
      refine ⟨_, rfl, ?_⟩
      simp only [if_true]
      refine ⟨⟨F', F2.m⟩, S2, st2, o2.grow gr k f, ?_⟩
      have g' : Gr B F2 ⟨F', F2.m⟩ := o2.gr gr
      refine (Post.grow g' (Post.bind (R := RO (Cx.g X) σ) p2)).mono fun u H3 ⟨F3, d3, S3, st3, g3, o3, r3, p3⟩ => ?_
      split at p3
      · rename_i y' z hy' hz'
        obtain ⟨t, ht, p3⟩ := got_ok p3
        exact (h' F3 H3 w u y' z t o3.fH (o3.vw (r2.mono g3.1) hy') (o3.vw r3 hz') ht).fin o3 p3
      · exact p3.elim
    · rename_i hz
      refine h F2 H2 v w x y _ o2.fH (o2.vw (r1.mono g2.1) hx) (o2.vw r2 hy) hz _ fun v' H' F' k f gr rr => ?_
      cases rr
      refine ⟨_, rfl, ?_⟩
      simp only [Bool.false_eq_true, if_false]
      exact p2 _ H' _ (o2.gr gr) (o2.grow gr k f) (.bl _)
    · exact p2.elim
  · exact p2.elim
theorem de_chain {o o' : CmpOp} {r r' : R2} {op op' : D → D → Option D} {fa fb fc : Ev Opd} (ho : OpR X (compareOp o) r) (h : Op2 (Cx.g X) r op) (ho' : OpR X (compareOp o') r') (h' : Op2 (Cx.g X) r' op') (ha : DO X B W a fa) (hb : DO X B W b fb) (hc : DO X B W c fc)
    (hm : lastMarks [o, o'] [b, c] = false := by with_unfolding_all rfl) : DE X B W (.Compare a [o, o'] [b, c] pos) (o3E op op' fa fb fc) :=
  pe_imp (pe_chain ho ho' ha hb hc hm) fun _ _ _ q => op3_lift h h' q
theorem dt_chain {o o' : CmpOp} {r r' : R2} {op op' : D → D → Option D} {fa fb fc : Ev Opd} (ho : OpR X (compareOp o) r) (h : Op2 (Cx.g X) r op) (ho' : OpR X (compareOp o') r') (h' : Op2 (Cx.g X) r' op') (ha : DO X B W a fa) (hb : DO X B W b fb) (hc : DO X B W c fc)
    (hm : lastMarks [o, o'] [b, c] = false := by with_unfolding_all rfl) : DT X B W (.Compare a [o, o'] [b, c] pos) (tV (o3E op op' fa fb fc)) :=
  pt_imp (pt_chain ho ho' ha hb hc hm) fun _ _ _ q => test_lift (fun _ _ _ q => op3_lift h h' q) q
/-! ### list(reversed(x)) -/
end
end DL

namespace DL
open PySem PySem.Spec PyProof.Rows L2
/-! ### dicts with texts and numbers as keys -/
def kEq : D → D → Bool
  | .int i, .int j => i == j
  | .str s, .str t => s == t
  | _, _ => false
def isKey : D → Bool
  | .int _ => true
  | .str _ => true
  | _ => false
def lookD (es : List (D × D)) (k : D) : Option D := (es.find? fun e => kEq e.1 k).map (·.2)
def putD (es : List (D × D)) (k d : D) : List (D × D) := if (es.any fun e => kEq e.1 k) = true then es.map (fun e => if kEq e.1 k = true then (e.1, d) else e) else es ++ [(k, d)]
theorem kEq_key (a b : Key) : kEq (keyD a) (keyD b) = decide (a = b) := by
  cases a with
  | inl i => cases b with
    | inl j => by_cases h : i = j <;> simp [keyD, kEq, h]
    | inr y => simp [keyD, kEq]
  | inr x => cases b with
    | inl j => simp [keyD, kEq]
    | inr y =>
      obtain ⟨x⟩ := x; obtain ⟨y⟩ := y
      have : (x.toList = y.toList) ↔ (Sum.inr ⟨x⟩ : Key) = Sum.inr ⟨y⟩ := by
        constructor
        · intro h
          have : x = y := by cases x; cases y; exact congrArg Array.mk h
          rw [this]
        · intro h
          injection h with h; injection h with h; rw [h]
      simp only [keyD, kEq]
      by_cases h : x.toList = y.toList
      · rw [decide_eq_true (this.mp h)]; simpa using h
      · rw [decide_eq_false (fun z => h (this.mpr z))]; simpa using h
theorem RpK.look {G : Gx} {F : Fz} (k : Key) : ∀ {kvs : List (Key × V)} {es : List (D × D)}, RpK G F kvs es → (∃ v d, valV kvs k = some v ∧ lookD es (keyD k) = some d ∧ Rp G F v d) ∨ (valV kvs k = none ∧ lookD es (keyD k) = none)
  | _, _, .nil => .inr ⟨rfl, rfl⟩
  | _, _, .cons (k := j) (v := v) (d := d) o h t => by
    by_cases e : j = k
    · have e2 : kEq (keyD j) (keyD k) = true := by rw [kEq_key]; simpa using e
      exact .inl ⟨v, d, valV_pos e, by simp [lookD, List.find?_cons, e2], h⟩
    · have e2 : kEq (keyD j) (keyD k) = false := by rw [kEq_key]; simpa using e
      rcases RpK.look k t with ⟨v', d', a, b, c⟩ | ⟨a, b⟩
      · exact .inl ⟨v', d', by rw [valV_neg e]; exact a, by simpa [lookD, List.find?_cons, e2] using b, c⟩
      · exact .inr ⟨by rw [valV_neg e]; exact a, by simpa [lookD, List.find?_cons, e2] using b⟩
theorem RpK.any {G : Gx} {F : Fz} (k : Key) : ∀ {kvs : List (Key × V)} {es : List (D × D)}, RpK G F kvs es → (kvs.any fun kv => decide (kv.1 = k)) = es.any fun e => kEq e.1 (keyD k)
  | _, _, .nil => rfl
  | _, _, .cons o h t => by rw [List.any_cons, List.any_cons, RpK.any k t, kEq_key]
theorem RpK.repl {G : Gx} {F : Fz} (k : Key) {y : V} {d : D} (r : Rp G F y d) : ∀ {kvs : List (Key × V)} {es : List (D × D)}, RpK G F kvs es → RpK G F (kvs.map fun kv => if kv.1 = k then (kv.1, y) else kv) (es.map fun e => if kEq e.1 (keyD k) = true then (e.1, d) else e)
  | _, _, .nil => .nil
  | _, _, .cons (k := j) o h t => by
    rw [List.map_cons, List.map_cons, kEq_key]
    by_cases e : j = k
    · rw [if_pos e, if_pos (by simpa using e)]; exact .cons o r (RpK.repl k r t)
    · rw [if_neg e, if_neg (by simpa using e)]; exact .cons o h (RpK.repl k r t)
theorem RpK.snoc {G : Gx} {F : Fz} {k : Key} (hk : okK k = true) {y : V} {d : D} (r : Rp G F y d) : ∀ {kvs : List (Key × V)} {es : List (D × D)}, RpK G F kvs es → RpK G F (kvs ++ [(k, y)]) (es ++ [(keyD k, d)])
  | _, _, .nil => .cons hk r .nil
  | _, _, .cons o h t => .cons o h (RpK.snoc hk r t)
theorem RpK.put {G : Gx} {F : Fz} {k : Key} (hk : okK k = true) {y : V} {d : D} (r : Rp G F y d) {kvs : List (Key × V)} {es : List (D × D)} (t : RpK G F kvs es) : RpK G F (putK kvs k y) (putD es (keyD k) d) := by
  unfold putK putD
  rw [t.any k]
  split
  · exact t.repl k r
  · exact t.snoc hk r
theorem RpK.length {G : Gx} {F : Fz} : ∀ {kvs : List (Key × V)} {es : List (D × D)}, RpK G F kvs es → kvs.length = es.length
  | _, _, .nil => rfl
  | _, _, .cons _ _ t => by rw [List.length_cons, List.length_cons, t.length]
theorem rp_key {G : Gx} {F : Fz} {v : V} {d : D} (h : Rp G F v d) (e : isKey d = true) : ∃ k : Key, v = kV k ∧ keyD k = d ∧ okK k = true := by
  cases h with
  | int i => exact ⟨.inl i, rfl, rfl, rfl⟩
  | str s h => exact ⟨.inr (tx s), rfl, rfl, h⟩
  | _ => cases e
theorem vw_key {G : Gx} {F : Fz} {H : Hp} {v : V} {d : D} (h : Vw G F H v d) (e : isKey d = true) : ∃ k : Key, v = kV k ∧ keyD k = d ∧ okK k = true := by
  rcases h with h | ⟨p, u, w, rfl, hp, r, rfl⟩ | ⟨_, _, _, e1x, _, e3⟩
  · exact rp_key h e
  · cases r <;> cases e
  · first | (cases e3; done) | (subst e1x e3; rfl) | (subst e3; cases e; done) | (subst e3; simp_all; done) | (subst e3; contradiction)
theorem vw_dic {G : Gx} {F : Fz} {H : Hp} (f : Same F.f H) {v : V} {es : List (D × D)} (h : Vw G F H v (.dic es)) : ∃ a kvs, v = .ref a ∧ H a = some (.dK kvs) ∧ RpK G F kvs es := by
  rcases h with h | ⟨p, u, w, rfl, hp, r, e⟩ | ⟨_, _, _, e1x, _, e3⟩
  · cases h with
    | dicK h r => exact ⟨_, _, rfl, f _ _ h, r⟩
  · cases r with
    | l _ => cases e
    | kK r => cases e; exact ⟨p, _, rfl, hp, r⟩
  · first | (cases e3; done) | (subst e1x e3; rfl) | (subst e3; cases e; done) | (subst e3; simp_all; done) | (subst e3; contradiction)
/-- d[k] -/
def dGetK : D → D → Option D
  | .dic es, k => if isKey k = true then lookD es k else none
  | _, _ => none
def rIxDK : R2 := fun x y H Q => ∃ a v, x = .ref a ∧ DGet H a y (some v) ∧ Q v H
theorem ix_dK {X : Cx} (hu : X.A.units + 1 < cLine) : IxR X rIxDK := by
  intro value slice pins s σ H x y v u Q I rx ry h hs
  obtain ⟨a, r, rfl, g, q⟩ := h
  obtain rfl : v = Value.ref a := rx
  exact tail_any (dict_typeIs I g) PySem.F.slot_dict_getitem.lookup (d_getItem hu I g ry fun w' s3 I3 rw' => ⟨r, H, I3, rw', q⟩) hs
theorem op_dGetK {G : Gx} : Op2 G rIxDK dGetK := fun F H v w x y d f hv hw e => by
  unfold dGetK at e
  split at e
  · rename_i es k
    split at e
    · rename_i hk
      obtain ⟨a, kvs, rfl, ha, r⟩ := vw_dic f hv
      obtain ⟨k', rfl, rfl, ok⟩ := vw_key hw hk
      intro Q q
      rcases r.look k' with ⟨v', d', a1, a2, a3⟩ | ⟨a1, a2⟩
      · rw [a2] at e; cases e
        exact ⟨a, v', rfl, .inl ⟨kvs, k', .inl ha, rfl, a1.symm⟩, q v' H F (Same.refl H) f .refl a3⟩
      · rw [a2] at e; cases e
    · cases e
  · cases e
/-- k in d -/
def dInK : D → D → Option D
  | k, .dic es => if isKey k = true then some (.bl (lookD es k).isSome) else none
  | _, _ => none
def dNotInK : D → D → Option D
  | k, .dic es => if isKey k = true then some (.bl (!(lookD es k).isSome)) else none
  | _, _ => none
def rInDK : R2 := fun x y H Q => ∃ a o, y = .ref a ∧ DGet H a x o ∧ Q (.bl o.isSome) H
def rNotInDK : R2 := fun x y H Q => ∃ a o, y = .ref a ∧ DGet H a x o ∧ Q (.bl (!o.isSome)) H
theorem opR_inK {X : Cx} (hu : X.A.units + 1 < cLine) : OpR X (compareOp .In) rInDK := by
  intro pins s σ H x y v u Q I rx ry h
  obtain ⟨a, r, rfl, g, q⟩ := h
  obtain rfl : u = Value.ref a := ry
  exact d_in hu I g rx fun s3 I3 => ⟨.bl r.isSome, H, I3, rfl, q⟩
theorem opR_notInK {X : Cx} (hu : X.A.units + 1 < cLine) : OpR X (compareOp .NotIn) rNotInDK := by
  intro pins s σ H x y v u Q I rx ry h
  obtain ⟨a, r, rfl, g, q⟩ := h
  obtain rfl : u = Value.ref a := ry
  exact d_notIn hu I g rx fun s3 I3 => ⟨.bl (!r.isSome), H, I3, rfl, q⟩
theorem op_dInK {G : Gx} : Op2 G rInDK dInK := fun F H v w x y d f hv hw e => by
  unfold dInK at e
  split at e
  · rename_i k es
    split at e
    · rename_i hk
      cases e
      obtain ⟨a, kvs, rfl, ha, r⟩ := vw_dic f hw
      obtain ⟨k', rfl, rfl, ok⟩ := vw_key hv hk
      intro Q q
      refine ⟨a, valV kvs k', rfl, .inl ⟨kvs, k', .inl ha, rfl, rfl⟩, q _ H F (Same.refl H) f .refl ?_⟩
      rcases r.look k' with ⟨v', d', a1, a2, a3⟩ | ⟨a1, a2⟩
      · rw [a1, a2]; exact .bl _
      · rw [a1, a2]; exact .bl _
    · cases e
  · cases e
theorem op_dNotInK {G : Gx} : Op2 G rNotInDK dNotInK := fun F H v w x y d f hv hw e => by
  unfold dNotInK at e
  split at e
  · rename_i k es
    split at e
    · rename_i hk
      cases e
      obtain ⟨a, kvs, rfl, ha, r⟩ := vw_dic f hw
      obtain ⟨k', rfl, rfl, ok⟩ := vw_key hv hk
      intro Q q
      refine ⟨a, valV kvs k', rfl, .inl ⟨kvs, k', .inl ha, rfl, rfl⟩, q _ H F (Same.refl H) f .refl ?_⟩
      rcases r.look k' with ⟨v', d', a1, a2, a3⟩ | ⟨a1, a2⟩
      · rw [a1, a2]; exact .bl _
      · rw [a1, a2]; exact .bl _
    · cases e
  · cases e
/-- {} -/
def kF0 : Ev Ow := fun S st => .ok (.k []) S st
section
variable {X : Cx} {B : Hp} {W : WX} {pos : Pos}
theorem df_k0 : DF X B W (.Dict [] [] pos) kF0 :=
  pe_imp pe_dnewK fun σ H Q ⟨F, S, st, o, q⟩ => fun p hp => (show PostF (Cx.g X) B W σ F Q (.ok (.k []) S st) from q).new o hp (.kK .nil)
/-- d[k] = v, d in a slot of its own -/
def sPut (i : Nat) (fv fk : Ev D) : EvS := fun S st => (fv S st).out fun d S st => match S[i]? with
  | some (.own (.k _)) => (fk S st).out fun k S st => match S[i]? with
    | some (.own (.k es)) => if isKey k = true ∧ es.length < 16777216 then .nx (S.set i (.own (.k (putD es k d)))) st else .stuck
    | _ => .stuck
  | _ => .stuck
theorem ds_put {i : Nat} {a b e : Expr} {fv fk : Ev D} {tpos : Pos} (hu : X.A.units + 1 < cLine) (ho : PE X a (tVar i)) (hj : DE X B W b fk) (hv : DE X B W e fv) (hs : swapsWith e (some (.Subscript a b tpos)) pos.line X.env = pure false := by rfl) :
    DS X B W (.Assign [.Subscript a b tpos] e pos) (sPut i fv fk) :=
  ps_imp (ps_dput hu ho hj hv hs) fun D σ H ⟨F, S, st, o, q⟩ => ⟨F, S, st, o, (Post.out (R := RD (Cx.g X) σ) q).mono fun v H1 ⟨F1, d, S1, st1, g1, o1, r1, p1⟩ => by
    split at p1
    · rename_i es0 hS0
      obtain ⟨p, u, e1, h1, h2, h3, r, _⟩ := o1.sl i _ hS0
      refine ⟨_, e1, F1, S1, st1, o1, (Post.out (R := RD (Cx.g X) σ) p1).mono fun kv H2 ⟨F2, k, S2, st2, g2, o2, r2, p2⟩ => ?_⟩
      split at p2
      · rename_i es hS2
        split at p2
        · rename_i hk
          obtain ⟨hk, hl⟩ := hk
          obtain ⟨p', u', e1', h1', h2', h3', r', _⟩ := o2.sl i _ hS2
          rw [e1] at e1'; cases e1'
          cases r' with
          | kK r' =>
            obtain ⟨k', rfl, rfl, ok⟩ := rp_key r2 hk
            refine ⟨p, _, rfl, .inl ⟨_, k', h1', rfl, by rw [r'.length, sizeLine_eq]; exact hl, rfl⟩, p2 σ _ F2 .refl (o2.chg hS2 e1 (.kK (r'.put ok (r1.mono g2.1))))⟩
        · exact p2.elim
      · exact p2.elim
    · exact p1.elim⟩
/-! ### {k: v, ..}, the keys texts -/
def mergeD (es more : List (D × D)) : List (D × D) := more.foldl (fun acc e => putD acc e.1 e.2) es
theorem RpK.merge {G : Gx} {F : Fz} : ∀ {more : List (Key × V)} {ms : List (D × D)} {kvs : List (Key × V)} {es : List (D × D)}, RpK G F more ms → RpK G F kvs es → RpK G F (mergeK kvs more) (mergeD es ms)
  | _, _, _, _, .nil, h => h
  | _, _, _, _, .cons (k := k) (v := v) (vs := vs) (d := d) (ds := ds) o r t, h => show RpK G F (mergeK (putK _ k v) vs) (mergeD (putD _ (keyD k) d) ds) from RpK.merge t (h.put o r)
/-- the values of a display; they let nothing out -/
structure DKs (X : Cx) (pos : Pos) (keys : List (Option Expr)) (values : List Expr) (ks : List (List Nat)) (fa : Ev (List Opd)) : Prop where
  ex : ∃ trs, PPs X pos keys values trs ∧ keys.length = ks.length ∧ values.length = ks.length ∧ keys.all (·.isSome) = true ∧
    ∀ (B : Hp) (σ : L2.St) (H : Hp) (Q : List (V × V) → Hp → Prop), lift (Cx.g X) B W0 (RpO (Cx.g X)) fa σ H (fun vs H' => vs.length = ks.length → Q ((ks.map fun s => V.str (tx s)).zip vs) H') → tPairs trs σ H Q
theorem dks_n : DKs X pos [] [] [] aN := ⟨[], pps_nil, rfl, rfl, rfl, fun B σ H Q ⟨F, S, st, o, q⟩ => by
  exact q [] H F .refl o .nil rfl⟩
theorem dks_c {keys : List (Option Expr)} {v : Expr} {values : List Expr} {ks : List (List Nat)} {fa : Ev (List Opd)} {f : Ev Opd} (s : List Nat) {j} {kp : Pos} (hv : ∀ B, DO X B W0 v f) (h : DKs X pos keys values ks fa) :
    DKs X pos (some (.Constant (.str (tx s)) j kp) :: keys) (v :: values) (s :: ks) (aC f fa) := by
  obtain ⟨trs, h1, h2, h3, h4, h5⟩ := h.ex
  refine ⟨(tC (.str (tx s)), fun σ H Q => ∃ B, lift (Cx.g X) B W0 (RO (Cx.g X)) f σ H Q) :: trs, pps_cons pe_str ⟨fun pins s σ H Q I ⟨B, q⟩ => (hv B).run pins s σ H Q I q⟩ h1, by simp [h2], by simp [h3], by simpa using h4, fun B σ H Q ⟨F, S, st, o, q⟩ => ?_⟩
  refine ⟨B, F, S, st, o, (Post.bind (R := RO (Cx.g X) σ) q).mono fun y H1 ⟨F1, d, S1, st1, g1, o1, r1, p1⟩ => ?_⟩
  refine h5 B σ H1 _ ⟨F1, S1, st1, o1, (Post.bind (R := RpO (Cx.g X) σ) p1).mono fun vs H2 ⟨F2, ds, S2, st2, g2, o2, r2, p2⟩ hl => ?_⟩
  exact p2 (y :: vs) H2 F2 .refl o2 (.cons (r1.mono g2.1) r2) (by simp [hl])
def kF (ks : List (List Nat)) (fa : Ev (List Opd)) : Ev Ow := fun S st => (fa S st).calm.bind fun a S st => match vds S a with
  | some ds => if ds.length = ks.length then .ok (.k (mergeD [] ((ks.map D.str).zip ds))) S st else .stuck
  | none => .stuck
theorem zip_keys : ∀ (ks : List (List Nat)) (vs : List V), (ks.map fun s => V.str (tx s)).zip vs = ((ks.map fun s => (Sum.inr (tx s) : Key)).zip vs).map fun kv => (kV kv.1, kv.2)
  | [], _ => rfl
  | _ :: _, [] => rfl
  | s :: r, v :: vs => by
    rw [List.map_cons, List.map_cons, List.zip_cons_cons, List.zip_cons_cons, List.map_cons, zip_keys r vs]; rfl
theorem zip_rpK {G : Gx} {F : Fz} : ∀ {ks : List (List Nat)} {vs : List V} {ds : List D}, ks.all okS = true → RpAll G F vs ds → RpK G F ((ks.map fun s => (Sum.inr (tx s) : Key)).zip vs) ((ks.map D.str).zip ds)
  | [], _, _, _, _ => .nil
  | _ :: _, _, _, _, .nil => .nil
  | s :: r, _, _, h, .cons a t => by
    rw [List.all_cons, Bool.and_eq_true] at h
    rw [List.map_cons, List.map_cons, List.zip_cons_cons, List.zip_cons_cons]
    exact RpK.cons (k := .inr (tx s)) h.1 a (zip_rpK h.2 t)
theorem df_disp {keys : List (Option Expr)} {values : List Expr} {ks : List (List Nat)} {fa : Ev (List Opd)} (h : DKs X pos keys values ks fa) (hok : ks.all okS = true := by decide) (h0 : keys ≠ [] := by simp) (h15 : ks.length ≤ 15 := by decide) : DF X B W (.Dict keys values pos) (kF ks fa) := by
  obtain ⟨trs, h1, h2, h3, h4, h5⟩ := h.ex
  refine pe_imp (pe_disp h1 h4 (h2.trans h3.symm) h0 (by rw [h2]; exact h15)) fun σ H Q ⟨F, S, st, o, q⟩ p hp => ?_
  have hF : F p = none := o.fH.free hp
  have hB : B p = none := o.kp.free hp
  have no : ∀ (j : Nat) (es : Ow), S[j]? = some (.own es) → σ[j]? ≠ some (some (.ref p)) := fun j es e1 e2 => by
    obtain ⟨p', xs', e3, h1, _⟩ := o.sl j _ e1
    rw [e2] at e3; cases e3
    rw [hp] at h1; cases h1
  refine h5 (upd B p (.dK [])) σ _ _ ⟨F, S, st, (o.junk (same_new hp)).pin upd_same hF (o.so.new hp) no, ?_⟩
  unfold kF at q
  revert q
  generalize fa S st = r
  intro q
  cases r with
  | exc x S1 st1 => exact q.elim
  | stuck => exact q.elim
  | ok a S1 st1 =>
    intro vs H1 F1 g1 o1 r1 hl
    have q : PostF (Cx.g X) B W σ F Q (match vds S1 a with
      | some ds => if ds.length = ks.length then .ok (.k (mergeD [] ((ks.map D.str).zip ds))) S1 st1 else .stuck
      | none => .stuck) := q
    split at q
    · rename_i ds hds
      split at q
      · have rr := o1.vds r1 hds
        obtain ⟨g1', f1⟩ := g1.unpin hB hF
        obtain ⟨o1', no1, hm1⟩ := o1.unpin (u' := .dK (mergeK [] ((ks.map fun s => (Sum.inr (tx s) : Key)).zip vs))) hB f1 (fun x z => by cases z)
        exact ⟨o1.kp p _ upd_same, (ks.map fun s => (Sum.inr (tx s) : Key)).zip vs, zip_keys ks vs, by rw [List.length_zip, List.length_map]; omega, q p _ _ F1 g1' o1' upd_same f1 hB (.kK ((zip_rpK hok rr).merge .nil)) hm1 no1⟩
      · exact q.elim
    · exact q.elim
end
@[simp] theorem kEq_s (s t : List Nat) : kEq (.str s) (.str t) = (s == t) := rfl
@[simp] theorem kEq_i (s t : Int) : kEq (.int s) (.int t) = (s == t) := rfl
@[simp] theorem kEq_si (s : List Nat) (t : Int) : kEq (.str s) (.int t) = false := rfl
@[simp] theorem kEq_is (s : Int) (t : List Nat) : kEq (.int s) (.str t) = false := rfl
@[simp] theorem isKey_s (s : List Nat) : isKey (.str s) = true := rfl
@[simp] theorem isKey_i (s : Int) : isKey (.int s) = true := rfl
@[simp] theorem lookD_n (k : D) : lookD [] k = none := rfl
@[simp] theorem lookD_c (k' d : D) (r : List (D × D)) (k : D) : lookD ((k', d) :: r) k = if kEq k' k = true then some d else lookD r k := by
  unfold lookD
  rw [List.find?_cons]
  cases h : kEq k' k <;> simp [h]
@[simp] theorem putD_n (k d : D) : putD [] k d = [(k, d)] := rfl
@[simp] theorem mergeD_n (es : List (D × D)) : mergeD es [] = es := rfl
@[simp] theorem mergeD_c (es : List (D × D)) (k d : D) (r : List (D × D)) : mergeD es ((k, d) :: r) = mergeD (putD es k d) r := rfl
@[simp] theorem dGetK_a (es : List (D × D)) (k : D) : dGetK (.dic es) k = if isKey k = true then lookD es k else none := rfl
@[simp] theorem dInK_a (es : List (D × D)) (k : D) : dInK k (.dic es) = if isKey k = true then some (.bl (lookD es k).isSome) else none := rfl
@[simp] theorem dNotInK_a (es : List (D × D)) (k : D) : dNotInK k (.dic es) = if isKey k = true then some (.bl (!(lookD es k).isSome)) else none := rfl
@[simp] theorem Ow_k_d (es : List (D × D)) : (Ow.k es).d = .dic es := rfl
/-! ### list.index of a text -/
def idxS (s : List Nat) : List (List Nat) → Nat
  | [] => 0
  | x :: r => if x = s then 0 else idxS s r + 1
theorem idxS_at {s : List Nat} : ∀ {ss : List (List Nat)}, s ∈ ss → ss[idxS s ss]? = some s ∧ ∀ (m : Nat) (z : List Nat), m < idxS s ss → ss[m]? = some z → z ≠ s
  | x :: r, h => by
    unfold idxS
    by_cases e : x = s
    · rw [if_pos e]; exact ⟨by rw [e]; rfl, fun m z hm => by omega⟩
    · rw [if_neg e]
      have hr : s ∈ r := (List.mem_cons.mp h).resolve_left fun z => e z.symm
      obtain ⟨a, b⟩ := idxS_at hr
      refine ⟨by simpa using a, fun m z hm hz => ?_⟩
      cases m with
      | zero => cases hz; exact e
      | succ m => exact b m z (by omega) (by simpa using hz)
def dIndex : D → List D → Option D
  | .lst ds, [.str s] => match strsD ds with
    | some ss => if s ∈ ss then some (.int (idxS s ss : Nat)) else none
    | none => none
  | _, _ => none
theorem op_dIndex {G : Gx} : OpM G (fun x xs H Q => rIndex G.K x xs H Q) dIndex := fun F H v vs x xs d f hv hvs e => by
  unfold dIndex at e
  split at e
  · rename_i ds s
    split at e
    · rename_i ss hss
      split at e
      · rename_i hm
        cases e
        obtain ⟨p, ys, rfl, h1, h2⟩ : ∃ p ys, v = .ref p ∧ SqL G.K H p ys ∧ RpAll G F ys ds := by
          rcases hv with hv | ⟨p, u, w, rfl, hp, r, e⟩ | ⟨_, _, _, _, _, e⟩
          · cases hv with
            | lst h r => exact ⟨_, _, rfl, .inl (.inl (f _ _ h)), r⟩
          · cases r with
            | l r => cases e; exact ⟨_, _, rfl, .inl (.inl hp), r⟩
            | kK _ => cases e
          · cases e
        cases strs_eq hss
        cases rp_strs_inv h2
        cases hvs with
        | cons hw t =>
          cases t
          obtain ⟨rfl, o⟩ := hw.str_eq
          obtain ⟨a, b⟩ := idxS_at hm
          refine gives_v (.int _) f fun Q q => ⟨p, _, _, idxS s ss, .str (tx s), rfl, rfl, h1, rfl, by simp [flatV], ?_, by simp [eqV], fun m z' hlt hz => ?_, q⟩
          · simp [a]
          · simp only [List.getElem?_map] at hz
            cases q : ss[m]? with
            | none => rw [q] at hz; cases hz
            | some z =>
              rw [q] at hz; cases hz
              have := b m z hlt q
              simp only [eqV, beq_eq_false_iff_ne]
              exact fun e => this (tx_inj e)
      · cases e
    · cases e
  · cases e
@[simp] theorem dIndex_a (ss : List (List Nat)) (s : List Nat) (h : s ∈ ss) : dIndex (.lst (ss.map .str)) [.str s] = some (.int (idxS s ss : Nat)) := by
  simp [dIndex, h]
end DL

namespace DL
open PySem PySem.Spec PyProof.Rows L2
/-! ### dicts of the top, texts to texts -/
def DTab (P : Params) : List DictEntry → List (List Nat × List Nat) → Prop
  | [], [] => True
  | e :: r, q :: s => (∃ t t', e.key = .str (tx q.1) t ∧ e.hash = PyData.keyHash P (tx q.1) ∧ e.val = .str (tx q.2) t') ∧ DTab P r s
  | _, _ => False
def lookT (z : List Nat) : List (List Nat × List Nat) → Option (List Nat)
  | [] => none
  | (k, v) :: r => if k = z then some v else lookT z r
structure KTb (K : PySem.W.Frag) (w : World) (a : Addr) (tab : List (List Nat × List Nat)) : Prop where
  ex : ∃ es n, K.lookup a = some ⟨.type "dict", none, .dict es n, #[]⟩ ∧ DTab w.params es.toList tab ∧ (a == sysModules) = false
theorem DTab.lit {P : Params} : ∀ {es : List DictEntry} {tab : List (List Nat × List Nat)}, DTab P es tab → PySem.W.KeysLit P es
  | [], [], _ => trivial
  | e :: r, q :: s, ⟨⟨t, t', h1, h2, h3⟩, h⟩ => ⟨⟨_, t, h1, h2⟩, DTab.lit h⟩
theorem tx_beq (a b : List Nat) : (tx a == tx b) = decide (a = b) := by
  by_cases h : a = b
  · subst h; simp
  · rw [decide_eq_false h]
    exact beq_eq_false_iff_ne.mpr fun e => h (by unfold tx at e; injection e with e; simpa using e)
theorem DTab.find {P : Params} (z : List Nat) : ∀ {es : List DictEntry} {tab : List (List Nat × List Nat)}, DTab P es tab →
    (match lookT z tab with
      | some v => ∃ e t, es.find? (·.key.isStr (tx z)) = some e ∧ e.val = .str (tx v) t
      | none => es.find? (·.key.isStr (tx z)) = none ∧ es.any (·.refKey) = false)
  | [], [], _ => ⟨rfl, rfl⟩
  | e :: r, (k, v) :: s, ⟨⟨t, t', h1, h2, h3⟩, h⟩ => by
    have ih := DTab.find z h
    have hk : e.key.isStr (tx z) = decide (k = z) := by
      rw [h1]; show (tx k == tx z) = _; exact tx_beq k z
    unfold lookT
    by_cases hz : k = z
    · rw [if_pos hz]
      refine ⟨e, t', ?_, h3⟩
      rw [List.find?_cons, hk, decide_eq_true hz]
    · rw [if_neg hz]
      have hr : e.refKey = false := by unfold DictEntry.refKey; rw [h1]
      rw [decide_eq_false hz] at hk
      cases hl : lookT z s with
      | none =>
        rw [hl] at ih
        refine ⟨by rw [List.find?_cons, hk]; exact ih.1, by rw [List.any_cons, hr, ih.2]; rfl⟩
      | some v' =>
        rw [hl] at ih
        obtain ⟨e', t2, h5, h6⟩ := ih
        exact ⟨e', t2, by rw [List.find?_cons, hk]; exact h5, h6⟩
theorem KTb.ns {K : PySem.W.Frag} {w : World} {a : Addr} {tab : List (List Nat × List Nat)} (T : KTb K w a tab) (z : List Nat) :
    match lookT z tab with
    | some v => ∃ t, PySem.W.nsIn K a (tx z) = some (some (.str (tx v) t))
    | none => PySem.W.nsIn K a (tx z) = some none := by
  obtain ⟨es, n, hl, hd, _⟩ := T.ex
  have h := hd.find z
  unfold PySem.W.nsIn
  rw [hl]
  cases hq : lookT z tab with
  | none =>
    rw [hq] at h
    show (match es.toList.find? (·.key.isStr (tx z)) with
      | some e => some (some e.val)
      | none => if es.toList.any (·.refKey) then none else some none) = some none
    rw [h.1, h.2]; rfl
  | some v =>
    rw [hq] at h
    obtain ⟨e, t, h1, h2⟩ := h
    refine ⟨t, ?_⟩
    show (match es.toList.find? (·.key.isStr (tx z)) with
      | some e => some (some e.val)
      | none => if es.toList.any (·.refKey) then none else some none) = _
    rw [h1, ← h2]
theorem KTb.kd {K : PySem.W.Frag} {w : World} {a : Addr} {tab : List (List Nat × List Nat)} (T : KTb K w a tab) : ∃ es n, KDict K w a es n := by
  obtain ⟨es, n, hl, hd, hs⟩ := T.ex
  exact ⟨es, n, ⟨hl, hd.lit, hs⟩⟩
def dHasT (tab : List (List Nat × List Nat)) : D → Option D
  | .str z => some (.bl (lookT z tab).isSome)
  | _ => none
def dHasNT (tab : List (List Nat × List Nat)) : D → Option D
  | .str z => some (.bl (!(lookT z tab).isSome))
  | _ => none
def dGetT (tab : List (List Nat × List Nat)) : D → Option D
  | .str z => match lookT z tab with
    | some v => if okS v = true then some (.str v) else none
    | none => none
  | _ => none
theorem KTb.some {K : PySem.W.Frag} {w : World} {a : Addr} {tab : List (List Nat × List Nat)} (T : KTb K w a tab) (z : List Nat) : ∃ r : Option Value, PySem.W.nsIn K a (tx z) = some r ∧ r.isSome = (lookT z tab).isSome := by
  have h := T.ns z
  cases hq : lookT z tab with
  | none => rw [hq] at h; exact ⟨none, h, rfl⟩
  | some v => rw [hq] at h; obtain ⟨t, h⟩ := h; exact ⟨_, h, rfl⟩
section
variable {X : Cx} {B : Hp} {W : WX} {e : Expr} {x : Str} {p pos : Pos} {a : Addr} {tab : List (List Nat × List Nat)} {fa : Ev Opd}
theorem inT_lift (T : KTb X.K X.w a tab) (σ : L2.St) (H : Hp) (Q : VK) (q : lift (Cx.g X) B W (RD (Cx.g X)) (o1E (dHasT tab) fa) σ H Q) :
    tOp (fun x y H Q => ∃ (z : Str) (r : Option Value), x = .str z ∧ y = .ref a ∧ PySem.W.nsIn X.K a z = some r ∧ Q (.bl r.isSome) H) (lift (Cx.g X) B W (RO (Cx.g X)) fa) (tC (.ref a)) σ H Q := by
  obtain ⟨F, S, st, o, q⟩ := q
  refine ⟨F, S, st, o, (Post.bind (R := RO (Cx.g X) σ) q).mono fun v H1 ⟨F1, d, S1, st1, g1, o1, r1, p1⟩ => ?_⟩
  split at p1
  · rename_i y hy
    obtain ⟨b, hb, p1⟩ := got_ok p1
    have hv := o1.vw r1 hy
    unfold dHasT at hb
    split at hb
    · rename_i z
      cases hb
      obtain ⟨rfl, _⟩ := hv.str_eq
      obtain ⟨r, h1, h2⟩ := T.some z
      exact ⟨tx z, r, rfl, rfl, h1, by rw [h2]; exact p1 _ H1 F1 .refl o1 (.bl _)⟩
    · cases hb
  · exact p1.elim
theorem notInT_lift (T : KTb X.K X.w a tab) (σ : L2.St) (H : Hp) (Q : VK) (q : lift (Cx.g X) B W (RD (Cx.g X)) (o1E (dHasNT tab) fa) σ H Q) :
    tOp (fun x y H Q => ∃ (z : Str) (r : Option Value), x = .str z ∧ y = .ref a ∧ PySem.W.nsIn X.K a z = some r ∧ Q (.bl (!r.isSome)) H) (lift (Cx.g X) B W (RO (Cx.g X)) fa) (tC (.ref a)) σ H Q := by
  obtain ⟨F, S, st, o, q⟩ := q
  refine ⟨F, S, st, o, (Post.bind (R := RO (Cx.g X) σ) q).mono fun v H1 ⟨F1, d, S1, st1, g1, o1, r1, p1⟩ => ?_⟩
  split at p1
  · rename_i y hy
    obtain ⟨b, hb, p1⟩ := got_ok p1
    have hv := o1.vw r1 hy
    unfold dHasNT at hb
    split at hb
    · rename_i z
      cases hb
      obtain ⟨rfl, _⟩ := hv.str_eq
      obtain ⟨r, h1, h2⟩ := T.some z
      exact ⟨tx z, r, rfl, rfl, h1, by rw [h2]; exact p1 _ H1 F1 .refl o1 (.bl _)⟩
    · cases hb
  · exact p1.elim
theorem de_inT (hm : X.mg x = some (.ref a)) (T : KTb X.K X.w a tab) (ha : DO X B W e fa) (hg : Gl X x := by rfl) (hd : (x == ("__debug__" : Str)) = false := by decide) (hb : behindInMarks .In (.Name x p) = false := by with_unfolding_all rfl) :
    DE X B W (.Compare e [.In] [.Name x p] pos) (o1E (dHasT tab) fa) := by
  obtain ⟨es, n, D⟩ := T.kd
  exact pe_imp (pe_cmpR (op_in_kd D) ha (pe_glob (v := .ref a) hg hm rfl hd) hb) fun σ H Q q => inT_lift T σ H Q q
theorem dt_inT (hm : X.mg x = some (.ref a)) (T : KTb X.K X.w a tab) (ha : DO X B W e fa) (hg : Gl X x := by rfl) (hd : (x == ("__debug__" : Str)) = false := by decide) (hb : behindInMarks .In (.Name x p) = false := by with_unfolding_all rfl) :
    DT X B W (.Compare e [.In] [.Name x p] pos) (tV (o1E (dHasT tab) fa)) := by
  obtain ⟨es, n, D⟩ := T.kd
  exact pt_imp (pt_cmpR (op_in_kd D) ha (pe_glob (v := .ref a) hg hm rfl hd) hb) fun _ _ _ q => test_lift (fun σ H Q q => inT_lift T σ H Q q) q
theorem de_notInT (hm : X.mg x = some (.ref a)) (T : KTb X.K X.w a tab) (ha : DO X B W e fa) (hg : Gl X x := by rfl) (hd : (x == ("__debug__" : Str)) = false := by decide) (hb : behindInMarks .NotIn (.Name x p) = false := by with_unfolding_all rfl) :
    DE X B W (.Compare e [.NotIn] [.Name x p] pos) (o1E (dHasNT tab) fa) := by
  obtain ⟨es, n, D⟩ := T.kd
  exact pe_imp (pe_cmpR (op_notIn_kd D) ha (pe_glob (v := .ref a) hg hm rfl hd) hb) fun σ H Q q => notInT_lift T σ H Q q
theorem dt_notInT (hm : X.mg x = some (.ref a)) (T : KTb X.K X.w a tab) (ha : DO X B W e fa) (hg : Gl X x := by rfl) (hd : (x == ("__debug__" : Str)) = false := by decide) (hb : behindInMarks .NotIn (.Name x p) = false := by with_unfolding_all rfl) :
    DT X B W (.Compare e [.NotIn] [.Name x p] pos) (tV (o1E (dHasNT tab) fa)) := by
  obtain ⟨es, n, D⟩ := T.kd
  exact pt_imp (pt_cmpR (op_notIn_kd D) ha (pe_glob (v := .ref a) hg hm rfl hd) hb) fun _ _ _ q => test_lift (fun σ H Q q => notInT_lift T σ H Q q) q
theorem de_ixT (hm : X.mg x = some (.ref a)) (T : KTb X.K X.w a tab) (ha : DO X B W e fa) (hs : PlainIx e := by exact fun _ _ => rfl) (hg : Gl X x := by rfl) (hd : (x == ("__debug__" : Str)) = false := by decide) :
    DE X B W (.Subscript (.Name x p) e pos) (o1E (dGetT tab) fa) := by
  obtain ⟨es, n, hl, hdt, hlow⟩ := T.ex
  refine pe_imp (pe_ix (ix_kdict (X := X)) (pe_glob (v := .ref a) hg hm rfl hd) ha hs) fun σ H Q q => ?_
  obtain ⟨F, S, st, o, q⟩ := q
  refine ⟨F, S, st, o, (Post.bind (R := RO (Cx.g X) σ) q).mono fun v H1 ⟨F1, d, S1, st1, g1, o1, r1, p1⟩ => ?_⟩
  split at p1
  · rename_i y hy
    obtain ⟨b, hb, p1⟩ := got_ok p1
    have hv := o1.vw r1 hy
    unfold dGetT at hb
    split at hb
    · rename_i z
      split at hb
      · rename_i v' hv'
        split at hb
        · rename_i ok
          cases hb
          obtain ⟨rfl, _⟩ := hv.str_eq
          have hn := T.ns z
          rw [hv'] at hn
          obtain ⟨t, hn⟩ := hn
          exact ⟨a, tx z, .str (tx v'), rfl, rfl, ⟨es, n, _, hl, hdt.lit, hn, ⟨t, rfl⟩⟩, p1 _ H1 F1 .refl o1 (.str _ ok)⟩
        · cases hb
      · cases hb
    · cases hb
  · exact p1.elim
end
end DL

namespace DL
open PySem PySem.Spec PyProof.Rows L2
/-! ### a new list of flat data, made while a slot's own list is looked at -/
def noOwn : Sl → Bool
  | .own _ => false
  | _ => true
def oneOwn : Nat → Sls → Bool
  | _, [] => true
  | 0, _ :: r => r.all noOwn
  | k + 1, s :: r => noOwn s && oneOwn k r
theorem oneOwn_eq : ∀ {i : Nat} {S : Sls} {j : Nat} {w : Ow}, oneOwn i S = true → S[j]? = some (.own w) → j = i
  | i, [], j, w, _, h => by simp at h
  | 0, s :: r, 0, w, _, _ => rfl
  | 0, s :: r, j + 1, w, h, hj => by
    rw [List.getElem?_cons_succ] at hj
    have := List.all_eq_true.mp h _ (List.mem_of_getElem? hj)
    cases this
  | k + 1, s :: r, 0, w, h, hj => by
    rw [List.getElem?_cons_zero] at hj
    cases hj
    cases h
  | k + 1, s :: r, j + 1, w, h, hj => by
    rw [List.getElem?_cons_succ] at hj
    have h2 : oneOwn k r = true := by
      show oneOwn k r = true
      have : (noOwn s && oneOwn k r) = true := h
      rw [Bool.and_eq_true] at this; exact this.2
    rw [oneOwn_eq h2 hj]
theorem flat_any {G : Gx} {F F' : Fz} {v : V} {d : D} (h : Rp G F v d) (e : flatD d = true) : Rp G F' v d := by
  cases h <;> first | exact .non | exact .bl _ | exact .int _ | (exact .str _ ‹_›) | cases e
theorem flat_anys {G : Gx} {F F' : Fz} : ∀ {vs : List V} {ds : List D}, RpAll G F vs ds → ds.all flatD = true → RpAll G F' vs ds
  | _, _, .nil, _ => .nil
  | _, _, .cons h t, e => by
    rw [List.all_cons, Bool.and_eq_true] at e
    exact .cons (flat_any h e.1) (flat_anys t e.2)
open Classical in
noncomputable def borF (i : Nat) (f : Ev Ow) : Ev Ow := fun S st => match S[i]? with
  | some (.own w) => match f (S.set i (.d w.d)) st with
    | .ok (.l ys) S1 st1 => if (ys.all flatD = true ∧ S1 = S.set i (.d w.d)) ∧ oneOwn i S = true ∧ st1 = [] then .ok (.l ys) S st1 else .stuck
    | _ => .stuck
  | _ => .stuck
section
variable {X : Cx} {B : Hp} {W : WX} {e : Expr}
theorem df_bor {i : Nat} {f : Ev Ow} (h : DF X B W e f) : DF X B W e (borF i f) := pe_imp h fun σ H Q ⟨F, S, st, o, q⟩ => by
  unfold borF at q
  split at q
  · rename_i w hw
    obtain ⟨F', p, g, o', ep, rr⟩ := o.frz hw
    have hp : ∃ u, F' p = some u := by
      cases w with
      | l ds => cases rr with | lst h _ => exact ⟨_, h⟩
      | k ds => cases rr with | dicK h _ => exact ⟨_, h⟩
    refine ⟨F', _, st, o', ?_⟩
    generalize f (S.set i (.d w.d)) st = res at q ⊢
    split at q
    · rename_i ys S1 st1
      split at q
      · rename_i hc
        obtain ⟨⟨hf, hS⟩, h1, hst⟩ := hc
        subst hS
        subst hst
        intro p2 u2 H2 F2 g2 o2 hu hF hB ro hm2 no
        obtain ⟨up, hup⟩ := hp
        have sF : SmF F F2 := g.1.trans g2.1
        have np : p2 ≠ p := fun z => by
          subst z
          rw [g2.1.1 _ _ hup] at hF; cases hF
        have hi : i < S.length := (List.getElem?_eq_some_iff.mp hw).1
        have m2 : F2.m = [] := List.eq_nil_of_length_eq_zero o2.so.ml
        have m1 : F.m = [] := by
          obtain ⟨t, ht⟩ := sF.2
          rw [m2] at ht
          exact (List.append_eq_nil_iff.mp ht).1
        refine q p2 u2 H2 F .refl ⟨?_, o2.kp, ⟨by rw [m1]; rfl, by rw [m1]; exact List.nodup_nil, fun n x a e1 e2 => by simp at e1⟩, by have := o2.len; rw [List.length_set] at this; exact this, fun j s hj => ?_, o.ap⟩ hu (sF.free hF) hB ?_ (by rw [m1]; simp) (fun j es e1 e2 => ?_)
        · exact sF.1.trans o2.fH
        · have w0 := o.sl j s hj
          cases s with
          | no => trivial
          | d x => exact w0
          | own es' =>
            have hji := oneOwn_eq h1 hj
            subst hji
            rw [hw] at hj; cases hj
            obtain ⟨p3, xs3, a1, a2, a3, a4, a5, a6⟩ := w0
            rw [ep] at a1; cases a1
            refine ⟨p, xs3, ep, ?_, a3, a4, a5, a6⟩
            have hq : F' p = some xs3 := by
              have := o'.fH _ _ hup
              rw [a2] at this; cases this; exact hup
            exact o2.fH _ _ (g2.1.1 _ _ hq)
        · cases ro with
          | l t => exact .l (flat_anys t hf)
        · have hji := oneOwn_eq h1 e1
          subst hji
          rw [ep] at e2; cases e2
          exact np rfl
      · exact q.elim
    · exact q.elim
  · exact q.elim
end
end DL



namespace DL
open PySem PySem.Spec PyProof.Rows L2
/-! ### lower, upper, index of a text -/
def dLower : D → Option D
  | .str a => if a.length ≤ 5592405 ∧ a.all (· < 128) = true then some (.str (a.map PyProof.Rows.lo1)) else none
  | _ => none
def dUpper : D → Option D
  | .str a => if a.length ≤ 5592405 ∧ a.all (· < 128) = true then some (.str (a.map PyProof.Rows.up1)) else none
  | _ => none
theorem lower_tx {a : List Nat} (h : a.all (· < 128) = true) : Txt.lower (tx a) = tx (a.map PyProof.Rows.lo1) := by
  rw [PyProof.Rows.lower_ascii (x := tx a) (fun c hc => of_decide_eq_true (List.all_eq_true.mp h c hc))]
  simp [tx]
theorem upper_tx {a : List Nat} (h : a.all (· < 128) = true) : Txt.upper (tx a) = tx (a.map PyProof.Rows.up1) := by
  rw [PyProof.Rows.upper_ascii (x := tx a) (fun c hc => of_decide_eq_true (List.all_eq_true.mp h c hc))]
  simp [tx]
theorem lo1_lt {c : Nat} (h : c < 128) : PyProof.Rows.lo1 c < 128 := by unfold PyProof.Rows.lo1; split <;> omega
theorem up1_lt {c : Nat} (h : c < 128) : PyProof.Rows.up1 c < 128 := by unfold PyProof.Rows.up1; split <;> omega
theorem okS_up {a : List Nat} (h : a.all (· < 128) = true) : okS (a.map PyProof.Rows.up1) = true := by
  unfold okS
  rw [List.all_eq_true] at h ⊢
  intro c hc
  obtain ⟨x, hx, rfl⟩ := List.mem_map.mp hc
  have := up1_lt (of_decide_eq_true (h x hx))
  exact decide_eq_true (by omega)
theorem okS_lo {a : List Nat} (h : a.all (· < 128) = true) : okS (a.map PyProof.Rows.lo1) = true := by
  unfold okS
  rw [List.all_eq_true] at h ⊢
  intro c hc
  obtain ⟨x, hx, rfl⟩ := List.mem_map.mp hc
  have := lo1_lt (of_decide_eq_true (h x hx))
  exact decide_eq_true (by omega)
theorem op_dLower {G : Gx} : Op1 G (fun x H Q => ∃ a, x = .str a ∧ ([] : List V) = [] ∧ a.length ≤ 5592405 ∧ Q (.str (Txt.lower a)) H) dLower := fun F H v x d f hv e => by
  unfold dLower at e
  split at e
  · split at e
    · rename_i h
      cases e
      obtain ⟨rfl, o⟩ := hv.str_eq
      refine gives_v (.str _ (okS_lo h.2)) f fun Q q => ⟨_, rfl, rfl, by rw [tx_len]; exact h.1, ?_⟩
      rw [lower_tx h.2]; exact q
    · cases e
  · cases e
theorem op_dUpper {G : Gx} : Op1 G (fun x H Q => ∃ a, x = .str a ∧ ([] : List V) = [] ∧ a.length ≤ 5592405 ∧ Q (.str (Txt.upper a)) H) dUpper := fun F H v x d f hv e => by
  unfold dUpper at e
  split at e
  · split at e
    · rename_i h
      cases e
      obtain ⟨rfl, o⟩ := hv.str_eq
      refine gives_v (.str _ (okS_up h.2)) f fun Q q => ⟨_, rfl, rfl, by rw [tx_len]; exact h.1, ?_⟩
      rw [upper_tx h.2]; exact q
    · cases e
  · cases e
def dSIndex : D → List D → Option D
  | .str a, [.str b] => match Builtin.Str.occurrences (tx a) (tx b) 0 (tx a).length 1 with
    | i :: _ => some (.int (i : Nat))
    | [] => none
  | _, _ => none
theorem op_dSIndex {G : Gx} : OpM G (fun x xs H Q => ∃ a b i rest, x = .str a ∧ xs = [.str b] ∧ Builtin.Str.occurrences a b 0 a.length 1 = i :: rest ∧ Q (.int (i : Nat)) H) dSIndex := fun F H v vs x xs d f hv hvs e => by
  unfold dSIndex at e
  split at e
  · rename_i a b
    split at e
    · rename_i i rest hi
      cases e
      obtain ⟨rfl, o⟩ := hv.str_eq
      cases hvs with | cons h1 t => cases t; obtain ⟨rfl, o1⟩ := h1.str_eq; exact gives_v (.int _) f fun Q q => ⟨_, _, _, _, rfl, rfl, hi, q⟩
    · cases e
  · cases e
@[simp] theorem dLower_a (a : List Nat) (h : a.length ≤ 5592405) (h2 : a.all (· < 128) = true) : dLower (.str a) = some (.str (a.map PyProof.Rows.lo1)) := if_pos ⟨h, h2⟩
@[simp] theorem dUpper_a (a : List Nat) (h : a.length ≤ 5592405) (h2 : a.all (· < 128) = true) : dUpper (.str a) = some (.str (a.map PyProof.Rows.up1)) := if_pos ⟨h, h2⟩
end DL



namespace DL
open PySem PySem.Spec PyProof.Rows L2
/-! ### objects that stay -/
theorem RpF.look {G : Gx} {F : Fz} : ∀ {fs : List (Str × V)} {es : List (Nat × D)} {k : Nat} {d : D}, RpF G F fs es → okN k → es.lookup k = some d → ∃ v, fs.lookup (nmS k) = some v ∧ Rp G F v d
  | _, _, _, _, .nil, _, e => by cases e
  | _, _, k, d, .cons (k := k') o h t, ok, e => by
    rw [List.lookup_cons] at e ⊢
    by_cases hk : k = k'
    · subst hk
      rw [beq_self_eq_true] at e ⊢
      cases e
      exact ⟨_, rfl, h⟩
    · rw [beq_false_of_ne hk] at e
      rw [beq_false_of_ne fun z => hk (nmS_inj ok o z)]
      exact RpF.look t ok e
theorem RpF.miss {G : Gx} {F : Fz} : ∀ {fs : List (Str × V)} {es : List (Nat × D)} {k : Nat}, RpF G F fs es → okN k → es.lookup k = none → fs.lookup (nmS k) = none
  | _, _, _, .nil, _, _ => rfl
  | _, _, k, .cons (k := k') o h t, ok, e => by
    rw [List.lookup_cons] at e ⊢
    by_cases hk : k = k'
    · subst hk
      rw [beq_self_eq_true] at e
      cases e
    · rw [beq_false_of_ne hk] at e
      rw [beq_false_of_ne fun z => hk (nmS_inj ok o z)]
      exact RpF.miss t ok e
theorem RpF.zip {G : Gx} {F : Fz} : ∀ {vs : List V} {ds : List D} (ks : List Nat), (∀ k ∈ ks, okN k) → RpAll G F vs ds → RpF G F ((ks.map nmS).zip vs) (ks.zip ds)
  | _, _, [], _, _ => by simp; exact .nil
  | _, _, _ :: _, _, .nil => by simp; exact .nil
  | _, _, k :: ks, o, .cons h t => by
    simp only [List.map_cons, List.zip_cons_cons]
    exact .cons (o k (List.mem_cons_self ..)) h (RpF.zip ks (fun x m => o x (List.mem_cons_of_mem _ m)) t)
/-- o.f, of an instance of one of the classes cs -/
def dFld (cs : List Nat) (k : Nat) : D → Option D
  | .obj c es => if c ∈ cs then es.lookup k else none
  | _ => none
/-- what is known of the classes cs and a field's name -/
def ClsF (K : PySem.W.Frag) (mg : Str → Option Value) (cs : List Nat) (f : Str) : Prop := ∀ c ∈ cs, ∀ C, mg (nmS c) = some (.ref C) → Cls K C ∧ NoAttr K C f
theorem ClsF.nil {K : PySem.W.Frag} {mg : Str → Option Value} {f : Str} : ClsF K mg [] f := fun _ h => by cases h
theorem ClsF.cons {K : PySem.W.Frag} {mg : Str → Option Value} {f : Str} {c : Nat} {cs : List Nat} {C : Addr} (h : mg (nmS c) = some (.ref C)) (h1 : Cls K C) (h2 : NoAttr K C f) (t : ClsF K mg cs f) : ClsF K mg (c :: cs) f := fun x hx C' hC => by
  rcases List.mem_cons.mp hx with z | z
  · subst z
    rw [h] at hC; cases hC
    exact ⟨h1, h2⟩
  · exact t x z C' hC
section
variable {X : Cx} {B : Hp} {W : WX} {e a b c : Expr} {es : List Expr} {pos : Pos}
/-- v is an instance -/
theorem Vw.inst {G : Gx} {F : Fz} {H : Hp} {v : V} {c : Nat} {es : List (Nat × D)} (h : Vw G F H v (.obj c es)) (f : Same F.f H) : ∃ p C dx fs, v = .ref p ∧ H p = some (.ins C dx fs) ∧ G.mg (nmS c) = some (.ref C) ∧ RpF G F fs es := by
  rcases h with h | ⟨p, u, w, rfl, hp, ow, e⟩ | ⟨p, c', fs', rfl, ho, e⟩
  · cases h with
    | obj h1 h2 h3 h4 => exact ⟨_, _, _, _, rfl, f _ _ h1, h3, h4⟩
  · cases w <;> cases e
  · cases e
    obtain ⟨C, dx, vs, h1, h2, h3, h4⟩ := ho
    exact ⟨_, _, _, _, rfl, h1, h3, h4⟩
theorem de_fld {f : Str} {fa : Ev Opd} (cs : List Nat) (k : Nat) (hk : nmS k = f) (ok : okN k) (ht : ClsF X.K X.mg cs f) (ho : DO X B W a fa) (hb : attributeBase a f X.env (eval a X.env) = eval a X.env := by rfl) : DE X B W (.Attribute a f pos) (o1E (dFld cs k) fa) :=
  pe_imp (pe_fld ho hb) fun σ H Q ⟨F, S, st, o, q⟩ => ⟨F, S, st, o, (Post.bind (R := RO (Cx.g X) σ) q).mono fun v H1 ⟨F1, d, S1, st1, g1, o1, r1, p1⟩ => by
    split at p1
    · rename_i x hx
      obtain ⟨z, hz, p2⟩ := got_ok p1
      unfold dFld at hz
      split at hz
      · rename_i c es
        split at hz
        · rename_i hc
          obtain ⟨pi, C, dx, fs, rfl, h1, h3, h4⟩ := (o1.vw r1 hx).inst o1.fH
          obtain ⟨u, hu, ru⟩ := h4.look ok hz
          obtain ⟨t1, t2⟩ := ht c hc _ h3
          rw [hk] at hu
          exact ⟨_, _, _, _, _, rfl, h1, t1, t2, hu, p2 _ H1 F1 .refl o1 ru⟩
        · cases hz
      · cases hz
    · exact p1.elim⟩
/-! ### methods, by the receiver's class -/
def tMethX (X : Cx) (m : Str) (W : WX) (ta : TE) (t : TA) : TE := fun σ H Q => ta σ H fun x H1 => ∃ (a C dx : Addr) (fs : List (Str × V)) (f : Addr) (fd : FuncData) (ps : List Str) (k : Nat) (sp : Sp), x = .ref a ∧ H1 a = some (.ins C dx fs) ∧ fs.lookup m = none ∧
  Cls X.K C ∧ Meth X.K C m f ∧ FnOk X.prog X.w X.K X.mg X.base (L2.CX X.prog X.w) k f fd ps sp ∧ Room k X.A ∧ Binds X.K fd ps [] ∧ t σ H1 fun vs H2 => sp (.ref a :: vs) H2 Q (WE W σ)
theorem pe_methX {m : Str} {apos : Pos} {ta : TE} {t : TA} {pl : Sem Bool} (tk : Takes X W) (he : PE X a ta) (ha : PA X (e :: es) t)
    (hst : starEach (e :: es) X.env = (false, eval e X.env) :: starEach es X.env := by rfl) (hpl : (backTo pos (starEach es X.env)).any (·.1) = false := by rfl)
    (ht : eval (.Call (.Attribute a m apos) (e :: es) [] pos) X.env = (do
      let ov ← eval a X.env
      standAt apos.atName
      let (f, first) ← holding [ov] (getMethod ov m pl)
      callWith pos f first (backTo pos (starEach (e :: es) X.env)) (backToKw pos (keywordEach [] X.env))) := by rfl) :
    PE X (.Call (.Attribute a m apos) (e :: es) [] pos) (tMethX X m W ta t) := by
  refine ⟨fun pins s σ H Q I h => ?_⟩
  refine PySem.W.methodCall_KW (pl := pl) (thn (he.run pins s σ H _ I h) fun u s1 ⟨x, H1, I1, rx, ad, C, dx, fs, f, fd, ps, k, sp, ex, ea, l, cl, hm, F, hr, hb, q⟩ => ?_) ht
  subst ex
  obtain rfl : u = Value.ref ad := rx
  refine getmeth_ok I1 ea cl hm l ?_
  refine PySem.W.callWith_K (first := [.ref ad]) (h₀ := X.base) I.ok.mod.kin hm.kp (thn (ha.run pos pins s1 σ H1 _ I1 q) fun us s2 ⟨vs, H2, I2, r, q2⟩ => ⟨I2.kIn, ?_⟩) hst hpl
  exact run_fnS (us := .ref ad :: us) (vs := .ref ad :: vs) (E := WE W) F hr hb (passAt tk σ) I2 (.cons rfl r) q2
theorem pe_methX0 {m : Str} {apos : Pos} {ta : TE} {pl : Sem Bool} (tk : Takes X W) (he : PE X a ta)
    (ht : eval (.Call (.Attribute a m apos) [] [] pos) X.env = (do
      let ov ← eval a X.env
      standAt apos.atName
      let (f, first) ← holding [ov] (getMethod ov m pl)
      callWith pos f first (backTo pos (starEach [] X.env)) (backToKw pos (keywordEach [] X.env))) := by rfl) :
    PE X (.Call (.Attribute a m apos) [] [] pos) (tMethX X m W ta tNil) := by
  refine ⟨fun pins s σ H Q I h => ?_⟩
  refine PySem.W.methodCall_KW (pl := pl) (thn (he.run pins s σ H _ I h) fun u s1 ⟨x, H1, I1, rx, ad, C, dx, fs, f, fd, ps, k, sp, ex, ea, l, cl, hm, F, hr, hb, q⟩ => ?_) ht
  subst ex
  obtain rfl : u = Value.ref ad := rx
  refine getmeth_ok I1 ea cl hm l ?_
  exact PySem.W.callWith_K0 (first := [.ref ad]) I1.kIn hm.kp (run_fnS (us := [.ref ad]) (vs := [.ref ad]) (E := WE W) F hr hb (passAt tk σ) I1 (.cons rfl .nil) q)
structure MDef (P : Program) (w : World) (K : PySem.W.Frag) (mg : Str → Option Value) (base : Heap) (k : Nat) (m : Str) (n : Nat) (cs : List Nat) (tab : Nat → CallT) : Prop where
  ex : ∀ c ∈ cs, ∀ C, mg (nmS c) = some (.ref C) → ∃ f fd ps, Cls K C ∧ Meth K C m f ∧ FnOk P w K mg base (L2.CX P w) k f fd ps (spOf ⟨K, mg, w⟩ n (tab c)) ∧ Binds K fd ps []
theorem MDef.mono {P : Program} {w : World} {K : PySem.W.Frag} {mg : Str → Option Value} {base : Heap} {k j : Nat} {m : Str} {n : Nat} {cs : List Nat} {tab : Nat → CallT} (d : MDef P w K mg base k m n cs tab) (h : k ≤ j) : MDef P w K mg base j m n cs tab :=
  ⟨fun c hc C hC => by
    obtain ⟨f, fd, ps, a1, a2, a3, a4⟩ := d.ex c hc C hC
    exact ⟨f, fd, ps, a1, a2, a3.mono h, a4⟩⟩
theorem MDef.nil {P : Program} {w : World} {K : PySem.W.Frag} {mg : Str → Option Value} {base : Heap} {k : Nat} {m : Str} {n : Nat} {tab : Nat → CallT} : MDef P w K mg base k m n [] tab := ⟨fun _ h => by cases h⟩
theorem MDef.cons {P : Program} {w : World} {K : PySem.W.Frag} {mg : Str → Option Value} {base : Heap} {k : Nat} {m : Str} {n : Nat} {tab : Nat → CallT} {c : Nat} {cs : List Nat} {C f : Addr} {fd : FuncData} {ps : List Str} (h : mg (nmS c) = some (.ref C)) (h1 : Cls K C) (h2 : Meth K C m f)
    (h3 : FnOk P w K mg base (L2.CX P w) k f fd ps (spOf ⟨K, mg, w⟩ n (tab c))) (h4 : Binds K fd ps []) (t : MDef P w K mg base k m n cs tab) : MDef P w K mg base k m n (c :: cs) tab := ⟨fun x hx C' hC => by
  rcases List.mem_cons.mp hx with z | z
  · subst z
    rw [h] at hC; cases hC
    exact ⟨f, fd, ps, h1, h2, h3, h4⟩
  · exact t.ex x z C' hC⟩
def mcE (cs : List Nat) (mk : Nat) (tab : Nat → CallT) (fo : Ev D) (fa : Ev (List Opd)) : Ev D := fun S st => (fo S st).bind fun o S st => match o with
  | .obj c es => if c ∈ cs ∧ es.lookup mk = none then (fa S st).bind fun a S st => match vds S a with
      | some ds => match tab c (.obj c es :: ds) st with
        | .ok d _ st => .ok d S st
        | .exc x _ st => .exc x S st
        | .stuck => .stuck
      | none => .stuck
    else .stuck
  | _ => .stuck
theorem rpO_len {G : Gx} {σ : L2.St} {F : Fz} {vs : List V} {as : List Opd} (h : RpO G σ F vs as) : vs.length = as.length := by
  induction h with
  | nil => rfl
  | cons _ _ ih => simp [ih]
theorem mc_lift {m : Str} {mk k n : Nat} {cs : List Nat} {tab : Nat → CallT} {fo : Ev D} {fa : Ev (List Opd)} (hmk : nmS mk = m) (okm : okN mk) (d : MDef X.prog X.w X.K X.mg X.base k m (n + 1) cs tab) (hr : Room k X.A) (hl : aLen fa n) {σ : L2.St} {H : Hp} {Q : VK}
    (q : lift (Cx.g X) B W (RD (Cx.g X)) (mcE cs mk tab fo fa) σ H Q) : tMethX X m W (lift (Cx.g X) B W (RD (Cx.g X)) fo) (lift (Cx.g X) B W (RpO (Cx.g X)) fa) σ H Q := by
  obtain ⟨F, S, st, o, q⟩ := q
  refine ⟨F, S, st, o, (Post.bind (R := RD (Cx.g X) σ) q).mono fun v H1 ⟨F1, d1, S1, st1, g1, o1, r1, p1⟩ => ?_⟩
  split at p1
  · rename_i c es
    split at p1
    · rename_i hc
      have r1' : Rp (Cx.g X) F1 v (.obj c es) := r1
      cases r1 with
      | @obj a dx C _ fs _ h1 h2 h3 h4 =>
        obtain ⟨f, fd, ps, t1, t2, t3, t4⟩ := d.ex c hc.1 C h3
        refine ⟨a, C, dx, fs, f, fd, ps, k, _, rfl, o1.fH _ _ h1, by rw [← hmk]; exact h4.miss okm hc.2, t1, t2, t3, hr, t4, F1, S1, st1, o1, ?_⟩
        have key : ∀ (r : Res (List Opd)) (hl : ∀ r' S' st', r = .ok r' S' st' → r'.length = n), Post (Cx.g X) B W (RD (Cx.g X) σ) σ F1 Q (r.bind fun a S st => match vds S a with
            | some ds => match tab c (.obj c es :: ds) st with
              | .ok d _ st => .ok d S st
              | .exc x _ st => .exc x S st
              | .stuck => .stuck
            | none => .stuck) → Post (Cx.g X) B W (RpO (Cx.g X) σ) σ F1 (fun vs H2 => spOf (Cx.g X) (n + 1) (tab c) (.ref a :: vs) H2 Q (WE W σ)) r := by
          intro r hl q
          cases r with
          | exc y S2 st2 => exact q
          | stuck => exact q
          | ok as S2 st2 =>
            intro vs H2 F2 g2 o2 r2
            have q : Post (Cx.g X) B W (RD (Cx.g X) σ) σ F1 Q (match vds S2 as with
              | some ds => match tab c (.obj c es :: ds) st2 with
                | .ok d _ st => .ok d S2 st
                | .exc x _ st => .exc x S2 st
                | .stuck => .stuck
              | none => .stuck) := q
            split at q
            · rename_i ds hds
              have ra := o2.vds r2 hds
              refine ⟨?_, F2, .obj c es :: ds, st2, o2.fH, o2.so.hid, .cons (r1'.mono g2.1) ra, ?_⟩
              · rw [List.length_cons, rpO_len r2, hl _ _ _ rfl]
              · revert q
                generalize tab c (.obj c es :: ds) st2 = r
                intro q
                cases r with
                | ok _ _ _ => exact fun v H' F' k f gr so rr => q v H' F' (g2.trans (o2.back k f gr so).1) (o2.back k f gr so).2 rr
                | exc _ _ _ => exact fun cls dd H' F' k f gr so rr => q cls dd H' F' (g2.trans (o2.back k f gr so).1) (o2.back k f gr so).2 rr
                | stuck => exact q.elim
            · exact q.elim
        exact key _ (fun r' S' st' e => hl _ _ _ _ _ e) p1
    · exact p1.elim
  · exact p1.elim
theorem de_mc {m : Str} {mk k n : Nat} {cs : List Nat} {tab : Nat → CallT} {apos : Pos} {fo : Ev D} {fa : Ev (List Opd)} {pl : Sem Bool} (hmk : nmS mk = m) (okm : okN mk) (d : MDef X.prog X.w X.K X.mg X.base k m (n + 1) cs tab) (hr : Room k X.A) (tk : Takes X W)
    (ho : DE X B W a fo) (ha : DA X B W (e :: es) fa) (hl : aLen fa n := by repeat (first | exact aLen_n | refine aLen_c ?_))
    (hst : starEach (e :: es) X.env = (false, eval e X.env) :: starEach es X.env := by rfl) (hpl : (backTo pos (starEach es X.env)).any (·.1) = false := by rfl)
    (ht : eval (.Call (.Attribute a m apos) (e :: es) [] pos) X.env = (do
      let ov ← eval a X.env
      standAt apos.atName
      let (f, first) ← holding [ov] (getMethod ov m pl)
      callWith pos f first (backTo pos (starEach (e :: es) X.env)) (backToKw pos (keywordEach [] X.env))) := by rfl) :
    DE X B W (.Call (.Attribute a m apos) (e :: es) [] pos) (mcE cs mk tab fo fa) :=
  pe_imp (pe_methX tk ho ha hst hpl ht) fun _ _ _ q => mc_lift hmk okm d hr hl q
theorem de_mc0 {m : Str} {mk k : Nat} {cs : List Nat} {tab : Nat → CallT} {apos : Pos} {fo : Ev D} {pl : Sem Bool} (hmk : nmS mk = m) (okm : okN mk) (d : MDef X.prog X.w X.K X.mg X.base k m 1 cs tab) (hr : Room k X.A) (tk : Takes X W)
    (ho : DE X B W a fo)
    (ht : eval (.Call (.Attribute a m apos) [] [] pos) X.env = (do
      let ov ← eval a X.env
      standAt apos.atName
      let (f, first) ← holding [ov] (getMethod ov m pl)
      callWith pos f first (backTo pos (starEach [] X.env)) (backToKw pos (keywordEach [] X.env))) := by rfl) :
    DE X B W (.Call (.Attribute a m apos) [] [] pos) (mcE cs mk tab fo aN) :=
  pe_imp (pe_methX0 tk ho ht) fun σ H Q q => by
    obtain ⟨F, S, st, o, q⟩ := mc_lift hmk okm d hr aLen_n q
    refine ⟨F, S, st, o, q.mono ?_⟩
    rintro v H1 ⟨a, C, dx, fs, f, fd, ps, k, sp, e1, e2, e3, e4, e5, e6, e7, e8, F1, S1, st1, o1, q1⟩
    exact ⟨a, C, dx, fs, f, fd, ps, k, sp, e1, e2, e3, e4, e5, e6, e7, e8, q1 [] H1 F1 .refl o1 .nil⟩
end
/-! ### instances that are made -/
def spInit (C : Addr) (ks : List Nat) : Sp := fun vs H Q _ => ∃ (p dx : Addr) (args : List V), vs = .ref p :: args ∧ args.length = ks.length ∧ H p = some (.ins C dx []) ∧ Q .non (upd H p (.ins C dx ((ks.map nmS).zip args)))
structure IDef (P : Program) (w : World) (K : PySem.W.Frag) (mg : Str → Option Value) (base : Heap) (k : Nat) (x : Str) (c : Nat) (ks : List Nat) : Prop where
  ex : ∃ C f fd ps, mg x = some (.ref C) ∧ nmS c = x ∧ Mk K C f ∧ FnOk P w K mg base (L2.CX P w) k f fd ps (spInit C ks) ∧ Binds K fd ps [] ∧ ∀ k ∈ ks, okN k
/-- self.f = a parameter, one behind the other -/
def initT (K : PySem.W.Frag) : List Str → Nat → TS
  | [], _ => tNext
  | f :: r, i => tSeq (sFld K (tVar 0) (tVar i) f) (initT K r (i + 1))
theorem putF_new {f : Str} {v : V} : ∀ {fs : List (Str × V)}, f ∉ fs.map (·.1) → putF f v fs = fs ++ [(f, v)]
  | [], _ => rfl
  | (g, u) :: r, h => by
    have h1 : ¬ g = f := fun z => h (by simp [z])
    have h2 : f ∉ r.map (·.1) := fun z => h (by simp [z])
    show (if g = f then _ else (g, u) :: putF f v r) = _
    rw [if_neg h1, putF_new h2]; rfl
theorem init_read {K : PySem.W.Frag} {C dx p : Addr} {σ : L2.St} {D : Ends} (cl : Cls K C) (hp0 : σ[0]? = some (some (.ref p))) : ∀ (fs : List Str) (i : Nat) (vs : List V) (acc : List (Str × V)) (H : Hp),
    (∀ f ∈ fs, NoAttr K C f) → vs.length = fs.length → (∀ (j : Nat) (v : V), vs[j]? = some v → σ[i + j]? = some (some v)) → (acc.map (·.1) ++ fs).Nodup → acc.length + fs.length < 1000 → H p = some (.ins C dx acc) → D.nx σ (upd H p (.ins C dx (acc ++ fs.zip vs))) → initT K fs i D σ H
  | [], i, vs, acc, H, _, hl, _, _, _, hp, q => by
    have e : upd H p (.ins C dx (acc ++ ([] : List Str).zip vs)) = H := by
      funext b
      by_cases hb : b = p
      · subst hb; rw [upd_same, hp]; simp
      · rw [upd_ne hb]
    rw [e] at q; exact q
  | f :: r, i, [], acc, H, _, hl, _, _, _, _, _ => by simp at hl
  | f :: r, i, v :: vs, acc, H, hn, hl, hv, nd, h1000, hp, q => by
    have hnd : f ∉ acc.map (·.1) := fun z => by
      rw [List.nodup_append] at nd
      exact nd.2.2 _ z f (List.mem_cons_self ..) rfl
    refine ⟨v, by have := hv 0 v rfl; simpa using this, .ref p, hp0, p, C, dx, acc, rfl, hp, cl, hn f (List.mem_cons_self ..), by simp at h1000; omega, ?_⟩
    rw [putF_new hnd]
    refine init_read cl hp0 r (i + 1) vs (acc ++ [(f, v)]) _ (fun g m => hn g (List.mem_cons_of_mem _ m)) (by simpa using hl) (fun j u e => ?_) (by simpa using nd) (by simp at h1000 ⊢; omega) upd_same ?_
    · have := hv (j + 1) u (by simpa using e)
      rw [show i + 1 + j = i + (j + 1) by omega]; exact this
    · have e : upd (upd H p (.ins C dx (acc ++ [(f, v)]))) p (.ins C dx (acc ++ [(f, v)] ++ r.zip vs)) = upd H p (.ins C dx (acc ++ (f :: r).zip (v :: vs))) := by
        funext b
        by_cases hb : b = p
        · subst hb; rw [upd_same, upd_same]; simp
        · rw [upd_ne hb, upd_ne hb, upd_ne hb]
      rw [e]; exact q
section
variable {P : Program} {w : World} {K : PySem.W.Frag} {mg : Str → Option Value} {base : Heap}
/-- an __init__ that stores its parameters -/
theorem init_ok {qual : Str} {st : Stmt} {f C : Addr} {fd : FuncData} {N : List Str} {s0 : Str} {prest : List Str} {ks : List Nat} {fs : List Str} (F : Fun K "__init__" qual st f fd) (S : FnScope N (s0 :: prest) (defScope st)) (hks : ks.map nmS = fs) (hpl : prest.length = fs.length)
    (cl : Cls K C) (hn : ∀ f ∈ fs, NoAttr K C f) (nd : fs.Nodup) (hs : fs.length < 1000) (hN : N = s0 :: prest)
    (body : ∀ (cdv : Value) (A : Around) (outer : List Env) (s : Shared) (H : Hp) (E : XK), PSs (cxOf (L2.CX P w) P w K mg base N qual (defScope st) f cdv A outer s H E) (defBody st) (initT K fs 1)) : FnOk P w K mg base (L2.CX P w) 1 f fd (s0 :: prest) (spInit C ks) := by
  refine F.okX S (fun vs H Q E h => ?_) (fun cdv A outer s H vs Q E hr h => ?_)
  · obtain ⟨p, dx, args, e1, e2, _⟩ := h
    subst e1
    have := congrArg List.length hks
    simp at this ⊢
    omega
  · refine ⟨_, body cdv A outer s H E, ?_⟩
    obtain ⟨p, dx, args, e1, e2, hp, q⟩ := h
    subst e1
    rw [hks] at q
    refine init_read cl ?_ fs 1 args [] H hn (by have := congrArg List.length hks; simp at this; omega) (fun j v e => ?_) (by simpa using nd) (by simpa using hs) hp q
    · subst hN; rfl
    · subst hN
      show ((V.ref p :: args).map some ++ _)[1 + j]? = _
      have hj : j < args.length := (List.getElem?_eq_some_iff.mp e).1
      rw [List.getElem?_append_left (by simp; omega), List.getElem?_map, Nat.add_comm, List.getElem?_cons_succ, e]; rfl
end
def newE (c : Nat) (ks : List Nat) (fa : Ev (List Opd)) : Ev D := fun S st => (fa S st).bind fun a S st => match vds S a with
  | some ds => if ds.length = ks.length then .ok (.obj c (ks.zip ds)) S st else .stuck
  | none => .stuck
section
variable {X : Cx} {B : Hp} {W : WX} {e a b c : Expr} {es : List Expr} {pos p : Pos}
theorem de_new {x : Str} {k cn : Nat} {ks : List Nat} {fa : Ev (List Opd)} (d : IDef X.prog X.w X.K X.mg X.base k x cn ks) (hr : Room (k + 1) X.A) (ha : DA X B W (e :: es) fa) (hx : Passes (L2.CX X.prog X.w) X (fun _ _ _ => False) := by exact fun _ _ _ _ _ _ _ h => by obtain ⟨_, _, _, _, _, _, _, _, _, _, _, _, z⟩ := h; exact z.elim)
    (hg : Gl X x := by rfl) (hdb : (x == ("__debug__" : Str)) = false := by decide) (he : starEach (e :: es) X.env = (false, eval e X.env) :: starEach es X.env := by rfl) (hpl : (backTo pos (starEach es X.env)).any (·.1) = false := by rfl) :
    DE X B W (.Call (.Name x p) (e :: es) [] pos) (newE cn ks fa) := by
  obtain ⟨C, f, fd, ps, hm, hc, M, F, hb, hok⟩ := d.ex
  refine pe_imp (pe_make (E := fun _ _ _ => False) M F hr hg hm hb .nil hx ha hdb he hpl) fun σ H Q ⟨F0, S, st, o, q⟩ => ⟨F0, S, st, o, (Post.bind (R := RpO (Cx.g X) σ) q).mono fun vs H1 ⟨F1, d, S1, st1, g1, o1, r1, p1⟩ => ?_⟩
  split at p1
  · rename_i ds hds
    split at p1
    · rename_i hl
      have ra := o1.vds r1 hds
      intro y dx ny ndx nyx
      refine ⟨y, dx, vs, by rw [List.append_nil], by rw [ra.length, hl], upd_same, rfl, ?_⟩
      have ny1 : (upd H1 dx (.own y)) y = none := by rw [upd_ne (Ne.symm nyx)]; exact ny
      have o2 := (o1.gnew (u := .own y) ndx).gnew (u := .ins C dx ((ks.map nmS).zip vs)) ny1
      have g2 : Gr B F1 (F1.up dx (.own y)) := o1.grN ndx
      have g3 : Gr B (F1.up dx (.own y)) ((F1.up dx (.own y)).up y (.ins C dx ((ks.map nmS).zip vs))) := (o1.gnew (u := .own y) ndx).grN ny1
      have eH : upd (upd (upd H1 dx (.own y)) y (.ins C dx [])) y (.ins C dx ((ks.map nmS).zip vs)) = upd (upd H1 dx (.own y)) y (.ins C dx ((ks.map nmS).zip vs)) := by
        funext b
        by_cases hb : b = y
        · subst hb; rw [upd_same, upd_same]
        · rw [upd_ne hb, upd_ne hb, upd_ne hb]
      rw [eH]
      refine p1 _ _ _ (g2.trans g3) o2 (.obj (F := (F1.up dx (.own y)).up y (.ins C dx ((ks.map nmS).zip vs))) upd_same (by show upd (upd F1.f dx _) y _ dx = _; rw [upd_ne nyx]; exact upd_same) (by rw [hc]; exact hm) (RpF.zip ks hok (ra.mono (g2.trans g3).1)))
    · exact p1.elim
  · exact p1.elim
end
section
variable {S : Sls} {st : Store}
@[simp] theorem newE_a (c : Nat) (ks : List Nat) (fa : Ev (List Opd)) : newE c ks fa S st = (fa S st).bind fun a S st => match vds S a with
  | some ds => if ds.length = ks.length then .ok (.obj c (ks.zip ds)) S st else .stuck
  | none => .stuck := rfl
@[simp] theorem mcE_a (cs : List Nat) (mk : Nat) (tab : Nat → CallT) (fo : Ev D) (fa : Ev (List Opd)) : mcE cs mk tab fo fa S st = (fo S st).bind fun o S st => match o with
  | .obj c es => if c ∈ cs ∧ es.lookup mk = none then (fa S st).bind fun a S st => match vds S a with
      | some ds => match tab c (.obj c es :: ds) st with
        | .ok d _ st => .ok d S st
        | .exc x _ st => .exc x S st
        | .stuck => .stuck
      | none => .stuck
    else .stuck
  | _ => .stuck := rfl
@[simp] theorem dFld_a (cs : List Nat) (k c : Nat) (es : List (Nat × D)) : dFld cs k (.obj c es) = if c ∈ cs then es.lookup k else none := rfl
end
@[simp] theorem lk_n (k : Nat) : List.lookup k ([] : List (Nat × D)) = none := rfl
@[simp] theorem lk_c (k k' : Nat) (d : D) (r : List (Nat × D)) : List.lookup k ((k', d) :: r) = if k = k' then some d else List.lookup k r := by
  rw [List.lookup_cons]
  by_cases h : k = k'
  · subst h; simp
  · rw [beq_false_of_ne h, if_neg h]
theorem fn_stuck {P : Program} {w : World} {K : PySem.W.Frag} {mg : Str → Option Value} {base : Heap} {x qual : Str} {st : Stmt} {f : Addr} {fd : FuncData} {N ps : List Str} {k : Nat} (F : Fun K x qual st f fd) (S : FnScope N ps (defScope st)) : FnOk P w K mg base (L2.CX P w) (k + 1) f fd ps (spOf ⟨K, mg, w⟩ ps.length cStuck) :=
  F.okX S (fun vs H Q E h => h.1) (fun cdv A outer s H vs Q E hr h => by
    obtain ⟨_, _, _, _, _, _, _, q⟩ := h
    exact q.elim)
end DL

namespace DL
open PySem PySem.Spec PyProof.Rows L2
def mxD (ns : List Int) (d : Int) : Int := match ns with
  | [] => d
  | n :: r => r.foldl max n
theorem foldl_max_mem : ∀ (r : List Int) (n : Int), r.foldl max n ∈ n :: r ∧ ∀ y ∈ n :: r, y ≤ r.foldl max n
  | [], n => by simp
  | m :: r, n => by
    obtain ⟨h1, h2⟩ := foldl_max_mem r (max n m)
    rw [List.foldl_cons]
    refine ⟨?_, fun y hy => ?_⟩
    · rcases List.mem_cons.mp h1 with z | z
      · rw [z]
        by_cases h : n ≤ m
        · simp [Int.max_eq_right h]
        · simp [Int.max_eq_left (Int.le_of_not_le h)]
      · simp [z]
    · have h3 := h2 (max n m) (List.mem_cons_self ..)
      rcases List.mem_cons.mp hy with z | z
      · subst z; omega
      · rcases List.mem_cons.mp z with z | z
        · subst z; omega
        · exact h2 y (List.mem_cons_of_mem _ z)
theorem mx_uniq {ns : List Int} {m n : Int} (h1 : m ∈ ns) (h2 : ∀ y ∈ ns, y ≤ m) (h3 : n ∈ ns) (h4 : ∀ y ∈ ns, y ≤ n) : m = n := Int.le_antisymm (h4 m h1) (h2 n h3)
def rMaxDf (K : PySem.W.Frag) : List V → List V → Hp → VK → Prop := fun vs zs H Q => ∃ (a : Addr) (ns : List Int) (d : Int), vs = [.ref a] ∧ zs = [.int d] ∧ SqL K H a (ns.map V.int) ∧ Q (.int (mxD ns d)) H
section
variable {X : Cx} {B : Hp} {W : WX} {e f : Expr} {pos p kpos : Pos}
theorem cr_maxDf (hc : X.calm = true) : CallRK X (.builtin "max") [Str.ofString "default"] (rMaxDf X.K) := by
  intro pins s σ H vs zs us ws Q I r1 r2 h
  obtain ⟨a, ns, d, rfl, rfl, hs, q⟩ := h
  obtain ⟨its, rv, hl, _⟩ := I.list hs
  rw [Vals.ref1 r1]
  obtain ⟨u, rfl, hu⟩ := vals1 r2
  obtain ⟨t, rfl⟩ := hu
  have hi := rv.ints
  obtain ⟨xs, ex⟩ := hi.allInts.items
  have hn : numsOf (intItems xs).toList = ns := by rw [← ex]; exact hi.numsOf
  have hl2 : s.heap.IsList a its.toArray := hl.isList
  rw [ex] at hl2
  rw [nums_intItems] at hn
  refine call_max_walkD (PySem.W.iter_listW (A := X.A.in1) (I.ok.hd hc) hl2 fun s2 e W st hf hw hk => ⟨_, _, _, _, _, _, _, s.heap, fun i j => decide (numAt xs i > numAt xs j), rfl, W, st, hf, hw, hk, fun z t m => ?_, fun z => ⟨fun i j u v t B Z _ hu hv q => CmpOf.ints_gt (numAt xs) (fun _ _ => intItems_at) i j u v t B Z hu hv q, fun v t hv m => ?_⟩⟩)
  · obtain ⟨h', tk, rfl, old⟩ := PySem.W.moved_old e rfl m
    have : xs = #[] := Array.eq_empty_of_size_eq_zero (by simpa [intItems] using z)
    subst this
    have : ns = [] := by rw [← hn]; rfl
    subst this
    exact ⟨.int d, H, I.kept old, ⟨_, rfl⟩, q⟩
  · obtain ⟨h', tk, rfl, old⟩ := PySem.W.moved_old e rfl m
    have hsz : 0 < xs.size := by simpa [intItems] using z
    have hs2 : (intItems xs).size = xs.size := by simp [intItems]
    rw [hs2] at hv
    obtain ⟨t', rfl⟩ := intItems_at hv
    obtain ⟨h1, h2⟩ := argBest_gt (numAt xs) (xs.size - 1)
    have e1 : numAt xs (argBest (fun i j => decide (numAt xs i > numAt xs j)) (xs.size - 1)) = mxD ns d := by
      subst hn
      have hm : numAt xs (argBest (fun i j => decide (numAt xs i > numAt xs j)) (xs.size - 1)) ∈ xs.toList.map (·.1) := by
        rw [numAt_eq]; exact PySem.getD_mem (by rw [List.length_map, Array.length_toList]; omega)
      have hg : ∀ y ∈ xs.toList.map (·.1), y ≤ numAt xs (argBest (fun i j => decide (numAt xs i > numAt xs j)) (xs.size - 1)) := fun y hy => by
        obtain ⟨j, hj, rfl⟩ := mem_getD hy
        rw [List.length_map, Array.length_toList] at hj
        rw [← numAt_eq]; exact h2 j (by omega)
      cases hx : xs.toList.map (·.1) with
      | nil => rw [hx] at hm; cases hm
      | cons n r =>
        rw [hx] at hm hg
        obtain ⟨g1, g2⟩ := foldl_max_mem r n
        exact mx_uniq hm hg g1 g2
    rw [e1]
    exact ⟨.int (mxD ns d), H, I.kept old, ⟨t', rfl⟩, q⟩
def dMaxD : List D → D → Option D
  | [.lst ds], .int d => (intsD ds).map fun ns => .int (mxD ns d)
  | _, _ => none
def oKE (op : List D → D → Option D) (fa : Ev (List Opd)) (fd : Ev D) : Ev D := fun S st => (fa S st).bind fun a S st => (fd S st).bind fun d S st =>
  match vws S st a with
  | some x => got (op x d) S st
  | _ => .stuck
theorem de_maxD {fa : Ev (List Opd)} {fd : Ev D} (hm : X.mg "max" = none) (ha : DA X B W [e] fa) (hd : DE X B W f fd) (hc : X.calm = true := by rfl) (hg : Gl X "max" := by rfl)
    (he : backTo pos (starEach [e] X.env) = (false, eval e X.env) :: backTo pos (starEach [] X.env) := by rfl) (hpl : (backTo pos (starEach [e] X.env)).any (·.1) = false := by rfl)
    (hall : (backToKw pos (keywordEach [⟨some "default", f, kpos⟩] X.env)).all (·.1.isSome) = true := by rfl) (hnone : (backToKw pos (keywordEach [⟨some "default", f, kpos⟩] X.env)).any (·.1.isNone) = false := by rfl) (hks : (backToKw pos (keywordEach [⟨some "default", f, kpos⟩] X.env)).filterMap (·.1) = [Str.ofString "default"] := by rfl) :
    DE X B W (.Call (.Name "max" p) [e] [⟨some "default", f, kpos⟩] pos) (oKE dMaxD fa fd) :=
  pe_imp (pe_callBK (cr_maxDf hc) hg hm (by decide +kernel) ha (pk_cons hd pk_nil) (by decide) (by decide) he hpl hall hnone hks) fun σ H Q ⟨F, S, st, o, q⟩ => ⟨F, S, st, o, (Post.bind (R := RpO (Cx.g X) σ) q).mono fun v H1 ⟨F1, d, S1, st1, g1, o1, r1, p1⟩ =>
    ⟨F1, S1, st1, o1, (Post.bind (R := RD (Cx.g X) σ) p1).mono fun u H2 ⟨F2, d2, S2, st2, g2, o2, r2, p2⟩ => by
      split at p2
      · rename_i x hx
        obtain ⟨z, hz, p3⟩ := got_ok p2
        have ra := o2.vws (r1.mono g2.1) hx
        unfold dMaxD at hz
        split at hz
        · rename_i ds n
          cases hb : intsD ds with
          | none => rw [hb] at hz; cases hz
          | some ns =>
            rw [hb] at hz; cases hz
            cases ints_eq hb
            cases ra with
            | cons h t =>
              cases t
              obtain ⟨p, xs, rfl, h1, h2⟩ := h.seqL o2.fH rfl
              cases rp_ints_inv h2
              cases r2
              exact ⟨_, _, _, rfl, rfl, h1, p3 _ H2 F2 .refl o2 (.int _)⟩
        · cases hz
      · exact p2.elim⟩⟩
@[simp] theorem oKE_a (op : List D → D → Option D) (fa : Ev (List Opd)) (fd : Ev D) (S : Sls) (st : Store) : oKE op fa fd S st = (fa S st).bind fun a S st => (fd S st).bind fun d S st =>
  match vws S st a with
  | some x => got (op x d) S st
  | _ => .stuck := rfl
theorem dMaxD_a (ns : List Int) (d : Int) : dMaxD [.lst (ns.map .int)] (.int d) = some (.int (mxD ns d)) := by simp [dMaxD]
end
end DL

namespace DL
open PySem PySem.Spec PyProof.Rows L2
section
variable {X : Cx} {B : Hp} {W : WX} {e a b c : Expr} {es : List Expr} {pos p : Pos}
/-! ### lists of one's own, handed on and back -/
/-- the slot's own object, given away -/
def oZ (i : Nat) : Ev Ow := fun S st => match S[i]? with
  | some (.own w) => .ok w (S.set i .no) st
  | _ => .stuck
theorem df_z {i : Nat} (h : PE X e (tVar i)) : DF X B W e (oZ i) := pe_imp h fun σ H Q ⟨F, S, st, o, q⟩ => by
  unfold oZ at q
  split at q
  · rename_i w hw
    obtain ⟨p, u, e1, h1, h2, h3, r, hm⟩ := o.sl i _ hw
    refine ⟨_, e1, q p u H F .refl (o.drop i) h1 h2 h3 r hm fun j es e2 e3 => ?_⟩
    have hi : i < S.length := (List.getElem?_eq_some_iff.mp hw).1
    by_cases hj : i = j
    · subst hj
      rw [List.getElem?_set_self hi] at e2; cases e2
    · rw [List.getElem?_set_ne hj] at e2
      exact hj (o.ap i j _ _ p hw e2 e1 e3)
  · exact q.elim
/-- return, of a new list -/
def sRO (f : Ev Ow) : EvS := fun S st => (f S st).out fun w S st => .rto w S st
theorem ds_ro {f : Ev Ow} (h : DF X B W e f) : DS X B W (.Return (some e) pos) (sRO f) := ps_imp (ps_ret h) fun D σ H ⟨F, S, st, o, q⟩ => by
  refine ⟨F, S, st, o, ?_⟩
  unfold sRO at q
  generalize f S st = r at q ⊢
  cases r with
  | ok w S1 st1 => exact fun p u H' F' g o1 hu hF hB r hm no => q p u σ H' F' g o1 hu hF hB r hm
  | exc x S1 st1 => exact fun c d H' F' g o1 r => q c d σ H' F' g o1 r
  | stuck => exact q
end
/-- what a def does that hands back a list of its caller's own -/
abbrev CallO := List Sl → Store → Res Ow
def runBO (N : Nat) (b : EvS) : CallO := fun ss st => match b (ss ++ List.replicate (N - ss.length) .no) st with
  | .rto w _ st => .ok w [] st
  | .exc x _ st => .exc x [] st
  | _ => .stuck
def spOwn (G : Gx) (n : Nat) (c : CallO) : Sp := fun vs H Q E => vs.length = n ∧ ∃ (B : Hp) (F : Fz) (S0 : List Sl) (st : Store), S0.length = n ∧ (∀ N : List Str, n ≤ N.length → Ok G B F (L2.start N vs) H (S0 ++ List.replicate (N.length - S0.length) .no) st) ∧ match c S0 st with
  | .ok w _ st' => ∀ p u H' F', Gr B F F' → Same B H' → Same F'.f H' → StOk G B F' H' st' → H' p = some u → F' p = none → B p = none → OwRel G F' u w → p ∉ F'.m → Q (.ref p) H'
  | .exc x _ st' => ∀ cls dd H' F', Gr B F F' → Same B H' → Same F'.f H' → StOk G B F' H' st' → XRel G F' x cls dd H' → E cls dd H'
  | .stuck => False
structure DefO (P : Program) (w : World) (K : PySem.W.Frag) (mg : Str → Option Value) (base : Heap) (k : Nat) (x : Str) (n : Nat) (c : CallO) : Prop where
  ex : ∃ f fd ps, FnOk P w K mg base (L2.CX P w) k f fd ps (spOwn ⟨K, mg, w⟩ n c) ∧ Binds K fd ps [] ∧ mg x = some (.ref f) ∧ PySem.W.keepIn K (.ref f) = true
theorem DefO.mono {P : Program} {w : World} {K : PySem.W.Frag} {mg : Str → Option Value} {base : Heap} {k j : Nat} {x : Str} {n : Nat} {c : CallO} (d : DefO P w K mg base k x n c) (h : k ≤ j) : DefO P w K mg base j x n c := by
  obtain ⟨f, fd, ps, a, b, c, e⟩ := d.ex
  exact ⟨f, fd, ps, a.mono h, b, c, e⟩
section
variable {P : Program} {w : World} {K : PySem.W.Frag} {mg : Str → Option Value} {base : Heap}
theorem fno_ok {x qual : Str} {st : Stmt} {f : Addr} {fd : FuncData} {N ps : List Str} {k : Nat} {b : EvS} (F : Fun K x qual st f fd) (S : FnScope N ps (defScope st))
    (body : ∀ (B : Hp) (cdv : Value) (A : Around) (outer : List Env) (s : Shared) (H : Hp) (E : XK) (W : WX), Room k (A.deeper (envOfC qual (defScope st) s.heap.objs.size f cdv)) →
      Takes (cxOf (L2.CX P w) P w K mg base N qual (defScope st) f cdv A outer s H E) W → PassesOwn (model P w) (A.deeper (envOfC qual (defScope st) s.heap.objs.size f cdv)) (envOfC qual (defScope st) s.heap.objs.size f cdv) (cxOf (L2.CX P w) P w K mg base N qual (defScope st) f cdv A outer s H E).xe →
      DSs (cxOf (L2.CX P w) P w K mg base N qual (defScope st) f cdv A outer s H E) B W (defBody st) b) : FnOk P w K mg base (L2.CX P w) (k + 1) f fd ps (spOwn ⟨K, mg, w⟩ ps.length (runBO N.length b)) := by
  refine F.okX S (fun vs H Q E h => h.1) (fun cdv A outer s H vs Q E hr h => ?_)
  obtain ⟨hl, B, F0, S0, st0, hS0, ok0, q⟩ := h
  have hN : ps.length ≤ N.length := by have := congrArg List.length S.pre; rw [List.length_take] at this; omega
  refine ⟨_, body B cdv A outer s H E (fun cls d _ H' => E cls d H') hr (takes_of rfl rfl rfl rfl) (passes_of rfl), ?_⟩
  refine ⟨F0, _, st0, ok0 N hN, ?_⟩
  unfold runBO at q
  revert q
  generalize b (S0 ++ List.replicate (N.length - S0.length) .no) st0 = r
  intro q
  cases r with
  | rto w1 S1 st1 => exact fun p u σ' H' F' g o hu hF hB rr hm => q p u H' F' g o.kp o.fH o.so hu hF hB rr hm
  | exc y S1 st1 => exact fun c d σ' H' F' g o rr => q c d H' F' g o.kp o.fH o.so rr
  | nx S1 st1 => exact q.elim
  | ret d S1 st1 => exact q.elim
  | bk S1 st1 => exact q.elim
  | ct S1 st1 => exact q.elim
  | stuck => exact q.elim
theorem defo_ok {x qual : Str} {st : Stmt} {f : Addr} {fd : FuncData} {N ps : List Str} {k : Nat} {b : EvS} (F : Fun K x qual st f fd) (S : FnScope N ps (defScope st)) (hb : Binds K fd ps []) (hm : mg x = some (.ref f))
    (body : ∀ (B : Hp) (cdv : Value) (A : Around) (outer : List Env) (s : Shared) (H : Hp) (E : XK) (W : WX), Room k (A.deeper (envOfC qual (defScope st) s.heap.objs.size f cdv)) →
      Takes (cxOf (L2.CX P w) P w K mg base N qual (defScope st) f cdv A outer s H E) W → PassesOwn (model P w) (A.deeper (envOfC qual (defScope st) s.heap.objs.size f cdv)) (envOfC qual (defScope st) s.heap.objs.size f cdv) (cxOf (L2.CX P w) P w K mg base N qual (defScope st) f cdv A outer s H E).xe →
      DSs (cxOf (L2.CX P w) P w K mg base N qual (defScope st) f cdv A outer s H E) B W (defBody st) b) : DefO P w K mg base (k + 1) x ps.length (runBO N.length b) := ⟨f, fd, ps, fno_ok F S body, hb, hm, F.kp⟩
end
/-! ### calls -/
theorem start_ok {G : Gx} {B : Hp} {F : Fz} {H : Hp} {vs : List V} {S0 : List Sl} (fH : Same F.f H) (kp : Same B H) {st : Store} (so : StOk G B F H st) (hl : vs.length = S0.length) (sl : ∀ (i : Nat) (s : Sl), S0[i]? = some s → SlOk G B F H ((vs.map some)[i]?) s)
    (ap : ∀ (i j : Nat) (ds es : Ow) (p : Addr), S0[i]? = some (.own ds) → S0[j]? = some (.own es) → vs[i]? = some (.ref p) → vs[j]? = some (.ref p) → i = j) {N : List Str} (hN : S0.length ≤ N.length) : Ok G B F (L2.start N vs) H (S0 ++ List.replicate (N.length - S0.length) .no) st := by
  have get : ∀ (i : Nat) (s : Sl), (S0 ++ List.replicate (N.length - S0.length) Sl.no)[i]? = some s → (i < S0.length ∧ S0[i]? = some s) ∨ s = .no := fun i s e => by
    by_cases hi : i < S0.length
    · rw [List.getElem?_append_left hi] at e; exact .inl ⟨hi, e⟩
    · rw [List.getElem?_append_right (by omega), List.getElem?_replicate] at e
      split at e
      · cases e; exact .inr rfl
      · cases e
  have gv : ∀ i, i < S0.length → (L2.start N vs)[i]? = (vs.map some)[i]? := fun i hi => by
    unfold L2.start
    rw [List.getElem?_append_left (by simp; omega)]
  refine ⟨fH, kp, so, by simp [L2.start, hl], fun i s e => ?_, fun i j ds es p e1 e2 e3 e4 => ?_⟩
  · rcases get i s e with ⟨hi, e⟩ | e
    · have := sl i s e
      rw [gv i hi]; exact this
    · subst e; trivial
  · rcases get i _ e1 with ⟨hi, e1⟩ | e1
    · rcases get j _ e2 with ⟨hj, e2⟩ | e2
      · rw [gv i hi, List.getElem?_map] at e3
        rw [gv j hj, List.getElem?_map] at e4
        refine ap i j ds es p e1 e2 ?_ ?_
        · cases h : vs[i]? with
          | none => rw [h] at e3; cases e3
          | some v => rw [h] at e3; cases e3; rfl
        · cases h : vs[j]? with
          | none => rw [h] at e4; cases e4
          | some v => rw [h] at e4; cases e4; rfl
      · cases e2
    · cases e1
theorem rpAll_sl {G : Gx} {B : Hp} {F : Fz} {H : Hp} : ∀ {vs : List V} {ds : List D}, RpAll G F vs ds → ∀ (i : Nat) (s : Sl), (ds.map Sl.d)[i]? = some s → SlOk G B F H ((vs.map some)[i]?) s
  | vs, ds, r, i, s, e => by
    rw [List.getElem?_map] at e
    cases h : ds[i]? with
    | none => rw [h] at e; cases e
    | some d =>
      rw [h] at e; cases e
      obtain ⟨v, hv, rv⟩ := r.get h
      exact ⟨v, by rw [List.getElem?_map, hv]; rfl, rv⟩
/-- f(..) with data, a new list back -/
def coE (c : CallO) (fa : Ev (List Opd)) : Ev Ow := fun S st => (fa S st).bind fun a S st => match vds S a with
  | some ds => match c (ds.map .d) st with
    | .ok w _ st => .ok w S st
    | .exc x _ st => .exc x S st
    | .stuck => .stuck
  | none => .stuck
/-- f(x, ..), x a list of one's own, given away -/
def coF (c : CallO) (j : Nat) (fa : Ev (List Opd)) : Ev Ow := fun S st => match S[j]? with
  | some (.own _) => (fa S st).bind fun a S st => match vds S a, S[j]? with
    | some ds, some (.own w) => match c (.own w :: ds.map .d) st with
      | .ok w _ st => .ok w (S.set j .no) st
      | .exc x _ st => .exc x (S.set j .no) st
      | .stuck => .stuck
    | _, _ => .stuck
  | _ => .stuck
section
variable {X : Cx} {B : Hp} {W : WX} {e y : Expr} {es : List Expr} {pos p : Pos} {k : Nat} {x : Str} {n : Nat} {c : CallO}
theorem df_co {fa : Ev (List Opd)} (d : DefO X.prog X.w X.K X.mg X.base k x n c) (hr : Room k X.A) (tk : Takes X W) (ha : DA X B W (e :: es) fa) (hl : aLen fa n := by repeat (first | exact aLen_n | refine aLen_c ?_)) (hg : Gl X x := by rfl) (hdb : (x == ("__debug__" : Str)) = false := by decide)
    (he : starEach (e :: es) X.env = (false, eval e X.env) :: starEach es X.env := by rfl) (hpl : (backTo pos (starEach es X.env)).any (·.1) = false := by rfl) : DF X B W (.Call (.Name x p) (e :: es) [] pos) (coE c fa) := by
  obtain ⟨f, fd, ps, F, hb, hm, hk⟩ := d.ex
  refine pe_imp (pe_callS F hr hg hm hk hb (fun σ => passAt tk σ) ha hdb he hpl) fun σ H Q ⟨F0, S, st, o, q⟩ => ?_
  unfold coE at q
  have hl' := hl S st
  generalize hfa : fa S st = r at q hl'
  have key : Post (Cx.g X) B W (RpO (Cx.g X) σ) σ F0 (fun vs H1 => spOwn (Cx.g X) n c vs H1 Q (WE W σ)) r := by
    cases r with
    | exc z S1 st1 => exact q
    | stuck => exact q
    | ok as S1 st1 =>
      intro vs H1 F1 g1 o1 r1
      have q : PostF (Cx.g X) B W σ F0 Q (match vds S1 as with
        | some ds => match c (ds.map .d) st1 with
          | .ok w _ st => .ok w S1 st
          | .exc x _ st => .exc x S1 st
          | .stuck => .stuck
        | none => .stuck) := q
      split at q
      · rename_i ds hds
        have ra := o1.vds r1 hds
        have hn := hl' _ _ _ rfl
        have hv := rpO_len r1
        refine ⟨by omega, hid F1.m H1, F1, ds.map .d, st1, by rw [List.length_map, ← ra.length]; omega, fun N hN => start_ok o1.fH (hid_same _ _) o1.so.hid (by rw [List.length_map]; exact ra.length) (rpAll_sl ra) (fun i j a b p e1 _ _ _ => ?_) (by rw [List.length_map, ← ra.length]; omega), ?_⟩
        · rw [List.getElem?_map] at e1
          cases h : ds[i]? with
          | none => rw [h] at e1; cases e1
          | some d => rw [h] at e1; cases e1
        · revert q
          generalize c (ds.map .d) st1 = r2
          intro q
          cases r2 with
          | ok w S2 st2 =>
            intro p u H' F' g k' f so hu hF hB rr hm
            obtain ⟨gb, o2⟩ := o1.back k' f g so
            refine q p u H' F' (g1.trans gb) o2 hu hF (o1.hidB hB) rr hm fun j es e1 e2 => ?_
            obtain ⟨p', u', e3, h1, _, _, _, nm⟩ := o1.sl j _ e1
            rw [e2] at e3; cases e3
            rw [hid_out nm, h1] at hB; cases hB
          | exc z S2 st2 => exact fun cls dd H' F' g k' f so rr => q cls dd H' F' (g1.trans (o1.back k' f g so).1) (o1.back k' f g so).2 rr
          | stuck => exact q.elim
      · exact q.elim
  exact ⟨F0, S, st, o, by rw [hfa]; exact key⟩
theorem df_cof {j : Nat} {fa : Ev (List Opd)} (d : DefO X.prog X.w X.K X.mg X.base k x (n + 1) c) (hr : Room k X.A) (tk : Takes X W) (hy : PE X y (tVar j)) (ha : DA X B W (e :: es) fa) (hl : aLen fa n := by repeat (first | exact aLen_n | refine aLen_c ?_)) (hg : Gl X x := by rfl) (hdb : (x == ("__debug__" : Str)) = false := by decide)
    (he : starEach (y :: e :: es) X.env = (false, eval y X.env) :: starEach (e :: es) X.env := by rfl) (hpl : (backTo pos (starEach (e :: es) X.env)).any (·.1) = false := by rfl) : DF X B W (.Call (.Name x p) (y :: e :: es) [] pos) (coF c j fa) := by
  obtain ⟨f, fd, ps, F, hb, hm, hk⟩ := d.ex
  refine pe_imp (pe_callS F hr hg hm hk hb (fun σ => passAt tk σ) (pa_cons hy ha he) hdb he hpl) fun σ H Q ⟨F0, S, st, o, q⟩ => ?_
  unfold coF at q
  split at q
  · rename_i w0 hw0
    obtain ⟨p, u, e1, h1, h2, h3, r0, _⟩ := o.sl j _ hw0
    have hl' := hl S st
    generalize hfa : fa S st = r at q hl'
    have key : Post (Cx.g X) B W (RpO (Cx.g X) σ) σ F0 (fun vs H1 => spOwn (Cx.g X) (n + 1) c (.ref p :: vs) H1 Q (WE W σ)) r := by
      cases r with
      | exc z S1 st1 => exact q
      | stuck => exact q
      | ok as S1 st1 =>
        intro vs H1 F1 g1 o1 r1
        have q : PostF (Cx.g X) B W σ F0 Q (match vds S1 as, S1[j]? with
          | some ds, some (.own w) => match c (.own w :: ds.map .d) st1 with
            | .ok w _ st => .ok w (S1.set j .no) st
            | .exc x _ st => .exc x (S1.set j .no) st
            | .stuck => .stuck
          | _, _ => .stuck) := q
        split at q
        · rename_i ds w hds hw
          have ra := o1.vds r1 hds
          have hn := hl' _ _ _ rfl
          have hv := rpO_len r1
          obtain ⟨p', u, e1', k1, k2, k3, rw', nm⟩ := o1.sl j _ hw
          rw [e1] at e1'; cases e1'
          -- what the callee keeps: all but the list
          have kB : Same (fun a => if a = p then none else hid F1.m H1 a) H1 := fun a v q => by
            by_cases z : a = p
            · simp [z] at q
            · exact hid_same _ _ a v (by simpa [z] using q)
          have soB : StOk (Cx.g X) (fun a => if a = p then none else hid F1.m H1 a) F1 H1 st1 := ⟨o1.so.ml, o1.so.mn, fun n x a q1 q2 => by
            obtain ⟨z1, z2, z3⟩ := o1.so.hid.ob n x a q1 q2
            refine ⟨z1, ?_, z3⟩
            show (if a = p then none else hid F1.m H1 a) = none
            rw [z2]; split <;> rfl⟩
          refine ⟨by simp; omega, fun a => if a = p then none else hid F1.m H1 a, F1, .own w :: ds.map .d, st1, by simp [← ra.length]; omega, fun N hN => start_ok o1.fH kB soB (by simp [ra.length]) (fun i s e => ?_) (fun i j a b p e1 e2 _ _ => ?_) (by simp [← ra.length]; omega), ?_⟩
          · cases i with
            | zero =>
              simp at e; subst e
              exact ⟨p, u, by simp, k1, k2, by simp, rw', nm⟩
            | succ i =>
              have := rpAll_sl (B := fun a => if a = p then none else hid F1.m H1 a) (H := H1) ra i s (by simpa using e)
              cases s with
              | no => trivial
              | d x => exact this
              | own w => simp at e
          · have own0 : ∀ i a, (Sl.own w :: ds.map Sl.d)[i]? = some (.own a) → i = 0 := fun i a e => by
              cases i with
              | zero => rfl
              | succ i => simp at e
            rw [own0 i a e1, own0 j b e2]
          · revert q
            generalize c (.own w :: ds.map .d) st1 = r2
            intro q
            have back : ∀ {H' : Hp} {F' : Fz} {st' : Store}, Gr (fun a => if a = p then none else hid F1.m H1 a) F1 F' → Same (fun a => if a = p then none else hid F1.m H1 a) H' → Same F'.f H' → StOk (Cx.g X) (fun a => if a = p then none else hid F1.m H1 a) F' H' st' → Gr B F1 F' ∧ Ok (Cx.g X) B F' σ H' (S1.set j .no) st' := fun {H' F' st'} g kp f so => by
              have hB0 : ∀ a, (if a = p then none else hid F1.m H1 a) = none → B a = none := fun a z => by
                by_cases y : a = p
                · rw [y]; exact k3
                · rw [if_neg y] at z; exact o1.hidB z
              have nB : ∀ a, B a ≠ none → a ≠ p ∧ a ∉ F1.m := fun a z => ⟨fun y => z (by rw [y]; exact k3), fun y => by
                obtain ⟨_, _, n, x, _, _, q, _⟩ := o1.so.mem y; exact z q⟩
              refine ⟨⟨g.1, fun a z z' => hB0 a (g.2 a z z')⟩, f, fun a v q => ?_, ⟨so.ml, so.mn, fun n x a q1 q2 => ?_⟩, by rw [List.length_set]; exact o1.len, fun i s e => ?_, fun i1 j1 a1 b1 p1 q1 q2 q3 q4 => ?_⟩
              · obtain ⟨y1, y2⟩ := nB a (by rw [q]; simp)
                exact kp a v (by show (if a = p then none else hid F1.m H1 a) = _; rw [if_neg y1, hid_out y2]; exact o1.kp a v q)
              · obtain ⟨z1, z2, z3⟩ := so.ob n x a q1 q2
                exact ⟨z1, hB0 a z2, z3⟩
              · by_cases hi : j = i
                · have := set_lt e hi
                  subst hi
                  rw [List.getElem?_set_self this] at e; cases e; trivial
                · rw [List.getElem?_set_ne hi] at e
                  have h := o1.sl i s e
                  cases s with
                  | no => trivial
                  | d x =>
                    obtain ⟨v, a1, a2⟩ := h
                    exact ⟨v, a1, a2.mono g.1⟩
                  | own w2 =>
                    obtain ⟨p2, u2, a1, a2, a3, a4, a5, a6⟩ := h
                    have hp2 : p2 ≠ p := fun z => hi (o1.ap j i _ _ p hw e e1 (by rw [← z]; exact a1))
                    have hh : (if p2 = p then none else hid F1.m H1 p2) = some u2 := by rw [if_neg hp2, hid_out a6]; exact a2
                    refine ⟨p2, u2, a1, kp p2 u2 hh, ?_, a4, a5.mono g.1, fun z => ?_⟩
                    · cases z : F' p2 with
                      | none => rfl
                      | some v =>
                        have h9 : (if p2 = p then none else hid F1.m H1 p2) = none := g.2 p2 a3 (by rw [z]; simp)
                        rw [hh] at h9; cases h9
                    · obtain ⟨_, _, n, x, _, _, q, _⟩ := so.mem z
                      have q : (if p2 = p then none else hid F1.m H1 p2) = none := q
                      rw [hh] at q; cases q
              · have old : ∀ (i : Nat) (a : Ow), (S1.set j .no)[i]? = some (.own a) → S1[i]? = some (.own a) := fun i a e => by
                  by_cases hi : j = i
                  · have := set_lt e hi
                    subst hi
                    rw [List.getElem?_set_self this] at e; cases e
                  · rw [List.getElem?_set_ne hi] at e; exact e
                exact o1.ap i1 j1 a1 b1 p1 (old _ _ q1) (old _ _ q2) q3 q4
            cases r2 with
            | ok w' S2 st2 =>
              intro p2 u2 H' F' g k' f so hu hF hB rr hm
              obtain ⟨g', o2⟩ := back g k' f so
              have hB' : B p2 = none := by
                by_cases y : p2 = p
                · rw [y]; exact k3
                · exact o1.hidB (by simpa [y] using hB)
              refine q p2 u2 H' F' (g1.trans g') o2 hu hF hB' rr hm fun i es e e2 => ?_
              by_cases hi : j = i
              · have := set_lt e hi
                subst hi
                rw [List.getElem?_set_self this] at e; cases e
              · rw [List.getElem?_set_ne hi] at e
                obtain ⟨p3, u3, a1, a2, _, _, _, a6⟩ := o1.sl i _ e
                rw [e2] at a1; cases a1
                have hp2 : p2 ≠ p := fun z => hi (o1.ap j i _ _ p hw e e1 (by rw [← z]; exact e2))
                simp [hp2] at hB
                rw [hid_out a6, a2] at hB; cases hB
            | exc z S2 st2 =>
              intro cls dd H' F' g k' f so rr
              obtain ⟨g', o2⟩ := back g k' f so
              exact q cls dd H' F' (g1.trans g') o2 rr
            | stuck => exact q.elim
        · exact q.elim
    exact ⟨_, e1, F0, S, st, o, by rw [hfa]; exact key⟩
  · exact q.elim
end
end DL
namespace DL
open PySem PySem.Spec PyProof.Rows L2
section
variable {S : Sls} {st : Store}
@[simp] theorem oZ_a (i : Nat) : oZ i S st = match S[i]? with | some (.own w) => .ok w (S.set i .no) st | _ => .stuck := rfl
@[simp] theorem sRO_a (f : Ev Ow) : sRO f S st = (f S st).out fun w S st => .rto w S st := rfl
@[simp] theorem coE_a (c : CallO) (fa : Ev (List Opd)) : coE c fa S st = (fa S st).bind fun a S st => match vds S a with
  | some ds => match c (ds.map .d) st with
    | .ok w _ st => .ok w S st
    | .exc x _ st => .exc x S st
    | .stuck => .stuck
  | none => .stuck := rfl
@[simp] theorem coF_a (c : CallO) (j : Nat) (fa : Ev (List Opd)) : coF c j fa S st = match S[j]? with
  | some (.own _) => (fa S st).bind fun a S st => match vds S a, S[j]? with
    | some ds, some (.own w) => match c (.own w :: ds.map .d) st with
      | .ok w _ st => .ok w (S.set j .no) st
      | .exc x _ st => .exc x (S.set j .no) st
      | .stuck => .stuck
    | _, _ => .stuck
  | _ => .stuck := rfl
theorem runBO_a (N : Nat) (b : EvS) (ss : List Sl) : runBO N b ss st = match b (ss ++ List.replicate (N - ss.length) .no) st with
  | .rto w _ st => .ok w [] st
  | .exc x _ st => .exc x [] st
  | _ => .stuck := rfl
end
end DL


namespace DL
open PySem PySem.Spec PyProof.Rows L2
/-! ### set(x): what set makes, and what fills it -/
/-- the empty set, as set makes it -/
def noSet (w : World) : Obj := { cls := .type "set", dict := none, data := .set #[] 0 (.fresh 0 0 (!w.params.followText "set-order")) }
/-- s with an empty set behind all -/
def withSet (w : World) (s : Shared) : Shared := { s with heap := s.heap.push (noSet w) }
section
variable {P : Program} {w : World} {A : Around} {E : Value → Shared → Prop} {s : Shared}
theorem withSet_get : (withSet w s).heap.get? s.heap.objs.size = some (noSet w) := Heap.get?_push_size _ rfl
theorem withSet_old {b : Addr} {o : Obj} (e : s.heap.get? b = some o) : (withSet w s).heap.get? b = some o := Heap.get?_push_of_some _ e
/-- what a run told may be handed on -/
theorem run_with {M : Model} {c : Code} {Q1 : Value → Shared → Prop} {R : Result → Shared → Prop} (h : codeAny M A c (wants Q1 E) s) (k : ∀ v t, Q1 v t → R (.ok (.ret v)) t) (x : ∀ e t, E e t → R (.error e) t) : codeAny M A c R s :=
  codeAny_mono h fun r t q => match r, q with
    | .ok (.ret v), q => k v t q
    | .error e, q => x e t q
/-- set(x), by what fills the empty set from x -/
theorem set_by {x : Value} {Q : Value → Shared → Prop}
    (fill : codeAny (model P w) A.in1 (.call (.builtin "set.__init__") ⟨[.ref s.heap.objs.size, x], []⟩) (wants (fun r s2 => r = .none ∧ Q (.ref s.heap.objs.size) s2) E) (withSet w s)) :
    wpAny (model P w) A (call (.type "set") [x]) Q E s := by
  have FT := F.called_set
  have made := code_set_led1 (P := P) (w := w) (A := A.in1) (s := s) (E := E) x (Q₁ := fun o t => o = .ref s.heap.objs.size ∧ t = withSet w s) ⟨rfl, rfl⟩
  apply wpAny_call
  apply codeAny_of_tree
  apply wpAny_pure
  constructor
  · exact Code.quiet_builtin _ (by decide +kernel)
  apply codeAny_builtin F.entry_type_call
  rw [show Around.under A (.builtin "type.__call__" _) = A.in1 from Around.under_plain (c := .builtin "type.__call__" ⟨[.type "set", x], []⟩) rfl rfl]
  have := FT.notType
  have := FT.canCreate
  have := F.typeCall_set_1 x
  obtain ⟨top, others, line⟩ := FT.mro
  have := FT.made
  have := FT.sub
  repeat (any_goals (first | assumption | wp_step))
  apply run_with made (fun o t m => ?_) fun _ _ q => q
  obtain ⟨rfl, rfl⟩ := m
  have isT : Shared.TypeIs (withSet w s) (.ref s.heap.objs.size) "set" := ⟨_, withSet_get, rfl⟩
  have := FT.init.lookup
  have := FT.init.bind (.ref s.heap.objs.size)
  repeat (any_goals (first | assumption | wp_step))
  apply run_with fill (fun o t m => ?_) fun _ _ q => q
  obtain ⟨rfl, q⟩ := m
  repeat (any_goals (first | assumption | wp_step))
/-- what walks along a list, behind the empty set -/
def onList (w : World) (s : Shared) (l : Addr) : Shared := { withSet w s with heap := (withSet w s).heap.push { cls := .type "list_iterator", data := .fields #[.ref l, .int 0 0] } }
/-- set(l) of a list l, by what puts its things in one by one -/
theorem set_by_list {l : Addr} {items : Array Value} {Q : Value → Shared → Prop} (hl : s.heap.IsList l items)
    (go : codeAny (model P w) A.in1.in1 (.builtin "set.update.loop" ⟨[.ref s.heap.objs.size, .ref (s.heap.objs.size + 1)], []⟩) (wants (fun _ s2 => Q (.ref s.heap.objs.size) s2) E) (onList w s l)) :
    wpAny (model P w) A (call (.type "set") [.ref l]) Q E s := by
  apply set_by
  have isT : Shared.TypeIs (withSet w s) (.ref s.heap.objs.size) "set" := ⟨_, withSet_get, rfl⟩
  have hl2 : (withSet w s).heap.IsList l items := hl.push _
  have isL : Shared.TypeIs (withSet w s) (.ref l) "list" := hl2.typeIs
  have at0 := withSet_get (w := w) (s := s)
  have := F.sub_list_set
  have := F.sub_list_frozenset
  apply codeAny_call_builtin F.called_set.init.plain F.entry_set_init
  apply check_set_init_1 isT
  unfold Builtin.«set.__init__» Builtin.Frozenset.updateFrom noKeywords
  have walk : ∀ (K : Value → Shared → Prop) (X : Value → Shared → Prop), K (.ref (withSet w s).heap.objs.size) (onList w s l) → wpAny (model P w) A.in1.in1 (pyIter (.ref l)) K X (withSet w s) := fun K X q => wpAny_pyIter_list hl2 q
  generalize (pyIter : Value → Sem Value) = iter at walk ⊢
  have no : (Value.type "list" == Value.type "dict") = false := by decide
  have zz : (withSet w s).heap.objs.size = s.heap.objs.size + 1 := Heap.size_push ..
  rw [zz] at walk
  generalize withSet w s = s1 at *
  wp_walk
  apply walk
  apply wpAny_bind
  apply wpAny_runValue
  exact run_with go (fun _ _ q => wpAny_pure (wpAny_pure ⟨rfl, q⟩)) fun _ _ q => q
/-- a list's things, put one by one into the set at S; G i: so stands the set when i of them are in -/
theorem fill_list {l I S : Addr} {items : Array Value} {G : Nat → Heap → Prop} {K : Value → Shared → Prop} (hh : A.handled = none) (lI : l ≠ I) (sI : S ≠ I) (sl : S ≠ l)
    (keep : ∀ i h h', G i h → (∀ o, h.get? S = some o → h'.get? S = some o) → G i h')
    (add : ∀ i x (t : Shared) (B : Bool → Shared → Prop) (X : Value → Shared → Prop), items[i]? = some x → G i t.heap → (∀ r h' tk, Heap.SameBut S t.heap h' → G (i + 1) h' → B r { t with heap := h', toks := tk }) → wpAny (model P w) A.in1 (setAdd S x) B X t) :
    ∀ (m i : Nat) (t : Shared), i + m = items.size → t.heap.IsListIter I l i → t.heap.IsList l items → G i t.heap →
      (∀ h' tk, G items.size h' → (∀ b o, b ≠ S → b ≠ I → t.heap.get? b = some o → h'.get? b = some o) → K .none { t with heap := h', toks := tk }) →
      codeAny (model P w) A (.builtin "set.update.loop" ⟨[.ref S, .ref I], []⟩) (wants K E) t := by
  have turns : PySem.Walks P w A.in1 I [I, l] [I] items.size _ _ := PySem.Walks.list (A := A.in1) hh I l lI items
  have off : S ∉ [I] := fun z => sI (List.mem_singleton.mp z)
  intro m
  induction m with
  | zero =>
    intro i t e it li g fin
    obtain rfl : i = items.size := e
    apply codeAny_builtin PyProof.Rows.F.entry_set_update_loop
    rw [show Around.under A (.builtin "set.update.loop" ⟨[.ref S, .ref I], []⟩) = A.in1 from A.under_plainId (by decide +kernel) _]
    refine wpAny_bind ?_
    apply turns.done t _ _ ⟨it, li⟩
    intro h' tk k
    exact wpAny_pure (fin h' tk (keep _ _ _ g fun o q => k S o off q) fun b o _ bI q => k b o (fun z => bI (List.mem_singleton.mp z)) q)
  | succ m ih =>
    intro i t e it li g fin
    apply codeAny_builtin PyProof.Rows.F.entry_set_update_loop
    rw [show Around.under A (.builtin "set.update.loop" ⟨[.ref S, .ref I], []⟩) = A.in1 from A.under_plainId (by decide +kernel) _]
    refine wpAny_bind ?_
    apply turns.item i t _ _ (by omega) ⟨it, li⟩
    intro x h1 k1 hx st1 k
    apply wpAny_bind
    apply wpAny_holding
    apply add i x _ _ _ hx (keep _ _ _ g fun o q => k S o off q)
    intro r h2 k2 sb g2
    have old : ∀ b o, b ≠ S → h1.get? b = some o → h2.get? b = some o := fun b o z q => by rw [sb.2 b z]; exact q
    refine wpAny_pure ⟨plainId_quiet (by decide +kernel) _, ih (i + 1) _ (by omega) (st1.1.at fun o q => old _ _ (Ne.symm sI) q) (st1.2.at fun o q => old _ _ (Ne.symm sl) q) g2 ?_⟩
    intro h3 k3 g3 k'
    exact fin h3 k3 g3 fun b o bS bI q => k' b o bS bI (old b o bS (k b o (fun z => bI (List.mem_singleton.mp z)) q))
/-- set(l) of a list l, G as in fill_list -/
theorem set_of_list {l : Addr} {items : Array Value} {Q : Value → Shared → Prop} (G : Nat → Heap → Prop) (hh : A.handled = none) (hl : s.heap.IsList l items)
    (keep : ∀ i h h', G i h → (∀ o, h.get? s.heap.objs.size = some o → h'.get? s.heap.objs.size = some o) → G i h') (g0 : G 0 (withSet w s).heap)
    (add : ∀ i x (t : Shared) (B : Bool → Shared → Prop) (X : Value → Shared → Prop), items[i]? = some x → G i t.heap → (∀ r h' tk, Heap.SameBut s.heap.objs.size t.heap h' → G (i + 1) h' → B r { t with heap := h', toks := tk }) →
      wpAny (model P w) A.in1.in1.in1 (setAdd s.heap.objs.size x) B X t)
    (fin : ∀ h' tk, G items.size h' → (∀ b o, s.heap.get? b = some o → h'.get? b = some o) → Q (.ref s.heap.objs.size) { s with heap := h', toks := tk }) :
    wpAny (model P w) A (call (.type "set") [.ref l]) Q E s := by
  have lt : l < s.heap.objs.size := hl.elim fun _ q => Heap.lt_size q.1
  have top : (withSet w s).heap.objs.size = s.heap.objs.size + 1 := Heap.size_push ..
  apply set_by_list hl
  apply fill_list (A := A.in1.in1) (G := G) hh (Nat.ne_of_lt (Nat.lt_succ_of_lt lt)) (Nat.ne_of_lt (Nat.lt_succ_self _)) (Nat.ne_of_gt lt) keep add items.size 0 (onList w s l) (Nat.zero_add _)
  · exact ⟨{ cls := .type "list_iterator", data := .fields #[.ref l, .int 0 0] }, by
      have := Heap.get?_push_size (withSet w s).heap (o := { cls := .type "list_iterator", data := .fields #[.ref l, .int 0 0] }) rfl
      rw [top] at this; exact this, rfl, rfl⟩
  · exact (hl.push _).push _
  · exact keep _ _ _ g0 fun o q => Heap.get?_push_of_some _ q
  · intro h' tk g k
    refine fin h' tk g fun b o q => ?_
    have := Heap.lt_size q
    exact k b o (Nat.ne_of_lt this) (Nat.ne_of_lt (Nat.lt_succ_of_lt this)) (Heap.get?_push_of_some _ (Heap.get?_push_of_some _ q))
/-- set(l), l a list of whole numbers -/
theorem set_ints {l : Addr} {items : Array Value} {ns : List Int} {Q : Value → Shared → Prop} (hh : A.handled = none) (hl : s.heap.IsList l items) (hi : IntsAre items.toList ns) (hb : ns.length < 2000)
    (fin : ∀ h' tk c, SetR w h' s.heap.objs.size (fun j => decide (j ∈ ns)) c → (∀ b o, s.heap.get? b = some o → h'.get? b = some o) → Q (.ref s.heap.objs.size) { s with heap := h', toks := tk }) :
    wpAny (model P w) A (call (.type "set") [.ref l]) Q E s := by
  have len : ns.length = items.size := by rw [← Array.length_toList]; exact hi.length.symm
  apply set_of_list (fun i h => ∃ c, c ≤ i ∧ SetR w h s.heap.objs.size (fun j => decide (j ∈ ns.take i)) c) hh hl
  · rintro i h h' ⟨c, lc, R⟩ k
    exact ⟨c, lc, R.at k⟩
  · exact ⟨0, Nat.le_refl _, setR_new_at (ns := ns) withSet_get⟩
  · rintro i x t B X hx ⟨c, lc, R⟩ go
    have hi2 : i < items.size := (Array.getElem?_eq_some_iff.mp hx).1
    obtain ⟨tk, rfl⟩ := IntsAre.int_at hi i x (by rw [Array.getElem?_toList]; exact hx)
    apply wpAny_holding
    refine wpAny_bind ((intKind P w).pyHash (intKind_is P w _ tk) ?_)
    refine setR_add_hashed (s := { t with toks := t.toks + 1 }) R (by unfold scanBound; omega) fun h' sb R2 => go _ h' _ sb ⟨_, ?_, R2.congr fun j => ?_⟩
    · split <;> omega
    · rw [List.take_add_one, List.getD_eq_getElem?_getD, List.getElem?_eq_getElem (by omega)]
      rw [Bool.eq_iff_iff]; simp only [Bool.or_eq_true, decide_eq_true_eq, List.mem_append, Option.toList, Option.getD, List.mem_singleton]
  · rintro h' tk ⟨c, _, R⟩ k
    exact fin h' tk c (R.congr fun j => by rw [List.take_of_length_le (by omega)]) k
/-- how many unlike ones the first i are -/
def few (xs : List Str) : Nat → Nat
  | 0 => 0
  | i + 1 => if xs.getD i Str.empty ∈ xs.take i then few xs i else few xs i + 1
theorem few_le (xs : List Str) : ∀ i, few xs i ≤ i
  | 0 => Nat.le_refl _
  | i + 1 => by have := few_le xs i; unfold few; split <;> omega
/-- set(l), l a list of texts -/
theorem set_strs {l : Addr} {items : Array Value} {xs : List Str} {Q : Value → Shared → Prop} (hh : A.handled = none) (hl : s.heap.IsList l items) (hi : StrsAre items.toList xs) (hb : xs.length < 2000)
    (fin : ∀ h' tk, h'.SetOf (PySem.strKind P w) s.heap.objs.size (fun k => decide (k ∈ xs)) (few xs xs.length) → (∀ b o, s.heap.get? b = some o → h'.get? b = some o) → Q (.ref s.heap.objs.size) { s with heap := h', toks := tk }) :
    wpAny (model P w) A (call (.type "set") [.ref l]) Q E s := by
  have len : xs.length = items.size := by rw [← Array.length_toList]; exact hi.length.symm
  apply set_of_list (fun i h => h.SetOf (PySem.strKind P w) s.heap.objs.size (fun k => decide (k ∈ xs.take i)) (few xs i)) hh hl
  · rintro i h h' ⟨o, es, ep, tb, ho, r⟩ k
    exact ⟨o, es, ep, tb, k o ho, r⟩
  · exact SetOf_congr ((setObjOf_fresh (knd := PySem.strKind P w) _).setOf withSet_get (by decide)) (fun _ => by simp) rfl
  · rintro i x t B X hx R go
    have hi2 : i < items.size := (Array.getElem?_eq_some_iff.mp hx).1
    obtain ⟨tk, rfl⟩ := SS.strs_at hi i x (by rw [Array.getElem?_toList]; exact hx)
    have is1 := strKind_is P w (xs.getD i Str.empty) tk
    have := few_le xs i
    apply wpAny_holding
    refine wpAny_bind ((PySem.strKind P w).pyHash is1 ?_)
    refine wpAny_setAddHashed_of (knd := PySem.strKind P w) (s := { t with toks := t.toks + 1 }) is1 rfl R (by unfold scanBound; omega) fun h' sb R2 => go _ h' _ sb (SetOf_congr R2 (fun k => ?_) ?_)
    · rw [List.take_add_one, List.getD_eq_getElem?_getD, List.getElem?_eq_getElem (by omega)]
      rw [Bool.eq_iff_iff]; simp only [Bool.or_eq_true, decide_eq_true_eq, List.mem_append, Option.toList, Option.getD, List.mem_singleton]
    · rw [few]; simp
  · intro h' tk R k
    rw [len.symm] at R
    exact fin h' tk (SetOf_congr R (fun k => by rw [List.take_length]) rfl) k
end
end DL

namespace DL
open PySem PySem.Spec PyProof.Rows L2
def ins (x : Int) : List Int → List Int
  | [] => [x]
  | y :: r => if x < y then x :: y :: r else if x = y then y :: r else y :: ins x r
def srt : List Int → List Int
  | [] => []
  | x :: r => ins x (srt r)
theorem mem_ins {x z : Int} : ∀ {l : List Int}, z ∈ ins x l ↔ z = x ∨ z ∈ l
  | [] => by simp [ins]
  | y :: r => by
    unfold ins
    split
    · simp
    · split
      · rename_i h; subst h; simp
      · simp only [List.mem_cons, mem_ins (l := r)]
        constructor
        · rintro (h | h | h)
          · exact .inr (.inl h)
          · exact .inl h
          · exact .inr (.inr h)
        · rintro (h | h | h)
          · exact .inr (.inl h)
          · exact .inl h
          · exact .inr (.inr h)
theorem mem_srt {z : Int} : ∀ {l : List Int}, z ∈ srt l ↔ z ∈ l
  | [] => Iff.rfl
  | x :: r => by rw [srt, mem_ins, mem_srt (l := r), List.mem_cons]
theorem pw_ins {x : Int} : ∀ {l : List Int}, l.Pairwise (· < ·) → (ins x l).Pairwise (· < ·)
  | [], _ => by simp [ins]
  | y :: r, h => by
    rw [List.pairwise_cons] at h
    unfold ins
    split
    · rename_i hx
      rw [List.pairwise_cons]
      exact ⟨fun z hz => by
        rcases List.mem_cons.mp hz with e | e
        · rw [e]; exact hx
        · exact Int.lt_trans hx (h.1 z e), List.pairwise_cons.mpr h⟩
    · split
      · exact List.pairwise_cons.mpr h
      · rw [List.pairwise_cons]
        exact ⟨fun z hz => by
          rcases mem_ins.mp hz with e | e
          · rw [e]; omega
          · exact h.1 z e, pw_ins h.2⟩
theorem pw_srt : ∀ {l : List Int}, (srt l).Pairwise (· < ·)
  | [] => List.Pairwise.nil
  | x :: r => pw_ins pw_srt
theorem pw_uniq : ∀ {l m : List Int}, l.Pairwise (· < ·) → m.Pairwise (· < ·) → (∀ z, z ∈ l ↔ z ∈ m) → l = m
  | [], [], _, _, _ => rfl
  | [], y :: r, _, _, h => by have := (h y).mpr (List.mem_cons_self ..); cases this
  | x :: r, [], _, _, h => by have := (h x).mp (List.mem_cons_self ..); cases this
  | x :: r, y :: s, h1, h2, h => by
    rw [List.pairwise_cons] at h1 h2
    have e : x = y := by
      have a := (h x).mp (List.mem_cons_self ..)
      have b := (h y).mpr (List.mem_cons_self ..)
      rcases List.mem_cons.mp a with a | a
      · exact a
      · rcases List.mem_cons.mp b with b | b
        · exact b.symm
        · have := h1.1 y b; have := h2.1 x a; omega
    subst e
    rw [pw_uniq h1.2 h2.2 fun z => ⟨fun m => by
      rcases List.mem_cons.mp ((h z).mp (List.mem_cons_of_mem _ m)) with e | e
      · rw [e] at m; have := h1.1 x m; omega
      · exact e, fun m => by
      rcases List.mem_cons.mp ((h z).mpr (List.mem_cons_of_mem _ m)) with e | e
      · rw [e] at m; have := h2.1 x m; omega
      · exact e⟩]
/-! ### sorted(set(x)), x a list of ints -/
def tSrtSet (K : PySem.W.Frag) (te : TE) : TE := fun σ H Q => te σ H fun v H1 => ∃ (a : Addr) (ns : List Int), v = .ref a ∧ SqL K H1 a (ns.map V.int) ∧ ns.length < 1000 ∧ (srt ns).length < 64 ∧ ∀ q, H1 q = none → Q (.ref q) (upd H1 q (.lst ((srt ns).map V.int)))
section
variable {X : Cx} {B : Hp} {W : WX}
theorem pe_srtSet {e : Expr} {te : TE} {p p2 pos pos2 : Pos} (hc : X.calm = true) (hg : Gl X "sorted") (hm : X.mg "sorted" = none) (hg2 : Gl X "set") (hm2 : X.mg "set" = none) (he : PE X e te)
    (hs : starEach [e] X.env = (false, eval e X.env) :: starEach [] X.env := by rfl)
    (hs2 : starEach [.Call (.Name "set" p2) [e] [] pos2] X.env = (false, eval (.Call (.Name "set" p2) [e] [] pos2) X.env) :: starEach [] X.env := by rfl) :
    PE X (.Call (.Name "sorted" p) [.Call (.Name "set" p2) [e] [] pos2] [] pos) (tSrtSet X.K te) := by
  refine ⟨fun pins s σ H Q I h => ?_⟩
  refine Call_ (ld_blt (u := .builtin "sorted") I hg hm (by decide +kernel) ?_)
  refine PyProof.Rows.callWith_builtin1 (PyProof.Rows.args_cons ?_ rfl) rfl rfl
  refine Call_ (ld_blt I hg2 hm2 PyProof.Rows.boot_set ?_)
  refine PyProof.Rows.callWith_type1 (PyProof.Rows.args_cons (thn (he.run pins s σ H _ I h) fun u s1 ⟨v, H1, I1, r1, q1⟩ => PyProof.Rows.args_nil ?_) hs) hs rfl
  obtain ⟨a, ns, ev, hq, h1000, h64, q⟩ := q1
  subst ev
  obtain rfl : u = Value.ref a := r1
  obtain ⟨its, rv, p', hz⟩ := I1.list hq
  refine set_ints (I1.ok.hd hc) p'.isList (by simpa using rv.ints) (by omega) fun h' tk c R hk => PyProof.Rows.args_nil ?_
  have I2 : Inv X pins σ H1 { s1 with heap := h', toks := tk } := I1.kept hk
  have hc64 : c = (srt ns).length := by
    obtain ⟨o, es, ep, t, ho, hx, hd, hg, nd, hS, hb, hf, hn, _⟩ := id R
    have pm : (es.toList.map keyOf).Perm (srt ns) := (List.perm_ext_iff_of_nodup nd ((pw_srt (l := ns)).imp fun h => Int.ne_of_lt h)).mpr fun z => by
      rw [← hS z, mem_srt, decide_eq_true_eq]
    have := pm.length_eq
    rw [List.length_map, Array.length_toList, hn] at this
    exact this
  refine sorted_set (s := { s1 with heap := h', toks := tk }) R (I1.ok.hd hc) (by omega) fun s' pp out cc ks k g o hp hgg hi hss hmm hl => ?_
  have eks : ks = srt ns := pw_uniq hss pw_srt fun z => by rw [hmm z, mem_srt, decide_eq_true_eq]
  subst eks
  have hlen : ((srt ns).map V.int).length ≤ sizeLine := by rw [List.length_map, sizeLine_eq]; omega
  have hn : H1 pp = none := I2.hok.fresh hp
  have J : Inv X pins σ (upd H1 pp (.lst ((srt ns).map V.int))) { ({ s1 with heap := h', toks := tk } : Shared) with heap := s'.heap, gens := s'.gens, drawn := s'.drawn, toks := s'.toks } :=
    I2.call (ch := []) (Un.laid k hp hn) (I2.hok.laid k hp ⟨hlen, out.toList, cc, vals_of_ints hi, hgg⟩) (by rw [g]; exact I2.bare) (fun _ z => nomatch z)
  have e : s' = { ({ s1 with heap := h', toks := tk } : Shared) with heap := s'.heap, gens := s'.gens, drawn := s'.drawn, toks := s'.toks } := by
    cases s'
    cases s1
    cases o
    rfl
  rw [e]
  exact ⟨.ref pp, _, J, rfl, q pp hn⟩
def oSrt (fa : Ev Opd) : Ev Ow := fun S st => (fa S st).bind fun a S st => match vw S st a with
  | some x => match asL x with
    | some ds => match intsD ds with
      | some ns => if ns.length < 1000 ∧ (srt ns).length < 64 then .ok (.l ((srt ns).map .int)) S st else .stuck
      | none => .stuck
    | none => .stuck
  | _ => .stuck
theorem df_srtSet {e : Expr} {fa : Ev Opd} {p p2 pos pos2 : Pos} (hm : X.mg "sorted" = none) (hm2 : X.mg "set" = none) (he : DO X B W e fa) (hc : X.calm = true := by rfl) (hg : Gl X "sorted" := by rfl) (hg2 : Gl X "set" := by rfl)
    (hs : starEach [e] X.env = (false, eval e X.env) :: starEach [] X.env := by rfl)
    (hs2 : starEach [.Call (.Name "set" p2) [e] [] pos2] X.env = (false, eval (.Call (.Name "set" p2) [e] [] pos2) X.env) :: starEach [] X.env := by rfl) :
    DF X B W (.Call (.Name "sorted" p) [.Call (.Name "set" p2) [e] [] pos2] [] pos) (oSrt fa) :=
  pe_imp (pe_srtSet hc hg hm hg2 hm2 he hs hs2) fun σ H Q ⟨F, S, st, o, q⟩ => ⟨F, S, st, o, (PostF.bind (R := RO (Cx.g X) σ) q).mono fun v H1 ⟨F1, d, S1, st1, g1, o1, r1, p1⟩ => by
    split at p1
    · rename_i x hx
      split at p1
      · rename_i ds hds
        split at p1
        · rename_i ns hns
          split at p1
          · rename_i hl
            obtain ⟨a, xs, rfl, h1, h2⟩ := (o1.vw r1 hx).seqL o1.fH hds
            cases ints_eq hns
            cases rp_ints_inv h2
            exact ⟨a, ns, rfl, h1, hl.1, hl.2, fun q hq => p1.new o1 hq (.l (rp_ints (Cx.g X) F1 _))⟩
          · exact p1.elim
        · exact p1.elim
      · exact p1.elim
    · exact p1.elim⟩
@[simp] theorem oSrt_a (fa : Ev Opd) (S : Sls) (st : Store) : oSrt fa S st = (fa S st).bind fun a S st => match vw S st a with
  | some x => match asL x with
    | some ds => match intsD ds with
      | some ns => if ns.length < 1000 ∧ (srt ns).length < 64 then .ok (.l ((srt ns).map .int)) S st else .stuck
      | none => .stuck
    | none => .stuck
  | _ => .stuck := rfl
end
/-! ### len(set(x)), x a list of texts -/
def tLenSetS (K : PySem.W.Frag) (te : TE) : TE := fun σ H Q => te σ H fun v H1 => ∃ (a : Addr) (ys : List Str), v = .ref a ∧ SqL K H1 a (ys.map V.str) ∧ ys.length < 1000 ∧ Q (.int (few ys ys.length : Nat)) H1
theorem strs_vals : ∀ {ys : List Str} {us : List Value}, Vals (ys.map V.str) us → StrsAre us ys
  | [], _, .nil => .nil
  | _ :: _, _, .cons ⟨k, e⟩ t => by subst e; exact .cons _ k (strs_vals t)
section
variable {X : Cx} {B : Hp} {W : WX}
theorem pe_lenSetS {e : Expr} {te : TE} {p p2 pos pos2 : Pos} (hc : X.calm = true) (hg : Gl X "len") (hm : X.mg "len" = none) (hg2 : Gl X "set") (hm2 : X.mg "set" = none) (he : PE X e te)
    (hs : starEach [e] X.env = (false, eval e X.env) :: starEach [] X.env := by rfl) :
    PE X (.Call (.Name "len" p) [.Call (.Name "set" p2) [e] [] pos2] [] pos) (tLenSetS X.K te) := by
  constructor
  intro pins s σ H Q I h
  apply Call_ (ld_blt (u := .builtin "len") I hg hm boot_len _)
  apply PyProof.Rows.callWith_builtin1 (PyProof.Rows.args_cons _ rfl) rfl rfl
  apply Call_ (ld_blt I hg2 hm2 PyProof.Rows.boot_set _)
  apply PyProof.Rows.callWith_type1 (PyProof.Rows.args_cons (thn (he.run pins s σ H _ I h) _) hs) hs rfl
  rintro u s1 ⟨v, H1, I1, r1, a, ys, rfl, hq, short, q⟩
  apply PyProof.Rows.args_nil
  obtain rfl : u = Value.ref a := r1
  obtain ⟨us, ru, pl, _⟩ := I1.list hq
  apply set_strs (I1.ok.hd hc) pl.isList (by simpa using strs_vals ru) (by omega)
  intro h' tk S old
  apply PyProof.Rows.args_nil
  obtain ⟨o, es, ep, t, at1, ex, data, _, _, _, fits, many⟩ := S
  have := few_le ys ys.length
  apply call_len_set at1 ex data fits (by omega)
  rw [many]
  exact ⟨.int (few ys ys.length : Nat), H1, I1.kept (t' := tk + 1 + 1) old, ⟨_, rfl⟩, q⟩
def dLenSet : D → Option D := fun x => match asL x with
  | some ds => match strsD ds with
    | some ss => if ss.length < 1000 then some (.int (few (ss.map tx) ss.length : Nat)) else none
    | none => none
  | none => none
theorem de_lenSet {e : Expr} {fa : Ev Opd} {p p2 pos pos2 : Pos} (hm : X.mg "len" = none) (hm2 : X.mg "set" = none) (he : DO X B W e fa) (hc : X.calm = true := by rfl) (hg : Gl X "len" := by rfl) (hg2 : Gl X "set" := by rfl)
    (hs : starEach [e] X.env = (false, eval e X.env) :: starEach [] X.env := by rfl) :
    DE X B W (.Call (.Name "len" p) [.Call (.Name "set" p2) [e] [] pos2] [] pos) (o1E dLenSet fa) :=
  pe_imp (pe_lenSetS hc hg hm hg2 hm2 he hs) fun σ H Q ⟨F, S, st, o, q⟩ => ⟨F, S, st, o, (Post.bind (R := RO (Cx.g X) σ) q).mono fun v H1 ⟨F1, d, S1, st1, g1, o1, r1, p1⟩ => by
    split at p1
    · rename_i x hx
      obtain ⟨z, hz, p2⟩ := got_ok p1
      unfold dLenSet at hz
      split at hz
      · rename_i ds hds
        split at hz
        · rename_i ss hss
          split at hz
          · rename_i hl
            cases hz
            obtain ⟨a, xs, rfl, h1, h2⟩ := (o1.vw r1 hx).seqL o1.fH hds
            cases strs_eq hss
            cases rp_strs_inv h2
            exact ⟨a, _, rfl, h1, by rw [List.length_map]; exact hl, by rw [List.length_map]; exact p2 _ H1 F1 .refl o1 (.int _)⟩
          · cases hz
        · cases hz
      · cases hz
    · exact p1.elim⟩
theorem dLenSet_a (ss : List (List Nat)) (h : ss.length < 1000) : dLenSet (.lst (ss.map .str)) = some (.int (few (ss.map tx) ss.length : Nat)) := by simp [dLenSet, asL, h]
end
/-! ### divmod, bit_length -/
def dDm : List D → Option D
  | [.int i, .int j] => if 0 < j ∧ j.natAbs.log2 < 9000 then some (.tup [.int (i / j), .int (i % j)]) else none
  | _ => none
theorem op_dDm {G : Gx} : OpA G (fun xs H Q => ∃ i j, xs = [.int i, .int j] ∧ CDivP i j ∧ ∀ p, H p = none → Q (.ref p) (upd H p (.tup [.int (i / j), .int (i % j)]))) dDm := fun F H vs xs d f hv e => by
  unfold dDm at e
  split at e
  · rename_i i j
    split at e
    · rename_i h
      cases e
      have hc : CDivP i j := by
        refine ⟨h.1, ?_⟩
        have h0 : (j == 0) = false := beq_false_of_ne (by omega)
        show (decide ((if (j == 0) = true then 0 else j.natAbs.log2 / 30 + 1) > 300) && _) = false
        rw [h0]
        have : ¬ (j.natAbs.log2 / 30 + 1 > 300) := by omega
        simp [this]
      cases hv with | cons h1 t => cases t with | cons h2 t => cases t; cases h1.int_eq; cases h2.int_eq; exact gives_tup (.cons (.int _) (.one (.int _))) f fun Q q => ⟨_, _, rfl, hc, q⟩
    · cases e
  · cases e
@[simp] theorem dDm_a (i j : Int) (h0 : 0 < j) (h1 : j ≤ 10 ^ 200) : dDm [.int i, .int j] = some (.tup [.int (i / j), .int (i % j)]) := by
  have h2 : j.natAbs.log2 < 9000 := by
    have h3 : j.natAbs < 2 ^ 9000 := Nat.lt_of_le_of_lt (show j.natAbs ≤ 10 ^ 200 by omega) (by decide +kernel)
    exact (Nat.log2_lt (by omega)).mpr h3
  simp [dDm, h0, h2]
def dBits : D → Option D
  | .int i => some (.int (Builtin.Int.intBits i : Nat))
  | _ => none
section
variable {X : Cx} {B : Hp} {W : WX} {o : Expr} {pos apos : Pos}
theorem de_bits {fo : Ev Opd} (ho : DO X B W o fo) (hbase : attributeBase o "bit_length" X.env (eval o X.env) = eval o X.env := by rfl) (hline : (apos.endLine == pos.line) = true := by rfl) : DE X B W (.Call (.Attribute o "bit_length" apos) [] [] pos) (o1E dBits fo) :=
  pe_imp (pe_bits ho hbase hline) fun σ H Q ⟨F, S, st, o, q⟩ => ⟨F, S, st, o, (Post.bind (R := RO (Cx.g X) σ) q).mono fun v H1 ⟨F1, d, S1, st1, g1, o1, r1, p1⟩ => by
    split at p1
    · rename_i x hx
      obtain ⟨z, hz, p2⟩ := got_ok p1
      unfold dBits at hz
      split at hz
      · cases hz
        have := (o1.vw r1 hx).int_eq
        subst this
        exact ⟨_, rfl, p2 _ H1 F1 .refl o1 (.int _)⟩
      · cases hz
    · exact p1.elim⟩
end
/-! ### x += e of ints -/
def dAddI := dI0 fun i j => i + j
@[simp] theorem dAddI_a (i j : Int) : dAddI (.int i) (.int j) = some (.int (i + j)) := rfl
theorem op_dAddI {G : Gx} : Op2 G (ipI fun i j => i + j) dAddI := op2_I0
theorem op_dSubI {G : Gx} : Op2 G (ipI fun i j => i - j) dSub := op2_I0
end DL

namespace DL
open PySem PySem.Spec PyProof.Rows L2
/-- what a law's call is to come to -/
def LawOk (c : CallT) : Prop := ∀ ns : List Int, ns.length ≤ 63 → (∀ z ∈ ns, z.natAbs.log2 < 1048576) → ∃ st, c [.scr ns] [] = .ok (.bl true) [] st
def spLaw (K : PySem.W.Frag) : Sp := fun vs H Q _ => ∃ (a : Addr) (ns : List Int), vs = [.ref a] ∧ SqL K H a (ns.map V.int) ∧ ns.length ≤ 63 ∧ (∀ z ∈ ns, Builtin.Int.intBits z ≤ 1048576) ∧ ∀ H', Q (.bl true) H'
theorem law_imp {P : Program} {w : World} {K : PySem.W.Frag} {mg : Str → Option Value} {base : Heap} {CX : CXT} {k : Nat} {f : Addr} {fd : FuncData} {ps : List Str} {c : CallT} (h : LawOk c) (F : FnOk P w K mg base CX k f fd ps (spOf ⟨K, mg, w⟩ 1 c)) :
    FnOk P w K mg base CX k f fd ps (spLaw K) := F.imp fun vs H Q E ⟨a, ns, e, hS, hl, hb, q⟩ => by
  subst e
  obtain ⟨st, e⟩ := h ns hl fun z hz => by
    have := hb z hz
    by_cases h0 : z = 0
    · subst h0; decide
    · unfold Builtin.Int.intBits at this
      simp [h0] at this
      omega
  refine ⟨rfl, ⟨H, []⟩, [.scr ns], [], Same.refl H, ⟨rfl, List.nodup_nil, fun n x a e1 e2 => by simp at e1⟩, .one (.scr hS), ?_⟩
  rw [e]
  intro v H' F' _ _ _ _ r
  cases r
  exact q H'
end DL

namespace DL
open PySem PySem.Spec PyProof.Rows L2
/-! ### how a body computes: one row a form -/
/-- range(a, n) -/
def rgG (a n : Int) : Ev (List D) := fun S st => if (-1000000 ≤ a ∧ a ≤ 1000000) ∧ -1000000 ≤ n ∧ n ≤ 1000000 then .ok (rng (n - a).toNat a) S st else .stuck
@[simp] theorem rgG_ok (a n : Int) (S : Sls) (st : Store) (h0 : -1000000 ≤ a) (h1 : a ≤ 1000000) (h2 : -1000000 ≤ n) (h3 : n ≤ 1000000) : rgG a n S st = .ok (rng (n - a).toNat a) S st := if_pos ⟨⟨h0, h1⟩, h2, h3⟩
section
variable {S : Sls} {st : Store}
@[simp] theorem kE_a (d : D) : kE d S st = .ok d S st := rfl
@[simp] theorem vE_a (i : Nat) : vE i S st = match S[i]? with | some (.d d) => .ok d S st | _ => .stuck := rfl
@[simp] theorem zE_a (i : Nat) : zE i S st = match S[i]? with | some (.d d) => .ok d S st | some (.own w) => .ok w.d (S.set i (.d w.d)) st | _ => .stuck := rfl
@[simp] theorem oV_a (f : Ev D) : oV f S st = (f S st).bind fun d S st => .ok (.v d) S st := rfl
@[simp] theorem oS_a (i : Nat) : oS i S st = match S[i]? with | some .no => .stuck | none => .stuck | _ => .ok (.s i) S st := rfl
@[simp] theorem aN_a : aN S st = .ok [] S st := rfl
@[simp] theorem aC_a (f : Ev Opd) (g : Ev (List Opd)) : aC f g S st = (f S st).bind fun a S st => (g S st).bind fun r S st => .ok (a :: r) S st := rfl
@[simp] theorem vw_v (d : D) : vw S st (.v d) = some d := rfl
@[simp] theorem vd_v (d : D) : vd S (.v d) = some d := rfl
@[simp] theorem vd_h (n : Nat) : vd S (.h n) = some (.loc n) := rfl
@[simp] theorem vw_h (n : Nat) : vw S st (.h n) = match st[n]? with | some (.t _) => none | some x => some x.d | none => none := rfl
@[simp] theorem Ob_o (w : Ow) : (Ob.o w).d = w.d := rfl
@[simp] theorem Ob_i (c : Nat) (fs : List (Nat × D)) : (Ob.i c fs).d = .obj c fs := rfl
@[simp] theorem vw_s (i : Nat) : vw S st (.s i) = match S[i]? with | some (.d d) => some d | some (.own w) => some w.d | _ => none := rfl
@[simp] theorem vd_s (i : Nat) : vd S (.s i) = match S[i]? with | some (.d d) => some d | _ => none := rfl
@[simp] theorem vws_n : vws S st [] = some [] := rfl
@[simp] theorem vws_c (o : Opd) (r : List Opd) : vws S st (o :: r) = match vw S st o, vws S st r with | some d, some ds => some (d :: ds) | _, _ => none := rfl
@[simp] theorem vds_n : vds S [] = some [] := rfl
@[simp] theorem vds_c (o : Opd) (r : List Opd) : vds S (o :: r) = match vd S o, vds S r with | some d, some ds => some (d :: ds) | _, _ => none := rfl
@[simp] theorem Ow_l (ds : List D) : (Ow.l ds).d = .lst ds := rfl
@[simp] theorem Ow_k (ds : List (D × D)) : (Ow.k ds).d = .dic ds := rfl
@[simp] theorem o2E_a (op : D → D → Option D) (fa fb : Ev Opd) : o2E op fa fb S st = (fa S st).bind fun a S st => (fb S st).bind fun b S st => match vw S st a, vw S st b with | some x, some y => got (op x y) S st | _, _ => .stuck := rfl
@[simp] theorem o1E_a (op : D → Option D) (fa : Ev Opd) : o1E op fa S st = (fa S st).bind fun a S st => match vw S st a with | some x => got (op x) S st | _ => .stuck := rfl
@[simp] theorem oAE_a (op : List D → Option D) (fa : Ev (List Opd)) : oAE op fa S st = (fa S st).bind fun a S st => match vws S st a with | some x => got (op x) S st | _ => .stuck := rfl
@[simp] theorem oAF_a (op : List D → Option Ow) (fa : Ev (List Opd)) : oAF op fa S st = (fa S st).bind fun a S st => match vws S st a with | some x => got (op x) S st | _ => .stuck := rfl
@[simp] theorem o2F_a (op : D → D → Option Ow) (fa fb : Ev Opd) : o2F op fa fb S st = (fa S st).bind fun a S st => (fb S st).bind fun b S st => match vw S st a, vw S st b with | some x, some y => got (op x y) S st | _, _ => .stuck := rfl
@[simp] theorem mE_a (T : String) (op : D → List D → Option D) (fo : Ev Opd) (fa : Ev (List Opd)) : mE T op fo fa S st = (fo S st).bind fun o S st => match vw S st o with
  | some y => if tyD T y = true then (fa S st).bind fun a S st => match vw S st o, vws S st a with | some y, some x => got (op y x) S st | _, _ => .stuck else .stuck
  | _ => .stuck := rfl
@[simp] theorem m0E_a (T : String) (op : D → Option D) (fo : Ev Opd) : m0E T op fo S st = (fo S st).bind fun o S st => match vw S st o with | some y => if tyD T y = true then got (op y) S st else .stuck | _ => .stuck := rfl
@[simp] theorem fE_a (f : Ev Ow) : fE f S st = (f S st).bind fun w S st => .ok w.d S st := rfl
@[simp] theorem lF_a (fa : Ev (List Opd)) : lF fa S st = (fa S st).bind fun a S st => match vds S a with | some ds => if ds.length ≤ 16777216 then .ok (.l ds) S st else .stuck | none => .stuck := rfl
@[simp] theorem pE_a (fa : Ev (List Opd)) : pE fa S st = (fa S st).bind fun a S st => match vds S a with | some ds => if ds.length ≤ 16777216 then .ok (.tup ds) S st else .stuck | none => .stuck := rfl
@[simp] theorem sN_a : sN S st = .ok none S st := rfl
@[simp] theorem sS_a (f : Ev D) : sS f S st = (f S st).bind fun d S st => match d with | .int i => .ok (some i) S st | _ => .stuck := rfl
@[simp] theorem slE_a (op : D → Option Int → Option Int → Option D) (fa : Ev Opd) (fl fu : Ev (Option Int)) : slE op fa fl fu S st = (fa S st).bind fun a S st => (fl S st).bind fun l S st => (fu S st).bind fun u S st => match vw S st a with | some x => got (op x l u) S st | _ => .stuck := rfl
@[simp] theorem cE_a (c : CallT) (fa : Ev (List Opd)) : cE c fa S st = (fa S st).bind fun a S st => match vds S a with
  | some ds => match c ds st with | .ok d _ st => .ok d S st | .exc x _ st => .exc x S st | .stuck => .stuck
  | none => .stuck := rfl
@[simp] theorem tT_a (f : Ev Opd) : tT f S st = (f S st).bind fun o S st => match vw S st o with | some d => got (tru d) S st | none => .stuck := rfl
@[simp] theorem tN_a (f : Ev Bool) : tN f S st = (f S st).bind fun b S st => .ok (!b) S st := rfl
@[simp] theorem tA_a (f g : Ev Bool) : tA f g S st = (f S st).bind fun b S st => if b = true then g S st else .ok false S st := rfl
@[simp] theorem tO_a (f g : Ev Bool) : tO f g S st = (f S st).bind fun b S st => if b = true then .ok true S st else g S st := rfl
@[simp] theorem tV_a (f : Ev D) : tV f S st = (f S st).bind fun d S st => match d with | .bl k => .ok k S st | _ => .stuck := rfl
@[simp] theorem tY_a : tY S st = .ok true S st := rfl
@[simp] theorem eA_a (f g : Ev D) : eA f g S st = (f S st).bind fun d S st => match d with | .bl b => if b = true then g S st else .ok (.bl false) S st | _ => .stuck := rfl
@[simp] theorem eO_a (f g : Ev D) : eO f g S st = (f S st).bind fun d S st => match d with | .bl b => if b = true then .ok (.bl true) S st else g S st | _ => .stuck := rfl
@[simp] theorem eN_a (f : Ev D) : eN f S st = (f S st).bind fun d S st => match d with | .bl b => .ok (.bl (!b)) S st | _ => .stuck := rfl
@[simp] theorem eI_a (t : Ev Bool) (f g : Ev D) : eI t f g S st = (t S st).bind fun b S st => if b = true then f S st else g S st := rfl
@[simp] theorem sNil_a : sNil S st = .nx S st := rfl
@[simp] theorem sSeq_a (f g : EvS) : sSeq f g S st = (f S st).then g := rfl
@[simp] theorem sBk_a : sBk S st = .bk S st := rfl
@[simp] theorem sCt_a : sCt S st = .ct S st := rfl
@[simp] theorem sE_a (f : Ev D) : sE f S st = (f S st).out fun _ S st => .nx S st := rfl
@[simp] theorem sR_a (f : Ev D) : sR f S st = (f S st).out fun d S st => .ret d S st := rfl
@[simp] theorem sRN_a : sRN S st = .ret .non S st := rfl
@[simp] theorem sI_a (t : Ev Bool) (f g : EvS) : sI t f g S st = (t S st).out fun b S st => if b = true then f S st else g S st := rfl
@[simp] theorem sV_a (i : Nat) (f : Ev D) : sV i f S st = (f S st).out fun d S st => .nx (S.set i (.d d)) st := rfl
@[simp] theorem sO_a (i : Nat) (f : Ev Ow) : sO i f S st = (f S st).out fun w S st => .nx (S.set i (.own w)) st := rfl
@[simp] theorem gV_a (i : Nat) (d : D) : gV i d S = some (S.set i (.d d)) := rfl
@[simp] theorem gN_a : gN [] S = some S := rfl
@[simp] theorem gC_a (g : Tg) (gs : List D → Sls → Option Sls) (d : D) (r : List D) : gC g gs (d :: r) S = match g d S with | some S' => gs r S' | none => none := rfl
@[simp] theorem gT_a (n : Nat) (gs : List D → Sls → Option Sls) (ds : List D) : gT n gs (.tup ds) S = if ds.length = n then gs ds S else none := rfl
@[simp] theorem sG_a (g : Tg) (f : Ev D) : sG g f S st = (f S st).out fun d S st => match g d S with | some S' => .nx S' st | none => .stuck := rfl
@[simp] theorem sAug_a (i : Nat) (op : D → D → Option D) (f : Ev Opd) : sAug i op f S st = match S[i]? with
  | some (.d x) => (f S st).out fun y S st => match vw S st y with
    | some y => match op x y with
      | some z => .nx (S.set i (.d z)) st
      | none => .stuck
    | none => .stuck
  | _ => .stuck := rfl
@[simp] theorem sF_a (f : Ev (List D)) (g : Tg) (b : EvS) : sF f g b S st = (f S st).out fun ds S st => forL g b ds S st := rfl
@[simp] theorem iE_a (f : Ev D) : iE f S st = (f S st).bind fun d S st => got (itD d) S st := rfl
@[simp] theorem iR1_a (f : Ev (List Opd)) : iR1 f S st = (f S st).bind fun a S st => match vws S st a with
  | some [.int n] => rgG 0 n S st
  | _ => .stuck := by
  unfold iR1 rgG
  congr 1; funext a S st
  rcases vws S st a with _ | l
  · rfl
  · rcases l with _ | ⟨x, r⟩
    · rfl
    · cases x <;> cases r <;> simp
@[simp] theorem iR2_a (f : Ev (List Opd)) : iR2 f S st = (f S st).bind fun a S st => match vws S st a with
  | some [.int a, .int n] => rgG a n S st
  | _ => .stuck := rfl
@[simp] theorem iEn_a (f : Ev (List Opd)) : iEn f S st = (f S st).bind fun a S st => match vds S a with
  | some [d] => match asL d with | some ds => .ok (enumD ds) S st | none => .stuck
  | _ => .stuck := rfl
@[simp] theorem iZ_a (f : Ev (List Opd)) : iZ f S st = (f S st).bind fun a S st => match vds S a with
  | some [d, e] => match asL d, asL e with | some ds, some es => .ok (zipD ds es) S st | _, _ => .stuck
  | _ => .stuck := rfl
@[simp] theorem iV_a (f : Ev (List Opd)) : iV f S st = (f S st).bind fun a S st => match vds S a with
  | some [d] => match asL d with | some ds => .ok ds.reverse S st | none => .stuck
  | _ => .stuck := rfl
@[simp] theorem lcF_a (fi : Ev (List D)) (g : Tg) (own : List Nat) (t : Ev Bool) (f : Ev D) : lcF fi g own t f S st = (fi S st).bind fun ds S st =>
  (lcL g own t f ds (wipeS S own) st).bind fun ys S' st => if ys.length ≤ 16777216 then .ok (.l ys) (restS S own S') st else .stuck := rfl
@[simp] theorem restS_n (S0 : Sls) : restS S0 [] S = S := rfl
@[simp] theorem restS_c (S0 : Sls) (i : Nat) (r : List Nat) : restS S0 (i :: r) S = match S0[i]? with | some (.d x) => restS S0 r (S.set i (.d x)) | _ => restS S0 r S := rfl
@[simp] theorem wipeS_n : wipeS S [] = S := rfl
@[simp] theorem wipeS_c (v : Nat) (vs : List Nat) : wipeS S (v :: vs) = (wipeS S vs).set v .no := rfl
@[simp] theorem sAp_a (i : Nat) (f : Ev Opd) : sAp i f S st = match S[i]? with
  | some (.own (.l _)) => (f S st).out fun o S st => match vd S o, S[i]? with
    | some d, some (.own (.l ds)) => if ds.length < 16777216 then .nx (S.set i (.own (.l (ds ++ [d])))) st else .stuck
    | _, _ => .stuck
  | _ => .stuck := rfl
@[simp] theorem sEx_a (i : Nat) (f : Ev D) : sEx i f S st = match S[i]? with
  | some (.own (.l _)) => (f S st).out fun d S st => match d, S[i]? with
    | .lst es, some (.own (.l ds)) => if ds.length + es.length ≤ 16777216 then .nx (S.set i (.own (.l (ds ++ es)))) st else .stuck
    | _, _ => .stuck
  | _ => .stuck := rfl
@[simp] theorem sP_a (i j : Nat) (fa : Ev (List Opd)) : sP i j fa S st = (fa S st).out fun a S st => match vds S a with
  | some [x, y] => .nx ((S.set i (.d x)).set j (.d y)) st
  | _ => .stuck := rfl
theorem runB_a (N : Nat) (b : EvS) (ds : List D) : runB N b ds st = match b (ds.map Sl.d ++ List.replicate (N - ds.length) .no) st with
  | .nx _ st => .ok .non [] st
  | .ret d _ st => .ok d [] st
  | .exc x _ st => .exc x [] st
  | _ => .stuck := rfl
end
@[simp] theorem dI2_a (c : Int → Int → Bool) (g : Int → Int → Int) (i j : Int) : dI2 c g (.int i) (.int j) = if c i j = true then some (.int (g i j)) else none := rfl
@[simp] theorem dI0_a (g : Int → Int → Int) (i j : Int) : dI0 g (.int i) (.int j) = some (.int (g i j)) := rfl
@[simp] theorem dSub_a (i j : Int) : dSub (.int i) (.int j) = some (.int (i - j)) := rfl
theorem log2_lit {j : Int} (h0 : 0 < j) (h1 : j ≤ 10 ^ 200) : j.natAbs.log2 < 9000 := by
  have h2 : j.natAbs < 2 ^ 9000 := by
    have : j.natAbs ≤ 10 ^ 200 := by omega
    exact Nat.lt_of_le_of_lt this (by decide +kernel)
  exact (Nat.log2_lt (by omega)).mpr h2
@[simp] theorem dFdiv_a (i j : Int) (h0 : 0 < j) (h1 : j ≤ 10 ^ 200) : dFdiv (.int i) (.int j) = some (.int (i / j)) := by
  show dI2 _ _ _ _ = _
  simp [dI2, h0, log2_lit h0 h1]
@[simp] theorem dMod_a (i j : Int) (h0 : 0 < j) : dMod (.int i) (.int j) = some (.int (i % j)) := by
  show dI2 _ _ _ _ = _
  simp [dI2, h0]
@[simp] theorem dAdd_i (i j : Int) : dAdd (.int i) (.int j) = some (.int (i + j)) := rfl
@[simp] theorem dAdd_s (s t : List Nat) (h : s.length + t.length ≤ 16777216) : dAdd (.str s) (.str t) = some (.str (s ++ t)) := if_pos h
@[simp] theorem dAdd_l (s t : List D) (h : s.length + t.length ≤ 16777216) : dAdd (.lst s) (.lst t) = some (.lst (s ++ t)) := if_pos h
@[simp] theorem dAdd_t (s t : List D) (h : s.length + t.length ≤ 16777216) : dAdd (.tup s) (.tup t) = some (.tup (s ++ t)) := if_pos h
@[simp] theorem dMul_i (i j : Int) (h : mulC i j = true) : dMul (.int i) (.int j) = some (.int (i * j)) := if_pos h
/-- below a million digits, say -/
def Sm (i : Int) : Prop := i.natAbs.log2 < 40000000
theorem mulC_of {i j : Int} (h : Sm i) (h' : Sm j) : mulC i j = true := decide_eq_true (by unfold Sm at h h'; omega)
theorem log2_lt {n k : Nat} (h : n < 2 ^ k) (hk : 0 < k) : n.log2 < k := by
  by_cases h0 : n = 0
  · subst h0; simpa using hk
  · exact (Nat.log2_lt h0).mpr h
theorem Sm.of {i : Int} (h : i.natAbs < 2 ^ 2000) : Sm i := by
  have := log2_lt h (by decide)
  unfold Sm; omega
theorem Sm.lit {i : Int} (h0 : -(10 ^ 200) ≤ i) (h1 : i ≤ 10 ^ 200) : Sm i := Sm.of (by
  have : i.natAbs ≤ 10 ^ 200 := by omega
  exact Nat.lt_of_le_of_lt this (by decide +kernel))
theorem Sm.small {i : Int} (h0 : -1000000000000 ≤ i) (h1 : i ≤ 1000000000000) : Sm i := .lit (by omega) (by omega)
@[simp] theorem dMul_s (s : List Nat) (k : Int) (h0 : 0 ≤ k) (h1 : k ≤ 1000000) (h2 : s.length * k.toNat ≤ 1000000) : dMul (.str s) (.int k) = some (.str (reps s k.toNat)) := by
  simp [dMul, h0, h1, h2]
@[simp] theorem dPow_a (i j : Int) (h : (decide (0 ≤ j) && decide (j ≤ 1000000) && decide (i.natAbs < 18446744073709551616)) = true) : dPow (.int i) (.int j) = some (.int (i ^ j.toNat)) := by
  rw [Bool.and_eq_true, Bool.and_eq_true] at h
  show dI2 _ _ _ _ = _
  simp only [dI2, h.1.1, h.1.2, h.2, Bool.and_self, Bool.true_or, if_true]
theorem dPow_w (i j : Int) (h0 : 0 ≤ j) (h1 : j ≤ 1000) (h : i.natAbs < 2 ^ 1000) : dPow (.int i) (.int j) = some (.int (i ^ j.toNat)) := by
  have h2 : i.natAbs.log2 < 1000 := by
    by_cases hz : i.natAbs = 0
    · rw [hz]; decide
    · exact (Nat.log2_lt hz).mpr h
  have h3 : ((i.natAbs.log2 + 1 : Nat) : Int) * j ≤ 134217728 := Int.le_trans (Int.mul_le_mul (by omega : ((i.natAbs.log2 + 1 : Nat) : Int) ≤ 1000) h1 h0 (by decide)) (by decide)
  show dI2 _ _ _ _ = _
  simp only [dI2, h0, h3, decide_true, Bool.or_true, Bool.and_self, if_true]
@[simp] theorem dLt_i (i j : Int) : dLt (.int i) (.int j) = some (.bl (decide (i < j))) := rfl
@[simp] theorem dLe_i (i j : Int) : dLe (.int i) (.int j) = some (.bl (decide (i ≤ j))) := rfl
@[simp] theorem dGt_i (i j : Int) : dGt (.int i) (.int j) = some (.bl (decide (j < i))) := rfl
@[simp] theorem dGe_i (i j : Int) : dGe (.int i) (.int j) = some (.bl (decide (j ≤ i))) := rfl
@[simp] theorem dLt_s (i j : List Nat) : dLt (.str i) (.str j) = some (.bl (decide (i < j))) := rfl
@[simp] theorem dLe_s (i j : List Nat) : dLe (.str i) (.str j) = some (.bl (!decide (j < i))) := rfl
@[simp] theorem dEq_a (a b : D) : dEq a b = if eqOk a = true ∧ eqOk b = true then some (.bl (deq a b)) else none := rfl
@[simp] theorem dNe_a (a b : D) : dNe a b = if eqOk a = true ∧ eqOk b = true then some (.bl (!deq a b)) else none := rfl
@[simp] theorem eqOk_non : eqOk .non = true := rfl
@[simp] theorem eqOk_bl (b : Bool) : eqOk (.bl b) = true := rfl
@[simp] theorem eqOk_int (b : Int) : eqOk (.int b) = true := rfl
@[simp] theorem eqOk_str (b : List Nat) : eqOk (.str b) = true := rfl
@[simp] theorem eqOk_nil : eqOk (.lst []) = true := rfl
@[simp] theorem deq_int (a b : Int) : deq (.int a) (.int b) = decide (a = b) := by simp [deq, toPy, PyData.eqv, Bool.beq_eq_decide_eq]
@[simp] theorem deq_bl (a b : Bool) : deq (.bl a) (.bl b) = decide (a = b) := by simp [deq, toPy, PyData.eqv, Bool.beq_eq_decide_eq]
@[simp] theorem deq_str (a b : List Nat) : deq (.str a) (.str b) = decide (a = b) := by
  have : (tx a == tx b) = decide (a = b) := by
    by_cases h : a = b
    · subst h; simp
    · simp [h]; exact fun z => h (tx_inj z)
  simp [deq, toPy, PyData.eqv, this]
@[simp] theorem deq_int_str (a : Int) (b : List Nat) : deq (.int a) (.str b) = false := by simp [deq, toPy, PyData.eqv]
@[simp] theorem deq_bl_str (a : Bool) (b : List Nat) : deq (.bl a) (.str b) = false := by simp [deq, toPy, PyData.eqv]
@[simp] theorem deq_non_str (b : List Nat) : deq .non (.str b) = false := by simp [deq, toPy, PyData.eqv]
@[simp] theorem deq_lst_str (a : List D) (b : List Nat) : deq (.lst a) (.str b) = false := by simp [deq, toPy, PyData.eqv]
@[simp] theorem deq_tup_str (a : List D) (b : List Nat) : deq (.tup a) (.str b) = false := by simp [deq, toPy, PyData.eqv]
@[simp] theorem deq_str_non (a : List Nat) : deq (.str a) .non = false := by simp [deq, toPy, PyData.eqv]
@[simp] theorem deq_non : deq .non .non = true := by simp [deq, toPy, PyData.eqv]
theorem deq_lst (a b : List D) : deq (.lst a) (.lst b) = deqs a b := by simp [deq, deqs, toPy, PyData.eqv]
theorem deq_tup (a b : List D) : deq (.tup a) (.tup b) = deqs a b := by simp [deq, deqs, toPy, PyData.eqv]
@[simp] theorem deqs_n : deqs [] [] = true := by simp [deqs, toPys, PyData.eqvAll]
@[simp] theorem deqs_c (a b : D) (r s : List D) : deqs (a :: r) (b :: s) = (deq a b && deqs r s) := by simp [deqs, deq, toPys, PyData.eqvAll]
@[simp] theorem deqs_nc (b : D) (s : List D) : deqs [] (b :: s) = false := by simp [deqs, toPys, PyData.eqvAll]
@[simp] theorem deqs_cn (b : D) (s : List D) : deqs (b :: s) [] = false := by simp [deqs, toPys, PyData.eqvAll]
@[simp] theorem dIs_n (x : D) : dIs x .non = some (.bl (isN x)) := by cases x <;> rfl
@[simp] theorem dIsNot_n (x : D) : dIsNot x .non = some (.bl (!isN x)) := by cases x <;> rfl
@[simp] theorem dIs_b (a b : Bool) : dIs (.bl a) (.bl b) = some (.bl (decide (a = b))) := rfl
@[simp] theorem dIsNot_b (a b : Bool) : dIsNot (.bl a) (.bl b) = some (.bl (!decide (a = b))) := rfl
@[simp] theorem isN_non : isN .non = true := rfl
@[simp] theorem isN_int (i : Int) : isN (.int i) = false := rfl
@[simp] theorem isN_str (i : List Nat) : isN (.str i) = false := rfl
@[simp] theorem isN_lst (i : List D) : isN (.lst i) = false := rfl
@[simp] theorem isN_tup (i : List D) : isN (.tup i) = false := rfl
@[simp] theorem isN_bl (i : Bool) : isN (.bl i) = false := rfl
@[simp] theorem dIn_a (x y : D) : dIn x y = (inD x y).map .bl := rfl
@[simp] theorem dNotIn_a (x y : D) : dNotIn x y = (inD x y).map fun b => .bl (!b) := rfl
@[simp] theorem inD_sg (c : Nat) (t : List Nat) : inD (.str [c]) (.str t) = some (decide (c ∈ t)) := rfl
@[simp] theorem inD_l (x : D) (ds : List D) : inD x (.lst ds) = if eqOk x = true ∧ eqOk (.lst ds) = true then some (ds.any fun z => deq z x) else none := rfl
@[simp] theorem inD_t (x : D) (ds : List D) : inD x (.tup ds) = if flatD x = true ∧ ds.all flatD = true then some (ds.any fun z => deq z x) else none := rfl
@[simp] theorem dIx_s (s : List Nat) (i : Int) (h : s.length ≤ 16777216) : dIx (.str s) (.int i) = (atI s i).map fun c => .str [c] := if_pos h
@[simp] theorem dIx_l (s : List D) (i : Int) : dIx (.lst s) (.int i) = atI s i := rfl
@[simp] theorem dIx_t (s : List D) (i : Int) : dIx (.tup s) (.int i) = atI s i := rfl
@[simp] theorem dIx_scr (s : List Int) (i : Int) : dIx (.scr s) (.int i) = (atI s i).map .int := rfl
@[simp] theorem dSl_s (s : List Nat) (l u : Option Int) (h : s.length ≤ 16777216) : dSl (.str s) l u = some (.str (cut s l u)) := if_pos h
@[simp] theorem dSl_l (s : List D) (l u : Option Int) : dSl (.lst s) l u = some (.lst (cut s l u)) := rfl
@[simp] theorem dSl_t (s : List D) (l u : Option Int) : dSl (.tup s) l u = some (.tup (cut s l u)) := rfl
@[simp] theorem dSl_scr (s : List Int) (l u : Option Int) : dSl (.scr s) l u = some (.lst (cut (s.map .int) l u)) := rfl
@[simp] theorem dLen_s (s : List Nat) (h : s.length ≤ 16777216) : dLen [.str s] = some (.int s.length) := if_pos h
@[simp] theorem dLen_l (s : List D) : dLen [.lst s] = some (.int s.length) := rfl
@[simp] theorem dLen_t (s : List D) : dLen [.tup s] = some (.int s.length) := rfl
@[simp] theorem dLen_scr (s : List Int) : dLen [.scr s] = some (.int s.length) := rfl
@[simp] theorem dAll_a (ds : List D) : dAll [.lst ds] = (boolsD ds).map fun bs => .bl (bs.all id) := rfl
@[simp] theorem dAny_a (ds : List D) : dAny [.lst ds] = (boolsD ds).map fun bs => .bl (bs.any id) := rfl
@[simp] theorem dSum_a (ds : List D) : dSum [.lst ds] = (intsD ds).map fun bs => .int bs.sum := rfl
@[simp] theorem itD_l (ds : List D) : itD (.lst ds) = some ds := rfl
@[simp] theorem itD_t (ds : List D) : itD (.tup ds) = some ds := rfl
@[simp] theorem itD_scr (ns : List Int) : itD (.scr ns) = some (ns.map .int) := rfl
@[simp] theorem itD_s (s : List Nat) : itD (.str s) = some (sgs s) := rfl
@[simp] theorem asL_l (ds : List D) : asL (.lst ds) = some ds := rfl
@[simp] theorem asL_scr (ns : List Int) : asL (.scr ns) = some (ns.map .int) := rfl
@[simp] theorem tru_bl (b : Bool) : tru (.bl b) = some b := rfl
@[simp] theorem tyD_s (s : List Nat) : tyD "str" (.str s) = true := rfl
@[simp] theorem tyD_l (s : List D) : tyD "list" (.lst s) = true := rfl
@[simp] theorem dIsI_str_s (s : List Nat) : dIsI [.str s, .ty "str"] = some (.bl true) := rfl
@[simp] theorem dIsI_str_i (i : Int) : dIsI [.int i, .ty "str"] = some (.bl false) := rfl
@[simp] theorem dIsI_str_b (i : Bool) : dIsI [.bl i, .ty "str"] = some (.bl false) := rfl
@[simp] theorem dIsI_str_n : dIsI [.non, .ty "str"] = some (.bl false) := rfl
@[simp] theorem dIsI_str_l (i : List D) : dIsI [.lst i, .ty "str"] = some (.bl false) := rfl
@[simp] theorem dIsI_str_t (i : List D) : dIsI [.tup i, .ty "str"] = some (.bl false) := rfl
@[simp] theorem dIsI_bool_b (i : Bool) : dIsI [.bl i, .ty "bool"] = some (.bl true) := rfl
@[simp] theorem dIsI_bool_i (i : Int) : dIsI [.int i, .ty "bool"] = some (.bl false) := rfl
@[simp] theorem dIsI_int_i (i : Int) : dIsI [.int i, .ty "int"] = some (.bl true) := rfl
theorem got_atI {xs : List D} {i : Int} {S : Sls} {st : Store} : got (atI xs i) S st = match atI xs i with | some d => .ok d S st | none => .stuck := by cases atI xs i <;> rfl
theorem atI_some {α : Type} {xs : List α} {i : Int} (h0 : 0 ≤ i) (h1 : i < xs.length) : ∃ x, atI xs i = some x ∧ x ∈ xs := by
  have hl : i.toNat < xs.length := by omega
  refine ⟨xs[i.toNat], ?_, List.getElem_mem hl⟩
  unfold atI ixN
  rw [if_pos h0, if_pos h1]
  simp [hl]
theorem atI_eq {α : Type} {xs : List α} {i : Int} (h0 : 0 ≤ i) (h1 : i < xs.length) : atI xs i = some (xs[i.toNat]'(by omega)) := by
  unfold atI ixN
  rw [if_pos h0, if_pos h1]
  simp
@[simp] theorem flatD_int (i : Int) : flatD (.int i) = true := rfl
@[simp] theorem flatD_str (i : List Nat) : flatD (.str i) = true := rfl
@[simp] theorem flatD_bl (i : Bool) : flatD (.bl i) = true := rfl
@[simp] theorem flatD_non : flatD .non = true := rfl
theorem flat_pure : ∀ {ds : List D}, ds.all flatD = true → pureDs ds = true ∧ depDs ds = 0
  | [], _ => by simp [pureDs, depDs]
  | d :: r, h => by
    rw [List.all_cons, Bool.and_eq_true] at h
    obtain ⟨a, b⟩ := flat_pure h.2
    have h1 := h.1
    cases d <;> simp [flatD] at h1 <;> simp [pureDs, pureD, depDs, depD, a, b]
@[simp] theorem eqOk_lst (ds : List D) (h : ds.all flatD = true) : eqOk (.lst ds) = true := by
  obtain ⟨a, b⟩ := flat_pure h
  simp [eqOk, pureD, depD, a, b]
@[simp] theorem eqOk_tup (ds : List D) (h : ds.all flatD = true) : eqOk (.tup ds) = true := by
  obtain ⟨a, b⟩ := flat_pure h
  simp [eqOk, pureD, depD, a, b]
@[simp] theorem flat_strs (ss : List (List Nat)) : (ss.map D.str).all flatD = true := by simp
@[simp] theorem flat_ints (ss : List Int) : (ss.map D.int).all flatD = true := by simp
/-! ### loops -/
theorem forL_ind {g : Tg} {body : EvS} (P : List D → Sls → Prop) (step : ∀ d r S st, P (d :: r) S → ∃ S1 S2, g d S = some S1 ∧ body S1 st = .nx S2 st ∧ P r S2) : ∀ (ds : List D) (S : Sls) (st : Store), P ds S → ∃ S', forL g body ds S st = .nx S' st ∧ P [] S'
  | [], S, st, h => ⟨S, rfl, h⟩
  | d :: r, S, st, h => by
    obtain ⟨S1, S2, e1, e2, h2⟩ := step d r S st h
    obtain ⟨S', e3, h3⟩ := forL_ind P step r S2 st h2
    exact ⟨S', by simp only [forL, e1, e2]; exact e3, h3⟩
@[simp] theorem forL_n (g : Tg) (body : EvS) (S : Sls) (st : Store) : forL g body [] S st = .nx S st := rfl
theorem forL_c (g : Tg) (body : EvS) (d : D) (r : List D) (S : Sls) (st : Store) : forL g body (d :: r) S st = match g d S with
    | some S1 => match body S1 st with
      | .nx S2 st2 => forL g body r S2 st2
      | .ct S2 st2 => forL g body r S2 st2
      | .rto w S2 st2 => .rto w S2 st2
      | .bk S2 st2 => .nx S2 st2
      | .ret v S2 st2 => .ret v S2 st2
      | .exc x S2 st2 => .exc x S2 st2
      | .stuck => .stuck
    | none => .stuck := rfl
/-- a loop that looks for one item and hands back v -/
theorem forL_find {g : Tg} {body : EvS} {st : Store} (p : D → Bool) (v : D) (I : Sls → Prop) : ∀ (ds : List D) (S : Sls), (∀ d ∈ ds, ∀ S, I S → ∃ S1, g d S = some S1 ∧ (p d = true → ∃ S2, body S1 st = .ret v S2 st) ∧ (p d = false → ∃ S2, body S1 st = .nx S2 st ∧ I S2)) → I S →
    (ds.any p = true → ∃ S', forL g body ds S st = .ret v S' st) ∧ (ds.any p = false → ∃ S', forL g body ds S st = .nx S' st ∧ I S')
  | [], S, _, hI => ⟨fun h => (by cases h), fun _ => ⟨S, rfl, hI⟩⟩
  | d :: r, S, h, hI => by
    obtain ⟨S1, e1, h1, h2⟩ := h d (List.mem_cons_self ..) S hI
    cases hp : p d with
    | true =>
      obtain ⟨S2, e2⟩ := h1 hp
      refine ⟨fun _ => ⟨S2, by rw [forL_c, e1]; simp only [e2]⟩, fun z => ?_⟩
      rw [List.any_cons, hp] at z; cases z
    | false =>
      obtain ⟨S2, e2, hI2⟩ := h2 hp
      have ih := forL_find p v I r S2 (fun d hd => h d (List.mem_cons_of_mem _ hd)) hI2
      rw [List.any_cons, hp, Bool.false_or]
      refine ⟨fun z => ?_, fun z => ?_⟩
      · obtain ⟨S', e3⟩ := ih.1 z
        exact ⟨S', by rw [forL_c, e1]; simp only [e2]; exact e3⟩
      · obtain ⟨S', e3, h3⟩ := ih.2 z
        exact ⟨S', by rw [forL_c, e1]; simp only [e2]; exact e3, h3⟩
theorem mem_sgs {s : List Nat} {d : D} (h : d ∈ sgs s) : ∃ c ∈ s, d = .str [c] := by
  unfold sgs at h
  obtain ⟨c, h1, h2⟩ := List.mem_map.mp h
  exact ⟨c, h1, h2.symm⟩
@[simp] theorem sgs_len (s : List Nat) : (sgs s).length = s.length := by simp [sgs]
theorem mem_enum {ds : List D} {d : D} (h : d ∈ enumD ds) : ∃ (k : Nat) (x : D), d = .tup [.int k, x] ∧ k < ds.length ∧ x ∈ ds := by
  unfold enumD at h
  obtain ⟨⟨x, k⟩, h1, h2⟩ := List.mem_map.mp h
  have h3 := List.mem_zipIdx' h1
  exact ⟨k, x, h2.symm, h3.1, by rw [h3.2]; exact List.getElem_mem _⟩
@[simp] theorem lcL_n (g : Tg) (own : List Nat) (t : Ev Bool) (f : Ev D) (S : Sls) (st : Store) : lcL g own t f [] S st = .ok [] S st := rfl
theorem lcL_c (g : Tg) (own : List Nat) (t : Ev Bool) (f : Ev D) (d : D) (r : List D) (S : Sls) (st : Store) : lcL g own t f (d :: r) S st = match g d S with
    | some S1 => (t S1 st).calm.bind fun b S2 st2 => if b = true then
        (f S2 st2).calm.bind fun y S3 st3 => (lcL g own t f r (wipeS S3 own) st3).bind fun ys S4 st4 => .ok (y :: ys) S4 st4
      else lcL g own t f r (wipeS S2 own) st2
    | none => .stuck := rfl
/-- a comprehension without tests that maps by m -/
theorem lcL_map {g : Tg} {own : List Nat} {f : Ev D} {S : Sls} {st : Store} (m : D → D) : ∀ (ds : List D), (∀ d ∈ ds, ∃ S1 S3, g d S = some S1 ∧ f S1 st = .ok (m d) S3 st ∧ wipeS S3 own = S) → lcL g own tY f ds S st = .ok (ds.map m) S st
  | [], _ => rfl
  | d :: r, h => by
    obtain ⟨S1, S3, e1, e2, e3⟩ := h d (List.mem_cons_self ..)
    have ih := lcL_map m r fun d hd => h d (List.mem_cons_of_mem _ hd)
    rw [lcL_c, e1]
    simp only [tY_a, Res.calm_ok, Res.bind_ok, if_true, e2, e3, ih, List.map_cons]
theorem lcL_filter {g : Tg} {own : List Nat} {t : Ev Bool} {f : Ev D} {S : Sls} {st : Store} (p : D → Bool) (m : D → D) : ∀ (ds : List D), (∀ d ∈ ds, ∃ S1 S2, g d S = some S1 ∧ t S1 st = .ok (p d) S2 st ∧ (p d = false → wipeS S2 own = S) ∧ (p d = true → ∃ S3, f S2 st = .ok (m d) S3 st ∧ wipeS S3 own = S)) → lcL g own t f ds S st = .ok ((ds.filter p).map m) S st
  | [], _ => rfl
  | d :: r, h => by
    obtain ⟨S1, S2, e1, e2, e3, e4⟩ := h d (List.mem_cons_self ..)
    have ih := lcL_filter p m r fun d hd => h d (List.mem_cons_of_mem _ hd)
    rw [lcL_c, e1]
    cases hp : p d with
    | false =>
      rw [hp] at e2
      simp only [e2, Res.calm_ok, Res.bind_ok, Bool.false_eq_true, if_false, e3 hp, ih, List.filter_cons, hp]
    | true =>
      obtain ⟨S3, e5, e6⟩ := e4 hp
      rw [hp] at e2
      simp only [e2, Res.calm_ok, Res.bind_ok, if_true, e5, e6, ih, List.filter_cons, hp, List.map_cons]
end DL

namespace DL
open PySem PySem.Spec PyProof.Rows L2
/-! ### slices, items -/
section
variable {α : Type}
theorem sIx_nn (n d : Nat) {v : Int} (h : 0 ≤ v) : HT.sIx n d (some v) = min v.toNat n := by
  show (if v < 0 then _ else _) = _
  rw [if_neg (by omega)]
theorem cut_none (xs : List α) : cut xs none none = xs := by
  unfold cut; simp [HT.sIx_none]
theorem cut_to (xs : List α) {k : Int} (h : 0 ≤ k) : cut xs none (some k) = xs.take k.toNat := by
  unfold cut
  rw [HT.sIx_none, sIx_nn _ _ h, List.drop_zero, Nat.sub_zero]
  by_cases hk : k.toNat ≤ xs.length
  · rw [Nat.min_eq_left hk]
  · rw [Nat.min_eq_right (by omega), List.take_length, List.take_of_length_le (by omega)]
theorem cut_from (xs : List α) {k : Int} (h : 0 ≤ k) : cut xs (some k) none = xs.drop k.toNat := by
  unfold cut
  rw [HT.sIx_none, sIx_nn _ _ h]
  by_cases hk : k.toNat ≤ xs.length
  · rw [Nat.min_eq_left hk]
    exact List.take_of_length_le (by rw [List.length_drop]; omega)
  · rw [Nat.min_eq_right (by omega), List.drop_length, List.drop_of_length_le (by omega), List.take_nil]
theorem cut_mid (xs : List α) {a b : Int} (h : 0 ≤ a) (h' : 0 ≤ b) : cut xs (some a) (some b) = (xs.take b.toNat).drop a.toNat := by
  unfold cut
  rw [sIx_nn _ _ h, sIx_nn _ _ h', List.drop_take]
  by_cases ha : a.toNat ≤ xs.length
  · rw [Nat.min_eq_left ha]
    by_cases hb : b.toNat ≤ xs.length
    · rw [Nat.min_eq_left hb]
    · rw [Nat.min_eq_right (by omega), List.take_of_length_le (by rw [List.length_drop]; omega), List.take_of_length_le (by rw [List.length_drop]; omega)]
  · rw [Nat.min_eq_right (by omega : xs.length ≤ a.toNat), List.drop_length, List.drop_of_length_le (by omega : xs.length ≤ a.toNat), List.take_nil, List.take_nil]
theorem cut_init (xs : List α) : cut xs none (some (-1)) = xs.dropLast := by
  unfold cut
  rw [HT.sIx_none, List.drop_zero, Nat.sub_zero, List.dropLast_eq_take]
  congr 1
  unfold HT.sIx
  simp only []
  rw [if_pos (by decide)]; omega
theorem cut_len (xs : List α) (l u : Option Int) : (cut xs l u).length ≤ xs.length := by
  unfold cut
  rw [List.length_take, List.length_drop]; omega
theorem cut_mem {xs : List α} {l u : Option Int} {x : α} (h : x ∈ cut xs l u) : x ∈ xs := List.mem_of_mem_drop (List.mem_of_mem_take h)
theorem atI_nn (xs : List α) {i : Int} (h : 0 ≤ i) : atI xs i = xs[i.toNat]? := by
  unfold atI ixN
  rw [if_pos h]
  split
  · rfl
  · rename_i h1
    rw [List.getElem?_eq_none (by omega)]; rfl
theorem atI_last (xs : List α) : atI xs (-1) = xs.getLast? := by
  unfold atI ixN
  rw [if_neg (by decide), List.getLast?_eq_getElem?]
  split
  · show xs[((-1 : Int) + xs.length).toNat]? = _
    congr 1; omega
  · have : xs.length = 0 := by omega
    rw [List.eq_nil_of_length_eq_zero this]; rfl
@[simp] theorem atI_zero (x : α) (xs : List α) : atI (x :: xs) 0 = some x := by rw [atI_nn _ (by decide)]; rfl
@[simp] theorem atI_one (x y : α) (xs : List α) : atI (x :: y :: xs) 1 = some y := by rw [atI_nn _ (by decide)]; rfl
@[simp] theorem atI_two (x y z : α) (xs : List α) : atI (x :: y :: z :: xs) 2 = some z := by rw [atI_nn _ (by decide)]; rfl
@[simp] theorem atI_three (x y z u : α) (xs : List α) : atI (x :: y :: z :: u :: xs) 3 = some u := by rw [atI_nn _ (by decide)]; rfl
@[simp] theorem atI_four (x y z u v : α) (xs : List α) : atI (x :: y :: z :: u :: v :: xs) 4 = some v := by rw [atI_nn _ (by decide)]; rfl
theorem atI_map {β : Type} (f : α → β) (xs : List α) (i : Int) : atI (xs.map f) i = (atI xs i).map f := by
  unfold atI
  rw [List.length_map]
  cases ixN xs.length i with
  | none => rfl
  | some j => simp
theorem cut_map {β : Type} (f : α → β) (xs : List α) (l u : Option Int) : cut (xs.map f) l u = (cut xs l u).map f := by
  unfold cut
  rw [List.length_map, List.map_take, List.map_drop]
end
/-! ### the script's cells -/
def cell (ns : List Int) (i : Int) : Int := (ns[i.toNat]?).getD 0
theorem sum_le {ss : List (List Nat)} {b : Nat} (h : ∀ s ∈ ss, s.length ≤ b) : (ss.map (·.length)).sum ≤ ss.length * b := by
  induction ss with
  | nil => simp
  | cons s r ih =>
    have h1 := h s (List.mem_cons_self ..)
    have h2 := ih fun t m => h t (List.mem_cons_of_mem _ m)
    simp only [List.map_cons, List.sum_cons, List.length_cons, Nat.succ_mul]
    omega
theorem joinN_len (a : List Nat) : ∀ ss : List (List Nat), (joinN a ss).length ≤ (ss.map (·.length)).sum + ss.length * a.length
  | [] => by simp [joinN]
  | [x] => by simp [joinN]
  | x :: y :: r => by
    have := joinN_len a (y :: r)
    simp only [joinN, List.length_append, List.map_cons, List.sum_cons, List.length_cons, Nat.succ_mul] at this ⊢
    omega
@[simp] theorem joinN_n (a : List Nat) : joinN a [] = [] := rfl
@[simp] theorem joinN_1 (a x : List Nat) : joinN a [x] = x := rfl
theorem joinN_c (a x y : List Nat) (r : List (List Nat)) : joinN a (x :: y :: r) = x ++ a ++ joinN a (y :: r) := rfl
@[simp] theorem joinN_e : ∀ ss : List (List Nat), joinN [] ss = ss.flatten
  | [] => rfl
  | [x] => by simp
  | x :: y :: r => by rw [joinN_c, joinN_e (y :: r)]; simp
/-! ### texts' operations -/
theorem dJoin_a (a : List Nat) (ss : List (List Nat)) (h : (ss.map (·.length)).sum + ss.length * a.length ≤ 16777216) : dJoin (.str a) [.lst (ss.map .str)] = some (.str (joinN a ss)) := by
  simp [dJoin, seqD, h]
@[simp] theorem dStr_a (i : Int) (h : i.natAbs.log2 < 1920) : dStr [.int i] = some (.str (numS i)) := by simp [dStr, h]
@[simp] theorem dInt_i (i : Int) : dInt [.int i] = some (.int i) := rfl
@[simp] theorem dInt_b (i : Bool) : dInt [.bl i] = some (.int (if i then 1 else 0)) := rfl
@[simp] theorem dMax_a (i j : Int) : dMax [.int i, .int j] = some (.int (if j > i then j else i)) := rfl
@[simp] theorem dMin_a (i j : Int) : dMin [.int i, .int j] = some (.int (if j < i then j else i)) := rfl
@[simp] theorem dAbs_a (i : Int) : dAbs [.int i] = some (.int (if i < 0 then -i else i)) := rfl
@[simp] theorem dOrd_a (c : Nat) : dOrd [.str [c]] = some (.int c) := rfl
@[simp] theorem dNeg_a (i : Int) : dNeg (.int i) = some (.int (-i)) := rfl
@[simp] theorem dListF_l (ds : List D) : dListF [.lst ds] = some (.l ds) := rfl
@[simp] theorem dListF_t (ds : List D) : dListF [.tup ds] = some (.l ds) := rfl
@[simp] theorem dListF_scr (ns : List Int) : dListF [.scr ns] = some (.l (ns.map .int)) := rfl
@[simp] theorem dTuple_l (ds : List D) : dTuple [.lst ds] = some (.tup ds) := rfl
@[simp] theorem dTuple_t (ds : List D) : dTuple [.tup ds] = some (.tup ds) := rfl
section
variable {S : Sls} {st : Store}
@[simp] theorem o3E_a (op op' : D → D → Option D) (fa fb fc : Ev Opd) : o3E op op' fa fb fc S st = (fa S st).bind fun a S st => (fb S st).bind fun b S st =>
  match vw S st a, vw S st b with
  | some x, some y => match op x y with
    | some (.bl true) => (fc S st).bind fun c S st => match vw S st b, vw S st c with
      | some y, some z => got (op' y z) S st
      | _, _ => .stuck
    | some (.bl false) => .ok (.bl false) S st
    | _ => .stuck
  | _, _ => .stuck := rfl
end
theorem deqs_refl : ∀ {ds : List D}, (∀ d ∈ ds, deq d d = true) → deqs ds ds = true
  | [], _ => deqs_n
  | d :: r, h => by
    rw [deqs_c, h d (List.mem_cons_self ..), deqs_refl fun x m => h x (List.mem_cons_of_mem _ m)]; rfl
theorem deq_refl_strs (ts : List (List Nat)) : deq (.lst (ts.map D.str)) (.lst (ts.map D.str)) = true := by
  rw [deq_lst]
  exact deqs_refl fun d h => by
    obtain ⟨s, _, rfl⟩ := List.mem_map.mp h
    simp
/-- a loop with a state of its own -/
theorem forL_acc {α : Type} {g : Tg} {body : EvS} {st : Store} (R : α → Sls → Prop) (f : α → D → α) (q : D → Prop) (step : ∀ a d S, q d → R a S → ∃ S1 S2, g d S = some S1 ∧ body S1 st = .nx S2 st ∧ R (f a d) S2) :
    ∀ (ds : List D) (a : α) (S : Sls), (∀ d ∈ ds, q d) → R a S → ∃ S', forL g body ds S st = .nx S' st ∧ R (ds.foldl f a) S'
  | [], a, S, _, h => ⟨S, rfl, h⟩
  | d :: r, a, S, hq, h => by
    obtain ⟨S1, S2, e1, e2, h2⟩ := step a d S (hq d (List.mem_cons_self ..)) h
    obtain ⟨S', e3, h3⟩ := forL_acc R f q step r (f a d) S2 (fun x m => hq x (List.mem_cons_of_mem _ m)) h2
    exact ⟨S', by rw [forL_c, e1]; simp only [e2]; exact e3, h3⟩
theorem rng_n (lo : Int) : rng 0 lo = [] := rfl
theorem rng_c (n : Nat) (lo : Int) : rng (n + 1) lo = .int lo :: rng n (lo + 1) := by
  unfold rng
  rw [List.range_succ_eq_map, List.map_cons, List.map_map]
  congr 1
  · simp
  · refine List.map_congr_left fun i _ => ?_
    simp; omega
@[simp] theorem rng_len (n : Nat) (lo : Int) : (rng n lo).length = n := by simp [rng]
/-! ### numbers as texts -/
open PySem.NumText in
theorem numS_nat (m : Nat) : numS (m : Int) = (Nat.toDigits 10 m).map Char.toNat := PySem.W.KIN.signs_num m
open PySem.NumText PySem.W in
theorem numS_dig {n : Int} (h : 0 ≤ n) : AllDigits (numS n) := by
  obtain ⟨m, rfl⟩ := Int.eq_ofNat_of_zero_le h
  intro c hc
  rw [numS_nat] at hc
  obtain ⟨ch, hch, e⟩ := List.mem_map.mp hc
  rw [← e]
  exact digit_range (Nat.isDigit_of_mem_toDigits (by decide) (by decide) hch)
theorem numS_ne {n : Int} (h : 0 ≤ n) : numS n ≠ [] := by
  obtain ⟨m, rfl⟩ := Int.eq_ofNat_of_zero_le h
  rw [numS_nat]
  intro e
  have h := toDigits_len_ge 10 m
  rw [List.map_eq_nil_iff.mp e] at h
  exact absurd h (by decide)
theorem numS_len {n : Int} {k : Nat} (h : 0 ≤ n) (hk : 0 < k) (hn : n < 10 ^ k) : (numS n).length ≤ k := by
  have : (Str.ofString (toString n)).length ≤ k := toString_length_le h hk hn
  simpa [numS, Str.length] using this
open PySem.NumText PySem.W in
theorem numS_val {n : Int} (h : 0 ≤ n) : (digitsVal (numS n) : Int) = n := by
  obtain ⟨m, rfl⟩ := Int.eq_ofNat_of_zero_le h
  rw [numS_nat, KIN.val_back]
open PySem.NumText in
theorem numS_reads {n : Int} (h : 0 ≤ n) (hn : n < 10 ^ 600) : PySem.intText? (tx (numS n)) = some n := by
  have e := intText_digits (x := tx (numS n)) (by rw [cps_tx]; exact numS_dig h) (by rw [cps_tx]; exact numS_ne h) (by rw [tx_len]; have := numS_len h (by decide) hn; omega)
  rw [cps_tx] at e
  rw [e, numS_val h]
theorem dInt_num {n : Int} (h : 0 ≤ n) (hn : n < 10 ^ 600) : dInt [.str (numS n)] = some (.int n) := by
  have := numS_len h (by decide) hn
  simp [dInt, numS_reads h hn, show (numS n).length ≤ 640 by omega]
theorem numS_inj {n m : Int} (h : 0 ≤ n) (h' : 0 ≤ m) (e : numS n = numS m) : n = m := by
  rw [← numS_val h, ← numS_val h', e]
theorem dStr_num {n : Int} (h : 0 ≤ n) (hn : n < 10 ^ 500) : dStr [.int n] = some (.str (numS n)) := by
  have : n.natAbs.log2 < 1920 := log2_lt (Nat.lt_of_lt_of_le (show n.natAbs < 10 ^ 500 by omega) (by decide +kernel)) (by decide)
  simp [dStr, this]
theorem dIn_strs (s : List Nat) (ts : List (List Nat)) : dIn (.str s) (.lst (ts.map .str)) = some (.bl (decide (s ∈ ts))) := by
  have : (ts.map D.str).any (fun z => deq z (.str s)) = decide (s ∈ ts) := by
    rw [List.any_map, Bool.eq_iff_iff, List.any_eq_true, decide_eq_true_eq]
    constructor
    · rintro ⟨x, hx, e⟩
      simp at e; subst e; exact hx
    · intro h; exact ⟨s, h, by simp⟩
  rw [dIn_a, inD_l, if_pos ⟨by simp, eqOk_lst _ (flat_strs ts)⟩, this]; rfl
theorem dNotIn_strs (s : List Nat) (ts : List (List Nat)) : dNotIn (.str s) (.lst (ts.map .str)) = some (.bl (!decide (s ∈ ts))) := by
  have := dIn_strs s ts
  simp only [dIn_a, dNotIn_a] at this ⊢
  cases h : inD (.str s) (.lst (ts.map .str)) with
  | none => rw [h] at this; cases this
  | some b => rw [h] at this; simp at this; simp [this]
/-- the last one that fits is held -/
theorem foldl_last {α : Type} [DecidableEq α] (w : α) : ∀ (xs : List α) (a : Option α), xs.foldl (fun a x => if x = w then some x else a) a = if w ∈ xs then some w else a
  | [], a => rfl
  | x :: r, a => by
    rw [List.foldl_cons, foldl_last w r]
    by_cases h : x = w
    · subst h; simp
    · simp [h, Ne.symm h]
theorem ints_of {P : Int → Prop} : ∀ {ds : List D}, (∀ d ∈ ds, ∃ k, d = .int k ∧ P k) → ∃ ks : List Int, ds = ks.map .int ∧ ∀ k ∈ ks, P k
  | [], _ => ⟨[], rfl, by simp⟩
  | d :: r, h => by
    obtain ⟨k, e, p⟩ := h d (List.mem_cons_self ..)
    obtain ⟨ks, e2, p2⟩ := ints_of (P := P) fun x m => h x (List.mem_cons_of_mem _ m)
    exact ⟨k :: ks, by rw [e, e2]; rfl, fun x m => by
      rcases List.mem_cons.mp m with z | z
      · rw [z]; exact p
      · exact p2 x z⟩
theorem strs_of {P : List Nat → Prop} : ∀ {ds : List D}, (∀ d ∈ ds, ∃ k, d = .str k ∧ P k) → ∃ ks : List (List Nat), ds = ks.map .str ∧ ∀ k ∈ ks, P k
  | [], _ => ⟨[], rfl, by simp⟩
  | d :: r, h => by
    obtain ⟨k, e, p⟩ := h d (List.mem_cons_self ..)
    obtain ⟨ks, e2, p2⟩ := strs_of (P := P) fun x m => h x (List.mem_cons_of_mem _ m)
    exact ⟨k :: ks, by rw [e, e2]; rfl, fun x m => by
      rcases List.mem_cons.mp m with z | z
      · rw [z]; exact p
      · exact p2 x z⟩
theorem cell_mem {ns : List Int} {P : Int → Prop} (h0 : P 0) (h : ∀ z ∈ ns, P z) (i : Int) : P (cell ns i) := by
  unfold cell
  cases e : ns[i.toNat]? with
  | none => exact h0
  | some z => exact h z (List.mem_of_getElem? e)
/-! ### comprehensions and loops over what is encoded -/
theorem lcL_mapF {α : Type} {g : Tg} {own : List Nat} {f : Ev D} {S : Sls} {st : Store} (enc : α → D) (out : α → D) : ∀ (xs : List α), (∀ x ∈ xs, ∃ S1 S3, g (enc x) S = some S1 ∧ f S1 st = .ok (out x) S3 st ∧ wipeS S3 own = S) → lcL g own tY f (xs.map enc) S st = .ok (xs.map out) S st
  | [], _ => rfl
  | x :: r, h => by
    obtain ⟨S1, S3, e1, e2, e3⟩ := h x (List.mem_cons_self ..)
    have ih := lcL_mapF enc out r fun y hy => h y (List.mem_cons_of_mem _ hy)
    rw [List.map_cons, lcL_c, e1]
    simp only [tY_a, Res.calm_ok, Res.bind_ok, if_true, e2, e3, ih, List.map_cons]
theorem lcL_filterF {α : Type} {g : Tg} {own : List Nat} {t : Ev Bool} {f : Ev D} {S : Sls} {st : Store} (enc : α → D) (p : α → Bool) (out : α → D) : ∀ (xs : List α), (∀ x ∈ xs, ∃ S1 S2, g (enc x) S = some S1 ∧ t S1 st = .ok (p x) S2 st ∧ (p x = false → wipeS S2 own = S) ∧ (p x = true → ∃ S3, f S2 st = .ok (out x) S3 st ∧ wipeS S3 own = S)) → lcL g own t f (xs.map enc) S st = .ok ((xs.filter p).map out) S st
  | [], _ => rfl
  | x :: r, h => by
    obtain ⟨S1, S2, e1, e2, e3, e4⟩ := h x (List.mem_cons_self ..)
    have ih := lcL_filterF enc p out r fun d hd => h d (List.mem_cons_of_mem _ hd)
    rw [List.map_cons, lcL_c, e1]
    cases hp : p x with
    | false =>
      rw [hp] at e2
      simp only [e2, Res.calm_ok, Res.bind_ok, Bool.false_eq_true, if_false, e3 hp, ih, List.filter_cons, hp]
    | true =>
      obtain ⟨S3, e5, e6⟩ := e4 hp
      rw [hp] at e2
      simp only [e2, Res.calm_ok, Res.bind_ok, if_true, e5, e6, ih, List.filter_cons, hp, List.map_cons]
theorem forL_accF {α β : Type} {g : Tg} {body : EvS} {st : Store} (enc : β → D) (R : α → Sls → Prop) (f : α → β → α) : ∀ (xs : List β) (a : α) (S : Sls), (∀ x ∈ xs, ∀ a S, R a S → ∃ S1 S2, g (enc x) S = some S1 ∧ body S1 st = .nx S2 st ∧ R (f a x) S2) → R a S → ∃ S', forL g body (xs.map enc) S st = .nx S' st ∧ R (xs.foldl f a) S'
  | [], a, S, _, h => ⟨S, rfl, h⟩
  | x :: r, a, S, hs, h => by
    obtain ⟨S1, S2, e1, e2, h2⟩ := hs x (List.mem_cons_self ..) a S h
    obtain ⟨S', e3, h3⟩ := forL_accF enc R f r (f a x) S2 (fun y m => hs y (List.mem_cons_of_mem _ m)) h2
    exact ⟨S', by rw [List.map_cons, forL_c, e1]; simp only [e2]; exact e3, h3⟩
/-- a loop over encoded items that hands back v at the first item with p -/
theorem forL_findF {β : Type} {g : Tg} {body : EvS} {st : Store} (enc : β → D) (p : β → Bool) (v : D) (I : Sls → Prop) : ∀ (xs : List β) (S : Sls), (∀ x ∈ xs, ∀ S, I S → ∃ S1, g (enc x) S = some S1 ∧ (p x = true → ∃ S2, body S1 st = .ret v S2 st) ∧ (p x = false → ∃ S2, body S1 st = .nx S2 st ∧ I S2)) → I S →
    (xs.any p = true → ∃ S', forL g body (xs.map enc) S st = .ret v S' st) ∧ (xs.any p = false → ∃ S', forL g body (xs.map enc) S st = .nx S' st ∧ I S')
  | [], S, _, hI => ⟨fun h => (by cases h), fun _ => ⟨S, rfl, hI⟩⟩
  | x :: r, S, h, hI => by
    obtain ⟨S1, e1, h1, h2⟩ := h x (List.mem_cons_self ..) S hI
    rw [List.map_cons]
    cases hp : p x with
    | true =>
      obtain ⟨S2, e2⟩ := h1 hp
      refine ⟨fun _ => ⟨S2, by rw [forL_c, e1]; simp only [e2]⟩, fun z => ?_⟩
      rw [List.any_cons, hp] at z; cases z
    | false =>
      obtain ⟨S2, e2, hI2⟩ := h2 hp
      have ih := forL_findF enc p v I r S2 (fun y hy => h y (List.mem_cons_of_mem _ hy)) hI2
      rw [List.any_cons, hp, Bool.false_or]
      refine ⟨fun z => ?_, fun z => ?_⟩
      · obtain ⟨S', e3⟩ := ih.1 z
        exact ⟨S', by rw [forL_c, e1]; simp only [e2]; exact e3⟩
      · obtain ⟨S', e3, h3⟩ := ih.2 z
        exact ⟨S', by rw [forL_c, e1]; simp only [e2]; exact e3, h3⟩
end DL

namespace DL
open PySem PySem.Spec PyProof.Rows L2
/-! ### the store's things -/
section
variable {G : Gx} {B : Hp} {F : Fz} {σ : L2.St} {H : Hp} {S : Sls} {st : Store}
theorem nodup_ix {α : Type} : ∀ {l : List α}, l.Nodup → ∀ {i j : Nat} (hi : i < l.length) (hj : j < l.length), l[i] = l[j] → i = j
  | [], _, i, _, hi, _, _ => absurd hi (by simp)
  | x :: r, h, 0, 0, _, _, _ => rfl
  | x :: r, h, 0, j + 1, _, hj, e => by
    rw [List.nodup_cons] at h
    exact absurd (by rw [show x = r[j]'(by simpa using hj) from e]; exact List.getElem_mem _) h.1
  | x :: r, h, i + 1, 0, hi, _, e => by
    rw [List.nodup_cons] at h
    exact absurd (by rw [show x = r[i]'(by simpa using hi) from e.symm]; exact List.getElem_mem _) h.1
  | x :: r, h, i + 1, j + 1, hi, hj, e => by
    rw [List.nodup_cons] at h
    exact congrArg Nat.succ (nodup_ix h.2 (by simpa using hi) (by simpa using hj) (by simpa using e))
theorem smf_app (F : Fz) (p : Addr) : SmF F ⟨F.f, F.m ++ [p]⟩ := ⟨Same.refl _, List.prefix_append _ _⟩
/-- a new thing is the store's from here on -/
theorem Ok.allocB (o : Ok G B F σ H S st) {p : Addr} {x : Ob} (hx : ObOk G F H p x) (hF : F p = none) (hB : B p = none) (hm : p ∉ F.m) (no : ∀ (j : Nat) (es : Ow), S[j]? = some (.own es) → σ[j]? ≠ some (some (.ref p))) :
    Gr B F ⟨F.f, F.m ++ [p]⟩ ∧ Ok G B ⟨F.f, F.m ++ [p]⟩ σ H S (st ++ [x]) := by
  have sm := smf_app F p
  refine ⟨⟨sm, fun a h1 h2 => absurd h1 h2⟩, o.fH, o.kp, ⟨?_, ?_, fun n y a e1 e2 => ?_⟩, o.len, fun i s e => ?_, o.ap⟩
  · show (F.m ++ [p]).length = (st ++ [x]).length
    rw [List.length_append, List.length_append, o.so.ml]; rfl
  · show (F.m ++ [p]).Nodup
    rw [List.nodup_append]
    exact ⟨o.so.mn, by simp, fun a ha b hb z => by simp at hb; subst hb; subst z; exact hm ha⟩
  · have e2 : (F.m ++ [p])[n]? = some a := e2
    by_cases hn : n < st.length
    · rw [List.getElem?_append_left hn] at e1
      rw [List.getElem?_append_left (by rw [o.so.ml]; exact hn)] at e2
      obtain ⟨h1, h2, h3⟩ := o.so.ob n y a e1 e2
      exact ⟨h1, h2, h3.grow sm (Same.refl H)⟩
    · rw [List.getElem?_append_right (by omega)] at e1
      rw [List.getElem?_append_right (by rw [o.so.ml]; omega)] at e2
      have hz : n - st.length = 0 := by
        have := (List.getElem?_eq_some_iff.mp e1).1
        simp at this; omega
      rw [hz] at e1
      rw [o.so.ml, hz] at e2
      cases e1; cases e2
      exact ⟨hF, hB, hx.grow sm (Same.refl H)⟩
  · have h := o.sl i s e
    cases s with
    | no => trivial
    | d x =>
      obtain ⟨v, a1, a2⟩ := h
      exact ⟨v, a1, a2.mono sm⟩
    | own w2 =>
      obtain ⟨p2, u2, a1, a2, a3, a4, a5, a6⟩ := h
      refine ⟨p2, u2, a1, a2, a3, a4, a5.mono sm, fun z => ?_⟩
      rcases List.mem_append.mp z with z | z
      · exact a6 z
      · simp at z; exact no i _ e (by rw [a1, z])
theorem Ok.alloc (o : Ok G B F σ H S st) {p : Addr} {u : HO} {w : Ow} (h : H p = some u) (hF : F p = none) (hB : B p = none) (hm : p ∉ F.m) (r : OwRel G F u w) (no : ∀ (j : Nat) (es : Ow), S[j]? = some (.own es) → σ[j]? ≠ some (some (.ref p))) :
    Gr B F ⟨F.f, F.m ++ [p]⟩ ∧ Ok G B ⟨F.f, F.m ++ [p]⟩ σ H S (st ++ [.o w]) := o.allocB (x := .o w) ⟨u, h, r⟩ hF hB hm no
theorem ow_noown {u : HO} {w : Ow} (r : OwRel G F u w) : ∀ x : Addr, u ≠ HO.own x := fun x z => by subst z; cases r
theorem Ok.updB (o : Ok G B F σ H S st) {n : Nat} {a : Addr} {x y : Ob} {u : HO} (e : st[n]? = some x) (ea : F.m[n]? = some a) (hno : ∀ z : Addr, H a ≠ some (HO.own z)) (r : ObOk G F (upd H a u) a y) : Ok G B F σ (upd H a u) S (st.set n y) := by
  obtain ⟨h1, h2, h3⟩ := o.so.ob n x a e ea
  have hn : n < st.length := (List.getElem?_eq_some_iff.mp e).1
  refine ⟨fun b v q => ?_, fun b v q => ?_, ⟨by rw [List.length_set]; exact o.so.ml, o.so.mn, fun k z b q1 q2 => ?_⟩, o.len, fun i s q => ?_, o.ap⟩
  · rw [upd_ne (ne_of_none q h1)]; exact o.fH _ _ q
  · rw [upd_ne (ne_of_none q h2)]; exact o.kp _ _ q
  · by_cases hk : n = k
    · subst hk
      rw [List.getElem?_set_self hn] at q1
      cases q1
      rw [ea] at q2; cases q2
      exact ⟨h1, h2, r⟩
    · rw [List.getElem?_set_ne hk] at q1
      obtain ⟨k1, k2, k3⟩ := o.so.ob k z b q1 q2
      have hb : b ≠ a := fun w => by
        subst w
        obtain ⟨l1, w1⟩ := List.getElem?_eq_some_iff.mp ea
        obtain ⟨l2, w2⟩ := List.getElem?_eq_some_iff.mp q2
        exact hk (nodup_ix o.so.mn l1 l2 (by rw [w1, w2]))
      exact ⟨k1, k2, k3.chg hb hno⟩
  · have h := o.sl i s q
    cases s with
    | no => trivial
    | d x => exact h
    | own w2 =>
      obtain ⟨p2, u2, a1, a2, a3, a4, a5, a6⟩ := h
      have : p2 ≠ a := fun z => a6 (by rw [z]; exact List.mem_of_getElem? ea)
      exact ⟨p2, u2, a1, by rw [upd_ne this]; exact a2, a3, a4, a5, a6⟩
theorem Ok.updO (o : Ok G B F σ H S st) {n : Nat} {a : Addr} {w w' : Ow} {u : HO} (e : st[n]? = some (.o w)) (ea : F.m[n]? = some a) (r : OwRel G F u w') : Ok G B F σ (upd H a u) S (st.set n (.o w')) := by
  obtain ⟨h1, h2, u0, h3, h4⟩ := o.so.ob n _ a e ea
  exact o.updB e ea (fun z q => by rw [h3] at q; exact ow_noown h4 z (Option.some.inj q)) ⟨u, upd_same, r⟩
end
/-- a datum as an operand: a thing of the store by its number -/
def hnd : D → Opd
  | .loc n => .h n
  | d => .v d
@[simp] theorem hnd_loc (n : Nat) : hnd (.loc n) = .h n := rfl
def oH (f : Ev D) : Ev Opd := fun S st => (f S st).bind fun d S st => .ok (hnd d) S st
/-- a new list or dict, the store's -/
def aE (f : Ev Ow) : Ev D := fun S st => (f S st).bind fun w S st => .ok (.loc st.length) S (st ++ [.o w])
/-- x.append(e) -/
def sApL (fo fe : Ev Opd) : EvS := fun S st => (fo S st).out fun a S st => match a with
  | .h n => match st[n]? with
    | some (.o (.l _)) => (fe S st).out fun b S st => match vd S b, st[n]? with
      | some d, some (.o (.l ds)) => if ds.length < 16777216 then .nx S (st.set n (.o (.l (ds ++ [d])))) else .stuck
      | _, _ => .stuck
    | _ => .stuck
  | _ => .stuck
/-- x.pop() -/
def ePopL (fo : Ev Opd) : Ev D := fun S st => (fo S st).bind fun a S st => match a with
  | .h n => match st[n]? with
    | some (.o (.l ds)) => match ds.getLast? with
      | some d => .ok d S (st.set n (.o (.l ds.dropLast)))
      | none => .stuck
    | _ => .stuck
  | _ => .stuck
/-- x.clear() -/
def eClrL (fo : Ev Opd) : Ev D := fun S st => (fo S st).bind fun a S st => match a with
  | .h n => match st[n]? with
    | some (.o (.l _)) => .ok .non S (st.set n (.o (.l [])))
    | _ => .stuck
  | _ => .stuck
/-- x[j] = e -/
def sSetL (fo : Ev Opd) (fv fj : Ev D) : EvS := fun S st => (fv S st).out fun d S st => (fo S st).out fun a S st => match a with
  | .h n => (fj S st).out fun j S st => match j, st[n]? with
    | .int k, some (.o (.l ds)) => match ixN ds.length k with
      | some j => .nx S (st.set n (.o (.l (ds.set j d))))
      | none => .stuck
    | _, _ => .stuck
  | _ => .stuck
section
variable {X : Cx} {B : Hp} {W : WX} {e a b : Expr} {es : List Expr} {pos : Pos}
theorem do_h {f : Ev D} (h : DE X B W e f) : DO X B W e (oH f) := pe_imp h fun σ H Q ⟨F, S, st, o, q⟩ =>
  ⟨F, S, st, o, (Post.bind (R := RD (Cx.g X) σ) q).mono fun v H1 ⟨F1, d, S1, st1, g1, o1, r, p⟩ => p v H1 F1 .refl o1 (by
    cases d with
    | loc n =>
      cases r with
      | loc h => exact ⟨_, h, rfl⟩
    | _ => exact r)⟩
theorem de_al {f : Ev Ow} (h : DF X B W e f) : DE X B W e (aE f) :=
  pe_imp h fun σ H Q ⟨F, S, st, o, q⟩ => ⟨F, S, st, o, by
    unfold aE at q
    generalize f S st = r at q ⊢
    cases r with
    | ok w S1 st1 =>
      intro p u H' F' g o1 hu hF hB r hm no
      obtain ⟨g', o'⟩ := o1.alloc hu hF hB hm r no
      refine q (.ref p) H' _ (g.trans g') o' (.loc ?_)
      show (F'.m ++ [p])[st1.length]? = some p
      rw [← o1.so.ml, List.getElem?_append_right (Nat.le_refl _), Nat.sub_self]; rfl
    | exc x S1 st1 => exact q
    | stuck => exact q⟩
theorem ds_apL {fo fe : Ev Opd} {apos pos' : Pos} (ho : DO X B W a fo) (h : DO X B W e fe) (hs : swapsWith (.Call (.Attribute a "append" apos) [e] [] pos') none pos.line X.env = pure false := by rfl)
    (hbase : attributeBase a "append" X.env (eval a X.env) = eval a X.env := by rfl)
    (hfew : ((backTo pos' (starEach [e] X.env)).all (fun x => !x.1) && (backToKw pos' (keywordEach [] X.env)).all (fun x => x.1.isSome)
      && decide (([e] : List Expr).length + ([] : List Keyword).length + (if ([] : List Keyword).isEmpty then 0 else 1) < 30)) = true := by rfl)
    (hline : (apos.endLine == pos'.line) = true := by rfl) (hst : starEach [e] X.env = (false, eval e X.env) :: starEach [] X.env := by rfl) :
    DS X B W (.Expr (.Call (.Attribute a "append" apos) [e] [] pos') pos) (sApL fo fe) :=
  ps_imp (ps_expr (pe_bm PySem.F.plainAttrs_list PySem.F.slot_list_append PySem.F.type_list_append mt_append ho (pa_cons h pa_nil hst) hbase hfew hline hst) hs) fun D σ H ⟨F, S, st, o, q⟩ => ⟨F, S, st, o, (Post.out (R := RO (Cx.g X) σ) q).mono fun v H1 ⟨F1, ao, S1, st1, g1, o1, r1, p1⟩ => by
    split at p1
    · rename_i n
      obtain ⟨aa, ha, rfl⟩ := r1
      split at p1
      · rename_i ds0 hst0
        obtain ⟨k1, k2, u0, k3, k4⟩ := o1.so.ob n _ aa hst0 ha
        cases k4 with
        | l k4 =>
          refine ⟨.inl ⟨rfl, _, .inl (.inl k3)⟩, F1, S1, st1, o1, (Post.out (R := RO (Cx.g X) σ) p1).mono fun v2 H2 ⟨F2, bo, S2, st2, g2, o2, r2, p2⟩ => ?_⟩
          split at p2
          · rename_i d ds hd hst2
            split at p2
            · rename_i hlen
              have ha2 := pre_get g2.1.2 ha
              obtain ⟨m1, m2, u2, m3, m4⟩ := o2.so.ob n _ aa hst2 ha2
              cases m4 with
              | l m4 =>
                exact ⟨aa, _, v2, rfl, rfl, m3, by rw [m4.length, sizeLine_eq]; exact hlen, p2 σ _ F2 .refl (o2.updO hst2 ha2 (.l (m4.append (.one (o2.vd r2 hd)))))⟩
            · exact p2.elim
          · exact p2.elim
      · exact p1.elim
    · exact p1.elim⟩
theorem de_popL {fo : Ev Opd} {apos : Pos} (ho : DO X B W a fo) (hbase : attributeBase a "pop" X.env (eval a X.env) = eval a X.env := by rfl) (hline : (apos.endLine == pos.line) = true := by rfl) :
    DE X B W (.Call (.Attribute a "pop" apos) [] [] pos) (ePopL fo) :=
  pe_imp (pe_bm0 PySem.F.plainAttrs_list PySem.F.slot_list_pop PySem.F.type_list_pop mt_pop ho hbase hline) fun σ H Q ⟨F, S, st, o, q⟩ => ⟨F, S, st, o, (Post.bind (R := RO (Cx.g X) σ) q).mono fun v H1 ⟨F1, ao, S1, st1, g1, o1, r1, p1⟩ => by
    split at p1
    · rename_i n
      obtain ⟨aa, ha, rfl⟩ := r1
      split at p1
      · rename_i ds hst0
        obtain ⟨k1, k2, u0, k3, k4⟩ := o1.so.ob n _ aa hst0 ha
        cases k4 with
        | l k4 =>
          split at p1
          · rename_i d hd
            rw [List.getLast?_eq_getElem?] at hd
            obtain ⟨y, hy, ry⟩ := k4.get hd
            exact ⟨.inl ⟨rfl, _, .inl (.inl k3)⟩, aa, _, y, rfl, rfl, k3, by rw [k4.length]; exact hy, p1 _ _ F1 .refl (o1.updO hst0 ha (.l k4.dropLast)) ry⟩
          · exact p1.elim
      · exact p1.elim
    · exact p1.elim⟩
theorem de_clrL {fo : Ev Opd} {apos : Pos} (ho : DO X B W a fo) (hbase : attributeBase a "clear" X.env (eval a X.env) = eval a X.env := by rfl) (hline : (apos.endLine == pos.line) = true := by rfl) :
    DE X B W (.Call (.Attribute a "clear" apos) [] [] pos) (eClrL fo) :=
  pe_imp (pe_bm0 PySem.F.plainAttrs_list PySem.F.slot_list_clear PySem.F.type_list_clear mt_clear ho hbase hline) fun σ H Q ⟨F, S, st, o, q⟩ => ⟨F, S, st, o, (Post.bind (R := RO (Cx.g X) σ) q).mono fun v H1 ⟨F1, ao, S1, st1, g1, o1, r1, p1⟩ => by
    split at p1
    · rename_i n
      obtain ⟨aa, ha, rfl⟩ := r1
      split at p1
      · rename_i ds hst0
        obtain ⟨k1, k2, u0, k3, k4⟩ := o1.so.ob n _ aa hst0 ha
        cases k4 with
        | l k4 => exact ⟨.inl ⟨rfl, _, .inl (.inl k3)⟩, aa, _, rfl, rfl, k3, p1 _ _ F1 .refl (o1.updO hst0 ha (.l .nil)) .non⟩
      · exact p1.elim
    · exact p1.elim⟩
theorem ds_setL {fo : Ev Opd} {fv fj : Ev D} {tpos : Pos} (ho : DO X B W a fo) (hj : DE X B W b fj) (hv : DE X B W e fv) (hs : swapsWithSole [.Subscript a b tpos] e pos.line X.env = pure false := by rfl) (hw : swappedStores [.Subscript a b tpos] e X.env = pure none := by rfl)
    (h1 : (assignEach [.Subscript a b tpos] X.env).map (·.2) = [assign (.Subscript a b tpos) X.env] := by rfl)
    (ha : ∀ v, assign (.Subscript a b tpos) X.env v = (do
      let ov ← holding [v] (eval a X.env)
      let iv ← holding [v, ov] (eval b X.env)
      standAt tpos
      holding [v, ov, iv] (setItem ov iv v)
      release [v, ov, iv] []) := by intro _; rfl) : DS X B W (.Assign [.Subscript a b tpos] e pos) (sSetL fo fv fj) :=
  ps_imp (ps_asg hv (pg_sub ho hj set_list ha) hs hw h1) fun D σ H ⟨F, S, st, o, q⟩ => ⟨F, S, st, o, (Post.out (R := RD (Cx.g X) σ) q).mono fun v H1 ⟨F1, d, S1, st1, g1, o1, r1, p1⟩ =>
    ⟨F1, S1, st1, o1, (Post.out (R := RO (Cx.g X) σ) p1).mono fun ov H2 ⟨F2, ao, S2, st2, g2, o2, r2, p2⟩ => by
      split at p2
      · rename_i n
        obtain ⟨aa, ha, rfl⟩ := r2
        refine ⟨F2, S2, st2, o2, (Post.out (R := RD (Cx.g X) σ) p2).mono fun jv H3 ⟨F3, jd, S3, st3, g3, o3, r3, p3⟩ => ?_⟩
        split at p3
        · rename_i k ds hst3
          split at p3
          · rename_i j hj
            have ha3 := pre_get g3.1.2 ha
            obtain ⟨m1, m2, u3, m3, m4⟩ := o3.so.ob n _ aa hst3 ha3
            cases m4 with
            | l m4 =>
              cases r3
              refine ⟨aa, _, k, j, rfl, rfl, m3, by rw [m4.length]; exact hj, p3 σ _ F3 .refl (o3.updO hst3 ha3 (.l (m4.set j ((r1.mono g2.1).mono g3.1))))⟩
          · exact p3.elim
        · exact p3.elim
      · exact p2.elim⟩⟩
end
end DL

namespace DL
open PySem PySem.Spec PyProof.Rows L2
/-! ### a call that has nothing to do with the caller's store -/
mutual
/-- no handle in it -/
def noL : D → Bool
  | .loc _ => false
  | .lst ds => noLs ds
  | .tup ds => noLs ds
  | .dic es => noLk es
  | .obj _ fs => noLf fs
  | _ => true
def noLs : List D → Bool
  | [] => true
  | d :: r => noL d && noLs r
def noLk : List (D × D) → Bool
  | [] => true
  | (_, d) :: r => noL d && noLk r
def noLf : List (Nat × D) → Bool
  | [] => true
  | (_, d) :: r => noL d && noLf r
end
section
variable {G : Gx} {F F' : Fz}
mutual
/-- data without handles ask nothing of the store -/
theorem Rp.alone (e : Same F.f F'.f) : ∀ {v : V} {d : D}, Rp G F v d → noL d = true → Rp G F' v d
  | _, _, .non, _ => .non
  | _, _, .bl b, _ => .bl b
  | _, _, .int i, _ => .int i
  | _, _, .str x h, _ => .str x h
  | _, _, .ty n, _ => .ty n
  | _, _, .err a c, _ => .err a c
  | _, _, .loc h, z => by rw [noL] at z; cases z
  | _, _, .lst h t, z => by rw [noL] at z; exact .lst (e _ _ h) (RpAll.alone e t z)
  | _, _, .tup h t, z => by rw [noL] at z; exact .tup (same_seqT e h) (RpAll.alone e t z)
  | _, _, .scr h, _ => .scr (e.seq h)
  | _, _, .dicK h t, z => by rw [noL] at z; exact .dicK (e _ _ h) (RpK.alone e t z)
  | _, _, .obj h h' g t, z => by rw [noL] at z; exact .obj (e _ _ h) (e _ _ h') g (RpF.alone e t z)
theorem RpAll.alone (e : Same F.f F'.f) : ∀ {vs : List V} {ds : List D}, RpAll G F vs ds → noLs ds = true → RpAll G F' vs ds
  | _, _, .nil, _ => .nil
  | _, _, .cons h t, z => by rw [noLs, Bool.and_eq_true] at z; exact .cons (Rp.alone e h z.1) (RpAll.alone e t z.2)
theorem RpK.alone (e : Same F.f F'.f) : ∀ {vs : List (Key × V)} {ds : List (D × D)}, RpK G F vs ds → noLk ds = true → RpK G F' vs ds
  | _, _, .nil, _ => .nil
  | _, _, .cons o h t, z => by rw [noLk, Bool.and_eq_true] at z; exact .cons o (Rp.alone e h z.1) (RpK.alone e t z.2)
theorem RpF.alone (e : Same F.f F'.f) : ∀ {vs : List (Str × V)} {ds : List (Nat × D)}, RpF G F vs ds → noLf ds = true → RpF G F' vs ds
  | _, _, .nil, _ => .nil
  | _, _, .cons o h t, z => by rw [noLf, Bool.and_eq_true] at z; exact .cons o (Rp.alone e h z.1) (RpF.alone e t z.2)
end
end
/-- c, with a store of its own -/
def solo (c : CallT) : CallT := fun ds st => if noLs ds = true then match c ds [] with
  | .ok d S _ => if noL d = true then .ok d S st else .stuck
  | .exc x S _ => if noLf x.fs = true then .exc x S st else .stuck
  | .stuck => .stuck
  else .stuck
theorem spOf_solo {G : Gx} {n : Nat} {c : CallT} (vs : List V) (H : Hp) (Q : VK) (E : XK) : spOf G n (solo c) vs H Q E → spOf G n c vs H Q E := by
  rintro ⟨hl, F, ds, st, f0, so, r, q⟩
  have nil0 : StOk G (hid [] H) ⟨F.f, []⟩ H [] := ⟨rfl, List.nodup_nil, fun n x a e _ => by cases e⟩
  by_cases z : noLs ds = true
  · rw [show solo c ds st = _ from if_pos z] at q
    refine ⟨hl, ⟨F.f, []⟩, ds, [], f0, nil0, RpAll.alone (F := F) (F' := ⟨F.f, []⟩) (fun _ _ e => e) r z, ?_⟩
    have key : ∀ (H' : Hp) (F1 : Fz), Same (hid [] H) H' → Same F1.f H' → Gr (hid [] H) ⟨F.f, []⟩ F1 →
        Same (hid F.m H) H' ∧ Gr (hid F.m H) F ⟨F1.f, F.m⟩ ∧ StOk G (hid F.m H) ⟨F1.f, F.m⟩ H' st := fun H' F1 k f g => by
      rw [hid_nil] at k g
      have g1 : Same F.f F1.f := g.1.1
      have g2 : ∀ a, F.f a = none → F1.f a ≠ none → H a = none := g.2
      refine ⟨fun a u e => k a u (hid_same _ _ a u e), ⟨⟨g1, List.prefix_refl _⟩, fun a h1 h2 => ?_⟩, so.ml, so.mn, fun n x a e1 e2 => ?_⟩
      · by_cases m : a ∈ F.m
        · exact hid_in m
        · rw [hid_out m]; exact g2 a h1 h2
      · obtain ⟨h1, h2, h3⟩ := so.ob n x a e1 e2
        refine ⟨?_, h2, h3.grow ⟨g1, List.prefix_refl _⟩ k⟩
        obtain ⟨u, hu⟩ := h3.ex
        by_cases y : F1.f a = none
        · exact y
        · have := g2 a h1 y
          rw [this] at hu; cases hu
    cases hc : c ds [] with
    | ok d S st1 =>
      rw [hc] at q
      dsimp only at q ⊢
      by_cases nd : noL d = true
      · rw [if_pos nd] at q
        intro v H' F1 k f g s rd
        obtain ⟨a, b, c⟩ := key H' F1 k f g
        exact q v H' ⟨F1.f, F.m⟩ a f b c (Rp.alone (F := F1) (F' := ⟨F1.f, F.m⟩) (fun _ _ e => e) rd nd)
      · rw [if_neg nd] at q; exact q.elim
    | exc x S st1 =>
      rw [hc] at q
      dsimp only at q ⊢
      by_cases nf : noLf x.fs = true
      · rw [if_pos nf] at q
        intro cls dd H' F1 k f g s rx
        obtain ⟨a, b, c⟩ := key H' F1 k f g
        refine q cls dd H' ⟨F1.f, F.m⟩ a f b c ?_
        obtain ⟨C, x1, x2, x3⟩ := rx
        exact ⟨C, x1, x2, x3.imp id fun ⟨y, ⟨e, ws, e1, e2, e3⟩⟩ => ⟨y, e, ws, e1, e2, RpF.alone (F := F1) (F' := ⟨F1.f, F.m⟩) (fun _ _ e => e) e3 nf⟩⟩
      · rw [if_neg nf] at q; exact q.elim
    | stuck => rw [hc] at q; exact q.elim
  · have e : solo c ds st = .stuck := if_neg z
    rw [e] at q; exact (show False from q).elim
theorem Def.solo {P : Program} {w : World} {K : PySem.W.Frag} {mg : Str → Option Value} {base : Heap} {k : Nat} {x : Str} {n : Nat} {c : CallT} (d : Def P w K mg base k x n c) : Def P w K mg base k x n (DL.solo c) := by
  obtain ⟨f, fd, ps, a, b, c, e⟩ := d.ex
  exact ⟨f, fd, ps, a.imp spOf_solo, b, c, e⟩
theorem solo_ok {c : CallT} {ds : List D} {st : Store} {d : D} {S : Sls} {st1 : Store} (h : c ds [] = .ok d S st1) (a : noLs ds = true) (b : noL d = true) : solo c ds st = .ok d S st := by
  rw [solo, if_pos a, h]; exact if_pos b
theorem solo_exc {c : CallT} {ds : List D} {st : Store} {x : Exc} {S : Sls} {st1 : Store} (h : c ds [] = .exc x S st1) (a : noLs ds = true) (b : noLf x.fs = true) : solo c ds st = .exc x S st := by
  rw [solo, if_pos a, h]; exact if_pos b
end DL

namespace DL
open PySem PySem.Spec PyProof.Rows L2
/-! ### a field of the store's instance is set -/
def putD' (k : Nat) (d : D) : List (Nat × D) → List (Nat × D)
  | [] => [(k, d)]
  | (g, x) :: r => if g = k then (g, d) :: r else (g, x) :: putD' k d r
theorem RpF.put {G : Gx} {F : Fz} {k : Nat} {v : V} {d : D} (ok : okN k) (r : Rp G F v d) : ∀ {fs : List (Str × V)} {es : List (Nat × D)}, RpF G F fs es → RpF G F (putF (nmS k) v fs) (putD' k d es)
  | _, _, .nil => .cons ok r .nil
  | _, _, .cons (k := k') o h t => by
    unfold putF putD'
    by_cases hk : k' = k
    · subst hk
      rw [if_pos rfl, if_pos rfl]
      exact .cons o r t
    · rw [if_neg hk, if_neg fun z => hk (nmS_inj o ok z)]
      exact .cons o h (t.put ok r)
theorem RpF.len {G : Gx} {F : Fz} : ∀ {fs : List (Str × V)} {es : List (Nat × D)}, RpF G F fs es → fs.length = es.length
  | _, _, .nil => rfl
  | _, _, .cons _ _ t => congrArg Nat.succ t.len
theorem Ok.updI {G : Gx} {B : Hp} {F : Fz} {σ : L2.St} {H : Hp} {S : Sls} {st : Store} (o : Ok G B F σ H S st) {n c : Nat} {a C dx : Addr} {es es' : List (Nat × D)} {vs vs' : List (Str × V)} (e : st[n]? = some (.i c es)) (ea : F.m[n]? = some a)
    (h1 : H a = some (.ins C dx vs)) (h2 : H dx = some (.own a)) (h3 : G.mg (nmS c) = some (.ref C)) (r : RpF G F vs' es') : Ok G B F σ (upd H a (.ins C dx vs')) S (st.set n (.i c es')) := by
  have ne : dx ≠ a := fun z => by rw [z, h1] at h2; cases h2
  exact o.updB e ea (fun z q => by rw [h1] at q; cases q) ⟨C, dx, vs', upd_same, by rw [upd_ne ne]; exact h2, h3, r⟩
/-- x.f = e -/
def sFL (cs : List Nat) (k : Nat) (fo : Ev Opd) (fe : Ev D) : EvS := fun S st => (fe S st).out fun d S st => (fo S st).out fun a S st => match a with
  | .h n => match st[n]? with
    | some (.i c es) => if c ∈ cs ∧ es.length < 1000 then .nx S (st.set n (.i c (putD' k d es))) else .stuck
    | _ => .stuck
  | _ => .stuck
/-- x.f op= e -/
def sFLA (cs : List Nat) (k : Nat) (op : D → D → Option D) (fo : Ev Opd) (fe : Ev Opd) : EvS := fun S st => (fo S st).out fun a S st => match a with
  | .h n => match st[n]? with
    | some (.i c es) => if c ∈ cs ∧ es.length < 1000 then match es.lookup k with
        | some u => (fe S st).out fun b S st => match vw S st b, st[n]? with
          | some y, some (.i c' es') => if c' = c ∧ es'.length < 1000 then match op u y with
              | some d => .nx S (st.set n (.i c (putD' k d es')))
              | none => .stuck
            else .stuck
          | _, _ => .stuck
        | none => .stuck
      else .stuck
    | _ => .stuck
  | _ => .stuck
section
variable {X : Cx} {B : Hp} {W : WX} {a value : Expr} {pos pos' : Pos} {f : Str} {fo : Ev Opd} {fe : Ev D}
theorem ds_fldL (cs : List Nat) (k : Nat) (hk : nmS k = f) (ok : okN k) (ht : ClsF X.K X.mg cs f) (ho : DO X B W a fo) (hv : DE X B W value fe) (hs : swapsWith value (some (.Attribute a f pos')) pos.line X.env = pure false := by rfl) :
    DS X B W (.Assign [.Attribute a f pos'] value pos) (sFL cs k fo fe) :=
  ps_imp (ps_fld ho hv hs) fun Dn σ H ⟨F, S, st, o, q⟩ => ⟨F, S, st, o, (Post.out (R := RD (Cx.g X) σ) q).mono fun v H1 ⟨F1, d, S1, st1, g1, o1, r1, p1⟩ =>
    ⟨F1, S1, st1, o1, (Post.out (R := RO (Cx.g X) σ) p1).mono fun ov H2 ⟨F2, ao, S2, st2, g2, o2, r2, p2⟩ => by
      split at p2
      · rename_i n
        obtain ⟨aa, ha, rfl⟩ := r2
        split at p2
        · rename_i c es hst
          split at p2
          · rename_i hc
            obtain ⟨m1, m2, C, dx, vs, m3, m4, m5, m6⟩ := o2.so.ob n _ aa hst ha
            obtain ⟨t1, t2⟩ := ht c hc.1 C m5
            refine ⟨aa, C, dx, vs, rfl, m3, t1, t2, by rw [m6.len]; exact hc.2, p2 σ _ F2 .refl (o2.updI hst ha m3 m4 m5 ?_)⟩
            rw [← hk]; exact m6.put ok (r1.mono g2.1)
          · exact p2.elim
        · exact p2.elim
      · exact p2.elim⟩⟩
theorem ds_fldaL {oo : Operator} {r : R2} {op : D → D → Option D} {fb : Ev Opd} {tpos : Pos} (cs : List Nat) (k : Nat) (hk : nmS k = f) (ok : okN k) (ht : ClsF X.K X.mg cs f) (hop : InOp X oo r) (h2 : Op2 (Cx.g X) r op) (ho : DO X B W a fo) (hv : DO X B W value fb) :
    DS X B W (.AugAssign (.Attribute a f tpos) oo value pos) (sFLA cs k op fo fb) :=
  ps_imp (ps_fldaug ho hv hop) fun Dn σ H ⟨F, S, st, o, q⟩ => ⟨F, S, st, o, (Post.out (R := RO (Cx.g X) σ) q).mono fun ov H1 ⟨F1, ao, S1, st1, g1, o1, r1, p1⟩ => by
    split at p1
    · rename_i n
      obtain ⟨aa, ha, rfl⟩ := r1
      split at p1
      · rename_i c es hst
        split at p1
        · rename_i hc
          obtain ⟨m1, m2, C, dx, vs, m3, m4, m5, m6⟩ := o1.so.ob n _ aa hst ha
          obtain ⟨t1, t2⟩ := ht c hc.1 C m5
          split at p1
          · rename_i u hu
            obtain ⟨uv, hl, ru⟩ := m6.look ok hu
            rw [hk] at hl
            refine ⟨aa, C, dx, vs, uv, rfl, m3, t1, t2, hl, F1, S1, st1, o1, (Post.out (R := RO (Cx.g X) σ) p1).mono fun y H2 ⟨F2, bo, S2, st2, g2, o2, r2, p2⟩ => ?_⟩
            split at p2
            · rename_i yd c' es' hy hst2
              split at p2
              · rename_i hc2
                split at p2
                · rename_i d hd
                  obtain ⟨rfl, hlen⟩ := hc2
                  have ha2 := pre_get g2.1.2 ha
                  refine h2 F2 H2 uv y u yd d o2.fH (.inl (ru.mono g2.1)) (o2.vw r2 hy) hd _ fun z H3 f3 kp fr gr rz => ?_
                  have o3 := o2.grow gr kp fr
                  obtain ⟨n1, n2, C', dx', vs', n3, n4, n5, n6⟩ := o3.so.ob n _ aa hst2 ha2
                  have eC : C' = C := by
                    have := m5.symm.trans n5
                    cases this; rfl
                  subst eC
                  refine ⟨dx', vs', n3, by rw [n6.len]; exact hlen, p2 σ _ _ (o2.gr gr) (o3.updI hst2 ha2 n3 n4 n5 ?_)⟩
                  rw [← hk]; exact n6.put ok rz
                · exact p2.elim
              · exact p2.elim
            · exact p2.elim
          · exact p1.elim
        · exact p1.elim
      · exact p1.elim
    · exact p1.elim⟩
theorem op_fAdd {G : Gx} : Op2 G L2.rAdd dAddI := fun F H v w x y d f h1 h2 e => by
  unfold dAddI dI0 at e
  split at e
  · rename_i i j
    cases e
    cases h1.int_eq
    cases h2.int_eq
    exact fun Q q => ⟨i, j, rfl, rfl, q _ H F.f (fun _ _ z => z) f .refl (.int _)⟩
  · cases e
end
/-! ### a method of the store's instance -/
def mhE (cs : List Nat) (mk : Nat) (tab : Nat → CallT) (fo : Ev D) (fa : Ev (List Opd)) : Ev D := fun S st => (fo S st).bind fun o S st => match o with
  | .loc n => match st[n]? with
    | some (.i c es) => if c ∈ cs ∧ es.lookup mk = none then (fa S st).bind fun a S st => match vds S a with
        | some ds => match tab c (.loc n :: ds) st with
          | .ok d _ st => .ok d S st
          | .exc x _ st => .exc x S st
          | .stuck => .stuck
        | none => .stuck
      else .stuck
    | _ => .stuck
  | _ => .stuck
section
variable {X : Cx} {B : Hp} {W : WX} {e a : Expr} {es : List Expr} {pos : Pos}
theorem mh_lift {m : Str} {mk k n : Nat} {cs : List Nat} {tab : Nat → CallT} {fo : Ev D} {fa : Ev (List Opd)} (hmk : nmS mk = m) (okm : okN mk) (d : MDef X.prog X.w X.K X.mg X.base k m (n + 1) cs tab) (hr : Room k X.A) (hl : aLen fa n) {σ : L2.St} {H : Hp} {Q : VK}
    (q : lift (Cx.g X) B W (RD (Cx.g X)) (mhE cs mk tab fo fa) σ H Q) : tMethX X m W (lift (Cx.g X) B W (RD (Cx.g X)) fo) (lift (Cx.g X) B W (RpO (Cx.g X)) fa) σ H Q := by
  obtain ⟨F, S, st, o, q⟩ := q
  refine ⟨F, S, st, o, (Post.bind (R := RD (Cx.g X) σ) q).mono fun v H1 ⟨F1, d1, S1, st1, g1, o1, r1, p1⟩ => ?_⟩
  split at p1
  · rename_i nn
    split at p1
    · rename_i c es hst
      split at p1
      · rename_i hc
        have r1' : Rp (Cx.g X) F1 v (.loc nn) := r1
        cases r1 with
        | @loc aa _ ha =>
          obtain ⟨m1, m2, C, dx, fs, m3, m4, m5, m6⟩ := o1.so.ob nn _ aa hst ha
          obtain ⟨f, fd, ps, t1, t2, t3, t4⟩ := d.ex c hc.1 C m5
          refine ⟨aa, C, dx, fs, f, fd, ps, k, _, rfl, m3, by rw [← hmk]; exact m6.miss okm hc.2, t1, t2, t3, hr, t4, F1, S1, st1, o1, ?_⟩
          have lens := fun r' S' st' e => hl S1 st1 r' S' st' e
          revert p1 lens
          generalize fa S1 st1 = r
          intro p1 lens
          cases r with
          | exc y S2 st2 => exact p1
          | stuck => exact p1
          | ok as S2 st2 =>
            intro vs H2 F2 g2 o2 r2
            have p2 : Post (Cx.g X) B W (RD (Cx.g X) σ) σ F1 Q (match vds S2 as with
              | some ds => match tab c (.loc nn :: ds) st2 with
                | .ok d _ st => .ok d S2 st
                | .exc x _ st => .exc x S2 st
                | .stuck => .stuck
              | none => .stuck) := p1
            split at p2
            · rename_i ds hds
              have ra := o2.vds r2 hds
              refine ⟨?_, F2, .loc nn :: ds, st2, o2.fH, o2.so.hid, .cons (r1'.mono g2.1) ra, ?_⟩
              · rw [List.length_cons, rpO_len r2, lens _ _ _ rfl]
              · revert p2
                generalize tab c (.loc nn :: ds) st2 = r
                intro p2
                cases r with
                | ok _ _ _ => exact fun v H' F' k f gr so rr => p2 v H' F' (g2.trans (o2.back k f gr so).1) (o2.back k f gr so).2 rr
                | exc _ _ _ => exact fun cls dd H' F' k f gr so rr => p2 cls dd H' F' (g2.trans (o2.back k f gr so).1) (o2.back k f gr so).2 rr
                | stuck => exact p2.elim
            · exact p2.elim
      · exact p1.elim
    · exact p1.elim
  · exact p1.elim
theorem de_mh {m : Str} {mk k n : Nat} {cs : List Nat} {tab : Nat → CallT} {apos : Pos} {fo : Ev D} {fa : Ev (List Opd)} {pl : Sem Bool} (hmk : nmS mk = m) (okm : okN mk) (d : MDef X.prog X.w X.K X.mg X.base k m (n + 1) cs tab) (hr : Room k X.A) (tk : Takes X W)
    (ho : DE X B W a fo) (ha : DA X B W (e :: es) fa) (hl : aLen fa n := by repeat (first | exact aLen_n | refine aLen_c ?_))
    (hst : starEach (e :: es) X.env = (false, eval e X.env) :: starEach es X.env := by rfl) (hpl : (backTo pos (starEach es X.env)).any (·.1) = false := by rfl)
    (ht : eval (.Call (.Attribute a m apos) (e :: es) [] pos) X.env = (do
      let ov ← eval a X.env
      standAt apos.atName
      let (f, first) ← holding [ov] (getMethod ov m pl)
      callWith pos f first (backTo pos (starEach (e :: es) X.env)) (backToKw pos (keywordEach [] X.env))) := by rfl) :
    DE X B W (.Call (.Attribute a m apos) (e :: es) [] pos) (mhE cs mk tab fo fa) :=
  pe_imp (pe_methX tk ho ha hst hpl ht) fun _ _ _ q => mh_lift hmk okm d hr hl q
theorem de_mh0 {m : Str} {mk k : Nat} {cs : List Nat} {tab : Nat → CallT} {apos : Pos} {fo : Ev D} {pl : Sem Bool} (hmk : nmS mk = m) (okm : okN mk) (d : MDef X.prog X.w X.K X.mg X.base k m 1 cs tab) (hr : Room k X.A) (tk : Takes X W)
    (ho : DE X B W a fo)
    (ht : eval (.Call (.Attribute a m apos) [] [] pos) X.env = (do
      let ov ← eval a X.env
      standAt apos.atName
      let (f, first) ← holding [ov] (getMethod ov m pl)
      callWith pos f first (backTo pos (starEach [] X.env)) (backToKw pos (keywordEach [] X.env))) := by rfl) :
    DE X B W (.Call (.Attribute a m apos) [] [] pos) (mhE cs mk tab fo aN) :=
  pe_imp (pe_methX0 tk ho ht) fun σ H Q q => by
    obtain ⟨F, S, st, o, q⟩ := mh_lift hmk okm d hr aLen_n q
    refine ⟨F, S, st, o, q.mono ?_⟩
    rintro v H1 ⟨a, C, dx, fs, f, fd, ps, k, sp, e1, e2, e3, e4, e5, e6, e7, e8, F1, S1, st1, o1, q1⟩
    exact ⟨a, C, dx, fs, f, fd, ps, k, sp, e1, e2, e3, e4, e5, e6, e7, e8, q1 [] H1 F1 .refl o1 .nil⟩
end
/-! ### an instance that is made, by a def of its own -/
theorem Ok.more {G : Gx} {B : Hp} {F : Fz} {σ : L2.St} {H H' : Hp} {S : Sls} {st : Store} (o : Ok G B F σ H S st) (k : Same H H') : Ok G B F σ H' S st :=
  ⟨o.fH.trans k, o.kp.trans k, ⟨o.so.ml, o.so.mn, fun n x a e1 e2 => ⟨(o.so.ob n x a e1 e2).1, (o.so.ob n x a e1 e2).2.1, (o.so.ob n x a e1 e2).2.2.grow (SmF.refl F) k⟩⟩, o.len, fun i s e => by
    have h := o.sl i s e
    cases s with
    | no => trivial
    | d x => exact h
    | own w =>
      obtain ⟨p, u, a1, a2, r⟩ := h
      exact ⟨p, u, a1, k _ _ a2, r⟩, o.ap⟩
structure IDefS (P : Program) (w : World) (K : PySem.W.Frag) (mg : Str → Option Value) (base : Heap) (k : Nat) (x : Str) (c n : Nat) (ci : CallT) : Prop where
  ex : ∃ C f fd ps, mg x = some (.ref C) ∧ nmS c = x ∧ Mk K C f ∧ FnOk P w K mg base (L2.CX P w) k f fd ps (spOf ⟨K, mg, w⟩ (n + 1) ci) ∧ Binds K fd ps []
def newH (c : Nat) (ci : CallT) (fa : Ev (List Opd)) : Ev D := fun S st => (fa S st).bind fun a S st => match vds S a with
  | some ds => match ci (.loc st.length :: ds) (st ++ [.i c []]) with
    | .ok .non _ st' => .ok (.loc st.length) S st'
    | _ => .stuck
  | none => .stuck
section
variable {X : Cx} {B : Hp} {W : WX} {e a : Expr} {es : List Expr} {pos p : Pos}
theorem de_newH {x : Str} {k cn n : Nat} {ci : CallT} {fa : Ev (List Opd)} (d : IDefS X.prog X.w X.K X.mg X.base k x cn n ci) (hr : Room (k + 1) X.A) (ha : DA X B W (e :: es) fa) (hl : aLen fa n := by repeat (first | exact aLen_n | refine aLen_c ?_))
    (hx : Passes (L2.CX X.prog X.w) X (fun _ _ _ => False) := by exact fun _ _ _ _ _ _ _ h => by obtain ⟨_, _, _, _, _, _, _, _, _, _, _, _, z⟩ := h; exact z.elim)
    (hg : Gl X x := by rfl) (hdb : (x == ("__debug__" : Str)) = false := by decide) (he : starEach (e :: es) X.env = (false, eval e X.env) :: starEach es X.env := by rfl) (hpl : (backTo pos (starEach es X.env)).any (·.1) = false := by rfl) :
    DE X B W (.Call (.Name x p) (e :: es) [] pos) (newH cn ci fa) := by
  obtain ⟨C, f, fd, ps, hm, hc, M, F, hb⟩ := d.ex
  refine pe_imp (pe_make (E := fun _ _ _ => False) M F hr hg hm hb .nil hx ha hdb he hpl) fun σ H Q ⟨F0, S, st, o, q⟩ => ⟨F0, S, st, o, ?_⟩
  have lens := fun r' S' st' e => hl S st r' S' st' e
  unfold newH at q
  revert q lens
  generalize fa S st = r
  intro q lens
  cases r with
  | exc y S2 st2 => exact q
  | stuck => exact q
  | ok as S1 st1 =>
    intro vs H1 F1 g1 o1 r1 y dx ny ndx nyx
    have q : Post (Cx.g X) B W (RD (Cx.g X) σ) σ F0 Q (match vds S1 as with
      | some ds => match ci (.loc st1.length :: ds) (st1 ++ [.i cn []]) with
        | .ok .non _ st' => .ok (.loc st1.length) S1 st'
        | _ => .stuck
      | none => .stuck) := q
    cases hv : vds S1 as with
    | none => rw [hv] at q; exact q.elim
    | some ds =>
      rw [hv] at q
      dsimp only at q
      have ra := o1.vds r1 hv
      have ny1 : (upd H1 dx (.own y)) y = none := by rw [upd_ne (Ne.symm nyx)]; exact ny
      have k2 : Same H1 (upd (upd H1 dx (.own y)) y (.ins C dx [])) := fun b u hu => by
        have b1 : b ≠ y := fun z => by rw [z, ny] at hu; cases hu
        have b2 : b ≠ dx := fun z => by rw [z, ndx] at hu; cases hu
        rw [upd_ne b1, upd_ne b2]; exact hu
      have o2 := o1.more k2
      have hy : upd (upd H1 dx (.own y)) y (.ins C dx []) y = some (.ins C dx []) := upd_same
      have hdx : upd (upd H1 dx (.own y)) y (.ins C dx []) dx = some (.own y) := by rw [upd_ne nyx, upd_same]
      have fy : F1 y = none := o1.fH.free ny
      have by' : B y = none := o1.kp.free ny
      have my : y ∉ F1.m := fun z => by
        obtain ⟨_, ⟨u, hu⟩, _⟩ := o1.so.mem z
        rw [ny] at hu; cases hu
      obtain ⟨g3, o3⟩ := o2.allocB (x := .i cn []) (p := y) ⟨C, dx, [], hy, hdx, by rw [← hc] at hm; exact hm, .nil⟩ fy by' my (fun j es e z => by
        obtain ⟨p2, u2, a1, a2, _⟩ := o1.sl j _ e
        rw [a1] at z
        cases z
        rw [ny] at a2; cases a2)
      rw [List.append_nil]
      refine ⟨?_, _, .loc st1.length :: ds, _, o3.fH, o3.so.hid, .cons (.loc ?_) (ra.mono g3.1), ?_⟩
      · rw [List.length_cons, rpO_len r1, lens _ _ _ rfl]
      · show (F1.m ++ [y])[st1.length]? = some y
        rw [← o1.so.ml, List.getElem?_append_right (Nat.le_refl _), Nat.sub_self]; rfl
      · have here : (F1.m ++ [y])[st1.length]? = some y := by
          rw [← o1.so.ml, List.getElem?_append_right (Nat.le_refl _), Nat.sub_self]; rfl
        revert q
        generalize ci (.loc st1.length :: ds) (st1 ++ [.i cn []]) = r
        intro q
        cases r with
        | exc _ _ _ => exact q.elim
        | stuck => exact q.elim
        | ok d3 _ st3 =>
          cases d3 with
          | non =>
            intro v H' F' k f gr so rr
            obtain ⟨g4, o4⟩ := o3.back k f gr so
            cases rr
            exact ⟨rfl, q (.ref y) H' F' ((g1.trans g3).trans g4) o4 (.loc (pre_get g4.1.2 here))⟩
          | _ => exact q.elim
end
end DL

namespace DL
open PySem PySem.Spec PyProof.Rows L2
/-! ### a call that only looks: the store's lists as they stand -/
def mapO {α β : Type} (f : α → Option β) : List α → Option (List β)
  | [] => some []
  | x :: r => match f x, mapO f r with
    | some y, some ys => some (y :: ys)
    | _, _ => none
/-- all handles told by what stands there; k: how deep -/
def dp (st : Store) : Nat → D → Option D
  | 0, _ => none
  | k + 1, .loc n => match st[n]? with
    | some (.o (.l ds)) => (mapO (dp st k) ds).map .lst
    | _ => none
  | k + 1, .lst ds => (mapO (dp st k) ds).map .lst
  | k + 1, .tup ds => (mapO (dp st k) ds).map .tup
  | _ + 1, d => if noL d = true then some d else none
/-- no list in it -/
def flatR : D → Bool
  | .non => true
  | .bl _ => true
  | .int _ => true
  | .str _ => true
  | .ty _ => true
  | .tup ds => ds.all fun d => match d with
    | .non => true
    | .bl _ => true
    | .int _ => true
    | .str _ => true
    | _ => false
  | _ => false
/-- the store counted to what stays -/
def Fp (F : Fz) (H : Hp) : Fz := ⟨fun a => if a ∈ F.m then H a else F.f a, []⟩
section
variable {G : Gx} {B H : Hp} {F : Fz} {st : Store}
theorem Fp_in {a : Addr} (h : a ∈ F.m) : (Fp F H).f a = H a := if_pos h
theorem Fp_out {a : Addr} (h : a ∉ F.m) : (Fp F H).f a = F.f a := if_neg h
theorem Fp_same (so : StOk G B F H st) : Same F.f (Fp F H).f := fun a u e => by
  by_cases h : a ∈ F.m
  · have : F.f a = none := (so.mem h).1
    rw [this] at e; cases e
  · rw [Fp_out h]; exact e
theorem Fp_sub (f0 : Same F.f H) : Same (Fp F H).f H := fun a u e => by
  by_cases h : a ∈ F.m
  · rw [Fp_in h] at e; exact e
  · rw [Fp_out h] at e; exact f0 _ _ e
theorem mapO_rp {k : Nat} (ih : ∀ {v : V} {d d' : D}, Rp G F v d → dp st k d = some d' → Rp G (Fp F H) v d') : ∀ {vs : List V} {ds ds' : List D}, RpAll G F vs ds → mapO (dp st k) ds = some ds' → RpAll G (Fp F H) vs ds'
  | _, _, _, .nil, e => by cases e; exact .nil
  | _, d :: ds, ds', .cons h t, e => by
    unfold mapO at e
    split at e
    · rename_i y ys h1 h2
      cases e
      exact .cons (ih h h1) (mapO_rp ih t h2)
    · cases e
theorem dp_rp (so : StOk G B F H st) : ∀ (k : Nat) {v : V} {d d' : D}, Rp G F v d → dp st k d = some d' → Rp G (Fp F H) v d'
  | 0, _, _, _, _, e => by cases e
  | k + 1, v, d, d', r, e => by
    have ih := fun {v : V} {d d' : D} => dp_rp so k (v := v) (d := d) (d' := d')
    have other : noL d = true → some d = some d' → Rp G (Fp F H) v d' := fun z q => by
      cases q
      exact Rp.alone (Fp_same so) r z
    cases r with
    | @loc a n ha =>
      unfold dp at e
      split at e
      · rename_i ds hst
        cases hm : mapO (dp st k) ds with
        | none => rw [hm] at e; cases e
        | some ys =>
          rw [hm] at e; cases e
          obtain ⟨_, _, u, h3, h4⟩ := so.ob n _ a hst ha
          cases h4 with
          | @l xs _ h4 =>
            refine .lst (xs := xs) ?_ (mapO_rp ih h4 hm)
            show (Fp F H).f a = _
            rw [Fp_in (List.mem_of_getElem? ha)]; exact h3
      · cases e
    | lst h t =>
      unfold dp at e
      rename_i ds
      cases hm : mapO (dp st k) ds with
      | none => rw [hm] at e; cases e
      | some ys =>
        rw [hm] at e; cases e
        exact .lst (Fp_same so _ _ h) (mapO_rp ih t hm)
    | tup h t =>
      unfold dp at e
      rename_i ds
      cases hm : mapO (dp st k) ds with
      | none => rw [hm] at e; cases e
      | some ys =>
        rw [hm] at e; cases e
        exact .tup (same_seqT (Fp_same so) h) (mapO_rp ih t hm)
    | non => exact other rfl (by simpa [dp, noL] using e)
    | bl b => exact other rfl (by simpa [dp, noL] using e)
    | int i => exact other rfl (by simpa [dp, noL] using e)
    | str s h => exact other rfl (by simpa [dp, noL] using e)
    | ty n => exact other rfl (by simpa [dp, noL] using e)
    | err a c => exact other rfl (by simpa [dp, noL] using e)
    | scr h => exact other rfl (by simpa [dp, noL] using e)
    | dicK h t =>
      simp only [dp] at e
      split at e
      · rename_i z; exact other z e
      · cases e
    | obj h h' g t =>
      simp only [dp] at e
      split at e
      · rename_i z; exact other z e
      · cases e
end
end DL
namespace DL
open PySem PySem.Spec PyProof.Rows L2
/-- what stays, without the store's things -/
def Fm (F F1 : Fz) : Fz := ⟨fun a => if a ∈ F.m then none else F1.f a, F.m⟩
theorem Fm_tup {G : Gx} {B H : Hp} {F F1 : Fz} {st : Store} (so : StOk G B F H st) (g : Same (Fp F H).f F1.f) {a : Addr} {xs : List V} (h : SqT G.K F1.f a xs) : SqT G.K (Fm F F1).f a xs := by
  have out : ∀ u : HO, F1.f a = some u → (∀ w : Ow, ¬ OwRel G F u w) → (∀ C dx vs, u ≠ .ins C dx vs) → (∀ w b kvs, u ≠ TalO w b kvs) → (Fm F F1).f a = some u := fun u e n1 n2 n3 => by
    show (if a ∈ F.m then none else F1.f a) = some u
    rw [if_neg, e]
    intro z
    obtain ⟨_, ⟨y, hy⟩, n, x, _, _, _, ho⟩ := so.mem z
    have : F1.f a = some y := g _ _ (by rw [Fp_in z]; exact hy)
    rw [e] at this
    cases this
    cases x with
    | o w => obtain ⟨u2, q1, q2⟩ := ho; rw [hy] at q1; cases q1; exact n1 w q2
    | i c fs => obtain ⟨C, dx, vs, q1, _⟩ := ho; rw [hy] at q1; cases q1; exact n2 _ _ _ rfl
    | t es => obtain ⟨kvs, q1, _⟩ := ho; rw [hy] at q1; cases q1; exact n3 _ _ _ rfl
  rcases h with (h | ⟨o, h⟩) | h
  · exact .inl (.inl (out _ h (fun w q => by cases q) (fun _ _ _ q => by cases q) (fun _ _ _ q => by unfold TalO at q; cases q)))
  · exact .inl (.inr ⟨o, out _ h (fun w q => by cases q) (fun _ _ _ q => by cases q) (fun _ _ _ q => by unfold TalO at q; cases q)⟩)
  · exact .inr h
theorem flatR_all {G : Gx} {F F' : Fz} : ∀ {vs : List V} {ds : List D}, RpAll G F vs ds → (ds.all fun d => match d with | .non => true | .bl _ => true | .int _ => true | .str _ => true | _ => false) = true → RpAll G F' vs ds
  | _, _, .nil, _ => .nil
  | _, _, .cons h t, z => by
    rw [List.all_cons, Bool.and_eq_true] at z
    refine .cons ?_ (flatR_all t z.2)
    cases h with
    | non => exact .non
    | bl b => exact .bl b
    | int i => exact .int i
    | str s o => exact .str s o
    | _ => cases z.1
theorem flat_rp {G : Gx} {B H : Hp} {F F1 : Fz} {st : Store} (so : StOk G B F H st) (g : Same (Fp F H).f F1.f) {v : V} {d : D} (r : Rp G F1 v d) (z : flatR d = true) : Rp G (Fm F F1) v d := by
  cases r with
  | non => exact .non
  | bl b => exact .bl b
  | int i => exact .int i
  | str s o => exact .str s o
  | ty n => exact .ty n
  | tup h t => exact .tup (Fm_tup so g h) (flatR_all t z)
  | _ => cases z
/-- c, that only looks at what it is handed -/
def look (c : CallT) : CallT := fun ds st => match mapO (dp st 40) ds with
  | some es => match c es [] with
    | .ok d S _ => if flatR d = true then .ok d S st else .stuck
    | .exc x S _ => if x.fs.isEmpty = true then .exc x S st else .stuck
    | .stuck => .stuck
  | none => .stuck
theorem spOf_look {G : Gx} {n : Nat} {c : CallT} (vs : List V) (H : Hp) (Q : VK) (E : XK) : spOf G n (look c) vs H Q E → spOf G n c vs H Q E := by
  rintro ⟨hl, F, ds, st, f0, so, r, q⟩
  have nil0 : StOk G (hid [] H) (Fp F H) H [] := ⟨rfl, List.nodup_nil, fun n x a e _ => by cases e⟩
  unfold look at q
  cases hm : mapO (dp st 40) ds with
  | none => rw [hm] at q; exact (show False from q).elim
  | some es =>
    rw [hm] at q
    dsimp only at q
    refine ⟨hl, Fp F H, es, [], Fp_sub f0, nil0, mapO_rp (fun {_ _ _} => dp_rp so 40) r hm, ?_⟩
    have key : ∀ (H' : Hp) (F1 : Fz), Same (hid [] H) H' → Same F1.f H' → Gr (hid [] H) (Fp F H) F1 →
        Same (hid F.m H) H' ∧ Same (Fm F F1).f H' ∧ Gr (hid F.m H) F (Fm F F1) ∧ StOk G (hid F.m H) (Fm F F1) H' st := fun H' F1 k f g => by
      rw [hid_nil] at k g
      have g1 : Same (Fp F H).f F1.f := g.1.1
      have g2 : ∀ a, (Fp F H).f a = none → F1.f a ≠ none → H a = none := g.2
      have sm : SmF F (Fm F F1) := ⟨fun a u e => by
        have na : a ∉ F.m := fun z => by
          have := (so.mem z).1
          rw [show F.f a = none from this] at e; cases e
        show (if a ∈ F.m then none else F1.f a) = some u
        rw [if_neg na]; exact g1 _ _ (Fp_same so _ _ e), List.prefix_refl _⟩
      refine ⟨fun a u e => k a u (hid_same _ _ a u e), fun a u e => ?_, ⟨sm, fun a h1 h2 => ?_⟩, so.ml, so.mn, fun n x a e1 e2 => ?_⟩
      · have e : (if a ∈ F.m then none else F1.f a) = some u := e
        split at e
        · cases e
        · exact f _ _ e
      · have h2 : (if a ∈ F.m then none else F1.f a) ≠ none := h2
        split at h2
        · exact absurd rfl h2
        · rename_i na
          rw [hid_out na]
          exact g2 a (by rw [Fp_out na]; exact h1) h2
      · obtain ⟨h1, h2, h3⟩ := so.ob n x a e1 e2
        exact ⟨if_pos (List.mem_of_getElem? e2), h2, h3.grow sm k⟩
    cases hc : c es [] with
    | ok d S st1 =>
      rw [hc] at q
      dsimp only at q ⊢
      by_cases nd : flatR d = true
      · rw [if_pos nd] at q
        intro v H' F1 k f g s rd
        obtain ⟨a, f2, b, s2⟩ := key H' F1 k f g
        exact q v H' (Fm F F1) a f2 b s2 (flat_rp so g.1.1 rd nd)
      · rw [if_neg nd] at q; exact (show False from q).elim
    | exc x S st1 =>
      rw [hc] at q
      dsimp only at q ⊢
      by_cases nf : x.fs.isEmpty = true
      · rw [if_pos nf] at q
        intro cls dd H' F1 k f g s rx
        obtain ⟨a, f2, b, s2⟩ := key H' F1 k f g
        obtain ⟨C, x1, x2, x3⟩ := rx
        have x0 : x.fs = [] := List.isEmpty_iff.mp nf
        exact q cls dd H' (Fm F F1) a f2 b s2 ⟨C, x1, x2, .inl (x3.elim id fun y => absurd x0 y.1)⟩
      · rw [if_neg nf] at q; exact (show False from q).elim
    | stuck => rw [hc] at q; exact (show False from q).elim
theorem Def.look {P : Program} {w : World} {K : PySem.W.Frag} {mg : Str → Option Value} {base : Heap} {k : Nat} {x : Str} {n : Nat} {c : CallT} (d : Def P w K mg base k x n c) : Def P w K mg base k x n (DL.look c) := by
  obtain ⟨f, fd, ps, a, b, c, e⟩ := d.ex
  exact ⟨f, fd, ps, a.imp spOf_look, b, c, e⟩
theorem look_ok {c : CallT} {ds es : List D} {st : Store} {d : D} {S : Sls} {st1 : Store} (h : c es [] = .ok d S st1) (a : mapO (dp st 40) ds = some es) (b : flatR d = true) : look c ds st = .ok d S st := by
  unfold DL.look; rw [a]; dsimp only; rw [h]; exact if_pos b
end DL
namespace DL
open PySem PySem.Spec PyProof.Rows L2
/-! ### two things compared, the store's lists as they stand -/
def scal : D → Bool
  | .non => true
  | .bl _ => true
  | .int _ => true
  | .str _ => true
  | _ => false
theorem scal_rp {G : Gx} {F F' : Fz} {v : V} {d : D} (r : Rp G F v d) (z : scal d = true) : Rp G F' v d := by
  cases r with
  | non => exact .non
  | bl b => exact .bl b
  | int i => exact .int i
  | str s o => exact .str s o
  | _ => cases z
def o2L (op : D → D → Option D) (fa fb : Ev D) : Ev D := fun S st => (fa S st).bind fun a S st => (fb S st).bind fun b S st =>
  match dp st 40 a, dp st 40 b with
  | some x, some y => match op x y with
    | some d => if scal d = true then .ok d S st else .stuck
    | none => .stuck
  | _, _ => .stuck
section
variable {X : Cx} {B : Hp} {W : WX} {a b : Expr} {pos : Pos}
theorem op2L_lift {r : R2} {op : D → D → Option D} {fa fb : Ev D} (h : Op2 (Cx.g X) r op) {σ : L2.St} {H : Hp} {Q : VK} (q : lift (Cx.g X) B W (RD (Cx.g X)) (o2L op fa fb) σ H Q) :
    tOp r (lift (Cx.g X) B W (RD (Cx.g X)) fa) (lift (Cx.g X) B W (RD (Cx.g X)) fb) σ H Q := by
  obtain ⟨F, S, st, o, q⟩ := q
  refine ⟨F, S, st, o, (Post.bind (R := RD (Cx.g X) σ) q).mono fun v H1 ⟨F1, d, S1, st1, g1, o1, r1, p1⟩ => ⟨F1, S1, st1, o1, (Post.bind (R := RD (Cx.g X) σ) p1).mono fun w H2 ⟨F2, d2, S2, st2, g2, o2, r2, p2⟩ => ?_⟩⟩
  split at p2
  · rename_i x y hx hy
    split at p2
    · rename_i z hz
      split at p2
      · rename_i sc
        have r1' : Rp (Cx.g X) F1 v d := r1
        have r2' : Rp (Cx.g X) F2 w d2 := r2
        have ra := dp_rp o2.so 40 (r1'.mono g2.1) hx
        have rb := dp_rp o2.so 40 r2' hy
        exact h (Fp F2 H2) H2 v w x y z (Fp_sub o2.fH) (.inl ra) (.inl rb) hz _ fun v' H3 f' k _ _ rz => p2 v' H3 F2 .refl (o2.more k) (scal_rp rz sc)
      · exact p2.elim
    · exact p2.elim
  · exact p2.elim
theorem de_cmpL {o : CmpOp} {r : R2} {op : D → D → Option D} {fa fb : Ev D} (ho : OpR X (compareOp o) r) (h : Op2 (Cx.g X) r op) (ha : DE X B W a fa) (hb : DE X B W b fb) (hm : behindInMarks o b = false) : DE X B W (.Compare a [o] [b] pos) (o2L op fa fb) :=
  pe_imp (pe_cmpR ho ha hb hm) fun _ _ _ q => op2L_lift h q
theorem dt_cmpL {o : CmpOp} {r : R2} {op : D → D → Option D} {fa fb : Ev D} (ho : OpR X (compareOp o) r) (h : Op2 (Cx.g X) r op) (ha : DE X B W a fa) (hb : DE X B W b fb) (hm : behindInMarks o b = false) : DT X B W (.Compare a [o] [b] pos) (tV (o2L op fa fb)) :=
  pt_imp (pt_cmpR ho ha hb hm) fun _ _ _ q => test_lift (fun _ _ _ q => op2L_lift h q) q
end
end DL

namespace DL
open PySem PySem.Spec PyProof.Rows L2
/-! ### a loop over a list of the store, as it stands at each turn -/
def forH (g : Tg) (body : EvS) (n : Nat) : Nat → Nat → EvS
  | 0, i, S, st => match st[n]? with
    | some (.o (.l ds)) => if ds.length ≤ i then .nx S st else .stuck
    | _ => .stuck
  | k + 1, i, S, st => match st[n]? with
    | some (.o (.l ds)) => match ds[i]? with
      | some d => match g d S with
        | some S1 => match body S1 st with
          | .nx S2 st2 => forH g body n k (i + 1) S2 st2
          | .ct S2 st2 => forH g body n k (i + 1) S2 st2
          | .rto w S2 st2 => .rto w S2 st2
          | .bk S2 st2 => .nx S2 st2
          | .ret v S2 st2 => .ret v S2 st2
          | .exc x S2 st2 => .exc x S2 st2
          | .stuck => .stuck
        | none => .stuck
      | none => .nx S st
    | _ => .stuck
/-- as many turns as things are there at first -/
def sFH (fo : Ev Opd) (g : Tg) (body : EvS) : EvS := fun S st => (fo S st).out fun a S st => match a with
  | .h n => match st[n]? with
    | some (.o (.l ds)) => forH g body n ds.length 0 S st
    | _ => .stuck
  | _ => .stuck
section
variable {X : Cx} {B : Hp} {W : WX} {pos : Pos}
theorem ds_fH {tg iter : Expr} {body : List Stmt} {fo : Ev Opd} {g : Tg} {fb : EvS} (hp : PassesOwn (model X.prog X.w) X.A X.env X.xe) (hc : X.calm = true) (hi : DO X B W iter fo) (hg : DG X B tg g) (hb : DSs X B W body fb)
    (hs : ∀ x, foldedSetIterable iter X.env x = pure x := by intro _; rfl) : DS X B W (.For tg iter body [] pos) (sFH fo g fb) :=
  ps_imp (ps_for hp hc (pi_list hi) hg hb hs) fun D σ H ⟨F, S, st, o, q⟩ => ⟨F, S, st, o, (Post.out (R := RO (Cx.g X) σ) q).mono fun v H1 ⟨F1, ao, S1, st1, g1, o1, r1, p1⟩ => by
    split at p1
    · rename_i nn
      obtain ⟨a, ha, rfl⟩ := r1
      split at p1
      · rename_i ds0 hst0
        obtain ⟨_, _, u0, k3, k4⟩ := o1.so.ob nn _ a hst0 ha
        cases k4 with
        | @l xs0 _ k4 =>
          refine ⟨a, rfl, ⟨xs0, .inl (.inl k3)⟩, fun i m σ H => ∃ F' S' st', Gr B F1 F' ∧ Ok (Cx.g X) B F' σ H S' st' ∧ PostS (Cx.g X) B W F' D (forH g fb nn m i S' st'), ⟨ds0.length, F1, S1, st1, .refl, o1, p1⟩, ?_⟩
          rintro i m σ2 H2 ⟨F2, S2, st2, g2, o2, p2⟩
          have ha2 := pre_get g2.1.2 ha
          cases m with
          | zero =>
            unfold forH at p2
            split at p2
            · rename_i ds hst
              obtain ⟨_, _, u, e3, e4⟩ := o2.so.ob nn _ a hst ha2
              cases e4 with
              | @l xs _ e4 =>
                split at p2
                · rename_i hl
                  exact .inl ⟨⟨xs, .inl (.inl e3), by rw [e4.length]; exact hl⟩, p2 σ2 H2 F2 .refl o2⟩
                · exact p2.elim
            · exact p2.elim
          | succ m =>
            unfold forH at p2
            split at p2
            · rename_i ds hst
              obtain ⟨_, _, u, e3, e4⟩ := o2.so.ob nn _ a hst ha2
              cases e4 with
              | @l xs _ e4 =>
                split at p2
                · rename_i d hd
                  obtain ⟨y, hy, ry⟩ := e4.get hd
                  refine .inr ⟨⟨xs, y, .inl (.inl e3), hy⟩, fun σ' H' => ∃ F' S' st', Gr B F1 F' ∧ Ok (Cx.g X) B F' σ' H' S' st' ∧ PostS (Cx.g X) B W F' D (forH g fb nn m (i + 1) S' st'), fun σ' H' h => ⟨m, Nat.lt_succ_self _, h⟩, fun x H' hx => ?_⟩
                  obtain ⟨rfl, hx⟩ := hx
                  have ex := hx xs (.inl (.inl e3))
                  rw [hy] at ex
                  cases ex
                  split at p2
                  · rename_i S3 hS3
                    refine ⟨_, S2, st2, d, S3, o2, ry, hS3, fun σ4 H4 F4 g4 o4 => ⟨F4, S3, st2, o4, ?_⟩⟩
                    revert p2
                    generalize fb S3 st2 = r
                    intro p2
                    cases r with
                    | nx S5 st5 => exact fun σ5 H5 F5 g5 o5 => ⟨F5, S5, st5, g2.trans (g4.trans g5), o5, PostS.grow (g4.trans g5) p2⟩
                    | ct S5 st5 => exact fun σ5 H5 F5 g5 o5 => ⟨F5, S5, st5, g2.trans (g4.trans g5), o5, PostS.grow (g4.trans g5) p2⟩
                    | rto w5 S5 st5 => exact fun p5 u5 σ5 H5 F5 g5 o5 => p2 p5 u5 σ5 H5 F5 (g4.trans g5) o5
                    | bk S5 st5 => exact fun σ5 H5 F5 g5 o5 => p2 σ5 H5 F5 (g4.trans g5) o5
                    | ret v S5 st5 => exact fun v' σ5 H5 F5 g5 o5 r5 => p2 v' σ5 H5 F5 (g4.trans g5) o5 r5
                    | exc y S5 st5 => exact fun c' d' σ5 H5 F5 g5 o5 r5 => p2 c' d' σ5 H5 F5 (g4.trans g5) o5 r5
                    | stuck => exact p2
                  · exact p2.elim
                · rename_i hd
                  refine .inl ⟨⟨xs, .inl (.inl e3), ?_⟩, p2 σ2 H2 F2 .refl o2⟩
                  rw [e4.length]
                  exact List.getElem?_eq_none_iff.mp hd
            · exact p2.elim
      · exact p1.elim
    · exact p1.elim⟩
end
end DL

namespace DL
open PySem PySem.Spec PyProof.Rows L2
/-! ### a new list of flat data, made while the store's lists are looked at -/
def lkS (st : Store) : Sl → Sl
  | .d x => match dp st 40 x with
    | some y => .d y
    | none => .no
  | s => s
theorem lk_none {st : Store} {x : D} (h : dp st 40 x = none) : lkS st (.d x) = .no := by
  show (match dp st 40 x with | some y => Sl.d y | none => Sl.no) = _
  rw [h]
theorem lk_some {st : Store} {x y : D} (h : dp st 40 x = some y) : lkS st (.d x) = .d y := by
  show (match dp st 40 x with | some y => Sl.d y | none => Sl.no) = _
  rw [h]
theorem lk_own {st : Store} {x : D} {w : Ow} : lkS st (.d x) ≠ .own w := by
  cases h : dp st 40 x with
  | none => rw [lk_none h]; exact fun z => by cases z
  | some y => rw [lk_some h]; exact fun z => by cases z
def isO : Ob → Bool
  | .o _ => true
  | _ => false
open Classical in
noncomputable def lkF (f : Ev Ow) : Ev Ow := fun S st => if S.all noOwn = true ∧ st.all isO = true then match f (S.map (lkS st)) [] with
    | .ok (.l ys) S1 _ => if ys.all flatD = true ∧ S1 = S.map (lkS st) then .ok (.l ys) S st else .stuck
    | _ => .stuck
  else .stuck
section
variable {X : Cx} {B : Hp} {W : WX} {e : Expr}
theorem df_lk {f : Ev Ow} (h : DF X B W e f) : DF X B W e (lkF f) := pe_imp h fun σ H Q ⟨F, S, st, o, q⟩ => by
  unfold lkF at q
  split at q
  · rename_i hc
    obtain ⟨hn, ho⟩ := hc
    have none_own : ∀ (j : Nat) (w : Ow), S[j]? ≠ some (.own w) := fun j w z => by
      have := List.all_eq_true.mp hn _ (List.mem_of_getElem? z)
      cases this
    have slot : ∀ (j : Nat) (s : Sl), (S.map (lkS st))[j]? = some s → SlOk (Cx.g X) B (Fp F H) H σ[j]? s := fun j s hj => by
      rw [List.getElem?_map] at hj
      cases hs : S[j]? with
      | none => rw [hs] at hj; cases hj
      | some t =>
        rw [hs] at hj
        cases hj
        have w0 := o.sl j t hs
        cases t with
        | no => trivial
        | own w => exact absurd hs (none_own j w)
        | d x =>
          cases hd : dp st 40 x with
          | none => rw [lk_none hd]; trivial
          | some y =>
            rw [lk_some hd]
            obtain ⟨v, a1, a2⟩ := w0
            exact ⟨v, a1, dp_rp o.so 40 a2 hd⟩
    refine ⟨Fp F H, S.map (lkS st), [], ⟨Fp_sub o.fH, o.kp, ⟨rfl, List.nodup_nil, fun n x a e _ => by cases e⟩, by rw [List.length_map]; exact o.len, slot, fun i j ds es p h1 _ _ _ => ?_⟩, ?_⟩
    · rw [List.getElem?_map] at h1
      cases hs : S[i]? with
      | none => rw [hs] at h1; cases h1
      | some t =>
        rw [hs] at h1
        cases t with
        | no => cases h1
        | own w => exact absurd hs (none_own i w)
        | d x =>
          exact absurd (Option.some.inj h1) lk_own
    · generalize f (S.map (lkS st)) [] = res at q ⊢
      split at q
      · rename_i ys S1 st1
        split at q
        · rename_i hc
          obtain ⟨hf, hS⟩ := hc
          subst hS
          intro p2 u2 H2 F2 g2 o2 hu hF hB ro hm2 no
          have s1 : Same (Fp F H).f F2.f := g2.1.1
          have sF : Same F.f F2.f := (Fp_same o.so).trans s1
          have pm : p2 ∉ F.m := fun z => by
            obtain ⟨_, ⟨u, hu2⟩, _⟩ := o.so.mem z
            have := s1 p2 u (by rw [Fp_in z]; exact hu2)
            rw [show F2.f p2 = none from hF] at this; cases this
          refine q p2 u2 H2 F .refl ⟨sF.trans o2.fH, o2.kp, ⟨o.so.ml, o.so.mn, fun n x a e1 e2 => ?_⟩, o.len, fun j s hj => ?_, o.ap⟩ hu (sF.free hF) hB ?_ pm (fun j es e1 => absurd e1 (none_own j es))
          · obtain ⟨h1, h2, h3⟩ := o.so.ob n x a e1 e2
            cases x with
            | i c fs =>
              have := List.all_eq_true.mp ho _ (List.mem_of_getElem? e1)
              cases this
            | t es =>
              have := List.all_eq_true.mp ho _ (List.mem_of_getElem? e1)
              cases this
            | o w =>
              obtain ⟨u, k1, k2⟩ := h3
              exact ⟨h1, h2, u, o2.fH _ _ (s1 a u (by rw [Fp_in (List.mem_of_getElem? e2)]; exact k1)), k2⟩
          · have w0 := o.sl j s hj
            cases s with
            | no => trivial
            | d x => exact w0
            | own w => exact absurd hj (none_own j w)
          · cases ro with
            | l t => exact .l (flat_anys t hf)
        · exact q.elim
      · exact q.elim
  · exact q.elim
end
end DL

namespace DL
open PySem PySem.Spec PyProof.Rows L2
/-! ### a comprehension over a list, kept or the store's, as it stands at each turn -/
def getL (st : Store) : Opd → Option (List D)
  | .h n => match st[n]? with
    | some (.o (.l ds)) => some ds
    | _ => none
  | .v (.lst ds) => some ds
  | _ => none
theorem getL_rel {G : Gx} {B : Hp} {F F2 : Fz} {σ σ2 : L2.St} {H2 : Hp} {S2 : Sls} {st2 : Store} {v : V} {a : Opd} {ds : List D} (r : RO G σ F v a) (e : SmF F F2) (o : Ok G B F2 σ2 H2 S2 st2) (h : getL st2 a = some ds) :
    ∃ p xs, v = .ref p ∧ SqL G.K H2 p xs ∧ RpAll G F2 xs ds := by
  cases a with
  | v d =>
    cases d with
    | lst es =>
      cases h
      have r : Rp G F v (.lst ds) := r
      have r2 := r.mono e
      cases r2 with
      | lst h t => exact ⟨_, _, rfl, .inl (.inl (o.fH _ _ h)), t⟩
    | _ => cases h
  | h n =>
    obtain ⟨p, hp, rfl⟩ := r
    simp only [getL] at h
    split at h
    · rename_i es hst
      cases h
      obtain ⟨_, _, u, h3, h4⟩ := o.so.ob n _ p hst (pre_get e.2 hp)
      cases h4 with
      | l h4 => exact ⟨_, _, rfl, .inl (.inl h3), h4⟩
    · cases h
  | _ => cases h
def lcHL (g : Tg) (own : List Nat) (t : Ev Bool) (f : Ev D) (a : Opd) : Nat → Nat → Ev (List D)
  | 0, i, S, st => match getL st a with
    | some ds => if ds.length ≤ i then .ok [] S st else .stuck
    | none => .stuck
  | k + 1, i, S, st => match getL st a with
    | some ds => match ds[i]? with
      | some d => match g d S with
        | some S1 => (t S1 st).calm.bind fun b S2 st2 => if b = true then
            (f S2 st2).calm.bind fun y S3 st3 => (lcHL g own t f a k (i + 1) (wipeS S3 own) st3).bind fun ys S4 st4 => .ok (y :: ys) S4 st4
          else lcHL g own t f a k (i + 1) (wipeS S2 own) st2
        | none => .stuck
      | none => .ok [] S st
    | none => .stuck
def lcH (fo : Ev Opd) (g : Tg) (own : List Nat) (t : Ev Bool) (f : Ev D) : Ev Ow := fun S st => (fo S st).bind fun a S st => match getL st a with
  | some ds => (lcHL g own t f a ds.length 0 (wipeS S own) st).bind fun ys S' st => if ys.length ≤ 16777216 then .ok (.l ys) (restS S own S') st else .stuck
  | none => .stuck
theorem lcHL_noexc {g : Tg} {own : List Nat} {t : Ev Bool} {f : Ev D} {a : Opd} : ∀ {k i : Nat} {S : Sls} {st : Store} {x : Exc} {S' : Sls} {st' : Store}, lcHL g own t f a k i S st = .exc x S' st' → False
  | 0, i, S, st, x, S', st', h => by
    unfold lcHL at h
    split at h
    · split at h <;> cases h
    · cases h
  | k + 1, i, S, st, x, S', st', h => by
    unfold lcHL at h
    split at h
    · split at h
      · split at h
        · rename_i S1 _
          cases ht : (t S1 st).calm with
          | exc _ _ _ => exact calm_exc ht
          | stuck => rw [ht] at h; cases h
          | ok b S2 st2 =>
            rw [ht, Res.bind_ok] at h
            split at h
            · cases hf : (f S2 st2).calm with
              | exc _ _ _ => exact calm_exc hf
              | stuck => rw [hf] at h; cases h
              | ok y S3 st3 =>
                rw [hf, Res.bind_ok] at h
                cases hl : lcHL g own t f a k (i + 1) (wipeS S3 own) st3 with
                | ok ys S4 st4 => rw [hl] at h; cases h
                | stuck => rw [hl] at h; cases h
                | exc x2 S4 st4 => exact lcHL_noexc hl
            · exact lcHL_noexc h
        · cases h
      · cases h
    · cases h
theorem wipe_twice (own : List Nat) (σ : L2.St) : wipe (wipe σ own) own = wipe σ own := by
  refine List.ext_getElem? fun j => ?_
  by_cases hj : j ∈ own
  · have e1 : ∀ τ : L2.St, (wipe τ own)[j]? = (τ[j]?).map fun _ => none := fun τ => by
      cases q1 : (wipe τ own)[j]? with
      | none =>
        have : τ[j]? = none := by
          rw [List.getElem?_eq_none_iff] at q1 ⊢
          rwa [wipe_length] at q1
        rw [this]; rfl
      | some y =>
        have hl : j < τ.length := by
          have := (List.getElem?_eq_some_iff.mp q1).1
          rwa [wipe_length] at this
        rw [List.getElem?_eq_getElem hl]
        cases y with
        | none => rfl
        | some y => exact absurd hj (wipe_some q1).2
    rw [e1, e1]
    cases σ[j]? <;> rfl
  · rw [wipe_out hj]
theorem lcH_lift {X : Cx} {B : Hp} {W : WX} {fo : Ev Opd} {g : Tg} {own : List Nat} {t : Ev Bool} {f : Ev D} {gV : TG} {tt : TT} {te tl : TE}
    (hfo : ∀ σ H Q, lift (Cx.g X) B W (RO (Cx.g X)) fo σ H Q → tl σ H Q)
    (ht : ∀ B σ H Q, lift (Cx.g X) B W0 RB t σ H Q → tt σ H Q) (he : ∀ B σ H Q, lift (Cx.g X) B W0 (RD (Cx.g X)) f σ H Q → te σ H Q)
    (hgB : ∀ B' v σ H Q, liftG (Cx.g X) B' g v σ H Q → ∀ Q', (∀ σ' H', Q σ' H' → wipe σ' own = wipe σ own → Q' σ' H') → gV v σ H Q')
    {σ : L2.St} {H : Hp} {Q : VK} (q : liftF (Cx.g X) B W (lcH fo g own t f) σ H Q) : tLc (iList X.K tl) gV tt te own σ H Q := by
  obtain ⟨F, S, st, o, q⟩ := q
  refine hfo _ _ _ ⟨F, S, st, o, (PostF.bind (R := RO (Cx.g X) σ) q).mono fun v H1 ⟨F1, a, S1, st1, g1, o1, r1, p1⟩ => ?_⟩
  split at p1
  · rename_i ds0 hds0
    obtain ⟨p, xs0, rfl, sq0, _⟩ := getL_rel r1 (SmF.refl _) o1 hds0
    refine ⟨p, rfl, ⟨xs0, sq0⟩, fun Da hD => ?_⟩
    let Tot : List D → Res (List D) → Prop := fun acc r => PostF (Cx.g X) B W σ F1 Q (r.bind fun ys S st => if (acc ++ ys).length ≤ 16777216 then .ok (.l (acc ++ ys)) (restS S1 own S) st else .stuck)
    let Wv : Nat → Nat → Hp → Prop := fun i m H' => ∃ acc xs F' S' st', Gr B F1 F' ∧ Ok (Cx.g X) B F' (wipe σ own) H' S' st' ∧ (∀ i ∈ own, ∀ s, S'[i]? = some s → s = .no) ∧
      H' Da = some (.lst xs) ∧ RpAll (Cx.g X) F' xs acc ∧ F' Da = none ∧ B Da = none ∧ Da ∉ F'.m ∧ (∀ (j : Nat) (es : Ow), S'[j]? = some (.own es) → (wipe σ own)[j]? ≠ some (some (.ref Da))) ∧ Tot acc (lcHL g own t f a m i S' st')
    have hF1 : F1 Da = none := o1.fH.free hD
    have hBD : B Da = none := o1.kp.free hD
    refine ⟨Wv, ⟨ds0.length, [], [], F1, wipeS S1 own, st1, .refl, (o1.wipe own).junk (same_new hD), fun i hi s e => wipeS_no hi s e, upd_same, .nil, hF1, hBD, o1.so.new hD, ?_, by simpa [Tot] using p1⟩, ?_⟩
    · intro j es e1 e2
      obtain ⟨p', xs', e3, h1, _⟩ := (o1.wipe own).sl j _ e1
      rw [e2] at e3; cases e3
      rw [hD] at h1; cases h1
    rintro i m H2 ⟨acc, xs, F2, S2, st2, g2, o2, n2, d2, ra, f2, b2, hm2, no2, p2⟩
    -- the end
    have fin : ∀ {ds : List D}, getL st2 a = some ds → ds.length ≤ i → Tot acc (.ok [] S2 st2) → (∃ ys, SqL X.K H2 p ys ∧ ys.length ≤ i) ∧ Q (.ref Da) H2 := fun {ds} hds hle p2 => by
      obtain ⟨p', ys, ep, sq, rr⟩ := getL_rel r1 g2.1 o2 hds
      cases ep
      refine ⟨⟨ys, sq, by rw [rr.length]; exact hle⟩, ?_⟩
      simp only [Tot, Res.bind_ok, List.append_nil] at p2
      split at p2
      · have oo := o2.unwipe n2
        refine p2 Da (.lst xs) H2 F2 g2 (o1.rest g2.1 own S2 oo) d2 f2 hBD (.l ra) hm2 fun j es e1 e2 => ?_
        replace e1 := restS_own own S2 j es e1
        have hj : j ∉ own := fun z => by have := n2 j z _ e1; cases this
        exact no2 j es e1 (by rw [wipe_out hj]; exact e2)
      · exact p2.elim
    cases m with
    | zero =>
      unfold lcHL at p2
      split at p2
      · rename_i ds hds
        by_cases hle : ds.length ≤ i
        · rw [if_pos hle] at p2
          exact .inl (fin hds hle p2)
        · rw [if_neg hle] at p2; exact (show False from p2).elim
      · exact (show False from p2).elim
    | succ m =>
      unfold lcHL at p2
      split at p2
      · rename_i ds hds
        obtain ⟨p', ys, ep, sq, rr⟩ := getL_rel r1 g2.1 o2 hds
        cases ep
        split at p2
        · rename_i d hd
          obtain ⟨x0, hx0, rx⟩ := rr.get hd
          refine .inr ⟨⟨ys, x0, sq, hx0⟩, fun H' => Wv (i + 1) m H', fun H' h => ⟨m, by omega, h⟩, fun x H3 hy => ?_⟩
          obtain ⟨rfl, hy⟩ := hy
          have ex := hy ys sq
          rw [hx0] at ex
          cases ex
          split at p2
          · rename_i S3 hS3
            have o3 := o2.pin d2 f2 hm2 no2
            refine hgB (upd B Da (.lst xs)) x0 _ _ (fun σ4 H4 => ∃ F4, Gr (upd B Da (.lst xs)) F2 F4 ∧ Ok (Cx.g X) (upd B Da (.lst xs)) F4 σ4 H4 S3 st2) ⟨F2, S2, st2, d, S3, o3, rx, hS3, fun σ' H' F' gg oo => ⟨F', gg, oo⟩⟩ _ fun σ4 H4 ⟨F4, g4, o4⟩ hw => ?_
            have hw' : wipe σ4 own = wipe σ own := by rw [hw]; exact wipe_twice own σ
            refine ⟨hw', ?_⟩
            refine ht (upd B Da (.lst xs)) σ4 H4 _ ⟨F4, S3, st2, o4, ?_⟩
            revert p2
            generalize t S3 st2 = r
            intro p2
            cases r with
            | stuck => exact p2
            | exc y S5 st5 => exact (show False from p2).elim
            | ok bb S5 st5 =>
              simp only [Tot, Res.calm_ok, Res.bind_ok] at p2
              intro b H5 F5 g5 o5 e5
              cases e5
              obtain ⟨g4', f4⟩ := g4.unpin hBD f2
              obtain ⟨g5', f5⟩ := g5.unpin hBD f4
              have gAll : Gr B F2 F5 := g4'.trans g5'
              cases bb with
              | false =>
                refine (if_neg Bool.false_ne_true).mpr ?_
                simp only [Bool.false_eq_true, if_false] at p2
                have h5D : H5 Da = some (.lst xs) := o5.kp Da _ upd_same
                obtain ⟨o6, no6, hm6⟩ := Ok.unpin (u' := .lst xs) o5 hBD f5 (fun x z => by cases z)
                have e6 : upd H5 Da (.lst xs) = H5 := by
                  funext b; by_cases z : b = Da
                  · subst z; rw [upd_same, h5D]
                  · rw [upd_ne z]
                rw [e6] at o6
                have o7 := o6.wipe own
                rw [hw'] at o7
                refine ⟨acc, xs, F5, wipeS S5 own, st5, g2.trans gAll, o7, fun i hi s e => wipeS_no hi s e, h5D, ra.mono gAll.1, f5, hBD, hm6, fun j es e1 e2 => ?_, p2⟩
                obtain ⟨p', u', e3, h1, _, h3, _⟩ := (o5.wipe own).sl j _ e1
                rw [hw', e2] at e3; cases e3
                rw [upd_same] at h3; cases h3
              | true =>
                refine (if_pos rfl).mpr ?_
                simp only [if_true] at p2
                refine he (upd B Da (.lst xs)) σ4 H5 _ ⟨F5, S5, st5, o5, ?_⟩
                revert p2
                generalize f S5 st5 = r2
                intro p2
                cases r2 with
                | stuck => exact p2
                | exc y S6 st6 => exact (show False from p2).elim
                | ok yy S6 st6 =>
                  simp only [Res.calm_ok, Res.bind_ok] at p2
                  intro y H6 F6 g6 o6 ry
                  obtain ⟨g6', f6⟩ := g6.unpin hBD f5
                  have gA : Gr B F2 F6 := gAll.trans g6'
                  have h6D : H6 Da = some (.lst xs) := o6.kp Da _ upd_same
                  obtain ⟨o7, no7, hm7⟩ := Ok.unpin (u' := .lst (xs ++ [y])) o6 hBD f6 (fun x z => by cases z)
                  have o8 := o7.wipe own
                  rw [hw'] at o8
                  have p3 : Tot (acc ++ [yy]) (lcHL g own t f a m (i + 1) (wipeS S6 own) st6) := by
                    show PostF _ _ _ _ _ _ _
                    revert p2
                    generalize lcHL g own t f a m (i + 1) (wipeS S6 own) st6 = r3
                    intro p2
                    cases r3 with
                    | ok ys S7 st7 => simpa using p2
                    | exc _ _ _ => exact p2
                    | stuck => exact p2
                  have hlen : acc.length < 16777216 := by
                    have p4 := p3
                    simp only [Tot] at p4
                    revert p4
                    generalize h3 : lcHL g own t f a m (i + 1) (wipeS S6 own) st6 = r3
                    intro p4
                    cases r3 with
                    | ok ys S7 st7 =>
                      simp only [Res.bind_ok] at p4
                      split at p4
                      · rename_i hh
                        simp at hh; omega
                      · exact p4.elim
                    | exc x' S' st' => exact (lcHL_noexc h3).elim
                    | stuck => exact p4.elim
                  refine ⟨xs, h6D, by rw [ra.length, sizeLine_eq]; exact hlen, acc ++ [yy], xs ++ [y], F6, wipeS S6 own, st6, g2.trans gA, o8, fun i hi s e => wipeS_no hi s e, upd_same, (ra.mono gA.1).append (.one ry), f6, hBD, hm7, fun j es e1 e2 => ?_, p3⟩
                  obtain ⟨p', u', e3, h1, _, h3, _⟩ := (o6.wipe own).sl j _ e1
                  rw [hw', e2] at e3; cases e3
                  rw [upd_same] at h3; cases h3
          · exact (show False from p2).elim
        · rename_i hd
          exact .inl (fin hds (List.getElem?_eq_none_iff.mp hd) p2)
      · exact (show False from p2).elim
  · exact p1.elim
section
variable {X : Cx} {B : Hp} {W : WX} {pos : Pos}
theorem df_lcH {elt tg iter : Expr} {ifs : List Expr} {scope : Scope} (own : List (Str × Nat)) {fo : Ev Opd} {g : Tg} {gv : TG} {t : Ev Bool} {f : Ev D} (hc : X.calm = true) (nd : X.N.Nodup) (ok : BlkOk X.N X.env.scope scope own) (hi : DO X B W iter fo) (hgv : TgB (Cx.g X) (own.map (·.2)) g gv)
    (hg : ∀ (s : Shared) (H : Hp) (C : Addr) (cl : List (Str × Addr)) (fp : List Addr), PG (X.blk s H scope (compEnvC scope cl C X.env) fp) tg gv)
    (ht : ∀ (B : Hp) (s : Shared) (H : Hp) (cl : List (Str × Addr)) (C : Addr) (fp : List Addr), DTs (bX X s H scope cl C fp) B W0 ifs t) (he : ∀ (B : Hp) (s : Shared) (H : Hp) (cl : List (Str × Addr)) (C : Addr) (fp : List Addr), DE (bX X s H scope cl C fp) B W0 elt f)
    (hs : ∀ x, foldedSetIterable iter X.env x = pure x := by intro _; rfl) : DF X B W (.ListComp elt [⟨tg, iter, ifs, 0⟩] scope pos) (lcH fo g (own.map (·.2)) t f) :=
  pe_imp (pe_lc hc nd (pi_list hi) ok hg (lc_parts ht he).1 (lc_parts ht he).2 hs) fun σ H Q q => lcH_lift (fun σ H Q q => q) (fun B σ H Q q => ⟨B, q⟩) (fun B σ H Q q => ⟨B, q⟩) (fun B v σ H Q q => hgv B v σ H Q q) q
/-- a, b = x, x a list -/
def gUL (n : Nat) (gs : List D → Sls → Option Sls) : Tg := fun d S => match d with
  | .lst ds => if ds.length = n then gs ds S else none
  | _ => none
theorem dg_ul {es : List Expr} {n : Nat} {k : Nat} {gs : List D → Sls → Option Sls} (hc : X.calm = true) (h : DGs X B es gs) (hn : (assignEach es X.env).length = n := by rfl) (hst : (assignEach es X.env).findIdx? (·.1) = none := by rfl) : DG X B (.Tuple es k pos) (gUL n gs) :=
  pg_imp (pg_unl hc h hn hst) fun v σ H Q ⟨F, S, st, d, S', o, r, e, q⟩ => by
    unfold gUL at e
    split at e
    · split at e
      · rename_i hl
        cases r with
        | lst h1 h2 => exact ⟨_, _, rfl, .inl (.inl (o.fH _ _ h1)), by rw [h2.length]; exact hl, F, S, st, _, S', o, h2, e, q⟩
      · cases e
    · cases e
/-- x == e, x a list that may hold handles, all handles told -/
def o2O (op : D → D → Option D) (fa : Ev Opd) (fb : Ev D) : Ev D := fun S st => (fa S st).bind fun a S st => (fb S st).bind fun b S st =>
  match vw S st a with
  | some (.lst ds) => match dp st 40 (.lst ds), dp st 40 b with
    | some x, some y => match op x y with
      | some d => if scal d = true then .ok d S st else .stuck
      | none => .stuck
    | _, _ => .stuck
  | _ => .stuck
theorem vw_told {G : Gx} {B : Hp} {F : Fz} {H : Hp} {st : Store} (so : StOk G B F H st) {v : V} {ds : List D} {x : D} (h : Vw G F H v (.lst ds)) (e : dp st 40 (.lst ds) = some x) : Vw G (Fp F H) H v x := by
  rcases h with h | ⟨p, u, w, rfl, hp, ow, hd⟩ | ⟨p, c, fs, rfl, ho, hd⟩
  · exact .inl (dp_rp so 40 h e)
  · cases w with
    | l es =>
      cases hd
      cases ow with
      | l t =>
        simp only [dp] at e
        cases hm : mapO (dp st 39) ds with
        | none => rw [hm] at e; cases e
        | some ys =>
          rw [hm] at e; cases e
          exact .inr (.inl ⟨p, _, .l ys, rfl, hp, .l (mapO_rp (fun r q => dp_rp so 39 r q) t hm), rfl⟩)
    | k es => cases hd
  · cases hd
theorem op2O_lift {r : R2} {op : D → D → Option D} {fa : Ev Opd} {fb : Ev D} (h : Op2 (Cx.g X) r op) {σ : L2.St} {H : Hp} {Q : VK} (q : lift (Cx.g X) B W (RD (Cx.g X)) (o2O op fa fb) σ H Q) :
    tOp r (lift (Cx.g X) B W (RO (Cx.g X)) fa) (lift (Cx.g X) B W (RD (Cx.g X)) fb) σ H Q := by
  obtain ⟨F, S, st, o, q⟩ := q
  refine ⟨F, S, st, o, (Post.bind (R := RO (Cx.g X) σ) q).mono fun v H1 ⟨F1, d, S1, st1, g1, o1, r1, p1⟩ => ⟨F1, S1, st1, o1, (Post.bind (R := RD (Cx.g X) σ) p1).mono fun w H2 ⟨F2, d2, S2, st2, g2, o2, r2, p2⟩ => ?_⟩⟩
  split at p2
  · rename_i ds hv
    split at p2
    · rename_i x y hx hy
      split at p2
      · rename_i z hz
        split at p2
        · rename_i sc
          have r2' : Rp (Cx.g X) F2 w d2 := r2
          have ra := vw_told o2.so (o2.vw (r1.mono g2.1) hv) hx
          have rb := dp_rp o2.so 40 r2' hy
          exact h (Fp F2 H2) H2 v w x y z (Fp_sub o2.fH) ra (.inl rb) hz _ fun v' H3 f' k _ _ rz => p2 v' H3 F2 .refl (o2.more k) (scal_rp rz sc)
        · exact p2.elim
      · exact p2.elim
    · exact p2.elim
  · exact p2.elim
theorem de_cmpO {o : CmpOp} {r : R2} {op : D → D → Option D} {a b : Expr} {fa : Ev Opd} {fb : Ev D} (ho : OpR X (compareOp o) r) (h : Op2 (Cx.g X) r op) (ha : DO X B W a fa) (hb : DE X B W b fb) (hm : behindInMarks o b = false) : DE X B W (.Compare a [o] [b] pos) (o2O op fa fb) :=
  pe_imp (pe_cmpR ho ha hb hm) fun _ _ _ q => op2O_lift h q
theorem dt_cmpO {o : CmpOp} {r : R2} {op : D → D → Option D} {a b : Expr} {fa : Ev Opd} {fb : Ev D} (ho : OpR X (compareOp o) r) (h : Op2 (Cx.g X) r op) (ha : DO X B W a fa) (hb : DE X B W b fb) (hm : behindInMarks o b = false) : DT X B W (.Compare a [o] [b] pos) (tV (o2O op fa fb)) :=
  pt_imp (pt_cmpR ho ha hb hm) fun _ _ _ q => test_lift (fun _ _ _ q => op2O_lift h q) q
theorem postF_aE {G : Gx} {B : Hp} {W : WX} {σ : L2.St} {F : Fz} {Q : VK} {r : Res Ow} (q : Post G B W (RD G σ) σ F Q (r.bind fun w S st => .ok (.loc st.length) S (st ++ [.o w]))) : PostF G B W σ F Q r := by
  cases r with
  | ok w S1 st1 =>
    intro p u H' F' g o1 hu hF hB r hm no
    obtain ⟨g', o'⟩ := o1.alloc hu hF hB hm r no
    refine q (.ref p) H' _ (g.trans g') o' (.loc ?_)
    show (F'.m ++ [p])[st1.length]? = some p
    rw [← o1.so.ml, List.getElem?_append_right (Nat.le_refl _), Nat.sub_self]; rfl
  | exc x S1 st1 => exact q
  | stuck => exact q
theorem ds_vlcH {i : Nat} {y : Str} {py : Pos} {elt tg iter : Expr} {ifs : List Expr} {scope : Scope} {lpos : Pos} (own : List (Str × Nat)) {fo : Ev Opd} {g : Tg} {gv : TG} {t : Ev Bool} {f : Ev D} (hc : X.calm = true) (nd : X.N.Nodup) (ok : BlkOk X.N X.env.scope scope own) (hi : DO X B W iter fo) (hgv : TgB (Cx.g X) (own.map (·.2)) g gv)
    (hg : ∀ (s : Shared) (H : Hp) (C : Addr) (cl : List (Str × Addr)) (fp : List Addr), PG (X.blk s H scope (compEnvC scope cl C X.env) fp) tg gv)
    (ht : ∀ (B : Hp) (s : Shared) (H : Hp) (cl : List (Str × Addr)) (C : Addr) (fp : List Addr), DTs (bX X s H scope cl C fp) B W0 ifs t) (he : ∀ (B : Hp) (s : Shared) (H : Hp) (cl : List (Str × Addr)) (C : Addr) (fp : List Addr), DE (bX X s H scope cl C fp) B W0 elt f)
    (hyl : X.env.scope.names.lookup y = some .local := by rfl) (hsw : swapsWith (.ListComp elt [⟨tg, iter, ifs, 0⟩] scope lpos) (some (.Name y py)) pos.line X.env = pure true := by exact sw_true rfl rfl rfl (by decide +kernel)) (hy : X.N[i]? = some y := by rfl)
    (hs : ∀ x, foldedSetIterable iter X.env x = pure x := by intro _; rfl) : DS X B W (.Assign [.Name y py] (.ListComp elt [⟨tg, iter, ifs, 0⟩] scope lpos) pos) (sV i (fE (lcH fo g (own.map (·.2)) t f))) :=
  ps_imp (ps_setLc hc nd hy hyl hsw (pi_list hi) ok hg (lc_parts ht he).1 (lc_parts ht he).2 hs) fun D σ H q => lcH_lift (fun σ H Q q => q) (fun B σ H Q q => ⟨B, q⟩) (fun B σ H Q q => ⟨B, q⟩) (fun B v σ H Q q => hgv B v σ H Q q) (by
    obtain ⟨F, S, st, o, q⟩ := q
    refine ⟨F, S, st, o, postF_fE ?_⟩
    unfold sV fE at q
    generalize lcH fo g (own.map (·.2)) t f S st = r at q ⊢
    cases r with
    | ok w S1 st1 => exact fun v H' F' g o r => q _ H' F' g (o.set i r)
    | exc x S1 st1 => exact fun c d H' F' g o r => q c d σ H' F' g o r
    | stuck => exact q)
theorem ds_alcH {i : Nat} {y : Str} {py : Pos} {elt tg iter : Expr} {ifs : List Expr} {scope : Scope} {lpos : Pos} (own : List (Str × Nat)) {fo : Ev Opd} {g : Tg} {gv : TG} {t : Ev Bool} {f : Ev D} (hc : X.calm = true) (nd : X.N.Nodup) (ok : BlkOk X.N X.env.scope scope own) (hi : DO X B W iter fo) (hgv : TgB (Cx.g X) (own.map (·.2)) g gv)
    (hg : ∀ (s : Shared) (H : Hp) (C : Addr) (cl : List (Str × Addr)) (fp : List Addr), PG (X.blk s H scope (compEnvC scope cl C X.env) fp) tg gv)
    (ht : ∀ (B : Hp) (s : Shared) (H : Hp) (cl : List (Str × Addr)) (C : Addr) (fp : List Addr), DTs (bX X s H scope cl C fp) B W0 ifs t) (he : ∀ (B : Hp) (s : Shared) (H : Hp) (cl : List (Str × Addr)) (C : Addr) (fp : List Addr), DE (bX X s H scope cl C fp) B W0 elt f)
    (hyl : X.env.scope.names.lookup y = some .local := by rfl) (hsw : swapsWith (.ListComp elt [⟨tg, iter, ifs, 0⟩] scope lpos) (some (.Name y py)) pos.line X.env = pure true := by exact sw_true rfl rfl rfl (by decide +kernel)) (hy : X.N[i]? = some y := by rfl)
    (hs : ∀ x, foldedSetIterable iter X.env x = pure x := by intro _; rfl) : DS X B W (.Assign [.Name y py] (.ListComp elt [⟨tg, iter, ifs, 0⟩] scope lpos) pos) (sV i (aE (lcH fo g (own.map (·.2)) t f))) :=
  ps_imp (ps_setLc hc nd hy hyl hsw (pi_list hi) ok hg (lc_parts ht he).1 (lc_parts ht he).2 hs) fun D σ H q => lcH_lift (fun σ H Q q => q) (fun B σ H Q q => ⟨B, q⟩) (fun B σ H Q q => ⟨B, q⟩) (fun B v σ H Q q => hgv B v σ H Q q) (by
    obtain ⟨F, S, st, o, q⟩ := q
    refine ⟨F, S, st, o, postF_aE ?_⟩
    unfold sV aE at q
    generalize lcH fo g (own.map (·.2)) t f S st = r at q ⊢
    cases r with
    | ok w S1 st1 => exact fun v H' F' g o r => q _ H' F' g (o.set i r)
    | exc x S1 st1 => exact fun c d H' F' g o r => q c d σ H' F' g o r
    | stuck => exact q)
theorem ds_alc {i : Nat} {y : Str} {py : Pos} {elt tg iter : Expr} {ifs : List Expr} {scope : Scope} {lpos : Pos} (own : List (Str × Nat)) {fi : Ev (List D)} {g : Tg} {gv : TG} {t : Ev Bool} {f : Ev D} (hc : X.calm = true) (nd : X.N.Nodup) (ok : BlkOk X.N X.env.scope scope own) (hi : DI X B W tg iter fi) (hgv : TgB (Cx.g X) (own.map (·.2)) g gv)
    (hg : ∀ (s : Shared) (H : Hp) (C : Addr) (cl : List (Str × Addr)) (fp : List Addr), PG (X.blk s H scope (compEnvC scope cl C X.env) fp) tg gv)
    (ht : ∀ (B : Hp) (s : Shared) (H : Hp) (cl : List (Str × Addr)) (C : Addr) (fp : List Addr), DTs (bX X s H scope cl C fp) B W0 ifs t) (he : ∀ (B : Hp) (s : Shared) (H : Hp) (cl : List (Str × Addr)) (C : Addr) (fp : List Addr), DE (bX X s H scope cl C fp) B W0 elt f)
    (hyl : X.env.scope.names.lookup y = some .local := by rfl) (hsw : swapsWith (.ListComp elt [⟨tg, iter, ifs, 0⟩] scope lpos) (some (.Name y py)) pos.line X.env = pure true := by exact sw_true rfl rfl rfl (by decide +kernel)) (hy : X.N[i]? = some y := by rfl)
    (hs : ∀ x, foldedSetIterable iter X.env x = pure x := by intro _; rfl) : DS X B W (.Assign [.Name y py] (.ListComp elt [⟨tg, iter, ifs, 0⟩] scope lpos) pos) (sV i (aE (lcF fi g (own.map (·.2)) t f))) :=
  ps_imp (ps_setLc hc nd hy hyl hsw hi ok hg (lc_parts ht he).1 (lc_parts ht he).2 hs) fun D σ H q => lc_lift (fun B σ H Q q => ⟨B, q⟩) (fun B σ H Q q => ⟨B, q⟩) (fun B v σ H Q q => hgv B v σ H Q q) (by
    obtain ⟨F, S, st, o, q⟩ := q
    refine ⟨F, S, st, o, postF_aE ?_⟩
    unfold sV aE at q
    generalize lcF fi g (own.map (·.2)) t f S st = r at q ⊢
    cases r with
    | ok w S1 st1 => exact fun v H' F' g o r => q _ H' F' g (o.set i r)
    | exc x S1 st1 => exact fun c d H' F' g o r => q c d σ H' F' g o r
    | stuck => exact q)
end
end DL
namespace DL
section
variable {S : Sls} {st : Store}
theorem lcH_a (fo : Ev Opd) (g : Tg) (own : List Nat) (t : Ev Bool) (f : Ev D) : lcH fo g own t f S st = (fo S st).bind fun a S st => match getL st a with
  | some ds => (lcHL g own t f a ds.length 0 (wipeS S own) st).bind fun ys S' st => if ys.length ≤ 16777216 then .ok (.l ys) (restS S own S') st else .stuck
  | none => .stuck := rfl
theorem o2O_a (op : D → D → Option D) (fa : Ev Opd) (fb : Ev D) : o2O op fa fb S st = (fa S st).bind fun a S st => (fb S st).bind fun b S st => match vw S st a with
  | some (.lst ds) => match dp st 40 (.lst ds), dp st 40 b with
    | some x, some y => match op x y with
      | some d => if scal d = true then .ok d S st else .stuck
      | none => .stuck
    | _, _ => .stuck
  | _ => .stuck := rfl
@[simp] theorem gUL_a (n : Nat) (gs : List D → Sls → Option Sls) (ds : List D) : gUL n gs (.lst ds) S = if ds.length = n then gs ds S else none := rfl
@[simp] theorem getL_l (ds : List D) : getL st (.v (.lst ds)) = some ds := rfl
theorem getL_h {n : Nat} {ds : List D} (h : st[n]? = some (.o (.l ds))) : getL st (.h n) = some ds := by simp only [getL, h]
end
/-- a comprehension that changes nothing -/
theorem lcHL_list {α : Type} {g : Tg} {own : List Nat} {f : Ev D} {S : Sls} {st : Store} {a : Opd} (fd fy : α → D) : ∀ (as pre : List α), getL st a = some ((pre ++ as).map fd) → (∀ x ∈ as, ∃ S1 S3, g (fd x) S = some S1 ∧ f S1 st = .ok (fy x) S3 st ∧ wipeS S3 own = S) →
    lcHL g own tY f a as.length pre.length S st = .ok (as.map fy) S st
  | [], pre, h, _ => by
    simp only [List.length_nil, lcHL, h]
    rw [if_pos (by simp)]; rfl
  | x :: r, pre, h, hs => by
    obtain ⟨S1, S3, e1, e2, e3⟩ := hs x (List.mem_cons_self ..)
    have ih := lcHL_list (g := g) (own := own) (f := f) (S := S) fd fy r (pre ++ [x]) (by rw [h]; simp) fun y hy => hs y (List.mem_cons_of_mem _ hy)
    rw [List.length_append, List.length_singleton] at ih
    have hx : ((pre ++ x :: r).map fd)[pre.length]? = some (fd x) := by simp
    simp only [List.length_cons, lcHL, h, hx, e1, tY_a, Res.calm_ok, Res.bind_ok, if_true, e2, e3, ih, List.map_cons]
end DL

namespace DL
open PySem PySem.Spec PyProof.Rows L2
/-! ### a comprehension over a list of one's own, as it stands at each turn -/
def getO (S : Sls) (v : Nat) : Option (List D) := match S[v]? with
  | some (.own (.l ds)) => some ds
  | _ => none
theorem getO_rel {G : Gx} {B : Hp} {F : Fz} {σ : L2.St} {H : Hp} {S : Sls} {st : Store} {v : Nat} {ds : List D} (o : Ok G B F σ H S st) (h : getO S v = some ds) :
    ∃ p xs, σ[v]? = some (some (.ref p)) ∧ SqL G.K H p xs ∧ RpAll G F xs ds := by
  unfold getO at h
  split at h
  · rename_i es he
    cases h
    obtain ⟨p, u, e, h1, _, _, r, _⟩ := o.sl v _ he
    cases r with
    | l t => exact ⟨p, _, e, .inl (.inl h1), t⟩
  · cases h
def lcOL (g : Tg) (own : List Nat) (t : Ev Bool) (f : Ev D) (v : Nat) : Nat → Nat → Ev (List D)
  | 0, i, S, st => match getO S v with
    | some ds => if ds.length ≤ i then .ok [] S st else .stuck
    | none => .stuck
  | k + 1, i, S, st => match getO S v with
    | some ds => match ds[i]? with
      | some d => match g d S with
        | some S1 => (t S1 st).calm.bind fun b S2 st2 => if b = true then
            (f S2 st2).calm.bind fun y S3 st3 => (lcOL g own t f v k (i + 1) (wipeS S3 own) st3).bind fun ys S4 st4 => .ok (y :: ys) S4 st4
          else lcOL g own t f v k (i + 1) (wipeS S2 own) st2
        | none => .stuck
      | none => .ok [] S st
    | none => .stuck
def lcO (v : Nat) (g : Tg) (own : List Nat) (t : Ev Bool) (f : Ev D) : Ev Ow := fun S st => match getO S v with
  | some ds => if own.contains v = true then .stuck else (lcOL g own t f v ds.length 0 (wipeS S own) st).bind fun ys S' st => if ys.length ≤ 16777216 then .ok (.l ys) (restS S own S') st else .stuck
  | none => .stuck
theorem lcOL_noexc {g : Tg} {own : List Nat} {t : Ev Bool} {f : Ev D} {v : Nat} : ∀ {k i : Nat} {S : Sls} {st : Store} {x : Exc} {S' : Sls} {st' : Store}, lcOL g own t f v k i S st = .exc x S' st' → False
  | 0, i, S, st, x, S', st', h => by
    unfold lcOL at h
    split at h
    · split at h <;> cases h
    · cases h
  | k + 1, i, S, st, x, S', st', h => by
    unfold lcOL at h
    split at h
    · split at h
      · split at h
        · rename_i S1 _
          cases ht : (t S1 st).calm with
          | exc _ _ _ => exact calm_exc ht
          | stuck => rw [ht] at h; cases h
          | ok b S2 st2 =>
            rw [ht, Res.bind_ok] at h
            split at h
            · cases hf : (f S2 st2).calm with
              | exc _ _ _ => exact calm_exc hf
              | stuck => rw [hf] at h; cases h
              | ok y S3 st3 =>
                rw [hf, Res.bind_ok] at h
                cases hl : lcOL g own t f v k (i + 1) (wipeS S3 own) st3 with
                | ok ys S4 st4 => rw [hl] at h; cases h
                | stuck => rw [hl] at h; cases h
                | exc x2 S4 st4 => exact lcOL_noexc hl
            · exact lcOL_noexc h
        · cases h
      · cases h
    · cases h
theorem lcO_lift {X : Cx} {B : Hp} {W : WX} {vi : Nat} {g : Tg} {own : List Nat} {t : Ev Bool} {f : Ev D} {gV : TG} {tt : TT} {te : TE}
    (ht : ∀ B σ H Q, lift (Cx.g X) B W0 RB t σ H Q → tt σ H Q) (he : ∀ B σ H Q, lift (Cx.g X) B W0 (RD (Cx.g X)) f σ H Q → te σ H Q)
    (hgB : ∀ B' v σ H Q, liftG (Cx.g X) B' g v σ H Q → ∀ Q', (∀ σ' H', Q σ' H' → wipe σ' own = wipe σ own → Q' σ' H') → gV v σ H Q')
    {σ : L2.St} {H : Hp} {Q : VK} (q : liftF (Cx.g X) B W (lcO vi g own t f) σ H Q) : tLc (iList X.K (tVar vi)) gV tt te own σ H Q := by
  obtain ⟨F1, S1, st1, o1, q⟩ := q
  unfold lcO at q
  split at q
  · rename_i ds0 hds0
    split at q
    · exact q.elim
    rename_i hvo
    have hvo : vi ∉ own := fun z => hvo (by simpa using z)
    obtain ⟨p, xs0, ep0, sq0, _⟩ := getO_rel o1 hds0
    refine ⟨.ref p, ep0, p, rfl, ⟨xs0, sq0⟩, fun Da hD => ?_⟩
    let Tot : List D → Res (List D) → Prop := fun acc r => PostF (Cx.g X) B W σ F1 Q (r.bind fun ys S st => if (acc ++ ys).length ≤ 16777216 then .ok (.l (acc ++ ys)) (restS S1 own S) st else .stuck)
    let Wv : Nat → Nat → Hp → Prop := fun i m H' => ∃ acc xs F' S' st', Gr B F1 F' ∧ Ok (Cx.g X) B F' (wipe σ own) H' S' st' ∧ (∀ i ∈ own, ∀ s, S'[i]? = some s → s = .no) ∧
      H' Da = some (.lst xs) ∧ RpAll (Cx.g X) F' xs acc ∧ F' Da = none ∧ B Da = none ∧ Da ∉ F'.m ∧ (∀ (j : Nat) (es : Ow), S'[j]? = some (.own es) → (wipe σ own)[j]? ≠ some (some (.ref Da))) ∧ Tot acc (lcOL g own t f vi m i S' st')
    have hF1 : F1 Da = none := o1.fH.free hD
    have hBD : B Da = none := o1.kp.free hD
    refine ⟨Wv, ⟨ds0.length, [], [], F1, wipeS S1 own, st1, .refl, (o1.wipe own).junk (same_new hD), fun i hi s e => wipeS_no hi s e, upd_same, .nil, hF1, hBD, o1.so.new hD, ?_, by simpa [Tot] using q⟩, ?_⟩
    · intro j es e1 e2
      obtain ⟨p', xs', e3, h1, _⟩ := (o1.wipe own).sl j _ e1
      rw [e2] at e3; cases e3
      rw [hD] at h1; cases h1
    rintro i m H2 ⟨acc, xs, F2, S2, st2, g2, o2, n2, d2, ra, f2, b2, hm2, no2, p2⟩
    -- the end
    have fin : ∀ {ds : List D}, getO S2 vi = some ds → ds.length ≤ i → Tot acc (.ok [] S2 st2) → (∃ ys, SqL X.K H2 p ys ∧ ys.length ≤ i) ∧ Q (.ref Da) H2 := fun {ds} hds hle p2 => by
      obtain ⟨p', ys, ep, sq, rr⟩ := getO_rel o2 hds
      rw [wipe_out hvo, ep0] at ep
      cases ep
      refine ⟨⟨ys, sq, by rw [rr.length]; exact hle⟩, ?_⟩
      simp only [Tot, Res.bind_ok, List.append_nil] at p2
      split at p2
      · have oo := o2.unwipe n2
        refine p2 Da (.lst xs) H2 F2 g2 (o1.rest g2.1 own S2 oo) d2 f2 hBD (.l ra) hm2 fun j es e1 e2 => ?_
        replace e1 := restS_own own S2 j es e1
        have hj : j ∉ own := fun z => by have := n2 j z _ e1; cases this
        exact no2 j es e1 (by rw [wipe_out hj]; exact e2)
      · exact p2.elim
    cases m with
    | zero =>
      unfold lcOL at p2
      split at p2
      · rename_i ds hds
        by_cases hle : ds.length ≤ i
        · rw [if_pos hle] at p2
          exact .inl (fin hds hle p2)
        · rw [if_neg hle] at p2; exact (show False from p2).elim
      · exact (show False from p2).elim
    | succ m =>
      unfold lcOL at p2
      split at p2
      · rename_i ds hds
        obtain ⟨p', ys, ep, sq, rr⟩ := getO_rel o2 hds
        rw [wipe_out hvo, ep0] at ep
        cases ep
        split at p2
        · rename_i d hd
          obtain ⟨x0, hx0, rx⟩ := rr.get hd
          refine .inr ⟨⟨ys, x0, sq, hx0⟩, fun H' => Wv (i + 1) m H', fun H' h => ⟨m, by omega, h⟩, fun x H3 hy => ?_⟩
          obtain ⟨rfl, hy⟩ := hy
          have ex := hy ys sq
          rw [hx0] at ex
          cases ex
          split at p2
          · rename_i S3 hS3
            have o3 := o2.pin d2 f2 hm2 no2
            refine hgB (upd B Da (.lst xs)) x0 _ _ (fun σ4 H4 => ∃ F4, Gr (upd B Da (.lst xs)) F2 F4 ∧ Ok (Cx.g X) (upd B Da (.lst xs)) F4 σ4 H4 S3 st2) ⟨F2, S2, st2, d, S3, o3, rx, hS3, fun σ' H' F' gg oo => ⟨F', gg, oo⟩⟩ _ fun σ4 H4 ⟨F4, g4, o4⟩ hw => ?_
            have hw' : wipe σ4 own = wipe σ own := by rw [hw]; exact wipe_twice own σ
            refine ⟨hw', ?_⟩
            refine ht (upd B Da (.lst xs)) σ4 H4 _ ⟨F4, S3, st2, o4, ?_⟩
            revert p2
            generalize t S3 st2 = r
            intro p2
            cases r with
            | stuck => exact p2
            | exc y S5 st5 => exact (show False from p2).elim
            | ok bb S5 st5 =>
              simp only [Tot, Res.calm_ok, Res.bind_ok] at p2
              intro b H5 F5 g5 o5 e5
              cases e5
              obtain ⟨g4', f4⟩ := g4.unpin hBD f2
              obtain ⟨g5', f5⟩ := g5.unpin hBD f4
              have gAll : Gr B F2 F5 := g4'.trans g5'
              cases bb with
              | false =>
                refine (if_neg Bool.false_ne_true).mpr ?_
                simp only [Bool.false_eq_true, if_false] at p2
                have h5D : H5 Da = some (.lst xs) := o5.kp Da _ upd_same
                obtain ⟨o6, no6, hm6⟩ := Ok.unpin (u' := .lst xs) o5 hBD f5 (fun x z => by cases z)
                have e6 : upd H5 Da (.lst xs) = H5 := by
                  funext b; by_cases z : b = Da
                  · subst z; rw [upd_same, h5D]
                  · rw [upd_ne z]
                rw [e6] at o6
                have o7 := o6.wipe own
                rw [hw'] at o7
                refine ⟨acc, xs, F5, wipeS S5 own, st5, g2.trans gAll, o7, fun i hi s e => wipeS_no hi s e, h5D, ra.mono gAll.1, f5, hBD, hm6, fun j es e1 e2 => ?_, p2⟩
                obtain ⟨p', u', e3, h1, _, h3, _⟩ := (o5.wipe own).sl j _ e1
                rw [hw', e2] at e3; cases e3
                rw [upd_same] at h3; cases h3
              | true =>
                refine (if_pos rfl).mpr ?_
                simp only [if_true] at p2
                refine he (upd B Da (.lst xs)) σ4 H5 _ ⟨F5, S5, st5, o5, ?_⟩
                revert p2
                generalize f S5 st5 = r2
                intro p2
                cases r2 with
                | stuck => exact p2
                | exc y S6 st6 => exact (show False from p2).elim
                | ok yy S6 st6 =>
                  simp only [Res.calm_ok, Res.bind_ok] at p2
                  intro y H6 F6 g6 o6 ry
                  obtain ⟨g6', f6⟩ := g6.unpin hBD f5
                  have gA : Gr B F2 F6 := gAll.trans g6'
                  have h6D : H6 Da = some (.lst xs) := o6.kp Da _ upd_same
                  obtain ⟨o7, no7, hm7⟩ := Ok.unpin (u' := .lst (xs ++ [y])) o6 hBD f6 (fun x z => by cases z)
                  have o8 := o7.wipe own
                  rw [hw'] at o8
                  have p3 : Tot (acc ++ [yy]) (lcOL g own t f vi m (i + 1) (wipeS S6 own) st6) := by
                    show PostF _ _ _ _ _ _ _
                    revert p2
                    generalize lcOL g own t f vi m (i + 1) (wipeS S6 own) st6 = r3
                    intro p2
                    cases r3 with
                    | ok ys S7 st7 => simpa using p2
                    | exc _ _ _ => exact p2
                    | stuck => exact p2
                  have hlen : acc.length < 16777216 := by
                    have p4 := p3
                    simp only [Tot] at p4
                    revert p4
                    generalize h3 : lcOL g own t f vi m (i + 1) (wipeS S6 own) st6 = r3
                    intro p4
                    cases r3 with
                    | ok ys S7 st7 =>
                      simp only [Res.bind_ok] at p4
                      split at p4
                      · rename_i hh
                        simp at hh; omega
                      · exact p4.elim
                    | exc x' S' st' => exact (lcOL_noexc h3).elim
                    | stuck => exact p4.elim
                  refine ⟨xs, h6D, by rw [ra.length, sizeLine_eq]; exact hlen, acc ++ [yy], xs ++ [y], F6, wipeS S6 own, st6, g2.trans gA, o8, fun i hi s e => wipeS_no hi s e, upd_same, (ra.mono gA.1).append (.one ry), f6, hBD, hm7, fun j es e1 e2 => ?_, p3⟩
                  obtain ⟨p', u', e3, h1, _, h3, _⟩ := (o6.wipe own).sl j _ e1
                  rw [hw', e2] at e3; cases e3
                  rw [upd_same] at h3; cases h3
          · exact (show False from p2).elim
        · rename_i hd
          exact .inl (fin hds (List.getElem?_eq_none_iff.mp hd) p2)
      · exact (show False from p2).elim
  · exact q.elim

theorem df_lcO {X : Cx} {B : Hp} {W : WX} {pos : Pos} {elt tg iter : Expr} {ifs : List Expr} {scope : Scope} (own : List (Str × Nat)) {vi : Nat} {g : Tg} {gv : TG} {t : Ev Bool} {f : Ev D} (hc : X.calm = true) (nd : X.N.Nodup) (ok : BlkOk X.N X.env.scope scope own) (hi : PE X iter (tVar vi)) (hgv : TgB (Cx.g X) (own.map (·.2)) g gv)
    (hg : ∀ (s : Shared) (H : Hp) (C : Addr) (cl : List (Str × Addr)) (fp : List Addr), PG (X.blk s H scope (compEnvC scope cl C X.env) fp) tg gv)
    (ht : ∀ (B : Hp) (s : Shared) (H : Hp) (cl : List (Str × Addr)) (C : Addr) (fp : List Addr), DTs (bX X s H scope cl C fp) B W0 ifs t) (he : ∀ (B : Hp) (s : Shared) (H : Hp) (cl : List (Str × Addr)) (C : Addr) (fp : List Addr), DE (bX X s H scope cl C fp) B W0 elt f)
    (hs : ∀ x, foldedSetIterable iter X.env x = pure x := by intro _; rfl) : DF X B W (.ListComp elt [⟨tg, iter, ifs, 0⟩] scope pos) (lcO vi g (own.map (·.2)) t f) :=
  pe_imp (pe_lc hc nd (pi_list hi) ok hg (lc_parts ht he).1 (lc_parts ht he).2 hs) fun σ H Q q => lcO_lift (fun B σ H Q q => ⟨B, q⟩) (fun B σ H Q q => ⟨B, q⟩) (fun B v σ H Q q => hgv B v σ H Q q) q
theorem lcO_a {S : Sls} {st : Store} (v : Nat) (g : Tg) (own : List Nat) (t : Ev Bool) (f : Ev D) : lcO v g own t f S st = match getO S v with
  | some ds => if own.contains v = true then .stuck else (lcOL g own t f v ds.length 0 (wipeS S own) st).bind fun ys S' st => if ys.length ≤ 16777216 then .ok (.l ys) (restS S own S') st else .stuck
  | none => .stuck := rfl
theorem getO_o {S : Sls} {v : Nat} {ds : List D} (h : S[v]? = some (.own (.l ds))) : getO S v = some ds := by simp only [getO, h]
end DL

namespace DL
open PySem PySem.Spec PyProof.Rows L2 RT
/-! ### list(reversed(list)), tuple(reversed(tuple)) -/
theorem rt_nolen : typeLookup (.type "reversed") "__len__" = pure none := by rw [typeLookup_type, builtinLookup_eq_fast]; kernel_rfl
theorem rt_hint : Slot "reversed" "__length_hint__" "reversed.__length_hint__" := .of (owner := "reversed") (n := "__length_hint__") (by rw [typeLookup_type, builtinLookup_eq_fast]; kernel_rfl)
  (by decide +kernel) (by decide +kernel) (by decide +kernel) (by first | exact .inl (by decide +kernel) | exact .inr (by decide +kernel)) (by rw [isSubtype_type]; kernel_rfl)
theorem rt_hint_code : entryFor table "reversed.__length_hint__" = some Builtin.«reversed.__length_hint__» := entryFor_of_tree (by kernel_rfl)
theorem rt_hint_args (a : Value) : argsOk "reversed.__length_hint__" ⟨[a], []⟩ := by
  unfold argsOk
  rw [signature?_of (id := "reversed.__length_hint__") (n := "__tnih_htgnel__".toList) (o := ['d', 'e', 's', 'r', 'e', 'v', 'e', 'r']) (by kernel_rfl) owner_rt]
  kernel_rfl
section
variable {prog : Program} {w : World} {A : Around} {E : Value → Shared → Prop}
/-- the walk of reversed(t) -/
theorem rt_walks (hh : A.handled = none) {it t : Addr} (hne : t ≠ it) (items : Array Value) (hz : items.size ≤ sizeLine) :
    PySem.Walks prog w A it [it, t] [it] items.size (fun i v => items[items.size - 1 - i]? = some v) (fun i h => i ≤ items.size ∧ IsRt h it t ((items.size : Int) - 1 - (i : Nat)) ∧ IsTup h t items) where
  sub := fun b hb => by rw [List.mem_singleton.mp hb]; exact List.mem_cons_self ..
  frame := fun i h h' st hk => ⟨st.1, st.2.1.at fun o e => hk it (List.mem_cons_self ..) o e, by
    obtain ⟨o, ho, r⟩ := st.2.2
    exact ⟨o, hk t (List.mem_cons_of_mem _ (List.mem_singleton.mpr rfl)) o ho, r⟩⟩
  item := fun i s Q E hi st hQ => by
    obtain ⟨x, hx⟩ : ∃ x, items[items.size - 1 - i]? = some x := ⟨items[items.size - 1 - i]'(by omega), Array.getElem?_eq_getElem (by omega)⟩
    have e1 : (items.size : Int) - 1 - (i : Nat) = ((items.size - 1 - i : Nat) : Int) := by omega
    have q := st.2.1
    rw [e1] at q
    refine next_rt_item q st.2.2 hx hz fun h' q' sb => ?_
    refine hQ x h' (s.toks + 1) hx ⟨by omega, ?_, ?_⟩ fun b o hb e => ?_
    · have e2 : (items.size : Int) - 1 - ((i + 1 : Nat) : Int) = ((items.size - 1 - i : Nat) : Int) - 1 := by omega
      rw [e2]; exact q'
    · obtain ⟨o, ho, r⟩ := st.2.2
      exact ⟨o, sb.extBut t o hne ho, r⟩
    · exact sb.extBut b o (fun z => hb (by rw [z]; exact List.mem_singleton.mpr rfl)) e
  done := fun s Q E st hQ => by
    have e1 : (items.size : Int) - 1 - (items.size : Nat) = -1 := by omega
    have q := st.2.1
    rw [e1] at q
    exact next_rt_end hh q fun h' eb => hQ h' s.toks fun b o hb e => eb b o (fun z => hb (by rw [z]; exact List.mem_singleton.mpr rfl)) e
  self := fun i s Q E st h => iter_rt st.2.1 h
/-- it tells how many are left -/
theorem rt_tells {s : Shared} {it t : Addr} {items : Array Value} {Q : Bool → Shared → Prop} (hz : items.size ≤ sizeLine) (hit : IsRt s.heap it t ((items.size : Int) - 1)) (ht : IsTup s.heap t items)
    (h : ∀ b tk, s.toks ≤ tk → Q b { s with toks := tk }) : wpAny (model prog w) A (Builtin.List.listLengthHint (.ref it)) Q E s := by
  obtain ⟨o, ho, hc, hd⟩ := id hit
  have l63 := line63
  unfold Builtin.List.listLengthHint
  refine wpAny_bind (wpAny_specialOf hit.typeIs rt_nolen ?_)
  show wpAny _ _ (specialOf (Value.ref it) (Str.ofString "__length_hint__") >>= _) _ _ _
  refine wpAny_bind (wpAny_specialOf hit.typeIs rt_hint.lookup ?_)
  generalize hid : ("reversed.__length_hint__" : String) = id0
  wp_delta
  rw [show splitId id0 = some ("reversed", "__length_hint__") from by subst hid; decide +kernel]
  subst hid
  refine wpAny_bind (wpAny_isInstance (b := true) hit.typeIs (by rw [isSubtype_type]; kernel_rfl) ?_)
  refine wpAny_bind (wpAny_rule ?_)
  simp only [rt_hint.bind]
  refine wpAny_bind (wpAny_pure ?_)
  refine wpAny_bind (wpAny_attempt (wpAny_call_entry rt_hint hit.typeIs rt_hint_code ?_ (rt_hint_args _)))
  unfold Builtin.«reversed.__length_hint__»
  refine wpAny_bind (wpAny_of_eq (a := Value.ref it) rfl ?_)
  try dsimp only
  refine wpAny_bind (wpAny_field ho hd (x := .ref t) rfl ?_)
  show wpAny _ _ (call (.builtin "len") [.ref t] >>= _) _ _ _
  refine wpAny_bind (len_tuple ht (by omega) ?_)
  refine wpAny_bind (wpAny_of_eq (a := some ((items.size : Nat) : Int)) rfl ?_)
  try dsimp only
  refine wpAny_bind (wpAny_field (s := { s with toks := s.toks + 1 + 1 }) ho hd (x := rawInt ((items.size : Int) - 1)) rfl ?_)
  show wpAny _ _ (if ((items.size : Nat) : Int) < ((items.size : Int) - 1) + 1 then _ else _) _ _ _
  rw [if_neg (by omega)]
  refine wpAny_bind (wpAny_mkInt (wpAny_pure ⟨_, rfl, ?_⟩))
  have n1 : Builtin.List.listFitsIndex ((items.size : Int) - 1 + 1) = true := by
    simp only [Builtin.List.listFitsIndex]
    have := sizeLine_eq
    simp; omega
  have n2 : Builtin.List.listTooLong ((items.size : Int) - 1 + 1).toNat = false := by
    simp only [Builtin.List.listTooLong]
    have := sizeLine_eq
    simp; omega
  refine wpAny_bind (wpAny_of_eq (a := some ((items.size : Int) - 1 + 1)) rfl ?_)
  dsimp only
  rw [n1, n2, if_neg (by decide), if_neg (by omega), if_neg (by decide)]
  exact wpAny_pure (h _ _ (by show s.toks ≤ s.toks + 1 + 1 + 1; omega))
end
section
variable {prog : Program} {w : World} {A : Around} {E : Value → Shared → Prop} {I : Addr} {fp wr : List Addr} {n : Nat} {P : Nat → Value → Prop} {St : Nat → Heap → Prop}
abbrev newL (c : Nat) : Obj := { cls := .type "list", dict := none, data := .seq #[] c, slots := #[] }
/-- the list S, empty and new, takes in what the iterator I gives, however much room it makes ahead -/
theorem take_in {T : String} {S : Addr} {res : Value} {s : Shared} {Q : Fin → Shared → Prop} (W : PySem.Walks prog w A I fp wr n P St) (hT : s.TypeIs (.ref I) T) (t1 : (Value.type T == Value.type "list") = false) (t2 : (Value.type T == Value.type "tuple") = false)
    (st0 : St 0 s.heap) {c0 : Nat} (hS : s.heap.get? S = some (newL c0)) (hSI : S ≠ I)
    (tells : ∀ (s1 : Shared) (Q1 : Bool → Shared → Prop), s1.heap = s.heap → (∀ b tk, s1.toks ≤ tk → Q1 b { s1 with toks := tk }) → wpAny (model prog w) A (Builtin.List.listLengthHint (.ref I)) Q1 E s1)
    (fin : ∀ (h' : Heap) (tk : Nat), (∀ b o, b ≠ S → s.heap.get? b = some o → h'.get? b = some o) → (∃ c, h'.get? S = some (newL c)) →
      wpAny (model prog w) A (again (.builtin "list.extend.loop" ⟨[.ref S, .ref I, res], []⟩)) Q E { s with heap := h', toks := tk }) :
    wpAny (model prog w) A (Builtin.List.listExtendWith (.ref S) (.ref I) res) Q E s := by
  have h1 : Builtin.List.listSameRef (.ref S) (.ref I) = false := by simp [Builtin.List.listSameRef, hSI]
  unfold Builtin.List.listExtendWith
  refine wpAny_bind (wpAny_typeOf hT ?_)
  simp only [h1, t1, t2, Bool.or_false, Bool.false_eq_true, if_false]
  refine wpAny_bind (W.self 0 s _ _ st0 ?_)
  refine wpAny_bind (wpAny_holding (tells s _ rfl fun b tk htk => ?_))
  split
  · refine wpAny_bind (wpAny_rule (wpAny_bind ?_))
    show wpAny _ _ (updateSeq S (·.push .none) >>= fun _ => updateSeq S (·.pop)) _ _ _
    refine wpAny_bind (wpAny_updateSeq (s := { s with toks := tk }) hS rfl ?_)
    have hS2 := Heap.get?_update_self (Obj.mapSeq (·.push Value.none)) hS rfl
    refine wpAny_updateSeq hS2 rfl ?_
    exact fin _ tk (fun b o hb e => (Heap.get?_update_other _ _ (Ne.symm hb)).trans ((Heap.get?_update_other _ _ (Ne.symm hb)).trans e)) ⟨_, Heap.get?_update_self (Obj.mapSeq (·.pop)) hS2 rfl⟩
  · exact fin s.heap tk (fun _ _ _ e => e) ⟨_, hS⟩
end
section
variable {prog : Program} {w : World} {A : Around} {E : Value → Shared → Prop} {s : Shared} {n : Nat} {P : Nat → Value → Prop} {St : Nat → Heap → Prop}
/-- what an iterator gives, as a list of the machine -/
theorem drawn_out {it t : Addr} {T : String} {Q : List Value → Shared → Prop} (W : PySem.Walks prog w A.in1 it [it, t] [it] n P St) (hT : ∀ s1 : Shared, St 0 s1.heap → s1.TypeIs (.ref it) T)
    (t1 : (Value.type T == Value.type "list") = false) (t2 : (Value.type T == Value.type "tuple") = false) (st0 : St 0 s.heap) (li : it < s.heap.objs.size) (lt : t < s.heap.objs.size) (hn : n ≤ sizeLine)
    (tells : ∀ (s1 : Shared) (Q1 : Bool → Shared → Prop) (E1 : Value → Shared → Prop), St 0 s1.heap → (∀ b tk, s1.toks ≤ tk → Q1 b { s1 with toks := tk }) → wpAny (model prog w) A.in1 (Builtin.List.listLengthHint (.ref it)) Q1 E1 s1)
    (hQ : ∀ (h' : Heap) (tk : Nat) (acc : Array Value), (∀ b o, b ≠ it → s.heap.get? b = some o → h'.get? b = some o) → ItemsOf P acc n → Q acc.toList { s with heap := h', toks := tk }) :
    wpAny (model prog w) A (collect (.ref it)) Q E s := by
  have nS : s.heap.objs.size ∉ [it, t] := by simp only [List.mem_cons, List.not_mem_nil, or_false, not_or]; exact ⟨Nat.ne_of_gt li, Nat.ne_of_gt lt⟩
  unfold collect
  refine wpAny_bind (wpAny_runValue (codeAny_builtin F.entry_proto_collect ?_))
  rw [Around.under_plainId F.plain_proto_collect _]
  show wpAny _ A.in1 (newList [] >>= fun l' => again (.builtin "list.__iadd__" ⟨[l', .ref it], []⟩)) _ _ s
  refine wpAny_bind (wpAny_newObj_type (wpAny_pure ⟨plainId_quiet F.plain_list_iadd _, codeAny_builtin F.entry_list_iadd ?_⟩))
  rw [Around.under_plainId F.plain_list_iadd _]
  have st1 : St 0 (s.heap.push (newL 0)) := W.frame 0 _ _ st0 fun b _ o e => Heap.get?_push_of_some _ e
  refine take_in (s := { s with heap := s.heap.push (newL 0) }) (S := s.heap.objs.size) W (hT _ st1) t1 t2 st1 (Heap.get?_push_size _ rfl) (Nat.ne_of_gt li) (fun s1 Q1 e h => tells s1 Q1 _ (by rw [e]; exact st1) h) fun h' tk kp ⟨c, hc⟩ => ?_
  have st2 : St 0 h' := W.frame 0 _ _ st1 fun b hb o e => kp b o (fun z => nS (z ▸ hb)) e
  refine wpAny_pure ⟨plainId_quiet F.plain_extend_loop _, codeAny_extend_loopS W.toS hn _ nS _ n 0 _ _ _ rfl (Nat.zero_le _) st2 hc (ItemsOf.nil _) fun s' acc' c' hm hS' hacc => ?_⟩
  show wpAny _ A (load s.heap.objs.size >>= _) _ _ s'
  refine wpAny_bind (wpAny_load hS' (wpAny_pure ?_))
  rw [Moved.eq_with hm]
  refine hQ s'.heap s'.toks acc' (fun b o hb e => hm.heap b o (fun z => ?_) (kp b o (fun z => ?_) (Heap.get?_push_of_some _ e))) hacc
  · rcases List.mem_cons.mp z with z | z
    · exact absurd (Heap.lt_size e) (by rw [z]; exact Nat.lt_irrefl _)
    · exact hb (List.mem_singleton.mp z)
  · exact absurd (Heap.lt_size e) (by rw [z]; exact Nat.lt_irrefl _)
/-- tuple(it), it an iterator over n things that writes in itself alone -/
theorem tuple_of_it {it t : Addr} {T : String} {Q : Value → Shared → Prop} (W : PySem.Walks prog w A.in1.in1.in1 it [it, t] [it] n P St) (hT : ∀ s1 : Shared, St 0 s1.heap → s1.TypeIs (.ref it) T)
    (t1 : (Value.type T == Value.type "list") = false) (t2 : (Value.type T == Value.type "tuple") = false) (st0 : St 0 s.heap) (li : it < s.heap.objs.size) (lt : t < s.heap.objs.size) (hn : n ≤ sizeLine)
    (tells : ∀ (s1 : Shared) (Q1 : Bool → Shared → Prop) (E1 : Value → Shared → Prop), St 0 s1.heap → (∀ b tk, s1.toks ≤ tk → Q1 b { s1 with toks := tk }) → wpAny (model prog w) A.in1.in1.in1 (Builtin.List.listLengthHint (.ref it)) Q1 E1 s1)
    (hQ : ∀ (h' : Heap) (tk : Nat) (acc : Array Value), (∀ b o, b ≠ it → s.heap.get? b = some o → h'.get? b = some o) → ItemsOf P acc n → Q (.ref h'.objs.size) { s with heap := h'.push { cls := .type "tuple", data := .seq acc }, toks := tk }) :
    wpAny (model prog w) A (call (.type "tuple") [.ref it]) Q E s := by
  refine callType_codes (Q₁ := fun obj s₁ => s₁.TypeIs obj "tuple" ∧ Q obj s₁) F.called_tuple (F.typeCall_tuple_1 _) F.entry_object_init ?_ fun obj s₁ h₁ => ⟨h₁.1, F.args_object_init_2 obj _, object_init_meets F.called_tuple.init.lookup F.called_tuple.made (by decide) prog w A.in1 _ s₁ ⟨h₁.1, rfl, h₁.2⟩⟩
  refine codeAny_of_tree ?_
  show wpAny _ A.in1.in1 (do checkBuiltinCall "tuple.__new__" ⟨[.type "tuple", .ref it], []⟩; again (.builtin "tuple.__new__" ⟨[.type "tuple", .ref it], []⟩)) _ _ s
  refine wpAny_bind (wpAny_of_eq (F.newCall_tuple_1 _) (wpAny_pure ⟨plainId_quiet F.plain_tuple_new _, codeAny_builtin F.entry_tuple_new ?_⟩))
  rw [Around.under_plainId F.plain_tuple_new _]
  have e1 := sub_tuple_self
  have e2 := init_tuple_lookup
  have e3 := madeHere_tuple
  have e4 := hT s st0
  wp_walk using wpAny_typeOf e4, drawn_out (A := A.in1.in1) W hT t1 t2 st0 li lt hn tells
  intro h' tk acc hk hacc
  show wpAny _ _ (Builtin.Tuple.tupleExact acc.toList.toArray >>= fun v => ret v) _ _ _
  unfold Builtin.Tuple.tupleExact
  rw [show acc.toList.toArray = acc from by simp]
  refine wpAny_bind (wpAny_newObj_type (wpAny_pure ⟨⟨_, Heap.get?_push_size _ rfl, rfl⟩, hQ h' tk acc hk hacc⟩) (by show acc.size ≤ sizeLine; rw [hacc.1]; exact hn))
/-- list(it), alike -/
theorem list_of_it {it t : Addr} {T : String} {Q : Value → Shared → Prop} (W : PySem.Walks prog w A.in1.in1 it [it, t] [it] n P St) (hT : ∀ s1 : Shared, St 0 s1.heap → s1.TypeIs (.ref it) T)
    (t1 : (Value.type T == Value.type "list") = false) (t2 : (Value.type T == Value.type "tuple") = false) (st0 : St 0 s.heap) (li : it < s.heap.objs.size) (lt : t < s.heap.objs.size) (hn : n ≤ sizeLine)
    (tells : ∀ (s1 : Shared) (Q1 : Bool → Shared → Prop) (E1 : Value → Shared → Prop), St 0 s1.heap → (∀ b tk, s1.toks ≤ tk → Q1 b { s1 with toks := tk }) → wpAny (model prog w) A.in1.in1 (Builtin.List.listLengthHint (.ref it)) Q1 E1 s1)
    (hQ : ∀ (h' : Heap) (tk : Nat) (acc : Array Value) (c : Nat), (∀ b o, b ≠ it → s.heap.get? b = some o → h'.get? b = some o) → h'.get? s.heap.objs.size = some { cls := .type "list", dict := none, data := .seq acc c, slots := #[] } → ItemsOf P acc n →
      Q (.ref s.heap.objs.size) { s with heap := h', toks := tk }) :
    wpAny (model prog w) A (call (.type "list") [.ref it]) Q E s := by
  have nS : s.heap.objs.size ∉ [it, t] := by simp only [List.mem_cons, List.not_mem_nil, or_false, not_or]; exact ⟨Nat.ne_of_gt li, Nat.ne_of_gt lt⟩
  refine callType_codes (Q₁ := fun obj s₁ => obj = .ref s.heap.objs.size ∧ s₁ = { s with heap := s.heap.push (newL 0) }) PySem.F.called_list (PySem.F.typeCall_list_1 _) PySem.F.entry_list_init (code_list_new _ ⟨rfl, rfl⟩) fun obj s₁ ⟨ho, hs⟩ => ?_
  subst ho hs
  have h0 : (s.heap.push (newL 0)).get? s.heap.objs.size = some (newL 0) := Heap.get?_push_size _ rfl
  refine ⟨⟨_, h0, rfl⟩, PySem.F.args_list_init_2 _ _, ?_⟩
  have k0 : ∀ b o, s.heap.get? b = some o → (s.heap.push (newL 0)).get? b = some o := fun b o e => Heap.get?_push_of_some _ e
  have far : ∀ {b : Addr} {o : Obj}, s.heap.get? b = some o → b ≠ s.heap.objs.size := fun e z => absurd (Heap.lt_size e) (by rw [z]; exact Nat.lt_irrefl _)
  generalize hSS : s.heap.objs.size = S at *
  show wpAny _ _ (do let old ← Builtin.List.listItems (.ref S); Builtin.List.listUpdate (.ref S) (fun _ => #[]); letGo old.toList.reverse; Builtin.List.listExtendWith (.ref S) (.ref it) .none) _ _ _
  refine wpAny_bind ?_
  unfold Builtin.List.listItems
  refine wpAny_bind (wpAny_seqItems h0 rfl (wpAny_pure ?_))
  show wpAny _ _ (updateSeq S (fun _ => #[]) >>= fun _ => letGo (#[] : Array Value).toList.reverse >>= fun _ => Builtin.List.listExtendWith (.ref S) (.ref it) .none) _ _ _
  refine wpAny_bind (wpAny_updateSeq h0 rfl (wpAny_bind (wpAny_letGo ?_)))
  have h1 := Heap.get?_update_self (Obj.mapSeq (fun _ => (#[] : Array Value))) h0 rfl
  have k1 : ∀ b o, s.heap.get? b = some o → ((s.heap.push (newL 0)).update S (Obj.mapSeq (fun _ => (#[] : Array Value)))).get? b = some o := fun b o e => (Heap.get?_update_other _ _ (Ne.symm (far e))).trans (k0 b o e)
  generalize (s.heap.push (newL 0)).update S (Obj.mapSeq (fun _ => (#[] : Array Value))) = hp at *
  have st1 : St 0 hp := W.frame 0 _ _ st0 fun b _ o e => k1 b o e
  refine take_in (s := { s with heap := hp }) (S := S) W (hT _ st1) t1 t2 st1 h1 (fun z => nS (by rw [z]; exact List.mem_cons_self ..)) (fun s1 Q1 e h => tells s1 Q1 _ (by rw [e]; exact st1) h) fun h' tk kp ⟨c, hc⟩ => ?_
  have st2 : St 0 h' := W.frame 0 _ _ st1 fun b hb o e => kp b o (fun z => nS (z ▸ hb)) e
  refine wpAny_pure ⟨plainId_quiet F.plain_extend_loop _, codeAny_extend_loopS (W := W.toS) hn _ nS _ n 0 _ _ _ rfl (Nat.zero_le _) st2 hc (ItemsOf.nil _) fun s' acc' c' hm hS' hacc => ⟨rfl, ?_⟩⟩
  rw [Moved.eq_with hm]
  refine hQ s'.heap s'.toks acc' c' (fun b o hb e => hm.heap b o (fun z => ?_) (kp b o (far e) (k1 b o e))) hS' hacc
  rcases List.mem_cons.mp z with z | z
  · exact far e z
  · exact hb (List.mem_singleton.mp z)
end
end DL
namespace DL
open PySem PySem.Spec PyProof.Rows L2 RT
section
variable {prog : Program} {w : World} {A : Around} {E : Value → Shared → Prop}
theorem lri_tells {s : Shared} {it l : Addr} {i : Int} {Q : Bool → Shared → Prop} (hit : s.heap.IsRevIter it l i) (h : ∀ b tk, s.toks ≤ tk → Q b { s with toks := tk }) : wpAny (model prog w) A (Builtin.List.listLengthHint (.ref it)) Q E s := by
  have hT : s.TypeIs (.ref it) "list_reverseiterator" := Heap.IsRevIter.typeIs hit
  unfold Builtin.List.listLengthHint
  refine wpAny_bind (wpAny_specialOf hT nolen_lri ?_)
  show wpAny _ _ (specialOf (Value.ref it) (Str.ofString "__length_hint__") >>= _) _ _ _
  refine wpAny_bind (wpAny_specialOf hT hint_lri ?_)
  generalize hid : ("list_reverseiterator.__length_hint__" : String) = id0
  wp_delta
  rw [show splitId id0 = some ("list_reverseiterator", "__length_hint__") from by subst hid; decide +kernel]
  subst hid
  refine wpAny_bind (wpAny_isInstance (b := true) hT (by rw [isSubtype_type]; kernel_rfl) (wpAny_pure ?_))
  exact h false s.toks (Nat.le_refl _)
end
/-- tuple(reversed(t)), list(reversed(l)) -/
def tRevT (K : PySem.W.Frag) (te : TE) : TE := fun σ H Q => te σ H fun v H1 => ∃ (a : Addr) (xs : List V), v = .ref a ∧ SqT K H1 a xs ∧ ∀ q, H1 q = none → Q (.ref q) (upd H1 q (.tup xs.reverse))
def tRevL (K : PySem.W.Frag) (te : TE) : TE := fun σ H Q => te σ H fun v H1 => ∃ (a : Addr) (xs : List V), v = .ref a ∧ SqL K H1 a xs ∧ ∀ q, H1 q = none → Q (.ref q) (upd H1 q (.lst xs.reverse))
section
variable {X : Cx} {B : Hp} {W : WX} {e : Expr} {p p2 pos pos2 : Pos}
theorem pe_revT {te : TE} (hc : X.calm = true) (hg : Gl X "tuple") (hm : X.mg "tuple" = none) (hg2 : Gl X "reversed") (hm2 : X.mg "reversed" = none) (he : PE X e te)
    (hs : starEach [e] X.env = (false, eval e X.env) :: starEach [] X.env := by rfl)
    (hs2 : starEach [.Call (.Name "reversed" p2) [e] [] pos2] X.env = (false, eval (.Call (.Name "reversed" p2) [e] [] pos2) X.env) :: starEach [] X.env := by rfl) :
    PE X (.Call (.Name "tuple" p) [.Call (.Name "reversed" p2) [e] [] pos2] [] pos) (tRevT X.K te) := by
  refine ⟨fun pins s σ H Q I h => Call_ (ld_blt I hg hm boot_tuple (PyProof.Rows.callWith_type1 (args_cons (Call_ (ld_blt I hg2 hm2 PyProof.Rows.boot_reversed (PyProof.Rows.callWith_type1 (args_cons (thn (he.run pins s σ H _ I h) fun u s1 ⟨v, H1, I1, r1, a, xs, ev, hq, q⟩ => args_nil ?_) hs) hs rfl))) hs2) hs2 rfl))⟩
  subst ev
  obtain rfl : u = Value.ref a := r1
  obtain ⟨its, rv, pl, hz⟩ := I1.tuple hq
  have hl := rv.length
  have l63 := line63
  have hz' : its.toArray.size ≤ sizeLine := by simp only [List.size_toArray]; omega
  refine call_reversed_tup pl (fun A E Q k => len_tuple pl (by omega) k) (args_nil ?_)
  have ne : a ≠ s1.heap.objs.size := Nat.ne_of_lt pl.lt
  have e0 : (its.toArray.size : Int) - 1 - ((0 : Nat) : Int) = (its.toArray.size : Int) - 1 := by omega
  have I2 : Inv X pins σ H1 { s1 with heap := s1.heap.push (rtObj a ((its.toArray.size : Int) - 1)), toks := s1.toks + 1 + 1 } := I1.kept (t' := s1.toks + 1 + 1) fun b o e => Heap.get?_push_of_some _ e
  obtain ⟨f0, f1, f2, f3, f4, f5⟩ := I1.fpOk (H' := H1) (b := s1.heap.objs.size) (Nat.le_refl _) (I1.hok.fresh (Nat.le_refl _))
  have hd : ∀ {A : Around}, A.handled = none → A.in1.in1.in1.handled = none := fun h => h
  refine tuple_of_it (s := { s1 with heap := s1.heap.push (rtObj a ((its.toArray.size : Int) - 1)), toks := s1.toks + 1 + 1 }) (rt_walks (hd (I.ok.hd hc)) ne its.toArray hz') (fun s2 st => st.2.1.typeIs) (by decide) (by decide)
    ⟨Nat.zero_le _, by rw [e0]; exact ⟨_, Heap.get?_push_size _ rfl, rfl, rfl⟩, pl.push _⟩ (by show _ < (s1.heap.push _).objs.size; simp [Heap.push]) (Nat.lt_of_lt_of_le pl.lt (by show _ ≤ (s1.heap.push _).objs.size; simp [Heap.push])) hz'
    (fun s2 Q2 E2 st h => rt_tells hz' (by have := st.2.1; rw [e0] at this; exact this) st.2.2 h) fun h' tk acc hk hi => ?_
  have I3 : Inv X pins σ H1 { s1 with heap := h', toks := tk } := I2.turned (t' := tk) (fun b o hb e => hk b o hb e) f0 f1 f3 f4 f5
  refine ⟨.ref h'.objs.size, upd H1 h'.objs.size (.tup xs.reverse), I3.laid (t' := tk) (fun c o e => Heap.get?_push_of_some _ e) (Nat.le_refl _) (show ObjOk X.prog X.w _ _ _ (.tup xs.reverse) from ⟨by rw [List.length_reverse]; exact hz, acc.toList, vals_rev rv hi, ?_⟩), rfl, q _ (I3.hok.fresh (Nat.le_refl _))⟩
  rw [Array.toArray_toList]
  exact IsTup.new _ _
theorem pe_revL {te : TE} (hc : X.calm = true) (hg : Gl X "list") (hm : X.mg "list" = none) (hg2 : Gl X "reversed") (hm2 : X.mg "reversed" = none) (he : PE X e te)
    (hs : starEach [e] X.env = (false, eval e X.env) :: starEach [] X.env := by rfl)
    (hs2 : starEach [.Call (.Name "reversed" p2) [e] [] pos2] X.env = (false, eval (.Call (.Name "reversed" p2) [e] [] pos2) X.env) :: starEach [] X.env := by rfl) :
    PE X (.Call (.Name "list" p) [.Call (.Name "reversed" p2) [e] [] pos2] [] pos) (tRevL X.K te) := by
  refine ⟨fun pins s σ H Q I h => Call_ (ld_blt I hg hm boot_list (PyProof.Rows.callWith_type1 (args_cons (Call_ (ld_blt I hg2 hm2 PyProof.Rows.boot_reversed (PyProof.Rows.callWith_type1 (args_cons (thn (he.run pins s σ H _ I h) fun u s1 ⟨v, H1, I1, r1, a, xs, ev, hq, q⟩ => args_nil ?_) hs) hs rfl))) hs2) hs2 rfl))⟩
  subst ev
  obtain rfl : u = Value.ref a := r1
  obtain ⟨its, rv, pl, hz⟩ := I1.list hq
  have hl := rv.length
  have hz' : its.toArray.size ≤ sizeLine := by simp only [List.size_toArray]; omega
  have isl := pl.isList
  have lt : a < s1.heap.objs.size := by obtain ⟨o, ho, _⟩ := id isl; exact Heap.lt_size ho
  refine call_reversed_list isl (args_nil ?_)
  have e0 : (its.toArray.size : Int) - 1 - ((0 : Nat) : Int) = (its.toArray.size : Int) - 1 := by omega
  have I2 : Inv X pins σ H1 { s1 with heap := s1.heap.push (revObj a ((its.toArray.size : Int) - 1)) } := I1.kept (t' := s1.toks) fun b o e => Heap.get?_push_of_some _ e
  have fp := I1.fpOk (H' := H1) (b := s1.heap.objs.size) (Nat.le_refl _) (I1.hok.fresh (Nat.le_refl _))
  have hd : ∀ {A : Around}, A.handled = none → A.in1.in1.handled = none := fun h => h
  refine list_of_it (s := { s1 with heap := s1.heap.push (revObj a ((its.toArray.size : Int) - 1)) }) (Walks.listRev (hd (I.ok.hd hc)) s1.heap.objs.size a (Nat.ne_of_lt lt) its.toArray) (fun s2 st => Heap.IsRevIter.typeIs st.2.1) (by decide) (by decide)
    ⟨Nat.zero_le _, by rw [e0]; exact ⟨_, Heap.get?_push_size _ rfl, rfl, rfl⟩, isl.push _⟩ (by show _ < (s1.heap.push _).objs.size; simp [Heap.push]) (Nat.lt_of_lt_of_le lt (by show _ ≤ (s1.heap.push _).objs.size; simp [Heap.push])) hz'
    (fun s2 Q2 E2 st h => lri_tells st.2.1 h) fun h' tk acc c hk hS hi => ?_
  have hnew : ObjOk X.prog X.w (upd H1 (s1.heap.push (revObj a ((its.toArray.size : Int) - 1))).objs.size (.lst xs.reverse)) h' (s1.heap.push (revObj a ((its.toArray.size : Int) - 1))).objs.size (.lst xs.reverse) := by
    refine (show ObjOk X.prog X.w _ _ _ (.lst xs.reverse) from ⟨by rw [List.length_reverse]; exact hz, acc.toList, c, vals_rev rv hi, ?_⟩)
    rw [Array.toArray_toList]; exact hS
  exact ⟨.ref _, upd H1 (s1.heap.push (revObj a ((its.toArray.size : Int) - 1))).objs.size (.lst xs.reverse), I2.turnedNew (t' := tk) (ch := [s1.heap.objs.size]) (fun b o hb e => hk b o (fun z => hb (by rw [z]; exact List.mem_singleton.mpr rfl)) e) (fun b hb => by rw [List.mem_singleton.mp hb]; exact fp) (Nat.le_refl _) hnew, rfl, q _ (I2.hok.fresh (Nat.le_refl _))⟩
theorem RpAll.rev {G : Gx} {F : Fz} {xs : List V} {ds : List D} (h : RpAll G F xs ds) : RpAll G F xs.reverse ds.reverse := by
  induction ds generalizing xs with
  | nil => cases h; exact .nil
  | cons d r ih =>
    cases h with
    | cons h t => rw [List.reverse_cons, List.reverse_cons]; exact (ih t).append (.one h)
def oRev (fa : Ev Opd) : Ev Ow := fun S st => (fa S st).bind fun a S st =>
  match vw S st a with
  | some x => match asL x with
    | some ds => .ok (.l ds.reverse) S st
    | none => .stuck
  | _ => .stuck
theorem df_rev {fa : Ev Opd} (hm : X.mg "list" = none) (hm2 : X.mg "reversed" = none) (he : DO X B W e fa) (hc : X.calm = true := by rfl) (hg : Gl X "list" := by rfl) (hg2 : Gl X "reversed" := by rfl)
    (hs : starEach [e] X.env = (false, eval e X.env) :: starEach [] X.env := by rfl)
    (hs2 : starEach [.Call (.Name "reversed" p2) [e] [] pos2] X.env = (false, eval (.Call (.Name "reversed" p2) [e] [] pos2) X.env) :: starEach [] X.env := by rfl) :
    DF X B W (.Call (.Name "list" p) [.Call (.Name "reversed" p2) [e] [] pos2] [] pos) (oRev fa) :=
  pe_imp (pe_revL hc hg hm hg2 hm2 he hs hs2) fun σ H Q ⟨F, S, st, o, q⟩ => ⟨F, S, st, o, (PostF.bind (R := RO (Cx.g X) σ) q).mono fun v H1 ⟨F1, d, S1, st1, g1, o1, r1, p1⟩ => by
    split at p1
    · rename_i x hx
      split at p1
      · rename_i ds hds
        obtain ⟨a, xs, rfl, h1, h2⟩ := (o1.vw r1 hx).seqL o1.fH hds
        exact ⟨a, xs, rfl, h1, fun q hq => p1.new o1 hq (.l h2.rev)⟩
      · exact p1.elim
    · exact p1.elim⟩
def eRevT (f : Ev D) : Ev D := fun S st => (f S st).bind fun d S st => match d with
  | .tup ds => .ok (.tup ds.reverse) S st
  | _ => .stuck
theorem de_revT {f : Ev D} (hm : X.mg "tuple" = none) (hm2 : X.mg "reversed" = none) (he : DE X B W e f) (hc : X.calm = true := by rfl) (hg : Gl X "tuple" := by rfl) (hg2 : Gl X "reversed" := by rfl)
    (hs : starEach [e] X.env = (false, eval e X.env) :: starEach [] X.env := by rfl)
    (hs2 : starEach [.Call (.Name "reversed" p2) [e] [] pos2] X.env = (false, eval (.Call (.Name "reversed" p2) [e] [] pos2) X.env) :: starEach [] X.env := by rfl) :
    DE X B W (.Call (.Name "tuple" p) [.Call (.Name "reversed" p2) [e] [] pos2] [] pos) (eRevT f) :=
  pe_imp (pe_revT hc hg hm hg2 hm2 he hs hs2) fun σ H Q ⟨F, S, st, o, q⟩ => ⟨F, S, st, o, (Post.bind (R := RD (Cx.g X) σ) q).mono fun v H1 ⟨F1, d, S1, st1, g1, o1, r1, p1⟩ => by
    split at p1
    · rename_i ds
      cases r1 with
      | tup h t => exact ⟨_, _, rfl, same_seqT o1.fH h, fun p hp => p1 _ _ (F1.up p (.tup _)) (o1.grN hp) (o1.gnew hp) (.tup (.inl (.inl upd_same)) (t.rev.mono (o1.grN (u := .tup _) hp).1))⟩
    · exact p1.elim⟩
end
end DL
namespace DL
section
variable {S : Sls} {st : Store}
theorem oRev_a (f : Ev Opd) : oRev f S st = (f S st).bind fun a S st => match vw S st a with
  | some x => match asL x with
    | some ds => .ok (.l ds.reverse) S st
    | none => .stuck
  | _ => .stuck := rfl
theorem eRevT_a (f : Ev D) : eRevT f S st = (f S st).bind fun d S st => match d with
  | .tup ds => .ok (.tup ds.reverse) S st
  | _ => .stuck := rfl
end
end DL

namespace DL
open PySem PySem.Spec PyProof.Rows L2
/-! ### a set of texts, its places in order -/
section
variable {P : Program} {w : World} {A : Around} {E : Value → Shared → Prop} {s : Shared}
/-- the set at a holds the texts l, its places are in order -/
def TxR (P : Program) (w : World) (h : Heap) (a : Addr) (l : List Str) : Prop :=
  ∃ D : Froz.SD, h.get? a = some (Froz.sObj "set" D) ∧ Froz.TxOk P w D l ∧ Ris D.2.2.place.toList ∧ (w.params.followText "set-order" = true ∨ D.2.2.led = true)
theorem add_ris {D : Froz.SD} (x : Value) (h : Int) (r : Ris D.2.2.place.toList) (b : Bool) (hl : b = true ∨ D.2.2.led = true) : Ris (Froz.addTx h x D).2.2.place.toList ∧ (b = true ∨ (Froz.addTx h x D).2.2.led = true) := by
  obtain ⟨es, ep, t⟩ := D
  have r1 := layNew_ris t es h x r
  have l1 := layNew_led t es h x
  unfold Froz.addTx Froz.tailTx
  generalize layNew t es h x = Z at r1 l1 ⊢
  obtain ⟨es1, t1, wd, gv⟩ := Z
  dsimp only at r1 l1 hl ⊢
  have key : ∀ t2 : SetTable, Ris t2.place.toList → t2.led = t.led → Ris (if (!wd && t2.tooFull) = true then ((relayAll t2 es1 (SetTable.grown es1.size)).1, ep + 2, (relayAll t2 es1 (SetTable.grown es1.size)).2.1) else (es1, ep + 1, t2) : Froz.SD).2.2.place.toList ∧ (b = true ∨ (if (!wd && t2.tooFull) = true then ((relayAll t2 es1 (SetTable.grown es1.size)).1, ep + 2, (relayAll t2 es1 (SetTable.grown es1.size)).2.1) else (es1, ep + 1, t2) : Froz.SD).2.2.led = true) := fun t2 r2 l2 => by
    by_cases c : (!wd && t2.tooFull) = true
    · rw [if_pos c]
      exact ⟨relayAll_ris t2 es1 _, hl.imp id fun z => by show (relayAll t2 es1 _).2.1.led = true; rw [relayAll_led, l2]; exact z⟩
    · rw [if_neg c]
      exact ⟨r2, hl.imp id fun z => by show t2.led = true; rw [l2]; exact z⟩
  by_cases c : t1.plain = true
  · rw [if_pos c]; exact key _ r1 l1
  · rw [if_neg c]; exact key _ r1 l1
theorem add_known {a : Addr} {D : Froz.SD} {l : List Str} {k : Str} {u : Tok} {Q : Bool → Shared → Prop} (ho : s.heap.get? a = some (Froz.sObj "set" D)) (F : Froz.TxOk P w D l) (hk : k ∈ l) (hb : l.length < scanBound) (h : Q false s) :
    wpAny (model P w) A (setAddHashed a (.str k u) (hashStr w k)) Q E s := by
  obtain ⟨es, ep, t⟩ := D
  have hd : (Froz.sObj "set" (es, ep, t)).data = .set es ep t := rfl
  have hf : t.fits es.size = true := F.fit
  have hel : ElemsOf (PySem.strKind P w) es.toList := F.el
  have hsz : es.size = l.length := F.sz
  have hb0 : es.size < scanBound := by omega
  have hkey : (PySem.strKind P w).is k (.str k u) = true := strKind_is P w k u
  unfold setAddHashed setAddHashedIn
  refine wpAny_holding (wpAny_bind (wpAny_setState_of ho hd hf ?_))
  dsimp only
  rw [byScan_of rfl hb0 hel]
  simp only [↓reduceIte]
  unfold setAddByScan
  refine wpAny_bind ?_
  refine wpAny_bind (wpAny_rule ?_)
  refine wpAny_bind (wpAny_setScan_of (knd := PySem.strKind P w) (k := k) hkey ho hd hf hel ?_)
  cases hr : List.findIdx? (fun e => (PySem.strKind P w).is k e.2) es.toList with
  | some j => exact wpAny_pure (wpAny_pure h)
  | none =>
    obtain ⟨e, he, q⟩ := (F.mem k).mp hk
    have c := List.findIdx?_eq_none_iff.mp hr e he
    rw [q] at c; cases c
theorem txR_new {a : Addr} {h : Heap} (e : h.get? a = some (noSet w)) : TxR P w h a [] := by
  refine ⟨(#[], 0, .fresh 0 0 (!w.params.followText "set-order")), e, Froz.TxOk.nil (by first | rfl | decide | (simp [SetTable.fits, SetTable.fresh])), List.Pairwise.nil, ?_⟩
  cases hb : w.params.followText "set-order" with
  | true => exact .inl rfl
  | false => exact .inr rfl
/-- set(l), l a list of texts; its places are in order -/
theorem set_txts {l : Addr} {items : Array Value} {xs : List Str} {Q : Value → Shared → Prop} (hh : A.handled = none) (hl : s.heap.IsList l items) (hi : StrsAre items.toList xs) (hb : xs.length < 2000)
    (fin : ∀ h' tk ks, TxR P w h' s.heap.objs.size ks → ks.Nodup → ks.length ≤ xs.length → (∀ k, k ∈ ks ↔ k ∈ xs) → (∀ b o, s.heap.get? b = some o → h'.get? b = some o) → Q (.ref s.heap.objs.size) { s with heap := h', toks := tk }) :
    wpAny (model P w) A (call (.type "set") [.ref l]) Q E s := by
  have len : xs.length = items.size := by rw [← Array.length_toList]; exact hi.length.symm
  apply set_of_list (fun i h => ∃ ks, TxR P w h s.heap.objs.size ks ∧ ks.Nodup ∧ ks.length ≤ i ∧ ∀ k, k ∈ ks ↔ k ∈ xs.take i) hh hl
  · rintro i h h' ⟨ks, ⟨D, ho, r⟩, q⟩ k
    exact ⟨ks, ⟨D, k _ ho, r⟩, q⟩
  · exact ⟨[], txR_new withSet_get, List.nodup_nil, Nat.le_refl _, by simp⟩
  · rintro i x t B X hx ⟨ks, ⟨D, ho, F, r, hled⟩, nd, hlen, hmem⟩ go
    have hi2 : i < items.size := (Array.getElem?_eq_some_iff.mp hx).1
    obtain ⟨tk, rfl⟩ := SS.strs_at hi i x (by rw [Array.getElem?_toList]; exact hx)
    have is1 := strKind_is P w (xs.getD i Str.empty) tk
    have tak : ∀ k, k ∈ xs.take (i + 1) ↔ k ∈ xs.take i ∨ k = xs.getD i Str.empty := fun k => by
      rw [List.take_add_one, List.getD_eq_getElem?_getD, List.getElem?_eq_getElem (by omega), List.mem_append]
      simp only [Option.toList, Option.getD, List.mem_singleton]
    apply wpAny_holding
    refine wpAny_bind ((PySem.strKind P w).pyHash is1 ?_)
    generalize xs.getD i Str.empty = k at *
    by_cases hk : k ∈ ks
    · refine add_known (s := { t with toks := t.toks + 1 }) ho F hk (by unfold scanBound; omega) ?_
      exact go _ t.heap _ (Heap.SameBut.refl _ _) ⟨ks, ⟨D, ho, F, r, hled⟩, nd, by omega, fun j => by rw [tak, hmem]; exact ⟨.inl, fun z => z.elim id fun e => by subst e; exact (hmem _).mp hk⟩⟩
    · refine Froz.add_x (s := { t with toks := t.toks + 1 }) ho F hk (by unfold scanBound; omega) ?_
      obtain ⟨r2, l2⟩ := add_ris (.str k tk) (hashStr w k) r (w.params.followText "set-order") hled
      have hlt : s.heap.objs.size < t.heap.objs.size := Heap.lt_size ho
      refine go _ _ _ ?_ ⟨k :: ks, ⟨_, ?_, Froz.add_ok tk F, r2, l2⟩, List.nodup_cons.mpr ⟨hk, nd⟩, by simp; omega, fun j => by rw [tak, List.mem_cons, hmem]; exact Or.comm⟩
      · exact Heap.SameBut.update ..
      · exact Froz.get_upd _ ho rfl
  · rintro h' tk ⟨ks, R, nd, hlen, hmem⟩ k
    exact fin h' tk ks R nd (by omega) (fun j => by rw [hmem, List.take_of_length_le (by omega)]) k
theorem perm_of_sub : ∀ (l m : List Str), l.Nodup → (∀ x ∈ l, x ∈ m) → m.length ≤ l.length → l.Perm m
  | [], m, _, _, h => by
    have : m = [] := List.eq_nil_of_length_eq_zero (Nat.le_zero.mp h)
    subst this; exact .refl _
  | x :: r, m, nd, sub, h => by
    obtain ⟨h1, h2⟩ := List.nodup_cons.mp nd
    have hx := sub x (List.mem_cons_self ..)
    have hm := List.perm_cons_erase hx
    have hl := hm.length_eq
    refine (List.Perm.cons x (perm_of_sub r (m.erase x) h2 (fun y hy => ?_) ?_)).trans hm.symm
    · exact (List.mem_erase_of_ne (fun z : y = x => h1 (z ▸ hy))).mpr (sub y (List.mem_cons_of_mem _ hy))
    · simp only [List.length_cons] at hl h; omega
theorem strKind_str {P : Program} {w : World} {k : Str} {v : Value} (h : (PySem.strKind P w).is k v = true) : ∃ t, v = .str k t := by
  have h : Value.isStrOf k v = true := h
  cases v <;> simp [Value.isStrOf] at h
  subst h; exact ⟨_, rfl⟩
theorem strsAre_vals : ∀ (vs : List Value), (∀ v ∈ vs, ∃ k t, v = Value.str k t) → StrsAre vs (vs.map strOf)
  | [], _ => .nil
  | v :: r, h => by
    obtain ⟨k, t, rfl⟩ := h v (List.mem_cons_self ..)
    exact .cons k t (strsAre_vals r fun x hx => h x (List.mem_cons_of_mem _ hx))
/-- sorted of a set of texts -/
theorem sorted_txts {a : Addr} {ks : List Str} {Q : Value → Shared → Prop} (R : TxR P w s.heap a ks) (nd : ks.Nodup) (hh : A.handled = none) (h64 : ks.length < 64)
    (hQ : ∀ (s' : Shared) (p : Addr) (out : Array Value) (c : Nat) (ys : List Str), (∀ b o, s.heap.get? b = some o → s'.heap.get? b = some o) → s'.gens = s.gens → s'.os = s.os → s.heap.objs.size ≤ p →
      s'.heap.get? p = some (seqObj "list" out c) → StrsAre out.toList ys → ys.Perm ks → sortedS ys = true → Q (.ref p) s') :
    wpAny (model P w) A (call (.builtin "sorted") [.ref a]) Q E s := by
  obtain ⟨D, ho, F, r, hled⟩ := R
  have hsz : D.1.size = ks.length := F.sz
  refine Calls.call_function_entry kind_sorted plain_sorted entry_sorted (args_sorted1 _) ?_
  unfold Builtin.«sorted»
  refine wpAny_bind (m := checkCount "sorted" 1 1 _) (wpAny_pure ?_)
  refine wpAny_bind (collect_set (A := A.in1) (es := D.1) (ep := D.2.1) (t := D.2.2) hh ⟨_, ho, rfl, rfl⟩ F.fit (by unfold scanBound; omega) r hled fun s1 vs k1 hz g1 o1 pm => ?_)
  have hvl : vs.length = ks.length := by rw [pm.length_eq, List.length_map, Array.length_toList, hsz]
  have isS : ∀ v ∈ vs, ∃ k t, v = Value.str k t := fun v hv => by
    obtain ⟨e, he, q⟩ := List.mem_map.mp (pm.mem_iff.mp hv)
    obtain ⟨⟨k, hk, _⟩, _⟩ := F.el e he
    obtain ⟨t, ht⟩ := strKind_str hk
    exact ⟨k, t, by rw [← q]; exact ht⟩
  have hS := strsAre_vals vs isS
  have per : (vs.map strOf).Perm ks := (perm_of_sub ks (vs.map strOf) nd (fun x hx => by
    obtain ⟨e, he, hk⟩ := (F.mem x).mp hx
    obtain ⟨t, ht⟩ := strKind_str hk
    refine List.mem_map.mpr ⟨e.2, pm.mem_iff.mpr (List.mem_map_of_mem he), ?_⟩
    rw [ht]; rfl) (by rw [List.length_map]; omega)).symm
  refine wpAny_bind (wpAny_newList ?_ (by rw [hvl, sizeLine_eq]; omega))
  have hoL : (s1.heap.push (seqObj "list" vs.toArray 0)).get? s1.heap.objs.size = some (seqObj "list" vs.toArray 0) := Heap.get?_push_size _ rfl
  refine wpAny_bind (wpAny_holding (wpAny_call_entry slot_list_sort ⟨_, hoL, rfl⟩ entry_list_sort (list_sort_treeK strKind_oneLt hoL hS.keysOf (fun v₁ v₂ rest e => keyKind_strs (by rw [← e]; exact hS)) (by rw [hvl]; exact h64) fun st' hp hs => ⟨_, rfl, ?_⟩) (args_list_sort _)))
  obtain ⟨ys, b1, b2, b3⟩ := sorted_out_str hS hp hs
  obtain ⟨c, hc⟩ := sortedHeap_at (vs := vs) (out := (arrOf st').map (·.2)) hoL
  refine wpAny_pure ⟨_, rfl, hQ _ s1.heap.objs.size _ c ys (fun b u e => ?_) g1 o1 hz hc b1 (b2.trans per) b3⟩
  have q := k1 b u e
  have hlt := Heap.lt_size q
  show (sortedHeap (s1.heap.push (seqObj "list" vs.toArray 0)) s1.heap.objs.size vs _).get? b = some u
  rw [sortedHeap_old (Nat.ne_of_lt hlt) (by rw [size_push']; exact Nat.lt_succ_of_lt hlt)]
  exact Heap.get?_push_of_some _ q
end
/-! ### sorted(set(x)), x a list of texts -/
def tSrtSetT (K : PySem.W.Frag) (te : TE) : TE := fun σ H Q => te σ H fun v H1 => ∃ (a : Addr) (xs : List Str), v = .ref a ∧ SqL K H1 a (xs.map V.str) ∧ xs.length < 1000 ∧ (∀ ks : List Str, ks.Nodup → (∀ k, k ∈ ks ↔ k ∈ xs) → ks.length < 64) ∧
  ∀ (ys : List Str) (q : Addr), ys.Nodup → (∀ k, k ∈ ys ↔ k ∈ xs) → sortedS ys = true → H1 q = none → Q (.ref q) (upd H1 q (.lst (ys.map V.str)))
section
variable {X : Cx}
theorem pe_srtSetT {e : Expr} {te : TE} {p p2 pos pos2 : Pos} (hc : X.calm = true) (hg : Gl X "sorted") (hm : X.mg "sorted" = none) (hg2 : Gl X "set") (hm2 : X.mg "set" = none) (he : PE X e te)
    (hs : starEach [e] X.env = (false, eval e X.env) :: starEach [] X.env := by rfl)
    (hs2 : starEach [.Call (.Name "set" p2) [e] [] pos2] X.env = (false, eval (.Call (.Name "set" p2) [e] [] pos2) X.env) :: starEach [] X.env := by rfl) :
    PE X (.Call (.Name "sorted" p) [.Call (.Name "set" p2) [e] [] pos2] [] pos) (tSrtSetT X.K te) := by
  refine ⟨fun pins s σ H Q I h => ?_⟩
  refine Call_ (ld_blt (u := .builtin "sorted") I hg hm (by decide +kernel) ?_)
  refine PyProof.Rows.callWith_builtin1 (PyProof.Rows.args_cons ?_ rfl) rfl rfl
  refine Call_ (ld_blt I hg2 hm2 PyProof.Rows.boot_set ?_)
  refine PyProof.Rows.callWith_type1 (PyProof.Rows.args_cons (thn (he.run pins s σ H _ I h) fun u s1 ⟨v, H1, I1, r1, q1⟩ => PyProof.Rows.args_nil ?_) hs) hs rfl
  obtain ⟨a, xs, ev, hq, h1000, h64, q⟩ := q1
  subst ev
  obtain rfl : u = Value.ref a := r1
  obtain ⟨its, rv, p', hz⟩ := I1.list hq
  refine set_txts (I1.ok.hd hc) p'.isList (by simpa using rv.strs) (by omega) fun h' tk ks R nd hlen hmem hk => PyProof.Rows.args_nil ?_
  have I2 : Inv X pins σ H1 { s1 with heap := h', toks := tk } := I1.kept hk
  refine sorted_txts (s := { s1 with heap := h', toks := tk }) R nd (I1.ok.hd hc) (h64 ks nd hmem) fun s' pp out cc ys k g o hp hgg hi per hss => ?_
  have hlen2 : (ys.map V.str).length ≤ sizeLine := by
    have := h64 ks nd hmem
    rw [List.length_map, per.length_eq, sizeLine_eq]; omega
  have hn : H1 pp = none := I2.hok.fresh hp
  have J : Inv X pins σ (upd H1 pp (.lst (ys.map V.str))) { ({ s1 with heap := h', toks := tk } : Shared) with heap := s'.heap, gens := s'.gens, drawn := s'.drawn, toks := s'.toks } :=
    I2.call (ch := []) (Un.laid k hp hn) (I2.hok.laid k hp ⟨hlen2, out.toList, cc, vals_of_strs hi, hgg⟩) (by rw [g]; exact I2.bare) (fun _ z => nomatch z)
  have e : s' = { ({ s1 with heap := h', toks := tk } : Shared) with heap := s'.heap, gens := s'.gens, drawn := s'.drawn, toks := s'.toks } := by
    cases s'
    cases s1
    cases o
    rfl
  rw [e]
  exact ⟨.ref pp, _, J, rfl, q ys pp (per.nodup_iff.mpr nd) (fun j => by rw [per.mem_iff, hmem]) hss hn⟩
end
end DL

namespace DL
open PySem PySem.Spec PyProof.Rows L2
/-! ### texts in order, unlike -/
abbrev Tx : Type := List Nat
theorem tri : ∀ x y : Tx, x < y ∨ x = y ∨ y < x
  | [], [] => .inr (.inl rfl)
  | [], b :: s => .inl (List.nil_lt_cons ..)
  | a :: r, [] => .inr (.inr (List.nil_lt_cons ..))
  | a :: r, b :: s => by
    rcases Nat.lt_trichotomy a b with h | h | h
    · exact .inl (List.cons_lt_cons_iff.mpr (.inl h))
    · subst h
      rcases tri r s with q | q | q
      · exact .inl (List.cons_lt_cons_iff.mpr (.inr ⟨rfl, q⟩))
      · exact .inr (.inl (by rw [q]))
      · exact .inr (.inr (List.cons_lt_cons_iff.mpr (.inr ⟨rfl, q⟩)))
    · exact .inr (.inr (List.cons_lt_cons_iff.mpr (.inl h)))
theorem tlt_irr : ∀ x : Tx, ¬ x < x := fun x => List.lt_irrefl x
theorem tlt_tr {x y z : Tx} (h : x < y) (h' : y < z) : x < z := List.lt_trans h h'
def insT (x : Tx) : List Tx → List Tx
  | [] => [x]
  | y :: r => if x < y then x :: y :: r else if x = y then y :: r else y :: insT x r
def srtT : List Tx → List Tx
  | [] => []
  | x :: r => insT x (srtT r)
theorem mem_insT {x z : Tx} : ∀ {l : List Tx}, z ∈ insT x l ↔ z = x ∨ z ∈ l
  | [] => by simp [insT]
  | y :: r => by
    unfold insT
    split
    · simp
    · split
      · rename_i h; subst h; simp
      · rw [List.mem_cons, List.mem_cons, mem_insT (l := r)]
        exact ⟨fun h => h.elim (fun e => .inr (.inl e)) fun h => h.elim .inl fun e => .inr (.inr e), fun h => h.elim (fun e => .inr (.inl e)) fun h => h.elim .inl fun e => .inr (.inr e)⟩
theorem mem_srtT {z : Tx} : ∀ {l : List Tx}, z ∈ srtT l ↔ z ∈ l
  | [] => Iff.rfl
  | x :: r => by rw [srtT, mem_insT, mem_srtT (l := r), List.mem_cons]
theorem pw_insT {x : Tx} : ∀ {l : List Tx}, l.Pairwise (· < ·) → (insT x l).Pairwise (· < ·)
  | [], _ => by simp [insT]
  | y :: r, h => by
    rw [List.pairwise_cons] at h
    unfold insT
    split
    · rename_i hx
      exact List.pairwise_cons.mpr ⟨fun z hz => (List.mem_cons.mp hz).elim (fun e => e ▸ hx) fun e => tlt_tr hx (h.1 z e), List.pairwise_cons.mpr h⟩
    · split
      · exact List.pairwise_cons.mpr h
      · rename_i h1 h2
        have hy : y < x := (tri x y).elim (fun e => absurd e h1) fun e => e.elim (fun e => absurd e h2) id
        exact List.pairwise_cons.mpr ⟨fun z hz => (mem_insT.mp hz).elim (fun e => e ▸ hy) (h.1 z), pw_insT h.2⟩
theorem pw_srtT : ∀ {l : List Tx}, (srtT l).Pairwise (· < ·)
  | [] => List.Pairwise.nil
  | x :: r => pw_insT pw_srtT
theorem pw_uniqT : ∀ {l m : List Tx}, l.Pairwise (· < ·) → m.Pairwise (· < ·) → (∀ z, z ∈ l ↔ z ∈ m) → l = m
  | [], [], _, _, _ => rfl
  | [], y :: r, _, _, h => by have := (h y).mpr (List.mem_cons_self ..); cases this
  | x :: r, [], _, _, h => by have := (h x).mp (List.mem_cons_self ..); cases this
  | x :: r, y :: s, h1, h2, h => by
    rw [List.pairwise_cons] at h1 h2
    have e : x = y := by
      rcases List.mem_cons.mp ((h x).mp (List.mem_cons_self ..)) with a | a
      · exact a
      · rcases List.mem_cons.mp ((h y).mpr (List.mem_cons_self ..)) with b | b
        · exact b.symm
        · exact absurd (tlt_tr (h1.1 y b) (h2.1 x a)) (tlt_irr x)
    subst e
    rw [pw_uniqT h1.2 h2.2 fun z => ⟨fun m => (List.mem_cons.mp ((h z).mp (List.mem_cons_of_mem _ m))).elim (fun e => absurd (h1.1 x (e ▸ m)) (tlt_irr x)) id, fun m => (List.mem_cons.mp ((h z).mpr (List.mem_cons_of_mem _ m))).elim (fun e => absurd (h2.1 x (e ▸ m)) (tlt_irr x)) id⟩]
/-- what the model sorts is in order -/
theorem rising_pw : ∀ (p : Str) (l : List Str), risingS p l = true → (p :: l).Pairwise fun a b => ¬ b.cps.toList < a.cps.toList
  | p, [], _ => by simp
  | p, x :: r, h => by
    have h : (!ltCps x.cps.toList p.cps.toList && risingS x r) = true := h
    rw [Bool.and_eq_true, Bool.not_eq_true'] at h
    have ih := rising_pw x r h.2
    have h1 : ¬ x.cps.toList < p.cps.toList := by
      have := h.1
      rw [ltCps_eq, decide_eq_false_iff_not] at this; exact this
    refine List.pairwise_cons.mpr ⟨fun z hz => ?_, ih⟩
    rcases List.mem_cons.mp hz with e | e
    · rw [e]; exact h1
    · have h2 := (List.pairwise_cons.mp ih).1 z e
      intro h3
      rcases tri p.cps.toList x.cps.toList with q | q | q
      · exact h2 (tlt_tr h3 q)
      · rw [q] at h3; exact h2 h3
      · exact h1 q
theorem sorted_pw {ys : List Str} (nd : ys.Nodup) (h : sortedS ys = true) : (ys.map fun y => y.cps.toList).Pairwise (· < ·) := by
  have pw : ys.Pairwise fun a b => ¬ b.cps.toList < a.cps.toList := by
    cases ys with
    | nil => exact .nil
    | cons x r => exact rising_pw x r h
  rw [List.pairwise_map]
  refine (pw.and nd).imp fun {a b} ⟨h1, h2⟩ => ?_
  rcases tri a.cps.toList b.cps.toList with q | q | q
  · exact q
  · refine absurd ?_ h2
    obtain ⟨x⟩ := a
    obtain ⟨y⟩ := b
    have q : x.toList = y.toList := q
    rw [Array.toList_inj.mp q]
  · exact absurd q h1
end DL

namespace DL
open PySem PySem.Spec PyProof.Rows L2
theorem okS_all {G : Gx} {F : Fz} : ∀ {ss : List Tx} {vs : List V}, RpAll G F vs (ss.map .str) → ∀ s ∈ ss, okS s = true
  | s :: r, _, .cons h t, x, hx => by
    rcases List.mem_cons.mp hx with e | e
    · rw [e]; cases h with | str _ h => exact h
    · exact okS_all t x e
theorem rp_strsT {G : Gx} {F : Fz} : ∀ {ss : List Tx}, (∀ s ∈ ss, okS s = true) → RpAll G F ((ss.map tx).map V.str) (ss.map .str)
  | [], _ => .nil
  | s :: r, h => .cons (.str s (h s (List.mem_cons_self ..))) (rp_strsT fun x hx => h x (List.mem_cons_of_mem _ hx))
theorem cps_map (ks : List Str) : (ks.map fun y => y.cps.toList).map tx = ks := by
  rw [List.map_map]
  have : (tx ∘ fun y : Str => y.cps.toList) = id := funext tx_cps
  rw [this, List.map_id]
theorem cps_mem {ks : List Str} {ss : List Tx} (h : ∀ k, k ∈ ks ↔ k ∈ ss.map tx) (z : Tx) : z ∈ (ks.map fun y => y.cps.toList) ↔ z ∈ ss := by
  rw [List.mem_map]
  constructor
  · rintro ⟨k, hk, rfl⟩
    obtain ⟨s, hs, e⟩ := List.mem_map.mp ((h k).mp hk)
    rw [← e]; exact hs
  · intro hz
    exact ⟨tx z, (h _).mpr (List.mem_map_of_mem hz), rfl⟩
theorem cps_nd {ks : List Str} (nd : ks.Nodup) : (ks.map fun y => y.cps.toList).Nodup := by
  rw [List.Nodup, List.pairwise_map]
  refine nd.imp fun {a b} h e => h ?_
  rw [← tx_cps a, ← tx_cps b, e]
theorem srtT_nd (ss : List Tx) : (srtT ss).Nodup := by
  refine List.Pairwise.imp (R := (· < ·)) (fun {a b} h => ?_) (pw_srtT (l := ss))
  intro e
  subst e
  exact tlt_irr _ h
section
variable {X : Cx} {B : Hp} {W : WX}
def oSrtS (fa : Ev Opd) : Ev Ow := fun S st => (fa S st).bind fun a S st => match vw S st a with
  | some x => match asL x with
    | some ds => match strsD ds with
      | some ss => if ss.length < 1000 ∧ (srtT ss).length < 64 then .ok (.l ((srtT ss).map .str)) S st else .stuck
      | none => .stuck
    | none => .stuck
  | _ => .stuck
theorem df_srtSetT {e : Expr} {fa : Ev Opd} {p p2 pos pos2 : Pos} (hm : X.mg "sorted" = none) (hm2 : X.mg "set" = none) (he : DO X B W e fa) (hc : X.calm = true := by rfl) (hg : Gl X "sorted" := by rfl) (hg2 : Gl X "set" := by rfl)
    (hs : starEach [e] X.env = (false, eval e X.env) :: starEach [] X.env := by rfl)
    (hs2 : starEach [.Call (.Name "set" p2) [e] [] pos2] X.env = (false, eval (.Call (.Name "set" p2) [e] [] pos2) X.env) :: starEach [] X.env := by rfl) :
    DF X B W (.Call (.Name "sorted" p) [.Call (.Name "set" p2) [e] [] pos2] [] pos) (oSrtS fa) :=
  pe_imp (pe_srtSetT hc hg hm hg2 hm2 he hs hs2) fun σ H Q ⟨F, S, st, o, q⟩ => ⟨F, S, st, o, (PostF.bind (R := RO (Cx.g X) σ) q).mono fun v H1 ⟨F1, d, S1, st1, g1, o1, r1, p1⟩ => by
    split at p1
    · rename_i x hx
      split at p1
      · rename_i ds hds
        split at p1
        · rename_i ss hss
          split at p1
          · rename_i hl
            obtain ⟨a, xs, rfl, h1, h2⟩ := (o1.vw r1 hx).seqL o1.fH hds
            cases strs_eq hss
            have ok := okS_all h2
            cases rp_strs_inv h2
            refine ⟨a, ss.map tx, rfl, h1, by rw [List.length_map]; exact hl.1, fun ks nd hk => ?_, fun ys q nd hk hs hq => ?_⟩
            · have := ((List.perm_ext_iff_of_nodup (cps_nd nd) (srtT_nd ss)).mpr fun z => by rw [cps_mem hk, mem_srtT]).length_eq
              rw [List.length_map] at this
              rw [this]; exact hl.2
            · have e1 : (ys.map fun y => y.cps.toList) = srtT ss := pw_uniqT (sorted_pw nd hs) pw_srtT fun z => by rw [cps_mem hk, mem_srtT]
              have e2 : ys = (srtT ss).map tx := by rw [← e1, cps_map]
              rw [e2]
              exact p1.new o1 hq (.l (rp_strsT fun s hs => ok s (mem_srtT.mp hs)))
          · exact p1.elim
        · exact p1.elim
      · exact p1.elim
    · exact p1.elim⟩
theorem oSrtS_a (fa : Ev Opd) (S : Sls) (st : Store) : oSrtS fa S st = (fa S st).bind fun a S st => match vw S st a with
  | some x => match asL x with
    | some ds => match strsD ds with
      | some ss => if ss.length < 1000 ∧ (srtT ss).length < 64 then .ok (.l ((srtT ss).map .str)) S st else .stuck
      | none => .stuck
    | none => .stuck
  | _ => .stuck := rfl
end
end DL

namespace DL
open PySem PySem.Spec PyProof.Rows L2
/-! ### sorted(d), d a dict whose keys are texts -/
theorem rpk_keys {G : Gx} {F : Fz} : ∀ {kvs : List (Key × V)} {es : List (D × D)} {ss : List Tx}, RpK G F kvs es → es.map (·.1) = ss.map D.str → kvs.map (·.1) = (ss.map tx).map Sum.inr ∧ ∀ s ∈ ss, okS s = true
  | _, _, [], .nil, _ => ⟨rfl, fun _ h => by cases h⟩
  | _, _, _ :: _, .nil, h => by cases h
  | _, _, [], .cons .., h => by cases h
  | (k, v) :: vs, _ :: ds, s :: r, .cons ok _ t, h => by
    rw [List.map_cons, List.map_cons] at h
    obtain ⟨h1, h2⟩ := List.cons.inj h
    obtain ⟨a, b⟩ := rpk_keys t h2
    cases k with
    | inl i => cases h1
    | inr x =>
      have e : x.cps.toList = s := by
        have h1 : keyD (.inr x) = D.str s := h1
        simpa [keyD] using h1
      subst e
      refine ⟨by rw [List.map_cons, a]; rfl, fun z hz => ?_⟩
      rcases List.mem_cons.mp hz with q | q
      · rw [q]; exact ok
      · exact b z q
def rSortD : List V → Hp → VK → Prop := fun xs H Q => ∃ (a : Addr) (kvs : List (Key × V)) (ks : List Str), xs = [.ref a] ∧ Rd H a (.dK kvs) ∧ kvs.map (·.1) = ks.map Sum.inr ∧ ks.length < 64 ∧
    ∀ ys p, ys.Perm ks → sortedS ys = true → H p = none → Q (.ref p) (upd H p (.lst (ys.map V.str)))
theorem opR_sorted {X : Cx} (hc : X.calm = true) : CallR X (.builtin "sorted") rSortD := call_sortedD hc
def dSortF : List D → Option Ow
  | [.dic es] => match strsD (es.map (·.1)) with
    | some ss => if ss.length < 64 ∧ ss.Nodup then some (.l ((srtT ss).map .str)) else none
    | none => none
  | _ => none
theorem op_dSortF {G : Gx} : OpAF G rSortD dSortF := fun F H vs xs d f hv e => by
  unfold dSortF at e
  split at e
  · rename_i es
    split at e
    · rename_i ss hss
      split at e
      · rename_i hl
        cases e
        cases hv with
        | cons h t =>
          cases t
          obtain ⟨a, kvs, rfl, ha, r⟩ := vw_dic f h
          obtain ⟨e1, ok⟩ := rpk_keys r (strs_eq hss)
          intro Q q
          refine ⟨a, kvs, ss.map tx, rfl, .inl ha, e1, by rw [List.length_map]; exact hl.1, fun ys p per hs hp => ?_⟩
          have nd : ys.Nodup := per.nodup_iff.mpr (by
            rw [List.Nodup, List.pairwise_map]
            exact hl.2.imp fun {a b} h e => h (tx_inj e))
          have e2 : (ys.map fun y => y.cps.toList) = srtT ss := pw_uniqT (sorted_pw nd hs) pw_srtT fun z => by rw [cps_mem (fun k => per.mem_iff), mem_srtT]
          have e3 : ys = (srtT ss).map tx := by rw [← e2, cps_map]
          rw [e3]
          exact q p _ hp (.l (rp_strsT fun s hs => ok s (mem_srtT.mp hs)))
      · cases e
    · cases e
  · cases e
end DL

namespace DL
open PySem PySem.Spec PyProof.Rows L2
/-! ### d[k] = e, d a dict of the store whose keys are texts or numbers -/
def sPutL (fo : Ev Opd) (fv fk : Ev D) : EvS := fun S st => (fv S st).out fun d S st => (fo S st).out fun o S st => match o with
  | .h n => (fk S st).out fun k S st => match st[n]? with
    | some (.o (.k es)) => if isKey k = true ∧ es.length < 16777216 then .nx S (st.set n (.o (.k (putD es k d)))) else .stuck
    | _ => .stuck
  | _ => .stuck
/-- x[j] = d, x a list of the store -/
def setAt (fo : Ev Opd) (fj : Ev D) (d : D) : EvS := fun S st => (fo S st).out fun a S st => match a with
  | .h n => (fj S st).out fun j S st => match j, st[n]? with
    | .int k, some (.o (.l ds)) => match ixN ds.length k with
      | some j => .nx S (st.set n (.o (.l (ds.set j d))))
      | none => .stuck
    | _, _ => .stuck
  | _ => .stuck
/-- x[i], y[j] = e, e a pair -/
def sSet2 (fv : Ev D) (fo1 : Ev Opd) (fj1 : Ev D) (fo2 : Ev Opd) (fj2 : Ev D) : EvS := fun S st => (fv S st).out fun d S st => match d with
  | .tup [d1, d2] => (setAt fo1 fj1 d1 S st).then fun S st => setAt fo2 fj2 d2 S st
  | _ => .stuck
/-- list(range(n)) -/
def oRng (fa : Ev D) : Ev Ow := fun S st => (fa S st).bind fun d S st => match d with
  | .int n => if -1000000 ≤ n ∧ n ≤ 1000000 then .ok (.l (rng n.toNat 0)) S st else .stuck
  | _ => .stuck
/-- x.pop(j), x a slot's own list -/
def ePopAt (i : Nat) (fj : Ev D) : Ev D := fun S st => match S[i]? with
  | some (.own (.l _)) => (fj S st).bind fun j S st => match j, S[i]? with
    | .int k, some (.own (.l ds)) => if 0 ≤ k ∧ k < 1000000 then match ds[k.toNat]? with
        | some d => .ok d (S.set i (.own (.l (ds.eraseIdx k.toNat)))) st
        | none => .stuck
      else .stuck
    | _, _ => .stuck
  | _ => .stuck
theorem PostS.thn2 {G : Gx} {B : Hp} {W : WX} {F : Fz} {Dn : Ends} {r : Out} {k : Sls → Store → Out} (h : PostS G B W F Dn (r.then k)) :
    PostS G B W F { Dn with nx := fun σ' H' => ∃ F' S' st', Gr B F F' ∧ Ok G B F' σ' H' S' st' ∧ PostS G B W F' Dn (k S' st') } r := by
  cases r with
  | nx S st => exact fun σ' H' F' g o => ⟨F', S, st, g, o, PostS.grow g h⟩
  | ret d S st => exact h
  | bk S st => exact h
  | ct S st => exact h
  | rto w S st => exact h
  | exc x S st => exact h
  | stuck => exact h
theorem PostS.imp {G : Gx} {B : Hp} {W : WX} {F : Fz} {Dn : Ends} {r : Out} {N : L2.St → Hp → Prop} (h : PostS G B W F Dn r) (i : ∀ σ H, Dn.nx σ H → N σ H) : PostS G B W F { Dn with nx := N } r := by
  cases r with
  | nx S st => exact fun σ' H' F' g o => i _ _ (h σ' H' F' g o)
  | ret d S st => exact h
  | bk S st => exact h
  | ct S st => exact h
  | rto w S st => exact h
  | exc x S st => exact h
  | stuck => exact h
theorem RpAll.erase {G : Gx} {F : Fz} : ∀ {vs : List V} {ds : List D} (i : Nat), RpAll G F vs ds → RpAll G F (vs.eraseIdx i) (ds.eraseIdx i)
  | _, _, _, .nil => .nil
  | _, _, 0, .cons _ t => t
  | _, _, i + 1, .cons h t => .cons h (RpAll.erase i t)
theorem rp_rng (G : Gx) (F : Fz) (n : Int) : RpAll G F (rgV 0 n) (rng n.toNat 0) := by
  unfold rgV rng
  rw [Int.sub_zero]
  generalize List.range n.toNat = l
  induction l with
  | nil => exact .nil
  | cons i r ih => exact .cons (.int _) ih
section
variable {X : Cx} {B : Hp} {W : WX} {e a b a1 b1 a2 b2 : Expr} {es : List Expr} {pos p p2 pos2 : Pos}
theorem ds_putL {fo : Ev Opd} {fv fk : Ev D} {tpos : Pos} (hu : X.A.units + 1 < cLine) (ho : DO X B W a fo) (hj : DE X B W b fk) (hv : DE X B W e fv) (hs : swapsWith e (some (.Subscript a b tpos)) pos.line X.env = pure false := by rfl) :
    DS X B W (.Assign [.Subscript a b tpos] e pos) (sPutL fo fv fk) :=
  ps_imp (ps_dput hu ho hj hv hs) fun D σ H ⟨F, S, st, o, q⟩ => ⟨F, S, st, o, (Post.out (R := RD (Cx.g X) σ) q).mono fun v H1 ⟨F1, d, S1, st1, g1, o1, r1, p1⟩ =>
    ⟨F1, S1, st1, o1, (Post.out (R := RO (Cx.g X) σ) p1).mono fun ov H2 ⟨F2, ao, S2, st2, g2, o2, r2, p2⟩ => by
      split at p2
      · rename_i n
        obtain ⟨aa, ha, rfl⟩ := r2
        refine ⟨F2, S2, st2, o2, (Post.out (R := RD (Cx.g X) σ) p2).mono fun kv H3 ⟨F3, k, S3, st3, g3, o3, r3, p3⟩ => ?_⟩
        split at p3
        · rename_i es hst3
          split at p3
          · rename_i hk
            obtain ⟨hk, hl⟩ := hk
            have ha3 := pre_get g3.1.2 ha
            obtain ⟨m1, m2, u3, m3, m4⟩ := o3.so.ob n _ aa hst3 ha3
            cases m4 with
            | kK m4 =>
              obtain ⟨k', rfl, rfl, ok⟩ := rp_key r3 hk
              exact ⟨aa, _, rfl, .inl ⟨_, k', m3, rfl, by rw [m4.length, sizeLine_eq]; exact hl, rfl⟩, p3 σ _ F3 .refl (o3.updO hst3 ha3 (.kK (m4.put ok ((r1.mono g2.1).mono g3.1))))⟩
          · exact p3.elim
        · exact p3.elim
      · exact p2.elim⟩⟩
theorem setAt_lift {fo : Ev Opd} {fj : Ev D} {d : D} {v : V} {σ : L2.St} {H : Hp} {F : Fz} {S : Sls} {st : Store} {Dn : Ends} (o : Ok (Cx.g X) B F σ H S st) (r : Rp (Cx.g X) F v d) (q : PostS (Cx.g X) B W F Dn (setAt fo fj d S st)) :
    gSub (lift (Cx.g X) B W (RO (Cx.g X)) fo) (lift (Cx.g X) B W (RD (Cx.g X)) fj) rSetL v σ H Dn.nx :=
  ⟨F, S, st, o, (Post.out (R := RO (Cx.g X) σ) q).mono fun ov H2 ⟨F2, ao, S2, st2, g2, o2, r2, p2⟩ => by
    split at p2
    · rename_i n
      obtain ⟨aa, ha, rfl⟩ := r2
      refine ⟨F2, S2, st2, o2, (Post.out (R := RD (Cx.g X) σ) p2).mono fun jv H3 ⟨F3, jd, S3, st3, g3, o3, r3, p3⟩ => ?_⟩
      split at p3
      · rename_i k ds hst3
        split at p3
        · rename_i j hj
          have ha3 := pre_get g3.1.2 ha
          obtain ⟨m1, m2, u3, m3, m4⟩ := o3.so.ob n _ aa hst3 ha3
          cases m4 with
          | l m4 =>
            cases r3
            exact ⟨aa, _, k, j, rfl, rfl, m3, by rw [m4.length]; exact hj, p3 σ _ F3 .refl (o3.updO hst3 ha3 (.l (m4.set j ((r.mono g2.1).mono g3.1))))⟩
        · exact p3.elim
      · exact p3.elim
    · exact p2.elim⟩
theorem ds_set2 {fv fj1 fj2 : Ev D} {fo1 fo2 : Ev Opd} {tp tp1 tp2 : Pos} {kk : Nat} (hv : DE X B W e fv) (ho1 : DO X B W a1 fo1) (hj1 : DE X B W b1 fj1) (ho2 : DO X B W a2 fo2) (hj2 : DE X B W b2 fj2) (hc : X.calm = true := by rfl)
    (hs : swapsWithSole [.Tuple [.Subscript a1 b1 tp1, .Subscript a2 b2 tp2] kk tp] e pos.line X.env = pure false := by rfl) (hw : swappedStores [.Tuple [.Subscript a1 b1 tp1, .Subscript a2 b2 tp2] kk tp] e X.env = pure none := by rfl)
    (h1 : (assignEach [.Tuple [.Subscript a1 b1 tp1, .Subscript a2 b2 tp2] kk tp] X.env).map (·.2) = [assign (.Tuple [.Subscript a1 b1 tp1, .Subscript a2 b2 tp2] kk tp) X.env] := by rfl)
    (hn : (assignEach [.Subscript a1 b1 tp1, .Subscript a2 b2 tp2] X.env).length = 2 := by rfl) (hst : (assignEach [.Subscript a1 b1 tp1, .Subscript a2 b2 tp2] X.env).findIdx? (·.1) = none := by rfl)
    (q1 : (assignEach (.Subscript a1 b1 tp1 :: [.Subscript a2 b2 tp2]) X.env).map (·.2) = assign (.Subscript a1 b1 tp1) X.env :: (assignEach [.Subscript a2 b2 tp2] X.env).map (·.2) := by rfl)
    (q2 : (assignEach (.Subscript a2 b2 tp2 :: []) X.env).map (·.2) = assign (.Subscript a2 b2 tp2) X.env :: (assignEach [] X.env).map (·.2) := by rfl)
    (ha1 : ∀ v, assign (.Subscript a1 b1 tp1) X.env v = (do
      let ov ← holding [v] (eval a1 X.env)
      let iv ← holding [v, ov] (eval b1 X.env)
      standAt tp1
      holding [v, ov, iv] (setItem ov iv v)
      release [v, ov, iv] []) := by intro _; rfl)
    (ha2 : ∀ v, assign (.Subscript a2 b2 tp2) X.env v = (do
      let ov ← holding [v] (eval a2 X.env)
      let iv ← holding [v, ov] (eval b2 X.env)
      standAt tp2
      holding [v, ov, iv] (setItem ov iv v)
      release [v, ov, iv] []) := by intro _; rfl) :
    DS X B W (.Assign [.Tuple [.Subscript a1 b1 tp1, .Subscript a2 b2 tp2] kk tp] e pos) (sSet2 fv fo1 fj1 fo2 fj2) :=
  ps_imp (ps_asg hv (pg_tup hc (pgs_cons (pg_sub ho1 hj1 set_list ha1) (pgs_cons (pg_sub ho2 hj2 set_list ha2) pgs_nil q2) q1) hn hst) hs hw h1) fun D σ H ⟨F, S, st, o, q⟩ => ⟨F, S, st, o, (Post.out (R := RD (Cx.g X) σ) q).mono fun v H1 ⟨F1, d, S1, st1, g1, o1, r1, p1⟩ => by
    split at p1
    · rename_i d1 d2
      cases r1 with
      | @tup b _ _ t1 t2 =>
        cases t2 with
        | cons y1 t2 =>
          cases t2 with
          | cons y2 t2 =>
            cases t2
            refine ⟨b, _, rfl, same_seqT o1.fH t1, rfl, _, _, rfl, ?_⟩
            exact setAt_lift o1 y1 (p1.thn2.imp fun σ' H' ⟨F', S', st', g', o', q'⟩ => ⟨_, _, rfl, setAt_lift o' (y2.mono g'.1) (q'.imp fun σ2 H2 z => ⟨rfl, z⟩)⟩)
    · exact p1.elim⟩
theorem df_rng {fa : Ev D} (hm : X.mg "list" = none) (hm2 : X.mg "range" = none) (he : DE X B W e fa) (hc : X.calm = true := by rfl) (hg : Gl X "list" := by rfl) (hg2 : Gl X "range" := by rfl)
    (hs : starEach [e] X.env = (false, eval e X.env) :: starEach [] X.env := by rfl)
    (hs2 : starEach [.Call (.Name "range" p2) [e] [] pos2] X.env = (false, eval (.Call (.Name "range" p2) [e] [] pos2) X.env) :: starEach [] X.env := by rfl) :
    DF X B W (.Call (.Name "list" p) [.Call (.Name "range" p2) [e] [] pos2] [] pos) (oRng fa) :=
  pe_imp (pe_listRg hc hg hm (prg_1 hg2 hm2 he hs) hs2) fun σ H Q ⟨F, S, st, o, q⟩ => ⟨F, S, st, o, (PostF.bind (R := RD (Cx.g X) σ) q).mono fun v H1 ⟨F1, d, S1, st1, g1, o1, r1, p1⟩ => by
    split at p1
    · rename_i n
      split at p1
      · rename_i hn
        cases r1
        exact ⟨n, rfl, ⟨by omega, by omega, by omega, by omega, by omega⟩, fun q hq => p1.new o1 hq (.l (rp_rng _ _ n))⟩
      · exact p1.elim
    · exact p1.elim⟩
theorem de_popAt {i : Nat} {fj : Ev D} {apos cpos : Pos} (ho : PE X a (tVar i)) (h : DE X B W e fj) (hbase : attributeBase a "pop" X.env (eval a X.env) = eval a X.env := by rfl)
    (hfew : ((backTo cpos (starEach [e] X.env)).all (fun x => !x.1) && (backToKw cpos (keywordEach [] X.env)).all (fun x => x.1.isSome)
      && decide (([e] : List Expr).length + ([] : List Keyword).length + (if ([] : List Keyword).isEmpty then 0 else 1) < 30)) = true := by rfl)
    (hline : (apos.endLine == cpos.line) = true := by rfl) (hst : starEach [e] X.env = (false, eval e X.env) :: starEach [] X.env := by rfl) :
    DE X B W (.Call (.Attribute a "pop" apos) [e] [] cpos) (ePopAt i fj) :=
  pe_imp (pe_bm PySem.F.plainAttrs_list PySem.F.slot_list_pop PySem.F.type_list_pop mt_popAt ho (pa_cons h pa_nil hst) hbase hfew hline hst) fun σ H Q ⟨F, S, st, o, q⟩ => by
    unfold ePopAt at q
    split at q
    · rename_i ds0 hS0
      obtain ⟨p, u, e1, h1, h2, h3, r, _⟩ := o.sl i _ hS0
      cases r with
      | l r =>
        refine ⟨_, e1, .inl ⟨rfl, _, .inl (.inl h1)⟩, F, S, st, o, (Post.bind (R := RD (Cx.g X) σ) q).mono fun v2 H2 ⟨F2, jd, S2, st2, g2, o2, r2, p2⟩ => ?_⟩
        split at p2
        · rename_i k ds hS2
          split at p2
          · rename_i hk
            split at p2
            · rename_i d hd
              obtain ⟨p', u', e1', h1', h2', h3', r', _⟩ := o2.sl i _ hS2
              rw [e1] at e1'; cases e1'
              cases r' with
              | l r' =>
                cases r2
                obtain ⟨y, hy, ry⟩ := r'.get hd
                have hlt : k.toNat < ds.length := (List.getElem?_eq_some_iff.mp hd).1
                refine ⟨p, _, k, k.toNat, y, rfl, rfl, h1', by omega, by omega, seqIndex_of hk.1 (by rw [r'.length]; omega), hy, p2 _ _ F2 .refl (o2.chg hS2 e1 (.l (r'.erase k.toNat))) ry⟩
            · exact p2.elim
          · exact p2.elim
        · exact p2.elim
    · exact q.elim
end
end DL

namespace M
open PySem PySem.Spec PyProof.Rows L2 DL
def topS (i : Nat) : Stmt := PySem.Challenge.pw_saywell_k53_whole_roads.main.body.getD i (.Pass ⟨0, 0, 0, 0⟩)
abbrev xT : XTab := [(5651828894943638885, 5651828894943638885, true), (5651828894943638885, 6008216717068758898, true)]
abbrev s__law_cell_at : Stmt := topS 11
abbrev N__law_cell_at : List Str := ["_law_script", "_law_k"]
theorem sc__law_cell_at : FnScope N__law_cell_at ["_law_script", "_law_k"] (defScope s__law_cell_at) := ⟨rfl, rfl, rfl, by decide +kernel, rfl, by decide +kernel, by decide +kernel⟩
noncomputable def b__law_cell_at : EvS :=
   sSeq (sI (tV (o2E dLt (oV (vE 1)) (oV (oAE dLen (aC (oV (vE 0)) (aN)))))) (sR (o2E dIx (oV (vE 0)) (oV (vE 1)))) (sNil))
   (sR (kE (.int 0)))
noncomputable def c__law_cell_at : CallT := runB 2 b__law_cell_at
abbrev s__law_purse : Stmt := topS 12
abbrev N__law_purse : List Str := ["_law_script", "_law_k"]
theorem sc__law_purse : FnScope N__law_purse ["_law_script", "_law_k"] (defScope s__law_purse) := ⟨rfl, rfl, rfl, by decide +kernel, rfl, by decide +kernel, by decide +kernel⟩
noncomputable def b__law_purse : EvS :=
   sR (aE (lF (aC (oV (o2E dAdd (oV (cE c__law_cell_at (aC (oV (vE 0)) (aC (oV (vE 1)) (aN))))) (oV (vE 1)))) (aC (oV (o2E dAdd (oV (cE c__law_cell_at (aC (oV (vE 0)) (aC (oV (vE 1)) (aN))))) (oV (vE 1)))) (aN)))))
noncomputable def c__law_purse : CallT := runB 2 b__law_purse
abbrev s__law_take : Stmt := topS 13
abbrev N__law_take : List Str := ["_law_purse_here", "_law_many", "_law_number"]
theorem sc__law_take : FnScope N__law_take ["_law_purse_here", "_law_many"] (defScope s__law_take) := ⟨rfl, rfl, rfl, by decide +kernel, rfl, by decide +kernel, by decide +kernel⟩
noncomputable def R__law_take_1 : EvS :=
   sSeq (sV 2 (o2E dIx (oH (vE 0)) (oV (kE (.int 0)))))
   (sSeq (sI (tV (o2E dIsNot (oV (o2E dIx (oH (vE 0)) (oV (kE (.int 1))))) (oV (kE .non)))) (sSeq (sSetL (oH (vE 0)) (o2E dFdiv (oV (vE 2)) (oV (vE 1))) (kE (.int 0)))
   (sR (o2E dMod (oV (vE 2)) (oV (vE 1))))) (sNil))
   (sSeq (sSetL (oH (vE 0)) (o2E dMod (oV (o2E dAdd (oV (o2E dMul (oV (o2E dMod (oV (vE 2)) (oV (kE (.int 2147483647))))) (oV (kE (.int 48271))))) (oV (kE (.int 12345))))) (oV (kE (.int 2147483629)))) (kE (.int 0)))
   (sR (o2E dMod (oV (o2E dFdiv (oV (o2E dPow (oV (o2E dMod (oV (o2E dMul (oV (o2E dIx (oH (vE 0)) (oV (kE (.int 0))))) (oV (o2E dIx (oH (vE 0)) (oV (kE (.int 0))))))) (oV (kE (.int 2147483587))))) (oV (kE (.int 7))))) (oV (kE (.int 5))))) (oV (vE 1))))))
noncomputable def b__law_take : EvS :=
   sSeq (sI (tA (tV (o2E dIsNot (oV (o2E dIx (oH (vE 0)) (oV (kE (.int 1))))) (oV (kE .non)))) (tV (o2E dIn (oV (o2E dIx (oH (vE 0)) (oV (kE (.int 0))))) (oV (fE (lF (aC (oV (kE (.int 0))) (aC (oV (o1E dNeg (oV (kE (.int 1))))) (aN))))))))) (sSet2 (pE (aC (oV (o2E dIx (oH (vE 0)) (oV (kE (.int 1))))) (aC (oV (kE .non)) (aN)))) (oH (vE 0)) (kE (.int 0)) (oH (vE 0)) (kE (.int 1))) (sNil))
   (R__law_take_1)
noncomputable def c__law_take : CallT := runB 3 b__law_take
abbrev s__law_word : Stmt := topS 14
abbrev N__law_word : List Str := ["_law_purse_here", "_law_found", "_law_k"]
theorem sc__law_word : FnScope N__law_word ["_law_purse_here"] (defScope s__law_word) := ⟨rfl, rfl, rfl, by decide +kernel, rfl, by decide +kernel, by decide +kernel⟩
noncomputable def L__law_word_1 : EvS :=
   sV 1 (o2E dAdd (oV (vE 1)) (oV (o2E dIx (oV (kE (.str [97, 98, 99, 100, 101, 102, 103, 104, 105, 106, 107, 108, 109, 110, 111, 112, 113, 114, 115, 116, 117, 118, 119, 120, 121, 122]))) (oV (cE c__law_take (aC (oV (vE 0)) (aC (oV (kE (.int 26))) (aN))))))))
noncomputable def b__law_word : EvS :=
   sSeq (sV 1 (kE (.str [])))
   (sSeq (sF (iR1 (aC (oV (o2E dAdd (oV (kE (.int 1))) (oV (cE c__law_take (aC (oV (vE 0)) (aC (oV (kE (.int 8))) (aN))))))) (aN))) (gV 2) (L__law_word_1))
   (sSeq (sI (tV (o2E dEq (oV (vE 1)) (oV (kE (.str [101, 108, 115, 101]))))) (sR (kE (.str [101, 108, 115]))) (sNil))
   (sR (vE 1))))
noncomputable def c__law_word : CallT := runB 3 b__law_word
abbrev s__law_words : Stmt := topS 15
abbrev N__law_words : List Str := ["_law_purse_here", "_law_many", "_law_found", "_law_k", "_law_word_here"]
theorem sc__law_words : FnScope N__law_words ["_law_purse_here", "_law_many"] (defScope s__law_words) := ⟨rfl, rfl, rfl, by decide +kernel, rfl, by decide +kernel, by decide +kernel⟩
noncomputable def L__law_words_1 : EvS :=
   sSeq (sV 4 (cE c__law_word (aC (oV (vE 0)) (aN))))
   (sI (tA (tV (o2E dNotIn (oV (vE 4)) (oS 2))) (tV (o2E dLt (oV (oAE dLen (aC (oS 2) (aN)))) (oV (vE 1))))) (sAp 2 (oV (vE 4))) (sNil))
noncomputable def b__law_words : EvS :=
   sSeq (sO 2 (lF (aN)))
   (sSeq (sF (iR1 (aC (oV (o2E dMul (oV (kE (.int 3))) (oV (vE 1)))) (aN))) (gV 3) (L__law_words_1))
   (sR (zE 2)))
noncomputable def c__law_words : CallT := runB 5 b__law_words
abbrev s__law_falls : Stmt := topS 17
abbrev N__law_falls : List Str := ["_law_script", "_law_names", "_law_many", "_law_found", "_law_name", "_law_k", "_law_purse_here"]
theorem sc__law_falls : FnScope N__law_falls ["_law_script", "_law_names", "_law_many"] (defScope s__law_falls) := ⟨rfl, rfl, rfl, by decide +kernel, rfl, by decide +kernel, by decide +kernel⟩
noncomputable def E__law_falls_1 : Ev D :=
   aE (lF (aN))
noncomputable def L__law_falls_1 : EvS :=
   sSeq (sV 6 (cE c__law_purse (aC (oV (vE 0)) (aC (oV (vE 5)) (aN)))))
   (sApL (oH (o2E dIx (oV (vE 3)) (oV (cE c__law_take (aC (oV (vE 6)) (aC (oV (vE 2)) (aN))))))) (oV (o2E dIx (oV (vE 1)) (oV (cE c__law_take (aC (oV (vE 6)) (aC (oV (oAE dLen (aC (oV (vE 1)) (aN)))) (aN))))))))
noncomputable def b__law_falls : EvS :=
   sSeq (sV 3 (fE (lcH (oH (vE 1)) (gV 4) [4] (tY) (E__law_falls_1))))
   (sSeq (sF (iR2 (aC (oV (kE (.int 3))) (aC (oV (oAE dMax (aC (oV (kE (.int 12))) (aC (oV (oAE dMin (aC (oV (oAE dLen (aC (oV (vE 0)) (aN)))) (aC (oV (kE (.int 59))) (aN))))) (aN))))) (aN)))) (gV 5) (L__law_falls_1))
   (sR (vE 3)))
noncomputable def c__law_falls : CallT := runB 7 b__law_falls
abbrev s_House___init__ : Stmt := inClass (topS 7) 0
abbrev N_House___init__ : List Str := ["self", "kinds", "ranks", "things"]
theorem sc_House___init__ : FnScope N_House___init__ ["self", "kinds", "ranks", "things"] (defScope s_House___init__) := ⟨rfl, rfl, rfl, by decide +kernel, rfl, by decide +kernel, by decide +kernel⟩
noncomputable def b_House___init__ : EvS :=
   sSeq (sFL [311107613541] 7739838811990028151 (oH (vE 0)) (fE (oAF dListF (aC (oV (vE 1)) (aN)))))
   (sSeq (sFL [311107613541] 8241990200506609527 (oH (vE 0)) (fE (oAF dListF (aC (oV (vE 2)) (aN)))))
   (sSeq (sFL [311107613541] 2147345978593069133687 (oH (vE 0)) (fE (oAF dListF (aC (oV (vE 3)) (aN)))))
   (sSeq (sFL [311107613541] 27717998498377061 (oH (vE 0)) (aE (kF0)))
   (sSeq (sFL [311107613541] 140728466053075387167569011 (oH (vE 0)) (fE (kF0)))
   (sSeq (sFL [311107613541] 7234297693583074660 (oH (vE 0)) (fE (kF0)))
   (sFL [311107613541] 135897410560948860992451173 (oH (vE 0)) (fE (kF0))))))))
noncomputable def c_House___init__ : CallT := runB 4 b_House___init__
abbrev s_Tongue___init__ : Stmt := inClass (topS 9) 0
abbrev N_Tongue___init__ : List Str := ["self", "name", "falls", "rules", "joiners", "figures", "calendar", "dayform"]
theorem sc_Tongue___init__ : FnScope N_Tongue___init__ ["self", "name", "falls", "rules", "joiners", "figures", "calendar", "dayform"] (defScope s_Tongue___init__) := ⟨rfl, rfl, rfl, by decide +kernel, rfl, by decide +kernel, by decide +kernel⟩
noncomputable def b_Tongue___init__ : EvS :=
   sSeq (sFL [92837570377061] 1851878757 (oH (vE 0)) (vE 1))
   (sSeq (sFL [92837570377061] 439721159795 (oH (vE 0)) (fE (oAF dListF (aC (oH (vE 2)) (aN)))))
   (sSeq (sFL [92837570377061] 491596309875 (oH (vE 0)) (vE 3))
   (sSeq (sFL [92837570377061] 29958846145720947 (oH (vE 0)) (vE 4))
   (sSeq (sFL [92837570377061] 28826340697466227 (oH (vE 0)) (vE 5))
   (sSeq (sFL [92837570377061] 7161124065395368306 (oH (vE 0)) (vE 6))
   (sFL [92837570377061] 28254671708582509 (oH (vE 0)) (vE 7)))))))
noncomputable def c_Tongue___init__ : CallT := runB 8 b_Tongue___init__
abbrev s__law_tongue : Stmt := topS 16
abbrev N__law_tongue : List Str := ["_law_name", "_law_falls_here", "_law_figures", "_law_form"]
theorem sc__law_tongue : FnScope N__law_tongue ["_law_name", "_law_falls_here"] (defScope s__law_tongue) := ⟨rfl, rfl, rfl, by decide +kernel, rfl, by decide +kernel, by decide +kernel⟩
noncomputable def b__law_tongue : EvS :=
   sSeq (sV 2 (pE (aC (oV (kE (.int 3))) (aC (oV (kE (.int 3))) (aC (oV (kE (.str [44]))) (aC (oV (kE (.str [45]))) (aC (oV (kE (.str [48, 49, 50, 51, 52, 53, 54, 55, 56, 57]))) (aN))))))))
   (sSeq (sV 3 (pE (aC (oV (kE (.str [100, 109, 121]))) (aC (oV (kE (.str [46]))) (aC (oV (kE .non)) (aN))))))
   (sR (newH 92837570377061 c_Tongue___init__ (aC (oV (vE 0)) (aC (oV (vE 1)) (aC (oV (fE (lF (aC (oV (pE (aC (oV (kE (.str [97, 110, 121]))) (aC (oV (kE .non)) (aN))))) (aN))))) (aC (oV (pE (aC (oV (kE (.str []))) (aC (oV (kE (.str [32]))) (aC (oV (kE (.str [32]))) (aC (oV (kE (.str [32]))) (aN))))))) (aC (oV (vE 2)) (aC (oV (pE (aC (oV (fE (lF (aC (oV (kE (.int 30))) (aN))))) (aC (oV (kE (.int 1))) (aC (oV (pE (aC (oV (kE (.str [111, 114]))) (aC (oV (fE (lF (aN)))) (aN))))) (aN)))))) (aC (oV (vE 3)) (aN)))))))))))
noncomputable def c__law_tongue : CallT := runB 4 b__law_tongue
abbrev s_House_add : Stmt := inClass (topS 7) 1
abbrev N_House_add : List Str := ["self", "tongue"]
theorem sc_House_add : FnScope N_House_add ["self", "tongue"] (defScope s_House_add) := ⟨rfl, rfl, rfl, by decide +kernel, rfl, by decide +kernel, by decide +kernel⟩
noncomputable def b_House_add : EvS :=
   sSeq (sI (tV (o2E dInK (oV (o1E (dFld [92837570377061] 1851878757) (oH (vE 1)))) (oH (o1E (dFld [311107613541] 27717998498377061) (oH (vE 0)))))) (sX 5651828894943638885) (sNil))
   (sPutL (oH (o1E (dFld [311107613541] 27717998498377061) (oH (vE 0)))) (vE 1) (o1E (dFld [92837570377061] 1851878757) (oH (vE 1))))
noncomputable def t_add : Nat → Nat → CallT
  | 0 => fun _ => cStuck
  | k + 1 => fun c => if c = 311107613541 then runB 2 (b_House_add) else cStuck
theorem t_add_House (k : Nat) : t_add (k + 1) 311107613541 = runB 2 (b_House_add) := by simp [t_add]
abbrev s__law_house : Stmt := topS 18
abbrev N__law_house : List Str := ["_law_names", "_law_many", "_law_falls_here", "_law_purse_here", "_law_house_here", "_law_left", "_law_k"]
theorem sc__law_house : FnScope N__law_house ["_law_names", "_law_many", "_law_falls_here", "_law_purse_here"] (defScope s__law_house) := ⟨rfl, rfl, rfl, by decide +kernel, rfl, by decide +kernel, by decide +kernel⟩
noncomputable def W__law_house_1 : Ev Bool :=
   tV (o2E dNe (oS 5) (oV (fE (lF (aN)))))
noncomputable def L__law_house_1 : EvS :=
   sSeq (sV 6 (ePopAt 5 (cE c__law_take (aC (oV (vE 3)) (aC (oV (oAE dLen (aC (oS 5) (aN)))) (aN))))))
   (sE (mhE [311107613541] 6382692 (t_add 1) (vE 4) (aC (oV (cE c__law_tongue (aC (oV (o2E dIx (oV (vE 0)) (oV (vE 6)))) (aC (oV (o2E dIx (oV (vE 2)) (oV (vE 6)))) (aN))))) (aN))))
noncomputable def b__law_house : EvS :=
   sSeq (sV 4 (newH 311107613541 c_House___init__ (aC (oV (fE (lF (aC (oV (kE (.str [104, 101]))) (aN))))) (aC (oV (fE (lF (aC (oV (kE (.str [108, 111, 119]))) (aN))))) (aC (oV (fE (lF (aC (oV (kE (.str [99, 97, 116]))) (aN))))) (aN))))))
   (sSeq (sO 5 (oRng (vE 1)))
   (sSeq (sW (W__law_house_1) (L__law_house_1))
   (sR (vE 4))))
noncomputable def c__law_house : CallT := runB 7 b__law_house
abbrev s_House_tongue_named : Stmt := inClass (topS 7) 2
abbrev N_House_tongue_named : List Str := ["self", "name"]
theorem sc_House_tongue_named : FnScope N_House_tongue_named ["self", "name"] (defScope s_House_tongue_named) := ⟨rfl, rfl, rfl, by decide +kernel, rfl, by decide +kernel, by decide +kernel⟩
noncomputable def b_House_tongue_named : EvS :=
   sSeq (sI (tV (o2E dNotInK (oV (vE 1)) (oH (o1E (dFld [311107613541] 27717998498377061) (oH (vE 0)))))) (sX 5651828894943638885) (sNil))
   (sR (o2E dGetK (oH (o1E (dFld [311107613541] 27717998498377061) (oH (vE 0)))) (oV (vE 1))))
noncomputable def t_tongue_named : Nat → Nat → CallT
  | 0 => fun _ => cStuck
  | k + 1 => fun c => if c = 311107613541 then runB 2 (b_House_tongue_named) else cStuck
theorem t_tongue_named_House (k : Nat) : t_tongue_named (k + 1) 311107613541 = runB 2 (b_House_tongue_named) := by simp [t_tongue_named]
abbrev s_House_tongues : Stmt := inClass (topS 7) 11
abbrev N_House_tongues : List Str := ["self"]
theorem sc_House_tongues : FnScope N_House_tongues ["self"] (defScope s_House_tongues) := ⟨rfl, rfl, rfl, by decide +kernel, rfl, by decide +kernel, by decide +kernel⟩
noncomputable def b_House_tongues : EvS :=
   sR (fE (oAF dSortF (aC (oH (o1E (dFld [311107613541] 27717998498377061) (oH (vE 0)))) (aN))))
noncomputable def t_tongues : Nat → Nat → CallT
  | 0 => fun _ => cStuck
  | k + 1 => fun c => if c = 311107613541 then runB 1 (b_House_tongues) else cStuck
theorem t_tongues_House (k : Nat) : t_tongues (k + 1) 311107613541 = runB 1 (b_House_tongues) := by simp [t_tongues]
abbrev s_road : Stmt := topS 5
abbrev N_road : List Str := ["house", "tongue", "there", "found", "here", "name"]
theorem sc_road : FnScope N_road ["house", "tongue"] (defScope s_road) := ⟨rfl, rfl, rfl, by decide +kernel, rfl, by decide +kernel, by decide +kernel⟩
noncomputable def L_road_1 : EvS :=
   sI (tA (tV (o2E dIn (oV (vE 5)) (oV (vE 2)))) (tV (o2E dNotIn (oV (vE 5)) (oH (vE 3))))) (sApL (oH (vE 3)) (oV (vE 5))) (sNil)
noncomputable def W_road_1 : Ev Bool :=
   tV (o2E dLt (oV (vE 4)) (oV (oAE dLen (aC (oH (vE 3)) (aN)))))
noncomputable def L_road_2 : EvS :=
   sSeq (sF (iE (o1E (dFld [92837570377061] 439721159795) (oH (mhE [311107613541] 36034973274040279466295256420 (t_tongue_named 1) (vE 0) (aC (oV (o2E dIx (oH (vE 3)) (oV (vE 4)))) (aN)))))) (gV 5) (L_road_1))
   (sAug 4 dAddI (oV (kE (.int 1))))
noncomputable def b_road : EvS :=
   sSeq (sE (mhE [311107613541] 36034973274040279466295256420 (t_tongue_named 1) (vE 0) (aC (oV (vE 1)) (aN))))
   (sSeq (sV 2 (mhE [311107613541] 32773617271268723 (t_tongues 1) (vE 0) (aN)))
   (sSeq (sV 3 (aE (lF (aC (oV (vE 1)) (aN)))))
   (sSeq (sV 4 (kE (.int 0)))
   (sSeq (sW (W_road_1) (L_road_2))
   (sR (vE 3))))))
noncomputable def c_road : CallT := runB 6 b_road
abbrev s__law_next : Stmt := topS 19
abbrev N__law_next : List Str := ["_law_done", "_law_names", "_law_many", "_law_falls_here", "_law_name", "_law_other"]
theorem sc__law_next : FnScope N__law_next ["_law_done", "_law_names", "_law_many", "_law_falls_here"] (defScope s__law_next) := ⟨rfl, rfl, rfl, by decide +kernel, rfl, by decide +kernel, by decide +kernel⟩
noncomputable def L__law_next_1 : EvS :=
   sI (tA (tV (o2E dIn (oV (vE 5)) (oV (slE dSl (oV (vE 1)) (sN) (sS (vE 2)))))) (tV (o2E dNotIn (oV (vE 5)) (oV (vE 0))))) (sR (vE 5)) (sNil)
noncomputable def L__law_next_2 : EvS :=
   sF (iE (o2E dIx (oV (vE 3)) (oV (mE "list" dIndex (oV (vE 1)) (aC (oV (vE 4)) (aN)))))) (gV 5) (L__law_next_1)
noncomputable def b__law_next : EvS :=
   sSeq (sF (iE (vE 0)) (gV 4) (L__law_next_2))
   (sR (kE .non))
noncomputable def c__law_next : CallT := runB 6 b__law_next
abbrev s__law_walked : Stmt := topS 20
abbrev N__law_walked : List Str := ["_law_found", "_law_name", "_law_names", "_law_many", "_law_falls_here", "_law_k"]
theorem sc__law_walked : FnScope N__law_walked ["_law_found", "_law_name", "_law_names", "_law_many", "_law_falls_here"] (defScope s__law_walked) := ⟨rfl, rfl, rfl, by decide +kernel, rfl, by decide +kernel, by decide +kernel⟩
noncomputable def L__law_walked_1 : EvS :=
   sSeq (sI (tO (tN (tT (oV (oAE dIsI (aC (oV (o2E dIx (oV (vE 0)) (oV (vE 5)))) (aC (oV (kE (.ty "str"))) (aN))))))) (tO (tV (o2E dNotIn (oV (o2E dIx (oV (vE 0)) (oV (vE 5)))) (oV (slE dSl (oV (vE 2)) (sN) (sS (vE 3)))))) (tV (o2E dIn (oV (o2E dIx (oV (vE 0)) (oV (vE 5)))) (oV (slE dSl (oV (vE 0)) (sN) (sS (vE 5)))))))) (sR (kE (.bl false))) (sNil))
   (sI (tA (tV (o2E dGt (oV (vE 5)) (oV (kE (.int 0))))) (tV (o2E dNe (oV (o2E dIx (oV (vE 0)) (oV (vE 5)))) (oV (cE c__law_next (aC (oV (slE dSl (oV (vE 0)) (sN) (sS (vE 5)))) (aC (oV (vE 2)) (aC (oV (vE 3)) (aC (oV (vE 4)) (aN)))))))))) (sR (kE (.bl false))) (sNil))
noncomputable def b__law_walked : EvS :=
   sSeq (sI (tO (tN (tT (oV (oAE dIsI (aC (oV (vE 0)) (aC (oV (kE (.ty "list"))) (aN))))))) (tO (tV (o2E dEq (oV (vE 0)) (oV (fE (lF (aN)))))) (tV (o2E dNe (oV (o2E dIx (oV (vE 0)) (oV (kE (.int 0))))) (oV (vE 1)))))) (sR (kE (.bl false))) (sNil))
   (sSeq (sF (iR1 (aC (oV (oAE dLen (aC (oV (vE 0)) (aN)))) (aN))) (gV 5) (L__law_walked_1))
   (sR (o2E dIs (oV (cE c__law_next (aC (oV (vE 0)) (aC (oV (vE 2)) (aC (oV (vE 3)) (aC (oV (vE 4)) (aN))))))) (oV (kE .non)))))
noncomputable def c__law_walked : CallT := runB 6 b__law_walked
abbrev s__law_refused : Stmt := topS 21
abbrev N__law_refused : List Str := ["_law_house_here", "_law_name", "e"]
theorem sc__law_refused : FnScope N__law_refused ["_law_house_here", "_law_name"] (defScope s__law_refused) := ⟨rfl, rfl, rfl, by decide +kernel, rfl, by decide +kernel, by decide +kernel⟩
noncomputable def L__law_refused_1 : EvS :=
   sE (cE c_road (aC (oV (vE 0)) (aC (oV (vE 1)) (aN))))
noncomputable def X__law_refused_1 : Addr → Nat → EvS :=
   fun a c => sR (isE xT a c [(some 5651828894943638885)] 2)
noncomputable def b__law_refused : EvS :=
   sSeq (sTryA xT 6008216717068758898 2 (L__law_refused_1) (X__law_refused_1))
   (sR (kE (.bl false)))
noncomputable def c__law_refused : CallT := runB 3 b__law_refused
abbrev s_law : Stmt := topS 22
abbrev N_law : List Str := ["_law_script", "_law_names", "_law_many", "_law_falls_here", "_law_house_here", "_law_name", "_law_found", "_law_kept"]
theorem sc_law : FnScope N_law ["_law_script"] (defScope s_law) := ⟨rfl, rfl, rfl, by decide +kernel, rfl, by decide +kernel, by decide +kernel⟩
noncomputable def L_law_1 : EvS :=
   sSeq (sV 6 (cE c_road (aC (oV (vE 4)) (aC (oV (vE 5)) (aN)))))
   (sSeq (sI (tN (tT (oV (cE (look c__law_walked) (aC (oV (vE 6)) (aC (oV (vE 5)) (aC (oV (vE 1)) (aC (oV (vE 2)) (aC (oV (vE 3)) (aN)))))))))) (sR (kE (.bl false))) (sNil))
   (sSeq (sV 7 (fE (oAF dListF (aC (oH (vE 6)) (aN)))))
   (sSeq (sApL (oH (vE 6)) (oV (vE 5)))
   (sI (tV (o2L dNe (cE c_road (aC (oV (vE 4)) (aC (oV (vE 5)) (aN)))) (vE 7))) (sR (kE (.bl false))) (sNil)))))
noncomputable def E_law_1 : Ev D :=
   vE 5
noncomputable def T_law_1 : Ev Bool :=
   tN (tT (oV (cE c__law_refused (aC (oV (vE 4)) (aC (oV (vE 5)) (aN))))))
noncomputable def b_law : EvS :=
   sSeq (sV 1 (cE c__law_words (aC (oV (cE c__law_purse (aC (oV (vE 0)) (aC (oV (kE (.int 0))) (aN))))) (aC (oV (kE (.int 9))) (aN)))))
   (sSeq (sV 2 (o2E dAdd (oV (kE (.int 1))) (oV (cE c__law_take (aC (oV (cE c__law_purse (aC (oV (vE 0)) (aC (oV (kE (.int 1))) (aN))))) (aC (oV (kE (.int 8))) (aN)))))))
   (sSeq (sI (tV (o2E dGt (oV (vE 2)) (oV (oAE dLen (aC (oV (vE 1)) (aN)))))) (sV 2 (oAE dLen (aC (oV (vE 1)) (aN)))) (sNil))
   (sSeq (sV 3 (cE c__law_falls (aC (oV (vE 0)) (aC (oV (vE 1)) (aC (oV (vE 2)) (aN))))))
   (sSeq (sV 4 (cE c__law_house (aC (oV (vE 1)) (aC (oV (vE 2)) (aC (oV (vE 3)) (aC (oV (cE c__law_purse (aC (oV (vE 0)) (aC (oV (kE (.int 2))) (aN))))) (aN)))))))
   (sSeq (sF (iE (slE dSl (oV (vE 1)) (sN) (sS (vE 2)))) (gV 5) (L_law_1))
   (sR (o2E dEq (oV (fE (lcF (iE (slE dSl (oV (vE 1)) (sS (vE 2)) (sN))) (gV 5) [5] (T_law_1) (E_law_1)))) (oV (fE (lF (aN)))))))))))
noncomputable def c_law : CallT := runB 8 b_law
section
variable {P : Program} {w : World} {K : PySem.W.Frag} {mg : Str → Option Value} {base : Heap}
theorem ok__law_cell_at (hB : Bl mg) (hT : XT K mg xT) {f : Addr} {fd : FuncData} (F : Fun K "_law_cell_at" "_law_cell_at" s__law_cell_at f fd) (hm : mg "_law_cell_at" = some (.ref f)) : Def P w K mg base 2 "_law_cell_at" 2 c__law_cell_at :=
  def_ok (N := N__law_cell_at) (ps := ["_law_script", "_law_k"]) F sc__law_cell_at (F.binds (ps := ["_law_script", "_law_k"]) fun _ _ _ _ _ _ us hl => match us, hl with | [_, _], _ => rfl) hm fun B cdv A outer s H E W hr tk pw => by
    have hu := hr.units
    have hu5 : (A.deeper (envOfC "_law_cell_at" (defScope s__law_cell_at) s.heap.objs.size f cdv)).units + 65 < cLine := by have := hr.un; omega
    exact (dss_c (ds_i (dt_cmp opR_lt op_dCmp (do_v (de_v (pv 1))) (do_v (de_cb call_len op_dLen hB.len (da_c (do_v (de_v (pv 0))) da_n))) (nomark _)) (dss_1 (ds_r (de_ix ix_seq op_dIx (do_v (de_v (pv 0))) (do_v (de_v (pv 1)))))) dss_n)
   (dss_1 (ds_r de_int)))
theorem ok__law_purse (hB : Bl mg) (hT : XT K mg xT) {f : Addr} {fd : FuncData} (F : Fun K "_law_purse" "_law_purse" s__law_purse f fd) (hm : mg "_law_purse" = some (.ref f)) (d__law_cell_at : Def P w K mg base 2 "_law_cell_at" 2 c__law_cell_at) : Def P w K mg base 3 "_law_purse" 2 c__law_purse :=
  def_ok (N := N__law_purse) (ps := ["_law_script", "_law_k"]) F sc__law_purse (F.binds (ps := ["_law_script", "_law_k"]) fun _ _ _ _ _ _ us hl => match us, hl with | [_, _], _ => rfl) hm fun B cdv A outer s H E W hr tk pw => by
    have hu := hr.units
    have hu5 : (A.deeper (envOfC "_law_purse" (defScope s__law_purse) s.heap.objs.size f cdv)).units + 65 < cLine := by have := hr.un; omega
    have d__law_cell_at := d__law_cell_at.mono (j := 2) (by omega)
    exact (dss_1 (ds_r (de_al (df_l (da_c (do_v (de_bin opR_add op_dAdd (do_v (de_c d__law_cell_at hr tk (da_c (do_v (de_v (pv 0))) (da_c (do_v (de_v (pv 1))) da_n)))) (do_v (de_v (pv 1))))) (da_c (do_v (de_bin opR_add op_dAdd (do_v (de_c d__law_cell_at hr tk (da_c (do_v (de_v (pv 0))) (da_c (do_v (de_v (pv 1))) da_n)))) (do_v (de_v (pv 1))))) da_n))))))
theorem ok__law_take (hB : Bl mg) (hT : XT K mg xT) {f : Addr} {fd : FuncData} (F : Fun K "_law_take" "_law_take" s__law_take f fd) (hm : mg "_law_take" = some (.ref f)) : Def P w K mg base 2 "_law_take" 2 c__law_take :=
  def_ok (N := N__law_take) (ps := ["_law_purse_here", "_law_many"]) F sc__law_take (F.binds (ps := ["_law_purse_here", "_law_many"]) fun _ _ _ _ _ _ us hl => match us, hl with | [_, _], _ => rfl) hm fun B cdv A outer s H E W hr tk pw => by
    have hu := hr.units
    have hu5 : (A.deeper (envOfC "_law_take" (defScope s__law_take) s.heap.objs.size f cdv)).units + 65 < cLine := by have := hr.un; omega
    exact (dss_c (ds_i (dt_w (dw_a (dt_cmp opR_isNot op_dIsNot (do_v (de_ix ix_seq op_dIx (do_h (de_v (pv 0))) (do_v de_int))) (do_v de_non) (nomark _)) (dw_1a (dt_cmp (opR_in hu5) op_dIn (do_v (de_ix ix_seq op_dIx (do_h (de_v (pv 0))) (do_v de_int))) (do_v (de_f (df_l (da_c (do_v de_int) (da_c (do_v (de_un un_neg op_dNeg (do_v de_int))) da_n))))) (by with_unfolding_all rfl))))) (dss_1 (ds_set2 (de_p (da_c (do_v (de_ix ix_seq op_dIx (do_h (de_v (pv 0))) (do_v de_int))) (da_c (do_v de_non) da_n))) (do_h (de_v (pv 0))) de_int (do_h (de_v (pv 0))) de_int)) dss_n)
   (dss_c (ds_v (i := 2) sc__law_take.nd (de_ix ix_seq op_dIx (do_h (de_v (pv 0))) (do_v de_int)))
   (dss_c (ds_i (dt_cmp opR_isNot op_dIsNot (do_v (de_ix ix_seq op_dIx (do_h (de_v (pv 0))) (do_v de_int))) (do_v de_non) (nomark _)) (dss_c (ds_setL (do_h (de_v (pv 0))) de_int (de_bin op_fdivW op_dFdiv (do_v (de_v (pv 2))) (do_v (de_v (pv 1)))))
   (dss_1 (ds_r (de_bin op_mod op_dMod (do_v (de_v (pv 2))) (do_v (de_v (pv 1))))))) dss_n)
   (dss_c (ds_setL (do_h (de_v (pv 0))) de_int (de_bin op_mod op_dMod (do_v (de_bin opR_add op_dAdd (do_v (de_bin opR_mul op_dMul (do_v (de_bin op_mod op_dMod (do_v (de_v (pv 2))) (do_v de_int))) (do_v de_int))) (do_v de_int))) (do_v de_int)))
   (dss_1 (ds_r (de_bin op_mod op_dMod (do_v (de_bin op_fdivW op_dFdiv (do_v (de_bin op_powW op_dPow (do_v (de_bin op_mod op_dMod (do_v (de_bin opR_mul op_dMul (do_v (de_ix ix_seq op_dIx (do_h (de_v (pv 0))) (do_v de_int))) (do_v (de_ix ix_seq op_dIx (do_h (de_v (pv 0))) (do_v de_int))))) (do_v de_int))) (do_v de_int))) (do_v de_int))) (do_v (de_v (pv 1))))))))))
theorem ok__law_word (hB : Bl mg) (hT : XT K mg xT) {f : Addr} {fd : FuncData} (F : Fun K "_law_word" "_law_word" s__law_word f fd) (hm : mg "_law_word" = some (.ref f)) (d__law_take : Def P w K mg base 2 "_law_take" 2 c__law_take) : Def P w K mg base 3 "_law_word" 1 c__law_word :=
  def_ok (N := N__law_word) (ps := ["_law_purse_here"]) F sc__law_word (F.binds (ps := ["_law_purse_here"]) fun _ _ _ _ _ _ us hl => match us, hl with | [_], _ => rfl) hm fun B cdv A outer s H E W hr tk pw => by
    have hu := hr.units
    have hu5 : (A.deeper (envOfC "_law_word" (defScope s__law_word) s.heap.objs.size f cdv)).units + 65 < cLine := by have := hr.un; omega
    have d__law_take := d__law_take.mono (j := 2) (by omega)
    exact (dss_c (ds_v (i := 1) sc__law_word.nd (de_str []))
   (dss_c (ds_f pw rfl (di_r1 hB.range (da_c (do_v (de_bin opR_add op_dAdd (do_v de_int) (do_v (de_c d__law_take hr tk (da_c (do_v (de_v (pv 0))) (da_c (do_v de_int) da_n)))))) da_n)) (dg_v (i := 2) sc__law_word.nd) (dss_1 (ds_v (i := 1) sc__law_word.nd (de_bin opR_add op_dAdd (do_v (de_v (pv 1))) (do_v (de_ix ix_seq op_dIx (do_v (de_str [97, 98, 99, 100, 101, 102, 103, 104, 105, 106, 107, 108, 109, 110, 111, 112, 113, 114, 115, 116, 117, 118, 119, 120, 121, 122])) (do_v (de_c d__law_take hr tk (da_c (do_v (de_v (pv 0))) (da_c (do_v de_int) da_n))))))))))
   (dss_c (ds_i (dt_cmp (op_eqD hu) op_dEq (do_v (de_v (pv 1))) (do_v (de_str [101, 108, 115, 101])) (nomark _)) (dss_1 (ds_r (de_str [101, 108, 115]))) dss_n)
   (dss_1 (ds_r (de_v (pv 1)))))))
theorem ok__law_words (hB : Bl mg) (hT : XT K mg xT) {f : Addr} {fd : FuncData} (F : Fun K "_law_words" "_law_words" s__law_words f fd) (hm : mg "_law_words" = some (.ref f)) (d__law_word : Def P w K mg base 3 "_law_word" 1 c__law_word) : Def P w K mg base 4 "_law_words" 2 c__law_words :=
  def_ok (N := N__law_words) (ps := ["_law_purse_here", "_law_many"]) F sc__law_words (F.binds (ps := ["_law_purse_here", "_law_many"]) fun _ _ _ _ _ _ us hl => match us, hl with | [_, _], _ => rfl) hm fun B cdv A outer s H E W hr tk pw => by
    have hu := hr.units
    have hu5 : (A.deeper (envOfC "_law_words" (defScope s__law_words) s.heap.objs.size f cdv)).units + 65 < cLine := by have := hr.un; omega
    have d__law_word := d__law_word.mono (j := 3) (by omega)
    exact (dss_c (ds_o (i := 2) sc__law_words.nd (df_l da_n))
   (dss_c (ds_f pw rfl (di_r1 hB.range (da_c (do_v (de_bin opR_mul op_dMul (do_v de_int) (do_v (de_v (pv 1))))) da_n)) (dg_v (i := 3) sc__law_words.nd) (dss_c (ds_v (i := 4) sc__law_words.nd (de_c d__law_word hr tk (da_c (do_v (de_v (pv 0))) da_n)))
   (dss_1 (ds_i (dt_w (dw_a (dt_cmp (opR_notIn hu5) op_dNotIn (do_v (de_v (pv 4))) (do_s (pv 2)) (by with_unfolding_all rfl)) (dw_1a (dt_cmp opR_lt op_dCmp (do_v (de_cb call_len op_dLen hB.len (da_c (do_s (pv 2)) da_n))) (do_v (de_v (pv 1))) (nomark _))))) (dss_1 (ds_ap (pv 2) (do_v (de_v (pv 4))))) dss_n))))
   (dss_1 (ds_r (de_z (pv 2))))))
theorem ok__law_falls (hB : Bl mg) (hT : XT K mg xT) {f : Addr} {fd : FuncData} (F : Fun K "_law_falls" "_law_falls" s__law_falls f fd) (hm : mg "_law_falls" = some (.ref f)) (d__law_purse : Def P w K mg base 3 "_law_purse" 2 c__law_purse) (d__law_take : Def P w K mg base 2 "_law_take" 2 c__law_take) : Def P w K mg base 4 "_law_falls" 3 c__law_falls :=
  def_ok (N := N__law_falls) (ps := ["_law_script", "_law_names", "_law_many"]) F sc__law_falls (F.binds (ps := ["_law_script", "_law_names", "_law_many"]) fun _ _ _ _ _ _ us hl => match us, hl with | [_, _, _], _ => rfl) hm fun B cdv A outer s H E W hr tk pw => by
    have hu := hr.units
    have hu5 : (A.deeper (envOfC "_law_falls" (defScope s__law_falls) s.heap.objs.size f cdv)).units + 65 < cLine := by have := hr.un; omega
    have d__law_purse := d__law_purse.mono (j := 3) (by omega)
    have d__law_take := d__law_take.mono (j := 3) (by omega)
    exact (dss_c (ds_vlcH (i := 3) [("_law_name", 4)] rfl sc__law_falls.nd (blkOk_by (N := N__law_falls) (sc := defScope s__law_falls) (by decide +kernel)) (do_h (de_v (pv 1))) (tgB_v (by decide)) (fun _ _ _ _ _ => (pg_name (i := 4) sc__law_falls.nd rfl (Or.inl rfl) (by first | exact .inl rfl | exact .inr rfl))) (fun _ _ _ _ _ _ => dts_n) (fun _ _ _ _ _ _ => (de_al (df_l da_n))))
   (dss_c (ds_f pw rfl (di_r2 hB.range (da_c (do_v de_int) (da_c (do_v (de_cb (call_max2 rfl) op_dMax hB.max (da_c (do_v de_int) (da_c (do_v (de_cb (call_min2 rfl) op_dMin hB.min (da_c (do_v (de_cb call_len op_dLen hB.len (da_c (do_v (de_v (pv 0))) da_n))) (da_c (do_v de_int) da_n)))) da_n)))) da_n))) (dg_v (i := 5) sc__law_falls.nd) (dss_c (ds_v (i := 6) sc__law_falls.nd (de_c d__law_purse hr tk (da_c (do_v (de_v (pv 0))) (da_c (do_v (de_v (pv 5))) da_n))))
   (dss_1 (ds_apL (do_h (de_ix ix_seq op_dIx (do_v (de_v (pv 3))) (do_v (de_c d__law_take hr tk (da_c (do_v (de_v (pv 6))) (da_c (do_v (de_v (pv 2))) da_n)))))) (do_v (de_ix ix_seq op_dIx (do_v (de_v (pv 1))) (do_v (de_c d__law_take hr tk (da_c (do_v (de_v (pv 6))) (da_c (do_v (de_cb call_len op_dLen hB.len (da_c (do_v (de_v (pv 1))) da_n))) da_n))))))))))
   (dss_1 (ds_r (de_v (pv 3))))))
theorem ok_House___init__ (hB : Bl mg) (hT : XT K mg xT) {f : Addr} {fd : FuncData} (F : Fun K "__init__" "House.__init__" s_House___init__ f fd) (hF_kind_row : ClsF K mg [311107613541] "kind_row") (hF_rank_row : ClsF K mg [311107613541] "rank_row") (hF_thing_row : ClsF K mg [311107613541] "thing_row") (hF_by_name : ClsF K mg [311107613541] "by_name") (hF_thing_texts : ClsF K mg [311107613541] "thing_texts") (hF_declared : ClsF K mg [311107613541] "declared") (hF_pieces_here : ClsF K mg [311107613541] "pieces_here") : FnOk P w K mg base (L2.CX P w) 2 f fd ["self", "kinds", "ranks", "things"] (spOf ⟨K, mg, w⟩ 4 c_House___init__) :=
  fn_ok (N := N_House___init__) (ps := ["self", "kinds", "ranks", "things"]) (k := 1) F sc_House___init__ fun B cdv A outer s H E W hr tk pw => by
    have hu := hr.units
    have hu5 : (A.deeper (envOfC "House.__init__" (defScope s_House___init__) s.heap.objs.size f cdv)).units + 65 < cLine := by have := hr.un; omega
    exact (dss_c (ds_fldL [311107613541] 7739838811990028151 (by decide +kernel) (by decide +kernel) hF_kind_row (do_h (de_v (pv 0))) (de_f (df_ct call_list_of op_dListF hB.list (da_c (do_v (de_v (pv 1))) da_n))))
   (dss_c (ds_fldL [311107613541] 8241990200506609527 (by decide +kernel) (by decide +kernel) hF_rank_row (do_h (de_v (pv 0))) (de_f (df_ct call_list_of op_dListF hB.list (da_c (do_v (de_v (pv 2))) da_n))))
   (dss_c (ds_fldL [311107613541] 2147345978593069133687 (by decide +kernel) (by decide +kernel) hF_thing_row (do_h (de_v (pv 0))) (de_f (df_ct call_list_of op_dListF hB.list (da_c (do_v (de_v (pv 3))) da_n))))
   (dss_c (ds_fldL [311107613541] 27717998498377061 (by decide +kernel) (by decide +kernel) hF_by_name (do_h (de_v (pv 0))) (de_al df_k0))
   (dss_c (ds_fldL [311107613541] 140728466053075387167569011 (by decide +kernel) (by decide +kernel) hF_thing_texts (do_h (de_v (pv 0))) (de_f df_k0))
   (dss_c (ds_fldL [311107613541] 7234297693583074660 (by decide +kernel) (by decide +kernel) hF_declared (do_h (de_v (pv 0))) (de_f df_k0))
   (dss_1 (ds_fldL [311107613541] 135897410560948860992451173 (by decide +kernel) (by decide +kernel) hF_pieces_here (do_h (de_v (pv 0))) (de_f df_k0)))))))))
theorem ok_Tongue___init__ (hB : Bl mg) (hT : XT K mg xT) {f : Addr} {fd : FuncData} (F : Fun K "__init__" "Tongue.__init__" s_Tongue___init__ f fd) (hF_name : ClsF K mg [92837570377061] "name") (hF_falls : ClsF K mg [92837570377061] "falls") (hF_rules : ClsF K mg [92837570377061] "rules") (hF_joiners : ClsF K mg [92837570377061] "joiners") (hF_figures : ClsF K mg [92837570377061] "figures") (hF_calendar : ClsF K mg [92837570377061] "calendar") (hF_dayform : ClsF K mg [92837570377061] "dayform") : FnOk P w K mg base (L2.CX P w) 2 f fd ["self", "name", "falls", "rules", "joiners", "figures", "calendar", "dayform"] (spOf ⟨K, mg, w⟩ 8 c_Tongue___init__) :=
  fn_ok (N := N_Tongue___init__) (ps := ["self", "name", "falls", "rules", "joiners", "figures", "calendar", "dayform"]) (k := 1) F sc_Tongue___init__ fun B cdv A outer s H E W hr tk pw => by
    have hu := hr.units
    have hu5 : (A.deeper (envOfC "Tongue.__init__" (defScope s_Tongue___init__) s.heap.objs.size f cdv)).units + 65 < cLine := by have := hr.un; omega
    exact (dss_c (ds_fldL [92837570377061] 1851878757 (by decide +kernel) (by decide +kernel) hF_name (do_h (de_v (pv 0))) (de_v (pv 1)))
   (dss_c (ds_fldL [92837570377061] 439721159795 (by decide +kernel) (by decide +kernel) hF_falls (do_h (de_v (pv 0))) (de_f (df_ct call_list_of op_dListF hB.list (da_c (do_h (de_v (pv 2))) da_n))))
   (dss_c (ds_fldL [92837570377061] 491596309875 (by decide +kernel) (by decide +kernel) hF_rules (do_h (de_v (pv 0))) (de_v (pv 3)))
   (dss_c (ds_fldL [92837570377061] 29958846145720947 (by decide +kernel) (by decide +kernel) hF_joiners (do_h (de_v (pv 0))) (de_v (pv 4)))
   (dss_c (ds_fldL [92837570377061] 28826340697466227 (by decide +kernel) (by decide +kernel) hF_figures (do_h (de_v (pv 0))) (de_v (pv 5)))
   (dss_c (ds_fldL [92837570377061] 7161124065395368306 (by decide +kernel) (by decide +kernel) hF_calendar (do_h (de_v (pv 0))) (de_v (pv 6)))
   (dss_1 (ds_fldL [92837570377061] 28254671708582509 (by decide +kernel) (by decide +kernel) hF_dayform (do_h (de_v (pv 0))) (de_v (pv 7))))))))))
theorem ok__law_tongue (hB : Bl mg) (hT : XT K mg xT) {f : Addr} {fd : FuncData} (F : Fun K "_law_tongue" "_law_tongue" s__law_tongue f fd) (hm : mg "_law_tongue" = some (.ref f)) (dN_Tongue : IDefS P w K mg base 2 "Tongue" 92837570377061 7 c_Tongue___init__) : Def P w K mg base 4 "_law_tongue" 2 c__law_tongue :=
  def_ok (N := N__law_tongue) (ps := ["_law_name", "_law_falls_here"]) F sc__law_tongue (F.binds (ps := ["_law_name", "_law_falls_here"]) fun _ _ _ _ _ _ us hl => match us, hl with | [_, _], _ => rfl) hm fun B cdv A outer s H E W hr tk pw => by
    have hu := hr.units
    have hu5 : (A.deeper (envOfC "_law_tongue" (defScope s__law_tongue) s.heap.objs.size f cdv)).units + 65 < cLine := by have := hr.un; omega
    exact (dss_c (ds_v (i := 2) sc__law_tongue.nd (de_p (da_c (do_v de_int) (da_c (do_v de_int) (da_c (do_v (de_str [44])) (da_c (do_v (de_str [45])) (da_c (do_v (de_str [48, 49, 50, 51, 52, 53, 54, 55, 56, 57])) da_n)))))))
   (dss_c (ds_v (i := 3) sc__law_tongue.nd (de_p (da_c (do_v (de_str [100, 109, 121])) (da_c (do_v (de_str [46])) (da_c (do_v de_non) da_n)))))
   (dss_1 (ds_r (de_newH dN_Tongue (hr.mono (by omega)) (da_c (do_v (de_v (pv 0))) (da_c (do_v (de_v (pv 1))) (da_c (do_v (de_f (df_l (da_c (do_v (de_p (da_c (do_v (de_str [97, 110, 121])) (da_c (do_v de_non) da_n)))) da_n)))) (da_c (do_v (de_p (da_c (do_v (de_str [])) (da_c (do_v (de_str [32])) (da_c (do_v (de_str [32])) (da_c (do_v (de_str [32])) da_n)))))) (da_c (do_v (de_v (pv 2))) (da_c (do_v (de_p (da_c (do_v (de_f (df_l (da_c (do_v de_int) da_n)))) (da_c (do_v de_int) (da_c (do_v (de_p (da_c (do_v (de_str [111, 114])) (da_c (do_v (de_f (df_l da_n))) da_n)))) da_n))))) (da_c (do_v (de_v (pv 3))) da_n))))))))))))
theorem ok_House_add (hB : Bl mg) (hT : XT K mg xT) {f : Addr} {fd : FuncData} (F : Fun K "add" "House.add" s_House_add f fd) (hF_name : ClsF K mg [92837570377061] "name") (hF_by_name : ClsF K mg [311107613541] "by_name") {k : Nat} (hrec : MDef P w K mg base (2 + k) "add" 2 [311107613541] (t_add k)) : FnOk P w K mg base (L2.CX P w) (2 + k + 1) f fd ["self", "tongue"] (spOf ⟨K, mg, w⟩ 2 (runB 2 (b_House_add))) :=
  fn_ok (N := N_House_add) (ps := ["self", "tongue"]) (k := 2 + k) F sc_House_add fun B cdv A outer s H E W hr tk pw => by
    have hu := hr.units
    have hu5 : (A.deeper (envOfC "House.add" (defScope s_House_add) s.heap.objs.size f cdv)).units + 65 < cLine := by have := hr.un; omega
    exact (dss_c (ds_i (dt_cmp (opR_inK (Nat.lt_of_le_of_lt (Nat.add_le_add_left (by decide : 1 ≤ 65) _) hu5)) op_dInK (do_v (de_fld [92837570377061] 1851878757 (by decide +kernel) (by decide +kernel) hF_name (do_h (de_v (pv 1))))) (do_h (de_fld [311107613541] 27717998498377061 (by decide +kernel) (by decide +kernel) hF_by_name (do_h (de_v (pv 0))))) (by with_unfolding_all rfl)) (dss_1 (ds_raise hT (by decide +kernel) (by decide +kernel) tk)) dss_n)
   (dss_1 (ds_putL (Nat.lt_of_le_of_lt (Nat.add_le_add_left (by decide : 1 ≤ 65) _) hu5) (do_h (de_fld [311107613541] 27717998498377061 (by decide +kernel) (by decide +kernel) hF_by_name (do_h (de_v (pv 0))))) (de_fld [92837570377061] 1851878757 (by decide +kernel) (by decide +kernel) hF_name (do_h (de_v (pv 1)))) (de_v (pv 1)))))
theorem okm_add (hB : Bl mg) (hT : XT K mg xT) (hF_name : ClsF K mg [92837570377061] "name") (hF_by_name : ClsF K mg [311107613541] "by_name") {f_House : Addr} {fd_House : FuncData} (F_House : Fun K "add" "House.add" s_House_add f_House fd_House) {C_House : Addr} (hC_House : mg (nmS 311107613541) = some (.ref C_House)) (cl_House : Cls K C_House) (mt_House : Meth K C_House "add" f_House) : ∀ k, MDef P w K mg base (2 + k) "add" 2 [311107613541] (t_add k)
  | 0 => (.cons hC_House cl_House mt_House (fn_stuck (k := 1) F_House sc_House_add) (F_House.binds (ps := ["self", "tongue"]) fun _ _ _ _ _ _ us hl => match us, hl with | [_, _], _ => rfl) .nil)
  | k + 1 => by
    have hrec := okm_add hB hT hF_name hF_by_name F_House hC_House cl_House mt_House k
    exact (.cons hC_House cl_House mt_House (by rw [t_add_House]; exact ok_House_add hB hT F_House hF_name hF_by_name hrec) (F_House.binds (ps := ["self", "tongue"]) fun _ _ _ _ _ _ us hl => match us, hl with | [_, _], _ => rfl) .nil)
theorem ok__law_house (hB : Bl mg) (hT : XT K mg xT) {f : Addr} {fd : FuncData} (F : Fun K "_law_house" "_law_house" s__law_house f fd) (hm : mg "_law_house" = some (.ref f)) (dN_House : IDefS P w K mg base 2 "House" 311107613541 3 c_House___init__) (d__law_take : Def P w K mg base 2 "_law_take" 2 c__law_take) (d__law_tongue : Def P w K mg base 4 "_law_tongue" 2 c__law_tongue) (dM_add : MDef P w K mg base 3 "add" 2 [311107613541] (t_add 1)) : Def P w K mg base 5 "_law_house" 4 c__law_house :=
  def_ok (N := N__law_house) (ps := ["_law_names", "_law_many", "_law_falls_here", "_law_purse_here"]) F sc__law_house (F.binds (ps := ["_law_names", "_law_many", "_law_falls_here", "_law_purse_here"]) fun _ _ _ _ _ _ us hl => match us, hl with | [_, _, _, _], _ => rfl) hm fun B cdv A outer s H E W hr tk pw => by
    have hu := hr.units
    have hu5 : (A.deeper (envOfC "_law_house" (defScope s__law_house) s.heap.objs.size f cdv)).units + 65 < cLine := by have := hr.un; omega
    have d__law_take := d__law_take.mono (j := 4) (by omega)
    have d__law_tongue := d__law_tongue.mono (j := 4) (by omega)
    have dM_add := dM_add.mono (j := 4) (by omega)
    exact (dss_c (ds_v (i := 4) sc__law_house.nd (de_newH dN_House (hr.mono (by omega)) (da_c (do_v (de_f (df_l (da_c (do_v (de_str [104, 101])) da_n)))) (da_c (do_v (de_f (df_l (da_c (do_v (de_str [108, 111, 119])) da_n)))) (da_c (do_v (de_f (df_l (da_c (do_v (de_str [99, 97, 116])) da_n)))) da_n)))))
   (dss_c (ds_o (i := 5) sc__law_house.nd (df_rng hB.list hB.range (de_v (pv 1))))
   (dss_c (ds_w pw (dt_cmp (op_neD hu) op_dNe (do_s (pv 5)) (do_v (de_f (df_l da_n))) (nomark _)) (dss_c (ds_v (i := 6) sc__law_house.nd (de_popAt (pv 5) (de_c d__law_take hr tk (da_c (do_v (de_v (pv 3))) (da_c (do_v (de_cb call_len op_dLen hB.len (da_c (do_s (pv 5)) da_n))) da_n)))))
   (dss_1 (ds_e (de_mh (by decide +kernel) (by decide +kernel) dM_add hr tk (de_v (pv 4)) (da_c (do_v (de_c d__law_tongue hr tk (da_c (do_v (de_ix ix_seq op_dIx (do_v (de_v (pv 0))) (do_v (de_v (pv 6))))) (da_c (do_v (de_ix ix_seq op_dIx (do_v (de_v (pv 2))) (do_v (de_v (pv 6))))) da_n)))) da_n))))))
   (dss_1 (ds_r (de_v (pv 4)))))))
theorem ok_House_tongue_named (hB : Bl mg) (hT : XT K mg xT) {f : Addr} {fd : FuncData} (F : Fun K "tongue_named" "House.tongue_named" s_House_tongue_named f fd) (hF_by_name : ClsF K mg [311107613541] "by_name") {k : Nat} (hrec : MDef P w K mg base (2 + k) "tongue_named" 2 [311107613541] (t_tongue_named k)) : FnOk P w K mg base (L2.CX P w) (2 + k + 1) f fd ["self", "name"] (spOf ⟨K, mg, w⟩ 2 (runB 2 (b_House_tongue_named))) :=
  fn_ok (N := N_House_tongue_named) (ps := ["self", "name"]) (k := 2 + k) F sc_House_tongue_named fun B cdv A outer s H E W hr tk pw => by
    have hu := hr.units
    have hu5 : (A.deeper (envOfC "House.tongue_named" (defScope s_House_tongue_named) s.heap.objs.size f cdv)).units + 65 < cLine := by have := hr.un; omega
    exact (dss_c (ds_i (dt_cmp (opR_notInK (Nat.lt_of_le_of_lt (Nat.add_le_add_left (by decide : 1 ≤ 65) _) hu5)) op_dNotInK (do_v (de_v (pv 1))) (do_h (de_fld [311107613541] 27717998498377061 (by decide +kernel) (by decide +kernel) hF_by_name (do_h (de_v (pv 0))))) (by with_unfolding_all rfl)) (dss_1 (ds_raise hT (by decide +kernel) (by decide +kernel) tk)) dss_n)
   (dss_1 (ds_r (de_ix (ix_dK (Nat.lt_of_le_of_lt (Nat.add_le_add_left (by decide : 1 ≤ 65) _) hu5)) op_dGetK (do_h (de_fld [311107613541] 27717998498377061 (by decide +kernel) (by decide +kernel) hF_by_name (do_h (de_v (pv 0))))) (do_v (de_v (pv 1)))))))
theorem okm_tongue_named (hB : Bl mg) (hT : XT K mg xT) (hF_by_name : ClsF K mg [311107613541] "by_name") {f_House : Addr} {fd_House : FuncData} (F_House : Fun K "tongue_named" "House.tongue_named" s_House_tongue_named f_House fd_House) {C_House : Addr} (hC_House : mg (nmS 311107613541) = some (.ref C_House)) (cl_House : Cls K C_House) (mt_House : Meth K C_House "tongue_named" f_House) : ∀ k, MDef P w K mg base (2 + k) "tongue_named" 2 [311107613541] (t_tongue_named k)
  | 0 => (.cons hC_House cl_House mt_House (fn_stuck (k := 1) F_House sc_House_tongue_named) (F_House.binds (ps := ["self", "name"]) fun _ _ _ _ _ _ us hl => match us, hl with | [_, _], _ => rfl) .nil)
  | k + 1 => by
    have hrec := okm_tongue_named hB hT hF_by_name F_House hC_House cl_House mt_House k
    exact (.cons hC_House cl_House mt_House (by rw [t_tongue_named_House]; exact ok_House_tongue_named hB hT F_House hF_by_name hrec) (F_House.binds (ps := ["self", "name"]) fun _ _ _ _ _ _ us hl => match us, hl with | [_, _], _ => rfl) .nil)
theorem ok_House_tongues (hB : Bl mg) (hT : XT K mg xT) {f : Addr} {fd : FuncData} (F : Fun K "tongues" "House.tongues" s_House_tongues f fd) (hF_by_name : ClsF K mg [311107613541] "by_name") {k : Nat} (hrec : MDef P w K mg base (2 + k) "tongues" 1 [311107613541] (t_tongues k)) : FnOk P w K mg base (L2.CX P w) (2 + k + 1) f fd ["self"] (spOf ⟨K, mg, w⟩ 1 (runB 1 (b_House_tongues))) :=
  fn_ok (N := N_House_tongues) (ps := ["self"]) (k := 2 + k) F sc_House_tongues fun B cdv A outer s H E W hr tk pw => by
    have hu := hr.units
    have hu5 : (A.deeper (envOfC "House.tongues" (defScope s_House_tongues) s.heap.objs.size f cdv)).units + 65 < cLine := by have := hr.un; omega
    exact (dss_1 (ds_r (de_f (df_cb (opR_sorted rfl) op_dSortF hB.sorted (da_c (do_h (de_fld [311107613541] 27717998498377061 (by decide +kernel) (by decide +kernel) hF_by_name (do_h (de_v (pv 0))))) da_n)))))
theorem okm_tongues (hB : Bl mg) (hT : XT K mg xT) (hF_by_name : ClsF K mg [311107613541] "by_name") {f_House : Addr} {fd_House : FuncData} (F_House : Fun K "tongues" "House.tongues" s_House_tongues f_House fd_House) {C_House : Addr} (hC_House : mg (nmS 311107613541) = some (.ref C_House)) (cl_House : Cls K C_House) (mt_House : Meth K C_House "tongues" f_House) : ∀ k, MDef P w K mg base (2 + k) "tongues" 1 [311107613541] (t_tongues k)
  | 0 => (.cons hC_House cl_House mt_House (fn_stuck (k := 1) F_House sc_House_tongues) (F_House.binds (ps := ["self"]) fun _ _ _ _ _ _ us hl => match us, hl with | [_], _ => rfl) .nil)
  | k + 1 => by
    have hrec := okm_tongues hB hT hF_by_name F_House hC_House cl_House mt_House k
    exact (.cons hC_House cl_House mt_House (by rw [t_tongues_House]; exact ok_House_tongues hB hT F_House hF_by_name hrec) (F_House.binds (ps := ["self"]) fun _ _ _ _ _ _ us hl => match us, hl with | [_], _ => rfl) .nil)
theorem ok_road (hB : Bl mg) (hT : XT K mg xT) {f : Addr} {fd : FuncData} (F : Fun K "road" "road" s_road f fd) (hm : mg "road" = some (.ref f)) (dM_tongue_named : MDef P w K mg base 3 "tongue_named" 2 [311107613541] (t_tongue_named 1)) (dM_tongues : MDef P w K mg base 3 "tongues" 1 [311107613541] (t_tongues 1)) (hF_falls : ClsF K mg [92837570377061] "falls") : Def P w K mg base 4 "road" 2 c_road :=
  def_ok (N := N_road) (ps := ["house", "tongue"]) F sc_road (F.binds (ps := ["house", "tongue"]) fun _ _ _ _ _ _ us hl => match us, hl with | [_, _], _ => rfl) hm fun B cdv A outer s H E W hr tk pw => by
    have hu := hr.units
    have hu5 : (A.deeper (envOfC "road" (defScope s_road) s.heap.objs.size f cdv)).units + 65 < cLine := by have := hr.un; omega
    have dM_tongue_named := dM_tongue_named.mono (j := 3) (by omega)
    have dM_tongues := dM_tongues.mono (j := 3) (by omega)
    exact (dss_c (ds_e (de_mh (by decide +kernel) (by decide +kernel) dM_tongue_named hr tk (de_v (pv 0)) (da_c (do_v (de_v (pv 1))) da_n)))
   (dss_c (ds_v (i := 2) sc_road.nd (de_mh0 (by decide +kernel) (by decide +kernel) dM_tongues hr tk (de_v (pv 0))))
   (dss_c (ds_v (i := 3) sc_road.nd (de_al (df_l (da_c (do_v (de_v (pv 1))) da_n))))
   (dss_c (ds_v (i := 4) sc_road.nd de_int)
   (dss_c (ds_w pw (dt_cmp opR_lt op_dCmp (do_v (de_v (pv 4))) (do_v (de_cb call_len op_dLen hB.len (da_c (do_h (de_v (pv 3))) da_n))) (nomark _)) (dss_c (ds_f pw rfl (di_e (de_fld [92837570377061] 439721159795 (by decide +kernel) (by decide +kernel) hF_falls (do_h (de_mh (by decide +kernel) (by decide +kernel) dM_tongue_named hr tk (de_v (pv 0)) (da_c (do_v (de_ix ix_seq op_dIx (do_h (de_v (pv 3))) (do_v (de_v (pv 4))))) da_n))))) (dg_v (i := 5) sc_road.nd) (dss_1 (ds_i (dt_w (dw_a (dt_cmp (opR_in hu5) op_dIn (do_v (de_v (pv 5))) (do_v (de_v (pv 2))) (by with_unfolding_all rfl)) (dw_1a (dt_cmp (opR_notIn hu5) op_dNotIn (do_v (de_v (pv 5))) (do_h (de_v (pv 3))) (by with_unfolding_all rfl))))) (dss_1 (ds_apL (do_h (de_v (pv 3))) (do_v (de_v (pv 5))))) dss_n)))
   (dss_1 (ds_aug (i := 4) ip_add op_dAddI sc_road.nd (do_v de_int)))))
   (dss_1 (ds_r (de_v (pv 3)))))))))
theorem ok__law_next (hB : Bl mg) (hT : XT K mg xT) {f : Addr} {fd : FuncData} (F : Fun K "_law_next" "_law_next" s__law_next f fd) (hm : mg "_law_next" = some (.ref f)) : Def P w K mg base 2 "_law_next" 4 c__law_next :=
  def_ok (N := N__law_next) (ps := ["_law_done", "_law_names", "_law_many", "_law_falls_here"]) F sc__law_next (F.binds (ps := ["_law_done", "_law_names", "_law_many", "_law_falls_here"]) fun _ _ _ _ _ _ us hl => match us, hl with | [_, _, _, _], _ => rfl) hm fun B cdv A outer s H E W hr tk pw => by
    have hu := hr.units
    have hu5 : (A.deeper (envOfC "_law_next" (defScope s__law_next) s.heap.objs.size f cdv)).units + 65 < cLine := by have := hr.un; omega
    exact (dss_c (ds_f pw rfl (di_e (de_v (pv 0))) (dg_v (i := 4) sc__law_next.nd) (dss_1 (ds_f pw rfl (di_e (de_ix ix_seq op_dIx (do_v (de_v (pv 3))) (do_v (de_m PySem.F.plainAttrs_list PySem.F.slot_list_index PySem.F.type_list_index mt_index op_dIndex (do_v (de_v (pv 1))) (da_c (do_v (de_v (pv 4))) da_n))))) (dg_v (i := 5) sc__law_next.nd) (dss_1 (ds_i (dt_w (dw_a (dt_cmp (opR_in hu5) op_dIn (do_v (de_v (pv 5))) (do_v (de_sl sl_all op_dSl (do_v (de_v (pv 1))) dp_n (dp_s (de_v (pv 2))))) (by with_unfolding_all rfl)) (dw_1a (dt_cmp (opR_notIn hu5) op_dNotIn (do_v (de_v (pv 5))) (do_v (de_v (pv 0))) (by with_unfolding_all rfl))))) (dss_1 (ds_r (de_v (pv 5)))) dss_n)))))
   (dss_1 (ds_r de_non)))
theorem ok__law_walked (hB : Bl mg) (hT : XT K mg xT) {f : Addr} {fd : FuncData} (F : Fun K "_law_walked" "_law_walked" s__law_walked f fd) (hm : mg "_law_walked" = some (.ref f)) (d__law_next : Def P w K mg base 2 "_law_next" 4 c__law_next) : Def P w K mg base 3 "_law_walked" 5 c__law_walked :=
  def_ok (N := N__law_walked) (ps := ["_law_found", "_law_name", "_law_names", "_law_many", "_law_falls_here"]) F sc__law_walked (F.binds (ps := ["_law_found", "_law_name", "_law_names", "_law_many", "_law_falls_here"]) fun _ _ _ _ _ _ us hl => match us, hl with | [_, _, _, _, _], _ => rfl) hm fun B cdv A outer s H E W hr tk pw => by
    have hu := hr.units
    have hu5 : (A.deeper (envOfC "_law_walked" (defScope s__law_walked) s.heap.objs.size f cdv)).units + 65 < cLine := by have := hr.un; omega
    have d__law_next := d__law_next.mono (j := 2) (by omega)
    exact (dss_c (ds_i (dt_w (dw_o (dt_n (dt_t (do_v (de_cb call_isi op_dIsI hB.isinstance (da_c (do_v (de_v (pv 0))) (da_c (do_v (de_ty hB.list)) da_n)))))) (dw_o (dt_cmp (op_eqD hu) op_dEq (do_v (de_v (pv 0))) (do_v (de_f (df_l da_n))) (nomark _)) (dw_1o (dt_cmp (op_neD hu) op_dNe (do_v (de_ix ix_seq op_dIx (do_v (de_v (pv 0))) (do_v de_int))) (do_v (de_v (pv 1))) (nomark _)))))) (dss_1 (ds_r de_bl)) dss_n)
   (dss_c (ds_f pw rfl (di_r1 hB.range (da_c (do_v (de_cb call_len op_dLen hB.len (da_c (do_v (de_v (pv 0))) da_n))) da_n)) (dg_v (i := 5) sc__law_walked.nd) (dss_c (ds_i (dt_w (dw_o (dt_n (dt_t (do_v (de_cb call_isi op_dIsI hB.isinstance (da_c (do_v (de_ix ix_seq op_dIx (do_v (de_v (pv 0))) (do_v (de_v (pv 5))))) (da_c (do_v (de_ty hB.str)) da_n)))))) (dw_o (dt_cmp (opR_notIn hu5) op_dNotIn (do_v (de_ix ix_seq op_dIx (do_v (de_v (pv 0))) (do_v (de_v (pv 5))))) (do_v (de_sl sl_all op_dSl (do_v (de_v (pv 2))) dp_n (dp_s (de_v (pv 3))))) (by with_unfolding_all rfl)) (dw_1o (dt_cmp (opR_in hu5) op_dIn (do_v (de_ix ix_seq op_dIx (do_v (de_v (pv 0))) (do_v (de_v (pv 5))))) (do_v (de_sl sl_all op_dSl (do_v (de_v (pv 0))) dp_n (dp_s (de_v (pv 5))))) (by with_unfolding_all rfl)))))) (dss_1 (ds_r de_bl)) dss_n)
   (dss_1 (ds_i (dt_w (dw_a (dt_cmp opR_gt op_dCmp (do_v (de_v (pv 5))) (do_v de_int) (nomark _)) (dw_1a (dt_cmp (op_neD hu) op_dNe (do_v (de_ix ix_seq op_dIx (do_v (de_v (pv 0))) (do_v (de_v (pv 5))))) (do_v (de_c d__law_next hr tk (da_c (do_v (de_sl sl_all op_dSl (do_v (de_v (pv 0))) dp_n (dp_s (de_v (pv 5))))) (da_c (do_v (de_v (pv 2))) (da_c (do_v (de_v (pv 3))) (da_c (do_v (de_v (pv 4))) da_n)))))) (nomark _))))) (dss_1 (ds_r de_bl)) dss_n))))
   (dss_1 (ds_r (de_cmp opR_is op_dIs (do_v (de_c d__law_next hr tk (da_c (do_v (de_v (pv 0))) (da_c (do_v (de_v (pv 2))) (da_c (do_v (de_v (pv 3))) (da_c (do_v (de_v (pv 4))) da_n)))))) (do_v de_non) (nomark _))))))
theorem ok__law_refused (hB : Bl mg) (hT : XT K mg xT) {f : Addr} {fd : FuncData} (F : Fun K "_law_refused" "_law_refused" s__law_refused f fd) (hm : mg "_law_refused" = some (.ref f)) (d_road : Def P w K mg base 4 "road" 2 c_road) : Def P w K mg base 5 "_law_refused" 2 c__law_refused :=
  def_ok (N := N__law_refused) (ps := ["_law_house_here", "_law_name"]) F sc__law_refused (F.binds (ps := ["_law_house_here", "_law_name"]) fun _ _ _ _ _ _ us hl => match us, hl with | [_, _], _ => rfl) hm fun B cdv A outer s H E W hr tk pw => by
    have hu := hr.units
    have hu5 : (A.deeper (envOfC "_law_refused" (defScope s__law_refused) s.heap.objs.size f cdv)).units + 65 < cLine := by have := hr.un; omega
    have d_road := d_road.mono (j := 4) (by omega)
    exact (dss_c (ds_tryA (i := 2) hT (hnm_of hT (by decide +kernel) (by decide +kernel)) tk sc__law_refused.nd (fun W' pn xe tk pw => (dss_1 (ds_e (de_c d_road hr tk (da_c (do_v (de_v (pv 0))) (da_c (do_v (de_v (pv 1))) da_n)))))) (fun a oe C pn c hC hxc hz hfl => (dss_1 (ds_r (de_isI1 hT List.mem_cons_self hz hfl hC hxc hB.isinstance (pv 2) (.own rfl (by decide) (by decide +kernel) (by decide +kernel) .nil))))))
   (dss_1 (ds_r de_bl)))
theorem ok_law (hB : Bl mg) (hT : XT K mg xT) {f : Addr} {fd : FuncData} (F : Fun K "law" "law" s_law f fd) (d__law_purse : Def P w K mg base 3 "_law_purse" 2 c__law_purse) (d__law_words : Def P w K mg base 4 "_law_words" 2 c__law_words) (d__law_take : Def P w K mg base 2 "_law_take" 2 c__law_take) (d__law_falls : Def P w K mg base 4 "_law_falls" 3 c__law_falls) (d__law_house : Def P w K mg base 5 "_law_house" 4 c__law_house) (d_road : Def P w K mg base 4 "road" 2 c_road) (d__law_walked : Def P w K mg base 3 "_law_walked" 5 c__law_walked) (d__law_refused : Def P w K mg base 5 "_law_refused" 2 c__law_refused) : FnOk P w K mg base (L2.CX P w) 6 f fd ["_law_script"] (spOf ⟨K, mg, w⟩ 1 c_law) :=
  fn_ok (N := N_law) (ps := ["_law_script"]) F sc_law fun B cdv A outer s H E W hr tk pw => by
    have hu := hr.units
    have hu5 : (A.deeper (envOfC "law" (defScope s_law) s.heap.objs.size f cdv)).units + 65 < cLine := by have := hr.un; omega
    have d__law_purse := d__law_purse.mono (j := 5) (by omega)
    have d__law_words := d__law_words.mono (j := 5) (by omega)
    have d__law_take := d__law_take.mono (j := 5) (by omega)
    have d__law_falls := d__law_falls.mono (j := 5) (by omega)
    have d__law_house := d__law_house.mono (j := 5) (by omega)
    have d_road := d_road.mono (j := 5) (by omega)
    have d__law_walked := d__law_walked.mono (j := 5) (by omega)
    have d__law_refused := d__law_refused.mono (j := 5) (by omega)
    exact (dss_c (ds_v (i := 1) sc_law.nd (de_c d__law_words hr tk (da_c (do_v (de_c d__law_purse hr tk (da_c (do_v (de_v (pv 0))) (da_c (do_v de_int) da_n)))) (da_c (do_v de_int) da_n))))
   (dss_c (ds_v (i := 2) sc_law.nd (de_bin opR_add op_dAdd (do_v de_int) (do_v (de_c d__law_take hr tk (da_c (do_v (de_c d__law_purse hr tk (da_c (do_v (de_v (pv 0))) (da_c (do_v de_int) da_n)))) (da_c (do_v de_int) da_n))))))
   (dss_c (ds_i (dt_cmp opR_gt op_dCmp (do_v (de_v (pv 2))) (do_v (de_cb call_len op_dLen hB.len (da_c (do_v (de_v (pv 1))) da_n))) (nomark _)) (dss_1 (ds_v (i := 2) sc_law.nd (de_cb call_len op_dLen hB.len (da_c (do_v (de_v (pv 1))) da_n)))) dss_n)
   (dss_c (ds_v (i := 3) sc_law.nd (de_c d__law_falls hr tk (da_c (do_v (de_v (pv 0))) (da_c (do_v (de_v (pv 1))) (da_c (do_v (de_v (pv 2))) da_n)))))
   (dss_c (ds_v (i := 4) sc_law.nd (de_c d__law_house hr tk (da_c (do_v (de_v (pv 1))) (da_c (do_v (de_v (pv 2))) (da_c (do_v (de_v (pv 3))) (da_c (do_v (de_c d__law_purse hr tk (da_c (do_v (de_v (pv 0))) (da_c (do_v de_int) da_n)))) da_n))))))
   (dss_c (ds_f pw rfl (di_e (de_sl sl_all op_dSl (do_v (de_v (pv 1))) dp_n (dp_s (de_v (pv 2))))) (dg_v (i := 5) sc_law.nd) (dss_c (ds_v (i := 6) sc_law.nd (de_c d_road hr tk (da_c (do_v (de_v (pv 4))) (da_c (do_v (de_v (pv 5))) da_n))))
   (dss_c (ds_i (dt_n (dt_t (do_v (de_c d__law_walked.look hr tk (da_c (do_v (de_v (pv 6))) (da_c (do_v (de_v (pv 5))) (da_c (do_v (de_v (pv 1))) (da_c (do_v (de_v (pv 2))) (da_c (do_v (de_v (pv 3))) da_n))))))))) (dss_1 (ds_r de_bl)) dss_n)
   (dss_c (ds_v (i := 7) sc_law.nd (de_f (df_ct call_list_of op_dListF hB.list (da_c (do_h (de_v (pv 6))) da_n))))
   (dss_c (ds_apL (do_h (de_v (pv 6))) (do_v (de_v (pv 5))))
   (dss_1 (ds_i (dt_cmpL (op_neD hu) op_dNe (de_c d_road hr tk (da_c (do_v (de_v (pv 4))) (da_c (do_v (de_v (pv 5))) da_n))) (de_v (pv 7)) (nomark _)) (dss_1 (ds_r de_bl)) dss_n)))))))
   (dss_1 (ds_r (de_cmp (op_eqD hu) op_dEq (do_v (de_f (df_lc [("_law_name", 5)] rfl sc_law.nd (blkOk_by (N := N_law) (sc := defScope s_law) (by decide +kernel)) (di_e (de_sl sl_all op_dSl (do_v (de_v (pv 1))) (dp_s (de_v (pv 2))) dp_n)) (tgB_v (by decide)) (fun _ _ _ _ _ => (pg_name (i := 5) sc_law.nd rfl (Or.inl rfl) (by first | exact .inl rfl | exact .inr rfl))) (fun _ _ _ _ _ _ => (dts_1 (dt_n (dt_t (do_v (de_c d__law_refused hr takes0 (da_c (do_v (de_v (pv 4))) (da_c (do_v (de_v (pv 5))) da_n)))))))) (fun _ _ _ _ _ _ => (de_v (pv 5)))))) (do_v (de_f (df_l da_n))) (nomark _))))))))))
end
-- levels: D:_law_cell_at=2 D:_law_purse=3 D:_law_take=2 D:_law_word=3 D:_law_words=4 D:_law_falls=4 F:kind_row=0 F:rank_row=0 F:thing_row=0 F:by_name=0 F:thing_texts=0 F:declared=0 F:pieces_here=0 N:House=3 F:name=0 F:falls=0 F:rules=0 F:joiners=0 F:figures=0 F:calendar=0 F:dayform=0 N:Tongue=3 D:_law_tongue=4 M:add=3 D:_law_house=5 M:tongue_named=3 M:tongues=3 D:road=4 D:_law_next=2 D:_law_walked=3 D:_law_refused=5 D:law=6
/-! ### the end -/
theorem all_mk {P : Program} {w : World} {K : PySem.W.Frag} {h : Heap} {mg : Str → Option Value} {fa : Addr} (hc : LawOk c_law) (X : K.In h) (G : h.Ns mainGlobals mg) (hfa : mg "law" = some (.ref fa)) {f__law_cell_at : Addr} {oc__law_cell_at kV__law_cell_at dc__law_cell_at pm__law_cell_at cd__law_cell_at ct__law_cell_at : Value} {od__law_cell_at an__law_cell_at : Option Addr} {sl__law_cell_at : Array (Option Value)} {f__law_purse : Addr} {oc__law_purse kV__law_purse dc__law_purse pm__law_purse cd__law_purse ct__law_purse : Value} {od__law_purse an__law_purse : Option Addr} {sl__law_purse : Array (Option Value)} {f__law_take : Addr} {oc__law_take kV__law_take dc__law_take pm__law_take cd__law_take ct__law_take : Value} {od__law_take an__law_take : Option Addr} {sl__law_take : Array (Option Value)} {f__law_word : Addr} {oc__law_word kV__law_word dc__law_word pm__law_word cd__law_word ct__law_word : Value} {od__law_word an__law_word : Option Addr} {sl__law_word : Array (Option Value)} {f__law_words : Addr} {oc__law_words kV__law_words dc__law_words pm__law_words cd__law_words ct__law_words : Value} {od__law_words an__law_words : Option Addr} {sl__law_words : Array (Option Value)} {f__law_falls : Addr} {oc__law_falls kV__law_falls dc__law_falls pm__law_falls cd__law_falls ct__law_falls : Value} {od__law_falls an__law_falls : Option Addr} {sl__law_falls : Array (Option Value)} {f_House___init__ : Addr} {oc_House___init__ kV_House___init__ dc_House___init__ pm_House___init__ cd_House___init__ ct_House___init__ : Value} {od_House___init__ an_House___init__ : Option Addr} {sl_House___init__ : Array (Option Value)} {f_Tongue___init__ : Addr} {oc_Tongue___init__ kV_Tongue___init__ dc_Tongue___init__ pm_Tongue___init__ cd_Tongue___init__ ct_Tongue___init__ : Value} {od_Tongue___init__ an_Tongue___init__ : Option Addr} {sl_Tongue___init__ : Array (Option Value)} {f__law_tongue : Addr} {oc__law_tongue kV__law_tongue dc__law_tongue pm__law_tongue cd__law_tongue ct__law_tongue : Value} {od__law_tongue an__law_tongue : Option Addr} {sl__law_tongue : Array (Option Value)} {f_House_add : Addr} {oc_House_add kV_House_add dc_House_add pm_House_add cd_House_add ct_House_add : Value} {od_House_add an_House_add : Option Addr} {sl_House_add : Array (Option Value)} {f__law_house : Addr} {oc__law_house kV__law_house dc__law_house pm__law_house cd__law_house ct__law_house : Value} {od__law_house an__law_house : Option Addr} {sl__law_house : Array (Option Value)} {f_House_tongue_named : Addr} {oc_House_tongue_named kV_House_tongue_named dc_House_tongue_named pm_House_tongue_named cd_House_tongue_named ct_House_tongue_named : Value} {od_House_tongue_named an_House_tongue_named : Option Addr} {sl_House_tongue_named : Array (Option Value)} {f_House_tongues : Addr} {oc_House_tongues kV_House_tongues dc_House_tongues pm_House_tongues cd_House_tongues ct_House_tongues : Value} {od_House_tongues an_House_tongues : Option Addr} {sl_House_tongues : Array (Option Value)} {f_road : Addr} {oc_road kV_road dc_road pm_road cd_road ct_road : Value} {od_road an_road : Option Addr} {sl_road : Array (Option Value)} {f__law_next : Addr} {oc__law_next kV__law_next dc__law_next pm__law_next cd__law_next ct__law_next : Value} {od__law_next an__law_next : Option Addr} {sl__law_next : Array (Option Value)} {f__law_walked : Addr} {oc__law_walked kV__law_walked dc__law_walked pm__law_walked cd__law_walked ct__law_walked : Value} {od__law_walked an__law_walked : Option Addr} {sl__law_walked : Array (Option Value)} {f__law_refused : Addr} {oc__law_refused kV__law_refused dc__law_refused pm__law_refused cd__law_refused ct__law_refused : Value} {od__law_refused an__law_refused : Option Addr} {sl__law_refused : Array (Option Value)} {f_law : Addr} {oc_law kV_law dc_law pm_law cd_law ct_law : Value} {od_law an_law : Option Addr} {sl_law : Array (Option Value)} {C_House : Addr} {C_Tongue : Addr} {C_NoTongue : Addr} {C_SayError : Addr}
    (a__law_cell_at : PySem.W.nsIn K mainGlobals "_law_cell_at" = some (some (.ref f__law_cell_at)))
    (l__law_cell_at : K.lookup f__law_cell_at = some ⟨oc__law_cell_at, od__law_cell_at, .func (PySem.W.fnOf "_law_cell_at" "_law_cell_at" (defArgs s__law_cell_at) (defBody s__law_cell_at) (defScope s__law_cell_at) .none kV__law_cell_at dc__law_cell_at pm__law_cell_at an__law_cell_at cd__law_cell_at ct__law_cell_at), sl__law_cell_at⟩)
    (q__law_cell_at : PySem.W.codeIn K cd__law_cell_at "_law_cell_at" = true)
    (k__law_cell_at : PySem.W.keepIn K (.ref f__law_cell_at) = true)
    (a__law_purse : PySem.W.nsIn K mainGlobals "_law_purse" = some (some (.ref f__law_purse)))
    (l__law_purse : K.lookup f__law_purse = some ⟨oc__law_purse, od__law_purse, .func (PySem.W.fnOf "_law_purse" "_law_purse" (defArgs s__law_purse) (defBody s__law_purse) (defScope s__law_purse) .none kV__law_purse dc__law_purse pm__law_purse an__law_purse cd__law_purse ct__law_purse), sl__law_purse⟩)
    (q__law_purse : PySem.W.codeIn K cd__law_purse "_law_purse" = true)
    (k__law_purse : PySem.W.keepIn K (.ref f__law_purse) = true)
    (a__law_take : PySem.W.nsIn K mainGlobals "_law_take" = some (some (.ref f__law_take)))
    (l__law_take : K.lookup f__law_take = some ⟨oc__law_take, od__law_take, .func (PySem.W.fnOf "_law_take" "_law_take" (defArgs s__law_take) (defBody s__law_take) (defScope s__law_take) .none kV__law_take dc__law_take pm__law_take an__law_take cd__law_take ct__law_take), sl__law_take⟩)
    (q__law_take : PySem.W.codeIn K cd__law_take "_law_take" = true)
    (k__law_take : PySem.W.keepIn K (.ref f__law_take) = true)
    (a__law_word : PySem.W.nsIn K mainGlobals "_law_word" = some (some (.ref f__law_word)))
    (l__law_word : K.lookup f__law_word = some ⟨oc__law_word, od__law_word, .func (PySem.W.fnOf "_law_word" "_law_word" (defArgs s__law_word) (defBody s__law_word) (defScope s__law_word) .none kV__law_word dc__law_word pm__law_word an__law_word cd__law_word ct__law_word), sl__law_word⟩)
    (q__law_word : PySem.W.codeIn K cd__law_word "_law_word" = true)
    (k__law_word : PySem.W.keepIn K (.ref f__law_word) = true)
    (a__law_words : PySem.W.nsIn K mainGlobals "_law_words" = some (some (.ref f__law_words)))
    (l__law_words : K.lookup f__law_words = some ⟨oc__law_words, od__law_words, .func (PySem.W.fnOf "_law_words" "_law_words" (defArgs s__law_words) (defBody s__law_words) (defScope s__law_words) .none kV__law_words dc__law_words pm__law_words an__law_words cd__law_words ct__law_words), sl__law_words⟩)
    (q__law_words : PySem.W.codeIn K cd__law_words "_law_words" = true)
    (k__law_words : PySem.W.keepIn K (.ref f__law_words) = true)
    (a__law_falls : PySem.W.nsIn K mainGlobals "_law_falls" = some (some (.ref f__law_falls)))
    (l__law_falls : K.lookup f__law_falls = some ⟨oc__law_falls, od__law_falls, .func (PySem.W.fnOf "_law_falls" "_law_falls" (defArgs s__law_falls) (defBody s__law_falls) (defScope s__law_falls) .none kV__law_falls dc__law_falls pm__law_falls an__law_falls cd__law_falls ct__law_falls), sl__law_falls⟩)
    (q__law_falls : PySem.W.codeIn K cd__law_falls "_law_falls" = true)
    (k__law_falls : PySem.W.keepIn K (.ref f__law_falls) = true)
    (a__law_tongue : PySem.W.nsIn K mainGlobals "_law_tongue" = some (some (.ref f__law_tongue)))
    (l__law_tongue : K.lookup f__law_tongue = some ⟨oc__law_tongue, od__law_tongue, .func (PySem.W.fnOf "_law_tongue" "_law_tongue" (defArgs s__law_tongue) (defBody s__law_tongue) (defScope s__law_tongue) .none kV__law_tongue dc__law_tongue pm__law_tongue an__law_tongue cd__law_tongue ct__law_tongue), sl__law_tongue⟩)
    (q__law_tongue : PySem.W.codeIn K cd__law_tongue "_law_tongue" = true)
    (k__law_tongue : PySem.W.keepIn K (.ref f__law_tongue) = true)
    (a__law_house : PySem.W.nsIn K mainGlobals "_law_house" = some (some (.ref f__law_house)))
    (l__law_house : K.lookup f__law_house = some ⟨oc__law_house, od__law_house, .func (PySem.W.fnOf "_law_house" "_law_house" (defArgs s__law_house) (defBody s__law_house) (defScope s__law_house) .none kV__law_house dc__law_house pm__law_house an__law_house cd__law_house ct__law_house), sl__law_house⟩)
    (q__law_house : PySem.W.codeIn K cd__law_house "_law_house" = true)
    (k__law_house : PySem.W.keepIn K (.ref f__law_house) = true)
    (a_road : PySem.W.nsIn K mainGlobals "road" = some (some (.ref f_road)))
    (l_road : K.lookup f_road = some ⟨oc_road, od_road, .func (PySem.W.fnOf "road" "road" (defArgs s_road) (defBody s_road) (defScope s_road) .none kV_road dc_road pm_road an_road cd_road ct_road), sl_road⟩)
    (q_road : PySem.W.codeIn K cd_road "road" = true)
    (k_road : PySem.W.keepIn K (.ref f_road) = true)
    (a__law_next : PySem.W.nsIn K mainGlobals "_law_next" = some (some (.ref f__law_next)))
    (l__law_next : K.lookup f__law_next = some ⟨oc__law_next, od__law_next, .func (PySem.W.fnOf "_law_next" "_law_next" (defArgs s__law_next) (defBody s__law_next) (defScope s__law_next) .none kV__law_next dc__law_next pm__law_next an__law_next cd__law_next ct__law_next), sl__law_next⟩)
    (q__law_next : PySem.W.codeIn K cd__law_next "_law_next" = true)
    (k__law_next : PySem.W.keepIn K (.ref f__law_next) = true)
    (a__law_walked : PySem.W.nsIn K mainGlobals "_law_walked" = some (some (.ref f__law_walked)))
    (l__law_walked : K.lookup f__law_walked = some ⟨oc__law_walked, od__law_walked, .func (PySem.W.fnOf "_law_walked" "_law_walked" (defArgs s__law_walked) (defBody s__law_walked) (defScope s__law_walked) .none kV__law_walked dc__law_walked pm__law_walked an__law_walked cd__law_walked ct__law_walked), sl__law_walked⟩)
    (q__law_walked : PySem.W.codeIn K cd__law_walked "_law_walked" = true)
    (k__law_walked : PySem.W.keepIn K (.ref f__law_walked) = true)
    (a__law_refused : PySem.W.nsIn K mainGlobals "_law_refused" = some (some (.ref f__law_refused)))
    (l__law_refused : K.lookup f__law_refused = some ⟨oc__law_refused, od__law_refused, .func (PySem.W.fnOf "_law_refused" "_law_refused" (defArgs s__law_refused) (defBody s__law_refused) (defScope s__law_refused) .none kV__law_refused dc__law_refused pm__law_refused an__law_refused cd__law_refused ct__law_refused), sl__law_refused⟩)
    (q__law_refused : PySem.W.codeIn K cd__law_refused "_law_refused" = true)
    (k__law_refused : PySem.W.keepIn K (.ref f__law_refused) = true)
    (a_law : PySem.W.nsIn K mainGlobals "law" = some (some (.ref f_law)))
    (l_law : K.lookup f_law = some ⟨oc_law, od_law, .func (PySem.W.fnOf "law" "law" (defArgs s_law) (defBody s_law) (defScope s_law) .none kV_law dc_law pm_law an_law cd_law ct_law), sl_law⟩)
    (q_law : PySem.W.codeIn K cd_law "law" = true)
    (k_law : PySem.W.keepIn K (.ref f_law) = true)
    (aC_House : PySem.W.nsIn K mainGlobals "House" = some (some (.ref C_House)))
    (pg_House : PySem.W.plainGet K C_House Str.empty = true)
    (hd_House : PySem.W.hasDictIn K C_House = true)
    (po_House : PySem.W.plainOver K C_House = true)
    (sa_House : PySem.W.findIn K (.ref C_House) "__setattr__" = some (some (.builtin "object.__setattr__")))
    (nf_House_by_name : PySem.W.findIn K (.ref C_House) "by_name" = some none)
    (nf_House_declared : PySem.W.findIn K (.ref C_House) "declared" = some none)
    (nf_House_kind_row : PySem.W.findIn K (.ref C_House) "kind_row" = some none)
    (nf_House_pieces_here : PySem.W.findIn K (.ref C_House) "pieces_here" = some none)
    (nf_House_rank_row : PySem.W.findIn K (.ref C_House) "rank_row" = some none)
    (nf_House_thing_row : PySem.W.findIn K (.ref C_House) "thing_row" = some none)
    (nf_House_thing_texts : PySem.W.findIn K (.ref C_House) "thing_texts" = some none)
    (mt_House_add : PySem.W.findIn K (.ref C_House) "add" = some (some (.ref f_House_add)))
    (mt_House_tongue_named : PySem.W.findIn K (.ref C_House) "tongue_named" = some (some (.ref f_House_tongue_named)))
    (mt_House_tongues : PySem.W.findIn K (.ref C_House) "tongues" = some (some (.ref f_House_tongues)))
    (mk_House : PySem.W.makesIn K C_House = true)
    (in_House : PySem.W.findIn K (.ref C_House) "__init__" = some (some (.ref f_House___init__)))
    (kc_House : PySem.W.keepIn K (.ref C_House) = true)
    (aC_Tongue : PySem.W.nsIn K mainGlobals "Tongue" = some (some (.ref C_Tongue)))
    (pg_Tongue : PySem.W.plainGet K C_Tongue Str.empty = true)
    (hd_Tongue : PySem.W.hasDictIn K C_Tongue = true)
    (po_Tongue : PySem.W.plainOver K C_Tongue = true)
    (sa_Tongue : PySem.W.findIn K (.ref C_Tongue) "__setattr__" = some (some (.builtin "object.__setattr__")))
    (nf_Tongue_calendar : PySem.W.findIn K (.ref C_Tongue) "calendar" = some none)
    (nf_Tongue_dayform : PySem.W.findIn K (.ref C_Tongue) "dayform" = some none)
    (nf_Tongue_falls : PySem.W.findIn K (.ref C_Tongue) "falls" = some none)
    (nf_Tongue_figures : PySem.W.findIn K (.ref C_Tongue) "figures" = some none)
    (nf_Tongue_joiners : PySem.W.findIn K (.ref C_Tongue) "joiners" = some none)
    (nf_Tongue_name : PySem.W.findIn K (.ref C_Tongue) "name" = some none)
    (nf_Tongue_rules : PySem.W.findIn K (.ref C_Tongue) "rules" = some none)
    (mk_Tongue : PySem.W.makesIn K C_Tongue = true)
    (in_Tongue : PySem.W.findIn K (.ref C_Tongue) "__init__" = some (some (.ref f_Tongue___init__)))
    (kc_Tongue : PySem.W.keepIn K (.ref C_Tongue) = true)
    (i_House___init__ : PySem.W.isFn K (.ref f_House___init__) = true)
    (l_House___init__ : K.lookup f_House___init__ = some ⟨oc_House___init__, od_House___init__, .func (PySem.W.fnOf "__init__" "House.__init__" (defArgs s_House___init__) (defBody s_House___init__) (defScope s_House___init__) .none kV_House___init__ dc_House___init__ pm_House___init__ an_House___init__ cd_House___init__ ct_House___init__), sl_House___init__⟩)
    (q_House___init__ : PySem.W.codeIn K cd_House___init__ "House.__init__" = true)
    (k_House___init__ : PySem.W.keepIn K (.ref f_House___init__) = true)
    (i_Tongue___init__ : PySem.W.isFn K (.ref f_Tongue___init__) = true)
    (l_Tongue___init__ : K.lookup f_Tongue___init__ = some ⟨oc_Tongue___init__, od_Tongue___init__, .func (PySem.W.fnOf "__init__" "Tongue.__init__" (defArgs s_Tongue___init__) (defBody s_Tongue___init__) (defScope s_Tongue___init__) .none kV_Tongue___init__ dc_Tongue___init__ pm_Tongue___init__ an_Tongue___init__ cd_Tongue___init__ ct_Tongue___init__), sl_Tongue___init__⟩)
    (q_Tongue___init__ : PySem.W.codeIn K cd_Tongue___init__ "Tongue.__init__" = true)
    (k_Tongue___init__ : PySem.W.keepIn K (.ref f_Tongue___init__) = true)
    (i_House_add : PySem.W.isFn K (.ref f_House_add) = true)
    (l_House_add : K.lookup f_House_add = some ⟨oc_House_add, od_House_add, .func (PySem.W.fnOf "add" "House.add" (defArgs s_House_add) (defBody s_House_add) (defScope s_House_add) .none kV_House_add dc_House_add pm_House_add an_House_add cd_House_add ct_House_add), sl_House_add⟩)
    (q_House_add : PySem.W.codeIn K cd_House_add "House.add" = true)
    (k_House_add : PySem.W.keepIn K (.ref f_House_add) = true)
    (i_House_tongue_named : PySem.W.isFn K (.ref f_House_tongue_named) = true)
    (l_House_tongue_named : K.lookup f_House_tongue_named = some ⟨oc_House_tongue_named, od_House_tongue_named, .func (PySem.W.fnOf "tongue_named" "House.tongue_named" (defArgs s_House_tongue_named) (defBody s_House_tongue_named) (defScope s_House_tongue_named) .none kV_House_tongue_named dc_House_tongue_named pm_House_tongue_named an_House_tongue_named cd_House_tongue_named ct_House_tongue_named), sl_House_tongue_named⟩)
    (q_House_tongue_named : PySem.W.codeIn K cd_House_tongue_named "House.tongue_named" = true)
    (k_House_tongue_named : PySem.W.keepIn K (.ref f_House_tongue_named) = true)
    (i_House_tongues : PySem.W.isFn K (.ref f_House_tongues) = true)
    (l_House_tongues : K.lookup f_House_tongues = some ⟨oc_House_tongues, od_House_tongues, .func (PySem.W.fnOf "tongues" "House.tongues" (defArgs s_House_tongues) (defBody s_House_tongues) (defScope s_House_tongues) .none kV_House_tongues dc_House_tongues pm_House_tongues an_House_tongues cd_House_tongues ct_House_tongues), sl_House_tongues⟩)
    (q_House_tongues : PySem.W.codeIn K cd_House_tongues "House.tongues" = true)
    (k_House_tongues : PySem.W.keepIn K (.ref f_House_tongues) = true)
    (aC_NoTongue : PySem.W.nsIn K mainGlobals "NoTongue" = some (some (.ref C_NoTongue)))
    (xbe_NoTongue : PySem.W.subIn K (.ref C_NoTongue) (.type "BaseException") = some true)
    (xhd_NoTongue : PySem.W.hasDictIn K C_NoTongue = true)
    (xty_NoTongue : PySem.W.typeIn K (.ref C_NoTongue) = some (.type "type"))
    (aC_SayError : PySem.W.nsIn K mainGlobals "SayError" = some (some (.ref C_SayError)))
    (xbe_SayError : PySem.W.subIn K (.ref C_SayError) (.type "BaseException") = some true)
    (xhd_SayError : PySem.W.hasDictIn K C_SayError = true)
    (xty_SayError : PySem.W.typeIn K (.ref C_SayError) = some (.type "type"))
    (xex_NoTongue : PySem.W.excIn K C_NoTongue [.type "ValueError", .type "Exception", .type "BaseException", .type "object"] "ValueError.__new__" = true)
    (xkp_NoTongue : PySem.W.keepIn K (.ref C_NoTongue) = true)
    (xve_NoTongue : PySem.W.subIn K (.ref C_NoTongue) (.type "ValueError") = some true)
    (xme_NoTongue : PySem.W.subIn K (.ref C_NoTongue) (.ref C_NoTongue) = some true)
    (xg2_NoTongue : PySem.W.findIn K (.ref C_NoTongue) "__getattribute__" = some (some (.builtin "BaseException.__getattribute__")))
    (xk2_NoTongue : PySem.W.findIn K (.ref C_NoTongue) "__getattr__" = some none)
    (xa2_NoTongue : PySem.W.findIn K (.ref C_NoTongue) "__class__" = some (some (.builtin "object.__class__")))
    (xm2_NoTongue : PySem.W.mroIn K C_NoTongue (.type "object") = some true)
    (xsp : PySem.W.specialIn K (.builtin "object.__class__") "__get__" = some (some (.builtin "getset_descriptor.__get__")))
    (xta : PySem.W.takesIn K (.builtin "object.__class__") = some true)
    (xs_NoTongue_SayError : PySem.W.subIn K (.ref C_NoTongue) (.ref C_SayError) = some true)
    (z_ValueError : PySem.W.nsIn K mainGlobals "ValueError" = some none)
    (z_len : PySem.W.nsIn K mainGlobals "len" = some none)
    (z_isinstance : PySem.W.nsIn K mainGlobals "isinstance" = some none)
    (z_str : PySem.W.nsIn K mainGlobals "str" = some none)
    (z_int : PySem.W.nsIn K mainGlobals "int" = some none)
    (z_bool : PySem.W.nsIn K mainGlobals "bool" = some none)
    (z_list : PySem.W.nsIn K mainGlobals "list" = some none)
    (z_tuple : PySem.W.nsIn K mainGlobals "tuple" = some none)
    (z_dict : PySem.W.nsIn K mainGlobals "dict" = some none)
    (z_set : PySem.W.nsIn K mainGlobals "set" = some none)
    (z_range : PySem.W.nsIn K mainGlobals "range" = some none)
    (z_enumerate : PySem.W.nsIn K mainGlobals "enumerate" = some none)
    (z_zip : PySem.W.nsIn K mainGlobals "zip" = some none)
    (z_reversed : PySem.W.nsIn K mainGlobals "reversed" = some none)
    (z_sorted : PySem.W.nsIn K mainGlobals "sorted" = some none)
    (z_sum : PySem.W.nsIn K mainGlobals "sum" = some none)
    (z_all : PySem.W.nsIn K mainGlobals "all" = some none)
    (z_any : PySem.W.nsIn K mainGlobals "any" = some none)
    (z_abs : PySem.W.nsIn K mainGlobals "abs" = some none)
    (z_max : PySem.W.nsIn K mainGlobals "max" = some none)
    (z_min : PySem.W.nsIn K mainGlobals "min" = some none)
    (z_ord : PySem.W.nsIn K mainGlobals "ord" = some none)
    (z_divmod : PySem.W.nsIn K mainGlobals "divmod" = some none)
    (z_repr : PySem.W.nsIn K mainGlobals "repr" = some none) :
    ∃ fd : FuncData, (∀ (s : Shared) (v : Value), BindsTo s fd ⟨[v], []⟩ [("_law_script", v)]) ∧ ∀ base : Heap, K.In base → base.Ns mainGlobals mg → FnOk P w K mg base (L2.CX P w) 6 fa fd ["_law_script"] (spLaw K) := by
  have e := hfa.symm.trans (PySem.W.mg_of X G a_law)
  cases e
  have hB : Bl mg := ⟨PySem.W.mg_none_of X G z_len, PySem.W.mg_none_of X G z_isinstance, PySem.W.mg_none_of X G z_str, PySem.W.mg_none_of X G z_int, PySem.W.mg_none_of X G z_bool, PySem.W.mg_none_of X G z_list, PySem.W.mg_none_of X G z_tuple, PySem.W.mg_none_of X G z_dict, PySem.W.mg_none_of X G z_set, PySem.W.mg_none_of X G z_range, PySem.W.mg_none_of X G z_enumerate, PySem.W.mg_none_of X G z_zip, PySem.W.mg_none_of X G z_reversed, PySem.W.mg_none_of X G z_sorted, PySem.W.mg_none_of X G z_sum, PySem.W.mg_none_of X G z_all, PySem.W.mg_none_of X G z_any, PySem.W.mg_none_of X G z_abs, PySem.W.mg_none_of X G z_max, PySem.W.mg_none_of X G z_min, PySem.W.mg_none_of X G z_ord, PySem.W.mg_none_of X G z_divmod, PySem.W.mg_none_of X G z_repr⟩
  have F__law_cell_at := fun_mk (st := s__law_cell_at) l__law_cell_at q__law_cell_at k__law_cell_at
  have F__law_purse := fun_mk (st := s__law_purse) l__law_purse q__law_purse k__law_purse
  have F__law_take := fun_mk (st := s__law_take) l__law_take q__law_take k__law_take
  have F__law_word := fun_mk (st := s__law_word) l__law_word q__law_word k__law_word
  have F__law_words := fun_mk (st := s__law_words) l__law_words q__law_words k__law_words
  have F__law_falls := fun_mk (st := s__law_falls) l__law_falls q__law_falls k__law_falls
  have F_House___init__ := fun_mk (st := s_House___init__) l_House___init__ q_House___init__ k_House___init__
  have F_Tongue___init__ := fun_mk (st := s_Tongue___init__) l_Tongue___init__ q_Tongue___init__ k_Tongue___init__
  have F__law_tongue := fun_mk (st := s__law_tongue) l__law_tongue q__law_tongue k__law_tongue
  have F_House_add := fun_mk (st := s_House_add) l_House_add q_House_add k_House_add
  have F__law_house := fun_mk (st := s__law_house) l__law_house q__law_house k__law_house
  have F_House_tongue_named := fun_mk (st := s_House_tongue_named) l_House_tongue_named q_House_tongue_named k_House_tongue_named
  have F_House_tongues := fun_mk (st := s_House_tongues) l_House_tongues q_House_tongues k_House_tongues
  have F_road := fun_mk (st := s_road) l_road q_road k_road
  have F__law_next := fun_mk (st := s__law_next) l__law_next q__law_next k__law_next
  have F__law_walked := fun_mk (st := s__law_walked) l__law_walked q__law_walked k__law_walked
  have F__law_refused := fun_mk (st := s__law_refused) l__law_refused q__law_refused k__law_refused
  have F_law := fun_mk (st := s_law) l_law q_law k_law
  have hC_House : mg (nmS 311107613541) = some (.ref C_House) := by rw [show nmS 311107613541 = "House" from by decide +kernel]; exact PySem.W.mg_of X G aC_House
  have cl_House : Cls K C_House := ⟨pg_House, hd_House, po_House, sa_House⟩
  have hC_Tongue : mg (nmS 92837570377061) = some (.ref C_Tongue) := by rw [show nmS 92837570377061 = "Tongue" from by decide +kernel]; exact PySem.W.mg_of X G aC_Tongue
  have cl_Tongue : Cls K C_Tongue := ⟨pg_Tongue, hd_Tongue, po_Tongue, sa_Tongue⟩
  have xC_NoTongue : mg (nmS 5651828894943638885) = some (.ref C_NoTongue) := by rw [show nmS 5651828894943638885 = "NoTongue" from by decide +kernel]; exact PySem.W.mg_of X G aC_NoTongue
  have hcl_NoTongue : HCl K C_NoTongue := ⟨xbe_NoTongue, xhd_NoTongue, xty_NoTongue⟩
  have xC_SayError : mg (nmS 6008216717068758898) = some (.ref C_SayError) := by rw [show nmS 6008216717068758898 = "SayError" from by decide +kernel]; exact PySem.W.mg_of X G aC_SayError
  have hcl_SayError : HCl K C_SayError := ⟨xbe_SayError, xhd_SayError, xty_SayError⟩
  have xcl_NoTongue : XCl K C_NoTongue := ⟨xex_NoTongue, xkp_NoTongue, xty_NoTongue, ⟨xg2_NoTongue, xk2_NoTongue, xbe_NoTongue, xhd_NoTongue, xa2_NoTongue, xsp, xta, xm2_NoTongue⟩, xve_NoTongue, xme_NoTongue⟩
  have hT : XT K mg xT := (.cons xC_NoTongue xC_NoTongue xme_NoTongue xcl_NoTongue hcl_NoTongue (.cons xC_NoTongue xC_SayError xs_NoTongue_SayError xcl_NoTongue hcl_SayError (.nil (PySem.W.mg_none_of X G z_ValueError))))
  refine ⟨PySem.W.fnOf "law" "law" (defArgs s_law) (defBody s_law) (defScope s_law) .none kV_law dc_law pm_law an_law cd_law ct_law, fun s v => .of_eq rfl, fun base _ _ => ?_⟩
  have hF_kind_row : ClsF K mg [311107613541] "kind_row" := (.cons hC_House cl_House nf_House_kind_row .nil)
  have hF_rank_row : ClsF K mg [311107613541] "rank_row" := (.cons hC_House cl_House nf_House_rank_row .nil)
  have hF_thing_row : ClsF K mg [311107613541] "thing_row" := (.cons hC_House cl_House nf_House_thing_row .nil)
  have hF_by_name : ClsF K mg [311107613541] "by_name" := (.cons hC_House cl_House nf_House_by_name .nil)
  have hF_thing_texts : ClsF K mg [311107613541] "thing_texts" := (.cons hC_House cl_House nf_House_thing_texts .nil)
  have hF_declared : ClsF K mg [311107613541] "declared" := (.cons hC_House cl_House nf_House_declared .nil)
  have hF_pieces_here : ClsF K mg [311107613541] "pieces_here" := (.cons hC_House cl_House nf_House_pieces_here .nil)
  have hF_name : ClsF K mg [92837570377061] "name" := (.cons hC_Tongue cl_Tongue nf_Tongue_name .nil)
  have hF_falls : ClsF K mg [92837570377061] "falls" := (.cons hC_Tongue cl_Tongue nf_Tongue_falls .nil)
  have hF_rules : ClsF K mg [92837570377061] "rules" := (.cons hC_Tongue cl_Tongue nf_Tongue_rules .nil)
  have hF_joiners : ClsF K mg [92837570377061] "joiners" := (.cons hC_Tongue cl_Tongue nf_Tongue_joiners .nil)
  have hF_figures : ClsF K mg [92837570377061] "figures" := (.cons hC_Tongue cl_Tongue nf_Tongue_figures .nil)
  have hF_calendar : ClsF K mg [92837570377061] "calendar" := (.cons hC_Tongue cl_Tongue nf_Tongue_calendar .nil)
  have hF_dayform : ClsF K mg [92837570377061] "dayform" := (.cons hC_Tongue cl_Tongue nf_Tongue_dayform .nil)
  have d__law_cell_at : Def P w K mg base 2 "_law_cell_at" 2 c__law_cell_at := ok__law_cell_at hB hT F__law_cell_at (PySem.W.mg_of X G a__law_cell_at)
  have d__law_purse : Def P w K mg base 3 "_law_purse" 2 c__law_purse := ok__law_purse hB hT F__law_purse (PySem.W.mg_of X G a__law_purse) d__law_cell_at
  have d__law_take : Def P w K mg base 2 "_law_take" 2 c__law_take := ok__law_take hB hT F__law_take (PySem.W.mg_of X G a__law_take)
  have d__law_word : Def P w K mg base 3 "_law_word" 1 c__law_word := ok__law_word hB hT F__law_word (PySem.W.mg_of X G a__law_word) d__law_take
  have d__law_words : Def P w K mg base 4 "_law_words" 2 c__law_words := ok__law_words hB hT F__law_words (PySem.W.mg_of X G a__law_words) d__law_word
  have d__law_falls : Def P w K mg base 4 "_law_falls" 3 c__law_falls := ok__law_falls hB hT F__law_falls (PySem.W.mg_of X G a__law_falls) d__law_purse d__law_take
  have dN_House : IDefS P w K mg base 2 "House" 311107613541 3 c_House___init__ := ⟨C_House, f_House___init__, _, ["self", "kinds", "ranks", "things"], PySem.W.mg_of X G aC_House, by decide +kernel, ⟨mk_House, in_House, i_House___init__, kc_House⟩, ok_House___init__ hB hT F_House___init__ hF_kind_row hF_rank_row hF_thing_row hF_by_name hF_thing_texts hF_declared hF_pieces_here, F_House___init__.binds (ps := ["self", "kinds", "ranks", "things"]) fun _ _ _ _ _ _ us hl => match us, hl with | [_, _, _, _], _ => rfl⟩
  have dN_Tongue : IDefS P w K mg base 2 "Tongue" 92837570377061 7 c_Tongue___init__ := ⟨C_Tongue, f_Tongue___init__, _, ["self", "name", "falls", "rules", "joiners", "figures", "calendar", "dayform"], PySem.W.mg_of X G aC_Tongue, by decide +kernel, ⟨mk_Tongue, in_Tongue, i_Tongue___init__, kc_Tongue⟩, ok_Tongue___init__ hB hT F_Tongue___init__ hF_name hF_falls hF_rules hF_joiners hF_figures hF_calendar hF_dayform, F_Tongue___init__.binds (ps := ["self", "name", "falls", "rules", "joiners", "figures", "calendar", "dayform"]) fun _ _ _ _ _ _ us hl => match us, hl with | [_, _, _, _, _, _, _, _], _ => rfl⟩
  have d__law_tongue : Def P w K mg base 4 "_law_tongue" 2 c__law_tongue := ok__law_tongue hB hT F__law_tongue (PySem.W.mg_of X G a__law_tongue) dN_Tongue
  have dM_add : MDef P w K mg base 3 "add" 2 [311107613541] (t_add 1) := okm_add hB hT hF_name hF_by_name F_House_add hC_House cl_House ⟨mt_House_add, i_House_add, k_House_add⟩ 1
  have d__law_house : Def P w K mg base 5 "_law_house" 4 c__law_house := ok__law_house hB hT F__law_house (PySem.W.mg_of X G a__law_house) dN_House d__law_take d__law_tongue dM_add
  have dM_tongue_named : MDef P w K mg base 3 "tongue_named" 2 [311107613541] (t_tongue_named 1) := okm_tongue_named hB hT hF_by_name F_House_tongue_named hC_House cl_House ⟨mt_House_tongue_named, i_House_tongue_named, k_House_tongue_named⟩ 1
  have dM_tongues : MDef P w K mg base 3 "tongues" 1 [311107613541] (t_tongues 1) := okm_tongues hB hT hF_by_name F_House_tongues hC_House cl_House ⟨mt_House_tongues, i_House_tongues, k_House_tongues⟩ 1
  have d_road : Def P w K mg base 4 "road" 2 c_road := ok_road hB hT F_road (PySem.W.mg_of X G a_road) dM_tongue_named dM_tongues hF_falls
  have d__law_next : Def P w K mg base 2 "_law_next" 4 c__law_next := ok__law_next hB hT F__law_next (PySem.W.mg_of X G a__law_next)
  have d__law_walked : Def P w K mg base 3 "_law_walked" 5 c__law_walked := ok__law_walked hB hT F__law_walked (PySem.W.mg_of X G a__law_walked) d__law_next
  have d__law_refused : Def P w K mg base 5 "_law_refused" 2 c__law_refused := ok__law_refused hB hT F__law_refused (PySem.W.mg_of X G a__law_refused) d_road
  exact law_imp hc (ok_law hB hT F_law d__law_purse d__law_words d__law_take d__law_falls d__law_house d_road d__law_walked d__law_refused)
end M

namespace DL
open PySem PySem.Spec PyProof.Rows L2
/-! ### evaluation from the front -/
def Res.go {α β : Type} (r : Res α) (k : α → Sls → Store → β) (e : Exc → Sls → Store → β) (z : β) : β :=
  match r with
  | .ok a S st => k a S st
  | .exc x S st => e x S st
  | .stuck => z
/-- a slot read, a slot put, from the front -/
def getK {β : Type} (S : Sls) (i : Nat) (k : Sl → β) (z : β) : β := match S[i]? with
  | some s => k s
  | none => z
def setK {β : Type} (S : Sls) (i : Nat) (x : Sl) (k : Sls → β) : β := k (S.set i x)
def setS {β : Type} (st : Store) (n : Nat) (x : Ob) (k : Store → β) : β := k (st.set n x)
@[simp ↓] theorem setS_a {β : Type} (st : Store) (n : Nat) (x : Ob) (k : Store → β) : setS st n x k = k (st.set n x) := rfl
def iniK {β : Type} (n : Nat) (ds : List D) (k : Sls → β) : β := k (ds.map Sl.d ++ List.replicate (n - ds.length) .no)
section
variable {β : Type}
@[simp ↓] theorem getK_0 (s : Sl) (S : Sls) (k : Sl → β) (z : β) : getK (s :: S) 0 k z = k s := rfl
@[simp ↓] theorem getK_s (s : Sl) (S : Sls) (i : Nat) (k : Sl → β) (z : β) : getK (s :: S) (i + 1) k z = getK S i k z := by simp [getK]
@[simp ↓] theorem setK_0 (s x : Sl) (S : Sls) (k : Sls → β) : setK (s :: S) 0 x k = k (x :: S) := rfl
@[simp ↓] theorem setK_s (s x : Sl) (S : Sls) (i : Nat) (k : Sls → β) : setK (s :: S) (i + 1) x k = setK S i x (fun S => k (s :: S)) := by simp [setK]
@[simp ↓] theorem iniK_0 (k : Sls → β) : iniK 0 [] k = k [] := rfl
@[simp ↓] theorem iniK_d (n : Nat) (d : D) (ds : List D) (k : Sls → β) : iniK (n + 1) (d :: ds) k = iniK n ds (fun S => k (.d d :: S)) := by simp [iniK]
@[simp ↓] theorem iniK_n (n : Nat) (k : Sls → β) : iniK (n + 1) [] k = iniK n [] (fun S => k (.no :: S)) := by simp [iniK, List.replicate_succ]
def vwK {β : Type} (S : Sls) (st : Store) (o : Opd) (k : D → β) (z : β) : β := match vw S st o with
  | some d => k d
  | none => z
def vwsK {β : Type} (S : Sls) (st : Store) (o : List Opd) (k : List D → β) (z : β) : β := match vws S st o with
  | some d => k d
  | none => z
def vdsK {β : Type} (S : Sls) (o : List Opd) (k : List D → β) (z : β) : β := match vds S o with
  | some d => k d
  | none => z
def wipeK {β : Type} (S : Sls) (own : List Nat) (k : Sls → β) : β := k (wipeS S own)
def restK {β : Type} (S0 : Sls) (own : List Nat) (S : Sls) (k : Sls → β) : β := k (restS S0 own S)
@[simp ↓] theorem vwK_v (S : Sls) (st : Store) (d : D) (k : D → β) (z : β) : vwK S st (.v d) k z = k d := rfl
@[simp ↓] theorem vwK_s (S : Sls) (st : Store) (i : Nat) (k : D → β) (z : β) : vwK S st (.s i) k z = getK S i (fun s => match s with | .d d => k d | .own w => k w.d | .no => z) z := by
  unfold vwK getK; rw [vw_s]; rcases S[i]? with _ | s
  · rfl
  · cases s <;> rfl
@[simp ↓] theorem vwK_h (S : Sls) (st : Store) (n : Nat) (k : D → β) (z : β) : vwK S st (.h n) k z = match st[n]? with | some (.t _) => z | some x => k x.d | none => z := by
  unfold vwK; rw [vw_h]; rcases st[n]? with _ | x
  · rfl
  · cases x <;> rfl
@[simp ↓] theorem vwsK_n (S : Sls) (st : Store) (k : List D → β) (z : β) : vwsK S st [] k z = k [] := rfl
@[simp ↓] theorem vwsK_c (S : Sls) (st : Store) (o : Opd) (r : List Opd) (k : List D → β) (z : β) : vwsK S st (o :: r) k z = vwK S st o (fun d => vwsK S st r (fun ds => k (d :: ds)) z) z := by
  unfold vwsK vwK; rw [vws_c]; cases vw S st o <;> cases vws S st r <;> rfl
@[simp ↓] theorem vdsK_n (S : Sls) (k : List D → β) (z : β) : vdsK S [] k z = k [] := rfl
@[simp ↓] theorem vdsK_v (S : Sls) (d : D) (r : List Opd) (k : List D → β) (z : β) : vdsK S (.v d :: r) k z = vdsK S r (fun ds => k (d :: ds)) z := by
  unfold vdsK; rw [vds_c, vd_v]; cases vds S r <;> rfl
@[simp ↓] theorem vdsK_h (S : Sls) (n : Nat) (r : List Opd) (k : List D → β) (z : β) : vdsK S (.h n :: r) k z = vdsK S r (fun ds => k (.loc n :: ds)) z := by
  unfold vdsK; rw [vds_c, vd_h]; cases vds S r <;> rfl
@[simp ↓] theorem vdsK_s (S : Sls) (i : Nat) (r : List Opd) (k : List D → β) (z : β) : vdsK S (.s i :: r) k z = getK S i (fun s => match s with | .d d => vdsK S r (fun ds => k (d :: ds)) z | _ => z) z := by
  unfold vdsK getK; rw [vds_c, vd_s]; rcases S[i]? with _ | s
  · rfl
  · cases s <;> cases vds S r <;> rfl
@[simp ↓] theorem wipeK_n (S : Sls) (k : Sls → β) : wipeK S [] k = k S := rfl
@[simp ↓] theorem wipeK_c (S : Sls) (v : Nat) (r : List Nat) (k : Sls → β) : wipeK S (v :: r) k = wipeK S r (fun S => setK S v .no k) := rfl
@[simp ↓] theorem restK_n (S0 S : Sls) (k : Sls → β) : restK S0 [] S k = k S := rfl
@[simp ↓] theorem restK_c (S0 S : Sls) (i : Nat) (r : List Nat) (k : Sls → β) : restK S0 (i :: r) S k = getK S0 i (fun s => match s with | .d x => setK S i (.d x) (fun S => restK S0 r S k) | _ => restK S0 r S k) (restK S0 r S k) := by
  unfold restK getK setK; rw [restS_c]; rcases S0[i]? with _ | s
  · rfl
  · cases s <;> rfl
def finB : Out → Res D
  | .nx _ st => .ok .non [] st
  | .ret d _ st => .ok d [] st
  | .exc x _ st => .exc x [] st
  | _ => .stuck
@[simp] theorem finB_nx (S : Sls) (st : Store) : finB (.nx S st) = .ok .non [] st := rfl
@[simp] theorem finB_ret (d : D) (S : Sls) (st : Store) : finB (.ret d S st) = .ok d [] st := rfl
@[simp] theorem finB_exc (x : Exc) (S : Sls) (st : Store) : finB (.exc x S st) = .exc x [] st := rfl
@[simp] theorem finB_stuck : finB .stuck = .stuck := rfl
def iniL {β : Type} (n : Nat) (ss : Sls) (k : Sls → β) : β := k (ss ++ List.replicate (n - ss.length) .no)
@[simp ↓] theorem iniL_0 (k : Sls → β) : iniL 0 [] k = k [] := rfl
@[simp ↓] theorem iniL_d (n : Nat) (d : Sl) (ds : Sls) (k : Sls → β) : iniL (n + 1) (d :: ds) k = iniL n ds (fun S => k (d :: S)) := by simp [iniL]
@[simp ↓] theorem iniL_n (n : Nat) (k : Sls → β) : iniL (n + 1) [] k = iniL n [] (fun S => k (.no :: S)) := by simp [iniL, List.replicate_succ]
def finO : Out → Res Ow
  | .rto w _ st => .ok w [] st
  | .exc x _ st => .exc x [] st
  | _ => .stuck
@[simp] theorem finO_rto (w : Ow) (S : Sls) (st : Store) : finO (.rto w S st) = .ok w [] st := rfl
@[simp] theorem finO_exc (x : Exc) (S : Sls) (st : Store) : finO (.exc x S st) = .exc x [] st := rfl
@[simp] theorem finO_stuck : finO .stuck = .stuck := rfl
theorem runBO_k (N : Nat) (b : EvS) (ss : List Sl) (st : Store) : runBO N b ss st = iniL N ss fun S => finO (b S st) := by
  rw [runBO_a]; show _ = finO (b _ _); cases b (ss ++ List.replicate (N - ss.length) .no) st <;> rfl
theorem runB_k (N : Nat) (b : EvS) (ds : List D) (st : Store) : runB N b ds st = iniK N ds fun S => finB (b S st) := by
  rw [runB_a]; show _ = finB (b _ _); cases b (ds.map Sl.d ++ List.replicate (N - ds.length) .no) st <;> rfl
end
section
variable {α β γ : Type} {S : Sls} {st : Store}
@[simp ↓] theorem Res.bind_go (r : Res α) (k : α → Sls → Store → Res β) : r.bind k = r.go k .exc .stuck := by cases r <;> rfl
@[simp ↓] theorem Res.out_go (r : Res α) (k : α → Sls → Store → Out) : r.out k = r.go k .exc .stuck := by cases r <;> rfl
@[simp ↓] theorem go_ok (a : α) (k : α → Sls → Store → β) (e : Exc → Sls → Store → β) (z : β) : (Res.ok a S st).go k e z = k a S st := rfl
@[simp ↓] theorem go_exc (x : Exc) (k : α → Sls → Store → β) (e : Exc → Sls → Store → β) (z : β) : (Res.exc x S st).go k e z = e x S st := rfl
@[simp ↓] theorem go_stuck (k : α → Sls → Store → β) (e : Exc → Sls → Store → β) (z : β) : (Res.stuck : Res α).go k e z = z := rfl
@[simp ↓] theorem go_go (r : Res α) (G : α → Sls → Store → Res γ) (k : γ → Sls → Store → β) (e : Exc → Sls → Store → β) (z : β) : (r.go G .exc .stuck).go k e z = r.go (fun a S st => (G a S st).go k e z) e z := by cases r <;> rfl
theorem go_bind (r : Res α) (G : α → Sls → Store → Res γ) (k : γ → Sls → Store → β) (e : Exc → Sls → Store → β) (z : β) : (r.bind G).go k e z = r.go (fun a S st => (G a S st).go k e z) e z := by cases r <;> rfl
@[simp ↓] theorem go_got (o : Option α) (k : α → Sls → Store → β) (e : Exc → Sls → Store → β) (z : β) : (got o S st).go k e z = match o with | some d => k d S st | none => z := by cases o <;> rfl
theorem go_c {r : Res α} {k k' : α → Sls → Store → β} {e : Exc → Sls → Store → β} {z : β} (h : ∀ a S st, k a S st = k' a S st) : r.go k e z = r.go k' e z := by cases r <;> first | rfl | exact h _ _ _
theorem calm_go (r : Res α) (k : α → Sls → Store → β) (e : Exc → Sls → Store → β) (z : β) : r.calm.go k e z = r.go k (fun _ _ _ => z) z := by cases r <;> rfl
@[simp ↓] theorem kE_g (d : D) (k : D → Sls → Store → β) (e : Exc → Sls → Store → β) (z : β) : (kE d S st).go k e z = k d S st := by
  rfl
@[simp ↓] theorem vE_g (i : Nat) (k : D → Sls → Store → β) (e : Exc → Sls → Store → β) (z : β) : (vE i S st).go k e z = getK S i (fun s => match s with | .d d => k d S st | _ => z) z := by
  rw [vE_a]; unfold getK; rcases S[i]? with _ | s
  · rfl
  · cases s <;> rfl
@[simp ↓] theorem zE_g (i : Nat) (k : D → Sls → Store → β) (e : Exc → Sls → Store → β) (z : β) : (zE i S st).go k e z = getK S i (fun s => match s with | .d d => k d S st | .own w => setK S i (.d w.d) (fun S => k w.d S st) | _ => z) z := by
  rw [zE_a]; unfold getK; rcases S[i]? with _ | s
  · rfl
  · cases s <;> rfl
@[simp ↓] theorem oV_g (f : Ev D) (k : Opd → Sls → Store → β) (e : Exc → Sls → Store → β) (z : β) : (oV f S st).go k e z = (f S st).go (fun d S st => k (.v d) S st) e z := by
  rw [oV_a, go_bind]; rfl
@[simp ↓] theorem oS_g (i : Nat) (k : Opd → Sls → Store → β) (e : Exc → Sls → Store → β) (z : β) : (oS i S st).go k e z = getK S i (fun s => match s with | .no => z | _ => k (.s i) S st) z := by
  rw [oS_a]; unfold getK; rcases S[i]? with _ | s
  · rfl
  · cases s <;> rfl
@[simp ↓] theorem aN_g  (k : List Opd → Sls → Store → β) (e : Exc → Sls → Store → β) (z : β) : (aN S st).go k e z = k [] S st := by
  rfl
@[simp ↓] theorem aC_g (f : Ev Opd) (g : Ev (List Opd)) (k : List Opd → Sls → Store → β) (e : Exc → Sls → Store → β) (z : β) : (aC f g S st).go k e z = (f S st).go (fun a S st => (g S st).go (fun r S st => k (a :: r) S st) e z) e z := by
  rw [aC_a, go_bind]; exact go_c fun a S st => by rw [go_bind]; rfl
@[simp ↓] theorem o2E_g (op : D → D → Option D) (fa fb : Ev Opd) (k : D → Sls → Store → β) (e : Exc → Sls → Store → β) (z : β) : (o2E op fa fb S st).go k e z = (fa S st).go (fun a S st => (fb S st).go (fun b S st => vwK S st a (fun x => vwK S st b (fun y => match op x y with | some d => k d S st | none => z) z) z) e z) e z := by
  simp only [vwK, vwsK, vdsK, wipeK, restK]
  rw [o2E_a, go_bind]; refine go_c fun a S st => ?_; rw [go_bind]; refine go_c fun b S st => ?_; cases vw S st a <;> cases vw S st b <;> first | rfl | (simp only [go_got]; done) | (simp only [go_got]; split <;> simp_all)
@[simp ↓ high] theorem o2E_gv (op : D → D → Option D) (f g : Ev D) (k : D → Sls → Store → β) (e : Exc → Sls → Store → β) (z : β) : (o2E op (oV f) (oV g) S st).go k e z = (f S st).go (fun x S st => (g S st).go (fun y S st => match op x y with | some d => k d S st | none => z) e z) e z := by
  rw [o2E_g, oV_g]; refine go_c fun a S st => ?_; rw [oV_g]; rfl
@[simp ↓] theorem o1E_g (op : D → Option D) (fa : Ev Opd) (k : D → Sls → Store → β) (e : Exc → Sls → Store → β) (z : β) : (o1E op fa S st).go k e z = (fa S st).go (fun a S st => vwK S st a (fun x => match op x with | some d => k d S st | none => z) z) e z := by
  simp only [vwK, vwsK, vdsK, wipeK, restK]
  rw [o1E_a, go_bind]; refine go_c fun a S st => ?_; cases vw S st a <;> first | rfl | (simp only [go_got]; done) | (simp only [go_got]; split <;> simp_all)
@[simp ↓] theorem oAE_g (op : List D → Option D) (fa : Ev (List Opd)) (k : D → Sls → Store → β) (e : Exc → Sls → Store → β) (z : β) : (oAE op fa S st).go k e z = (fa S st).go (fun a S st => vwsK S st a (fun x => match op x with | some d => k d S st | none => z) z) e z := by
  simp only [vwK, vwsK, vdsK, wipeK, restK]
  rw [oAE_a, go_bind]; refine go_c fun a S st => ?_; cases vws S st a <;> first | rfl | (simp only [go_got]; done) | (simp only [go_got]; split <;> simp_all)
@[simp ↓] theorem oAF_g (op : List D → Option Ow) (fa : Ev (List Opd)) (k : Ow → Sls → Store → β) (e : Exc → Sls → Store → β) (z : β) : (oAF op fa S st).go k e z = (fa S st).go (fun a S st => vwsK S st a (fun x => match op x with | some d => k d S st | none => z) z) e z := by
  simp only [vwK, vwsK, vdsK, wipeK, restK]
  rw [oAF_a, go_bind]; refine go_c fun a S st => ?_; cases vws S st a <;> first | rfl | (simp only [go_got]; done) | (simp only [go_got]; split <;> simp_all)
@[simp ↓] theorem lcH_g (fo : Ev Opd) (g : Tg) (own : List Nat) (t : Ev Bool) (f : Ev D) (k : Ow → Sls → Store → β) (e : Exc → Sls → Store → β) (z : β) : (lcH fo g own t f S st).go k e z = (fo S st).go (fun a S st => match getL st a with | some ds => (wipeK S own fun Sw => match lcHL g own t f a ds.length 0 Sw st with | .ok ys S2 st => (if ys.length ≤ 16777216 then restK S own S2 (fun S => k (.l ys) S st) else z) | .exc x S st => e x S st | .stuck => z) | none => z) e z := by
  simp only [vwK, vwsK, vdsK, wipeK, restK]
  rw [lcH_a, go_bind]; refine go_c fun a S st => ?_
  cases getL st a with
  | none => rfl
  | some ds =>
    dsimp only
    rw [go_bind]
    cases lcHL g own t f a ds.length 0 (wipeS S own) st <;> try rfl
    show Res.go (ite _ _ _) _ _ _ = ite _ _ _
    split <;> rfl
@[simp ↓] theorem lcO_g (v : Nat) (g : Tg) (own : List Nat) (t : Ev Bool) (f : Ev D) (k : Ow → Sls → Store → β) (e : Exc → Sls → Store → β) (z : β) : (lcO v g own t f S st).go k e z = (match getO S v with | some ds => if own.contains v = true then z else (wipeK S own fun Sw => match lcOL g own t f v ds.length 0 Sw st with | .ok ys S2 st => (if ys.length ≤ 16777216 then restK S own S2 (fun S => k (.l ys) S st) else z) | .exc x S st => e x S st | .stuck => z) | none => z) := by
  simp only [vwK, vwsK, vdsK, wipeK, restK]
  rw [lcO_a]
  cases getO S v with
  | none => rfl
  | some ds =>
    dsimp only
    by_cases h : own.contains v = true
    · rw [if_pos h, if_pos h]; rfl
    · rw [if_neg h, if_neg h, go_bind]
      cases lcOL g own t f v ds.length 0 (wipeS S own) st <;> try rfl
      show Res.go (ite _ _ _) _ _ _ = ite _ _ _
      split <;> rfl
@[simp ↓] theorem o2O_g (op : D → D → Option D) (fa : Ev Opd) (fb : Ev D) (k : D → Sls → Store → β) (e : Exc → Sls → Store → β) (z : β) : (o2O op fa fb S st).go k e z = (fa S st).go (fun a S st => (fb S st).go (fun b S st => vwK S st a (fun x => match x with | .lst ds => (match dp st 40 (.lst ds), dp st 40 b with | some x, some y => (match op x y with | some d => (if scal d = true then k d S st else z) | none => z) | _, _ => z) | _ => z) z) e z) e z := by
  simp only [vwK, vwsK, vdsK, wipeK, restK]
  rw [o2O_a, go_bind]; refine go_c fun a S st => ?_; rw [go_bind]; refine go_c fun b S st => ?_
  cases vw S st a with
  | none => rfl
  | some x =>
    cases x <;> try rfl
    rename_i ds
    dsimp only
    cases dp st 40 (.lst ds) <;> cases dp st 40 b <;> try rfl
    dsimp only
    rename_i x y
    cases op x y <;> try rfl
    dsimp only
    split <;> rfl
@[simp ↓] theorem oRev_g (f : Ev Opd) (k : Ow → Sls → Store → β) (e : Exc → Sls → Store → β) (z : β) : (oRev f S st).go k e z = (f S st).go (fun a S st => vwK S st a (fun x => match asL x with | some ds => k (.l ds.reverse) S st | none => z) z) e z := by
  simp only [vwK, vwsK, vdsK, wipeK, restK]
  rw [oRev_a, go_bind]; refine go_c fun a S st => ?_
  cases vw S st a with
  | none => rfl
  | some x => dsimp only; cases asL x <;> rfl
@[simp ↓] theorem eRevT_g (f : Ev D) (k : D → Sls → Store → β) (e : Exc → Sls → Store → β) (z : β) : (eRevT f S st).go k e z = (f S st).go (fun d S st => match d with | .tup ds => k (.tup ds.reverse) S st | _ => z) e z := by
  rw [eRevT_a, go_bind]; refine go_c fun a S st => ?_; cases a <;> rfl
@[simp ↓] theorem o2F_g (op : D → D → Option Ow) (fa fb : Ev Opd) (k : Ow → Sls → Store → β) (e : Exc → Sls → Store → β) (z : β) : (o2F op fa fb S st).go k e z = (fa S st).go (fun a S st => (fb S st).go (fun b S st => vwK S st a (fun x => vwK S st b (fun y => match op x y with | some d => k d S st | none => z) z) z) e z) e z := by
  simp only [vwK, vwsK, vdsK, wipeK, restK]
  rw [o2F_a, go_bind]; refine go_c fun a S st => ?_; rw [go_bind]; refine go_c fun b S st => ?_; cases vw S st a <;> cases vw S st b <;> first | rfl | (simp only [go_got]; done) | (simp only [go_got]; split <;> simp_all)
@[simp ↓] theorem mE_g (T : String) (op : D → List D → Option D) (fo : Ev Opd) (fa : Ev (List Opd)) (k : D → Sls → Store → β) (e : Exc → Sls → Store → β) (z : β) : (mE T op fo fa S st).go k e z = (fo S st).go (fun o S st => vwK S st o (fun y => if tyD T y = true then (fa S st).go (fun a S st => vwK S st o (fun y => vwsK S st a (fun x => match op y x with | some d => k d S st | none => z) z) z) e z else z) z) e z := by
  simp only [vwK, vwsK, vdsK, wipeK, restK]
  rw [mE_a, go_bind]; refine go_c fun o S st => ?_
  cases vw S st o with
  | none => rfl
  | some y =>
    show Res.go (ite _ _ _) _ _ _ = ite _ _ _
    split
    · rw [go_bind]; refine go_c fun a S st => ?_; cases vw S st o <;> cases vws S st a <;> first | rfl | (simp only [go_got]; done) | (simp only [go_got]; split <;> simp_all)
    · rfl
@[simp ↓] theorem m0E_g (T : String) (op : D → Option D) (fo : Ev Opd) (k : D → Sls → Store → β) (e : Exc → Sls → Store → β) (z : β) : (m0E T op fo S st).go k e z = (fo S st).go (fun o S st => vwK S st o (fun y => if tyD T y = true then (match op y with | some d => k d S st | none => z) else z) z) e z := by
  simp only [vwK, vwsK, vdsK, wipeK, restK]
  rw [m0E_a, go_bind]; refine go_c fun o S st => ?_
  cases vw S st o with
  | none => rfl
  | some y =>
    show Res.go (ite _ _ _) _ _ _ = ite _ _ _
    split
    · simp only [go_got]; try (split <;> simp_all)
    · rfl
@[simp ↓] theorem fE_g (f : Ev Ow) (k : D → Sls → Store → β) (e : Exc → Sls → Store → β) (z : β) : (fE f S st).go k e z = (f S st).go (fun w S st => k w.d S st) e z := by
  rw [fE_a, go_bind]; rfl
@[simp ↓] theorem lF_g (fa : Ev (List Opd)) (k : Ow → Sls → Store → β) (e : Exc → Sls → Store → β) (z : β) : (lF fa S st).go k e z = (fa S st).go (fun a S st => vdsK S a (fun ds => if ds.length ≤ 16777216 then k (.l ds) S st else z) z) e z := by
  simp only [vwK, vwsK, vdsK, wipeK, restK]
  rw [lF_a, go_bind]; refine go_c fun a S st => ?_
  cases vds S a with
  | none => rfl
  | some ds => show Res.go (ite _ _ _) _ _ _ = ite _ _ _; split <;> rfl
@[simp ↓] theorem pE_g (fa : Ev (List Opd)) (k : D → Sls → Store → β) (e : Exc → Sls → Store → β) (z : β) : (pE fa S st).go k e z = (fa S st).go (fun a S st => vdsK S a (fun ds => if ds.length ≤ 16777216 then k (.tup ds) S st else z) z) e z := by
  simp only [vwK, vwsK, vdsK, wipeK, restK]
  rw [pE_a, go_bind]; refine go_c fun a S st => ?_
  cases vds S a with
  | none => rfl
  | some ds => show Res.go (ite _ _ _) _ _ _ = ite _ _ _; split <;> rfl
@[simp ↓] theorem sN_g  (k : Option Int → Sls → Store → β) (e : Exc → Sls → Store → β) (z : β) : (sN S st).go k e z = k none S st := by
  rfl
@[simp ↓] theorem sS_g (f : Ev D) (k : Option Int → Sls → Store → β) (e : Exc → Sls → Store → β) (z : β) : (sS f S st).go k e z = (f S st).go (fun d S st => match d with | .int i => k (some i) S st | _ => z) e z := by
  rw [sS_a, go_bind]; refine go_c fun d S st => ?_; cases d <;> rfl
@[simp ↓] theorem slE_g (op : D → Option Int → Option Int → Option D) (fa : Ev Opd) (fl fu : Ev (Option Int)) (k : D → Sls → Store → β) (e : Exc → Sls → Store → β) (z : β) : (slE op fa fl fu S st).go k e z = (fa S st).go (fun a S st => (fl S st).go (fun l S st => (fu S st).go (fun u S st => vwK S st a (fun x => match op x l u with | some d => k d S st | none => z) z) e z) e z) e z := by
  simp only [vwK, vwsK, vdsK, wipeK, restK]
  rw [slE_a, go_bind]; refine go_c fun a S st => ?_; rw [go_bind]; refine go_c fun l S st => ?_; rw [go_bind]; refine go_c fun u S st => ?_; cases vw S st a <;> first | rfl | (simp only [go_got]; done) | (simp only [go_got]; split <;> simp_all)
@[simp ↓] theorem cE_g (c : CallT) (fa : Ev (List Opd)) (k : D → Sls → Store → β) (e : Exc → Sls → Store → β) (z : β) : (cE c fa S st).go k e z = (fa S st).go (fun a S st => vdsK S a (fun ds => match c ds st with | .ok d _ st => k d S st | .exc x _ st => e x S st | .stuck => z) z) e z := by
  simp only [vwK, vwsK, vdsK, wipeK, restK]
  rw [cE_a, go_bind]; refine go_c fun a S st => ?_
  cases vds S a with
  | none => rfl
  | some ds => dsimp only; cases c ds st <;> rfl
@[simp ↓] theorem tT_g (f : Ev Opd) (k : Bool → Sls → Store → β) (e : Exc → Sls → Store → β) (z : β) : (tT f S st).go k e z = (f S st).go (fun o S st => vwK S st o (fun d => match tru d with | some b => k b S st | none => z) z) e z := by
  simp only [vwK, vwsK, vdsK, wipeK, restK]
  rw [tT_a, go_bind]; refine go_c fun a S st => ?_; cases vw S st a <;> first | rfl | (simp only [go_got]; done) | (simp only [go_got]; split <;> simp_all)
@[simp ↓] theorem tN_g (f : Ev Bool) (k : Bool → Sls → Store → β) (e : Exc → Sls → Store → β) (z : β) : (tN f S st).go k e z = (f S st).go (fun b S st => k (!b) S st) e z := by
  rw [tN_a, go_bind]; rfl
@[simp ↓] theorem tA_g (f g : Ev Bool) (k : Bool → Sls → Store → β) (e : Exc → Sls → Store → β) (z : β) : (tA f g S st).go k e z = (f S st).go (fun b S st => if b = true then (g S st).go k e z else k false S st) e z := by
  rw [tA_a, go_bind]; refine go_c fun b S st => ?_; cases b <;> rfl
@[simp ↓] theorem tO_g (f g : Ev Bool) (k : Bool → Sls → Store → β) (e : Exc → Sls → Store → β) (z : β) : (tO f g S st).go k e z = (f S st).go (fun b S st => if b = true then k true S st else (g S st).go k e z) e z := by
  rw [tO_a, go_bind]; refine go_c fun b S st => ?_; cases b <;> rfl
@[simp ↓] theorem tV_g (f : Ev D) (k : Bool → Sls → Store → β) (e : Exc → Sls → Store → β) (z : β) : (tV f S st).go k e z = (f S st).go (fun d S st => match d with | .bl b => k b S st | _ => z) e z := by
  rw [tV_a, go_bind]; refine go_c fun b S st => ?_; cases b <;> rfl
@[simp ↓] theorem tY_g  (k : Bool → Sls → Store → β) (e : Exc → Sls → Store → β) (z : β) : (tY S st).go k e z = k true S st := by
  rfl
@[simp ↓] theorem eA_g (f g : Ev D) (k : D → Sls → Store → β) (e : Exc → Sls → Store → β) (z : β) : (eA f g S st).go k e z = (f S st).go (fun d S st => match d with | .bl b => (if b = true then (g S st).go k e z else k (.bl false) S st) | _ => z) e z := by
  rw [eA_a, go_bind]; refine go_c fun d S st => ?_; cases d <;> first | rfl | (rename_i b; cases b <;> rfl)
@[simp ↓] theorem eO_g (f g : Ev D) (k : D → Sls → Store → β) (e : Exc → Sls → Store → β) (z : β) : (eO f g S st).go k e z = (f S st).go (fun d S st => match d with | .bl b => (if b = true then k (.bl true) S st else (g S st).go k e z) | _ => z) e z := by
  rw [eO_a, go_bind]; refine go_c fun d S st => ?_; cases d <;> first | rfl | (rename_i b; cases b <;> rfl)
@[simp ↓] theorem eN_g (f : Ev D) (k : D → Sls → Store → β) (e : Exc → Sls → Store → β) (z : β) : (eN f S st).go k e z = (f S st).go (fun d S st => match d with | .bl b => k (.bl (!b)) S st | _ => z) e z := by
  rw [eN_a, go_bind]; refine go_c fun d S st => ?_; cases d <;> rfl
@[simp ↓] theorem eI_g (t : Ev Bool) (f g : Ev D) (k : D → Sls → Store → β) (e : Exc → Sls → Store → β) (z : β) : (eI t f g S st).go k e z = (t S st).go (fun b S st => if b = true then (f S st).go k e z else (g S st).go k e z) e z := by
  rw [eI_a, go_bind]; refine go_c fun b S st => ?_; cases b <;> rfl
@[simp ↓] theorem iE_g (f : Ev D) (k : List D → Sls → Store → β) (e : Exc → Sls → Store → β) (z : β) : (iE f S st).go k e z = (f S st).go (fun d S st => match itD d with | some ds => k ds S st | none => z) e z := by
  rw [iE_a, go_bind]; refine go_c fun b S st => ?_; simp only [go_got]; try (split <;> simp_all)
@[simp ↓] theorem rgG_g (a n : Int) (k : List D → Sls → Store → β) (e : Exc → Sls → Store → β) (z : β) : (rgG a n S st).go k e z = if (-1000000 ≤ a ∧ a ≤ 1000000) ∧ -1000000 ≤ n ∧ n ≤ 1000000 then k (rng (n - a).toNat a) S st else z := by
  show Res.go (ite _ _ _) _ _ _ = ite _ _ _; split <;> rfl
@[simp ↓] theorem iR1_g (f : Ev (List Opd)) (k : List D → Sls → Store → β) (e : Exc → Sls → Store → β) (z : β) : (iR1 f S st).go k e z = (f S st).go (fun a S st => vwsK S st a (fun l => match l with | [.int n] => (rgG 0 n S st).go k e z | _ => z) z) e z := by
  simp only [vwK, vwsK, vdsK, wipeK, restK]
  rw [iR1_a, go_bind]; refine go_c fun a S st => ?_; rcases vws S st a with _ | l
  · rfl
  · rcases l with _ | ⟨x, r⟩
    · rfl
    · cases x <;> cases r <;> rfl
@[simp ↓] theorem iR2_g (f : Ev (List Opd)) (k : List D → Sls → Store → β) (e : Exc → Sls → Store → β) (z : β) : (iR2 f S st).go k e z = (f S st).go (fun a S st => vwsK S st a (fun l => match l with | [.int a, .int n] => (rgG a n S st).go k e z | _ => z) z) e z := by
  simp only [vwK, vwsK, vdsK, wipeK, restK]
  rw [iR2_a, go_bind]; refine go_c fun a S st => ?_; rcases vws S st a with _ | l
  · rfl
  · rcases l with _ | ⟨x, _ | ⟨y, r⟩⟩
    · rfl
    · cases x <;> rfl
    · cases x <;> first | rfl | (cases y <;> cases r <;> rfl)
@[simp ↓] theorem iEn_g (f : Ev (List Opd)) (k : List D → Sls → Store → β) (e : Exc → Sls → Store → β) (z : β) : (iEn f S st).go k e z = (f S st).go (fun a S st => vdsK S a (fun l => match l with | [d] => (match asL d with | some ds => k (enumD ds) S st | none => z) | _ => z) z) e z := by
  simp only [vwK, vwsK, vdsK, wipeK, restK]
  rw [iEn_a, go_bind]; refine go_c fun a S st => ?_; rcases vds S a with _ | l
  · rfl
  · rcases l with _ | ⟨x, r⟩
    · rfl
    · cases r with
      | nil => dsimp only; cases asL x <;> rfl
      | cons _ _ => rfl
@[simp ↓] theorem iV_g (f : Ev (List Opd)) (k : List D → Sls → Store → β) (e : Exc → Sls → Store → β) (z : β) : (iV f S st).go k e z = (f S st).go (fun a S st => vdsK S a (fun l => match l with | [d] => (match asL d with | some ds => k ds.reverse S st | none => z) | _ => z) z) e z := by
  simp only [vwK, vwsK, vdsK, wipeK, restK]
  rw [iV_a, go_bind]; refine go_c fun a S st => ?_; rcases vds S a with _ | l
  · rfl
  · rcases l with _ | ⟨x, r⟩
    · rfl
    · cases r with
      | nil => dsimp only; cases asL x <;> rfl
      | cons _ _ => rfl
@[simp ↓] theorem iZ_g (f : Ev (List Opd)) (k : List D → Sls → Store → β) (e : Exc → Sls → Store → β) (z : β) : (iZ f S st).go k e z = (f S st).go (fun a S st => vdsK S a (fun l => match l with | [d, d2] => (match asL d, asL d2 with | some ds, some es => k (zipD ds es) S st | _, _ => z) | _ => z) z) e z := by
  simp only [vwK, vwsK, vdsK, wipeK, restK]
  rw [iZ_a, go_bind]; refine go_c fun a S st => ?_; rcases vds S a with _ | l
  · rfl
  · rcases l with _ | ⟨x, _ | ⟨y, r⟩⟩
    · rfl
    · rfl
    · cases r with
      | nil => dsimp only; cases asL x <;> cases asL y <;> rfl
      | cons _ _ => rfl
@[simp ↓] theorem lcF_g (fi : Ev (List D)) (g : Tg) (own : List Nat) (t : Ev Bool) (f : Ev D) (k : Ow → Sls → Store → β) (e : Exc → Sls → Store → β) (z : β) : (lcF fi g own t f S st).go k e z = (fi S st).go (fun ds S st => wipeK S own fun Sw => match lcL g own t f ds Sw st with | .ok ys S2 st => (if ys.length ≤ 16777216 then restK S own S2 (fun S => k (.l ys) S st) else z) | .exc x S st => e x S st | .stuck => z) e z := by
  simp only [vwK, vwsK, vdsK, wipeK, restK]
  rw [lcF_a, go_bind]; refine go_c fun a S st => ?_; rw [go_bind]; cases lcL g own t f a (wipeS S own) st <;> try rfl
  show Res.go (ite _ _ _) _ _ _ = ite _ _ _; split <;> rfl
@[simp ↓] theorem o3E_g (op op2 : D → D → Option D) (f g h : Ev D) (k : D → Sls → Store → β) (e : Exc → Sls → Store → β) (z : β) : (o3E op op2 (oV f) (oV g) (oV h) S st).go k e z = (f S st).go (fun x S st => (g S st).go (fun y S st => match op x y with | some (.bl true) => (h S st).go (fun w S st => match op2 y w with | some d => k d S st | none => z) e z | some (.bl false) => k (.bl false) S st | _ => z) e z) e z := by
  rw [o3E_a, go_bind, oV_g]; refine go_c fun x S st => ?_; rw [go_bind, oV_g]; refine go_c fun y S st => ?_
  show Res.go (match op x y with | some (.bl true) => (oV h S st).bind fun c S st => (match some y, vw S st c with | some y, some z => got (op2 y z) S st | _, _ => .stuck) | some (.bl false) => .ok (.bl false) S st | _ => .stuck) _ _ _ = _
  rcases op x y with _ | d
  · rfl
  · cases d with
    | bl b => cases b with
      | true => show Res.go (Res.bind _ _) _ _ _ = _; rw [go_bind, oV_g]; refine go_c fun w S st => ?_; simp only [vw_v, go_got]; try (split <;> simp_all)
      | false => rfl
    | _ => rfl
@[simp ↓] theorem newE_g (c : Nat) (ks : List Nat) (fa : Ev (List Opd)) (k : D → Sls → Store → β) (e : Exc → Sls → Store → β) (z : β) : (newE c ks fa S st).go k e z = (fa S st).go (fun a S st => vdsK S a (fun ds => if ds.length = ks.length then k (.obj c (ks.zip ds)) S st else z) z) e z := by
  simp only [vwK, vwsK, vdsK, wipeK, restK]
  rw [newE_a, go_bind]; refine go_c fun a S st => ?_
  cases vds S a with
  | none => rfl
  | some ds => show Res.go (ite _ _ _) _ _ _ = ite _ _ _; split <;> rfl
@[simp ↓] theorem mcE_g (cs : List Nat) (mk : Nat) (tab : Nat → CallT) (fo : Ev D) (fa : Ev (List Opd)) (k : D → Sls → Store → β) (e : Exc → Sls → Store → β) (z : β) : (mcE cs mk tab fo fa S st).go k e z = (fo S st).go (fun o S st => match o with | .obj c es => (if c ∈ cs ∧ es.lookup mk = none then (fa S st).go (fun a S st => vdsK S a (fun ds => match tab c (.obj c es :: ds) st with | .ok d _ st => k d S st | .exc x _ st => e x S st | .stuck => z) z) e z else z) | _ => z) e z := by
  simp only [vwK, vwsK, vdsK, wipeK, restK]
  rw [mcE_a, go_bind]; refine go_c fun o S st => ?_
  cases o with
  | obj c es =>
    show Res.go (ite _ _ _) _ _ _ = ite _ _ _
    split
    · rw [go_bind]; refine go_c fun a S st => ?_
      cases vds S a with
      | none => rfl
      | some ds => dsimp only; cases tab c (.obj c es :: ds) st <;> rfl
    · rfl
  | _ => rfl
@[simp ↓] theorem oKE_g (op : List D → D → Option D) (fa : Ev (List Opd)) (fd : Ev D) (k : D → Sls → Store → β) (e : Exc → Sls → Store → β) (z : β) : (oKE op fa fd S st).go k e z = (fa S st).go (fun a S st => (fd S st).go (fun d S st => vwsK S st a (fun x => match op x d with | some d => k d S st | none => z) z) e z) e z := by
  simp only [vwK, vwsK, vdsK, wipeK, restK]
  rw [oKE_a, go_bind]; refine go_c fun a S st => ?_; rw [go_bind]; refine go_c fun d S st => ?_; cases vws S st a <;> first | rfl | (simp only [go_got]; done) | (simp only [go_got]; split <;> simp_all)
@[simp ↓] theorem cKE_g (c : CallT) (fa : Ev (List Opd)) (f2 : Ev D) (k : D → Sls → Store → β) (e : Exc → Sls → Store → β) (z : β) : (cKE c fa f2 S st).go k e z = (fa S st).go (fun a S st => (f2 S st).go (fun y S st => vdsK S a (fun ds => match c (ds ++ [y]) st with | .ok d _ st => k d S st | .exc x _ st => e x S st | .stuck => z) z) e z) e z := by
  simp only [vwK, vwsK, vdsK, wipeK, restK]
  rw [cKE_a, go_bind]; refine go_c fun a S st => ?_; rw [go_bind]; refine go_c fun y S st => ?_
  cases vds S a with
  | none => rfl
  | some ds => dsimp only; cases c (ds ++ [y]) st <;> rfl
@[simp ↓] theorem oZ_g (i : Nat) (k : Ow → Sls → Store → β) (e : Exc → Sls → Store → β) (z : β) : (oZ i S st).go k e z = getK S i (fun s => match s with | .own w => setK S i .no (fun S => k w S st) | _ => z) z := by
  rw [oZ_a]; unfold getK; rcases S[i]? with _ | s
  · rfl
  · cases s <;> rfl
@[simp ↓] theorem coE_g (c : CallO) (fa : Ev (List Opd)) (k : Ow → Sls → Store → β) (e : Exc → Sls → Store → β) (z : β) : (coE c fa S st).go k e z = (fa S st).go (fun a S st => vdsK S a (fun ds => match c (ds.map .d) st with | .ok w _ st => k w S st | .exc x _ st => e x S st | .stuck => z) z) e z := by
  simp only [vwK, vwsK, vdsK, wipeK, restK]
  rw [coE_a, go_bind]; refine go_c fun a S st => ?_
  cases vds S a with
  | none => rfl
  | some ds => dsimp only; cases c (ds.map .d) st <;> rfl
@[simp ↓] theorem coF_g (c : CallO) (j : Nat) (fa : Ev (List Opd)) (k : Ow → Sls → Store → β) (e : Exc → Sls → Store → β) (z : β) : (coF c j fa S st).go k e z = getK S j (fun s => match s with | .own _ => (fa S st).go (fun a S st => vdsK S a (fun ds => getK S j (fun s => match s with | .own w => (match c (.own w :: ds.map .d) st with | .ok w _ st => setK S j .no fun S => k w S st | .exc x _ st => setK S j .no fun S => e x S st | .stuck => z) | _ => z) z) z) e z | _ => z) z := by
  simp only [vwK, vwsK, vdsK, wipeK, restK]
  rw [coF_a]; unfold getK; rcases S[j]? with _ | s
  · rfl
  · cases s with
    | own w0 =>
      dsimp only; rw [go_bind]; refine go_c fun a S st => ?_
      cases vds S a with
      | none => rfl
      | some ds =>
        dsimp only
        rcases S[j]? with _ | s
        · rfl
        · cases s with
          | own w => dsimp only; cases c (.own w :: ds.map .d) st <;> rfl
          | _ => rfl
    | _ => rfl
@[simp ↓] theorem oSrt_g (fa : Ev Opd) (k : Ow → Sls → Store → β) (e : Exc → Sls → Store → β) (z : β) : (oSrt fa S st).go k e z = (fa S st).go (fun a S st => vwK S st a (fun x => match asL x with | some ds => (match intsD ds with | some ns => (if ns.length < 1000 ∧ (srt ns).length < 64 then k (.l ((srt ns).map .int)) S st else z) | none => z) | none => z) z) e z := by
  simp only [vwK, vwsK, vdsK, wipeK, restK]
  rw [oSrt_a, go_bind]; refine go_c fun a S st => ?_
  cases vw S st a with
  | none => rfl
  | some x =>
    dsimp only
    cases asL x with
    | none => rfl
    | some ds =>
      dsimp only
      cases intsD ds with
      | none => rfl
      | some ns => dsimp only; split <;> rfl
@[simp ↓] theorem kF0_g  (k : Ow → Sls → Store → β) (e : Exc → Sls → Store → β) (z : β) : (kF0 S st).go k e z = k (.k []) S st := by
  rfl
@[simp ↓] theorem kF_g (ks : List (List Nat)) (fa : Ev (List Opd)) (k : Ow → Sls → Store → β) (e : Exc → Sls → Store → β) (z : β) : (kF ks fa S st).go k e z = (fa S st).go (fun a S st => vdsK S a (fun ds => if ds.length = ks.length then k (.k (mergeD [] ((ks.map D.str).zip ds))) S st else z) z) (fun _ _ _ => z) z := by
  simp only [vwK, vwsK, vdsK, wipeK, restK]
  unfold kF; rw [go_bind, calm_go]; refine go_c fun a S st => ?_
  cases vds S a with
  | none => rfl
  | some ds => show Res.go (ite _ _ _) _ _ _ = ite _ _ _; split <;> rfl
@[simp ↓] theorem isE_g (T : XTab) (a : Addr) (cx : Nat) (ts : List (Option Nat)) (i : Nat) (k : D → Sls → Store → β) (e : Exc → Sls → Store → β) (z : β) : (isE T a cx ts i S st).go k e z = getK S i (fun s => match s with | .d (.err a2 c2) => (if a2 = a ∧ c2 = cx then (match isX T cx ts with | some b => k (.bl b) S st | none => z) else z) | _ => z) z := by
  unfold isE getK; rcases S[i]? with _ | s
  · rfl
  · cases s with
    | d x => cases x <;> try rfl
             dsimp only; split
             · cases isX T cx ts <;> rfl
             · rfl
    | _ => rfl
@[simp ↓] theorem cPE_g (f : CallP) (a : Addr) (cx i : Nat) (k : D → Sls → Store → β) (e : Exc → Sls → Store → β) (z : β) : (cPE f a cx i S st).go k e z = getK S i (fun s => match s with | .d (.err a2 c2) => (if a2 = a ∧ c2 = cx then (match f a cx [.err a cx] st with | .ok d _ st => k d S st | _ => z) else z) | _ => z) z := by
  unfold cPE getK; rcases S[i]? with _ | s
  · rfl
  · cases s with
    | d x => cases x <;> try rfl
             dsimp only; split
             · cases f a cx [.err a cx] st <;> rfl
             · rfl
    | _ => rfl
@[simp ↓] theorem oH_g (f : Ev D) (k : Opd → Sls → Store → β) (e : Exc → Sls → Store → β) (z : β) : (oH f S st).go k e z = (f S st).go (fun d S st => k (hnd d) S st) e z := by
  unfold oH; rw [go_bind]; refine go_c fun d S st => ?_; rfl
@[simp ↓] theorem aE_g (f : Ev Ow) (k : D → Sls → Store → β) (e : Exc → Sls → Store → β) (z : β) : (aE f S st).go k e z = (f S st).go (fun w S st => k (.loc st.length) S (st ++ [.o w])) e z := by
  unfold aE; rw [go_bind]; refine go_c fun d S st => ?_; rfl
@[simp ↓] theorem mhE_g (cs : List Nat) (mk : Nat) (tab : Nat → CallT) (fo : Ev D) (fa : Ev (List Opd)) (k : D → Sls → Store → β) (e : Exc → Sls → Store → β) (z : β) : (mhE cs mk tab fo fa S st).go k e z = (fo S st).go (fun o S st => match o with | .loc n => (match st[n]? with | some (.i c es) => (if c ∈ cs ∧ es.lookup mk = none then (fa S st).go (fun a S st => vdsK S a (fun ds => match tab c (.loc n :: ds) st with | .ok d _ st => k d S st | .exc x _ st => e x S st | .stuck => z) z) e z else z) | _ => z) | _ => z) e z := by
  simp only [vwK, vwsK, vdsK, wipeK, restK]
  unfold mhE; rw [go_bind]; refine go_c fun o S st => ?_
  cases o with
  | loc n =>
    dsimp only
    rcases st[n]? with _ | x
    · rfl
    · cases x with
      | i c es =>
        show Res.go (ite _ _ _) _ _ _ = ite _ _ _
        split
        · rw [go_bind]; refine go_c fun a S st => ?_
          cases vds S a with
          | none => rfl
          | some ds => dsimp only; cases tab c (.loc n :: ds) st <;> rfl
        · rfl
      | _ => rfl
  | _ => rfl
@[simp ↓] theorem newH_g (c : Nat) (ci : CallT) (fa : Ev (List Opd)) (k : D → Sls → Store → β) (e : Exc → Sls → Store → β) (z : β) : (newH c ci fa S st).go k e z = (fa S st).go (fun a S st => vdsK S a (fun ds => match ci (.loc st.length :: ds) (st ++ [.i c []]) with | .ok .non _ st2 => k (.loc st.length) S st2 | _ => z) z) e z := by
  simp only [vwK, vwsK, vdsK, wipeK, restK]
  unfold newH; rw [go_bind]; refine go_c fun a S st => ?_
  cases vds S a with
  | none => rfl
  | some ds =>
    dsimp only
    generalize ci (.loc st.length :: ds) (st ++ [.i c []]) = r
    rcases r with d | _ | _
    · cases d <;> rfl
    · rfl
    · rfl
@[simp ↓] theorem o2L_g (op : D → D → Option D) (fa fb : Ev D) (k : D → Sls → Store → β) (e : Exc → Sls → Store → β) (z : β) : (o2L op fa fb S st).go k e z = (fa S st).go (fun a S st => (fb S st).go (fun b S st => match dp st 40 a, dp st 40 b with | some x, some y => (match op x y with | some d => (if scal d = true then k d S st else z) | none => z) | _, _ => z) e z) e z := by
  unfold o2L; rw [go_bind]; refine go_c fun a S st => ?_; rw [go_bind]; refine go_c fun b S st => ?_
  cases dp st 40 a with
  | none => rfl
  | some x => cases dp st 40 b with
    | none => rfl
    | some y => dsimp only; cases op x y with
      | none => rfl
      | some d => dsimp only; split <;> rfl
@[simp ↓] theorem ePopL_g (fo : Ev Opd) (k : D → Sls → Store → β) (e : Exc → Sls → Store → β) (z : β) : (ePopL fo S st).go k e z = (fo S st).go (fun a S st => match a with | .h n => (match st[n]? with | some (.o (.l ds)) => (match ds.getLast? with | some d => setS st n (.o (.l ds.dropLast)) fun st => k d S st | none => z) | _ => z) | _ => z) e z := by
  unfold ePopL; rw [go_bind]; refine go_c fun a S st => ?_
  cases a with
  | h n =>
    dsimp only
    rcases st[n]? with _ | x
    · rfl
    · cases x with
      | o w => cases w with
        | l ds => dsimp only; cases ds.getLast? <;> rfl
        | k _ => rfl
      | _ => rfl
  | _ => rfl
@[simp ↓] theorem eClrL_g (fo : Ev Opd) (k : D → Sls → Store → β) (e : Exc → Sls → Store → β) (z : β) : (eClrL fo S st).go k e z = (fo S st).go (fun a S st => match a with | .h n => (match st[n]? with | some (.o (.l _)) => setS st n (.o (.l [])) fun st => k .non S st | _ => z) | _ => z) e z := by
  unfold eClrL; rw [go_bind]; refine go_c fun a S st => ?_
  cases a with
  | h n =>
    dsimp only
    rcases st[n]? with _ | x
    · rfl
    · cases x with
      | o w => cases w with
        | l ds => rfl
        | k _ => rfl
      | _ => rfl
  | _ => rfl
@[simp ↓] theorem sNil_p  : sNil S st = .nx S st := by rfl
@[simp ↓] theorem sSeq_p (f g : EvS) : sSeq f g S st = (f S st).then g := by rfl
@[simp ↓] theorem sE_p (f : Ev D) : sE f S st = (f S st).go (fun _ S st => .nx S st) .exc .stuck := by exact Res.out_go ..
@[simp ↓] theorem sRO_p (f : Ev Ow) : sRO f S st = (f S st).go (fun w S st => .rto w S st) .exc .stuck := by exact Res.out_go ..
@[simp ↓] theorem sR_p (f : Ev D) : sR f S st = (f S st).go (fun d S st => .ret d S st) .exc .stuck := by exact Res.out_go ..
@[simp ↓] theorem sI_p (t : Ev Bool) (f g : EvS) : sI t f g S st = (t S st).go (fun b S st => if b = true then f S st else g S st) .exc .stuck := by exact Res.out_go ..
@[simp ↓] theorem sV_p (i : Nat) (f : Ev D) : sV i f S st = (f S st).go (fun d S st => setK S i (.d d) fun S => .nx S st) .exc .stuck := by exact Res.out_go ..
@[simp ↓] theorem sO_p (i : Nat) (f : Ev Ow) : sO i f S st = (f S st).go (fun w S st => setK S i (.own w) fun S => .nx S st) .exc .stuck := by exact Res.out_go ..
@[simp ↓] theorem sG_p (g : Tg) (f : Ev D) : sG g f S st = (f S st).go (fun d S st => match g d S with | some S2 => .nx S2 st | none => .stuck) .exc .stuck := by exact Res.out_go ..
@[simp ↓] theorem sFH_p (fo : Ev Opd) (g : Tg) (b : EvS) : sFH fo g b S st = (fo S st).go (fun a S st => match a with | .h n => (match st[n]? with | some (.o (.l ds)) => forH g b n ds.length 0 S st | _ => .stuck) | _ => .stuck) .exc .stuck := by exact Res.out_go ..
@[simp ↓] theorem sF_p (f : Ev (List D)) (g : Tg) (b : EvS) : sF f g b S st = (f S st).go (fun ds S st => forL g b ds S st) .exc .stuck := by exact Res.out_go ..
@[simp ↓] theorem sAug_p (i : Nat) (op : D → D → Option D) (f : Ev Opd) : sAug i op f S st = getK S i (fun s => match s with | .d x => (f S st).go (fun y S st => vwK S st y (fun y => match op x y with | some v => setK S i (.d v) fun S => .nx S st | none => .stuck) .stuck) .exc .stuck | _ => .stuck) .stuck := by
  simp only [vwK, vwsK, vdsK]
  rw [sAug_a]; unfold getK; rcases S[i]? with _ | s
  · rfl
  · cases s with
    | d x => exact Res.out_go ..
    | _ => rfl
@[simp ↓] theorem sAp_p (i : Nat) (f : Ev D) : sAp i (oV f) S st = getK S i (fun s => match s with | .own (.l _) => (f S st).go (fun d S st => getK S i (fun s => match s with | .own (.l ds) => if ds.length < 16777216 then setK S i (.own (.l (ds ++ [d]))) fun S => .nx S st else .stuck | _ => .stuck) .stuck) .exc .stuck | _ => .stuck) .stuck := by 
  rw [sAp_a]; unfold getK; rcases S[i]? with _ | ⟨_ | _ | ⟨_ | _⟩⟩ <;> try rfl
  dsimp only; rw [Res.out_go, oV_g]; refine go_c fun d S st => ?_
  dsimp only [vd_v]; rcases S[i]? with _ | ⟨_ | _ | ⟨_ | _⟩⟩ <;> rfl
@[simp ↓] theorem sEx_p (i : Nat) (f : Ev D) : sEx i f S st = getK S i (fun s => match s with | .own (.l _) => (f S st).go (fun d S st => match d with | .lst es => getK S i (fun s => match s with | .own (.l ds) => if ds.length + es.length ≤ 16777216 then setK S i (.own (.l (ds ++ es))) fun S => .nx S st else .stuck | _ => .stuck) .stuck | _ => .stuck) .exc .stuck | _ => .stuck) .stuck := by 
  rw [sEx_a]; unfold getK; rcases S[i]? with _ | ⟨_ | _ | ⟨_ | _⟩⟩ <;> try rfl
  dsimp only; rw [Res.out_go]; refine go_c fun d S st => ?_
  cases d <;> try rfl
  dsimp only; rcases S[i]? with _ | ⟨_ | _ | ⟨_ | _⟩⟩ <;> rfl
@[simp ↓] theorem sSet_p (i : Nat) (fv fj : Ev D) : sSet i fv fj S st = (fv S st).go (fun d S st => getK S i (fun s => match s with | .own (.l _) => (fj S st).go (fun j S st => match j with | .int n => getK S i (fun s => match s with | .own (.l ds) => (match ixN ds.length n with | some j => setK S i (.own (.l (ds.set j d))) fun S => .nx S st | none => .stuck) | _ => .stuck) .stuck | _ => .stuck) .exc .stuck | _ => .stuck) .stuck) .exc .stuck := by 
  show (fv S st).out _ = _; rw [Res.out_go]; refine go_c fun d S st => ?_
  unfold getK; rcases S[i]? with _ | ⟨_ | _ | ⟨_ | _⟩⟩ <;> try rfl
  dsimp only; rw [Res.out_go]; refine go_c fun j S st => ?_
  cases j <;> try rfl
  dsimp only; rcases S[i]? with _ | ⟨_ | _ | ⟨_ | _⟩⟩ <;> rfl
@[simp ↓] theorem sAugS_p (i : Nat) (g : Int → Int → Int) (fj fv : Ev D) : sAugS i g fj fv S st = getK S i (fun s => match s with | .own (.l _) => (fj S st).go (fun j S st => match j with | .int n => getK S i (fun s => match s with | .own (.l ds) => (match L2.atI ds n with | some (.int a) => (fv S st).go (fun y S st => match y with | .int b => getK S i (fun s => match s with | .own (.l es) => (match ixN es.length n with | some j => setK S i (.own (.l (es.set j (.int (g a b))))) fun S => .nx S st | none => .stuck) | _ => .stuck) .stuck | _ => .stuck) .exc .stuck | _ => .stuck) | _ => .stuck) .stuck | _ => .stuck) .exc .stuck | _ => .stuck) .stuck := by 
  unfold sAugS getK; rcases S[i]? with _ | ⟨_ | _ | ⟨_ | _⟩⟩ <;> try rfl
  dsimp only; rw [Res.out_go]; refine go_c fun j S st => ?_
  cases j <;> try rfl
  rename_i n; dsimp only; rcases S[i]? with _ | ⟨_ | _ | ⟨_ | _⟩⟩ <;> try rfl
  rename_i ds; dsimp only; rcases L2.atI ds n with _ | d
  · rfl
  · cases d <;> try rfl
    dsimp only; rw [Res.out_go]; refine go_c fun y S st => ?_
    cases y <;> try rfl
    dsimp only; rcases S[i]? with _ | ⟨_ | _ | ⟨_ | _⟩⟩ <;> rfl
@[simp ↓] theorem sPut_p (i : Nat) (fv fj : Ev D) : sPut i fv fj S st = (fv S st).go (fun d S st => getK S i (fun s => match s with | .own (.k _) => (fj S st).go (fun j S st => getK S i (fun s => match s with | .own (.k ds) => (if isKey j = true ∧ ds.length < 16777216 then setK S i (.own (.k (putD ds j d))) fun S => .nx S st else .stuck) | _ => .stuck) .stuck) .exc .stuck | _ => .stuck) .stuck) .exc .stuck := by 
  show (fv S st).out _ = _; rw [Res.out_go]; refine go_c fun d S st => ?_
  unfold getK; rcases S[i]? with _ | ⟨_ | _ | ⟨_ | _⟩⟩ <;> try rfl
  dsimp only; rw [Res.out_go]; refine go_c fun j S st => ?_
  rcases S[i]? with _ | ⟨_ | _ | ⟨_ | _⟩⟩ <;> rfl
@[simp ↓] theorem sP_p (i j : Nat) (fa : Ev (List Opd)) : sP i j fa S st = (fa S st).go (fun a S st => vdsK S a (fun l => match l with | [x, y] => setK S i (.d x) fun S => setK S j (.d y) fun S => .nx S st | _ => .stuck) .stuck) .exc .stuck := by
  simp only [vwK, vwsK, vdsK]
  rw [sP_a, Res.out_go]; refine go_c fun a S st => ?_
  rcases vds S a with _ | l
  · rfl
  · rcases l with _ | ⟨x, _ | ⟨y, _ | ⟨w, r⟩⟩⟩ <;> rfl
@[simp ↓] theorem sApL_p (fo : Ev Opd) (f : Ev D) : sApL fo (oV f) S st = (fo S st).go (fun a S st => match a with | .h n => (match st[n]? with | some (.o (.l _)) => (f S st).go (fun d S st => match st[n]? with | some (.o (.l ds)) => (if ds.length < 16777216 then setS st n (.o (.l (ds ++ [d]))) fun st => .nx S st else .stuck) | _ => .stuck) .exc .stuck | _ => .stuck) | _ => .stuck) .exc .stuck := by 
  unfold sApL; rw [Res.out_go]; refine go_c fun a S st => ?_
  cases a with
  | h n =>
    dsimp only
    rcases st[n]? with _ | x
    · rfl
    · cases x with
      | o w => cases w with
        | l ds => dsimp only; rw [Res.out_go, oV_g]; refine go_c fun d S st => ?_; dsimp only [vd_v]; rcases st[n]? with _ | x
                  · rfl
                  · cases x with
                    | o w => cases w <;> rfl
                    | _ => rfl
        | k _ => rfl
      | _ => rfl
  | _ => rfl
@[simp ↓] theorem sFL_p (cs : List Nat) (kf : Nat) (fo : Ev Opd) (fe : Ev D) : sFL cs kf fo fe S st = (fe S st).go (fun d S st => (fo S st).go (fun a S st => match a with | .h n => (match st[n]? with | some (.i c es) => (if c ∈ cs ∧ es.length < 1000 then setS st n (.i c (putD' kf d es)) fun st => .nx S st else .stuck) | _ => .stuck) | _ => .stuck) .exc .stuck) .exc .stuck := by 
  unfold sFL; rw [Res.out_go]; refine go_c fun d S st => ?_; rw [Res.out_go]; refine go_c fun a S st => ?_
  cases a with
  | h n =>
    dsimp only
    rcases st[n]? with _ | x
    · rfl
    · cases x <;> rfl
  | _ => rfl
@[simp ↓] theorem sFLA_p (cs : List Nat) (kf : Nat) (op : D → D → Option D) (fo fe : Ev Opd) : sFLA cs kf op fo fe S st = (fo S st).go (fun a S st => match a with | .h n => (match st[n]? with | some (.i c es) => (if c ∈ cs ∧ es.length < 1000 then (match es.lookup kf with | some u => (fe S st).go (fun b S st => vwK S st b (fun y => match st[n]? with | some (.i c2 es2) => (if c2 = c ∧ es2.length < 1000 then (match op u y with | some d => setS st n (.i c (putD' kf d es2)) fun st => .nx S st | none => .stuck) else .stuck) | _ => .stuck) .stuck) .exc .stuck | none => .stuck) else .stuck) | _ => .stuck) | _ => .stuck) .exc .stuck := by
  simp only [vwK, vwsK, vdsK]
  unfold sFLA; rw [Res.out_go]; refine go_c fun a S st => ?_
  cases a with
  | h n =>
    dsimp only
    rcases st[n]? with _ | x
    · rfl
    · cases x with
      | i c es =>
        dsimp only; split
        · cases es.lookup kf with
          | none => rfl
          | some u =>
            dsimp only; rw [Res.out_go]; refine go_c fun b S st => ?_
            cases vw S st b with
            | none => rfl
            | some y =>
              dsimp only [vwK]
              rcases st[n]? with _ | x2
              · rfl
              · cases x2 with
                | i c2 es2 => dsimp only; split <;> first | rfl | (cases op u y <;> rfl)
                | _ => rfl
        · rfl
      | _ => rfl
  | _ => rfl
@[simp ↓] theorem sSetL_p (fo : Ev Opd) (fv fj : Ev D) : sSetL fo fv fj S st = (fv S st).go (fun d S st => (fo S st).go (fun a S st => match a with | .h n => (fj S st).go (fun j S st => match j with | .int i => (match st[n]? with | some (.o (.l ds)) => (match ixN ds.length i with | some j => setS st n (.o (.l (ds.set j d))) fun st => .nx S st | none => .stuck) | _ => .stuck) | _ => .stuck) .exc .stuck | _ => .stuck) .exc .stuck) .exc .stuck := by 
  unfold sSetL; rw [Res.out_go]; refine go_c fun d S st => ?_; rw [Res.out_go]; refine go_c fun a S st => ?_
  cases a with
  | h n =>
    dsimp only; rw [Res.out_go]; refine go_c fun j S st => ?_
    cases j <;> try rfl
    dsimp only
    rcases st[n]? with _ | x
    · rfl
    · cases x with
      | o w => cases w <;> rfl
      | _ => rfl
  | _ => rfl
@[simp ↓] theorem sX_p (c : Nat) : sX c S st = .exc ⟨c, []⟩ S st := by rfl
@[simp] theorem clr_nx (i : Nat) (S : Sls) (st : Store) : clr i (.nx S st) = .nx (S.set i .no) st := rfl
@[simp] theorem clr_ret (i : Nat) (d : D) (S : Sls) (st : Store) : clr i (.ret d S st) = .ret d (S.set i .no) st := rfl
@[simp] theorem pickO_c (o : Out) : pickO (fun _ => o) = o := pickO_eq fun _ => rfl
theorem sTryA_exc {T : XTab} {h i c : Nat} {fb : EvS} {fs : Addr → Nat → EvS} {S1 : Sls} {st1 : Store} {o : Out} (e : fb S st = .exc ⟨c, []⟩ S1 st1) (hl : xLook T c h = some true) (ho : ∀ a, clr i (fs a c (S1.set i (.d (.err a c))) st1) = o) : sTryA T h i fb fs S st = o := by unfold sTryA; rw [e]; dsimp only; rw [hl]; exact pickO_eq ho
theorem sTryA_nx {T : XTab} {h i : Nat} {fb : EvS} {fs : Addr → Nat → EvS} {S1 : Sls} {st1 : Store} (e : fb S st = .nx S1 st1) : sTryA T h i fb fs S st = .nx S1 st1 := by unfold sTryA; rw [e]
theorem sTryA_ret {T : XTab} {h i : Nat} {fb : EvS} {fs : Addr → Nat → EvS} {d : D} {S1 : Sls} {st1 : Store} (e : fb S st = .ret d S1 st1) : sTryA T h i fb fs S st = .ret d S1 st1 := by unfold sTryA; rw [e]
theorem then_go {α : Type} (r : Res α) (G : α → Sls → Store → Out) (k : Sls → Store → Out) : (r.out G).then k = r.go (fun a S st => (G a S st).then k) .exc .stuck := by cases r <;> rfl
@[simp ↓] theorem then_go2 {α : Type} (r : Res α) (G : α → Sls → Store → Out) (k : Sls → Store → Out) : (r.go G .exc .stuck).then k = r.go (fun a S st => (G a S st).then k) .exc .stuck := by cases r <;> rfl
@[simp ↓] theorem then_getK (S : Sls) (i : Nat) (G : Sl → Out) (k : Sls → Store → Out) : (getK S i G .stuck).then k = getK S i (fun s => (G s).then k) .stuck := by unfold getK; cases S[i]? <;> rfl
@[simp ↓] theorem then_setK (S : Sls) (i : Nat) (x : Sl) (G : Sls → Out) (k : Sls → Store → Out) : (setK S i x G).then k = setK S i x (fun S => (G S).then k) := rfl
@[simp ↓] theorem then_ite (c : Prop) [Decidable c] (a b : Out) (k : Sls → Store → Out) : (if c then a else b).then k = if c then a.then k else b.then k := by split <;> rfl
@[simp ↓] theorem sSeq_t (f g : EvS) (k : Sls → Store → Out) : (sSeq f g S st).then k = (f S st).then fun S st => (g S st).then k := by
  show ((f S st).then g).then k = _; cases f S st <;> rfl
@[simp ↓] theorem sE_t (f : Ev D) (k : Sls → Store → Out) : (sE f S st).then k = (f S st).go (fun _ S st => k S st) .exc .stuck := by
  rw [sE_a, then_go]; rfl
@[simp ↓] theorem sV_t (i : Nat) (f : Ev D) (k : Sls → Store → Out) : (sV i f S st).then k = (f S st).go (fun d S st => setK S i (.d d) fun S => k S st) .exc .stuck := by
  rw [sV_a, then_go]; rfl
@[simp ↓] theorem sO_t (i : Nat) (f : Ev Ow) (k : Sls → Store → Out) : (sO i f S st).then k = (f S st).go (fun w S st => setK S i (.own w) fun S => k S st) .exc .stuck := by
  rw [sO_a, then_go]; rfl
@[simp ↓] theorem sI_t (t : Ev Bool) (f g : EvS) (k : Sls → Store → Out) : (sI t f g S st).then k = (t S st).go (fun b S st => if b = true then (f S st).then k else (g S st).then k) .exc .stuck := by
  rw [sI_a, then_go]; exact go_c fun b S st => by cases b <;> rfl
@[simp ↓] theorem sG_t (g : Tg) (f : Ev D) (k : Sls → Store → Out) : (sG g f S st).then k = (f S st).go (fun d S st => match g d S with | some S2 => k S2 st | none => .stuck) .exc .stuck := by
  rw [sG_a, then_go]; exact go_c fun b S st => by cases g b S <;> rfl
@[simp ↓] theorem sFH_t (fo : Ev Opd) (g : Tg) (b : EvS) (k : Sls → Store → Out) : (sFH fo g b S st).then k = (fo S st).go (fun a S st => match a with | .h n => (match st[n]? with | some (.o (.l ds)) => (match forH g b n ds.length 0 S st with | .nx S st => k S st | .ret d S st => .ret d S st | .bk S st => .bk S st | .ct S st => .ct S st | .rto w S st => .rto w S st | .exc x S st => .exc x S st | .stuck => .stuck) | _ => .stuck) | _ => .stuck) .exc .stuck := by
  rw [sFH_p, then_go2]; refine go_c fun a S st => ?_
  cases a with
  | h n =>
    dsimp only
    rcases st[n]? with _ | x
    · rfl
    · cases x with
      | o w => cases w with
        | l ds => dsimp only; cases forH g b n ds.length 0 S st <;> rfl
        | _ => rfl
      | _ => rfl
  | _ => rfl
@[simp ↓] theorem sF_t (f : Ev (List D)) (g : Tg) (b : EvS) (k : Sls → Store → Out) : (sF f g b S st).then k = (f S st).go (fun ds S st => match forL g b ds S st with | .nx S st => k S st | .ret d S st => .ret d S st | .bk S st => .bk S st | .ct S st => .ct S st | .rto w S st => .rto w S st | .exc x S st => .exc x S st | .stuck => .stuck) .exc .stuck := by
  rw [sF_a, then_go]; refine go_c fun ds S st => ?_; cases forL g b ds S st <;> rfl
@[simp ↓] theorem sW_t (c : Ev Bool) (b : EvS) (k : Sls → Store → Out) : (sW c b S st).then k = match sW c b S st with | .nx S st => k S st | .ret d S st => .ret d S st | .bk S st => .bk S st | .ct S st => .ct S st | .rto w S st => .rto w S st | .exc x S st => .exc x S st | .stuck => .stuck := by
  cases sW c b S st <;> rfl
@[simp ↓] theorem sNil_t  (k : Sls → Store → Out) : (sNil S st).then k = k S st := by
  rfl
@[simp ↓] theorem sR_t (f : Ev D) (k : Sls → Store → Out) : (sR f S st).then k = (f S st).go (fun d S st => .ret d S st) .exc .stuck := by
  rw [sR_a, then_go]; rfl
@[simp ↓] theorem sRO_t (f : Ev Ow) (k : Sls → Store → Out) : (sRO f S st).then k = (f S st).go (fun w S st => .rto w S st) .exc .stuck := by
  rw [sRO_a, then_go]; rfl
@[simp ↓] theorem then_rto_p (w : Ow) (k : Sls → Store → Out) : (Out.rto w S st).then k = .rto w S st := rfl
@[simp ↓] theorem then_nx_p (k : Sls → Store → Out) : (Out.nx S st).then k = k S st := rfl
@[simp ↓] theorem then_ret_p (d : D) (k : Sls → Store → Out) : (Out.ret d S st).then k = .ret d S st := rfl
@[simp ↓] theorem then_bk_p (k : Sls → Store → Out) : (Out.bk S st).then k = .bk S st := rfl
@[simp ↓] theorem then_ct_p (k : Sls → Store → Out) : (Out.ct S st).then k = .ct S st := rfl
@[simp ↓] theorem then_exc_p (x : Exc) (k : Sls → Store → Out) : (Out.exc x S st).then k = .exc x S st := rfl
@[simp ↓] theorem sAug_t (i : Nat) (op : D → D → Option D) (f : Ev Opd) (k : Sls → Store → Out) : (sAug i op f S st).then k = getK S i (fun s => match s with | .d x => (f S st).go (fun y S st => vwK S st y (fun y => match op x y with | some v => setK S i (.d v) fun S => k S st | none => .stuck) .stuck) .exc .stuck | _ => .stuck) .stuck := by
  rw [sAug_p]; simp only [vwK, vwsK, vdsK]; unfold getK; rcases S[i]? with _ | s
  · rfl
  · cases s with
    | d x =>
      dsimp only; rw [then_go2]; refine go_c fun y S st => ?_
      cases vw S st y with
      | none => rfl
      | some y => dsimp only; cases op x y <;> rfl
    | _ => rfl
@[simp ↓] theorem sAp_t (i : Nat) (f : Ev D) (k : Sls → Store → Out) : (sAp i (oV f) S st).then k = getK S i (fun s => match s with | .own (.l _) => (f S st).go (fun d S st => getK S i (fun s => match s with | .own (.l ds) => if ds.length < 16777216 then setK S i (.own (.l (ds ++ [d]))) fun S => k S st else .stuck | _ => .stuck) .stuck) .exc .stuck | _ => .stuck) .stuck := by
  rw [sAp_p]; unfold getK; rcases S[i]? with _ | ⟨_ | _ | ⟨_ | _⟩⟩ <;> try rfl
  dsimp only; rw [then_go2]; refine go_c fun d S st => ?_
  rcases S[i]? with _ | ⟨_ | _ | ⟨_ | _⟩⟩ <;> try rfl
  dsimp only; split <;> rfl
@[simp ↓] theorem sEx_t (i : Nat) (f : Ev D) (k : Sls → Store → Out) : (sEx i f S st).then k = getK S i (fun s => match s with | .own (.l _) => (f S st).go (fun d S st => match d with | .lst es => getK S i (fun s => match s with | .own (.l ds) => if ds.length + es.length ≤ 16777216 then setK S i (.own (.l (ds ++ es))) fun S => k S st else .stuck | _ => .stuck) .stuck | _ => .stuck) .exc .stuck | _ => .stuck) .stuck := by
  rw [sEx_p]; unfold getK; rcases S[i]? with _ | ⟨_ | _ | ⟨_ | _⟩⟩ <;> try rfl
  dsimp only; rw [then_go2]; refine go_c fun d S st => ?_
  cases d <;> try rfl
  dsimp only; rcases S[i]? with _ | ⟨_ | _ | ⟨_ | _⟩⟩ <;> try rfl
  dsimp only; split <;> rfl
@[simp ↓] theorem sSet_t (i : Nat) (fv fj : Ev D) (k : Sls → Store → Out) : (sSet i fv fj S st).then k = (fv S st).go (fun d S st => getK S i (fun s => match s with | .own (.l _) => (fj S st).go (fun j S st => match j with | .int n => getK S i (fun s => match s with | .own (.l ds) => (match ixN ds.length n with | some j => setK S i (.own (.l (ds.set j d))) fun S => k S st | none => .stuck) | _ => .stuck) .stuck | _ => .stuck) .exc .stuck | _ => .stuck) .stuck) .exc .stuck := by
  rw [sSet_p]; rw [then_go2]; refine go_c fun d S st => ?_
  unfold getK; rcases S[i]? with _ | ⟨_ | _ | ⟨_ | _⟩⟩ <;> try rfl
  dsimp only; rw [then_go2]; refine go_c fun j S st => ?_
  cases j with
  | int n =>
    dsimp only
    rcases S[i]? with _ | s
    · rfl
    · cases s with
      | own w => cases w with
        | l ds => dsimp only; cases ixN ds.length n <;> rfl
        | k _ => rfl
      | _ => rfl
  | _ => rfl
@[simp ↓] theorem sAugS_t (i : Nat) (g : Int → Int → Int) (fj fv : Ev D) (k : Sls → Store → Out) : (sAugS i g fj fv S st).then k = getK S i (fun s => match s with | .own (.l _) => (fj S st).go (fun j S st => match j with | .int n => getK S i (fun s => match s with | .own (.l ds) => (match L2.atI ds n with | some (.int a) => (fv S st).go (fun y S st => match y with | .int b => getK S i (fun s => match s with | .own (.l es) => (match ixN es.length n with | some j => setK S i (.own (.l (es.set j (.int (g a b))))) fun S => k S st | none => .stuck) | _ => .stuck) .stuck | _ => .stuck) .exc .stuck | _ => .stuck) | _ => .stuck) .stuck | _ => .stuck) .exc .stuck | _ => .stuck) .stuck := by
  rw [sAugS_p]; unfold getK; rcases S[i]? with _ | ⟨_ | _ | ⟨_ | _⟩⟩ <;> try rfl
  dsimp only; rw [then_go2]; refine go_c fun j S st => ?_
  cases j <;> try rfl
  rename_i n; dsimp only; rcases S[i]? with _ | ⟨_ | _ | ⟨_ | _⟩⟩ <;> try rfl
  rename_i ds; dsimp only; rcases L2.atI ds n with _ | d
  · rfl
  · cases d <;> try rfl
    dsimp only; rw [then_go2]; refine go_c fun y S st => ?_
    cases y <;> try rfl
    dsimp only; rcases S[i]? with _ | s
    · rfl
    · cases s with
      | own w => cases w with
        | l es => dsimp only; cases ixN es.length n <;> rfl
        | k _ => rfl
      | _ => rfl
@[simp ↓] theorem sPut_t (i : Nat) (fv fj : Ev D) (k : Sls → Store → Out) : (sPut i fv fj S st).then k = (fv S st).go (fun d S st => getK S i (fun s => match s with | .own (.k _) => (fj S st).go (fun j S st => getK S i (fun s => match s with | .own (.k ds) => (if isKey j = true ∧ ds.length < 16777216 then setK S i (.own (.k (putD ds j d))) fun S => k S st else .stuck) | _ => .stuck) .stuck) .exc .stuck | _ => .stuck) .stuck) .exc .stuck := by
  rw [sPut_p]; rw [then_go2]; refine go_c fun d S st => ?_
  unfold getK; rcases S[i]? with _ | ⟨_ | _ | ⟨_ | _⟩⟩ <;> try rfl
  dsimp only; rw [then_go2]; refine go_c fun j S st => ?_
  rcases S[i]? with _ | ⟨_ | _ | ⟨_ | _⟩⟩ <;> try rfl
  dsimp only; split <;> rfl
@[simp ↓] theorem sP_t (i j : Nat) (fa : Ev (List Opd)) (k : Sls → Store → Out) : (sP i j fa S st).then k = (fa S st).go (fun a S st => vdsK S a (fun l => match l with | [x, y] => setK S i (.d x) fun S => setK S j (.d y) fun S => k S st | _ => .stuck) .stuck) .exc .stuck := by
  rw [sP_p]; simp only [vwK, vwsK, vdsK]; rw [then_go2]; refine go_c fun a S st => ?_
  rcases vds S a with _ | l
  · rfl
  · rcases l with _ | ⟨x, _ | ⟨y, _ | ⟨w, r⟩⟩⟩ <;> rfl
@[simp ↓] theorem sApL_t (fo : Ev Opd) (f : Ev D) (k : Sls → Store → Out) : (sApL fo (oV f) S st).then k = (fo S st).go (fun a S st => match a with | .h n => (match st[n]? with | some (.o (.l _)) => (f S st).go (fun d S st => match st[n]? with | some (.o (.l ds)) => (if ds.length < 16777216 then setS st n (.o (.l (ds ++ [d]))) fun st => k S st else .stuck) | _ => .stuck) .exc .stuck | _ => .stuck) | _ => .stuck) .exc .stuck := by
  rw [sApL_p]; rw [then_go2]; refine go_c fun a S st => ?_
  cases a with
  | h n =>
    dsimp only
    rcases st[n]? with _ | x
    · rfl
    · cases x with
      | o w => cases w with
        | l ds => dsimp only; rw [then_go2]; refine go_c fun d S st => ?_; rcases st[n]? with _ | x
                  · rfl
                  · cases x with
                    | o w => cases w with
                      | l ds => dsimp only; split <;> rfl
                      | k _ => rfl
                    | _ => rfl
        | k _ => rfl
      | _ => rfl
  | _ => rfl
@[simp ↓] theorem sFL_t (cs : List Nat) (kf : Nat) (fo : Ev Opd) (fe : Ev D) (k : Sls → Store → Out) : (sFL cs kf fo fe S st).then k = (fe S st).go (fun d S st => (fo S st).go (fun a S st => match a with | .h n => (match st[n]? with | some (.i c es) => (if c ∈ cs ∧ es.length < 1000 then setS st n (.i c (putD' kf d es)) fun st => k S st else .stuck) | _ => .stuck) | _ => .stuck) .exc .stuck) .exc .stuck := by
  rw [sFL_p]; rw [then_go2]; refine go_c fun d S st => ?_; rw [then_go2]; refine go_c fun a S st => ?_
  cases a with
  | h n =>
    dsimp only
    rcases st[n]? with _ | x
    · rfl
    · cases x with
      | i c es => dsimp only; split <;> rfl
      | _ => rfl
  | _ => rfl
@[simp ↓] theorem sFLA_t (cs : List Nat) (kf : Nat) (op : D → D → Option D) (fo fe : Ev Opd) (k : Sls → Store → Out) : (sFLA cs kf op fo fe S st).then k = (fo S st).go (fun a S st => match a with | .h n => (match st[n]? with | some (.i c es) => (if c ∈ cs ∧ es.length < 1000 then (match es.lookup kf with | some u => (fe S st).go (fun b S st => vwK S st b (fun y => match st[n]? with | some (.i c2 es2) => (if c2 = c ∧ es2.length < 1000 then (match op u y with | some d => setS st n (.i c (putD' kf d es2)) fun st => k S st | none => .stuck) else .stuck) | _ => .stuck) .stuck) .exc .stuck | none => .stuck) else .stuck) | _ => .stuck) | _ => .stuck) .exc .stuck := by
  rw [sFLA_p]; simp only [vwK, vwsK, vdsK]; rw [then_go2]; refine go_c fun a S st => ?_
  cases a with
  | h n =>
    dsimp only
    rcases st[n]? with _ | x
    · rfl
    · cases x with
      | i c es =>
        dsimp only; split
        · cases es.lookup kf with
          | none => rfl
          | some u =>
            dsimp only; rw [then_go2]; refine go_c fun b S st => ?_
            cases vw S st b with
            | none => rfl
            | some y =>
              dsimp only
              rcases st[n]? with _ | x2
              · rfl
              · cases x2 with
                | i c2 es2 => dsimp only; split <;> first | rfl | (cases op u y <;> rfl)
                | _ => rfl
        · rfl
      | _ => rfl
  | _ => rfl
@[simp ↓] theorem sSetL_t (fo : Ev Opd) (fv fj : Ev D) (k : Sls → Store → Out) : (sSetL fo fv fj S st).then k = (fv S st).go (fun d S st => (fo S st).go (fun a S st => match a with | .h n => (fj S st).go (fun j S st => match j with | .int i => (match st[n]? with | some (.o (.l ds)) => (match ixN ds.length i with | some j => setS st n (.o (.l (ds.set j d))) fun st => k S st | none => .stuck) | _ => .stuck) | _ => .stuck) .exc .stuck | _ => .stuck) .exc .stuck) .exc .stuck := by
  rw [sSetL_p]; rw [then_go2]; refine go_c fun d S st => ?_; rw [then_go2]; refine go_c fun a S st => ?_
  cases a with
  | h n =>
    dsimp only; rw [then_go2]; refine go_c fun j S st => ?_
    cases j with
    | int i =>
      dsimp only
      rcases st[n]? with _ | x
      · rfl
      · cases x with
        | o w => cases w with
          | l ds => dsimp only; cases ixN ds.length i <;> rfl
          | k _ => rfl
        | _ => rfl
    | _ => rfl
  | _ => rfl
theorem sW_true {c : Ev Bool} {b : EvS} {S S1 S2 : Sls} {st st1 st2 : Store} (h : c S st = .ok true S1 st1) (h2 : b S1 st1 = .nx S2 st2) : sW c b S st = sW c b S2 st2 := by
  rw [sW_eq, h]
  show (match b S1 st1 with | .nx S2 st2 => sW c b S2 st2 | .ct S2 st2 => sW c b S2 st2 | .rto w S2 st2 => .rto w S2 st2 | .bk S2 st2 => .nx S2 st2 | .ret v S2 st2 => .ret v S2 st2 | .exc x S2 st2 => .exc x S2 st2 | .stuck => .stuck) = _
  rw [h2]
theorem sW_false {c : Ev Bool} {b : EvS} {S S1 : Sls} {st st1 : Store} (h : c S st = .ok false S1 st1) : sW c b S st = .nx S1 st1 := by
  rw [sW_eq, h]; rfl
theorem sW_out {c : Ev Bool} {b : EvS} {S S1 S2 : Sls} {st st1 st2 : Store} {v : D} (h : c S st = .ok true S1 st1) (h2 : b S1 st1 = .ret v S2 st2) : sW c b S st = .ret v S2 st2 := by
  rw [sW_eq, h]
  show (match b S1 st1 with | .nx S2 st2 => sW c b S2 st2 | .ct S2 st2 => sW c b S2 st2 | .rto w S2 st2 => .rto w S2 st2 | .bk S2 st2 => .nx S2 st2 | .ret v S2 st2 => .ret v S2 st2 | .exc x S2 st2 => .exc x S2 st2 | .stuck => .stuck) = _
  rw [h2]
theorem sW_bk {c : Ev Bool} {b : EvS} {S S1 S2 : Sls} {st st1 st2 : Store} (h : c S st = .ok true S1 st1) (h2 : b S1 st1 = .bk S2 st2) : sW c b S st = .nx S2 st2 := by
  rw [sW_eq, h]
  show (match b S1 st1 with | .nx S2 st2 => sW c b S2 st2 | .ct S2 st2 => sW c b S2 st2 | .rto w S2 st2 => .rto w S2 st2 | .bk S2 st2 => .nx S2 st2 | .ret v S2 st2 => .ret v S2 st2 | .exc x S2 st2 => .exc x S2 st2 | .stuck => .stuck) = _
  rw [h2]
theorem getK_of {β : Type} {S : Sls} {i : Nat} {s : Sl} (h : S[i]? = some s) (k : Sl → β) (z : β) : getK S i k z = k s := by unfold getK; rw [h]
end
end DL

namespace DL
open PySem PySem.Spec PyProof.Rows L2
section
variable {β : Type} {S : Sls} {st : Store}
@[simp ↓] theorem oRng_g (fa : Ev D) (k : Ow → Sls → Store → β) (e : Exc → Sls → Store → β) (z : β) : (oRng fa S st).go k e z = (fa S st).go (fun d S st => match d with | .int n => (if -1000000 ≤ n ∧ n ≤ 1000000 then k (.l (rng n.toNat 0)) S st else z) | _ => z) e z := by
  unfold oRng; rw [go_bind]; refine go_c fun d S st => ?_
  cases d <;> try rfl
  dsimp only; split <;> rfl
@[simp ↓] theorem ePopAt_g (i : Nat) (fj : Ev D) (k : D → Sls → Store → β) (e : Exc → Sls → Store → β) (z : β) : (ePopAt i fj S st).go k e z = getK S i (fun s => match s with | .own (.l _) => (fj S st).go (fun j S st => match j with | .int n => getK S i (fun s => match s with | .own (.l ds) => (if 0 ≤ n ∧ n < 1000000 then (match ds[n.toNat]? with | some d => setK S i (.own (.l (ds.eraseIdx n.toNat))) fun S => k d S st | none => z) else z) | _ => z) z | _ => z) e z | _ => z) z := by
  unfold ePopAt getK
  rcases S[i]? with _ | s
  · rfl
  · cases s with
    | own w =>
      cases w with
      | l ds =>
        dsimp only; rw [go_bind]; refine go_c fun j S st => ?_
        cases j with
        | int n =>
          dsimp only
          rcases S[i]? with _ | s
          · rfl
          · cases s with
            | own w =>
              cases w with
              | l ds =>
                dsimp only; split
                · cases ds[n.toNat]? <;> rfl
                · rfl
              | _ => rfl
            | _ => rfl
        | _ => rfl
      | _ => rfl
    | _ => rfl
@[simp ↓] theorem sPutL_p (fo : Ev Opd) (fv fj : Ev D) : sPutL fo fv fj S st = (fv S st).go (fun d S st => (fo S st).go (fun a S st => match a with | .h n => (fj S st).go (fun j S st => match st[n]? with | some (.o (.k es)) => (if isKey j = true ∧ es.length < 16777216 then setS st n (.o (.k (putD es j d))) fun st => .nx S st else .stuck) | _ => .stuck) .exc .stuck | _ => .stuck) .exc .stuck) .exc .stuck := by
  unfold sPutL; rw [Res.out_go]; refine go_c fun d S st => ?_; rw [Res.out_go]; refine go_c fun a S st => ?_
  cases a with
  | h n =>
    dsimp only; rw [Res.out_go]; refine go_c fun j S st => ?_
    rcases st[n]? with _ | x
    · rfl
    · cases x with
      | o w => cases w <;> rfl
      | _ => rfl
  | _ => rfl
@[simp ↓] theorem sPutL_t (fo : Ev Opd) (fv fj : Ev D) (k : Sls → Store → Out) : (sPutL fo fv fj S st).then k = (fv S st).go (fun d S st => (fo S st).go (fun a S st => match a with | .h n => (fj S st).go (fun j S st => match st[n]? with | some (.o (.k es)) => (if isKey j = true ∧ es.length < 16777216 then setS st n (.o (.k (putD es j d))) fun st => k S st else .stuck) | _ => .stuck) .exc .stuck | _ => .stuck) .exc .stuck) .exc .stuck := by
  rw [sPutL_p]; rw [then_go2]; refine go_c fun d S st => ?_; rw [then_go2]; refine go_c fun a S st => ?_
  cases a with
  | h n =>
    dsimp only; rw [then_go2]; refine go_c fun j S st => ?_
    rcases st[n]? with _ | x
    · rfl
    · cases x with
      | o w =>
        cases w with
        | k es => dsimp only; split <;> rfl
        | _ => rfl
      | _ => rfl
  | _ => rfl
@[simp ↓] theorem setAt_p (fo : Ev Opd) (fj : Ev D) (d : D) : setAt fo fj d S st = (fo S st).go (fun a S st => match a with | .h n => (fj S st).go (fun j S st => match j with | .int i => (match st[n]? with | some (.o (.l ds)) => (match ixN ds.length i with | some j => setS st n (.o (.l (ds.set j d))) fun st => .nx S st | none => .stuck) | _ => .stuck) | _ => .stuck) .exc .stuck | _ => .stuck) .exc .stuck := by
  unfold setAt; rw [Res.out_go]; refine go_c fun a S st => ?_
  cases a with
  | h n =>
    dsimp only; rw [Res.out_go]; refine go_c fun j S st => ?_
    cases j <;> try rfl
    dsimp only
    rcases st[n]? with _ | x
    · rfl
    · cases x with
      | o w => cases w <;> rfl
      | _ => rfl
  | _ => rfl
@[simp ↓] theorem setAt_t (fo : Ev Opd) (fj : Ev D) (d : D) (k : Sls → Store → Out) : (setAt fo fj d S st).then k = (fo S st).go (fun a S st => match a with | .h n => (fj S st).go (fun j S st => match j with | .int i => (match st[n]? with | some (.o (.l ds)) => (match ixN ds.length i with | some j => setS st n (.o (.l (ds.set j d))) fun st => k S st | none => .stuck) | _ => .stuck) | _ => .stuck) .exc .stuck | _ => .stuck) .exc .stuck := by
  rw [setAt_p]; rw [then_go2]; refine go_c fun a S st => ?_
  cases a with
  | h n =>
    dsimp only; rw [then_go2]; refine go_c fun j S st => ?_
    cases j with
    | int i =>
      dsimp only
      rcases st[n]? with _ | x
      · rfl
      · cases x with
        | o w =>
          cases w with
          | l ds => dsimp only; cases ixN ds.length i <;> rfl
          | _ => rfl
        | _ => rfl
    | _ => rfl
  | _ => rfl
@[simp ↓] theorem sSet2_p (fv : Ev D) (fo1 : Ev Opd) (fj1 : Ev D) (fo2 : Ev Opd) (fj2 : Ev D) : sSet2 fv fo1 fj1 fo2 fj2 S st = (fv S st).go (fun d S st => match d with | .tup [d1, d2] => (setAt fo1 fj1 d1 S st).then (fun S st => setAt fo2 fj2 d2 S st) | _ => .stuck) .exc .stuck := by
  unfold sSet2; refine (Res.out_go ..).trans (go_c fun d S st => ?_)
  rcases d with _ | _ | _ | _ | _ | l | _ | _ | _ | _ | _ | _ <;> try rfl
@[simp ↓] theorem sSet2_t (fv : Ev D) (fo1 : Ev Opd) (fj1 : Ev D) (fo2 : Ev Opd) (fj2 : Ev D) (k : Sls → Store → Out) : (sSet2 fv fo1 fj1 fo2 fj2 S st).then k = (fv S st).go (fun d S st => match d with | .tup [d1, d2] => (setAt fo1 fj1 d1 S st).then (fun S st => (setAt fo2 fj2 d2 S st).then k) | _ => .stuck) .exc .stuck := by
  rw [sSet2_p, then_go2]; refine go_c fun d S st => ?_
  rcases d with _ | _ | _ | _ | _ | l | _ | _ | _ | _ | _ | _ <;> try rfl
  rcases l with _ | ⟨a, _ | ⟨b, _ | ⟨c, r⟩⟩⟩ <;> try rfl
  show ((setAt fo1 fj1 _ S st).then _).then k = (setAt fo1 fj1 _ S st).then _
  generalize setAt fo1 fj1 _ S st = o
  cases o <;> rfl
end
end DL

namespace M
open PySem PySem.Spec PyProof.Rows L2 DL
/-! ### the purse: a number and, as long as its own digits go, another one -/
abbrev Pu : Type := Int × Option Int
def oI : Option Int → D
  | none => .non
  | some i => .int i
def Pu.o (p : Pu) : Ob := .o (.l [.int p.1, oI p.2])
theorem pu_set {st : Store} {n : Nat} {p : Pu} (h : st[n]? = some p.o) (q : Pu) : (st.set n q.o)[n]? = some q.o := List.getElem?_set_self (List.getElem?_eq_some_iff.mp h).1
def cell (ns : List Int) (i : Int) : Int := (ns[i.toNat]?).getD 0
theorem cell_ok (ns : List Int) (i : Int) (h : 0 ≤ i) (st : Store) : c__law_cell_at [.scr ns, .int i] st = .ok (.int (cell ns i)) [] st := by
  by_cases hi : i < (ns.length : Int)
  · have e : atI ns i = some (cell ns i) := by
      rw [atI_nn _ h]; unfold cell
      rw [List.getElem?_eq_getElem (by omega)]; rfl
    simp [c__law_cell_at, runB_a, b__law_cell_at, hi, e]
  · have e : cell ns i = 0 := by
      unfold cell
      rw [List.getElem?_eq_none (by omega)]; rfl
    simp [c__law_cell_at, runB_a, b__law_cell_at, hi, e]
/-- the purse of a cell -/
def pu0 (ns : List Int) (k : Int) : Pu := (cell ns k + k, some (cell ns k + k))
theorem purse_ok (ns : List Int) (k : Int) (h : 0 ≤ k) (st : Store) : c__law_purse [.scr ns, .int k] st = .ok (.loc st.length) [] (st ++ [(pu0 ns k).o]) := by
  have e := fun st => cell_ok ns k h st
  have ea : (pu0 ns k).o = .o (.l [.int (cell ns k + k), .int (cell ns k + k)]) := rfl
  rw [c__law_purse, runB_k, b__law_purse, ea]
  generalize cell ns k = c at *
  generalize D.scr ns = nd at *
  simp (maxSteps := 30000) (disch := first | assumption | (simp; done) | omega | (simp; omega)) [e]
/-- one number taken -/
theorem take_ok (p : Pu) (m : Int) (m0 : 0 < m) (m1 : m ≤ 10 ^ 200) : ∃ (v : Int) (p' : Pu), (0 ≤ v ∧ v < m) ∧ ∀ (st : Store) (n : Nat), st[n]? = some p.o → c__law_take [.loc n, .int m] st = .ok (.int v) [] (st.set n p'.o) := by
  have is0 : dIsNot .non .non = some (.bl false) := rfl
  have is1 : ∀ i : Int, dIsNot (.int i) .non = some (.bl true) := fun _ => rfl
  have ixA : ∀ a b : D, dIx (.lst [a, b]) (.int 0) = some a := fun _ _ => rfl
  have ixB : ∀ a b : D, dIx (.lst [a, b]) (.int 1) = some b := fun _ _ => rfl
  have j0 : ixN 2 0 = some 0 := rfl
  have j1 : ixN 2 1 = some 1 := rfl
  have md : ∀ a : Int, dMod (.int a) (.int m) = some (.int (a % m)) := fun a => dMod_a _ _ m0
  have fd : ∀ a : Int, dFdiv (.int a) (.int m) = some (.int (a / m)) := fun a => dFdiv_a _ _ m0 m1
  -- behind the own digits
  have mix : ∀ x : Int, ∃ (v x' : Int), (0 ≤ v ∧ v < m) ∧ ∀ (st : Store) (n : Nat), st[n]? = some (.o (.l [.int x, .non])) → ∃ S, R__law_take_1 [.d (.loc n), .d (.int m), .no] st = .ret (.int v) S (st.set n (.o (.l [.int x', .non]))) := by
    intro x
    obtain ⟨a, ha⟩ : ∃ a, x % 2147483647 = a := ⟨_, rfl⟩
    obtain ⟨x', hx⟩ : ∃ x', (a * 48271 + 12345) % 2147483629 = x' := ⟨_, rfl⟩
    have a0 : 0 ≤ a := by omega
    have a1 : a < 2147483647 := by omega
    have x0 : 0 ≤ x' := by omega
    have x1 : x' < 2147483629 := by omega
    obtain ⟨b, hb⟩ : ∃ b, x' * x' % 2147483587 = b := ⟨_, rfl⟩
    have b0 : 0 ≤ b := by rw [← hb]; exact Int.emod_nonneg _ (by decide)
    have b1 : b < 2147483587 := by rw [← hb]; exact Int.emod_lt_of_pos _ (by decide)
    refine ⟨b ^ 7 / 5 % m, x', ⟨Int.emod_nonneg _ (by omega), Int.emod_lt_of_pos _ m0⟩, fun st n h => ?_⟩
    have c1 : mulC a 48271 = true := mulC_of (.small (by omega) (by omega)) (.small (by omega) (by omega))
    have c2 : mulC x' x' = true := mulC_of (.small (by omega) (by omega)) (.small (by omega) (by omega))
    have e1 : dMod (.int x) (.int 2147483647) = some (.int a) := by rw [dMod_a _ _ (by decide), ha]
    have e2 : dMul (.int a) (.int 48271) = some (.int (a * 48271)) := by simp [c1]
    have e3 : dAdd (.int (a * 48271)) (.int 12345) = some (.int (a * 48271 + 12345)) := by simp
    have e4 : dMod (.int (a * 48271 + 12345)) (.int 2147483629) = some (.int x') := by rw [dMod_a _ _ (by decide), hx]
    have e5 : dMul (.int x') (.int x') = some (.int (x' * x')) := by simp [c2]
    have e6 : dMod (.int (x' * x')) (.int 2147483587) = some (.int b) := by rw [dMod_a _ _ (by decide), hb]
    have e7 : dPow (.int b) (.int 7) = some (.int (b ^ 7)) := dPow_w b 7 (by decide) (by decide) (by
      have : b.natAbs < 2147483587 := by omega
      exact Nat.lt_trans this (by decide +kernel))
    have e8 : dFdiv (.int (b ^ 7)) (.int 5) = some (.int (b ^ 7 / 5)) := dFdiv_a _ _ (by decide) (by decide +kernel)
    have e9 := md (b ^ 7 / 5)
    have g1 : (st.set n (.o (.l [.int x', .non])))[n]? = some (.o (.l [.int x', .non])) := List.getElem?_set_self (List.getElem?_eq_some_iff.mp h).1
    rw [R__law_take_1]
    clear ha hx hb a0 a1 x0 x1 b0 b1 c1 c2 is1 md fd m0 m1 ixB j1
    generalize a * 48271 + 12345 = aa at *
    generalize a * 48271 = ab at *
    generalize x' * x' = xx at *
    generalize b ^ 7 / 5 % m = v at *
    generalize b ^ 7 / 5 = b5 at *
    generalize b ^ 7 = b7 at *
    have k1 : dIx (.lst [.int x, .non]) (.int 1) = some .non := rfl
    have k0 := ixA (.int x) .non
    have k2 := ixA (.int x') .non
    have j0 : ixN [D.int x, D.non].length 0 = some 0 := rfl
    have s0 : [D.int x, D.non].set 0 (.int x') = [.int x', .non] := rfl
    clear ixA
    generalize hl1 : [D.int x', D.non] = l1 at *
    generalize hl : [D.int x, D.non] = l at *
    generalize hs1 : st.set n (.o (.l l1)) = st1 at *
    refine ⟨[.d (.loc n), .d (.int m), .d (.int x)], ?_⟩
    simp (maxSteps := 30000) (disch := first | assumption | (simp; done) | omega | (simp; omega)) [hs1, h, k0, k1, is0, e1, e2, e3, e4, j0, s0, g1, k2, e5, e6, e7, e8, e9]
  have own : ∀ (x y : Int) (st : Store) (n : Nat), st[n]? = some (.o (.l [.int x, .int y])) → ∃ S, R__law_take_1 [.d (.loc n), .d (.int m), .no] st = .ret (.int (x % m)) S (st.set n (.o (.l [.int (x / m), .int y]))) := by
    intro x y st n h
    have k0 := ixA (.int x) (.int y)
    have k1 := ixB (.int x) (.int y)
    have j0 : ixN [D.int x, D.int y].length 0 = some 0 := rfl
    have s0 : [D.int x, D.int y].set 0 (.int (x / m)) = [.int (x / m), .int y] := rfl
    have e1 := md x
    have e2 := fd x
    have e3 := is1 y
    rw [R__law_take_1]
    clear ixA ixB md fd is1 mix is0 j1 m0 m1
    generalize x / m = xq at *
    generalize x % m = xr at *
    generalize hl1 : [D.int xq, D.int y] = l1 at *
    generalize hl : [D.int x, D.int y] = l at *
    generalize hs1 : st.set n (.o (.l l1)) = st1 at *
    refine ⟨[.d (.loc n), .d (.int m), .d (.int x)], ?_⟩
    simp (maxSteps := 30000) (disch := first | assumption | (simp; done) | omega | (simp; omega)) [hs1, h, k0, k1, e1, e2, e3, j0, s0]
  have qi : ∀ i : Int, eqOk (.int i) = true := fun _ => rfl
  have ng : dNeg (.int 1) = some (.int (-1)) := rfl
  obtain ⟨x, o⟩ := p
  cases o with
  | none =>
    obtain ⟨v, x', hv, G⟩ := mix x
    refine ⟨v, (x', none), hv, fun st n h => ?_⟩
    have h : st[n]? = some (.o (.l [.int x, .non])) := h
    obtain ⟨S, G⟩ := G st n h
    have k1 := ixB (.int x) .non
    have ep : Pu.o (x', none) = .o (.l [.int x', .non]) := rfl
    rw [c__law_take, runB_k, b__law_take, ep]
    clear mix own ixA ixB md fd is1 m0 m1 hv
    generalize R__law_take_1 = R at *
    generalize hl : [D.int x, D.non] = l at *
    generalize st.set n _ = st1 at *
    simp (maxSteps := 30000) (disch := first | assumption | (simp; done) | omega | (simp; omega)) [h, k1, is0, G]
  | some y =>
    by_cases hx : x = 0 ∨ x = -1
    · obtain ⟨v, x', hv, G⟩ := mix y
      refine ⟨v, (x', none), hv, fun st n h => ?_⟩
      have h : st[n]? = some (.o (.l [.int x, .int y])) := h
      have hn := (List.getElem?_eq_some_iff.mp h).1
      obtain ⟨S, G⟩ := G (st.set n (.o (.l [.int y, .non]))) n (List.getElem?_set_self hn)
      rw [List.set_set] at G
      have k1 := ixB (.int x) (.int y)
      have k0 := ixA (.int x) (.int y)
      have i1 := is1 y
      have hin : 0 = x ∨ -1 = x := by omega
      have j0 : ixN [D.int x, D.int y].length 0 = some 0 := rfl
      have j1 : ixN [D.int y, D.int y].length 1 = some 1 := rfl
      have s0 : [D.int x, D.int y].set 0 (.int y) = [.int y, .int y] := rfl
      have s1 : [D.int y, D.int y].set 1 .non = [.int y, .non] := rfl
      have g1 : (st.set n (.o (.l [.int y, .int y])))[n]? = some (.o (.l [.int y, .int y])) := List.getElem?_set_self hn
      have ss : (st.set n (.o (.l [.int y, .int y]))).set n (.o (.l [.int y, .non])) = st.set n (.o (.l [.int y, .non])) := List.set_set ..
      have ep : Pu.o (x', none) = .o (.l [.int x', .non]) := rfl
      rw [c__law_take, runB_k, b__law_take, ep]
      clear mix own ixA ixB md fd is1 m0 m1 hv hn hx
      generalize R__law_take_1 = R at *
      generalize st.set n (.o (.l [.int x', .non])) = st3 at *
      generalize hl : [D.int x, D.int y] = l at *
      generalize hl1 : [D.int y, D.int y] = l1 at *
      generalize hl2 : [D.int y, D.non] = l2 at *
      generalize hs2 : st.set n (.o (.l l2)) = st2 at *
      generalize hs1 : st.set n (.o (.l l1)) = st1 at *
      simp (maxSteps := 30000) (disch := first | assumption | (simp; done) | omega | (simp; omega)) [hs1, hs2, h, k0, k1, i1, is0, ng, hin, j0, j1, s0, s1, g1, ss, G]
    · refine ⟨x % m, (x / m, some y), ⟨Int.emod_nonneg _ (by omega), Int.emod_lt_of_pos _ m0⟩, fun st n h => ?_⟩
      have h : st[n]? = some (.o (.l [.int x, .int y])) := h
      obtain ⟨S, G⟩ := own x y st n h
      have k1 := ixB (.int x) (.int y)
      have k0 := ixA (.int x) (.int y)
      have i1 := is1 y
      have hin : ¬ (0 = x ∨ -1 = x) := by omega
      have ep : Pu.o (x / m, some y) = .o (.l [.int (x / m), .int y]) := rfl
      rw [c__law_take, runB_k, b__law_take, ep]
      clear mix own ixA ixB md fd is1 m0 m1 hx
      generalize R__law_take_1 = R at *
      generalize hl : [D.int x, D.int y] = l at *
      generalize st.set n _ = st1 at *
      generalize x % m = xr at *
      simp (maxSteps := 30000) (disch := first | assumption | (simp; done) | omega | (simp; omega)) [h, k0, k1, i1, is0, ng, hin, G]
end M

namespace M
open PySem PySem.Spec PyProof.Rows L2 DL
abbrev Wd : Type := List Nat
/-- a word -/
structure Wok (w : Wd) : Prop where
  ne : w ≠ []
  len : w.length ≤ 8
  ch : ∀ c ∈ w, 97 ≤ c ∧ c ≤ 122
  el : w ≠ [101, 108, 115, 101]
theorem st_same {st : Store} {n : Nat} {o : Ob} (h : st[n]? = some o) : st.set n o = st := by
  obtain ⟨h1, h2⟩ := List.getElem?_eq_some_iff.mp h
  rw [← h2]; exact List.set_getElem_self h1
abbrev let26 : List Nat := [97, 98, 99, 100, 101, 102, 103, 104, 105, 106, 107, 108, 109, 110, 111, 112, 113, 114, 115, 116, 117, 118, 119, 120, 121, 122]
theorem let26_at (v : Int) (h0 : 0 ≤ v) (h1 : v < 26) : ∃ c, 97 ≤ c ∧ c ≤ 122 ∧ dIx (.str let26) (.int v) = some (.str [c]) := by
  refine ⟨97 + v.toNat, by omega, by omega, ?_⟩
  have : ∀ j, j < 26 → let26[j]? = some (97 + j) := by decide
  have e : atI let26 v = some (97 + v.toNat) := by rw [atI_nn _ h0]; exact this _ (by omega)
  rw [dIx_s _ _ (by decide), e]; rfl
theorem any_strs (s : List Nat) (ts : List (List Nat)) : (ts.map D.str).any (fun z => deq z (.str s)) = decide (s ∈ ts) := by
  rw [List.any_map, Bool.eq_iff_iff, List.any_eq_true, decide_eq_true_eq]
  constructor
  · rintro ⟨x, hx, e⟩
    simp at e; subst e; exact hx
  · intro h; exact ⟨s, h, by simp⟩
theorem letters_loop : ∀ (ds : List D) (p : Pu) (f : Wd), f.length + ds.length ≤ 100 → (∀ c ∈ f, 97 ≤ c ∧ c ≤ 122) → ∃ (f' : Wd) (p' : Pu), f'.length = f.length + ds.length ∧ (∀ c ∈ f', 97 ≤ c ∧ c ≤ 122) ∧ ∀ (st : Store) (n : Nat) (x : Sl), st[n]? = some p.o →
    ∃ x', forL (gV 2) L__law_word_1 ds [.d (.loc n), .d (.str f), x] st = .nx [.d (.loc n), .d (.str f'), x'] (st.set n p'.o)
  | [], p, f, _, hf => ⟨f, p, rfl, hf, fun st n x h => ⟨x, by rw [st_same h]; rfl⟩⟩
  | d :: r, p, f, hl, hf => by
    rw [List.length_cons] at hl
    obtain ⟨v, p1, ⟨v0, v1⟩, T⟩ := take_ok p 26 (by decide) (by decide +kernel)
    obtain ⟨c, c0, c1, hc⟩ := let26_at v v0 v1
    obtain ⟨f', p', e1, e2, G⟩ := letters_loop r p1 (f ++ [c]) (by rw [List.length_append, List.length_singleton]; omega) fun y hy => (List.mem_append.mp hy).elim (hf y) fun q => by rw [List.mem_singleton.mp q]; exact ⟨c0, c1⟩
    refine ⟨f', p', by rw [e1, List.length_append, List.length_singleton, List.length_cons]; omega, e2, fun st n x h => ?_⟩
    have t := T st n h
    obtain ⟨x', g⟩ := G (st.set n p1.o) n (.d d) (pu_set h p1)
    rw [List.set_set] at g
    refine ⟨x', ?_⟩
    have ha : dAdd (.str f) (.str [c]) = some (.str (f ++ [c])) := dAdd_s _ _ (by rw [List.length_singleton]; omega)
    have b : L__law_word_1 [.d (.loc n), .d (.str f), .d d] st = .nx [.d (.loc n), .d (.str (f ++ [c])), .d d] (st.set n p1.o) := by
      rw [L__law_word_1]
      clear G g T hl hf e1 e2
      generalize D.str (f ++ [c]) = fc at *
      generalize D.str [c] = gc at *
      generalize D.str f = fd at *
      generalize D.str let26 = ld at *
      generalize st.set n p1.o = st1 at *
      simp (maxSteps := 30000) (disch := first | assumption | (simp; done) | omega | (simp; omega)) [t, hc, ha]
    rw [forL_c, gV_a]
    simp only [List.set_cons_succ, List.set_cons_zero, b, g]
theorem word_ok (p : Pu) : ∃ (w : Wd) (p' : Pu), Wok w ∧ ∀ (st : Store) (n : Nat), st[n]? = some p.o → c__law_word [.loc n] st = .ok (.str w) [] (st.set n p'.o) := by
  obtain ⟨v, p1, ⟨v0, v1⟩, T⟩ := take_ok p 8 (by decide) (by decide +kernel)
  obtain ⟨m, hm⟩ : ∃ m : Nat, 1 + v = ((m + 1 : Nat) : Int) := ⟨v.toNat, by omega⟩
  obtain ⟨f, p2, e1, e2, G⟩ := letters_loop (rng (m + 1) 0) p1 [] (by rw [rng_len]; simp; omega) (by simp)
  rw [rng_len, List.length_nil] at e1
  have run : ∀ (st : Store) (n : Nat), st[n]? = some p.o → c__law_word [.loc n] st = .ok (.str (if f = [101, 108, 115, 101] then [101, 108, 115] else f)) [] (st.set n p2.o) := fun st n h => by
    have t := T st n h
    obtain ⟨x', g⟩ := G (st.set n p1.o) n .no (pu_set h p1)
    rw [List.set_set] at g
    have r0 : -1000000 ≤ ((m + 1 : Nat) : Int) := by omega
    have r1 : ((m + 1 : Nat) : Int) ≤ 1000000 := by omega
    have r2 : ((m + 1 : Nat) : Int).toNat = m + 1 := Int.toNat_natCast _
    have q1 : eqOk (.str f) = true := rfl
    have q2 : deq (.str f) (.str [101, 108, 115, 101]) = decide (f = [101, 108, 115, 101]) := deq_str _ _
    rw [c__law_word, runB_k, b__law_word]
    clear G T e1 e2 h
    generalize st.set n p2.o = st2 at *
    generalize st.set n p1.o = st1 at *
    generalize L__law_word_1 = LL at *
    generalize ((m + 1 : Nat) : Int) = m1 at *
    by_cases hE : f = [101, 108, 115, 101]
    · rw [if_pos hE]
      rw [decide_eq_true hE] at q2
      generalize D.str f = fd at *
      simp (maxSteps := 30000) (disch := first | assumption | (simp; done) | omega | (simp; omega)) [t, hm, r0, r1, r2, g, q1, q2]
    · rw [if_neg hE]
      rw [decide_eq_false hE] at q2
      generalize D.str f = fd at *
      simp (maxSteps := 30000) (disch := first | assumption | (simp; done) | omega | (simp; omega)) [t, hm, r0, r1, r2, g, q1, q2]
  refine ⟨_, p2, ?_, run⟩
  by_cases hE : f = [101, 108, 115, 101]
  · rw [if_pos hE]; exact ⟨by decide, by decide, by decide, by decide⟩
  · rw [if_neg hE]; exact ⟨fun z => by rw [z] at e1; simp at e1, by omega, e2, hE⟩
theorem words_loop (M : Nat) (hM : M ≤ 1000) : ∀ (ds : List D) (p : Pu) (acc : List Wd), acc.Nodup → (∀ w ∈ acc, Wok w) → acc.length ≤ M → ∃ (acc' : List Wd) (p' : Pu), (acc'.Nodup ∧ (∀ w ∈ acc', Wok w) ∧ acc'.length ≤ M ∧ (0 < M → ds ≠ [] ∨ acc ≠ [] → acc' ≠ [])) ∧ ∀ (st : Store) (n : Nat) (x3 x4 : Sl), st[n]? = some p.o →
    ∃ y3 y4, forL (gV 3) L__law_words_1 ds [.d (.loc n), .d (.int (M : Nat)), .own (.l (acc.map .str)), x3, x4] st = .nx [.d (.loc n), .d (.int (M : Nat)), .own (.l (acc'.map .str)), y3, y4] (st.set n p'.o)
  | [], p, acc, h1, h2, h3 => ⟨acc, p, ⟨h1, h2, h3, fun _ h => h.elim (fun z => absurd rfl z) id⟩, fun st n x3 x4 h => ⟨x3, x4, by rw [st_same h]; rfl⟩⟩
  | d :: r, p, acc, h1, h2, h3 => by
    obtain ⟨w, p1, hw, T⟩ := word_ok p
    have nin := any_strs w acc
    have n1 : eqOk (.str w) = true := rfl
    have n2 : eqOk (.lst (acc.map D.str)) = true := eqOk_lst _ (flat_strs acc)
    have dl : dLen [.lst (acc.map D.str)] = some (.int (acc.length : Nat)) := by simp
    have la : (acc.map D.str).length < 16777216 := by rw [List.length_map]; omega
    by_cases hc : w ∉ acc ∧ acc.length < M
    · obtain ⟨acc', p', ⟨e1, e2, e3, e4⟩, G⟩ := words_loop M hM r p1 (acc ++ [w]) (by
          rw [List.nodup_append]; exact ⟨h1, by simp, fun a ha b hb => by rw [List.mem_singleton] at hb; subst hb; exact fun e => hc.1 (e ▸ ha)⟩)
        (fun y hy => (List.mem_append.mp hy).elim (h2 y) fun q => by rw [List.mem_singleton.mp q]; exact hw) (by rw [List.length_append, List.length_singleton]; omega)
      refine ⟨acc', p', ⟨e1, e2, e3, fun a _ => e4 a (.inr (by simp))⟩, fun st n x3 x4 h => ?_⟩
      have t := T st n h
      obtain ⟨y3, y4, g⟩ := G (st.set n p1.o) n (.d d) (.d (.str w)) (pu_set h p1)
      rw [List.set_set] at g
      refine ⟨y3, y4, ?_⟩
      have hm : ((acc.length : Nat) : Int) < ((M : Nat) : Int) := by omega
      have ea : (acc ++ [w]).map D.str = acc.map D.str ++ [.str w] := by rw [List.map_append]; rfl
      rw [ea] at g
      rw [decide_eq_false hc.1] at nin
      have b : L__law_words_1 [.d (.loc n), .d (.int (M : Nat)), .own (.l (acc.map .str)), .d d, x4] st = .nx [.d (.loc n), .d (.int (M : Nat)), .own (.l (acc.map D.str ++ [.str w])), .d d, .d (.str w)] (st.set n p1.o) := by
        rw [L__law_words_1]
        clear G g T ea h1 h2 h3 e1 e2 e3 e4 hc
        generalize acc.map D.str = al at *
        generalize D.str w = wd at *
        generalize st.set n p1.o = st1 at *
        generalize ((acc.length : Nat) : Int) = nn1 at *
        generalize ((M : Nat) : Int) = m1 at *
        simp (maxSteps := 30000) (disch := first | assumption | (simp; done) | omega | (simp; omega)) [t, n1, n2, nin, dl, hm, la]
      rw [forL_c, gV_a]
      simp only [List.set_cons_succ, List.set_cons_zero, b, g]
    · obtain ⟨acc', p', ⟨e1, e2, e3, e4⟩, G⟩ := words_loop M hM r p1 acc h1 h2 h3
      refine ⟨acc', p', ⟨e1, e2, e3, fun a _ => e4 a (.inr fun z => hc (by subst z; exact ⟨by simp, a⟩))⟩, fun st n x3 x4 h => ?_⟩
      have t := T st n h
      obtain ⟨y3, y4, g⟩ := G (st.set n p1.o) n (.d d) (.d (.str w)) (pu_set h p1)
      rw [List.set_set] at g
      refine ⟨y3, y4, ?_⟩
      have b : L__law_words_1 [.d (.loc n), .d (.int (M : Nat)), .own (.l (acc.map .str)), .d d, x4] st = .nx [.d (.loc n), .d (.int (M : Nat)), .own (.l (acc.map D.str)), .d d, .d (.str w)] (st.set n p1.o) := by
        rw [L__law_words_1]
        by_cases hin : w ∈ acc
        · rw [decide_eq_true hin] at nin
          clear G g T h1 h2 h3 e1 e2 e3 e4 hc
          generalize acc.map D.str = al at *
          generalize D.str w = wd at *
          generalize st.set n p1.o = st1 at *
          generalize ((acc.length : Nat) : Int) = nn1 at *
          generalize ((M : Nat) : Int) = m1 at *
          simp (maxSteps := 30000) (disch := first | assumption | (simp; done) | omega | (simp; omega)) [t, n1, n2, nin, dl]
        · have hm : ¬ ((acc.length : Nat) : Int) < ((M : Nat) : Int) := fun z => hc ⟨hin, by omega⟩
          rw [decide_eq_false hin] at nin
          clear G g T h1 h2 h3 e1 e2 e3 e4 hc
          generalize acc.map D.str = al at *
          generalize D.str w = wd at *
          generalize st.set n p1.o = st1 at *
          generalize ((acc.length : Nat) : Int) = nn1 at *
          generalize ((M : Nat) : Int) = m1 at *
          simp (maxSteps := 30000) (disch := first | assumption | (simp; done) | omega | (simp; omega)) [t, n1, n2, nin, dl, hm]
      rw [forL_c, gV_a]
      simp only [List.set_cons_succ, List.set_cons_zero, b, g]
theorem words_ok (p : Pu) (M : Nat) (h0 : 0 < M) (hM : M ≤ 1000) : ∃ (ws : List Wd) (p' : Pu), (ws ≠ [] ∧ ws.Nodup ∧ (∀ w ∈ ws, Wok w) ∧ ws.length ≤ M) ∧ ∀ (st : Store) (n : Nat), st[n]? = some p.o → c__law_words [.loc n, .int (M : Nat)] st = .ok (.lst (ws.map .str)) [] (st.set n p'.o) := by
  obtain ⟨ws, p', ⟨e1, e2, e3, e4⟩, G⟩ := words_loop M hM (rng (3 * M) 0) p [] List.nodup_nil (by simp) (by simp)
  refine ⟨ws, p', ⟨e4 h0 (.inl fun z => by have := congrArg List.length z; rw [rng_len] at this; simp at this; omega), e1, e2, e3⟩, fun st n h => ?_⟩
  obtain ⟨y3, y4, g⟩ := G st n .no .no h
  have mm : dMul (.int 3) (.int (M : Nat)) = some (.int ((3 * M : Nat) : Int)) := by
    have := mulC_of (i := 3) (j := (M : Int)) (.small (by omega) (by omega)) (.small (by omega) (by omega)); simp [this]
  have r0 : -1000000 ≤ ((3 * M : Nat) : Int) := by omega
  have r1 : ((3 * M : Nat) : Int) ≤ 1000000 := by omega
  have r2 : ((3 * M : Nat) : Int).toNat = 3 * M := Int.toNat_natCast _
  have z : ([] : List Wd).map D.str = [] := rfl
  rw [z] at g
  rw [c__law_words, runB_k, b__law_words]
  clear G z e1 e2 e3 e4 h h0 hM
  generalize st.set n p'.o = st2 at *
  generalize L__law_words_1 = LL at *
  generalize 3 * M = m3 at *
  generalize ((m3 : Nat) : Int) = m1 at *
  generalize ((M : Nat) : Int) = m0 at *
  generalize ws.map D.str = wl at *
  simp (maxSteps := 30000) (disch := first | assumption | (simp; done) | omega | (simp; omega)) [mm, r0, r1, r2, g]
end M

namespace M
open PySem PySem.Spec PyProof.Rows L2 DL
/-! ### on which the tongues fall back: lists of the store from b on -/
abbrev fO (f : List Wd) : Ob := .o (.l (f.map D.str))
def Fr (b : Nat) (fc : List (List Wd)) (st : Store) : Prop := ∀ i f, fc[i]? = some f → st[b + i]? = some (fO f)
def lcs (b L : Nat) : List D := (List.range L).map fun i => D.loc (b + i)
theorem lcs_at {b L i : Nat} (h : i < L) : (lcs b L)[i]? = some (.loc (b + i)) := by
  unfold lcs; rw [List.getElem?_map, List.getElem?_range h]; rfl
theorem app_get {st : Store} {n : Nat} {o : Ob} (h : st[n]? = some o) (x : List Ob) : (st ++ x)[n]? = some o := by
  rw [List.getElem?_append_left (List.getElem?_eq_some_iff.mp h).1]; exact h
theorem app_last (st : Store) (x : Ob) : (st ++ [x])[st.length]? = some x := by simp
theorem set_last (st : Store) (x y : Ob) : (st ++ [x]).set st.length y = st ++ [y] := by simp
theorem empties {a0 a1 a2 a5 a6 : Sl} : ∀ (r pre : List D) (st : Store), lcHL (gV 4) [4] tY E__law_falls_1 (.v (.lst (pre ++ r))) r.length pre.length [a0, a1, a2, .no, .no, a5, a6] st = .ok ((List.range r.length).map fun i => D.loc (st.length + i)) [a0, a1, a2, .no, .no, a5, a6] (st ++ List.replicate r.length (.o (.l [])))
  | [], pre, st => by
    simp only [List.length_nil, lcHL, getL]
    rw [if_pos (by simp)]; simp
  | d :: r, pre, st => by
    have ih := empties (a0 := a0) (a1 := a1) (a2 := a2) (a5 := a5) (a6 := a6) r (pre ++ [d]) (st ++ [.o (.l [])])
    rw [List.length_append, List.length_singleton, List.append_assoc] at ih
    have hx : (pre ++ d :: r)[pre.length]? = some d := by simp
    have ee : E__law_falls_1 [a0, a1, a2, .no, .d d, a5, a6] st = .ok (.loc st.length) [a0, a1, a2, .no, .d d, a5, a6] (st ++ [.o (.l [])]) := by
      rw [E__law_falls_1]; rfl
    have ec : pre ++ ([d] ++ r) = pre ++ d :: r := rfl
    rw [ec] at ih
    simp only [List.length_cons, lcHL, getL, hx, gV_a, List.set_cons_succ, List.set_cons_zero, tY_a, Res.calm_ok, Res.bind_ok, if_true, ee, wipeS_c, wipeS_n, ih]
    rw [List.range_succ_eq_map, List.map_cons, List.map_map, List.replicate_succ, List.append_assoc]
    have : (List.range r.length).map (fun i => D.loc ((st ++ [Ob.o (.l [])]).length + i)) = (List.range r.length).map ((fun i => D.loc (st.length + i)) ∘ Nat.succ) := by
      refine List.map_congr_left fun i _ => ?_
      simp only [Function.comp_apply, List.length_append, List.length_singleton]
      congr 1; omega
    rw [this]; rfl
section
variable {ns : List Int} {ws : List Wd} {many L : Nat}
/-- one name is put behind one's -/
theorem falls_turn (hL : ws.length = L) (hm : 1 ≤ many) (hmL : many ≤ L) (hL9 : L ≤ 100) (k : Int) (hk : 0 ≤ k) (fc : List (List Wd)) (hf : fc.length = L) :
    ∃ (v : Nat) (w : Wd), v < L ∧ w ∈ ws ∧ ∀ (f : List Wd) (b : Nat) (st : Store) (x6 : Sl), fc[v]? = some f → f.length ≤ 1000 → b + L ≤ st.length → Fr b fc st → ∃ st' x6', L__law_falls_1 [.d (.scr ns), .d (.lst (ws.map .str)), .d (.int (many : Nat)), .d (.lst (lcs b L)), .no, .d (.int k), x6] st = .nx [.d (.scr ns), .d (.lst (ws.map .str)), .d (.int (many : Nat)), .d (.lst (lcs b L)), .no, .d (.int k), x6'] st' ∧
      st'.length = st.length + 1 ∧ Fr b (fc.set v (f ++ [w])) st' ∧ ∀ i, i < b → st'[i]? = st[i]? := by
  obtain ⟨v, p1, ⟨v0, v1⟩, T1⟩ := take_ok (pu0 ns k) (many : Nat) (by omega) (Int.le_trans (show ((many : Nat) : Int) ≤ 100 by omega) (by decide +kernel))
  obtain ⟨u, p2, ⟨u0, u1⟩, T2⟩ := take_ok p1 (L : Nat) (by omega) (Int.le_trans (show ((L : Nat) : Int) ≤ 100 by omega) (by decide +kernel))
  obtain ⟨w, hw⟩ : ∃ w, ws[u.toNat]? = some w := ⟨_, List.getElem?_eq_getElem (by omega)⟩
  refine ⟨v.toNat, w, by omega, List.mem_of_getElem? hw, fun f b st x6 hfv hfl hb hF => ?_⟩
  have e1 := purse_ok ns k hk st
  obtain ⟨n, hn⟩ : ∃ n, st.length = n := ⟨_, rfl⟩
  have g0 : (st ++ [(pu0 ns k).o])[n]? = some (pu0 ns k).o := by rw [← hn]; exact app_last _ _
  have t1 := T1 _ n g0
  have s1 : (st ++ [(pu0 ns k).o]).set n p1.o = st ++ [p1.o] := by rw [← hn]; exact set_last _ _ _
  rw [s1] at t1
  have g1 : (st ++ [p1.o])[n]? = some p1.o := by rw [← hn]; exact app_last _ _
  have t2 := T2 _ n g1
  have s2 : (st ++ [p1.o]).set n p2.o = st ++ [p2.o] := by rw [← hn]; exact set_last _ _ _
  rw [s2] at t2
  have hfb := hF v.toNat f hfv
  have gf : ∀ x : List Ob, (st ++ x)[b + v.toNat]? = some (.o (.l (f.map D.str))) := fun x => app_get hfb x
  have i1 : dIx (.lst (lcs b L)) (.int v) = some (.loc (b + v.toNat)) := by
    simp [atI_nn _ v0, lcs_at (show v.toNat < L by omega)]
  have i2 : dIx (.lst (ws.map D.str)) (.int u) = some (.str w) := by
    simp [atI_nn _ u0, hw]
  have dl : dLen [.lst (ws.map D.str)] = some (.int (L : Nat)) := by simp [hL]
  have la : (f.map D.str).length < 16777216 := by rw [List.length_map]; omega
  have hbn : b + v.toNat < n := by omega
  have sf : (st ++ [p2.o]).set (b + v.toNat) (.o (.l (f.map D.str ++ [.str w]))) = st.set (b + v.toNat) (.o (.l (f.map D.str ++ [.str w]))) ++ [p2.o] := by rw [List.set_append_left _ _ (by omega)]
  refine ⟨st.set (b + v.toNat) (.o (.l (f.map D.str ++ [.str w]))) ++ [p2.o], .d (.loc n), ?_, by simp, fun i g hg => ?_, fun i hi => ?_⟩
  · rw [L__law_falls_1]
    rw [hn] at e1
    clear T1 T2 hF hfv hfl hb hw s1 s2 g0 g1 hfb
    have gA := gf [p1.o]
    have gB := gf [p2.o]
    clear gf
    generalize lcs b L = ll at *
    generalize ws.map D.str = wl at *
    generalize f.map D.str = fl at *
    generalize D.str w = wd at *
    generalize b + v.toNat = bv at *
    generalize st.set bv (.o (.l (fl ++ [wd]))) ++ [p2.o] = st4 at *
    generalize st ++ [p2.o] = st3 at *
    generalize st ++ [p1.o] = st2 at *
    generalize st ++ [(pu0 ns k).o] = st1 at *
    generalize ((many : Nat) : Int) = m1 at *
    generalize ((L : Nat) : Int) = l1 at *
    generalize D.scr ns = nd at *
    simp (maxSteps := 30000) (disch := first | assumption | (simp; done) | omega | (simp; omega)) [e1, t1, i1, gA, dl, t2, i2, gB, la, sf]
  · by_cases hi : v.toNat = i
    · subst hi
      rw [List.getElem?_set_self (by omega)] at hg
      cases hg
      rw [List.getElem?_append_left (by rw [List.length_set]; omega), List.getElem?_set_self (by omega)]
      unfold fO; rw [List.map_append]; rfl
    · rw [List.getElem?_set_ne hi] at hg
      have := hF i g hg
      rw [List.getElem?_append_left (by rw [List.length_set]; have := (List.getElem?_eq_some_iff.mp this).1; exact this), List.getElem?_set_ne (by omega)]
      exact this
  · rw [List.getElem?_append_left (by rw [List.length_set]; omega), List.getElem?_set_ne (by omega)]
theorem falls_loop (hL : ws.length = L) (hm : 1 ≤ many) (hmL : many ≤ L) (hL9 : L ≤ 100) : ∀ (ks : List Nat) (fc : List (List Wd)), fc.length = L → (∀ f ∈ fc, (∀ w ∈ f, w ∈ ws) ∧ f.length + ks.length ≤ 1000) →
    ∃ fc' : List (List Wd), (fc'.length = L ∧ ∀ f ∈ fc', (∀ w ∈ f, w ∈ ws) ∧ f.length ≤ 1000) ∧ ∀ (b : Nat) (st : Store) (x5 x6 : Sl), b + L ≤ st.length → Fr b fc st → ∃ st' y5 y6, forL (gV 5) L__law_falls_1 (ks.map fun k : Nat => D.int (k : Int)) [.d (.scr ns), .d (.lst (ws.map .str)), .d (.int (many : Nat)), .d (.lst (lcs b L)), .no, x5, x6] st =
      .nx [.d (.scr ns), .d (.lst (ws.map .str)), .d (.int (many : Nat)), .d (.lst (lcs b L)), .no, y5, y6] st' ∧ b + L ≤ st'.length ∧ Fr b fc' st' ∧ ∀ i, i < b → st'[i]? = st[i]?
  | [], fc, hf, ha => ⟨fc, ⟨hf, fun f h => ⟨(ha f h).1, by have := (ha f h).2; simp at this; omega⟩⟩, fun b st x5 x6 hb hF => ⟨st, x5, x6, rfl, hb, hF, fun _ _ => rfl⟩⟩
  | k :: r, fc, hf, ha => by
    obtain ⟨v, w, hv, hw, T⟩ := falls_turn (ns := ns) hL hm hmL hL9 (k : Int) (by omega) fc hf
    obtain ⟨f, hfv⟩ : ∃ f, fc[v]? = some f := ⟨_, List.getElem?_eq_getElem (by omega)⟩
    have hff := ha f (List.mem_of_getElem? hfv)
    rw [List.length_cons] at hff
    obtain ⟨fc', h1, G⟩ := falls_loop hL hm hmL hL9 r (fc.set v (f ++ [w])) (by rw [List.length_set]; exact hf) (fun g hg => by
      rcases List.mem_or_eq_of_mem_set hg with z | z
      · have := ha g z; rw [List.length_cons] at this; exact ⟨this.1, by omega⟩
      · subst z
        refine ⟨fun y hy => (List.mem_append.mp hy).elim (hff.1 y) fun q => by rw [List.mem_singleton.mp q]; exact hw, by rw [List.length_append, List.length_singleton]; omega⟩)
    refine ⟨fc', h1, fun b st x5 x6 hb hF => ?_⟩
    obtain ⟨st1, y6, e1, q1, q2, q3⟩ := T f b st x6 hfv (by omega) hb hF
    obtain ⟨st2, z5, z6, e2, w1, w2, w3⟩ := G b st1 (.d (.int (k : Int))) y6 (by omega) q2
    refine ⟨st2, z5, z6, ?_, w1, w2, fun i hi => by rw [w3 i hi, q3 i hi]⟩
    rw [List.map_cons, forL_c, gV_a]
    simp only [List.set_cons_succ, List.set_cons_zero]
    rw [e1]; exact e2
theorem falls_ok (hL : ws.length = L) (hm : 1 ≤ many) (hmL : many ≤ L) (hL9 : L ≤ 100) : ∃ fc : List (List Wd), (fc.length = L ∧ ∀ f ∈ fc, (∀ w ∈ f, w ∈ ws) ∧ f.length ≤ 1000) ∧ ∀ st : Store, ∃ st',
    c__law_falls [.scr ns, .lst (ws.map .str), .int (many : Nat)] st = .ok (.lst (lcs st.length L)) [] st' ∧ st.length + L ≤ st'.length ∧ Fr st.length fc st' ∧ ∀ i, i < st.length → st'[i]? = st[i]? := by
  obtain ⟨e, he, e0, e1⟩ : ∃ e : Nat, (if (12 : Int) < (if (59 : Int) < (ns.length : Int) then 59 else (ns.length : Int)) then (if (59 : Int) < (ns.length : Int) then 59 else (ns.length : Int)) else 12) = (e : Int) ∧ 12 ≤ e ∧ e ≤ 59 := by
    by_cases h1 : (59 : Int) < (ns.length : Int)
    · exact ⟨59, by simp [h1], by decide, by decide⟩
    · by_cases h2 : (12 : Int) < (ns.length : Int)
      · exact ⟨ns.length, by rw [if_neg h1, if_pos h2], by omega, by omega⟩
      · exact ⟨12, by rw [if_neg h1, if_neg h2]; rfl, by decide, by decide⟩
  obtain ⟨fc, h1, G⟩ := falls_loop (ns := ns) hL hm hmL hL9 ((List.range (e - 3)).map fun i => 3 + i) (List.replicate L []) (by simp) (fun f hf => by
    rw [List.mem_replicate] at hf
    rw [hf.2]
    exact ⟨by simp, by simp; omega⟩)
  refine ⟨fc, h1, fun st => ?_⟩
  have hF : Fr st.length (List.replicate L []) (st ++ List.replicate L (.o (.l []))) := fun i f hf => by
    have hi := (List.getElem?_eq_some_iff.mp hf).1
    rw [List.length_replicate] at hi
    rw [List.getElem?_replicate_of_lt hi] at hf
    cases hf
    rw [List.getElem?_append_right (by omega), Nat.add_sub_cancel_left, List.getElem?_replicate_of_lt hi]; rfl
  obtain ⟨st', y5, y6, e2, q1, q2, q3⟩ := G st.length (st ++ List.replicate L (.o (.l []))) .no .no (by simp) hF
  refine ⟨st', ?_, q1, q2, fun i hi => by rw [q3 i hi, List.getElem?_append_left hi]⟩
  have em := empties (a0 := .d (.scr ns)) (a1 := .d (.lst (ws.map .str))) (a2 := .d (.int (many : Nat))) (a5 := .no) (a6 := .no) (ws.map D.str) [] st
  rw [List.length_map, hL, List.nil_append] at em
  have em : lcHL (gV 4) [4] tY E__law_falls_1 (.v (.lst (ws.map D.str))) (ws.map D.str).length 0 [.d (.scr ns), .d (.lst (ws.map .str)), .d (.int (many : Nat)), .no, .no, .no, .no] st = .ok (lcs st.length L) [.d (.scr ns), .d (.lst (ws.map .str)), .d (.int (many : Nat)), .no, .no, .no, .no] (st ++ List.replicate L (.o (.l []))) := by
    rw [List.length_map, hL]; exact em
  have rg : rng ((e : Int) - 3).toNat 3 = (List.map (fun i => 3 + i) (List.range (e - 3))).map fun k : Nat => D.int (k : Int) := by
    have : ((e : Int) - 3).toNat = e - 3 := by omega
    rw [this]
    unfold rng
    rw [List.map_map]
    rfl
  have r0 : -1000000 ≤ (e : Int) := by omega
  have r1 : (e : Int) ≤ 1000000 := by omega
  have dl : dLen [.scr ns] = some (.int (ns.length : Nat)) := by simp
  have gl : ∀ st : Store, getL st (.v (.lst (ws.map D.str))) = some (ws.map D.str) := fun _ => rfl
  have ll : (lcs st.length L).length ≤ 16777216 := by unfold lcs; rw [List.length_map, List.length_range]; omega
  have hnd : ∀ l : List D, hnd (.lst l) = .v (.lst l) := fun _ => rfl
  rw [c__law_falls, runB_k, b__law_falls]
  clear G h1 hF q1 q2 q3 e0 e1 hL hm hmL hL9
  generalize (List.map (fun i => 3 + i) (List.range (e - 3))).map (fun k : Nat => D.int (k : Int)) = rl at *
  generalize E__law_falls_1 = E1 at *
  generalize L__law_falls_1 = L1 at *
  generalize lcs st.length L = ll at *
  generalize ws.map D.str = wl at *
  generalize st ++ List.replicate L (.o (.l [])) = st1 at *
  generalize ((many : Nat) : Int) = m1 at *
  generalize ((ns.length : Nat) : Int) = n1 at *
  generalize D.scr ns = nd at *
  generalize ((e : Nat) : Int) = ei at *
  simp (maxSteps := 30000) (disch := first | assumption | (simp; done) | omega | (simp; omega)) [hnd, gl, em, ll, dl, he, r0, r1, rg, e2]
end
end M

/-! ### the plain law of roads: fl tells on which a name falls back, T are the names there -/
namespace Rd
abbrev Wd : Type := List Nat
section
variable (fl : Wd → List Wd) (T : List Wd)
/-- of those that these fall back on, the first that is not there yet -/
def nx (dn : List Wd) : Option Wd := (dn.flatMap fl).find? fun w => decide (w ∈ T) && !decide (w ∈ dn)
/-- one name's are gone through -/
def put : List Wd → List Wd → List Wd
  | found, [] => found
  | found, w :: r => if w ∈ T ∧ w ∉ found then put (found ++ [w]) r else put found r
def road : Nat → List Wd → Nat → List Wd
  | 0, found, _ => found
  | k + 1, found, here => match found[here]? with
    | some w => road k (put T found (fl w)) (here + 1)
    | none => found
/-- each one but the first is the next of those ahead -/
def Gd (found : List Wd) : Prop := ∀ k w, 0 < k → found[k]? = some w → nx fl T (found.take k) = some w
structure Iv (found : List Wd) : Prop where
  nd : found.Nodup
  sub : ∀ w ∈ found, w ∈ T
  gd : Gd fl T found
end
section
variable {fl : Wd → List Wd} {T : List Wd}
theorem Iv.snoc {found : List Wd} {w : Wd} (h : Iv fl T found) (hw : w ∈ T) (hn : w ∉ found) (e : nx fl T found = some w) : Iv fl T (found ++ [w]) := by
  refine ⟨?_, fun y hy => (List.mem_append.mp hy).elim (h.sub y) fun q => by rw [List.mem_singleton.mp q]; exact hw, fun k y hk hy => ?_⟩
  · rw [List.nodup_append]
    exact ⟨h.nd, by simp, fun a ha b hb => by rw [List.mem_singleton] at hb; subst hb; exact fun z => hn (z ▸ ha)⟩
  · by_cases hl : k < found.length
    · rw [List.getElem?_append_left hl] at hy
      rw [List.take_append_of_le_length (by omega)]
      exact h.gd k y hk hy
    · have hlt := (List.getElem?_eq_some_iff.mp hy).1
      rw [List.length_append, List.length_singleton] at hlt
      have hk2 : k = found.length := by omega
      subst hk2
      rw [List.take_left]
      rw [List.getElem?_append_right (Nat.le_refl _), Nat.sub_self] at hy
      cases hy
      exact e
/-- those ahead of a place have all that they fall back on -/
def Dn (fl : Wd → List Wd) (T found : List Wd) (here : Nat) : Prop := ∀ j v, j < here → found[j]? = some v → ∀ w ∈ fl v, w ∈ T → w ∈ found
theorem find_skip {α : Type} {p : α → Bool} : ∀ {a b : List α}, (∀ x ∈ a, p x = false) → (a ++ b).find? p = b.find? p
  | [], _, _ => rfl
  | x :: r, b, h => by
    rw [List.cons_append, List.find?_cons, h x (List.mem_cons_self ..)]
    exact find_skip fun y hy => h y (List.mem_cons_of_mem _ hy)
theorem nx_here {found : List Wd} {here : Nat} {v : Wd} {pre r : List Wd} {w : Wd} (hd : Dn fl T found here) (hv : found[here]? = some v) (hf : fl v = pre ++ w :: r) (hp : ∀ y ∈ pre, y ∈ T → y ∈ found) (hw : w ∈ T) (hn : w ∉ found) : nx fl T found = some w := by
  have hl := (List.getElem?_eq_some_iff.mp hv).1
  have ev := (List.getElem?_eq_some_iff.mp hv).2
  have e : found = found.take here ++ v :: found.drop (here + 1) := by
    rw [← ev, List.getElem_cons_drop, List.take_append_drop]
  have q : ∀ y : Wd, (y ∈ T → y ∈ found) → (decide (y ∈ T) && !decide (y ∈ found)) = false := fun y h => by
    by_cases hy : y ∈ T
    · simp [hy, h hy]
    · simp [hy]
  unfold nx
  have e2 : found.flatMap fl = (found.take here).flatMap fl ++ (pre ++ (w :: r ++ (found.drop (here + 1)).flatMap fl)) := by
    conv => lhs; rw [e]
    rw [List.flatMap_append, List.flatMap_cons, hf]; simp
  rw [e2, find_skip, find_skip]
  · rw [List.cons_append, List.find?_cons]
    simp [hw, hn]
  · exact fun y hy => q y (hp y hy)
  · intro y hy
    rw [List.mem_flatMap] at hy
    obtain ⟨u, hu, hy⟩ := hy
    obtain ⟨j, hj⟩ := List.getElem?_of_mem hu
    have hj2 : j < here := by have := (List.getElem?_eq_some_iff.mp hj).1; rw [List.length_take] at this; omega
    rw [List.getElem?_take_of_lt hj2] at hj
    exact q y (hd j u hj2 hj y hy)
theorem Dn.more {found : List Wd} {here : Nat} {w : Wd} (h : Dn fl T found here) (hh : here ≤ found.length) : Dn fl T (found ++ [w]) here := fun j v hj hv y hy hT => by
  rw [List.getElem?_append_left (by omega)] at hv
  exact List.mem_append_left _ (h j v hj hv y hy hT)
theorem put_ok {here : Nat} {v : Wd} : ∀ (r pre found : List Wd), Iv fl T found → Dn fl T found here → found[here]? = some v → fl v = pre ++ r → (∀ y ∈ pre, y ∈ T → y ∈ found) → Iv fl T (put T found r) ∧ Dn fl T (put T found r) (here + 1) ∧ found <+: put T found r
  | [], pre, found, h, hd, hv, hf, hp => by
    refine ⟨h, fun j u hj hu y hy hT => ?_, List.prefix_refl _⟩
    by_cases z : j < here
    · exact hd j u z hu y hy hT
    · have : j = here := by omega
      subst this
      have hu : found[j]? = some u := hu
      rw [hv] at hu; cases hu
      rw [List.append_nil] at hf
      rw [hf] at hy
      exact hp y hy hT
  | w :: r, pre, found, h, hd, hv, hf, hp => by
    have hl := (List.getElem?_eq_some_iff.mp hv).1
    rw [put]
    by_cases c : w ∈ T ∧ w ∉ found
    · rw [if_pos c]
      obtain ⟨a, b, d⟩ := put_ok r (pre ++ [w]) (found ++ [w]) (h.snoc c.1 c.2 (nx_here hd hv hf hp c.1 c.2)) (hd.more (by omega)) (by rw [List.getElem?_append_left hl]; exact hv) (by rw [hf]; simp)
        (fun y hy hT => (List.mem_append.mp hy).elim (fun q => List.mem_append_left _ (hp y q hT)) fun q => List.mem_append_right _ q)
      exact ⟨a, b, List.IsPrefix.trans (List.prefix_append _ _) d⟩
    · rw [if_neg c]
      exact put_ok r (pre ++ [w]) found h hd hv (by rw [hf]; simp) fun y hy hT => (List.mem_append.mp hy).elim (fun q => hp y q hT) fun q => by
        rw [List.mem_singleton] at q
        subst q
        exact Classical.byContradiction fun z => c ⟨hT, z⟩
theorem len_sub : ∀ (a b : List Wd), a.Nodup → (∀ x ∈ a, x ∈ b) → a.length ≤ b.length
  | [], b, _, _ => Nat.zero_le _
  | x :: r, b, nd, h => by
    rw [List.nodup_cons] at nd
    have hx := h x (List.mem_cons_self ..)
    have := len_sub r (b.erase x) nd.2 fun y hy => (List.mem_erase_of_ne (fun z : y = x => nd.1 (z ▸ hy))).mpr (h y (List.mem_cons_of_mem _ hy))
    rw [List.length_erase_of_mem hx] at this
    have := List.length_pos_of_mem hx
    rw [List.length_cons]; omega
/-- the road at its end -/
theorem road_ok : ∀ (k : Nat) (found : List Wd) (here : Nat), Iv fl T found → Dn fl T found here → here ≤ found.length → T.length < here + k → Iv fl T (road fl T k found here) ∧ nx fl T (road fl T k found here) = none ∧ found <+: road fl T k found here
  | 0, found, here, h, hd, hh, hk => by
    have := len_sub found T h.nd h.sub
    omega
  | k + 1, found, here, h, hd, hh, hk => by
    rw [road]
    cases hv : found[here]? with
    | none =>
      have hl : here = found.length := by have := List.getElem?_eq_none_iff.mp hv; omega
      dsimp only
      refine ⟨h, ?_, List.prefix_refl _⟩
      unfold nx
      rw [List.find?_eq_none]
      intro y hy
      rw [List.mem_flatMap] at hy
      obtain ⟨u, hu, hy⟩ := hy
      obtain ⟨j, hj⟩ := List.getElem?_of_mem hu
      have hj2 : j < here := by have := (List.getElem?_eq_some_iff.mp hj).1; omega
      by_cases hT : y ∈ T
      · simp [hd j u hj2 hj y hy hT]
      · simp [hT]
    | some v =>
      dsimp only
      obtain ⟨a, b, d⟩ := put_ok (fl v) [] found h hd hv rfl (by simp)
      have hl := (List.getElem?_eq_some_iff.mp hv).1
      have hle := d.length_le
      obtain ⟨e1, e2, e3⟩ := road_ok k (put T found (fl v)) (here + 1) a b (by omega) (by omega)
      exact ⟨e1, e2, List.IsPrefix.trans d e3⟩
theorem Iv.one {w : Wd} (hw : w ∈ T) : Iv fl T [w] := ⟨by simp, fun y hy => by rw [List.mem_singleton.mp hy]; exact hw, fun k y hk hy => by
  have := (List.getElem?_eq_some_iff.mp hy).1
  rw [List.length_singleton] at this; omega⟩
end
end Rd

namespace M
open PySem PySem.Spec PyProof.Rows L2 DL
theorem vwK_i {β : Type} {S : Sls} {st : Store} {n c : Nat} {es : List (Nat × D)} (h : st[n]? = some (.i c es)) (k : D → β) (z : β) : vwK S st (.h n) k z = k (.obj c es) := by
  simp only [vwK, vw, h]; rfl
theorem vwK_j {β : Type} {S : Sls} {st : Store} {n c : Nat} {es : List (Nat × D)} (h : st[n]? = some (.i c es)) (k : D → β) (z : β) : vwK S st (hnd (.loc n)) k z = k (.obj c es) := vwK_i h k z
abbrev cH : Nat := 311107613541
abbrev cT : Nat := 92837570377061
abbrev fN : Nat := 1851878757
abbrev fF : Nat := 439721159795
abbrev fB : Nat := 27717998498377061
abbrev mAdd : Nat := 6382692
abbrev mNamed : Nat := 36034973274040279466295256420
abbrev mAll : Nat := 32773617271268723
/-- a house's fields, its dict of tongues at n -/
def fsH (a b c : List D) (n : Nat) : List (Nat × D) := [(7739838811990028151, .lst a), (8241990200506609527, .lst b), (2147345978593069133687, .lst c), (27717998498377061, .loc n), (140728466053075387167569011, .dic []), (7234297693583074660, .dic []), (135897410560948860992451173, .dic [])]
def fsT (w f r j g c y : D) : List (Nat × D) := [(1851878757, w), (439721159795, f), (491596309875, r), (29958846145720947, j), (28826340697466227, g), (7161124065395368306, c), (28254671708582509, y)]
theorem hinit_ok (a b c : List D) (st : Store) (n : Nat) (hn : st.length = n) : c_House___init__ [.loc n, .lst a, .lst b, .lst c] (st ++ [.i cH []]) = .ok .non [] (st ++ [.i cH (fsH a b c (n + 1)), .o (.k [])]) := by
  have gA : ∀ l, (st ++ [Ob.i cH l])[n]? = some (.i cH l) := fun l => by rw [← hn]; exact app_last _ _
  have sA : ∀ l m, (st ++ [Ob.i cH l]).set n (.i cH m) = st ++ [.i cH m] := fun l m => by rw [← hn]; exact set_last _ _ _
  have lA : ∀ l, (st ++ [Ob.i cH l]).length = n + 1 := fun l => by simp [hn]
  have gB : ∀ l, (st ++ [Ob.i cH l, Ob.o (.k [])])[n]? = some (.i cH l) := fun l => by
    rw [show [Ob.i cH l, Ob.o (.k [])] = [Ob.i cH l] ++ [Ob.o (.k [])] from rfl, ← List.append_assoc]; exact app_get (gA l) _
  have sB : ∀ l m, (st ++ [Ob.i cH l, Ob.o (.k [])]).set n (.i cH m) = st ++ [Ob.i cH m, Ob.o (.k [])] := fun l m => by
    rw [show [Ob.i cH l, Ob.o (.k [])] = [Ob.i cH l] ++ [Ob.o (.k [])] from rfl, ← List.append_assoc, List.set_append_left _ _ (by rw [lA]; omega), sA, List.append_assoc]; rfl
  have d : ∀ l : List D, dListF [.lst l] = some (.l l) := fun _ => rfl
  rw [c_House___init__, runB_k, b_House___init__]
  clear hn
  simp (maxSteps := 30000) (disch := first | assumption | (simp; done) | omega | (simp; omega)) [gA, sA, lA, gB, sB, d, putD', fsH, Ow.d]
theorem tinit_ok (w : Wd) (f : List D) (m n : Nat) (r j g c y : D) (st : Store) (hn : st.length = n) (hm : st[m]? = some (.o (.l f))) : c_Tongue___init__ [.loc n, .str w, .loc m, r, j, g, c, y] (st ++ [.i cT []]) = .ok .non [] (st ++ [.i cT (fsT (.str w) (.lst f) r j g c y)]) := by
  have gA : ∀ l, (st ++ [Ob.i cT l])[n]? = some (.i cT l) := fun l => by rw [← hn]; exact app_last _ _
  have sA : ∀ l m, (st ++ [Ob.i cT l]).set n (.i cT m) = st ++ [.i cT m] := fun l m => by rw [← hn]; exact set_last _ _ _
  have gM : ∀ l, (st ++ [Ob.i cT l])[m]? = some (.o (.l f)) := fun l => app_get hm _
  have d : ∀ l : List D, dListF [.lst l] = some (.l l) := fun _ => rfl
  rw [c_Tongue___init__, runB_k, b_Tongue___init__]
  clear hn hm
  generalize D.str w = wd at *
  simp (maxSteps := 30000) (disch := first | assumption | (simp; done) | omega | (simp; omega)) [gA, sA, gM, d, putD', fsT, Ow.d]
/-- a tongue's fields as the law makes it -/
def tF (w : Wd) (f : List D) : List (Nat × D) := fsT (.str w) (.lst f) (.lst [.tup [.str [97, 110, 121], .non]]) (.tup [.str [], .str [32], .str [32], .str [32]]) (.tup [.int 3, .int 3, .str [44], .str [45], .str [48, 49, 50, 51, 52, 53, 54, 55, 56, 57]]) (.tup [.lst [.int 30], .int 1, .tup [.str [111, 114], .lst []]]) (.tup [.str [100, 109, 121], .str [46], .non])
theorem tongue_ok (w : Wd) (f : List D) (m : Nat) (st : Store) (hm : st[m]? = some (.o (.l f))) : c__law_tongue [.str w, .loc m] st = .ok (.loc st.length) [] (st ++ [.i cT (tF w f)]) := by
  have e := tinit_ok w f m st.length (.lst [.tup [.str [97, 110, 121], .non]]) (.tup [.str [], .str [32], .str [32], .str [32]]) (.tup [.int 3, .int 3, .str [44], .str [45], .str [48, 49, 50, 51, 52, 53, 54, 55, 56, 57]]) (.tup [.lst [.int 30], .int 1, .tup [.str [111, 114], .lst []]]) (.tup [.str [100, 109, 121], .str [46], .non]) st rfl hm
  have hf : fsT (.str w) (.lst f) (.lst [.tup [.str [97, 110, 121], .non]]) (.tup [.str [], .str [32], .str [32], .str [32]]) (.tup [.int 3, .int 3, .str [44], .str [45], .str [48, 49, 50, 51, 52, 53, 54, 55, 56, 57]]) (.tup [.lst [.int 30], .int 1, .tup [.str [111, 114], .lst []]]) (.tup [.str [100, 109, 121], .str [46], .non]) = tF w f := rfl
  rw [hf] at e
  rw [c__law_tongue, runB_k, b__law_tongue]
  clear hm hf
  generalize tF w f = tf at *
  generalize D.str w = wd at *
  simp (maxSteps := 30000) (disch := first | assumption | (simp; done) | omega | (simp; omega)) [e, Ow.d]
/-- a house of the store: its dict at n, its tongues (name, place), on which each falls back -/
def eD (e : Wd × Nat) : D × D := (.str e.1, .loc e.2)
structure Hs (st : Store) (h n : Nat) (en : List (Wd × Nat)) (fl : Wd → List Wd) : Prop where
  hs : ∃ a b c, st[h]? = some (.i cH (fsH a b c n))
  dc : st[n]? = some (.o (.k (en.map eD)))
  nd : (en.map (·.1)).Nodup
  tg : ∀ e ∈ en, st[e.2]? = some (.i cT (tF e.1 ((fl e.1).map D.str)))
theorem Hs.pu {st : Store} {h n m : Nat} {en : List (Wd × Nat)} {fl : Wd → List Wd} {p : Pu} (H : Hs st h n en fl) (hm : st[m]? = some p.o) (q : Pu) : Hs (st.set m q.o) h n en fl := by
  obtain ⟨a, b, c, h0⟩ := H.hs
  refine ⟨⟨a, b, c, ?_⟩, ?_, H.nd, fun e he => ?_⟩
  · rw [List.getElem?_set_ne]; exact h0
    intro z; subst z; rw [h0] at hm; cases hm
  · rw [List.getElem?_set_ne]; exact H.dc
    intro z; subst z; rw [H.dc] at hm; cases hm
  · rw [List.getElem?_set_ne]; exact H.tg e he
    intro z; have := H.tg e he; rw [← z, hm] at this; cases this
theorem Hs.app {st : Store} {h n : Nat} {en : List (Wd × Nat)} {fl : Wd → List Wd} (H : Hs st h n en fl) (x : List Ob) : Hs (st ++ x) h n en fl := by
  obtain ⟨a, b, c, h0⟩ := H.hs
  exact ⟨⟨a, b, c, app_get h0 x⟩, app_get H.dc x, H.nd, fun e he => app_get (H.tg e he) x⟩
theorem look_e (w : Wd) : ∀ en : List (Wd × Nat), (lookD (en.map eD) (.str w)) = ((en.find? fun e => decide (e.1 = w)).map fun e => D.loc e.2)
  | [] => rfl
  | e :: r => by
    have ih := look_e w r
    rw [List.map_cons, eD, lookD_c, List.find?_cons]
    by_cases z : e.1 = w
    · have : kEq (.str e.1) (.str w) = true := by simp [kEq, z]
      rw [this]; simp [z]
    · have : kEq (.str e.1) (.str w) = false := by simp [kEq, z]
      rw [this]; simp [z, ih]
theorem look_out {w : Wd} {en : List (Wd × Nat)} (h : w ∉ en.map (·.1)) : lookD (en.map eD) (.str w) = none := by
  rw [look_e, List.find?_eq_none.mpr]; rfl
  intro e he z
  exact h (List.mem_map.mpr ⟨e, he, by simpa using z⟩)
theorem look_in {w : Wd} {en : List (Wd × Nat)} (h : w ∈ en.map (·.1)) : ∃ t, (w, t) ∈ en ∧ lookD (en.map eD) (.str w) = some (.loc t) := by
  rw [look_e]
  cases hf : en.find? fun e => decide (e.1 = w) with
  | none =>
    obtain ⟨e, he, z⟩ := List.mem_map.mp h
    have := List.find?_eq_none.mp hf e he
    simp [z] at this
  | some e =>
    have h1 := List.mem_of_find?_eq_some hf
    have h2 := List.find?_some hf
    simp at h2
    obtain ⟨v, t⟩ := e
    have h2 : v = w := h2
    subst h2
    exact ⟨t, h1, rfl⟩
theorem put_e {w : Wd} {en : List (Wd × Nat)} (h : w ∉ en.map (·.1)) (t : Nat) : putD (en.map eD) (.str w) (.loc t) = (en ++ [(w, t)]).map eD := by
  unfold putD
  rw [if_neg, List.map_append]; rfl
  rw [List.any_eq_true]
  rintro ⟨x, hx, hk⟩
  obtain ⟨e, he, rfl⟩ := List.mem_map.mp hx
  refine h (List.mem_map.mpr ⟨e, he, ?_⟩)
  simpa [eD, kEq] using hk
theorem fH_B (a b c : List D) (n : Nat) : List.lookup 27717998498377061 (fsH a b c n) = some (.loc n) := rfl
theorem fH_a (a b c : List D) (n : Nat) : List.lookup 6382692 (fsH a b c n) = none := rfl
theorem fH_n (a b c : List D) (n : Nat) : List.lookup 36034973274040279466295256420 (fsH a b c n) = none := rfl
theorem fH_t (a b c : List D) (n : Nat) : List.lookup 32773617271268723 (fsH a b c n) = none := rfl
theorem fT_n (w : Wd) (f : List D) : List.lookup 1851878757 (tF w f) = some (.str w) := rfl
theorem fT_f (w : Wd) (f : List D) : List.lookup 439721159795 (tF w f) = some (.lst f) := rfl
section
variable {st : Store} {h n : Nat} {en : List (Wd × Nat)} {fl : Wd → List Wd}
theorem add_ok (H : Hs st h n en fl) (hl : en.length ≤ 1000) {w : Wd} (hw : w ∉ en.map (·.1)) {t : Nat} (ht : st[t]? = some (.i cT (tF w ((fl w).map D.str)))) :
    t_add 1 cH [.loc h, .loc t] st = .ok .non [] (st.set n (.o (.k ((en ++ [(w, t)]).map eD)))) ∧ Hs (st.set n (.o (.k ((en ++ [(w, t)]).map eD)))) h n (en ++ [(w, t)]) fl := by
  obtain ⟨a, b, c, h0⟩ := H.hs
  have h1 := H.dc
  constructor
  · have l1 := look_out hw
    have p1 := put_e hw t
    have k1 : isKey (.str w) = true := rfl
    have le : (en.map eD).length < 16777216 := by rw [List.length_map]; omega
    have f1 := fH_B a b c n
    have f2 := fT_n w ((fl w).map D.str)
    rw [t_add_House, runB_k, b_House_add]
    clear H hw hl
    generalize fsH a b c n = fs at *
    generalize tF w ((fl w).map D.str) = tf at *
    generalize D.str w = wd at *
    generalize (en ++ [(w, t)]).map eD = el2 at *
    generalize en.map eD = el at *
    simp (maxSteps := 30000) (disch := first | assumption | (simp; done) | omega | (simp; omega)) [↓vwK_j h0, ↓vwK_j ht, h1, f1, f2, l1, p1, k1, le, dFld, dInK, Ow.d]
  · refine ⟨⟨a, b, c, ?_⟩, List.getElem?_set_self (List.getElem?_eq_some_iff.mp h1).1, ?_, fun e he => ?_⟩
    · rw [List.getElem?_set_ne]; exact h0
      intro z; subst z; rw [h0] at h1; cases h1
    · rw [List.map_append, List.nodup_append]
      exact ⟨H.nd, by simp, fun x hx y hy => by
        rw [List.map_cons, List.map_nil, List.mem_singleton] at hy
        subst hy
        exact fun z => hw (z ▸ hx)⟩
    · rw [List.getElem?_set_ne]
      · rcases List.mem_append.mp he with q | q
        · exact H.tg e q
        · rw [List.mem_singleton] at q; subst q; exact ht
      · intro z
        rcases List.mem_append.mp he with q | q
        · have := H.tg e q; rw [← z, h1] at this; cases this
        · rw [List.mem_singleton] at q; subst q
          have z : n = t := z
          rw [← z, h1] at ht; cases ht
theorem named_ok (H : Hs st h n en fl) {w : Wd} (hw : w ∈ en.map (·.1)) : ∃ t, t_tongue_named 1 cH [.loc h, .str w] st = .ok (.loc t) [] st ∧ st[t]? = some (.i cT (tF w ((fl w).map D.str))) := by
  obtain ⟨a, b, c, h0⟩ := H.hs
  have h1 := H.dc
  obtain ⟨t, ht, l1⟩ := look_in hw
  refine ⟨t, ?_, H.tg _ ht⟩
  have k1 : isKey (.str w) = true := rfl
  have f1 := fH_B a b c n
  rw [t_tongue_named_House, runB_k, b_House_tongue_named]
  clear H hw ht
  generalize fsH a b c n = fs at *
  generalize D.str w = wd at *
  generalize en.map eD = el at *
  simp (maxSteps := 30000) (disch := first | assumption | (simp; done) | omega | (simp; omega)) [↓vwK_j h0, h1, f1, l1, k1, dFld, dNotInK, dGetK, Ow.d]
theorem named_no (H : Hs st h n en fl) {w : Wd} (hw : w ∉ en.map (·.1)) : t_tongue_named 1 cH [.loc h, .str w] st = .exc ⟨5651828894943638885, []⟩ [] st := by
  obtain ⟨a, b, c, h0⟩ := H.hs
  have h1 := H.dc
  have l1 := look_out hw
  have k1 : isKey (.str w) = true := rfl
  have f1 := fH_B a b c n
  rw [t_tongue_named_House, runB_k, b_House_tongue_named]
  clear H hw
  generalize fsH a b c n = fs at *
  generalize D.str w = wd at *
  generalize en.map eD = el at *
  simp (maxSteps := 30000) (disch := first | assumption | (simp; done) | omega | (simp; omega)) [↓vwK_j h0, h1, f1, l1, k1, dFld, dNotInK, dGetK, Ow.d]
end
end M

namespace M
open PySem PySem.Spec PyProof.Rows L2 DL
/-- on which a name falls back -/
def flO (ws : List Wd) (fc : List (List Wd)) (w : Wd) : List Wd := (fc[ws.idxOf w]?).getD []
theorem flO_at {ws : List Wd} {fc : List (List Wd)} (nd : ws.Nodup) {k : Nat} {w : Wd} {f : List Wd} (hw : ws[k]? = some w) (hf : fc[k]? = some f) : flO ws fc w = f := by
  obtain ⟨h1, h2⟩ := List.getElem?_eq_some_iff.mp hw
  have : ws.idxOf w = k := by rw [← h2]; exact List.Nodup.idxOf_getElem nd k h1
  unfold flO; rw [this, hf]; rfl
theorem Fr.pu {b m : Nat} {fc : List (List Wd)} {st : Store} {p : Pu} (H : Fr b fc st) (hm : st[m]? = some p.o) (q : Pu) : Fr b fc (st.set m q.o) := fun i f hf => by
  have := H i f hf
  rw [List.getElem?_set_ne]; exact this
  intro z
  rw [← z, hm] at this
  obtain ⟨x, o⟩ := p
  cases f with
  | nil => cases this
  | cons c r => cases this
theorem Fr.app {b : Nat} {fc : List (List Wd)} {st : Store} (H : Fr b fc st) (x : List Ob) : Fr b fc (st ++ x) := fun i f hf => app_get (H i f hf) x
theorem Fr.dic {b n : Nat} {fc : List (List Wd)} {st : Store} {es es' : List (D × D)} (H : Fr b fc st) (hn : st[n]? = some (.o (.k es))) : Fr b fc (st.set n (.o (.k es'))) := fun i f hf => by
  have := H i f hf
  rw [List.getElem?_set_ne]; exact this
  intro z; rw [← z, hn] at this; cases this
theorem map_erase {α β : Type} (f : α → β) : ∀ (l : List α) (i : Nat), (l.map f).eraseIdx i = (l.eraseIdx i).map f
  | [], _ => rfl
  | x :: r, 0 => rfl
  | x :: r, i + 1 => by
    show f x :: (r.map f).eraseIdx i = f x :: (r.eraseIdx i).map f
    rw [map_erase f r i]
theorem erase_mem {l : List Nat} (nd : l.Nodup) {v : Nat} {k : Nat} (h : l[v]? = some k) : (l.eraseIdx v).Nodup ∧ k ∉ l.eraseIdx v ∧ ∀ x, x ∈ l ↔ x = k ∨ x ∈ l.eraseIdx v := by
  obtain ⟨h1, h2⟩ := List.getElem?_eq_some_iff.mp h
  have e : l = l.take v ++ k :: l.drop (v + 1) := by rw [← h2, List.getElem_cons_drop, List.take_append_drop]
  have ee : l.eraseIdx v = l.take v ++ l.drop (v + 1) := List.eraseIdx_eq_take_drop_succ ..
  rw [ee]
  generalize l.take v = a at *
  generalize l.drop (v + 1) = b at *
  subst e
  rw [List.nodup_append] at nd
  obtain ⟨n1, n2, n3⟩ := nd
  rw [List.nodup_cons] at n2
  refine ⟨?_, ?_, fun x => ?_⟩
  · rw [List.nodup_append]
    exact ⟨n1, n2.2, fun x hx y hy => n3 x hx y (List.mem_cons_of_mem _ hy)⟩
  · rw [List.mem_append, not_or]
    exact ⟨fun z => n3 k z k (List.mem_cons_self ..) rfl, n2.1⟩
  · simp only [List.mem_append, List.mem_cons]
    constructor
    · rintro (q | q | q)
      · exact .inr (.inl q)
      · exact .inl q
      · exact .inr (.inr q)
    · rintro (q | q | q)
      · exact .inr (.inl q)
      · exact .inl q
      · exact .inr (.inr q)
section
variable {ws : List Wd} {many L b : Nat} {fc : List (List Wd)}
theorem house_loop (hL : ws.length = L) (hmL : many ≤ L) (hL9 : L ≤ 100) (nd : ws.Nodup) (hfc : fc.length = L) : ∀ (m : Nat) (ls : List Nat) (p : Pu) (en : List (Wd × Nat)) (st : Store) (h n q : Nat) (x6 : Sl),
    ls.length = m → ls.Nodup → (∀ k ∈ ls, k < many ∧ ∀ w, ws[k]? = some w → w ∉ en.map (·.1)) → en.length + ls.length ≤ 1000 → Hs st h n en (flO ws fc) → Fr b fc st → st[q]? = some p.o →
    ∃ (en' : List (Wd × Nat)) (st' : Store) (y6 : Sl), sW W__law_house_1 L__law_house_1 [.d (.lst (ws.map .str)), .d (.int (many : Nat)), .d (.lst (lcs b L)), .d (.loc q), .d (.loc h), .own (.l (ls.map fun k : Nat => D.int (k : Int))), x6] st =
      .nx [.d (.lst (ws.map .str)), .d (.int (many : Nat)), .d (.lst (lcs b L)), .d (.loc q), .d (.loc h), .own (.l []), y6] st' ∧ Hs st' h n en' (flO ws fc) ∧ Fr b fc st' ∧ (∀ w, w ∈ en'.map (·.1) ↔ w ∈ en.map (·.1) ∨ ∃ k ∈ ls, ws[k]? = some w) ∧ en'.length ≤ 1000
  | 0, ls, p, en, st, h, n, q, x6, hm, _, _, hlen, H, F, hq => by
    have : ls = [] := List.eq_nil_of_length_eq_zero hm
    subst this
    refine ⟨en, st, x6, ?_, H, F, fun w => by simp, by simpa using hlen⟩
    refine sW_false ?_
    have q1 : eqOk (.lst []) = true := rfl
    have d1 : deq (.lst []) (.lst []) = true := by rw [deq_lst]; rfl
    rw [W__law_house_1]
    generalize D.lst (ws.map .str) = wd at *
    generalize D.lst (lcs b L) = ld at *
    simp (maxSteps := 30000) (disch := first | assumption | (simp; done) | omega | (simp; omega)) [q1, d1, Ow.d]
  | m + 1, ls, p, en, st, h, n, q, x6, hm, hnd, hls, hlen, H, F, hq => by
    have hpos : 0 < ls.length := by omega
    obtain ⟨v, p1, ⟨v0, v1⟩, T⟩ := take_ok p (ls.length : Nat) (by omega) (Int.le_trans (show ((ls.length : Nat) : Int) ≤ 1000 by omega) (by decide +kernel))
    obtain ⟨k, hk⟩ : ∃ k, ls[v.toNat]? = some k := ⟨_, List.getElem?_eq_getElem (by omega)⟩
    obtain ⟨hk1, hk2⟩ := hls k (List.mem_of_getElem? hk)
    obtain ⟨w, hw⟩ : ∃ w, ws[k]? = some w := ⟨_, List.getElem?_eq_getElem (by omega)⟩
    obtain ⟨f, hf⟩ : ∃ f, fc[k]? = some f := ⟨_, List.getElem?_eq_getElem (by omega)⟩
    have efl := flO_at nd hw hf
    obtain ⟨en1, en2, en3⟩ := erase_mem hnd hk
    have hwn := hk2 w hw
    have t := T st q hq
    obtain ⟨st1, hs1⟩ : ∃ st1, st.set q p1.o = st1 := ⟨_, rfl⟩
    have hq1 : st1[q]? = some p1.o := by rw [← hs1]; exact pu_set hq p1
    have H1 : Hs st1 h n en (flO ws fc) := by rw [← hs1]; exact H.pu hq p1
    have F1 : Fr b fc st1 := by rw [← hs1]; exact F.pu hq p1
    rw [hs1] at t
    have ft := F1 k f hf
    have tg := tongue_ok w (f.map D.str) (b + k) st1 ft
    obtain ⟨st2, hs2⟩ : ∃ st2, st1 ++ [Ob.i cT (tF w (f.map D.str))] = st2 := ⟨_, rfl⟩
    rw [hs2] at tg
    have H2 : Hs st2 h n en (flO ws fc) := by rw [← hs2]; exact H1.app _
    have F2 : Fr b fc st2 := by rw [← hs2]; exact F1.app _
    have ht2 : st2[st1.length]? = some (.i cT (tF w ((flO ws fc w).map D.str))) := by rw [← hs2, efl]; exact app_last _ _
    have hq2 : st2[q]? = some p1.o := by rw [← hs2]; exact app_get hq1 _
    obtain ⟨ad, H3⟩ := add_ok H2 (by omega) hwn ht2
    have F3 := F2.dic (es' := (en ++ [(w, st1.length)]).map eD) H2.dc
    have hq3 : (st2.set n (.o (.k ((en ++ [(w, st1.length)]).map eD))))[q]? = some p1.o := by
      rw [List.getElem?_set_ne]; exact hq2
      intro z; have := H2.dc; rw [z, hq2] at this; cases this
    obtain ⟨st3, hs3⟩ : ∃ st3, st2.set n (.o (.k ((en ++ [(w, st1.length)]).map eD))) = st3 := ⟨_, rfl⟩
    rw [hs3] at ad H3 F3 hq3
    have hle : (ls.eraseIdx v.toNat).length = m := by rw [List.length_eraseIdx_of_lt (by omega)]; omega
    obtain ⟨en', st', y6, e1, e2, e3, e4, e5⟩ := house_loop hL hmL hL9 nd hfc m (ls.eraseIdx v.toNat) p1 (en ++ [(w, st1.length)]) st3 h n q (.d (.int (k : Int))) hle en1 (fun j hj => by
      obtain ⟨j1, j2⟩ := hls j ((en3 j).mpr (.inr hj))
      refine ⟨j1, fun u hu => ?_⟩
      rw [List.map_append, List.mem_append, not_or]
      refine ⟨j2 u hu, fun z => ?_⟩
      rw [List.map_cons, List.map_nil, List.mem_singleton] at z
      subst z
      have : j = k := by
        obtain ⟨a1, a2⟩ := List.getElem?_eq_some_iff.mp hu
        obtain ⟨b1, b2⟩ := List.getElem?_eq_some_iff.mp hw
        exact nodup_ix nd a1 b1 (a2.trans b2.symm)
      subst this
      exact en2 hj) (by rw [List.length_append, List.length_singleton, hle]; omega) H3 F3 hq3
    refine ⟨en', st', y6, ?_, e2, e3, fun u => ?_, e5⟩
    · have q1 : eqOk (.lst (ls.map fun k : Nat => D.int (k : Int))) = true := eqOk_lst _ (List.all_eq_true.mpr fun x hx => by obtain ⟨y, _, rfl⟩ := List.mem_map.mp hx; rfl)
      have q2 : eqOk (.lst []) = true := rfl
      have d1 : deq (.lst (ls.map fun k : Nat => D.int (k : Int))) (.lst []) = false := by rw [deq_lst]; cases ls with | nil => simp at hpos | cons _ _ => simp
      have hW : W__law_house_1 [.d (.lst (ws.map .str)), .d (.int (many : Nat)), .d (.lst (lcs b L)), .d (.loc q), .d (.loc h), .own (.l (ls.map fun k : Nat => D.int (k : Int))), x6] st = .ok true [.d (.lst (ws.map .str)), .d (.int (many : Nat)), .d (.lst (lcs b L)), .d (.loc q), .d (.loc h), .own (.l (ls.map fun k : Nat => D.int (k : Int))), x6] st := by
        rw [W__law_house_1]
        generalize D.lst (ws.map .str) = wd at *
        generalize D.lst (lcs b L) = ld at *
        generalize (ls.map fun k : Nat => D.int (k : Int)) = ll at *
        simp (maxSteps := 30000) (disch := first | assumption | (simp; done) | omega | (simp; omega)) [q1, q2, d1, Ow.d]
      have dl : dLen [.lst (ls.map fun k : Nat => D.int (k : Int))] = some (.int (ls.length : Nat)) := by simp
      have gk : (ls.map fun k : Nat => D.int (k : Int))[v.toNat]? = some (.int (k : Int)) := by rw [List.getElem?_map, hk]; rfl
      have er : (ls.map fun k : Nat => D.int (k : Int)).eraseIdx v.toNat = (ls.eraseIdx v.toNat).map fun k : Nat => D.int (k : Int) := map_erase _ _ _
      have v2 : v < 1000000 := by omega
      have i1 : dIx (.lst (ws.map D.str)) (.int (k : Int)) = some (.str w) := by simp [atI_nn _ (Int.natCast_nonneg k), hw]
      have i2 : dIx (.lst (lcs b L)) (.int (k : Int)) = some (.loc (b + k)) := by simp [atI_nn _ (Int.natCast_nonneg k), lcs_at (show k < L by omega)]
      obtain ⟨a0, b0, c0, h0⟩ := H1.hs
      have h00 := (H2.hs)
      obtain ⟨a2, b2, c2, h2⟩ := h00
      have fa := fH_a a2 b2 c2 n
      have hB : L__law_house_1 [.d (.lst (ws.map .str)), .d (.int (many : Nat)), .d (.lst (lcs b L)), .d (.loc q), .d (.loc h), .own (.l (ls.map fun k : Nat => D.int (k : Int))), x6] st = .nx [.d (.lst (ws.map .str)), .d (.int (many : Nat)), .d (.lst (lcs b L)), .d (.loc q), .d (.loc h), .own (.l ((ls.eraseIdx v.toNat).map fun k : Nat => D.int (k : Int))), .d (.int (k : Int))] st3 := by
        rw [L__law_house_1]
        have fa1 := fH_a a0 b0 c0 n
        clear e1 e2 e3 e4 H H1 H2 H3 F F1 F2 F3 T hls hlen hm hnd hwn en1 en2 en3 hk hw hf hle hW d1 q1 q2 hk2 hq hq1 hq2 hq3 ht2 hs1 hs2 hs3 ft efl house_loop
        generalize (ls.eraseIdx v.toNat).map (fun k : Nat => D.int (k : Int)) = ll2 at *
        generalize (ls.map fun k : Nat => D.int (k : Int)) = ll at *
        generalize ((ls.length : Nat) : Int) = n1 at *
        generalize D.lst (ws.map .str) = wd at *
        generalize D.lst (lcs b L) = ld at *
        generalize (k : Int) = k0 at *
        generalize b + k = bk at *
        generalize D.str w = w0 at *
        generalize st1.length = t1 at *
        generalize fsH a0 b0 c0 n = fs0 at *
        generalize fsH a2 b2 c2 n = fs2 at *
        simp (maxSteps := 30000) (disch := first | assumption | (simp; done) | omega | (simp; omega)) [dl, t, v0, v2, gk, er, i1, i2, tg, h0, h2, fa, fa1, ad]
      rw [sW_true hW hB]; exact e1
    · rw [e4 u, List.map_append, List.mem_append, List.map_cons, List.map_nil, List.mem_singleton]
      constructor
      · rintro ((z | z) | ⟨j, hj, z⟩)
        · exact .inl z
        · subst z; exact .inr ⟨k, List.mem_of_getElem? hk, hw⟩
        · exact .inr ⟨j, (en3 j).mpr (.inr hj), z⟩
      · rintro (z | ⟨j, hj, z⟩)
        · exact .inl (.inl z)
        · rcases (en3 j).mp hj with y | y
          · subst y; rw [hw] at z; cases z; exact .inl (.inr rfl)
          · exact .inr ⟨j, y, z⟩
/-- the house is made -/
theorem house_ok (hL : ws.length = L) (hm : 1 ≤ many) (hmL : many ≤ L) (hL9 : L ≤ 100) (nd : ws.Nodup) (hfc : fc.length = L) (p : Pu) (st : Store) (q : Nat) (F : Fr b fc st) (hq : st[q]? = some p.o) :
    ∃ (h n : Nat) (en : List (Wd × Nat)) (st' : Store), c__law_house [.lst (ws.map .str), .int (many : Nat), .lst (lcs b L), .loc q] st = .ok (.loc h) [] st' ∧ Hs st' h n en (flO ws fc) ∧ Fr b fc st' ∧ (∀ w, w ∈ en.map (·.1) ↔ w ∈ ws.take many) ∧ en.length ≤ 1000 := by
  have hi := hinit_ok [.str [104, 101]] [.str [108, 111, 119]] [.str [99, 97, 116]] st st.length rfl
  obtain ⟨st1, hs1⟩ : ∃ st1, st ++ [.i cH (fsH [.str [104, 101]] [.str [108, 111, 119]] [.str [99, 97, 116]] (st.length + 1)), .o (.k [])] = st1 := ⟨_, rfl⟩
  rw [hs1] at hi
  have F1 : Fr b fc st1 := by rw [← hs1]; exact F.app _
  have hq1 : st1[q]? = some p.o := by rw [← hs1]; exact app_get hq _
  have H1 : Hs st1 st.length (st.length + 1) [] (flO ws fc) := by
    refine ⟨⟨[.str [104, 101]], [.str [108, 111, 119]], [.str [99, 97, 116]], ?_⟩, ?_, by simp, fun e he => by cases he⟩
    · rw [← hs1]; simp
    · rw [← hs1]; simp
  have er : rng many 0 = (List.range many).map fun k : Nat => D.int (k : Int) := by
    unfold rng
    exact List.map_congr_left fun i _ => by rw [Int.zero_add]
  obtain ⟨en, st', y6, e1, e2, e3, e4, e5⟩ := house_loop (b := b) hL hmL hL9 nd hfc many (List.range many) p [] st1 st.length (st.length + 1) q .no (by simp) List.nodup_range (fun k hk => ⟨List.mem_range.mp hk, fun w _ => by simp⟩) (by simp; omega) H1 F1 hq1
  rw [← er] at e1
  refine ⟨st.length, st.length + 1, en, st', ?_, e2, e3, fun w => ?_, e5⟩
  · have r0 : -1000000 ≤ ((many : Nat) : Int) := by omega
    have r1 : ((many : Nat) : Int) ≤ 1000000 := by omega
    have r2 : ((many : Nat) : Int).toNat = many := Int.toNat_natCast _
    rw [c__law_house, runB_k, b__law_house]
    clear e2 e3 e4 e5 H1 F1 hq1 hs1 er F hq
    generalize W__law_house_1 = WW at *
    generalize L__law_house_1 = LL at *
    generalize D.lst (ws.map .str) = wd at *
    generalize D.lst (lcs b L) = ld at *
    generalize ((many : Nat) : Int) = m1 at *
    simp (maxSteps := 30000) (disch := first | assumption | (simp; done) | omega | (simp; omega)) [hi, r0, r1, r2, e1, Ow.d]
  · rw [e4 w]
    simp only [List.map_nil, List.not_mem_nil, false_or]
    constructor
    · rintro ⟨k, hk, z⟩
      rw [List.mem_range] at hk
      have : (ws.take many)[k]? = some w := by rw [List.getElem?_take_of_lt hk]; exact z
      exact List.mem_of_getElem? this
    · intro z
      obtain ⟨k, hk⟩ := List.getElem?_of_mem z
      have hk2 : k < many := by have := (List.getElem?_eq_some_iff.mp hk).1; rw [List.length_take] at this; omega
      rw [List.getElem?_take_of_lt hk2] at hk
      exact ⟨k, List.mem_range.mpr hk2, hk⟩
end
end M

namespace M
open PySem PySem.Spec PyProof.Rows L2 DL
section
variable {h n : Nat} {en : List (Wd × Nat)} {fl : Wd → List Wd}
theorem all_ok {st : Store} (H : Hs st h n en fl) (hl : en.length < 64) : t_tongues 1 cH [.loc h] st = .ok (.lst ((srtT (en.map (·.1))).map D.str)) [] st := by
  obtain ⟨a, b, c, h0⟩ := H.hs
  have h1 := H.dc
  have f1 := fH_B a b c n
  have e1 : (en.map eD).map (·.1) = (en.map (·.1)).map D.str := by rw [List.map_map, List.map_map]; rfl
  have s1 : dSortF [.dic (en.map eD)] = some (.l ((srtT (en.map (·.1))).map D.str)) := by
    unfold dSortF
    dsimp only
    rw [e1, DL.strs_map]
    dsimp only
    rw [if_pos ⟨by rw [List.length_map]; exact hl, H.nd⟩]
  rw [t_tongues_House, runB_k, b_House_tongues]
  clear H hl e1
  generalize fsH a b c n = fs at *
  generalize (srtT (en.map (·.1))).map D.str = tl at *
  generalize en.map eD = el at *
  simp (maxSteps := 30000) (disch := first | assumption | (simp; done) | omega | (simp; omega)) [↓vwK_j h0, h1, f1, s1, dFld, Ow.d]
variable {T Ts : List Wd} (hT : ∀ w, w ∈ Ts ↔ w ∈ T)
theorem in_loop (s0 s1 : D) (st : Store) (here : D) (hT : ∀ w, w ∈ Ts ↔ w ∈ T) : ∀ (r found : List Wd) (x5 : Sl), found.length + r.length ≤ 100000 → ∃ y5, forL (gV 5) L_road_1 (r.map .str) [.d s0, .d s1, .d (.lst (Ts.map .str)), .d (.loc st.length), .d here, x5] (st ++ [fO found]) =
    .nx [.d s0, .d s1, .d (.lst (Ts.map .str)), .d (.loc st.length), .d here, y5] (st ++ [fO (Rd.put T found r)])
  | [], found, x5, _ => ⟨x5, rfl⟩
  | w :: r, found, x5, hl => by
    rw [List.length_cons] at hl
    have g0 : (st ++ [fO found])[st.length]? = some (.o (.l (found.map D.str))) := app_last _ _
    have q1 : eqOk (.str w) = true := rfl
    have q2 : eqOk (.lst (Ts.map D.str)) = true := eqOk_lst _ (flat_strs Ts)
    have q3 : eqOk (.lst (found.map D.str)) = true := eqOk_lst _ (flat_strs found)
    have a1 := any_strs w Ts
    have a2 := any_strs w found
    have la : (found.map D.str).length < 16777216 := by rw [List.length_map]; omega
    have eT : decide (w ∈ Ts) = decide (w ∈ T) := by
      by_cases z : w ∈ T
      · rw [decide_eq_true z, decide_eq_true ((hT w).mpr z)]
      · rw [decide_eq_false z, decide_eq_false (fun y => z ((hT w).mp y))]
    rw [eT] at a1
    by_cases hc : w ∈ T ∧ w ∉ found
    · obtain ⟨y5, ih⟩ := in_loop s0 s1 st here hT r (found ++ [w]) (.d (.str w)) (by rw [List.length_append, List.length_singleton]; omega)
      refine ⟨y5, ?_⟩
      have sl : (st ++ [fO found]).set st.length (.o (.l (found.map D.str ++ [.str w]))) = st ++ [fO (found ++ [w])] := by
        rw [set_last]; unfold fO; rw [List.map_append]; rfl
      have b : L_road_1 [.d s0, .d s1, .d (.lst (Ts.map .str)), .d (.loc st.length), .d here, .d (.str w)] (st ++ [fO found]) = .nx [.d s0, .d s1, .d (.lst (Ts.map .str)), .d (.loc st.length), .d here, .d (.str w)] (st ++ [fO (found ++ [w])]) := by
        rw [L_road_1]
        rw [decide_eq_true hc.1] at a1
        rw [decide_eq_false hc.2] at a2
        clear ih hT hl eT hc
        generalize st ++ [fO (found ++ [w])] = st2 at *
        generalize st ++ [fO found] = st1 at *
        generalize Ts.map D.str = tl at *
        generalize found.map D.str = fl' at *
        generalize D.str w = wd at *
        generalize st.length = m at *
        simp (maxSteps := 30000) (disch := first | assumption | (simp; done) | omega | (simp; omega)) [g0, q1, q2, q3, a1, a2, la, sl, Ow.d]
      rw [List.map_cons, forL_c, gV_a, Rd.put, if_pos hc]
      simp only [List.set_cons_succ, List.set_cons_zero, b]
      exact ih
    · obtain ⟨y5, ih⟩ := in_loop s0 s1 st here hT r found (.d (.str w)) (by omega)
      refine ⟨y5, ?_⟩
      have b : L_road_1 [.d s0, .d s1, .d (.lst (Ts.map .str)), .d (.loc st.length), .d here, .d (.str w)] (st ++ [fO found]) = .nx [.d s0, .d s1, .d (.lst (Ts.map .str)), .d (.loc st.length), .d here, .d (.str w)] (st ++ [fO found]) := by
        rw [L_road_1]
        by_cases hw : w ∈ T
        · have hf : w ∈ found := Classical.byContradiction fun z => hc ⟨hw, z⟩
          rw [decide_eq_true hw] at a1
          rw [decide_eq_true hf] at a2
          clear ih hT hl eT hc
          generalize st ++ [fO found] = st1 at *
          generalize Ts.map D.str = tl at *
          generalize found.map D.str = fl' at *
          generalize D.str w = wd at *
          generalize st.length = m at *
          simp (maxSteps := 30000) (disch := first | assumption | (simp; done) | omega | (simp; omega)) [g0, q1, q2, q3, a1, a2, Ow.d]
        · rw [decide_eq_false hw] at a1
          clear ih hT hl eT hc
          generalize st ++ [fO found] = st1 at *
          generalize Ts.map D.str = tl at *
          generalize found.map D.str = fl' at *
          generalize D.str w = wd at *
          generalize st.length = m at *
          simp (maxSteps := 30000) (disch := first | assumption | (simp; done) | omega | (simp; omega)) [g0, q1, q2, q3, a1, Ow.d]
      rw [List.map_cons, forL_c, gV_a, Rd.put, if_neg hc]
      simp only [List.set_cons_succ, List.set_cons_zero, b]
      exact ih
theorem road_loop (s1 : D) {st : Store} (H : Hs st h n en fl) (hT : ∀ w, w ∈ Ts ↔ w ∈ T) (hE : ∀ w, w ∈ T → w ∈ en.map (·.1)) (hfl : ∀ w, (fl w).length ≤ 1000) (hTl : T.length ≤ 1000) : ∀ (k : Nat) (found : List Wd) (here : Nat) (x5 : Sl), Rd.Iv fl T found → Rd.Dn fl T found here → here ≤ found.length → T.length < here + k →
    ∃ y4 y5, sW W_road_1 L_road_2 [.d (.loc h), .d s1, .d (.lst (Ts.map .str)), .d (.loc st.length), .d (.int (here : Nat)), x5] (st ++ [fO found]) = .nx [.d (.loc h), .d s1, .d (.lst (Ts.map .str)), .d (.loc st.length), y4, y5] (st ++ [fO (Rd.road fl T k found here)])
  | 0, found, here, x5, hI, hD, hh, hk => by
    have := Rd.len_sub found T hI.nd hI.sub
    omega
  | k + 1, found, here, x5, hI, hD, hh, hk => by
    have g0 : (st ++ [fO found])[st.length]? = some (.o (.l (found.map D.str))) := app_last _ _
    have dl : dLen [.lst (found.map D.str)] = some (.int (found.length : Nat)) := by simp
    have hW : ∀ b : Bool, (b = decide (here < found.length)) → W_road_1 [.d (.loc h), .d s1, .d (.lst (Ts.map .str)), .d (.loc st.length), .d (.int (here : Nat)), x5] (st ++ [fO found]) = .ok b [.d (.loc h), .d s1, .d (.lst (Ts.map .str)), .d (.loc st.length), .d (.int (here : Nat)), x5] (st ++ [fO found]) := fun b hb => by
      have lt : dLt (.int (here : Nat)) (.int (found.length : Nat)) = some (.bl b) := by
        subst hb
        have : decide (((here : Nat) : Int) < ((found.length : Nat) : Int)) = decide (here < found.length) := by
          by_cases z : here < found.length
          · rw [decide_eq_true z, decide_eq_true (by omega)]
          · rw [decide_eq_false z, decide_eq_false (by omega)]
        simp
      rw [W_road_1]
      clear hb hI hD hh hk H
      generalize st ++ [fO found] = st1 at *
      generalize found.map D.str = fl' at *
      generalize Ts.map D.str = tl at *
      generalize ((here : Nat) : Int) = h0 at *
      generalize ((found.length : Nat) : Int) = h1 at *
      generalize st.length = m at *
      cases b <;> simp (maxSteps := 30000) (disch := first | assumption | (simp; done) | omega | (simp; omega)) [g0, dl, lt, Ow.d]
    rw [Rd.road]
    cases hv : found[here]? with
    | none =>
      have hl : ¬ here < found.length := by have := List.getElem?_eq_none_iff.mp hv; omega
      exact ⟨_, _, sW_false (hW false (decide_eq_false hl).symm)⟩
    | some v =>
      have hl : here < found.length := (List.getElem?_eq_some_iff.mp hv).1
      have hvT := hI.sub v (List.mem_of_getElem? hv)
      obtain ⟨a, b, d⟩ := Rd.put_ok (fl v) [] found hI hD hv rfl (by simp)
      have hle := d.length_le
      obtain ⟨t, nm, ht⟩ := named_ok (H.app [fO found]) (hE v hvT)
      have hfound := Rd.len_sub found T hI.nd hI.sub
      obtain ⟨y5, inn⟩ := in_loop (.loc h) s1 st (.int (here : Nat)) hT (fl v) found x5 (by have := hfl v; omega)
      obtain ⟨z4, z5, ih⟩ := road_loop s1 H hT hE hfl hTl k (Rd.put T found (fl v)) (here + 1) y5 a b (by omega) (by omega)
      have ix : dIx (.lst (found.map D.str)) (.int (here : Nat)) = some (.str v) := by simp [atI_nn _ (Int.natCast_nonneg here), hv]
      obtain ⟨a0, b0, c0, h0⟩ := (H.app [fO found]).hs
      have fn := fH_n a0 b0 c0 n
      have ff := fT_f v ((fl v).map D.str)
      have ad : dAddI (.int (here : Nat)) (.int 1) = some (.int ((here + 1 : Nat) : Int)) := by simp [dAddI, dI0]
      have it : itD (.lst ((fl v).map D.str)) = some ((fl v).map D.str) := rfl
      have hB : L_road_2 [.d (.loc h), .d s1, .d (.lst (Ts.map .str)), .d (.loc st.length), .d (.int (here : Nat)), x5] (st ++ [fO found]) = .nx [.d (.loc h), .d s1, .d (.lst (Ts.map .str)), .d (.loc st.length), .d (.int ((here + 1 : Nat) : Int)), y5] (st ++ [fO (Rd.put T found (fl v))]) := by
        rw [L_road_2]
        clear ih hW hI hD hh hk H hT hE hfl hTl a b d hle hv hl hvT dl
        generalize st ++ [fO (Rd.put T found (fl v))] = st2 at *
        generalize st ++ [fO found] = st1 at *
        generalize found.map D.str = fl' at *
        generalize Ts.map D.str = tl at *
        generalize fsH a0 b0 c0 n = fs at *
        generalize tF v ((fl v).map D.str) = tf at *
        generalize (fl v).map D.str = fv at *
        generalize D.str v = vd' at *
        generalize ((here + 1 : Nat) : Int) = h2 at *
        generalize ((here : Nat) : Int) = hh0 at *
        generalize st.length = m at *
        generalize L_road_1 = L1 at *
        simp (maxSteps := 30000) (disch := first | assumption | (simp; done) | omega | (simp; omega)) [g0, ix, h0, fn, nm, ↓vwK_j ht, ff, it, inn, ad, dFld, Ow.d]
      refine ⟨z4, z5, ?_⟩
      rw [sW_true (hW true (decide_eq_true hl).symm) hB]; exact ih
theorem road_at {st : Store} (H : Hs st h n en fl) (hl : en.length < 64) (hE : ∀ w, w ∈ en.map (·.1) ↔ w ∈ T) (hfl : ∀ w, (fl w).length ≤ 1000) (hTl : T.length ≤ 1000) {w : Wd} (hw : w ∈ T) :
    c_road [.loc h, .str w] st = .ok (.loc st.length) [] (st ++ [fO (Rd.road fl T (T.length + 1) [w] 0)]) := by
  obtain ⟨t, nm, ht⟩ := named_ok H ((hE w).mpr hw)
  have al := all_ok H hl
  obtain ⟨a0, b0, c0, h0⟩ := H.hs
  have fn := fH_n a0 b0 c0 n
  have fa := fH_t a0 b0 c0 n
  obtain ⟨y4, y5, lp⟩ := road_loop (Ts := srtT (en.map (·.1))) (.str w) H (fun u => mem_srtT.trans (hE u)) (fun u hu => (hE u).mpr hu) hfl hTl (T.length + 1) [w] 0 .no (Rd.Iv.one hw) (fun j v hj => by omega) (by simp) (by omega)
  have z0 : ((0 : Nat) : Int) = 0 := rfl
  rw [z0] at lp
  have e1 : fO [w] = .o (.l [.str w]) := rfl
  rw [e1] at lp
  rw [c_road, runB_k, b_road]
  clear H hl hE hfl hTl hw e1 z0
  generalize st ++ [fO (Rd.road fl T (T.length + 1) [w] 0)] = st2 at *
  generalize (srtT (en.map (·.1))).map D.str = tl at *
  generalize fsH a0 b0 c0 n = fs at *
  generalize D.str w = wd at *
  generalize W_road_1 = WW at *
  generalize L_road_2 = LL at *
  simp (maxSteps := 30000) (disch := first | assumption | (simp; done) | omega | (simp; omega)) [h0, fn, fa, nm, al, lp, Ow.d]
theorem road_no {st : Store} (H : Hs st h n en fl) {w : Wd} (hw : w ∉ en.map (·.1)) : c_road [.loc h, .str w] st = .exc ⟨5651828894943638885, []⟩ [] st := by
  have nm := named_no H hw
  obtain ⟨a0, b0, c0, h0⟩ := H.hs
  have fn := fH_n a0 b0 c0 n
  rw [c_road, runB_k, b_road]
  clear H hw
  generalize fsH a0 b0 c0 n = fs at *
  generalize D.str w = wd at *
  generalize W_road_1 = WW at *
  generalize L_road_2 = LL at *
  simp (maxSteps := 30000) (disch := first | assumption | (simp; done) | omega | (simp; omega)) [h0, fn, nm]
theorem refused_ok {st : Store} (H : Hs st h n en fl) {w : Wd} (hw : w ∉ en.map (·.1)) : c__law_refused [.loc h, .str w] st = .ok (.bl true) [] st := by
  have rd := road_no H hw
  have h1 : L__law_refused_1 [.d (.loc h), .d (.str w), .no] st = .exc ⟨5651828894943638885, []⟩ [.d (.loc h), .d (.str w), .no] st := by
    rw [L__law_refused_1]
    clear H hw
    generalize D.str w = wd at *
    simp (maxSteps := 30000) (disch := first | assumption | (simp; done) | omega | (simp; omega)) [rd]
  have xl : xLook xT 5651828894943638885 6008216717068758898 = some true := by decide +kernel
  have x1 : isX xT 5651828894943638885 [(some 5651828894943638885)] = some true := by decide +kernel
  have h3 := sTryA_exc (T := xT) (i := 2) (h := 6008216717068758898) (fs := X__law_refused_1) (o := .ret (.bl true) [.d (.loc h), .d (.str w), .no] st) h1 xl (fun a => by
    have f1 : isE xT a 5651828894943638885 [(some 5651828894943638885)] 2 [.d (.loc h), .d (.str w), .d (.err a 5651828894943638885)] st = .ok (.bl true) [.d (.loc h), .d (.str w), .d (.err a 5651828894943638885)] st := by
      unfold isE
      simp [x1]
    show clr 2 (X__law_refused_1 a 5651828894943638885 [.d (.loc h), .d (.str w), .d (.err a 5651828894943638885)] st) = _
    unfold X__law_refused_1
    generalize isE xT a 5651828894943638885 [(some 5651828894943638885)] 2 = e1 at *
    generalize D.err a 5651828894943638885 = er at *
    generalize D.str w = wd at *
    clear x1 h1 rd
    simp (maxSteps := 30000) (disch := first | assumption | (simp; done) | omega | (simp; omega)) [f1])
  rw [c__law_refused, runB_k, b__law_refused]
  generalize sTryA xT 6008216717068758898 2 L__law_refused_1 X__law_refused_1 = f at *
  generalize D.str w = wd at *
  simp (maxSteps := 30000) (disch := first | assumption | (simp; done) | omega | (simp; omega)) [h3]
end
end M

namespace M
open PySem PySem.Spec PyProof.Rows L2 DL
/-! ### the law's own walk -/
def oS : Option Wd → D
  | none => .non
  | some w => .str w
def fD (fc : List (List Wd)) : D := .lst (fc.map fun f => D.lst (f.map D.str))
section
variable {ws : List Wd} {many : Nat} {fc : List (List Wd)} {st : Store}
theorem nx_in (dn : List Wd) (nm : D) : ∀ (os : List Wd) (x5 : Sl),
    (match os.find? fun w => decide (w ∈ ws.take many) && !decide (w ∈ dn) with
      | some w => ∃ S, forL (gV 5) L__law_next_1 (os.map .str) [.d (.lst (dn.map .str)), .d (.lst (ws.map .str)), .d (.int (many : Nat)), .d (fD fc), .d nm, x5] st = .ret (.str w) S st
      | none => ∃ y5, forL (gV 5) L__law_next_1 (os.map .str) [.d (.lst (dn.map .str)), .d (.lst (ws.map .str)), .d (.int (many : Nat)), .d (fD fc), .d nm, x5] st = .nx [.d (.lst (dn.map .str)), .d (.lst (ws.map .str)), .d (.int (many : Nat)), .d (fD fc), .d nm, y5] st)
  | [], x5 => ⟨x5, rfl⟩
  | w :: r, x5 => by
    have ih := nx_in dn nm r (.d (.str w))
    have sl : dSl (.lst (ws.map D.str)) none (some (many : Nat)) = some (.lst ((ws.take many).map D.str)) := by
      rw [DL.dSl_l, cut_to _ (by omega), Int.toNat_natCast, List.map_take]
    have q1 : eqOk (.str w) = true := rfl
    have q2 : eqOk (.lst ((ws.take many).map D.str)) = true := eqOk_lst _ (flat_strs _)
    have q3 : eqOk (.lst (dn.map D.str)) = true := eqOk_lst _ (flat_strs dn)
    have a1 := any_strs w (ws.take many)
    have a2 := any_strs w dn
    rw [List.find?_cons]
    by_cases h1 : w ∈ ws.take many
    · rw [decide_eq_true h1] at a1 ⊢
      by_cases h2 : w ∈ dn
      · rw [decide_eq_true h2] at a2 ⊢
        have b : L__law_next_1 [.d (.lst (dn.map .str)), .d (.lst (ws.map .str)), .d (.int (many : Nat)), .d (fD fc), .d nm, .d (.str w)] st = .nx [.d (.lst (dn.map .str)), .d (.lst (ws.map .str)), .d (.int (many : Nat)), .d (fD fc), .d nm, .d (.str w)] st := by
          rw [L__law_next_1]
          clear ih h1 h2
          generalize (ws.take many).map D.str = tl at *
          generalize ws.map D.str = wl at *
          generalize dn.map D.str = dl at *
          generalize D.str w = wd at *
          generalize fD fc = fd at *
          generalize ((many : Nat) : Int) = m1 at *
          simp (maxSteps := 30000) (disch := first | assumption | (simp; done) | omega | (simp; omega)) [sl, q1, q2, q3, a1, a2]
        rw [List.map_cons, forL_c, gV_a]
        simp only [List.set_cons_succ, List.set_cons_zero, b]
        exact ih
      · rw [decide_eq_false h2] at a2 ⊢
        have b : L__law_next_1 [.d (.lst (dn.map .str)), .d (.lst (ws.map .str)), .d (.int (many : Nat)), .d (fD fc), .d nm, .d (.str w)] st = .ret (.str w) [.d (.lst (dn.map .str)), .d (.lst (ws.map .str)), .d (.int (many : Nat)), .d (fD fc), .d nm, .d (.str w)] st := by
          rw [L__law_next_1]
          clear ih h1 h2
          generalize (ws.take many).map D.str = tl at *
          generalize ws.map D.str = wl at *
          generalize dn.map D.str = dl at *
          generalize D.str w = wd at *
          generalize fD fc = fd at *
          generalize ((many : Nat) : Int) = m1 at *
          simp (maxSteps := 30000) (disch := first | assumption | (simp; done) | omega | (simp; omega)) [sl, q1, q2, q3, a1, a2]
        refine ⟨[.d (.lst (dn.map .str)), .d (.lst (ws.map .str)), .d (.int (many : Nat)), .d (fD fc), .d nm, .d (.str w)], ?_⟩
        rw [List.map_cons, forL_c, gV_a]
        simp only [List.set_cons_succ, List.set_cons_zero, b]
    · rw [decide_eq_false h1] at a1 ⊢
      have b : L__law_next_1 [.d (.lst (dn.map .str)), .d (.lst (ws.map .str)), .d (.int (many : Nat)), .d (fD fc), .d nm, .d (.str w)] st = .nx [.d (.lst (dn.map .str)), .d (.lst (ws.map .str)), .d (.int (many : Nat)), .d (fD fc), .d nm, .d (.str w)] st := by
        rw [L__law_next_1]
        clear ih h1
        generalize (ws.take many).map D.str = tl at *
        generalize ws.map D.str = wl at *
        generalize dn.map D.str = dl at *
        generalize D.str w = wd at *
        generalize fD fc = fd at *
        generalize ((many : Nat) : Int) = m1 at *
        simp (maxSteps := 30000) (disch := first | assumption | (simp; done) | omega | (simp; omega)) [sl, q1, q2, a1]
      rw [List.map_cons, forL_c, gV_a]
      simp only [List.set_cons_succ, List.set_cons_zero, b]
      exact ih
theorem idx_S (s : Wd) : ∀ ws : List Wd, idxS s ws = ws.idxOf s
  | [] => rfl
  | x :: r => by
    have ih := idx_S s r
    rw [idxS, List.idxOf_cons, ih]
    by_cases z : x = s
    · have e : (x == s) = true := beq_iff_eq.mpr z
      rw [e, if_pos z]; rfl
    · have e : (x == s) = false := beq_eq_false_iff_ne.mpr z
      rw [e, if_neg z]; rfl
theorem find_app {α : Type} (p : α → Bool) : ∀ (a b : List α), (a ++ b).find? p = match a.find? p with | some x => some x | none => b.find? p
  | [], _ => rfl
  | x :: r, b => by
    rw [List.cons_append, List.find?_cons, List.find?_cons]
    cases p x with
    | true => rfl
    | false => exact find_app p r b
theorem nx_out (hfc : fc.length = ws.length) (dn0 : List Wd) : ∀ (dn : List Wd) (x4 x5 : Sl), (∀ w ∈ dn, w ∈ ws) →
    (match (dn.flatMap (flO ws fc)).find? fun w => decide (w ∈ ws.take many) && !decide (w ∈ dn0) with
      | some w => ∃ S, forL (gV 4) L__law_next_2 (dn.map .str) [.d (.lst (dn0.map .str)), .d (.lst (ws.map .str)), .d (.int (many : Nat)), .d (fD fc), x4, x5] st = .ret (.str w) S st
      | none => ∃ y4 y5, forL (gV 4) L__law_next_2 (dn.map .str) [.d (.lst (dn0.map .str)), .d (.lst (ws.map .str)), .d (.int (many : Nat)), .d (fD fc), x4, x5] st = .nx [.d (.lst (dn0.map .str)), .d (.lst (ws.map .str)), .d (.int (many : Nat)), .d (fD fc), y4, y5] st)
  | [], x4, x5, _ => ⟨x4, x5, rfl⟩
  | v :: r, x4, x5, hs => by
    have hv := hs v (List.mem_cons_self ..)
    have hlt := List.idxOf_lt_length_of_mem hv
    have ih := fun x5 => nx_out hfc dn0 r (.d (.str v)) x5 fun w hw => hs w (List.mem_cons_of_mem _ hw)
    have inn := nx_in (ws := ws) (many := many) (fc := fc) (st := st) dn0 (.str v) (flO ws fc v) x5
    have ix : dIndex (.lst (ws.map D.str)) [.str v] = some (.int (ws.idxOf v : Nat)) := by rw [dIndex_a _ _ hv, idx_S]
    have i2 : dIx (fD fc) (.int (ws.idxOf v : Nat)) = some (.lst ((flO ws fc v).map D.str)) := by
      have : fc[ws.idxOf v]? = some (flO ws fc v) := by
        unfold flO; rw [List.getElem?_eq_getElem (by omega)]; rfl
      unfold fD
      simp [atI_nn _ (Int.natCast_nonneg _), this]
    have it : itD (.lst ((flO ws fc v).map D.str)) = some ((flO ws fc v).map D.str) := rfl
    have ty : tyD "list" (.lst (ws.map D.str)) = true := rfl
    rw [List.flatMap_cons, find_app, List.map_cons, forL_c, gV_a]
    cases hf : (flO ws fc v).find? fun w => decide (w ∈ ws.take many) && !decide (w ∈ dn0) with
    | some w =>
      rw [hf] at inn
      obtain ⟨S, inn⟩ := inn
      dsimp only
      refine ⟨S, ?_⟩
      have b : L__law_next_2 [.d (.lst (dn0.map .str)), .d (.lst (ws.map .str)), .d (.int (many : Nat)), .d (fD fc), .d (.str v), x5] st = .ret (.str w) S st := by
        rw [L__law_next_2]
        clear ih hs hf hlt hv
        generalize L__law_next_1 = L1 at *
        generalize (flO ws fc v).map D.str = fl at *
        generalize ws.map D.str = wl at *
        generalize dn0.map D.str = dl at *
        generalize D.str v = wd at *
        generalize fD fc = fd at *
        generalize ((many : Nat) : Int) = m1 at *
        generalize ((ws.idxOf v : Nat) : Int) = j1 at *
        simp (maxSteps := 30000) (disch := first | assumption | (simp; done) | omega | (simp; omega)) [ix, i2, it, ty, inn]
      simp only [List.set_cons_succ, List.set_cons_zero, b]
    | none =>
      rw [hf] at inn
      obtain ⟨y5, inn⟩ := inn
      dsimp only
      have ih := ih y5
      have b : L__law_next_2 [.d (.lst (dn0.map .str)), .d (.lst (ws.map .str)), .d (.int (many : Nat)), .d (fD fc), .d (.str v), x5] st = .nx [.d (.lst (dn0.map .str)), .d (.lst (ws.map .str)), .d (.int (many : Nat)), .d (fD fc), .d (.str v), y5] st := by
        rw [L__law_next_2]
        clear ih hs hf hlt hv
        generalize L__law_next_1 = L1 at *
        generalize (flO ws fc v).map D.str = fl at *
        generalize ws.map D.str = wl at *
        generalize dn0.map D.str = dl at *
        generalize D.str v = wd at *
        generalize fD fc = fd at *
        generalize ((many : Nat) : Int) = m1 at *
        generalize ((ws.idxOf v : Nat) : Int) = j1 at *
        simp (maxSteps := 30000) (disch := first | assumption | (simp; done) | omega | (simp; omega)) [ix, i2, it, ty, inn]
      simp only [List.set_cons_succ, List.set_cons_zero, b]
      exact ih
theorem next_ok (hfc : fc.length = ws.length) (dn : List Wd) (hd : ∀ w ∈ dn, w ∈ ws) : c__law_next [.lst (dn.map .str), .lst (ws.map .str), .int (many : Nat), fD fc] st = .ok (oS (Rd.nx (flO ws fc) (ws.take many) dn)) [] st := by
  have lp := nx_out (many := many) (st := st) hfc dn dn .no .no hd
  have it : itD (.lst (dn.map D.str)) = some (dn.map D.str) := rfl
  rw [c__law_next, runB_k, b__law_next]
  unfold Rd.nx
  clear hd
  generalize L__law_next_2 = L1 at *
  cases hf : (dn.flatMap (flO ws fc)).find? fun w => decide (w ∈ ws.take many) && !decide (w ∈ dn) with
  | some w =>
    rw [hf] at lp
    obtain ⟨S, lp⟩ := lp
    rw [oS]
    clear hf
    generalize ws.map D.str = wl at *
    generalize dn.map D.str = dl at *
    generalize D.str w = wd at *
    generalize fD fc = fd at *
    generalize ((many : Nat) : Int) = m1 at *
    simp (maxSteps := 30000) (disch := first | assumption | (simp; done) | omega | (simp; omega)) [it, lp]
  | none =>
    rw [hf] at lp
    obtain ⟨y4, y5, lp⟩ := lp
    rw [oS]
    clear hf
    generalize ws.map D.str = wl at *
    generalize dn.map D.str = dl at *
    generalize fD fc = fd at *
    generalize ((many : Nat) : Int) = m1 at *
    simp (maxSteps := 30000) (disch := first | assumption | (simp; done) | omega | (simp; omega)) [it, lp]
end
end M

namespace M
open PySem PySem.Spec PyProof.Rows L2 DL
section
variable {ws : List Wd} {many : Nat} {fc : List (List Wd)} {st : Store}
/-- a road as the law asks it -/
structure Rok (ws : List Wd) (many : Nat) (fc : List (List Wd)) (w : Wd) (R : List Wd) : Prop where
  iv : Rd.Iv (flO ws fc) (ws.take many) R
  hd : R[0]? = some w
  en : Rd.nx (flO ws fc) (ws.take many) R = none
theorem Rok.sub {w : Wd} {R : List Wd} (h : Rok ws many fc w R) : ∀ v ∈ R, v ∈ ws := fun v hv => List.mem_of_mem_take (h.iv.sub v hv)
theorem walk_turn (hfc : fc.length = ws.length) {w : Wd} {R : List Wd} (h : Rok ws many fc w R) (nm : D) (i : Nat) (hi : i < R.length) : L__law_walked_1 [.d (.lst (R.map .str)), .d nm, .d (.lst (ws.map .str)), .d (.int (many : Nat)), .d (fD fc), .d (.int (i : Nat))] st = .nx [.d (.lst (R.map .str)), .d nm, .d (.lst (ws.map .str)), .d (.int (many : Nat)), .d (fD fc), .d (.int (i : Nat))] st := by
  obtain ⟨v, hv⟩ : ∃ v, R[i]? = some v := ⟨_, List.getElem?_eq_getElem hi⟩
  have hvT := h.iv.sub v (List.mem_of_getElem? hv)
  have hnv : v ∉ R.take i := fun z => by
    obtain ⟨j, hj⟩ := List.getElem?_of_mem z
    have hji : j < i := by have := (List.getElem?_eq_some_iff.mp hj).1; rw [List.length_take] at this; omega
    rw [List.getElem?_take_of_lt hji] at hj
    obtain ⟨a1, a2⟩ := List.getElem?_eq_some_iff.mp hj
    obtain ⟨b1, b2⟩ := List.getElem?_eq_some_iff.mp hv
    have := nodup_ix h.iv.nd a1 b1 (a2.trans b2.symm)
    omega
  have ix : dIx (.lst (R.map D.str)) (.int (i : Nat)) = some (.str v) := by simp [atI_nn _ (Int.natCast_nonneg i), hv]
  have i1 : dIsI [.str v, .ty "str"] = some (.bl true) := rfl
  have s1 : dSl (.lst (ws.map D.str)) none (some (many : Nat)) = some (.lst ((ws.take many).map D.str)) := by
    rw [DL.dSl_l, cut_to _ (by omega), Int.toNat_natCast, List.map_take]
  have s2 : dSl (.lst (R.map D.str)) none (some (i : Nat)) = some (.lst ((R.take i).map D.str)) := by
    rw [DL.dSl_l, cut_to _ (by omega), Int.toNat_natCast, List.map_take]
  have q1 : eqOk (.str v) = true := rfl
  have q2 : eqOk (.lst ((ws.take many).map D.str)) = true := eqOk_lst _ (flat_strs _)
  have q3 : eqOk (.lst ((R.take i).map D.str)) = true := eqOk_lst _ (flat_strs _)
  have a1 := any_strs v (ws.take many)
  rw [decide_eq_true hvT] at a1
  have a2 := any_strs v (R.take i)
  rw [decide_eq_false hnv] at a2
  have d1 : deq (.str v) (.str v) = true := by simp
  have nxt := next_ok (many := many) (st := st) hfc (R.take i) fun u hu => h.sub u (List.mem_of_mem_take hu)
  rw [L__law_walked_1]
  by_cases h0 : i = 0
  · have g0 : ¬ (0 : Int) < (i : Nat) := by omega
    clear nxt hvT hnv hv h hi h0
    generalize (R.take i).map D.str = rl at *
    generalize (ws.take many).map D.str = tl at *
    generalize R.map D.str = Rl at *
    generalize ws.map D.str = wl at *
    generalize D.str v = vd' at *
    generalize fD fc = fd at *
    generalize ((many : Nat) : Int) = m1 at *
    generalize ((i : Nat) : Int) = i0 at *
    simp (maxSteps := 30000) (disch := first | assumption | (simp; done) | omega | (simp; omega)) [ix, i1, s1, s2, q1, q2, q3, a1, a2, g0]
  · have g0 : (0 : Int) < (i : Nat) := by omega
    rw [h.iv.gd i v (by omega) hv, oS] at nxt
    clear hvT hnv hv h hi h0
    generalize (R.take i).map D.str = rl at *
    generalize (ws.take many).map D.str = tl at *
    generalize R.map D.str = Rl at *
    generalize ws.map D.str = wl at *
    generalize D.str v = vd' at *
    generalize fD fc = fd at *
    generalize ((many : Nat) : Int) = m1 at *
    generalize ((i : Nat) : Int) = i0 at *
    simp (maxSteps := 30000) (disch := first | assumption | (simp; done) | omega | (simp; omega)) [ix, i1, s1, s2, q1, q2, q3, a1, a2, g0, nxt, d1]
theorem walk_loop (hfc : fc.length = ws.length) {w : Wd} {R : List Wd} (h : Rok ws many fc w R) (nm : D) : ∀ (is : List Nat) (x5 : Sl), (∀ i ∈ is, i < R.length) → ∃ y5, forL (gV 5) L__law_walked_1 (is.map fun i : Nat => D.int (i : Int)) [.d (.lst (R.map .str)), .d nm, .d (.lst (ws.map .str)), .d (.int (many : Nat)), .d (fD fc), x5] st = .nx [.d (.lst (R.map .str)), .d nm, .d (.lst (ws.map .str)), .d (.int (many : Nat)), .d (fD fc), y5] st
  | [], x5, _ => ⟨x5, rfl⟩
  | i :: r, x5, hi => by
    obtain ⟨y5, ih⟩ := walk_loop hfc h nm r (.d (.int (i : Nat))) fun j hj => hi j (List.mem_cons_of_mem _ hj)
    refine ⟨y5, ?_⟩
    have b := walk_turn (st := st) hfc h nm i (hi i (List.mem_cons_self ..))
    rw [List.map_cons, forL_c, gV_a]
    simp only [List.set_cons_succ, List.set_cons_zero, b]
    exact ih
theorem walked_ok (hfc : fc.length = ws.length) {w : Wd} {R : List Wd} (h : Rok ws many fc w R) (hl : R.length ≤ 1000) : c__law_walked [.lst (R.map .str), .str w, .lst (ws.map .str), .int (many : Nat), fD fc] st = .ok (.bl true) [] st := by
  have er : rng R.length 0 = (List.range R.length).map fun k : Nat => D.int (k : Int) := by
    unfold rng
    exact List.map_congr_left fun i _ => by rw [Int.zero_add]
  obtain ⟨y5, lp⟩ := walk_loop (st := st) hfc h (.str w) (List.range R.length) .no fun i hi => List.mem_range.mp hi
  rw [← er] at lp
  have nxt := next_ok (many := many) (st := st) hfc R h.sub
  rw [h.en, oS] at nxt
  have i1 : dIsI [.lst (R.map D.str), .ty "list"] = some (.bl true) := rfl
  have q1 : eqOk (.lst (R.map D.str)) = true := eqOk_lst _ (flat_strs _)
  have q2 : eqOk (.lst []) = true := rfl
  have d1 : deq (.lst (R.map D.str)) (.lst []) = false := by
    rw [deq_lst]
    cases R with
    | nil => have := h.hd; cases this
    | cons _ _ => simp
  have ix : dIx (.lst (R.map D.str)) (.int 0) = some (.str w) := by simp [atI_nn, h.hd]
  have q3 : eqOk (.str w) = true := rfl
  have d2 : deq (.str w) (.str w) = true := by simp
  have dl : dLen [.lst (R.map D.str)] = some (.int (R.length : Nat)) := by simp
  have r0 : -1000000 ≤ ((R.length : Nat) : Int) := by omega
  have r1 : ((R.length : Nat) : Int) ≤ 1000000 := by omega
  have r2 : ((R.length : Nat) : Int).toNat = R.length := Int.toNat_natCast _
  have is : dIs .non .non = some (.bl true) := rfl
  rw [c__law_walked, runB_k, b__law_walked]
  clear h hl er
  generalize L__law_walked_1 = L1 at *
  generalize R.map D.str = Rl at *
  generalize ws.map D.str = wl at *
  generalize D.str w = wd at *
  generalize fD fc = fd at *
  generalize ((many : Nat) : Int) = m1 at *
  generalize ((R.length : Nat) : Int) = n1 at *
  simp (maxSteps := 30000) (disch := first | assumption | (simp; done) | omega | (simp; omega)) [i1, q1, q2, d1, ix, q3, d2, dl, r0, r1, r2, lp, nxt, is]
theorem strs_dp (st : Store) (k : Nat) : ∀ f : List Wd, mapO (DL.dp st (k + 1)) (f.map D.str) = some (f.map D.str)
  | [] => rfl
  | w :: r => by
    have ih := strs_dp st k r
    rw [List.map_cons, mapO, ih]
    simp [DL.dp, noL]
theorem fc_dp : ∀ (fc : List (List Wd)) (b : Nat), Fr b fc st → mapO (DL.dp st 39) (lcs b fc.length) = some (fc.map fun f => D.lst (f.map D.str))
  | [], b, _ => rfl
  | f :: r, b, H => by
    have h0 := H 0 f rfl
    rw [Nat.add_zero] at h0
    have ih := fc_dp r (b + 1) fun i g hg => by
      have := H (i + 1) g hg
      rw [show b + 1 + i = b + (i + 1) by omega]; exact this
    have e : lcs b (f :: r).length = .loc b :: lcs (b + 1) r.length := by
      unfold lcs
      rw [List.length_cons, List.range_succ_eq_map, List.map_cons, List.map_map, Nat.add_zero]
      congr 1
      exact List.map_congr_left fun i _ => by simp only [Function.comp_apply]; congr 1; omega
    have s := strs_dp st 37 f
    have h1 : DL.dp st 39 (.loc b) = some (.lst (f.map D.str)) := by
      simp only [DL.dp, h0, s]; rfl
    rw [e, mapO, h1, ih]; rfl
end
end M

namespace M
open PySem PySem.Spec PyProof.Rows L2 DL
theorem lcL_none {α : Type} {g : Tg} {own : List Nat} {t : Ev Bool} {f : Ev D} {S : Sls} {st : Store} (enc : α → D) : ∀ (xs : List α), (∀ x ∈ xs, ∃ S1 S2, g (enc x) S = some S1 ∧ t S1 st = .ok false S2 st ∧ wipeS S2 own = S) → lcL g own t f (xs.map enc) S st = .ok [] S st
  | [], _ => rfl
  | x :: r, h => by
    obtain ⟨S1, S2, e1, e2, e3⟩ := h x (List.mem_cons_self ..)
    have ih := lcL_none (g := g) (own := own) (t := t) (f := f) (S := S) (st := st) enc r fun y hy => h y (List.mem_cons_of_mem _ hy)
    rw [List.map_cons, lcL_c, e1]
    simp only [e2, Res.calm_ok, Res.bind_ok, Bool.false_eq_true, if_false, e3, ih]
theorem deqs_strs : ∀ ts : List Wd, deqs (ts.map D.str) (ts.map D.str) = true
  | [] => by simp
  | t :: r => by rw [List.map_cons, deqs_c, deqs_strs r]; simp
section
variable {ns : List Int} {ws : List Wd} {many b h n : Nat} {fc : List (List Wd)} {en : List (Wd × Nat)}
/-- what stands when the law begins to ask -/
structure Al (ws : List Wd) (many b : Nat) (fc : List (List Wd)) (h n : Nat) (en : List (Wd × Nat)) (st : Store) : Prop where
  H : Hs st h n en (flO ws fc)
  F : Fr b fc st
theorem Al.app {st : Store} (A : Al ws many b fc h n en st) (x : List Ob) : Al ws many b fc h n en (st ++ x) := ⟨A.H.app x, A.F.app x⟩
theorem law_turn (hfc : fc.length = ws.length) (hL9 : ws.length ≤ 100) (hle : en.length < 64) (hE : ∀ w, w ∈ en.map (·.1) ↔ w ∈ ws.take many) (hfl : ∀ w, (flO ws fc w).length ≤ 1000) {w : Wd} (hw : w ∈ ws.take many) {st : Store} (A : Al ws many b fc h n en st) (x6 x7 : Sl) :
    ∃ y6 y7 x, L_law_1 [.d (.scr ns), .d (.lst (ws.map .str)), .d (.int (many : Nat)), .d (.lst (lcs b ws.length)), .d (.loc h), .d (.str w), x6, x7] st = .nx [.d (.scr ns), .d (.lst (ws.map .str)), .d (.int (many : Nat)), .d (.lst (lcs b ws.length)), .d (.loc h), .d (.str w), y6, y7] (st ++ x) := by
  have hT : (ws.take many).length ≤ 100 := by rw [List.length_take]; omega
  obtain ⟨R, hR⟩ : ∃ R, Rd.road (flO ws fc) (ws.take many) ((ws.take many).length + 1) [w] 0 = R := ⟨_, rfl⟩
  obtain ⟨k1, k2, k3⟩ := Rd.road_ok ((ws.take many).length + 1) [w] 0 (Rd.Iv.one (fl := flO ws fc) hw) (fun j v hj => by omega) (by simp) (by omega)
  rw [hR] at k1 k2 k3
  have rok : Rok ws many fc w R := ⟨k1, by
    obtain ⟨t, ht⟩ := k3
    rw [← ht]; rfl, k2⟩
  have lR : R.length ≤ 1000 := by
    have := Rd.len_sub R _ k1.nd k1.sub
    omega
  have e1 := road_at A.H hle hE hfl (by omega) hw
  rw [hR] at e1
  obtain ⟨st1, hs1⟩ : ∃ st1, st ++ [fO R] = st1 := ⟨_, rfl⟩
  rw [hs1] at e1
  have g1 : st1[st.length]? = some (.o (.l (R.map D.str))) := by rw [← hs1]; exact app_last _ _
  have A1 : Al ws many b fc h n en st1 := by rw [← hs1]; exact A.app _
  have wk : look c__law_walked [.loc st.length, .str w, .lst (ws.map .str), .int (many : Nat), .lst (lcs b ws.length)] st1 = .ok (.bl true) [] st1 := by
    refine look_ok (walked_ok (st := []) hfc rok lR) ?_ rfl
    have d1 : DL.dp st1 40 (.loc st.length) = some (.lst (R.map D.str)) := by
      simp only [DL.dp, g1, strs_dp st1 38 R]; rfl
    have d2 : DL.dp st1 40 (.lst (ws.map D.str)) = some (.lst (ws.map D.str)) := by
      simp only [DL.dp, strs_dp st1 38 ws]; rfl
    have d3 : DL.dp st1 40 (.lst (lcs b ws.length)) = some (fD fc) := by
      have := fc_dp fc b A1.F
      rw [hfc] at this
      simp only [DL.dp, this]; rfl
    have d4 : DL.dp st1 40 (.str w) = some (.str w) := by simp [DL.dp, noL]
    have d5 : DL.dp st1 40 (.int (many : Nat)) = some (.int (many : Nat)) := by simp [DL.dp, noL]
    simp only [mapO, d1, d2, d3, d4, d5]
  have dl : dListF [.lst (R.map D.str)] = some (.l (R.map D.str)) := rfl
  have la : (R.map D.str).length < 16777216 := by rw [List.length_map]; omega
  obtain ⟨st2, hs2⟩ : ∃ st2, st ++ [Ob.o (.l (R.map D.str ++ [.str w]))] = st2 := ⟨_, rfl⟩
  have sl : st1.set st.length (.o (.l (R.map D.str ++ [.str w]))) = st2 := by rw [← hs1, set_last]; exact hs2
  have A2 : Al ws many b fc h n en st2 := by rw [← hs2]; exact A.app _
  have e2 := road_at A2.H hle hE hfl (by omega) hw
  rw [hR] at e2
  obtain ⟨st3, hs3⟩ : ∃ st3, st2 ++ [fO R] = st3 := ⟨_, rfl⟩
  rw [hs3] at e2
  have g3 : st3[st2.length]? = some (.o (.l (R.map D.str))) := by rw [← hs3]; exact app_last _ _
  have p1 : DL.dp st3 40 (.loc st2.length) = some (.lst (R.map D.str)) := by
    simp only [DL.dp, g3, strs_dp st3 38 R]; rfl
  have p2 : DL.dp st3 40 (.lst (R.map D.str)) = some (.lst (R.map D.str)) := by
    simp only [DL.dp, strs_dp st3 38 R]; rfl
  have q1 : eqOk (.lst (R.map D.str)) = true := eqOk_lst _ (flat_strs _)
  have q2 : deq (.lst (R.map D.str)) (.lst (R.map D.str)) = true := by rw [deq_lst]; exact deqs_strs R
  refine ⟨.d (.loc st.length), .d (.lst (R.map .str)), [Ob.o (.l (R.map D.str ++ [.str w])), fO R], ?_⟩
  have e3 : st ++ [Ob.o (.l (R.map D.str ++ [.str w])), fO R] = st3 := by rw [← hs3, ← hs2, List.append_assoc]; rfl
  rw [e3, L_law_1]
  clear hR k1 k2 k3 rok lR hs1 hs2 hs3 A A1 A2 hT e3 hfc hL9 hle hE hfl hw
  generalize lcs b ws.length = ll at *
  generalize R.map D.str = Rl at *
  generalize ws.map D.str = wl at *
  generalize D.str w = wd at *
  generalize D.scr ns = nd at *
  generalize ((many : Nat) : Int) = m1 at *
  generalize st.length = n1 at *
  generalize st2.length = n2 at *
  simp (maxSteps := 30000) (disch := first | assumption | (simp; done) | omega | (simp; omega)) [e1, wk, g1, dl, la, sl, e2, p1, p2, q1, q2, DL.scal, Ow.d]
theorem law_loop (hfc : fc.length = ws.length) (hL9 : ws.length ≤ 100) (hle : en.length < 64) (hE : ∀ w, w ∈ en.map (·.1) ↔ w ∈ ws.take many) (hfl : ∀ w, (flO ws fc w).length ≤ 1000) : ∀ (r : List Wd) (st : Store) (x5 x6 x7 : Sl), (∀ w ∈ r, w ∈ ws.take many) → Al ws many b fc h n en st →
    ∃ y5 y6 y7 st', forL (gV 5) L_law_1 (r.map .str) [.d (.scr ns), .d (.lst (ws.map .str)), .d (.int (many : Nat)), .d (.lst (lcs b ws.length)), .d (.loc h), x5, x6, x7] st = .nx [.d (.scr ns), .d (.lst (ws.map .str)), .d (.int (many : Nat)), .d (.lst (lcs b ws.length)), .d (.loc h), y5, y6, y7] st' ∧ Al ws many b fc h n en st'
  | [], st, x5, x6, x7, _, A => ⟨x5, x6, x7, st, rfl, A⟩
  | w :: r, st, x5, x6, x7, hr, A => by
    obtain ⟨y6, y7, x, e⟩ := law_turn (ns := ns) hfc hL9 hle hE hfl (hr w (List.mem_cons_self ..)) A x6 x7
    obtain ⟨z5, z6, z7, st', e2, A2⟩ := law_loop hfc hL9 hle hE hfl r (st ++ x) (.d (.str w)) y6 y7 (fun v hv => hr v (List.mem_cons_of_mem _ hv)) (A.app x)
    refine ⟨z5, z6, z7, st', ?_, A2⟩
    rw [List.map_cons, forL_c, gV_a]
    simp only [List.set_cons_succ, List.set_cons_zero]
    rw [e]; exact e2
end
theorem lawOk : LawOk c_law := fun ns hl hz => by
  -- the names
  have e1 := purse_ok ns 0 (by omega) []
  obtain ⟨ws, p1, ⟨w0, wnd, wok, wl⟩, W⟩ := words_ok (pu0 ns 0) 9 (by decide) (by decide)
  have e2 := W ([] ++ [(pu0 ns 0).o]) 0 (app_last [] _)
  obtain ⟨st2, hs2⟩ : ∃ st2, ([] ++ [(pu0 ns 0).o] : Store).set 0 p1.o = st2 := ⟨_, rfl⟩
  rw [hs2] at e2
  have hpos : 1 ≤ ws.length := by cases ws with | nil => exact absurd rfl w0 | cons _ _ => simp
  -- how many
  have e3 := purse_ok ns 1 (by omega) st2
  obtain ⟨v, p2, ⟨v0, v1⟩, T⟩ := take_ok (pu0 ns 1) 8 (by decide) (by decide +kernel)
  have e4 := T (st2 ++ [(pu0 ns 1).o]) st2.length (app_last _ _)
  obtain ⟨st3, hs3⟩ : ∃ st3, (st2 ++ [(pu0 ns 1).o]).set st2.length p2.o = st3 := ⟨_, rfl⟩
  rw [hs3] at e4
  obtain ⟨many, hmany, m1, mL⟩ : ∃ many : Nat, (if ((ws.length : Nat) : Int) < 1 + v then ((ws.length : Nat) : Int) else 1 + v) = (many : Int) ∧ 1 ≤ many ∧ many ≤ ws.length := by
    by_cases h : ((ws.length : Nat) : Int) < 1 + v
    · exact ⟨ws.length, by rw [if_pos h], hpos, Nat.le_refl _⟩
    · exact ⟨(1 + v).toNat, by rw [if_neg h]; omega, by omega, by omega⟩
  -- on which they fall back
  obtain ⟨fc, ⟨f1, f2⟩, FF⟩ := falls_ok (ns := ns) (ws := ws) (L := ws.length) (many := many) rfl m1 mL (by omega)
  obtain ⟨st4, e5, f3, F4, _⟩ := FF st3
  -- the house
  have e6 := purse_ok ns 2 (by omega) st4
  obtain ⟨h, n, en, st5, e7, H5, F5, hE, hle⟩ := house_ok (b := st3.length) rfl m1 mL (by omega) wnd f1 (pu0 ns 2) (st4 ++ [(pu0 ns 2).o]) st4.length (F4.app _) (app_last _ _)
  have hle : en.length < 64 := by
    have := Rd.len_sub (en.map (·.1)) (ws.take many) H5.nd fun w hw => (hE w).mp hw
    rw [List.length_map, List.length_take] at this; omega
  have hfl : ∀ w, (flO ws fc w).length ≤ 1000 := fun w => by
    unfold flO
    cases hf : fc[ws.idxOf w]? with
    | none => simp
    | some f => exact (f2 f (List.mem_of_getElem? hf)).2
  -- asked
  obtain ⟨y5, y6, y7, st6, e8, A6⟩ := law_loop (ns := ns) f1 (by omega) hle hE hfl (ws.take many) st5 .no .no .no (fun w hw => hw) ⟨H5, F5⟩
  have lc : ∀ (y5 y6 y7 : Sl), lcL (gV 5) [5] T_law_1 E_law_1 ((ws.drop many).map D.str) [.d (.scr ns), .d (.lst (ws.map .str)), .d (.int (many : Nat)), .d (.lst (lcs st3.length ws.length)), .d (.loc h), .no, y6, y7] st6 = .ok [] [.d (.scr ns), .d (.lst (ws.map .str)), .d (.int (many : Nat)), .d (.lst (lcs st3.length ws.length)), .d (.loc h), .no, y6, y7] st6 := fun y5 y6 y7 => by
    refine lcL_none D.str (ws.drop many) fun w hw => ?_
    have hn : w ∉ en.map (·.1) := fun z => by
      have z := (hE w).mp z
      have nd := wnd
      rw [← List.take_append_drop many ws, List.nodup_append] at nd
      exact nd.2.2 w z w hw rfl
    have rf := refused_ok A6.H hn
    refine ⟨[.d (.scr ns), .d (.lst (ws.map .str)), .d (.int (many : Nat)), .d (.lst (lcs st3.length ws.length)), .d (.loc h), .d (.str w), y6, y7], [.d (.scr ns), .d (.lst (ws.map .str)), .d (.int (many : Nat)), .d (.lst (lcs st3.length ws.length)), .d (.loc h), .d (.str w), y6, y7], rfl, ?_, rfl⟩
    rw [T_law_1]
    clear hn hw
    generalize ws.map D.str = wl at *
    generalize D.str w = wd at *
    generalize lcs st3.length ws.length = ll at *
    generalize D.scr ns = nd at *
    simp (maxSteps := 30000) (disch := first | assumption | (simp; done) | omega | (simp; omega)) [rf]
  refine ⟨st6, ?_⟩
  have dl : dLen [.lst (ws.map D.str)] = some (.int (ws.length : Nat)) := by simp
  have s1 : dSl (.lst (ws.map D.str)) none (some (many : Nat)) = some (.lst ((ws.take many).map D.str)) := by
    rw [DL.dSl_l, cut_to _ (by omega), Int.toNat_natCast, List.map_take]
  have s2 : dSl (.lst (ws.map D.str)) (some (many : Nat)) none = some (.lst ((ws.drop many).map D.str)) := by
    rw [DL.dSl_l, cut_from _ (by omega), Int.toNat_natCast, List.map_drop]
  have it1 : itD (.lst ((ws.take many).map D.str)) = some ((ws.take many).map D.str) := rfl
  have it2 : itD (.lst ((ws.drop many).map D.str)) = some ((ws.drop many).map D.str) := rfl
  have q2 : eqOk (.lst []) = true := rfl
  have d1 : deq (.lst []) (.lst []) = true := by rw [deq_lst]; rfl
  have lcy := lc y5 y6 y7
  have z0 : ([] : Store).length = 0 := rfl
  rw [z0] at e1
  have e1 : c__law_purse [.scr ns, .int 0] [] = .ok (.loc 0) [] [(pu0 ns 0).o] := e1
  have e2 : c__law_words [.loc 0, .int 9] [(pu0 ns 0).o] = .ok (.lst (ws.map .str)) [] st2 := e2
  rw [c_law, runB_k, b_law]
  clear W w0 wnd wok hs2 hpos T hs3 f1 f2 FF f3 F4 H5 F5 hE hle hfl A6 lc hz m1 mL wl v0 v1
  generalize L_law_1 = LL at *
  generalize T_law_1 = TT at *
  generalize E_law_1 = EE at *
  generalize (ws.take many).map D.str = tl at *
  generalize (ws.drop many).map D.str = dr at *
  generalize ws.map D.str = wl' at *
  generalize lcs st3.length ws.length = ll at *
  generalize D.scr ns = nd at *
  generalize [(pu0 ns 0).o] = sA at *
  generalize st2 ++ [(pu0 ns 1).o] = sB at *
  generalize st4 ++ [(pu0 ns 2).o] = sC at *
  generalize st2.length = n2 at *
  generalize st4.length = n4 at *
  generalize ((ws.length : Nat) : Int) = wlen at *
  by_cases hc : wlen < 1 + v
  · rw [if_pos hc] at hmany
    subst hmany
    generalize hX : (sSeq (sV 4 _) _) = X
    simp (maxSteps := 30000) (disch := first | assumption | (simp; done) | omega | (simp; omega)) [e1, e2, e3, e4, dl, hc, e5]
    subst hX
    clear e1 e2 e3 e4 dl hc e5
    simp (maxSteps := 30000) (disch := first | assumption | (simp; done) | omega | (simp; omega)) [e6, e7, s1, it1, e8, s2, it2, lcy, q2, d1, Ow.d]
    cases y5 <;> rfl
  · rw [if_neg hc] at hmany
    have ha : dAdd (.int 1) (.int v) = some (.int (many : Nat)) := by simp [hmany]
    have hc : ¬ wlen < (many : Nat) := by rw [← hmany]; exact hc
    clear hmany
    generalize ((many : Nat) : Int) = mm at *
    generalize hX : (sSeq (sV 4 _) _) = X
    simp (maxSteps := 30000) (disch := first | assumption | (simp; done) | omega | (simp; omega)) [e1, e2, e3, e4, ha, dl, hc, e5]
    subst hX
    clear e1 e2 e3 e4 dl hc e5
    simp (maxSteps := 30000) (disch := first | assumption | (simp; done) | omega | (simp; omega)) [e6, e7, s1, it1, e8, s2, it2, lcy, q2, d1, Ow.d]
    cases y5 <;> rfl
end M

open PySem PySem.W PyProof.Rows
set_option maxRecDepth 100000 in
set_option maxHeartbeats 0 in
theorem PySem.Challenge.cw_saywell_k53_whole_roads_holds : PySem.Challenge.rw_saywell_k53_whole_roads.Holds := by
  w_on; o_law; k_head; (case hw => w_witness2)
  k_fill
  refine L2.walk_ofB (l := PySem.Challenge.rw_saywell_k53_whole_roads) (n := 63) (k := 6) (x := "_law_script") (CX := fun w => L2.CX PySem.Challenge.rw_saywell_k53_whole_roads.prog w) (sp := fun w => DL.spLaw _) rfl (by decide) rfl ⟨rfl, by decide, by decide⟩ (fun w h Y => PySem.W.kIn_of Y) ?F (fun _ _ a ns hl hb _ hS => ⟨a, ns, rfl, hS, hl, hb, fun _ => rfl⟩) (fun _ _ _ _ _ h => by obtain ⟨_, _, _, _, _, _, _, _, _, _, _, _, z⟩ := h; exact z.elim)
  case F =>
    intro w mg fa h KX G hmg
    refine' M.all_mk M.lawOk KX G hmg ?a__law_cell_at ?l__law_cell_at ?q__law_cell_at ?k__law_cell_at ?a__law_purse ?l__law_purse ?q__law_purse ?k__law_purse ?a__law_take ?l__law_take ?q__law_take ?k__law_take ?a__law_word ?l__law_word ?q__law_word ?k__law_word ?a__law_words ?l__law_words ?q__law_words ?k__law_words ?a__law_falls ?l__law_falls ?q__law_falls ?k__law_falls ?a__law_tongue ?l__law_tongue ?q__law_tongue ?k__law_tongue ?a__law_house ?l__law_house ?q__law_house ?k__law_house ?a_road ?l_road ?q_road ?k_road ?a__law_next ?l__law_next ?q__law_next ?k__law_next ?a__law_walked ?l__law_walked ?q__law_walked ?k__law_walked ?a__law_refused ?l__law_refused ?q__law_refused ?k__law_refused ?a_law ?l_law ?q_law ?k_law ?aC_House ?pg_House ?hd_House ?po_House ?sa_House ?nf_House_by_name ?nf_House_declared ?nf_House_kind_row ?nf_House_pieces_here ?nf_House_rank_row ?nf_House_thing_row ?nf_House_thing_texts ?mt_House_add ?mt_House_tongue_named ?mt_House_tongues ?mk_House ?in_House ?kc_House ?aC_Tongue ?pg_Tongue ?hd_Tongue ?po_Tongue ?sa_Tongue ?nf_Tongue_calendar ?nf_Tongue_dayform ?nf_Tongue_falls ?nf_Tongue_figures ?nf_Tongue_joiners ?nf_Tongue_name ?nf_Tongue_rules ?mk_Tongue ?in_Tongue ?kc_Tongue ?i_House___init__ ?l_House___init__ ?q_House___init__ ?k_House___init__ ?i_Tongue___init__ ?l_Tongue___init__ ?q_Tongue___init__ ?k_Tongue___init__ ?i_House_add ?l_House_add ?q_House_add ?k_House_add ?i_House_tongue_named ?l_House_tongue_named ?q_House_tongue_named ?k_House_tongue_named ?i_House_tongues ?l_House_tongues ?q_House_tongues ?k_House_tongues ?aC_NoTongue ?xbe_NoTongue ?xhd_NoTongue ?xty_NoTongue ?aC_SayError ?xbe_SayError ?xhd_SayError ?xty_SayError ?xex_NoTongue ?xkp_NoTongue ?xve_NoTongue ?xme_NoTongue ?xg2_NoTongue ?xk2_NoTongue ?xa2_NoTongue ?xm2_NoTongue ?xsp ?xta ?xs_NoTongue_SayError ?z_ValueError ?z_len ?z_isinstance ?z_str ?z_int ?z_bool ?z_list ?z_tuple ?z_dict ?z_set ?z_range ?z_enumerate ?z_zip ?z_reversed ?z_sorted ?z_sum ?z_all ?z_any ?z_abs ?z_max ?z_min ?z_ord ?z_divmod ?z_repr
    (case a__law_cell_at => k_is)
    (case l__law_cell_at => k_is)
    (case q__law_cell_at => k_is)
    (case k__law_cell_at => k_is)
    (case a__law_purse => k_is)
    (case l__law_purse => k_is)
    (case q__law_purse => k_is)
    (case k__law_purse => k_is)
    (case a__law_take => k_is)
    (case l__law_take => k_is)
    (case q__law_take => k_is)
    (case k__law_take => k_is)
    (case a__law_word => k_is)
    (case l__law_word => k_is)
    (case q__law_word => k_is)
    (case k__law_word => k_is)
    (case a__law_words => k_is)
    (case l__law_words => k_is)
    (case q__law_words => k_is)
    (case k__law_words => k_is)
    (case a__law_falls => k_is)
    (case l__law_falls => k_is)
    (case q__law_falls => k_is)
    (case k__law_falls => k_is)
    (case a__law_tongue => k_is)
    (case l__law_tongue => k_is)
    (case q__law_tongue => k_is)
    (case k__law_tongue => k_is)
    (case a__law_house => k_is)
    (case l__law_house => k_is)
    (case q__law_house => k_is)
    (case k__law_house => k_is)
    (case a_road => k_is)
    (case l_road => k_is)
    (case q_road => k_is)
    (case k_road => k_is)
    (case a__law_next => k_is)
    (case l__law_next => k_is)
    (case q__law_next => k_is)
    (case k__law_next => k_is)
    (case a__law_walked => k_is)
    (case l__law_walked => k_is)
    (case q__law_walked => k_is)
    (case k__law_walked => k_is)
    (case a__law_refused => k_is)
    (case l__law_refused => k_is)
    (case q__law_refused => k_is)
    (case k__law_refused => k_is)
    (case a_law => k_is)
    (case l_law => k_is)
    (case q_law => k_is)
    (case k_law => k_is)
    (case aC_House => k_is)
    (case pg_House => k_is)
    (case hd_House => k_is)
    (case po_House => k_is)
    (case sa_House => k_is)
    (case nf_House_by_name => k_is)
    (case nf_House_declared => k_is)
    (case nf_House_kind_row => k_is)
    (case nf_House_pieces_here => k_is)
    (case nf_House_rank_row => k_is)
    (case nf_House_thing_row => k_is)
    (case nf_House_thing_texts => k_is)
    (case mt_House_add => k_is)
    (case mt_House_tongue_named => k_is)
    (case mt_House_tongues => k_is)
    (case mk_House => k_is)
    (case in_House => k_is)
    (case kc_House => k_is)
    (case aC_Tongue => k_is)
    (case pg_Tongue => k_is)
    (case hd_Tongue => k_is)
    (case po_Tongue => k_is)
    (case sa_Tongue => k_is)
    (case nf_Tongue_calendar => k_is)
    (case nf_Tongue_dayform => k_is)
    (case nf_Tongue_falls => k_is)
    (case nf_Tongue_figures => k_is)
    (case nf_Tongue_joiners => k_is)
    (case nf_Tongue_name => k_is)
    (case nf_Tongue_rules => k_is)
    (case mk_Tongue => k_is)
    (case in_Tongue => k_is)
    (case kc_Tongue => k_is)
    (case i_House___init__ => k_is)
    (case l_House___init__ => k_is)
    (case q_House___init__ => k_is)
    (case k_House___init__ => k_is)
    (case i_Tongue___init__ => k_is)
    (case l_Tongue___init__ => k_is)
    (case q_Tongue___init__ => k_is)
    (case k_Tongue___init__ => k_is)
    (case i_House_add => k_is)
    (case l_House_add => k_is)
    (case q_House_add => k_is)
    (case k_House_add => k_is)
    (case i_House_tongue_named => k_is)
    (case l_House_tongue_named => k_is)
    (case q_House_tongue_named => k_is)
    (case k_House_tongue_named => k_is)
    (case i_House_tongues => k_is)
    (case l_House_tongues => k_is)
    (case q_House_tongues => k_is)
    (case k_House_tongues => k_is)
    (case aC_NoTongue => k_is)
    (case xbe_NoTongue => k_is)
    (case xhd_NoTongue => k_is)
    (case xty_NoTongue => k_is)
    (case aC_SayError => k_is)
    (case xbe_SayError => k_is)
    (case xhd_SayError => k_is)
    (case xty_SayError => k_is)
    (case xex_NoTongue => k_exc)
    (case xkp_NoTongue => k_is)
    (case xve_NoTongue => k_is)
    (case xme_NoTongue => k_is)
    (case xg2_NoTongue => k_is)
    (case xk2_NoTongue => k_is)
    (case xa2_NoTongue => k_is)
    (case xm2_NoTongue => k_is)
    (case xsp => k_is)
    (case xta => k_is)
    (case xs_NoTongue_SayError => k_is)
    (case z_ValueError => k_is)
    (case z_len => k_is)
    (case z_isinstance => k_is)
    (case z_str => k_is)
    (case z_int => k_is)
    (case z_bool => k_is)
    (case z_list => k_is)
    (case z_tuple => k_is)
    (case z_dict => k_is)
    (case z_set => k_is)
    (case z_range => k_is)
    (case z_enumerate => k_is)
    (case z_zip => k_is)
    (case z_reversed => k_is)
    (case z_sorted => k_is)
    (case z_sum => k_is)
    (case z_all => k_is)
    (case z_any => k_is)
    (case z_abs => k_is)
    (case z_max => k_is)
    (case z_min => k_is)
    (case z_ord => k_is)
    (case z_divmod => k_is)
    (case z_repr => k_is)
