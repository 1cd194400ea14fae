import PyProof.Rows.All
import Wide.All
import OpenK.AllK
import Wide.FinOn
import HandS.ForMost
import HandS.ForExc
import HandS.Wide
import HandS.IsInst
import HandS.StrMore
import HandS.Conv
import HandS.Deep
import HandS.TupAny
import HandS.Style
import HandS.WideBits
import HandS.EndBits
import KE.KDictKeyed
import HandS.ExcIs
import HandS.TryOnly
import HandS.HotCalls
import HandS.MakeKw
import HandS.Rev
import KE.IntTextLaws
import KE.KIntText
import HandS.Dict
import HandS.More
import KE.GoesZip
import HandS.Replace
import PyProof.MinMaxWalk
import PyProof.WalkInts
import PyProof.SeqI3
import KE.DataMinMax
import HandS.SortKw
import HandS.SetFor
import HandS.Strs
import HandS.NoneIn
import HandS.SetTxt0
import KE.KDictWalk
import KE.GoesDict
import KE.KDictDisplayH
import KE.KDictCopyH
import KE.SortData
import HandS.TupSets
import KE.KDictSum
import HandS.ClsMeth
import HandS.Head0
import HandS.Head1
import HandS.Head2
import HandS.HeadEnd
import HandS.HeadHook1
import HandS.HeadHook2
import HandS.HeadHook3
import HandS.HeadHook4
import HandS.TupLen
import PyProof.ReprRoads
import Wide.Once
import PyProof.ReprLen
import PySem.Challenge.RW_saywell_k51_tongues_and_words
set_option Elab.async false
set_option linter.all false
set_option maxRecDepth 100000
set_option autoImplicit false
set_option maxHeartbeats 4000000
namespace DL
open PySem PySem.Spec PyProof.Rows L2
inductive D where
  | non | bl (b : Bool) | int (i : Int) | str (s : List Nat)
  | lst (ds : List D) | tup (ds : List D) | scr (ns : List Int) | dic (es : List (D × D)) | obj (c : Nat) (fs : List (Nat × D)) | ty (n : String) | err (a : Addr) (c : Nat) | loc (n : Nat)
instance : Inhabited D := ⟨.non⟩
def tx (s : List Nat) : Str := ⟨s.toArray⟩
theorem tx_cps (x : Str) : tx x.cps.toList = x := rfl
theorem cps_tx (s : List Nat) : (tx s).cps.toList = s := rfl
theorem tx_inj {s t : List Nat} (h : tx s = tx t) : s = t := by
  have := congrArg (fun x : Str => x.cps.toList) h
  exact this
theorem tx_len (s : List Nat) : (tx s).length = s.length := by simp [tx, Str.length]
theorem tx_app (s t : List Nat) : tx s ++ tx t = tx (s ++ t) := by
  show Str.append (tx s) (tx t) = _
  simp [Str.append, tx]
def nmL : Nat → Nat → List Nat → List Nat
  | 0, _, acc => acc
  | k + 1, n, acc => if n = 0 then acc else nmL k (n / 256) (n % 256 :: acc)
def nmS (n : Nat) : Str := tx (nmL 64 n [])
def nmV (l : List Nat) (a : Nat) : Nat := l.foldl (fun a c => a * 256 + c) a
theorem nmL_val : ∀ (k n : Nat) (acc : List Nat), n < 256 ^ k → nmV (nmL k n acc) 0 = nmV acc n
  | 0, n, acc, h => by
    have : n = 0 := by simpa using h
    subst this; rfl
  | k + 1, n, acc, h => by
    unfold nmL
    split
    · rename_i h0; rw [h0]
    · rw [nmL_val k (n / 256) _ (by rw [Nat.pow_succ] at h; omega)]
      show nmV acc (n / 256 * 256 + n % 256) = _
      congr 1; omega
abbrev okN (n : Nat) : Prop := n < 256 ^ 64
theorem nmS_inj {n m : Nat} (h : okN n) (h' : okN m) (e : nmS n = nmS m) : n = m := by
  have e1 : nmV (nmL 64 n []) 0 = nmV (nmL 64 m []) 0 := congrArg (fun l => nmV l 0) (tx_inj e)
  rw [nmL_val 64 n [] h, nmL_val 64 m [] h'] at e1
  exact e1
structure Gx where
  K : PySem.W.Frag
  mg : Str → Option Value
  w : World
structure Fz where
  f : Hp
  m : List Addr
instance : CoeFun Fz (fun _ => Addr → Option HO) := ⟨Fz.f⟩
instance : Coe Fz Hp := ⟨Fz.f⟩
def Fz.up (F : Fz) (p : Addr) (u : HO) : Fz := ⟨upd F.f p u, F.m⟩
def SmF (F F' : Fz) : Prop := Same F.f F'.f ∧ F.m <+: F'.m
theorem SmF.refl (F : Fz) : SmF F F := ⟨Same.refl _, List.prefix_refl _⟩
theorem SmF.trans {F F1 F2 : Fz} (a : SmF F F1) (b : SmF F1 F2) : SmF F F2 := ⟨a.1.trans b.1, a.2.trans b.2⟩
theorem SmF.free {F F' : Fz} (e : SmF F F') {p : Addr} (h : F' p = none) : F p = none := e.1.free h
theorem SmF.of {f f' : Hp} {m : List Addr} (h : Same f f') : SmF ⟨f, m⟩ ⟨f', m⟩ := ⟨h, List.prefix_refl _⟩
theorem SmF.up {F : Fz} {f' : Hp} (h : Same F.f f') : SmF F ⟨f', F.m⟩ := ⟨h, List.prefix_refl _⟩
theorem pre_get {m m' : List Addr} (h : m <+: m') {n : Nat} {a : Addr} (e : m[n]? = some a) : m'[n]? = some a := by
  obtain ⟨t, rfl⟩ := h
  have hn : n < m.length := (List.getElem?_eq_some_iff.mp e).1
  rw [List.getElem?_append_left hn]; exact e
def okS (s : List Nat) : Bool := s.all (· < 1114112)
theorem okS_app {s t : List Nat} (h : okS s = true) (h' : okS t = true) : okS (s ++ t) = true := by
  unfold okS at *; rw [List.all_append, h, h']; rfl
theorem okS_sub {s t : List Nat} (h : okS s = true) (i : ∀ c ∈ t, c ∈ s) : okS t = true := by
  unfold okS at *
  rw [List.all_eq_true] at h ⊢
  exact fun c m => h c (i c m)
def okK : Key → Bool
  | .inl _ => true
  | .inr x => okS x.cps.toList
def keyD : Key → D
  | .inl i => .int i
  | .inr x => .str x.cps.toList
mutual
inductive Rp (G : Gx) (F : Fz) : V → D → Prop
  | non : Rp G F .non .non
  | bl (b : Bool) : Rp G F (.bl b) (.bl b)
  | int (i : Int) : Rp G F (.int i) (.int i)
  | str (s : List Nat) (h : okS s = true) : Rp G F (.str (tx s)) (.str s)
  | ty (n : String) : Rp G F (.ty n) (.ty n)
  | err (a : Addr) (c : Nat) : Rp G F (.ref a) (.err a c)
  | loc {a : Addr} {n : Nat} : F.m[n]? = some a → Rp G F (.ref a) (.loc n)
  | lst {a : Addr} {xs : List V} {ds : List D} : F a = some (.lst xs) → RpAll G F xs ds → Rp G F (.ref a) (.lst ds)
  | tup {a : Addr} {xs : List V} {ds : List D} : SqT G.K F.f a xs → RpAll G F xs ds → Rp G F (.ref a) (.tup ds)
  | scr {a : Addr} {ns : List Int} : SqL G.K F.f a (ns.map V.int) → Rp G F (.ref a) (.scr ns)
  | dicK {a : Addr} {od : Obj} {kvs : List (Key × V)} {es : List (D × D)} : F a = some (.frz od (.dK kvs)) → RpK G F kvs es → Rp G F (.ref a) (.dic es)
  | obj {a dx C : Addr} {c : Nat} {fs : List (Str × V)} {es : List (Nat × D)} : F a = some (.ins C dx fs) → F dx = some (.own a) → G.mg (nmS c) = some (.ref C) → RpF G F fs es → Rp G F (.ref a) (.obj c es)
inductive RpAll (G : Gx) (F : Fz) : List V → List D → Prop
  | nil : RpAll G F [] []
  | cons {v : V} {vs : List V} {d : D} {ds : List D} : Rp G F v d → RpAll G F vs ds → RpAll G F (v :: vs) (d :: ds)
inductive RpK (G : Gx) (F : Fz) : List (Key × V) → List (D × D) → Prop
  | nil : RpK G F [] []
  | cons {k : Key} {v : V} {vs : List (Key × V)} {d : D} {ds : List (D × D)} : okK k = true → Rp G F v d → RpK G F vs ds → RpK G F ((k, v) :: vs) ((keyD k, d) :: ds)
inductive RpF (G : Gx) (F : Fz) : List (Str × V) → List (Nat × D) → Prop
  | nil : RpF G F [] []
  | cons {k : Nat} {v : V} {vs : List (Str × V)} {d : D} {ds : List (Nat × D)} : okN k → Rp G F v d → RpF G F vs ds → RpF G F ((nmS k, v) :: vs) ((k, d) :: ds)
end
theorem same_seqT {K : PySem.W.Frag} {H H' : Hp} {a : Addr} {xs : List V} (e : Same H H') (h : SqT K H a xs) : SqT K H' a xs := by
  rcases h with (h | ⟨o, h⟩) | h
  · exact .inl (.inl (e _ _ h))
  · exact .inl (.inr ⟨o, e _ _ h⟩)
  · exact .inr h
mutual
theorem Rp.mono {G : Gx} {F F' : Fz} (e : SmF F F') : ∀ {v : V} {d : D}, Rp G F v d → Rp G F' v d
  | _, _, .non => .non
  | _, _, .bl b => .bl b
  | _, _, .int i => .int i
  | _, _, .str x h => .str x h
  | _, _, .ty n => .ty n
  | _, _, .err a c => .err a c
  | _, _, .loc h => .loc (pre_get e.2 h)
  | _, _, .lst h t => .lst (e.1 _ _ h) (RpAll.mono e t)
  | _, _, .tup h t => .tup (same_seqT e.1 h) (RpAll.mono e t)
  | _, _, .scr h => .scr (e.1.seq h)
  | _, _, .dicK h t => .dicK (e.1 _ _ h) (RpK.mono e t)
  | _, _, .obj h h' g t => .obj (e.1 _ _ h) (e.1 _ _ h') g (RpF.mono e t)
theorem RpAll.mono {G : Gx} {F F' : Fz} (e : SmF F F') : ∀ {vs : List V} {ds : List D}, RpAll G F vs ds → RpAll G F' vs ds
  | _, _, .nil => .nil
  | _, _, .cons h t => .cons (Rp.mono e h) (RpAll.mono e t)
theorem RpK.mono {G : Gx} {F F' : Fz} (e : SmF F F') : ∀ {vs : List (Key × V)} {ds : List (D × D)}, RpK G F vs ds → RpK G F' vs ds
  | _, _, .nil => .nil
  | _, _, .cons o h t => .cons o (Rp.mono e h) (RpK.mono e t)
theorem RpF.mono {G : Gx} {F F' : Fz} (e : SmF F F') : ∀ {vs : List (Str × V)} {ds : List (Nat × D)}, RpF G F vs ds → RpF G F' vs ds
  | _, _, .nil => .nil
  | _, _, .cons o h t => .cons o (Rp.mono e h) (RpF.mono e t)
end
section
variable {G : Gx} {F : Fz}
theorem RpAll.length : ∀ {vs : List V} {ds : List D}, RpAll G F vs ds → vs.length = ds.length
  | _, _, .nil => rfl
  | _, _, .cons _ t => congrArg Nat.succ (RpAll.length t)
theorem RpAll.append : ∀ {vs ws : List V} {ds es : List D}, RpAll G F vs ds → RpAll G F ws es → RpAll G F (vs ++ ws) (ds ++ es)
  | _, _, _, _, .nil, b => b
  | _, _, _, _, .cons h t, b => .cons h (RpAll.append t b)
theorem RpAll.one {v : V} {d : D} (h : Rp G F v d) : RpAll G F [v] [d] := .cons h .nil
theorem RpAll.get : ∀ {vs : List V} {ds : List D} {i : Nat} {d : D}, RpAll G F vs ds → ds[i]? = some d → ∃ v, vs[i]? = some v ∧ Rp G F v d
  | _, _, _, _, .nil, e => by simp at e
  | _, _, 0, _, .cons h _, e => by simp at e; subst e; exact ⟨_, rfl, h⟩
  | _, _, i + 1, _, .cons _ t, e => by
    obtain ⟨v, e', h⟩ := RpAll.get (i := i) t (by simpa using e)
    exact ⟨v, by simpa using e', h⟩
theorem RpAll.take : ∀ {vs : List V} {ds : List D} (n : Nat), RpAll G F vs ds → RpAll G F (vs.take n) (ds.take n)
  | _, _, 0, _ => by simp; exact .nil
  | _, _, _ + 1, .nil => .nil
  | _, _, n + 1, .cons h t => .cons h (RpAll.take n t)
theorem RpAll.drop : ∀ {vs : List V} {ds : List D} (n : Nat), RpAll G F vs ds → RpAll G F (vs.drop n) (ds.drop n)
  | _, _, 0, h => h
  | _, _, _ + 1, .nil => .nil
  | _, _, n + 1, .cons _ t => RpAll.drop n t
theorem RpAll.set : ∀ {vs : List V} {ds : List D} (n : Nat) {v : V} {d : D}, RpAll G F vs ds → Rp G F v d → RpAll G F (vs.set n v) (ds.set n d)
  | _, _, _, _, _, .nil, _ => .nil
  | _, _, 0, _, _, .cons _ t, h => .cons h t
  | _, _, n + 1, _, _, .cons h' t, h => .cons h' (RpAll.set n t h)
theorem rp_ints (G : Gx) (F : Fz) : ∀ ns : List Int, RpAll G F (ns.map V.int) (ns.map D.int)
  | [] => .nil
  | n :: r => .cons (.int n) (rp_ints G F r)
theorem rp_bools_inv : ∀ {vs : List V} {ns : List Bool}, RpAll G F vs (ns.map D.bl) → vs = ns.map V.bl
  | [], [], _ => rfl
  | [], _ :: _, h => by cases h
  | _ :: _, [], h => by cases h
  | v :: vs, n :: ns, h => by
    cases h with
    | cons h t =>
      cases h
      rw [rp_bools_inv t]; rfl
end
inductive Ow where
  | l (ds : List D) | k (es : List (D × D))
inductive OwRel (G : Gx) (F : Fz) : HO → Ow → Prop
  | l {xs : List V} {ds : List D} : RpAll G F xs ds → OwRel G F (.lst xs) (.l ds)
  | kK {xs : List (Key × V)} {ds : List (D × D)} : RpK G F xs ds → OwRel G F (.dK xs) (.k ds)
theorem OwRel.mono {G : Gx} {F F' : Fz} (e : SmF F F') {u : HO} {o : Ow} (h : OwRel G F u o) : OwRel G F' u o := by
  cases h with
  | l t => exact .l (t.mono e)
  | kK t => exact .kK (t.mono e)
def Ow.d : Ow → D
  | .l ds => .lst ds
  | .k es => .dic es
theorem OwRel.rp {G : Gx} {F : Fz} {u : HO} {ds : List D} {a : Addr} (h : OwRel G F u (.l ds)) (e : F a = some u) : Rp G F (.ref a) (.lst ds) := by
  cases h with
  | l t => exact .lst e t
mutual
def keyN : D → Option NestedKey
  | .non => some .none
  | .int i => some (.num i)
  | .str s => some (.text (tx s))
  | .tup ds => (keyNs ds).map .tup
  | _ => none
def keyNs : List D → Option (List NestedKey)
  | [] => some []
  | d :: r => match keyN d, keyNs r with
    | some k, some ks => some (k :: ks)
    | _, _ => none
end
def keyT (d : D) : Option NestedKey := match d with
  | .tup _ => match keyN d with
    | some k => if k.depth ≤ 8 then some k else none
    | none => none
  | _ => none
def TalO (w : World) (a : Addr) (kvs : List (NestedKey × Addr × V)) (ep : Nat) : HO := .ext fun h => kvs.length ≤ sizeLine ∧ (a == sysModules) = false ∧ ∃ us : List Value, Vals (kvs.map (·.2.2)) us ∧
  ∃ o es, h.get? a = some o ∧ o.ExactDict ∧ o.data = .dict es ep ∧ es.toList = (kvs.zip us).map (fun p => (⟨p.1.1.hash w, .ref p.1.2.1, p.2⟩ : DictEntry)) ∧ (kvs.map (·.1)).Nodup
theorem tal_not {w : World} {a : Addr} {kvs : List (NestedKey × Addr × V)} {ep : Nat} : ∀ x : Addr, TalO w a kvs ep ≠ HO.own x := fun x z => by
  unfold TalO at z; cases z
def IsTal (w : World) (H : Hp) (a : Addr) (kvs : List (NestedKey × Addr × V)) : Prop := ∃ ep, H a = some (TalO w a kvs ep)
inductive RpT (G : Gx) (F : Fz) : List (NestedKey × Addr × V) → List (D × D) → Prop
  | nil : RpT G F [] []
  | cons {k : NestedKey} {a : Addr} {v : V} {vs : List (NestedKey × Addr × V)} {d x : D} {es : List (D × D)} : keyT d = some k → Rp G F (.ref a) d → Rp G F v x → RpT G F vs es → RpT G F ((k, a, v) :: vs) ((d, x) :: es)
theorem RpT.mono {G : Gx} {F F' : Fz} (e : SmF F F') : ∀ {vs : List (NestedKey × Addr × V)} {es : List (D × D)}, RpT G F vs es → RpT G F' vs es
  | _, _, .nil => .nil
  | _, _, .cons k r x t => .cons k (r.mono e) (x.mono e) (RpT.mono e t)
inductive Ob where
  | o (w : Ow) | i (c : Nat) (fs : List (Nat × D)) | t (es : List (D × D)) | z (es : List (D × D))
def Ob.nz : Ob → Prop
  | .z _ => False
  | _ => True
abbrev Store := List Ob
def Ob.d : Ob → D
  | .o w => w.d
  | .i c fs => .obj c fs
  | .t _ => .non
  | .z _ => .non
def ObOk (G : Gx) (F : Fz) (H : Hp) (a : Addr) : Ob → Prop
  | .o w => ∃ u, H a = some u ∧ OwRel G F u w
  | .i c fs => ∃ C dx vs, H a = some (.ins C dx vs) ∧ H dx = some (.own a) ∧ G.mg (nmS c) = some (.ref C) ∧ RpF G F vs fs
  | .t es => ∃ kvs, IsTal G.w H a kvs ∧ RpT G F kvs es
  | .z es => ∃ kvs ep, F.f a = some (TalO G.w a kvs ep) ∧ H a = some (TalO G.w a kvs ep) ∧ RpT G F kvs es
theorem ObOk.grow {G : Gx} {F F' : Fz} {H H' : Hp} {a : Addr} {ob : Ob} (e : SmF F F') (k : Same H H') (h : ObOk G F H a ob) : ObOk G F' H' a ob := by
  cases ob with
  | o w => obtain ⟨u, h1, h2⟩ := h; exact ⟨u, k _ _ h1, h2.mono e⟩
  | i c fs => obtain ⟨C, dx, vs, h1, h2, h3, h4⟩ := h; exact ⟨C, dx, vs, k _ _ h1, k _ _ h2, h3, h4.mono e⟩
  | t es => obtain ⟨kvs, ⟨ep, h1⟩, h2⟩ := h; exact ⟨kvs, ⟨ep, k _ _ h1⟩, h2.mono e⟩
  | z es => obtain ⟨kvs, ep, h0, h1, h2⟩ := h; exact ⟨kvs, ep, e.1 _ _ h0, k _ _ h1, h2.mono e⟩
theorem ObOk.ex {G : Gx} {F : Fz} {H : Hp} {a : Addr} {ob : Ob} (h : ObOk G F H a ob) : ∃ u, H a = some u := by
  cases ob with
  | o w => obtain ⟨u, h1, h2⟩ := h; exact ⟨u, h1⟩
  | i c fs => obtain ⟨C, dx, vs, h1, _⟩ := h; exact ⟨_, h1⟩
  | t es => obtain ⟨kvs, ⟨ep, h1⟩, _⟩ := h; exact ⟨_, h1⟩
  | z es => obtain ⟨kvs, ep, _, h1, _⟩ := h; exact ⟨_, h1⟩
theorem ObOk.chg {G : Gx} {F : Fz} {H : Hp} {a p : Addr} {u : HO} {ob : Ob} (h : ObOk G F H a ob) (n : a ≠ p) (no : ∀ x : Addr, H p ≠ some (HO.own x)) : ObOk G F (upd H p u) a ob := by
  cases ob with
  | o w => obtain ⟨u, h1, h2⟩ := h; exact ⟨u, by rw [upd_ne n]; exact h1, h2⟩
  | i c fs =>
    obtain ⟨C, dx, vs, h1, h2, h3, h4⟩ := h
    have hd : dx ≠ p := fun z => no a (by rw [← z]; exact h2)
    exact ⟨C, dx, vs, by rw [upd_ne n]; exact h1, by rw [upd_ne hd]; exact h2, h3, h4⟩
  | t es => obtain ⟨kvs, ⟨ep, h1⟩, h2⟩ := h; exact ⟨kvs, ⟨ep, by rw [upd_ne n]; exact h1⟩, h2⟩
  | z es => obtain ⟨kvs, ep, h0, h1, h2⟩ := h; exact ⟨kvs, ep, h0, by rw [upd_ne n]; exact h1, h2⟩
inductive Sl where
  | no | d (x : D) | own (o : Ow)
def GrH (B f f' : Hp) : Prop := Same f f' ∧ ∀ a, f a = none → f' a ≠ none → B a = none
theorem GrH.refl {B F : Hp} : GrH B F F := ⟨Same.refl F, fun a h h' => absurd h h'⟩
theorem GrH.trans {B F F1 F2 : Hp} (a : GrH B F F1) (b : GrH B F1 F2) : GrH B F F2 := ⟨a.1.trans b.1, fun x h h' => by
  by_cases e : F1 x = none
  · exact b.2 x e h'
  · exact a.2 x h e⟩
theorem GrH.under {B H F F' : Hp} (e : Same B H) (g : GrH H F F') : GrH B F F' := ⟨g.1, fun a h h' => e.free (g.2 a h h')⟩
def Gr (B : Hp) (F F' : Fz) : Prop := SmF F F' ∧ ∀ a, F a = none → F' a ≠ none → B a = none
theorem Gr.refl {B : Hp} {F : Fz} : Gr B F F := ⟨SmF.refl F, fun a h h' => absurd h h'⟩
theorem Gr.trans {B : Hp} {F F1 F2 : Fz} (a : Gr B F F1) (b : Gr B F1 F2) : Gr B F F2 := ⟨a.1.trans b.1, fun x h h' => by
  by_cases e : F1 x = none
  · exact b.2 x e h'
  · exact a.2 x h e⟩
theorem Gr.under {B H : Hp} {F F' : Fz} (e : Same B H) (g : Gr H F F') : Gr B F F' := ⟨g.1, fun a h h' => e.free (g.2 a h h')⟩
theorem GrH.z {B : Hp} {F : Fz} {f' : Hp} (g : GrH B F.f f') : Gr B F ⟨f', F.m⟩ := ⟨.up g.1, g.2⟩
def SlOk (G : Gx) (B : Hp) (F : Fz) (H : Hp) (o : Option (Option V)) : Sl → Prop
  | .no => True
  | .d x => ∃ v, o = some (some v) ∧ Rp G F v x
  | .own w => ∃ p u, o = some (some (.ref p)) ∧ H p = some u ∧ F p = none ∧ B p = none ∧ OwRel G F u w ∧ p ∉ F.m
structure StOk (G : Gx) (B : Hp) (F : Fz) (H : Hp) (st : Store) : Prop where
  ml : F.m.length = st.length
  mn : F.m.Nodup
  ob : ∀ (n : Nat) (x : Ob) (a : Addr), st[n]? = some x → F.m[n]? = some a → (x.nz → F a = none) ∧ B a = none ∧ ObOk G F H a x
structure Ok (G : Gx) (B : Hp) (F : Fz) (σ : L2.St) (H : Hp) (S : List Sl) (st : Store) : Prop where
  fH : Same F.f H
  kp : Same B H
  so : StOk G B F H st
  len : σ.length = S.length
  sl : ∀ (i : Nat) (s : Sl), S[i]? = some s → SlOk G B F H σ[i]? s
  ap : ∀ (i j : Nat) (ds es : Ow) (p : Addr), S[i]? = some (.own ds) → S[j]? = some (.own es) → σ[i]? = some (some (.ref p)) → σ[j]? = some (some (.ref p)) → i = j
section
variable {G : Gx} {B H H' : Hp} {F F' : Fz} {f' : Hp} {σ : L2.St} {S : List Sl} {st : Store}
theorem StOk.has (o : StOk G B F H st) {n : Nat} {a : Addr} (h : F.m[n]? = some a) : ∃ x, st[n]? = some x ∧ (x.nz → F a = none) ∧ B a = none ∧ ObOk G F H a x := by
  have hn : n < st.length := by rw [← o.ml]; exact (List.getElem?_eq_some_iff.mp h).1
  exact ⟨_, List.getElem?_eq_getElem hn, o.ob n _ a (List.getElem?_eq_getElem hn) h⟩
theorem StOk.mem (o : StOk G B F H st) {a : Addr} (h : a ∈ F.m) : True ∧ (∃ u, H a = some u) ∧ ∃ (n : Nat) (x : Ob), F.m[n]? = some a ∧ st[n]? = some x ∧ B a = none ∧ ObOk G F H a x := by
  obtain ⟨n, hn⟩ := List.getElem?_of_mem h
  obtain ⟨x, e, h1, h2, h3⟩ := o.has hn
  exact ⟨trivial, h3.ex, n, x, hn, e, h2, h3⟩
theorem StOk.new (o : StOk G B F H st) {p : Addr} (h : H p = none) : p ∉ F.m := fun z => by
  obtain ⟨_, ⟨u, hu⟩, _⟩ := o.mem z
  rw [h] at hu; cases hu
theorem StOk.grow (o : StOk G B F H st) (g : GrH H F.f f') (k : Same H H') : StOk G B ⟨f', F.m⟩ H' st := by
  refine ⟨o.ml, o.mn, fun n x a e1 e2 => ?_⟩
  obtain ⟨h1, h2, h3⟩ := o.ob n x a e1 e2
  refine ⟨fun nz => ?_, h2, h3.grow (.up g.1) k⟩
  cases q : f' a with
  | none => exact q
  | some u =>
    have := g.2 a (h1 nz) (by rw [q]; simp)
    obtain ⟨u', hu⟩ := h3.ex
    rw [hu] at this; cases this
theorem Ok.grow (o : Ok G B F σ H S st) (g : GrH H F.f f') (k : Same H H') (f : Same f' H') : Ok G B ⟨f', F.m⟩ σ H' S st := by
  refine ⟨f, o.kp.trans k, o.so.grow g k, o.len, fun i s e => ?_, o.ap⟩
  have h := o.sl i s e
  cases s with
  | no => trivial
  | d x =>
    obtain ⟨v, e1, r⟩ := h
    exact ⟨v, e1, r.mono (.up g.1)⟩
  | own ds =>
    obtain ⟨p, xs, e1, h1, h2, h3, r, nm⟩ := h
    refine ⟨p, xs, e1, k _ _ h1, ?_, h3, r.mono (.up g.1), nm⟩
    cases q : f' p with
    | none => exact q
    | some u =>
      have := g.2 p h2 (by rw [q]; simp)
      rw [h1] at this; cases this
theorem same_new {H : Hp} {p : Addr} {o : HO} (h : H p = none) : Same H (upd H p o) := fun b u q => by rw [upd_ne (ne_of_none q h)]; exact q
theorem same_upd2 {F H : Hp} {p : Addr} {o : HO} (f : Same F H) : Same (upd F p o) (upd H p o) := fun b u q => by
  by_cases e : b = p
  · subst e; rw [upd_same] at q ⊢; exact q
  · rw [upd_ne e] at q ⊢; exact f _ _ q
theorem gr_new {F H : Hp} {p : Addr} {o : HO} (f : Same F H) (h : H p = none) : GrH H F (upd F p o) := ⟨same_new (f.free h), fun a h1 h2 => by
  by_cases e : a = p
  · subst e; exact h
  · rw [upd_ne e] at h2; exact absurd h1 h2⟩
theorem Ok.gnew (o : Ok G B F σ H S st) {p : Addr} {u : HO} (h : H p = none) : Ok G B (F.up p u) σ (upd H p u) S st := o.grow (gr_new o.fH h) (same_new h) (same_upd2 o.fH)
theorem Ok.gr (o : Ok G B F σ H S st) (g : GrH H F.f f') : Gr B F ⟨f', F.m⟩ := (g.under o.kp).z
theorem Ok.grN (o : Ok G B F σ H S st) {p : Addr} {u : HO} (h : H p = none) : Gr B F (F.up p u) := o.gr (gr_new o.fH h)
theorem Ok.junk (o : Ok G B F σ H S st) (k : Same H H') : Ok G B F σ H' S st := o.grow .refl k (o.fH.trans k)
theorem Ok.get {i : Nat} {x : D} (o : Ok G B F σ H S st) (e : S[i]? = some (.d x)) : ∃ v, σ[i]? = some (some v) ∧ Rp G F v x := o.sl i _ e
theorem set_lt {α : Type} {S : List α} {i j : Nat} {x s : α} (e : (S.set i x)[j]? = some s) (z : i = j) : i < S.length := by
  subst z
  have := (List.getElem?_eq_some_iff.mp e).1
  rw [List.length_set] at this; exact this
theorem Ok.set (o : Ok G B F σ H S st) (i : Nat) {v : V} {x : D} (r : Rp G F v x) : Ok G B F (σ.set i (some v)) H (S.set i (.d x)) st := by
  refine ⟨o.fH, o.kp, o.so, by rw [List.length_set, List.length_set]; exact o.len, fun j s e => ?_, fun j k ds es p e1 e2 e3 e4 => ?_⟩
  · by_cases hj : i = j
    · have hi := set_lt e hj
      subst hj
      rw [List.getElem?_set_self hi] at e
      cases e
      exact ⟨v, by rw [List.getElem?_set_self (by rw [o.len]; exact hi)], r⟩
    · rw [List.getElem?_set_ne hj] at e
      have h := o.sl j s e
      rw [List.getElem?_set_ne hj]
      exact h
  · have n1 : i ≠ j := fun z => by
      have hi := set_lt e1 z
      subst z
      rw [List.getElem?_set_self hi] at e1; cases e1
    have n2 : i ≠ k := fun z => by
      have hi := set_lt e2 z
      subst z
      rw [List.getElem?_set_self hi] at e2; cases e2
    rw [List.getElem?_set_ne n1] at e1 e3
    rw [List.getElem?_set_ne n2] at e2 e4
    exact o.ap j k ds es p e1 e2 e3 e4
theorem Ok.setOwnAt (o : Ok G B F σ H S st) (i : Nat) {p : Addr} {u : HO} {w : Ow} (h : H p = some u) (hF : F p = none) (hB : B p = none) (hm : p ∉ F.m) (r : OwRel G F u w)
    (no : ∀ (j : Nat) (es : Ow), S[j]? = some (.own es) → σ[j]? ≠ some (some (.ref p))) : Ok G B F (σ.set i (some (.ref p))) H (S.set i (.own w)) st := by
  refine ⟨o.fH, o.kp, o.so, by rw [List.length_set, List.length_set]; exact o.len, fun j s e => ?_, fun j k ds1 es p1 e1 e2 e3 e4 => ?_⟩
  · by_cases hj : i = j
    · have hi := set_lt e hj
      subst hj
      rw [List.getElem?_set_self hi] at e
      cases e
      exact ⟨p, u, by rw [List.getElem?_set_self (by rw [o.len]; exact hi)], h, hF, hB, r, hm⟩
    · rw [List.getElem?_set_ne hj] at e
      rw [List.getElem?_set_ne hj]
      exact o.sl j s e
  · by_cases hj : i = j
    · by_cases hk : i = k
      · exact hj.symm.trans hk
      · have hi := set_lt e1 hj
        subst hj
        rw [List.getElem?_set_self (by rw [o.len]; exact hi)] at e3
        rw [List.getElem?_set_ne hk] at e2 e4
        have e5 : p1 = p := by
          have := Option.some.inj (Option.some.inj e3)
          exact (V.ref.inj this).symm
        exact absurd (by rw [← e5]; exact e4) (no k es e2)
    · by_cases hk : i = k
      · have hi := set_lt e2 hk
        subst hk
        rw [List.getElem?_set_self (by rw [o.len]; exact hi)] at e4
        rw [List.getElem?_set_ne hj] at e1 e3
        have e5 : p1 = p := by
          have := Option.some.inj (Option.some.inj e4)
          exact (V.ref.inj this).symm
        exact absurd (by rw [← e5]; exact e3) (no j ds1 e1)
      · rw [List.getElem?_set_ne hj] at e1 e3
        rw [List.getElem?_set_ne hk] at e2 e4
        exact o.ap j k ds1 es p1 e1 e2 e3 e4
theorem Ok.chg (o : Ok G B F σ H S st) {i : Nat} {p : Addr} {u : HO} {w w' : Ow} (e : S[i]? = some (.own w)) (ep : σ[i]? = some (some (.ref p))) (r : OwRel G F u w') : Ok G B F σ (upd H p u) (S.set i (.own w')) st := by
  obtain ⟨p', xs', e3, h1, h2, h3, hr, hm⟩ := o.sl i _ e
  rw [ep] at e3; cases e3
  have hi : i < S.length := (List.getElem?_eq_some_iff.mp e).1
  have old : ∀ (j : Nat) (es' : Ow), (S.set i (.own w'))[j]? = some (.own es') → ∃ ds', S[j]? = some (.own ds') := fun j es' q => by
    by_cases hj : i = j
    · subst hj; exact ⟨w, e⟩
    · rw [List.getElem?_set_ne hj] at q; exact ⟨es', q⟩
  have hno : ∀ x : Addr, H p ≠ some (HO.own x) := fun x z => by
    rw [h1] at z; cases z; cases hr
  refine ⟨fun b u q => ?_, fun b u q => ?_, ⟨o.so.ml, o.so.mn, fun n x a q1 q2 => ?_⟩, by rw [List.length_set]; exact o.len, fun j s q => ?_, fun j k ds1 es1 p1 q1 q2 q3 q4 => ?_⟩
  · rw [upd_ne (ne_of_none q h2)]; exact o.fH _ _ q
  · rw [upd_ne (ne_of_none q h3)]; exact o.kp _ _ q
  · obtain ⟨k1, k2, k3⟩ := o.so.ob n x a q1 q2
    exact ⟨k1, k2, k3.chg (fun z => hm (by rw [← z]; exact List.mem_of_getElem? q2)) hno⟩
  · by_cases hj : i = j
    · subst hj
      rw [List.getElem?_set_self hi] at q
      cases q
      exact ⟨p, u, ep, upd_same, h2, h3, r, hm⟩
    · rw [List.getElem?_set_ne hj] at q
      have w := o.sl j s q
      cases s with
      | no => trivial
      | d x => exact w
      | own es' =>
        obtain ⟨p2, xs2, a1, a2, a3, a4, a5, a6⟩ := w
        have : p2 ≠ p := fun z => hj (o.ap i j _ es' p2 e q (by rw [z]; exact ep) a1)
        exact ⟨p2, xs2, a1, by rw [upd_ne this]; exact a2, a3, a4, a5, a6⟩
  · obtain ⟨d1, b1⟩ := old j ds1 q1
    obtain ⟨d2, b2⟩ := old k es1 q2
    exact o.ap j k d1 d2 p1 b1 b2 q3 q4
theorem Ok.frz (o : Ok G B F σ H S st) {i : Nat} {ds : List D} (e : S[i]? = some (.own (.l ds))) : ∃ F' p, Gr B F F' ∧ Ok G B F' σ H (S.set i (.d (.lst ds))) st ∧ σ[i]? = some (some (.ref p)) ∧ Rp G F' (.ref p) (.lst ds) := by
  obtain ⟨p, u, ep, h1, h2, h3, r, hm⟩ := o.sl i _ e
  have sm0 : Same F.f (upd F.f p u) := same_new h2
  have sm : SmF F (F.up p u) := .up sm0
  have hi : i < S.length := (List.getElem?_eq_some_iff.mp e).1
  have rr : Rp G (F.up p u) (.ref p) (.lst ds) := (r.mono sm).rp upd_same
  refine ⟨F.up p u, p, ⟨sm, fun a q1 q2 => ?_⟩, ⟨fun b u q => ?_, o.kp, ⟨o.so.ml, o.so.mn, fun n x a q1 q2 => ?_⟩, by rw [List.length_set]; exact o.len, fun j s q => ?_, fun j k ds1 es1 p1 q1 q2 q3 q4 => ?_⟩, ep, rr⟩
  · by_cases z : a = p
    · subst z; exact h3
    · have q2 : upd F.f p u a ≠ none := q2
      rw [upd_ne z] at q2; exact absurd q1 q2
  · have q : upd F.f p _ b = _ := q
    by_cases z : b = p
    · subst z; rw [upd_same] at q; cases q; exact h1
    · rw [upd_ne z] at q; exact o.fH _ _ q
  · obtain ⟨k1, k2, k3⟩ := o.so.ob n x a q1 q2
    have z : a ≠ p := fun z => hm (by rw [← z]; exact List.mem_of_getElem? q2)
    exact ⟨fun nz => by show upd F.f p u a = none; rw [upd_ne z]; exact k1 nz, k2, k3.grow sm (Same.refl H)⟩
  · by_cases hj : i = j
    · subst hj
      rw [List.getElem?_set_self hi] at q
      cases q
      exact ⟨_, ep, rr⟩
    · rw [List.getElem?_set_ne hj] at q
      have w := o.sl j s q
      cases s with
      | no => trivial
      | d x =>
        obtain ⟨v, a1, a2⟩ := w
        exact ⟨v, a1, a2.mono sm⟩
      | own es' =>
        obtain ⟨p2, xs2, a1, a2, a3, a4, a5, a6⟩ := w
        have : p2 ≠ p := fun z => hj (o.ap i j _ es' p2 e q (by rw [z]; exact ep) a1)
        exact ⟨p2, xs2, a1, a2, by show upd F.f p u p2 = none; rw [upd_ne this]; exact a3, a4, a5.mono sm, a6⟩
  · have n1 : i ≠ j := fun z => by subst z; rw [List.getElem?_set_self hi] at q1; cases q1
    have n2 : i ≠ k := fun z => by subst z; rw [List.getElem?_set_self hi] at q2; cases q2
    rw [List.getElem?_set_ne n1] at q1
    rw [List.getElem?_set_ne n2] at q2
    exact o.ap j k ds1 es1 p1 q1 q2 q3 q4
theorem Ok.drop (o : Ok G B F σ H S st) (i : Nat) : Ok G B F σ H (S.set i .no) st := by
  refine ⟨o.fH, o.kp, o.so, by rw [List.length_set]; exact o.len, fun j s q => ?_, fun j k ds1 es1 p1 q1 q2 q3 q4 => ?_⟩
  · by_cases hj : i = j
    · have hi := set_lt q hj
      subst hj
      rw [List.getElem?_set_self hi] at q
      cases q
      trivial
    · rw [List.getElem?_set_ne hj] at q
      exact o.sl j s q
  · have f : ∀ {j : Nat} {d : Ow}, (S.set i .no)[j]? = some (.own d) → S[j]? = some (.own d) := fun {j d} q => by
      by_cases z : i = j
      · have hi := set_lt q z
        subst z
        rw [List.getElem?_set_self hi] at q; cases q
      · rw [List.getElem?_set_ne z] at q; exact q
    exact o.ap j k ds1 es1 p1 (f q1) (f q2) q3 q4
theorem Ok.frzAtU (o : Ok G B F σ H S st) {p : Addr} {u : HO} (h : H p = some u) (hno : ∀ x : Addr, u ≠ HO.own x) (u' : HO) (hF : F p = none) (hB : B p = none) (hm : p ∉ F.m) (no : ∀ (j : Nat) (es : Ow), S[j]? = some (.own es) → σ[j]? ≠ some (some (.ref p))) :
    Gr B F (F.up p u') ∧ Ok G B (F.up p u') σ (upd H p u') S st := by
  have sm : SmF F (F.up p u') := .up (same_new hF)
  have hno' : ∀ x : Addr, H p ≠ some (HO.own x) := fun x z => by rw [h] at z; exact hno x (Option.some.inj z)
  refine ⟨⟨sm, fun a q1 q2 => ?_⟩, same_upd2 o.fH, fun b v q => ?_, ⟨o.so.ml, o.so.mn, fun n x a q1 q2 => ?_⟩, o.len, fun j s q => ?_, o.ap⟩
  · by_cases z : a = p
    · rw [z]; exact hB
    · exact absurd q1 (by
        have q2 : upd F.f p u' a ≠ none := q2
        rw [upd_ne z] at q2; exact q2)
  · rw [upd_ne (ne_of_none q hB)]; exact o.kp _ _ q
  · obtain ⟨k1, k2, k3⟩ := o.so.ob n x a q1 q2
    have z : a ≠ p := fun z => hm (by rw [← z]; exact List.mem_of_getElem? q2)
    refine ⟨fun nz => ?_, k2, (k3.chg (u := u') z hno').grow sm (Same.refl _)⟩
    show upd F.f p u' a = none
    rw [upd_ne z]; exact k1 nz
  · have w := o.sl j s q
    cases s with
    | no => trivial
    | d x => exact w.imp fun v a => ⟨a.1, a.2.mono sm⟩
    | own es' =>
      obtain ⟨p2, xs2, a1, a2, a3, a4, a5, a6⟩ := w
      have ne : p2 ≠ p := fun z => no j _ q (by rw [a1, z])
      refine ⟨p2, xs2, a1, by rw [upd_ne ne]; exact a2, ?_, a4, a5.mono sm, a6⟩
      show upd F.f p u' p2 = none
      rw [upd_ne ne]; exact a3
theorem set_at {α : Type} {l : List α} {i : Nat} {x : α} (h : l[i]? = some x) : l.set i x = l := by
  apply List.ext_getElem?
  intro j
  by_cases c : i = j
  · subst c
    rw [List.getElem?_set_self (List.getElem?_eq_some_iff.mp h).1, h]
  · rw [List.getElem?_set_ne c]
theorem Ok.frzK (o : Ok G B F σ H S st) {i : Nat} {es : List (D × D)} (e : S[i]? = some (.own (.k es))) : ∃ p kvs, σ[i]? = some (some (.ref p)) ∧ H p = some (.dK kvs) ∧
    ∀ od, ∃ F', Gr B F F' ∧ Ok G B F' σ (upd H p (.frz od (.dK kvs))) (S.set i (.d (.dic es))) st ∧ Rp G F' (.ref p) (.dic es) := by
  obtain ⟨p, u, ep, h1, h2, h3, r, hm⟩ := o.sl i _ e
  cases r with
  | kK t =>
    rename_i kvs
    refine ⟨p, kvs, ep, h1, fun od => ?_⟩
    have od1 := o.drop i
    obtain ⟨g, o2⟩ := od1.frzAtU h1 (fun _ z => nomatch z) (.frz od (.dK kvs)) h2 h3 hm fun j es' q z => by
      by_cases c : i = j
      · subst c
        rw [List.getElem?_set_self (List.getElem?_eq_some_iff.mp e).1] at q; cases q
      · rw [List.getElem?_set_ne c] at q
        exact c (o.ap i j _ _ p e q ep z)
    have rr : Rp G (F.up p (.frz od (.dK kvs))) (.ref p) (.dic es) := .dicK upd_same (t.mono g.1)
    have o3 := o2.set i rr
    rw [set_at ep, List.set_set] at o3
    exact ⟨_, g, o3, rr⟩
theorem Ok.any (o : Ok G B F σ H S st) (i : Nat) (x : Option V) : Ok G B F (σ.set i x) H (S.set i .no) st := by
  refine ⟨o.fH, o.kp, o.so, by rw [List.length_set, List.length_set]; exact o.len, fun j s q => ?_, fun j k ds1 es1 p1 q1 q2 q3 q4 => ?_⟩
  · by_cases hj : i = j
    · have hi := set_lt q hj
      subst hj
      rw [List.getElem?_set_self hi] at q
      cases q
      trivial
    · rw [List.getElem?_set_ne hj] at q ⊢
      exact o.sl j s q
  · have f : ∀ {j : Nat} {d : Ow}, (S.set i .no)[j]? = some (.own d) → i ≠ j := fun {j d} q z => by
      have hi := set_lt q z
      subst z
      rw [List.getElem?_set_self hi] at q; cases q
    have n1 := f q1
    have n2 := f q2
    rw [List.getElem?_set_ne n1] at q1 q3
    rw [List.getElem?_set_ne n2] at q2 q4
    exact o.ap j k ds1 es1 p1 q1 q2 q3 q4
end
end DL
namespace DL
open PySem PySem.Spec PyProof.Rows L2
structure Exc where
  c : Nat
  fs : List (Nat × D)
abbrev Sls := List Sl
inductive Res (α : Type) where
  | ok (a : α) (S : Sls) (st : Store)
  | exc (x : Exc) (S : Sls) (st : Store)
  | stuck
def Res.bind {α β : Type} (r : Res α) (k : α → Sls → Store → Res β) : Res β :=
  match r with
  | .ok a S st => k a S st
  | .exc x S st => .exc x S st
  | .stuck => .stuck
@[simp] theorem Res.bind_ok {α β : Type} (a : α) (S : Sls) (st : Store) (k : α → Sls → Store → Res β) : (Res.ok a S st).bind k = k a S st := rfl
@[simp] theorem Res.bind_exc {α β : Type} (x : Exc) (S : Sls) (st : Store) (k : α → Sls → Store → Res β) : (Res.exc x S st : Res α).bind k = .exc x S st := rfl
@[simp] theorem Res.bind_stuck {α β : Type} (k : α → Sls → Store → Res β) : (Res.stuck : Res α).bind k = .stuck := rfl
inductive Out where
  | nx (S : Sls) (st : Store)
  | ret (d : D) (S : Sls) (st : Store)
  | bk (S : Sls) (st : Store)
  | ct (S : Sls) (st : Store)
  | rto (w : Ow) (S : Sls) (st : Store)
  | exc (x : Exc) (S : Sls) (st : Store)
  | stuck
def Res.out {α : Type} (r : Res α) (k : α → Sls → Store → Out) : Out :=
  match r with
  | .ok a S st => k a S st
  | .exc x S st => .exc x S st
  | .stuck => .stuck
@[simp] theorem Res.out_ok {α : Type} (a : α) (S : Sls) (st : Store) (k : α → Sls → Store → Out) : (Res.ok a S st).out k = k a S st := rfl
@[simp] theorem Res.out_exc {α : Type} (x : Exc) (S : Sls) (st : Store) (k : α → Sls → Store → Out) : (Res.exc x S st : Res α).out k = .exc x S st := rfl
@[simp] theorem Res.out_stuck {α : Type} (k : α → Sls → Store → Out) : (Res.stuck : Res α).out k = .stuck := rfl
def Out.then (r : Out) (k : Sls → Store → Out) : Out :=
  match r with
  | .nx S st => k S st
  | r => r
@[simp] theorem Out.then_nx (S : Sls) (st : Store) (k : Sls → Store → Out) : (Out.nx S st).then k = k S st := rfl
@[simp] theorem Out.then_ret (d : D) (S : Sls) (st : Store) (k : Sls → Store → Out) : (Out.ret d S st).then k = .ret d S st := rfl
@[simp] theorem Out.then_bk (S : Sls) (st : Store) (k : Sls → Store → Out) : (Out.bk S st).then k = .bk S st := rfl
@[simp] theorem Out.then_rto (w : Ow) (S : Sls) (st : Store) (k : Sls → Store → Out) : (Out.rto w S st).then k = .rto w S st := rfl
@[simp] theorem Out.then_ct (S : Sls) (st : Store) (k : Sls → Store → Out) : (Out.ct S st).then k = .ct S st := rfl
@[simp] theorem Out.then_exc (x : Exc) (S : Sls) (st : Store) (k : Sls → Store → Out) : (Out.exc x S st).then k = .exc x S st := rfl
@[simp] theorem Out.then_stuck (k : Sls → Store → Out) : Out.stuck.then k = .stuck := rfl
abbrev Ev (α : Type) := Sls → Store → Res α
abbrev EvS := Sls → Store → Out
abbrev CallT := List D → Store → Res D
inductive Opd where
  | v (d : D) | s (i : Nat) | h (n : Nat)
def XRel (G : Gx) (F : Fz) (x : Exc) (cls : Value) (dd : Option Addr) (H : Hp) : Prop :=
  ∃ C, G.mg (nmS x.c) = some (.ref C) ∧ cls = .ref C ∧ ((x.fs = [] ∧ dd = none) ∨ (x.fs ≠ [] ∧ ∃ a vs, dd = some a ∧ H a = some (.xd vs) ∧ RpF G F vs x.fs))
section
variable (G : Gx) (B : Hp) (W : WX)
def Post {α β : Type} (R : Fz → β → α → Prop) (σ : L2.St) (F : Fz) (Q : β → Hp → Prop) : Res α → Prop
  | .ok d S' st' => ∀ v H' F', Gr B F F' → Ok G B F' σ H' S' st' → R F' v d → Q v H'
  | .exc x S' st' => ∀ cls dd H' F', Gr B F F' → Ok G B F' σ H' S' st' → XRel G F' x cls dd H' → W cls dd σ H'
  | .stuck => False
def PostS (F : Fz) (D : Ends) : Out → Prop
  | .nx S' st' => ∀ σ' H' F', Gr B F F' → Ok G B F' σ' H' S' st' → D.nx σ' H'
  | .ret d S' st' => ∀ v σ' H' F', Gr B F F' → Ok G B F' σ' H' S' st' → Rp G F' v d → D.rt v H'
  | .bk S' st' => ∀ σ' H' F', Gr B F F' → Ok G B F' σ' H' S' st' → D.bk σ' H'
  | .ct S' st' => ∀ σ' H' F', Gr B F F' → Ok G B F' σ' H' S' st' → D.ct σ' H'
  | .rto w S' st' => ∀ p u σ' H' F', Gr B F F' → Ok G B F' σ' H' S' st' → H' p = some u → F' p = none → B p = none → OwRel G F' u w → p ∉ F'.m → D.rt (.ref p) H'
  | .exc x S' st' => ∀ cls dd σ' H' F', Gr B F F' → Ok G B F' σ' H' S' st' → XRel G F' x cls dd H' → W cls dd σ' H'
  | .stuck => False
end
section
variable {G : Gx} {B : Hp} {W : WX}
theorem Post.grow {α β : Type} {R : Fz → β → α → Prop} {σ : L2.St} {F F' : Fz} {Q : β → Hp → Prop} {r : Res α} (g : Gr B F F') (h : Post G B W R σ F Q r) : Post G B W R σ F' Q r := by
  cases r with
  | ok d S st => exact fun v H' F2 g2 o r => h v H' F2 (g.trans g2) o r
  | exc x S st => exact fun c d H' F2 g2 o r => h c d H' F2 (g.trans g2) o r
  | stuck => exact h
theorem PostS.grow {F F' : Fz} {D : Ends} {r : Out} (g : Gr B F F') (h : PostS G B W F D r) : PostS G B W F' D r := by
  cases r with
  | nx S st => exact fun σ' H' F2 g2 o => h σ' H' F2 (g.trans g2) o
  | bk S st => exact fun σ' H' F2 g2 o => h σ' H' F2 (g.trans g2) o
  | ct S st => exact fun σ' H' F2 g2 o => h σ' H' F2 (g.trans g2) o
  | rto w S st => exact fun p u σ' H' F2 g2 o => h p u σ' H' F2 (g.trans g2) o
  | ret d S st => exact fun v σ' H' F2 g2 o r => h v σ' H' F2 (g.trans g2) o r
  | exc x S st => exact fun c d σ' H' F2 g2 o r => h c d σ' H' F2 (g.trans g2) o r
  | stuck => exact h
theorem Post.bind {α β γ δ : Type} {R : Fz → β → α → Prop} {R' : Fz → δ → γ → Prop} {σ : L2.St} {F : Fz} {Q : δ → Hp → Prop} {r : Res α} {k : α → Sls → Store → Res γ} (h : Post G B W R' σ F Q (r.bind k)) :
    Post G B W R σ F (fun v H1 => ∃ F1 d S1 st1, Gr B F F1 ∧ Ok G B F1 σ H1 S1 st1 ∧ R F1 v d ∧ Post G B W R' σ F1 Q (k d S1 st1)) r := by
  cases r with
  | ok d S st => exact fun v H' F' g o r => ⟨F', d, S, st, g, o, r, Post.grow g h⟩
  | exc x S st => exact h
  | stuck => exact h
theorem Post.out {α β : Type} {R : Fz → β → α → Prop} {σ : L2.St} {F : Fz} {Dn : Ends} {r : Res α} {k : α → Sls → Store → Out} (h : PostS G B W F Dn (r.out k)) :
    Post G B W R σ F (fun v H1 => ∃ F1 d S1 st1, Gr B F F1 ∧ Ok G B F1 σ H1 S1 st1 ∧ R F1 v d ∧ PostS G B W F1 Dn (k d S1 st1)) r := by
  cases r with
  | ok d S st => exact fun v H' F' g o r => ⟨F', d, S, st, g, o, r, PostS.grow g h⟩
  | exc x S st => exact fun c d H' F' g o r => h c d σ H' F' g o r
  | stuck => exact h
theorem Post.mono {α β : Type} {R : Fz → β → α → Prop} {σ : L2.St} {F : Fz} {Q Q' : β → Hp → Prop} {r : Res α} (h : Post G B W R σ F Q r) (i : ∀ v H, Q v H → Q' v H) : Post G B W R σ F Q' r := by
  cases r with
  | ok d S st => exact fun v H' F' g o r => i _ _ (h v H' F' g o r)
  | exc x S st => exact h
  | stuck => exact h
end
def lift {α β : Type} (G : Gx) (B : Hp) (W : WX) (R : L2.St → Fz → β → α → Prop) (f : Ev α) : L2.St → Hp → (β → Hp → Prop) → Prop := fun σ H Q =>
  ∃ F S st, Ok G B F σ H S st ∧ Post G B W (R σ) σ F Q (f S st)
def liftS (G : Gx) (B : Hp) (W : WX) (f : EvS) : TS := fun D σ H => ∃ F S st, Ok G B F σ H S st ∧ PostS G B W F D (f S st)
def RD (G : Gx) : L2.St → Fz → V → D → Prop := fun _ F v d => Rp G F v d
def RO (G : Gx) : L2.St → Fz → V → Opd → Prop := fun σ F v o => match o with
  | .v d => Rp G F v d
  | .s i => σ[i]? = some (some v)
  | .h n => ∃ a, F.m[n]? = some a ∧ v = .ref a
inductive RpO (G : Gx) (σ : L2.St) (F : Fz) : List V → List Opd → Prop
  | nil : RpO G σ F [] []
  | cons {v : V} {vs : List V} {o : Opd} {os : List Opd} : RO G σ F v o → RpO G σ F vs os → RpO G σ F (v :: vs) (o :: os)
theorem RO.mono {G : Gx} {σ : L2.St} {F F' : Fz} {v : V} {o : Opd} (e : SmF F F') (h : RO G σ F v o) : RO G σ F' v o := by
  cases o with
  | v d => exact Rp.mono e h
  | s i => exact h
  | h n =>
    obtain ⟨a, h1, h2⟩ := h
    exact ⟨a, pre_get e.2 h1, h2⟩
theorem RpO.mono {G : Gx} {σ : L2.St} {F F' : Fz} (e : SmF F F') : ∀ {vs : List V} {os : List Opd}, RpO G σ F vs os → RpO G σ F' vs os
  | _, _, .nil => .nil
  | _, _, .cons h t => .cons (h.mono e) (RpO.mono e t)
abbrev Cx.g (X : Cx) : Gx := ⟨X.K, X.mg, X.w⟩
def vw (S : Sls) (st : Store) : Opd → Option D
  | .v d => some d
  | .s i => match S[i]? with
    | some (.d d) => some d
    | some (.own w) => some w.d
    | _ => none
  | .h n => match st[n]? with
    | some (.t _) => none
    | some (.z _) => none
    | some x => some x.d
    | none => none
def vd (S : Sls) : Opd → Option D
  | .v d => some d
  | .s i => match S[i]? with
    | some (.d d) => some d
    | _ => none
  | .h n => some (.loc n)
def vws (S : Sls) (st : Store) : List Opd → Option (List D)
  | [] => some []
  | o :: r => match vw S st o, vws S st r with
    | some d, some ds => some (d :: ds)
    | _, _ => none
def vds (S : Sls) : List Opd → Option (List D)
  | [] => some []
  | o :: r => match vd S o, vds S r with
    | some d, some ds => some (d :: ds)
    | _, _ => none
def Vw (G : Gx) (F : Fz) (H : Hp) (v : V) (d : D) : Prop := Rp G F v d ∨ (∃ p u w, v = .ref p ∧ H p = some u ∧ OwRel G F u w ∧ d = w.d) ∨ ∃ p c fs, v = .ref p ∧ ObOk G F H p (.i c fs) ∧ d = .obj c fs
inductive VwAll (G : Gx) (F : Fz) (H : Hp) : List V → List D → Prop
  | nil : VwAll G F H [] []
  | cons {v : V} {vs : List V} {d : D} {ds : List D} : Vw G F H v d → VwAll G F H vs ds → VwAll G F H (v :: vs) (d :: ds)
section
variable {G : Gx} {B : Hp} {F : Fz} {H : Hp} {σ : L2.St} {S : Sls} {st : Store}
theorem Ok.vw (o : Ok G B F σ H S st) {v : V} {a : Opd} {d : D} (r : RO G σ F v a) (e : vw S st a = some d) : Vw G F H v d := by
  cases a with
  | v x => simp [DL.vw] at e; subst e; exact .inl r
  | s i =>
    have r : σ[i]? = some (some v) := r
    simp only [DL.vw] at e
    split at e
    · rename_i x hx
      cases e
      obtain ⟨v', e1, q⟩ := o.sl i _ hx
      rw [r] at e1; cases e1
      exact .inl q
    · rename_i w hx
      cases e
      obtain ⟨p, u, e1, q1, q2, q3, q, _⟩ := o.sl i _ hx
      rw [r] at e1; cases e1
      exact .inr (.inl ⟨p, u, w, rfl, q1, q, rfl⟩)
    · cases e
  | h n =>
    obtain ⟨a, h1, h2⟩ := r
    simp only [DL.vw] at e
    obtain ⟨x, e1, k1, k2, k3⟩ := o.so.has h1
    rw [e1] at e
    cases x with
    | o w => cases e; obtain ⟨u, q1, q2⟩ := k3; exact .inr (.inl ⟨a, u, w, h2, q1, q2, rfl⟩)
    | i c fs => cases e; exact .inr (.inr ⟨a, c, fs, h2, k3, rfl⟩)
    | t es => cases e
    | z es => cases e
theorem Ok.vd (o : Ok G B F σ H S st) {v : V} {a : Opd} {d : D} (r : RO G σ F v a) (e : vd S a = some d) : Rp G F v d := by
  cases a with
  | v x => simp [DL.vd] at e; subst e; exact r
  | s i =>
    have r : σ[i]? = some (some v) := r
    simp only [DL.vd] at e
    split at e
    · rename_i x hx
      cases e
      obtain ⟨v', e1, q⟩ := o.sl i _ hx
      rw [r] at e1; cases e1
      exact q
    · cases e
  | h n =>
    obtain ⟨a, h1, h2⟩ := r
    simp only [DL.vd] at e
    cases e
    subst h2
    exact .loc h1
theorem Ok.vws (o : Ok G B F σ H S st) : ∀ {vs : List V} {as : List Opd} {ds : List D}, RpO G σ F vs as → vws S st as = some ds → VwAll G F H vs ds
  | _, _, _, .nil, e => by simp [DL.vws] at e; subst e; exact .nil
  | _, _, _, .cons h t, e => by
    simp only [DL.vws] at e
    split at e
    · rename_i a b ha hb
      cases e
      exact .cons (o.vw h ha) (Ok.vws o t hb)
    · cases e
theorem Ok.vds (o : Ok G B F σ H S st) : ∀ {vs : List V} {as : List Opd} {ds : List D}, RpO G σ F vs as → vds S as = some ds → RpAll G F vs ds
  | _, _, _, .nil, e => by simp [DL.vds] at e; subst e; exact .nil
  | _, _, _, .cons h t, e => by
    simp only [DL.vds] at e
    split at e
    · rename_i a b ha hb
      cases e
      exact .cons (o.vd h ha) (Ok.vds o t hb)
    · cases e
end
def DE (X : Cx) (B : Hp) (W : WX) (e : Expr) (f : Ev D) : Prop := PE X e (lift (Cx.g X) B W (RD (Cx.g X)) f)
def DO (X : Cx) (B : Hp) (W : WX) (e : Expr) (f : Ev Opd) : Prop := PE X e (lift (Cx.g X) B W (RO (Cx.g X)) f)
def DA (X : Cx) (B : Hp) (W : WX) (es : List Expr) (f : Ev (List Opd)) : Prop := PA X es (lift (Cx.g X) B W (RpO (Cx.g X)) f)
def RB : L2.St → Fz → Bool → Bool → Prop := fun _ _ v d => v = d
def DT (X : Cx) (B : Hp) (W : WX) (e : Expr) (f : Ev Bool) : Prop := PT X e (lift (Cx.g X) B W RB f)
def DW (X : Cx) (B : Hp) (W : WX) (e : Expr) (f : Ev Bool) : Prop := PW X e (lift (Cx.g X) B W RB f)
def DS (X : Cx) (B : Hp) (W : WX) (s : Stmt) (f : EvS) : Prop := PS X s (liftS (Cx.g X) B W f)
def DSs (X : Cx) (B : Hp) (W : WX) (s : List Stmt) (f : EvS) : Prop := PSs X s (liftS (Cx.g X) B W f)
theorem pe_imp {X : Cx} {e : Expr} {t t' : TE} (h : PE X e t) (i : ∀ σ H Q, t' σ H Q → t σ H Q) : PE X e t' := ⟨fun pins s σ H Q I q => h.run pins s σ H Q I (i σ H Q q)⟩
theorem pt_imp {X : Cx} {e : Expr} {t t' : TT} (h : PT X e t) (i : ∀ σ H Q, t' σ H Q → t σ H Q) : PT X e t' := ⟨fun pins s σ H Q I q => h.run pins s σ H Q I (i σ H Q q)⟩
theorem pw_imp {X : Cx} {e : Expr} {t t' : TT} (h : PW X e t) (i : ∀ σ H Q, t' σ H Q → t σ H Q) : PW X e t' := ⟨fun wh pins s σ H Q I q => h.run wh pins s σ H Q I (i σ H Q q)⟩
theorem pa_imp {X : Cx} {es : List Expr} {t t' : TA} (h : PA X es t) (i : ∀ σ H Q, t' σ H Q → t σ H Q) : PA X es t' := ⟨fun pos pins s σ H Q I q => h.run pos pins s σ H Q I (i σ H Q q)⟩
theorem ps_imp {X : Cx} {s : Stmt} {t t' : TS} (h : PS X s t) (i : ∀ D σ H, t' D σ H → t D σ H) : PS X s t' := ⟨fun pins sh σ H D I q => h.run pins sh σ H D I (i D σ H q)⟩
theorem pss_imp {X : Cx} {s : List Stmt} {t t' : TS} (h : PSs X s t) (i : ∀ D σ H, t' D σ H → t D σ H) : PSs X s t' := ⟨fun pins sh σ H D I q => h.run pins sh σ H D I (i D σ H q)⟩
section
variable {X : Cx} {B : Hp} {W : WX} {e a b c : Expr} {es : List Expr} {pos : Pos}
def kE (d : D) : Ev D := fun S st => .ok d S st
def vE (i : Nat) : Ev D := fun S st => match S[i]? with
  | some (.d d) => .ok d S st
  | _ => .stuck
def zE (i : Nat) : Ev D := fun S st => match S[i]? with
  | some (.d d) => .ok d S st
  | some (.own w) => .ok w.d (S.set i (.d w.d)) st
  | _ => .stuck
def oV (f : Ev D) : Ev Opd := fun S st => (f S st).bind fun d S st => .ok (.v d) S st
def oS (i : Nat) : Ev Opd := fun S st => match S[i]? with
  | some .no => .stuck
  | none => .stuck
  | _ => .ok (.s i) S st
theorem de_k {v : V} {d : D} (h : PE X e (tC v)) (r : ∀ F, Rp (Cx.g X) F v d) : DE X B W e (kE d) :=
  pe_imp h fun σ H Q ⟨F, S, st, o, q⟩ => q v H F .refl o (r F)
theorem de_non {j} : DE X B W (.Constant .none j pos) (kE .non) := de_k pe_non fun _ => .non
theorem de_bl {t j} : DE X B W (.Constant (.bool t) j pos) (kE (.bl t)) := de_k pe_bl fun _ => .bl _
theorem de_int {i j} : DE X B W (.Constant (.int i) j pos) (kE (.int i)) := de_k pe_int fun _ => .int _
theorem de_str {x j} (s : List Nat) (h : x = tx s := by rfl) (o : okS s = true := by decide) : DE X B W (.Constant (.str x) j pos) (kE (.str s)) := by
  subst h; exact de_k pe_str fun _ => .str _ o
theorem de_v {i : Nat} (h : PE X e (tVar i)) : DE X B W e (vE i) := pe_imp h fun σ H Q ⟨F, S, st, o, q⟩ => by
  unfold vE at q
  split at q
  · rename_i d hd
    obtain ⟨v, e1, r⟩ := o.sl i _ hd
    exact ⟨v, e1, q v H F .refl o r⟩
  · exact q.elim
def LkQ (Q : VK) : VK := fun v H => Q v H ∨ ∃ p kvs, v = .ref p ∧ H p = some (.dK kvs) ∧ ∀ od, Q v (upd H p (.frz od (.dK kvs)))
theorem pe_lk {te : TE} (h : PE X e te) : PE X e fun σ H Q => te σ H (LkQ Q) := ⟨fun pins s σ H Q I hw => thn (h.run pins s σ H _ I hw) fun u s1 ⟨x, H1, I1, r, q⟩ => by
  rcases q with q | ⟨p, kvs, e1, hp, q⟩
  · exact ⟨x, H1, I1, r, q⟩
  · obtain ⟨od, I2⟩ := I1.lock hp trivial
    exact ⟨x, _, I2, r, q od⟩⟩
theorem de_z {i : Nat} (h : PE X e (tVar i)) : DE X B W e (zE i) := pe_imp (pe_lk h) fun σ H Q ⟨F, S, st, o, q⟩ => by
  unfold zE at q
  split at q
  · rename_i d hd
    obtain ⟨v, e1, r⟩ := o.sl i _ hd
    exact ⟨v, e1, .inl (q v H F .refl o r)⟩
  · rename_i w hw
    cases w with
    | l ds =>
      obtain ⟨F', p, g, o', e1, r⟩ := o.frz hw
      exact ⟨_, e1, .inl (q _ H F' g o' r)⟩
    | k es =>
      obtain ⟨p, kvs, e1, hp, k⟩ := o.frzK hw
      refine ⟨_, e1, .inr ⟨p, kvs, rfl, hp, fun od => ?_⟩⟩
      obtain ⟨F', g, o', r⟩ := k od
      exact q _ _ F' g o' r
  · exact q.elim
theorem do_v {f : Ev D} (h : DE X B W e f) : DO X B W e (oV f) := pe_imp h fun σ H Q ⟨F, S, st, o, q⟩ =>
  ⟨F, S, st, o, (Post.bind (R := RD (Cx.g X) σ) q).mono fun v H1 ⟨F1, d, S1, st1, g, o1, r, p⟩ => p v H1 F1 .refl o1 r⟩
theorem do_s {i : Nat} (h : PE X e (tVar i)) : DO X B W e (oS i) := pe_imp h fun σ H Q ⟨F, S, st, o, q⟩ => by
  unfold oS at q
  split at q
  · exact q.elim
  · exact q.elim
  · rename_i n1 n2
    cases hs : S[i]? with
    | none => exact absurd hs n2
    | some s =>
      have h := o.sl i s hs
      cases s with
      | no => exact absurd hs n1
      | d x =>
        obtain ⟨v, e1, r⟩ := h
        exact ⟨v, e1, q v H F .refl o e1⟩
      | own w =>
        obtain ⟨p, u, e1, _⟩ := h
        exact ⟨_, e1, q _ H F .refl o e1⟩
def aN : Ev (List Opd) := fun S st => .ok [] S st
def aC (f : Ev Opd) (g : Ev (List Opd)) : Ev (List Opd) := fun S st => (f S st).bind fun a S st => (g S st).bind fun r S st => .ok (a :: r) S st
theorem da_n : DA X B W [] aN := pa_imp pa_nil fun σ H Q ⟨F, S, st, o, q⟩ => q [] H F .refl o .nil
theorem da_c {f : Ev Opd} {g : Ev (List Opd)} (h : DO X B W e f) (t : DA X B W es g) (hs : starEach (e :: es) X.env = (false, eval e X.env) :: starEach es X.env := by rfl) : DA X B W (e :: es) (aC f g) :=
  pa_imp (pa_cons h t hs) fun σ H Q ⟨F, S, st, o, q⟩ => ⟨F, S, st, o, (Post.bind (R := RO (Cx.g X) σ) q).mono fun v H1 ⟨F1, d, S1, st1, g1, o1, r1, p1⟩ =>
    ⟨F1, S1, st1, o1, (Post.bind (R := RpO (Cx.g X) σ) p1).mono fun vs H2 ⟨F2, ds, S2, st2, g2, o2, r2, p2⟩ => p2 _ H2 F2 .refl o2 (.cons (r1.mono g2.1) r2)⟩⟩
end
def Gives (r : VK → Prop) (G : Gx) (F : Fz) (H : Hp) (d : D) : Prop := ∀ Q : VK, (∀ v' H' (f' : Hp), Same H H' → Same f' H' → GrH H F.f f' → Rp G ⟨f', F.m⟩ v' d → Q v' H') → r Q
def Op2 (G : Gx) (r : R2) (op : D → D → Option D) : Prop := ∀ (F : Fz) H v w x y d, Same F.f H → Vw G F H v x → Vw G F H w y → op x y = some d → Gives (r v w H) G F H d
def Op1 (G : Gx) (r : V → Hp → VK → Prop) (op : D → Option D) : Prop := ∀ (F : Fz) H v x d, Same F.f H → Vw G F H v x → op x = some d → Gives (r v H) G F H d
def OpA (G : Gx) (r : List V → Hp → VK → Prop) (op : List D → Option D) : Prop := ∀ (F : Fz) H vs xs d, Same F.f H → VwAll G F H vs xs → op xs = some d → Gives (r vs H) G F H d
def OpM (G : Gx) (r : V → List V → Hp → VK → Prop) (op : D → List D → Option D) : Prop := ∀ (F : Fz) H v vs x xs d, Same F.f H → Vw G F H v x → VwAll G F H vs xs → op x xs = some d → Gives (r v vs H) G F H d
def got {α : Type} (o : Option α) (S : Sls) (st : Store) : Res α := match o with
  | some d => .ok d S st
  | none => .stuck
@[simp] theorem got_some {α : Type} (d : α) (S : Sls) (st : Store) : got (some d) S st = .ok d S st := rfl
@[simp] theorem got_none {α : Type} (S : Sls) (st : Store) : got (none : Option α) S st = .stuck := rfl
theorem Gives.fin {r : VK → Prop} {G : Gx} {B : Hp} {F : Fz} {H : Hp} {W : WX} {σ : L2.St} {S : Sls} {st : Store} {d : D} {Q : VK} (g : Gives r G F H d) (o : Ok G B F σ H S st) (p : Post G B W (RD G σ) σ F Q (.ok d S st)) : r Q :=
  g Q fun v' H' F' k f gr rr => p v' H' _ (o.gr gr) (o.grow gr k f) rr
def o2E (op : D → D → Option D) (fa fb : Ev Opd) : Ev D := fun S st => (fa S st).bind fun a S st => (fb S st).bind fun b S st =>
  match vw S st a, vw S st b with
  | some x, some y => got (op x y) S st
  | _, _ => .stuck
def o1E (op : D → Option D) (fa : Ev Opd) : Ev D := fun S st => (fa S st).bind fun a S st =>
  match vw S st a with
  | some x => got (op x) S st
  | _ => .stuck
def oAE (op : List D → Option D) (fa : Ev (List Opd)) : Ev D := fun S st => (fa S st).bind fun a S st =>
  match vws S st a with
  | some x => got (op x) S st
  | _ => .stuck
def oME (op : D → List D → Option D) (fo : Ev Opd) (fa : Ev (List Opd)) : Ev D := fun S st => (fo S st).bind fun o S st => (fa S st).bind fun a S st =>
  match vw S st o, vws S st a with
  | some y, some x => got (op y x) S st
  | _, _ => .stuck
theorem got_ok {α β : Type} {G : Gx} {B : Hp} {F : Fz} {W : WX} {σ : L2.St} {R : Fz → β → α → Prop} {Q : β → Hp → Prop} {x : Option α} {S : Sls} {st : Store} (p : Post G B W R σ F Q (got x S st)) : ∃ d, x = some d ∧ Post G B W R σ F Q (.ok d S st) := by
  cases x with
  | none => exact p.elim
  | some d => exact ⟨d, rfl, p⟩
section
variable {X : Cx} {B : Hp} {W : WX} {e a b c : Expr} {es : List Expr} {pos : Pos}
theorem op2_lift {r : R2} {op : D → D → Option D} {fa fb : Ev Opd} (h : Op2 (Cx.g X) r op) {σ : L2.St} {H : Hp} {Q : VK} (q : lift (Cx.g X) B W (RD (Cx.g X)) (o2E op fa fb) σ H Q) :
    tOp r (lift (Cx.g X) B W (RO (Cx.g X)) fa) (lift (Cx.g X) B W (RO (Cx.g X)) fb) σ H Q := by
  obtain ⟨F, S, st, o, q⟩ := q
  refine ⟨F, S, st, o, (Post.bind (R := RO (Cx.g X) σ) q).mono fun v H1 ⟨F1, d, S1, st1, g1, o1, r1, p1⟩ => ⟨F1, S1, st1, o1, (Post.bind (R := RO (Cx.g X) σ) p1).mono fun w H2 ⟨F2, d2, S2, st2, g2, o2, r2, p2⟩ => ?_⟩⟩
  split at p2
  · rename_i x y hx hy
    obtain ⟨z, hz, p2⟩ := got_ok p2
    exact (h F2 H2 v w x y z o2.fH (o2.vw (r1.mono g2.1) hx) (o2.vw r2 hy) hz).fin o2 p2
  · exact p2.elim
theorem de_bin {o : Operator} {r : R2} {op : D → D → Option D} {fa fb : Ev Opd} (ho : OpR X (binaryOp o) r) (h : Op2 (Cx.g X) r op) (ha : DO X B W a fa) (hb : DO X B W b fb) : DE X B W (.BinOp a o b pos) (o2E op fa fb) :=
  pe_imp (pe_op ho ha hb) fun _ _ _ q => op2_lift h q
theorem de_cmp {o : CmpOp} {r : R2} {op : D → D → Option D} {fa fb : Ev Opd} (ho : OpR X (compareOp o) r) (h : Op2 (Cx.g X) r op) (ha : DO X B W a fa) (hb : DO X B W b fb) (hm : behindInMarks o b = false) : DE X B W (.Compare a [o] [b] pos) (o2E op fa fb) :=
  pe_imp (pe_cmpR ho ha hb hm) fun _ _ _ q => op2_lift h q
def tV (f : Ev D) : Ev Bool := fun S st => (f S st).bind fun d S st => match d with
  | .bl k => .ok k S st
  | _ => .stuck
theorem test_lift {t : TE} {f : Ev D} {σ : L2.St} {H : Hp} {Q : Bool → Hp → Prop} (i : ∀ σ H Q, lift (Cx.g X) B W (RD (Cx.g X)) f σ H Q → t σ H Q) (q : lift (Cx.g X) B W RB (tV f) σ H Q) : tTest t σ H Q := by
  obtain ⟨F, S, st, o, q⟩ := q
  refine i σ H _ ⟨F, S, st, o, (Post.bind (R := RD (Cx.g X) σ) q).mono fun v H1 ⟨F1, d, S1, st1, g1, o1, r1, p1⟩ => ?_⟩
  split at p1
  · cases r1
    exact ⟨_, rfl, p1 _ H1 F1 .refl o1 rfl⟩
  · exact p1.elim
theorem dt_cmp {o : CmpOp} {r : R2} {op : D → D → Option D} {fa fb : Ev Opd} (ho : OpR X (compareOp o) r) (h : Op2 (Cx.g X) r op) (ha : DO X B W a fa) (hb : DO X B W b fb) (hm : behindInMarks o b = false) : DT X B W (.Compare a [o] [b] pos) (tV (o2E op fa fb)) :=
  pt_imp (pt_cmpR ho ha hb hm) fun _ _ _ q => test_lift (fun _ _ _ q => op2_lift h q) q
theorem de_ix {r : R2} {op : D → D → Option D} {fa fb : Ev Opd} (ho : IxR X r) (h : Op2 (Cx.g X) r op) (ha : DO X B W a fa) (hb : DO X B W b fb) (hs : PlainIx b := by exact fun _ _ => rfl) : DE X B W (.Subscript a b pos) (o2E op fa fb) :=
  pe_imp (pe_ix ho ha hb hs) fun _ _ _ q => op2_lift h q
theorem de_un {o : UnaryOp} {r : V → Hp → VK → Prop} {op : D → Option D} {fa : Ev Opd} (ho : UnR X (unaryOp o) r) (h : Op1 (Cx.g X) r op) (ha : DO X B W a fa) : DE X B W (.UnaryOp o a pos) (o1E op fa) :=
  pe_imp (pe_un ho ha) fun σ H Q ⟨F, S, st, o, q⟩ => ⟨F, S, st, o, (Post.bind (R := RO (Cx.g X) σ) q).mono fun v H1 ⟨F1, d, S1, st1, g1, o1, r1, p1⟩ => by
    split at p1
    · rename_i x hx
      obtain ⟨z, hz, p1⟩ := got_ok p1
      exact (h F1 H1 v x z o1.fH (o1.vw r1 hx) hz).fin o1 p1
    · exact p1.elim⟩
theorem opA_lift {r : List V → Hp → VK → Prop} {op : List D → Option D} {fa : Ev (List Opd)} (h : OpA (Cx.g X) r op) {σ : L2.St} {H : Hp} {Q : VK} (q : lift (Cx.g X) B W (RD (Cx.g X)) (oAE op fa) σ H Q) :
    tCB r (lift (Cx.g X) B W (RpO (Cx.g X)) fa) σ H Q := by
  obtain ⟨F, S, st, o, q⟩ := q
  refine ⟨F, S, st, o, (Post.bind (R := RpO (Cx.g X) σ) q).mono fun v H1 ⟨F1, d, S1, st1, g1, o1, r1, p1⟩ => ?_⟩
  split at p1
  · rename_i x hx
    obtain ⟨z, hz, p1⟩ := got_ok p1
    exact (h F1 H1 v x z o1.fH (o1.vws r1 hx) hz).fin o1 p1
  · exact p1.elim
theorem de_cb {x : Str} {p : Pos} {id : String} {r : List V → Hp → VK → Prop} {op : List D → Option D} {fa : Ev (List Opd)} (hc : CallR X (.builtin id) r) (h : OpA (Cx.g X) r op) (hm : X.mg x = none) (ha : DA X B W (e :: es) fa)
    (hg : Gl X x := by rfl) (hv : bootBuiltins x = some (.builtin id) := by decide +kernel) (hn : x ≠ "__name__" := by decide) (hdb : (x == ("__debug__" : Str)) = false := by decide)
    (he : starEach (e :: es) X.env = (false, eval e X.env) :: starEach es X.env := by rfl) (hpl : (backTo pos (starEach es X.env)).any (·.1) = false := by rfl) : DE X B W (.Call (.Name x p) (e :: es) [] pos) (oAE op fa) :=
  pe_imp (pe_callB hc hg hm hv ha hn hdb he hpl) fun _ _ _ q => opA_lift h q
def tyD (T : String) : D → Bool
  | .str _ => T == "str"
  | .int _ => T == "int"
  | .lst _ => T == "list"
  | .scr _ => T == "list"
  | .dic _ => T == "dict"
  | _ => false
def tyZ (K : PySem.W.Frag) (T : String) (x : V) (H : Hp) : Prop := tyV K T x H ∨ ∃ p od kvs, x = .ref p ∧ T = "dict" ∧ H p = some (.frz od (.dK kvs))
section
variable {X : Cx} {T id : String} {name : Str} {a e : Expr} {es : List Expr} {apos cpos : Pos} {r : V → List V → Hp → VK → Prop} {to : TE} {ta : TA}
end
theorem Vw.ty {G : Gx} {F : Fz} {H : Hp} {v : V} {d : D} {T : String} (h : Vw G F H v d) (f : Same F.f H) (t : tyD T d = true) : tyZ G.K T v H := by
  rcases h with h | ⟨p, u, w, rfl, hp, ow, rfl⟩ | ⟨p, c, fs, rfl, ho, rfl⟩
  · cases h with
    | str s _ => exact .inl (beq_iff_eq.mp t)
    | int i => exact .inl (beq_iff_eq.mp t)
    | lst e r => exact .inl (.inl ⟨beq_iff_eq.mp t, _, .inl (.inl (f _ _ e))⟩)
    | scr e => exact .inl (.inl ⟨beq_iff_eq.mp t, _, f.seq e⟩)
    | dicK e r => exact .inr ⟨_, _, _, rfl, beq_iff_eq.mp t, f _ _ e⟩
    | _ => cases t
  · cases ow with
    | l r => exact .inl (.inl ⟨beq_iff_eq.mp t, _, .inl (.inl hp)⟩)
    | kK r => exact .inl (.inr (.inr (.inl ⟨beq_iff_eq.mp t, .inl ⟨_, hp⟩⟩)))
  · cases t
def mE (T : String) (op : D → List D → Option D) (fo : Ev Opd) (fa : Ev (List Opd)) : Ev D := fun S st => (fo S st).bind fun o S st =>
  match vw S st o with
  | some y => if tyD T y = true then (fa S st).bind fun a S st =>
      match vw S st o, vws S st a with
      | some y, some x => got (op y x) S st
      | _, _ => .stuck
    else .stuck
  | _ => .stuck
def m0E (T : String) (op : D → Option D) (fo : Ev Opd) : Ev D := fun S st => (fo S st).bind fun o S st =>
  match vw S st o with
  | some y => if tyD T y = true then got (op y) S st else .stuck
  | _ => .stuck
end
end DL
namespace DL
open PySem PySem.Spec PyProof.Rows L2
def Res.calm {α : Type} : Res α → Res α
  | .exc _ _ _ => .stuck
  | r => r
@[simp] theorem Res.calm_ok {α : Type} (a : α) (S : Sls) (st : Store) : (Res.ok a S st).calm = .ok a S st := rfl
abbrev W0 : WX := fun _ _ _ _ => False
theorem Post.calm {G : Gx} {B : Hp} {W : WX} {α β : Type} {R : Fz → β → α → Prop} {σ : L2.St} {F : Fz} {Q : β → Hp → Prop} {r : Res α} (h : Post G B W R σ F Q r.calm) : Post G B W0 R σ F Q r := by
  cases r with
  | ok d S st => exact h
  | exc x S st => exact h.elim
  | stuck => exact h
section
variable {X : Cx} {B : Hp} {W : WX} {e a b c : Expr} {es : List Expr} {s : Stmt} {ss : List Stmt} {pos : Pos}
def tru : D → Option Bool
  | .non => some false
  | .bl b => some b
  | .int i => some (i != 0)
  | .str s => if s.length ≤ 16777216 then some (!s.isEmpty) else none
  | .lst ds => some (!ds.isEmpty)
  | .tup ds => some (!ds.isEmpty)
  | .scr ns => some (!ns.isEmpty)
  | _ => none
theorem isEmpty_all {G : Gx} {F : Fz} {xs : List V} {ds : List D} (r : RpAll G F xs ds) : xs.isEmpty = ds.isEmpty := by cases r <;> rfl
theorem Vw.tru {G : Gx} {F : Fz} {H : Hp} {v : V} {d : D} {k : Bool} (h : Vw G F H v d) (f : Same F.f H) (e : tru d = some k) : TruV G.K v H k := by
  rcases h with h | ⟨p, u, w, rfl, hp, ow, rfl⟩ | ⟨p, c, fs, rfl, ho, rfl⟩
  · cases h with
    | non => exact (Option.some.inj (show some _ = some k from e)).symm
    | bl => exact (Option.some.inj (show some _ = some k from e)).symm
    | int => exact (Option.some.inj (show some _ = some k from e)).symm
    | str s _ =>
      simp only [DL.tru] at e
      split at e
      · cases e
        refine ⟨by rw [tx_len, sizeLine_eq]; assumption, ?_⟩
        rw [tx_len]
        cases s with
        | nil => rfl
        | cons x r =>
          simp only [List.isEmpty_cons, Bool.not_false]
          have : (((x :: r).length : Nat) : Int) ≠ 0 := by simp only [List.length_cons]; omega
          exact (bne_iff_ne.mpr this).symm
      · cases e
    | lst e' r => have e := Option.some.inj (show some _ = some k from e); subst e; exact .inl ⟨_, .inl (.inl (f _ _ e')), by rw [isEmpty_all r]⟩
    | tup e' r => have e := Option.some.inj (show some _ = some k from e); subst e; exact .inr (.inl ⟨_, same_seqT f e', by rw [isEmpty_all r]⟩)
    | scr e' => have e := Option.some.inj (show some _ = some k from e); subst e; exact .inl ⟨_, f.seq e', by cases ‹List Int› <;> rfl⟩
    | _ => cases e
  · cases ow with
    | l r => have e := Option.some.inj (show some _ = some k from e); subst e; exact .inl ⟨_, .inl (.inl hp), by rw [isEmpty_all r]⟩
    | _ => cases e
  · cases e
def tT (f : Ev Opd) : Ev Bool := fun S st => (f S st).bind fun o S st => match vw S st o with
  | some d => got (tru d) S st
  | none => .stuck
theorem dt_t {f : Ev Opd} (h : DO X B W a f) (he : ∀ whole, isTrue a X.env whole = (do let v ← whole; standAt a.pos; holding [v] (truthy v)) := by exact fun _ => rfl) : DT X B W a (tT f) :=
  pt_imp (pt_truth h he) fun σ H Q ⟨F, S, st, o, q⟩ => ⟨F, S, st, o, (Post.bind (R := RO (Cx.g X) σ) q).mono fun v H1 ⟨F1, d, S1, st1, g1, o1, r1, p1⟩ => by
    split at p1
    · rename_i x hx
      obtain ⟨k, hk, p1⟩ := got_ok p1
      exact ⟨k, (o1.vw r1 hx).tru o1.fH hk, p1 k H1 F1 .refl o1 rfl⟩
    · exact p1.elim⟩
def tN (f : Ev Bool) : Ev Bool := fun S st => (f S st).bind fun b S st => .ok (!b) S st
theorem dt_n {f : Ev Bool} (h : DT X B W a f) : DT X B W (.UnaryOp .Not a pos) (tN f) :=
  pt_imp (pt_not h) fun σ H Q ⟨F, S, st, o, q⟩ => ⟨F, S, st, o, (Post.bind (R := RB σ) q).mono fun v H1 ⟨F1, d, S1, st1, g1, o1, r1, p1⟩ => by
    cases r1
    exact p1 _ H1 F1 .refl o1 rfl⟩
def tA (f g : Ev Bool) : Ev Bool := fun S st => (f S st).bind fun b S st => if b = true then g S st else .ok false S st
def tO (f g : Ev Bool) : Ev Bool := fun S st => (f S st).bind fun b S st => if b = true then .ok true S st else g S st
theorem dw_1a {f : Ev Bool} (h : DT X B W a f) : DW X B W (.BoolOp .And [a] pos) f := pw_and1 h
theorem dw_1o {f : Ev Bool} (h : DT X B W a f) : DW X B W (.BoolOp .Or [a] pos) f := pw_or1 h
theorem dw_a {rest : List Expr} {f g : Ev Bool} (h : DT X B W a f) (t : DW X B W (.BoolOp .And (b :: rest) pos) g) : DW X B W (.BoolOp .And (a :: b :: rest) pos) (tA f g) :=
  pw_imp (pw_and h t) fun σ H Q ⟨F, S, st, o, q⟩ => ⟨F, S, st, o, (Post.bind (R := RB σ) q).mono fun v H1 ⟨F1, d, S1, st1, g1, o1, r1, p1⟩ => by
    cases r1
    cases v with
    | true => exact ⟨F1, S1, st1, o1, p1⟩
    | false => exact p1 _ H1 F1 .refl o1 rfl⟩
theorem dw_o {rest : List Expr} {f g : Ev Bool} (h : DT X B W a f) (t : DW X B W (.BoolOp .Or (b :: rest) pos) g) : DW X B W (.BoolOp .Or (a :: b :: rest) pos) (tO f g) :=
  pw_imp (pw_or h t) fun σ H Q ⟨F, S, st, o, q⟩ => ⟨F, S, st, o, (Post.bind (R := RB σ) q).mono fun v H1 ⟨F1, d, S1, st1, g1, o1, r1, p1⟩ => by
    cases r1
    cases v with
    | false => exact ⟨F1, S1, st1, o1, p1⟩
    | true => exact p1 _ H1 F1 .refl o1 rfl⟩
theorem dt_w {f : Ev Bool} (h : DW X B W a f) : DT X B W a f := PW.pt h
def eA (f g : Ev D) : Ev D := fun S st => (f S st).bind fun d S st => match d with
  | .bl b => if b = true then g S st else .ok (.bl false) S st
  | _ => .stuck
def eO (f g : Ev D) : Ev D := fun S st => (f S st).bind fun d S st => match d with
  | .bl b => if b = true then .ok (.bl true) S st else g S st
  | _ => .stuck
def eN (f : Ev D) : Ev D := fun S st => (f S st).bind fun d S st => match d with
  | .bl b => .ok (.bl (!b)) S st
  | _ => .stuck
theorem de_1 {op} {f : Ev D} (h : DE X B W a f) : DE X B W (.BoolOp op [a] pos) f := pe_one h
theorem de_a {rest : List Expr} {f g : Ev D} (h : DE X B W a f) (t : DE X B W (.BoolOp .And (b :: rest) pos) g) : DE X B W (.BoolOp .And (a :: b :: rest) pos) (eA f g) :=
  pe_imp (pe_and h t) fun σ H Q ⟨F, S, st, o, q⟩ => ⟨F, S, st, o, (Post.bind (R := RD (Cx.g X) σ) q).mono fun v H1 ⟨F1, d, S1, st1, g1, o1, r1, p1⟩ => by
    split at p1
    · rename_i k
      cases r1
      refine ⟨_, rfl, ?_⟩
      cases k with
      | true => exact ⟨F1, S1, st1, o1, p1⟩
      | false => exact p1 _ H1 F1 .refl o1 (.bl _)
    · exact p1.elim⟩
def eI (t : Ev Bool) (f g : Ev D) : Ev D := fun S st => (t S st).bind fun b S st => if b = true then f S st else g S st
def PostF (G : Gx) (B : Hp) (W : WX) (σ : L2.St) (F : Fz) (Q : VK) : Res Ow → Prop
  | .ok w S' st' => ∀ p u H' F', Gr B F F' → Ok G B F' σ H' S' st' → H' p = some u → F' p = none → B p = none → OwRel G F' u w → p ∉ F'.m → (∀ (j : Nat) (es : Ow), S'[j]? = some (.own es) → σ[j]? ≠ some (some (.ref p))) → Q (.ref p) H'
  | .exc x S' st' => ∀ cls dd H' F', Gr B F F' → Ok G B F' σ H' S' st' → XRel G F' x cls dd H' → W cls dd σ H'
  | .stuck => False
def liftF (G : Gx) (B : Hp) (W : WX) (f : Ev Ow) : TE := fun σ H Q => ∃ F S st, Ok G B F σ H S st ∧ PostF G B W σ F Q (f S st)
def DF (X : Cx) (B : Hp) (W : WX) (e : Expr) (f : Ev Ow) : Prop := PE X e (liftF (Cx.g X) B W f)
theorem PostF.grow {G : Gx} {σ : L2.St} {F F' : Fz} {Q : VK} {r : Res Ow} (g : Gr B F F') (h : PostF G B W σ F Q r) : PostF G B W σ F' Q r := by
  cases r with
  | ok d S st => exact fun p u H' F2 g2 => h p u H' F2 (g.trans g2)
  | exc x S st => exact fun c d H' F2 g2 o r => h c d H' F2 (g.trans g2) o r
  | stuck => exact h
theorem PostF.bind {G : Gx} {α β : Type} {R : Fz → β → α → Prop} {σ : L2.St} {F : Fz} {Q : VK} {r : Res α} {k : α → Sls → Store → Res Ow} (h : PostF G B W σ F Q (r.bind k)) :
    Post G B W R σ F (fun v H1 => ∃ F1 d S1 st1, Gr B F F1 ∧ Ok G B F1 σ H1 S1 st1 ∧ R F1 v d ∧ PostF G B W σ F1 Q (k d S1 st1)) r := by
  cases r with
  | ok d S st => exact fun v H' F' g o r => ⟨F', d, S, st, g, o, r, PostF.grow g h⟩
  | exc x S st => exact h
  | stuck => exact h
theorem PostF.new {G : Gx} {σ : L2.St} {F : Fz} {H : Hp} {Q : VK} {S : Sls} {st : Store} {w : Ow} (o : Ok G B F σ H S st) (h : PostF G B W σ F Q (.ok w S st)) {p : Addr} {u : HO} (hp : H p = none) (r : OwRel G F u w) : Q (.ref p) (upd H p u) := by
  refine h p u _ F .refl (o.junk (same_new hp)) upd_same (o.fH.free hp) (o.kp.free hp) r (o.so.new hp) fun j es e1 e2 => ?_
  obtain ⟨p', xs', e3, h1, _⟩ := o.sl j _ e1
  rw [e2] at e3; cases e3
  rw [hp] at h1; cases h1
theorem Ok.frzAt {G : Gx} {F : Fz} {H : Hp} {σ : L2.St} {S : Sls} {st : Store} (o : Ok G B F σ H S st) {p : Addr} {u : HO} (h : H p = some u) (hF : F p = none) (hB : B p = none) (hm : p ∉ F.m) (no : ∀ (j : Nat) (es : Ow), S[j]? = some (.own es) → σ[j]? ≠ some (some (.ref p))) :
    Gr B F (F.up p u) ∧ Ok G B (F.up p u) σ H S st := by
  have sm : SmF F (F.up p u) := .up (same_new hF)
  refine ⟨⟨sm, fun a q1 q2 => ?_⟩, fun b u q => ?_, o.kp, ⟨o.so.ml, o.so.mn, fun n x a q1 q2 => ?_⟩, o.len, fun j s q => ?_, o.ap⟩
  · by_cases z : a = p
    · subst z; exact hB
    · have q2 : upd F.f p u a ≠ none := q2
      rw [upd_ne z] at q2; exact absurd q1 q2
  · have q : upd F.f p _ b = _ := q
    by_cases z : b = p
    · subst z; rw [upd_same] at q; cases q; exact h
    · rw [upd_ne z] at q; exact o.fH _ _ q
  · obtain ⟨k1, k2, k3⟩ := o.so.ob n x a q1 q2
    have z : a ≠ p := fun z => hm (by rw [← z]; exact List.mem_of_getElem? q2)
    exact ⟨fun nz => by show upd F.f p u a = none; rw [upd_ne z]; exact k1 nz, k2, k3.grow sm (Same.refl H)⟩
  · have w := o.sl j s q
    cases s with
    | no => trivial
    | d x =>
      obtain ⟨v, a1, a2⟩ := w
      exact ⟨v, a1, a2.mono sm⟩
    | own es' =>
      obtain ⟨p2, xs2, a1, a2, a3, a4, a5, a6⟩ := w
      have : p2 ≠ p := fun z => no j _ q (by rw [a1, z])
      exact ⟨p2, xs2, a1, a2, by show upd F.f p u p2 = none; rw [upd_ne this]; exact a3, a4, a5.mono sm, a6⟩
def fE (f : Ev Ow) : Ev D := fun S st => (f S st).bind fun w S st => .ok w.d S st
theorem postF_fE {G : Gx} {B : Hp} {W : WX} {σ : L2.St} {F : Fz} {Q : VK} {r : Res Ow} (q : Post G B W (RD G σ) σ F Q (r.bind fun w S st => .ok w.d S st)) : PostF G B W σ F (LkQ Q) r := by
  cases r with
  | ok w S1 st1 =>
    intro p u H' F' g o1 hu hF hB r hm no
    cases r with
    | l t =>
      obtain ⟨g', o'⟩ := o1.frzAt hu hF hB hm no
      exact .inl (q _ H' _ (g.trans g') o' (.lst upd_same (t.mono g'.1)))
    | kK t =>
      refine .inr ⟨p, _, rfl, hu, fun od => ?_⟩
      obtain ⟨g', o'⟩ := o1.frzAtU hu (fun _ z => nomatch z) (.frz od _) hF hB hm no
      exact q _ _ _ (g.trans g') o' (.dicK upd_same (t.mono g'.1))
  | exc x S1 st1 => exact q
  | stuck => exact q
theorem de_f {f : Ev Ow} (h : DF X B W e f) : DE X B W e (fE f) :=
  pe_imp (pe_lk h) fun σ H Q ⟨F, S, st, o, q⟩ => ⟨F, S, st, o, postF_fE q⟩
def Lays (r : VK → Prop) (G : Gx) (F : Fz) (H : Hp) (w : Ow) : Prop := ∀ Q : VK, (∀ p u, H p = none → OwRel G F u w → Q (.ref p) (upd H p u)) → r Q
def Op2F (G : Gx) (r : R2) (op : D → D → Option Ow) : Prop := ∀ (F : Fz) H v w x y d, Same F.f H → Vw G F H v x → Vw G F H w y → op x y = some d → Lays (r v w H) G F H d
def OpAF (G : Gx) (r : List V → Hp → VK → Prop) (op : List D → Option Ow) : Prop := ∀ (F : Fz) H vs xs d, Same F.f H → VwAll G F H vs xs → op xs = some d → Lays (r vs H) G F H d
def OpMF (G : Gx) (r : V → List V → Hp → VK → Prop) (op : D → List D → Option Ow) : Prop := ∀ (F : Fz) H v vs x xs d, Same F.f H → Vw G F H v x → VwAll G F H vs xs → op x xs = some d → Lays (r v vs H) G F H d
theorem Lays.gives {r : VK → Prop} {G : Gx} {F : Fz} {H : Hp} {ds : List D} (f : Same F.f H) (h : Lays r G F H (.l ds)) : Gives r G F H (.lst ds) := fun Q k => h Q fun p u hp r =>
  k _ _ (upd F.f p u) (same_new hp) (same_upd2 f) (gr_new f hp) ((r.mono (.up (gr_new f hp).1)).rp upd_same)
theorem postF_got {G : Gx} {F : Fz} {σ : L2.St} {Q : VK} {x : Option Ow} {S : Sls} {st : Store} (p : PostF G B W σ F Q (got x S st)) : ∃ d, x = some d ∧ PostF G B W σ F Q (.ok d S st) := by
  cases x with
  | none => exact p.elim
  | some d => exact ⟨d, rfl, p⟩
theorem Lays.fin {r : VK → Prop} {G : Gx} {F : Fz} {H : Hp} {σ : L2.St} {S : Sls} {st : Store} {w : Ow} {Q : VK} (g : Lays r G F H w) (o : Ok G B F σ H S st) (p : PostF G B W σ F Q (.ok w S st)) : r Q :=
  g Q fun q u hq r => p.new o hq r
def o2F (op : D → D → Option Ow) (fa fb : Ev Opd) : Ev Ow := fun S st => (fa S st).bind fun a S st => (fb S st).bind fun b S st =>
  match vw S st a, vw S st b with
  | some x, some y => got (op x y) S st
  | _, _ => .stuck
def oAF (op : List D → Option Ow) (fa : Ev (List Opd)) : Ev Ow := fun S st => (fa S st).bind fun a S st =>
  match vws S st a with
  | some x => got (op x) S st
  | _ => .stuck
theorem df_ct {x : Str} {p : Pos} {T : String} {r : List V → Hp → VK → Prop} {op : List D → Option Ow} {fa : Ev (List Opd)} (hc : CallR X (.type T) r) (h : OpAF (Cx.g X) r op) (hm : X.mg x = none) (ha : DA X B W (e :: es) fa)
    (hg : Gl X x := by rfl) (hv : bootBuiltins x = some (.type T) := by decide +kernel) (hn : x ≠ "__name__" := by decide) (hdb : (x == ("__debug__" : Str)) = false := by decide)
    (he : starEach (e :: es) X.env = (false, eval e X.env) :: starEach es X.env := by rfl) (hpl : (backTo pos (starEach es X.env)).any (·.1) = false := by rfl) : DF X B W (.Call (.Name x p) (e :: es) [] pos) (oAF op fa) :=
  pe_imp (pe_callTy hc hg hm hv ha hn hdb he hpl) fun σ H Q ⟨F, S, st, o, q⟩ => ⟨F, S, st, o, (PostF.bind (R := RpO (Cx.g X) σ) q).mono fun v H1 ⟨F1, d, S1, st1, g1, o1, r1, p1⟩ => by
    split at p1
    · rename_i x hx
      obtain ⟨z, hz, p1⟩ := postF_got p1
      exact (h F1 H1 v x z o1.fH (o1.vws r1 hx) hz).fin o1 p1
    · exact p1.elim⟩
theorem df_cb {x : Str} {p : Pos} {T : String} {r : List V → Hp → VK → Prop} {op : List D → Option Ow} {fa : Ev (List Opd)} (hc : CallR X (.builtin T) r) (h : OpAF (Cx.g X) r op) (hm : X.mg x = none) (ha : DA X B W (e :: es) fa)
    (hg : Gl X x := by rfl) (hv : bootBuiltins x = some (.builtin T) := by decide +kernel) (hn : x ≠ "__name__" := by decide) (hdb : (x == ("__debug__" : Str)) = false := by decide)
    (he : starEach (e :: es) X.env = (false, eval e X.env) :: starEach es X.env := by rfl) (hpl : (backTo pos (starEach es X.env)).any (·.1) = false := by rfl) : DF X B W (.Call (.Name x p) (e :: es) [] pos) (oAF op fa) :=
  pe_imp (pe_callB hc hg hm hv ha hn hdb he hpl) fun σ H Q ⟨F, S, st, o, q⟩ => ⟨F, S, st, o, (PostF.bind (R := RpO (Cx.g X) σ) q).mono fun v H1 ⟨F1, d, S1, st1, g1, o1, r1, p1⟩ => by
    split at p1
    · rename_i x hx
      obtain ⟨z, hz, p1⟩ := postF_got p1
      exact (h F1 H1 v x z o1.fH (o1.vws r1 hx) hz).fin o1 p1
    · exact p1.elim⟩
def lF (fa : Ev (List Opd)) : Ev Ow := fun S st => (fa S st).bind fun a S st => match vds S a with
  | some ds => if ds.length ≤ 16777216 then .ok (.l ds) S st else .stuck
  | none => .stuck
theorem df_l {fa : Ev (List Opd)} (ha : DA X B W es fa) : DF X B W (.List es pos) (lF fa) :=
  pe_imp (pe_lst ha) fun σ H Q ⟨F, S, st, o, q⟩ => ⟨F, S, st, o, (PostF.bind (R := RpO (Cx.g X) σ) q).mono fun v H1 ⟨F1, d, S1, st1, g1, o1, r1, p1⟩ => by
    split at p1
    · rename_i x hx
      split at p1
      · have rr := o1.vds r1 hx
        exact ⟨by rw [rr.length, sizeLine_eq]; assumption, fun p hp => p1.new o1 hp (.l rr)⟩
      · exact p1.elim
    · exact p1.elim⟩
def pE (fa : Ev (List Opd)) : Ev D := fun S st => (fa S st).bind fun a S st => match vds S a with
  | some ds => if ds.length ≤ 16777216 then .ok (.tup ds) S st else .stuck
  | none => .stuck
theorem de_p {fa : Ev (List Opd)} {x1} (ha : DA X B W es fa) : DE X B W (.Tuple es x1 pos) (pE fa) :=
  pe_imp (pe_tup ha) fun σ H Q ⟨F, S, st, o, q⟩ => ⟨F, S, st, o, (Post.bind (R := RpO (Cx.g X) σ) q).mono fun v H1 ⟨F1, d, S1, st1, g1, o1, r1, p1⟩ => by
    split at p1
    · rename_i x hx
      split at p1
      · have rr := o1.vds r1 hx
        exact ⟨by rw [rr.length, sizeLine_eq]; assumption, fun p hp => p1 _ _ (F1.up p (.tup v)) (o1.grN hp) (o1.gnew hp) (.tup (.inl (.inl upd_same)) (rr.mono (o1.grN (u := .tup v) hp).1))⟩
      · exact p1.elim
    · exact p1.elim⟩
def RP : L2.St → Fz → Option Int → Option Int → Prop := fun _ _ v d => v = d
def DP (X : Cx) (B : Hp) (W : WX) (e : Option Expr) (f : Ev (Option Int)) : Prop := PO X e (lift (Cx.g X) B W RP f)
theorem po_imp {X : Cx} {e : Option Expr} {t t' : TO} (h : PO X e t) (i : ∀ σ H Q, t' σ H Q → t σ H Q) : PO X e t' := ⟨fun pins s σ H Q I q => h.run pins s σ H Q I (i σ H Q q)⟩
def sN : Ev (Option Int) := fun S st => .ok none S st
def sS (f : Ev D) : Ev (Option Int) := fun S st => (f S st).bind fun d S st => match d with
  | .int i => .ok (some i) S st
  | _ => .stuck
theorem dp_n : DP X B W none sN := po_imp po_none fun σ H Q ⟨F, S, st, o, q⟩ => q _ H F .refl o rfl
theorem dp_s {f : Ev D} (h : DE X B W e f) : DP X B W (some e) (sS f) := po_imp (po_some h) fun σ H Q ⟨F, S, st, o, q⟩ => ⟨F, S, st, o, (Post.bind (R := RD (Cx.g X) σ) q).mono fun v H1 ⟨F1, d, S1, st1, g1, o1, r1, p1⟩ => by
  split at p1
  · cases r1
    exact ⟨_, rfl, p1 _ H1 F1 .refl o1 rfl⟩
  · exact p1.elim⟩
def OpS (G : Gx) (r : V → Option Int → Option Int → Hp → VK → Prop) (op : D → Option Int → Option Int → Option D) : Prop := ∀ (F : Fz) H v x l u d, Same F.f H → Vw G F H v x → op x l u = some d → Gives (r v l u H) G F H d
def slE (op : D → Option Int → Option Int → Option D) (fa : Ev Opd) (fl fu : Ev (Option Int)) : Ev D := fun S st => (fa S st).bind fun a S st => (fl S st).bind fun l S st => (fu S st).bind fun u S st =>
  match vw S st a with
  | some x => got (op x l u) S st
  | _ => .stuck
theorem de_sl {r : V → Option Int → Option Int → Hp → VK → Prop} {op : D → Option Int → Option Int → Option D} {lo hi : Option Expr} {p2 : Pos} {fa : Ev Opd} {fl fu : Ev (Option Int)} (hr : SlR X r) (h : OpS (Cx.g X) r op) (ha : DO X B W a fa) (hl : DP X B W lo fl) (hu : DP X B W hi fu) :
    DE X B W (.Subscript a (.Slice lo hi none p2) pos) (slE op fa fl fu) :=
  pe_imp (pe_slice hr ha hl hu) fun σ H Q ⟨F, S, st, o, q⟩ => ⟨F, S, st, o, (Post.bind (R := RO (Cx.g X) σ) q).mono fun v H1 ⟨F1, d, S1, st1, g1, o1, r1, p1⟩ =>
    ⟨F1, S1, st1, o1, (Post.bind (R := RP σ) p1).mono fun l H2 ⟨F2, l', S2, st2, g2, o2, e2, p2⟩ => ⟨F2, S2, st2, o2, (Post.bind (R := RP σ) p2).mono fun u H3 ⟨F3, u', S3, st3, g3, o3, e3, p3⟩ => by
      cases e2; cases e3
      split at p3
      · rename_i x hx
        obtain ⟨z, hz, p3⟩ := got_ok p3
        exact (h F3 H3 v x _ _ z o3.fH (o3.vw (r1.mono (g2.1.trans g3.1)) hx) hz).fin o3 p3
      · exact p3.elim⟩⟩⟩
end
def hid (m : List Addr) (H : Hp) : Hp := fun a => if a ∈ m then none else H a
theorem hid_in {m : List Addr} {H : Hp} {a : Addr} (h : a ∈ m) : hid m H a = none := if_pos h
theorem hid_out {m : List Addr} {H : Hp} {a : Addr} (h : a ∉ m) : hid m H a = H a := if_neg h
theorem hid_same (m : List Addr) (H : Hp) : Same (hid m H) H := fun a u e => by
  by_cases h : a ∈ m
  · rw [hid_in h] at e; cases e
  · rw [hid_out h] at e; exact e
theorem hid_nil (H : Hp) : hid [] H = H := by funext a; exact hid_out (by simp)
def spOf (G : Gx) (n : Nat) (c : CallT) : Sp := fun vs H Q E => vs.length = n ∧ ∃ (F : Fz) (ds : List D) (st : Store), Same F.f H ∧ StOk G (hid F.m H) F H st ∧ RpAll G F vs ds ∧ match c ds st with
  | .ok d _ st' => ∀ v H' (F' : Fz), Same (hid F.m H) H' → Same F'.f H' → Gr (hid F.m H) F F' → StOk G (hid F.m H) F' H' st' → Rp G F' v d → Q v H'
  | .exc x _ st' => ∀ cls dd H' (F' : Fz), Same (hid F.m H) H' → Same F'.f H' → Gr (hid F.m H) F F' → StOk G (hid F.m H) F' H' st' → XRel G F' x cls dd H' → E cls dd H'
  | .stuck => False
theorem StOk.hid {G : Gx} {B H : Hp} {F : Fz} {st : Store} (o : StOk G B F H st) : StOk G (DL.hid F.m H) F H st :=
  ⟨o.ml, o.mn, fun n x a e1 e2 => ⟨(o.ob n x a e1 e2).1, hid_in (List.mem_of_getElem? e2), (o.ob n x a e1 e2).2.2⟩⟩
theorem Ok.back {G : Gx} {B : Hp} {F F' : Fz} {σ : L2.St} {H H' : Hp} {S : Sls} {st st' : Store} (o : Ok G B F σ H S st) (k : Same (hid F.m H) H') (f : Same F'.f H') (g : Gr (hid F.m H) F F') (s : StOk G (hid F.m H) F' H' st') : Gr B F F' ∧ Ok G B F' σ H' S st' := by
  have key : ∀ a, hid F.m H a = none → B a = none := fun a z => by
    by_cases h : a ∈ F.m
    · obtain ⟨_, _, n, x, _, _, q, _⟩ := o.so.mem h; exact q
    · rw [hid_out h] at z; exact o.kp.free z
  refine ⟨⟨g.1, fun a h1 h2 => key a (g.2 a h1 h2)⟩, f, fun a u e => ?_, ⟨s.ml, s.mn, fun n x a e1 e2 => ?_⟩, o.len, fun i sl e => ?_, o.ap⟩
  · have hm : a ∉ F.m := fun z => by
      obtain ⟨_, _, n, x, _, _, q, _⟩ := o.so.mem z
      rw [q] at e; cases e
    exact k a u (by rw [hid_out hm]; exact o.kp a u e)
  · obtain ⟨h1, h2, h3⟩ := s.ob n x a e1 e2
    exact ⟨h1, key a h2, h3⟩
  · have h := o.sl i sl e
    cases sl with
    | no => trivial
    | d x =>
      obtain ⟨v, a1, a2⟩ := h
      exact ⟨v, a1, a2.mono g.1⟩
    | own w =>
      obtain ⟨p, u, a1, a2, a3, a4, a5, a6⟩ := h
      have hp : hid F.m H p = some u := by rw [hid_out a6]; exact a2
      refine ⟨p, u, a1, k p u hp, ?_, a4, a5.mono g.1, fun z => ?_⟩
      · cases z : F' p with
        | none => rfl
        | some v =>
          have := g.2 p a3 (by rw [z]; simp)
          rw [hp] at this; cases this
      · obtain ⟨_, _, n, x, _, _, q, _⟩ := s.mem z
        rw [hp] at q; cases q
structure Def (P : Program) (w : World) (K : PySem.W.Frag) (mg : Str → Option Value) (base : Heap) (k : Nat) (x : Str) (n : Nat) (c : CallT) : Prop where
  ex : ∃ f fd ps, FnOk P w K mg base (L2.CX P w) k f fd ps (spOf ⟨K, mg, w⟩ n c) ∧ Binds K fd ps [] ∧ mg x = some (.ref f) ∧ PySem.W.keepIn K (.ref f) = true
theorem Def.mono {P : Program} {w : World} {K : PySem.W.Frag} {mg : Str → Option Value} {base : Heap} {k j : Nat} {x : Str} {n : Nat} {c : CallT} (d : Def P w K mg base k x n c) (h : k ≤ j) : Def P w K mg base j x n c := by
  obtain ⟨f, fd, ps, a, b, c, e⟩ := d.ex
  exact ⟨f, fd, ps, a.mono h, b, c, e⟩
def cE (c : CallT) (fa : Ev (List Opd)) : Ev D := fun S st => (fa S st).bind fun a S st => match vds S a with
  | some ds => match c ds st with
    | .ok d _ st => .ok d S st
    | .exc x _ st => .exc x S st
    | .stuck => .stuck
  | none => .stuck
section
variable {X : Cx} {B : Hp} {W : WX} {e : Expr} {es : List Expr} {pos p : Pos} {k : Nat} {x : Str} {n : Nat} {c : CallT}
theorem call_lift {fa : Ev (List Opd)} {σ : L2.St} {H : Hp} {Q : VK} (hn : ∀ S st r S' st', fa S st = .ok r S' st' → r.length = n) (q : lift (Cx.g X) B W (RD (Cx.g X)) (cE c fa) σ H Q) :
    tCallS (spOf (Cx.g X) n c) (WE W) (lift (Cx.g X) B W (RpO (Cx.g X)) fa) σ H Q := by
  obtain ⟨F, S, st, o, q⟩ := q
  have key : ∀ (r : Res (List Opd)) (hl : ∀ r' S' st', r = .ok r' S' st' → r'.length = n), Post (Cx.g X) B W (RD (Cx.g X) σ) σ F Q (r.bind fun a S st => match vds S a with
      | some ds => match c ds st with
        | .ok d _ st => .ok d S st
        | .exc x _ st => .exc x S st
        | .stuck => .stuck
      | none => .stuck) → Post (Cx.g X) B W (RpO (Cx.g X) σ) σ F (fun vs H1 => spOf (Cx.g X) n c vs H1 Q (WE W σ)) r := by
    intro r hl q
    cases r with
    | exc y S1 st1 => exact q
    | stuck => exact q
    | ok a S1 st1 =>
      intro vs H1 F1 g1 o1 r1
      have q : Post (Cx.g X) B W (RD (Cx.g X) σ) σ F Q (match vds S1 a with
        | some ds => match c ds st1 with
          | .ok d _ st => .ok d S1 st
          | .exc x _ st => .exc x S1 st
          | .stuck => .stuck
        | none => .stuck) := q
      split at q
      · rename_i ds hds
        have ra := o1.vds r1 hds
        refine ⟨?_, F1, ds, st1, o1.fH, o1.so.hid, ra, ?_⟩
        · have l1 := hl _ _ _ rfl
          have : ∀ {vs : List V} {as : List Opd}, RpO (Cx.g X) σ F1 vs as → vs.length = as.length := by
            intro vs as h
            induction h with
            | nil => rfl
            | cons _ _ ih => simp [ih]
          rw [this r1, l1]
        · split at q
          · exact fun v H' F' k f gr so rr => q v H' F' (g1.trans (o1.back k f gr so).1) (o1.back k f gr so).2 rr
          · exact fun cls dd H' F' k f gr so rr => q cls dd H' F' (g1.trans (o1.back k f gr so).1) (o1.back k f gr so).2 rr
          · exact q.elim
      · exact q.elim
  exact ⟨F, S, st, o, key _ (fun r' S' st' e => hn _ _ _ _ _ e) q⟩
def aLen (f : Ev (List Opd)) (n : Nat) : Prop := ∀ S st r S' st', f S st = .ok r S' st' → r.length = n
theorem aLen_n : aLen aN 0 := fun S st r S' st' h => by
  have : Res.ok [] S st = Res.ok r S' st' := h
  injection this with h1 _ _
  subst h1; rfl
theorem aLen_c {f : Ev Opd} {g : Ev (List Opd)} {n : Nat} (h : aLen g n) : aLen (aC f g) (n + 1) := fun S st r S' st' q => by
  unfold aC at q
  cases h1 : f S st with
  | ok a S1 st1 =>
    rw [h1, Res.bind_ok] at q
    cases h2 : g S1 st1 with
    | ok b S2 st2 =>
      rw [h2, Res.bind_ok] at q
      injection q with q1 _ _
      subst q1
      simp [h _ _ _ _ _ h2]
    | exc y S2 st2 => rw [h2] at q; cases q
    | stuck => rw [h2] at q; cases q
  | exc y S1 st1 => rw [h1] at q; cases q
  | stuck => rw [h1] at q; cases q
theorem de_c {fa : Ev (List Opd)} (d : Def X.prog X.w X.K X.mg X.base k x n c) (hr : Room k X.A) (tk : Takes X W) (ha : DA X B W (e :: es) fa) (hl : aLen fa n := by repeat (first | exact aLen_n | refine aLen_c ?_)) (hg : Gl X x := by rfl) (hdb : (x == ("__debug__" : Str)) = false := by decide)
    (he : starEach (e :: es) X.env = (false, eval e X.env) :: starEach es X.env := by rfl) (hpl : (backTo pos (starEach es X.env)).any (·.1) = false := by rfl) : DE X B W (.Call (.Name x p) (e :: es) [] pos) (cE c fa) := by
  obtain ⟨f, fd, ps, F, hb, hm, hk⟩ := d.ex
  exact pe_imp (pe_callS F hr hg hm hk hb (fun σ => passAt tk σ) ha hdb he hpl) fun σ H Q q => call_lift hl q
end
end DL
namespace DL
open PySem PySem.Spec PyProof.Rows L2
section
variable {X : Cx} {B : Hp} {W : WX} {e a b c : Expr} {es : List Expr} {s : Stmt} {ss : List Stmt} {pos : Pos}
def sNil : EvS := fun S st => .nx S st
def sSeq (f g : EvS) : EvS := fun S st => (f S st).then g
theorem PostS.then {G : Gx} {F : Fz} {D : Ends} {r : Out} {k : Sls → Store → Out} (h : PostS G B W F D (r.then k)) : PostS G B W F { D with nx := fun σ H => ∃ F1 S1 st1, Gr B F F1 ∧ Ok G B F1 σ H S1 st1 ∧ PostS G B W F1 D (k S1 st1) } r := by
  cases r with
  | nx S st => exact fun σ' H' F' g o => ⟨F', S, st, g, o, PostS.grow g h⟩
  | _ => exact h
theorem dss_n : DSs X B W [] sNil := pss_imp pss_nil fun D σ H ⟨F, S, st, o, q⟩ => q σ H F .refl o
theorem dss_c {f g : EvS} (h : DS X B W s f) (t : DSs X B W ss g) : DSs X B W (s :: ss) (sSeq f g) :=
  pss_imp (pss_cons h t) fun D σ H ⟨F, S, st, o, q⟩ => by
    refine ⟨F, S, st, o, ?_⟩
    have q2 := PostS.then q
    generalize f S st = r at q2
    cases r with
    | nx S1 st1 =>
      intro σ' H' F' g o1
      obtain ⟨F1, S2, st2, g2, o2, p⟩ := q2 σ' H' F' g o1
      exact ⟨F1, S2, st2, o2, p⟩
    | _ => exact q2
theorem dss_1 {f : EvS} (h : DS X B W s f) : DSs X B W [s] f := pss_one h
def sBk : EvS := fun S st => .bk S st
def sCt : EvS := fun S st => .ct S st
def sStuck : EvS := fun _ _ => .stuck
def sE (f : Ev D) : EvS := fun S st => (f S st).out fun _ S st => .nx S st
theorem ds_e {f : Ev D} (h : DE X B W e f) (hs : swapsWith e none pos.line X.env = pure false := by rfl) : DS X B W (.Expr e pos) (sE f) :=
  ps_imp (ps_expr h hs) fun D σ H ⟨F, S, st, o, q⟩ => ⟨F, S, st, o, (Post.out (R := RD (Cx.g X) σ) q).mono fun v H1 ⟨F1, d, S1, st1, g1, o1, r1, p1⟩ => p1 σ H1 F1 .refl o1⟩
def sR (f : Ev D) : EvS := fun S st => (f S st).out fun d S st => .ret d S st
theorem ds_r {f : Ev D} (h : DE X B W e f) : DS X B W (.Return (some e) pos) (sR f) :=
  ps_imp (ps_ret h) fun D σ H ⟨F, S, st, o, q⟩ => ⟨F, S, st, o, (Post.out (R := RD (Cx.g X) σ) q).mono fun v H1 ⟨F1, d, S1, st1, g1, o1, r1, p1⟩ => p1 v σ H1 F1 .refl o1 r1⟩
def sRN : EvS := fun S st => .ret .non S st
def sI (t : Ev Bool) (f g : EvS) : EvS := fun S st => (t S st).out fun b S st => if b = true then f S st else g S st
theorem ds_i {t : Ev Bool} {f g : EvS} {tb fb : List Stmt} (ht : DT X B W c t) (hf : DSs X B W tb f) (hg : DSs X B W fb g) : DS X B W (.If c tb fb pos) (sI t f g) :=
  ps_imp (ps_if ht hf hg) fun D σ H ⟨F, S, st, o, q⟩ => ⟨F, S, st, o, (Post.out (R := RB σ) q).mono fun v H1 ⟨F1, d, S1, st1, g1, o1, r1, p1⟩ => by
    cases r1
    cases v with
    | true => exact ⟨F1, S1, st1, o1, p1⟩
    | false => exact ⟨F1, S1, st1, o1, p1⟩⟩
def setD (i : Nat) (d : D) (S : Sls) : Sls := S.set i (.d d)
def sV (i : Nat) (f : Ev D) : EvS := fun S st => (f S st).out fun d S st => .nx (S.set i (.d d)) st
theorem ds_v {i : Nat} {x : Str} {px : Pos} {f : Ev D} (nd : X.N.Nodup) (h : DE X B W e f) (hi : X.N[i]? = some x := by rfl) (hx : Loc X.env.scope x := by first | exact .inl rfl | exact .inr rfl) (hs : swapsWith e (some (.Name x px)) pos.line X.env = pure false := by rfl)
    (hf : X.fn x = true ∨ X.env.scope.names.lookup x = some .local := by first | exact .inl rfl | exact .inr rfl) : DS X B W (.Assign [.Name x px] e pos) (sV i f) :=
  ps_imp (ps_set (i := i) nd hi hx h hs hf) fun D σ H ⟨F, S, st, o, q⟩ => ⟨F, S, st, o, (Post.out (R := RD (Cx.g X) σ) q).mono fun v H1 ⟨F1, d, S1, st1, g1, o1, r1, p1⟩ => p1 _ H1 F1 .refl (o1.set i r1)⟩
def sO (i : Nat) (f : Ev Ow) : EvS := fun S st => (f S st).out fun w S st => .nx (S.set i (.own w)) st
theorem postF_own {G : Gx} {σ : L2.St} {F : Fz} {Dn : Ends} {i : Nat} {r : Res Ow} (q : PostS G B W F Dn (r.out fun w S st => .nx (S.set i (.own w)) st)) : PostF G B W σ F (fun v H1 => Dn.nx (σ.set i (some v)) H1) r := by
  cases r with
  | ok w S1 st1 => exact fun p u H' F' g o1 hu hF hB r hm no => q _ H' F' g (o1.setOwnAt i hu hF hB hm r no)
  | exc x S1 st1 => exact fun c d H' F' g o r => q c d σ H' F' g o r
  | stuck => exact q
theorem ds_o {i : Nat} {x : Str} {px : Pos} {f : Ev Ow} (nd : X.N.Nodup) (h : DF X B W e f) (hi : X.N[i]? = some x := by rfl) (hx : Loc X.env.scope x := by first | exact .inl rfl | exact .inr rfl) (hs : swapsWith e (some (.Name x px)) pos.line X.env = pure false := by rfl)
    (hf : X.fn x = true ∨ X.env.scope.names.lookup x = some .local := by first | exact .inl rfl | exact .inr rfl) : DS X B W (.Assign [.Name x px] e pos) (sO i f) :=
  ps_imp (ps_set (i := i) nd hi hx h hs hf) fun D σ H ⟨F, S, st, o, q⟩ => ⟨F, S, st, o, postF_own q⟩
abbrev Tg := D → Sls → Option Sls
def liftG (G : Gx) (B : Hp) (g : Tg) : TG := fun v σ H Q => ∃ F S st d S', Ok G B F σ H S st ∧ Rp G F v d ∧ g d S = some S' ∧ ∀ σ' H' F', Gr B F F' → Ok G B F' σ' H' S' st → Q σ' H'
def liftGs (G : Gx) (B : Hp) (g : List D → Sls → Option Sls) : TGs := fun vs σ H Q => ∃ F S st ds S', Ok G B F σ H S st ∧ RpAll G F vs ds ∧ g ds S = some S' ∧ ∀ σ' H' F', Gr B F F' → Ok G B F' σ' H' S' st → Q σ' H'
def DG (X : Cx) (B : Hp) (e : Expr) (g : Tg) : Prop := PG X e (liftG (Cx.g X) B g)
def DGs (X : Cx) (B : Hp) (es : List Expr) (g : List D → Sls → Option Sls) : Prop := PGs X es (liftGs (Cx.g X) B g)
theorem pg_imp {X : Cx} {e : Expr} {t t' : TG} (h : PG X e t) (i : ∀ v σ H Q, t' v σ H Q → t v σ H Q) : PG X e t' := ⟨fun pins s σ H v u Q I r q => h.run pins s σ H v u Q I r (i v σ H Q q)⟩
def gV (i : Nat) : Tg := fun d S => some (S.set i (.d d))
theorem dg_v {i : Nat} {x : Str} {px : Pos} (nd : X.N.Nodup) (hi : X.N[i]? = some x := by rfl) (hx : Loc X.env.scope x := by first | exact .inl rfl | exact .inr rfl) (hf : X.fn x = true ∨ X.env.scope.names.lookup x = some .local := by first | exact .inl rfl | exact .inr rfl) : DG X B (.Name x px) (gV i) :=
  pg_imp (pg_name nd hi hx hf) fun v σ H Q ⟨F, S, st, d, S', o, r, e, q⟩ => by
    cases e
    exact q _ H F .refl (o.set i r)
def gN : List D → Sls → Option Sls := fun ds S => match ds with
  | [] => some S
  | _ => none
def gC (g : Tg) (gs : List D → Sls → Option Sls) : List D → Sls → Option Sls := fun ds S => match ds with
  | d :: r => match g d S with
    | some S' => gs r S'
    | none => none
  | [] => none
def gT (n : Nat) (gs : List D → Sls → Option Sls) : Tg := fun d S => match d with
  | .tup ds => if ds.length = n then gs ds S else none
  | _ => none
def sG (g : Tg) (f : Ev D) : EvS := fun S st => (f S st).out fun d S st => match g d S with
  | some S' => .nx S' st
  | none => .stuck
def sAug (i : Nat) (op : D → D → Option D) (f : Ev Opd) : EvS := fun S st => match S[i]? with
  | some (.d x) => (f S st).out fun y S st => match vw S st y with
    | some y => match op x y with
      | some z => .nx (S.set i (.d z)) st
      | none => .stuck
    | none => .stuck
  | _ => .stuck
def Walks (G : Gx) (J : It) (F : Fz) (ds : List D) : Prop := ∀ (F' : Fz) H', SmF F F' → Same F'.f H' → ∀ i, (i < ds.length → J.go i H') ∧ (ds.length ≤ i → J.stop i H') ∧
  ∀ d, ds[i]? = some d → ∀ x H2, J.yld i H' x H2 → ∃ f2, Same H' H2 ∧ Same f2 H2 ∧ GrH H' F'.f f2 ∧ Rp G ⟨f2, F'.m⟩ x d
def RW (G : Gx) : L2.St → Fz → It → List D → Prop := fun _ F J ds => Walks G J F ds
def DI (X : Cx) (B : Hp) (W : WX) (tg iter : Expr) (f : Ev (List D)) : Prop := PI X tg iter (lift (Cx.g X) B W (RW (Cx.g X)) f)
theorem pi_imp {X : Cx} {tg iter : Expr} {t t' : TI} (h : PI X tg iter t) (i : ∀ σ H R, t' σ H R → t σ H R) : PI X tg iter t' := ⟨fun pins s σ H R I q => h.run pins s σ H R I (i σ H R q)⟩
def forL (g : Tg) (body : EvS) : List D → EvS
  | [], S, st => .nx S st
  | d :: r, S, st => match g d S with
    | some S1 => match body S1 st with
      | .nx S2 st2 => forL g body r S2 st2
      | .ct S2 st2 => forL g body r S2 st2
      | .rto w S2 st2 => .rto w S2 st2
      | .bk S2 st2 => .nx S2 st2
      | .ret v S2 st2 => .ret v S2 st2
      | .exc x S2 st2 => .exc x S2 st2
      | .stuck => .stuck
    | none => .stuck
def sF (f : Ev (List D)) (g : Tg) (body : EvS) : EvS := fun S st => (f S st).out fun ds S st => forL g body ds S st
theorem ds_f {tg iter : Expr} {body : List Stmt} {f : Ev (List D)} {g : Tg} {fb : EvS} (hp : PassesOwn (model X.prog X.w) X.A X.env X.xe) (hc : X.calm = true) (hi : DI X B W tg iter f) (hg : DG X B tg g) (hb : DSs X B W body fb)
    (hs : ∀ x, foldedSetIterable iter X.env x = pure x := by intro _; rfl) : DS X B W (.For tg iter body [] pos) (sF f g fb) :=
  ps_imp (ps_for hp hc hi hg hb hs) fun D σ H ⟨F, S, st, o, q⟩ => ⟨F, S, st, o, (Post.out (R := RW (Cx.g X) σ) q).mono fun J H1 ⟨F1, ds, S1, st1, g1, o1, r1, p1⟩ => by
    refine ⟨fun i m σ H => i ≤ ds.length ∧ m = ds.length - i ∧ ∃ F' S' st', Gr B F1 F' ∧ Ok (Cx.g X) B F' σ H S' st' ∧ PostS (Cx.g X) B W F' D (forL g fb (ds.drop i) S' st'), ⟨ds.length, Nat.zero_le _, by simp, F1, S1, st1, .refl, o1, by simpa using p1⟩, ?_⟩
    rintro i m σ2 H2 ⟨hi2, rfl, F2, S2, st2, g2, o2, p2⟩
    obtain ⟨wgo, wstop, wyld⟩ := r1 F2 H2 g2.1 o2.fH i
    by_cases hlt : i < ds.length
    · have hd : ds.drop i = ds[i] :: ds.drop (i + 1) := List.drop_eq_getElem_cons hlt
      rw [hd] at p2
      simp only [forL] at p2
      refine .inr ⟨wgo hlt, fun σ' H' => ∃ F' S' st', Gr B F1 F' ∧ Ok (Cx.g X) B F' σ' H' S' st' ∧ PostS (Cx.g X) B W F' D (forL g fb (ds.drop (i + 1)) S' st'), fun σ' H' ⟨F', S', st', a, b, c⟩ => ⟨ds.length - (i + 1), by omega, hlt, rfl, F', S', st', a, b, c⟩, fun x H' hy => ?_⟩
      obtain ⟨F3, k3, f3, gr3, rx⟩ := wyld _ (List.getElem?_eq_getElem hlt) x H' hy
      split at p2
      · rename_i S3 hS3
        refine ⟨_, S2, st2, ds[i], S3, o2.grow gr3 k3 f3, rx, hS3, fun σ4 H4 F4 g4 o4 => ⟨F4, S3, st2, o4, ?_⟩⟩
        have gg : Gr B F2 F4 := (o2.gr gr3).trans g4
        revert p2
        generalize fb S3 st2 = r
        intro p2
        cases r with
        | nx S5 st5 => exact fun σ5 H5 F5 g5 o5 => ⟨F5, S5, st5, g2.trans (gg.trans g5), o5, PostS.grow (gg.trans g5) p2⟩
        | ct S5 st5 => exact fun σ5 H5 F5 g5 o5 => ⟨F5, S5, st5, g2.trans (gg.trans g5), o5, PostS.grow (gg.trans g5) p2⟩
        | rto w5 S5 st5 => exact fun p5 u5 σ5 H5 F5 g5 o5 => p2 p5 u5 σ5 H5 F5 (gg.trans g5) o5
        | bk S5 st5 => exact fun σ5 H5 F5 g5 o5 => p2 σ5 H5 F5 (gg.trans g5) o5
        | ret v S5 st5 => exact fun v' σ5 H5 F5 g5 o5 r5 => p2 v' σ5 H5 F5 (gg.trans g5) o5 r5
        | exc y S5 st5 => exact fun c' d' σ5 H5 F5 g5 o5 r5 => p2 c' d' σ5 H5 F5 (gg.trans g5) o5 r5
        | stuck => exact p2
      · exact p2.elim
    · have e : i = ds.length := by omega
      subst e
      rw [List.drop_length] at p2
      exact .inl ⟨wstop (Nat.le_refl _), p2 σ2 H2 F2 .refl o2⟩⟩
def whN (c : Ev Bool) (b : EvS) : Nat → EvS
  | 0, _, _ => .stuck
  | n + 1, S, st => (c S st).out fun k S st => if k = true then
      match b S st with
      | .nx S2 st2 => whN c b n S2 st2
      | .ct S2 st2 => whN c b n S2 st2
      | .rto w S2 st2 => .rto w S2 st2
      | .bk S2 st2 => .nx S2 st2
      | .ret v S2 st2 => .ret v S2 st2
      | .exc x S2 st2 => .exc x S2 st2
      | .stuck => .stuck
    else .nx S st
open Classical in
noncomputable def sW (c : Ev Bool) (b : EvS) : EvS := fun S st => if h : ∃ n, whN c b n S st ≠ .stuck then whN c b (Classical.choose h) S st else .stuck
end
end DL
namespace DL
open PySem PySem.Spec PyProof.Rows L2
def wipeS (S : Sls) : List Nat → Sls
  | [] => S
  | v :: vs => (wipeS S vs).set v .no
section
variable {G : Gx} {B : Hp} {F : Fz} {H : Hp} {σ : L2.St} {S : Sls} {st : Store}
theorem Ok.wipe (o : Ok G B F σ H S st) : ∀ vs : List Nat, Ok G B F (L2.wipe σ vs) H (wipeS S vs) st
  | [] => o
  | v :: vs => (Ok.wipe o vs).any v none
theorem wipeS_no : ∀ {vs : List Nat} {S : Sls} {i : Nat}, i ∈ vs → ∀ s, (wipeS S vs)[i]? = some s → s = .no
  | v :: vs, S, i, h, s, e => by
    unfold wipeS at e
    by_cases hv : v = i
    · have hi := set_lt e hv
      subst hv
      rw [List.getElem?_set_self hi] at e
      cases e; rfl
    · rw [List.getElem?_set_ne hv] at e
      exact wipeS_no ((List.mem_cons.mp h).resolve_left fun z => hv z.symm) s e
theorem Ok.unwipe {vs : List Nat} (o : Ok G B F (L2.wipe σ vs) H S st) (hS : ∀ i ∈ vs, ∀ s, S[i]? = some s → s = .no) : Ok G B F σ H S st := by
  have get : ∀ (i : Nat) (p : V), i ∉ vs → (σ[i]? = some (some p) ↔ (L2.wipe σ vs)[i]? = some (some p)) := fun i p h => by rw [wipe_out h]
  refine ⟨o.fH, o.kp, o.so, by rw [← o.len, wipe_length], fun i s e => ?_, fun i j ds es p e1 e2 e3 e4 => ?_⟩
  · by_cases hi : i ∈ vs
    · rw [hS i hi s e]; trivial
    · have h := o.sl i s e
      rw [wipe_out hi] at h
      exact h
  · have h1 : i ∉ vs := fun z => by have := hS i z _ e1; cases this
    have h2 : j ∉ vs := fun z => by have := hS j z _ e2; cases this
    exact o.ap i j ds es p e1 e2 (by rw [wipe_out h1]; exact e3) (by rw [wipe_out h2]; exact e4)
theorem Ok.pin (o : Ok G B F σ H S st) {D : Addr} {u : HO} (hD : H D = some u) (hF : F D = none) (hm : D ∉ F.m) (no : ∀ (j : Nat) (es : Ow), S[j]? = some (.own es) → σ[j]? ≠ some (some (.ref D))) : Ok G (upd B D u) F σ H S st := by
  refine ⟨o.fH, fun b v q => ?_, ⟨o.so.ml, o.so.mn, fun n x a e1 e2 => ?_⟩, o.len, fun i s e => ?_, o.ap⟩
  · by_cases z : b = D
    · subst z; rw [upd_same] at q; cases q; exact hD
    · rw [upd_ne z] at q; exact o.kp _ _ q
  · obtain ⟨h1, h2, h3⟩ := o.so.ob n x a e1 e2
    have z : a ≠ D := fun z => hm (by rw [← z]; exact List.mem_of_getElem? e2)
    exact ⟨h1, by rw [upd_ne z]; exact h2, h3⟩
  · have h := o.sl i s e
    cases s with
    | no => trivial
    | d x => exact h
    | own w =>
      obtain ⟨p, u', e1, h1, h2, h3, r, nm⟩ := h
      have : p ≠ D := fun z => no i _ e (by rw [e1, z])
      exact ⟨p, u', e1, h1, h2, by rw [upd_ne this]; exact h3, r, nm⟩
theorem Ok.unpin {D : Addr} {u u' : HO} (o : Ok G (upd B D u) F σ H S st) (hB : B D = none) (hF : F D = none) (hno : ∀ x : Addr, u ≠ HO.own x) : Ok G B F σ (upd H D u') S st ∧ (∀ (j : Nat) (es : Ow), S[j]? = some (.own es) → σ[j]? ≠ some (some (.ref D))) ∧ D ∉ F.m := by
  have hD : H D = some u := o.kp D u upd_same
  have no : ∀ (j : Nat) (es : Ow), S[j]? = some (.own es) → σ[j]? ≠ some (some (.ref D)) := fun j es e z => by
    obtain ⟨p, u', e1, h1, h2, h3, r⟩ := o.sl j _ e
    rw [z] at e1; cases e1
    rw [upd_same] at h3; cases h3
  have hm : D ∉ F.m := fun z => by
    obtain ⟨_, _, n, x, _, _, q, _⟩ := o.so.mem z
    rw [upd_same] at q; cases q
  refine ⟨⟨fun b v q => ?_, fun b v q => ?_, ⟨o.so.ml, o.so.mn, fun n x a e1 e2 => ?_⟩, o.len, fun i s e => ?_, o.ap⟩, no, hm⟩
  · rw [upd_ne (ne_of_none q hF)]; exact o.fH _ _ q
  · have hb := ne_of_none q hB
    rw [upd_ne hb]; exact o.kp _ _ (by rw [upd_ne hb]; exact q)
  · obtain ⟨h1, h2, h3⟩ := o.so.ob n x a e1 e2
    have z : a ≠ D := fun z => hm (by rw [← z]; exact List.mem_of_getElem? e2)
    rw [upd_ne z] at h2
    exact ⟨h1, h2, h3.chg z (fun x q => hno x (by rw [hD] at q; exact Option.some.inj q))⟩
  · have h := o.sl i s e
    cases s with
    | no => trivial
    | d x => exact h
    | own w =>
      obtain ⟨p, u', e1, h1, h2, h3, r, nm⟩ := h
      have hp : p ≠ D := fun z => no i _ e (by rw [e1, z])
      rw [upd_ne hp] at h3
      exact ⟨p, u', e1, by rw [upd_ne hp]; exact h1, h2, h3, r, nm⟩
theorem Gr.unpin {D : Addr} {u : HO} {F F' : Fz} (g : Gr (upd B D u) F F') (hB : B D = none) (hF : F D = none) : Gr B F F' ∧ F' D = none := by
  refine ⟨⟨g.1, fun a h h' => ?_⟩, ?_⟩
  · have := g.2 a h h'
    by_cases z : a = D
    · rw [z]; exact hB
    · rw [upd_ne z] at this; exact this
  · cases q : F' D with
    | none => rfl
    | some v =>
      have := g.2 D hF (by rw [q]; simp)
      rw [upd_same] at this; cases this
end
def lcL (g : Tg) (own : List Nat) (t : Ev Bool) (f : Ev D) : List D → Ev (List D)
  | [], S, st => .ok [] S st
  | d :: r, S, st => match g d S with
    | some S1 => (t S1 st).calm.bind fun b S2 st2 => if b = true then
        (f S2 st2).calm.bind fun y S3 st3 => (lcL g own t f r (wipeS S3 own) st3).bind fun ys S4 st4 => .ok (y :: ys) S4 st4
      else lcL g own t f r (wipeS S2 own) st2
    | none => .stuck
def tY : Ev Bool := fun S st => .ok true S st
def restS (S0 : List Sl) : List Nat → List Sl → List Sl
  | [], S => S
  | i :: r, S => match S0[i]? with
    | some (.d x) => restS S0 r (S.set i (.d x))
    | _ => restS S0 r S
theorem Ok.put {G : Gx} {B : Hp} {F : Fz} {H : Hp} {σ : L2.St} {S : List Sl} {st : Store} (o : Ok G B F σ H S st) {i : Nat} {v : V} {x : D} (e : σ[i]? = some (some v)) (r : Rp G F v x) : Ok G B F σ H (S.set i (.d x)) st := by
  have := o.set i r
  rwa [show σ.set i (some v) = σ from by
    obtain ⟨h1, h2⟩ := List.getElem?_eq_some_iff.mp e
    rw [← h2, List.set_getElem_self]] at this
theorem Ok.rest {G : Gx} {B : Hp} {F F' : Fz} {H H' : Hp} {σ : L2.St} {S0 : List Sl} {st0 st : Store} (o0 : Ok G B F σ H S0 st0) (e : SmF F F') : ∀ (own : List Nat) (S : List Sl), Ok G B F' σ H' S st → Ok G B F' σ H' (restS S0 own S) st
  | [], S, o => o
  | i :: r, S, o => by
    unfold restS
    split
    · rename_i x hx
      obtain ⟨v, e1, rv⟩ := o0.sl i _ hx
      exact Ok.rest o0 e r _ (o.put e1 (rv.mono e))
    · exact Ok.rest o0 e r S o
theorem restS_own {S0 : List Sl} : ∀ (own : List Nat) (S : List Sl) (j : Nat) (w : Ow), (restS S0 own S)[j]? = some (.own w) → S[j]? = some (.own w)
  | [], _, _, _, h => h
  | i :: r, S, j, w, h => by
    unfold restS at h
    split at h
    · have := restS_own r _ j w h
      by_cases hj : i = j
      · have hi := set_lt this hj
        subst hj
        rw [List.getElem?_set_self hi] at this; cases this
      · rw [List.getElem?_set_ne hj] at this; exact this
    · exact restS_own r S j w h
def lcF (fi : Ev (List D)) (g : Tg) (own : List Nat) (t : Ev Bool) (f : Ev D) : Ev Ow := fun S st => (fi S st).bind fun ds S st =>
  (lcL g own t f ds (wipeS S own) st).bind fun ys S' st => if ys.length ≤ 16777216 then .ok (.l ys) (restS S own S') st else .stuck
abbrev bX (X : Cx) (s : Shared) (H : Hp) (scope : Scope) (cl : List (Str × Addr)) (C : Addr) (fp : List Addr) : Cx := X.blk s H scope (compEnvC scope cl C X.env) fp
def DTs (X : Cx) (B : Hp) (W : WX) (es : List Expr) (f : Ev Bool) : Prop := PTs X es (lift (Cx.g X) B W RB f)
theorem pts_imp {X : Cx} {es : List Expr} {t t' : TT} (h : PTs X es t) (i : ∀ σ H Q, t' σ H Q → t σ H Q) : PTs X es t' := ⟨fun pins s σ H Q I q => h.run pins s σ H Q I (i σ H Q q)⟩
theorem dts_n {X : Cx} {B : Hp} {W : WX} : DTs X B W [] tY := pts_imp pts_nil fun σ H Q ⟨F, S, st, o, q⟩ => q true H F .refl o rfl
theorem dts_1 {X : Cx} {B : Hp} {W : WX} {e : Expr} {f : Ev Bool} (h : DT X B W e f) : DTs X B W [e] f := pts_one h
theorem calm_exc {α : Type} {r : Res α} {x : Exc} {S : Sls} {st : Store} (h : r.calm = .exc x S st) : False := by
  cases r <;> cases h
theorem lcL_noexc {g : Tg} {own : List Nat} {t : Ev Bool} {f : Ev D} : ∀ {ds : List D} {S : Sls} {st : Store} {x : Exc} {S' : Sls} {st' : Store}, lcL g own t f ds S st = .exc x S' st' → False
  | [], _, _, _, _, _, h => by cases h
  | d :: r, S, st, x, S', st', h => by
    simp only [lcL] at h
    split at h
    · rename_i S1 _
      cases ht : (t S1 st).calm with
      | exc _ _ _ => exact calm_exc ht
      | stuck => rw [ht] at h; cases h
      | ok b S2 st2 =>
        rw [ht, Res.bind_ok] at h
        split at h
        · cases hf : (f S2 st2).calm with
          | exc _ _ _ => exact calm_exc hf
          | stuck => rw [hf] at h; cases h
          | ok y S3 st3 =>
            rw [hf, Res.bind_ok] at h
            cases hl : lcL g own t f r (wipeS S3 own) st3 with
            | ok ys S4 st4 => rw [hl] at h; cases h
            | stuck => rw [hl] at h; cases h
            | exc x2 S4 st4 => exact lcL_noexc hl
        · exact lcL_noexc h
    · cases h
theorem lc_lift {X : Cx} {B : Hp} {W : WX} {fi : Ev (List D)} {g : Tg} {own : List Nat} {t : Ev Bool} {f : Ev D} {gV : TG} {tt : TT} {te : TE}
    (ht : ∀ B σ H Q, lift (Cx.g X) B W0 RB t σ H Q → tt σ H Q) (he : ∀ B σ H Q, lift (Cx.g X) B W0 (RD (Cx.g X)) f σ H Q → te σ H Q)
    (hgB : ∀ B' v σ H Q, liftG (Cx.g X) B' g v σ H Q → ∀ Q', (∀ σ' H', Q σ' H' → wipe σ' own = wipe σ own → Q' σ' H') → gV v σ H Q')
    {σ : L2.St} {H : Hp} {Q : VK} (q : liftF (Cx.g X) B W (lcF fi g own t f) σ H Q) : tLc (lift (Cx.g X) B W (RW (Cx.g X)) fi) gV tt te own σ H Q := by
  obtain ⟨F, S, st, o, q⟩ := q
  refine ⟨F, S, st, o, (PostF.bind (R := RW (Cx.g X) σ) q).mono fun J H1 ⟨F1, ds, S1, st1, g1, o1, r1, p1⟩ Da hD => ?_⟩
  let Tot : List D → Res (List D) → Prop := fun acc r => PostF (Cx.g X) B W σ F1 Q (r.bind fun ys S st => if (acc ++ ys).length ≤ 16777216 then .ok (.l (acc ++ ys)) (restS S1 own S) st else .stuck)
  let Wv : Nat → Nat → Hp → Prop := fun i m H' => i ≤ ds.length ∧ m = ds.length - i ∧ ∃ acc xs F' S' st', Gr B F1 F' ∧ Ok (Cx.g X) B F' (wipe σ own) H' S' st' ∧ (∀ i ∈ own, ∀ s, S'[i]? = some s → s = .no) ∧
    H' Da = some (.lst xs) ∧ RpAll (Cx.g X) F' xs acc ∧ F' Da = none ∧ B Da = none ∧ Da ∉ F'.m ∧ (∀ (j : Nat) (es : Ow), S'[j]? = some (.own es) → (wipe σ own)[j]? ≠ some (some (.ref Da))) ∧ Tot acc (lcL g own t f (ds.drop i) S' st')
  have hF1 : F1 Da = none := o1.fH.free hD
  have hBD : B Da = none := o1.kp.free hD
  refine ⟨Wv, ⟨ds.length, Nat.zero_le _, by simp, [], [], F1, wipeS S1 own, st1, .refl, ?_, fun i hi s e => wipeS_no hi s e, upd_same, .nil, hF1, hBD, o1.so.new hD, ?_, by simpa [Tot] using p1⟩, ?_⟩
  · exact (o1.wipe own).junk (same_new hD)
  · intro j es e1 e2
    obtain ⟨p', xs', e3, h1, _⟩ := (o1.wipe own).sl j _ e1
    rw [e2] at e3; cases e3
    rw [hD] at h1; cases h1
  rintro i m H2 ⟨hi2, rfl, acc, xs, F2, S2, st2, g2, o2, n2, d2, ra, f2, b2, hm2, no2, p2⟩
  obtain ⟨wgo, wstop, wyld⟩ := r1 F2 H2 g2.1 o2.fH i
  by_cases hlt : i < ds.length
  · have hd : ds.drop i = ds[i] :: ds.drop (i + 1) := List.drop_eq_getElem_cons hlt
    rw [hd] at p2
    simp only [lcL, Tot] at p2
    refine .inr ⟨wgo hlt, fun H' => Wv (i + 1) (ds.length - (i + 1)) H', fun H' h => ⟨ds.length - (i + 1), by omega, h⟩, fun x H3 hy => ?_⟩
    obtain ⟨F3f, k3, f3, gr3, rx⟩ := wyld _ (List.getElem?_eq_getElem hlt) x H3 hy
    let F3 : Fz := ⟨F3f, F2.m⟩
    split at p2
    · rename_i S3 hS3
      have f3D : F3 Da = none := by
        cases z : F3 Da with
        | none => rfl
        | some v =>
          have := gr3.2 Da f2 (by rw [show F3f Da = _ from z]; simp)
          rw [d2] at this; cases this
      have o3 := (o2.grow gr3 k3 f3).pin (k3 _ _ d2) f3D hm2 no2
      have g23 : Gr B F2 F3 := o2.gr gr3
      refine hgB (upd B Da (.lst xs)) x _ _ (fun σ4 H4 => ∃ F4, Gr (upd B Da (.lst xs)) F3 F4 ∧ Ok (Cx.g X) (upd B Da (.lst xs)) F4 σ4 H4 S3 st2) ⟨F3, S2, st2, ds[i], S3, o3, rx, hS3, fun σ' H' F' gg oo => ⟨F', gg, oo⟩⟩ _ fun σ4 H4 ⟨F4, g4, o4⟩ hw => ?_
      have hw' : wipe σ4 own = wipe σ own := by
        rw [hw]
        have : ∀ vs : List Nat, wipe (wipe σ vs) vs = wipe σ vs := fun vs => by
          refine List.ext_getElem? fun j => ?_
          by_cases hj : j ∈ vs
          · have e1 : ∀ τ : L2.St, (wipe τ vs)[j]? = (τ[j]?).map fun _ => none := fun τ => by
              cases q1 : (wipe τ vs)[j]? with
              | none =>
                have : τ[j]? = none := by
                  rw [List.getElem?_eq_none_iff] at q1 ⊢
                  rwa [wipe_length] at q1
                rw [this]; rfl
              | some y =>
                have hl : j < τ.length := by
                  have := (List.getElem?_eq_some_iff.mp q1).1
                  rwa [wipe_length] at this
                rw [List.getElem?_eq_getElem hl]
                cases y with
                | none => rfl
                | some y => exact absurd hj (wipe_some q1).2
            rw [e1, e1]
            cases σ[j]? <;> rfl
          · rw [wipe_out hj]
        exact this own
      refine ⟨hw', ?_⟩
      refine ht (upd B Da (.lst xs)) σ4 H4 _ ⟨F4, S3, st2, o4, ?_⟩
      revert p2
      generalize t S3 st2 = r
      intro p2
      cases r with
      | stuck => exact p2
      | exc y S5 st5 => exact p2.elim
      | ok bb S5 st5 =>
        simp only [Res.calm_ok, Res.bind_ok] at p2
        intro b H5 F5 g5 o5 e5
        cases e5
        obtain ⟨g4', f4⟩ := g4.unpin hBD f3D
        obtain ⟨g5', f5⟩ := g5.unpin hBD f4
        have gAll : Gr B F2 F5 := g23.trans (g4'.trans g5')
        cases bb with
        | false =>
          refine (if_neg Bool.false_ne_true).mpr ?_
          simp only [Bool.false_eq_true, if_false] at p2
          have h5D : H5 Da = some (.lst xs) := o5.kp Da _ upd_same
          obtain ⟨o6, no6, hm6⟩ := Ok.unpin (u' := .lst xs) o5 hBD f5 (fun x z => by cases z)
          have e6 : upd H5 Da (.lst xs) = H5 := by
            funext b; by_cases z : b = Da
            · subst z; rw [upd_same, h5D]
            · rw [upd_ne z]
          rw [e6] at o6
          have o7 := o6.wipe own
          rw [hw'] at o7
          refine ⟨hlt, rfl, acc, xs, F5, wipeS S5 own, st5, g2.trans gAll, o7, fun i hi s e => wipeS_no hi s e, h5D, ra.mono gAll.1, f5, hBD, hm6, fun j es e1 e2 => ?_, p2⟩
          obtain ⟨p', u', e3, h1, _, h3, _⟩ := (o5.wipe own).sl j _ e1
          rw [hw', e2] at e3; cases e3
          rw [upd_same] at h3; cases h3
        | true =>
          refine (if_pos rfl).mpr ?_
          simp only [if_true] at p2
          refine he (upd B Da (.lst xs)) σ4 H5 _ ⟨F5, S5, st5, o5, ?_⟩
          revert p2
          generalize f S5 st5 = r2
          intro p2
          cases r2 with
          | stuck => exact p2
          | exc y S6 st6 => exact p2.elim
          | ok yy S6 st6 =>
            simp only [Res.calm_ok, Res.bind_ok] at p2
            intro y H6 F6 g6 o6 ry
            obtain ⟨g6', f6⟩ := g6.unpin hBD f5
            have gA : Gr B F2 F6 := gAll.trans g6'
            have h6D : H6 Da = some (.lst xs) := o6.kp Da _ upd_same
            obtain ⟨o7, no7, hm7⟩ := Ok.unpin (u' := .lst (xs ++ [y])) o6 hBD f6 (fun x z => by cases z)
            have o8 := o7.wipe own
            rw [hw'] at o8
            have p3 : Tot (acc ++ [yy]) (lcL g own t f (ds.drop (i + 1)) (wipeS S6 own) st6) := by
              show PostF _ _ _ _ _ _ _
              revert p2
              generalize lcL g own t f (ds.drop (i + 1)) (wipeS S6 own) st6 = r3
              intro p2
              cases r3 with
              | ok ys S7 st7 => simpa using p2
              | exc _ _ _ => exact p2
              | stuck => exact p2
            have hlen : acc.length < 16777216 := by
              have p4 := p3
              simp only [Tot] at p4
              revert p4
              generalize h3 : lcL g own t f (ds.drop (i + 1)) (wipeS S6 own) st6 = r3
              intro p4
              cases r3 with
              | ok ys S7 st7 =>
                simp only [Res.bind_ok] at p4
                split at p4
                · rename_i hh
                  simp at hh; omega
                · exact p4.elim
              | exc x' S' st' =>
                exfalso
                exact lcL_noexc h3
              | stuck => exact p4.elim
            refine ⟨xs, h6D, by rw [ra.length, sizeLine_eq]; exact hlen, hlt, rfl, acc ++ [yy], xs ++ [y], F6, wipeS S6 own, st6, g2.trans gA, o8, fun i hi s e => wipeS_no hi s e, upd_same, (ra.mono gA.1).append (.one ry), f6, hBD, hm7, fun j es e1 e2 => ?_, p3⟩
            obtain ⟨p', u', e3, h1, _, h3, _⟩ := (o6.wipe own).sl j _ e1
            rw [hw', e2] at e3; cases e3
            rw [upd_same] at h3; cases h3
    · exact p2.elim
  · have e : i = ds.length := by omega
    subst e
    rw [List.drop_length] at p2
    simp only [lcL, Tot, Res.bind_ok, List.append_nil] at p2
    refine .inl ⟨wstop (Nat.le_refl _), ?_⟩
    split at p2
    · have oo := o2.unwipe n2
      refine p2 Da (.lst xs) H2 F2 g2 (o1.rest g2.1 own S2 oo) d2 f2 hBD (.l ra) hm2 fun j es e1 e2 => ?_
      replace e1 := restS_own own S2 j es e1
      have hj : j ∉ own := fun z => by have := n2 j z _ e1; cases this
      exact no2 j es e1 (by rw [wipe_out hj]; exact e2)
    · exact p2.elim
end DL
namespace DL
open PySem PySem.Spec PyProof.Rows L2
def TgB (G : Gx) (own : List Nat) (g : Tg) (gv : TG) : Prop := ∀ B v σ H Q, liftG G B g v σ H Q → ∀ Q', (∀ σ' H', Q σ' H' → wipe σ' own = wipe σ own → Q' σ' H') → gv v σ H Q'
def TgsB (G : Gx) (own : List Nat) (g : List D → Sls → Option Sls) (gv : TGs) : Prop := ∀ B v σ H Q, liftGs G B g v σ H Q → ∀ Q', (∀ σ' H', Q σ' H' → wipe σ' own = wipe σ own → Q' σ' H') → gv v σ H Q'
theorem wipe_set {i : Nat} {x : Option V} : ∀ {own : List Nat} {σ : L2.St}, i ∈ own → wipe (σ.set i x) own = wipe σ own
  | v :: vs, σ, h => by
    unfold wipe
    by_cases hv : i ∈ vs
    · rw [wipe_set hv]
    · have e : i = v := (List.mem_cons.mp h).resolve_right hv
      subst e
      have : ∀ {vs : List Nat} {σ : L2.St}, i ∉ vs → wipe (σ.set i x) vs = (wipe σ vs).set i x := by
        intro vs
        induction vs with
        | nil => intro σ _; rfl
        | cons w ws ih =>
          intro σ h
          have h1 : i ≠ w := fun z => h (by rw [z]; exact List.mem_cons_self ..)
          have h2 : i ∉ ws := fun z => h (List.mem_cons_of_mem _ z)
          unfold wipe
          rw [ih h2, List.set_comm _ _ h1]
      rw [this hv, List.set_set]
theorem tgB_v {G : Gx} {own : List Nat} {i : Nat} (h : i ∈ own) : TgB G own (gV i) (gName i) := fun B v σ H Q ⟨F, S, st, d, S', o, r, e, q⟩ Q' k => by
  cases e
  exact k _ H (q _ H F .refl (o.set i r)) (wipe_set h)
section
variable {X : Cx} {B : Hp} {W : WX} {e a b c : Expr} {es : List Expr} {s : Stmt} {ss : List Stmt} {pos : Pos}
theorem lc_parts {elt : Expr} {ifs : List Expr} {scope : Scope} {t : Ev Bool} {f : Ev D}
    (ht : ∀ (B : Hp) (s : Shared) (H : Hp) (cl : List (Str × Addr)) (C : Addr) (fp : List Addr), DTs (bX X s H scope cl C fp) B W0 ifs t) (he : ∀ (B : Hp) (s : Shared) (H : Hp) (cl : List (Str × Addr)) (C : Addr) (fp : List Addr), DE (bX X s H scope cl C fp) B W0 elt f) :
    (∀ (s : Shared) (H : Hp) (C : Addr) (cl : List (Str × Addr)) (fp : List Addr), PTs (X.blk s H scope (compEnvC scope cl C X.env) fp) ifs (fun σ H Q => ∃ B, lift (Cx.g X) B W0 RB t σ H Q)) ∧
    (∀ (s : Shared) (H : Hp) (C : Addr) (cl : List (Str × Addr)) (fp : List Addr), PE (X.blk s H scope (compEnvC scope cl C X.env) fp) elt (fun σ H Q => ∃ B, lift (Cx.g X) B W0 (RD (Cx.g X)) f σ H Q)) :=
  ⟨fun s H C cl fp => ⟨fun pins s' σ H' Q I ⟨B, q⟩ => (ht B s H cl C fp).run pins s' σ H' Q I q⟩, fun s H C cl fp => ⟨fun pins s' σ H' Q I ⟨B, q⟩ => (he B s H cl C fp).run pins s' σ H' Q I q⟩⟩
theorem df_lc {elt tg iter : Expr} {ifs : List Expr} {scope : Scope} (own : List (Str × Nat)) {fi : Ev (List D)} {g : Tg} {gv : TG} {t : Ev Bool} {f : Ev D} (hc : X.calm = true) (nd : X.N.Nodup) (ok : BlkOk X.N X.env.scope scope own) (hi : DI X B W tg iter fi) (hgv : TgB (Cx.g X) (own.map (·.2)) g gv)
    (hg : ∀ (s : Shared) (H : Hp) (C : Addr) (cl : List (Str × Addr)) (fp : List Addr), PG (X.blk s H scope (compEnvC scope cl C X.env) fp) tg gv)
    (ht : ∀ (B : Hp) (s : Shared) (H : Hp) (cl : List (Str × Addr)) (C : Addr) (fp : List Addr), DTs (bX X s H scope cl C fp) B W0 ifs t) (he : ∀ (B : Hp) (s : Shared) (H : Hp) (cl : List (Str × Addr)) (C : Addr) (fp : List Addr), DE (bX X s H scope cl C fp) B W0 elt f)
    (hs : ∀ x, foldedSetIterable iter X.env x = pure x := by intro _; rfl) : DF X B W (.ListComp elt [⟨tg, iter, ifs, 0⟩] scope pos) (lcF fi g (own.map (·.2)) t f) :=
  pe_imp (pe_lc hc nd hi ok hg (lc_parts ht he).1 (lc_parts ht he).2 hs) fun σ H Q q => lc_lift (fun B σ H Q q => ⟨B, q⟩) (fun B σ H Q q => ⟨B, q⟩) (fun B v σ H Q q => hgv B v σ H Q q) q
def sP (i j : Nat) (fa : Ev (List Opd)) : EvS := fun S st => (fa S st).out fun a S st => match vds S a with
  | some [x, y] => .nx ((S.set i (.d x)).set j (.d y)) st
  | _ => .stuck
def sAp (i : Nat) (f : Ev Opd) : EvS := fun S st => match S[i]? with
  | some (.own (.l _)) => (f S st).out fun o S st => match vd S o, S[i]? with
    | some d, some (.own (.l ds)) => if ds.length < 16777216 then .nx (S.set i (.own (.l (ds ++ [d])))) st else .stuck
    | _, _ => .stuck
  | _ => .stuck
theorem ds_ap {i : Nat} {f : Ev Opd} {apos pos' : Pos} (ho : PE X a (tVar i)) (h : DO X B W e f) (hs : swapsWith (.Call (.Attribute a "append" apos) [e] [] pos') none pos.line X.env = pure false := by rfl)
    (hbase : attributeBase a "append" X.env (eval a X.env) = eval a X.env := by rfl)
    (hfew : ((backTo pos' (starEach [e] X.env)).all (fun x => !x.1) && (backToKw pos' (keywordEach [] X.env)).all (fun x => x.1.isSome)
      && decide (([e] : List Expr).length + ([] : List Keyword).length + (if ([] : List Keyword).isEmpty then 0 else 1) < 30)) = true := by rfl)
    (hline : (apos.endLine == pos'.line) = true := by rfl) (hst : starEach [e] X.env = (false, eval e X.env) :: starEach [] X.env := by rfl) :
    DS X B W (.Expr (.Call (.Attribute a "append" apos) [e] [] pos') pos) (sAp i f) :=
  ps_imp (ps_expr (pe_bm PySem.F.plainAttrs_list PySem.F.slot_list_append PySem.F.type_list_append mt_append ho (pa_cons h pa_nil hst) hbase hfew hline hst) hs) fun D σ H ⟨F, S, st, o, q⟩ => by
    unfold sAp at q
    split at q
    · rename_i ds0 hS0
      obtain ⟨p, u, e1, h1, h2, h3, r, _⟩ := o.sl i _ hS0
      cases r with
      | l r =>
        refine ⟨_, e1, .inl ⟨rfl, _, .inl (.inl h1)⟩, F, S, st, o, (Post.out (R := RO (Cx.g X) σ) q).mono fun v H1 ⟨F1, o', S1, st1, g1, o1, r1, p1⟩ => ?_⟩
        split at p1
        · rename_i d ds hd hS1
          split at p1
          · rename_i hlen
            obtain ⟨p', u', e1', h1', h2', h3', r', _⟩ := o1.sl i _ hS1
            rw [e1] at e1'; cases e1'
            cases r' with
            | l r' =>
              refine ⟨p, _, v, rfl, rfl, h1', by rw [r'.length, sizeLine_eq]; exact hlen, p1 σ _ F1 .refl (o1.chg hS1 e1 (.l (r'.append (.one (o1.vd r1 hd)))))⟩
          · exact p1.elim
        · exact p1.elim
    · exact q.elim
def sEx (i : Nat) (f : Ev D) : EvS := fun S st => match S[i]? with
  | some (.own (.l _)) => (f S st).out fun d S st => match d, S[i]? with
    | .lst es, some (.own (.l ds)) => if ds.length + es.length ≤ 16777216 then .nx (S.set i (.own (.l (ds ++ es)))) st else .stuck
    | _, _ => .stuck
  | _ => .stuck
def ePop (i : Nat) : Ev D := fun S st => match S[i]? with
  | some (.own (.l ds)) => match ds.getLast? with
    | some d => .ok d (S.set i (.own (.l ds.dropLast))) st
    | none => .stuck
  | _ => .stuck
theorem RpAll.dropLast {G : Gx} {F : Fz} {vs : List V} {ds : List D} (r : RpAll G F vs ds) : RpAll G F vs.dropLast ds.dropLast := by
  rw [List.dropLast_eq_take, List.dropLast_eq_take, r.length]
  exact r.take _
def sSet (i : Nat) (fv : Ev D) (fj : Ev D) : EvS := fun S st => (fv S st).out fun d S st => match S[i]? with
  | some (.own (.l _)) => (fj S st).out fun j S st => match j, S[i]? with
    | .int k, some (.own (.l ds)) => match ixN ds.length k with
      | some j => .nx (S.set i (.own (.l (ds.set j d)))) st
      | none => .stuck
    | _, _ => .stuck
  | _ => .stuck
end
def runB (N : Nat) (b : EvS) : CallT := fun ds st => match b (ds.map Sl.d ++ List.replicate (N - ds.length) .no) st with
  | .nx _ st => .ok .non [] st
  | .ret d _ st => .ok d [] st
  | .exc x _ st => .exc x [] st
  | _ => .stuck
theorem Ok.start {G : Gx} {B : Hp} {F : Fz} {H : Hp} {N : List Str} {vs : List V} {ds : List D} {st : Store} (f : Same F.f H) (kp : Same B H) (so : StOk G B F H st) (r : RpAll G F vs ds) (hl : vs.length ≤ N.length) : Ok G B F (start N vs) H (ds.map Sl.d ++ List.replicate (N.length - ds.length) .no) st := by
  have rl := r.length
  refine ⟨f, kp, so, by simp [L2.start, rl], fun i s e => ?_, fun i j a b p e1 e2 e3 e4 => ?_⟩
  · by_cases hi : i < ds.length
    · rw [List.getElem?_append_left (by simpa using hi), List.getElem?_map] at e
      cases q : ds[i]? with
      | none => rw [q] at e; cases e
      | some d =>
        rw [q] at e; cases e
        obtain ⟨v, hv, rv⟩ := r.get q
        refine ⟨v, ?_, rv⟩
        unfold L2.start
        rw [List.getElem?_append_left (by simpa [rl] using hi), List.getElem?_map, hv]; rfl
    · rw [List.getElem?_append_right (by simpa using hi), List.getElem?_replicate] at e
      split at e
      · cases e; trivial
      · cases e
  · by_cases hi : i < ds.length
    · rw [List.getElem?_append_left (by simpa using hi), List.getElem?_map] at e1
      cases q : ds[i]? with
      | none => rw [q] at e1; cases e1
      | some d => rw [q] at e1; cases e1
    · rw [List.getElem?_append_right (by simpa using hi), List.getElem?_replicate] at e1
      split at e1 <;> cases e1
section
variable {P : Program} {w : World} {K : PySem.W.Frag} {mg : Str → Option Value} {base : Heap}
theorem fn_ok {x qual : Str} {st : Stmt} {f : Addr} {fd : FuncData} {N ps : List Str} {k : Nat} {b : EvS} (F : Fun K x qual st f fd) (S : FnScope N ps (defScope st)) 
    (body : ∀ (B : Hp) (cdv : Value) (A : Around) (outer : List Env) (s : Shared) (H : Hp) (E : XK) (W : WX), Room k (A.deeper (envOfC qual (defScope st) s.heap.objs.size f cdv)) →
      Takes (cxOf (L2.CX P w) P w K mg base N qual (defScope st) f cdv A outer s H E) W → PassesOwn (model P w) (A.deeper (envOfC qual (defScope st) s.heap.objs.size f cdv)) (envOfC qual (defScope st) s.heap.objs.size f cdv) (cxOf (L2.CX P w) P w K mg base N qual (defScope st) f cdv A outer s H E).xe →
      DSs (cxOf (L2.CX P w) P w K mg base N qual (defScope st) f cdv A outer s H E) B W (defBody st) b) : FnOk P w K mg base (L2.CX P w) (k + 1) f fd ps (spOf ⟨K, mg, w⟩ ps.length (runB N.length b)) := by
  refine F.okX S (fun vs H Q E h => h.1) (fun cdv A outer s H vs Q E hr h => ?_)
  obtain ⟨hl, F0, ds, st0, f0, so0, r, q⟩ := h
  refine ⟨_, body (hid F0.m H) cdv A outer s H E (fun cls d _ H' => E cls d H') hr (takes_of rfl rfl rfl rfl) (passes_of rfl), ?_⟩
  have hN : ps.length ≤ N.length := by have := congrArg List.length S.pre; rw [List.length_take] at this; omega
  refine ⟨F0, _, st0, Ok.start f0 (hid_same _ _) so0 r (by omega), ?_⟩
  unfold runB at q
  revert q
  generalize b (ds.map Sl.d ++ List.replicate (N.length - ds.length) .no) st0 = r
  intro q
  cases r with
  | nx S1 st1 => exact fun σ' H' F' g o => q .non H' F' o.kp o.fH g o.so .non
  | ret d S1 st1 => exact fun v σ' H' F' g o rr => q v H' F' o.kp o.fH g o.so rr
  | exc y S1 st1 => exact fun c d σ' H' F' g o rr => q c d H' F' o.kp o.fH g o.so rr
  | bk S1 st1 => exact q.elim
  | ct S1 st1 => exact q.elim
  | rto w1 S1 st1 => exact q.elim
  | stuck => exact q.elim
theorem def_ok {x qual : Str} {st : Stmt} {f : Addr} {fd : FuncData} {N ps : List Str} {k : Nat} {b : EvS} (F : Fun K x qual st f fd) (S : FnScope N ps (defScope st)) (hb : Binds K fd ps []) (hm : mg x = some (.ref f))
    (body : ∀ (B : Hp) (cdv : Value) (A : Around) (outer : List Env) (s : Shared) (H : Hp) (E : XK) (W : WX), Room k (A.deeper (envOfC qual (defScope st) s.heap.objs.size f cdv)) →
      Takes (cxOf (L2.CX P w) P w K mg base N qual (defScope st) f cdv A outer s H E) W → PassesOwn (model P w) (A.deeper (envOfC qual (defScope st) s.heap.objs.size f cdv)) (envOfC qual (defScope st) s.heap.objs.size f cdv) (cxOf (L2.CX P w) P w K mg base N qual (defScope st) f cdv A outer s H E).xe →
      DSs (cxOf (L2.CX P w) P w K mg base N qual (defScope st) f cdv A outer s H E) B W (defBody st) b) : Def P w K mg base (k + 1) x ps.length (runB N.length b) := ⟨f, fd, ps, fn_ok F S body, hb, hm, F.kp⟩
def cStuck : CallT := fun _ _ => .stuck
end
end DL
namespace DL
open PySem PySem.Spec PyProof.Rows L2
abbrev XTab := List (Nat × Nat × Bool)
def xLook : XTab → Nat → Nat → Option Bool
  | [], _, _ => none
  | (c, t, b) :: r, x, y => if x = c ∧ y = t then some b else xLook r x y
theorem xLook_mem : ∀ {T : XTab} {x y : Nat} {b : Bool}, xLook T x y = some b → (x, y, b) ∈ T
  | (c, t, d) :: r, x, y, b, h => by
    unfold xLook at h
    split at h
    · rename_i e
      obtain ⟨rfl, rfl⟩ := e
      cases h; simp
    · simp [xLook_mem h]
structure XCl (K : PySem.W.Frag) (C : Addr) : Prop where
  ex : PySem.W.excIn K C [.type "ValueError", .type "Exception", .type "BaseException", .type "object"] "ValueError.__new__" = true
  kp : PySem.W.keepIn K (.ref C) = true
  ty : PySem.W.typeIn K (.ref C) = some (.type "type")
  is : ExcC K C
  ve : PySem.W.subIn K (.ref C) (.type "ValueError") = some true
  me : PySem.W.subIn K (.ref C) (.ref C) = some true
structure HCl (K : PySem.W.Frag) (C : Addr) : Prop where
  be : PySem.W.subIn K (.ref C) (.type "BaseException") = some true
  hd : PySem.W.hasDictIn K C = true
  ty : PySem.W.typeIn K (.ref C) = some (.type "type")
structure XT (K : PySem.W.Frag) (mg : Str → Option Value) (T : XTab) : Prop where
  rows : ∀ c t b, (c, t, b) ∈ T → ∃ C Ct, mg (nmS c) = some (.ref C) ∧ mg (nmS t) = some (.ref Ct) ∧ PySem.W.subIn K (.ref C) (.ref Ct) = some b ∧ XCl K C ∧ HCl K Ct
  ve : mg "ValueError" = none
theorem XT.nil {K : PySem.W.Frag} {mg : Str → Option Value} (h : mg "ValueError" = none) : XT K mg [] := ⟨(fun _ _ _ h => by cases h), h⟩
theorem XT.cons {K : PySem.W.Frag} {mg : Str → Option Value} {T : XTab} {c t : Nat} {b : Bool} {C Ct : Addr} (h1 : mg (nmS c) = some (.ref C)) (h2 : mg (nmS t) = some (.ref Ct)) (h3 : PySem.W.subIn K (.ref C) (.ref Ct) = some b) (h4 : XCl K C) (h5 : HCl K Ct) (h : XT K mg T) : XT K mg ((c, t, b) :: T) :=
  ⟨fun c' t' b' m => by
    rcases List.mem_cons.mp m with e | m
    · cases e; exact ⟨C, Ct, h1, h2, h3, h4, h5⟩
    · exact h.rows _ _ _ m, h.ve⟩
def isX (T : XTab) (c : Nat) : List (Option Nat) → Option Bool
  | [] => some false
  | none :: _ => some true
  | some t :: r => match xLook T c t with
    | some true => some true
    | some false => isX T c r
    | none => none
section
variable {K : PySem.W.Frag} {mg : Str → Option Value} {T : XTab}
theorem kit_own {C Ct : Addr} {b : Bool} (h : PySem.W.subIn K (.ref C) (.ref Ct) = some b) (hx : XCl K C) (hh : HCl K Ct) : PySem.W.kitOne K (.ref C) (.ref Ct) = some b := by
  unfold PySem.W.kitOne
  by_cases e : C = Ct
  · subst e
    rw [if_pos (by simp)]
    rw [hx.me] at h; exact h
  · rw [if_neg (by simpa using e)]
    obtain ⟨cd, hc, _⟩ := PySem.W.any_some hh.hd
    unfold PySem.W.kitCls
    dsimp only
    rw [if_pos (by rw [hc, hh.ty]; rfl)]
    exact h
theorem kit_ve {C : Addr} (hx : XCl K C) : PySem.W.kitOne K (.ref C) (.type "ValueError") = some true := by
  unfold PySem.W.kitOne
  rw [if_neg (by simp)]
  unfold PySem.W.kitCls
  dsimp only
  rw [if_pos (by decide +kernel)]
  exact hx.ve
inductive TVs (mg : Str → Option Value) : List (Option Nat) → List V → List Value → Prop
  | nil : TVs mg [] [] []
  | ve {ts : List (Option Nat)} {vs : List V} {us : List Value} : TVs mg ts vs us → TVs mg (none :: ts) (.ty "ValueError" :: vs) (.type "ValueError" :: us)
  | own {t : Nat} {C : Addr} {ts : List (Option Nat)} {vs : List V} {us : List Value} : mg (nmS t) = some (.ref C) → TVs mg ts vs us → TVs mg (some t :: ts) (.ref C :: vs) (.ref C :: us)
theorem TVs.cls : ∀ {ts : List (Option Nat)} {vs : List V} {us : List Value}, TVs mg ts vs us → Paired ClsV vs us
  | _, _, _, .nil => .nil
  | _, _, _, .ve h => .cons (.ty _) h.cls
  | _, _, _, .own _ h => .cons (.own _) h.cls
theorem isX_kit (hT : XT K mg T) {c : Nat} {C : Addr} (hC : mg (nmS c) = some (.ref C)) (hx : XCl K C) : ∀ {ts : List (Option Nat)} {vs : List V} {us : List Value} {b : Bool}, TVs mg ts vs us → isX T c ts = some b → PySem.W.kitAny K (.ref C) us = some b
  | _, _, _, b, .nil, h => h
  | _, _, _, b, .ve r, h => by
    unfold isX at h
    unfold PySem.W.kitAny
    rw [kit_ve hx]; exact h
  | _, _, _, b, .own (t := t) ht r, h => by
    unfold isX at h
    unfold PySem.W.kitAny
    split at h
    · rename_i e
      obtain ⟨C1, C2, a1, a2, a3, a4, a5⟩ := hT.rows _ _ _ (xLook_mem e)
      rw [hC] at a1; cases a1
      rw [ht] at a2; cases a2
      rw [kit_own a3 a4 a5]; exact h
    · rename_i e
      obtain ⟨C1, C2, a1, a2, a3, a4, a5⟩ := hT.rows _ _ _ (xLook_mem e)
      rw [hC] at a1; cases a1
      rw [ht] at a2; cases a2
      rw [kit_own a3 a4 a5]; exact isX_kit hT hC hx r h
    · cases h
end
section
variable {X : Cx} {B : Hp} {W : WX} {e : Expr} {es : List Expr} {pos p pe p2 : Pos} {a C : Addr} {oe : Obj} {cx : Nat} {T : XTab}
theorem inst_pin {pins : List (Addr × Obj)} {σ : L2.St} {H : Hp} {s : Shared} (hp : (a, oe) ∈ X.pn) (hz : Zc (.ref C) none oe) (hf : ∃ vs, oe.data = .fields vs) (I : Inv X pins σ H s) : PySem.W.InstAt s.heap a oe C none := by
  obtain ⟨hget, _⟩ := I.pin (a, oe) (List.mem_append.mpr (.inl hp))
  obtain ⟨vs, hv⟩ := hf
  obtain ⟨oc, od, oda, osl⟩ := oe
  obtain ⟨z1, z2⟩ := hz
  dsimp only at z1 z2 hv
  subst z1 z2 hv
  exact ⟨hget, rfl, rfl, trivial⟩
def rIsP (K : PySem.W.Frag) (C a : Addr) : List V → Hp → VK → Prop := fun xs H Q => (∃ (c : V) (cv : Value) (b : Bool), xs = [.ref a, c] ∧ ClsV c cv ∧ PySem.W.kitOne K (.ref C) cv = some b ∧ Q (.bl b) H) ∨
  ∃ (tp : Addr) (cs : List V) (us : List Value) (b : Bool), xs = [.ref a, .ref tp] ∧ H tp = some (.tup cs) ∧ Paired ClsV cs us ∧ PySem.W.kitAny K (.ref C) us = some b ∧ Q (.bl b) H
theorem call_isP (hp : (a, oe) ∈ X.pn) (hz : Zc (.ref C) none oe) (hf : ∃ vs, oe.data = .fields vs) (hc : ExcC X.K C) : CallR X (.builtin "isinstance") (rIsP X.K C a) := by
  intro pins s σ H xs us Q I r h
  have J := inst_pin hp hz hf I
  have Z := PySem.W.handS_kitx_exc (x := a) (ox := oe) hc.hg hc.hk hc.hs hc.hd hc.ha hc.hn hc.ht hc.hm
  rcases h with ⟨c, cv, b, rfl, k, ek, q⟩ | ⟨tp, cs, ws, b, rfl, hT, k, ek, q⟩
  · obtain ⟨u1, u2, rfl, r1, r2⟩ := vals2 r
    cases (show u1 = Value.ref a from r1)
    have := k.eq r2
    subst this
    exact PySem.W.kia_one Z I.kIn J ek (fun z => nomatch z) fun tk => ⟨.bl b, H, I.kept (t' := tk) fun _ _ z => z, rfl, q⟩
  · obtain ⟨u1, u2, rfl, r1, r2⟩ := vals2 r
    cases (show u1 = Value.ref a from r1)
    cases (show u2 = Value.ref tp from r2)
    obtain ⟨_, its, rv, o, g1, g2, n, g3⟩ := (show ObjOk X.prog X.w H s.heap tp (.tup cs) from I.hok tp _ hT)
    have e3 := ClsV.all k rv
    subst e3
    obtain ⟨oc, od, dt, sl⟩ := o
    simp only at g2 g3
    subst g2 g3
    exact PySem.W.kia_tup Z I.kIn J g1 ek (fun z => nomatch z) fun tk => ⟨.bl b, H, I.kept (t' := tk) fun _ _ z => z, rfl, q⟩
def isE (T : XTab) (a : Addr) (cx : Nat) (ts : List (Option Nat)) (i : Nat) : Ev D := fun S st => match S[i]? with
  | some (.d (.err a' c')) => if a' = a ∧ c' = cx then got ((isX T cx ts).map D.bl) S st else .stuck
  | _ => .stuck
theorem Ok.errSlot {G : Gx} {B : Hp} {F : Fz} {H : Hp} {σ : L2.St} {S : Sls} {st : Store} (o : Ok G B F σ H S st) {i : Nat} {a : Addr} {c : Nat} (h : S[i]? = some (.d (.err a c))) : σ[i]? = some (some (.ref a)) := by
  obtain ⟨v, e, r⟩ := o.sl i _ h
  cases r
  exact e
theorem de_isE1 {i : Nat} {n : Str} {t : Option Nat} {v : V} {u : Value} (hT : XT X.K X.mg T) (hp : (a, oe) ∈ X.pn) (hz : Zc (.ref C) none oe) (hf : ∃ vs, oe.data = .fields vs) (hC : X.mg (nmS cx) = some (.ref C)) (hx : XCl X.K C) (hi : X.mg "isinstance" = none)
    (hn : PE X (.Name n pe) (tVar i)) (he : PE X e (tC v)) (hv : TVs X.mg [t] [v] [u]) (hg : Gl X "isinstance" := by rfl)
    (hs : starEach [.Name n pe, e] X.env = (false, eval (.Name n pe) X.env) :: starEach [e] X.env := by rfl) (hs2 : starEach [e] X.env = (false, eval e X.env) :: starEach [] X.env := by rfl) (hpl : (backTo pos (starEach [e] X.env)).any (·.1) = false := by rfl) : DE X B W (.Call (.Name "isinstance" p) [.Name n pe, e] [] pos) (isE T a cx [t] i) :=
  pe_imp (pe_callB (call_isP hp hz hf hx.is) hg hi rfl (pa_cons hn (pa_cons he pa_nil hs2) hs) (by decide) (by decide) hs hpl) fun σ H Q ⟨F, S, st, o, q⟩ => by
    unfold isE at q
    split at q
    · rename_i a' c' hS
      split at q
      · rename_i hh
        obtain ⟨rfl, rfl⟩ := hh
        cases hb : isX T c' [t] with
        | none => rw [hb] at q; exact q.elim
        | some b =>
          rw [hb] at q
          have hk := isX_kit hT hC hx hv hb
          refine ⟨_, o.errSlot hS, .inl ⟨v, u, b, rfl, ?_, ?_, q (.bl b) H F .refl o (.bl b)⟩⟩
          · cases hv.cls with
            | cons k _ => exact k
          · unfold PySem.W.kitAny at hk
            split at hk
            · rename_i e1; rw [e1]; exact hk
            · rename_i e1; rw [e1]; exact hk
            · cases hk
      · exact q.elim
    · exact q.elim
inductive TNs (X : Cx) : List Expr → List (Option Nat) → List V → Prop
  | nil : TNs X [] [] []
  | cons {e : Expr} {es : List Expr} {t : Option Nat} {ts : List (Option Nat)} {v : V} {vs : List V} : PE X e (tC v) → starEach (e :: es) X.env = (false, eval e X.env) :: starEach es X.env → TNs X es ts vs → TNs X (e :: es) (t :: ts) (v :: vs)
end
end DL
namespace DL
open PySem PySem.Spec PyProof.Rows L2
def sX (c : Nat) : EvS := fun S st => .exc ⟨c, []⟩ S st
def noX : Out → Out
  | .exc _ _ _ => .stuck
  | r => r
def sTry (T : XTab) (h : Nat) (fb : EvS) (fs : Nat → EvS) : EvS := fun S st => match fb S st with
  | .exc x S1 st1 => match xLook T x.c h, x.fs with
    | some true, [] => noX (fs x.c S1 st1)
    | some false, _ => .exc x S1 st1
    | _, _ => .stuck
  | r => r
def clr (i : Nat) : Out → Out
  | .nx S st => .nx (S.set i .no) st
  | .ret d S st => .ret d (S.set i .no) st
  | .bk S st => .bk (S.set i .no) st
  | .ct S st => .ct (S.set i .no) st
  | .rto w S st => .rto w (S.set i .no) st
  | .exc _ _ _ => .stuck
  | .stuck => .stuck
noncomputable def pickO (r : Addr → Out) : Out := by
  classical
  exact if h : ∃ o, ∀ a, r a = o then Classical.choose h else .stuck
theorem pickO_eq {r : Addr → Out} {o : Out} (h : ∀ a, r a = o) : pickO r = o := by
  have hx : ∃ o, ∀ a, r a = o := ⟨o, h⟩
  unfold pickO
  rw [dif_pos hx]
  rw [← Classical.choose_spec hx 0, h 0]
noncomputable def sTryA (T : XTab) (h i : Nat) (fb : EvS) (fs : Addr → Nat → EvS) : EvS := fun S st => match fb S st with
  | .exc x S1 st1 => match xLook T x.c h, x.fs with
    | some true, [] => pickO fun a => clr i (fs a x.c (S1.set i (.d (.err a x.c))) st1)
    | some false, _ => .exc x S1 st1
    | _, _ => .stuck
  | r => r
section
variable {X : Cx} {B : Hp} {W : WX} {pos p p2 p3 np pos2 : Pos} {T : XTab}
theorem ds_raise {c : Nat} {x m : Str} {j : Nat} (hT : XT X.K X.mg T) (hc : (c, c, true) ∈ T) (hx : nmS c = x) (tk : Takes X W) (hcalm : X.calm = true := by rfl) (hg : Gl X x := by rfl) (hdb : (x == ("__debug__" : Str)) = false := by decide) :
    DS X B W (.Raise (some (.Call (.Name x p) [.Constant (.str m) j p2] [] p3)) none pos) (sX c) := by
  obtain ⟨C, C2, a1, a2, a3, a4, a5⟩ := hT.rows _ _ _ hc
  rw [a1] at a2; cases a2
  have a1' := a1
  rw [hx] at a1
  exact ps_imp (ps_raise hcalm tk (pmk_own PySem.F.excBase_ValueError a4.ex a1 a4.kp (raises_own a5.be a4.ty) hg hdb)) fun D σ H ⟨F, S, st, o, q⟩ => q (.ref C) none σ H F .refl o ⟨C, a1', rfl, .inl ⟨rfl, rfl⟩⟩
structure HNm (X : Cx) (h : Nat) (x : Str) : Prop where
  ex : ∃ C, X.mg x = some (.ref C) ∧ HCl X.K C
  nm : nmS h = x
theorem XT.exm (hT : XT X.K X.mg T) {c h : Nat} {C Ch : Addr} {b : Bool} (e : xLook T c h = some b) (hC : X.mg (nmS c) = some (.ref C)) (hh : X.mg (nmS h) = some (.ref Ch)) : PySem.W.exmOne X.K (.ref C) (.ref Ch) = some b ∧ XCl X.K C := by
  obtain ⟨C1, C2, a1, a2, a3, a4, a5⟩ := hT.rows _ _ _ (xLook_mem e)
  rw [hC] at a1; cases a1
  rw [hh] at a2; cases a2
  exact ⟨PySem.W.exm_ref a5.be a5.hd a5.ty a3, a4⟩
theorem PostS.noX {G : Gx} {F F' : Fz} {D : Ends} {r : Out} (g : Gr B F F') (q : PostS G B W F D (noX r)) : PostS G B (fun _ _ _ _ => False) F' D r := by
  cases r with
  | exc x S st => exact q.elim
  | nx S st => exact PostS.grow (W := fun _ _ _ _ => False) g (r := .nx S st) q
  | ret d S st => exact PostS.grow (W := fun _ _ _ _ => False) g (r := .ret d S st) q
  | bk S st => exact PostS.grow (W := fun _ _ _ _ => False) g (r := .bk S st) q
  | ct S st => exact PostS.grow (W := fun _ _ _ _ => False) g (r := .ct S st) q
  | rto w S st => exact PostS.grow (W := fun _ _ _ _ => False) g (r := .rto w S st) q
  | stuck => exact q
theorem PostS.clr {G : Gx} {F F' : Fz} {i : Nat} {D : Ends} {r : Out} (g : Gr B F F') (q : PostS G B W F D (clr i r)) :
    PostS G B (fun _ _ _ _ => False) F' { nx := fun σ' H' => D.nx (σ'.set i none) H', rt := D.rt, bk := fun σ' H' => D.bk (σ'.set i none) H', ct := fun σ' H' => D.ct (σ'.set i none) H' } r := by
  cases r with
  | exc x S st => exact q.elim
  | nx S st => exact fun σ' H' F2 g2 o => q (σ'.set i none) H' F2 (g.trans g2) (o.any i none)
  | ret d S st => exact fun v σ' H' F2 g2 o r => q v (σ'.set i none) H' F2 (g.trans g2) (o.any i none) r
  | bk S st => exact fun σ' H' F2 g2 o => q (σ'.set i none) H' F2 (g.trans g2) (o.any i none)
  | ct S st => exact fun σ' H' F2 g2 o => q (σ'.set i none) H' F2 (g.trans g2) (o.any i none)
  | rto w S st => exact fun p u σ' H' F2 g2 o => q p u (σ'.set i none) H' F2 (g.trans g2) (o.any i none)
  | stuck => exact q
theorem pickO_at {r : Addr → Out} (a : Addr) : pickO r = .stuck ∨ pickO r = r a := by
  unfold pickO
  by_cases h : ∃ o, ∀ a, r a = o
  · rw [dif_pos h]; exact .inr (Classical.choose_spec h a).symm
  · rw [dif_neg h]; exact .inl rfl
theorem ds_tryA {h i : Nat} {x n : Str} {body suite : List Stmt} {b0 : Stmt} {fb : EvS} {fs : Addr → Nat → EvS} (hT : XT X.K X.mg T) (hh : HNm X h x) (tk : Takes X W)
    (hN : X.N.Nodup)
    (hb : ∀ (W' : WX) (pn : List (Addr × Obj)) (xe : Value → Shared → Prop), Takes (X.tr pn xe) W' → PassesOwn (model X.prog X.w) X.A X.env xe → DSs (X.tr pn xe) B W' body fb)
    (hsu : ∀ (a : Addr) (oe : Obj) (C : Addr) (pn : List (Addr × Obj)) (c : Nat), X.mg (nmS c) = some (.ref C) → XCl X.K C → Zc (.ref C) none oe → (∃ vs, oe.data = .fields vs) → DSs (X.suite a ((a, oe) :: pn)) B (fun _ _ _ _ => False) (b0 :: suite) (fs a c))
    (hi : X.N[i]? = some n := by rfl) (hln : X.env.kindOf n = some .local := by rfl)
    (hs : X.stack = X.env :: X.outer := by rfl) (hf : X.env.frame = some X.env.locals := by rfl) (hg : Gl X x := by rfl) (hdb : (x == ("__debug__" : Str)) = false := by decide) :
    DS X B W (.Try body [.ExceptHandler (some (.Name x np)) (some n) (b0 :: suite) pos2] [] [] pos) (sTryA T h i fb fs) := by
  obtain ⟨⟨Ch, hCh, hcl⟩, hnm⟩ := hh
  have hCh' : X.mg (nmS h) = some (.ref Ch) := by rw [hnm]; exact hCh
  refine ps_imp (ps_try_as (ts := fun a cls d D σ H => ∃ (c : Nat) (C : Addr), cls = .ref C ∧ d = none ∧ X.mg (nmS c) = some (.ref C) ∧ XCl X.K C ∧ liftS (Cx.g X) B (fun _ _ _ _ => False) (fs a c) D σ H) (tb := fun W' => liftS (Cx.g X) B W' fb) hs hf hN hi hln ⟨hg, hdb, .inl hCh⟩ tk hb (fun a oe cls d pn hz hfl => ⟨fun pins sh σ H D I z => ?_⟩)) fun D σ H ⟨F, S, st, o, q⟩ => ?_
  · obtain ⟨c, C, e1, e2, e3, e4, q⟩ := z
    subst e1; subst e2
    exact (hsu a oe C pn c e3 e4 hz hfl).run pins sh σ H D I q
  · refine ⟨F, S, st, o, ?_⟩
    unfold sTryA at q
    generalize fb S st = r at q
    cases r with
    | exc x S1 st1 =>
      intro cls dd σ' H' F' g o' xr
      obtain ⟨C, hC, rfl, hd⟩ := id xr
      dsimp only at q
      cases hl : xLook T x.c h with
      | none => rw [hl] at q; exact q.elim
      | some b =>
        obtain ⟨hexm, hxc⟩ := hT.exm hl hC hCh'
        rw [hl] at q
        cases b with
        | false => exact ⟨false, hexm, fun z => (by cases z), fun _ => q _ _ σ' H' F' g o' xr⟩
        | true =>
          cases hfs : x.fs with
          | cons y r => rw [hfs] at q; exact q.elim
          | nil =>
            rw [hfs] at q
            have hdn : dd = none := by
              rcases hd with ⟨_, e⟩ | ⟨n, _⟩
              · exact e
              · exact absurd hfs n
            refine ⟨true, hexm, fun _ a ha => ⟨x.c, C, rfl, hdn, hC, hxc, F', _, st1, o'.set i (.err a x.c), ?_⟩, fun z => (by cases z)⟩
            dsimp only at q
            rcases pickO_at (r := fun a => DL.clr i (fs a x.c (S1.set i (.d (.err a x.c))) st1)) a with e | e
            · rw [e] at q; exact q.elim
            · rw [e] at q; exact PostS.clr g q
    | nx S st => exact q
    | ret d S st => exact q
    | bk S st => exact q
    | ct S st => exact q
    | rto w S st => exact q
    | stuck => exact q
end
section
variable {P : Program} {w : World} {K : PySem.W.Frag} {mg : Str → Option Value} {base : Heap}
abbrev CallP := Addr → Nat → CallT
def spP (G : Gx) (a : Addr) (c : Nat) (f : CallP) : Sp := fun vs H Q _ => vs = [.ref a] ∧ ∃ (F : Fz) (st : Store), Same F.f H ∧ StOk G (hid F.m H) F H st ∧ match f a c [.err a c] st with
  | .ok d _ st' => ∀ v H' (F' : Fz), Same (hid F.m H) H' → Same F'.f H' → Gr (hid F.m H) F F' → StOk G (hid F.m H) F' H' st' → Rp G F' v d → Q v H'
  | _ => False
structure DefP (P : Program) (w : World) (K : PySem.W.Frag) (mg : Str → Option Value) (base : Heap) (k : Nat) (x : Str) (f : CallP) : Prop where
  ex : ∃ (fa : Addr) (fd : FuncData) (n : Str), Binds K fd [n] [] ∧ mg x = some (.ref fa) ∧ PySem.W.keepIn K (.ref fa) = true ∧
    ∀ (a : Addr) (oe : Obj) (c : Nat) (C : Addr), mg (nmS c) = some (.ref C) → XCl K C → Zc (.ref C) none oe → (∃ vs, oe.data = .fields vs) →
      ∀ (A : Around) (outer : List Env) (s : Shared) (H : Hp) (args : Args) (us : List Value) (vs : List V) (Q : VK) (E : XK), L2H.RoomH k A → L2H.PinOk outer H s (a, oe) → Env0 P w K mg base A outer s H → BindsTo s fd args ([n].zip us) → Vals vs us → spP ⟨K, mg, w⟩ a c f vs H Q E →
        codeAny (model P w) A (.call (.ref fa) args) (CR (L2.CX P w) outer P w H s Q E) s
theorem defP_ok {x qual n : Str} {st : Stmt} {f : Addr} {fd : FuncData} {N : List Str} {k : Nat} {b : Addr → Nat → EvS} (F : Fun K x qual st f fd) (S : FnScope N [n] (defScope st)) (hb : Binds K fd [n] []) (hm : mg x = some (.ref f))
    (body : ∀ (a : Addr) (oe : Obj) (c : Nat) (C : Addr), mg (nmS c) = some (.ref C) → XCl K C → Zc (.ref C) none oe → (∃ vs, oe.data = .fields vs) → ∀ (B : Hp) (cdv : Value) (A : Around) (outer : List Env) (s : Shared) (H : Hp) (E : XK),
      DSs (L2H.cxH (L2.CX P w) P w K mg base N qual (defScope st) f cdv A outer s H E (a, oe)) B (fun _ _ _ _ => False) (defBody st) (b a c)) : DefP P w K mg base (k + 1) x (fun a c => runB N.length (b a c)) := by
  refine ⟨f, fd, n, hb, hm, F.kp, fun a oe c C hC hx hz hf A outer s H args us vs Q E hr hpin e0 hbi r hsp => ?_⟩
  obtain ⟨oc, od, kV, doc, pm, an, cdv, ct, osl, rfl, lk, hcd⟩ := F.ex
  obtain ⟨rfl, F0, st0, f0, so0, q⟩ := hsp
  have KX : K.In s.heap := e0.mod.kin.keeps fun b o e => (e0.bs b o e).1
  have lim : s.heap.NoLimit := e0.mod.nolimit.keeps fun b o e => (e0.bs b o e).1
  have hkind : ∀ y ∈ [n].zip us, (defScope st).names.lookup y.1 = some .local ∨ ((defScope st).names.lookup y.1 = some .cell ∧ ((cellsFrom (s.heap.objs.size + 1) (defScope st).names []).lookup y.1).isSome = true) := fun ⟨y, v⟩ hy => by
    rcases S.par y (List.of_mem_zip hy).1 with q | q
    · exact .inl q
    · exact .inr ⟨q, PySem.W.cellsFrom_some _ _ _ (.inl q)⟩
  refine codeAny_call_function hr.depth (KX _ _ lk) rfl S.co S.gen rfl (PySem.W.codeRec_of KX hcd) (hbi _ _ _ _ ?_)
  refine wpAny_newFunctionEnv_cells S.kind hkind fun env he s1 y => ?_
  subst he
  refine ⟨lim.keeps y.toInCall.keep, codeAny_func ?_⟩
  have hN : 1 ≤ N.length := by have := congrArg List.length S.pre; rw [List.length_take] at this; simp at this; omega
  have ra : RpAll (⟨K, mg, w⟩ : Gx) F0 [V.ref a] [D.err a c] := .cons (.err a c) .nil
  have I : Inv (L2H.cxH (L2.CX P w) P w K mg base N qual (defScope st) f cdv A outer s H E (a, oe)) [] (L2.start N [.ref a]) H s1 := L2H.inv_startH S hpin e0 rfl r y
  have hq : liftS (⟨K, mg, w⟩ : Gx) (hid F0.m H) (fun _ _ _ _ => False) (b a c) { nx := fun _ H' => Q .non H', rt := Q } (L2.start N [.ref a]) H := by
    refine ⟨F0, _, st0, Ok.start f0 (hid_same _ _) so0 ra (by simpa using hN), ?_⟩
    unfold runB at q
    dsimp only at q
    revert q
    generalize b a c ([D.err a c].map Sl.d ++ List.replicate (N.length - [D.err a c].length) .no) st0 = r
    intro q
    cases r with
    | nx S1 st1 => exact fun σ' H' F' g o => q .non H' F' o.kp o.fH g o.so .non
    | ret d S1 st1 => exact fun v σ' H' F' g o rr => q v H' F' o.kp o.fH g o.so rr
    | exc y S1 st1 => exact q.elim
    | bk S1 st1 => exact q.elim
    | ct S1 st1 => exact q.elim
    | rto w1 S1 st1 => exact q.elim
    | stuck => exact q.elim
  refine wpAny_mono ((body a oe c C hC hx hz hf (hid F0.m H) cdv A outer s H E).run [] s1 (L2.start N [.ref a]) H _ I hq) (fun fl s' hs => ?_) fun e s' hs => hs
  have fin : ∀ {σ' : L2.St} {H' : Hp} {v : V} {u : Value}, Inv (L2H.cxH (L2.CX P w) P w K mg base N qual (defScope st) f cdv A outer s H E (a, oe)) [] σ' H' s' → RelV v u → Q v H' → CE outer P w H s Q u s' :=
    fun {σ' H' v u} J rv q => ⟨v, H', J.os, J.bare, J.base, J.hok, rv, q⟩
  cases fl with
  | ret u =>
    obtain ⟨v, σ', H', J, rv, q⟩ := hs
    exact fin J rv q
  | next =>
    obtain ⟨σ', H', J, q⟩ := hs
    exact fin (v := V.non) (u := Value.none) J rfl q
  | brk =>
    obtain ⟨_, _, _, q⟩ := hs
    exact False.elim q
  | cont =>
    obtain ⟨_, _, _, q⟩ := hs
    exact False.elim q
theorem DefP.mono {k j : Nat} {x : Str} {f : CallP} (d : DefP P w K mg base k x f) (h : k ≤ j) : DefP P w K mg base j x f := by
  obtain ⟨fa, fd, n, h1, h2, h3, h4⟩ := d.ex
  exact ⟨fa, fd, n, h1, h2, h3, fun a oe c C hC hx hz hf A outer s H args us vs Q E hr => h4 a oe c C hC hx hz hf A outer s H args us vs Q E (hr.mono h)⟩
end
def cPE (f : CallP) (a : Addr) (c i : Nat) : Ev D := fun S st => match S[i]? with
  | some (.d (.err a' c')) => if a' = a ∧ c' = c then (match f a c [.err a c] st with
    | .ok d _ st => .ok d S st
    | _ => .stuck) else .stuck
  | _ => .stuck
section
variable {X : Cx} {B : Hp} {W : WX} {pos p pe : Pos} {a C : Addr} {oe : Obj} {c i k : Nat} {x n : Str} {f : CallP}
theorem de_cP (d : DefP X.prog X.w X.K X.mg X.base k x f) (hr : L2H.RoomH k X.A) (hC : X.mg (nmS c) = some (.ref C)) (hx : XCl X.K C) (hz : Zc (.ref C) none oe) (hf : ∃ vs, oe.data = .fields vs) (hp : (a, oe) ∈ X.pn) (tk : Takes X (fun _ _ _ _ => False))
    (hn : PE X (.Name n pe) (tVar i)) (hg : Gl X x := by rfl) (hdb : (x == ("__debug__" : Str)) = false := by decide)
    (he : starEach [.Name n pe] X.env = (false, eval (.Name n pe) X.env) :: starEach [] X.env := by rfl) (hpl : (backTo pos (starEach [] X.env)).any (·.1) = false := by rfl) : DE X B W (.Call (.Name x p) [.Name n pe] [] pos) (cPE f a c i) := by
  obtain ⟨fa, fd, m, hb, hm, hk, F⟩ := d.ex
  refine ⟨fun pins s σ H Q I h => ?_⟩
  refine wpAny_Call_Name_kw (ld_glob I hg hm ?_ hdb)
  obtain ⟨F0, S, st, o, q⟩ := h
  unfold cPE at q
  split at q
  · rename_i a' c' hS
    split at q
    · rename_i hh
      obtain ⟨rfl, rfl⟩ := hh
      have ha : PA X [.Name n pe] _ := pa_cons hn pa_nil he
      refine PySem.W.callWith_K (h₀ := X.base) I.ok.mod.kin hk (thn (ha.run pos pins s σ H (fun vs H1 => vs = [.ref a'] ∧ H1 = H) I ⟨_, o.errSlot hS, rfl, rfl⟩) fun us s1 ⟨vs, H1, I1, r, q1⟩ => ⟨I1.kIn, ?_⟩) he hpl
      obtain ⟨rfl, rfl⟩ := q1
      obtain ⟨u1, rfl, r1⟩ : ∃ u1, us = [u1] ∧ RelV (.ref a') u1 := by
        cases r with
        | cons r1 r2 => cases r2; exact ⟨_, rfl, r1⟩
      have P1 := I1.pin (a', oe) (List.mem_append_left _ hp)
      have hpin : L2H.PinOk X.stack H1 s1 (a', oe) := ⟨P1.1, P1.2.1, fun hm => (List.mem_cons.mp (I1.stkSub a' hm)).elim P1.2.2.1 P1.2.2.2.1, P1.2.2.2.2⟩
      have b := hb s1 [u1] I1.kIn rfl
      rw [List.append_nil] at b
      refine wpAny_call (codeAny_mono (F a' oe c' C hC hx hz hf X.A X.stack s1 H1 ⟨[u1], []⟩ [u1] [.ref a'] Q (WE (fun _ _ _ _ => False) σ) hr hpin I1.env0 b r ⟨rfl, F0, st, o.fH, o.so.hid, ?_⟩) fun r s' hq => ?_)
      · revert q
        generalize f a' c' [.err a' c'] st = r'
        intro q
        cases r' with
        | ok d S1 st1 => exact fun v H' F' k g gr so rr => q v H' F' (o.back k g gr so).1 (o.back k g gr so).2 rr
        | exc y S1 st1 => exact q.elim
        | stuck => exact q.elim
      · cases r with
        | error e => exact passAt tk σ pins H1 s1 e s' I1 hq
        | ok fl =>
          cases fl with
          | ret u => exact I1.after hq
          | next => exact False.elim hq
          | brk => exact False.elim hq
          | cont => exact False.elim hq
    · exact q.elim
  · exact q.elim
end
def tgt (T : XTab) (t : Nat) : Bool := T.any fun r => r.2.1 == t
theorem tgt_ex {K : PySem.W.Frag} {mg : Str → Option Value} {T : XTab} (hT : XT K mg T) {t : Nat} (h : tgt T t = true) : ∃ Ct, mg (nmS t) = some (.ref Ct) ∧ HCl K Ct := by
  unfold tgt at h
  obtain ⟨⟨c, t', b⟩, hm, e⟩ := List.any_eq_true.mp h
  have e' : t' = t := by simpa using e
  subst e'
  obtain ⟨C, Ct, a1, a2, a3, a4, a5⟩ := hT.rows _ _ _ hm
  exact ⟨Ct, a2, a5⟩
theorem hnm_of {X : Cx} {T : XTab} (hT : XT X.K X.mg T) {h : Nat} {x : Str} (ht : tgt T h = true) (hx : nmS h = x) : HNm X h x := by
  obtain ⟨C, a, b⟩ := tgt_ex hT ht
  rw [hx] at a
  exact ⟨⟨C, a, b⟩, hx⟩
inductive TN (X : Cx) (T : XTab) : List Expr → List (Option Nat) → Prop
  | nil : TN X T [] []
  | ve {p : Pos} {es : List Expr} {ts : List (Option Nat)} : Gl X "ValueError" → TN X T es ts → TN X T (.Name "ValueError" p :: es) (none :: ts)
  | own {x : Str} {t : Nat} {p : Pos} {es : List Expr} {ts : List (Option Nat)} : Gl X x → (x == ("__debug__" : Str)) = false → nmS t = x → tgt T t = true → TN X T es ts → TN X T (.Name x p :: es) (some t :: ts)
section
variable {X : Cx} {B : Hp} {W : WX} {T : XTab}
theorem TN.all (hT : XT X.K X.mg T) : ∀ {es : List Expr} {ts : List (Option Nat)}, TN X T es ts → ∃ vs us, TNs X es ts vs ∧ TVs X.mg ts vs us ∧ vs.length = ts.length
  | _, _, .nil => ⟨[], [], .nil, .nil, rfl⟩
  | _, _, .ve hg r => by
    obtain ⟨vs, us, a, b, c⟩ := r.all hT
    exact ⟨_, _, .cons (pe_bltn (v := .ty "ValueError") (u := .type "ValueError") hg hT.ve rfl rfl) rfl a, .ve b, by simp [c]⟩
  | _, _, .own hg hd hx ht r => by
    obtain ⟨vs, us, a, b, c⟩ := r.all hT
    obtain ⟨Ct, m, h⟩ := tgt_ex hT ht
    have m' := m
    rw [hx] at m
    exact ⟨_, _, .cons (pe_glob (v := .ref Ct) (u := .ref Ct) hg m rfl hd) rfl a, .own m' b, by simp [c]⟩
variable {a C : Addr} {oe : Obj} {cx : Nat} {pos p pe p2 : Pos}
theorem de_isI1 {i : Nat} {n : Str} {t : Option Nat} {e : Expr} (hT : XT X.K X.mg T) (hp : (a, oe) ∈ X.pn) (hz : Zc (.ref C) none oe) (hf : ∃ vs, oe.data = .fields vs) (hC : X.mg (nmS cx) = some (.ref C)) (hx : XCl X.K C) (hi : X.mg "isinstance" = none)
    (hn : PE X (.Name n pe) (tVar i)) (he : TN X T [e] [t]) (hg : Gl X "isinstance" := by rfl)
    (hs : starEach [.Name n pe, e] X.env = (false, eval (.Name n pe) X.env) :: starEach [e] X.env := by rfl) (hpl : (backTo pos (starEach [e] X.env)).any (·.1) = false := by rfl) : DE X B W (.Call (.Name "isinstance" p) [.Name n pe, e] [] pos) (isE T a cx [t] i) := by
  obtain ⟨vs, us, h1, h2, h3⟩ := he.all hT
  cases h1 with
  | cons h1 hs2 r =>
    cases r
    cases h2 with
    | ve r => cases r; exact de_isE1 hT hp hz hf hC hx hi hn h1 (.ve .nil) hg hs hs2 hpl
    | own m r => cases r; exact de_isE1 hT hp hz hf hC hx hi hn h1 (.own m .nil) hg hs hs2 hpl
end
end DL
namespace DL
open PySem PySem.Spec PyProof.Rows L2
theorem OpR.or {X : Cx} {f : Value → Value → Sem Value} {r r' : R2} (h : OpR X f r) (h' : OpR X f r') : OpR X f (fun x y H Q => r x y H Q ∨ r' x y H Q) := by
  intro pins s σ H x y v u Q I rx ry q
  rcases q with q | q
  · exact h pins s σ H x y v u Q I rx ry q
  · exact h' pins s σ H x y v u Q I rx ry q
theorem CallR.or {X : Cx} {f : Value} {r r' : List V → Hp → VK → Prop} (h : CallR X f r) (h' : CallR X f r') : CallR X f (fun x H Q => r x H Q ∨ r' x H Q) := by
  intro pins s σ H xs us Q I rs q
  rcases q with q | q
  · exact h pins s σ H xs us Q I rs q
  · exact h' pins s σ H xs us Q I rs q
section
variable {G : Gx} {F : Fz} {H : Hp} {v : V} {d : D}
theorem Vw.int_eq {i : Int} (h : Vw G F H v (.int i)) : v = .int i := by
  rcases h with h | ⟨_, _, w, _, _, _, e⟩ | ⟨_, _, _, e1x, _, e3⟩
  · cases h; rfl
  · cases w <;> cases e
  · first | (cases e3; done) | (subst e1x e3; rfl) | (subst e3; cases e; done) | (subst e3; simp_all; done) | (subst e3; contradiction)
theorem Vw.bl_eq {i : Bool} (h : Vw G F H v (.bl i)) : v = .bl i := by
  rcases h with h | ⟨_, _, w, _, _, _, e⟩ | ⟨_, _, _, e1x, _, e3⟩
  · cases h; rfl
  · cases w <;> cases e
  · first | (cases e3; done) | (subst e1x e3; rfl) | (subst e3; cases e; done) | (subst e3; simp_all; done) | (subst e3; contradiction)
theorem Vw.non_eq (h : Vw G F H v .non) : v = .non := by
  rcases h with h | ⟨_, _, w, _, _, _, e⟩ | ⟨_, _, _, e1x, _, e3⟩
  · cases h; rfl
  · cases w <;> cases e
  · first | (cases e3; done) | (subst e1x e3; rfl) | (subst e3; cases e; done) | (subst e3; simp_all; done) | (subst e3; contradiction)
theorem Vw.ty_eq {n : String} (h : Vw G F H v (.ty n)) : v = .ty n := by
  rcases h with h | ⟨_, _, w, _, _, _, e⟩ | ⟨_, _, _, e1x, _, e3⟩
  · cases h; rfl
  · cases w <;> cases e
  · first | (cases e3; done) | (subst e1x e3; rfl) | (subst e3; cases e; done) | (subst e3; simp_all; done) | (subst e3; contradiction)
theorem Vw.str_eq {s : List Nat} (h : Vw G F H v (.str s)) : v = .str (tx s) ∧ okS s = true := by
  rcases h with h | ⟨_, _, w, _, _, _, e⟩ | ⟨_, _, _, e1x, _, e3⟩
  · cases h with | str _ o => exact ⟨rfl, o⟩
  · cases w <;> cases e
  · first | (cases e3; done) | (subst e1x e3; rfl) | (subst e3; cases e; done) | (subst e3; simp_all; done) | (subst e3; contradiction)
def asL : D → Option (List D)
  | .lst ds => some ds
  | .scr ns => some (ns.map .int)
  | _ => none
theorem Vw.seqL {ds : List D} (h : Vw G F H v d) (f : Same F.f H) (e : asL d = some ds) : ∃ p xs, v = .ref p ∧ SqL G.K H p xs ∧ RpAll G F xs ds := by
  rcases h with h | ⟨p, u, w, rfl, hp, ow, rfl⟩ | ⟨_, _, _, e1x, _, e3⟩
  · cases h with
    | lst h1 h2 => cases e; exact ⟨_, _, rfl, .inl (.inl (f _ _ h1)), h2⟩
    | scr h1 => cases e; exact ⟨_, _, rfl, f.seq h1, rp_ints G F _⟩
    | _ => cases e
  · cases ow with
    | l r => cases e; exact ⟨_, _, rfl, .inl (.inl hp), r⟩
    | _ => cases e
  · first | (cases e3; done) | (subst e1x e3; rfl) | (subst e3; cases e; done) | (subst e3; simp_all; done) | (subst e3; contradiction)
theorem Vw.lst {ds : List D} (h : Vw G F H v (.lst ds)) (f : Same F.f H) : ∃ p xs, v = .ref p ∧ H p = some (.lst xs) ∧ RpAll G F xs ds := by
  rcases h with h | ⟨p, u, w, rfl, hp, ow, e⟩ | ⟨_, _, _, e1x, _, e3⟩
  · cases h with
    | lst h1 h2 => exact ⟨_, _, rfl, f _ _ h1, h2⟩
  · cases ow with
    | l r => cases e; exact ⟨_, _, rfl, hp, r⟩
    | _ => cases e
  · first | (cases e3; done) | (subst e1x e3; rfl) | (subst e3; cases e; done) | (subst e3; simp_all; done) | (subst e3; contradiction)
theorem Vw.tup {ds : List D} (h : Vw G F H v (.tup ds)) (f : Same F.f H) : ∃ p xs, v = .ref p ∧ SqT G.K H p xs ∧ RpAll G F xs ds := by
  rcases h with h | ⟨p, u, w, rfl, hp, ow, e⟩ | ⟨_, _, _, e1x, _, e3⟩
  · cases h with
    | tup h1 h2 => exact ⟨_, _, rfl, same_seqT f h1, h2⟩
  · cases w <;> cases e
  · first | (cases e3; done) | (subst e1x e3; rfl) | (subst e3; cases e; done) | (subst e3; simp_all; done) | (subst e3; contradiction)
theorem Vw.tup' {ds : List D} (h : Vw G F H v (.tup ds)) : Rp G F v (.tup ds) := by
  rcases h with h | ⟨p, u, w, rfl, hp, ow, e⟩ | ⟨_, _, _, e1x, _, e3⟩
  · exact h
  · cases w <;> cases e
  · first | (cases e3; done) | (subst e1x e3; rfl) | (subst e3; cases e; done) | (subst e3; simp_all; done) | (subst e3; contradiction)
theorem gives_v {r : VK → Prop} (rp : Rp G F v d) (f : Same F.f H) (h : ∀ Q : VK, Q v H → r Q) : Gives r G F H d := fun Q k => h Q (k v H F (Same.refl H) f .refl rp)
theorem gives_tup {r : VK → Prop} {xs : List V} {ds : List D} (rp : RpAll G F xs ds) (f : Same F.f H) (h : ∀ Q : VK, (∀ p, H p = none → Q (.ref p) (upd H p (.tup xs))) → r Q) : Gives r G F H (.tup ds) := fun Q k => h Q fun p hp =>
  k _ _ (upd F.f p (.tup xs)) (same_new hp) (same_upd2 f) (gr_new f hp) (.tup (.inl (.inl upd_same)) (rp.mono (.up (gr_new (o := .tup xs) f hp).1)))
theorem lays_l {r : VK → Prop} {xs : List V} {ds : List D} (rp : RpAll G F xs ds) (h : ∀ Q : VK, (∀ p, H p = none → Q (.ref p) (upd H p (.lst xs))) → r Q) : Lays r G F H (.l ds) := fun Q k => h Q fun p hp => k p _ hp (.l rp)
theorem gives_lst {r : VK → Prop} {xs : List V} {ds : List D} (rp : RpAll G F xs ds) (f : Same F.f H) (h : ∀ Q : VK, (∀ p, H p = none → Q (.ref p) (upd H p (.lst xs))) → r Q) : Gives r G F H (.lst ds) := (lays_l rp h).gives f
end
section
variable {G : Gx} {X : Cx}
def dI2 (c : Int → Int → Bool) (g : Int → Int → Int) : D → D → Option D
  | .int i, .int j => if c i j = true then some (.int (g i j)) else none
  | _, _ => none
theorem op2_I {C : Int → Int → Prop} {c : Int → Int → Bool} {g : Int → Int → Int} (hc : ∀ i j, c i j = true → C i j) : Op2 G (rI C fun i j => .int (g i j)) (dI2 c g) := fun F H v w x y d f hv hw e => by
  unfold dI2 at e
  split at e
  · split at e
    · rename_i i j h
      cases e
      cases hv.int_eq; cases hw.int_eq
      exact gives_v (.int _) f fun Q q => ⟨i, j, rfl, rfl, hc i j h, q⟩
    · cases e
  · cases e
def dI0 (g : Int → Int → Int) : D → D → Option D
  | .int i, .int j => some (.int (g i j))
  | _, _ => none
def dSub := dI0 fun i j => i - j
def mulC (i j : Int) : Bool := decide (i.natAbs.log2 + j.natAbs.log2 < 100000000)
theorem mulC_ok {i j : Int} (h : mulC i j = true) : CMulX i j := by
  have h := of_decide_eq_true h
  have b : ∀ x : Int, Builtin.Int.intBits x ≤ x.natAbs.log2 + 1 := fun x => by
    unfold Builtin.Int.intBits
    split <;> omega
  have h1 := b i
  have h2 := b j
  unfold CMulX
  omega
def dFdiv := dI2 (fun _ j => decide (0 < j) && decide (j.natAbs.log2 < 9000)) fun i j => i / j
theorem op_dFdiv : Op2 G (rI CDivW fun i j => .int (i / j)) dFdiv := op2_I fun i j h => by
  rw [Bool.and_eq_true] at h
  exact ⟨of_decide_eq_true h.1, of_decide_eq_true h.2⟩
def dMod := dI2 (fun _ j => decide (0 < j)) fun i j => i % j
theorem op_dMod : Op2 G (rI (fun _ j => 0 < j) fun i j => .int (i % j)) dMod := op2_I fun i j h => of_decide_eq_true h
def CPowW (i j : Int) : Prop := 0 ≤ j ∧ (Builtin.Int.intBits i : Int) * j ≤ 2 ^ 27
theorem op_powW {X : Cx} : OpR X (binaryOp .Pow) (rI CPowW fun i j => .int (i ^ j.toNat)) := opI fun _ _ _ _ _ _ _ hc q => pow_int hc.1 hc.2 q
def dPow := dI2 (fun i j => decide (0 ≤ j) && (decide (j ≤ 1000000) && decide (i.natAbs < 18446744073709551616) || decide (((i.natAbs.log2 + 1 : Nat) : Int) * j ≤ 134217728))) fun i j => i ^ j.toNat
theorem op_dPow : Op2 G (rI CPowW fun i j => .int (i ^ j.toNat)) dPow := op2_I fun i j h => by
  rw [Bool.and_eq_true, Bool.or_eq_true, Bool.and_eq_true] at h
  have h0 := of_decide_eq_true h.1
  refine ⟨h0, ?_⟩
  rcases h.2 with h | h
  · have h1 := of_decide_eq_true h.1
    have h2 := of_decide_eq_true h.2
    exact bits_mul_le (a := i) (by omega) h0 h1
  · have h := of_decide_eq_true h
    have b : (Builtin.Int.intBits i : Int) ≤ ((i.natAbs.log2 + 1 : Nat) : Int) := by
      unfold Builtin.Int.intBits
      split <;> omega
    exact Int.le_trans (Int.mul_le_mul_of_nonneg_right b h0) h
def dShr := dI2 (fun _ j => decide (0 ≤ j)) fun i j => i / 2 ^ j.toNat
def dShl := dI2 (fun i j => decide (0 ≤ j) && decide (i.natAbs.log2 + j < 100000000)) fun i j => i * 2 ^ j.toNat
def dAnd := dI0 Builtin.bitAnd
def dOr := dI0 Builtin.bitOr
def dXor := dI0 Builtin.bitXor
def dNeg : D → Option D
  | .int i => some (.int (-i))
  | _ => none
theorem op_dNeg : Op1 G (rU fun i => .int (-i)) dNeg := fun F H v x d f hv e => by
  unfold dNeg at e
  split at e
  · cases e; cases hv.int_eq
    exact gives_v (.int _) f fun Q q => ⟨_, rfl, q⟩
  · cases e
def rAddS : R2 := fun x y H Q => ∃ i j, x = .str i ∧ y = .str j ∧ i.length + j.length ≤ sizeLine ∧ Q (.str (i ++ j)) H
def rAddD (K : PySem.W.Frag) : R2 := fun x y H Q => rI0 (fun i j => .int (i + j)) x y H Q ∨ rAddS x y H Q ∨ rCat x y H Q ∨ rCatA K x y H Q
theorem opR_add : OpR X (binaryOp .Add) (rAddD X.K) := OpR.or op_add (OpR.or op_add_str (OpR.or op_cat op_catA))
def dAdd : D → D → Option D
  | .int i, .int j => some (.int (i + j))
  | .str s, .str t => if s.length + t.length ≤ 16777216 then some (.str (s ++ t)) else none
  | .lst s, .lst t => if s.length + t.length ≤ 16777216 then some (.lst (s ++ t)) else none
  | .tup s, .tup t => if s.length + t.length ≤ 16777216 then some (.tup (s ++ t)) else none
  | _, _ => none
theorem op_dAdd : Op2 G (rAddD G.K) dAdd := fun F H v w x y d f hv hw e => by
  unfold dAdd at e
  split at e
  · cases e
    cases hv.int_eq; cases hw.int_eq
    exact gives_v (.int _) f fun Q q => .inl ⟨_, _, rfl, rfl, q⟩
  · split at e
    · rename_i h
      cases e
      obtain ⟨rfl, o1⟩ := hv.str_eq
      obtain ⟨rfl, o2⟩ := hw.str_eq
      exact gives_v (.str _ (okS_app o1 o2)) f fun Q q => .inr (.inl ⟨_, _, rfl, rfl, by rw [tx_len, tx_len, sizeLine_eq]; exact h, by rw [tx_app]; exact q⟩)
    · cases e
  · split at e
    · rename_i h
      cases e
      obtain ⟨p, xs, rfl, h1, r1⟩ := hv.lst f
      obtain ⟨q, ys, rfl, h2, r2⟩ := hw.lst f
      exact gives_lst (r1.append r2) f fun Q q => .inr (.inr (.inl ⟨_, _, _, _, rfl, rfl, h1, h2, by rw [r1.length, r2.length, sizeLine_eq]; exact h, q⟩))
    · cases e
  · split at e
    · rename_i h
      cases e
      obtain ⟨p, xs, rfl, h1, r1⟩ := hv.tup f
      obtain ⟨q, ys, rfl, h2, r2⟩ := hw.tup f
      have l1 := r1.length
      have l2 := r2.length
      intro Q k
      refine .inr (.inr (.inr ⟨_, _, _, _, rfl, rfl, h1, h2, by rw [l1, l2, sizeLine_eq]; exact h, fun e => ?_, fun e1 e2 => ?_, fun _ _ => ?_⟩))
      · subst e
        cases r1
        exact k _ _ F (Same.refl H) f .refl hw.tup'
      · subst e2
        cases r2
        rw [List.append_nil] at k
        exact k _ _ F (Same.refl H) f .refl hv.tup'
      · exact fun p hp => gives_tup (r := fun Q => ∀ p, H p = none → Q (.ref p) (upd H p (.tup (xs ++ ys)))) (r1.append r2) f (fun Q q => q) Q k p hp
    · cases e
  · cases e
def dAddF : D → D → Option Ow
  | .lst s, .lst t => if s.length + t.length ≤ 16777216 then some (.l (s ++ t)) else none
  | _, _ => none
def reps {α : Type} (s : List α) (n : Nat) : List α := (List.replicate n s).flatten
def rMulS : R2 := fun x y H Q => ∃ s k, x = .str s ∧ y = .int k ∧ MulOk s k ∧ Q (.str (Txt.mul s k)) H
theorem op_mulS : OpR X (binaryOp .Mult) rMulS := by
  intro pins s σ H x y v u Q I rx ry h
  obtain ⟨z, k, rfl, rfl, hk, q⟩ := h
  obtain ⟨t, rfl⟩ := rx
  obtain ⟨t', rfl⟩ := ry
  exact SB.mul hk fun t2 k2 => ⟨.str _, H, I.tok _, ⟨_, rfl⟩, q⟩
def rMulD : R2 := fun x y H Q => rI CMulX (fun i j => .int (i * j)) x y H Q ∨ rMulS x y H Q ∨ rRep x y H Q
theorem opR_mul : OpR X (binaryOp .Mult) rMulD := OpR.or op_mulX (OpR.or op_mulS op_rep)
theorem foldl_app (x : Array Nat) : ∀ (n : Nat) (a : Array Nat), ((List.replicate n x).foldl (· ++ ·) a).toList = a.toList ++ reps x.toList n
  | 0, a => by simp [reps]
  | n + 1, a => by
    rw [List.replicate_succ, List.foldl_cons, foldl_app x n]
    simp [reps, List.replicate_succ]
theorem mul_reps (s : List Nat) (n : Int) : Txt.mul (tx s) n = tx (reps s n.toNat) := by
  unfold Txt.mul
  split
  · rename_i h
    have : n.toNat = 0 := by omega
    rw [this]; rfl
  · split
    · rename_i h1 h2
      rw [Bool.or_eq_true] at h2
      rcases h2 with h2 | h2
      · have : n = 1 := by simpa using h2
        subst this
        simp [reps, tx]
      · have : s = [] := by
          rw [tx_len] at h2
          exact List.eq_nil_of_length_eq_zero (by simpa using h2)
        subst this
        simp [reps, tx]
    · have e : ((List.replicate n.toNat (tx s).cps).foldl (· ++ ·) #[]).toList = reps s n.toNat := by
        rw [foldl_app]; simp [tx]
      rw [← e]
      simp [tx]
theorem okS_reps {s : List Nat} (h : okS s = true) (n : Nat) : okS (reps s n) = true := okS_sub h fun c m => by
  unfold reps at m
  obtain ⟨l, h1, h2⟩ := List.mem_flatten.mp m
  rw [(List.mem_replicate.mp h1).2] at h2
  exact h2
theorem RpAll.reps {G : Gx} {F : Fz} {xs : List V} {ds : List D} (r : RpAll G F xs ds) : ∀ n : Nat, RpAll G F (List.replicate n xs).flatten (DL.reps ds n)
  | 0 => .nil
  | n + 1 => by
    rw [List.replicate_succ, List.flatten_cons]
    unfold DL.reps
    rw [List.replicate_succ, List.flatten_cons]
    exact r.append (RpAll.reps r n)
def dMul : D → D → Option D
  | .int i, .int j => if mulC i j = true then some (.int (i * j)) else none
  | .str s, .int k => if decide (0 ≤ k) && decide (k ≤ 1000000) && decide (s.length * k.toNat ≤ 1000000) then some (.str (reps s k.toNat)) else none
  | .lst s, .int k => if decide (0 ≤ k) && decide (k ≤ 1000000) && decide (s.length * k.toNat ≤ 1000000) then some (.lst (reps s k.toNat)) else none
  | _, _ => none
theorem mulOk_of {s : List Nat} {k : Int} (h0 : 0 ≤ k) (h1 : k ≤ 1000000) (h2 : s.length * k.toNat ≤ 1000000) : MulOk (tx s) k := by
  refine ⟨?_, fun a b => ?_, fun a b => ?_⟩
  · rw [decide_eq_false (by omega), decide_eq_false (by omega)]; rfl
  · rw [tx_len]
    have hk : 0 < k.toNat := by omega
    have hs : s.length ≤ 1000000 := Nat.le_trans (Nat.le_mul_of_pos_right _ hk) h2
    have : (1000000 : Int) ≤ (2 ^ 63 - 1) / k := by
      refine (Int.le_ediv_iff_mul_le (by omega)).mpr ?_
      have : (1000000 : Int) * k ≤ 1000000 * 1000000 := Int.mul_le_mul_of_nonneg_left h1 (by decide)
      omega
    omega
  · rw [tx_len]
    unfold Builtin.Str.tooLong
    have := sizeLine_eq
    simp
    omega
theorem op_dMul : Op2 G rMulD dMul := fun F H v w x y d f hv hw e => by
  unfold dMul at e
  split at e
  · split at e
    · rename_i h
      cases e
      cases hv.int_eq; cases hw.int_eq
      exact gives_v (.int _) f fun Q q => .inl ⟨_, _, rfl, rfl, mulC_ok h, q⟩
    · cases e
  · split at e
    · rename_i h
      cases e
      obtain ⟨rfl, o1⟩ := hv.str_eq
      cases hw.int_eq
      rw [Bool.and_eq_true, Bool.and_eq_true, decide_eq_true_eq, decide_eq_true_eq, decide_eq_true_eq] at h
      exact gives_v (.str _ (okS_reps o1 _)) f fun Q q => .inr (.inl ⟨_, _, rfl, rfl, mulOk_of h.1.1 h.1.2 h.2, by rw [mul_reps]; exact q⟩)
    · cases e
  · split at e
    · rename_i h
      cases e
      obtain ⟨p, xs, rfl, h1, r1⟩ := hv.lst f
      cases hw.int_eq
      rw [Bool.and_eq_true, Bool.and_eq_true, decide_eq_true_eq, decide_eq_true_eq, decide_eq_true_eq] at h
      have l1 := r1.length
      exact gives_lst (r1.reps _) f fun Q q => .inr (.inr ⟨_, _, _, rfl, rfl, h1, by omega, by omega, by rw [l1, sizeLine_eq]; omega, q⟩)
    · cases e
  · cases e
end
end DL
namespace DL
open PySem PySem.Spec PyProof.Rows L2
mutual
def toPy : D → PyData
  | .non => .none
  | .bl b => .bool b
  | .int i => .int i
  | .str s => .str (tx s)
  | .lst ds => .list (toPys ds)
  | .tup ds => .tuple (toPys ds)
  | .scr ns => .list (ns.map .int)
  | .dic _ => .dict []
  | .obj _ _ => .dict []
  | .ty _ => .dict []
  | .err _ _ => .dict []
  | .loc _ => .dict []
def toPys : List D → List PyData
  | [] => []
  | d :: r => toPy d :: toPys r
end
mutual
def pureD : D → Bool
  | .lst ds => pureDs ds
  | .tup ds => pureDs ds
  | .dic _ => false
  | .obj _ _ => false
  | .ty _ => false
  | .err _ _ => false
  | .loc _ => false
  | _ => true
def pureDs : List D → Bool
  | [] => true
  | d :: r => pureD d && pureDs r
end
mutual
def depD : D → Nat
  | .lst ds => depDs ds + 1
  | .tup ds => depDs ds + 1
  | .scr _ => 1
  | _ => 0
def depDs : List D → Nat
  | [] => 0
  | d :: r => max (depD d) (depDs r)
end
def deq (a b : D) : Bool := PyData.eqv (toPy a) (toPy b)
def deqs (a b : List D) : Bool := PyData.eqvAll (toPys a) (toPys b)
section
variable {G : Gx} {F : Fz} {H : Hp}
theorem lay_ints : ∀ ns : List Int, PyData.canLayAll0 (ns.map .int) = true
  | [] => rfl
  | n :: r => by simp [PyData.canLayAll0, PyData.canLay0, lay_ints r]
theorem dep_ints : ∀ ns : List Int, PyData.depthAll (ns.map .int) = 0
  | [] => rfl
  | n :: r => by simp [PyData.depthAll, PyData.depth, dep_ints r]
theorem strOk_of {s : List Nat} (h : okS s = true) : PyData.strOk (tx s) = true := by
  unfold PyData.strOk tx okS at *
  simpa using h
mutual
theorem depth_toPy : ∀ d : D, PyData.depth (toPy d) ≤ depD d ∨ pureD d = false
  | .non => .inl (by simp [toPy, PyData.depth])
  | .bl b => .inl (by simp [toPy, PyData.depth])
  | .int i => .inl (by simp [toPy, PyData.depth])
  | .str s => .inl (by simp [toPy, PyData.depth])
  | .lst ds => by
    rcases depth_toPys ds with h | h
    · exact .inl (by simp [toPy, PyData.depth, depD]; exact h)
    · exact .inr (by simp [pureD, h])
  | .tup ds => by
    rcases depth_toPys ds with h | h
    · exact .inl (by simp [toPy, PyData.depth, depD]; exact h)
    · exact .inr (by simp [pureD, h])
  | .scr ns => .inl (by simp [toPy, PyData.depth, depD, dep_ints])
  | .dic _ => .inr (by simp [pureD])
  | .obj _ _ => .inr (by simp [pureD])
  | .ty _ => .inr (by simp [pureD])
  | .err _ _ => .inr (by simp [pureD])
  | .loc _ => .inr (by simp [pureD])
theorem depth_toPys : ∀ ds : List D, PyData.depthAll (toPys ds) ≤ depDs ds ∨ pureDs ds = false
  | [] => .inl (by simp [toPys, PyData.depthAll])
  | d :: r => by
    rcases depth_toPy d with h | h
    · rcases depth_toPys r with h' | h'
      · exact .inl (by simp [toPys, PyData.depthAll, depDs]; omega)
      · exact .inr (by simp [pureDs, h'])
    · exact .inr (by simp [pureDs, h])
end
mutual
theorem Rp.dp (e : Same F.f H) : ∀ {v : V} {d : D}, Rp G F v d → pureD d = true → Dp G.K H v (toPy d) ∧ PyData.canLay0 (toPy d) = true
  | _, _, .non, _ => ⟨by simp [toPy]; exact .non, by simp [toPy, PyData.canLay0]⟩
  | _, _, .bl b, _ => ⟨by simp [toPy]; exact .bl b, by simp [toPy, PyData.canLay0]⟩
  | _, _, .int i, _ => ⟨by simp [toPy]; exact .int i, by simp [toPy, PyData.canLay0]⟩
  | _, _, .str x h, _ => ⟨by simp [toPy]; exact .str _, by simp [toPy, PyData.canLay0, strOk_of h]⟩
  | _, _, .lst h t, p => by
    obtain ⟨h1, h2⟩ := RpAll.dp e t (by simpa [pureD] using p)
    exact ⟨by simp [toPy]; exact .lst (.inl (.inl (e _ _ h))) h1, by simp [toPy, PyData.canLay0, h2]⟩
  | _, _, .tup h t, p => by
    obtain ⟨h1, h2⟩ := RpAll.dp e t (by simpa [pureD] using p)
    exact ⟨by simp [toPy]; exact .tup (same_seqT e h) h1, by simp [toPy, PyData.canLay0, h2]⟩
  | _, _, .scr (ns := ns) h, p => by
    have : ∀ ns : List Int, DpAll G.K H (ns.map V.int) (ns.map PyData.int) := fun ns => by
      induction ns with
      | nil => exact .nil
      | cons n r ih => exact .cons (.int n) ih
    exact ⟨by simp only [toPy]; exact .lst (e.seq h) (this ns), by simp [toPy, PyData.canLay0, lay_ints]⟩
  | _, _, .dicK _ _, p => by simp [pureD] at p
  | _, _, .obj _ _ _ _, p => by simp [pureD] at p
  | _, _, .err _ _, p => by simp [pureD] at p
  | _, _, .loc _, p => by simp [pureD] at p
  | _, _, .ty _, p => by simp [pureD] at p
theorem RpAll.dp (e : Same F.f H) : ∀ {vs : List V} {ds : List D}, RpAll G F vs ds → pureDs ds = true → DpAll G.K H vs (toPys ds) ∧ PyData.canLayAll0 (toPys ds) = true
  | _, _, .nil, _ => ⟨by simp [toPys]; exact .nil, by simp [toPys, PyData.canLayAll0]⟩
  | _, _, .cons h t, p => by
    simp [pureDs] at p
    obtain ⟨h1, h2⟩ := Rp.dp e h p.1
    obtain ⟨h3, h4⟩ := RpAll.dp e t p.2
    exact ⟨by simp [toPys]; exact .cons h1 h3, by simp [toPys, PyData.canLayAll0, h2, h4]⟩
end
def eqOk (d : D) : Bool := pureD d && decide (depD d ≤ 60)
theorem Vw.dp {v : V} {d : D} (h : Vw G F H v d) (e : Same F.f H) (p : eqOk d = true) : Dp G.K H v (toPy d) ∧ SeqAt.shaped (toPy d) = true := by
  unfold eqOk at p
  rw [Bool.and_eq_true, decide_eq_true_eq] at p
  have dp : PyData.depth (toPy d) ≤ depD d := (depth_toPy d).resolve_right (by rw [p.1]; simp)
  have fin : PyData.canLay0 (toPy d) = true → SeqAt.shaped (toPy d) = true := fun h => by
    unfold SeqAt.shaped
    rw [h, decide_eq_true (by omega)]; rfl
  rcases h with h | ⟨q, u, w, rfl, hp, ow, rfl⟩ | ⟨_, _, _, e1x, _, e3⟩
  · obtain ⟨a, b⟩ := h.dp e p.1
    exact ⟨a, fin b⟩
  · cases ow with
    | l r =>
      obtain ⟨h1, h2⟩ := r.dp e (by simpa [Ow.d, pureD] using p.1)
      exact ⟨by simp [Ow.d, toPy]; exact .lst (.inl (.inl hp)) h1, fin (by simp [Ow.d, toPy, PyData.canLay0, h2])⟩
    | _ => simp [Ow.d, pureD] at p
  · first | (cases e3; done) | (subst e1x e3; rfl) | (subst e3; cases e; done) | (subst e3; simp_all; done) | (subst e3; contradiction)
end
def dEq (a b : D) : Option D := if eqOk a = true ∧ eqOk b = true then some (.bl (deq a b)) else none
def dNe (a b : D) : Option D := if eqOk a = true ∧ eqOk b = true then some (.bl (!deq a b)) else none
section
variable {G : Gx} {X : Cx}
theorem op_dEq : Op2 G (rEqD G.K) dEq := fun F H v w x y d f hv hw e => by
  unfold dEq at e
  split at e
  · rename_i h
    cases e
    obtain ⟨a, b⟩ := hv.dp f h.1
    obtain ⟨a', b'⟩ := hw.dp f h.2
    exact gives_v (.bl _) f fun Q q => ⟨_, _, a, a', b, b', q⟩
  · cases e
theorem op_dNe : Op2 G (rNeD G.K) dNe := fun F H v w x y d f hv hw e => by
  unfold dNe at e
  split at e
  · rename_i h
    cases e
    obtain ⟨a, b⟩ := hv.dp f h.1
    obtain ⟨a', b'⟩ := hw.dp f h.2
    exact gives_v (.bl _) f fun Q q => ⟨_, _, a, a', b, b', q⟩
  · cases e
def dCmp (p : Int → Int → Bool) (q : List Nat → List Nat → Bool) : D → D → Option D
  | .int i, .int j => some (.bl (p i j))
  | .str s, .str t => some (.bl (q s t))
  | _, _ => none
def rCmp (p : Int → Int → Bool) (q : List Nat → List Nat → Bool) : R2 := fun x y H Q => rI0 (fun i j => .bl (p i j)) x y H Q ∨ (∃ i j : Str, x = .str i ∧ y = .str j ∧ Q (.bl (q i.cps.toList j.cps.toList)) H)
theorem op_dCmp {p : Int → Int → Bool} {q : List Nat → List Nat → Bool} : Op2 G (rCmp p q) (dCmp p q) := fun F H v w x y d f hv hw e => by
  unfold dCmp at e
  split at e
  · cases e
    cases hv.int_eq; cases hw.int_eq
    exact gives_v (.bl _) f fun Q q => .inl ⟨_, _, rfl, rfl, q⟩
  · cases e
    obtain ⟨rfl, o1⟩ := hv.str_eq
    obtain ⟨rfl, o2⟩ := hw.str_eq
    exact gives_v (.bl _) f fun Q q => .inr ⟨_, _, rfl, rfl, q⟩
  · cases e
def dLt := dCmp (fun i j => decide (i < j)) fun s t => decide (s < t)
def dLe := dCmp (fun i j => decide (i ≤ j)) fun s t => !decide (t < s)
def dGt := dCmp (fun i j => decide (j < i)) fun s t => decide (t < s)
def dGe := dCmp (fun i j => decide (j ≤ i)) fun s t => !decide (s < t)
theorem opR_lt : OpR X (compareOp .Lt) (rCmp (fun i j => decide (i < j)) fun s t => decide (s < t)) := OpR.or op_lt op_lt_str
theorem opR_le : OpR X (compareOp .LtE) (rCmp (fun i j => decide (i ≤ j)) fun s t => !decide (t < s)) := OpR.or op_le op_le_str
def isN : D → Bool
  | .non => true
  | _ => false
def dIs : D → D → Option D
  | x, .non => some (.bl (isN x))
  | .bl a, .bl b => some (.bl (decide (a = b)))
  | _, _ => none
def dIsNot : D → D → Option D
  | x, .non => some (.bl (!isN x))
  | .bl a, .bl b => some (.bl (!decide (a = b)))
  | _, _ => none
def rIsN : R2 := fun x y H Q => y = .non ∧ Q (.bl (decide (x = .non))) H
def rNotN : R2 := fun x y H Q => y = .non ∧ Q (.bl (!decide (x = .non))) H
def rIsD : R2 := fun x y H Q => rIsN x y H Q ∨ rIsB x y H Q
def rIsNotD : R2 := fun x y H Q => rNotN x y H Q ∨ rNotB x y H Q
theorem opR_is : OpR X (compareOp .Is) rIsD := OpR.or op_isN op_isBl
theorem Vw.isN {F : Fz} {H : Hp} {v : V} {x : D} (h : Vw G F H v x) : decide (v = .non) = isN x := by
  rcases h with h | ⟨p, u, w, rfl, _, _, rfl⟩ | ⟨_, _, _, e1x, _, e3⟩
  · cases h <;> rfl
  · cases w <;> rfl
  · first | (cases e3; done) | (subst e1x e3; rfl) | (subst e3; cases e; done) | (subst e3; simp_all; done) | (subst e3; contradiction)
theorem op_dIs : Op2 G rIsD dIs := fun F H v w x y d f hv hw e => by
  unfold dIs at e
  split at e
  · cases e
    cases hw.non_eq
    exact gives_v (.bl _) f fun Q q => .inl ⟨rfl, by rw [hv.isN]; exact q⟩
  · cases e
    cases hv.bl_eq; cases hw.bl_eq
    exact gives_v (.bl _) f fun Q q => .inr ⟨_, _, rfl, rfl, q⟩
  · cases e
def flatD : D → Bool
  | .non => true
  | .bl _ => true
  | .int _ => true
  | .str _ => true
  | _ => false
theorem flat_v {F : Fz} {v : V} {d : D} (h : Rp G F v d) (e : flatD d = true) : flatV v = true := by cases h <;> first | rfl | cases e
theorem eqV_deq {F : Fz} {v w : V} {d e : D} (h : Rp G F v d) (h' : Rp G F w e) (f : flatD d = true) (f' : flatD e = true) : eqV v w = deq d e := by
  cases h <;> cases h' <;> simp_all [eqV, deq, toPy, PyData.eqv, flatD]
theorem flat_all {F : Fz} : ∀ {xs : List V} {ds : List D}, RpAll G F xs ds → ds.all flatD = true → xs.all flatV = true
  | _, _, .nil, _ => rfl
  | _, _, .cons h t, e => by
    rw [List.all_cons, Bool.and_eq_true] at e ⊢
    exact ⟨flat_v h e.1, flat_all t e.2⟩
theorem inV_any {F : Fz} {v : V} {d : D} (h : Rp G F v d) (f : flatD d = true) : ∀ {xs : List V} {ds : List D}, RpAll G F xs ds → ds.all flatD = true → inV v xs = ds.any fun z => deq z d
  | _, _, .nil, _ => rfl
  | _, _, .cons h' t, e => by
    rw [List.all_cons, Bool.and_eq_true] at e
    have ih := inV_any h f t e.2
    unfold inV at ih ⊢
    rw [List.any_cons, List.any_cons, ih, eqV_deq h' h e.1 f]
theorem toPys_any (d : D) : ∀ ds : List D, ((toPys ds).any fun z => PyData.eqv z (toPy d)) = ds.any fun z => deq z d
  | [] => rfl
  | x :: r => by rw [toPys, List.any_cons, List.any_cons, toPys_any d r]; rfl
def inD (x : D) : D → Option Bool
  | .str t => match x with
    | .str [c] => some (decide (c ∈ t))
    | _ => none
  | .lst ds => if eqOk x = true ∧ eqOk (.lst ds) = true then some (ds.any fun z => deq z x) else none
  | .tup ds => if flatD x = true ∧ ds.all flatD = true then some (ds.any fun z => deq z x) else none
  | _ => none
def rInSg : R2 := fun x y H Q => ∃ (c : Nat) (z : Str), x = .str ⟨#[c]⟩ ∧ y = .str z ∧ Q (.bl (decide (c ∈ z.cps.toList))) H
def rNotInSg : R2 := fun x y H Q => ∃ (c : Nat) (z : Str), x = .str ⟨#[c]⟩ ∧ y = .str z ∧ Q (.bl (!decide (c ∈ z.cps.toList))) H
def rInAll (K : PySem.W.Frag) : R2 := fun x y H Q => rInSg x y H Q ∨ rInD K x y H Q ∨ rIn K false x y H Q
def rNotInAll (K : PySem.W.Frag) : R2 := fun x y H Q => rNotInSg x y H Q ∨ rNotInD K x y H Q ∨ rIn K true x y H Q
theorem opR_in (hu : X.A.units + 65 < cLine) : OpR X (compareOp .In) (rInAll X.K) := OpR.or op_in_sign (OpR.or (op_inD hu) op_in_seq)
theorem opR_notIn (hu : X.A.units + 65 < cLine) : OpR X (compareOp .NotIn) (rNotInAll X.K) := OpR.or op_notIn_sign (OpR.or (op_notInD hu) op_notIn_seq)
def dIn (x y : D) : Option D := (inD x y).map .bl
def dNotIn (x y : D) : Option D := (inD x y).map fun b => .bl (!b)
theorem Vw.rp_flat {F : Fz} {H : Hp} {v : V} {d : D} (h : Vw G F H v d) (e : flatD d = true) : Rp G F v d := by
  rcases h with h | ⟨p, u, w, rfl, _, _, rfl⟩ | ⟨_, _, _, e1x, _, e3⟩
  · exact h
  · cases w <;> cases e
  · first | (cases e3; done) | (subst e1x e3; rfl) | (subst e3; cases e; done) | (subst e3; simp_all; done) | (subst e3; contradiction)
theorem in_cases {F : Fz} {H : Hp} {v w : V} {x y : D} {b : Bool} (f : Same F.f H) (hv : Vw G F H v x) (hw : Vw G F H w y) (e : inD x y = some b) :
    (∃ c z, v = .str ⟨#[c]⟩ ∧ w = .str z ∧ b = decide (c ∈ z.cps.toList)) ∨ (∃ d ds, Dp G.K H v d ∧ Dp G.K H w (.list ds) ∧ SeqAt.shaped d = true ∧ SeqAt.shaped (.list ds) = true ∧ b = ds.any fun z => PyData.eqv z d) ∨
    (∃ p xs, w = .ref p ∧ (SqL G.K H p xs ∨ SqT G.K H p xs) ∧ flatV v = true ∧ xs.all flatV = true ∧ b = inV v xs) := by
  unfold inD at e
  split at e
  · split at e
    · cases e
      obtain ⟨rfl, _⟩ := hv.str_eq
      obtain ⟨rfl, _⟩ := hw.str_eq
      exact .inl ⟨_, _, rfl, rfl, rfl⟩
    · cases e
  · split at e
    · rename_i h
      cases e
      obtain ⟨a, b⟩ := hv.dp f h.1
      obtain ⟨a', b'⟩ := hw.dp f h.2
      exact .inr (.inl ⟨_, _, a, a', b, b', (toPys_any _ _).symm⟩)
    · cases e
  · split at e
    · rename_i h
      cases e
      obtain ⟨p, xs, rfl, h1, h2⟩ := hw.tup f
      have rv := hv.rp_flat h.1
      exact .inr (.inr ⟨p, xs, rfl, .inr h1, flat_v rv h.1, flat_all h2 h.2, (inV_any rv h.1 h2 h.2).symm⟩)
    · cases e
  · cases e
theorem op_dIn : Op2 G (rInAll G.K) dIn := fun F H v w x y d f hv hw e => by
  unfold dIn at e
  cases h : inD x y with
  | none => rw [h] at e; cases e
  | some b =>
    rw [h] at e; cases e
    refine gives_v (.bl _) f fun Q q => ?_
    rcases in_cases f hv hw h with ⟨c, z, h1, h2, h3⟩ | ⟨d, ds, h1, h2, h3, h4, h5⟩ | ⟨p, xs, h1, h2, h3, h4, h5⟩
    · exact .inl ⟨c, z, h1, h2, by rw [← h3]; exact q⟩
    · exact .inr (.inl ⟨d, ds, h1, h2, h3, h4, by rw [← h5]; exact q⟩)
    · exact .inr (.inr ⟨p, xs, h1, h2, h3, h4, by rw [h5] at q; exact q⟩)
theorem op_dNotIn : Op2 G (rNotInAll G.K) dNotIn := fun F H v w x y d f hv hw e => by
  unfold dNotIn at e
  cases h : inD x y with
  | none => rw [h] at e; cases e
  | some b =>
    rw [h] at e; cases e
    refine gives_v (.bl _) f fun Q q => ?_
    rcases in_cases f hv hw h with ⟨c, z, h1, h2, h3⟩ | ⟨d, ds, h1, h2, h3, h4, h5⟩ | ⟨p, xs, h1, h2, h3, h4, h5⟩
    · exact .inl ⟨c, z, h1, h2, by rw [← h3]; exact q⟩
    · exact .inr (.inl ⟨d, ds, h1, h2, h3, h4, by rw [← h5]; exact q⟩)
    · exact .inr (.inr ⟨p, xs, h1, h2, h3, h4, by rw [h5] at q; exact q⟩)
def dIx : D → D → Option D
  | .str s, .int i => if s.length ≤ 16777216 then (atI s i).map fun c => .str [c] else none
  | .lst ds, .int i => atI ds i
  | .tup ds, .int i => atI ds i
  | .scr ns, .int i => (atI ns i).map .int
  | _, _ => none
theorem RpAll.atI {F : Fz} {xs : List V} {ds : List D} {i : Int} {d : D} (r : RpAll G F xs ds) (e : L2.atI ds i = some d) : ∃ v, L2.atI xs i = some v ∧ Rp G F v d := by
  unfold L2.atI at e ⊢
  rw [r.length]
  cases h : ixN ds.length i with
  | none => rw [h] at e; cases e
  | some j =>
    rw [h] at e
    exact r.get e
theorem op_dIx : Op2 G (rIx G.K) dIx := fun F H v w x y d f hv hw e => by
  unfold dIx at e
  split at e
  · split at e
    · rename_i s i hs
      cases hw.int_eq
      obtain ⟨rfl, o⟩ := hv.str_eq
      cases h : atI s i with
      | none => rw [h] at e; cases e
      | some c =>
        rw [h] at e; cases e
        refine gives_v (v := .str (tx [c])) (.str [c] (okS_sub o fun c' m => ?_)) f fun Q q => .inr (.inr ⟨_, _, c, rfl, rfl, by rw [tx_len, sizeLine_eq]; exact hs, h, q⟩)
        rw [List.mem_singleton] at m
        subst m
        unfold atI at h
        cases h2 : ixN s.length i with
        | none => rw [h2] at h; cases h
        | some j => rw [h2] at h; exact List.mem_of_getElem? h
    · cases e
  · cases hw.int_eq
    obtain ⟨p, xs, rfl, h1, h2⟩ := hv.seqL f rfl
    obtain ⟨z, hz, rz⟩ := h2.atI e
    exact gives_v rz f fun Q q => .inl ⟨_, _, _, _, rfl, rfl, h1, hz, q⟩
  · cases hw.int_eq
    obtain ⟨p, xs, rfl, h1, h2⟩ := hv.tup f
    obtain ⟨z, hz, rz⟩ := h2.atI e
    exact gives_v rz f fun Q q => .inr (.inl ⟨_, _, _, _, rfl, rfl, h1, hz, q⟩)
  · rename_i ns i
    cases hw.int_eq
    obtain ⟨p, xs, rfl, h1, h2⟩ := hv.seqL f rfl
    have e2 : L2.atI (ns.map D.int) i = some d := by
      unfold L2.atI at e ⊢
      rw [List.length_map]
      cases h : ixN ns.length i with
      | none => rw [h] at e; cases e
      | some j =>
        rw [h] at e
        simp only [Option.bind_some] at e ⊢
        rw [List.getElem?_map]
        exact e
    obtain ⟨z, hz, rz⟩ := h2.atI e2
    exact gives_v rz f fun Q q => .inl ⟨_, _, _, _, rfl, rfl, h1, hz, q⟩
  · cases e
def cut {α : Type} (xs : List α) (lo hi : Option Int) : List α := (xs.drop (HT.sIx xs.length 0 lo)).take (HT.sIx xs.length xs.length hi - HT.sIx xs.length 0 lo)
def dSl : D → Option Int → Option Int → Option D
  | .str s, l, u => if s.length ≤ 16777216 then some (.str (cut s l u)) else none
  | .lst ds, l, u => some (.lst (cut ds l u))
  | .scr ns, l, u => some (.lst (cut (ns.map .int) l u))
  | .tup ds, l, u => some (.tup (cut ds l u))
  | _, _, _ => none
theorem SlR.or' {r r' : V → Option Int → Option Int → Hp → VK → Prop} (h : SlR X r) (h' : SlR X r') : SlR X (fun x lo hi H Q => r x lo hi H Q ∨ r' x lo hi H Q) := SlR.or h h'
def rSlAll (K : PySem.W.Frag) : V → Option Int → Option Int → Hp → VK → Prop := fun x l u H Q => rSlS x l u H Q ∨ rSlL K x l u H Q ∨ rSlA K x l u H Q
theorem sl_all : SlR X (rSlAll X.K) := SlR.or sl_str (SlR.or sl_list sl_tupA)
theorem RpAll.cut {F : Fz} {xs : List V} {ds : List D} (r : RpAll G F xs ds) (l u : Option Int) : RpAll G F (cutV xs l u) (DL.cut ds l u) := by
  unfold cutV DL.cut
  rw [r.length]
  exact (r.drop _).take _
theorem cut_whole {α : Type} {xs : List α} {l u : Option Int} (h : HT.sIx xs.length 0 l = 0 ∧ HT.sIx xs.length xs.length u = xs.length) : cut xs l u = xs := by
  unfold cut
  rw [h.1, h.2]
  simp
theorem op_dSl : OpS G (rSlAll G.K) dSl := fun F H v x l u d f hv e => by
  unfold dSl at e
  split at e
  · split at e
    · rename_i s hs
      cases e
      obtain ⟨rfl, o⟩ := hv.str_eq
      have ec : cutS (tx s) l u = tx (cut s l u) := by unfold cutS cut; rw [cps_tx, tx_len]; rfl
      exact gives_v (v := .str (tx (cut s l u))) (.str _ (okS_sub o fun c m => by
        unfold cut at m
        exact List.mem_of_mem_drop (List.mem_of_mem_take m))) f fun Q q => .inl ⟨_, rfl, by rw [tx_len, sizeLine_eq]; exact hs, by rw [ec]; exact q⟩
    · cases e
  · cases e
    obtain ⟨p, xs, rfl, h1, h2⟩ := hv.seqL f rfl
    exact gives_lst (h2.cut l u) f fun Q q => .inr (.inl ⟨_, _, rfl, h1, q⟩)
  · cases e
    obtain ⟨p, xs, rfl, h1, h2⟩ := hv.seqL f rfl
    exact gives_lst (h2.cut l u) f fun Q q => .inr (.inl ⟨_, _, rfl, h1, q⟩)
  · cases e
    obtain ⟨p, xs, rfl, h1, h2⟩ := hv.tup f
    have hl := h2.length
    intro Q k
    refine .inr (.inr ⟨_, _, rfl, h1, fun h => ?_, fun h => ?_⟩)
    · rw [hl] at h
      rw [cut_whole h] at k
      exact k _ _ F (Same.refl H) f .refl hv.tup'
    · exact gives_tup (r := fun Q => ∀ p, H p = none → Q (.ref p) (upd H p (.tup (cutV xs l u)))) (h2.cut l u) f (fun Q q => q) Q k
  · cases e
end
end DL
namespace DL
open PySem PySem.Spec PyProof.Rows L2
section
variable {G : Gx} {X : Cx}
def dLen : List D → Option D
  | [.str s] => if s.length ≤ 16777216 then some (.int s.length) else none
  | [.lst ds] => some (.int ds.length)
  | [.tup ds] => some (.int ds.length)
  | [.scr ns] => some (.int ns.length)
  | _ => none
def rLen (K : PySem.W.Frag) : List V → Hp → VK → Prop := fun xs H Q => ∃ x n, xs = [x] ∧ LenV K x H n ∧ Q (.int n) H
theorem op_dLen : OpA G (rLen G.K) dLen := fun F H vs xs d f hv e => by
  unfold dLen at e
  split at e
  · split at e
    · rename_i hs
      cases e
      cases hv with | cons h t => cases t; obtain ⟨rfl, _⟩ := h.str_eq; exact gives_v (.int _) f fun Q q => ⟨_, _, rfl, ⟨by rw [tx_len, sizeLine_eq]; exact hs, (tx_len _).symm⟩, q⟩
    · cases e
  · cases e
    cases hv with | cons h t => cases t; obtain ⟨p, xs, rfl, h1, h2⟩ := h.seqL f rfl; exact gives_v (.int _) f fun Q q => ⟨_, _, rfl, .inl ⟨_, h1, h2.length.symm⟩, q⟩
  · cases e
    cases hv with | cons h t => cases t; obtain ⟨p, xs, rfl, h1, h2⟩ := h.tup f; exact gives_v (.int _) f fun Q q => ⟨_, _, rfl, .inr ⟨_, h1, h2.length.symm⟩, q⟩
  · cases e
    cases hv with | cons h t => cases t; obtain ⟨p, xs, rfl, h1, h2⟩ := h.seqL f rfl; exact gives_v (.int _) f fun Q q => ⟨_, _, rfl, .inl ⟨_, h1, by rw [h2.length, List.length_map]⟩, q⟩
  · cases e
def tyn : D → Option String
  | .non => some "NoneType"
  | .bl _ => some "bool"
  | .int _ => some "int"
  | .str _ => some "str"
  | .lst _ => some "list"
  | .tup _ => some "tuple"
  | .scr _ => some "list"
  | .dic _ => some "dict"
  | _ => none
def isT (a n : String) : Bool := a == n || (a == "bool" && n == "int")
def dIsI : List D → Option D
  | [x, .ty n] => match tyn x with
    | some a => if n == "int" || n == "bool" || n == "str" || n == "list" || n == "tuple" || n == "dict" then some (.bl (isT a n)) else none
    | none => none
  | _ => none
theorem kit_all : ∀ a ∈ ["NoneType", "bool", "int", "str", "list", "tuple", "dict"], ∀ n ∈ ["int", "bool", "str", "list", "tuple", "dict"], kitB a n = some (isT a n) := by decide +kernel
theorem tyn_mem {x : D} {a : String} (h : tyn x = some a) : a ∈ ["NoneType", "bool", "int", "str", "list", "tuple", "dict"] := by
  cases x <;> simp [tyn] at h <;> subst h <;> simp
theorem Vw.tyX {F : Fz} {H : Hp} {v : V} {x : D} {a : String} (h : Vw G F H v x) (f : Same F.f H) (e : tyn x = some a) : TyX G.K H v (.type a) := by
  rcases h with h | ⟨p, u, w, rfl, hp, ow, rfl⟩ | ⟨_, _, _, e1x, _, e3⟩
  · cases h with
    | non => cases e; exact .base .non
    | bl b => cases e; exact .base (.bl b)
    | int i => cases e; exact .base (.int i)
    | str s _ => cases e; exact .base (.str _)
    | lst h1 _ => cases e; exact .base (.lst (f _ _ h1))
    | tup h1 _ =>
      cases e
      rcases same_seqT f h1 with (h | ⟨o, h⟩) | ⟨o, its, n, h, hc, _⟩
      · exact .base (.tup h)
      · exact .fTuple h
      · exact .kTuple h hc
    | scr h1 =>
      cases e
      rcases f.seq h1 with (h | ⟨o, h⟩) | ⟨o, its, n, h, hc, _⟩
      · exact .base (.lst h)
      · exact .base (.frz h)
      · exact .kList h hc
    | dicK h1 _ => cases e; exact .fDict (f _ _ h1)
    | obj _ _ _ _ => cases e
    | ty _ => cases e
    | err _ _ => cases e
    | loc _ => cases e
  · cases ow with
    | l r => cases e; exact .base (.lst hp)
    | kK r => cases e; exact .base (.dK hp)
  · first | (cases e3; done) | (subst e1x e3; rfl) | (subst e3; cases e; done) | (subst e3; simp_all; done) | (subst e3; contradiction)
theorem op_dIsI : OpA G (rIsi G.K) dIsI := fun F H vs xs d f hv e => by
  unfold dIsI at e
  split at e
  · split at e
    · rename_i x n _ a ha
      split at e
      · rename_i hn
        cases e
        cases hv with
        | cons h t =>
          cases t with
          | cons h2 t =>
            cases t
            cases h2.ty_eq
            have hm : n ∈ ["int", "bool", "str", "list", "tuple", "dict"] := by
              simp only [Bool.or_eq_true, beq_iff_eq] at hn
              simp only [List.mem_cons, List.not_mem_nil, or_false]
              rcases hn with ((((h | h) | h) | h) | h) | h <;> simp [h]
            exact gives_v (.bl _) f fun Q q => ⟨_, _, _, _, _, rfl, .ty n, h.tyX f ha, kit_ty (kit_all a (tyn_mem ha) n hm), q⟩
      · cases e
    · cases e
  · cases e
theorem VwAll.len {F : Fz} {H : Hp} {vs : List V} {ds : List D} (h : VwAll G F H vs ds) : vs.length = ds.length := by
  induction h with
  | nil => rfl
  | cons _ _ ih => simp [ih]
def boolsD : List D → Option (List Bool)
  | [] => some []
  | .bl b :: r => (boolsD r).map (b :: ·)
  | _ :: _ => none
theorem bools_eq : ∀ {ds : List D} {bs : List Bool}, boolsD ds = some bs → ds = bs.map D.bl
  | [], bs, h => by cases h; rfl
  | .bl b :: r, bs, h => by
    simp only [boolsD] at h
    cases hr : boolsD r with
    | none => rw [hr] at h; cases h
    | some cs => rw [hr] at h; cases h; rw [bools_eq hr]; rfl
def intsD : List D → Option (List Int)
  | [] => some []
  | .int b :: r => (intsD r).map (b :: ·)
  | _ :: _ => none
def strsD : List D → Option (List (List Nat))
  | [] => some []
  | .str b :: r => (strsD r).map (b :: ·)
  | _ :: _ => none
theorem strs_eq : ∀ {ds : List D} {bs : List (List Nat)}, strsD ds = some bs → ds = bs.map D.str
  | [], bs, h => by cases h; rfl
  | .str b :: r, bs, h => by
    simp only [strsD] at h
    cases hr : strsD r with
    | none => rw [hr] at h; cases h
    | some cs => rw [hr] at h; cases h; rw [strs_eq hr]; rfl
@[simp] theorem bools_map (bs : List Bool) : boolsD (bs.map D.bl) = some bs := by
  induction bs with
  | nil => rfl
  | cons b r ih => simp [boolsD, ih]
@[simp] theorem ints_map (bs : List Int) : intsD (bs.map D.int) = some bs := by
  induction bs with
  | nil => rfl
  | cons b r ih => simp [intsD, ih]
@[simp] theorem strs_map (bs : List (List Nat)) : strsD (bs.map D.str) = some bs := by
  induction bs with
  | nil => rfl
  | cons b r ih => simp [strsD, ih]
def dAll : List D → Option D
  | [.lst ds] => (boolsD ds).map fun bs => .bl (bs.all id)
  | _ => none
def dAny : List D → Option D
  | [.lst ds] => (boolsD ds).map fun bs => .bl (bs.any id)
  | _ => none
theorem op_dAll : OpA G (rAll G.K) dAll := fun F H vs xs d f hv e => by
  unfold dAll at e
  split at e
  · rename_i ds
    cases hb : boolsD ds with
    | none => rw [hb] at e; cases e
    | some bs =>
      rw [hb] at e; cases e
      cases bools_eq hb
      cases hv with
      | cons h t =>
        cases t
        obtain ⟨p, xs, rfl, h1, h2⟩ := h.seqL f rfl
        cases rp_bools_inv h2
        exact gives_v (.bl _) f fun Q q => ⟨_, _, rfl, h1, q⟩
  · cases e
def dSum : List D → Option D
  | [.lst ds] => (intsD ds).map fun bs => .int bs.sum
  | _ => none
def dAbs : List D → Option D
  | [.int i] => some (.int (if i < 0 then -i else i))
  | _ => none
def rAbs : List V → Hp → VK → Prop := fun xs H Q => ∃ i, xs = [.int i] ∧ Q (.int (if i < 0 then -i else i)) H
def dMax : List D → Option D
  | [.int i, .int j] => some (.int (if j > i then j else i))
  | _ => none
def rMax2 : List V → Hp → VK → Prop := fun xs H Q => ∃ i j, xs = [.int i, .int j] ∧ Q (.int (if j > i then j else i)) H
def dMin : List D → Option D
  | [.int i, .int j] => some (.int (if j < i then j else i))
  | _ => none
def rMin2 : List V → Hp → VK → Prop := fun xs H Q => ∃ i j, xs = [.int i, .int j] ∧ Q (.int (if j < i then j else i)) H
def dOrd : List D → Option D
  | [.str [c]] => some (.int c)
  | _ => none
def rOrd : List V → Hp → VK → Prop := fun xs H Q => ∃ x : Str, xs = [.str x] ∧ x.length = 1 ∧ Q (.int (x.cps.getD 0 0 : Nat)) H
def seqD : D → Option (List D)
  | .lst ds => some ds
  | .tup ds => some ds
  | .scr ns => some (ns.map .int)
  | _ => none
theorem Vw.seq {F : Fz} {H : Hp} {v : V} {d : D} {ds : List D} (h : Vw G F H v d) (f : Same F.f H) (e : seqD d = some ds) : ∃ p xs, v = .ref p ∧ (SqL G.K H p xs ∨ SqT G.K H p xs) ∧ RpAll G F xs ds := by
  unfold seqD at e
  split at e
  · cases e; obtain ⟨p, xs, a, b, c⟩ := h.seqL f rfl; exact ⟨p, xs, a, .inl b, c⟩
  · cases e; obtain ⟨p, xs, a, b, c⟩ := h.tup f; exact ⟨p, xs, a, .inr b, c⟩
  · cases e; obtain ⟨p, xs, a, b, c⟩ := h.seqL f rfl; exact ⟨p, xs, a, .inl b, c⟩
  · cases e
def dListF : List D → Option Ow
  | [d] => (seqD d).map .l
  | _ => none
def rList (K : PySem.W.Frag) : List V → Hp → VK → Prop := fun xs H Q => ∃ p ys, xs = [.ref p] ∧ (SqL K H p ys ∨ SqT K H p ys) ∧ ∀ l, H l = none → Q (.ref l) (upd H l (.lst ys))
theorem op_dListF : OpAF G (rList G.K) dListF := fun F H vs xs d f hv e => by
  unfold dListF at e
  split at e
  · rename_i x
    cases hs : seqD x with
    | none => rw [hs] at e; cases e
    | some ds =>
      rw [hs] at e; cases e
      cases hv with | cons h t => cases t; obtain ⟨p, ys, rfl, h1, h2⟩ := h.seq f hs; exact lays_l h2 fun Q q => ⟨_, _, rfl, h1, q⟩
  · cases e
def dTuple : List D → Option D
  | [.lst ds] => some (.tup ds)
  | [.scr ns] => some (.tup (ns.map .int))
  | [.tup ds] => some (.tup ds)
  | _ => none
def rTuple (K : PySem.W.Frag) : List V → Hp → VK → Prop := fun xs H Q => ∃ p ys, xs = [.ref p] ∧ ((SqL K H p ys ∧ ∀ l, H l = none → Q (.ref l) (upd H l (.tup ys))) ∨ (SqT K H p ys ∧ Q (.ref p) H))
theorem de_ty {B : Hp} {W : WX} {x : Str} {pos : Pos} {n : String} (hm : X.mg x = none) (hv : bootBuiltins x = some (.type n) := by decide +kernel) (hg : Gl X x := by rfl) (hn : x ≠ "__name__" := by decide) (hd : (x == ("__debug__" : Str)) = false := by decide) : DE X B W (.Name x pos) (kE (.ty n)) :=
  de_k (pe_bltn (v := .ty n) hg hm hv rfl hn hd) fun _ => .ty n
theorem de_gs {B : Hp} {W : WX} {x : Str} {pos : Pos} {s : List Nat} {t : Tok} (hm : X.mg x = some (.str (tx s) t)) (o : okS s = true := by decide) (hg : Gl X x := by rfl) (hd : (x == ("__debug__" : Str)) = false := by decide) : DE X B W (.Name x pos) (kE (.str s)) :=
  de_k (pe_glob (v := .str (tx s)) hg hm ⟨t, rfl⟩ hd) fun _ => .str s o
variable {B : Hp} {W : WX} {tg e : Expr} {es : List Expr} {pos : Pos}
theorem PI.or {wi wi' : TI} (h : PI X tg e wi) (h' : PI X tg e wi') : PI X tg e (fun σ H R => wi σ H R ∨ wi' σ H R) := ⟨fun pins s σ H R I q => q.elim (h.run pins s σ H R I) (h'.run pins s σ H R I)⟩
theorem walks_l {F : Fz} {K : PySem.W.Frag} {a : Addr} {xs : List V} {ds : List D} {mg} {w : World} (h : SqL K F a xs) (r : RpAll ⟨K, mg, w⟩ F xs ds) : Walks ⟨K, mg, w⟩ (Itl K a) F ds := fun F' H' f f' i => by
  have hs := f'.seq (f.1.seq h)
  refine ⟨fun hi => ?_, fun hi => ⟨xs, hs, by rw [r.length]; exact hi⟩, fun d hd x H2 ⟨e, y⟩ => ?_⟩
  · obtain ⟨v, hv, _⟩ := r.get (List.getElem?_eq_getElem hi)
    exact ⟨xs, v, hs, hv⟩
  · subst e
    obtain ⟨v, hv, rv⟩ := r.get hd
    have := y xs hs
    rw [hv] at this; cases this
    exact ⟨F', Same.refl _, f', .refl, rv.mono f⟩
theorem walks_t {F : Fz} {K : PySem.W.Frag} {a : Addr} {xs : List V} {ds : List D} {mg} {w : World} (h : SqT K F a xs) (r : RpAll ⟨K, mg, w⟩ F xs ds) : Walks ⟨K, mg, w⟩ (Itt K a) F ds := fun F' H' f f' i => by
  have hs := same_seqT f' (same_seqT f.1 h)
  refine ⟨fun hi => ?_, fun hi => ⟨xs, hs, by rw [r.length]; exact hi⟩, fun d hd x H2 ⟨e, y⟩ => ?_⟩
  · obtain ⟨v, hv, _⟩ := r.get (List.getElem?_eq_getElem hi)
    exact ⟨xs, v, hs, hv⟩
  · subst e
    obtain ⟨v, hv, rv⟩ := r.get hd
    have := y xs hs
    rw [hv] at this; cases this
    exact ⟨F', Same.refl _, f', .refl, rv.mono f⟩
def sgs (s : List Nat) : List D := s.map fun c => .str [c]
theorem walks_s {F : Fz} {s : List Nat} (o : okS s = true) : Walks G (Its (tx s)) F (sgs s) := fun F' H' f f' i => by
  have sz : (tx s).cps.size = s.length := by simp [tx]
  refine ⟨fun hi => ?_, fun hi => ?_, fun d hd x H2 ⟨e, c, hc, hx⟩ => ?_⟩
  · show i < (tx s).cps.size
    rw [sz]; simpa [sgs] using hi
  · show (tx s).cps.size ≤ i
    rw [sz]; simpa [sgs] using hi
  · subst e; subst hx
    have hc' : s[i]? = some c := by simpa [tx] using hc
    unfold sgs at hd
    rw [List.getElem?_map, hc'] at hd
    cases hd
    exact ⟨F', Same.refl _, f', .refl, .str [c] (okS_sub o fun c' m => by rw [List.mem_singleton] at m; subst m; exact List.mem_of_getElem? hc')⟩
def itD : D → Option (List D)
  | .lst ds => some ds
  | .tup ds => some ds
  | .scr ns => some (ns.map .int)
  | .str s => some (sgs s)
  | _ => none
def iE (f : Ev D) : Ev (List D) := fun S st => (f S st).bind fun d S st => got (itD d) S st
theorem di_e {f : Ev D} (h : DE X B W e f) : DI X B W tg e (iE f) :=
  pi_imp (PI.or (pi_list h) (PI.or (pi_tup h) (pi_str h))) fun σ H R ⟨F, S, st, o, q⟩ => by
    unfold iE at q
    have q2 := Post.bind (R := RD (Cx.g X) σ) q
    revert q q2
    generalize hr : f S st = r
    intro q q2
    have mk : ∀ {Q : VK}, Post (Cx.g X) B W (RD (Cx.g X) σ) σ F Q r → lift (Cx.g X) B W (RD (Cx.g X)) f σ H Q := fun {Q} q => ⟨F, S, st, o, by rw [hr]; exact q⟩
    cases r with
    | stuck => exact q2.elim
    | exc x S1 st1 => exact .inl (mk q)
    | ok d S1 st1 =>
      have key : ∀ {ds : List D}, itD d = some ds → ∀ F1 H1, Gr B F F1 → Ok (Cx.g X) B F1 σ H1 S1 st1 → ∀ J, Walks (Cx.g X) J F1 ds → R J H1 := fun {ds} hd F1 H1 g1 o1 J w => by
        have q3 : Post (Cx.g X) B W (RW (Cx.g X) σ) σ F R (got (itD d) S1 st1) := q
        rw [hd] at q3
        exact q3 J H1 F1 g1 o1 w
      cases d with
      | lst ds => exact .inl (mk fun v H1 F1 g1 o1 r1 => by cases r1 with | lst h1 h2 => exact ⟨_, rfl, ⟨_, o1.fH.seq (.inl (.inl h1))⟩, key rfl F1 H1 g1 o1 _ (walks_l (.inl (.inl h1)) h2)⟩)
      | scr ns => exact .inl (mk fun v H1 F1 g1 o1 r1 => by cases r1 with | scr h1 => exact ⟨_, rfl, ⟨_, o1.fH.seq h1⟩, key rfl F1 H1 g1 o1 _ (walks_l h1 (rp_ints (Cx.g X) F1 ns))⟩)
      | tup ds => exact .inr (.inl (mk fun v H1 F1 g1 o1 r1 => by cases r1 with | tup h1 h2 => exact ⟨_, rfl, ⟨_, same_seqT o1.fH h1⟩, key rfl F1 H1 g1 o1 _ (walks_t h1 h2)⟩))
      | str s => exact .inr (.inr (mk fun v H1 F1 g1 o1 r1 => by cases r1 with | str _ h1 => exact ⟨_, rfl, key rfl F1 H1 g1 o1 _ (walks_s h1)⟩))
      | _ =>
        exfalso
        exact (show Post (Cx.g X) B W (RW (Cx.g X) σ) σ F R .stuck from q)
def rng (n : Nat) (lo : Int) : List D := (List.range n).map fun (i : Nat) => D.int (lo + (i : Int))
theorem walks_r {F : Fz} {lo : Int} {n : Nat} : Walks G (Itr lo n) F (rng n lo) := fun F' H' f f' i => by
  refine ⟨fun hi => by show i < n; simpa [rng] using hi, fun hi => by show n ≤ i; simpa [rng] using hi, fun d hd x H2 ⟨e, hx⟩ => ?_⟩
  subst e; subst hx
  unfold rng at hd
  rw [List.getElem?_map] at hd
  cases hl : (List.range n)[i]? with
  | none => rw [hl] at hd; cases hd
  | some j =>
    rw [hl] at hd; cases hd
    have : j = i := by
      have := List.getElem?_eq_some_iff.mp hl
      obtain ⟨h1, h2⟩ := this
      simpa using h2.symm
    subst this
    exact ⟨F', Same.refl _, f', .refl, .int _⟩
def iR1 (f : Ev (List Opd)) : Ev (List D) := fun S st => (f S st).bind fun a S st => match vws S st a with
  | some [.int n] => if -1000000 ≤ n ∧ n ≤ 1000000 then .ok (rng n.toNat 0) S st else .stuck
  | _ => .stuck
def iR2 (f : Ev (List Opd)) : Ev (List D) := fun S st => (f S st).bind fun a S st => match vws S st a with
  | some [.int a, .int n] => if (-1000000 ≤ a ∧ a ≤ 1000000) ∧ -1000000 ≤ n ∧ n ≤ 1000000 then .ok (rng (n - a).toNat a) S st else .stuck
  | _ => .stuck
theorem di_r1 {f : Ev (List Opd)} {p : Pos} (hm : X.mg "range" = none) (h : DA X B W [e] f) (hg : Gl X "range" := by rfl) (hs : starEach [e] X.env = [(false, eval e X.env)] := by rfl) : DI X B W tg (.Call (.Name "range" p) [e] [] pos) (iR1 f) :=
  pi_imp (pi_range1 hg hm h hs) fun σ H R ⟨F, S, st, o, q⟩ => ⟨F, S, st, o, (Post.bind (R := RpO (Cx.g X) σ) q).mono fun vs H1 ⟨F1, d, S1, st1, g1, o1, r1, p1⟩ => by
    split at p1
    · rename_i n hn
      split at p1
      · rename_i hle
        have ra := o1.vws r1 hn
        cases ra with
        | cons h t =>
          cases t
          cases h.int_eq
          exact ⟨_, rfl, by omega, by omega, p1 _ H1 F1 .refl o1 walks_r⟩
      · exact p1.elim
    · exact p1.elim⟩
def enumD (ds : List D) : List D := ds.zipIdx.map fun p => .tup [.int p.2, p.1]
def iEn (f : Ev (List Opd)) : Ev (List D) := fun S st => (f S st).bind fun a S st => match vds S a with
  | some [d] => match asL d with
    | some ds => .ok (enumD ds) S st
    | none => .stuck
  | _ => .stuck
def zipD (ds es : List D) : List D := (ds.zip es).map fun p => .tup [p.1, p.2]
def iZ (f : Ev (List Opd)) : Ev (List D) := fun S st => (f S st).bind fun a S st => match vds S a with
  | some [d, e] => match asL d, asL e with
    | some ds, some es => .ok (zipD ds es) S st
    | _, _ => .stuck
  | _ => .stuck
def iV (f : Ev (List Opd)) : Ev (List D) := fun S st => (f S st).bind fun a S st => match vds S a with
  | some [d] => match asL d with
    | some ds => .ok ds.reverse S st
    | none => .stuck
  | _ => .stuck
end
structure Bl (mg : Str → Option Value) : Prop where
  len : mg "len" = none
  isinstance : mg "isinstance" = none
  str : mg "str" = none
  int : mg "int" = none
  bool : mg "bool" = none
  list : mg "list" = none
  tuple : mg "tuple" = none
  dict : mg "dict" = none
  set : mg "set" = none
  range : mg "range" = none
  enumerate : mg "enumerate" = none
  zip : mg "zip" = none
  reversed : mg "reversed" = none
  sorted : mg "sorted" = none
  sum : mg "sum" = none
  all : mg "all" = none
  any : mg "any" = none
  abs : mg "abs" = none
  max : mg "max" = none
  min : mg "min" = none
  ord : mg "ord" = none
  divmod : mg "divmod" = none
  repr : mg "repr" = none
end DL
namespace DL
open PySem PySem.Spec PyProof.Rows L2
section
variable {P : Program} {w : World} {K : PySem.W.Frag} {mg : Str → Option Value} {base : Heap}
structure DefV (P : Program) (w : World) (K : PySem.W.Frag) (mg : Str → Option Value) (base : Heap) (k : Nat) (x : Str) (n : Nat) (c : CallT) (v : V) (kn : Str) : Prop where
  ex : ∃ f fd ps, FnOk P w K mg base (L2.CX P w) k f fd ps (spOf ⟨K, mg, w⟩ (n + 1) c) ∧ Binds K fd ps [] ∧ (∃ u, RelV v u ∧ Binds K fd ps [u]) ∧ KBn K fd ps n [kn] (fun us ws => us ++ ws) (fun vs zs => vs ++ zs) ∧ mg x = some (.ref f) ∧ PySem.W.keepIn K (.ref f) = true
theorem DefV.mono {k j : Nat} {x : Str} {n : Nat} {c : CallT} {v : V} {kn : Str} (d : DefV P w K mg base k x n c v kn) (h : k ≤ j) : DefV P w K mg base j x n c v kn := by
  obtain ⟨f, fd, ps, a, b, c, e, g, i⟩ := d.ex
  exact ⟨f, fd, ps, a.mono h, b, c, e, g, i⟩
theorem DefV.full {k : Nat} {x : Str} {n : Nat} {c : CallT} {v : V} {kn : Str} (d : DefV P w K mg base k x n c v kn) : Def P w K mg base k x (n + 1) c := by
  obtain ⟨f, fd, ps, a, b, c, e, g, i⟩ := d.ex
  exact ⟨f, fd, ps, a, b, g, i⟩
end
def cDf (c : CallT) (d : D) : CallT := fun ds st => c (ds ++ [d]) st
def tCallP (sp : Sp) (E : L2.St → XK) (ws : List V) (t : TA) : TE := fun σ H Q => t σ H fun vs H1 => sp (vs ++ ws) H1 Q (E σ)
def tCallQ (n : Nat) (sp : Sp) (E : L2.St → XK) (t tk : TA) : TE := fun σ H Q => t σ H fun vs H1 => tk σ H1 fun zs H2 => vs.length = n ∧ zs.length = 1 ∧ sp (vs ++ zs) H2 Q (E σ)
section
variable {X : Cx} {B : Hp} {W : WX} {e e2 : Expr} {es : List Expr} {pos p kpos : Pos} {k n : Nat} {x kn : Str} {c : CallT}
def cKE (c : CallT) (fa : Ev (List Opd)) (f2 : Ev D) : Ev D := fun S st => (fa S st).bind fun a S st => (f2 S st).bind fun d S st => match vds S a with
  | some ds => match c (ds ++ [d]) st with
    | .ok d _ st => .ok d S st
    | .exc x _ st => .exc x S st
    | .stuck => .stuck
  | none => .stuck
end
section
variable {S : Sls} {st : Store}
@[simp] theorem cKE_a (c : CallT) (fa : Ev (List Opd)) (f2 : Ev D) : cKE c fa f2 S st = (fa S st).bind fun a S st => (f2 S st).bind fun d S st => match vds S a with
  | some ds => match c (ds ++ [d]) st with
    | .ok d _ st => .ok d S st
    | .exc x _ st => .exc x S st
    | .stuck => .stuck
  | none => .stuck := rfl
@[simp] theorem cDf_a (c : CallT) (d : D) (ds : List D) : cDf c d ds st = c (ds ++ [d]) st := rfl
end
end DL
namespace DL
open PySem PySem.Spec PyProof.Rows L2
def sAugS (i : Nat) (g : Int → Int → Int) (fj fv : Ev D) : EvS := fun S st => match S[i]? with
  | some (.own (.l _)) => (fj S st).out fun j S st => match j, S[i]? with
    | .int k, some (.own (.l ds)) => match L2.atI ds k with
      | some (.int a) => (fv S st).out fun y S st => match y, S[i]? with
        | .int b, some (.own (.l es)) => match ixN es.length k with
          | some j => .nx (S.set i (.own (.l (es.set j (.int (g a b)))))) st
          | none => .stuck
        | _, _ => .stuck
      | _ => .stuck
    | _, _ => .stuck
  | _ => .stuck
section
variable {X : Cx} {B : Hp} {W : WX} {e a b : Expr} {pos : Pos}
end
end DL
namespace DL
open PySem PySem.Spec PyProof.Rows L2
section
variable {G : Gx} {X : Cx}
def joinN (a : List Nat) : List (List Nat) → List Nat
  | [] => []
  | [x] => x
  | x :: y :: r => x ++ a ++ joinN a (y :: r)
def dJoin : D → List D → Option D
  | .str a, [d] => match seqD d with
    | some ds => match strsD ds with
      | some ss => if (ss.map (·.length)).sum + ss.length * a.length ≤ 16777216 then some (.str (joinN a ss)) else none
      | none => none
    | none => none
  | _, _ => none
def cpsL (ys : List Str) : List (List Nat) := ys.map fun y => y.cps.toList
def dSplit : D → List D → Option D
  | .str a, [.str b] => if 0 < b.length ∧ a.length + 2 ≤ 16777216 ∧ (∀ s ∈ cpsL (Txt.split (tx a) (tx b)), okS s = true) then some (.lst ((cpsL (Txt.split (tx a) (tx b))).map .str)) else none
  | _, _ => none
def dWords : D → Option D
  | .str a => if a.length + 2 ≤ 16777216 ∧ (∀ s ∈ cpsL (Txt.words (tx a)), okS s = true) then some (.lst ((cpsL (Txt.words (tx a))).map .str)) else none
  | _ => none
def d2S (g : List Nat → List Nat → D) : D → List D → Option D
  | .str a, [.str b] => some (g a b)
  | _, _ => none
def dStarts := d2S fun a b => .bl (Txt.startswith (tx a) (tx b))
def dEnds := d2S fun a b => .bl (Txt.endswith (tx a) (tx b))
def dFind := d2S fun a b => .int (Txt.find (tx a) (tx b))
def numS (i : Int) : List Nat := (Str.ofString (toString i)).cps.toList
def dStr : List D → Option D
  | [.int i] => if i.natAbs.log2 < 1920 then some (.str (numS i)) else none
  | _ => none
def rIntAll : List V → Hp → VK → Prop := fun xs H Q => ((∃ i, xs = [.int i] ∧ Q (.int i) H) ∨ ∃ k, xs = [.bl k] ∧ Q (.int (if k then 1 else 0)) H) ∨ (∃ a n, xs = [.str a] ∧ PySem.intText? a = some n ∧ a.length ≤ 640 ∧ Q (.int n) H)
def dInt : List D → Option D
  | [.int i] => some (.int i)
  | [.bl k] => some (.int (if k then 1 else 0))
  | [.str s] => if s.length ≤ 640 then (PySem.intText? (tx s)).map .int else none
  | _ => none
def dDivmod : List D → Option D
  | [.int i, .int j] => if 0 < j ∧ j.natAbs.log2 < 9000 then some (.tup [.int (i / j), .int (i % j)]) else none
  | _ => none
end
section
variable {X : Cx} {B : Hp} {W : WX} {e a b c : Expr} {es : List Expr} {pos : Pos}
def o3E (op op' : D → D → Option D) (fa fb fc : Ev Opd) : Ev D := fun S st => (fa S st).bind fun a S st => (fb S st).bind fun b S st =>
  match vw S st a, vw S st b with
  | some x, some y => match op x y with
    | some (.bl true) => (fc S st).bind fun c S st => match vw S st b, vw S st c with
      | some y, some z => got (op' y z) S st
      | _, _ => .stuck
    | some (.bl false) => .ok (.bl false) S st
    | _ => .stuck
  | _, _ => .stuck
theorem op3_lift {r r' : R2} {op op' : D → D → Option D} {fa fb fc : Ev Opd} (h : Op2 (Cx.g X) r op) (h' : Op2 (Cx.g X) r' op') {σ : L2.St} {H : Hp} {Q : VK} (q : lift (Cx.g X) B W (RD (Cx.g X)) (o3E op op' fa fb fc) σ H Q) :
    tChain r r' (lift (Cx.g X) B W (RO (Cx.g X)) fa) (lift (Cx.g X) B W (RO (Cx.g X)) fb) (lift (Cx.g X) B W (RO (Cx.g X)) fc) σ H Q := by
  obtain ⟨F, S, st, o, q⟩ := q
  refine ⟨F, S, st, o, (Post.bind (R := RO (Cx.g X) σ) q).mono fun v H1 ⟨F1, d, S1, st1, g1, o1, r1, p1⟩ => ⟨F1, S1, st1, o1, (Post.bind (R := RO (Cx.g X) σ) p1).mono fun w H2 ⟨F2, d2, S2, st2, g2, o2, r2, p2⟩ => ?_⟩⟩
  split at p2
  · rename_i x y hx hy
    split at p2
    · rename_i hz
      refine h F2 H2 v w x y _ o2.fH (o2.vw (r1.mono g2.1) hx) (o2.vw r2 hy) hz _ fun v' H' F' k f gr rr => ?_
      cases rr
      refine ⟨_, rfl, ?_⟩
      simp only [if_true]
      refine ⟨⟨F', F2.m⟩, S2, st2, o2.grow gr k f, ?_⟩
      have g' : Gr B F2 ⟨F', F2.m⟩ := o2.gr gr
      refine (Post.grow g' (Post.bind (R := RO (Cx.g X) σ) p2)).mono fun u H3 ⟨F3, d3, S3, st3, g3, o3, r3, p3⟩ => ?_
      split at p3
      · rename_i y' z hy' hz'
        obtain ⟨t, ht, p3⟩ := got_ok p3
        exact (h' F3 H3 w u y' z t o3.fH (o3.vw (r2.mono g3.1) hy') (o3.vw r3 hz') ht).fin o3 p3
      · exact p3.elim
    · rename_i hz
      refine h F2 H2 v w x y _ o2.fH (o2.vw (r1.mono g2.1) hx) (o2.vw r2 hy) hz _ fun v' H' F' k f gr rr => ?_
      cases rr
      refine ⟨_, rfl, ?_⟩
      simp only [Bool.false_eq_true, if_false]
      exact p2 _ H' _ (o2.gr gr) (o2.grow gr k f) (.bl _)
    · exact p2.elim
  · exact p2.elim
theorem de_chain {o o' : CmpOp} {r r' : R2} {op op' : D → D → Option D} {fa fb fc : Ev Opd} (ho : OpR X (compareOp o) r) (h : Op2 (Cx.g X) r op) (ho' : OpR X (compareOp o') r') (h' : Op2 (Cx.g X) r' op') (ha : DO X B W a fa) (hb : DO X B W b fb) (hc : DO X B W c fc)
    (hm : lastMarks [o, o'] [b, c] = false := by with_unfolding_all rfl) : DE X B W (.Compare a [o, o'] [b, c] pos) (o3E op op' fa fb fc) :=
  pe_imp (pe_chain ho ho' ha hb hc hm) fun _ _ _ q => op3_lift h h' q
end
end DL
namespace DL
open PySem PySem.Spec PyProof.Rows L2
def kEq : D → D → Bool
  | .int i, .int j => i == j
  | .str s, .str t => s == t
  | _, _ => false
def isKey : D → Bool
  | .int _ => true
  | .str _ => true
  | _ => false
def lookD (es : List (D × D)) (k : D) : Option D := (es.find? fun e => kEq e.1 k).map (·.2)
def putD (es : List (D × D)) (k d : D) : List (D × D) := if (es.any fun e => kEq e.1 k) = true then es.map (fun e => if kEq e.1 k = true then (e.1, d) else e) else es ++ [(k, d)]
theorem kEq_key (a b : Key) : kEq (keyD a) (keyD b) = decide (a = b) := by
  cases a with
  | inl i => cases b with
    | inl j => by_cases h : i = j <;> simp [keyD, kEq, h]
    | inr y => simp [keyD, kEq]
  | inr x => cases b with
    | inl j => simp [keyD, kEq]
    | inr y =>
      obtain ⟨x⟩ := x; obtain ⟨y⟩ := y
      have : (x.toList = y.toList) ↔ (Sum.inr ⟨x⟩ : Key) = Sum.inr ⟨y⟩ := by
        constructor
        · intro h
          have : x = y := by cases x; cases y; exact congrArg Array.mk h
          rw [this]
        · intro h
          injection h with h; injection h with h; rw [h]
      simp only [keyD, kEq]
      by_cases h : x.toList = y.toList
      · rw [decide_eq_true (this.mp h)]; simpa using h
      · rw [decide_eq_false (fun z => h (this.mpr z))]; simpa using h
theorem RpK.look {G : Gx} {F : Fz} (k : Key) : ∀ {kvs : List (Key × V)} {es : List (D × D)}, RpK G F kvs es → (∃ v d, valV kvs k = some v ∧ lookD es (keyD k) = some d ∧ Rp G F v d) ∨ (valV kvs k = none ∧ lookD es (keyD k) = none)
  | _, _, .nil => .inr ⟨rfl, rfl⟩
  | _, _, .cons (k := j) (v := v) (d := d) o h t => by
    by_cases e : j = k
    · have e2 : kEq (keyD j) (keyD k) = true := by rw [kEq_key]; simpa using e
      exact .inl ⟨v, d, valV_pos e, by simp [lookD, List.find?_cons, e2], h⟩
    · have e2 : kEq (keyD j) (keyD k) = false := by rw [kEq_key]; simpa using e
      rcases RpK.look k t with ⟨v', d', a, b, c⟩ | ⟨a, b⟩
      · exact .inl ⟨v', d', by rw [valV_neg e]; exact a, by simpa [lookD, List.find?_cons, e2] using b, c⟩
      · exact .inr ⟨by rw [valV_neg e]; exact a, by simpa [lookD, List.find?_cons, e2] using b⟩
theorem RpK.any {G : Gx} {F : Fz} (k : Key) : ∀ {kvs : List (Key × V)} {es : List (D × D)}, RpK G F kvs es → (kvs.any fun kv => decide (kv.1 = k)) = es.any fun e => kEq e.1 (keyD k)
  | _, _, .nil => rfl
  | _, _, .cons o h t => by rw [List.any_cons, List.any_cons, RpK.any k t, kEq_key]
theorem RpK.repl {G : Gx} {F : Fz} (k : Key) {y : V} {d : D} (r : Rp G F y d) : ∀ {kvs : List (Key × V)} {es : List (D × D)}, RpK G F kvs es → RpK G F (kvs.map fun kv => if kv.1 = k then (kv.1, y) else kv) (es.map fun e => if kEq e.1 (keyD k) = true then (e.1, d) else e)
  | _, _, .nil => .nil
  | _, _, .cons (k := j) o h t => by
    rw [List.map_cons, List.map_cons, kEq_key]
    by_cases e : j = k
    · rw [if_pos e, if_pos (by simpa using e)]; exact .cons o r (RpK.repl k r t)
    · rw [if_neg e, if_neg (by simpa using e)]; exact .cons o h (RpK.repl k r t)
theorem RpK.snoc {G : Gx} {F : Fz} {k : Key} (hk : okK k = true) {y : V} {d : D} (r : Rp G F y d) : ∀ {kvs : List (Key × V)} {es : List (D × D)}, RpK G F kvs es → RpK G F (kvs ++ [(k, y)]) (es ++ [(keyD k, d)])
  | _, _, .nil => .cons hk r .nil
  | _, _, .cons o h t => .cons o h (RpK.snoc hk r t)
theorem RpK.put {G : Gx} {F : Fz} {k : Key} (hk : okK k = true) {y : V} {d : D} (r : Rp G F y d) {kvs : List (Key × V)} {es : List (D × D)} (t : RpK G F kvs es) : RpK G F (putK kvs k y) (putD es (keyD k) d) := by
  unfold putK putD
  rw [t.any k]
  split
  · exact t.repl k r
  · exact t.snoc hk r
theorem RpK.length {G : Gx} {F : Fz} : ∀ {kvs : List (Key × V)} {es : List (D × D)}, RpK G F kvs es → kvs.length = es.length
  | _, _, .nil => rfl
  | _, _, .cons _ _ t => by rw [List.length_cons, List.length_cons, t.length]
theorem rp_key {G : Gx} {F : Fz} {v : V} {d : D} (h : Rp G F v d) (e : isKey d = true) : ∃ k : Key, v = kV k ∧ keyD k = d ∧ okK k = true := by
  cases h with
  | int i => exact ⟨.inl i, rfl, rfl, rfl⟩
  | str s h => exact ⟨.inr (tx s), rfl, rfl, h⟩
  | _ => cases e
theorem vw_key {G : Gx} {F : Fz} {H : Hp} {v : V} {d : D} (h : Vw G F H v d) (e : isKey d = true) : ∃ k : Key, v = kV k ∧ keyD k = d ∧ okK k = true := by
  rcases h with h | ⟨p, u, w, rfl, hp, r, rfl⟩ | ⟨_, _, _, e1x, _, e3⟩
  · exact rp_key h e
  · cases r <;> cases e
  · first | (cases e3; done) | (subst e1x e3; rfl) | (subst e3; cases e; done) | (subst e3; simp_all; done) | (subst e3; contradiction)
theorem vw_dic {G : Gx} {F : Fz} {H : Hp} (f : Same F.f H) {v : V} {es : List (D × D)} (h : Vw G F H v (.dic es)) : ∃ a kvs, v = .ref a ∧ Rd H a (.dK kvs) ∧ RpK G F kvs es := by
  rcases h with h | ⟨p, u, w, rfl, hp, r, e⟩ | ⟨_, _, _, e1x, _, e3⟩
  · cases h with
    | dicK h r => exact ⟨_, _, rfl, .inr ⟨_, f _ _ h⟩, r⟩
  · cases r with
    | l _ => cases e
    | kK r => cases e; exact ⟨p, _, rfl, .inl hp, r⟩
  · first | (cases e3; done) | (subst e1x e3; rfl) | (subst e3; cases e; done) | (subst e3; simp_all; done) | (subst e3; contradiction)
def dGetK : D → D → Option D
  | .dic es, k => if isKey k = true then lookD es k else none
  | _, _ => none
def rIxDK : R2 := fun x y H Q => ∃ a v, x = .ref a ∧ DGet H a y (some v) ∧ Q v H
theorem ix_dK {X : Cx} (hu : X.A.units + 1 < cLine) : IxR X rIxDK := by
  intro value slice pins s σ H x y v u Q I rx ry h hs
  obtain ⟨a, r, rfl, g, q⟩ := h
  obtain rfl : v = Value.ref a := rx
  exact tail_any (dict_typeIs I g) PySem.F.slot_dict_getitem.lookup (d_getItem hu I g ry fun w' s3 I3 rw' => ⟨r, H, I3, rw', q⟩) hs
theorem op_dGetK {G : Gx} : Op2 G rIxDK dGetK := fun F H v w x y d f hv hw e => by
  unfold dGetK at e
  split at e
  · rename_i es k
    split at e
    · rename_i hk
      obtain ⟨a, kvs, rfl, ha, r⟩ := vw_dic f hv
      obtain ⟨k', rfl, rfl, ok⟩ := vw_key hw hk
      intro Q q
      rcases r.look k' with ⟨v', d', a1, a2, a3⟩ | ⟨a1, a2⟩
      · rw [a2] at e; cases e
        exact ⟨a, v', rfl, .inl ⟨kvs, k', ha, rfl, a1.symm⟩, q v' H F (Same.refl H) f .refl a3⟩
      · rw [a2] at e; cases e
    · cases e
  · cases e
def dInK : D → D → Option D
  | k, .dic es => if isKey k = true then some (.bl (lookD es k).isSome) else none
  | _, _ => none
def dNotInK : D → D → Option D
  | k, .dic es => if isKey k = true then some (.bl (!(lookD es k).isSome)) else none
  | _, _ => none
def rInDK : R2 := fun x y H Q => ∃ a o, y = .ref a ∧ DGet H a x o ∧ Q (.bl o.isSome) H
def rNotInDK : R2 := fun x y H Q => ∃ a o, y = .ref a ∧ DGet H a x o ∧ Q (.bl (!o.isSome)) H
theorem opR_inK {X : Cx} (hu : X.A.units + 1 < cLine) : OpR X (compareOp .In) rInDK := by
  intro pins s σ H x y v u Q I rx ry h
  obtain ⟨a, r, rfl, g, q⟩ := h
  obtain rfl : u = Value.ref a := ry
  exact d_in hu I g rx fun s3 I3 => ⟨.bl r.isSome, H, I3, rfl, q⟩
theorem opR_notInK {X : Cx} (hu : X.A.units + 1 < cLine) : OpR X (compareOp .NotIn) rNotInDK := by
  intro pins s σ H x y v u Q I rx ry h
  obtain ⟨a, r, rfl, g, q⟩ := h
  obtain rfl : u = Value.ref a := ry
  exact d_notIn hu I g rx fun s3 I3 => ⟨.bl (!r.isSome), H, I3, rfl, q⟩
theorem op_dInK {G : Gx} : Op2 G rInDK dInK := fun F H v w x y d f hv hw e => by
  unfold dInK at e
  split at e
  · rename_i k es
    split at e
    · rename_i hk
      cases e
      obtain ⟨a, kvs, rfl, ha, r⟩ := vw_dic f hw
      obtain ⟨k', rfl, rfl, ok⟩ := vw_key hv hk
      intro Q q
      refine ⟨a, valV kvs k', rfl, .inl ⟨kvs, k', ha, rfl, rfl⟩, q _ H F (Same.refl H) f .refl ?_⟩
      rcases r.look k' with ⟨v', d', a1, a2, a3⟩ | ⟨a1, a2⟩
      · rw [a1, a2]; exact .bl _
      · rw [a1, a2]; exact .bl _
    · cases e
  · cases e
theorem op_dNotInK {G : Gx} : Op2 G rNotInDK dNotInK := fun F H v w x y d f hv hw e => by
  unfold dNotInK at e
  split at e
  · rename_i k es
    split at e
    · rename_i hk
      cases e
      obtain ⟨a, kvs, rfl, ha, r⟩ := vw_dic f hw
      obtain ⟨k', rfl, rfl, ok⟩ := vw_key hv hk
      intro Q q
      refine ⟨a, valV kvs k', rfl, .inl ⟨kvs, k', ha, rfl, rfl⟩, q _ H F (Same.refl H) f .refl ?_⟩
      rcases r.look k' with ⟨v', d', a1, a2, a3⟩ | ⟨a1, a2⟩
      · rw [a1, a2]; exact .bl _
      · rw [a1, a2]; exact .bl _
    · cases e
  · cases e
def kF0 : Ev Ow := fun S st => .ok (.k []) S st
section
variable {X : Cx} {B : Hp} {W : WX} {pos : Pos}
theorem df_k0 : DF X B W (.Dict [] [] pos) kF0 :=
  pe_imp pe_dnewK fun σ H Q ⟨F, S, st, o, q⟩ => fun p hp => (show PostF (Cx.g X) B W σ F Q (.ok (.k []) S st) from q).new o hp (.kK .nil)
def sPut (i : Nat) (fv fk : Ev D) : EvS := fun S st => (fv S st).out fun d S st => match S[i]? with
  | some (.own (.k _)) => (fk S st).out fun k S st => match S[i]? with
    | some (.own (.k es)) => if isKey k = true ∧ es.length < 16777216 then .nx (S.set i (.own (.k (putD es k d)))) st else .stuck
    | _ => .stuck
  | _ => .stuck
def mergeD (es more : List (D × D)) : List (D × D) := more.foldl (fun acc e => putD acc e.1 e.2) es
structure DKs (X : Cx) (pos : Pos) (keys : List (Option Expr)) (values : List Expr) (ks : List (List Nat)) (fa : Ev (List Opd)) : Prop where
  ex : ∃ trs, PPs X pos keys values trs ∧ keys.length = ks.length ∧ values.length = ks.length ∧ keys.all (·.isSome) = true ∧
    ∀ (B : Hp) (σ : L2.St) (H : Hp) (Q : List (V × V) → Hp → Prop), lift (Cx.g X) B W0 (RpO (Cx.g X)) fa σ H (fun vs H' => vs.length = ks.length → Q ((ks.map fun s => V.str (tx s)).zip vs) H') → tPairs trs σ H Q
def kF (ks : List (List Nat)) (fa : Ev (List Opd)) : Ev Ow := fun S st => (fa S st).calm.bind fun a S st => match vds S a with
  | some ds => if ds.length = ks.length then .ok (.k (mergeD [] ((ks.map D.str).zip ds))) S st else .stuck
  | none => .stuck
end
@[simp] theorem kEq_s (s t : List Nat) : kEq (.str s) (.str t) = (s == t) := rfl
@[simp] theorem kEq_i (s t : Int) : kEq (.int s) (.int t) = (s == t) := rfl
@[simp] theorem kEq_si (s : List Nat) (t : Int) : kEq (.str s) (.int t) = false := rfl
@[simp] theorem kEq_is (s : Int) (t : List Nat) : kEq (.int s) (.str t) = false := rfl
@[simp] theorem isKey_s (s : List Nat) : isKey (.str s) = true := rfl
@[simp] theorem isKey_i (s : Int) : isKey (.int s) = true := rfl
@[simp] theorem lookD_n (k : D) : lookD [] k = none := rfl
@[simp] theorem lookD_c (k' d : D) (r : List (D × D)) (k : D) : lookD ((k', d) :: r) k = if kEq k' k = true then some d else lookD r k := by
  unfold lookD
  rw [List.find?_cons]
  cases h : kEq k' k <;> simp [h]
@[simp] theorem putD_n (k d : D) : putD [] k d = [(k, d)] := rfl
@[simp] theorem mergeD_n (es : List (D × D)) : mergeD es [] = es := rfl
@[simp] theorem mergeD_c (es : List (D × D)) (k d : D) (r : List (D × D)) : mergeD es ((k, d) :: r) = mergeD (putD es k d) r := rfl
@[simp] theorem dGetK_a (es : List (D × D)) (k : D) : dGetK (.dic es) k = if isKey k = true then lookD es k else none := rfl
@[simp] theorem dInK_a (es : List (D × D)) (k : D) : dInK k (.dic es) = if isKey k = true then some (.bl (lookD es k).isSome) else none := rfl
@[simp] theorem dNotInK_a (es : List (D × D)) (k : D) : dNotInK k (.dic es) = if isKey k = true then some (.bl (!(lookD es k).isSome)) else none := rfl
@[simp] theorem Ow_k_d (es : List (D × D)) : (Ow.k es).d = .dic es := rfl
def idxS (s : List Nat) : List (List Nat) → Nat
  | [] => 0
  | x :: r => if x = s then 0 else idxS s r + 1
def dIndex : D → List D → Option D
  | .lst ds, [.str s] => match strsD ds with
    | some ss => if s ∈ ss then some (.int (idxS s ss : Nat)) else none
    | none => none
  | _, _ => none
@[simp] theorem dIndex_a (ss : List (List Nat)) (s : List Nat) (h : s ∈ ss) : dIndex (.lst (ss.map .str)) [.str s] = some (.int (idxS s ss : Nat)) := by
  simp [dIndex, h]
end DL
namespace DL
open PySem PySem.Spec PyProof.Rows L2
def DTab (P : Params) : List DictEntry → List (List Nat × List Nat) → Prop
  | [], [] => True
  | e :: r, q :: s => (∃ t t', e.key = .str (tx q.1) t ∧ e.hash = PyData.keyHash P (tx q.1) ∧ e.val = .str (tx q.2) t') ∧ DTab P r s
  | _, _ => False
def lookT (z : List Nat) : List (List Nat × List Nat) → Option (List Nat)
  | [] => none
  | (k, v) :: r => if k = z then some v else lookT z r
structure KTb (K : PySem.W.Frag) (w : World) (a : Addr) (tab : List (List Nat × List Nat)) : Prop where
  ex : ∃ es n, K.lookup a = some ⟨.type "dict", none, .dict es n, #[]⟩ ∧ DTab w.params es.toList tab ∧ (a == sysModules) = false
theorem DTab.lit {P : Params} : ∀ {es : List DictEntry} {tab : List (List Nat × List Nat)}, DTab P es tab → PySem.W.KeysLit P es
  | [], [], _ => trivial
  | e :: r, q :: s, ⟨⟨t, t', h1, h2, h3⟩, h⟩ => ⟨⟨_, t, h1, h2⟩, DTab.lit h⟩
theorem tx_beq (a b : List Nat) : (tx a == tx b) = decide (a = b) := by
  by_cases h : a = b
  · subst h; simp
  · rw [decide_eq_false h]
    exact beq_eq_false_iff_ne.mpr fun e => h (by unfold tx at e; injection e with e; simpa using e)
theorem DTab.find {P : Params} (z : List Nat) : ∀ {es : List DictEntry} {tab : List (List Nat × List Nat)}, DTab P es tab →
    (match lookT z tab with
      | some v => ∃ e t, es.find? (·.key.isStr (tx z)) = some e ∧ e.val = .str (tx v) t
      | none => es.find? (·.key.isStr (tx z)) = none ∧ es.any (·.refKey) = false)
  | [], [], _ => ⟨rfl, rfl⟩
  | e :: r, (k, v) :: s, ⟨⟨t, t', h1, h2, h3⟩, h⟩ => by
    have ih := DTab.find z h
    have hk : e.key.isStr (tx z) = decide (k = z) := by
      rw [h1]; show (tx k == tx z) = _; exact tx_beq k z
    unfold lookT
    by_cases hz : k = z
    · rw [if_pos hz]
      refine ⟨e, t', ?_, h3⟩
      rw [List.find?_cons, hk, decide_eq_true hz]
    · rw [if_neg hz]
      have hr : e.refKey = false := by unfold DictEntry.refKey; rw [h1]
      rw [decide_eq_false hz] at hk
      cases hl : lookT z s with
      | none =>
        rw [hl] at ih
        refine ⟨by rw [List.find?_cons, hk]; exact ih.1, by rw [List.any_cons, hr, ih.2]; rfl⟩
      | some v' =>
        rw [hl] at ih
        obtain ⟨e', t2, h5, h6⟩ := ih
        exact ⟨e', t2, by rw [List.find?_cons, hk]; exact h5, h6⟩
theorem KTb.ns {K : PySem.W.Frag} {w : World} {a : Addr} {tab : List (List Nat × List Nat)} (T : KTb K w a tab) (z : List Nat) :
    match lookT z tab with
    | some v => ∃ t, PySem.W.nsIn K a (tx z) = some (some (.str (tx v) t))
    | none => PySem.W.nsIn K a (tx z) = some none := by
  obtain ⟨es, n, hl, hd, _⟩ := T.ex
  have h := hd.find z
  unfold PySem.W.nsIn
  rw [hl]
  cases hq : lookT z tab with
  | none =>
    rw [hq] at h
    show (match es.toList.find? (·.key.isStr (tx z)) with
      | some e => some (some e.val)
      | none => if es.toList.any (·.refKey) then none else some none) = some none
    rw [h.1, h.2]; rfl
  | some v =>
    rw [hq] at h
    obtain ⟨e, t, h1, h2⟩ := h
    refine ⟨t, ?_⟩
    show (match es.toList.find? (·.key.isStr (tx z)) with
      | some e => some (some e.val)
      | none => if es.toList.any (·.refKey) then none else some none) = _
    rw [h1, ← h2]
theorem KTb.kd {K : PySem.W.Frag} {w : World} {a : Addr} {tab : List (List Nat × List Nat)} (T : KTb K w a tab) : ∃ es n, KDict K w a es n := by
  obtain ⟨es, n, hl, hd, hs⟩ := T.ex
  exact ⟨es, n, ⟨hl, hd.lit, hs⟩⟩
def dHasT (tab : List (List Nat × List Nat)) : D → Option D
  | .str z => some (.bl (lookT z tab).isSome)
  | _ => none
def dHasNT (tab : List (List Nat × List Nat)) : D → Option D
  | .str z => some (.bl (!(lookT z tab).isSome))
  | _ => none
def dGetT (tab : List (List Nat × List Nat)) : D → Option D
  | .str z => match lookT z tab with
    | some v => if okS v = true then some (.str v) else none
    | none => none
  | _ => none
theorem KTb.some {K : PySem.W.Frag} {w : World} {a : Addr} {tab : List (List Nat × List Nat)} (T : KTb K w a tab) (z : List Nat) : ∃ r : Option Value, PySem.W.nsIn K a (tx z) = some r ∧ r.isSome = (lookT z tab).isSome := by
  have h := T.ns z
  cases hq : lookT z tab with
  | none => rw [hq] at h; exact ⟨none, h, rfl⟩
  | some v => rw [hq] at h; obtain ⟨t, h⟩ := h; exact ⟨_, h, rfl⟩
section
variable {X : Cx} {B : Hp} {W : WX} {e : Expr} {x : Str} {p pos : Pos} {a : Addr} {tab : List (List Nat × List Nat)} {fa : Ev Opd}
end
end DL
namespace DL
open PySem PySem.Spec PyProof.Rows L2
def noOwn : Sl → Bool
  | .own _ => false
  | _ => true
def oneOwn : Nat → Sls → Bool
  | _, [] => true
  | 0, _ :: r => r.all noOwn
  | k + 1, s :: r => noOwn s && oneOwn k r
open Classical in
noncomputable def borF (i : Nat) (f : Ev Ow) : Ev Ow := fun S st => match S[i]? with
  | some (.own (.l ws)) => match f (S.set i (.d (.lst ws))) st with
    | .ok (.l ys) S1 st1 => if (ys.all flatD = true ∧ S1 = S.set i (.d (.lst ws))) ∧ oneOwn i S = true ∧ st1 = [] then .ok (.l ys) S st1 else .stuck
    | _ => .stuck
  | _ => .stuck
section
variable {X : Cx} {B : Hp} {W : WX} {e : Expr}
end
end DL
namespace DL
open PySem PySem.Spec PyProof.Rows L2
def dLower : D → Option D
  | .str a => if a.length ≤ 5592405 ∧ a.all (· < 128) = true then some (.str (a.map PyProof.Rows.lo1)) else none
  | _ => none
def dUpper : D → Option D
  | .str a => if a.length ≤ 5592405 ∧ a.all (· < 128) = true then some (.str (a.map PyProof.Rows.up1)) else none
  | _ => none
def dSIndex : D → List D → Option D
  | .str a, [.str b] => match Builtin.Str.occurrences (tx a) (tx b) 0 (tx a).length 1 with
    | i :: _ => some (.int (i : Nat))
    | [] => none
  | _, _ => none
@[simp] theorem dLower_a (a : List Nat) (h : a.length ≤ 5592405) (h2 : a.all (· < 128) = true) : dLower (.str a) = some (.str (a.map PyProof.Rows.lo1)) := if_pos ⟨h, h2⟩
@[simp] theorem dUpper_a (a : List Nat) (h : a.length ≤ 5592405) (h2 : a.all (· < 128) = true) : dUpper (.str a) = some (.str (a.map PyProof.Rows.up1)) := if_pos ⟨h, h2⟩
end DL
namespace DL
open PySem PySem.Spec PyProof.Rows L2
theorem RpF.look {G : Gx} {F : Fz} : ∀ {fs : List (Str × V)} {es : List (Nat × D)} {k : Nat} {d : D}, RpF G F fs es → okN k → es.lookup k = some d → ∃ v, fs.lookup (nmS k) = some v ∧ Rp G F v d
  | _, _, _, _, .nil, _, e => by cases e
  | _, _, k, d, .cons (k := k') o h t, ok, e => by
    rw [List.lookup_cons] at e ⊢
    by_cases hk : k = k'
    · subst hk
      rw [beq_self_eq_true] at e ⊢
      cases e
      exact ⟨_, rfl, h⟩
    · rw [beq_false_of_ne hk] at e
      rw [beq_false_of_ne fun z => hk (nmS_inj ok o z)]
      exact RpF.look t ok e
theorem RpF.miss {G : Gx} {F : Fz} : ∀ {fs : List (Str × V)} {es : List (Nat × D)} {k : Nat}, RpF G F fs es → okN k → es.lookup k = none → fs.lookup (nmS k) = none
  | _, _, _, .nil, _, _ => rfl
  | _, _, k, .cons (k := k') o h t, ok, e => by
    rw [List.lookup_cons] at e ⊢
    by_cases hk : k = k'
    · subst hk
      rw [beq_self_eq_true] at e
      cases e
    · rw [beq_false_of_ne hk] at e
      rw [beq_false_of_ne fun z => hk (nmS_inj ok o z)]
      exact RpF.miss t ok e
theorem RpF.zip {G : Gx} {F : Fz} : ∀ {vs : List V} {ds : List D} (ks : List Nat), (∀ k ∈ ks, okN k) → RpAll G F vs ds → RpF G F ((ks.map nmS).zip vs) (ks.zip ds)
  | _, _, [], _, _ => by simp; exact .nil
  | _, _, _ :: _, _, .nil => by simp; exact .nil
  | _, _, k :: ks, o, .cons h t => by
    simp only [List.map_cons, List.zip_cons_cons]
    exact .cons (o k (List.mem_cons_self ..)) h (RpF.zip ks (fun x m => o x (List.mem_cons_of_mem _ m)) t)
def dFld (cs : List Nat) (k : Nat) : D → Option D
  | .obj c es => if c ∈ cs then es.lookup k else none
  | _ => none
def ClsF (K : PySem.W.Frag) (mg : Str → Option Value) (cs : List Nat) (f : Str) : Prop := ∀ c ∈ cs, ∀ C, mg (nmS c) = some (.ref C) → Cls K C ∧ NoAttr K C f
theorem ClsF.nil {K : PySem.W.Frag} {mg : Str → Option Value} {f : Str} : ClsF K mg [] f := fun _ h => by cases h
theorem ClsF.cons {K : PySem.W.Frag} {mg : Str → Option Value} {f : Str} {c : Nat} {cs : List Nat} {C : Addr} (h : mg (nmS c) = some (.ref C)) (h1 : Cls K C) (h2 : NoAttr K C f) (t : ClsF K mg cs f) : ClsF K mg (c :: cs) f := fun x hx C' hC => by
  rcases List.mem_cons.mp hx with z | z
  · subst z
    rw [h] at hC; cases hC
    exact ⟨h1, h2⟩
  · exact t x z C' hC
section
variable {X : Cx} {B : Hp} {W : WX} {e a b c : Expr} {es : List Expr} {pos : Pos}
theorem Vw.inst {G : Gx} {F : Fz} {H : Hp} {v : V} {c : Nat} {es : List (Nat × D)} (h : Vw G F H v (.obj c es)) (f : Same F.f H) : ∃ p C dx fs, v = .ref p ∧ H p = some (.ins C dx fs) ∧ G.mg (nmS c) = some (.ref C) ∧ RpF G F fs es := by
  rcases h with h | ⟨p, u, w, rfl, hp, ow, e⟩ | ⟨p, c', fs', rfl, ho, e⟩
  · cases h with
    | obj h1 h2 h3 h4 => exact ⟨_, _, _, _, rfl, f _ _ h1, h3, h4⟩
  · cases w <;> cases e
  · cases e
    obtain ⟨C, dx, vs, h1, h2, h3, h4⟩ := ho
    exact ⟨_, _, _, _, rfl, h1, h3, h4⟩
theorem de_fld {f : Str} {fa : Ev Opd} (cs : List Nat) (k : Nat) (hk : nmS k = f) (ok : okN k) (ht : ClsF X.K X.mg cs f) (ho : DO X B W a fa) (hb : attributeBase a f X.env (eval a X.env) = eval a X.env := by rfl) : DE X B W (.Attribute a f pos) (o1E (dFld cs k) fa) :=
  pe_imp (pe_fld ho hb) fun σ H Q ⟨F, S, st, o, q⟩ => ⟨F, S, st, o, (Post.bind (R := RO (Cx.g X) σ) q).mono fun v H1 ⟨F1, d, S1, st1, g1, o1, r1, p1⟩ => by
    split at p1
    · rename_i x hx
      obtain ⟨z, hz, p2⟩ := got_ok p1
      unfold dFld at hz
      split at hz
      · rename_i c es
        split at hz
        · rename_i hc
          obtain ⟨pi, C, dx, fs, rfl, h1, h3, h4⟩ := (o1.vw r1 hx).inst o1.fH
          obtain ⟨u, hu, ru⟩ := h4.look ok hz
          obtain ⟨t1, t2⟩ := ht c hc _ h3
          rw [hk] at hu
          exact ⟨_, _, _, _, _, rfl, h1, t1, t2, hu, p2 _ H1 F1 .refl o1 ru⟩
        · cases hz
      · cases hz
    · exact p1.elim⟩
def tMethX (X : Cx) (m : Str) (W : WX) (ta : TE) (t : TA) : TE := fun σ H Q => ta σ H fun x H1 => ∃ (a C dx : Addr) (fs : List (Str × V)) (f : Addr) (fd : FuncData) (ps : List Str) (k : Nat) (sp : Sp), x = .ref a ∧ H1 a = some (.ins C dx fs) ∧ fs.lookup m = none ∧
  Cls X.K C ∧ Meth X.K C m f ∧ FnOk X.prog X.w X.K X.mg X.base (L2.CX X.prog X.w) k f fd ps sp ∧ Room k X.A ∧ Binds X.K fd ps [] ∧ t σ H1 fun vs H2 => sp (.ref a :: vs) H2 Q (WE W σ)
theorem pe_methX {m : Str} {apos : Pos} {ta : TE} {t : TA} {pl : Sem Bool} (tk : Takes X W) (he : PE X a ta) (ha : PA X (e :: es) t)
    (hst : starEach (e :: es) X.env = (false, eval e X.env) :: starEach es X.env := by rfl) (hpl : (backTo pos (starEach es X.env)).any (·.1) = false := by rfl)
    (ht : eval (.Call (.Attribute a m apos) (e :: es) [] pos) X.env = (do
      let ov ← eval a X.env
      standAt apos.atName
      let (f, first) ← holding [ov] (getMethod ov m pl)
      callWith pos f first (backTo pos (starEach (e :: es) X.env)) (backToKw pos (keywordEach [] X.env))) := by rfl) :
    PE X (.Call (.Attribute a m apos) (e :: es) [] pos) (tMethX X m W ta t) := by
  refine ⟨fun pins s σ H Q I h => ?_⟩
  refine PySem.W.methodCall_KW (pl := pl) (thn (he.run pins s σ H _ I h) fun u s1 ⟨x, H1, I1, rx, ad, C, dx, fs, f, fd, ps, k, sp, ex, ea, l, cl, hm, F, hr, hb, q⟩ => ?_) ht
  subst ex
  obtain rfl : u = Value.ref ad := rx
  refine getmeth_ok I1 ea cl hm l ?_
  refine PySem.W.callWith_K (first := [.ref ad]) (h₀ := X.base) I.ok.mod.kin hm.kp (thn (ha.run pos pins s1 σ H1 _ I1 q) fun us s2 ⟨vs, H2, I2, r, q2⟩ => ⟨I2.kIn, ?_⟩) hst hpl
  exact run_fnS (us := .ref ad :: us) (vs := .ref ad :: vs) (E := WE W) F hr hb (passAt tk σ) I2 (.cons rfl r) q2
theorem pe_methX0 {m : Str} {apos : Pos} {ta : TE} {pl : Sem Bool} (tk : Takes X W) (he : PE X a ta)
    (ht : eval (.Call (.Attribute a m apos) [] [] pos) X.env = (do
      let ov ← eval a X.env
      standAt apos.atName
      let (f, first) ← holding [ov] (getMethod ov m pl)
      callWith pos f first (backTo pos (starEach [] X.env)) (backToKw pos (keywordEach [] X.env))) := by rfl) :
    PE X (.Call (.Attribute a m apos) [] [] pos) (tMethX X m W ta tNil) := by
  refine ⟨fun pins s σ H Q I h => ?_⟩
  refine PySem.W.methodCall_KW (pl := pl) (thn (he.run pins s σ H _ I h) fun u s1 ⟨x, H1, I1, rx, ad, C, dx, fs, f, fd, ps, k, sp, ex, ea, l, cl, hm, F, hr, hb, q⟩ => ?_) ht
  subst ex
  obtain rfl : u = Value.ref ad := rx
  refine getmeth_ok I1 ea cl hm l ?_
  exact PySem.W.callWith_K0 (first := [.ref ad]) I1.kIn hm.kp (run_fnS (us := [.ref ad]) (vs := [.ref ad]) (E := WE W) F hr hb (passAt tk σ) I1 (.cons rfl .nil) q)
structure MDef (P : Program) (w : World) (K : PySem.W.Frag) (mg : Str → Option Value) (base : Heap) (k : Nat) (m : Str) (n : Nat) (cs : List Nat) (tab : Nat → CallT) : Prop where
  ex : ∀ c ∈ cs, ∀ C, mg (nmS c) = some (.ref C) → ∃ f fd ps, Cls K C ∧ Meth K C m f ∧ FnOk P w K mg base (L2.CX P w) k f fd ps (spOf ⟨K, mg, w⟩ n (tab c)) ∧ Binds K fd ps []
theorem MDef.mono {P : Program} {w : World} {K : PySem.W.Frag} {mg : Str → Option Value} {base : Heap} {k j : Nat} {m : Str} {n : Nat} {cs : List Nat} {tab : Nat → CallT} (d : MDef P w K mg base k m n cs tab) (h : k ≤ j) : MDef P w K mg base j m n cs tab :=
  ⟨fun c hc C hC => by
    obtain ⟨f, fd, ps, a1, a2, a3, a4⟩ := d.ex c hc C hC
    exact ⟨f, fd, ps, a1, a2, a3.mono h, a4⟩⟩
theorem MDef.nil {P : Program} {w : World} {K : PySem.W.Frag} {mg : Str → Option Value} {base : Heap} {k : Nat} {m : Str} {n : Nat} {tab : Nat → CallT} : MDef P w K mg base k m n [] tab := ⟨fun _ h => by cases h⟩
theorem MDef.cons {P : Program} {w : World} {K : PySem.W.Frag} {mg : Str → Option Value} {base : Heap} {k : Nat} {m : Str} {n : Nat} {tab : Nat → CallT} {c : Nat} {cs : List Nat} {C f : Addr} {fd : FuncData} {ps : List Str} (h : mg (nmS c) = some (.ref C)) (h1 : Cls K C) (h2 : Meth K C m f)
    (h3 : FnOk P w K mg base (L2.CX P w) k f fd ps (spOf ⟨K, mg, w⟩ n (tab c))) (h4 : Binds K fd ps []) (t : MDef P w K mg base k m n cs tab) : MDef P w K mg base k m n (c :: cs) tab := ⟨fun x hx C' hC => by
  rcases List.mem_cons.mp hx with z | z
  · subst z
    rw [h] at hC; cases hC
    exact ⟨f, fd, ps, h1, h2, h3, h4⟩
  · exact t.ex x z C' hC⟩
def mcE (cs : List Nat) (mk : Nat) (tab : Nat → CallT) (fo : Ev D) (fa : Ev (List Opd)) : Ev D := fun S st => (fo S st).bind fun o S st => match o with
  | .obj c es => if c ∈ cs ∧ es.lookup mk = none then (fa S st).bind fun a S st => match vds S a with
      | some ds => match tab c (.obj c es :: ds) st with
        | .ok d _ st => .ok d S st
        | .exc x _ st => .exc x S st
        | .stuck => .stuck
      | none => .stuck
    else .stuck
  | _ => .stuck
theorem rpO_len {G : Gx} {σ : L2.St} {F : Fz} {vs : List V} {as : List Opd} (h : RpO G σ F vs as) : vs.length = as.length := by
  induction h with
  | nil => rfl
  | cons _ _ ih => simp [ih]
end
def spInit (C : Addr) (ks : List Nat) : Sp := fun vs H Q _ => ∃ (p dx : Addr) (args : List V), vs = .ref p :: args ∧ args.length = ks.length ∧ H p = some (.ins C dx []) ∧ Q .non (upd H p (.ins C dx ((ks.map nmS).zip args)))
structure IDef (P : Program) (w : World) (K : PySem.W.Frag) (mg : Str → Option Value) (base : Heap) (k : Nat) (x : Str) (c : Nat) (ks : List Nat) : Prop where
  ex : ∃ C f fd ps, mg x = some (.ref C) ∧ nmS c = x ∧ Mk K C f ∧ FnOk P w K mg base (L2.CX P w) k f fd ps (spInit C ks) ∧ Binds K fd ps [] ∧ ∀ k ∈ ks, okN k
def initT (K : PySem.W.Frag) : List Str → Nat → TS
  | [], _ => tNext
  | f :: r, i => tSeq (sFld K (tVar 0) (tVar i) f) (initT K r (i + 1))
section
variable {P : Program} {w : World} {K : PySem.W.Frag} {mg : Str → Option Value} {base : Heap}
end
def newE (c : Nat) (ks : List Nat) (fa : Ev (List Opd)) : Ev D := fun S st => (fa S st).bind fun a S st => match vds S a with
  | some ds => if ds.length = ks.length then .ok (.obj c (ks.zip ds)) S st else .stuck
  | none => .stuck
section
variable {X : Cx} {B : Hp} {W : WX} {e a b c : Expr} {es : List Expr} {pos p : Pos}
end
section
variable {S : Sls} {st : Store}
@[simp] theorem newE_a (c : Nat) (ks : List Nat) (fa : Ev (List Opd)) : newE c ks fa S st = (fa S st).bind fun a S st => match vds S a with
  | some ds => if ds.length = ks.length then .ok (.obj c (ks.zip ds)) S st else .stuck
  | none => .stuck := rfl
@[simp] theorem mcE_a (cs : List Nat) (mk : Nat) (tab : Nat → CallT) (fo : Ev D) (fa : Ev (List Opd)) : mcE cs mk tab fo fa S st = (fo S st).bind fun o S st => match o with
  | .obj c es => if c ∈ cs ∧ es.lookup mk = none then (fa S st).bind fun a S st => match vds S a with
      | some ds => match tab c (.obj c es :: ds) st with
        | .ok d _ st => .ok d S st
        | .exc x _ st => .exc x S st
        | .stuck => .stuck
      | none => .stuck
    else .stuck
  | _ => .stuck := rfl
@[simp] theorem dFld_a (cs : List Nat) (k c : Nat) (es : List (Nat × D)) : dFld cs k (.obj c es) = if c ∈ cs then es.lookup k else none := rfl
end
@[simp] theorem lk_n (k : Nat) : List.lookup k ([] : List (Nat × D)) = none := rfl
@[simp] theorem lk_c (k k' : Nat) (d : D) (r : List (Nat × D)) : List.lookup k ((k', d) :: r) = if k = k' then some d else List.lookup k r := by
  rw [List.lookup_cons]
  by_cases h : k = k'
  · subst h; simp
  · rw [beq_false_of_ne h, if_neg h]
theorem fn_stuck {P : Program} {w : World} {K : PySem.W.Frag} {mg : Str → Option Value} {base : Heap} {x qual : Str} {st : Stmt} {f : Addr} {fd : FuncData} {N ps : List Str} {k : Nat} (F : Fun K x qual st f fd) (S : FnScope N ps (defScope st)) : FnOk P w K mg base (L2.CX P w) (k + 1) f fd ps (spOf ⟨K, mg, w⟩ ps.length cStuck) :=
  F.okX S (fun vs H Q E h => h.1) (fun cdv A outer s H vs Q E hr h => by
    obtain ⟨_, _, _, _, _, _, _, q⟩ := h
    exact q.elim)
end DL
namespace DL
open PySem PySem.Spec PyProof.Rows L2
def mxD (ns : List Int) (d : Int) : Int := match ns with
  | [] => d
  | n :: r => r.foldl max n
def rMaxDf (K : PySem.W.Frag) : List V → List V → Hp → VK → Prop := fun vs zs H Q => ∃ (a : Addr) (ns : List Int) (d : Int), vs = [.ref a] ∧ zs = [.int d] ∧ SqL K H a (ns.map V.int) ∧ Q (.int (mxD ns d)) H
section
variable {X : Cx} {B : Hp} {W : WX} {e f : Expr} {pos p kpos : Pos}
def dMaxD : List D → D → Option D
  | [.lst ds], .int d => (intsD ds).map fun ns => .int (mxD ns d)
  | _, _ => none
def oKE (op : List D → D → Option D) (fa : Ev (List Opd)) (fd : Ev D) : Ev D := fun S st => (fa S st).bind fun a S st => (fd S st).bind fun d S st =>
  match vws S st a with
  | some x => got (op x d) S st
  | _ => .stuck
@[simp] theorem oKE_a (op : List D → D → Option D) (fa : Ev (List Opd)) (fd : Ev D) (S : Sls) (st : Store) : oKE op fa fd S st = (fa S st).bind fun a S st => (fd S st).bind fun d S st =>
  match vws S st a with
  | some x => got (op x d) S st
  | _ => .stuck := rfl
end
end DL
namespace DL
open PySem PySem.Spec PyProof.Rows L2
section
variable {X : Cx} {B : Hp} {W : WX} {e a b c : Expr} {es : List Expr} {pos p : Pos}
def oZ (i : Nat) : Ev Ow := fun S st => match S[i]? with
  | some (.own w) => .ok w (S.set i .no) st
  | _ => .stuck
def sRO (f : Ev Ow) : EvS := fun S st => (f S st).out fun w S st => .rto w S st
end
abbrev CallO := List Sl → Store → Res Ow
def runBO (N : Nat) (b : EvS) : CallO := fun ss st => match b (ss ++ List.replicate (N - ss.length) .no) st with
  | .rto w _ st => .ok w [] st
  | .exc x _ st => .exc x [] st
  | _ => .stuck
def spOwn (G : Gx) (n : Nat) (c : CallO) : Sp := fun vs H Q E => vs.length = n ∧ ∃ (B : Hp) (F : Fz) (S0 : List Sl) (st : Store), S0.length = n ∧ (∀ N : List Str, n ≤ N.length → Ok G B F (L2.start N vs) H (S0 ++ List.replicate (N.length - S0.length) .no) st) ∧ match c S0 st with
  | .ok w _ st' => ∀ p u H' F', Gr B F F' → Same B H' → Same F'.f H' → StOk G B F' H' st' → H' p = some u → F' p = none → B p = none → OwRel G F' u w → p ∉ F'.m → Q (.ref p) H'
  | .exc x _ st' => ∀ cls dd H' F', Gr B F F' → Same B H' → Same F'.f H' → StOk G B F' H' st' → XRel G F' x cls dd H' → E cls dd H'
  | .stuck => False
structure DefO (P : Program) (w : World) (K : PySem.W.Frag) (mg : Str → Option Value) (base : Heap) (k : Nat) (x : Str) (n : Nat) (c : CallO) : Prop where
  ex : ∃ f fd ps, FnOk P w K mg base (L2.CX P w) k f fd ps (spOwn ⟨K, mg, w⟩ n c) ∧ Binds K fd ps [] ∧ mg x = some (.ref f) ∧ PySem.W.keepIn K (.ref f) = true
theorem DefO.mono {P : Program} {w : World} {K : PySem.W.Frag} {mg : Str → Option Value} {base : Heap} {k j : Nat} {x : Str} {n : Nat} {c : CallO} (d : DefO P w K mg base k x n c) (h : k ≤ j) : DefO P w K mg base j x n c := by
  obtain ⟨f, fd, ps, a, b, c, e⟩ := d.ex
  exact ⟨f, fd, ps, a.mono h, b, c, e⟩
section
variable {P : Program} {w : World} {K : PySem.W.Frag} {mg : Str → Option Value} {base : Heap}
end
def coE (c : CallO) (fa : Ev (List Opd)) : Ev Ow := fun S st => (fa S st).bind fun a S st => match vds S a with
  | some ds => match c (ds.map .d) st with
    | .ok w _ st => .ok w S st
    | .exc x _ st => .exc x S st
    | .stuck => .stuck
  | none => .stuck
def coF (c : CallO) (j : Nat) (fa : Ev (List Opd)) : Ev Ow := fun S st => match S[j]? with
  | some (.own _) => (fa S st).bind fun a S st => match vds S a, S[j]? with
    | some ds, some (.own w) => match c (.own w :: ds.map .d) st with
      | .ok w _ st => .ok w (S.set j .no) st
      | .exc x _ st => .exc x (S.set j .no) st
      | .stuck => .stuck
    | _, _ => .stuck
  | _ => .stuck
section
variable {X : Cx} {B : Hp} {W : WX} {e y : Expr} {es : List Expr} {pos p : Pos} {k : Nat} {x : Str} {n : Nat} {c : CallO}
end
end DL
namespace DL
open PySem PySem.Spec PyProof.Rows L2
section
variable {S : Sls} {st : Store}
@[simp] theorem oZ_a (i : Nat) : oZ i S st = match S[i]? with | some (.own w) => .ok w (S.set i .no) st | _ => .stuck := rfl
@[simp] theorem sRO_a (f : Ev Ow) : sRO f S st = (f S st).out fun w S st => .rto w S st := rfl
@[simp] theorem coE_a (c : CallO) (fa : Ev (List Opd)) : coE c fa S st = (fa S st).bind fun a S st => match vds S a with
  | some ds => match c (ds.map .d) st with
    | .ok w _ st => .ok w S st
    | .exc x _ st => .exc x S st
    | .stuck => .stuck
  | none => .stuck := rfl
@[simp] theorem coF_a (c : CallO) (j : Nat) (fa : Ev (List Opd)) : coF c j fa S st = match S[j]? with
  | some (.own _) => (fa S st).bind fun a S st => match vds S a, S[j]? with
    | some ds, some (.own w) => match c (.own w :: ds.map .d) st with
      | .ok w _ st => .ok w (S.set j .no) st
      | .exc x _ st => .exc x (S.set j .no) st
      | .stuck => .stuck
    | _, _ => .stuck
  | _ => .stuck := rfl
end
end DL
namespace DL
open PySem PySem.Spec PyProof.Rows L2
def noSet (w : World) : Obj := { cls := .type "set", dict := none, data := .set #[] 0 (.fresh 0 0 (!w.params.followText "set-order")) }
def withSet (w : World) (s : Shared) : Shared := { s with heap := s.heap.push (noSet w) }
section
variable {P : Program} {w : World} {A : Around} {E : Value → Shared → Prop} {s : Shared}
def onList (w : World) (s : Shared) (l : Addr) : Shared := { withSet w s with heap := (withSet w s).heap.push { cls := .type "list_iterator", data := .fields #[.ref l, .int 0 0] } }
def few (xs : List Str) : Nat → Nat
  | 0 => 0
  | i + 1 => if xs.getD i Str.empty ∈ xs.take i then few xs i else few xs i + 1
end
end DL
namespace DL
open PySem PySem.Spec PyProof.Rows L2
def ins (x : Int) : List Int → List Int
  | [] => [x]
  | y :: r => if x < y then x :: y :: r else if x = y then y :: r else y :: ins x r
def srt : List Int → List Int
  | [] => []
  | x :: r => ins x (srt r)
def tSrtSet (K : PySem.W.Frag) (te : TE) : TE := fun σ H Q => te σ H fun v H1 => ∃ (a : Addr) (ns : List Int), v = .ref a ∧ SqL K H1 a (ns.map V.int) ∧ ns.length < 1000 ∧ (srt ns).length < 64 ∧ ∀ q, H1 q = none → Q (.ref q) (upd H1 q (.lst ((srt ns).map V.int)))
section
variable {X : Cx} {B : Hp} {W : WX}
def oSrt (fa : Ev Opd) : Ev Ow := fun S st => (fa S st).bind fun a S st => match vw S st a with
  | some x => match asL x with
    | some ds => match intsD ds with
      | some ns => if ns.length < 1000 ∧ (srt ns).length < 64 then .ok (.l ((srt ns).map .int)) S st else .stuck
      | none => .stuck
    | none => .stuck
  | _ => .stuck
@[simp] theorem oSrt_a (fa : Ev Opd) (S : Sls) (st : Store) : oSrt fa S st = (fa S st).bind fun a S st => match vw S st a with
  | some x => match asL x with
    | some ds => match intsD ds with
      | some ns => if ns.length < 1000 ∧ (srt ns).length < 64 then .ok (.l ((srt ns).map .int)) S st else .stuck
      | none => .stuck
    | none => .stuck
  | _ => .stuck := rfl
end
def tLenSetS (K : PySem.W.Frag) (te : TE) : TE := fun σ H Q => te σ H fun v H1 => ∃ (a : Addr) (ys : List Str), v = .ref a ∧ SqL K H1 a (ys.map V.str) ∧ ys.length < 1000 ∧ Q (.int (few ys ys.length : Nat)) H1
section
variable {X : Cx} {B : Hp} {W : WX}
def dLenSet : D → Option D := fun x => match asL x with
  | some ds => match strsD ds with
    | some ss => if ss.length < 1000 then some (.int (few (ss.map tx) ss.length : Nat)) else none
    | none => none
  | none => none
end
def dDm : List D → Option D
  | [.int i, .int j] => if 0 < j ∧ j.natAbs.log2 < 9000 then some (.tup [.int (i / j), .int (i % j)]) else none
  | _ => none
@[simp] theorem dDm_a (i j : Int) (h0 : 0 < j) (h1 : j ≤ 10 ^ 200) : dDm [.int i, .int j] = some (.tup [.int (i / j), .int (i % j)]) := by
  have h2 : j.natAbs.log2 < 9000 := by
    have h3 : j.natAbs < 2 ^ 9000 := Nat.lt_of_le_of_lt (show j.natAbs ≤ 10 ^ 200 by omega) (by decide +kernel)
    exact (Nat.log2_lt (by omega)).mpr h3
  simp [dDm, h0, h2]
def dBits : D → Option D
  | .int i => some (.int (Builtin.Int.intBits i : Nat))
  | _ => none
section
variable {X : Cx} {B : Hp} {W : WX} {o : Expr} {pos apos : Pos}
end
def dAddI := dI0 fun i j => i + j
@[simp] theorem dAddI_a (i j : Int) : dAddI (.int i) (.int j) = some (.int (i + j)) := rfl
end DL
namespace DL
open PySem PySem.Spec PyProof.Rows L2
def LawOk (c : CallT) : Prop := ∀ ns : List Int, ns.length ≤ 63 → (∀ z ∈ ns, z.natAbs.log2 < 1048576) → ∃ st, c [.scr ns] [] = .ok (.bl true) [] st
def spLaw (K : PySem.W.Frag) : Sp := fun vs H Q _ => ∃ (a : Addr) (ns : List Int), vs = [.ref a] ∧ SqL K H a (ns.map V.int) ∧ ns.length ≤ 63 ∧ (∀ z ∈ ns, Builtin.Int.intBits z ≤ 1048576) ∧ ∀ H', Q (.bl true) H'
theorem law_imp {P : Program} {w : World} {K : PySem.W.Frag} {mg : Str → Option Value} {base : Heap} {CX : CXT} {k : Nat} {f : Addr} {fd : FuncData} {ps : List Str} {c : CallT} (h : LawOk c) (F : FnOk P w K mg base CX k f fd ps (spOf ⟨K, mg, w⟩ 1 c)) :
    FnOk P w K mg base CX k f fd ps (spLaw K) := F.imp fun vs H Q E ⟨a, ns, e, hS, hl, hb, q⟩ => by
  subst e
  obtain ⟨st, e⟩ := h ns hl fun z hz => by
    have := hb z hz
    by_cases h0 : z = 0
    · subst h0; decide
    · unfold Builtin.Int.intBits at this
      simp [h0] at this
      omega
  refine ⟨rfl, ⟨H, []⟩, [.scr ns], [], Same.refl H, ⟨rfl, List.nodup_nil, fun n x a e1 e2 => by simp at e1⟩, .one (.scr hS), ?_⟩
  rw [e]
  intro v H' F' _ _ _ _ r
  cases r
  exact q H'
end DL
namespace DL
open PySem PySem.Spec PyProof.Rows L2
def rgG (a n : Int) : Ev (List D) := fun S st => if (-1000000 ≤ a ∧ a ≤ 1000000) ∧ -1000000 ≤ n ∧ n ≤ 1000000 then .ok (rng (n - a).toNat a) S st else .stuck
@[simp] theorem rgG_ok (a n : Int) (S : Sls) (st : Store) (h0 : -1000000 ≤ a) (h1 : a ≤ 1000000) (h2 : -1000000 ≤ n) (h3 : n ≤ 1000000) : rgG a n S st = .ok (rng (n - a).toNat a) S st := if_pos ⟨⟨h0, h1⟩, h2, h3⟩
section
variable {S : Sls} {st : Store}
@[simp] theorem kE_a (d : D) : kE d S st = .ok d S st := rfl
@[simp] theorem vE_a (i : Nat) : vE i S st = match S[i]? with | some (.d d) => .ok d S st | _ => .stuck := rfl
@[simp] theorem zE_a (i : Nat) : zE i S st = match S[i]? with | some (.d d) => .ok d S st | some (.own w) => .ok w.d (S.set i (.d w.d)) st | _ => .stuck := rfl
@[simp] theorem oV_a (f : Ev D) : oV f S st = (f S st).bind fun d S st => .ok (.v d) S st := rfl
@[simp] theorem oS_a (i : Nat) : oS i S st = match S[i]? with | some .no => .stuck | none => .stuck | _ => .ok (.s i) S st := rfl
@[simp] theorem aN_a : aN S st = .ok [] S st := rfl
@[simp] theorem aC_a (f : Ev Opd) (g : Ev (List Opd)) : aC f g S st = (f S st).bind fun a S st => (g S st).bind fun r S st => .ok (a :: r) S st := rfl
@[simp] theorem vw_v (d : D) : vw S st (.v d) = some d := rfl
@[simp] theorem vd_v (d : D) : vd S (.v d) = some d := rfl
@[simp] theorem vd_h (n : Nat) : vd S (.h n) = some (.loc n) := rfl
@[simp] theorem vw_h (n : Nat) : vw S st (.h n) = match st[n]? with | some (.t _) => none | some (.z _) => none | some x => some x.d | none => none := rfl
@[simp] theorem Ob_o (w : Ow) : (Ob.o w).d = w.d := rfl
@[simp] theorem Ob_i (c : Nat) (fs : List (Nat × D)) : (Ob.i c fs).d = .obj c fs := rfl
@[simp] theorem vw_s (i : Nat) : vw S st (.s i) = match S[i]? with | some (.d d) => some d | some (.own w) => some w.d | _ => none := rfl
@[simp] theorem vd_s (i : Nat) : vd S (.s i) = match S[i]? with | some (.d d) => some d | _ => none := rfl
@[simp] theorem vws_n : vws S st [] = some [] := rfl
@[simp] theorem vws_c (o : Opd) (r : List Opd) : vws S st (o :: r) = match vw S st o, vws S st r with | some d, some ds => some (d :: ds) | _, _ => none := rfl
@[simp] theorem vds_n : vds S [] = some [] := rfl
@[simp] theorem vds_c (o : Opd) (r : List Opd) : vds S (o :: r) = match vd S o, vds S r with | some d, some ds => some (d :: ds) | _, _ => none := rfl
@[simp] theorem Ow_l (ds : List D) : (Ow.l ds).d = .lst ds := rfl
@[simp] theorem Ow_k (ds : List (D × D)) : (Ow.k ds).d = .dic ds := rfl
@[simp] theorem o2E_a (op : D → D → Option D) (fa fb : Ev Opd) : o2E op fa fb S st = (fa S st).bind fun a S st => (fb S st).bind fun b S st => match vw S st a, vw S st b with | some x, some y => got (op x y) S st | _, _ => .stuck := rfl
@[simp] theorem o1E_a (op : D → Option D) (fa : Ev Opd) : o1E op fa S st = (fa S st).bind fun a S st => match vw S st a with | some x => got (op x) S st | _ => .stuck := rfl
@[simp] theorem oAE_a (op : List D → Option D) (fa : Ev (List Opd)) : oAE op fa S st = (fa S st).bind fun a S st => match vws S st a with | some x => got (op x) S st | _ => .stuck := rfl
@[simp] theorem oAF_a (op : List D → Option Ow) (fa : Ev (List Opd)) : oAF op fa S st = (fa S st).bind fun a S st => match vws S st a with | some x => got (op x) S st | _ => .stuck := rfl
@[simp] theorem o2F_a (op : D → D → Option Ow) (fa fb : Ev Opd) : o2F op fa fb S st = (fa S st).bind fun a S st => (fb S st).bind fun b S st => match vw S st a, vw S st b with | some x, some y => got (op x y) S st | _, _ => .stuck := rfl
@[simp] theorem mE_a (T : String) (op : D → List D → Option D) (fo : Ev Opd) (fa : Ev (List Opd)) : mE T op fo fa S st = (fo S st).bind fun o S st => match vw S st o with
  | some y => if tyD T y = true then (fa S st).bind fun a S st => match vw S st o, vws S st a with | some y, some x => got (op y x) S st | _, _ => .stuck else .stuck
  | _ => .stuck := rfl
@[simp] theorem m0E_a (T : String) (op : D → Option D) (fo : Ev Opd) : m0E T op fo S st = (fo S st).bind fun o S st => match vw S st o with | some y => if tyD T y = true then got (op y) S st else .stuck | _ => .stuck := rfl
@[simp] theorem fE_a (f : Ev Ow) : fE f S st = (f S st).bind fun w S st => .ok w.d S st := rfl
@[simp] theorem lF_a (fa : Ev (List Opd)) : lF fa S st = (fa S st).bind fun a S st => match vds S a with | some ds => if ds.length ≤ 16777216 then .ok (.l ds) S st else .stuck | none => .stuck := rfl
@[simp] theorem pE_a (fa : Ev (List Opd)) : pE fa S st = (fa S st).bind fun a S st => match vds S a with | some ds => if ds.length ≤ 16777216 then .ok (.tup ds) S st else .stuck | none => .stuck := rfl
@[simp] theorem sN_a : sN S st = .ok none S st := rfl
@[simp] theorem sS_a (f : Ev D) : sS f S st = (f S st).bind fun d S st => match d with | .int i => .ok (some i) S st | _ => .stuck := rfl
@[simp] theorem slE_a (op : D → Option Int → Option Int → Option D) (fa : Ev Opd) (fl fu : Ev (Option Int)) : slE op fa fl fu S st = (fa S st).bind fun a S st => (fl S st).bind fun l S st => (fu S st).bind fun u S st => match vw S st a with | some x => got (op x l u) S st | _ => .stuck := rfl
@[simp] theorem cE_a (c : CallT) (fa : Ev (List Opd)) : cE c fa S st = (fa S st).bind fun a S st => match vds S a with
  | some ds => match c ds st with | .ok d _ st => .ok d S st | .exc x _ st => .exc x S st | .stuck => .stuck
  | none => .stuck := rfl
@[simp] theorem tT_a (f : Ev Opd) : tT f S st = (f S st).bind fun o S st => match vw S st o with | some d => got (tru d) S st | none => .stuck := rfl
@[simp] theorem tN_a (f : Ev Bool) : tN f S st = (f S st).bind fun b S st => .ok (!b) S st := rfl
@[simp] theorem tA_a (f g : Ev Bool) : tA f g S st = (f S st).bind fun b S st => if b = true then g S st else .ok false S st := rfl
@[simp] theorem tO_a (f g : Ev Bool) : tO f g S st = (f S st).bind fun b S st => if b = true then .ok true S st else g S st := rfl
@[simp] theorem tV_a (f : Ev D) : tV f S st = (f S st).bind fun d S st => match d with | .bl k => .ok k S st | _ => .stuck := rfl
@[simp] theorem tY_a : tY S st = .ok true S st := rfl
@[simp] theorem eA_a (f g : Ev D) : eA f g S st = (f S st).bind fun d S st => match d with | .bl b => if b = true then g S st else .ok (.bl false) S st | _ => .stuck := rfl
@[simp] theorem eO_a (f g : Ev D) : eO f g S st = (f S st).bind fun d S st => match d with | .bl b => if b = true then .ok (.bl true) S st else g S st | _ => .stuck := rfl
@[simp] theorem eN_a (f : Ev D) : eN f S st = (f S st).bind fun d S st => match d with | .bl b => .ok (.bl (!b)) S st | _ => .stuck := rfl
@[simp] theorem eI_a (t : Ev Bool) (f g : Ev D) : eI t f g S st = (t S st).bind fun b S st => if b = true then f S st else g S st := rfl
@[simp] theorem sNil_a : sNil S st = .nx S st := rfl
@[simp] theorem sSeq_a (f g : EvS) : sSeq f g S st = (f S st).then g := rfl
@[simp] theorem sBk_a : sBk S st = .bk S st := rfl
@[simp] theorem sCt_a : sCt S st = .ct S st := rfl
@[simp] theorem sE_a (f : Ev D) : sE f S st = (f S st).out fun _ S st => .nx S st := rfl
@[simp] theorem sR_a (f : Ev D) : sR f S st = (f S st).out fun d S st => .ret d S st := rfl
@[simp] theorem sRN_a : sRN S st = .ret .non S st := rfl
@[simp] theorem sI_a (t : Ev Bool) (f g : EvS) : sI t f g S st = (t S st).out fun b S st => if b = true then f S st else g S st := rfl
@[simp] theorem sV_a (i : Nat) (f : Ev D) : sV i f S st = (f S st).out fun d S st => .nx (S.set i (.d d)) st := rfl
@[simp] theorem sO_a (i : Nat) (f : Ev Ow) : sO i f S st = (f S st).out fun w S st => .nx (S.set i (.own w)) st := rfl
@[simp] theorem gV_a (i : Nat) (d : D) : gV i d S = some (S.set i (.d d)) := rfl
@[simp] theorem gN_a : gN [] S = some S := rfl
@[simp] theorem gC_a (g : Tg) (gs : List D → Sls → Option Sls) (d : D) (r : List D) : gC g gs (d :: r) S = match g d S with | some S' => gs r S' | none => none := rfl
@[simp] theorem gT_a (n : Nat) (gs : List D → Sls → Option Sls) (ds : List D) : gT n gs (.tup ds) S = if ds.length = n then gs ds S else none := rfl
@[simp] theorem sG_a (g : Tg) (f : Ev D) : sG g f S st = (f S st).out fun d S st => match g d S with | some S' => .nx S' st | none => .stuck := rfl
@[simp] theorem sAug_a (i : Nat) (op : D → D → Option D) (f : Ev Opd) : sAug i op f S st = match S[i]? with
  | some (.d x) => (f S st).out fun y S st => match vw S st y with
    | some y => match op x y with
      | some z => .nx (S.set i (.d z)) st
      | none => .stuck
    | none => .stuck
  | _ => .stuck := rfl
@[simp] theorem sF_a (f : Ev (List D)) (g : Tg) (b : EvS) : sF f g b S st = (f S st).out fun ds S st => forL g b ds S st := rfl
@[simp] theorem iE_a (f : Ev D) : iE f S st = (f S st).bind fun d S st => got (itD d) S st := rfl
@[simp] theorem iR1_a (f : Ev (List Opd)) : iR1 f S st = (f S st).bind fun a S st => match vws S st a with
  | some [.int n] => rgG 0 n S st
  | _ => .stuck := by
  unfold iR1 rgG
  congr 1; funext a S st
  rcases vws S st a with _ | l
  · rfl
  · rcases l with _ | ⟨x, r⟩
    · rfl
    · cases x <;> cases r <;> simp
@[simp] theorem iR2_a (f : Ev (List Opd)) : iR2 f S st = (f S st).bind fun a S st => match vws S st a with
  | some [.int a, .int n] => rgG a n S st
  | _ => .stuck := rfl
@[simp] theorem iEn_a (f : Ev (List Opd)) : iEn f S st = (f S st).bind fun a S st => match vds S a with
  | some [d] => match asL d with | some ds => .ok (enumD ds) S st | none => .stuck
  | _ => .stuck := rfl
@[simp] theorem iZ_a (f : Ev (List Opd)) : iZ f S st = (f S st).bind fun a S st => match vds S a with
  | some [d, e] => match asL d, asL e with | some ds, some es => .ok (zipD ds es) S st | _, _ => .stuck
  | _ => .stuck := rfl
@[simp] theorem iV_a (f : Ev (List Opd)) : iV f S st = (f S st).bind fun a S st => match vds S a with
  | some [d] => match asL d with | some ds => .ok ds.reverse S st | none => .stuck
  | _ => .stuck := rfl
@[simp] theorem lcF_a (fi : Ev (List D)) (g : Tg) (own : List Nat) (t : Ev Bool) (f : Ev D) : lcF fi g own t f S st = (fi S st).bind fun ds S st =>
  (lcL g own t f ds (wipeS S own) st).bind fun ys S' st => if ys.length ≤ 16777216 then .ok (.l ys) (restS S own S') st else .stuck := rfl
@[simp] theorem restS_n (S0 : Sls) : restS S0 [] S = S := rfl
@[simp] theorem restS_c (S0 : Sls) (i : Nat) (r : List Nat) : restS S0 (i :: r) S = match S0[i]? with | some (.d x) => restS S0 r (S.set i (.d x)) | _ => restS S0 r S := rfl
@[simp] theorem wipeS_n : wipeS S [] = S := rfl
@[simp] theorem wipeS_c (v : Nat) (vs : List Nat) : wipeS S (v :: vs) = (wipeS S vs).set v .no := rfl
@[simp] theorem sAp_a (i : Nat) (f : Ev Opd) : sAp i f S st = match S[i]? with
  | some (.own (.l _)) => (f S st).out fun o S st => match vd S o, S[i]? with
    | some d, some (.own (.l ds)) => if ds.length < 16777216 then .nx (S.set i (.own (.l (ds ++ [d])))) st else .stuck
    | _, _ => .stuck
  | _ => .stuck := rfl
@[simp] theorem sEx_a (i : Nat) (f : Ev D) : sEx i f S st = match S[i]? with
  | some (.own (.l _)) => (f S st).out fun d S st => match d, S[i]? with
    | .lst es, some (.own (.l ds)) => if ds.length + es.length ≤ 16777216 then .nx (S.set i (.own (.l (ds ++ es)))) st else .stuck
    | _, _ => .stuck
  | _ => .stuck := rfl
@[simp] theorem sP_a (i j : Nat) (fa : Ev (List Opd)) : sP i j fa S st = (fa S st).out fun a S st => match vds S a with
  | some [x, y] => .nx ((S.set i (.d x)).set j (.d y)) st
  | _ => .stuck := rfl
theorem runB_a (N : Nat) (b : EvS) (ds : List D) : runB N b ds st = match b (ds.map Sl.d ++ List.replicate (N - ds.length) .no) st with
  | .nx _ st => .ok .non [] st
  | .ret d _ st => .ok d [] st
  | .exc x _ st => .exc x [] st
  | _ => .stuck := rfl
end
@[simp] theorem dI2_a (c : Int → Int → Bool) (g : Int → Int → Int) (i j : Int) : dI2 c g (.int i) (.int j) = if c i j = true then some (.int (g i j)) else none := rfl
@[simp] theorem dI0_a (g : Int → Int → Int) (i j : Int) : dI0 g (.int i) (.int j) = some (.int (g i j)) := rfl
@[simp] theorem dSub_a (i j : Int) : dSub (.int i) (.int j) = some (.int (i - j)) := rfl
theorem log2_lit {j : Int} (h0 : 0 < j) (h1 : j ≤ 10 ^ 200) : j.natAbs.log2 < 9000 := by
  have h2 : j.natAbs < 2 ^ 9000 := by
    have : j.natAbs ≤ 10 ^ 200 := by omega
    exact Nat.lt_of_le_of_lt this (by decide +kernel)
  exact (Nat.log2_lt (by omega)).mpr h2
@[simp] theorem dFdiv_a (i j : Int) (h0 : 0 < j) (h1 : j ≤ 10 ^ 200) : dFdiv (.int i) (.int j) = some (.int (i / j)) := by
  show dI2 _ _ _ _ = _
  simp [dI2, h0, log2_lit h0 h1]
@[simp] theorem dMod_a (i j : Int) (h0 : 0 < j) : dMod (.int i) (.int j) = some (.int (i % j)) := by
  show dI2 _ _ _ _ = _
  simp [dI2, h0]
@[simp] theorem dAdd_i (i j : Int) : dAdd (.int i) (.int j) = some (.int (i + j)) := rfl
@[simp] theorem dAdd_s (s t : List Nat) (h : s.length + t.length ≤ 16777216) : dAdd (.str s) (.str t) = some (.str (s ++ t)) := if_pos h
@[simp] theorem dAdd_l (s t : List D) (h : s.length + t.length ≤ 16777216) : dAdd (.lst s) (.lst t) = some (.lst (s ++ t)) := if_pos h
@[simp] theorem dAdd_t (s t : List D) (h : s.length + t.length ≤ 16777216) : dAdd (.tup s) (.tup t) = some (.tup (s ++ t)) := if_pos h
@[simp] theorem dMul_i (i j : Int) (h : mulC i j = true) : dMul (.int i) (.int j) = some (.int (i * j)) := if_pos h
def Sm (i : Int) : Prop := i.natAbs.log2 < 40000000
theorem mulC_of {i j : Int} (h : Sm i) (h' : Sm j) : mulC i j = true := decide_eq_true (by unfold Sm at h h'; omega)
theorem log2_lt {n k : Nat} (h : n < 2 ^ k) (hk : 0 < k) : n.log2 < k := by
  by_cases h0 : n = 0
  · subst h0; simpa using hk
  · exact (Nat.log2_lt h0).mpr h
theorem Sm.of {i : Int} (h : i.natAbs < 2 ^ 2000) : Sm i := by
  have := log2_lt h (by decide)
  unfold Sm; omega
theorem Sm.lit {i : Int} (h0 : -(10 ^ 200) ≤ i) (h1 : i ≤ 10 ^ 200) : Sm i := Sm.of (by
  have : i.natAbs ≤ 10 ^ 200 := by omega
  exact Nat.lt_of_le_of_lt this (by decide +kernel))
theorem Sm.small {i : Int} (h0 : -1000000000000 ≤ i) (h1 : i ≤ 1000000000000) : Sm i := .lit (by omega) (by omega)
@[simp] theorem dMul_s (s : List Nat) (k : Int) (h0 : 0 ≤ k) (h1 : k ≤ 1000000) (h2 : s.length * k.toNat ≤ 1000000) : dMul (.str s) (.int k) = some (.str (reps s k.toNat)) := by
  simp [dMul, h0, h1, h2]
@[simp] theorem dPow_a (i j : Int) (h : (decide (0 ≤ j) && decide (j ≤ 1000000) && decide (i.natAbs < 18446744073709551616)) = true) : dPow (.int i) (.int j) = some (.int (i ^ j.toNat)) := by
  rw [Bool.and_eq_true, Bool.and_eq_true] at h
  show dI2 _ _ _ _ = _
  simp only [dI2, h.1.1, h.1.2, h.2, Bool.and_self, Bool.true_or, if_true]
@[simp] theorem dLt_i (i j : Int) : dLt (.int i) (.int j) = some (.bl (decide (i < j))) := rfl
@[simp] theorem dLe_i (i j : Int) : dLe (.int i) (.int j) = some (.bl (decide (i ≤ j))) := rfl
@[simp] theorem dGt_i (i j : Int) : dGt (.int i) (.int j) = some (.bl (decide (j < i))) := rfl
@[simp] theorem dGe_i (i j : Int) : dGe (.int i) (.int j) = some (.bl (decide (j ≤ i))) := rfl
@[simp] theorem dLt_s (i j : List Nat) : dLt (.str i) (.str j) = some (.bl (decide (i < j))) := rfl
@[simp] theorem dLe_s (i j : List Nat) : dLe (.str i) (.str j) = some (.bl (!decide (j < i))) := rfl
@[simp] theorem dEq_a (a b : D) : dEq a b = if eqOk a = true ∧ eqOk b = true then some (.bl (deq a b)) else none := rfl
@[simp] theorem dNe_a (a b : D) : dNe a b = if eqOk a = true ∧ eqOk b = true then some (.bl (!deq a b)) else none := rfl
@[simp] theorem eqOk_non : eqOk .non = true := rfl
@[simp] theorem eqOk_bl (b : Bool) : eqOk (.bl b) = true := rfl
@[simp] theorem eqOk_int (b : Int) : eqOk (.int b) = true := rfl
@[simp] theorem eqOk_str (b : List Nat) : eqOk (.str b) = true := rfl
@[simp] theorem eqOk_nil : eqOk (.lst []) = true := rfl
@[simp] theorem deq_int (a b : Int) : deq (.int a) (.int b) = decide (a = b) := by simp [deq, toPy, PyData.eqv, Bool.beq_eq_decide_eq]
@[simp] theorem deq_bl (a b : Bool) : deq (.bl a) (.bl b) = decide (a = b) := by simp [deq, toPy, PyData.eqv, Bool.beq_eq_decide_eq]
@[simp] theorem deq_str (a b : List Nat) : deq (.str a) (.str b) = decide (a = b) := by
  have : (tx a == tx b) = decide (a = b) := by
    by_cases h : a = b
    · subst h; simp
    · simp [h]; exact fun z => h (tx_inj z)
  simp [deq, toPy, PyData.eqv, this]
@[simp] theorem deq_int_str (a : Int) (b : List Nat) : deq (.int a) (.str b) = false := by simp [deq, toPy, PyData.eqv]
@[simp] theorem deq_bl_str (a : Bool) (b : List Nat) : deq (.bl a) (.str b) = false := by simp [deq, toPy, PyData.eqv]
@[simp] theorem deq_non_str (b : List Nat) : deq .non (.str b) = false := by simp [deq, toPy, PyData.eqv]
@[simp] theorem deq_lst_str (a : List D) (b : List Nat) : deq (.lst a) (.str b) = false := by simp [deq, toPy, PyData.eqv]
@[simp] theorem deq_tup_str (a : List D) (b : List Nat) : deq (.tup a) (.str b) = false := by simp [deq, toPy, PyData.eqv]
@[simp] theorem deq_str_non (a : List Nat) : deq (.str a) .non = false := by simp [deq, toPy, PyData.eqv]
@[simp] theorem deq_non : deq .non .non = true := by simp [deq, toPy, PyData.eqv]
theorem deq_lst (a b : List D) : deq (.lst a) (.lst b) = deqs a b := by simp [deq, deqs, toPy, PyData.eqv]
theorem deq_tup (a b : List D) : deq (.tup a) (.tup b) = deqs a b := by simp [deq, deqs, toPy, PyData.eqv]
@[simp] theorem deqs_n : deqs [] [] = true := by simp [deqs, toPys, PyData.eqvAll]
@[simp] theorem deqs_c (a b : D) (r s : List D) : deqs (a :: r) (b :: s) = (deq a b && deqs r s) := by simp [deqs, deq, toPys, PyData.eqvAll]
@[simp] theorem deqs_nc (b : D) (s : List D) : deqs [] (b :: s) = false := by simp [deqs, toPys, PyData.eqvAll]
@[simp] theorem deqs_cn (b : D) (s : List D) : deqs (b :: s) [] = false := by simp [deqs, toPys, PyData.eqvAll]
@[simp] theorem dIs_n (x : D) : dIs x .non = some (.bl (isN x)) := by cases x <;> rfl
@[simp] theorem dIsNot_n (x : D) : dIsNot x .non = some (.bl (!isN x)) := by cases x <;> rfl
@[simp] theorem dIs_b (a b : Bool) : dIs (.bl a) (.bl b) = some (.bl (decide (a = b))) := rfl
@[simp] theorem dIsNot_b (a b : Bool) : dIsNot (.bl a) (.bl b) = some (.bl (!decide (a = b))) := rfl
@[simp] theorem isN_non : isN .non = true := rfl
@[simp] theorem isN_int (i : Int) : isN (.int i) = false := rfl
@[simp] theorem isN_str (i : List Nat) : isN (.str i) = false := rfl
@[simp] theorem isN_lst (i : List D) : isN (.lst i) = false := rfl
@[simp] theorem isN_tup (i : List D) : isN (.tup i) = false := rfl
@[simp] theorem isN_bl (i : Bool) : isN (.bl i) = false := rfl
@[simp] theorem dIn_a (x y : D) : dIn x y = (inD x y).map .bl := rfl
@[simp] theorem dNotIn_a (x y : D) : dNotIn x y = (inD x y).map fun b => .bl (!b) := rfl
@[simp] theorem inD_sg (c : Nat) (t : List Nat) : inD (.str [c]) (.str t) = some (decide (c ∈ t)) := rfl
@[simp] theorem inD_l (x : D) (ds : List D) : inD x (.lst ds) = if eqOk x = true ∧ eqOk (.lst ds) = true then some (ds.any fun z => deq z x) else none := rfl
@[simp] theorem inD_t (x : D) (ds : List D) : inD x (.tup ds) = if flatD x = true ∧ ds.all flatD = true then some (ds.any fun z => deq z x) else none := rfl
@[simp] theorem dIx_s (s : List Nat) (i : Int) (h : s.length ≤ 16777216) : dIx (.str s) (.int i) = (atI s i).map fun c => .str [c] := if_pos h
@[simp] theorem dIx_l (s : List D) (i : Int) : dIx (.lst s) (.int i) = atI s i := rfl
@[simp] theorem dIx_t (s : List D) (i : Int) : dIx (.tup s) (.int i) = atI s i := rfl
@[simp] theorem dIx_scr (s : List Int) (i : Int) : dIx (.scr s) (.int i) = (atI s i).map .int := rfl
@[simp] theorem dSl_s (s : List Nat) (l u : Option Int) (h : s.length ≤ 16777216) : dSl (.str s) l u = some (.str (cut s l u)) := if_pos h
@[simp] theorem dSl_l (s : List D) (l u : Option Int) : dSl (.lst s) l u = some (.lst (cut s l u)) := rfl
@[simp] theorem dSl_t (s : List D) (l u : Option Int) : dSl (.tup s) l u = some (.tup (cut s l u)) := rfl
@[simp] theorem dSl_scr (s : List Int) (l u : Option Int) : dSl (.scr s) l u = some (.lst (cut (s.map .int) l u)) := rfl
@[simp] theorem dLen_s (s : List Nat) (h : s.length ≤ 16777216) : dLen [.str s] = some (.int s.length) := if_pos h
@[simp] theorem dLen_l (s : List D) : dLen [.lst s] = some (.int s.length) := rfl
@[simp] theorem dLen_t (s : List D) : dLen [.tup s] = some (.int s.length) := rfl
@[simp] theorem dLen_scr (s : List Int) : dLen [.scr s] = some (.int s.length) := rfl
@[simp] theorem dAll_a (ds : List D) : dAll [.lst ds] = (boolsD ds).map fun bs => .bl (bs.all id) := rfl
@[simp] theorem dAny_a (ds : List D) : dAny [.lst ds] = (boolsD ds).map fun bs => .bl (bs.any id) := rfl
@[simp] theorem dSum_a (ds : List D) : dSum [.lst ds] = (intsD ds).map fun bs => .int bs.sum := rfl
@[simp] theorem itD_l (ds : List D) : itD (.lst ds) = some ds := rfl
@[simp] theorem itD_t (ds : List D) : itD (.tup ds) = some ds := rfl
@[simp] theorem itD_scr (ns : List Int) : itD (.scr ns) = some (ns.map .int) := rfl
@[simp] theorem itD_s (s : List Nat) : itD (.str s) = some (sgs s) := rfl
@[simp] theorem asL_l (ds : List D) : asL (.lst ds) = some ds := rfl
@[simp] theorem asL_scr (ns : List Int) : asL (.scr ns) = some (ns.map .int) := rfl
@[simp] theorem tru_bl (b : Bool) : tru (.bl b) = some b := rfl
@[simp] theorem tyD_s (s : List Nat) : tyD "str" (.str s) = true := rfl
@[simp] theorem tyD_l (s : List D) : tyD "list" (.lst s) = true := rfl
@[simp] theorem dIsI_str_s (s : List Nat) : dIsI [.str s, .ty "str"] = some (.bl true) := rfl
@[simp] theorem dIsI_str_i (i : Int) : dIsI [.int i, .ty "str"] = some (.bl false) := rfl
@[simp] theorem dIsI_str_b (i : Bool) : dIsI [.bl i, .ty "str"] = some (.bl false) := rfl
@[simp] theorem dIsI_str_n : dIsI [.non, .ty "str"] = some (.bl false) := rfl
@[simp] theorem dIsI_str_l (i : List D) : dIsI [.lst i, .ty "str"] = some (.bl false) := rfl
@[simp] theorem dIsI_str_t (i : List D) : dIsI [.tup i, .ty "str"] = some (.bl false) := rfl
@[simp] theorem dIsI_bool_b (i : Bool) : dIsI [.bl i, .ty "bool"] = some (.bl true) := rfl
@[simp] theorem dIsI_bool_i (i : Int) : dIsI [.int i, .ty "bool"] = some (.bl false) := rfl
@[simp] theorem dIsI_int_i (i : Int) : dIsI [.int i, .ty "int"] = some (.bl true) := rfl
@[simp] theorem flatD_int (i : Int) : flatD (.int i) = true := rfl
@[simp] theorem flatD_str (i : List Nat) : flatD (.str i) = true := rfl
@[simp] theorem flatD_bl (i : Bool) : flatD (.bl i) = true := rfl
@[simp] theorem flatD_non : flatD .non = true := rfl
theorem flat_pure : ∀ {ds : List D}, ds.all flatD = true → pureDs ds = true ∧ depDs ds = 0
  | [], _ => by simp [pureDs, depDs]
  | d :: r, h => by
    rw [List.all_cons, Bool.and_eq_true] at h
    obtain ⟨a, b⟩ := flat_pure h.2
    have h1 := h.1
    cases d <;> simp [flatD] at h1 <;> simp [pureDs, pureD, depDs, depD, a, b]
@[simp] theorem eqOk_lst (ds : List D) (h : ds.all flatD = true) : eqOk (.lst ds) = true := by
  obtain ⟨a, b⟩ := flat_pure h
  simp [eqOk, pureD, depD, a, b]
@[simp] theorem eqOk_tup (ds : List D) (h : ds.all flatD = true) : eqOk (.tup ds) = true := by
  obtain ⟨a, b⟩ := flat_pure h
  simp [eqOk, pureD, depD, a, b]
@[simp] theorem flat_strs (ss : List (List Nat)) : (ss.map D.str).all flatD = true := by simp
@[simp] theorem flat_ints (ss : List Int) : (ss.map D.int).all flatD = true := by simp
@[simp] theorem forL_n (g : Tg) (body : EvS) (S : Sls) (st : Store) : forL g body [] S st = .nx S st := rfl
theorem forL_c (g : Tg) (body : EvS) (d : D) (r : List D) (S : Sls) (st : Store) : forL g body (d :: r) S st = match g d S with
    | some S1 => match body S1 st with
      | .nx S2 st2 => forL g body r S2 st2
      | .ct S2 st2 => forL g body r S2 st2
      | .rto w S2 st2 => .rto w S2 st2
      | .bk S2 st2 => .nx S2 st2
      | .ret v S2 st2 => .ret v S2 st2
      | .exc x S2 st2 => .exc x S2 st2
      | .stuck => .stuck
    | none => .stuck := rfl
@[simp] theorem sgs_len (s : List Nat) : (sgs s).length = s.length := by simp [sgs]
@[simp] theorem lcL_n (g : Tg) (own : List Nat) (t : Ev Bool) (f : Ev D) (S : Sls) (st : Store) : lcL g own t f [] S st = .ok [] S st := rfl
theorem lcL_c (g : Tg) (own : List Nat) (t : Ev Bool) (f : Ev D) (d : D) (r : List D) (S : Sls) (st : Store) : lcL g own t f (d :: r) S st = match g d S with
    | some S1 => (t S1 st).calm.bind fun b S2 st2 => if b = true then
        (f S2 st2).calm.bind fun y S3 st3 => (lcL g own t f r (wipeS S3 own) st3).bind fun ys S4 st4 => .ok (y :: ys) S4 st4
      else lcL g own t f r (wipeS S2 own) st2
    | none => .stuck := rfl
end DL
namespace DL
open PySem PySem.Spec PyProof.Rows L2
section
variable {α : Type}
theorem atI_nn (xs : List α) {i : Int} (h : 0 ≤ i) : atI xs i = xs[i.toNat]? := by
  unfold atI ixN
  rw [if_pos h]
  split
  · rfl
  · rename_i h1
    rw [List.getElem?_eq_none (by omega)]; rfl
@[simp] theorem atI_zero (x : α) (xs : List α) : atI (x :: xs) 0 = some x := by rw [atI_nn _ (by decide)]; rfl
@[simp] theorem atI_one (x y : α) (xs : List α) : atI (x :: y :: xs) 1 = some y := by rw [atI_nn _ (by decide)]; rfl
@[simp] theorem atI_two (x y z : α) (xs : List α) : atI (x :: y :: z :: xs) 2 = some z := by rw [atI_nn _ (by decide)]; rfl
@[simp] theorem atI_three (x y z u : α) (xs : List α) : atI (x :: y :: z :: u :: xs) 3 = some u := by rw [atI_nn _ (by decide)]; rfl
@[simp] theorem atI_four (x y z u v : α) (xs : List α) : atI (x :: y :: z :: u :: v :: xs) 4 = some v := by rw [atI_nn _ (by decide)]; rfl
theorem cut_map {β : Type} (f : α → β) (xs : List α) (l u : Option Int) : cut (xs.map f) l u = (cut xs l u).map f := by
  unfold cut
  rw [List.length_map, List.map_take, List.map_drop]
end
def cell (ns : List Int) (i : Int) : Int := (ns[i.toNat]?).getD 0
@[simp] theorem joinN_n (a : List Nat) : joinN a [] = [] := rfl
@[simp] theorem joinN_1 (a x : List Nat) : joinN a [x] = x := rfl
theorem joinN_c (a x y : List Nat) (r : List (List Nat)) : joinN a (x :: y :: r) = x ++ a ++ joinN a (y :: r) := rfl
@[simp] theorem joinN_e : ∀ ss : List (List Nat), joinN [] ss = ss.flatten
  | [] => rfl
  | [x] => by simp
  | x :: y :: r => by rw [joinN_c, joinN_e (y :: r)]; simp
@[simp] theorem dStr_a (i : Int) (h : i.natAbs.log2 < 1920) : dStr [.int i] = some (.str (numS i)) := by simp [dStr, h]
@[simp] theorem dInt_i (i : Int) : dInt [.int i] = some (.int i) := rfl
@[simp] theorem dInt_b (i : Bool) : dInt [.bl i] = some (.int (if i then 1 else 0)) := rfl
@[simp] theorem dMax_a (i j : Int) : dMax [.int i, .int j] = some (.int (if j > i then j else i)) := rfl
@[simp] theorem dMin_a (i j : Int) : dMin [.int i, .int j] = some (.int (if j < i then j else i)) := rfl
@[simp] theorem dAbs_a (i : Int) : dAbs [.int i] = some (.int (if i < 0 then -i else i)) := rfl
@[simp] theorem dOrd_a (c : Nat) : dOrd [.str [c]] = some (.int c) := rfl
@[simp] theorem dNeg_a (i : Int) : dNeg (.int i) = some (.int (-i)) := rfl
@[simp] theorem dListF_l (ds : List D) : dListF [.lst ds] = some (.l ds) := rfl
@[simp] theorem dListF_t (ds : List D) : dListF [.tup ds] = some (.l ds) := rfl
@[simp] theorem dListF_scr (ns : List Int) : dListF [.scr ns] = some (.l (ns.map .int)) := rfl
@[simp] theorem dTuple_l (ds : List D) : dTuple [.lst ds] = some (.tup ds) := rfl
@[simp] theorem dTuple_t (ds : List D) : dTuple [.tup ds] = some (.tup ds) := rfl
section
variable {S : Sls} {st : Store}
@[simp] theorem o3E_a (op op' : D → D → Option D) (fa fb fc : Ev Opd) : o3E op op' fa fb fc S st = (fa S st).bind fun a S st => (fb S st).bind fun b S st =>
  match vw S st a, vw S st b with
  | some x, some y => match op x y with
    | some (.bl true) => (fc S st).bind fun c S st => match vw S st b, vw S st c with
      | some y, some z => got (op' y z) S st
      | _, _ => .stuck
    | some (.bl false) => .ok (.bl false) S st
    | _ => .stuck
  | _, _ => .stuck := rfl
end
theorem deqs_refl : ∀ {ds : List D}, (∀ d ∈ ds, deq d d = true) → deqs ds ds = true
  | [], _ => deqs_n
  | d :: r, h => by
    rw [deqs_c, h d (List.mem_cons_self ..), deqs_refl fun x m => h x (List.mem_cons_of_mem _ m)]; rfl
theorem deq_refl_strs (ts : List (List Nat)) : deq (.lst (ts.map D.str)) (.lst (ts.map D.str)) = true := by
  rw [deq_lst]
  exact deqs_refl fun d h => by
    obtain ⟨s, _, rfl⟩ := List.mem_map.mp h
    simp
@[simp] theorem rng_len (n : Nat) (lo : Int) : (rng n lo).length = n := by simp [rng]
open PySem.NumText in
open PySem.NumText PySem.W in
open PySem.NumText PySem.W in
open PySem.NumText in
theorem lcL_mapF {α : Type} {g : Tg} {own : List Nat} {f : Ev D} {S : Sls} {st : Store} (enc : α → D) (out : α → D) : ∀ (xs : List α), (∀ x ∈ xs, ∃ S1 S3, g (enc x) S = some S1 ∧ f S1 st = .ok (out x) S3 st ∧ wipeS S3 own = S) → lcL g own tY f (xs.map enc) S st = .ok (xs.map out) S st
  | [], _ => rfl
  | x :: r, h => by
    obtain ⟨S1, S3, e1, e2, e3⟩ := h x (List.mem_cons_self ..)
    have ih := lcL_mapF enc out r fun y hy => h y (List.mem_cons_of_mem _ hy)
    rw [List.map_cons, lcL_c, e1]
    simp only [tY_a, Res.calm_ok, Res.bind_ok, if_true, e2, e3, ih, List.map_cons]
theorem lcL_filterF {α : Type} {g : Tg} {own : List Nat} {t : Ev Bool} {f : Ev D} {S : Sls} {st : Store} (enc : α → D) (p : α → Bool) (out : α → D) : ∀ (xs : List α), (∀ x ∈ xs, ∃ S1 S2, g (enc x) S = some S1 ∧ t S1 st = .ok (p x) S2 st ∧ (p x = false → wipeS S2 own = S) ∧ (p x = true → ∃ S3, f S2 st = .ok (out x) S3 st ∧ wipeS S3 own = S)) → lcL g own t f (xs.map enc) S st = .ok ((xs.filter p).map out) S st
  | [], _ => rfl
  | x :: r, h => by
    obtain ⟨S1, S2, e1, e2, e3, e4⟩ := h x (List.mem_cons_self ..)
    have ih := lcL_filterF enc p out r fun d hd => h d (List.mem_cons_of_mem _ hd)
    rw [List.map_cons, lcL_c, e1]
    cases hp : p x with
    | false =>
      rw [hp] at e2
      simp only [e2, Res.calm_ok, Res.bind_ok, Bool.false_eq_true, if_false, e3 hp, ih, List.filter_cons, hp]
    | true =>
      obtain ⟨S3, e5, e6⟩ := e4 hp
      rw [hp] at e2
      simp only [e2, Res.calm_ok, Res.bind_ok, if_true, e5, e6, ih, List.filter_cons, hp, List.map_cons]
end DL
namespace DL
open PySem PySem.Spec PyProof.Rows L2
section
variable {G : Gx} {B : Hp} {F : Fz} {σ : L2.St} {H : Hp} {S : Sls} {st : Store}
theorem nodup_ix {α : Type} : ∀ {l : List α}, l.Nodup → ∀ {i j : Nat} (hi : i < l.length) (hj : j < l.length), l[i] = l[j] → i = j
  | [], _, i, _, hi, _, _ => absurd hi (by simp)
  | x :: r, h, 0, 0, _, _, _ => rfl
  | x :: r, h, 0, j + 1, _, hj, e => by
    rw [List.nodup_cons] at h
    exact absurd (by rw [show x = r[j]'(by simpa using hj) from e]; exact List.getElem_mem _) h.1
  | x :: r, h, i + 1, 0, hi, _, e => by
    rw [List.nodup_cons] at h
    exact absurd (by rw [show x = r[i]'(by simpa using hi) from e.symm]; exact List.getElem_mem _) h.1
  | x :: r, h, i + 1, j + 1, hi, hj, e => by
    rw [List.nodup_cons] at h
    exact congrArg Nat.succ (nodup_ix h.2 (by simpa using hi) (by simpa using hj) (by simpa using e))
theorem smf_app (F : Fz) (p : Addr) : SmF F ⟨F.f, F.m ++ [p]⟩ := ⟨Same.refl _, List.prefix_append _ _⟩
theorem Ok.allocB (o : Ok G B F σ H S st) {p : Addr} {x : Ob} (hx : ObOk G F H p x) (hF : F p = none) (hB : B p = none) (hm : p ∉ F.m) (no : ∀ (j : Nat) (es : Ow), S[j]? = some (.own es) → σ[j]? ≠ some (some (.ref p))) :
    Gr B F ⟨F.f, F.m ++ [p]⟩ ∧ Ok G B ⟨F.f, F.m ++ [p]⟩ σ H S (st ++ [x]) := by
  have sm := smf_app F p
  refine ⟨⟨sm, fun a h1 h2 => absurd h1 h2⟩, o.fH, o.kp, ⟨?_, ?_, fun n y a e1 e2 => ?_⟩, o.len, fun i s e => ?_, o.ap⟩
  · show (F.m ++ [p]).length = (st ++ [x]).length
    rw [List.length_append, List.length_append, o.so.ml]; rfl
  · show (F.m ++ [p]).Nodup
    rw [List.nodup_append]
    exact ⟨o.so.mn, by simp, fun a ha b hb z => by simp at hb; subst hb; subst z; exact hm ha⟩
  · have e2 : (F.m ++ [p])[n]? = some a := e2
    by_cases hn : n < st.length
    · rw [List.getElem?_append_left hn] at e1
      rw [List.getElem?_append_left (by rw [o.so.ml]; exact hn)] at e2
      obtain ⟨h1, h2, h3⟩ := o.so.ob n y a e1 e2
      exact ⟨h1, h2, h3.grow sm (Same.refl H)⟩
    · rw [List.getElem?_append_right (by omega)] at e1
      rw [List.getElem?_append_right (by rw [o.so.ml]; omega)] at e2
      have hz : n - st.length = 0 := by
        have := (List.getElem?_eq_some_iff.mp e1).1
        simp at this; omega
      rw [hz] at e1
      rw [o.so.ml, hz] at e2
      cases e1; cases e2
      exact ⟨fun _ => hF, hB, hx.grow sm (Same.refl H)⟩
  · have h := o.sl i s e
    cases s with
    | no => trivial
    | d x =>
      obtain ⟨v, a1, a2⟩ := h
      exact ⟨v, a1, a2.mono sm⟩
    | own w2 =>
      obtain ⟨p2, u2, a1, a2, a3, a4, a5, a6⟩ := h
      refine ⟨p2, u2, a1, a2, a3, a4, a5.mono sm, fun z => ?_⟩
      rcases List.mem_append.mp z with z | z
      · exact a6 z
      · simp at z; exact no i _ e (by rw [a1, z])
theorem Ok.alloc (o : Ok G B F σ H S st) {p : Addr} {u : HO} {w : Ow} (h : H p = some u) (hF : F p = none) (hB : B p = none) (hm : p ∉ F.m) (r : OwRel G F u w) (no : ∀ (j : Nat) (es : Ow), S[j]? = some (.own es) → σ[j]? ≠ some (some (.ref p))) :
    Gr B F ⟨F.f, F.m ++ [p]⟩ ∧ Ok G B ⟨F.f, F.m ++ [p]⟩ σ H S (st ++ [.o w]) := o.allocB (x := .o w) ⟨u, h, r⟩ hF hB hm no
theorem ow_noown {u : HO} {w : Ow} (r : OwRel G F u w) : ∀ x : Addr, u ≠ HO.own x := fun x z => by subst z; cases r
theorem Ok.updB (o : Ok G B F σ H S st) {n : Nat} {a : Addr} {x y : Ob} {u : HO} (e : st[n]? = some x) (ea : F.m[n]? = some a) (hno : ∀ z : Addr, H a ≠ some (HO.own z)) (r : ObOk G F (upd H a u) a y) (nz : x.nz := by exact True.intro) : Ok G B F σ (upd H a u) S (st.set n y) := by
  obtain ⟨h1, h2, h3⟩ := o.so.ob n x a e ea
  have h1 := h1 nz
  have hn : n < st.length := (List.getElem?_eq_some_iff.mp e).1
  refine ⟨fun b v q => ?_, fun b v q => ?_, ⟨by rw [List.length_set]; exact o.so.ml, o.so.mn, fun k z b q1 q2 => ?_⟩, o.len, fun i s q => ?_, o.ap⟩
  · rw [upd_ne (ne_of_none q h1)]; exact o.fH _ _ q
  · rw [upd_ne (ne_of_none q h2)]; exact o.kp _ _ q
  · by_cases hk : n = k
    · subst hk
      rw [List.getElem?_set_self hn] at q1
      cases q1
      rw [ea] at q2; cases q2
      exact ⟨fun _ => h1, h2, r⟩
    · rw [List.getElem?_set_ne hk] at q1
      obtain ⟨k1, k2, k3⟩ := o.so.ob k z b q1 q2
      have hb : b ≠ a := fun w => by
        subst w
        obtain ⟨l1, w1⟩ := List.getElem?_eq_some_iff.mp ea
        obtain ⟨l2, w2⟩ := List.getElem?_eq_some_iff.mp q2
        exact hk (nodup_ix o.so.mn l1 l2 (by rw [w1, w2]))
      exact ⟨k1, k2, k3.chg hb hno⟩
  · have h := o.sl i s q
    cases s with
    | no => trivial
    | d x => exact h
    | own w2 =>
      obtain ⟨p2, u2, a1, a2, a3, a4, a5, a6⟩ := h
      have : p2 ≠ a := fun z => a6 (by rw [z]; exact List.mem_of_getElem? ea)
      exact ⟨p2, u2, a1, by rw [upd_ne this]; exact a2, a3, a4, a5, a6⟩
theorem Ok.updO (o : Ok G B F σ H S st) {n : Nat} {a : Addr} {w w' : Ow} {u : HO} (e : st[n]? = some (.o w)) (ea : F.m[n]? = some a) (r : OwRel G F u w') : Ok G B F σ (upd H a u) S (st.set n (.o w')) := by
  obtain ⟨h1, h2, u0, h3, h4⟩ := o.so.ob n _ a e ea
  exact o.updB e ea (fun z q => by rw [h3] at q; exact ow_noown h4 z (Option.some.inj q)) ⟨u, upd_same, r⟩
end
def hnd : D → Opd
  | .loc n => .h n
  | d => .v d
@[simp] theorem hnd_loc (n : Nat) : hnd (.loc n) = .h n := rfl
def oH (f : Ev D) : Ev Opd := fun S st => (f S st).bind fun d S st => .ok (hnd d) S st
def aE (f : Ev Ow) : Ev D := fun S st => (f S st).bind fun w S st => .ok (.loc st.length) S (st ++ [.o w])
def sApL (fo fe : Ev Opd) : EvS := fun S st => (fo S st).out fun a S st => match a with
  | .h n => match st[n]? with
    | some (.o (.l _)) => (fe S st).out fun b S st => match vd S b, st[n]? with
      | some d, some (.o (.l ds)) => if ds.length < 16777216 then .nx S (st.set n (.o (.l (ds ++ [d])))) else .stuck
      | _, _ => .stuck
    | _ => .stuck
  | _ => .stuck
def ePopL (fo : Ev Opd) : Ev D := fun S st => (fo S st).bind fun a S st => match a with
  | .h n => match st[n]? with
    | some (.o (.l ds)) => match ds.getLast? with
      | some d => .ok d S (st.set n (.o (.l ds.dropLast)))
      | none => .stuck
    | _ => .stuck
  | _ => .stuck
def eClrL (fo : Ev Opd) : Ev D := fun S st => (fo S st).bind fun a S st => match a with
  | .h n => match st[n]? with
    | some (.o (.l _)) => .ok .non S (st.set n (.o (.l [])))
    | _ => .stuck
  | _ => .stuck
def sSetL (fo : Ev Opd) (fv fj : Ev D) : EvS := fun S st => (fv S st).out fun d S st => (fo S st).out fun a S st => match a with
  | .h n => (fj S st).out fun j S st => match j, st[n]? with
    | .int k, some (.o (.l ds)) => match ixN ds.length k with
      | some j => .nx S (st.set n (.o (.l (ds.set j d))))
      | none => .stuck
    | _, _ => .stuck
  | _ => .stuck
section
variable {X : Cx} {B : Hp} {W : WX} {e a b : Expr} {es : List Expr} {pos : Pos}
theorem do_h {f : Ev D} (h : DE X B W e f) : DO X B W e (oH f) := pe_imp h fun σ H Q ⟨F, S, st, o, q⟩ =>
  ⟨F, S, st, o, (Post.bind (R := RD (Cx.g X) σ) q).mono fun v H1 ⟨F1, d, S1, st1, g1, o1, r, p⟩ => p v H1 F1 .refl o1 (by
    cases d with
    | loc n =>
      cases r with
      | loc h => exact ⟨_, h, rfl⟩
    | _ => exact r)⟩
theorem de_al {f : Ev Ow} (h : DF X B W e f) : DE X B W e (aE f) :=
  pe_imp h fun σ H Q ⟨F, S, st, o, q⟩ => ⟨F, S, st, o, by
    unfold aE at q
    generalize f S st = r at q ⊢
    cases r with
    | ok w S1 st1 =>
      intro p u H' F' g o1 hu hF hB r hm no
      obtain ⟨g', o'⟩ := o1.alloc hu hF hB hm r no
      refine q (.ref p) H' _ (g.trans g') o' (.loc ?_)
      show (F'.m ++ [p])[st1.length]? = some p
      rw [← o1.so.ml, List.getElem?_append_right (Nat.le_refl _), Nat.sub_self]; rfl
    | exc x S1 st1 => exact q
    | stuck => exact q⟩
theorem ds_apL {fo fe : Ev Opd} {apos pos' : Pos} (ho : DO X B W a fo) (h : DO X B W e fe) (hs : swapsWith (.Call (.Attribute a "append" apos) [e] [] pos') none pos.line X.env = pure false := by rfl)
    (hbase : attributeBase a "append" X.env (eval a X.env) = eval a X.env := by rfl)
    (hfew : ((backTo pos' (starEach [e] X.env)).all (fun x => !x.1) && (backToKw pos' (keywordEach [] X.env)).all (fun x => x.1.isSome)
      && decide (([e] : List Expr).length + ([] : List Keyword).length + (if ([] : List Keyword).isEmpty then 0 else 1) < 30)) = true := by rfl)
    (hline : (apos.endLine == pos'.line) = true := by rfl) (hst : starEach [e] X.env = (false, eval e X.env) :: starEach [] X.env := by rfl) :
    DS X B W (.Expr (.Call (.Attribute a "append" apos) [e] [] pos') pos) (sApL fo fe) :=
  ps_imp (ps_expr (pe_bm PySem.F.plainAttrs_list PySem.F.slot_list_append PySem.F.type_list_append mt_append ho (pa_cons h pa_nil hst) hbase hfew hline hst) hs) fun D σ H ⟨F, S, st, o, q⟩ => ⟨F, S, st, o, (Post.out (R := RO (Cx.g X) σ) q).mono fun v H1 ⟨F1, ao, S1, st1, g1, o1, r1, p1⟩ => by
    split at p1
    · rename_i n
      obtain ⟨aa, ha, rfl⟩ := r1
      split at p1
      · rename_i ds0 hst0
        obtain ⟨k1, k2, u0, k3, k4⟩ := o1.so.ob n _ aa hst0 ha
        cases k4 with
        | l k4 =>
          refine ⟨.inl ⟨rfl, _, .inl (.inl k3)⟩, F1, S1, st1, o1, (Post.out (R := RO (Cx.g X) σ) p1).mono fun v2 H2 ⟨F2, bo, S2, st2, g2, o2, r2, p2⟩ => ?_⟩
          split at p2
          · rename_i d ds hd hst2
            split at p2
            · rename_i hlen
              have ha2 := pre_get g2.1.2 ha
              obtain ⟨m1, m2, u2, m3, m4⟩ := o2.so.ob n _ aa hst2 ha2
              cases m4 with
              | l m4 =>
                exact ⟨aa, _, v2, rfl, rfl, m3, by rw [m4.length, sizeLine_eq]; exact hlen, p2 σ _ F2 .refl (o2.updO hst2 ha2 (.l (m4.append (.one (o2.vd r2 hd)))))⟩
            · exact p2.elim
          · exact p2.elim
      · exact p1.elim
    · exact p1.elim⟩
theorem de_clrL {fo : Ev Opd} {apos : Pos} (ho : DO X B W a fo) (hbase : attributeBase a "clear" X.env (eval a X.env) = eval a X.env := by rfl) (hline : (apos.endLine == pos.line) = true := by rfl) :
    DE X B W (.Call (.Attribute a "clear" apos) [] [] pos) (eClrL fo) :=
  pe_imp (pe_bm0 PySem.F.plainAttrs_list PySem.F.slot_list_clear PySem.F.type_list_clear mt_clear ho hbase hline) fun σ H Q ⟨F, S, st, o, q⟩ => ⟨F, S, st, o, (Post.bind (R := RO (Cx.g X) σ) q).mono fun v H1 ⟨F1, ao, S1, st1, g1, o1, r1, p1⟩ => by
    split at p1
    · rename_i n
      obtain ⟨aa, ha, rfl⟩ := r1
      split at p1
      · rename_i ds hst0
        obtain ⟨k1, k2, u0, k3, k4⟩ := o1.so.ob n _ aa hst0 ha
        cases k4 with
        | l k4 => exact ⟨.inl ⟨rfl, _, .inl (.inl k3)⟩, aa, _, rfl, rfl, k3, p1 _ _ F1 .refl (o1.updO hst0 ha (.l .nil)) .non⟩
      · exact p1.elim
    · exact p1.elim⟩
end
end DL
namespace DL
open PySem PySem.Spec PyProof.Rows L2
mutual
def noL : D → Bool
  | .loc _ => false
  | .lst ds => noLs ds
  | .tup ds => noLs ds
  | .dic es => noLk es
  | .obj _ fs => noLf fs
  | _ => true
def noLs : List D → Bool
  | [] => true
  | d :: r => noL d && noLs r
def noLk : List (D × D) → Bool
  | [] => true
  | (_, d) :: r => noL d && noLk r
def noLf : List (Nat × D) → Bool
  | [] => true
  | (_, d) :: r => noL d && noLf r
end
section
variable {G : Gx} {F F' : Fz}
mutual
theorem Rp.alone (e : Same F.f F'.f) : ∀ {v : V} {d : D}, Rp G F v d → noL d = true → Rp G F' v d
  | _, _, .non, _ => .non
  | _, _, .bl b, _ => .bl b
  | _, _, .int i, _ => .int i
  | _, _, .str x h, _ => .str x h
  | _, _, .ty n, _ => .ty n
  | _, _, .err a c, _ => .err a c
  | _, _, .loc h, z => by rw [noL] at z; cases z
  | _, _, .lst h t, z => by rw [noL] at z; exact .lst (e _ _ h) (RpAll.alone e t z)
  | _, _, .tup h t, z => by rw [noL] at z; exact .tup (same_seqT e h) (RpAll.alone e t z)
  | _, _, .scr h, _ => .scr (e.seq h)
  | _, _, .dicK h t, z => by rw [noL] at z; exact .dicK (e _ _ h) (RpK.alone e t z)
  | _, _, .obj h h' g t, z => by rw [noL] at z; exact .obj (e _ _ h) (e _ _ h') g (RpF.alone e t z)
theorem RpAll.alone (e : Same F.f F'.f) : ∀ {vs : List V} {ds : List D}, RpAll G F vs ds → noLs ds = true → RpAll G F' vs ds
  | _, _, .nil, _ => .nil
  | _, _, .cons h t, z => by rw [noLs, Bool.and_eq_true] at z; exact .cons (Rp.alone e h z.1) (RpAll.alone e t z.2)
theorem RpK.alone (e : Same F.f F'.f) : ∀ {vs : List (Key × V)} {ds : List (D × D)}, RpK G F vs ds → noLk ds = true → RpK G F' vs ds
  | _, _, .nil, _ => .nil
  | _, _, .cons o h t, z => by rw [noLk, Bool.and_eq_true] at z; exact .cons o (Rp.alone e h z.1) (RpK.alone e t z.2)
theorem RpF.alone (e : Same F.f F'.f) : ∀ {vs : List (Str × V)} {ds : List (Nat × D)}, RpF G F vs ds → noLf ds = true → RpF G F' vs ds
  | _, _, .nil, _ => .nil
  | _, _, .cons o h t, z => by rw [noLf, Bool.and_eq_true] at z; exact .cons o (Rp.alone e h z.1) (RpF.alone e t z.2)
end
end
def solo (c : CallT) : CallT := fun ds st => if noLs ds = true then match c ds [] with
  | .ok d S _ => if noL d = true then .ok d S st else .stuck
  | .exc x S _ => if noLf x.fs = true then .exc x S st else .stuck
  | .stuck => .stuck
  else .stuck
theorem spOf_solo {G : Gx} {n : Nat} {c : CallT} (vs : List V) (H : Hp) (Q : VK) (E : XK) : spOf G n (solo c) vs H Q E → spOf G n c vs H Q E := by
  rintro ⟨hl, F, ds, st, f0, so, r, q⟩
  have nil0 : StOk G (hid [] H) ⟨F.f, []⟩ H [] := ⟨rfl, List.nodup_nil, fun n x a e _ => by cases e⟩
  by_cases z : noLs ds = true
  · rw [show solo c ds st = _ from if_pos z] at q
    refine ⟨hl, ⟨F.f, []⟩, ds, [], f0, nil0, RpAll.alone (F := F) (F' := ⟨F.f, []⟩) (fun _ _ e => e) r z, ?_⟩
    have key : ∀ (H' : Hp) (F1 : Fz), Same (hid [] H) H' → Same F1.f H' → Gr (hid [] H) ⟨F.f, []⟩ F1 →
        Same (hid F.m H) H' ∧ Gr (hid F.m H) F ⟨F1.f, F.m⟩ ∧ StOk G (hid F.m H) ⟨F1.f, F.m⟩ H' st := fun H' F1 k f g => by
      rw [hid_nil] at k g
      have g1 : Same F.f F1.f := g.1.1
      have g2 : ∀ a, F.f a = none → F1.f a ≠ none → H a = none := g.2
      refine ⟨fun a u e => k a u (hid_same _ _ a u e), ⟨⟨g1, List.prefix_refl _⟩, fun a h1 h2 => ?_⟩, so.ml, so.mn, fun n x a e1 e2 => ?_⟩
      · by_cases m : a ∈ F.m
        · exact hid_in m
        · rw [hid_out m]; exact g2 a h1 h2
      · obtain ⟨h1, h2, h3⟩ := so.ob n x a e1 e2
        refine ⟨fun nz => ?_, h2, h3.grow ⟨g1, List.prefix_refl _⟩ k⟩
        obtain ⟨u, hu⟩ := h3.ex
        by_cases y : F1.f a = none
        · exact y
        · have := g2 a (h1 nz) y
          rw [this] at hu; cases hu
    cases hc : c ds [] with
    | ok d S st1 =>
      rw [hc] at q
      dsimp only at q ⊢
      by_cases nd : noL d = true
      · rw [if_pos nd] at q
        intro v H' F1 k f g s rd
        obtain ⟨a, b, c⟩ := key H' F1 k f g
        exact q v H' ⟨F1.f, F.m⟩ a f b c (Rp.alone (F := F1) (F' := ⟨F1.f, F.m⟩) (fun _ _ e => e) rd nd)
      · rw [if_neg nd] at q; exact q.elim
    | exc x S st1 =>
      rw [hc] at q
      dsimp only at q ⊢
      by_cases nf : noLf x.fs = true
      · rw [if_pos nf] at q
        intro cls dd H' F1 k f g s rx
        obtain ⟨a, b, c⟩ := key H' F1 k f g
        refine q cls dd H' ⟨F1.f, F.m⟩ a f b c ?_
        obtain ⟨C, x1, x2, x3⟩ := rx
        exact ⟨C, x1, x2, x3.imp id fun ⟨y, ⟨e, ws, e1, e2, e3⟩⟩ => ⟨y, e, ws, e1, e2, RpF.alone (F := F1) (F' := ⟨F1.f, F.m⟩) (fun _ _ e => e) e3 nf⟩⟩
      · rw [if_neg nf] at q; exact q.elim
    | stuck => rw [hc] at q; exact q.elim
  · have e : solo c ds st = .stuck := if_neg z
    rw [e] at q; exact (show False from q).elim
theorem Def.solo {P : Program} {w : World} {K : PySem.W.Frag} {mg : Str → Option Value} {base : Heap} {k : Nat} {x : Str} {n : Nat} {c : CallT} (d : Def P w K mg base k x n c) : Def P w K mg base k x n (DL.solo c) := by
  obtain ⟨f, fd, ps, a, b, c, e⟩ := d.ex
  exact ⟨f, fd, ps, a.imp spOf_solo, b, c, e⟩
end DL
namespace DL
open PySem PySem.Spec PyProof.Rows L2
def putD' (k : Nat) (d : D) : List (Nat × D) → List (Nat × D)
  | [] => [(k, d)]
  | (g, x) :: r => if g = k then (g, d) :: r else (g, x) :: putD' k d r
theorem RpF.put {G : Gx} {F : Fz} {k : Nat} {v : V} {d : D} (ok : okN k) (r : Rp G F v d) : ∀ {fs : List (Str × V)} {es : List (Nat × D)}, RpF G F fs es → RpF G F (putF (nmS k) v fs) (putD' k d es)
  | _, _, .nil => .cons ok r .nil
  | _, _, .cons (k := k') o h t => by
    unfold putF putD'
    by_cases hk : k' = k
    · subst hk
      rw [if_pos rfl, if_pos rfl]
      exact .cons o r t
    · rw [if_neg hk, if_neg fun z => hk (nmS_inj o ok z)]
      exact .cons o h (t.put ok r)
theorem RpF.len {G : Gx} {F : Fz} : ∀ {fs : List (Str × V)} {es : List (Nat × D)}, RpF G F fs es → fs.length = es.length
  | _, _, .nil => rfl
  | _, _, .cons _ _ t => congrArg Nat.succ t.len
theorem Ok.updI {G : Gx} {B : Hp} {F : Fz} {σ : L2.St} {H : Hp} {S : Sls} {st : Store} (o : Ok G B F σ H S st) {n c : Nat} {a C dx : Addr} {es es' : List (Nat × D)} {vs vs' : List (Str × V)} (e : st[n]? = some (.i c es)) (ea : F.m[n]? = some a)
    (h1 : H a = some (.ins C dx vs)) (h2 : H dx = some (.own a)) (h3 : G.mg (nmS c) = some (.ref C)) (r : RpF G F vs' es') : Ok G B F σ (upd H a (.ins C dx vs')) S (st.set n (.i c es')) := by
  have ne : dx ≠ a := fun z => by rw [z, h1] at h2; cases h2
  exact o.updB e ea (fun z q => by rw [h1] at q; cases q) ⟨C, dx, vs', upd_same, by rw [upd_ne ne]; exact h2, h3, r⟩
def sFL (cs : List Nat) (k : Nat) (fo : Ev Opd) (fe : Ev D) : EvS := fun S st => (fe S st).out fun d S st => (fo S st).out fun a S st => match a with
  | .h n => match st[n]? with
    | some (.i c es) => if c ∈ cs ∧ es.length < 1000 then .nx S (st.set n (.i c (putD' k d es))) else .stuck
    | _ => .stuck
  | _ => .stuck
def sFLA (cs : List Nat) (k : Nat) (op : D → D → Option D) (fo : Ev Opd) (fe : Ev Opd) : EvS := fun S st => (fo S st).out fun a S st => match a with
  | .h n => match st[n]? with
    | some (.i c es) => if c ∈ cs ∧ es.length < 1000 then match es.lookup k with
        | some u => (fe S st).out fun b S st => match vw S st b, st[n]? with
          | some y, some (.i c' es') => if c' = c ∧ es'.length < 1000 then match op u y with
              | some d => .nx S (st.set n (.i c (putD' k d es')))
              | none => .stuck
            else .stuck
          | _, _ => .stuck
        | none => .stuck
      else .stuck
    | _ => .stuck
  | _ => .stuck
section
variable {X : Cx} {B : Hp} {W : WX} {a value : Expr} {pos pos' : Pos} {f : Str} {fo : Ev Opd} {fe : Ev D}
theorem ds_fldL (cs : List Nat) (k : Nat) (hk : nmS k = f) (ok : okN k) (ht : ClsF X.K X.mg cs f) (ho : DO X B W a fo) (hv : DE X B W value fe) (hs : swapsWith value (some (.Attribute a f pos')) pos.line X.env = pure false := by rfl) :
    DS X B W (.Assign [.Attribute a f pos'] value pos) (sFL cs k fo fe) :=
  ps_imp (ps_fld ho hv hs) fun Dn σ H ⟨F, S, st, o, q⟩ => ⟨F, S, st, o, (Post.out (R := RD (Cx.g X) σ) q).mono fun v H1 ⟨F1, d, S1, st1, g1, o1, r1, p1⟩ =>
    ⟨F1, S1, st1, o1, (Post.out (R := RO (Cx.g X) σ) p1).mono fun ov H2 ⟨F2, ao, S2, st2, g2, o2, r2, p2⟩ => by
      split at p2
      · rename_i n
        obtain ⟨aa, ha, rfl⟩ := r2
        split at p2
        · rename_i c es hst
          split at p2
          · rename_i hc
            obtain ⟨m1, m2, C, dx, vs, m3, m4, m5, m6⟩ := o2.so.ob n _ aa hst ha
            obtain ⟨t1, t2⟩ := ht c hc.1 C m5
            refine ⟨aa, C, dx, vs, rfl, m3, t1, t2, by rw [m6.len]; exact hc.2, p2 σ _ F2 .refl (o2.updI hst ha m3 m4 m5 ?_)⟩
            rw [← hk]; exact m6.put ok (r1.mono g2.1)
          · exact p2.elim
        · exact p2.elim
      · exact p2.elim⟩⟩
end
def mhE (cs : List Nat) (mk : Nat) (tab : Nat → CallT) (fo : Ev D) (fa : Ev (List Opd)) : Ev D := fun S st => (fo S st).bind fun o S st => match o with
  | .loc n => match st[n]? with
    | some (.i c es) => if c ∈ cs ∧ es.lookup mk = none then (fa S st).bind fun a S st => match vds S a with
        | some ds => match tab c (.loc n :: ds) st with
          | .ok d _ st => .ok d S st
          | .exc x _ st => .exc x S st
          | .stuck => .stuck
        | none => .stuck
      else .stuck
    | _ => .stuck
  | _ => .stuck
section
variable {X : Cx} {B : Hp} {W : WX} {e a : Expr} {es : List Expr} {pos : Pos}
theorem mh_lift {m : Str} {mk k n : Nat} {cs : List Nat} {tab : Nat → CallT} {fo : Ev D} {fa : Ev (List Opd)} (hmk : nmS mk = m) (okm : okN mk) (d : MDef X.prog X.w X.K X.mg X.base k m (n + 1) cs tab) (hr : Room k X.A) (hl : aLen fa n) {σ : L2.St} {H : Hp} {Q : VK}
    (q : lift (Cx.g X) B W (RD (Cx.g X)) (mhE cs mk tab fo fa) σ H Q) : tMethX X m W (lift (Cx.g X) B W (RD (Cx.g X)) fo) (lift (Cx.g X) B W (RpO (Cx.g X)) fa) σ H Q := by
  obtain ⟨F, S, st, o, q⟩ := q
  refine ⟨F, S, st, o, (Post.bind (R := RD (Cx.g X) σ) q).mono fun v H1 ⟨F1, d1, S1, st1, g1, o1, r1, p1⟩ => ?_⟩
  split at p1
  · rename_i nn
    split at p1
    · rename_i c es hst
      split at p1
      · rename_i hc
        have r1' : Rp (Cx.g X) F1 v (.loc nn) := r1
        cases r1 with
        | @loc aa _ ha =>
          obtain ⟨m1, m2, C, dx, fs, m3, m4, m5, m6⟩ := o1.so.ob nn _ aa hst ha
          obtain ⟨f, fd, ps, t1, t2, t3, t4⟩ := d.ex c hc.1 C m5
          refine ⟨aa, C, dx, fs, f, fd, ps, k, _, rfl, m3, by rw [← hmk]; exact m6.miss okm hc.2, t1, t2, t3, hr, t4, F1, S1, st1, o1, ?_⟩
          have lens := fun r' S' st' e => hl S1 st1 r' S' st' e
          revert p1 lens
          generalize fa S1 st1 = r
          intro p1 lens
          cases r with
          | exc y S2 st2 => exact p1
          | stuck => exact p1
          | ok as S2 st2 =>
            intro vs H2 F2 g2 o2 r2
            have p2 : Post (Cx.g X) B W (RD (Cx.g X) σ) σ F1 Q (match vds S2 as with
              | some ds => match tab c (.loc nn :: ds) st2 with
                | .ok d _ st => .ok d S2 st
                | .exc x _ st => .exc x S2 st
                | .stuck => .stuck
              | none => .stuck) := p1
            split at p2
            · rename_i ds hds
              have ra := o2.vds r2 hds
              refine ⟨?_, F2, .loc nn :: ds, st2, o2.fH, o2.so.hid, .cons (r1'.mono g2.1) ra, ?_⟩
              · rw [List.length_cons, rpO_len r2, lens _ _ _ rfl]
              · revert p2
                generalize tab c (.loc nn :: ds) st2 = r
                intro p2
                cases r with
                | ok _ _ _ => exact fun v H' F' k f gr so rr => p2 v H' F' (g2.trans (o2.back k f gr so).1) (o2.back k f gr so).2 rr
                | exc _ _ _ => exact fun cls dd H' F' k f gr so rr => p2 cls dd H' F' (g2.trans (o2.back k f gr so).1) (o2.back k f gr so).2 rr
                | stuck => exact p2.elim
            · exact p2.elim
      · exact p1.elim
    · exact p1.elim
  · exact p1.elim
theorem de_mh {m : Str} {mk k n : Nat} {cs : List Nat} {tab : Nat → CallT} {apos : Pos} {fo : Ev D} {fa : Ev (List Opd)} {pl : Sem Bool} (hmk : nmS mk = m) (okm : okN mk) (d : MDef X.prog X.w X.K X.mg X.base k m (n + 1) cs tab) (hr : Room k X.A) (tk : Takes X W)
    (ho : DE X B W a fo) (ha : DA X B W (e :: es) fa) (hl : aLen fa n := by repeat (first | exact aLen_n | refine aLen_c ?_))
    (hst : starEach (e :: es) X.env = (false, eval e X.env) :: starEach es X.env := by rfl) (hpl : (backTo pos (starEach es X.env)).any (·.1) = false := by rfl)
    (ht : eval (.Call (.Attribute a m apos) (e :: es) [] pos) X.env = (do
      let ov ← eval a X.env
      standAt apos.atName
      let (f, first) ← holding [ov] (getMethod ov m pl)
      callWith pos f first (backTo pos (starEach (e :: es) X.env)) (backToKw pos (keywordEach [] X.env))) := by rfl) :
    DE X B W (.Call (.Attribute a m apos) (e :: es) [] pos) (mhE cs mk tab fo fa) :=
  pe_imp (pe_methX tk ho ha hst hpl ht) fun _ _ _ q => mh_lift hmk okm d hr hl q
theorem de_mh0 {m : Str} {mk k : Nat} {cs : List Nat} {tab : Nat → CallT} {apos : Pos} {fo : Ev D} {pl : Sem Bool} (hmk : nmS mk = m) (okm : okN mk) (d : MDef X.prog X.w X.K X.mg X.base k m 1 cs tab) (hr : Room k X.A) (tk : Takes X W)
    (ho : DE X B W a fo)
    (ht : eval (.Call (.Attribute a m apos) [] [] pos) X.env = (do
      let ov ← eval a X.env
      standAt apos.atName
      let (f, first) ← holding [ov] (getMethod ov m pl)
      callWith pos f first (backTo pos (starEach [] X.env)) (backToKw pos (keywordEach [] X.env))) := by rfl) :
    DE X B W (.Call (.Attribute a m apos) [] [] pos) (mhE cs mk tab fo aN) :=
  pe_imp (pe_methX0 tk ho ht) fun σ H Q q => by
    obtain ⟨F, S, st, o, q⟩ := mh_lift hmk okm d hr aLen_n q
    refine ⟨F, S, st, o, q.mono ?_⟩
    rintro v H1 ⟨a, C, dx, fs, f, fd, ps, k, sp, e1, e2, e3, e4, e5, e6, e7, e8, F1, S1, st1, o1, q1⟩
    exact ⟨a, C, dx, fs, f, fd, ps, k, sp, e1, e2, e3, e4, e5, e6, e7, e8, q1 [] H1 F1 .refl o1 .nil⟩
end
theorem Ok.more {G : Gx} {B : Hp} {F : Fz} {σ : L2.St} {H H' : Hp} {S : Sls} {st : Store} (o : Ok G B F σ H S st) (k : Same H H') : Ok G B F σ H' S st :=
  ⟨o.fH.trans k, o.kp.trans k, ⟨o.so.ml, o.so.mn, fun n x a e1 e2 => ⟨(o.so.ob n x a e1 e2).1, (o.so.ob n x a e1 e2).2.1, (o.so.ob n x a e1 e2).2.2.grow (SmF.refl F) k⟩⟩, o.len, fun i s e => by
    have h := o.sl i s e
    cases s with
    | no => trivial
    | d x => exact h
    | own w =>
      obtain ⟨p, u, a1, a2, r⟩ := h
      exact ⟨p, u, a1, k _ _ a2, r⟩, o.ap⟩
structure IDefS (P : Program) (w : World) (K : PySem.W.Frag) (mg : Str → Option Value) (base : Heap) (k : Nat) (x : Str) (c n : Nat) (ci : CallT) : Prop where
  ex : ∃ C f fd ps, mg x = some (.ref C) ∧ nmS c = x ∧ Mk K C f ∧ FnOk P w K mg base (L2.CX P w) k f fd ps (spOf ⟨K, mg, w⟩ (n + 1) ci) ∧ Binds K fd ps []
def newH (c : Nat) (ci : CallT) (fa : Ev (List Opd)) : Ev D := fun S st => (fa S st).bind fun a S st => match vds S a with
  | some ds => match ci (.loc st.length :: ds) (st ++ [.i c []]) with
    | .ok .non _ st' => .ok (.loc st.length) S st'
    | _ => .stuck
  | none => .stuck
section
variable {X : Cx} {B : Hp} {W : WX} {e a : Expr} {es : List Expr} {pos p : Pos}
theorem de_newH {x : Str} {k cn n : Nat} {ci : CallT} {fa : Ev (List Opd)} (d : IDefS X.prog X.w X.K X.mg X.base k x cn n ci) (hr : Room (k + 1) X.A) (ha : DA X B W (e :: es) fa) (hl : aLen fa n := by repeat (first | exact aLen_n | refine aLen_c ?_))
    (hx : Passes (L2.CX X.prog X.w) X (fun _ _ _ => False) := by exact fun _ _ _ _ _ _ _ h => by obtain ⟨_, _, _, _, _, _, _, _, _, _, _, _, z⟩ := h; exact z.elim)
    (hg : Gl X x := by rfl) (hdb : (x == ("__debug__" : Str)) = false := by decide) (he : starEach (e :: es) X.env = (false, eval e X.env) :: starEach es X.env := by rfl) (hpl : (backTo pos (starEach es X.env)).any (·.1) = false := by rfl) :
    DE X B W (.Call (.Name x p) (e :: es) [] pos) (newH cn ci fa) := by
  obtain ⟨C, f, fd, ps, hm, hc, M, F, hb⟩ := d.ex
  refine pe_imp (pe_make (E := fun _ _ _ => False) M F hr hg hm hb .nil hx ha hdb he hpl) fun σ H Q ⟨F0, S, st, o, q⟩ => ⟨F0, S, st, o, ?_⟩
  have lens := fun r' S' st' e => hl S st r' S' st' e
  unfold newH at q
  revert q lens
  generalize fa S st = r
  intro q lens
  cases r with
  | exc y S2 st2 => exact q
  | stuck => exact q
  | ok as S1 st1 =>
    intro vs H1 F1 g1 o1 r1 y dx ny ndx nyx
    have q : Post (Cx.g X) B W (RD (Cx.g X) σ) σ F0 Q (match vds S1 as with
      | some ds => match ci (.loc st1.length :: ds) (st1 ++ [.i cn []]) with
        | .ok .non _ st' => .ok (.loc st1.length) S1 st'
        | _ => .stuck
      | none => .stuck) := q
    cases hv : vds S1 as with
    | none => rw [hv] at q; exact q.elim
    | some ds =>
      rw [hv] at q
      dsimp only at q
      have ra := o1.vds r1 hv
      have ny1 : (upd H1 dx (.own y)) y = none := by rw [upd_ne (Ne.symm nyx)]; exact ny
      have k2 : Same H1 (upd (upd H1 dx (.own y)) y (.ins C dx [])) := fun b u hu => by
        have b1 : b ≠ y := fun z => by rw [z, ny] at hu; cases hu
        have b2 : b ≠ dx := fun z => by rw [z, ndx] at hu; cases hu
        rw [upd_ne b1, upd_ne b2]; exact hu
      have o2 := o1.more k2
      have hy : upd (upd H1 dx (.own y)) y (.ins C dx []) y = some (.ins C dx []) := upd_same
      have hdx : upd (upd H1 dx (.own y)) y (.ins C dx []) dx = some (.own y) := by rw [upd_ne nyx, upd_same]
      have fy : F1 y = none := o1.fH.free ny
      have by' : B y = none := o1.kp.free ny
      have my : y ∉ F1.m := fun z => by
        obtain ⟨_, ⟨u, hu⟩, _⟩ := o1.so.mem z
        rw [ny] at hu; cases hu
      obtain ⟨g3, o3⟩ := o2.allocB (x := .i cn []) (p := y) ⟨C, dx, [], hy, hdx, by rw [← hc] at hm; exact hm, .nil⟩ fy by' my (fun j es e z => by
        obtain ⟨p2, u2, a1, a2, _⟩ := o1.sl j _ e
        rw [a1] at z
        cases z
        rw [ny] at a2; cases a2)
      rw [List.append_nil]
      refine ⟨?_, _, .loc st1.length :: ds, _, o3.fH, o3.so.hid, .cons (.loc ?_) (ra.mono g3.1), ?_⟩
      · rw [List.length_cons, rpO_len r1, lens _ _ _ rfl]
      · show (F1.m ++ [y])[st1.length]? = some y
        rw [← o1.so.ml, List.getElem?_append_right (Nat.le_refl _), Nat.sub_self]; rfl
      · have here : (F1.m ++ [y])[st1.length]? = some y := by
          rw [← o1.so.ml, List.getElem?_append_right (Nat.le_refl _), Nat.sub_self]; rfl
        revert q
        generalize ci (.loc st1.length :: ds) (st1 ++ [.i cn []]) = r
        intro q
        cases r with
        | exc _ _ _ => exact q.elim
        | stuck => exact q.elim
        | ok d3 _ st3 =>
          cases d3 with
          | non =>
            intro v H' F' k f gr so rr
            obtain ⟨g4, o4⟩ := o3.back k f gr so
            cases rr
            exact ⟨rfl, q (.ref y) H' F' ((g1.trans g3).trans g4) o4 (.loc (pre_get g4.1.2 here))⟩
          | _ => exact q.elim
end
end DL
namespace DL
open PySem PySem.Spec PyProof.Rows L2
def mapO {α β : Type} (f : α → Option β) : List α → Option (List β)
  | [] => some []
  | x :: r => match f x, mapO f r with
    | some y, some ys => some (y :: ys)
    | _, _ => none
def dp (st : Store) : Nat → D → Option D
  | 0, _ => none
  | k + 1, .loc n => match st[n]? with
    | some (.o (.l ds)) => (mapO (dp st k) ds).map .lst
    | _ => none
  | k + 1, .lst ds => (mapO (dp st k) ds).map .lst
  | k + 1, .tup ds => (mapO (dp st k) ds).map .tup
  | _ + 1, d => if noL d = true then some d else none
def flatR : D → Bool
  | .non => true
  | .bl _ => true
  | .int _ => true
  | .str _ => true
  | .ty _ => true
  | .tup ds => ds.all fun d => match d with
    | .non => true
    | .bl _ => true
    | .int _ => true
    | .str _ => true
    | _ => false
  | _ => false
def Fp (F : Fz) (H : Hp) : Fz := ⟨fun a => if a ∈ F.m then H a else F.f a, []⟩
section
variable {G : Gx} {B H : Hp} {F : Fz} {st : Store}
theorem Fp_in {a : Addr} (h : a ∈ F.m) : (Fp F H).f a = H a := if_pos h
theorem Fp_out {a : Addr} (h : a ∉ F.m) : (Fp F H).f a = F.f a := if_neg h
theorem Fp_same (f0 : Same F.f H) : Same F.f (Fp F H).f := fun a u e => by
  by_cases h : a ∈ F.m
  · rw [Fp_in h]; exact f0 _ _ e
  · rw [Fp_out h]; exact e
theorem Fp_sub (f0 : Same F.f H) : Same (Fp F H).f H := fun a u e => by
  by_cases h : a ∈ F.m
  · rw [Fp_in h] at e; exact e
  · rw [Fp_out h] at e; exact f0 _ _ e
theorem mapO_rp {k : Nat} (ih : ∀ {v : V} {d d' : D}, Rp G F v d → dp st k d = some d' → Rp G (Fp F H) v d') : ∀ {vs : List V} {ds ds' : List D}, RpAll G F vs ds → mapO (dp st k) ds = some ds' → RpAll G (Fp F H) vs ds'
  | _, _, _, .nil, e => by cases e; exact .nil
  | _, d :: ds, ds', .cons h t, e => by
    unfold mapO at e
    split at e
    · rename_i y ys h1 h2
      cases e
      exact .cons (ih h h1) (mapO_rp ih t h2)
    · cases e
theorem dp_rp (f0 : Same F.f H) (so : StOk G B F H st) : ∀ (k : Nat) {v : V} {d d' : D}, Rp G F v d → dp st k d = some d' → Rp G (Fp F H) v d'
  | 0, _, _, _, _, e => by cases e
  | k + 1, v, d, d', r, e => by
    have ih := fun {v : V} {d d' : D} => dp_rp f0 so k (v := v) (d := d) (d' := d')
    have other : noL d = true → some d = some d' → Rp G (Fp F H) v d' := fun z q => by
      cases q
      exact Rp.alone (Fp_same f0) r z
    cases r with
    | @loc a n ha =>
      unfold dp at e
      split at e
      · rename_i ds hst
        cases hm : mapO (dp st k) ds with
        | none => rw [hm] at e; cases e
        | some ys =>
          rw [hm] at e; cases e
          obtain ⟨_, _, u, h3, h4⟩ := so.ob n _ a hst ha
          cases h4 with
          | @l xs _ h4 =>
            refine .lst (xs := xs) ?_ (mapO_rp ih h4 hm)
            show (Fp F H).f a = _
            rw [Fp_in (List.mem_of_getElem? ha)]; exact h3
      · cases e
    | lst h t =>
      unfold dp at e
      rename_i ds
      cases hm : mapO (dp st k) ds with
      | none => rw [hm] at e; cases e
      | some ys =>
        rw [hm] at e; cases e
        exact .lst (Fp_same f0 _ _ h) (mapO_rp ih t hm)
    | tup h t =>
      unfold dp at e
      rename_i ds
      cases hm : mapO (dp st k) ds with
      | none => rw [hm] at e; cases e
      | some ys =>
        rw [hm] at e; cases e
        exact .tup (same_seqT (Fp_same f0) h) (mapO_rp ih t hm)
    | non => exact other rfl (by simpa [dp, noL] using e)
    | bl b => exact other rfl (by simpa [dp, noL] using e)
    | int i => exact other rfl (by simpa [dp, noL] using e)
    | str s h => exact other rfl (by simpa [dp, noL] using e)
    | ty n => exact other rfl (by simpa [dp, noL] using e)
    | err a c => exact other rfl (by simpa [dp, noL] using e)
    | scr h => exact other rfl (by simpa [dp, noL] using e)
    | dicK h t =>
      simp only [dp] at e
      split at e
      · rename_i z; exact other z e
      · cases e
    | obj h h' g t =>
      simp only [dp] at e
      split at e
      · rename_i z; exact other z e
      · cases e
end
end DL
namespace DL
open PySem PySem.Spec PyProof.Rows L2
def Fm (F F1 : Fz) : Fz := ⟨fun a => if a ∈ F.m ∧ F.f a = none then none else F1.f a, F.m⟩
theorem Fm_tup {G : Gx} {B H : Hp} {F F1 : Fz} {st : Store} (so : StOk G B F H st) (g : Same (Fp F H).f F1.f) {a : Addr} {xs : List V} (h : SqT G.K F1.f a xs) : SqT G.K (Fm F F1).f a xs := by
  have out : ∀ u : HO, F1.f a = some u → (∀ w : Ow, ¬ OwRel G F u w) → (∀ C dx vs, u ≠ .ins C dx vs) → (∀ w b kvs ep, u ≠ TalO w b kvs ep) → (Fm F F1).f a = some u := fun u e n1 n2 n3 => by
    show (if a ∈ F.m ∧ F.f a = none then none else F1.f a) = some u
    rw [if_neg, e]
    rintro ⟨z, _⟩
    obtain ⟨_, ⟨y, hy⟩, n, x, _, _, _, ho⟩ := so.mem z
    have : F1.f a = some y := g _ _ (by rw [Fp_in z]; exact hy)
    rw [e] at this
    cases this
    cases x with
    | o w => obtain ⟨u2, q1, q2⟩ := ho; rw [hy] at q1; cases q1; exact n1 w q2
    | i c fs => obtain ⟨C, dx, vs, q1, _⟩ := ho; rw [hy] at q1; cases q1; exact n2 _ _ _ rfl
    | t es => obtain ⟨kvs, ⟨ep, q1⟩, _⟩ := ho; rw [hy] at q1; cases q1; exact n3 _ _ _ _ rfl
    | z es => obtain ⟨kvs, ep, _, q1, _⟩ := ho; rw [hy] at q1; cases q1; exact n3 _ _ _ _ rfl
  rcases h with (h | ⟨o, h⟩) | h
  · exact .inl (.inl (out _ h (fun w q => by cases q) (fun _ _ _ q => by cases q) (fun _ _ _ _ q => by unfold TalO at q; cases q)))
  · exact .inl (.inr ⟨o, out _ h (fun w q => by cases q) (fun _ _ _ q => by cases q) (fun _ _ _ _ q => by unfold TalO at q; cases q)⟩)
  · exact .inr h
theorem flatR_all {G : Gx} {F F' : Fz} : ∀ {vs : List V} {ds : List D}, RpAll G F vs ds → (ds.all fun d => match d with | .non => true | .bl _ => true | .int _ => true | .str _ => true | _ => false) = true → RpAll G F' vs ds
  | _, _, .nil, _ => .nil
  | _, _, .cons h t, z => by
    rw [List.all_cons, Bool.and_eq_true] at z
    refine .cons ?_ (flatR_all t z.2)
    cases h with
    | non => exact .non
    | bl b => exact .bl b
    | int i => exact .int i
    | str s o => exact .str s o
    | _ => cases z.1
theorem flat_rp {G : Gx} {B H : Hp} {F F1 : Fz} {st : Store} (so : StOk G B F H st) (g : Same (Fp F H).f F1.f) {v : V} {d : D} (r : Rp G F1 v d) (z : flatR d = true) : Rp G (Fm F F1) v d := by
  cases r with
  | non => exact .non
  | bl b => exact .bl b
  | int i => exact .int i
  | str s o => exact .str s o
  | ty n => exact .ty n
  | tup h t => exact .tup (Fm_tup so g h) (flatR_all t z)
  | _ => cases z
def look (c : CallT) : CallT := fun ds st => match mapO (dp st 40) ds with
  | some es => match c es [] with
    | .ok d S _ => if flatR d = true then .ok d S st else .stuck
    | .exc x S _ => if x.fs.isEmpty = true then .exc x S st else .stuck
    | .stuck => .stuck
  | none => .stuck
theorem spOf_look {G : Gx} {n : Nat} {c : CallT} (vs : List V) (H : Hp) (Q : VK) (E : XK) : spOf G n (look c) vs H Q E → spOf G n c vs H Q E := by
  rintro ⟨hl, F, ds, st, f0, so, r, q⟩
  have nil0 : StOk G (hid [] H) (Fp F H) H [] := ⟨rfl, List.nodup_nil, fun n x a e _ => by cases e⟩
  unfold look at q
  cases hm : mapO (dp st 40) ds with
  | none => rw [hm] at q; exact (show False from q).elim
  | some es =>
    rw [hm] at q
    dsimp only at q
    refine ⟨hl, Fp F H, es, [], Fp_sub f0, nil0, mapO_rp (fun {_ _ _} => dp_rp f0 so 40) r hm, ?_⟩
    have key : ∀ (H' : Hp) (F1 : Fz), Same (hid [] H) H' → Same F1.f H' → Gr (hid [] H) (Fp F H) F1 →
        Same (hid F.m H) H' ∧ Same (Fm F F1).f H' ∧ Gr (hid F.m H) F (Fm F F1) ∧ StOk G (hid F.m H) (Fm F F1) H' st := fun H' F1 k f g => by
      rw [hid_nil] at k g
      have g1 : Same (Fp F H).f F1.f := g.1.1
      have g2 : ∀ a, (Fp F H).f a = none → F1.f a ≠ none → H a = none := g.2
      have sm : SmF F (Fm F F1) := ⟨fun a u e => by
        show (if a ∈ F.m ∧ F.f a = none then none else F1.f a) = some u
        rw [if_neg (fun z => by rw [z.2] at e; cases e)]; exact g1 _ _ (Fp_same f0 _ _ e), List.prefix_refl _⟩
      refine ⟨fun a u e => k a u (hid_same _ _ a u e), fun a u e => ?_, ⟨sm, fun a h1 h2 => ?_⟩, so.ml, so.mn, fun n x a e1 e2 => ?_⟩
      · have e : (if a ∈ F.m ∧ F.f a = none then none else F1.f a) = some u := e
        split at e
        · cases e
        · exact f _ _ e
      · have h2 : (if a ∈ F.m ∧ F.f a = none then none else F1.f a) ≠ none := h2
        split at h2
        · exact absurd rfl h2
        · rename_i nab
          have na : a ∉ F.m := fun z => nab ⟨z, h1⟩
          rw [hid_out na]
          exact g2 a (by rw [Fp_out na]; exact h1) h2
      · obtain ⟨h1, h2, h3⟩ := so.ob n x a e1 e2
        exact ⟨fun nz => if_pos ⟨List.mem_of_getElem? e2, h1 nz⟩, h2, h3.grow sm k⟩
    cases hc : c es [] with
    | ok d S st1 =>
      rw [hc] at q
      dsimp only at q ⊢
      by_cases nd : flatR d = true
      · rw [if_pos nd] at q
        intro v H' F1 k f g s rd
        obtain ⟨a, f2, b, s2⟩ := key H' F1 k f g
        exact q v H' (Fm F F1) a f2 b s2 (flat_rp so g.1.1 rd nd)
      · rw [if_neg nd] at q; exact (show False from q).elim
    | exc x S st1 =>
      rw [hc] at q
      dsimp only at q ⊢
      by_cases nf : x.fs.isEmpty = true
      · rw [if_pos nf] at q
        intro cls dd H' F1 k f g s rx
        obtain ⟨a, f2, b, s2⟩ := key H' F1 k f g
        obtain ⟨C, x1, x2, x3⟩ := rx
        have x0 : x.fs = [] := List.isEmpty_iff.mp nf
        exact q cls dd H' (Fm F F1) a f2 b s2 ⟨C, x1, x2, .inl (x3.elim id fun y => absurd x0 y.1)⟩
      · rw [if_neg nf] at q; exact (show False from q).elim
    | stuck => rw [hc] at q; exact (show False from q).elim
theorem Def.look {P : Program} {w : World} {K : PySem.W.Frag} {mg : Str → Option Value} {base : Heap} {k : Nat} {x : Str} {n : Nat} {c : CallT} (d : Def P w K mg base k x n c) : Def P w K mg base k x n (DL.look c) := by
  obtain ⟨f, fd, ps, a, b, c, e⟩ := d.ex
  exact ⟨f, fd, ps, a.imp spOf_look, b, c, e⟩
end DL
namespace DL
open PySem PySem.Spec PyProof.Rows L2
def scal : D → Bool
  | .non => true
  | .bl _ => true
  | .int _ => true
  | .str _ => true
  | _ => false
theorem scal_rp {G : Gx} {F F' : Fz} {v : V} {d : D} (r : Rp G F v d) (z : scal d = true) : Rp G F' v d := by
  cases r with
  | non => exact .non
  | bl b => exact .bl b
  | int i => exact .int i
  | str s o => exact .str s o
  | _ => cases z
def o2L (op : D → D → Option D) (fa fb : Ev D) : Ev D := fun S st => (fa S st).bind fun a S st => (fb S st).bind fun b S st =>
  match dp st 40 a, dp st 40 b with
  | some x, some y => match op x y with
    | some d => if scal d = true then .ok d S st else .stuck
    | none => .stuck
  | _, _ => .stuck
section
variable {X : Cx} {B : Hp} {W : WX} {a b : Expr} {pos : Pos}
theorem op2L_lift {r : R2} {op : D → D → Option D} {fa fb : Ev D} (h : Op2 (Cx.g X) r op) {σ : L2.St} {H : Hp} {Q : VK} (q : lift (Cx.g X) B W (RD (Cx.g X)) (o2L op fa fb) σ H Q) :
    tOp r (lift (Cx.g X) B W (RD (Cx.g X)) fa) (lift (Cx.g X) B W (RD (Cx.g X)) fb) σ H Q := by
  obtain ⟨F, S, st, o, q⟩ := q
  refine ⟨F, S, st, o, (Post.bind (R := RD (Cx.g X) σ) q).mono fun v H1 ⟨F1, d, S1, st1, g1, o1, r1, p1⟩ => ⟨F1, S1, st1, o1, (Post.bind (R := RD (Cx.g X) σ) p1).mono fun w H2 ⟨F2, d2, S2, st2, g2, o2, r2, p2⟩ => ?_⟩⟩
  split at p2
  · rename_i x y hx hy
    split at p2
    · rename_i z hz
      split at p2
      · rename_i sc
        have r1' : Rp (Cx.g X) F1 v d := r1
        have r2' : Rp (Cx.g X) F2 w d2 := r2
        have ra := dp_rp o2.fH o2.so 40 (r1'.mono g2.1) hx
        have rb := dp_rp o2.fH o2.so 40 r2' hy
        exact h (Fp F2 H2) H2 v w x y z (Fp_sub o2.fH) (.inl ra) (.inl rb) hz _ fun v' H3 f' k _ _ rz => p2 v' H3 F2 .refl (o2.more k) (scal_rp rz sc)
      · exact p2.elim
    · exact p2.elim
  · exact p2.elim
theorem de_cmpL {o : CmpOp} {r : R2} {op : D → D → Option D} {fa fb : Ev D} (ho : OpR X (compareOp o) r) (h : Op2 (Cx.g X) r op) (ha : DE X B W a fa) (hb : DE X B W b fb) (hm : behindInMarks o b = false) : DE X B W (.Compare a [o] [b] pos) (o2L op fa fb) :=
  pe_imp (pe_cmpR ho ha hb hm) fun _ _ _ q => op2L_lift h q
theorem dt_cmpL {o : CmpOp} {r : R2} {op : D → D → Option D} {fa fb : Ev D} (ho : OpR X (compareOp o) r) (h : Op2 (Cx.g X) r op) (ha : DE X B W a fa) (hb : DE X B W b fb) (hm : behindInMarks o b = false) : DT X B W (.Compare a [o] [b] pos) (tV (o2L op fa fb)) :=
  pt_imp (pt_cmpR ho ha hb hm) fun _ _ _ q => test_lift (fun _ _ _ q => op2L_lift h q) q
end
end DL
namespace DL
open PySem PySem.Spec PyProof.Rows L2
def forH (g : Tg) (body : EvS) (n : Nat) : Nat → Nat → EvS
  | 0, i, S, st => match st[n]? with
    | some (.o (.l ds)) => if ds.length ≤ i then .nx S st else .stuck
    | _ => .stuck
  | k + 1, i, S, st => match st[n]? with
    | some (.o (.l ds)) => match ds[i]? with
      | some d => match g d S with
        | some S1 => match body S1 st with
          | .nx S2 st2 => forH g body n k (i + 1) S2 st2
          | .ct S2 st2 => forH g body n k (i + 1) S2 st2
          | .rto w S2 st2 => .rto w S2 st2
          | .bk S2 st2 => .nx S2 st2
          | .ret v S2 st2 => .ret v S2 st2
          | .exc x S2 st2 => .exc x S2 st2
          | .stuck => .stuck
        | none => .stuck
      | none => .nx S st
    | _ => .stuck
def sFH (fo : Ev Opd) (g : Tg) (body : EvS) : EvS := fun S st => (fo S st).out fun a S st => match a with
  | .h n => match st[n]? with
    | some (.o (.l ds)) => forH g body n ds.length 0 S st
    | _ => .stuck
  | _ => .stuck
section
variable {X : Cx} {B : Hp} {W : WX} {pos : Pos}
end
end DL
namespace DL
open PySem PySem.Spec PyProof.Rows L2
def lkS (st : Store) : Sl → Sl
  | .d x => match dp st 40 x with
    | some y => .d y
    | none => .no
  | s => s
def isO : Ob → Bool
  | .o _ => true
  | _ => false
open Classical in
noncomputable def lkF (f : Ev Ow) : Ev Ow := fun S st => if S.all noOwn = true ∧ st.all isO = true then match f (S.map (lkS st)) [] with
    | .ok (.l ys) S1 _ => if ys.all flatD = true ∧ S1 = S.map (lkS st) then .ok (.l ys) S st else .stuck
    | _ => .stuck
  else .stuck
section
variable {X : Cx} {B : Hp} {W : WX} {e : Expr}
end
end DL
namespace DL
open PySem PySem.Spec PyProof.Rows L2
def getL (st : Store) : Opd → Option (List D)
  | .h n => match st[n]? with
    | some (.o (.l ds)) => some ds
    | _ => none
  | .v (.lst ds) => some ds
  | _ => none
def lcHL (g : Tg) (own : List Nat) (t : Ev Bool) (f : Ev D) (a : Opd) : Nat → Nat → Ev (List D)
  | 0, i, S, st => match getL st a with
    | some ds => if ds.length ≤ i then .ok [] S st else .stuck
    | none => .stuck
  | k + 1, i, S, st => match getL st a with
    | some ds => match ds[i]? with
      | some d => match g d S with
        | some S1 => (t S1 st).calm.bind fun b S2 st2 => if b = true then
            (f S2 st2).calm.bind fun y S3 st3 => (lcHL g own t f a k (i + 1) (wipeS S3 own) st3).bind fun ys S4 st4 => .ok (y :: ys) S4 st4
          else lcHL g own t f a k (i + 1) (wipeS S2 own) st2
        | none => .stuck
      | none => .ok [] S st
    | none => .stuck
def lcH (fo : Ev Opd) (g : Tg) (own : List Nat) (t : Ev Bool) (f : Ev D) : Ev Ow := fun S st => (fo S st).bind fun a S st => match getL st a with
  | some ds => (lcHL g own t f a ds.length 0 (wipeS S own) st).bind fun ys S' st => if ys.length ≤ 16777216 then .ok (.l ys) (restS S own S') st else .stuck
  | none => .stuck
section
variable {X : Cx} {B : Hp} {W : WX} {pos : Pos}
def gUL (n : Nat) (gs : List D → Sls → Option Sls) : Tg := fun d S => match d with
  | .lst ds => if ds.length = n then gs ds S else none
  | _ => none
def o2O (op : D → D → Option D) (fa : Ev Opd) (fb : Ev D) : Ev D := fun S st => (fa S st).bind fun a S st => (fb S st).bind fun b S st =>
  match vw S st a with
  | some (.lst ds) => match dp st 40 (.lst ds), dp st 40 b with
    | some x, some y => match op x y with
      | some d => if scal d = true then .ok d S st else .stuck
      | none => .stuck
    | _, _ => .stuck
  | _ => .stuck
end
end DL
namespace DL
section
variable {S : Sls} {st : Store}
theorem lcH_a (fo : Ev Opd) (g : Tg) (own : List Nat) (t : Ev Bool) (f : Ev D) : lcH fo g own t f S st = (fo S st).bind fun a S st => match getL st a with
  | some ds => (lcHL g own t f a ds.length 0 (wipeS S own) st).bind fun ys S' st => if ys.length ≤ 16777216 then .ok (.l ys) (restS S own S') st else .stuck
  | none => .stuck := rfl
theorem o2O_a (op : D → D → Option D) (fa : Ev Opd) (fb : Ev D) : o2O op fa fb S st = (fa S st).bind fun a S st => (fb S st).bind fun b S st => match vw S st a with
  | some (.lst ds) => match dp st 40 (.lst ds), dp st 40 b with
    | some x, some y => match op x y with
      | some d => if scal d = true then .ok d S st else .stuck
      | none => .stuck
    | _, _ => .stuck
  | _ => .stuck := rfl
@[simp] theorem gUL_a (n : Nat) (gs : List D → Sls → Option Sls) (ds : List D) : gUL n gs (.lst ds) S = if ds.length = n then gs ds S else none := rfl
@[simp] theorem getL_l (ds : List D) : getL st (.v (.lst ds)) = some ds := rfl
end
end DL
namespace DL
open PySem PySem.Spec PyProof.Rows L2
def getO (S : Sls) (v : Nat) : Option (List D) := match S[v]? with
  | some (.own (.l ds)) => some ds
  | _ => none
def lcOL (g : Tg) (own : List Nat) (t : Ev Bool) (f : Ev D) (v : Nat) : Nat → Nat → Ev (List D)
  | 0, i, S, st => match getO S v with
    | some ds => if ds.length ≤ i then .ok [] S st else .stuck
    | none => .stuck
  | k + 1, i, S, st => match getO S v with
    | some ds => match ds[i]? with
      | some d => match g d S with
        | some S1 => (t S1 st).calm.bind fun b S2 st2 => if b = true then
            (f S2 st2).calm.bind fun y S3 st3 => (lcOL g own t f v k (i + 1) (wipeS S3 own) st3).bind fun ys S4 st4 => .ok (y :: ys) S4 st4
          else lcOL g own t f v k (i + 1) (wipeS S2 own) st2
        | none => .stuck
      | none => .ok [] S st
    | none => .stuck
def lcO (v : Nat) (g : Tg) (own : List Nat) (t : Ev Bool) (f : Ev D) : Ev Ow := fun S st => match getO S v with
  | some ds => if own.contains v = true then .stuck else (lcOL g own t f v ds.length 0 (wipeS S own) st).bind fun ys S' st => if ys.length ≤ 16777216 then .ok (.l ys) (restS S own S') st else .stuck
  | none => .stuck
theorem lcO_a {S : Sls} {st : Store} (v : Nat) (g : Tg) (own : List Nat) (t : Ev Bool) (f : Ev D) : lcO v g own t f S st = match getO S v with
  | some ds => if own.contains v = true then .stuck else (lcOL g own t f v ds.length 0 (wipeS S own) st).bind fun ys S' st => if ys.length ≤ 16777216 then .ok (.l ys) (restS S own S') st else .stuck
  | none => .stuck := rfl
end DL
namespace DL
open PySem PySem.Spec PyProof.Rows L2 RT
section
variable {prog : Program} {w : World} {A : Around} {E : Value → Shared → Prop}
end
section
variable {prog : Program} {w : World} {A : Around} {E : Value → Shared → Prop} {I : Addr} {fp wr : List Addr} {n : Nat} {P : Nat → Value → Prop} {St : Nat → Heap → Prop}
abbrev newL (c : Nat) : Obj := { cls := .type "list", dict := none, data := .seq #[] c, slots := #[] }
end
section
variable {prog : Program} {w : World} {A : Around} {E : Value → Shared → Prop} {s : Shared} {n : Nat} {P : Nat → Value → Prop} {St : Nat → Heap → Prop}
end
end DL
namespace DL
open PySem PySem.Spec PyProof.Rows L2 RT
section
variable {prog : Program} {w : World} {A : Around} {E : Value → Shared → Prop}
end
def tRevT (K : PySem.W.Frag) (te : TE) : TE := fun σ H Q => te σ H fun v H1 => ∃ (a : Addr) (xs : List V), v = .ref a ∧ SqT K H1 a xs ∧ ∀ q, H1 q = none → Q (.ref q) (upd H1 q (.tup xs.reverse))
def tRevL (K : PySem.W.Frag) (te : TE) : TE := fun σ H Q => te σ H fun v H1 => ∃ (a : Addr) (xs : List V), v = .ref a ∧ SqL K H1 a xs ∧ ∀ q, H1 q = none → Q (.ref q) (upd H1 q (.lst xs.reverse))
section
variable {X : Cx} {B : Hp} {W : WX} {e : Expr} {p p2 pos pos2 : Pos}
def oRev (fa : Ev Opd) : Ev Ow := fun S st => (fa S st).bind fun a S st =>
  match vw S st a with
  | some x => match asL x with
    | some ds => .ok (.l ds.reverse) S st
    | none => .stuck
  | _ => .stuck
def eRevT (f : Ev D) : Ev D := fun S st => (f S st).bind fun d S st => match d with
  | .tup ds => .ok (.tup ds.reverse) S st
  | _ => .stuck
end
end DL
namespace DL
section
variable {S : Sls} {st : Store}
theorem oRev_a (f : Ev Opd) : oRev f S st = (f S st).bind fun a S st => match vw S st a with
  | some x => match asL x with
    | some ds => .ok (.l ds.reverse) S st
    | none => .stuck
  | _ => .stuck := rfl
theorem eRevT_a (f : Ev D) : eRevT f S st = (f S st).bind fun d S st => match d with
  | .tup ds => .ok (.tup ds.reverse) S st
  | _ => .stuck := rfl
end
end DL
namespace DL
open PySem PySem.Spec PyProof.Rows L2
section
variable {P : Program} {w : World} {A : Around} {E : Value → Shared → Prop} {s : Shared}
def TxR (P : Program) (w : World) (h : Heap) (a : Addr) (l : List Str) : Prop :=
  ∃ D : Froz.SD, h.get? a = some (Froz.sObj "set" D) ∧ Froz.TxOk P w D l ∧ Ris D.2.2.place.toList ∧ (w.params.followText "set-order" = true ∨ D.2.2.led = true)
end
def tSrtSetT (K : PySem.W.Frag) (te : TE) : TE := fun σ H Q => te σ H fun v H1 => ∃ (a : Addr) (xs : List Str), v = .ref a ∧ SqL K H1 a (xs.map V.str) ∧ xs.length < 1000 ∧ (∀ ks : List Str, ks.Nodup → (∀ k, k ∈ ks ↔ k ∈ xs) → ks.length < 64) ∧
  ∀ (ys : List Str) (q : Addr), ys.Nodup → (∀ k, k ∈ ys ↔ k ∈ xs) → sortedS ys = true → H1 q = none → Q (.ref q) (upd H1 q (.lst (ys.map V.str)))
section
variable {X : Cx}
end
end DL
namespace DL
open PySem PySem.Spec PyProof.Rows L2
abbrev Tx : Type := List Nat
theorem tri : ∀ x y : Tx, x < y ∨ x = y ∨ y < x
  | [], [] => .inr (.inl rfl)
  | [], b :: s => .inl (List.nil_lt_cons ..)
  | a :: r, [] => .inr (.inr (List.nil_lt_cons ..))
  | a :: r, b :: s => by
    rcases Nat.lt_trichotomy a b with h | h | h
    · exact .inl (List.cons_lt_cons_iff.mpr (.inl h))
    · subst h
      rcases tri r s with q | q | q
      · exact .inl (List.cons_lt_cons_iff.mpr (.inr ⟨rfl, q⟩))
      · exact .inr (.inl (by rw [q]))
      · exact .inr (.inr (List.cons_lt_cons_iff.mpr (.inr ⟨rfl, q⟩)))
    · exact .inr (.inr (List.cons_lt_cons_iff.mpr (.inl h)))
theorem tlt_irr : ∀ x : Tx, ¬ x < x := fun x => List.lt_irrefl x
theorem tlt_tr {x y z : Tx} (h : x < y) (h' : y < z) : x < z := List.lt_trans h h'
def insT (x : Tx) : List Tx → List Tx
  | [] => [x]
  | y :: r => if x < y then x :: y :: r else if x = y then y :: r else y :: insT x r
def srtT : List Tx → List Tx
  | [] => []
  | x :: r => insT x (srtT r)
theorem mem_insT {x z : Tx} : ∀ {l : List Tx}, z ∈ insT x l ↔ z = x ∨ z ∈ l
  | [] => by simp [insT]
  | y :: r => by
    unfold insT
    split
    · simp
    · split
      · rename_i h; subst h; simp
      · rw [List.mem_cons, List.mem_cons, mem_insT (l := r)]
        exact ⟨fun h => h.elim (fun e => .inr (.inl e)) fun h => h.elim .inl fun e => .inr (.inr e), fun h => h.elim (fun e => .inr (.inl e)) fun h => h.elim .inl fun e => .inr (.inr e)⟩
theorem mem_srtT {z : Tx} : ∀ {l : List Tx}, z ∈ srtT l ↔ z ∈ l
  | [] => Iff.rfl
  | x :: r => by rw [srtT, mem_insT, mem_srtT (l := r), List.mem_cons]
theorem pw_insT {x : Tx} : ∀ {l : List Tx}, l.Pairwise (· < ·) → (insT x l).Pairwise (· < ·)
  | [], _ => by simp [insT]
  | y :: r, h => by
    rw [List.pairwise_cons] at h
    unfold insT
    split
    · rename_i hx
      exact List.pairwise_cons.mpr ⟨fun z hz => (List.mem_cons.mp hz).elim (fun e => e ▸ hx) fun e => tlt_tr hx (h.1 z e), List.pairwise_cons.mpr h⟩
    · split
      · exact List.pairwise_cons.mpr h
      · rename_i h1 h2
        have hy : y < x := (tri x y).elim (fun e => absurd e h1) fun e => e.elim (fun e => absurd e h2) id
        exact List.pairwise_cons.mpr ⟨fun z hz => (mem_insT.mp hz).elim (fun e => e ▸ hy) (h.1 z), pw_insT h.2⟩
theorem pw_srtT : ∀ {l : List Tx}, (srtT l).Pairwise (· < ·)
  | [] => List.Pairwise.nil
  | x :: r => pw_insT pw_srtT
theorem pw_uniqT : ∀ {l m : List Tx}, l.Pairwise (· < ·) → m.Pairwise (· < ·) → (∀ z, z ∈ l ↔ z ∈ m) → l = m
  | [], [], _, _, _ => rfl
  | [], y :: r, _, _, h => by have := (h y).mpr (List.mem_cons_self ..); cases this
  | x :: r, [], _, _, h => by have := (h x).mp (List.mem_cons_self ..); cases this
  | x :: r, y :: s, h1, h2, h => by
    rw [List.pairwise_cons] at h1 h2
    have e : x = y := by
      rcases List.mem_cons.mp ((h x).mp (List.mem_cons_self ..)) with a | a
      · exact a
      · rcases List.mem_cons.mp ((h y).mpr (List.mem_cons_self ..)) with b | b
        · exact b.symm
        · exact absurd (tlt_tr (h1.1 y b) (h2.1 x a)) (tlt_irr x)
    subst e
    rw [pw_uniqT h1.2 h2.2 fun z => ⟨fun m => (List.mem_cons.mp ((h z).mp (List.mem_cons_of_mem _ m))).elim (fun e => absurd (h1.1 x (e ▸ m)) (tlt_irr x)) id, fun m => (List.mem_cons.mp ((h z).mpr (List.mem_cons_of_mem _ m))).elim (fun e => absurd (h2.1 x (e ▸ m)) (tlt_irr x)) id⟩]
theorem rising_pw : ∀ (p : Str) (l : List Str), risingS p l = true → (p :: l).Pairwise fun a b => ¬ b.cps.toList < a.cps.toList
  | p, [], _ => by simp
  | p, x :: r, h => by
    have h : (!ltCps x.cps.toList p.cps.toList && risingS x r) = true := h
    rw [Bool.and_eq_true, Bool.not_eq_true'] at h
    have ih := rising_pw x r h.2
    have h1 : ¬ x.cps.toList < p.cps.toList := by
      have := h.1
      rw [ltCps_eq, decide_eq_false_iff_not] at this; exact this
    refine List.pairwise_cons.mpr ⟨fun z hz => ?_, ih⟩
    rcases List.mem_cons.mp hz with e | e
    · rw [e]; exact h1
    · have h2 := (List.pairwise_cons.mp ih).1 z e
      intro h3
      rcases tri p.cps.toList x.cps.toList with q | q | q
      · exact h2 (tlt_tr h3 q)
      · rw [q] at h3; exact h2 h3
      · exact h1 q
theorem sorted_pw {ys : List Str} (nd : ys.Nodup) (h : sortedS ys = true) : (ys.map fun y => y.cps.toList).Pairwise (· < ·) := by
  have pw : ys.Pairwise fun a b => ¬ b.cps.toList < a.cps.toList := by
    cases ys with
    | nil => exact .nil
    | cons x r => exact rising_pw x r h
  rw [List.pairwise_map]
  refine (pw.and nd).imp fun {a b} ⟨h1, h2⟩ => ?_
  rcases tri a.cps.toList b.cps.toList with q | q | q
  · exact q
  · refine absurd ?_ h2
    obtain ⟨x⟩ := a
    obtain ⟨y⟩ := b
    have q : x.toList = y.toList := q
    rw [Array.toList_inj.mp q]
  · exact absurd q h1
end DL
namespace DL
open PySem PySem.Spec PyProof.Rows L2
theorem rp_strsT {G : Gx} {F : Fz} : ∀ {ss : List Tx}, (∀ s ∈ ss, okS s = true) → RpAll G F ((ss.map tx).map V.str) (ss.map .str)
  | [], _ => .nil
  | s :: r, h => .cons (.str s (h s (List.mem_cons_self ..))) (rp_strsT fun x hx => h x (List.mem_cons_of_mem _ hx))
theorem cps_map (ks : List Str) : (ks.map fun y => y.cps.toList).map tx = ks := by
  rw [List.map_map]
  have : (tx ∘ fun y : Str => y.cps.toList) = id := funext tx_cps
  rw [this, List.map_id]
theorem cps_mem {ks : List Str} {ss : List Tx} (h : ∀ k, k ∈ ks ↔ k ∈ ss.map tx) (z : Tx) : z ∈ (ks.map fun y => y.cps.toList) ↔ z ∈ ss := by
  rw [List.mem_map]
  constructor
  · rintro ⟨k, hk, rfl⟩
    obtain ⟨s, hs, e⟩ := List.mem_map.mp ((h k).mp hk)
    rw [← e]; exact hs
  · intro hz
    exact ⟨tx z, (h _).mpr (List.mem_map_of_mem hz), rfl⟩
theorem srtT_nd (ss : List Tx) : (srtT ss).Nodup := by
  refine List.Pairwise.imp (R := (· < ·)) (fun {a b} h => ?_) (pw_srtT (l := ss))
  intro e
  subst e
  exact tlt_irr _ h
section
variable {X : Cx} {B : Hp} {W : WX}
def oSrtS (fa : Ev Opd) : Ev Ow := fun S st => (fa S st).bind fun a S st => match vw S st a with
  | some x => match asL x with
    | some ds => match strsD ds with
      | some ss => if ss.length < 1000 ∧ (srtT ss).length < 64 then .ok (.l ((srtT ss).map .str)) S st else .stuck
      | none => .stuck
    | none => .stuck
  | _ => .stuck
end
end DL
namespace DL
open PySem PySem.Spec PyProof.Rows L2
theorem rpk_keys {G : Gx} {F : Fz} : ∀ {kvs : List (Key × V)} {es : List (D × D)} {ss : List Tx}, RpK G F kvs es → es.map (·.1) = ss.map D.str → kvs.map (·.1) = (ss.map tx).map Sum.inr ∧ ∀ s ∈ ss, okS s = true
  | _, _, [], .nil, _ => ⟨rfl, fun _ h => by cases h⟩
  | _, _, _ :: _, .nil, h => by cases h
  | _, _, [], .cons .., h => by cases h
  | (k, v) :: vs, _ :: ds, s :: r, .cons ok _ t, h => by
    rw [List.map_cons, List.map_cons] at h
    obtain ⟨h1, h2⟩ := List.cons.inj h
    obtain ⟨a, b⟩ := rpk_keys t h2
    cases k with
    | inl i => cases h1
    | inr x =>
      have e : x.cps.toList = s := by
        have h1 : keyD (.inr x) = D.str s := h1
        simpa [keyD] using h1
      subst e
      refine ⟨by rw [List.map_cons, a]; rfl, fun z hz => ?_⟩
      rcases List.mem_cons.mp hz with q | q
      · rw [q]; exact ok
      · exact b z q
def rSortD : List V → Hp → VK → Prop := fun xs H Q => ∃ (a : Addr) (kvs : List (Key × V)) (ks : List Str), xs = [.ref a] ∧ Rd H a (.dK kvs) ∧ kvs.map (·.1) = ks.map Sum.inr ∧ ks.length < 64 ∧
    ∀ ys p, ys.Perm ks → sortedS ys = true → H p = none → Q (.ref p) (upd H p (.lst (ys.map V.str)))
theorem opR_sorted {X : Cx} (hc : X.calm = true) : CallR X (.builtin "sorted") rSortD := call_sortedD hc
def dSortF : List D → Option Ow
  | [.dic es] => match strsD (es.map (·.1)) with
    | some ss => if ss.length < 64 ∧ ss.Nodup then some (.l ((srtT ss).map .str)) else none
    | none => none
  | _ => none
theorem op_dSortF {G : Gx} : OpAF G rSortD dSortF := fun F H vs xs d f hv e => by
  unfold dSortF at e
  split at e
  · rename_i es
    split at e
    · rename_i ss hss
      split at e
      · rename_i hl
        cases e
        cases hv with
        | cons h t =>
          cases t
          obtain ⟨a, kvs, rfl, ha, r⟩ := vw_dic f h
          obtain ⟨e1, ok⟩ := rpk_keys r (strs_eq hss)
          intro Q q
          refine ⟨a, kvs, ss.map tx, rfl, ha, e1, by rw [List.length_map]; exact hl.1, fun ys p per hs hp => ?_⟩
          have nd : ys.Nodup := per.nodup_iff.mpr (by
            rw [List.Nodup, List.pairwise_map]
            exact hl.2.imp fun {a b} h e => h (tx_inj e))
          have e2 : (ys.map fun y => y.cps.toList) = srtT ss := pw_uniqT (sorted_pw nd hs) pw_srtT fun z => by rw [cps_mem (fun k => per.mem_iff), mem_srtT]
          have e3 : ys = (srtT ss).map tx := by rw [← e2, cps_map]
          rw [e3]
          exact q p _ hp (.l (rp_strsT fun s hs => ok s (mem_srtT.mp hs)))
      · cases e
    · cases e
  · cases e
end DL
namespace DL
open PySem PySem.Spec PyProof.Rows L2
def sPutL (fo : Ev Opd) (fv fk : Ev D) : EvS := fun S st => (fv S st).out fun d S st => (fo S st).out fun o S st => match o with
  | .h n => (fk S st).out fun k S st => match st[n]? with
    | some (.o (.k es)) => if isKey k = true ∧ es.length < 16777216 then .nx S (st.set n (.o (.k (putD es k d)))) else .stuck
    | _ => .stuck
  | _ => .stuck
def setAt (fo : Ev Opd) (fj : Ev D) (d : D) : EvS := fun S st => (fo S st).out fun a S st => match a with
  | .h n => (fj S st).out fun j S st => match j, st[n]? with
    | .int k, some (.o (.l ds)) => match ixN ds.length k with
      | some j => .nx S (st.set n (.o (.l (ds.set j d))))
      | none => .stuck
    | _, _ => .stuck
  | _ => .stuck
def sSet2 (fv : Ev D) (fo1 : Ev Opd) (fj1 : Ev D) (fo2 : Ev Opd) (fj2 : Ev D) : EvS := fun S st => (fv S st).out fun d S st => match d with
  | .tup [d1, d2] => (setAt fo1 fj1 d1 S st).then fun S st => setAt fo2 fj2 d2 S st
  | _ => .stuck
def oRng (fa : Ev D) : Ev Ow := fun S st => (fa S st).bind fun d S st => match d with
  | .int n => if -1000000 ≤ n ∧ n ≤ 1000000 then .ok (.l (rng n.toNat 0)) S st else .stuck
  | _ => .stuck
def ePopAt (i : Nat) (fj : Ev D) : Ev D := fun S st => match S[i]? with
  | some (.own (.l _)) => (fj S st).bind fun j S st => match j, S[i]? with
    | .int k, some (.own (.l ds)) => if 0 ≤ k ∧ k < 1000000 then match ds[k.toNat]? with
        | some d => .ok d (S.set i (.own (.l (ds.eraseIdx k.toNat)))) st
        | none => .stuck
      else .stuck
    | _, _ => .stuck
  | _ => .stuck
theorem PostS.imp {G : Gx} {B : Hp} {W : WX} {F : Fz} {Dn : Ends} {r : Out} {N : L2.St → Hp → Prop} (h : PostS G B W F Dn r) (i : ∀ σ H, Dn.nx σ H → N σ H) : PostS G B W F { Dn with nx := N } r := by
  cases r with
  | nx S st => exact fun σ' H' F' g o => i _ _ (h σ' H' F' g o)
  | ret d S st => exact h
  | bk S st => exact h
  | ct S st => exact h
  | rto w S st => exact h
  | exc x S st => exact h
  | stuck => exact h
theorem RpAll.erase {G : Gx} {F : Fz} : ∀ {vs : List V} {ds : List D} (i : Nat), RpAll G F vs ds → RpAll G F (vs.eraseIdx i) (ds.eraseIdx i)
  | _, _, _, .nil => .nil
  | _, _, 0, .cons _ t => t
  | _, _, i + 1, .cons h t => .cons h (RpAll.erase i t)
section
variable {X : Cx} {B : Hp} {W : WX} {e a b a1 b1 a2 b2 : Expr} {es : List Expr} {pos p p2 pos2 : Pos}
theorem ds_putL {fo : Ev Opd} {fv fk : Ev D} {tpos : Pos} (hu : X.A.units + 1 < cLine) (ho : DO X B W a fo) (hj : DE X B W b fk) (hv : DE X B W e fv) (hs : swapsWith e (some (.Subscript a b tpos)) pos.line X.env = pure false := by rfl) :
    DS X B W (.Assign [.Subscript a b tpos] e pos) (sPutL fo fv fk) :=
  ps_imp (ps_dput hu ho hj hv hs) fun D σ H ⟨F, S, st, o, q⟩ => ⟨F, S, st, o, (Post.out (R := RD (Cx.g X) σ) q).mono fun v H1 ⟨F1, d, S1, st1, g1, o1, r1, p1⟩ =>
    ⟨F1, S1, st1, o1, (Post.out (R := RO (Cx.g X) σ) p1).mono fun ov H2 ⟨F2, ao, S2, st2, g2, o2, r2, p2⟩ => by
      split at p2
      · rename_i n
        obtain ⟨aa, ha, rfl⟩ := r2
        refine ⟨F2, S2, st2, o2, (Post.out (R := RD (Cx.g X) σ) p2).mono fun kv H3 ⟨F3, k, S3, st3, g3, o3, r3, p3⟩ => ?_⟩
        split at p3
        · rename_i es hst3
          split at p3
          · rename_i hk
            obtain ⟨hk, hl⟩ := hk
            have ha3 := pre_get g3.1.2 ha
            obtain ⟨m1, m2, u3, m3, m4⟩ := o3.so.ob n _ aa hst3 ha3
            cases m4 with
            | kK m4 =>
              obtain ⟨k', rfl, rfl, ok⟩ := rp_key r3 hk
              exact ⟨aa, _, rfl, .inl ⟨_, k', m3, rfl, by rw [m4.length, sizeLine_eq]; exact hl, rfl⟩, p3 σ _ F3 .refl (o3.updO hst3 ha3 (.kK (m4.put ok ((r1.mono g2.1).mono g3.1))))⟩
          · exact p3.elim
        · exact p3.elim
      · exact p2.elim⟩⟩
end
end DL
namespace DL
open PySem PySem.Spec PyProof.Rows L2
abbrev Tk : Type := List (NestedKey × Addr × V)
def valT (kvs : Tk) (k : NestedKey) : Option V := (kvs.find? fun e => decide (e.1 = k)).map (·.2.2)
def storT (kvs : Tk) (k : NestedKey) (b : Addr) (v : V) : Tk := if (valT kvs k).isSome then kvs.map (fun e => if e.1 = k then (e.1, e.2.1, v) else e) else kvs ++ [(k, b, v)]
def KyAt (G : Gx) (H : Hp) (b : Addr) (k : NestedKey) : Prop := ∃ (F : Fz) (d : D), Same F.f H ∧ Rp G F (.ref b) d ∧ keyT d = some k
theorem keyT_tup {d : D} {k : NestedKey} (h : keyT d = some k) : ∃ ds, d = .tup ds ∧ keyN d = some k ∧ k.depth ≤ 8 := by
  unfold keyT at h
  split at h
  · rename_i ds
    split at h
    · rename_i k' hk
      split at h
      · rename_i hd
        cases h
        exact ⟨ds, rfl, hk, hd⟩
      · cases h
    · cases h
  · cases h
mutual
theorem nested_of {X : Cx} {pins : List (Addr × Obj)} {σ : L2.St} {H : Hp} {s : Shared} (I : Inv X pins σ H s) {F : Fz} (f : Same F.f H) : ∀ {d : D} {k : NestedKey} {v : V} {u : Value}, keyN d = some k → Rp (Cx.g X) F v d → RelV v u → NestedIs s.heap k u
  | .non, k, v, u, h, r, q => by
    cases h; cases r; cases q; exact .none
  | .int i, k, v, u, h, r, q => by
    cases h; cases r; obtain ⟨t, rfl⟩ := q; exact .int _ _
  | .str x, k, v, u, h, r, q => by
    cases h; cases r; obtain ⟨t, rfl⟩ := q; exact .text _ _
  | .tup ds, k, v, u, h, r, q => by
    rw [keyN] at h
    cases hk : keyNs ds with
    | none => rw [hk] at h; cases h
    | some ks =>
      rw [hk] at h
      cases h
      cases r with
      | tup h1 h2 =>
        cases q
        obtain ⟨its, rv, ⟨o, ho, hc, n, hd⟩, _⟩ := I.tuple (same_seqT f h1)
        exact .tup ho hc hd (by simpa using nested_all I f hk h2 rv)
  | .bl _, _, _, _, h, _, _ => by cases h
  | .lst _, _, _, _, h, _, _ => by cases h
  | .scr _, _, _, _, h, _, _ => by cases h
  | .dic _, _, _, _, h, _, _ => by cases h
  | .obj _ _, _, _, _, h, _, _ => by cases h
  | .ty _, _, _, _, h, _, _ => by cases h
  | .err _ _, _, _, _, h, _, _ => by cases h
  | .loc _, _, _, _, h, _, _ => by cases h
theorem nested_all {X : Cx} {pins : List (Addr × Obj)} {σ : L2.St} {H : Hp} {s : Shared} (I : Inv X pins σ H s) {F : Fz} (f : Same F.f H) : ∀ {ds : List D} {ks : List NestedKey} {vs : List V} {us : List Value}, keyNs ds = some ks → RpAll (Cx.g X) F vs ds → Vals vs us → NestedAll s.heap ks us
  | [], ks, vs, us, h, r, q => by
    cases h; cases r; cases q; exact .nil
  | d :: r0, ks, vs, us, h, r, q => by
    rw [keyNs] at h
    split at h
    · rename_i k ks' h1 h2
      cases h
      cases r with
      | cons a t =>
        cases q with
        | cons b t' => exact .cons (nested_of I f h1 a b) (nested_all I f h2 t t')
    · cases h
end
section
variable {X : Cx} {pins : List (Addr × Obj)} {σ : L2.St} {H : Hp} {s : Shared}
theorem key_at (I : Inv X pins σ H s) {b : Addr} {k : NestedKey} (h : KyAt (Cx.g X) H b k) : (nestedKind X.prog X.w).is s.heap k b := by
  obtain ⟨F, d, f, r, e⟩ := h
  obtain ⟨ds, rfl, e1, e2⟩ := keyT_tup e
  exact ⟨nested_of I f e1 r rfl, e2⟩
def rowsT (kvs : Tk) (us : List Value) : List (NestedKey × Addr × Value) := (kvs.zip us).map fun p => (p.1.1, p.1.2.1, p.2)
theorem rowsT_c (e : NestedKey × Addr × V) (r : Tk) (u : Value) (us : List Value) : rowsT (e :: r) (u :: us) = (e.1, e.2.1, u) :: rowsT r us := rfl
theorem rowsT_mem {x : NestedKey × Addr × Value} : ∀ {kvs : Tk} {us : List Value}, x ∈ rowsT kvs us → ∃ e ∈ kvs, e.1 = x.1 ∧ e.2.1 = x.2.1
  | [], _, h => by cases h
  | _ :: _, [], h => by cases h
  | e :: r, u :: us, h => by
    rw [rowsT_c] at h
    rcases List.mem_cons.mp h with h | h
    · subst h; exact ⟨e, List.mem_cons_self .., rfl, rfl⟩
    · obtain ⟨e', h1, h2⟩ := rowsT_mem h
      exact ⟨e', List.mem_cons_of_mem _ h1, h2⟩
theorem rowsT_keys : ∀ {kvs : Tk} {us : List Value}, Vals (kvs.map (·.2.2)) us → (rowsT kvs us).map (·.1) = kvs.map (·.1)
  | [], _, h => by cases h; rfl
  | e :: r, _, h => by
    cases h with
    | cons a t => rw [rowsT_c, List.map_cons, List.map_cons, rowsT_keys t]
theorem rowsT_len {kvs : Tk} {us : List Value} (h : Vals (kvs.map (·.2.2)) us) : (rowsT kvs us).length = kvs.length := by
  have := congrArg List.length (rowsT_keys h)
  simpa using this
theorem rowsT_val {k : NestedKey} : ∀ {kvs : Tk} {us : List Value}, Vals (kvs.map (·.2.2)) us → (match valT kvs k, atKey (rowsT kvs us) k with
    | some v, some p => RelV v p.2
    | none, none => True
    | _, _ => False)
  | [], _, h => by cases h; trivial
  | e :: r, _, h => by
    cases h with
    | @cons _ u _ us a t =>
      have ih := rowsT_val (k := k) t
      rw [rowsT_c]
      unfold valT atKey at *
      by_cases hk : e.1 = k
      · simp only [List.find?_cons, decide_eq_true hk, Option.map_some]; exact a
      · simp only [List.find?_cons, decide_eq_false hk]; exact ih
theorem tal_at (I : Inv X pins σ H s) {a : Addr} {kvs : Tk} (ha : IsTal X.w H a kvs) (ks : ∀ e ∈ kvs, KyAt (Cx.g X) H e.2.1 e.1) : kvs.length ≤ sizeLine ∧ (a == sysModules) = false ∧ ∃ us, Vals (kvs.map (·.2.2)) us ∧ s.heap.DictOfH (nestedKind X.prog X.w) a (rowsT kvs us) := by
  obtain ⟨ep, ha⟩ := ha
  obtain ⟨h1, h2, us, r, o, es, ho, hx, hd, he, hn⟩ := (I.hok a _ ha).1
  refine ⟨h1, h2, us, r, o, es, ep, ho, hx, hd, ?_, fun x hx => ?_, by rw [rowsT_keys r]; exact hn⟩
  · rw [he]
    unfold rowsT
    rw [List.map_map]; rfl
  · obtain ⟨e, hm, e1, e2⟩ := rowsT_mem hx
    rw [← e1, ← e2]
    exact key_at I (ks e hm)
theorem tal_ok {P : Program} {w : World} {H : Hp} {h : Heap} {a : Addr} {kvs : Tk} {us : List Value} (h1 : kvs.length ≤ sizeLine) (h2 : (a == sysModules) = false) (r : Vals (kvs.map (·.2.2)) us) {o : Obj} {es : Array DictEntry} {ep : Nat}
    (ho : h.get? a = some o) (hx : o.ExactDict) (hd : o.data = .dict es ep) (he : es.toList = (rowsT kvs us).map (entryOfKey (nestedKind P w))) (hn : ((rowsT kvs us).map (·.1)).Nodup) : ObjOk P w H h a (TalO w a kvs ep) := by
  refine ⟨⟨h1, h2, us, r, o, es, ho, hx, hd, ?_, by rw [← rowsT_keys r]; exact hn⟩, ⟨o, ho⟩, fun g1 g2 ⟨h1, h2, us, r, o, es, ho, hx, hd, he, hn⟩ st => ⟨h1, h2, us, r, o, es, st o ho, hx, hd, he, hn⟩⟩
  rw [he]
  unfold rowsT
  rw [List.map_map]; rfl
theorem storT_rows {k : NestedKey} {b : Addr} {v : V} {u : Value} (rv : RelV v u) : ∀ {kvs : Tk} {us : List Value}, Vals (kvs.map (·.2.2)) us → ∃ us', Vals ((storT kvs k b v).map (·.2.2)) us' ∧ rowsT (storT kvs k b v) us' = storedH (rowsT kvs us) k b u := fun {kvs us} r => by
  have hv := rowsT_val (k := k) r
  unfold storT storedH
  have key : ∀ {kvs : Tk} {us : List Value}, Vals (kvs.map (·.2.2)) us → ∃ us', Vals ((kvs.map fun e => if e.1 = k then (e.1, e.2.1, v) else e).map (·.2.2)) us' ∧ rowsT (kvs.map fun e => if e.1 = k then (e.1, e.2.1, v) else e) us' = (rowsT kvs us).map (putAt k u) := by
    intro kvs
    induction kvs with
    | nil => intro us r; cases r; exact ⟨[], .nil, rfl⟩
    | cons e t ih =>
      intro us r
      cases r with
      | @cons _ u0 _ us a r' =>
        obtain ⟨us', h1, h2⟩ := ih r'
        rw [List.map_cons]
        by_cases hk : e.1 = k
        · rw [if_pos hk]
          exact ⟨u :: us', .cons rv h1, by rw [rowsT_c, rowsT_c, List.map_cons, h2]; simp [putAt, hk]⟩
        · rw [if_neg hk]
          exact ⟨u0 :: us', .cons a h1, by rw [rowsT_c, rowsT_c, List.map_cons, h2]; simp [putAt, hk]⟩
  have app : ∀ {kvs : Tk} {us : List Value}, Vals (kvs.map (·.2.2)) us → Vals ((kvs ++ [(k, b, v)]).map (·.2.2)) (us ++ [u]) ∧ rowsT (kvs ++ [(k, b, v)]) (us ++ [u]) = rowsT kvs us ++ [(k, b, u)] := by
    intro kvs
    induction kvs with
    | nil => intro us r; cases r; exact ⟨.cons rv .nil, rfl⟩
    | cons e t ih =>
      intro us r
      cases r with
      | cons a r' =>
        obtain ⟨h1, h2⟩ := ih r'
        exact ⟨.cons a h1, by rw [List.cons_append, List.cons_append, rowsT_c, rowsT_c, h2]; rfl⟩
  cases h1 : valT kvs k with
  | none =>
    rw [h1] at hv
    cases h2 : atKey (rowsT kvs us) k with
    | none => simp only [Option.isSome_none, if_false, Bool.false_eq_true]; exact ⟨_, app r⟩
    | some p => rw [h2] at hv; exact hv.elim
  | some v0 =>
    rw [h1] at hv
    cases h2 : atKey (rowsT kvs us) k with
    | none => rw [h2] at hv; exact hv.elim
    | some p => simp only [Option.isSome_some, if_true]; exact key r
def tTalNew (w : World) : TE := fun _ H Q => ∀ p ep, H p = none → Q (.ref p) (upd H p (TalO w p [] ep))
theorem pe_talNew {pos : Pos} : PE X (.Dict [] [] pos) (tTalNew X.w) := ⟨fun pins s σ H Q I h =>
  wpAny_Dict_empty ⟨.ref s.heap.objs.size, _, I.laid (a := s.heap.objs.size) (o := TalO X.w s.heap.objs.size [] _) (t' := s.toks) (fun _ _ q => Heap.get?_push_of_some _ q) (Nat.le_refl _)
    (tal_ok (us := []) (Nat.zero_le _) (beq_eq_false_iff_ne.mpr (Ne.symm (Nat.ne_of_lt I.big))) .nil (Heap.get?_push_size _ rfl) ⟨rfl, rfl, rfl⟩ rfl rfl List.nodup_nil), rfl, h _ _ (I.hok.fresh (Nat.le_refl _))⟩⟩
def rTalGet (X : Cx) : V → List V → Hp → VK → Prop := fun x xs H Q => ∃ (a b : Addr) (kvs : Tk) (k : NestedKey) (d : V), x = .ref a ∧ xs = [.ref b, d] ∧ IsTal X.w H a kvs ∧ (∀ e ∈ kvs, KyAt (Cx.g X) H e.2.1 e.1) ∧ KyAt (Cx.g X) H b k ∧ Q ((valT kvs k).getD d) H
def rIxTal (X : Cx) : R2 := fun x y H Q => ∃ (a b : Addr) (kvs : Tk) (k : NestedKey) (v : V), x = .ref a ∧ y = .ref b ∧ IsTal X.w H a kvs ∧ (∀ e ∈ kvs, KyAt (Cx.g X) H e.2.1 e.1) ∧ KyAt (Cx.g X) H b k ∧ valT kvs k = some v ∧ Q v H
def rSetTal (X : Cx) : V → V → V → Hp → (Hp → Prop) → Prop := fun o i v H Q => ∃ (a b : Addr) (kvs : Tk) (k : NestedKey), o = .ref a ∧ i = .ref b ∧ IsTal X.w H a kvs ∧ (∀ e ∈ kvs, KyAt (Cx.g X) H e.2.1 e.1) ∧ KyAt (Cx.g X) H b k ∧ kvs.length < sizeLine ∧ ∀ ep, Q (upd H a (TalO X.w a (storT kvs k b v) ep))
theorem storT_len (kvs : Tk) (k : NestedKey) (b : Addr) (v : V) : (storT kvs k b v).length ≤ kvs.length + 1 := by
  unfold storT; split <;> simp
theorem set_tal (hu : X.A.units + 9 < cLine) : PSet X (rSetTal X) := by
  intro pins s σ H o i v ov iv u Q I ro ri rv ⟨a, b, kvs, k, eo, ei, ha, ks, hk, hl, q⟩
  subst eo; subst ei
  cases ro
  cases ri
  obtain ⟨h1, h2, us, r, dd⟩ := tal_at I ha ks
  obtain ⟨us', r', er⟩ := storT_rows (k := k) (b := b) rv r
  refine wpAny_setItem_heap (knd := nestedKind X.prog X.w) (hsz := by rw [rowsT_len r]; exact h1) (by show X.A.units + 1 + 8 < cLine; omega) (key_at I hk) dd fun h' dd' hs => ?_
  rw [← er] at dd'
  obtain ⟨o, es, ep, ho, hx, hd, he, _, hn⟩ := dd'
  exact ⟨_, I.write (e := a) (t' := _) (by obtain ⟨ep0, ha⟩ := ha; rw [ha]; trivial) (.inl rfl) (fun c w hc hw => (hs.2 c hc).trans hw) ⟨o, ho⟩ (tal_ok (Nat.le_trans (storT_len kvs k b v) hl) h2 r' ho hx hd he hn), q _⟩
def tTalGet (X : Cx) (to : TE) (t : TA) : TE := fun σ H Q => to σ H fun x H1 => (∃ a kvs, x = V.ref a ∧ IsTal X.w H1 a kvs ∧ ∀ e ∈ kvs, KyAt (Cx.g X) H1 e.2.1 e.1) ∧ t σ H1 fun xs H2 => rTalGet X x xs H2 Q
end
def valE (es : List (D × D)) (d : D) : Option D := (es.find? fun e => decide (keyT e.1 = keyT d)).map (·.2)
def storE (es : List (D × D)) (d x : D) : List (D × D) := if (valE es d).isSome then es.map (fun e => if keyT e.1 = keyT d then (e.1, x) else e) else es ++ [(d, x)]
section
variable {G : Gx} {F : Fz}
theorem rpT_val {k : NestedKey} {d : D} (hk : keyT d = some k) : ∀ {kvs : Tk} {es : List (D × D)}, RpT G F kvs es → (match valT kvs k, valE es d with
    | some v, some x => Rp G F v x
    | none, none => True
    | _, _ => False)
  | _, _, .nil => trivial
  | _, _, @RpT.cons _ _ k' a v vs d' x es e r rx t => by
    have ih := rpT_val hk t
    unfold valT valE at *
    by_cases h : k' = k
    · have h' : keyT d' = keyT d := by rw [e, hk, h]
      simp only [List.find?_cons, decide_eq_true h, decide_eq_true h', Option.map_some]; exact rx
    · have h' : ¬ keyT d' = keyT d := fun z => h (by rw [e, hk] at z; cases z; rfl)
      simp only [List.find?_cons, decide_eq_false h, decide_eq_false h']; exact ih
theorem rpT_len : ∀ {kvs : Tk} {es : List (D × D)}, RpT G F kvs es → kvs.length = es.length
  | _, _, .nil => rfl
  | _, _, .cons _ _ _ t => by rw [List.length_cons, List.length_cons, rpT_len t]
theorem rpT_keys {H : Hp} (f : Same F.f H) : ∀ {kvs : Tk} {es : List (D × D)}, RpT G F kvs es → ∀ e ∈ kvs, KyAt G H e.2.1 e.1
  | _, _, .nil, _, h => by cases h
  | _, _, .cons k r _ t, e, h => by
    rcases List.mem_cons.mp h with h | h
    · subst h; exact ⟨F, _, f, r, k⟩
    · exact rpT_keys f t e h
theorem rpT_map {k : NestedKey} {d : D} {v : V} {x : D} (hk : keyT d = some k) (rx : Rp G F v x) : ∀ {kvs : Tk} {es : List (D × D)}, RpT G F kvs es → RpT G F (kvs.map fun e => if e.1 = k then (e.1, e.2.1, v) else e) (es.map fun e => if keyT e.1 = keyT d then (e.1, x) else e)
  | _, _, .nil => .nil
  | _, _, @RpT.cons _ _ k' a v' vs d' x' es e r rx' t => by
    have ih := rpT_map hk rx t
    rw [List.map_cons, List.map_cons]
    by_cases h : k' = k
    · have h' : keyT d' = keyT d := by rw [e, hk, h]
      simp only [if_pos h, if_pos h']
      exact .cons e r rx ih
    · have h' : ¬ keyT d' = keyT d := fun z => h (by rw [e, hk] at z; cases z; rfl)
      simp only [if_neg h, if_neg h']
      exact .cons e r rx' ih
theorem rpT_app {k : NestedKey} {b : Addr} {d : D} {v : V} {x : D} (hk : keyT d = some k) (rb : Rp G F (.ref b) d) (rx : Rp G F v x) : ∀ {kvs : Tk} {es : List (D × D)}, RpT G F kvs es → RpT G F (kvs ++ [(k, b, v)]) (es ++ [(d, x)])
  | _, _, .nil => .cons hk rb rx .nil
  | _, _, .cons e r rx' t => .cons e r rx' (rpT_app hk rb rx t)
theorem rpT_stor {k : NestedKey} {b : Addr} {d : D} {v : V} {x : D} (hk : keyT d = some k) (rb : Rp G F (.ref b) d) (rx : Rp G F v x) {kvs : Tk} {es : List (D × D)} (r : RpT G F kvs es) : RpT G F (storT kvs k b v) (storE es d x) := by
  have hv := rpT_val hk r
  unfold storT storE
  cases h1 : valT kvs k with
  | none =>
    rw [h1] at hv
    cases h2 : valE es d with
    | none => simp only [Option.isSome_none, if_false, Bool.false_eq_true]; exact rpT_app hk rb rx r
    | some p => rw [h2] at hv; exact hv.elim
  | some v0 =>
    rw [h1] at hv
    cases h2 : valE es d with
    | none => rw [h2] at hv; exact hv.elim
    | some p => simp only [Option.isSome_some, if_true]; exact rpT_map hk rx r
end
def tNw : Ev D := fun S st => .ok (.loc st.length) S (st ++ [.t []])
def tGt (fo : Ev Opd) (fa : Ev (List Opd)) : Ev D := fun S st => (fo S st).bind fun o S st => match o with
  | .h n => match st[n]? with
    | some (.t _) => (fa S st).bind fun a S st => match vds S a, st[n]? with
      | some [k, d], some (.t es) => if (keyT k).isSome then .ok ((valE es k).getD d) S st else .stuck
      | _, _ => .stuck
    | _ => .stuck
  | _ => .stuck
def tIx (fo fk : Ev Opd) : Ev D := fun S st => (fo S st).bind fun o S st => (fk S st).bind fun k S st => match o with
  | .h n => match vd S k with
    | some k => match st[n]? with
      | some (.t es) => match keyT k with
        | some _ => match valE es k with
          | some x => .ok x S st
          | none => .stuck
        | none => .stuck
      | _ => .stuck
    | none => .stuck
  | _ => .stuck
def tPt (fo : Ev Opd) (fv fk : Ev D) : EvS := fun S st => (fv S st).out fun d S st => (fo S st).out fun o S st => match o with
  | .h n => (fk S st).out fun k S st => match st[n]? with
    | some (.t es) => if (keyT k).isSome ∧ es.length < 16777216 then .nx S (st.set n (.t (storE es k d))) else .stuck
    | _ => .stuck
  | _ => .stuck
theorem isSome_ex {α : Type} {o : Option α} (h : o.isSome = true) : ∃ x, o = some x := by
  cases o with
  | none => cases h
  | some x => exact ⟨x, rfl⟩
section
variable {X : Cx} {B : Hp} {W : WX} {e a b : Expr} {es : List Expr} {pos : Pos}
theorem de_tN : DE X B W (.Dict [] [] pos) tNw :=
  pe_imp pe_talNew fun σ H Q ⟨F, S, st, o, q⟩ => fun p ep hp => by
    have o2 := o.more (H' := upd H p (TalO X.w p [] ep)) (fun c u hc => by rw [upd_ne (fun z => by subst z; rw [hp] at hc; cases hc)]; exact hc)
    obtain ⟨g', o'⟩ := o2.allocB (p := p) (x := .t []) ⟨[], ⟨ep, upd_same⟩, .nil⟩ (o.fH.free hp) (o.kp.free hp) (o.so.new hp) fun j es e1 e2 => by
      obtain ⟨p', xs', e3, h1, _⟩ := o.sl j _ e1
      rw [e2] at e3; cases e3
      rw [hp] at h1; cases h1
    refine q (.ref p) _ _ g' o' (.loc ?_)
    show (F.m ++ [p])[st.length]? = some p
    rw [← o.so.ml, List.getElem?_append_right (Nat.le_refl _), Nat.sub_self]; rfl
theorem ds_tP {fo : Ev Opd} {fv fk : Ev D} {tpos : Pos} (hu : X.A.units + 9 < cLine) (ho : DO X B W a fo) (hj : DE X B W b fk) (hv : DE X B W e fv) (hs : swapsWithSole [.Subscript a b tpos] e pos.line X.env = pure false := by rfl) (hw : swappedStores [.Subscript a b tpos] e X.env = pure none := by rfl)
    (h1 : (assignEach [.Subscript a b tpos] X.env).map (·.2) = [assign (.Subscript a b tpos) X.env] := by rfl)
    (ha : ∀ v, assign (.Subscript a b tpos) X.env v = (do
      let ov ← holding [v] (eval a X.env)
      let iv ← holding [v, ov] (eval b X.env)
      standAt tpos
      holding [v, ov, iv] (setItem ov iv v)
      release [v, ov, iv] []) := by intro _; rfl) : DS X B W (.Assign [.Subscript a b tpos] e pos) (tPt fo fv fk) :=
  ps_imp (ps_asg hv (pg_sub ho hj (set_tal hu) ha) hs hw h1) fun D σ H ⟨F, S, st, o, q⟩ => ⟨F, S, st, o, (Post.out (R := RD (Cx.g X) σ) q).mono fun v H1 ⟨F1, d, S1, st1, g1, o1, r1, p1⟩ =>
    ⟨F1, S1, st1, o1, (Post.out (R := RO (Cx.g X) σ) p1).mono fun ov H2 ⟨F2, ao, S2, st2, g2, o2, r2, p2⟩ => by
      split at p2
      · rename_i n
        obtain ⟨aa, ha1, rfl⟩ := r2
        refine ⟨F2, S2, st2, o2, (Post.out (R := RD (Cx.g X) σ) p2).mono fun kv H3 ⟨F3, k, S3, st3, g3, o3, r3, p3⟩ => ?_⟩
        split at p3
        · rename_i es hst3
          split at p3
          · rename_i hk
            obtain ⟨hk, hl⟩ := hk
            obtain ⟨kk, hk⟩ := isSome_ex hk
            have ha3 := pre_get g3.1.2 ha1
            obtain ⟨_, _, kvs, m3, m4⟩ := o3.so.ob n _ aa hst3 ha3
            obtain ⟨ds, e1, _, _⟩ := keyT_tup hk
            subst e1
            have rk0 := r3
            cases r3 with
            | @tup b _ _ h1 h2 =>
              refine ⟨aa, b, kvs, kk, rfl, rfl, m3, rpT_keys o3.fH m4, ⟨F3, _, o3.fH, rk0, hk⟩, by rw [rpT_len m4, sizeLine_eq]; exact hl, fun ep => p3 σ _ F3 .refl (o3.updB hst3 ha3 (fun z q => by obtain ⟨ep0, m3⟩ := m3; rw [m3] at q; exact tal_not z (Option.some.inj q)) ⟨_, ⟨ep, upd_same⟩, rpT_stor hk rk0 ((r1.mono g2.1).mono g3.1) m4⟩)⟩
          · exact p3.elim
        · exact p3.elim
      · exact p2.elim⟩⟩
end
end DL
namespace DL
open PySem PySem.Spec PyProof.Rows L2
def dropT (kvs : Tk) (k : NestedKey) : Tk := kvs.filter fun e => decide (e.1 ≠ k)
def rInTal (X : Cx) (neg : Bool) : R2 := fun x y H Q => ∃ (a b : Addr) (kvs : Tk) (k : NestedKey), x = .ref b ∧ y = .ref a ∧ IsTal X.w H a kvs ∧ (∀ e ∈ kvs, KyAt (Cx.g X) H e.2.1 e.1) ∧ KyAt (Cx.g X) H b k ∧ Q (.bl (neg != (valT kvs k).isSome)) H
section
variable {X : Cx}
def rTalGet1 (X : Cx) : V → List V → Hp → VK → Prop := fun x xs H Q => ∃ (a b : Addr) (kvs : Tk) (k : NestedKey), x = .ref a ∧ xs = [.ref b] ∧ IsTal X.w H a kvs ∧ (∀ e ∈ kvs, KyAt (Cx.g X) H e.2.1 e.1) ∧ KyAt (Cx.g X) H b k ∧ Q ((valT kvs k).getD .non) H
theorem mt_talGet1 (hu : X.A.units + 9 < cLine) : MtR X "dict.get" (rTalGet1 X) := by
  intro pins s σ H x xs v us Q I rx rxs ⟨a, b, kvs, k, ex, exs, ha, ks, hk, q⟩
  subst ex; subst exs
  cases rx
  cases rxs with
  | cons rb rt =>
    cases rb
    cases rt
    obtain ⟨h1, h2, us, r, dd⟩ := tal_at I ha ks
    refine get_keyed (knd := nestedKind X.prog X.w) (by show X.A.units + 1 + 8 < cLine; omega) (key_at I hk) h2 ⟨_, dd, rfl⟩ ?_
    rw [valueAt_pairsH]
    have hv := rowsT_val (k := k) r
    refine ⟨_, H, I.tok _, ?_, q⟩
    cases e1 : valT kvs k with
    | none =>
      rw [e1] at hv
      cases e2 : atKey (rowsT kvs us) k with
      | none => rfl
      | some p => rw [e2] at hv; exact hv.elim
    | some v0 =>
      rw [e1] at hv
      cases e2 : atKey (rowsT kvs us) k with
      | none => rw [e2] at hv; exact hv.elim
      | some p => rw [e2] at hv; exact hv
def rTalPop (X : Cx) : V → List V → Hp → VK → Prop := fun x xs H Q => ∃ (a b : Addr) (kvs : Tk) (k : NestedKey) (v : V), x = .ref a ∧ xs = [.ref b] ∧ IsTal X.w H a kvs ∧ (∀ e ∈ kvs, KyAt (Cx.g X) H e.2.1 e.1) ∧ KyAt (Cx.g X) H b k ∧ valT kvs k = some v ∧ ∀ ep, Q v (upd H a (TalO X.w a (dropT kvs k) ep))
def tTalM (X : Cx) (R : V → List V → Hp → VK → Prop) (to : TE) (t : TA) : TE := fun σ H Q => to σ H fun x H1 => (∃ a kvs, x = V.ref a ∧ IsTal X.w H1 a kvs ∧ ∀ e ∈ kvs, KyAt (Cx.g X) H1 e.2.1 e.1) ∧ t σ H1 fun xs H2 => R x xs H2 Q
theorem pe_talG {R : V → List V → Hp → VK → Prop} {o e : Expr} {es : List Expr} {to : TE} {t : TA} {apos cpos : Pos} (hR : MtR X "dict.get" R) (ho : PE X o to) (ha : PA X (e :: es) t)
    (hbase : attributeBase o "get" X.env (eval o X.env) = eval o X.env := by rfl)
    (hfew : ((backTo cpos (starEach (e :: es) X.env)).all (fun x => !x.1) && (backToKw cpos (keywordEach [] X.env)).all (fun x => x.1.isSome)
      && decide ((e :: es).length + ([] : List Keyword).length + (if ([] : List Keyword).isEmpty then 0 else 1) < 30)) = true := by rfl)
    (hline : (apos.endLine == cpos.line) = true := by rfl) (hs : starEach (e :: es) X.env = (false, eval e X.env) :: starEach es X.env := by rfl) (hplain : (backTo cpos (starEach es X.env)).any (·.1) = false := by rfl) :
    PE X (.Call (.Attribute o "get" apos) (e :: es) [] cpos) (tTalM X R to t) := by
  refine ⟨fun pins s σ H Q I h => wpAny_Call_method_late hbase hfew hline rfl (thn (ho.run pins s σ H _ I h) fun v s1 ⟨x, H1, I1, r1, ⟨a, kvs, ex, hka, ks⟩, q1⟩ => ?_)⟩
  subst ex
  obtain ⟨_, _, us, _, dd⟩ := tal_at I1 hka ks
  cases r1
  refine ⟨"dict", "dict.get", PySem.F.plainAttrs_dict, PySem.F.slot_dict_get, PySem.F.type_dict_get, dd.typeIs, PyProof.Rows.dictOfH_noDict dd, ?_⟩
  have hA := ha.run cpos pins s1 σ H1 _ I1 q1
  rw [hs] at hA ⊢
  exact Calls.callWith_builtin (by show (false || (backTo cpos (starEach es X.env)).any (·.1)) = false; rw [hplain] <;> rfl) (Calls.evalArgs_plain (thn hA fun us2 s2 ⟨vs, H2, I2, r2, q2⟩ => hR pins s2 σ H2 (.ref a) vs (.ref a) us2 Q I2 rfl r2 q2))
end
def dropE (es : List (D × D)) (d : D) : List (D × D) := es.filter fun e => decide (keyT e.1 ≠ keyT d)
def tIn (neg : Bool) (fk fo : Ev Opd) : Ev D := fun S st => (fk S st).bind fun k S st => (fo S st).bind fun o S st => match o with
  | .h n => match vd S k with
    | some k => match st[n]? with
      | some (.t es) => if (keyT k).isSome then .ok (.bl (neg != (valE es k).isSome)) S st else .stuck
      | _ => .stuck
    | none => .stuck
  | _ => .stuck
def tGo (fo : Ev Opd) (fa : Ev (List Opd)) : Ev D := fun S st => (fo S st).bind fun o S st => match o with
  | .h n => match st[n]? with
    | some (.t _) => (fa S st).bind fun a S st => match vds S a, st[n]? with
      | some [k], some (.t es) => if (keyT k).isSome then .ok ((valE es k).getD .non) S st else .stuck
      | _, _ => .stuck
    | _ => .stuck
  | _ => .stuck
def tPo (fo : Ev Opd) (fa : Ev (List Opd)) : Ev D := fun S st => (fo S st).bind fun o S st => match o with
  | .h n => match st[n]? with
    | some (.t _) => (fa S st).bind fun a S st => match vds S a, st[n]? with
      | some [k], some (.t es) => match keyT k, valE es k with
        | some _, some x => .ok x S (st.set n (.t (dropE es k)))
        | _, _ => .stuck
      | _, _ => .stuck
    | _ => .stuck
  | _ => .stuck
section
variable {X : Cx} {B : Hp} {W : WX} {e a b : Expr} {es : List Expr} {pos : Pos}
theorem de_tGo {fo : Ev Opd} {fa : Ev (List Opd)} {apos cpos : Pos} (hu : X.A.units + 9 < cLine) (ho : DO X B W a fo) (ha : DA X B W (e :: es) fa)
    (hbase : attributeBase a "get" X.env (eval a X.env) = eval a X.env := by rfl)
    (hfew : ((backTo cpos (starEach (e :: es) X.env)).all (fun x => !x.1) && (backToKw cpos (keywordEach [] X.env)).all (fun x => x.1.isSome)
      && decide ((e :: es).length + ([] : List Keyword).length + (if ([] : List Keyword).isEmpty then 0 else 1) < 30)) = true := by rfl)
    (hline : (apos.endLine == cpos.line) = true := by rfl) (hs : starEach (e :: es) X.env = (false, eval e X.env) :: starEach es X.env := by rfl) (hplain : (backTo cpos (starEach es X.env)).any (·.1) = false := by rfl) :
    DE X B W (.Call (.Attribute a "get" apos) (e :: es) [] cpos) (tGo fo fa) :=
  pe_imp (pe_talG (mt_talGet1 hu) ho ha hbase hfew hline hs hplain) fun σ H Q ⟨F, S, st, o, q⟩ => ⟨F, S, st, o, (Post.bind (R := RO (Cx.g X) σ) q).mono fun v H1 ⟨F1, ao, S1, st1, g1, o1, r1, p1⟩ => by
    split at p1
    · rename_i n
      obtain ⟨aa, ha1, rfl⟩ := r1
      split at p1
      · rename_i es0 hst0
        obtain ⟨_, _, kvs0, k3, k4⟩ := o1.so.ob n _ aa hst0 ha1
        refine ⟨⟨aa, kvs0, rfl, k3, rpT_keys o1.fH k4⟩, F1, S1, st1, o1, (Post.bind (R := RpO (Cx.g X) σ) p1).mono fun vs H2 ⟨F2, al, S2, st2, g2, o2, r2, p2⟩ => ?_⟩
        split at p2
        · rename_i k es hd hst2
          split at p2
          · rename_i hk
            obtain ⟨kk, hk⟩ := isSome_ex hk
            have ha2 := pre_get g2.1.2 ha1
            obtain ⟨_, _, kvs, m3, m4⟩ := o2.so.ob n _ aa hst2 ha2
            have ra := o2.vds r2 hd
            cases ra with
            | cons rk t =>
              cases t
              obtain ⟨ds, e1, _, _⟩ := keyT_tup hk
              subst e1
              have rk0 := rk
              cases rk with
              | @tup b _ _ h1 h2 =>
                have hv := rpT_val hk m4
                refine ⟨aa, b, kvs, kk, rfl, rfl, m3, rpT_keys o2.fH m4, ⟨F2, _, o2.fH, rk0, hk⟩, p2 _ H2 F2 .refl o2 ?_⟩
                cases e1 : valT kvs kk with
                | none =>
                  rw [e1] at hv
                  cases e2 : valE es (.tup ds) with
                  | none => exact .non
                  | some x => rw [e2] at hv; exact hv.elim
                | some v0 =>
                  rw [e1] at hv
                  cases e2 : valE es (.tup ds) with
                  | none => rw [e2] at hv; exact hv.elim
                  | some x => rw [e2] at hv; exact hv
          · exact p2.elim
        · exact p2.elim
      · exact p1.elim
    · exact p1.elim⟩
end
end DL
namespace DL
open PySem PySem.Spec PyProof.Rows L2
def DTk (P : Params) : List DictEntry → List (List Nat) → Prop
  | [], [] => True
  | e :: r, q :: s => (∃ t, e.key = .str (tx q) t ∧ e.hash = PyData.keyHash P (tx q)) ∧ DTk P r s
  | _, _ => False
structure KTk (K : PySem.W.Frag) (w : World) (a : Addr) (ks : List (List Nat)) : Prop where
  ex : ∃ es n, K.lookup a = some ⟨.type "dict", none, .dict es n, #[]⟩ ∧ DTk w.params es.toList ks ∧ (a == sysModules) = false
theorem DTk.lit {P : Params} : ∀ {es : List DictEntry} {ks : List (List Nat)}, DTk P es ks → PySem.W.KeysLit P es
  | [], [], _ => trivial
  | e :: r, q :: s, ⟨⟨t, h1, h2⟩, h⟩ => ⟨⟨_, t, h1, h2⟩, DTk.lit h⟩
theorem DTk.find {P : Params} (z : List Nat) : ∀ {es : List DictEntry} {ks : List (List Nat)}, DTk P es ks → ((es.find? (·.key.isStr (tx z))).isSome = decide (z ∈ ks)) ∧ es.any (·.refKey) = false
  | [], [], _ => ⟨rfl, rfl⟩
  | e :: r, k :: s, ⟨⟨t, h1, h2⟩, h⟩ => by
    obtain ⟨ih, ir⟩ := DTk.find z h
    have hk : e.key.isStr (tx z) = decide (k = z) := by
      rw [h1]; show (tx k == tx z) = _; exact tx_beq k z
    have hr : e.refKey = false := by unfold DictEntry.refKey; rw [h1]
    refine ⟨?_, by rw [List.any_cons, hr, ir]; rfl⟩
    by_cases hz : k = z
    · subst hz
      rw [List.find?_cons, hk]; simp
    · rw [List.find?_cons, hk, decide_eq_false hz]
      have : ¬ z = k := fun y => hz y.symm
      simpa [this] using ih
theorem KTk.look {K : PySem.W.Frag} {w : World} {a : Addr} {ks : List (List Nat)} (T : KTk K w a ks) (z : List Nat) : ∃ r : Option Value, PySem.W.nsIn K a (tx z) = some r ∧ r.isSome = decide (z ∈ ks) := by
  obtain ⟨es, n, hl, hd, _⟩ := T.ex
  obtain ⟨h1, h2⟩ := hd.find z
  unfold PySem.W.nsIn
  rw [hl]
  show ∃ r : Option Value, (match es.toList.find? (·.key.isStr (tx z)) with
      | some e => some (some e.val)
      | none => if es.toList.any (·.refKey) then none else some none) = some r ∧ _
  rw [h2]
  cases hq : es.toList.find? (·.key.isStr (tx z)) with
  | none => rw [hq] at h1; exact ⟨none, rfl, h1⟩
  | some e => rw [hq] at h1; exact ⟨some e.val, rfl, h1⟩
theorem KTk.kd {K : PySem.W.Frag} {w : World} {a : Addr} {ks : List (List Nat)} (T : KTk K w a ks) : ∃ es n, KDict K w a es n := by
  obtain ⟨es, n, hl, hd, hs⟩ := T.ex
  exact ⟨es, n, ⟨hl, hd.lit, hs⟩⟩
def dHasK (ks : List (List Nat)) : D → Option D
  | .str z => some (.bl (decide (z ∈ ks)))
  | _ => none
@[simp] theorem dHasK_s (ks : List (List Nat)) (z : List Nat) : dHasK ks (.str z) = some (.bl (decide (z ∈ ks))) := rfl
section
variable {X : Cx} {B : Hp} {W : WX} {e : Expr} {x : Str} {p pos : Pos} {a : Addr} {ks : List (List Nat)} {fa : Ev Opd}
end
def rDictP (K : PySem.W.Frag) : List V → Hp → VK → Prop := fun xs H Q => ∃ (a : Addr) (ps : List Addr) (kvs : List (Key × V)), xs = [.ref a] ∧ SqL K H a (ps.map V.ref) ∧ Paired (fun p kv => SqT K H p [kV kv.1, kv.2]) ps kvs ∧
    ∀ p, H p = none → Q (.ref p) (upd H p (.dK (mergeK [] kvs)))
def pairsD : List D → Option (List (D × D))
  | [] => some []
  | .tup [k, x] :: r => if isKey k = true then (pairsD r).map ((k, x) :: ·) else none
  | _ => none
def dDictF : List D → Option Ow
  | [.lst ds] => (pairsD ds).map fun es => .k (mergeD [] es)
  | _ => none
structure MDefV (P : Program) (w : World) (K : PySem.W.Frag) (mg : Str → Option Value) (base : Heap) (k : Nat) (m : Str) (n : Nat) (cs : List Nat) (tab : Nat → CallT) (v : V) : Prop where
  ex : ∀ c ∈ cs, ∀ C, mg (nmS c) = some (.ref C) → ∃ f fd ps u, Cls K C ∧ Meth K C m f ∧ FnOk P w K mg base (L2.CX P w) k f fd ps (spOf ⟨K, mg, w⟩ (n + 1) (tab c)) ∧ RelV v u ∧ Binds K fd ps [u]
theorem MDefV.mono {P : Program} {w : World} {K : PySem.W.Frag} {mg : Str → Option Value} {base : Heap} {k j : Nat} {m : Str} {n : Nat} {cs : List Nat} {tab : Nat → CallT} {v : V} (d : MDefV P w K mg base k m n cs tab v) (h : k ≤ j) : MDefV P w K mg base j m n cs tab v :=
  ⟨fun c hc C hC => by
    obtain ⟨f, fd, ps, u, a1, a2, a3, a4, a5⟩ := d.ex c hc C hC
    exact ⟨f, fd, ps, u, a1, a2, a3.mono h, a4, a5⟩⟩
theorem MDefV.nil {P : Program} {w : World} {K : PySem.W.Frag} {mg : Str → Option Value} {base : Heap} {k : Nat} {m : Str} {n : Nat} {tab : Nat → CallT} {v : V} : MDefV P w K mg base k m n [] tab v := ⟨fun _ h => by cases h⟩
theorem MDefV.cons {P : Program} {w : World} {K : PySem.W.Frag} {mg : Str → Option Value} {base : Heap} {k : Nat} {m : Str} {n : Nat} {tab : Nat → CallT} {v : V} {c : Nat} {cs : List Nat} {C f : Addr} {fd : FuncData} {ps : List Str} (h : mg (nmS c) = some (.ref C)) (h1 : Cls K C) (h2 : Meth K C m f)
    (h3 : FnOk P w K mg base (L2.CX P w) k f fd ps (spOf ⟨K, mg, w⟩ (n + 1) (tab c))) (h4 : ∃ u, RelV v u ∧ Binds K fd ps [u]) (t : MDefV P w K mg base k m n cs tab v) : MDefV P w K mg base k m n (c :: cs) tab v := ⟨fun x hx C' hC => by
  rcases List.mem_cons.mp hx with z | z
  · subst z
    rw [h] at hC; cases hC
    obtain ⟨u, a, b⟩ := h4
    exact ⟨f, fd, ps, u, h1, h2, h3, a, b⟩
  · exact t.ex x z C' hC⟩
def tMethXd (X : Cx) (m : Str) (W : WX) (v : V) (ta : TE) (t : TA) : TE := fun σ H Q => ta σ H fun x H1 => ∃ (a C dx : Addr) (fs : List (Str × V)) (f : Addr) (fd : FuncData) (ps : List Str) (k : Nat) (sp : Sp) (u : Value), x = .ref a ∧ H1 a = some (.ins C dx fs) ∧ fs.lookup m = none ∧
  Cls X.K C ∧ Meth X.K C m f ∧ FnOk X.prog X.w X.K X.mg X.base (L2.CX X.prog X.w) k f fd ps sp ∧ Room k X.A ∧ RelV v u ∧ Binds X.K fd ps [u] ∧ t σ H1 fun vs H2 => sp ((.ref a :: vs) ++ [v]) H2 Q (WE W σ)
section
variable {X : Cx} {B : Hp} {W : WX} {e a : Expr} {es : List Expr} {pos : Pos}
end
end DL
namespace DL
open PySem PySem.Spec PyProof.Rows L2
def DTr (P : Params) : List DictEntry → List (List Nat × Addr) → Prop
  | [], [] => True
  | e :: r, q :: s => (∃ t, e.key = .str (tx q.1) t ∧ e.hash = PyData.keyHash P (tx q.1) ∧ e.val = .ref q.2) ∧ DTr P r s
  | _, _ => False
inductive TupsK (K : PySem.W.Frag) : List (List Nat × Addr) → List (List Nat × List (List Nat)) → Prop
  | nil : TupsK K [] []
  | cons {k : List Nat} {T : Addr} {od : Option Addr} {its : Array Value} {n : Nat} {sl : Array (Option Value)} {ss : List (List Nat)} {r : List (List Nat × Addr)} {s : List (List Nat × List (List Nat))} :
      K.lookup T = some ⟨.type "tuple", od, .seq its n, sl⟩ → its.size ≤ sizeLine → Vals (ss.map fun s => V.str (tx s)) its.toList → TupsK K r s → TupsK K ((k, T) :: r) ((k, ss) :: s)
structure KTt (K : PySem.W.Frag) (w : World) (a : Addr) (tab : List (List Nat × List (List Nat))) : Prop where
  ex : ∃ es n ts, K.lookup a = some ⟨.type "dict", none, .dict es n, #[]⟩ ∧ DTr w.params es.toList ts ∧ TupsK K ts tab ∧ (a == sysModules) = false
theorem DTr.lit {P : Params} : ∀ {es : List DictEntry} {ts : List (List Nat × Addr)}, DTr P es ts → PySem.W.KeysLit P es
  | [], [], _ => trivial
  | e :: r, q :: s, ⟨⟨t, h1, h2, _⟩, h⟩ => ⟨⟨_, t, h1, h2⟩, DTr.lit h⟩
theorem DTr.k {P : Params} {K : PySem.W.Frag} : ∀ {es : List DictEntry} {ts : List (List Nat × Addr)} {tab : List (List Nat × List (List Nat))}, DTr P es ts → TupsK K ts tab → DTk P es (tab.map (·.1))
  | [], [], _, _, .nil => trivial
  | e :: r, _ :: _, _ :: _, ⟨⟨t, h1, h2, _⟩, h⟩, .cons _ _ _ z => ⟨⟨t, h1, h2⟩, DTr.k h z⟩
theorem KTt.kk {K : PySem.W.Frag} {w : World} {a : Addr} {tab : List (List Nat × List (List Nat))} (T : KTt K w a tab) : KTk K w a (tab.map (·.1)) := by
  obtain ⟨es, n, ts, h1, h2, h3, h4⟩ := T.ex
  exact ⟨es, n, h1, h2.k h3, h4⟩
def lookKt (z : List Nat) : List (List Nat × List (List Nat)) → Option (List (List Nat))
  | [] => none
  | (k, v) :: r => if k = z then some v else lookKt z r
theorem DTr.find {P : Params} {K : PySem.W.Frag} (z : List Nat) : ∀ {es : List DictEntry} {ts : List (List Nat × Addr)} {tab : List (List Nat × List (List Nat))} {ss : List (List Nat)}, DTr P es ts → TupsK K ts tab → lookKt z tab = some ss →
    ∃ (e : DictEntry) (T : Addr) (od : Option Addr) (its : Array Value) (n : Nat) (sl : Array (Option Value)), es.find? (·.key.isStr (tx z)) = some e ∧ e.val = .ref T ∧ K.lookup T = some ⟨.type "tuple", od, .seq its n, sl⟩ ∧ its.size ≤ sizeLine ∧ Vals (ss.map fun s => V.str (tx s)) its.toList
  | [], [], _, ss, _, .nil, h => by cases h
  | [], _ :: _, _, _, h, _, _ => h.elim
  | _ :: _, [], _, _, h, _, _ => h.elim
  | _ :: _, _ :: _, [], _, _, z, _ => by cases z
  | e :: r, q :: s, p :: s', ss, hd, hz, hl => by
    obtain ⟨⟨t, h1, h2, h3⟩, h⟩ := hd
    cases hz with
    | @cons k T od its n sl ss' _ _ l1 l2 l3 z' =>
      have hk : e.key.isStr (tx z) = decide (k = z) := by
        rw [h1]; show (tx k == tx z) = _; exact tx_beq k z
      unfold lookKt at hl
      by_cases hz : k = z
      · rw [if_pos hz] at hl
        cases hl
        exact ⟨e, T, od, its, n, sl, by rw [List.find?_cons, hk, decide_eq_true hz], h3, l1, l2, l3⟩
      · rw [if_neg hz] at hl
        obtain ⟨e', T', od', its', n', sl', q1, q2⟩ := DTr.find z h z' hl
        exact ⟨e', T', od', its', n', sl', by rw [List.find?_cons, hk, decide_eq_false hz]; exact q1, q2⟩
def dGetKt (tab : List (List Nat × List (List Nat))) : D → Option D
  | .str z => match lookKt z tab with
    | some ss => if ss.all okS = true then some (.tup (ss.map .str)) else none
    | none => none
  | _ => none
section
variable {X : Cx} {B : Hp} {W : WX} {e : Expr} {x : Str} {p pos : Pos} {a : Addr} {tab : List (List Nat × List (List Nat))} {fa : Ev Opd}
end
def rDGet1 : V → List V → Hp → VK → Prop := fun x xs H Q => ∃ a y o, x = .ref a ∧ xs = [y] ∧ DGet H a y o ∧ Q (o.getD .non) H
def dGetM : D → List D → Option D
  | .dic es, [k] => if isKey k = true then some ((lookD es k).getD .non) else none
  | _, _ => none
def dSortT : List D → Option Ow
  | [.lst ds] => match strsD ds with
    | some ss => if ss.length < 64 ∧ ss.Nodup then some (.l ((srtT ss).map .str)) else none
    | none => none
  | _ => none
def one1 : D → D → Option Ow
  | .str s, x => some (.k [(.str s, x)])
  | _, _ => none
def kF1 (fk fv : Ev D) : Ev Ow := fun S st => (fk S st).calm.bind fun k S st => (fv S st).calm.bind fun x S st => got (one1 k x) S st
section
variable {X : Cx} {B : Hp} {W : WX} {pos : Pos}
end
end DL
namespace DL
open PySem PySem.Spec PyProof.Rows L2
section
variable {X : Cx} {pins : List (Addr × Obj)} {σ : L2.St} {H : Hp} {s : Shared}
end
def ItT (w : World) (a : Addr) (n ep : Nat) (p : Addr × V → V) : It :=
  ⟨fun i H => i < n ∧ ∃ kvs : Tk, H a = some (TalO w a kvs ep) ∧ kvs.length = n,
    fun i H v H' => H' = H ∧ ∀ kvs : Tk, H a = some (TalO w a kvs ep) → ∃ e, kvs[i]? = some e ∧ v = p e.2,
    fun i H => n ≤ i ∧ ∃ kvs : Tk, H a = some (TalO w a kvs ep) ∧ kvs.length = n⟩
def ItN (w : World) (a : Addr) (n ep : Nat) : It :=
  ⟨fun i H => i < n ∧ ∃ kvs : Tk, H a = some (TalO w a kvs ep) ∧ kvs.length = n,
    fun i H v H' => ∃ (T : Addr), v = .ref T ∧ H T = none ∧ ∃ e : NestedKey × Addr × V, H' = upd H T (.tup [.ref e.2.1, e.2.2]) ∧ ∀ kvs : Tk, H a = some (TalO w a kvs ep) → ∃ e', kvs[i]? = some e' ∧ e'.2 = e.2,
    fun i H => n ≤ i ∧ ∃ kvs : Tk, H a = some (TalO w a kvs ep) ∧ kvs.length = n⟩
section
variable {X : Cx}
def iTal (w : World) (J : Addr → Nat → Nat → It) (to : TE) : TI := fun σ H R => to σ H fun x H1 => ∃ (a : Addr) (kvs : Tk) (ep : Nat), x = .ref a ∧ H1 a = some (TalO w a kvs ep) ∧ R (J a kvs.length ep) H1
end
end DL
namespace DL
open PySem PySem.Spec PyProof.Rows L2
def Fx (F : Fz) (a : Addr) : Fz := ⟨fun b => if b = a then none else F.f b, F.m⟩
section
variable {G : Gx} {F : Fz} {a : Addr}
theorem Fx_ne {b : Addr} (h : b ≠ a) : (Fx F a).f b = F.f b := if_neg h
theorem Fx_at : (Fx F a).f a = none := if_pos rfl
def AtT (F : Fz) (a : Addr) : Prop := ∃ w b kvs ep, F.f a = some (TalO w b kvs ep)
theorem less_of (hT : AtT F a) {b : Addr} {u : HO} (h : F.f b = some u) (n : ∀ w c kvs ep, u ≠ TalO w c kvs ep) : (Fx F a).f b = some u := by
  have : b ≠ a := fun z => by
    obtain ⟨w, c, kvs, ep, e⟩ := hT
    rw [z, e] at h
    exact n w c kvs ep (Option.some.inj h).symm
  rw [Fx_ne this]; exact h
theorem sqT_less (hT : AtT F a) {K : PySem.W.Frag} {b : Addr} {xs : List V} (h : SqT K F.f b xs) : SqT K (Fx F a).f b xs := by
  rcases h with (h | ⟨o, h⟩) | h
  · exact .inl (.inl (less_of hT h fun _ _ _ _ q => by unfold TalO at q; cases q))
  · exact .inl (.inr ⟨o, less_of hT h fun _ _ _ _ q => by unfold TalO at q; cases q⟩)
  · exact .inr h
theorem sqL_less (hT : AtT F a) {K : PySem.W.Frag} {b : Addr} {xs : List V} (h : SqL K F.f b xs) : SqL K (Fx F a).f b xs := by
  rcases h with (h | ⟨o, h⟩) | h
  · exact .inl (.inl (less_of hT h fun _ _ _ _ q => by unfold TalO at q; cases q))
  · exact .inl (.inr ⟨o, less_of hT h fun _ _ _ _ q => by unfold TalO at q; cases q⟩)
  · exact .inr h
mutual
theorem Rp.less (hT : AtT F a) : ∀ {v : V} {d : D}, Rp G F v d → Rp G (Fx F a) v d
  | _, _, .non => .non
  | _, _, .bl b => .bl b
  | _, _, .int i => .int i
  | _, _, .str x h => .str x h
  | _, _, .ty n => .ty n
  | _, _, .err b c => .err b c
  | _, _, .loc h => .loc h
  | _, _, .lst h t => .lst (less_of hT h fun _ _ _ _ q => by unfold TalO at q; cases q) (RpAll.less hT t)
  | _, _, .tup h t => .tup (sqT_less hT h) (RpAll.less hT t)
  | _, _, .scr h => .scr (sqL_less hT h)
  | _, _, .dicK h t => .dicK (less_of hT h fun _ _ _ _ q => by unfold TalO at q; cases q) (RpK.less hT t)
  | _, _, .obj h h' g t => .obj (less_of hT h fun _ _ _ _ q => by unfold TalO at q; cases q) (less_of hT h' fun _ _ _ _ q => by unfold TalO at q; cases q) g (RpF.less hT t)
theorem RpAll.less (hT : AtT F a) : ∀ {vs : List V} {ds : List D}, RpAll G F vs ds → RpAll G (Fx F a) vs ds
  | _, _, .nil => .nil
  | _, _, .cons h t => .cons (Rp.less hT h) (RpAll.less hT t)
theorem RpK.less (hT : AtT F a) : ∀ {vs : List (Key × V)} {ds : List (D × D)}, RpK G F vs ds → RpK G (Fx F a) vs ds
  | _, _, .nil => .nil
  | _, _, .cons o h t => .cons o (Rp.less hT h) (RpK.less hT t)
theorem RpF.less (hT : AtT F a) : ∀ {vs : List (Str × V)} {ds : List (Nat × D)}, RpF G F vs ds → RpF G (Fx F a) vs ds
  | _, _, .nil => .nil
  | _, _, .cons o h t => .cons o (Rp.less hT h) (RpF.less hT t)
end
theorem RpT.less (hT : AtT F a) : ∀ {vs : Tk} {es : List (D × D)}, RpT G F vs es → RpT G (Fx F a) vs es
  | _, _, .nil => .nil
  | _, _, .cons k r x t => .cons k (r.less hT) (x.less hT) (RpT.less hT t)
theorem OwRel.less (hT : AtT F a) {u : HO} {o : Ow} (h : OwRel G F u o) : OwRel G (Fx F a) u o := by
  cases h with
  | l t => exact .l (t.less hT)
  | kK t => exact .kK (t.less hT)
theorem ObOk.less (hT : AtT F a) {H : Hp} {b : Addr} {x : Ob} (n : b ≠ a) (h : ObOk G F H b x) : ObOk G (Fx F a) H b x := by
  cases x with
  | o w => obtain ⟨u, h1, h2⟩ := h; exact ⟨u, h1, h2.less hT⟩
  | i c fs => obtain ⟨C, dx, vs, h1, h2, h3, h4⟩ := h; exact ⟨C, dx, vs, h1, h2, h3, h4.less hT⟩
  | t es => obtain ⟨kvs, h1, h2⟩ := h; exact ⟨kvs, h1, h2.less hT⟩
  | z es => obtain ⟨kvs, ep, h0, h1, h2⟩ := h; exact ⟨kvs, ep, by rw [Fx_ne n]; exact h0, h1, h2.less hT⟩
theorem XRel.less (hT : AtT F a) {x : Exc} {cls : Value} {dd : Option Addr} {H : Hp} (h : XRel G F x cls dd H) : XRel G (Fx F a) x cls dd H := by
  obtain ⟨C, x1, x2, x3⟩ := h
  exact ⟨C, x1, x2, x3.imp id fun ⟨y, e, ws, e1, e2, e3⟩ => ⟨y, e, ws, e1, e2, e3.less hT⟩⟩
end
section
variable {G : Gx} {B H : Hp} {F F0 : Fz} {σ : L2.St} {S : Sls} {st : Store} {n : Nat} {a : Addr} {es : List (D × D)}
theorem Ok.unl (o : Ok G B F σ H S st) (hst : st[n]? = some (.z es)) (hm : F.m[n]? = some a) : AtT F a ∧ Ok G B (Fx F a) σ H S (st.set n (.t es)) := by
  obtain ⟨_, hB, kvs, ep, h0, h1, h2⟩ := o.so.ob n _ a hst hm
  have hT : AtT F a := ⟨_, _, _, _, h0⟩
  have hn : n < st.length := (List.getElem?_eq_some_iff.mp hst).1
  refine ⟨hT, fun b u q => ?_, o.kp, ⟨by rw [List.length_set]; exact o.so.ml, o.so.mn, fun k x b q1 (q2 : F.m[k]? = some b) => ?_⟩, o.len, fun i s q => ?_, o.ap⟩
  · have q : (if b = a then none else F.f b) = some u := q
    split at q
    · cases q
    · exact o.fH _ _ q
  · by_cases hk : n = k
    · subst hk
      rw [List.getElem?_set_self hn] at q1
      cases q1
      rw [hm] at q2; cases q2
      exact ⟨fun _ => Fx_at, hB, kvs, ⟨ep, h1⟩, h2.less hT⟩
    · rw [List.getElem?_set_ne hk] at q1
      obtain ⟨k1, k2, k3⟩ := o.so.ob k x b q1 q2
      have hb : b ≠ a := fun w => by
        subst w
        obtain ⟨l1, w1⟩ := List.getElem?_eq_some_iff.mp hm
        obtain ⟨l2, w2⟩ := List.getElem?_eq_some_iff.mp q2
        exact hk (nodup_ix o.so.mn l1 l2 (by rw [w1, w2]))
      exact ⟨fun nz => by show (Fx F a).f b = none; rw [Fx_ne hb]; exact k1 nz, k2, k3.less hT hb⟩
  · have h := o.sl i s q
    cases s with
    | no => trivial
    | d x =>
      obtain ⟨v, e1, r⟩ := h
      exact ⟨v, e1, r.less hT⟩
    | own w =>
      obtain ⟨p, u, a1, a2, a3, a4, a5, a6⟩ := h
      refine ⟨p, u, a1, a2, ?_, a4, a5.less hT, a6⟩
      show (if p = a then none else F.f p) = none
      split
      · rfl
      · exact a3
theorem gr_unl (h0 : F0 a = none) (g : Gr B F0 F) : Gr B F0 (Fx F a) := by
  refine ⟨⟨fun b u e => ?_, g.1.2⟩, fun b h1 h2 => ?_⟩
  · have hb : b ≠ a := fun z => by
      rw [z, show F0.f a = none from h0] at e; cases e
    rw [Fx_ne hb]; exact g.1.1 _ _ e
  · have h2 : (if b = a then none else F.f b) ≠ none := h2
    split at h2
    · exact absurd rfl h2
    · exact g.2 b h1 h2
end
end DL
namespace DL
open PySem PySem.Spec PyProof.Rows L2
inductive Tw where | k | v | i
def Tw.d : Tw → D × D → D
  | .k, e => e.1
  | .v, e => e.2
  | .i, e => .tup [e.1, e.2]
def iT (tw : Tw) (fo : Ev Opd) : Ev (List D) := fun S st => (fo S st).bind fun a S st => match a with
  | .h n => match st[n]? with
    | some (.t es) => .ok (es.map tw.d) S (st.set n (.z es))
    | some (.z es) => .ok (es.map tw.d) S st
    | _ => .stuck
  | _ => .stuck
def unS (n : Nat) (st : Store) (k : Store → Out) : Out := match st[n]? with
  | some (.z es) => k (st.set n (.t es))
  | _ => .stuck
def unl (n : Nat) : Out → Out
  | .nx S st => unS n st fun st => .nx S st
  | .ret d S st => unS n st fun st => .ret d S st
  | .bk S st => unS n st fun st => .bk S st
  | .ct S st => unS n st fun st => .ct S st
  | .rto w S st => unS n st fun st => .rto w S st
  | .exc x S st => unS n st fun st => .exc x S st
  | .stuck => .stuck
def unR {α : Type} (n : Nat) : Res α → Res α
  | .ok d S st => match st[n]? with
    | some (.z es) => .ok d S (st.set n (.t es))
    | _ => .stuck
  | .exc x S st => match st[n]? with
    | some (.z es) => .exc x S (st.set n (.t es))
    | _ => .stuck
  | .stuck => .stuck
def sFT (tw : Tw) (fo : Ev Opd) (g : Tg) (body : EvS) : EvS := fun S st => match fo S st with
  | .ok (.h n) _ _ => match st[n]? with
    | some (.t _) => unl n (sF (iT tw fo) g body S st)
    | some (.z _) => sF (iT tw fo) g body S st
    | _ => .stuck
  | _ => .stuck
def lcT (tw : Tw) (fo : Ev Opd) (g : Tg) (own : List Nat) (t : Ev Bool) (f : Ev D) : Ev Ow := fun S st => match fo S st with
  | .ok (.h n) _ _ => match st[n]? with
    | some (.t _) => unR n (lcF (iT tw fo) g own t f S st)
    | some (.z _) => lcF (iT tw fo) g own t f S st
    | _ => .stuck
  | _ => .stuck
section
variable {G : Gx} {B : Hp} {W : WX}
theorem back_at {F0 F : Fz} {σ0 σ : L2.St} {H0 H : Hp} {S0 S : Sls} {st0 st : Store} {n : Nat} {es0 es : List (D × D)} (o0 : Ok G B F0 σ0 H0 S0 st0) (h0 : st0[n]? = some (.t es0)) (g : Gr B F0 F) (o : Ok G B F σ H S st) (hz : st[n]? = some (.z es)) : ∃ a, AtT F a ∧ Gr B F0 (Fx F a) ∧ Ok G B (Fx F a) σ H S (st.set n (.t es)) := by
  obtain ⟨a, ha⟩ : ∃ a, F0.m[n]? = some a := ⟨_, List.getElem?_eq_getElem (by rw [o0.so.ml]; exact (List.getElem?_eq_some_iff.mp h0).1)⟩
  obtain ⟨q, _, _⟩ := o0.so.ob n _ a h0 ha
  obtain ⟨hT, o2⟩ := o.unl hz (pre_get g.1.2 ha)
  exact ⟨a, hT, gr_unl (q trivial) g, o2⟩
theorem unS_ex {F : Fz} {Dn : Ends} {n : Nat} {st : Store} {k : Store → Out} (h : PostS G B W F Dn (unS n st k)) : ∃ es, st[n]? = some (.z es) ∧ PostS G B W F Dn (k (st.set n (.t es))) := by
  unfold unS at h
  cases hz : st[n]? with
  | none => rw [hz] at h; exact (show False from h).elim
  | some x =>
    rw [hz] at h
    cases x with
    | z es => exact ⟨es, rfl, h⟩
    | _ => exact (show False from h).elim
theorem PostS.unl {F0 : Fz} {σ0 : L2.St} {H0 : Hp} {S0 : Sls} {st0 : Store} {Dn : Ends} {n : Nat} {es0 : List (D × D)} {r : Out} (o0 : Ok G B F0 σ0 H0 S0 st0) (h0 : st0[n]? = some (.t es0)) (h : PostS G B W F0 Dn (DL.unl n r)) : PostS G B W F0 Dn r := by
  cases r with
  | nx S st =>
    intro σ' H' F' g o
    obtain ⟨es, hz, h⟩ := unS_ex h
    · obtain ⟨a, hT, g2, o2⟩ := back_at o0 h0 g o hz
      exact h σ' H' _ g2 o2
  | bk S st =>
    intro σ' H' F' g o
    obtain ⟨es, hz, h⟩ := unS_ex h
    · obtain ⟨a, hT, g2, o2⟩ := back_at o0 h0 g o hz
      exact h σ' H' _ g2 o2
  | ct S st =>
    intro σ' H' F' g o
    obtain ⟨es, hz, h⟩ := unS_ex h
    · obtain ⟨a, hT, g2, o2⟩ := back_at o0 h0 g o hz
      exact h σ' H' _ g2 o2
  | ret d S st =>
    intro v σ' H' F' g o r
    obtain ⟨es, hz, h⟩ := unS_ex h
    · obtain ⟨a, hT, g2, o2⟩ := back_at o0 h0 g o hz
      exact h v σ' H' _ g2 o2 (r.less hT)
  | rto w S st =>
    intro p u σ' H' F' g o k1 k2 k3 k4 k5
    obtain ⟨es, hz, h⟩ := unS_ex h
    · obtain ⟨a, hT, g2, o2⟩ := back_at o0 h0 g o hz
      refine h p u σ' H' _ g2 o2 k1 ?_ k3 (k4.less hT) k5
      show (if p = a then none else F'.f p) = none
      split
      · rfl
      · exact k2
  | exc x S st =>
    intro c d σ' H' F' g o r
    obtain ⟨es, hz, h⟩ := unS_ex h
    · obtain ⟨a, hT, g2, o2⟩ := back_at o0 h0 g o hz
      exact h c d σ' H' _ g2 o2 (r.less hT)
  | stuck => exact h
theorem PostF.unl {F0 : Fz} {σ0 : L2.St} {H0 : Hp} {S0 : Sls} {st0 : Store} {Q : VK} {n : Nat} {es0 : List (D × D)} {r : Res Ow} (o0 : Ok G B F0 σ0 H0 S0 st0) (h0 : st0[n]? = some (.t es0)) (h : PostF G B W σ0 F0 Q (unR n r)) : PostF G B W σ0 F0 Q r := by
  cases r with
  | ok w S st =>
    intro p u H' F' g o k1 k2 k3 k4 k5 k6
    unfold unR at h
    dsimp only at h
    cases hz : st[n]? with
    | none => rw [hz] at h; exact (show False from h).elim
    | some x =>
      rw [hz] at h
      cases x with
      | z es =>
        obtain ⟨a, hT, g2, o2⟩ := back_at o0 h0 g o hz
        refine h p u H' _ g2 o2 k1 ?_ k3 (k4.less hT) k5 k6
        show (if p = a then none else F'.f p) = none
        split
        · rfl
        · exact k2
      | _ => exact (show False from h).elim
  | exc x S st =>
    intro c d H' F' g o r
    unfold unR at h
    dsimp only at h
    cases hz : st[n]? with
    | none => rw [hz] at h; exact (show False from h).elim
    | some x =>
      rw [hz] at h
      cases x with
      | z es =>
        obtain ⟨a, hT, g2, o2⟩ := back_at o0 h0 g o hz
        exact h c d H' _ g2 o2 (r.less hT)
      | _ => exact (show False from h).elim
  | stuck => exact h
end
section
variable {X : Cx} {B : Hp} {W : WX} {tg iter e : Expr} {pos : Pos}
end
end DL
namespace DL
open PySem PySem.Spec PyProof.Rows L2
section
variable {prog : Program} {w : World} {A : Around} {E : Value → Shared → Prop} {s : Shared} {env : Env}
end
section
variable {X : Cx}
def tTal1 (X : Cx) (tk tv : TE) : TE := fun σ H Q => ∀ p ep, H p = none → tk σ (upd H p (TalO X.w p [] ep)) fun kv H1 => tv σ H1 fun v H2 => IsTal X.w H2 p [] ∧ ∃ b k, kv = .ref b ∧ KyAt (Cx.g X) H2 b k ∧ ∀ ep, Q (.ref p) (upd H2 p (TalO X.w p [(k, b, v)] ep))
end
def tN1 (fk fv : Ev D) : Ev D := fun S st => (fk S (st ++ [.t []])).bind fun k S st1 => (fv S st1).bind fun v S st2 => match st2[st.length]? with
  | some (.t []) => if (keyT k).isSome then .ok (.loc st.length) S (st2.set st.length (.t [(k, v)])) else .stuck
  | _ => .stuck
section
variable {X : Cx} {B : Hp} {W : WX} {e k v : Expr} {pos p : Pos}
end
section
variable {X : Cx}
end
def lsT (fo : Ev Opd) : Ev Ow := fun S st => (fo S st).bind fun o S st => match o with
  | .h n => match st[n]? with
    | some (.t es) => .ok (.l (es.map (·.1))) S st
    | some (.z es) => .ok (.l (es.map (·.1))) S st
    | _ => .stuck
  | _ => .stuck
section
variable {X : Cx} {B : Hp} {W : WX} {e : Expr} {pos p : Pos}
end
end DL
namespace DL
open PySem PySem.Spec PyProof.Rows L2
mutual
def pyD : D → PyData
  | .bl b => .bool b
  | .int i => .int i
  | .str s => .str (tx s)
  | .tup ds => .tuple (pyDs ds)
  | .lst ds => .list (pyDs ds)
  | _ => .none
def pyDs : List D → List PyData
  | [] => []
  | d :: r => pyD d :: pyDs r
end
mutual
def isPy : D → Bool
  | .non => true
  | .bl _ => true
  | .int _ => true
  | .str _ => true
  | .tup ds => isPys ds
  | .lst ds => isPys ds
  | _ => false
def isPys : List D → Bool
  | [] => true
  | d :: r => isPy d && isPys r
end
section
variable {X : Cx} {pins : List (Addr × Obj)} {σ : L2.St} {H : Hp} {s : Shared}
mutual
theorem reads_of (I : Inv X pins σ H s) {F : Fz} (f : Same F.f H) : ∀ {d : D} {v : V} {u : Value}, isPy d = true → Rp (Cx.g X) F v d → RelV v u → ∃ as, Reads s.heap u (pyD d) as
  | .non, v, u, _, r, q => by cases r; cases q; exact ⟨[], .none⟩
  | .bl b, v, u, _, r, q => by cases r; cases q; exact ⟨[], .bool b⟩
  | .int i, v, u, _, r, q => by cases r; obtain ⟨t, rfl⟩ := q; exact ⟨[], .int i t⟩
  | .str x, v, u, _, r, q => by cases r; obtain ⟨t, rfl⟩ := q; exact ⟨[], .str _ t⟩
  | .tup ds, v, u, h, r, q => by
    cases r with
    | tup h1 h2 =>
      cases q
      obtain ⟨its, rv, ⟨o, ho, hc, n, hd⟩, _⟩ := I.tuple (same_seqT f h1)
      obtain ⟨as, hr⟩ := reads_alls I f (by rw [isPy] at h; exact h) h2 rv
      exact ⟨as, .tuple ho hc hd (by simpa using hr)⟩
  | .lst ds, v, u, h, r, q => by
    cases r with
    | lst h1 h2 =>
      cases q
      obtain ⟨its, rv, pl, _⟩ := I.list (.inl (.inl (f _ _ h1)))
      obtain ⟨as, hr⟩ := reads_alls I f (by rw [isPy] at h; exact h) h2 rv
      obtain ⟨o, n, ho, hc, _, hd⟩ := pl
      exact ⟨_ :: as, .list ho hc hd (by simpa using hr)⟩
  | .scr _, _, _, h, _, _ => by cases h
  | .dic _, _, _, h, _, _ => by cases h
  | .obj _ _, _, _, h, _, _ => by cases h
  | .ty _, _, _, h, _, _ => by cases h
  | .err _ _, _, _, h, _, _ => by cases h
  | .loc _, _, _, h, _, _ => by cases h
theorem reads_alls (I : Inv X pins σ H s) {F : Fz} (f : Same F.f H) : ∀ {ds : List D} {vs : List V} {us : List Value}, isPys ds = true → RpAll (Cx.g X) F vs ds → Vals vs us → ∃ as, ReadsAll s.heap us (pyDs ds) as
  | [], vs, us, _, r, q => by cases r; cases q; exact ⟨[], .nil⟩
  | d :: r0, vs, us, h, r, q => by
    rw [isPys, Bool.and_eq_true] at h
    cases r with
    | cons a t =>
      cases q with
      | cons b t' =>
        obtain ⟨as, h1⟩ := reads_of I f h.1 a b
        obtain ⟨bs, h2⟩ := reads_alls I f h.2 t t'
        exact ⟨as ++ bs, .cons h1 h2⟩
end
structure SrtOk (ds : List D) : Prop where
  py : isPys ds = true
  al : PySem.W.AllAlike (ds.map pyD)
  tu : ∀ d ∈ ds, ∃ x r, d = .tup (x :: r)
  ln : ds.length ≤ 16777216
  dp : ∀ d ∈ ds, (pyD d).depth ≤ 20
abbrev leD : D → D → Bool := PySem.W.dataLe false pyD
abbrev leP : V × D → V × D → Bool := PySem.W.dataLe false fun b : V × D => pyD b.2
def rSrtD (X : Cx) : List V → Hp → VK → Prop := fun vs H Q => ∃ (a : Addr) (xs : List V) (ds : List D) (F : Fz), vs = [.ref a] ∧ SqL X.K H a xs ∧ Same F.f H ∧ RpAll (Cx.g X) F xs ds ∧ SrtOk ds ∧ ∀ p, H p = none → Q (.ref p) (upd H p (.lst (((xs.zip ds).mergeSort leP).map (·.1))))
open Classical in
noncomputable def dSortD : List D → Option Ow
  | [.lst ds] => if SrtOk ds then some (.l (ds.mergeSort leD)) else none
  | _ => none
end
end DL
namespace DL
open PySem PySem.Spec PyProof.Rows L2
abbrev Nk (P : Program) (w : World) (h : Heap) (k : NestedKey) (b : Addr) : Prop := (nestedKind P w).is h k b
section
variable {P : Program} {w : World} {A : Around} {E : Value → Shared → Prop} {s : Shared}
mutual
theorem cls_no : ∀ (k : NestedKey) (v : Value) (n : Nat), NestedIs s.heap k v → k.depth ≤ n → ∀ Q : Bool → Shared → Prop, Q false s → wpAny (model P w) A (ofAClassStatement n v) Q E s
  | .none, v, n, x, _, Q, q => by cases x; cases n <;> exact wpAny_pure q
  | .num i, v, n, x, _, Q, q => by cases x <;> (cases n <;> exact wpAny_pure q)
  | .text y, v, n, x, _, Q, q => by cases x; cases n <;> exact wpAny_pure q
  | .tup ks, v, n, x, hn, Q, q => by
    cases x with
    | @tup a o vs c _ hg hc hd hk =>
      simp only [NestedKey.depth] at hn
      cases n with
      | zero => omega
      | succ n =>
        have each := cls_nos ks vs.toList n hk (by omega)
        have ty : s.TypeIs (.ref a) "tuple" := ⟨o, hg, hc⟩
        unfold ofAClassStatement
        apply wpAny_bind
        apply wpAny_typeOf ty
        dsimp only
        have yes : (("tuple" : String) == "tuple") = true := by decide
        simp only [yes, if_true, Bool.not_true, Bool.false_eq_true, if_false]
        try (apply wpAny_bind; apply wpAny_pure)
        try simp only [Bool.not_true, Bool.false_eq_true, if_false]
        show wpAny _ _ (seqItems? (.ref a) >>= _) _ _ s
        apply wpAny_bind
        apply wpAny_seqItems hg hd
        dsimp only
        apply wpAny_bind
        show wpAny _ _ (forIn vs _ _) _ _ s
        rw [← Array.forIn_toList]
        refine wpAny_forIn_list _ (fun more r t => r.1 = none ∧ t = s ∧ ∀ v ∈ more, v ∈ vs.toList) _ ?_ ?_ _ _ ⟨rfl, rfl, fun v h => h⟩
        · rintro v more r t ⟨hr, rfl, sub⟩
          apply wpAny_bind
          apply each v (sub v (List.mem_cons_self ..))
          simp only [Bool.false_eq_true, if_false]
          exact wpAny_pure ⟨rfl, rfl, fun u hu => sub u (List.mem_cons_of_mem _ hu)⟩
        · rintro ⟨r1, r2⟩ t ⟨hr, rfl, _⟩
          simp only at hr
          subst hr
          exact wpAny_pure q
theorem cls_nos : ∀ (ks : List NestedKey) (vs : List Value) (n : Nat), NestedAll s.heap ks vs → NestedKey.depthAll ks ≤ n → ∀ v ∈ vs, ∀ Q : Bool → Shared → Prop, Q false s → wpAny (model P w) A (ofAClassStatement n v) Q E s
  | [], _, _, x, _, v, h => by cases x; cases h
  | k :: ks, _, n, x, hn, v, h => by
    cases x with
    | cons x1 x2 =>
      simp only [NestedKey.depthAll] at hn
      rcases List.mem_cons.mp h with e | h
      · subst e; exact cls_no k _ n x1 (by omega)
      · exact cls_nos ks _ n x2 (by omega) v h
end
mutual
theorem byv_any : ∀ (k : NestedKey) (v : Value) (n : Nat), NestedIs s.heap k v → k.depth ≤ n → ∀ Q : Bool → Shared → Prop, (∀ b, Q b s) → wpAny (model P w) A (hashByValue n v) Q E s
  | .none, v, n, x, _, Q, q => by cases x; cases n <;> exact wpAny_pure (q _)
  | .num i, v, n, x, _, Q, q => by cases x <;> (cases n <;> exact wpAny_pure (q _))
  | .text y, v, n, x, _, Q, q => by cases x; cases n <;> exact wpAny_pure (q _)
  | .tup ks, v, n, x, hn, Q, q => by
    cases x with
    | @tup a o vs c _ hg hc hd hk =>
      simp only [NestedKey.depth] at hn
      cases n with
      | zero => omega
      | succ n =>
        have each := byv_anys ks vs.toList n hk (by omega)
        have ty : s.TypeIs (.ref a) "tuple" := ⟨o, hg, hc⟩
        unfold hashByValue
        apply wpAny_bind
        apply wpAny_specialOf ty F.slot_tuple_hash.lookup
        show wpAny _ _ (seqItems? (.ref a) >>= _) _ _ s
        apply wpAny_bind
        apply wpAny_seqItems hg hd
        apply wpAny_bind
        show wpAny _ _ (forIn vs _ _) _ _ s
        rw [← Array.forIn_toList]
        refine wpAny_forIn_list _ (fun more r t => r.1 = none ∧ t = s ∧ ∀ v ∈ more, v ∈ vs.toList) _ ?_ ?_ _ _ ⟨rfl, rfl, fun v h => h⟩
        · rintro v more r t ⟨hr, rfl, sub⟩
          apply wpAny_bind
          apply each v (sub v (List.mem_cons_self ..))
          intro b
          cases b with
          | true =>
            simp only [Bool.not_true, Bool.false_eq_true, if_false]
            exact wpAny_pure ⟨rfl, rfl, fun u hu => sub u (List.mem_cons_of_mem _ hu)⟩
          | false =>
            simp only [Bool.not_false, if_true]
            exact wpAny_pure (wpAny_pure (q _))
        · rintro ⟨r1, r2⟩ t ⟨hr, rfl, _⟩
          simp only at hr
          subst hr
          exact wpAny_pure (q _)
theorem byv_anys : ∀ (ks : List NestedKey) (vs : List Value) (n : Nat), NestedAll s.heap ks vs → NestedKey.depthAll ks ≤ n → ∀ v ∈ vs, ∀ Q : Bool → Shared → Prop, (∀ b, Q b s) → wpAny (model P w) A (hashByValue n v) Q E s
  | [], _, _, x, _, v, h => by cases x; cases h
  | k :: ks, _, n, x, hn, v, h => by
    cases x with
    | cons x1 x2 =>
      simp only [NestedKey.depthAll] at hn
      rcases List.mem_cons.mp h with e | h
      · subst e; exact byv_any k _ n x1 (by omega)
      · exact byv_anys ks _ n x2 (by omega) v h
end
abbrev Ins : Type := List (Addr × NestedKey)
def rowK (w : World) (p : Addr × NestedKey) : Int × Value := (p.2.hash w, .ref p.1)
def hsK (w : World) (L : Ins) : List Int := L.map fun p => p.2.hash w
structure NSet (P : Program) (w : World) (h : Heap) (a : Addr) (L : Ins) (es : Array (Int × Value)) (ep : Nat) (t : SetTable) : Prop where
  obj : ∃ o, h.get? a = some o ∧ o.ExactSet ∧ o.data = .set es ep t
  row : es.toList = L.map (rowK w)
  tab : TabOk t (hsK w L)
  uni : (L.map (·.2)).Nodup
  key : ∀ p ∈ L, Nk P w h p.2 p.1
  led : w.params.followText "set-order" = true ∨ t.led = true
  gap : 5 * L.length < 3 * t.mask
  few : L.length < 64
section
variable {a : Addr} {L : Ins} {es : Array (Int × Value)} {ep : Nat} {t : SetTable}
abbrev stp (t : SetTable) (h : Int) (c : Nat) : SetTable.Probe := nth t.mask (runAt t.mask (SetTable.bits h % (t.mask + 1)) (SetTable.bits h)) c
def d0 : Addr × NestedKey := (0, .none)
end
end
end DL
namespace DL
open PySem PySem.Spec PyProof.Rows L2
section
variable {P : Program} {w : World} {A : Around} {E : Value → Shared → Prop} {s : Shared}
variable {β : Type} {R : Value → β → Prop} {enc : β → PyData}
structure Coll (A : Around) (R : Value → β → Prop) (enc : β → PyData) (s s1 : Shared) (vs : List Value) (bs : List β) : Prop where
  rel : PySem.W.EachIs R vs bs
  rd : PySem.W.EachIs (fun v b => ∃ as, Reads s1.heap v (enc b) as) vs bs
  al : PySem.W.AllAlike (bs.map enc)
  so : PySem.W.Sortable (bs.map enc)
  ln : bs.length ≤ sizeLine
  dp : ∀ b ∈ bs, A.units + 2 + (enc b).depth < cLine
  old : ∀ c o, s.heap.get? c = some o → s1.heap.get? c = some o
  gn : s1.gens = s.gens
  os : s1.os = s.os
end
end DL
namespace DL
open PySem PySem.Spec PyProof.Rows L2
abbrev Pr : Type := Tx × Tx
def ltP (p q : Pr) : Prop := p.1 < q.1 ∨ p.1 = q.1 ∧ p.2 < q.2
instance (p q : Pr) : Decidable (ltP p q) := by unfold ltP; exact inferInstance
def insP (x : Pr) : List Pr → List Pr
  | [] => [x]
  | y :: r => if ltP x y then x :: y :: r else if x = y then y :: r else y :: insP x r
def srtP : List Pr → List Pr
  | [] => []
  | x :: r => insP x (srtP r)
def tp (p : Pr) : D := .tup [.str p.1, .str p.2]
def prD : D → Option Pr
  | .tup [.str a, .str b] => some (a, b)
  | _ => none
def prsD : List D → Option (List Pr)
  | [] => some []
  | d :: r => match prD d, prsD r with
    | some p, some q => some (p :: q)
    | _, _ => none
abbrev kyP (p : Pr) : NestedKey := .tup [.text (tx p.1), .text (tx p.2)]
theorem keyT_tp (p : Pr) : keyT (tp p) = some (kyP p) := by
  unfold keyT tp
  simp [keyN, keyNs, NestedKey.depth, NestedKey.depthAll]
theorem kyP_inj {p q : Pr} (h : kyP p = kyP q) : p = q := by
  injection h with h
  injection h with h1 h2
  injection h1 with h1
  injection h2 with h2 h3
  injection h2 with h2
  exact Prod.ext (tx_inj h1) (tx_inj h2)
section
variable {X : Cx}
def tSrtSetP (X : Cx) (te : TE) : TE := fun σ H Q => te σ H fun v H1 => ∃ (a : Addr) (F : Fz) (zs : List (Addr × Pr)), v = .ref a ∧ SqL X.K H1 a (zs.map fun z => V.ref z.1) ∧ Same F.f H1 ∧ (∀ z ∈ zs, Rp (Cx.g X) F (.ref z.1) (tp z.2)) ∧ zs.length < 64 ∧
  ∀ (ys : List (Addr × Pr)) (q : Addr), (∀ y ∈ ys, y ∈ zs) → ys.map (·.2) = srtP (zs.map (·.2)) → H1 q = none → Q (.ref q) (upd H1 q (.lst (ys.map fun z => V.ref z.1)))
def rSrtTal (X : Cx) : List V → Hp → VK → Prop := fun xs H Q => ∃ (a : Addr) (kvs : Tk) (F : Fz) (zs : List (Addr × Pr)), xs = [.ref a] ∧ IsTal X.w H a kvs ∧ Same F.f H ∧ (kvs.map fun e => (e.2.1, e.1)) = (zs.map fun z => (z.1, kyP z.2)) ∧ (∀ z ∈ zs, Rp (Cx.g X) F (.ref z.1) (tp z.2)) ∧
  ∀ (ys : List (Addr × Pr)) (q : Addr), (∀ y ∈ ys, y ∈ zs) → ys.map (·.2) = srtP (zs.map (·.2)) → H q = none → Q (.ref q) (upd H q (.lst (ys.map fun z => V.ref z.1)))
end
end DL
namespace DL
open PySem PySem.Spec PyProof.Rows L2
def oSrtP (fa : Ev Opd) : Ev Ow := fun S st => (fa S st).bind fun a S st => match vw S st a with
  | some x => match asL x with
    | some ds => match prsD ds with
      | some ps => if ps.length < 64 then .ok (.l ((srtP ps).map tp)) S st else .stuck
      | none => .stuck
    | none => .stuck
  | _ => .stuck
def srT (fo : Ev Opd) : Ev Ow := fun S st => (fo S st).bind fun o S st => match o with
  | .h n => match st[n]? with
    | some (.t es) => match prsD (es.map (·.1)) with
      | some ps => .ok (.l ((srtP ps).map tp)) S st
      | none => .stuck
    | _ => .stuck
  | _ => .stuck
def storeAll (es more : List (D × D)) : List (D × D) := more.foldl (fun acc p => storE acc p.1 p.2) es
def tUp (fo fb : Ev Opd) : Ev D := fun S st => (fo S st).bind fun o S st => match o with
  | .h n => match st[n]? with
    | some (.t _) => (fb S st).bind fun b S st => match b with
      | .h m => match st[n]?, st[m]? with
        | some (.t es), some (.t more) => if n ≠ m ∧ es ≠ [] ∧ es.length + more.length ≤ 16777216 then .ok .non S (st.set n (.t (storeAll es more))) else .stuck
        | _, _ => .stuck
      | _ => .stuck
    | _ => .stuck
  | _ => .stuck
theorem oSrtP_a (fa : Ev Opd) (S : Sls) (st : Store) : oSrtP fa S st = (fa S st).bind fun a S st => match vw S st a with
  | some x => match asL x with
    | some ds => match prsD ds with
      | some ps => if ps.length < 64 then .ok (.l ((srtP ps).map tp)) S st else .stuck
      | none => .stuck
    | none => .stuck
  | _ => .stuck := rfl
section
variable {X : Cx} {B : Hp} {W : WX}
def storAll (kvs more : Tk) : Tk := more.foldl (fun acc p => storT acc p.1 p.2.1 p.2.2) kvs
def rTalUp (X : Cx) : V → List V → Hp → VK → Prop := fun x xs H Q => ∃ (a b : Addr) (kvs more : Tk), x = .ref a ∧ xs = [.ref b] ∧ a ≠ b ∧ IsTal X.w H a kvs ∧ (∀ e ∈ kvs, KyAt (Cx.g X) H e.2.1 e.1) ∧ IsTal X.w H b more ∧ (∀ e ∈ more, KyAt (Cx.g X) H e.2.1 e.1) ∧ kvs ≠ [] ∧ kvs.length + more.length ≤ sizeLine ∧
  ∀ ep, Q .non (upd H a (TalO X.w a (storAll kvs more) ep))
end
end DL
namespace DL
open PySem PySem.Spec PyProof.Rows L2
def eqs (k : Str) (v : Value) : Bool := match v with
  | .str n _ => decide (n = k)
  | _ => false
section
variable {X : Cx}
def rRemT : V → List V → Hp → VK → Prop := fun x xs H Q => ∃ (l : Addr) (ns : List Str) (k : Str) (j : Nat), x = .ref l ∧ xs = [.str k] ∧ H l = some (.lst (ns.map V.str)) ∧ ns[j]? = some k ∧ (∀ m : Nat, m < j → ns[m]? ≠ some k) ∧ Q .non (upd H l (.lst ((ns.eraseIdx j).map V.str)))
end
def eRem (i : Nat) (fj : Ev D) : Ev D := fun S st => match S[i]? with
  | some (.own (.l _)) => (fj S st).bind fun j S st => match j, S[i]? with
    | .str k, some (.own (.l ds)) => match strsD ds with
      | some ss => match ss.findIdx? (· == k) with
        | some j => .ok .non (S.set i (.own (.l (ds.eraseIdx j)))) st
        | none => .stuck
      | none => .stuck
    | _, _ => .stuck
  | _ => .stuck
def eRemL (fo : Ev Opd) (fj : Ev D) : Ev D := fun S st => (fo S st).bind fun a S st => match a with
  | .h n => match st[n]? with
    | some (.o (.l _)) => (fj S st).bind fun j S st => match j, st[n]? with
      | .str k, some (.o (.l ds)) => match strsD ds with
        | some ss => match ss.findIdx? (· == k) with
          | some j => .ok .non S (st.set n (.o (.l (ds.eraseIdx j))))
          | none => .stuck
        | none => .stuck
      | _, _ => .stuck
    | _ => .stuck
  | _ => .stuck
section
variable {X : Cx} {B : Hp} {W : WX} {e a : Expr}
end
end DL
namespace DL
open PySem PySem.Spec PyProof.Rows L2
structure BDef (P : Program) (w : World) (K : PySem.W.Frag) (mg : Str → Option Value) (base : Heap) (k : Nat) (x m : Str) (n : Nat) (c : CallT) : Prop where
  ex : ∃ C mc f fd ps, mg x = some (.ref C) ∧ ClX.CRead K C mc ∧ PySem.W.findCls K (.ref C) mc m = some (.val (.ref f)) ∧ FnOk P w K mg base (L2.CX P w) k f fd ps (spOf ⟨K, mg, w⟩ n c) ∧ Binds K fd ps [] ∧ PySem.W.keepIn K (.ref f) = true
section
variable {X : Cx} {B : Hp} {W : WX} {e : Expr} {es : List Expr} {pos p apos : Pos} {k : Nat} {x m : Str} {n : Nat} {c : CallT} {pl : Sem Bool}
end
structure KSt (K : PySem.W.Frag) (a : Addr) (ss : List (List Nat)) : Prop where
  ex : ∃ (od : Option Addr) (its : Array Value) (n : Nat) (sl : Array (Option Value)), K.lookup a = some ⟨.type "tuple", od, .seq its n, sl⟩ ∧ its.size ≤ sizeLine ∧ Vals (ss.map fun s => V.str (tx s)) its.toList
section
variable {X : Cx}
end
end DL
namespace DL
open PySem PySem.Spec PyProof.Rows L2
def strB (v : Value) (s : List Nat) : Bool := match v with
  | .str x _ => decide (x = tx s)
  | _ => false
def strsB : List Value → List (List Nat) → Bool
  | [], [] => true
  | v :: r, s :: t => strB v s && strsB r t
  | _, _ => false
def kstB (K : PySem.W.Frag) (a : Addr) (ss : List (List Nat)) : Bool := match K.lookup a with
  | some ⟨.type c, _, .seq its _, _⟩ => decide (c = "tuple") && decide (its.size ≤ sizeLine) && strsB its.toList ss
  | _ => false
end DL
namespace DL
open PySem PySem.Spec PyProof.Rows L2
abbrev FnA : Type := Option (Str × Str × Arguments × FuncBody × Scope × Addr × List (Str × Addr) × Addr)
def fnA (K : PySem.W.Frag) (a : Addr) : FnA := match K.lookup a with
  | some ⟨_, _, .func fd, _⟩ => some (fd.name, fd.qualname, fd.params, fd.body, fd.scope, fd.globals, fd.closure, fd.builtins)
  | _ => none
def dvEq : Value → Value → Bool
  | .none, .none => true
  | .ref a, .ref b => decide (a = b)
  | _, _ => false
theorem dvEq_ok {a b : Value} (h : dvEq a b = true) : a = b := by
  unfold dvEq at h
  split at h
  · rfl
  · rw [of_decide_eq_true h]
  · cases h
def cdA (K : PySem.W.Frag) (a : Addr) (q : Str) (dV : Value) : Bool := match K.lookup a with
  | some ⟨_, _, .func fd, _⟩ => PySem.W.codeIn K fd.code q && dvEq fd.defaults dV
  | _ => false
def fnV (n q : Str) (st : Stmt) : FnA := some (n, q, defArgs st, .stmts (defBody st), defScope st, mainGlobals, [], builtinsNs)
theorem fnA_ok {K : PySem.W.Frag} {a : Addr} {n q : Str} {st : Stmt} {dV : Value} (e : fnA K a = fnV n q st) (c : cdA K a q dV = true) :
    ∃ (oc kV dc pm cd ct : Value) (od an : Option Addr) (sl : Array (Option Value)), K.lookup a = some ⟨oc, od, .func (PySem.W.fnOf n q (defArgs st) (defBody st) (defScope st) dV kV dc pm an cd ct), sl⟩ ∧ PySem.W.codeIn K cd q = true := by
  unfold cdA at c
  unfold fnA at e
  cases l : K.lookup a with
  | none => rw [l] at c; cases c
  | some o =>
    rw [l] at c e
    obtain ⟨oc, od, dt, sl⟩ := o
    cases dt with
    | func fd =>
      obtain ⟨n1, n2, n3, n4, n5, n6, n7, n8, n9, n10, n11, n12, n13, n14, n15⟩ := fd
      have c1 : (PySem.W.codeIn K n13 q && dvEq n8 dV) = true := c
      rw [Bool.and_eq_true] at c1
      obtain ⟨c2, d1⟩ := c1
      have d2 := dvEq_ok d1
      have e1 : some (n1, n2, n3, n4, n5, n6, n7, n15) = some (n, q, defArgs st, FuncBody.stmts (defBody st), defScope st, mainGlobals, [], builtinsNs) := e
      simp only [Option.some.injEq, Prod.mk.injEq] at e1
      obtain ⟨h1, h2, h3, h4, h5, h6, h7, h9⟩ := e1
      subst h1 h2 h3 h4 h5 h6 h7 h9 d2
      exact ⟨oc, n9, n10, n11, n13, n14, od, n12, sl, rfl, c2⟩
    | _ => cases c
def intA (K : PySem.W.Frag) (x : Str) (i : Int) : Bool := match PySem.W.nsIn K mainGlobals x with
  | some (some (.int j _)) => decide (j = i)
  | _ => false
def strA (K : PySem.W.Frag) (x : Str) (s : List Nat) : Bool := match PySem.W.nsIn K mainGlobals x with
  | some (some (.str y _)) => decide (y = tx s)
  | _ => false
theorem strA_ok {K : PySem.W.Frag} {x : Str} {s : List Nat} (h : strA K x s = true) : ∃ t, PySem.W.nsIn K mainGlobals x = some (some (.str (tx s) t)) := by
  unfold strA at h
  split at h
  · rename_i j t e
    have := of_decide_eq_true h
    subst this
    exact ⟨t, e⟩
  · cases h
def oneBoolA (K : PySem.W.Frag) (T : Addr) (b : Bool) : Bool := match K.lookup T with
  | some ⟨_, _, .seq its _, _⟩ => (match its with
    | ⟨[.bool c]⟩ => b == c
    | _ => false)
  | _ => false
def oneIntA (K : PySem.W.Frag) (T : Addr) (b : Int) : Bool := match K.lookup T with
  | some ⟨_, _, .seq its _, _⟩ => (match its with
    | ⟨[.int c _]⟩ => decide (c = b)
    | _ => false)
  | _ => false
def clsA (K : PySem.W.Frag) (C f : Addr) (n : Str) : Bool := match PySem.W.findCls K (.ref C) (.type "type") n with
  | some (.val (.ref g)) => decide (g = f)
  | _ => false
def rowE (e : DictEntry) : Option (Str × Int × Str) := match e.key, e.val with
  | .str x _, .str y _ => some (x, e.hash, y)
  | _, _ => none
def tabA (K : PySem.W.Frag) (a : Addr) : Option (List (Option (Str × Int × Str))) := match K.lookup a with
  | some ⟨.type c, none, .dict es _, sl⟩ => (match decide (c = "dict") && (sl.isEmpty && !(a == sysModules)) with
    | true => some (es.toList.map rowE)
    | false => none)
  | _ => none
def tabV (P : Params) (tab : List (List Nat × List Nat)) : Option (List (Option (Str × Int × Str))) := some (tab.map fun q => some (tx q.1, PyData.keyHash P (tx q.1), tx q.2))
def rowT (K : PySem.W.Frag) (e : DictEntry) (ss : List (List Nat)) : Option (Str × Int) := match e.key, e.val with
  | .str x _, .ref T => if kstB K T ss = true then some (x, e.hash) else none
  | _, _ => none
def rowsT' (K : PySem.W.Frag) : List DictEntry → List (List Nat × List (List Nat)) → List (Option (Str × Int))
  | e :: r, q :: s => rowT K e q.2 :: rowsT' K r s
  | [], _ => []
  | _ :: _, [] => [none]
def tabT (K : PySem.W.Frag) (a : Addr) (tab : List (List Nat × List (List Nat))) : Option (List (Option (Str × Int))) := match K.lookup a with
  | some ⟨.type c, none, .dict es _, sl⟩ => (match decide (c = "dict") && (sl.isEmpty && !(a == sysModules)) with
    | true => some (rowsT' K es.toList tab)
    | false => none)
  | _ => none
def tabTV (P : Params) (tab : List (List Nat × List (List Nat))) : Option (List (Option (Str × Int))) := some (tab.map fun q => some (tx q.1, PyData.keyHash P (tx q.1)))
inductive Rq where
  | g (x : Str) | ns (x : Str) | m (x y : Str) | cg (x : Str) | cm (x y : Str) | dg (x : Str) | dm (x y : Str) | kv (x : Str) (i : Nat)
def gA (g : Addr → Option Obj) (x : Str) : Addr := match PySem.W.nsIn (He.frG g [mainGlobals]) mainGlobals x with
  | some (some (.ref a)) => a
  | _ => 0
def nsA (g : Addr → Option Obj) (x : Str) : Addr := match g (gA g x) with
  | some ⟨_, _, .cls cd, _⟩ => cd.ns
  | _ => 0
def mA (g : Addr → Option Obj) (x y : Str) : Addr := match PySem.W.nsIn (He.frG g [nsA g x]) (nsA g x) y with
  | some (some (.ref a)) => a
  | _ => 0
def cA (g : Addr → Option Obj) (a : Addr) : Addr := match g a with
  | some ⟨_, _, .func fd, _⟩ => (match fd.code with
    | .ref c => c
    | _ => 0)
  | _ => 0
def dA (g : Addr → Option Obj) (a : Addr) : Addr := match g a with
  | some ⟨_, _, .func fd, _⟩ => (match fd.defaults with
    | .ref c => c
    | _ => 0)
  | _ => 0
def kA (g : Addr → Option Obj) (x : Str) (i : Nat) : Addr := match g (gA g x) with
  | some ⟨_, _, .dict es _, _⟩ => (match es.toList[i]? with
    | some e => (match e.val with
      | .ref c => c
      | _ => 0)
    | none => 0)
  | _ => 0
def rqA (g : Addr → Option Obj) : Rq → Addr
  | .g x => gA g x
  | .ns x => nsA g x
  | .m x y => mA g x y
  | .cg x => cA g (gA g x)
  | .cm x y => cA g (mA g x y)
  | .dg x => dA g (gA g x)
  | .dm x y => dA g (mA g x y)
  | .kv x i => kA g x i
def frList {α : Type} : List Nat → (List Nat → α) → α
  | [], k => k []
  | a :: r, k => HandSHeadRun.frNat a fun a => frList r fun r => k (a :: r)
theorem frList_eq {α : Type} : ∀ (l : List Nat) (k : List Nat → α), frList l k = k l
  | [], k => rfl
  | a :: r, k => by
    unfold frList
    rw [HandSHeadRun.frNat_eq, frList_eq r]
def seeL (rs : List Rq) {α : Type} (ob : List Addr → PySem.W.Frag → α) (g : Addr → Option Obj) : α := frList (rs.map (rqA g)) fun l => ob l (He.frG g (mainGlobals :: cStatics :: l))
def hookL (rs : List Rq) {α : Type} (ob : List Addr → PySem.W.Frag → α) (val : World → α) : PySem.W.Hook where
  α := α
  obs := fun s => seeL rs ob s.heap.get?
  val := val
  says := fun w h => ∃ (l : List Addr) (K : PySem.W.Frag), K.In h ∧ ob l K = val w
  of := fun _ _ e => by
    unfold seeL at e
    rw [frList_eq] at e
    exact ⟨_, _, He.frG_in, e⟩
  keeps := fun _ _ _ ⟨l, K, hK, c⟩ k => ⟨l, K, PySem.W.Frag.In.keeps hK k, c⟩
def obL (rs : List Rq) {α : Type} (ob : List Addr → PySem.W.Frag → α) (s : PySem.W.SharedT) : α := seeL rs ob (HandSHeadRun.getT s)
theorem obL_eq {rs : List Rq} {α : Type} {ob : List Addr → PySem.W.Frag → α} {val : World → α} (s : PySem.W.SharedT) : obL rs ob s = (hookL rs ob val).obs s.abs := by
  have e : HandSHeadRun.getT s = s.abs.heap.get? := funext (HandSHeadRun.getT_eq s)
  unfold obL hookL
  rw [e] <;> rfl
def PartEq (r : PySem.W.OpenRow) (rs : List Rq) (M : Nat) {α : Type} (ob : List Addr → PySem.W.Frag → α) (val : World → α) (w : World) : Prop :=
  ∀ os : OsState, (HandSHeadRun.endF (HandSHeadRun.stepQ (HandSHeadRun.denQ HandSHeadRun.tabQ) r.prog w) M r.prog w os).map (obL rs ob) = some (val w)
abbrev at_ (l : List Addr) (i : Nat) : Addr := l.getD i 0
theorem fact_in {L : List (List Bool)} (h : L.all (fun l => l.all id) = true) (i j : Nat) {l : List Bool} {b : Bool} (e : L[i]? = some l := by rfl) (e2 : l[j]? = some b := by rfl) : b = true :=
  List.all_eq_true.mp (List.all_eq_true.mp h l (List.mem_of_getElem? e)) b (List.mem_of_getElem? e2)
theorem fn_in {L L' : List FnA} (h : L = L') (i : Nat) {a b : FnA} (e : L[i]? = some a := by rfl) (e2 : L'[i]? = some b := by rfl) : a = b := by
  subst h
  rw [e] at e2
  exact Option.some.inj e2
end DL
namespace DL
open PySem PySem.Spec PyProof.Rows L2
def dkD (tw : Tw) : D → Option (List D)
  | .dic es => some (es.map tw.d)
  | _ => none
def iK (tw : Tw) (f : Ev D) : Ev (List D) := fun S st => (f S st).bind fun d S st => got (dkD tw d) S st
section
variable {G : Gx} {F : Fz} {a : Addr} {od : Obj} {kvs : List (Key × V)} {es : List (D × D)}
end
section
variable {X : Cx} {B : Hp} {W : WX} {tg iter e : Expr}
end
theorem CallR.or' {X : Cx} {f : Value} {r r' : List V → Hp → VK → Prop} (h : CallR X f r) (h' : CallR X f r') : CallR X f fun xs H Q => r xs H Q ∨ r' xs H Q := fun pins s σ H xs us Q I rx q => q.elim (h pins s σ H xs us Q I rx) (h' pins s σ H xs us Q I rx)
def rDictC : List V → Hp → VK → Prop := fun xs H Q => ∃ (a : Addr) (kvs : List (Key × V)), xs = [.ref a] ∧ Rd H a (.dK kvs) ∧ ∀ p, H p = none → Q (.ref p) (upd H p (.dK kvs))
def dDictA : List D → Option Ow
  | [.dic es] => some (.k es)
  | xs => dDictF xs
def sExO (i : Nat) (fo : Ev Opd) : EvS := fun S st => match S[i]? with
  | some (.own (.l _)) => (fo S st).out fun a S st => match vw S st a with
    | some (.lst es) => match S[i]? with
      | some (.own (.l ds)) => if ds.length + es.length ≤ 16777216 then .nx (S.set i (.own (.l (ds ++ es)))) st else .stuck
      | _ => .stuck
    | _ => .stuck
  | _ => .stuck
def dIxA : D → D → Option D
  | .dic es, k => dGetK (.dic es) k
  | x, k => dIx x k
end DL
namespace DL
open PySem PySem.Spec PyProof.Rows L2
def dIndexD : D → List D → Option D
  | .lst ds, [x] => if eqOk x = true ∧ eqOk (.lst ds) = true then (ds.findIdx? fun z => deq z x).map fun j => .int (j : Nat) else none
  | _, _ => none
end DL
namespace DL
open PySem PySem.Spec PyProof.Rows L2
def tLn (fo : Ev Opd) : Ev D := fun S st => (fo S st).bind fun o S st => match o with
  | .h n => match st[n]? with
    | some (.t es) => .ok (.int (es.length : Nat)) S st
    | _ => .stuck
  | _ => .stuck
section
variable {X : Cx} {B : Hp} {W : WX} {e : Expr} {pos p : Pos}
end
end DL
namespace DL
open PySem PySem.Spec PyProof.Rows L2
section
variable {X : Cx}
theorem call_repr_dp (hg : X.A.guards = some []) (hu : X.A.units + 100 < cLine) :
    CallR X (.builtin "repr") (fun xs H Q => ∃ a d, xs = [.ref a] ∧ Dp X.K H (.ref a) d ∧ d.canLay0 = true ∧ d.showable = true ∧ d.depth ≤ 64 ∧ d.shown.length ≤ sizeLine ∧ Q (.str d.shown) H) := by
  intro pins s σ H xs us Q I r h
  obtain ⟨a, d, rfl, hd, hc, hs, hz, hl, q⟩ := h
  obtain ⟨u, rfl, e⟩ := vals1 r
  have e : u = Value.ref a := e
  subst e
  obtain ⟨as, hr⟩ := hd.reads I d _ _ rfl
  have hno := PyData.hasDict_of_canLay d hc
  exact repr_of_reads' hr hs (fun z => by rw [hno] at z; cases z) hg (by omega) (fun b o e => e) (fun h' u tk k => ⟨.str d.shown, H, I.kept k, ⟨_, rfl⟩, q⟩) hl
end
def shD (d : D) : List Nat := (toPy d).shown.cps.toList
def isSq : D → Bool
  | .lst _ => true
  | .tup _ => true
  | .scr _ => true
  | _ => false
def dRepr : List D → Option D
  | [d] => if (isSq d && eqOk d && (toPy d).showable && decide ((shD d).length ≤ 16777216) && okS (shD d)) = true then some (.str (shD d)) else none
  | _ => none
theorem op_dRepr {G : Gx} : OpA G (fun xs H Q => ∃ a d, xs = [.ref a] ∧ Dp G.K H (.ref a) d ∧ d.canLay0 = true ∧ d.showable = true ∧ d.depth ≤ 64 ∧ d.shown.length ≤ sizeLine ∧ Q (.str d.shown) H) dRepr := fun F H vs xs d f hvs e => by
  unfold dRepr at e
  split at e
  · rename_i x
    split at e
    · rename_i hq
      cases e
      simp only [Bool.and_eq_true, decide_eq_true_eq] at hq
      obtain ⟨⟨⟨⟨h1, h2⟩, h3⟩, h4⟩, h5⟩ := hq
      cases hvs with
      | cons hv t =>
        cases t
        rename_i v
        obtain ⟨a1, a2⟩ := hv.dp f h2
        obtain ⟨p, rfl⟩ : ∃ p, v = .ref p := by
          cases x <;> first | cases h1 | skip
          all_goals
            simp only [toPy] at a1
            cases a1
            exact ⟨_, rfl⟩
        unfold SeqAt.shaped at a2
        rw [Bool.and_eq_true, decide_eq_true_eq] at a2
        exact gives_v (.str _ h5) f fun Q q => ⟨p, _, rfl, a1, by first | exact a2.1 | exact a2.2, h3, by first | omega | exact Nat.le_of_lt_succ (by omega), by rw [sizeLine_eq]; exact h4, q⟩
    · cases e
  · cases e
section
variable {X : Cx} {B : Hp} {W : WX} {e : Expr} {es : List Expr} {pos p : Pos} {k : Nat}
theorem dRepr1 {fa : Ev (List Opd)} (hg : X.A.guards = some []) (hr : Room k X.A) (hm : X.mg "repr" = none) (ha : DA X B W [e] fa) (he : starEach [e] X.env = (false, eval e X.env) :: starEach [] X.env := by rfl) (hgl : Gl X "repr" := by rfl) :
    DE X B W (.Call (.Name "repr" p) [e] [] pos) (oAE dRepr fa) :=
  de_cb (call_repr_dp hg (by have := hr.un; omega)) op_dRepr hm ha hgl (by decide +kernel) (by decide) (by decide) he
end
structure FnG (P : Program) (w : World) (K : PySem.W.Frag) (mg : Str → Option Value) (base : Heap) (k : Nat) (f : Addr) (fd : FuncData) (ps : List Str) (sp : Sp) : Prop where
  len : ∀ vs H Q E, sp vs H Q E → vs.length = ps.length
  run : ∀ A : Around, Room k A → A.guards = some [] → ∀ (outer : List Env) (s : Shared) (H : Hp) (args : Args) (us : List Value) (vs : List V) (Q : VK) (E : XK), Env0 P w K mg base A outer s H → BindsTo s fd args (ps.zip us) → Vals vs us → sp vs H Q E →
    codeAny (model P w) A (.call (.ref f) args) (CR (L2.CX P w) outer P w H s Q E) s
theorem end_of_body {P : Program} {w : World} {K : PySem.W.Frag} {mg : Str → Option Value} {base : Heap} {N : List Str} {qual : Str} {scope : Scope} {f : Addr} {cdv : Value} {A : Around} {outer : List Env} {s s' : Shared} {H : Hp} {E : XK} {Q : VK} {fl : Flow}
    (h : SP (cxOf (L2.CX P w) P w K mg base N qual scope f cdv A outer s H E) [] { nx := fun _ H' => Q .non H', rt := Q } fl s') :
    match fl with | .ret u => CE outer P w H s Q u s' | .next => CE outer P w H s Q .none s' | _ => False := by
  cases fl with
  | ret u => obtain ⟨v, _, H', J, r, q⟩ := h; exact ⟨v, H', J.os, J.bare, J.base, J.hok, r, q⟩
  | next => obtain ⟨_, H', J, q⟩ := h; exact ⟨.non, H', J.os, J.bare, J.base, J.hok, rfl, q⟩
  | brk => obtain ⟨_, _, _, q⟩ := h; exact q
  | cont => obtain ⟨_, _, _, q⟩ := h; exact q
section
variable {P : Program} {w : World} {K : PySem.W.Frag} {mg : Str → Option Value} {base : Heap}
theorem fnG_ok {x qual : Str} {st : Stmt} {f : Addr} {fd : FuncData} {N ps : List Str} {k : Nat} {sp : Sp} (F : Fun K x qual st f fd) (S : FnScope N ps (defScope st)) (len : ∀ vs H Q E, sp vs H Q E → vs.length = ps.length)
    (body : ∀ (cdv : Value) (A : Around) (outer : List Env) (s : Shared) (H : Hp) (vs : List V) (Q : VK) (E : XK), Room k (A.deeper (envOfC qual (defScope st) s.heap.objs.size f cdv)) → A.guards = some [] → sp vs H Q E →
      ∃ t, PSs (cxOf (L2.CX P w) P w K mg base N qual (defScope st) f cdv A outer s H E) (defBody st) t ∧ t { nx := fun _ H' => Q .non H', rt := Q } (start N vs) H) : FnG P w K mg base (k + 1) f fd ps sp := by
  obtain ⟨oc, od, kV, doc, pm, an, cdv, ct, osl, rfl, lk, hcd⟩ := F.ex
  refine ⟨len, fun A hr hgu outer s H args us vs Q E e0 hb r hsp => ?_⟩
  have inS : ∀ b o, base.get? b = some o → s.heap.get? b = some o := fun b o e => (e0.bs b o e).1
  have KX := e0.mod.kin.keeps inS
  obtain ⟨t, ht, hq⟩ := body cdv A outer s H vs Q E (hr.deeper _) hgu hsp
  refine codeAny_call_function hr.depth (KX _ _ lk) rfl S.co S.gen rfl (PySem.W.codeRec_of KX hcd) (hb _ _ _ _ (wpAny_newFunctionEnv_cells S.kind (fun y hy => ?_) fun env he s1 x => ?_))
  · cases S.par y.1 (List.of_mem_zip (show (y.1, y.2) ∈ ps.zip us from hy)).1 with
    | inl q => exact .inl q
    | inr q => exact .inr ⟨q, PySem.W.cellsFrom_some _ _ _ (.inl q)⟩
  · subst he
    refine ⟨(e0.mod.nolimit.keeps inS).keeps x.toInCall.keep, codeAny_func (wpAny_mono (ht.run [] s1 _ H _ (inv_start S hr.hd e0 (len _ _ _ _ hsp) r x) hq) (fun fl s' hs => ?_) fun e s' hs => hs)⟩
    have q := end_of_body hs
    cases fl with
    | ret u => exact q
    | next => exact q
    | brk => exact q.elim
    | cont => exact q.elim
end
structure DefG (P : Program) (w : World) (K : PySem.W.Frag) (mg : Str → Option Value) (base : Heap) (k : Nat) (x : Str) (n : Nat) (c : CallT) : Prop where
  ex : ∃ f fd ps, FnG P w K mg base k f fd ps (spOf ⟨K, mg, w⟩ n c) ∧ Binds K fd ps [] ∧ mg x = some (.ref f) ∧ PySem.W.keepIn K (.ref f) = true
theorem DefG.mono {P : Program} {w : World} {K : PySem.W.Frag} {mg : Str → Option Value} {base : Heap} {k j : Nat} {x : Str} {n : Nat} {c : CallT} (d : DefG P w K mg base k x n c) (h : k ≤ j) : DefG P w K mg base j x n c := by
  obtain ⟨f, fd, ps, a, b, c, e⟩ := d.ex
  exact ⟨f, fd, ps, ⟨a.len, fun A hr => a.run A (hr.mono h)⟩, b, c, e⟩
section
variable {X : Cx} {B : Hp} {W : WX} {e : Expr} {es : List Expr} {pos p : Pos} {k : Nat} {x : Str} {n : Nat} {c : CallT}
theorem run_fnG {f : Addr} {fd : FuncData} {ps : List Str} {sp : Sp} {E : L2.St → XK} {pins : List (Addr × Obj)} {σ : L2.St} {H : Hp} {s : Shared} {Q : VK} {us : List Value} {vs : List V} (F : FnG X.prog X.w X.K X.mg X.base k f fd ps sp) (hr : Room k X.A) (hgu : X.A.guards = some []) (hb : Binds X.K fd ps []) (hx : PassesAt (L2.CX X.prog X.w) X σ (E σ))
    (I : Inv X pins σ H s) (r : Vals vs us) (h : sp vs H Q (E σ)) : wpAny (model X.prog X.w) X.A (call (.ref f) us) (EP X pins σ Q) X.xe s := by
  have b := hb s us I.kIn (by rw [List.append_nil, ← r.length]; exact F.len _ _ _ _ h)
  rw [List.append_nil] at b
  refine wpAny_call (codeAny_mono (F.run X.A hr hgu X.stack s H ⟨us, []⟩ us vs Q (E σ) I.env0 b r h) fun r s' hq => ?_)
  match r, hq with
  | .error e, hq => exact hx pins H s e s' I hq
  | .ok (.ret u), hq => exact I.after hq
  | .ok .next, hq => exact hq.elim
  | .ok .brk, hq => exact hq.elim
  | .ok .cont, hq => exact hq.elim
theorem de_cG {fa : Ev (List Opd)} (d : DefG X.prog X.w X.K X.mg X.base k x n c) (hgu : X.A.guards = some []) (hr : Room k X.A) (tk : Takes X W) (ha : DA X B W (e :: es) fa) (hl : aLen fa n := by repeat (first | exact aLen_n | refine aLen_c ?_)) (hg : Gl X x := by rfl) (hdb : (x == ("__debug__" : Str)) = false := by decide)
    (he : starEach (e :: es) X.env = (false, eval e X.env) :: starEach es X.env := by rfl) (hpl : (backTo pos (starEach es X.env)).any (·.1) = false := by rfl) : DE X B W (.Call (.Name x p) (e :: es) [] pos) (cE c fa) := by
  obtain ⟨f, fd, ps, F, hb, hm, hk⟩ := d.ex
  refine ⟨fun pins s σ H Q I h => wpAny_Call_Name_kw (ld_glob I hg hm (PySem.W.callWith_K (h₀ := X.base) I.ok.mod.kin hk (thn (ha.run pos pins s σ H _ I (call_lift hl h)) fun us s1 ⟨vs, H1, I1, r, q⟩ => ⟨I1.kIn, ?_⟩) he hpl) hdb)⟩
  exact run_fnG (E := WE W) F hr hgu hb (passAt tk σ) I1 r q
end
section
variable {P : Program} {w : World} {K : PySem.W.Frag} {mg : Str → Option Value} {base : Heap}
theorem fnG_by {x qual : Str} {st : Stmt} {f : Addr} {fd : FuncData} {N ps : List Str} {k : Nat} {b : EvS} (F : Fun K x qual st f fd) (S : FnScope N ps (defScope st))
    (body : ∀ (B : Hp) (cdv : Value) (A : Around) (outer : List Env) (s : Shared) (H : Hp) (E : XK) (W : WX), Room k (A.deeper (envOfC qual (defScope st) s.heap.objs.size f cdv)) → A.guards = some [] →
      Takes (cxOf (L2.CX P w) P w K mg base N qual (defScope st) f cdv A outer s H E) W → PassesOwn (model P w) (A.deeper (envOfC qual (defScope st) s.heap.objs.size f cdv)) (envOfC qual (defScope st) s.heap.objs.size f cdv) (cxOf (L2.CX P w) P w K mg base N qual (defScope st) f cdv A outer s H E).xe →
      DSs (cxOf (L2.CX P w) P w K mg base N qual (defScope st) f cdv A outer s H E) B W (defBody st) b) : FnG P w K mg base (k + 1) f fd ps (spOf ⟨K, mg, w⟩ ps.length (runB N.length b)) := by
  refine fnG_ok F S (fun vs H Q E h => h.1) (fun cdv A outer s H vs Q E hr hgu h => ?_)
  obtain ⟨hl, F0, ds, st0, f0, so0, r, q⟩ := h
  refine ⟨_, body (hid F0.m H) cdv A outer s H E (fun cls d _ H' => E cls d H') hr hgu (takes_of rfl rfl rfl rfl) (passes_of rfl), ?_⟩
  have hN : ps.length ≤ N.length := by have := congrArg List.length S.pre; rw [List.length_take] at this; omega
  refine ⟨F0, _, st0, Ok.start f0 (hid_same _ _) so0 r (by omega), ?_⟩
  unfold runB at q
  revert q
  generalize b (ds.map Sl.d ++ List.replicate (N.length - ds.length) .no) st0 = r
  intro q
  cases r with
  | nx S1 st1 => exact fun σ' H' F' g o => q .non H' F' o.kp o.fH g o.so .non
  | ret d S1 st1 => exact fun v σ' H' F' g o rr => q v H' F' o.kp o.fH g o.so rr
  | exc y S1 st1 => exact fun c d σ' H' F' g o rr => q c d H' F' o.kp o.fH g o.so rr
  | bk S1 st1 => exact q.elim
  | ct S1 st1 => exact q.elim
  | rto w1 S1 st1 => exact q.elim
  | stuck => exact q.elim
theorem defG_by {x qual : Str} {st : Stmt} {f : Addr} {fd : FuncData} {N ps : List Str} {k : Nat} {b : EvS} (F : Fun K x qual st f fd) (S : FnScope N ps (defScope st)) (hb : Binds K fd ps []) (hm : mg x = some (.ref f))
    (body : ∀ (B : Hp) (cdv : Value) (A : Around) (outer : List Env) (s : Shared) (H : Hp) (E : XK) (W : WX), Room k (A.deeper (envOfC qual (defScope st) s.heap.objs.size f cdv)) → A.guards = some [] →
      Takes (cxOf (L2.CX P w) P w K mg base N qual (defScope st) f cdv A outer s H E) W → PassesOwn (model P w) (A.deeper (envOfC qual (defScope st) s.heap.objs.size f cdv)) (envOfC qual (defScope st) s.heap.objs.size f cdv) (cxOf (L2.CX P w) P w K mg base N qual (defScope st) f cdv A outer s H E).xe →
      DSs (cxOf (L2.CX P w) P w K mg base N qual (defScope st) f cdv A outer s H E) B W (defBody st) b) : DefG P w K mg base (k + 1) x ps.length (runB N.length b) := ⟨f, fd, ps, fnG_by F S body, hb, hm, F.kp⟩
end
end DL
namespace DL
open PySem PySem.Spec PyProof.Rows L2
def trkS (K : PySem.W.Frag) (a : Addr) (vs : List Value) (ns : List Int) : Hp := fun b => if b = a ∧ K.lookup a = none then some (.frz { cls := .type "list", data := .seq vs.toArray } (.lst (ns.map V.int))) else none
section
variable {K : PySem.W.Frag} {a : Addr} {vs : List Value} {ns : List Int} {h : Heap}
theorem trkS_some {b : Addr} {u : HO} (e : trkS K a vs ns b = some u) : b = a ∧ K.lookup a = none ∧ u = .frz { cls := .type "list", data := .seq vs.toArray } (.lst (ns.map V.int)) := by
  unfold trkS at e
  split at e
  · rename_i q; exact ⟨q.1, q.2, (Option.some.inj e).symm⟩
  · cases e
theorem trkS_only : Only (trkS K a vs ns) := fun b => by
  cases e : trkS K a vs ns b with
  | none => exact .inl rfl
  | some u => obtain ⟨_, _, rfl⟩ := trkS_some e; exact .inr ⟨_, _, rfl⟩
theorem trkS_sq (KX : K.In h) (ha : h.get? a = some { cls := .type "list", data := .seq vs.toArray }) (hi : IntsAre vs ns) (hl : ns.length ≤ sizeLine) : SqL K (trkS K a vs ns) a (ns.map V.int) := by
  cases e : K.lookup a with
  | none => exact .inl (.inr ⟨_, by unfold trkS; rw [if_pos ⟨rfl, e⟩]⟩)
  | some o =>
    have q := KX a o e
    rw [ha] at q
    obtain rfl := (Option.some.inj q).symm
    refine .inr ⟨_, vs.toArray, _, e, rfl, rfl, rfl, ?_, by simpa using vals_ints hi⟩
    have := hi.length
    simp only [List.size_toArray]; omega
theorem trkS_ok {P : Program} {w : World} (ha : h.get? a = some { cls := .type "list", data := .seq vs.toArray }) (hi : IntsAre vs ns) (hl : ns.length ≤ sizeLine) : HOk P w (trkS K a vs ns) h := fun b u e => by
  obtain ⟨rfl, _, rfl⟩ := trkS_some e
  exact ⟨ha, by simpa using hl, vs, _, vals_ints hi, ha⟩
theorem trkS_off {b : Addr} {o : Obj} (ha : h.get? a = some { cls := .type "list", data := .seq vs.toArray }) (e : h.get? b = some o) (n : o ≠ { cls := .type "list", data := .seq vs.toArray }) : trkS K a vs ns b = none := by
  cases q : trkS K a vs ns b with
  | none => rfl
  | some u =>
    obtain ⟨rfl, _, _⟩ := trkS_some q
    rw [ha] at e
    exact absurd (Option.some.inj e).symm n
end
theorem law_callG {P : Program} {w : World} {K : PySem.W.Frag} {mg mb : Str → Option Value} {k : Nat} {fa a : Addr} {fd : FuncData} {x : Str} {sp : Sp} {s₁ : Shared} {vs : List Value} {ns : List Int}
    (KX : K.In s₁.heap) (hns : s₁.heap.Ns mainGlobals mg) (hb : s₁.heap.Ns builtinsNs mb) (hbb : ∀ x : Str, x ≠ "__name__" → mb x = bootBuiltins x) (hlim : s₁.heap.NoLimit) (hg : s₁.gens = #[])
    (ha : s₁.heap.get? a = some { cls := .type "list", data := .seq vs.toArray }) (hi : IntsAre vs ns) (hl : ns.length ≤ sizeLine) (hr : Room k callerA)
    (F : ∀ base : Heap, K.In base → base.Ns mainGlobals mg → FnG P w K mg base k fa fd [x] sp) (hbind : ∀ (s : Shared) (u : Value), BindsTo s fd ⟨[u], []⟩ [(x, u)])
    (hsp : ∀ H : Hp, Only H → SqL K H a (ns.map V.int) → sp [.ref a] H (fun v _ => v = .bl true) fun _ _ _ => False)
    (hCX : ∀ H e s', L2.CX P w [] H s₁ (fun _ _ _ => False) e s' → False) :
    codeAny (model P w) callerA (.call (.ref fa) ⟨[.ref a], []⟩) (fun r s' => r = .ok (.ret (.bool true)) ∧ OldK s₁.heap s'.heap ∧ s'.os = s₁.os ∧ AllBare s'.gens) s₁ := by
  have hok : HOk P w (trkS K a vs ns) s₁.heap := trkS_ok ha hi hl
  have keep : ∀ {b : Addr} {o : Obj}, s₁.heap.get? b = some o → trkS K a vs ns b = none → (hidT s₁.heap (trkS K a vs ns)).get? b = some o := fun e n => hidT_get e n
  have nsK : ∀ {b : Addr} {m : Str → Option Value}, s₁.heap.Ns b m → (hidT s₁.heap (trkS K a vs ns)).Ns b m := fun {b m} ⟨o, es, ep, e, d, r⟩ =>
    ⟨o, es, ep, keep e (trkS_off ha e fun z => by subst z; cases d), d, r⟩
  have kin : K.In (hidT s₁.heap (trkS K a vs ns)) := fun b o e => keep (KX b o e) (by
    cases q : trkS K a vs ns b with
    | none => rfl
    | some u => obtain ⟨rfl, z, _⟩ := trkS_some q; rw [e] at z; cases z)
  have nl : (hidT s₁.heap (trkS K a vs ns)).NoLimit := let ⟨mc, h1, h2⟩ := hlim; ⟨mc, nsK h1, h2⟩
  have e0 : Env0 P w K mg (hidT s₁.heap (trkS K a vs ns)) callerA [] s₁ (trkS K a vs ns) :=
    ⟨rfl, ⟨kin, nsK hns, ⟨mb, nsK hb, hbb⟩, nl⟩, fun b o e => of_hidT e, Nat.le_of_eq (hidT_size _ _), trivial, fun b hb => (nomatch hb), hok, .of_eq hg⟩
  refine codeAny_mono ((F _ kin (nsK hns)).run callerA hr rfl [] s₁ _ ⟨[.ref a], []⟩ [.ref a] [.ref a] _ _ e0 (hbind s₁ (.ref a)) (.cons rfl .nil) (hsp _ trkS_only (trkS_sq KX ha hi hl))) fun r s' h => ?_
  match r, h with
  | .error e, h => exact (hCX _ e s' h).elim
  | .ok .next, h => exact h.elim
  | .ok .brk, h => exact h.elim
  | .ok .cont, h => exact h.elim
  | .ok (.ret u), h =>
    obtain ⟨v, H', os, bare, un, hok', r', q⟩ := h
    cases q
    cases r'
    refine ⟨rfl, OldK.of_keep fun b o e => ?_, os, bare⟩
    cases q : trkS K a vs ns b with
    | none => exact un.keep b o e q (fun z => nomatch z) (fun z => nomatch z)
    | some u =>
      obtain ⟨rfl, _, rfl⟩ := trkS_some q
      have := (hok' _ _ (un.frzs _ _ _ q)).1
      rw [ha] at e
      rw [← e]; exact this
theorem walk_ofEG {l : PySem.W.OpenLaw} {n k : Nat} {q : Program} {loose : List Str} {XP : (Str → Option Value) → Heap → Prop} {YP : World → Heap → Prop} {d : DefRec} {x : Str}
    (hn : l.most = some n) (hn2 : n ≤ sizeLine) (hdf : d.params.defaults = []) (hr : Room k callerA)
    (F : ∀ (w : World) (mg : Str → Option Value) (fa : Addr) (h : Heap), YP w h → h.Ns mainGlobals mg → mg d.name = some (.ref fa) →
      ∃ (K : PySem.W.Frag) (fd : FuncData) (sp : Sp), K.In h ∧ (∀ (s : Shared) (u : Value), BindsTo s fd ⟨[u], []⟩ [(x, u)]) ∧
        (∀ (H : Hp) (a : Addr) (ns : List Int), ns.length ≤ n → (∀ z ∈ ns, Builtin.Int.intBits z ≤ 1048576) → Only H → SqL K H a (ns.map V.int) → sp [.ref a] H (fun v _ => v = .bl true) fun _ _ _ => False) ∧
        ∀ base : Heap, K.In base → base.Ns mainGlobals mg → FnG l.prog w K mg base k fa fd [x] sp) :
    PySem.W.WalkO q loose XP YP l.row.toRowW d [] (fun f vs => PySem.call f vs) := by
  refine Att.attach_callB hn hdf fun w s₀ s₁ mg mb fa o pm cd doc a vs ns G Y ho hd hcd hmg hobj hints hlen hbits hg => ?_
  obtain ⟨K, fd, sp, KX, hb, hsp, hF⟩ := F w mg fa _ Y G.T.g hmg
  exact law_callG KX G.T.g G.T.b G.T.builtins G.T.nolimit hg hobj hints (Nat.le_trans hlen hn2) hr hF hb (fun H hO hS => hsp H a ns hlen hbits hO hS) fun H e s' h => by obtain ⟨_, _, _, _, _, _, _, _, _, _, _, _, z⟩ := h; exact z.elim
theorem lawG_imp {P : Program} {w : World} {K : PySem.W.Frag} {mg : Str → Option Value} {base : Heap} {k : Nat} {f : Addr} {fd : FuncData} {ps : List Str} {c : CallT} (h : LawOk c) (F : FnG P w K mg base k f fd ps (spOf ⟨K, mg, w⟩ 1 c)) :
    FnG P w K mg base k f fd ps (spLaw K) := by
  have im : ∀ vs H Q E, spLaw K vs H Q E → spOf ⟨K, mg, w⟩ 1 c vs H Q E := fun vs H Q E ⟨a, ns, e, hS, hl, hb, q⟩ => by
    subst e
    obtain ⟨st, e⟩ := h ns hl fun z hz => by
      have := hb z hz
      unfold Builtin.Int.intBits at this
      split at this
      · rename_i h0; simp at h0; subst h0; decide
      · omega
    refine ⟨rfl, ⟨H, []⟩, [.scr ns], [], Same.refl H, ⟨rfl, List.nodup_nil, fun n x a e1 e2 => by simp at e1⟩, .one (.scr hS), ?_⟩
    rw [e]
    intro v H' F' _ _ _ _ r
    cases r
    exact q H'
  exact ⟨fun vs H Q E q => F.len vs H Q E (im _ _ _ _ q), fun A hr hgu outer s H args us vs Q E e0 hb hv hs => F.run A hr hgu outer s H args us vs Q E e0 hb hv (im _ _ _ _ hs)⟩
end DL
namespace M
open PySem PySem.Spec PyProof.Rows L2 DL
def topS (i : Nat) : Stmt := PySem.Challenge.pw_saywell_k51_tongues_and_words.main.body.getD i (.Pass ⟨0, 0, 0, 0⟩)
abbrev xT : XTab := [(22077456503107175, 22077456503107175, true), (5651828894943638885, 5651828894943638885, true), (22077464975799653, 22077464975799653, true), (22077456503107175, 1446866215807293155173, false), (22077456503107175, 5651828894943638885, false), (22077456503107175, 22077464975799653, false), (22077456503107175, 6008216717068758898, true), (5651828894943638885, 1446866215807293155173, false), (5651828894943638885, 22077456503107175, false), (5651828894943638885, 22077464975799653, false), (5651828894943638885, 6008216717068758898, true), (22077464975799653, 1446866215807293155173, false), (22077464975799653, 22077456503107175, false), (22077464975799653, 5651828894943638885, false), (22077464975799653, 6008216717068758898, true)]
abbrev k_LETTERS : List Nat := [97, 98, 99, 100, 101, 102, 103, 104, 105, 106, 107, 108, 109, 110, 111, 112, 113, 114, 115, 116, 117, 118, 119, 120, 121, 122, 65, 66, 67, 68, 69, 70, 71, 72, 73, 74, 75, 76, 77, 78, 79, 80, 81, 82, 83, 84, 85, 86, 87, 88, 89, 90]
theorem ok_k_LETTERS : okS k_LETTERS = true := by decide
abbrev s__law_cell_at : Stmt := topS 14
abbrev N__law_cell_at : List Str := ["_law_script", "_law_k"]
theorem sc__law_cell_at : FnScope N__law_cell_at ["_law_script", "_law_k"] (defScope s__law_cell_at) := ⟨rfl, rfl, rfl, by decide +kernel, rfl, by decide +kernel, by decide +kernel⟩
noncomputable def b__law_cell_at : EvS :=
   sSeq (sI (tV (o2E dLt (oV (vE 1)) (oV (oAE dLen (aC (oV (vE 0)) (aN)))))) (sR (o2E dIx (oV (vE 0)) (oV (vE 1)))) (sNil))
   (sR (kE (.int 0)))
noncomputable def c__law_cell_at : CallT := runB 2 b__law_cell_at
abbrev s__law_word : Stmt := topS 15
abbrev N__law_word : List Str := ["_law_cell", "_law_letters", "_law_rest", "_law_found", "_law_k"]
theorem sc__law_word : FnScope N__law_word ["_law_cell"] (defScope s__law_word) := ⟨rfl, rfl, rfl, by decide +kernel, rfl, by decide +kernel, by decide +kernel⟩
noncomputable def L__law_word_1 : EvS :=
   sSeq (sV 3 (o2E dAdd (oV (vE 3)) (oV (o2E dIx (oV (vE 1)) (oV (o2E dMod (oV (vE 2)) (oV (kE (.int 26)))))))))
   (sV 2 (o2E dFdiv (oV (vE 2)) (oV (kE (.int 26)))))
noncomputable def b__law_word : EvS :=
   sSeq (sV 1 (kE (.str [97, 98, 99, 100, 101, 102, 103, 104, 105, 106, 107, 108, 109, 110, 111, 112, 113, 114, 115, 116, 117, 118, 119, 120, 121, 122])))
   (sSeq (sV 2 (o2E dFdiv (oV (vE 0)) (oV (kE (.int 8)))))
   (sSeq (sV 3 (kE (.str [])))
   (sSeq (sF (iR1 (aC (oV (o2E dAdd (oV (kE (.int 1))) (oV (o2E dMod (oV (vE 0)) (oV (kE (.int 8))))))) (aN))) (gV 4) (L__law_word_1))
   (sSeq (sI (tV (o2E dEq (oV (vE 3)) (oV (kE (.str [101, 108, 115, 101]))))) (sR (kE (.str [101, 108, 115]))) (sNil))
   (sR (vE 3))))))
noncomputable def c__law_word : CallT := runB 5 b__law_word
abbrev s__law_words : Stmt := topS 16
abbrev N__law_words : List Str := ["_law_cell", "_law_many", "_law_number", "_law_found", "_law_k", "_law_word_here"]
theorem sc__law_words : FnScope N__law_words ["_law_cell", "_law_many"] (defScope s__law_words) := ⟨rfl, rfl, rfl, by decide +kernel, rfl, by decide +kernel, by decide +kernel⟩
noncomputable def L__law_words_1 : EvS :=
   sSeq (sV 2 (o2E dMod (oV (o2E dAdd (oV (o2E dAdd (oV (o2E dMul (oV (vE 2)) (oV (kE (.int 6364136223846793005))))) (oV (kE (.int 1442695040888963407))))) (oV (o2E dMul (oV (vE 4)) (oV (vE 4)))))) (oV (o2E dPow (oV (kE (.int 10))) (oV (kE (.int 40)))))))
   (sSeq (sV 5 (cE c__law_word (aC (oV (o2E dFdiv (oV (vE 2)) (oV (o2E dPow (oV (kE (.int 10))) (oV (kE (.int 12))))))) (aN))))
   (sI (tA (tV (o2E dNotIn (oV (vE 5)) (oS 3))) (tV (o2E dLt (oV (oAE dLen (aC (oS 3) (aN)))) (oV (vE 1))))) (sAp 3 (oV (vE 5))) (sNil)))
noncomputable def b__law_words : EvS :=
   sSeq (sV 2 (o2E dMod (oV (vE 0)) (oV (o2E dPow (oV (kE (.int 10))) (oV (kE (.int 40)))))))
   (sSeq (sO 3 (lF (aN)))
   (sSeq (sF (iR1 (aC (oV (o2E dMul (oV (kE (.int 3))) (oV (vE 1)))) (aN))) (gV 4) (L__law_words_1))
   (sR (zE 3))))
noncomputable def c__law_words : CallT := runB 6 b__law_words
abbrev s_House___init__ : Stmt := inClass (topS 10) 0
abbrev N_House___init__ : List Str := ["self", "kinds", "ranks", "things"]
theorem sc_House___init__ : FnScope N_House___init__ ["self", "kinds", "ranks", "things"] (defScope s_House___init__) := ⟨rfl, rfl, rfl, by decide +kernel, rfl, by decide +kernel, by decide +kernel⟩
noncomputable def b_House___init__ : EvS :=
   sSeq (sFL [311107613541] 7739838811990028151 (oH (vE 0)) (fE (oAF dListF (aC (oH (vE 1)) (aN)))))
   (sSeq (sFL [311107613541] 8241990200506609527 (oH (vE 0)) (fE (oAF dListF (aC (oH (vE 2)) (aN)))))
   (sSeq (sFL [311107613541] 2147345978593069133687 (oH (vE 0)) (fE (oAF dListF (aC (oH (vE 3)) (aN)))))
   (sSeq (sFL [311107613541] 27717998498377061 (oH (vE 0)) (aE (kF0)))
   (sSeq (sFL [311107613541] 140728466053075387167569011 (oH (vE 0)) (tNw))
   (sSeq (sFL [311107613541] 7234297693583074660 (oH (vE 0)) (aE (kF0)))
   (sFL [311107613541] 135897410560948860992451173 (oH (vE 0)) (tNw)))))))
noncomputable def c_House___init__ : CallT := runB 4 b_House___init__
abbrev s__law_some : Stmt := topS 19
abbrev N__law_some : List Str := ["_law_names", "_law_cell", "_law_found", "_law_name"]
theorem sc__law_some : FnScope N__law_some ["_law_names", "_law_cell"] (defScope s__law_some) := ⟨rfl, rfl, rfl, by decide +kernel, rfl, by decide +kernel, by decide +kernel⟩
noncomputable def L__law_some_1 : EvS :=
   sSeq (sI (tV (o2E dEq (oV (o2E dMod (oV (vE 1)) (oV (kE (.int 4))))) (oV (kE (.int 1))))) (sAp 2 (oV (vE 3))) (sNil))
   (sV 1 (o2E dFdiv (oV (vE 1)) (oV (kE (.int 4)))))
noncomputable def b__law_some : EvS :=
   sSeq (sO 2 (lF (aN)))
   (sSeq (sF (iE (vE 0)) (gV 3) (L__law_some_1))
   (sR (zE 2)))
noncomputable def c__law_some : CallT := runB 4 b__law_some
abbrev s_Tongue___init__ : Stmt := inClass (topS 12) 0
abbrev N_Tongue___init__ : List Str := ["self", "name", "falls", "rules", "joiners", "figures", "calendar", "dayform"]
theorem sc_Tongue___init__ : FnScope N_Tongue___init__ ["self", "name", "falls", "rules", "joiners", "figures", "calendar", "dayform"] (defScope s_Tongue___init__) := ⟨rfl, rfl, rfl, by decide +kernel, rfl, by decide +kernel, by decide +kernel⟩
noncomputable def b_Tongue___init__ : EvS :=
   sSeq (sFL [92837570377061] 1851878757 (oH (vE 0)) (vE 1))
   (sSeq (sFL [92837570377061] 439721159795 (oH (vE 0)) (fE (oAF dListF (aC (oV (vE 2)) (aN)))))
   (sSeq (sFL [92837570377061] 491596309875 (oH (vE 0)) (vE 3))
   (sSeq (sFL [92837570377061] 29958846145720947 (oH (vE 0)) (vE 4))
   (sSeq (sFL [92837570377061] 28826340697466227 (oH (vE 0)) (vE 5))
   (sSeq (sFL [92837570377061] 7161124065395368306 (oH (vE 0)) (vE 6))
   (sFL [92837570377061] 28254671708582509 (oH (vE 0)) (vE 7)))))))
noncomputable def c_Tongue___init__ : CallT := runB 8 b_Tongue___init__
abbrev s__law_tongue : Stmt := topS 20
abbrev N__law_tongue : List Str := ["_law_name", "_law_names", "_law_cell", "_law_falls", "_law_long", "_law_rules", "_law_figures"]
theorem sc__law_tongue : FnScope N__law_tongue ["_law_name", "_law_names", "_law_cell"] (defScope s__law_tongue) := ⟨rfl, rfl, rfl, by decide +kernel, rfl, by decide +kernel, by decide +kernel⟩
noncomputable def b__law_tongue : EvS :=
   sSeq (sV 3 (cE c__law_some (aC (oV (vE 1)) (aC (oV (vE 2)) (aN)))))
   (sSeq (sV 4 (o2E dAdd (oV (kE (.int 1))) (oV (o2E dMod (oV (o2E dFdiv (oV (vE 2)) (oV (kE (.int 7))))) (oV (kE (.int 9)))))))
   (sSeq (sV 5 (fE (lF (aC (oV (pE (aC (oV (cE c__law_word (aC (oV (o2E dFdiv (oV (vE 2)) (oV (kE (.int 11))))) (aN)))) (aC (oV (pE (aC (oV (kE (.str [115, 101, 108, 102]))) (aC (oV (o2E dMod (oV (vE 2)) (oV (kE (.int 9))))) (aC (oV (kE .non)) (aN)))))) (aN))))) (aC (oV (pE (aC (oV (kE (.str [122, 122]))) (aC (oV (kE .non)) (aN))))) (aN))))))
   (sSeq (sI (tV (o2E dEq (oV (o2E dIx (oV (o2E dIx (oV (vE 5)) (oV (kE (.int 0))))) (oV (kE (.int 0))))) (oV (kE (.str [122, 122]))))) (sV 5 (slE dSl (oV (vE 5)) (sS (kE (.int 1))) (sN))) (sNil))
   (sSeq (sV 6 (pE (aC (oV (vE 4)) (aC (oV (o2E dAdd (oV (kE (.int 1))) (oV (o2E dMod (oV (o2E dFdiv (oV (vE 2)) (oV (kE (.int 5))))) (oV (kE (.int 9))))))) (aC (oV (kE (.str [44]))) (aC (oV (kE (.str [45]))) (aC (oV (kE (.str [48, 49, 50, 51, 52, 53, 54, 55, 56, 57]))) (aN))))))))
   (sR (newH 92837570377061 c_Tongue___init__ (aC (oV (vE 0)) (aC (oV (vE 3)) (aC (oV (vE 5)) (aC (oV (pE (aC (oV (kE (.str []))) (aC (oV (kE (.str [32]))) (aC (oV (kE (.str [44, 32]))) (aC (oV (kE (.str [32, 43, 32]))) (aN))))))) (aC (oV (vE 6)) (aC (oV (pE (aC (oV (fE (lF (aC (oV (vE 4)) (aN))))) (aC (oV (kE (.int 1))) (aC (oV (pE (aC (oV (kE (.str [111, 114]))) (aC (oV (fE (lF (aN)))) (aN))))) (aN)))))) (aC (oV (pE (aC (oV (kE (.str [100, 109, 121]))) (aC (oV (kE (.str [46]))) (aC (oV (kE .non)) (aN)))))) (aN))))))))))))))
noncomputable def c__law_tongue : CallT := runB 7 b__law_tongue
abbrev s_House_add : Stmt := inClass (topS 10) 1
abbrev N_House_add : List Str := ["self", "tongue"]
theorem sc_House_add : FnScope N_House_add ["self", "tongue"] (defScope s_House_add) := ⟨rfl, rfl, rfl, by decide +kernel, rfl, by decide +kernel, by decide +kernel⟩
noncomputable def b_House_add : EvS :=
   sSeq (sI (tV (o2E dInK (oV (o1E (dFld [92837570377061] 1851878757) (oH (vE 1)))) (oH (o1E (dFld [311107613541] 27717998498377061) (oH (vE 0)))))) (sX 5651828894943638885) (sNil))
   (sPutL (oH (o1E (dFld [311107613541] 27717998498377061) (oH (vE 0)))) (vE 1) (o1E (dFld [92837570377061] 1851878757) (oH (vE 1))))
noncomputable def t_add : Nat → Nat → CallT
  | 0 => fun _ => cStuck
  | k + 1 => fun c => if c = 311107613541 then runB 2 (b_House_add) else cStuck
theorem t_add_House (k : Nat) : t_add (k + 1) 311107613541 = runB 2 (b_House_add) := by simp [t_add]
abbrev s__law_kinds_of : Stmt := topS 22
abbrev N__law_kinds_of : List Str := ["_law_e"]
theorem sc__law_kinds_of : FnScope N__law_kinds_of ["_law_e"] (defScope s__law_kinds_of) := ⟨rfl, rfl, rfl, by decide +kernel, rfl, by decide +kernel, by decide +kernel⟩
noncomputable def b__law_kinds_of (a : Addr) (c : Nat) : EvS :=
   sR (fE (lF (aC (oV (isE xT a c [none] 0)) (aC (oV (isE xT a c [(some 5651828894943638885)] 0)) (aC (oV (isE xT a c [(some 22077456503107175)] 0)) (aC (oV (isE xT a c [(some 22077464975799653)] 0)) (aC (oV (isE xT a c [(some 1446866215807293155173)] 0)) (aN))))))))
noncomputable def c__law_kinds_of : CallP := fun a c => runB 1 (b__law_kinds_of a c)
abbrev s__law_added : Stmt := topS 23
abbrev N__law_added : List Str := ["_law_house", "_law_tongue_here", "_law_e"]
theorem sc__law_added : FnScope N__law_added ["_law_house", "_law_tongue_here"] (defScope s__law_added) := ⟨rfl, rfl, rfl, by decide +kernel, rfl, by decide +kernel, by decide +kernel⟩
noncomputable def L__law_added_1 : EvS :=
   sE (mhE [311107613541] 6382692 (t_add 1) (vE 0) (aC (oV (vE 1)) (aN)))
noncomputable def X__law_added_1 : Addr → Nat → EvS :=
   fun a c => sR (cPE c__law_kinds_of a c 2)
noncomputable def b__law_added : EvS :=
   sSeq (sTryA xT 6008216717068758898 2 (L__law_added_1) (X__law_added_1))
   (sR (fE (lF (aN))))
noncomputable def c__law_added : CallT := runB 3 b__law_added
abbrev s__law_fields : Stmt := topS 21
abbrev N__law_fields : List Str := ["_law_tongue_here", "_law_found"]
theorem sc__law_fields : FnScope N__law_fields ["_law_tongue_here"] (defScope s__law_fields) := ⟨rfl, rfl, rfl, by decide +kernel, rfl, by decide +kernel, by decide +kernel⟩
noncomputable def b__law_fields : EvS :=
   sSeq (sV 1 (fE (lF (aC (oV (o1E (dFld [92837570377061] 1851878757) (oH (vE 0)))) (aC (oV (o1E (dFld [92837570377061] 439721159795) (oH (vE 0)))) (aC (oV (o1E (dFld [92837570377061] 491596309875) (oH (vE 0)))) (aC (oV (o1E (dFld [92837570377061] 29958846145720947) (oH (vE 0)))) (aC (oV (o1E (dFld [92837570377061] 28826340697466227) (oH (vE 0)))) (aC (oV (o1E (dFld [92837570377061] 7161124065395368306) (oH (vE 0)))) (aC (oV (o1E (dFld [92837570377061] 28254671708582509) (oH (vE 0)))) (aN)))))))))))
   (sR (oAE dRepr (aC (oV (vE 1)) (aN))))
noncomputable def c__law_fields : CallT := runB 2 b__law_fields
abbrev s_House_own_word : Stmt := inClass (topS 10) 13
abbrev N_House_own_word : List Str := ["self", "tongue", "thing"]
theorem sc_House_own_word : FnScope N_House_own_word ["self", "tongue", "thing"] (defScope s_House_own_word) := ⟨rfl, rfl, rfl, by decide +kernel, rfl, by decide +kernel, by decide +kernel⟩
noncomputable def b_House_own_word : EvS :=
   sR (tGo (oH (o1E (dFld [311107613541] 140728466053075387167569011) (oH (vE 0)))) (aC (oV (pE (aC (oV (vE 1)) (aC (oV (vE 2)) (aN))))) (aN)))
noncomputable def t_own_word : Nat → Nat → CallT
  | 0 => fun _ => cStuck
  | k + 1 => fun c => if c = 311107613541 then runB 3 (b_House_own_word) else cStuck
theorem t_own_word_House (k : Nat) : t_own_word (k + 1) 311107613541 = runB 3 (b_House_own_word) := by simp [t_own_word]
abbrev s__law_own : Stmt := topS 27
abbrev N__law_own : List Str := ["_law_found", "_law_due_here"]
theorem sc__law_own : FnScope N__law_own ["_law_found", "_law_due_here"] (defScope s__law_own) := ⟨rfl, rfl, rfl, by decide +kernel, rfl, by decide +kernel, by decide +kernel⟩
noncomputable def b__law_own : EvS :=
   sSeq (sI (tV (o2E dIs (oV (vE 1)) (oV (kE .non)))) (sR (o2E dIs (oV (vE 0)) (oV (kE .non)))) (sNil))
   (sSeq (sI (tO (tN (tT (oV (oAE dIsI (aC (oV (vE 0)) (aC (oV (kE (.ty "tuple"))) (aN))))))) (tV (o2E dNe (oV (oAE dLen (aC (oV (vE 0)) (aN)))) (oV (kE (.int 2)))))) (sR (kE (.bl false))) (sNil))
   (sR (eA (oAE dIsI (aC (oV (o2E dIx (oV (vE 0)) (oV (kE (.int 0))))) (aC (oV (kE (.ty "str"))) (aN)))) (eA (oAE dIsI (aC (oV (o2E dIx (oV (vE 0)) (oV (kE (.int 1))))) (aC (oV (kE (.ty "str"))) (aN)))) (o2E dEq (oV (vE 0)) (oV (vE 1)))))))
noncomputable def c__law_own : CallT := runB 2 b__law_own
abbrev s__law_text : Stmt := topS 17
abbrev N__law_text : List Str := ["_law_cell", "_law_letters", "_law_rest", "_law_found", "_law_k"]
theorem sc__law_text : FnScope N__law_text ["_law_cell"] (defScope s__law_text) := ⟨rfl, rfl, rfl, by decide +kernel, rfl, by decide +kernel, by decide +kernel⟩
noncomputable def L__law_text_1 : EvS :=
   sSeq (sV 3 (o2E dAdd (oV (vE 3)) (oV (o2E dIx (oV (vE 1)) (oV (o2E dMod (oV (vE 2)) (oV (kE (.int 52)))))))))
   (sV 2 (o2E dFdiv (oV (vE 2)) (oV (kE (.int 52)))))
noncomputable def b__law_text : EvS :=
   sSeq (sV 1 (kE (.str [97, 98, 99, 100, 101, 102, 103, 104, 105, 106, 107, 108, 109, 110, 111, 112, 113, 114, 115, 116, 117, 118, 119, 120, 121, 122, 65, 66, 67, 68, 69, 70, 71, 72, 73, 74, 75, 76, 77, 78, 79, 80, 81, 82, 83, 84, 85, 86, 87, 88, 89, 90])))
   (sSeq (sV 2 (o2E dFdiv (oV (vE 0)) (oV (kE (.int 16)))))
   (sSeq (sV 3 (kE (.str [])))
   (sSeq (sF (iR1 (aC (oV (o2E dAdd (oV (kE (.int 1))) (oV (o2E dMod (oV (o2E dFdiv (oV (vE 0)) (oV (kE (.int 8))))) (oV (kE (.int 12))))))) (aN))) (gV 4) (L__law_text_1))
   (sSeq (sI (tV (o2E dEq (oV (o2E dMod (oV (vE 0)) (oV (kE (.int 8))))) (oV (kE (.int 1))))) (sR (o2E dIx (oV (fE (lF (aC (oV (kE (.str []))) (aC (oV (kE (.str [97, 98, 99, 100, 101, 102, 103, 104, 105, 106, 107, 108, 77]))) (aC (oV (o2E dAdd (oV (slE dSl (oV (vE 3)) (sN) (sS (o1E dNeg (oV (kE (.int 1))))))) (oV (kE (.str [45]))))) (aC (oV (o2E dAdd (oV (kE (.str [32]))) (oV (slE dSl (oV (vE 3)) (sS (kE (.int 1))) (sN))))) (aC (oV (o2E dAdd (oV (slE dSl (oV (vE 3)) (sN) (sS (kE (.int 5))))) (oV (kE (.str [55]))))) (aN))))))))) (oV (o2E dMod (oV (o2E dFdiv (oV (vE 0)) (oV (kE (.int 96))))) (oV (kE (.int 5))))))) (sNil))
   (sR (vE 3))))))
noncomputable def c__law_text : CallT := runB 5 b__law_text
abbrev s__law_is_text : Stmt := topS 18
abbrev N__law_is_text : List Str := ["_law_text_here", "_law_letters", "_law_sign"]
theorem sc__law_is_text : FnScope N__law_is_text ["_law_text_here"] (defScope s__law_is_text) := ⟨rfl, rfl, rfl, by decide +kernel, rfl, by decide +kernel, by decide +kernel⟩
noncomputable def E__law_is_text_1 : Ev D :=
   vE 2
noncomputable def T__law_is_text_1 : Ev Bool :=
   tV (o2E dNotIn (oV (vE 2)) (oV (vE 1)))
noncomputable def b__law_is_text : EvS :=
   sSeq (sV 1 (kE (.str [97, 98, 99, 100, 101, 102, 103, 104, 105, 106, 107, 108, 109, 110, 111, 112, 113, 114, 115, 116, 117, 118, 119, 120, 121, 122, 65, 66, 67, 68, 69, 70, 71, 72, 73, 74, 75, 76, 77, 78, 79, 80, 81, 82, 83, 84, 85, 86, 87, 88, 89, 90])))
   (sR (eA (o3E dLt dLe (oV (kE (.int 0))) (oV (oAE dLen (aC (oV (vE 0)) (aN)))) (oV (kE (.int 12)))) (o2E dEq (oV (fE (lcF (iE (vE 0)) (gV 2) [2] (T__law_is_text_1) (E__law_is_text_1)))) (oV (fE (lF (aN)))))))
noncomputable def c__law_is_text : CallT := runB 3 b__law_is_text
abbrev s__law_due : Stmt := topS 26
abbrev N__law_due : List Str := ["_law_there", "_law_things", "_law_kinds", "_law_deed_here"]
theorem sc__law_due : FnScope N__law_due ["_law_there", "_law_things", "_law_kinds", "_law_deed_here"] (defScope s__law_due) := ⟨rfl, rfl, rfl, by decide +kernel, rfl, by decide +kernel, by decide +kernel⟩
noncomputable def b__law_due : EvS :=
   sSeq (sI (tV (o2E dNotInK (oV (o2E dIx (oV (vE 3)) (oV (kE (.int 0))))) (oH (vE 0)))) (sR (fE (lF (aC (oV (kE (.bl true))) (aC (oV (kE (.bl true))) (aC (oV (kE (.bl false))) (aC (oV (kE (.bl false))) (aC (oV (kE (.bl false))) (aN))))))))) (sNil))
   (sSeq (sI (tV (o2E dNotIn (oV (o2E dIx (oV (vE 3)) (oV (kE (.int 1))))) (oV (vE 1)))) (sR (fE (lF (aC (oV (kE (.bl true))) (aC (oV (kE (.bl false))) (aC (oV (kE (.bl true))) (aC (oV (kE (.bl false))) (aC (oV (kE (.bl false))) (aN))))))))) (sNil))
   (sSeq (sI (tO (tV (o2E dNotIn (oV (o2E dIx (oV (vE 3)) (oV (kE (.int 3))))) (oV (vE 2)))) (tN (tT (oV (cE c__law_is_text (aC (oV (o2E dIx (oV (vE 3)) (oV (kE (.int 2))))) (aN))))))) (sR (fE (lF (aC (oV (kE (.bl true))) (aC (oV (kE (.bl false))) (aC (oV (kE (.bl false))) (aC (oV (kE (.bl true))) (aC (oV (kE (.bl false))) (aN))))))))) (sNil))
   (sR (fE (lF (aN))))))
noncomputable def c__law_due : CallT := runB 4 b__law_due
abbrev s_House_tongue_named : Stmt := inClass (topS 10) 2
abbrev N_House_tongue_named : List Str := ["self", "name"]
theorem sc_House_tongue_named : FnScope N_House_tongue_named ["self", "name"] (defScope s_House_tongue_named) := ⟨rfl, rfl, rfl, by decide +kernel, rfl, by decide +kernel, by decide +kernel⟩
noncomputable def b_House_tongue_named : EvS :=
   sSeq (sI (tV (o2E dNotInK (oV (vE 1)) (oH (o1E (dFld [311107613541] 27717998498377061) (oH (vE 0)))))) (sX 5651828894943638885) (sNil))
   (sR (o2E dGetK (oH (o1E (dFld [311107613541] 27717998498377061) (oH (vE 0)))) (oV (vE 1))))
noncomputable def t_tongue_named : Nat → Nat → CallT
  | 0 => fun _ => cStuck
  | k + 1 => fun c => if c = 311107613541 then runB 2 (b_House_tongue_named) else cStuck
theorem t_tongue_named_House (k : Nat) : t_tongue_named (k + 1) 311107613541 = runB 2 (b_House_tongue_named) := by simp [t_tongue_named]
abbrev s_is_thing_text : Stmt := topS 9
abbrev N_is_thing_text : List Str := ["text", "sign"]
theorem sc_is_thing_text : FnScope N_is_thing_text ["text"] (defScope s_is_thing_text) := ⟨rfl, rfl, rfl, by decide +kernel, rfl, by decide +kernel, by decide +kernel⟩
noncomputable def E_is_thing_text_1 : Ev D :=
   o2E dIn (oV (vE 1)) (oV (kE (.str k_LETTERS)))
noncomputable def b_is_thing_text : EvS :=
   sR (eA (oAE dIsI (aC (oV (vE 0)) (aC (oV (kE (.ty "str"))) (aN)))) (eA (o3E dLt dLe (oV (kE (.int 0))) (oV (oAE dLen (aC (oV (vE 0)) (aN)))) (oV (kE (.int 12)))) (oAE dAll (aC (oV (fE (lcF (iE (vE 0)) (gV 1) [1] (tY) (E_is_thing_text_1)))) (aN)))))
noncomputable def c_is_thing_text : CallT := runB 2 b_is_thing_text
abbrev s_House_word : Stmt := inClass (topS 10) 3
abbrev N_House_word : List Str := ["self", "tongue", "thing", "text", "kind"]
theorem sc_House_word : FnScope N_House_word ["self", "tongue", "thing", "text", "kind"] (defScope s_House_word) := ⟨rfl, rfl, rfl, by decide +kernel, rfl, by decide +kernel, by decide +kernel⟩
noncomputable def b_House_word : EvS :=
   sSeq (sE (mhE [311107613541] 36034973274040279466295256420 (t_tongue_named 1) (vE 0) (aC (oV (vE 1)) (aN))))
   (sSeq (sI (tV (o2E dNotIn (oV (vE 2)) (oV (o1E (dFld [311107613541] 2147345978593069133687) (oH (vE 0)))))) (sX 22077456503107175) (sNil))
   (sSeq (sI (tO (tV (o2E dNotIn (oV (vE 4)) (oV (o1E (dFld [311107613541] 7739838811990028151) (oH (vE 0)))))) (tN (tT (oV (cE c_is_thing_text (aC (oV (vE 3)) (aN))))))) (sX 22077464975799653) (sNil))
   (tPt (oH (o1E (dFld [311107613541] 140728466053075387167569011) (oH (vE 0)))) (pE (aC (oV (vE 3)) (aC (oV (vE 4)) (aN)))) (pE (aC (oV (vE 1)) (aC (oV (vE 2)) (aN)))))))
noncomputable def t_word : Nat → Nat → CallT
  | 0 => fun _ => cStuck
  | k + 1 => fun c => if c = 311107613541 then runB 5 (b_House_word) else cStuck
theorem t_word_House (k : Nat) : t_word (k + 1) 311107613541 = runB 5 (b_House_word) := by simp [t_word]
abbrev s__law_told : Stmt := topS 24
abbrev N__law_told : List Str := ["_law_house", "_law_name", "_law_thing", "_law_text_here", "_law_kind", "_law_e"]
theorem sc__law_told : FnScope N__law_told ["_law_house", "_law_name", "_law_thing", "_law_text_here", "_law_kind"] (defScope s__law_told) := ⟨rfl, rfl, rfl, by decide +kernel, rfl, by decide +kernel, by decide +kernel⟩
noncomputable def L__law_told_1 : EvS :=
   sE (mhE [311107613541] 2003792484 (t_word 1) (vE 0) (aC (oV (vE 1)) (aC (oV (vE 2)) (aC (oV (vE 3)) (aC (oV (vE 4)) (aN))))))
noncomputable def X__law_told_1 : Addr → Nat → EvS :=
   fun a c => sR (cPE c__law_kinds_of a c 5)
noncomputable def b__law_told : EvS :=
   sSeq (sTryA xT 6008216717068758898 5 (L__law_told_1) (X__law_told_1))
   (sR (fE (lF (aN))))
noncomputable def c__law_told : CallT := runB 6 b__law_told
abbrev s__law_deed : Stmt := topS 29
abbrev N__law_deed : List Str := ["_law_house", "_law_cell", "_law_names", "_law_things", "_law_kinds", "_law_there", "_law_texts", "_law_name", "_law_tongue_here", "_law_told_here", "_law_some_here", "_law_thing", "_law_more", "_law_deed_here", "_law_due_here"]
theorem sc__law_deed : FnScope N__law_deed ["_law_house", "_law_cell", "_law_names", "_law_things", "_law_kinds", "_law_there", "_law_texts"] (defScope s__law_deed) := ⟨rfl, rfl, rfl, by decide +kernel, rfl, by decide +kernel, by decide +kernel⟩
noncomputable def b__law_deed : EvS :=
   sSeq (sV 7 (o2E dIx (oV (vE 2)) (oV (o2E dMod (oV (o2E dFdiv (oV (vE 1)) (oV (kE (.int 3))))) (oV (oAE dLen (aC (oV (vE 2)) (aN))))))))
   (sSeq (sI (tV (o2E dEq (oV (o2E dMod (oV (vE 1)) (oV (kE (.int 3))))) (oV (kE (.int 0))))) (sSeq (sV 8 (cE c__law_tongue (aC (oV (vE 7)) (aC (oV (vE 2)) (aC (oV (o2E dFdiv (oV (vE 1)) (oV (kE (.int 24))))) (aN))))))
   (sSeq (sV 9 (cE c__law_added (aC (oV (vE 0)) (aC (oV (vE 8)) (aN)))))
   (sSeq (sI (tV (o2E dInK (oV (vE 7)) (oH (vE 5)))) (sR (o2E dEq (oV (vE 9)) (oV (fE (lF (aC (oV (kE (.bl true))) (aC (oV (kE (.bl true))) (aC (oV (kE (.bl false))) (aC (oV (kE (.bl false))) (aC (oV (kE (.bl false))) (aN))))))))))) (sNil))
   (sSeq (sPutL (oH (vE 5)) (cE c__law_fields (aC (oV (vE 8)) (aN))) (vE 7))
   (sR (o2E dEq (oV (vE 9)) (oV (fE (lF (aN)))))))))) (sNil))
   (sSeq (sV 10 (o2E dAdd (oV (vE 3)) (oV (fE (lF (aC (oV (kE (.str [110, 111, 110, 101]))) (aN)))))))
   (sSeq (sV 11 (o2E dIx (oV (vE 10)) (oV (o2E dMod (oV (o2E dFdiv (oV (vE 1)) (oV (kE (.int 24))))) (oV (oAE dLen (aC (oV (vE 10)) (aN))))))))
   (sSeq (sI (tV (o2E dEq (oV (o2E dMod (oV (vE 1)) (oV (kE (.int 3))))) (oV (kE (.int 1))))) (sR (cE c__law_own (aC (oV (mhE [311107613541] 8032009816743309924 (t_own_word 1) (vE 0) (aC (oV (vE 7)) (aC (oV (vE 11)) (aN))))) (aC (oV (tGo (oH (vE 6)) (aC (oV (pE (aC (oV (vE 7)) (aC (oV (vE 11)) (aN))))) (aN)))) (aN))))) (sNil))
   (sSeq (sV 12 (o2E dAdd (oV (vE 4)) (oV (fE (lF (aC (oV (kE (.str [111, 116, 104, 101, 114]))) (aN)))))))
   (sSeq (sV 13 (pE (aC (oV (vE 7)) (aC (oV (vE 11)) (aC (oV (cE c__law_text (aC (oV (o2E dFdiv (oV (vE 1)) (oV (kE (.int 72))))) (aN)))) (aC (oV (o2E dIx (oV (vE 12)) (oV (o2E dMod (oV (o2E dFdiv (oV (vE 1)) (oV (kE (.int 7))))) (oV (oAE dLen (aC (oV (vE 12)) (aN)))))))) (aN)))))))
   (sSeq (sV 14 (cE c__law_due (aC (oV (vE 5)) (aC (oV (vE 3)) (aC (oV (vE 4)) (aC (oV (vE 13)) (aN)))))))
   (sSeq (sI (tV (o2E dEq (oV (vE 14)) (oV (fE (lF (aN)))))) (tPt (oH (vE 6)) (pE (aC (oV (o2E dIx (oV (vE 13)) (oV (kE (.int 2))))) (aC (oV (o2E dIx (oV (vE 13)) (oV (kE (.int 3))))) (aN)))) (pE (aC (oV (vE 7)) (aC (oV (vE 11)) (aN))))) (sNil))
   (sR (o2E dEq (oV (cE c__law_told (aC (oV (vE 0)) (aC (oV (vE 7)) (aC (oV (vE 11)) (aC (oV (o2E dIx (oV (vE 13)) (oV (kE (.int 2))))) (aC (oV (o2E dIx (oV (vE 13)) (oV (kE (.int 3))))) (aN)))))))) (oV (vE 14))))))))))))
noncomputable def c__law_deed : CallT := runB 15 b__law_deed
abbrev s_House_kinds : Stmt := inClass (topS 10) 8
abbrev N_House_kinds : List Str := ["self"]
theorem sc_House_kinds : FnScope N_House_kinds ["self"] (defScope s_House_kinds) := ⟨rfl, rfl, rfl, by decide +kernel, rfl, by decide +kernel, by decide +kernel⟩
noncomputable def b_House_kinds : EvS :=
   sR (aE (oAF dListF (aC (oV (o1E (dFld [311107613541] 7739838811990028151) (oH (vE 0)))) (aN))))
noncomputable def t_kinds : Nat → Nat → CallT
  | 0 => fun _ => cStuck
  | k + 1 => fun c => if c = 311107613541 then runB 1 (b_House_kinds) else cStuck
theorem t_kinds_House (k : Nat) : t_kinds (k + 1) 311107613541 = runB 1 (b_House_kinds) := by simp [t_kinds]
abbrev s__law_rows : Stmt := topS 28
abbrev N__law_rows : List Str := ["_law_found", "_law_due_here"]
theorem sc__law_rows : FnScope N__law_rows ["_law_found", "_law_due_here"] (defScope s__law_rows) := ⟨rfl, rfl, rfl, by decide +kernel, rfl, by decide +kernel, by decide +kernel⟩
noncomputable def b__law_rows : EvS :=
   sSeq (sI (tO (tN (tT (oV (oAE dIsI (aC (oH (vE 0)) (aC (oV (kE (.ty "list"))) (aN))))))) (tV (o2E dNe (oH (vE 0)) (oV (vE 1))))) (sR (kE (.bl false))) (sNil))
   (sSeq (sApL (oH (vE 0)) (oV (kE (.str [122, 122, 122]))))
   (sR (kE (.bl true))))
noncomputable def c__law_rows : CallT := runB 2 b__law_rows
abbrev s_House_ranks : Stmt := inClass (topS 10) 9
abbrev N_House_ranks : List Str := ["self"]
theorem sc_House_ranks : FnScope N_House_ranks ["self"] (defScope s_House_ranks) := ⟨rfl, rfl, rfl, by decide +kernel, rfl, by decide +kernel, by decide +kernel⟩
noncomputable def b_House_ranks : EvS :=
   sR (aE (oAF dListF (aC (oV (o1E (dFld [311107613541] 8241990200506609527) (oH (vE 0)))) (aN))))
noncomputable def t_ranks : Nat → Nat → CallT
  | 0 => fun _ => cStuck
  | k + 1 => fun c => if c = 311107613541 then runB 1 (b_House_ranks) else cStuck
theorem t_ranks_House (k : Nat) : t_ranks (k + 1) 311107613541 = runB 1 (b_House_ranks) := by simp [t_ranks]
abbrev s_House_things : Stmt := inClass (topS 10) 10
abbrev N_House_things : List Str := ["self"]
theorem sc_House_things : FnScope N_House_things ["self"] (defScope s_House_things) := ⟨rfl, rfl, rfl, by decide +kernel, rfl, by decide +kernel, by decide +kernel⟩
noncomputable def b_House_things : EvS :=
   sR (aE (oAF dListF (aC (oV (o1E (dFld [311107613541] 2147345978593069133687) (oH (vE 0)))) (aN))))
noncomputable def t_things : Nat → Nat → CallT
  | 0 => fun _ => cStuck
  | k + 1 => fun c => if c = 311107613541 then runB 1 (b_House_things) else cStuck
theorem t_things_House (k : Nat) : t_things (k + 1) 311107613541 = runB 1 (b_House_things) := by simp [t_things]
abbrev s_House_tongues : Stmt := inClass (topS 10) 11
abbrev N_House_tongues : List Str := ["self"]
theorem sc_House_tongues : FnScope N_House_tongues ["self"] (defScope s_House_tongues) := ⟨rfl, rfl, rfl, by decide +kernel, rfl, by decide +kernel, by decide +kernel⟩
noncomputable def b_House_tongues : EvS :=
   sR (aE (oAF dSortF (aC (oH (o1E (dFld [311107613541] 27717998498377061) (oH (vE 0)))) (aN))))
noncomputable def t_tongues : Nat → Nat → CallT
  | 0 => fun _ => cStuck
  | k + 1 => fun c => if c = 311107613541 then runB 1 (b_House_tongues) else cStuck
theorem t_tongues_House (k : Nat) : t_tongues (k + 1) 311107613541 = runB 1 (b_House_tongues) := by simp [t_tongues]
abbrev s__law_asked : Stmt := topS 25
abbrev N__law_asked : List Str := ["_law_house", "_law_name", "_law_e"]
theorem sc__law_asked : FnScope N__law_asked ["_law_house", "_law_name"] (defScope s__law_asked) := ⟨rfl, rfl, rfl, by decide +kernel, rfl, by decide +kernel, by decide +kernel⟩
noncomputable def L__law_asked_1 : EvS :=
   sE (mhE [311107613541] 36034973274040279466295256420 (t_tongue_named 1) (vE 0) (aC (oV (vE 1)) (aN)))
noncomputable def X__law_asked_1 : Addr → Nat → EvS :=
   fun a c => sR (cPE c__law_kinds_of a c 2)
noncomputable def b__law_asked : EvS :=
   sSeq (sTryA xT 6008216717068758898 2 (L__law_asked_1) (X__law_asked_1))
   (sR (fE (lF (aN))))
noncomputable def c__law_asked : CallT := runB 3 b__law_asked
abbrev s__law_end : Stmt := topS 30
abbrev N__law_end : List Str := ["_law_house", "_law_names", "_law_things", "_law_there", "_law_texts", "_law_name", "_law_thing"]
theorem sc__law_end : FnScope N__law_end ["_law_house", "_law_names", "_law_things", "_law_there", "_law_texts"] (defScope s__law_end) := ⟨rfl, rfl, rfl, by decide +kernel, rfl, by decide +kernel, by decide +kernel⟩
noncomputable def L__law_end_1 : EvS :=
   sI (tN (tT (oV (cE c__law_own (aC (oV (mhE [311107613541] 8032009816743309924 (t_own_word 1) (vE 0) (aC (oV (vE 5)) (aC (oV (vE 6)) (aN))))) (aC (oV (tGo (oH (vE 4)) (aC (oV (pE (aC (oV (vE 5)) (aC (oV (vE 6)) (aN))))) (aN)))) (aN))))))) (sR (kE (.bl false))) (sNil)
noncomputable def L__law_end_2 : EvS :=
   sSeq (sI (tV (o2E dInK (oV (vE 5)) (oH (vE 3)))) (sI (tV (o2E dNe (oV (cE c__law_fields (aC (oV (mhE [311107613541] 36034973274040279466295256420 (t_tongue_named 1) (vE 0) (aC (oV (vE 5)) (aN)))) (aN)))) (oV (o2E dGetK (oH (vE 3)) (oV (vE 5)))))) (sR (kE (.bl false))) (sNil)) (sI (tV (o2E dNe (oV (cE c__law_asked (aC (oV (vE 0)) (aC (oV (vE 5)) (aN))))) (oV (fE (lF (aC (oV (kE (.bl true))) (aC (oV (kE (.bl true))) (aC (oV (kE (.bl false))) (aC (oV (kE (.bl false))) (aC (oV (kE (.bl false))) (aN))))))))))) (sR (kE (.bl false))) (sNil)))
   (sF (iE (o2E dAdd (oV (slE dSl (oV (vE 2)) (sN) (sS (kE (.int 9))))) (oV (fE (lF (aC (oV (kE (.str [110, 111, 110, 101]))) (aN))))))) (gV 6) (L__law_end_1))
noncomputable def b__law_end : EvS :=
   sSeq (sI (tO (tN (tT (oV (cE c__law_rows (aC (oV (mhE [311107613541] 32773617271268723 (t_tongues 1) (vE 0) (aN))) (aC (oV (fE (oAF dSortF (aC (oH (vE 3)) (aN))))) (aN))))))) (tV (o2E dNe (oH (mhE [311107613541] 32773617271268723 (t_tongues 1) (vE 0) (aN))) (oV (fE (oAF dSortF (aC (oH (vE 3)) (aN)))))))) (sR (kE (.bl false))) (sNil))
   (sSeq (sF (iE (vE 1)) (gV 5) (L__law_end_2))
   (sR (kE (.bl true))))
noncomputable def c__law_end : CallT := runB 7 b__law_end
abbrev s_law : Stmt := topS 31
abbrev N_law : List Str := ["_law_script", "_law_kinds", "_law_ranks", "_law_things", "_law_names", "_law_handed", "_law_house", "_law_row", "_law_there", "_law_texts", "_law_cell"]
theorem sc_law : FnScope N_law ["_law_script"] (defScope s_law) := ⟨rfl, rfl, rfl, by decide +kernel, rfl, by decide +kernel, by decide +kernel⟩
noncomputable def L_law_1 : EvS :=
   sE (eClrL (oH (vE 7)))
noncomputable def L_law_2 : EvS :=
   sI (tN (tT (oV (cE c__law_deed (aC (oV (vE 6)) (aC (oV (vE 10)) (aC (oV (vE 4)) (aC (oV (vE 3)) (aC (oV (vE 1)) (aC (oV (vE 8)) (aC (oV (vE 9)) (aN)))))))))))) (sR (kE (.bl false))) (sNil)
noncomputable def b_law : EvS :=
   sSeq (sV 1 (cE c__law_words (aC (oV (cE c__law_cell_at (aC (oV (vE 0)) (aC (oV (kE (.int 0))) (aN))))) (aC (oV (o2E dAdd (oV (kE (.int 1))) (oV (o2E dMod (oV (cE c__law_cell_at (aC (oV (vE 0)) (aC (oV (kE (.int 4))) (aN))))) (oV (kE (.int 6))))))) (aN)))))
   (sSeq (sV 2 (cE c__law_words (aC (oV (cE c__law_cell_at (aC (oV (vE 0)) (aC (oV (kE (.int 1))) (aN))))) (aC (oV (o2E dAdd (oV (kE (.int 1))) (oV (o2E dMod (oV (o2E dFdiv (oV (cE c__law_cell_at (aC (oV (vE 0)) (aC (oV (kE (.int 4))) (aN))))) (oV (kE (.int 6))))) (oV (kE (.int 6))))))) (aN)))))
   (sSeq (sV 3 (cE c__law_words (aC (oV (cE c__law_cell_at (aC (oV (vE 0)) (aC (oV (kE (.int 2))) (aN))))) (aC (oV (o2E dAdd (oV (kE (.int 1))) (oV (o2E dMod (oV (o2E dFdiv (oV (cE c__law_cell_at (aC (oV (vE 0)) (aC (oV (kE (.int 4))) (aN))))) (oV (kE (.int 36))))) (oV (kE (.int 30))))))) (aN)))))
   (sSeq (sV 4 (cE c__law_words (aC (oV (cE c__law_cell_at (aC (oV (vE 0)) (aC (oV (kE (.int 3))) (aN))))) (aC (oV (kE (.int 8))) (aN)))))
   (sSeq (sV 5 (fE (lF (aC (oV (aE (oAF dListF (aC (oV (vE 1)) (aN))))) (aC (oV (aE (oAF dListF (aC (oV (vE 2)) (aN))))) (aC (oV (aE (oAF dListF (aC (oV (vE 3)) (aN))))) (aN)))))))
   (sSeq (sV 6 (newH 311107613541 c_House___init__ (aC (oV (o2E dIx (oV (vE 5)) (oV (kE (.int 0))))) (aC (oV (o2E dIx (oV (vE 5)) (oV (kE (.int 1))))) (aC (oV (o2E dIx (oV (vE 5)) (oV (kE (.int 2))))) (aN))))))
   (sSeq (sI (tV (o2L dNe (vE 5) (fE (lF (aC (oV (vE 1)) (aC (oV (vE 2)) (aC (oV (vE 3)) (aN)))))))) (sR (kE (.bl false))) (sNil))
   (sSeq (sF (iE (vE 5)) (gV 7) (L_law_1))
   (sSeq (sV 8 (aE (kF0)))
   (sSeq (sV 9 (tNw))
   (sSeq (sF (iE (slE dSl (oV (vE 0)) (sS (kE (.int 5))) (sS (kE (.int 55))))) (gV 10) (L_law_2))
   (sSeq (sI (tO (tN (tT (oV (cE c__law_rows (aC (oV (mhE [311107613541] 461330343027 (t_kinds 1) (vE 6) (aN))) (aC (oV (vE 1)) (aN))))))) (tN (tT (oV (cE c__law_rows (aC (oV (mhE [311107613541] 491260898163 (t_ranks 1) (vE 6) (aN))) (aC (oV (vE 2)) (aN)))))))) (sR (kE (.bl false))) (sNil))
   (sSeq (sI (tO (tN (tT (oV (cE c__law_rows (aC (oV (mhE [311107613541] 127991794263923 (t_things 1) (vE 6) (aN))) (aC (oV (vE 3)) (aN))))))) (tN (tT (oV (cE c__law_end (aC (oV (vE 6)) (aC (oV (vE 4)) (aC (oV (vE 3)) (aC (oV (vE 8)) (aC (oV (vE 9)) (aN))))))))))) (sR (kE (.bl false))) (sNil))
   (sR (eA (o2L dEq (mhE [311107613541] 461330343027 (t_kinds 1) (vE 6) (aN)) (vE 1)) (eA (o2L dEq (mhE [311107613541] 491260898163 (t_ranks 1) (vE 6) (aN)) (vE 2)) (o2L dEq (mhE [311107613541] 127991794263923 (t_things 1) (vE 6) (aN)) (vE 3)))))))))))))))))
noncomputable def c_law : CallT := runB 11 b_law
section
variable {P : Program} {w : World} {K : PySem.W.Frag} {mg : Str → Option Value} {base : Heap}
theorem ok__law_cell_at (hB : Bl mg) (hT : XT K mg xT) {f : Addr} {fd : FuncData} (F : Fun K "_law_cell_at" "_law_cell_at" s__law_cell_at f fd) (hm : mg "_law_cell_at" = some (.ref f)) : Def P w K mg base 2 "_law_cell_at" 2 c__law_cell_at :=
  def_ok (N := N__law_cell_at) (ps := ["_law_script", "_law_k"]) F sc__law_cell_at (F.binds (ps := ["_law_script", "_law_k"]) fun _ _ _ _ _ _ us hl => match us, hl with | [_, _], _ => rfl) hm fun B cdv A outer s H E W hr tk pw => by
    have hu := hr.units
    have hu5 : (A.deeper (envOfC "_law_cell_at" (defScope s__law_cell_at) s.heap.objs.size f cdv)).units + 65 < cLine := by have := hr.un; omega
    exact (dss_c (ds_i (dt_cmp opR_lt op_dCmp (do_v (de_v (pv 1))) (do_v (de_cb call_len op_dLen hB.len (da_c (do_v (de_v (pv 0))) da_n))) (nomark _)) (dss_1 (ds_r (de_ix ix_seq op_dIx (do_v (de_v (pv 0))) (do_v (de_v (pv 1)))))) dss_n)
   (dss_1 (ds_r de_int)))
theorem ok__law_word (hB : Bl mg) (hT : XT K mg xT) {f : Addr} {fd : FuncData} (F : Fun K "_law_word" "_law_word" s__law_word f fd) (hm : mg "_law_word" = some (.ref f)) : Def P w K mg base 2 "_law_word" 1 c__law_word :=
  def_ok (N := N__law_word) (ps := ["_law_cell"]) F sc__law_word (F.binds (ps := ["_law_cell"]) fun _ _ _ _ _ _ us hl => match us, hl with | [_], _ => rfl) hm fun B cdv A outer s H E W hr tk pw => by
    have hu := hr.units
    have hu5 : (A.deeper (envOfC "_law_word" (defScope s__law_word) s.heap.objs.size f cdv)).units + 65 < cLine := by have := hr.un; omega
    exact (dss_c (ds_v (i := 1) sc__law_word.nd (de_str [97, 98, 99, 100, 101, 102, 103, 104, 105, 106, 107, 108, 109, 110, 111, 112, 113, 114, 115, 116, 117, 118, 119, 120, 121, 122]))
   (dss_c (ds_v (i := 2) sc__law_word.nd (de_bin op_fdivW op_dFdiv (do_v (de_v (pv 0))) (do_v de_int)))
   (dss_c (ds_v (i := 3) sc__law_word.nd (de_str []))
   (dss_c (ds_f pw rfl (di_r1 hB.range (da_c (do_v (de_bin opR_add op_dAdd (do_v de_int) (do_v (de_bin op_mod op_dMod (do_v (de_v (pv 0))) (do_v de_int))))) da_n)) (dg_v (i := 4) sc__law_word.nd) (dss_c (ds_v (i := 3) sc__law_word.nd (de_bin opR_add op_dAdd (do_v (de_v (pv 3))) (do_v (de_ix ix_seq op_dIx (do_v (de_v (pv 1))) (do_v (de_bin op_mod op_dMod (do_v (de_v (pv 2))) (do_v de_int)))))))
   (dss_1 (ds_v (i := 2) sc__law_word.nd (de_bin op_fdivW op_dFdiv (do_v (de_v (pv 2))) (do_v de_int))))))
   (dss_c (ds_i (dt_cmp (op_eqD hu) op_dEq (do_v (de_v (pv 3))) (do_v (de_str [101, 108, 115, 101])) (nomark _)) (dss_1 (ds_r (de_str [101, 108, 115]))) dss_n)
   (dss_1 (ds_r (de_v (pv 3)))))))))
theorem ok__law_words (hB : Bl mg) (hT : XT K mg xT) {f : Addr} {fd : FuncData} (F : Fun K "_law_words" "_law_words" s__law_words f fd) (hm : mg "_law_words" = some (.ref f)) (d__law_word : Def P w K mg base 2 "_law_word" 1 c__law_word) : Def P w K mg base 3 "_law_words" 2 c__law_words :=
  def_ok (N := N__law_words) (ps := ["_law_cell", "_law_many"]) F sc__law_words (F.binds (ps := ["_law_cell", "_law_many"]) fun _ _ _ _ _ _ us hl => match us, hl with | [_, _], _ => rfl) hm fun B cdv A outer s H E W hr tk pw => by
    have hu := hr.units
    have hu5 : (A.deeper (envOfC "_law_words" (defScope s__law_words) s.heap.objs.size f cdv)).units + 65 < cLine := by have := hr.un; omega
    have d__law_word := d__law_word.mono (j := 2) (by omega)
    exact (dss_c (ds_v (i := 2) sc__law_words.nd (de_bin op_mod op_dMod (do_v (de_v (pv 0))) (do_v (de_bin op_powW op_dPow (do_v de_int) (do_v de_int)))))
   (dss_c (ds_o (i := 3) sc__law_words.nd (df_l da_n))
   (dss_c (ds_f pw rfl (di_r1 hB.range (da_c (do_v (de_bin opR_mul op_dMul (do_v de_int) (do_v (de_v (pv 1))))) da_n)) (dg_v (i := 4) sc__law_words.nd) (dss_c (ds_v (i := 2) sc__law_words.nd (de_bin op_mod op_dMod (do_v (de_bin opR_add op_dAdd (do_v (de_bin opR_add op_dAdd (do_v (de_bin opR_mul op_dMul (do_v (de_v (pv 2))) (do_v de_int))) (do_v de_int))) (do_v (de_bin opR_mul op_dMul (do_v (de_v (pv 4))) (do_v (de_v (pv 4))))))) (do_v (de_bin op_powW op_dPow (do_v de_int) (do_v de_int)))))
   (dss_c (ds_v (i := 5) sc__law_words.nd (de_c d__law_word hr tk (da_c (do_v (de_bin op_fdivW op_dFdiv (do_v (de_v (pv 2))) (do_v (de_bin op_powW op_dPow (do_v de_int) (do_v de_int))))) da_n)))
   (dss_1 (ds_i (dt_w (dw_a (dt_cmp (opR_notIn hu5) op_dNotIn (do_v (de_v (pv 5))) (do_s (pv 3)) (by with_unfolding_all rfl)) (dw_1a (dt_cmp opR_lt op_dCmp (do_v (de_cb call_len op_dLen hB.len (da_c (do_s (pv 3)) da_n))) (do_v (de_v (pv 1))) (nomark _))))) (dss_1 (ds_ap (pv 3) (do_v (de_v (pv 5))))) dss_n)))))
   (dss_1 (ds_r (de_z (pv 3)))))))
theorem ok_House___init__ (hB : Bl mg) (hT : XT K mg xT) {f : Addr} {fd : FuncData} (F : Fun K "__init__" "House.__init__" s_House___init__ f fd) (hF_kind_row : ClsF K mg [311107613541] "kind_row") (hF_rank_row : ClsF K mg [311107613541] "rank_row") (hF_thing_row : ClsF K mg [311107613541] "thing_row") (hF_by_name : ClsF K mg [311107613541] "by_name") (hF_thing_texts : ClsF K mg [311107613541] "thing_texts") (hF_declared : ClsF K mg [311107613541] "declared") (hF_pieces_here : ClsF K mg [311107613541] "pieces_here") : FnOk P w K mg base (L2.CX P w) 2 f fd ["self", "kinds", "ranks", "things"] (spOf ⟨K, mg, w⟩ 4 c_House___init__) :=
  fn_ok (N := N_House___init__) (ps := ["self", "kinds", "ranks", "things"]) (k := 1) F sc_House___init__ fun B cdv A outer s H E W hr tk pw => by
    have hu := hr.units
    have hu5 : (A.deeper (envOfC "House.__init__" (defScope s_House___init__) s.heap.objs.size f cdv)).units + 65 < cLine := by have := hr.un; omega
    exact (dss_c (ds_fldL [311107613541] 7739838811990028151 (by decide +kernel) (by decide +kernel) hF_kind_row (do_h (de_v (pv 0))) (de_f (df_ct call_list_of op_dListF hB.list (da_c (do_h (de_v (pv 1))) da_n))))
   (dss_c (ds_fldL [311107613541] 8241990200506609527 (by decide +kernel) (by decide +kernel) hF_rank_row (do_h (de_v (pv 0))) (de_f (df_ct call_list_of op_dListF hB.list (da_c (do_h (de_v (pv 2))) da_n))))
   (dss_c (ds_fldL [311107613541] 2147345978593069133687 (by decide +kernel) (by decide +kernel) hF_thing_row (do_h (de_v (pv 0))) (de_f (df_ct call_list_of op_dListF hB.list (da_c (do_h (de_v (pv 3))) da_n))))
   (dss_c (ds_fldL [311107613541] 27717998498377061 (by decide +kernel) (by decide +kernel) hF_by_name (do_h (de_v (pv 0))) (de_al df_k0))
   (dss_c (ds_fldL [311107613541] 140728466053075387167569011 (by decide +kernel) (by decide +kernel) hF_thing_texts (do_h (de_v (pv 0))) de_tN)
   (dss_c (ds_fldL [311107613541] 7234297693583074660 (by decide +kernel) (by decide +kernel) hF_declared (do_h (de_v (pv 0))) (de_al df_k0))
   (dss_1 (ds_fldL [311107613541] 135897410560948860992451173 (by decide +kernel) (by decide +kernel) hF_pieces_here (do_h (de_v (pv 0))) de_tN))))))))
theorem ok__law_some (hB : Bl mg) (hT : XT K mg xT) {f : Addr} {fd : FuncData} (F : Fun K "_law_some" "_law_some" s__law_some f fd) (hm : mg "_law_some" = some (.ref f)) : Def P w K mg base 2 "_law_some" 2 c__law_some :=
  def_ok (N := N__law_some) (ps := ["_law_names", "_law_cell"]) F sc__law_some (F.binds (ps := ["_law_names", "_law_cell"]) fun _ _ _ _ _ _ us hl => match us, hl with | [_, _], _ => rfl) hm fun B cdv A outer s H E W hr tk pw => by
    have hu := hr.units
    have hu5 : (A.deeper (envOfC "_law_some" (defScope s__law_some) s.heap.objs.size f cdv)).units + 65 < cLine := by have := hr.un; omega
    exact (dss_c (ds_o (i := 2) sc__law_some.nd (df_l da_n))
   (dss_c (ds_f pw rfl (di_e (de_v (pv 0))) (dg_v (i := 3) sc__law_some.nd) (dss_c (ds_i (dt_cmp (op_eqD hu) op_dEq (do_v (de_bin op_mod op_dMod (do_v (de_v (pv 1))) (do_v de_int))) (do_v de_int) (nomark _)) (dss_1 (ds_ap (pv 2) (do_v (de_v (pv 3))))) dss_n)
   (dss_1 (ds_v (i := 1) sc__law_some.nd (de_bin op_fdivW op_dFdiv (do_v (de_v (pv 1))) (do_v de_int))))))
   (dss_1 (ds_r (de_z (pv 2))))))
theorem ok_Tongue___init__ (hB : Bl mg) (hT : XT K mg xT) {f : Addr} {fd : FuncData} (F : Fun K "__init__" "Tongue.__init__" s_Tongue___init__ f fd) (hF_name : ClsF K mg [92837570377061] "name") (hF_falls : ClsF K mg [92837570377061] "falls") (hF_rules : ClsF K mg [92837570377061] "rules") (hF_joiners : ClsF K mg [92837570377061] "joiners") (hF_figures : ClsF K mg [92837570377061] "figures") (hF_calendar : ClsF K mg [92837570377061] "calendar") (hF_dayform : ClsF K mg [92837570377061] "dayform") : FnOk P w K mg base (L2.CX P w) 2 f fd ["self", "name", "falls", "rules", "joiners", "figures", "calendar", "dayform"] (spOf ⟨K, mg, w⟩ 8 c_Tongue___init__) :=
  fn_ok (N := N_Tongue___init__) (ps := ["self", "name", "falls", "rules", "joiners", "figures", "calendar", "dayform"]) (k := 1) F sc_Tongue___init__ fun B cdv A outer s H E W hr tk pw => by
    have hu := hr.units
    have hu5 : (A.deeper (envOfC "Tongue.__init__" (defScope s_Tongue___init__) s.heap.objs.size f cdv)).units + 65 < cLine := by have := hr.un; omega
    exact (dss_c (ds_fldL [92837570377061] 1851878757 (by decide +kernel) (by decide +kernel) hF_name (do_h (de_v (pv 0))) (de_v (pv 1)))
   (dss_c (ds_fldL [92837570377061] 439721159795 (by decide +kernel) (by decide +kernel) hF_falls (do_h (de_v (pv 0))) (de_f (df_ct call_list_of op_dListF hB.list (da_c (do_v (de_v (pv 2))) da_n))))
   (dss_c (ds_fldL [92837570377061] 491596309875 (by decide +kernel) (by decide +kernel) hF_rules (do_h (de_v (pv 0))) (de_v (pv 3)))
   (dss_c (ds_fldL [92837570377061] 29958846145720947 (by decide +kernel) (by decide +kernel) hF_joiners (do_h (de_v (pv 0))) (de_v (pv 4)))
   (dss_c (ds_fldL [92837570377061] 28826340697466227 (by decide +kernel) (by decide +kernel) hF_figures (do_h (de_v (pv 0))) (de_v (pv 5)))
   (dss_c (ds_fldL [92837570377061] 7161124065395368306 (by decide +kernel) (by decide +kernel) hF_calendar (do_h (de_v (pv 0))) (de_v (pv 6)))
   (dss_1 (ds_fldL [92837570377061] 28254671708582509 (by decide +kernel) (by decide +kernel) hF_dayform (do_h (de_v (pv 0))) (de_v (pv 7))))))))))
theorem ok__law_tongue (hB : Bl mg) (hT : XT K mg xT) {f : Addr} {fd : FuncData} (F : Fun K "_law_tongue" "_law_tongue" s__law_tongue f fd) (hm : mg "_law_tongue" = some (.ref f)) (d__law_some : Def P w K mg base 2 "_law_some" 2 c__law_some) (d__law_word : Def P w K mg base 2 "_law_word" 1 c__law_word) (dN_Tongue : IDefS P w K mg base 2 "Tongue" 92837570377061 7 c_Tongue___init__) : Def P w K mg base 4 "_law_tongue" 3 c__law_tongue :=
  def_ok (N := N__law_tongue) (ps := ["_law_name", "_law_names", "_law_cell"]) F sc__law_tongue (F.binds (ps := ["_law_name", "_law_names", "_law_cell"]) fun _ _ _ _ _ _ us hl => match us, hl with | [_, _, _], _ => rfl) hm fun B cdv A outer s H E W hr tk pw => by
    have hu := hr.units
    have hu5 : (A.deeper (envOfC "_law_tongue" (defScope s__law_tongue) s.heap.objs.size f cdv)).units + 65 < cLine := by have := hr.un; omega
    have d__law_some := d__law_some.mono (j := 3) (by omega)
    have d__law_word := d__law_word.mono (j := 3) (by omega)
    exact (dss_c (ds_v (i := 3) sc__law_tongue.nd (de_c d__law_some hr tk (da_c (do_v (de_v (pv 1))) (da_c (do_v (de_v (pv 2))) da_n))))
   (dss_c (ds_v (i := 4) sc__law_tongue.nd (de_bin opR_add op_dAdd (do_v de_int) (do_v (de_bin op_mod op_dMod (do_v (de_bin op_fdivW op_dFdiv (do_v (de_v (pv 2))) (do_v de_int))) (do_v de_int)))))
   (dss_c (ds_v (i := 5) sc__law_tongue.nd (de_f (df_l (da_c (do_v (de_p (da_c (do_v (de_c d__law_word hr tk (da_c (do_v (de_bin op_fdivW op_dFdiv (do_v (de_v (pv 2))) (do_v de_int))) da_n))) (da_c (do_v (de_p (da_c (do_v (de_str [115, 101, 108, 102])) (da_c (do_v (de_bin op_mod op_dMod (do_v (de_v (pv 2))) (do_v de_int))) (da_c (do_v de_non) da_n))))) da_n)))) (da_c (do_v (de_p (da_c (do_v (de_str [122, 122])) (da_c (do_v de_non) da_n)))) da_n)))))
   (dss_c (ds_i (dt_cmp (op_eqD hu) op_dEq (do_v (de_ix ix_seq op_dIx (do_v (de_ix ix_seq op_dIx (do_v (de_v (pv 5))) (do_v de_int))) (do_v de_int))) (do_v (de_str [122, 122])) (nomark _)) (dss_1 (ds_v (i := 5) sc__law_tongue.nd (de_sl sl_all op_dSl (do_v (de_v (pv 5))) (dp_s de_int) dp_n))) dss_n)
   (dss_c (ds_v (i := 6) sc__law_tongue.nd (de_p (da_c (do_v (de_v (pv 4))) (da_c (do_v (de_bin opR_add op_dAdd (do_v de_int) (do_v (de_bin op_mod op_dMod (do_v (de_bin op_fdivW op_dFdiv (do_v (de_v (pv 2))) (do_v de_int))) (do_v de_int))))) (da_c (do_v (de_str [44])) (da_c (do_v (de_str [45])) (da_c (do_v (de_str [48, 49, 50, 51, 52, 53, 54, 55, 56, 57])) da_n)))))))
   (dss_1 (ds_r (de_newH dN_Tongue (hr.mono (by omega)) (da_c (do_v (de_v (pv 0))) (da_c (do_v (de_v (pv 3))) (da_c (do_v (de_v (pv 5))) (da_c (do_v (de_p (da_c (do_v (de_str [])) (da_c (do_v (de_str [32])) (da_c (do_v (de_str [44, 32])) (da_c (do_v (de_str [32, 43, 32])) da_n)))))) (da_c (do_v (de_v (pv 6))) (da_c (do_v (de_p (da_c (do_v (de_f (df_l (da_c (do_v (de_v (pv 4))) da_n)))) (da_c (do_v de_int) (da_c (do_v (de_p (da_c (do_v (de_str [111, 114])) (da_c (do_v (de_f (df_l da_n))) da_n)))) da_n))))) (da_c (do_v (de_p (da_c (do_v (de_str [100, 109, 121])) (da_c (do_v (de_str [46])) (da_c (do_v de_non) da_n))))) da_n)))))))))))))))
theorem ok_House_add (hB : Bl mg) (hT : XT K mg xT) {f : Addr} {fd : FuncData} (F : Fun K "add" "House.add" s_House_add f fd) (hF_name : ClsF K mg [92837570377061] "name") (hF_by_name : ClsF K mg [311107613541] "by_name") {k : Nat} (hrec : MDef P w K mg base (2 + k) "add" 2 [311107613541] (t_add k)) : FnOk P w K mg base (L2.CX P w) (2 + k + 1) f fd ["self", "tongue"] (spOf ⟨K, mg, w⟩ 2 (runB 2 (b_House_add))) :=
  fn_ok (N := N_House_add) (ps := ["self", "tongue"]) (k := 2 + k) F sc_House_add fun B cdv A outer s H E W hr tk pw => by
    have hu := hr.units
    have hu5 : (A.deeper (envOfC "House.add" (defScope s_House_add) s.heap.objs.size f cdv)).units + 65 < cLine := by have := hr.un; omega
    exact (dss_c (ds_i (dt_cmp (opR_inK (Nat.lt_of_le_of_lt (Nat.add_le_add_left (by decide : 1 ≤ 65) _) hu5)) op_dInK (do_v (de_fld [92837570377061] 1851878757 (by decide +kernel) (by decide +kernel) hF_name (do_h (de_v (pv 1))))) (do_h (de_fld [311107613541] 27717998498377061 (by decide +kernel) (by decide +kernel) hF_by_name (do_h (de_v (pv 0))))) (by with_unfolding_all rfl)) (dss_1 (ds_raise hT (by decide +kernel) (by decide +kernel) tk)) dss_n)
   (dss_1 (ds_putL (Nat.lt_of_le_of_lt (Nat.add_le_add_left (by decide : 1 ≤ 65) _) hu5) (do_h (de_fld [311107613541] 27717998498377061 (by decide +kernel) (by decide +kernel) hF_by_name (do_h (de_v (pv 0))))) (de_fld [92837570377061] 1851878757 (by decide +kernel) (by decide +kernel) hF_name (do_h (de_v (pv 1)))) (de_v (pv 1)))))
theorem okm_add (hB : Bl mg) (hT : XT K mg xT) (hF_name : ClsF K mg [92837570377061] "name") (hF_by_name : ClsF K mg [311107613541] "by_name") {f_House : Addr} {fd_House : FuncData} (F_House : Fun K "add" "House.add" s_House_add f_House fd_House) {C_House : Addr} (hC_House : mg (nmS 311107613541) = some (.ref C_House)) (cl_House : Cls K C_House) (mt_House : Meth K C_House "add" f_House) : ∀ k, MDef P w K mg base (2 + k) "add" 2 [311107613541] (t_add k)
  | 0 => (.cons hC_House cl_House mt_House (fn_stuck (k := 1) F_House sc_House_add) (F_House.binds (ps := ["self", "tongue"]) fun _ _ _ _ _ _ us hl => match us, hl with | [_, _], _ => rfl) .nil)
  | k + 1 => by
    have hrec := okm_add hB hT hF_name hF_by_name F_House hC_House cl_House mt_House k
    exact (.cons hC_House cl_House mt_House (by rw [t_add_House]; exact ok_House_add hB hT F_House hF_name hF_by_name hrec) (F_House.binds (ps := ["self", "tongue"]) fun _ _ _ _ _ _ us hl => match us, hl with | [_, _], _ => rfl) .nil)
theorem ok__law_kinds_of (hB : Bl mg) (hT : XT K mg xT) {f : Addr} {fd : FuncData} (F : Fun K "_law_kinds_of" "_law_kinds_of" s__law_kinds_of f fd) (hm : mg "_law_kinds_of" = some (.ref f)) : DefP P w K mg base 2 "_law_kinds_of" c__law_kinds_of :=
  defP_ok (N := N__law_kinds_of) (n := "_law_e") (k := 1) F sc__law_kinds_of (F.binds (ps := ["_law_e"]) fun _ _ _ _ _ _ us hl => match us, hl with | [_], _ => rfl) hm fun a oe c C hC hxc hz hfl B cdv A outer s H E => by
    exact (dss_1 (ds_r (de_f (df_l (da_c (do_v (de_isI1 hT List.mem_cons_self hz hfl hC hxc hB.isinstance (pv 0) (.ve rfl .nil))) (da_c (do_v (de_isI1 hT List.mem_cons_self hz hfl hC hxc hB.isinstance (pv 0) (.own rfl (by decide) (by decide +kernel) (by decide +kernel) .nil))) (da_c (do_v (de_isI1 hT List.mem_cons_self hz hfl hC hxc hB.isinstance (pv 0) (.own rfl (by decide) (by decide +kernel) (by decide +kernel) .nil))) (da_c (do_v (de_isI1 hT List.mem_cons_self hz hfl hC hxc hB.isinstance (pv 0) (.own rfl (by decide) (by decide +kernel) (by decide +kernel) .nil))) (da_c (do_v (de_isI1 hT List.mem_cons_self hz hfl hC hxc hB.isinstance (pv 0) (.own rfl (by decide) (by decide +kernel) (by decide +kernel) .nil))) da_n)))))))))
theorem ok__law_added (hB : Bl mg) (hT : XT K mg xT) {f : Addr} {fd : FuncData} (F : Fun K "_law_added" "_law_added" s__law_added f fd) (hm : mg "_law_added" = some (.ref f)) (dM_add : MDef P w K mg base 3 "add" 2 [311107613541] (t_add 1)) (d__law_kinds_of : DefP P w K mg base 2 "_law_kinds_of" c__law_kinds_of) : Def P w K mg base 4 "_law_added" 2 c__law_added :=
  def_ok (N := N__law_added) (ps := ["_law_house", "_law_tongue_here"]) F sc__law_added (F.binds (ps := ["_law_house", "_law_tongue_here"]) fun _ _ _ _ _ _ us hl => match us, hl with | [_, _], _ => rfl) hm fun B cdv A outer s H E W hr tk pw => by
    have hu := hr.units
    have hu5 : (A.deeper (envOfC "_law_added" (defScope s__law_added) s.heap.objs.size f cdv)).units + 65 < cLine := by have := hr.un; omega
    have dM_add := dM_add.mono (j := 3) (by omega)
    have d__law_kinds_of := d__law_kinds_of.mono (j := 3) (by omega)
    exact (dss_c (ds_tryA (i := 2) hT (hnm_of hT (by decide +kernel) (by decide +kernel)) tk sc__law_added.nd (fun W' pn xe tk pw => (dss_1 (ds_e (de_mh (by decide +kernel) (by decide +kernel) dM_add hr tk (de_v (pv 0)) (da_c (do_v (de_v (pv 1))) da_n))))) (fun a oe C pn c hC hxc hz hfl => (dss_1 (ds_r (de_cP d__law_kinds_of ⟨hr.dp, hr.un⟩ hC hxc hz hfl List.mem_cons_self takes0 (pv 2))))))
   (dss_1 (ds_r (de_f (df_l da_n)))))
theorem ok__law_fields (hB : Bl mg) (hT : XT K mg xT) {f : Addr} {fd : FuncData} (F : Fun K "_law_fields" "_law_fields" s__law_fields f fd) (hm : mg "_law_fields" = some (.ref f)) (hF_dayform : ClsF K mg [92837570377061] "dayform") (hF_calendar : ClsF K mg [92837570377061] "calendar") (hF_figures : ClsF K mg [92837570377061] "figures") (hF_joiners : ClsF K mg [92837570377061] "joiners") (hF_rules : ClsF K mg [92837570377061] "rules") (hF_falls : ClsF K mg [92837570377061] "falls") (hF_name : ClsF K mg [92837570377061] "name") : DefG P w K mg base 2 "_law_fields" 1 c__law_fields :=
  defG_by (N := N__law_fields) (ps := ["_law_tongue_here"]) F sc__law_fields (F.binds (ps := ["_law_tongue_here"]) fun _ _ _ _ _ _ us hl => match us, hl with | [_], _ => rfl) hm fun B cdv A outer s H E W hr gu tk pw => by
    have hu := hr.units
    have hu5 : (A.deeper (envOfC "_law_fields" (defScope s__law_fields) s.heap.objs.size f cdv)).units + 65 < cLine := by have := hr.un; omega
    exact (dss_c (ds_v (i := 1) sc__law_fields.nd (de_f (df_l (da_c (do_v (de_fld [92837570377061] 1851878757 (by decide +kernel) (by decide +kernel) hF_name (do_h (de_v (pv 0))))) (da_c (do_v (de_fld [92837570377061] 439721159795 (by decide +kernel) (by decide +kernel) hF_falls (do_h (de_v (pv 0))))) (da_c (do_v (de_fld [92837570377061] 491596309875 (by decide +kernel) (by decide +kernel) hF_rules (do_h (de_v (pv 0))))) (da_c (do_v (de_fld [92837570377061] 29958846145720947 (by decide +kernel) (by decide +kernel) hF_joiners (do_h (de_v (pv 0))))) (da_c (do_v (de_fld [92837570377061] 28826340697466227 (by decide +kernel) (by decide +kernel) hF_figures (do_h (de_v (pv 0))))) (da_c (do_v (de_fld [92837570377061] 7161124065395368306 (by decide +kernel) (by decide +kernel) hF_calendar (do_h (de_v (pv 0))))) (da_c (do_v (de_fld [92837570377061] 28254671708582509 (by decide +kernel) (by decide +kernel) hF_dayform (do_h (de_v (pv 0))))) da_n))))))))))
   (dss_1 (ds_r (dRepr1 gu hr hB.repr (da_c (do_v (de_v (pv 1))) da_n)))))
theorem ok_House_own_word (hB : Bl mg) (hT : XT K mg xT) {f : Addr} {fd : FuncData} (F : Fun K "own_word" "House.own_word" s_House_own_word f fd) (hF_thing_texts : ClsF K mg [311107613541] "thing_texts") {k : Nat} (hrec : MDef P w K mg base (2 + k) "own_word" 3 [311107613541] (t_own_word k)) : FnOk P w K mg base (L2.CX P w) (2 + k + 1) f fd ["self", "tongue", "thing"] (spOf ⟨K, mg, w⟩ 3 (runB 3 (b_House_own_word))) :=
  fn_ok (N := N_House_own_word) (ps := ["self", "tongue", "thing"]) (k := 2 + k) F sc_House_own_word fun B cdv A outer s H E W hr tk pw => by
    have hu := hr.units
    have hu5 : (A.deeper (envOfC "House.own_word" (defScope s_House_own_word) s.heap.objs.size f cdv)).units + 65 < cLine := by have := hr.un; omega
    exact (dss_1 (ds_r (de_tGo (Nat.lt_of_le_of_lt (Nat.add_le_add_left (by decide : 9 ≤ 65) _) hu5) (do_h (de_fld [311107613541] 140728466053075387167569011 (by decide +kernel) (by decide +kernel) hF_thing_texts (do_h (de_v (pv 0))))) (da_c (do_v (de_p (da_c (do_v (de_v (pv 1))) (da_c (do_v (de_v (pv 2))) da_n)))) da_n))))
theorem okm_own_word (hB : Bl mg) (hT : XT K mg xT) (hF_thing_texts : ClsF K mg [311107613541] "thing_texts") {f_House : Addr} {fd_House : FuncData} (F_House : Fun K "own_word" "House.own_word" s_House_own_word f_House fd_House) {C_House : Addr} (hC_House : mg (nmS 311107613541) = some (.ref C_House)) (cl_House : Cls K C_House) (mt_House : Meth K C_House "own_word" f_House) : ∀ k, MDef P w K mg base (2 + k) "own_word" 3 [311107613541] (t_own_word k)
  | 0 => (.cons hC_House cl_House mt_House (fn_stuck (k := 1) F_House sc_House_own_word) (F_House.binds (ps := ["self", "tongue", "thing"]) fun _ _ _ _ _ _ us hl => match us, hl with | [_, _, _], _ => rfl) .nil)
  | k + 1 => by
    have hrec := okm_own_word hB hT hF_thing_texts F_House hC_House cl_House mt_House k
    exact (.cons hC_House cl_House mt_House (by rw [t_own_word_House]; exact ok_House_own_word hB hT F_House hF_thing_texts hrec) (F_House.binds (ps := ["self", "tongue", "thing"]) fun _ _ _ _ _ _ us hl => match us, hl with | [_, _, _], _ => rfl) .nil)
theorem ok__law_own (hB : Bl mg) (hT : XT K mg xT) {f : Addr} {fd : FuncData} (F : Fun K "_law_own" "_law_own" s__law_own f fd) (hm : mg "_law_own" = some (.ref f)) : Def P w K mg base 2 "_law_own" 2 c__law_own :=
  def_ok (N := N__law_own) (ps := ["_law_found", "_law_due_here"]) F sc__law_own (F.binds (ps := ["_law_found", "_law_due_here"]) fun _ _ _ _ _ _ us hl => match us, hl with | [_, _], _ => rfl) hm fun B cdv A outer s H E W hr tk pw => by
    have hu := hr.units
    have hu5 : (A.deeper (envOfC "_law_own" (defScope s__law_own) s.heap.objs.size f cdv)).units + 65 < cLine := by have := hr.un; omega
    exact (dss_c (ds_i (dt_cmp opR_is op_dIs (do_v (de_v (pv 1))) (do_v de_non) (nomark _)) (dss_1 (ds_r (de_cmp opR_is op_dIs (do_v (de_v (pv 0))) (do_v de_non) (nomark _)))) dss_n)
   (dss_c (ds_i (dt_w (dw_o (dt_n (dt_t (do_v (de_cb call_isi op_dIsI hB.isinstance (da_c (do_v (de_v (pv 0))) (da_c (do_v (de_ty hB.tuple)) da_n)))))) (dw_1o (dt_cmp (op_neD hu) op_dNe (do_v (de_cb call_len op_dLen hB.len (da_c (do_v (de_v (pv 0))) da_n))) (do_v de_int) (nomark _))))) (dss_1 (ds_r de_bl)) dss_n)
   (dss_1 (ds_r (de_a (de_cb call_isi op_dIsI hB.isinstance (da_c (do_v (de_ix ix_seq op_dIx (do_v (de_v (pv 0))) (do_v de_int))) (da_c (do_v (de_ty hB.str)) da_n))) (de_a (de_cb call_isi op_dIsI hB.isinstance (da_c (do_v (de_ix ix_seq op_dIx (do_v (de_v (pv 0))) (do_v de_int))) (da_c (do_v (de_ty hB.str)) da_n))) (de_1 (de_cmp (op_eqD hu) op_dEq (do_v (de_v (pv 0))) (do_v (de_v (pv 1))) (nomark _)))))))))
theorem ok__law_text (hB : Bl mg) (hT : XT K mg xT) {f : Addr} {fd : FuncData} (F : Fun K "_law_text" "_law_text" s__law_text f fd) (hm : mg "_law_text" = some (.ref f)) : Def P w K mg base 2 "_law_text" 1 c__law_text :=
  def_ok (N := N__law_text) (ps := ["_law_cell"]) F sc__law_text (F.binds (ps := ["_law_cell"]) fun _ _ _ _ _ _ us hl => match us, hl with | [_], _ => rfl) hm fun B cdv A outer s H E W hr tk pw => by
    have hu := hr.units
    have hu5 : (A.deeper (envOfC "_law_text" (defScope s__law_text) s.heap.objs.size f cdv)).units + 65 < cLine := by have := hr.un; omega
    exact (dss_c (ds_v (i := 1) sc__law_text.nd (de_str [97, 98, 99, 100, 101, 102, 103, 104, 105, 106, 107, 108, 109, 110, 111, 112, 113, 114, 115, 116, 117, 118, 119, 120, 121, 122, 65, 66, 67, 68, 69, 70, 71, 72, 73, 74, 75, 76, 77, 78, 79, 80, 81, 82, 83, 84, 85, 86, 87, 88, 89, 90]))
   (dss_c (ds_v (i := 2) sc__law_text.nd (de_bin op_fdivW op_dFdiv (do_v (de_v (pv 0))) (do_v de_int)))
   (dss_c (ds_v (i := 3) sc__law_text.nd (de_str []))
   (dss_c (ds_f pw rfl (di_r1 hB.range (da_c (do_v (de_bin opR_add op_dAdd (do_v de_int) (do_v (de_bin op_mod op_dMod (do_v (de_bin op_fdivW op_dFdiv (do_v (de_v (pv 0))) (do_v de_int))) (do_v de_int))))) da_n)) (dg_v (i := 4) sc__law_text.nd) (dss_c (ds_v (i := 3) sc__law_text.nd (de_bin opR_add op_dAdd (do_v (de_v (pv 3))) (do_v (de_ix ix_seq op_dIx (do_v (de_v (pv 1))) (do_v (de_bin op_mod op_dMod (do_v (de_v (pv 2))) (do_v de_int)))))))
   (dss_1 (ds_v (i := 2) sc__law_text.nd (de_bin op_fdivW op_dFdiv (do_v (de_v (pv 2))) (do_v de_int))))))
   (dss_c (ds_i (dt_cmp (op_eqD hu) op_dEq (do_v (de_bin op_mod op_dMod (do_v (de_v (pv 0))) (do_v de_int))) (do_v de_int) (nomark _)) (dss_1 (ds_r (de_ix ix_seq op_dIx (do_v (de_f (df_l (da_c (do_v (de_str [])) (da_c (do_v (de_str [97, 98, 99, 100, 101, 102, 103, 104, 105, 106, 107, 108, 77])) (da_c (do_v (de_bin opR_add op_dAdd (do_v (de_sl sl_all op_dSl (do_v (de_v (pv 3))) dp_n (dp_s (de_un un_neg op_dNeg (do_v de_int))))) (do_v (de_str [45])))) (da_c (do_v (de_bin opR_add op_dAdd (do_v (de_str [32])) (do_v (de_sl sl_all op_dSl (do_v (de_v (pv 3))) (dp_s de_int) dp_n)))) (da_c (do_v (de_bin opR_add op_dAdd (do_v (de_sl sl_all op_dSl (do_v (de_v (pv 3))) dp_n (dp_s de_int))) (do_v (de_str [55])))) da_n)))))))) (do_v (de_bin op_mod op_dMod (do_v (de_bin op_fdivW op_dFdiv (do_v (de_v (pv 0))) (do_v de_int))) (do_v de_int)))))) dss_n)
   (dss_1 (ds_r (de_v (pv 3)))))))))
theorem ok__law_is_text (hB : Bl mg) (hT : XT K mg xT) {f : Addr} {fd : FuncData} (F : Fun K "_law_is_text" "_law_is_text" s__law_is_text f fd) (hm : mg "_law_is_text" = some (.ref f)) : Def P w K mg base 2 "_law_is_text" 1 c__law_is_text :=
  def_ok (N := N__law_is_text) (ps := ["_law_text_here"]) F sc__law_is_text (F.binds (ps := ["_law_text_here"]) fun _ _ _ _ _ _ us hl => match us, hl with | [_], _ => rfl) hm fun B cdv A outer s H E W hr tk pw => by
    have hu := hr.units
    have hu5 : (A.deeper (envOfC "_law_is_text" (defScope s__law_is_text) s.heap.objs.size f cdv)).units + 65 < cLine := by have := hr.un; omega
    exact (dss_c (ds_v (i := 1) sc__law_is_text.nd (de_str [97, 98, 99, 100, 101, 102, 103, 104, 105, 106, 107, 108, 109, 110, 111, 112, 113, 114, 115, 116, 117, 118, 119, 120, 121, 122, 65, 66, 67, 68, 69, 70, 71, 72, 73, 74, 75, 76, 77, 78, 79, 80, 81, 82, 83, 84, 85, 86, 87, 88, 89, 90]))
   (dss_1 (ds_r (de_a (de_chain opR_lt op_dCmp opR_le op_dCmp (do_v de_int) (do_v (de_cb call_len op_dLen hB.len (da_c (do_v (de_v (pv 0))) da_n))) (do_v de_int)) (de_1 (de_cmp (op_eqD hu) op_dEq (do_v (de_f (df_lc [("_law_sign", 2)] rfl sc__law_is_text.nd (blkOk_by (N := N__law_is_text) (sc := defScope s__law_is_text) (by decide +kernel)) (di_e (de_v (pv 0))) (tgB_v (by decide)) (fun _ _ _ _ _ => (pg_name (i := 2) sc__law_is_text.nd rfl (Or.inl rfl) (by first | exact .inl rfl | exact .inr rfl))) (fun _ _ _ _ _ _ => (dts_1 (dt_cmp (opR_notIn hu5) op_dNotIn (do_v (de_v (pv 2))) (do_v (de_v (pv 1))) (by with_unfolding_all rfl)))) (fun _ _ _ _ _ _ => (de_v (pv 2)))))) (do_v (de_f (df_l da_n))) (nomark _)))))))
theorem ok__law_due (hB : Bl mg) (hT : XT K mg xT) {f : Addr} {fd : FuncData} (F : Fun K "_law_due" "_law_due" s__law_due f fd) (hm : mg "_law_due" = some (.ref f)) (d__law_is_text : Def P w K mg base 2 "_law_is_text" 1 c__law_is_text) : Def P w K mg base 3 "_law_due" 4 c__law_due :=
  def_ok (N := N__law_due) (ps := ["_law_there", "_law_things", "_law_kinds", "_law_deed_here"]) F sc__law_due (F.binds (ps := ["_law_there", "_law_things", "_law_kinds", "_law_deed_here"]) fun _ _ _ _ _ _ us hl => match us, hl with | [_, _, _, _], _ => rfl) hm fun B cdv A outer s H E W hr tk pw => by
    have hu := hr.units
    have hu5 : (A.deeper (envOfC "_law_due" (defScope s__law_due) s.heap.objs.size f cdv)).units + 65 < cLine := by have := hr.un; omega
    have d__law_is_text := d__law_is_text.mono (j := 2) (by omega)
    exact (dss_c (ds_i (dt_cmp (opR_notInK (Nat.lt_of_le_of_lt (Nat.add_le_add_left (by decide : 1 ≤ 65) _) hu5)) op_dNotInK (do_v (de_ix ix_seq op_dIx (do_v (de_v (pv 3))) (do_v de_int))) (do_h (de_v (pv 0))) (by with_unfolding_all rfl)) (dss_1 (ds_r (de_f (df_l (da_c (do_v de_bl) (da_c (do_v de_bl) (da_c (do_v de_bl) (da_c (do_v de_bl) (da_c (do_v de_bl) da_n))))))))) dss_n)
   (dss_c (ds_i (dt_cmp (opR_notIn hu5) op_dNotIn (do_v (de_ix ix_seq op_dIx (do_v (de_v (pv 3))) (do_v de_int))) (do_v (de_v (pv 1))) (by with_unfolding_all rfl)) (dss_1 (ds_r (de_f (df_l (da_c (do_v de_bl) (da_c (do_v de_bl) (da_c (do_v de_bl) (da_c (do_v de_bl) (da_c (do_v de_bl) da_n))))))))) dss_n)
   (dss_c (ds_i (dt_w (dw_o (dt_cmp (opR_notIn hu5) op_dNotIn (do_v (de_ix ix_seq op_dIx (do_v (de_v (pv 3))) (do_v de_int))) (do_v (de_v (pv 2))) (by with_unfolding_all rfl)) (dw_1o (dt_n (dt_t (do_v (de_c d__law_is_text hr tk (da_c (do_v (de_ix ix_seq op_dIx (do_v (de_v (pv 3))) (do_v de_int))) da_n)))))))) (dss_1 (ds_r (de_f (df_l (da_c (do_v de_bl) (da_c (do_v de_bl) (da_c (do_v de_bl) (da_c (do_v de_bl) (da_c (do_v de_bl) da_n))))))))) dss_n)
   (dss_1 (ds_r (de_f (df_l da_n)))))))
theorem ok_House_tongue_named (hB : Bl mg) (hT : XT K mg xT) {f : Addr} {fd : FuncData} (F : Fun K "tongue_named" "House.tongue_named" s_House_tongue_named f fd) (hF_by_name : ClsF K mg [311107613541] "by_name") {k : Nat} (hrec : MDef P w K mg base (2 + k) "tongue_named" 2 [311107613541] (t_tongue_named k)) : FnOk P w K mg base (L2.CX P w) (2 + k + 1) f fd ["self", "name"] (spOf ⟨K, mg, w⟩ 2 (runB 2 (b_House_tongue_named))) :=
  fn_ok (N := N_House_tongue_named) (ps := ["self", "name"]) (k := 2 + k) F sc_House_tongue_named fun B cdv A outer s H E W hr tk pw => by
    have hu := hr.units
    have hu5 : (A.deeper (envOfC "House.tongue_named" (defScope s_House_tongue_named) s.heap.objs.size f cdv)).units + 65 < cLine := by have := hr.un; omega
    exact (dss_c (ds_i (dt_cmp (opR_notInK (Nat.lt_of_le_of_lt (Nat.add_le_add_left (by decide : 1 ≤ 65) _) hu5)) op_dNotInK (do_v (de_v (pv 1))) (do_h (de_fld [311107613541] 27717998498377061 (by decide +kernel) (by decide +kernel) hF_by_name (do_h (de_v (pv 0))))) (by with_unfolding_all rfl)) (dss_1 (ds_raise hT (by decide +kernel) (by decide +kernel) tk)) dss_n)
   (dss_1 (ds_r (de_ix (ix_dK (Nat.lt_of_le_of_lt (Nat.add_le_add_left (by decide : 1 ≤ 65) _) hu5)) op_dGetK (do_h (de_fld [311107613541] 27717998498377061 (by decide +kernel) (by decide +kernel) hF_by_name (do_h (de_v (pv 0))))) (do_v (de_v (pv 1)))))))
theorem okm_tongue_named (hB : Bl mg) (hT : XT K mg xT) (hF_by_name : ClsF K mg [311107613541] "by_name") {f_House : Addr} {fd_House : FuncData} (F_House : Fun K "tongue_named" "House.tongue_named" s_House_tongue_named f_House fd_House) {C_House : Addr} (hC_House : mg (nmS 311107613541) = some (.ref C_House)) (cl_House : Cls K C_House) (mt_House : Meth K C_House "tongue_named" f_House) : ∀ k, MDef P w K mg base (2 + k) "tongue_named" 2 [311107613541] (t_tongue_named k)
  | 0 => (.cons hC_House cl_House mt_House (fn_stuck (k := 1) F_House sc_House_tongue_named) (F_House.binds (ps := ["self", "name"]) fun _ _ _ _ _ _ us hl => match us, hl with | [_, _], _ => rfl) .nil)
  | k + 1 => by
    have hrec := okm_tongue_named hB hT hF_by_name F_House hC_House cl_House mt_House k
    exact (.cons hC_House cl_House mt_House (by rw [t_tongue_named_House]; exact ok_House_tongue_named hB hT F_House hF_by_name hrec) (F_House.binds (ps := ["self", "name"]) fun _ _ _ _ _ _ us hl => match us, hl with | [_, _], _ => rfl) .nil)
theorem ok_is_thing_text (hB : Bl mg) (hT : XT K mg xT) {f : Addr} {fd : FuncData} (F : Fun K "is_thing_text" "is_thing_text" s_is_thing_text f fd) (hm : mg "is_thing_text" = some (.ref f)) {t_LETTERS : Tok} (hc_LETTERS : mg "LETTERS" = some (.str (tx k_LETTERS) t_LETTERS)) : Def P w K mg base 2 "is_thing_text" 1 c_is_thing_text :=
  def_ok (N := N_is_thing_text) (ps := ["text"]) F sc_is_thing_text (F.binds (ps := ["text"]) fun _ _ _ _ _ _ us hl => match us, hl with | [_], _ => rfl) hm fun B cdv A outer s H E W hr tk pw => by
    have hu := hr.units
    have hu5 : (A.deeper (envOfC "is_thing_text" (defScope s_is_thing_text) s.heap.objs.size f cdv)).units + 65 < cLine := by have := hr.un; omega
    exact (dss_1 (ds_r (de_a (de_cb call_isi op_dIsI hB.isinstance (da_c (do_v (de_v (pv 0))) (da_c (do_v (de_ty hB.str)) da_n))) (de_a (de_chain opR_lt op_dCmp opR_le op_dCmp (do_v de_int) (do_v (de_cb call_len op_dLen hB.len (da_c (do_v (de_v (pv 0))) da_n))) (do_v de_int)) (de_1 (de_cb (cr_all rfl) op_dAll hB.all (da_c (do_v (de_f (df_lc [("sign", 1)] rfl sc_is_thing_text.nd (blkOk_by (N := N_is_thing_text) (sc := defScope s_is_thing_text) (by decide +kernel)) (di_e (de_v (pv 0))) (tgB_v (by decide)) (fun _ _ _ _ _ => (pg_name (i := 1) sc_is_thing_text.nd rfl (Or.inl rfl) (by first | exact .inl rfl | exact .inr rfl))) (fun _ _ _ _ _ _ => dts_n) (fun _ _ _ _ _ _ => (de_cmp (opR_in hu5) op_dIn (do_v (de_v (pv 1))) (do_v (de_gs hc_LETTERS ok_k_LETTERS)) (by with_unfolding_all rfl)))))) da_n)))))))
theorem ok_House_word (hB : Bl mg) (hT : XT K mg xT) {f : Addr} {fd : FuncData} (F : Fun K "word" "House.word" s_House_word f fd) (dM_tongue_named : MDef P w K mg base 3 "tongue_named" 2 [311107613541] (t_tongue_named 1)) (hF_thing_row : ClsF K mg [311107613541] "thing_row") (hF_kind_row : ClsF K mg [311107613541] "kind_row") (d_is_thing_text : Def P w K mg base 2 "is_thing_text" 1 c_is_thing_text) (hF_thing_texts : ClsF K mg [311107613541] "thing_texts") {k : Nat} (hrec : MDef P w K mg base (4 + k) "word" 5 [311107613541] (t_word k)) : FnOk P w K mg base (L2.CX P w) (4 + k + 1) f fd ["self", "tongue", "thing", "text", "kind"] (spOf ⟨K, mg, w⟩ 5 (runB 5 (b_House_word))) :=
  fn_ok (N := N_House_word) (ps := ["self", "tongue", "thing", "text", "kind"]) (k := 4 + k) F sc_House_word fun B cdv A outer s H E W hr tk pw => by
    have hu := hr.units
    have hu5 : (A.deeper (envOfC "House.word" (defScope s_House_word) s.heap.objs.size f cdv)).units + 65 < cLine := by have := hr.un; omega
    have dM_tongue_named := dM_tongue_named.mono (j := 4 + k) (by omega)
    have d_is_thing_text := d_is_thing_text.mono (j := 4 + k) (by omega)
    exact (dss_c (ds_e (de_mh (by decide +kernel) (by decide +kernel) dM_tongue_named hr tk (de_v (pv 0)) (da_c (do_v (de_v (pv 1))) da_n)))
   (dss_c (ds_i (dt_cmp (opR_notIn hu5) op_dNotIn (do_v (de_v (pv 2))) (do_v (de_fld [311107613541] 2147345978593069133687 (by decide +kernel) (by decide +kernel) hF_thing_row (do_h (de_v (pv 0))))) (by with_unfolding_all rfl)) (dss_1 (ds_raise hT (by decide +kernel) (by decide +kernel) tk)) dss_n)
   (dss_c (ds_i (dt_w (dw_o (dt_cmp (opR_notIn hu5) op_dNotIn (do_v (de_v (pv 4))) (do_v (de_fld [311107613541] 7739838811990028151 (by decide +kernel) (by decide +kernel) hF_kind_row (do_h (de_v (pv 0))))) (by with_unfolding_all rfl)) (dw_1o (dt_n (dt_t (do_v (de_c d_is_thing_text hr tk (da_c (do_v (de_v (pv 3))) da_n)))))))) (dss_1 (ds_raise hT (by decide +kernel) (by decide +kernel) tk)) dss_n)
   (dss_1 (ds_tP (Nat.lt_of_le_of_lt (Nat.add_le_add_left (by decide : 9 ≤ 65) _) hu5) (do_h (de_fld [311107613541] 140728466053075387167569011 (by decide +kernel) (by decide +kernel) hF_thing_texts (do_h (de_v (pv 0))))) (de_p (da_c (do_v (de_v (pv 1))) (da_c (do_v (de_v (pv 2))) da_n))) (de_p (da_c (do_v (de_v (pv 3))) (da_c (do_v (de_v (pv 4))) da_n))))))))
theorem okm_word (hB : Bl mg) (hT : XT K mg xT) (dM_tongue_named : MDef P w K mg base 3 "tongue_named" 2 [311107613541] (t_tongue_named 1)) (hF_thing_row : ClsF K mg [311107613541] "thing_row") (hF_kind_row : ClsF K mg [311107613541] "kind_row") (d_is_thing_text : Def P w K mg base 2 "is_thing_text" 1 c_is_thing_text) (hF_thing_texts : ClsF K mg [311107613541] "thing_texts") {f_House : Addr} {fd_House : FuncData} (F_House : Fun K "word" "House.word" s_House_word f_House fd_House) {C_House : Addr} (hC_House : mg (nmS 311107613541) = some (.ref C_House)) (cl_House : Cls K C_House) (mt_House : Meth K C_House "word" f_House) : ∀ k, MDef P w K mg base (4 + k) "word" 5 [311107613541] (t_word k)
  | 0 => (.cons hC_House cl_House mt_House (fn_stuck (k := 3) F_House sc_House_word) (F_House.binds (ps := ["self", "tongue", "thing", "text", "kind"]) fun _ _ _ _ _ _ us hl => match us, hl with | [_, _, _, _, _], _ => rfl) .nil)
  | k + 1 => by
    have hrec := okm_word hB hT dM_tongue_named hF_thing_row hF_kind_row d_is_thing_text hF_thing_texts F_House hC_House cl_House mt_House k
    exact (.cons hC_House cl_House mt_House (by rw [t_word_House]; exact ok_House_word hB hT F_House dM_tongue_named hF_thing_row hF_kind_row d_is_thing_text hF_thing_texts hrec) (F_House.binds (ps := ["self", "tongue", "thing", "text", "kind"]) fun _ _ _ _ _ _ us hl => match us, hl with | [_, _, _, _, _], _ => rfl) .nil)
theorem ok__law_told (hB : Bl mg) (hT : XT K mg xT) {f : Addr} {fd : FuncData} (F : Fun K "_law_told" "_law_told" s__law_told f fd) (hm : mg "_law_told" = some (.ref f)) (dM_word : MDef P w K mg base 5 "word" 5 [311107613541] (t_word 1)) (d__law_kinds_of : DefP P w K mg base 2 "_law_kinds_of" c__law_kinds_of) : Def P w K mg base 6 "_law_told" 5 c__law_told :=
  def_ok (N := N__law_told) (ps := ["_law_house", "_law_name", "_law_thing", "_law_text_here", "_law_kind"]) F sc__law_told (F.binds (ps := ["_law_house", "_law_name", "_law_thing", "_law_text_here", "_law_kind"]) fun _ _ _ _ _ _ us hl => match us, hl with | [_, _, _, _, _], _ => rfl) hm fun B cdv A outer s H E W hr tk pw => by
    have hu := hr.units
    have hu5 : (A.deeper (envOfC "_law_told" (defScope s__law_told) s.heap.objs.size f cdv)).units + 65 < cLine := by have := hr.un; omega
    have dM_word := dM_word.mono (j := 5) (by omega)
    have d__law_kinds_of := d__law_kinds_of.mono (j := 5) (by omega)
    exact (dss_c (ds_tryA (i := 5) hT (hnm_of hT (by decide +kernel) (by decide +kernel)) tk sc__law_told.nd (fun W' pn xe tk pw => (dss_1 (ds_e (de_mh (by decide +kernel) (by decide +kernel) dM_word hr tk (de_v (pv 0)) (da_c (do_v (de_v (pv 1))) (da_c (do_v (de_v (pv 2))) (da_c (do_v (de_v (pv 3))) (da_c (do_v (de_v (pv 4))) da_n)))))))) (fun a oe C pn c hC hxc hz hfl => (dss_1 (ds_r (de_cP d__law_kinds_of ⟨hr.dp, hr.un⟩ hC hxc hz hfl List.mem_cons_self takes0 (pv 5))))))
   (dss_1 (ds_r (de_f (df_l da_n)))))
theorem ok__law_deed (hB : Bl mg) (hT : XT K mg xT) {f : Addr} {fd : FuncData} (F : Fun K "_law_deed" "_law_deed" s__law_deed f fd) (hm : mg "_law_deed" = some (.ref f)) (d__law_tongue : Def P w K mg base 4 "_law_tongue" 3 c__law_tongue) (d__law_added : Def P w K mg base 4 "_law_added" 2 c__law_added) (d__law_fields : DefG P w K mg base 2 "_law_fields" 1 c__law_fields) (dM_own_word : MDef P w K mg base 3 "own_word" 3 [311107613541] (t_own_word 1)) (d__law_own : Def P w K mg base 2 "_law_own" 2 c__law_own) (d__law_text : Def P w K mg base 2 "_law_text" 1 c__law_text) (d__law_due : Def P w K mg base 3 "_law_due" 4 c__law_due) (d__law_told : Def P w K mg base 6 "_law_told" 5 c__law_told) : DefG P w K mg base 7 "_law_deed" 7 c__law_deed :=
  defG_by (N := N__law_deed) (ps := ["_law_house", "_law_cell", "_law_names", "_law_things", "_law_kinds", "_law_there", "_law_texts"]) F sc__law_deed (F.binds (ps := ["_law_house", "_law_cell", "_law_names", "_law_things", "_law_kinds", "_law_there", "_law_texts"]) fun _ _ _ _ _ _ us hl => match us, hl with | [_, _, _, _, _, _, _], _ => rfl) hm fun B cdv A outer s H E W hr gu tk pw => by
    have hu := hr.units
    have hu5 : (A.deeper (envOfC "_law_deed" (defScope s__law_deed) s.heap.objs.size f cdv)).units + 65 < cLine := by have := hr.un; omega
    have d__law_tongue := d__law_tongue.mono (j := 6) (by omega)
    have d__law_added := d__law_added.mono (j := 6) (by omega)
    have d__law_fields := d__law_fields.mono (j := 6) (by omega)
    have dM_own_word := dM_own_word.mono (j := 6) (by omega)
    have d__law_own := d__law_own.mono (j := 6) (by omega)
    have d__law_text := d__law_text.mono (j := 6) (by omega)
    have d__law_due := d__law_due.mono (j := 6) (by omega)
    have d__law_told := d__law_told.mono (j := 6) (by omega)
    exact (dss_c (ds_v (i := 7) sc__law_deed.nd (de_ix ix_seq op_dIx (do_v (de_v (pv 2))) (do_v (de_bin op_mod op_dMod (do_v (de_bin op_fdivW op_dFdiv (do_v (de_v (pv 1))) (do_v de_int))) (do_v (de_cb call_len op_dLen hB.len (da_c (do_v (de_v (pv 2))) da_n)))))))
   (dss_c (ds_i (dt_cmp (op_eqD hu) op_dEq (do_v (de_bin op_mod op_dMod (do_v (de_v (pv 1))) (do_v de_int))) (do_v de_int) (nomark _)) (dss_c (ds_v (i := 8) sc__law_deed.nd (de_c d__law_tongue hr tk (da_c (do_v (de_v (pv 7))) (da_c (do_v (de_v (pv 2))) (da_c (do_v (de_bin op_fdivW op_dFdiv (do_v (de_v (pv 1))) (do_v de_int))) da_n)))))
   (dss_c (ds_v (i := 9) sc__law_deed.nd (de_c d__law_added hr tk (da_c (do_v (de_v (pv 0))) (da_c (do_v (de_v (pv 8))) da_n))))
   (dss_c (ds_i (dt_cmp (opR_inK (Nat.lt_of_le_of_lt (Nat.add_le_add_left (by decide : 1 ≤ 65) _) hu5)) op_dInK (do_v (de_v (pv 7))) (do_h (de_v (pv 5))) (by with_unfolding_all rfl)) (dss_1 (ds_r (de_cmp (op_eqD hu) op_dEq (do_v (de_v (pv 9))) (do_v (de_f (df_l (da_c (do_v de_bl) (da_c (do_v de_bl) (da_c (do_v de_bl) (da_c (do_v de_bl) (da_c (do_v de_bl) da_n)))))))) (nomark _)))) dss_n)
   (dss_c (ds_putL (Nat.lt_of_le_of_lt (Nat.add_le_add_left (by decide : 1 ≤ 65) _) hu5) (do_h (de_v (pv 5))) (de_v (pv 7)) (de_cG d__law_fields gu hr tk (da_c (do_v (de_v (pv 8))) da_n)))
   (dss_1 (ds_r (de_cmp (op_eqD hu) op_dEq (do_v (de_v (pv 9))) (do_v (de_f (df_l da_n))) (nomark _)))))))) dss_n)
   (dss_c (ds_v (i := 10) sc__law_deed.nd (de_bin opR_add op_dAdd (do_v (de_v (pv 3))) (do_v (de_f (df_l (da_c (do_v (de_str [110, 111, 110, 101])) da_n))))))
   (dss_c (ds_v (i := 11) sc__law_deed.nd (de_ix ix_seq op_dIx (do_v (de_v (pv 10))) (do_v (de_bin op_mod op_dMod (do_v (de_bin op_fdivW op_dFdiv (do_v (de_v (pv 1))) (do_v de_int))) (do_v (de_cb call_len op_dLen hB.len (da_c (do_v (de_v (pv 10))) da_n)))))))
   (dss_c (ds_i (dt_cmp (op_eqD hu) op_dEq (do_v (de_bin op_mod op_dMod (do_v (de_v (pv 1))) (do_v de_int))) (do_v de_int) (nomark _)) (dss_1 (ds_r (de_c d__law_own hr tk (da_c (do_v (de_mh (by decide +kernel) (by decide +kernel) dM_own_word hr tk (de_v (pv 0)) (da_c (do_v (de_v (pv 7))) (da_c (do_v (de_v (pv 11))) da_n)))) (da_c (do_v (de_tGo (Nat.lt_of_le_of_lt (Nat.add_le_add_left (by decide : 9 ≤ 65) _) hu5) (do_h (de_v (pv 6))) (da_c (do_v (de_p (da_c (do_v (de_v (pv 7))) (da_c (do_v (de_v (pv 11))) da_n)))) da_n))) da_n))))) dss_n)
   (dss_c (ds_v (i := 12) sc__law_deed.nd (de_bin opR_add op_dAdd (do_v (de_v (pv 4))) (do_v (de_f (df_l (da_c (do_v (de_str [111, 116, 104, 101, 114])) da_n))))))
   (dss_c (ds_v (i := 13) sc__law_deed.nd (de_p (da_c (do_v (de_v (pv 7))) (da_c (do_v (de_v (pv 11))) (da_c (do_v (de_c d__law_text hr tk (da_c (do_v (de_bin op_fdivW op_dFdiv (do_v (de_v (pv 1))) (do_v de_int))) da_n))) (da_c (do_v (de_ix ix_seq op_dIx (do_v (de_v (pv 12))) (do_v (de_bin op_mod op_dMod (do_v (de_bin op_fdivW op_dFdiv (do_v (de_v (pv 1))) (do_v de_int))) (do_v (de_cb call_len op_dLen hB.len (da_c (do_v (de_v (pv 12))) da_n))))))) da_n))))))
   (dss_c (ds_v (i := 14) sc__law_deed.nd (de_c d__law_due hr tk (da_c (do_v (de_v (pv 5))) (da_c (do_v (de_v (pv 3))) (da_c (do_v (de_v (pv 4))) (da_c (do_v (de_v (pv 13))) da_n))))))
   (dss_c (ds_i (dt_cmp (op_eqD hu) op_dEq (do_v (de_v (pv 14))) (do_v (de_f (df_l da_n))) (nomark _)) (dss_1 (ds_tP (Nat.lt_of_le_of_lt (Nat.add_le_add_left (by decide : 9 ≤ 65) _) hu5) (do_h (de_v (pv 6))) (de_p (da_c (do_v (de_v (pv 7))) (da_c (do_v (de_v (pv 11))) da_n))) (de_p (da_c (do_v (de_ix ix_seq op_dIx (do_v (de_v (pv 13))) (do_v de_int))) (da_c (do_v (de_ix ix_seq op_dIx (do_v (de_v (pv 13))) (do_v de_int))) da_n))))) dss_n)
   (dss_1 (ds_r (de_cmp (op_eqD hu) op_dEq (do_v (de_c d__law_told hr tk (da_c (do_v (de_v (pv 0))) (da_c (do_v (de_v (pv 7))) (da_c (do_v (de_v (pv 11))) (da_c (do_v (de_ix ix_seq op_dIx (do_v (de_v (pv 13))) (do_v de_int))) (da_c (do_v (de_ix ix_seq op_dIx (do_v (de_v (pv 13))) (do_v de_int))) da_n))))))) (do_v (de_v (pv 14))) (nomark _)))))))))))))
theorem ok_House_kinds (hB : Bl mg) (hT : XT K mg xT) {f : Addr} {fd : FuncData} (F : Fun K "kinds" "House.kinds" s_House_kinds f fd) (hF_kind_row : ClsF K mg [311107613541] "kind_row") {k : Nat} (hrec : MDef P w K mg base (2 + k) "kinds" 1 [311107613541] (t_kinds k)) : FnOk P w K mg base (L2.CX P w) (2 + k + 1) f fd ["self"] (spOf ⟨K, mg, w⟩ 1 (runB 1 (b_House_kinds))) :=
  fn_ok (N := N_House_kinds) (ps := ["self"]) (k := 2 + k) F sc_House_kinds fun B cdv A outer s H E W hr tk pw => by
    have hu := hr.units
    have hu5 : (A.deeper (envOfC "House.kinds" (defScope s_House_kinds) s.heap.objs.size f cdv)).units + 65 < cLine := by have := hr.un; omega
    exact (dss_1 (ds_r (de_al (df_ct call_list_of op_dListF hB.list (da_c (do_v (de_fld [311107613541] 7739838811990028151 (by decide +kernel) (by decide +kernel) hF_kind_row (do_h (de_v (pv 0))))) da_n)))))
theorem okm_kinds (hB : Bl mg) (hT : XT K mg xT) (hF_kind_row : ClsF K mg [311107613541] "kind_row") {f_House : Addr} {fd_House : FuncData} (F_House : Fun K "kinds" "House.kinds" s_House_kinds f_House fd_House) {C_House : Addr} (hC_House : mg (nmS 311107613541) = some (.ref C_House)) (cl_House : Cls K C_House) (mt_House : Meth K C_House "kinds" f_House) : ∀ k, MDef P w K mg base (2 + k) "kinds" 1 [311107613541] (t_kinds k)
  | 0 => (.cons hC_House cl_House mt_House (fn_stuck (k := 1) F_House sc_House_kinds) (F_House.binds (ps := ["self"]) fun _ _ _ _ _ _ us hl => match us, hl with | [_], _ => rfl) .nil)
  | k + 1 => by
    have hrec := okm_kinds hB hT hF_kind_row F_House hC_House cl_House mt_House k
    exact (.cons hC_House cl_House mt_House (by rw [t_kinds_House]; exact ok_House_kinds hB hT F_House hF_kind_row hrec) (F_House.binds (ps := ["self"]) fun _ _ _ _ _ _ us hl => match us, hl with | [_], _ => rfl) .nil)
theorem ok__law_rows (hB : Bl mg) (hT : XT K mg xT) {f : Addr} {fd : FuncData} (F : Fun K "_law_rows" "_law_rows" s__law_rows f fd) (hm : mg "_law_rows" = some (.ref f)) : Def P w K mg base 2 "_law_rows" 2 c__law_rows :=
  def_ok (N := N__law_rows) (ps := ["_law_found", "_law_due_here"]) F sc__law_rows (F.binds (ps := ["_law_found", "_law_due_here"]) fun _ _ _ _ _ _ us hl => match us, hl with | [_, _], _ => rfl) hm fun B cdv A outer s H E W hr tk pw => by
    have hu := hr.units
    have hu5 : (A.deeper (envOfC "_law_rows" (defScope s__law_rows) s.heap.objs.size f cdv)).units + 65 < cLine := by have := hr.un; omega
    exact (dss_c (ds_i (dt_w (dw_o (dt_n (dt_t (do_v (de_cb call_isi op_dIsI hB.isinstance (da_c (do_h (de_v (pv 0))) (da_c (do_v (de_ty hB.list)) da_n)))))) (dw_1o (dt_cmp (op_neD hu) op_dNe (do_h (de_v (pv 0))) (do_v (de_v (pv 1))) (nomark _))))) (dss_1 (ds_r de_bl)) dss_n)
   (dss_c (ds_apL (do_h (de_v (pv 0))) (do_v (de_str [122, 122, 122])))
   (dss_1 (ds_r de_bl))))
theorem ok_House_ranks (hB : Bl mg) (hT : XT K mg xT) {f : Addr} {fd : FuncData} (F : Fun K "ranks" "House.ranks" s_House_ranks f fd) (hF_rank_row : ClsF K mg [311107613541] "rank_row") {k : Nat} (hrec : MDef P w K mg base (2 + k) "ranks" 1 [311107613541] (t_ranks k)) : FnOk P w K mg base (L2.CX P w) (2 + k + 1) f fd ["self"] (spOf ⟨K, mg, w⟩ 1 (runB 1 (b_House_ranks))) :=
  fn_ok (N := N_House_ranks) (ps := ["self"]) (k := 2 + k) F sc_House_ranks fun B cdv A outer s H E W hr tk pw => by
    have hu := hr.units
    have hu5 : (A.deeper (envOfC "House.ranks" (defScope s_House_ranks) s.heap.objs.size f cdv)).units + 65 < cLine := by have := hr.un; omega
    exact (dss_1 (ds_r (de_al (df_ct call_list_of op_dListF hB.list (da_c (do_v (de_fld [311107613541] 8241990200506609527 (by decide +kernel) (by decide +kernel) hF_rank_row (do_h (de_v (pv 0))))) da_n)))))
theorem okm_ranks (hB : Bl mg) (hT : XT K mg xT) (hF_rank_row : ClsF K mg [311107613541] "rank_row") {f_House : Addr} {fd_House : FuncData} (F_House : Fun K "ranks" "House.ranks" s_House_ranks f_House fd_House) {C_House : Addr} (hC_House : mg (nmS 311107613541) = some (.ref C_House)) (cl_House : Cls K C_House) (mt_House : Meth K C_House "ranks" f_House) : ∀ k, MDef P w K mg base (2 + k) "ranks" 1 [311107613541] (t_ranks k)
  | 0 => (.cons hC_House cl_House mt_House (fn_stuck (k := 1) F_House sc_House_ranks) (F_House.binds (ps := ["self"]) fun _ _ _ _ _ _ us hl => match us, hl with | [_], _ => rfl) .nil)
  | k + 1 => by
    have hrec := okm_ranks hB hT hF_rank_row F_House hC_House cl_House mt_House k
    exact (.cons hC_House cl_House mt_House (by rw [t_ranks_House]; exact ok_House_ranks hB hT F_House hF_rank_row hrec) (F_House.binds (ps := ["self"]) fun _ _ _ _ _ _ us hl => match us, hl with | [_], _ => rfl) .nil)
theorem ok_House_things (hB : Bl mg) (hT : XT K mg xT) {f : Addr} {fd : FuncData} (F : Fun K "things" "House.things" s_House_things f fd) (hF_thing_row : ClsF K mg [311107613541] "thing_row") {k : Nat} (hrec : MDef P w K mg base (2 + k) "things" 1 [311107613541] (t_things k)) : FnOk P w K mg base (L2.CX P w) (2 + k + 1) f fd ["self"] (spOf ⟨K, mg, w⟩ 1 (runB 1 (b_House_things))) :=
  fn_ok (N := N_House_things) (ps := ["self"]) (k := 2 + k) F sc_House_things fun B cdv A outer s H E W hr tk pw => by
    have hu := hr.units
    have hu5 : (A.deeper (envOfC "House.things" (defScope s_House_things) s.heap.objs.size f cdv)).units + 65 < cLine := by have := hr.un; omega
    exact (dss_1 (ds_r (de_al (df_ct call_list_of op_dListF hB.list (da_c (do_v (de_fld [311107613541] 2147345978593069133687 (by decide +kernel) (by decide +kernel) hF_thing_row (do_h (de_v (pv 0))))) da_n)))))
theorem okm_things (hB : Bl mg) (hT : XT K mg xT) (hF_thing_row : ClsF K mg [311107613541] "thing_row") {f_House : Addr} {fd_House : FuncData} (F_House : Fun K "things" "House.things" s_House_things f_House fd_House) {C_House : Addr} (hC_House : mg (nmS 311107613541) = some (.ref C_House)) (cl_House : Cls K C_House) (mt_House : Meth K C_House "things" f_House) : ∀ k, MDef P w K mg base (2 + k) "things" 1 [311107613541] (t_things k)
  | 0 => (.cons hC_House cl_House mt_House (fn_stuck (k := 1) F_House sc_House_things) (F_House.binds (ps := ["self"]) fun _ _ _ _ _ _ us hl => match us, hl with | [_], _ => rfl) .nil)
  | k + 1 => by
    have hrec := okm_things hB hT hF_thing_row F_House hC_House cl_House mt_House k
    exact (.cons hC_House cl_House mt_House (by rw [t_things_House]; exact ok_House_things hB hT F_House hF_thing_row hrec) (F_House.binds (ps := ["self"]) fun _ _ _ _ _ _ us hl => match us, hl with | [_], _ => rfl) .nil)
theorem ok_House_tongues (hB : Bl mg) (hT : XT K mg xT) {f : Addr} {fd : FuncData} (F : Fun K "tongues" "House.tongues" s_House_tongues f fd) (hF_by_name : ClsF K mg [311107613541] "by_name") {k : Nat} (hrec : MDef P w K mg base (2 + k) "tongues" 1 [311107613541] (t_tongues k)) : FnOk P w K mg base (L2.CX P w) (2 + k + 1) f fd ["self"] (spOf ⟨K, mg, w⟩ 1 (runB 1 (b_House_tongues))) :=
  fn_ok (N := N_House_tongues) (ps := ["self"]) (k := 2 + k) F sc_House_tongues fun B cdv A outer s H E W hr tk pw => by
    have hu := hr.units
    have hu5 : (A.deeper (envOfC "House.tongues" (defScope s_House_tongues) s.heap.objs.size f cdv)).units + 65 < cLine := by have := hr.un; omega
    exact (dss_1 (ds_r (de_al (df_cb (opR_sorted rfl) op_dSortF hB.sorted (da_c (do_h (de_fld [311107613541] 27717998498377061 (by decide +kernel) (by decide +kernel) hF_by_name (do_h (de_v (pv 0))))) da_n)))))
theorem okm_tongues (hB : Bl mg) (hT : XT K mg xT) (hF_by_name : ClsF K mg [311107613541] "by_name") {f_House : Addr} {fd_House : FuncData} (F_House : Fun K "tongues" "House.tongues" s_House_tongues f_House fd_House) {C_House : Addr} (hC_House : mg (nmS 311107613541) = some (.ref C_House)) (cl_House : Cls K C_House) (mt_House : Meth K C_House "tongues" f_House) : ∀ k, MDef P w K mg base (2 + k) "tongues" 1 [311107613541] (t_tongues k)
  | 0 => (.cons hC_House cl_House mt_House (fn_stuck (k := 1) F_House sc_House_tongues) (F_House.binds (ps := ["self"]) fun _ _ _ _ _ _ us hl => match us, hl with | [_], _ => rfl) .nil)
  | k + 1 => by
    have hrec := okm_tongues hB hT hF_by_name F_House hC_House cl_House mt_House k
    exact (.cons hC_House cl_House mt_House (by rw [t_tongues_House]; exact ok_House_tongues hB hT F_House hF_by_name hrec) (F_House.binds (ps := ["self"]) fun _ _ _ _ _ _ us hl => match us, hl with | [_], _ => rfl) .nil)
theorem ok__law_asked (hB : Bl mg) (hT : XT K mg xT) {f : Addr} {fd : FuncData} (F : Fun K "_law_asked" "_law_asked" s__law_asked f fd) (hm : mg "_law_asked" = some (.ref f)) (dM_tongue_named : MDef P w K mg base 3 "tongue_named" 2 [311107613541] (t_tongue_named 1)) (d__law_kinds_of : DefP P w K mg base 2 "_law_kinds_of" c__law_kinds_of) : Def P w K mg base 4 "_law_asked" 2 c__law_asked :=
  def_ok (N := N__law_asked) (ps := ["_law_house", "_law_name"]) F sc__law_asked (F.binds (ps := ["_law_house", "_law_name"]) fun _ _ _ _ _ _ us hl => match us, hl with | [_, _], _ => rfl) hm fun B cdv A outer s H E W hr tk pw => by
    have hu := hr.units
    have hu5 : (A.deeper (envOfC "_law_asked" (defScope s__law_asked) s.heap.objs.size f cdv)).units + 65 < cLine := by have := hr.un; omega
    have dM_tongue_named := dM_tongue_named.mono (j := 3) (by omega)
    have d__law_kinds_of := d__law_kinds_of.mono (j := 3) (by omega)
    exact (dss_c (ds_tryA (i := 2) hT (hnm_of hT (by decide +kernel) (by decide +kernel)) tk sc__law_asked.nd (fun W' pn xe tk pw => (dss_1 (ds_e (de_mh (by decide +kernel) (by decide +kernel) dM_tongue_named hr tk (de_v (pv 0)) (da_c (do_v (de_v (pv 1))) da_n))))) (fun a oe C pn c hC hxc hz hfl => (dss_1 (ds_r (de_cP d__law_kinds_of ⟨hr.dp, hr.un⟩ hC hxc hz hfl List.mem_cons_self takes0 (pv 2))))))
   (dss_1 (ds_r (de_f (df_l da_n)))))
theorem ok__law_end (hB : Bl mg) (hT : XT K mg xT) {f : Addr} {fd : FuncData} (F : Fun K "_law_end" "_law_end" s__law_end f fd) (hm : mg "_law_end" = some (.ref f)) (dM_tongues : MDef P w K mg base 3 "tongues" 1 [311107613541] (t_tongues 1)) (d__law_rows : Def P w K mg base 2 "_law_rows" 2 c__law_rows) (dM_tongue_named : MDef P w K mg base 3 "tongue_named" 2 [311107613541] (t_tongue_named 1)) (d__law_fields : DefG P w K mg base 2 "_law_fields" 1 c__law_fields) (d__law_asked : Def P w K mg base 4 "_law_asked" 2 c__law_asked) (dM_own_word : MDef P w K mg base 3 "own_word" 3 [311107613541] (t_own_word 1)) (d__law_own : Def P w K mg base 2 "_law_own" 2 c__law_own) : DefG P w K mg base 5 "_law_end" 5 c__law_end :=
  defG_by (N := N__law_end) (ps := ["_law_house", "_law_names", "_law_things", "_law_there", "_law_texts"]) F sc__law_end (F.binds (ps := ["_law_house", "_law_names", "_law_things", "_law_there", "_law_texts"]) fun _ _ _ _ _ _ us hl => match us, hl with | [_, _, _, _, _], _ => rfl) hm fun B cdv A outer s H E W hr gu tk pw => by
    have hu := hr.units
    have hu5 : (A.deeper (envOfC "_law_end" (defScope s__law_end) s.heap.objs.size f cdv)).units + 65 < cLine := by have := hr.un; omega
    have dM_tongues := dM_tongues.mono (j := 4) (by omega)
    have d__law_rows := d__law_rows.mono (j := 4) (by omega)
    have dM_tongue_named := dM_tongue_named.mono (j := 4) (by omega)
    have d__law_fields := d__law_fields.mono (j := 4) (by omega)
    have d__law_asked := d__law_asked.mono (j := 4) (by omega)
    have dM_own_word := dM_own_word.mono (j := 4) (by omega)
    have d__law_own := d__law_own.mono (j := 4) (by omega)
    exact (dss_c (ds_i (dt_w (dw_o (dt_n (dt_t (do_v (de_c d__law_rows hr tk (da_c (do_v (de_mh0 (by decide +kernel) (by decide +kernel) dM_tongues hr tk (de_v (pv 0)))) (da_c (do_v (de_f (df_cb (opR_sorted rfl) op_dSortF hB.sorted (da_c (do_h (de_v (pv 3))) da_n)))) da_n)))))) (dw_1o (dt_cmp (op_neD hu) op_dNe (do_h (de_mh0 (by decide +kernel) (by decide +kernel) dM_tongues hr tk (de_v (pv 0)))) (do_v (de_f (df_cb (opR_sorted rfl) op_dSortF hB.sorted (da_c (do_h (de_v (pv 3))) da_n)))) (nomark _))))) (dss_1 (ds_r de_bl)) dss_n)
   (dss_c (ds_f pw rfl (di_e (de_v (pv 1))) (dg_v (i := 5) sc__law_end.nd) (dss_c (ds_i (dt_cmp (opR_inK (Nat.lt_of_le_of_lt (Nat.add_le_add_left (by decide : 1 ≤ 65) _) hu5)) op_dInK (do_v (de_v (pv 5))) (do_h (de_v (pv 3))) (by with_unfolding_all rfl)) (dss_1 (ds_i (dt_cmp (op_neD hu) op_dNe (do_v (de_cG d__law_fields gu hr tk (da_c (do_v (de_mh (by decide +kernel) (by decide +kernel) dM_tongue_named hr tk (de_v (pv 0)) (da_c (do_v (de_v (pv 5))) da_n))) da_n))) (do_v (de_ix (ix_dK (Nat.lt_of_le_of_lt (Nat.add_le_add_left (by decide : 1 ≤ 65) _) hu5)) op_dGetK (do_h (de_v (pv 3))) (do_v (de_v (pv 5))))) (nomark _)) (dss_1 (ds_r de_bl)) dss_n)) (dss_1 (ds_i (dt_cmp (op_neD hu) op_dNe (do_v (de_c d__law_asked hr tk (da_c (do_v (de_v (pv 0))) (da_c (do_v (de_v (pv 5))) da_n)))) (do_v (de_f (df_l (da_c (do_v de_bl) (da_c (do_v de_bl) (da_c (do_v de_bl) (da_c (do_v de_bl) (da_c (do_v de_bl) da_n)))))))) (nomark _)) (dss_1 (ds_r de_bl)) dss_n)))
   (dss_1 (ds_f pw rfl (di_e (de_bin opR_add op_dAdd (do_v (de_sl sl_all op_dSl (do_v (de_v (pv 2))) dp_n (dp_s de_int))) (do_v (de_f (df_l (da_c (do_v (de_str [110, 111, 110, 101])) da_n)))))) (dg_v (i := 6) sc__law_end.nd) (dss_1 (ds_i (dt_n (dt_t (do_v (de_c d__law_own hr tk (da_c (do_v (de_mh (by decide +kernel) (by decide +kernel) dM_own_word hr tk (de_v (pv 0)) (da_c (do_v (de_v (pv 5))) (da_c (do_v (de_v (pv 6))) da_n)))) (da_c (do_v (de_tGo (Nat.lt_of_le_of_lt (Nat.add_le_add_left (by decide : 9 ≤ 65) _) hu5) (do_h (de_v (pv 4))) (da_c (do_v (de_p (da_c (do_v (de_v (pv 5))) (da_c (do_v (de_v (pv 6))) da_n)))) da_n))) da_n)))))) (dss_1 (ds_r de_bl)) dss_n))))))
   (dss_1 (ds_r de_bl))))
theorem ok_law (hB : Bl mg) (hT : XT K mg xT) {f : Addr} {fd : FuncData} (F : Fun K "law" "law" s_law f fd) (d__law_cell_at : Def P w K mg base 2 "_law_cell_at" 2 c__law_cell_at) (d__law_words : Def P w K mg base 3 "_law_words" 2 c__law_words) (dN_House : IDefS P w K mg base 2 "House" 311107613541 3 c_House___init__) (d__law_deed : DefG P w K mg base 7 "_law_deed" 7 c__law_deed) (dM_kinds : MDef P w K mg base 3 "kinds" 1 [311107613541] (t_kinds 1)) (d__law_rows : Def P w K mg base 2 "_law_rows" 2 c__law_rows) (dM_ranks : MDef P w K mg base 3 "ranks" 1 [311107613541] (t_ranks 1)) (dM_things : MDef P w K mg base 3 "things" 1 [311107613541] (t_things 1)) (d__law_end : DefG P w K mg base 5 "_law_end" 5 c__law_end) : FnG P w K mg base 8 f fd ["_law_script"] (spOf ⟨K, mg, w⟩ 1 c_law) :=
  fnG_by (N := N_law) (ps := ["_law_script"]) F sc_law fun B cdv A outer s H E W hr gu tk pw => by
    have hu := hr.units
    have hu5 : (A.deeper (envOfC "law" (defScope s_law) s.heap.objs.size f cdv)).units + 65 < cLine := by have := hr.un; omega
    have d__law_cell_at := d__law_cell_at.mono (j := 7) (by omega)
    have d__law_words := d__law_words.mono (j := 7) (by omega)
    have d__law_deed := d__law_deed.mono (j := 7) (by omega)
    have dM_kinds := dM_kinds.mono (j := 7) (by omega)
    have d__law_rows := d__law_rows.mono (j := 7) (by omega)
    have dM_ranks := dM_ranks.mono (j := 7) (by omega)
    have dM_things := dM_things.mono (j := 7) (by omega)
    have d__law_end := d__law_end.mono (j := 7) (by omega)
    exact (dss_c (ds_v (i := 1) sc_law.nd (de_c d__law_words hr tk (da_c (do_v (de_c d__law_cell_at hr tk (da_c (do_v (de_v (pv 0))) (da_c (do_v de_int) da_n)))) (da_c (do_v (de_bin opR_add op_dAdd (do_v de_int) (do_v (de_bin op_mod op_dMod (do_v (de_c d__law_cell_at hr tk (da_c (do_v (de_v (pv 0))) (da_c (do_v de_int) da_n)))) (do_v de_int))))) da_n))))
   (dss_c (ds_v (i := 2) sc_law.nd (de_c d__law_words hr tk (da_c (do_v (de_c d__law_cell_at hr tk (da_c (do_v (de_v (pv 0))) (da_c (do_v de_int) da_n)))) (da_c (do_v (de_bin opR_add op_dAdd (do_v de_int) (do_v (de_bin op_mod op_dMod (do_v (de_bin op_fdivW op_dFdiv (do_v (de_c d__law_cell_at hr tk (da_c (do_v (de_v (pv 0))) (da_c (do_v de_int) da_n)))) (do_v de_int))) (do_v de_int))))) da_n))))
   (dss_c (ds_v (i := 3) sc_law.nd (de_c d__law_words hr tk (da_c (do_v (de_c d__law_cell_at hr tk (da_c (do_v (de_v (pv 0))) (da_c (do_v de_int) da_n)))) (da_c (do_v (de_bin opR_add op_dAdd (do_v de_int) (do_v (de_bin op_mod op_dMod (do_v (de_bin op_fdivW op_dFdiv (do_v (de_c d__law_cell_at hr tk (da_c (do_v (de_v (pv 0))) (da_c (do_v de_int) da_n)))) (do_v de_int))) (do_v de_int))))) da_n))))
   (dss_c (ds_v (i := 4) sc_law.nd (de_c d__law_words hr tk (da_c (do_v (de_c d__law_cell_at hr tk (da_c (do_v (de_v (pv 0))) (da_c (do_v de_int) da_n)))) (da_c (do_v de_int) da_n))))
   (dss_c (ds_v (i := 5) sc_law.nd (de_f (df_l (da_c (do_v (de_al (df_ct call_list_of op_dListF hB.list (da_c (do_v (de_v (pv 1))) da_n)))) (da_c (do_v (de_al (df_ct call_list_of op_dListF hB.list (da_c (do_v (de_v (pv 2))) da_n)))) (da_c (do_v (de_al (df_ct call_list_of op_dListF hB.list (da_c (do_v (de_v (pv 3))) da_n)))) da_n))))))
   (dss_c (ds_v (i := 6) sc_law.nd (de_newH dN_House (hr.mono (by omega)) (da_c (do_v (de_ix ix_seq op_dIx (do_v (de_v (pv 5))) (do_v de_int))) (da_c (do_v (de_ix ix_seq op_dIx (do_v (de_v (pv 5))) (do_v de_int))) (da_c (do_v (de_ix ix_seq op_dIx (do_v (de_v (pv 5))) (do_v de_int))) da_n)))))
   (dss_c (ds_i (dt_cmpL (op_neD hu) op_dNe (de_v (pv 5)) (de_f (df_l (da_c (do_v (de_v (pv 1))) (da_c (do_v (de_v (pv 2))) (da_c (do_v (de_v (pv 3))) da_n))))) (nomark _)) (dss_1 (ds_r de_bl)) dss_n)
   (dss_c (ds_f pw rfl (di_e (de_v (pv 5))) (dg_v (i := 7) sc_law.nd) (dss_1 (ds_e (de_clrL (do_h (de_v (pv 7)))))))
   (dss_c (ds_v (i := 8) sc_law.nd (de_al df_k0))
   (dss_c (ds_v (i := 9) sc_law.nd de_tN)
   (dss_c (ds_f pw rfl (di_e (de_sl sl_all op_dSl (do_v (de_v (pv 0))) (dp_s de_int) (dp_s de_int))) (dg_v (i := 10) sc_law.nd) (dss_1 (ds_i (dt_n (dt_t (do_v (de_cG d__law_deed gu hr tk (da_c (do_v (de_v (pv 6))) (da_c (do_v (de_v (pv 10))) (da_c (do_v (de_v (pv 4))) (da_c (do_v (de_v (pv 3))) (da_c (do_v (de_v (pv 1))) (da_c (do_v (de_v (pv 8))) (da_c (do_v (de_v (pv 9))) da_n))))))))))) (dss_1 (ds_r de_bl)) dss_n)))
   (dss_c (ds_i (dt_w (dw_o (dt_n (dt_t (do_v (de_c d__law_rows hr tk (da_c (do_v (de_mh0 (by decide +kernel) (by decide +kernel) dM_kinds hr tk (de_v (pv 6)))) (da_c (do_v (de_v (pv 1))) da_n)))))) (dw_1o (dt_n (dt_t (do_v (de_c d__law_rows hr tk (da_c (do_v (de_mh0 (by decide +kernel) (by decide +kernel) dM_ranks hr tk (de_v (pv 6)))) (da_c (do_v (de_v (pv 2))) da_n))))))))) (dss_1 (ds_r de_bl)) dss_n)
   (dss_c (ds_i (dt_w (dw_o (dt_n (dt_t (do_v (de_c d__law_rows hr tk (da_c (do_v (de_mh0 (by decide +kernel) (by decide +kernel) dM_things hr tk (de_v (pv 6)))) (da_c (do_v (de_v (pv 3))) da_n)))))) (dw_1o (dt_n (dt_t (do_v (de_cG d__law_end gu hr tk (da_c (do_v (de_v (pv 6))) (da_c (do_v (de_v (pv 4))) (da_c (do_v (de_v (pv 3))) (da_c (do_v (de_v (pv 8))) (da_c (do_v (de_v (pv 9))) da_n)))))))))))) (dss_1 (ds_r de_bl)) dss_n)
   (dss_1 (ds_r (de_a (de_cmpL (op_eqD hu) op_dEq (de_mh0 (by decide +kernel) (by decide +kernel) dM_kinds hr tk (de_v (pv 6))) (de_v (pv 1)) (nomark _)) (de_a (de_cmpL (op_eqD hu) op_dEq (de_mh0 (by decide +kernel) (by decide +kernel) dM_ranks hr tk (de_v (pv 6))) (de_v (pv 2)) (nomark _)) (de_1 (de_cmpL (op_eqD hu) op_dEq (de_mh0 (by decide +kernel) (by decide +kernel) dM_things hr tk (de_v (pv 6))) (de_v (pv 3)) (nomark _))))))))))))))))))))
end
theorem all_mk {P : Program} {w : World} {K : PySem.W.Frag} {h : Heap} {mg : Str → Option Value} {fa : Addr} (hc : LawOk c_law) (X : K.In h) (G : h.Ns mainGlobals mg) (hfa : mg "law" = some (.ref fa)) {f__law_cell_at : Addr} {oc__law_cell_at kV__law_cell_at dc__law_cell_at pm__law_cell_at cd__law_cell_at ct__law_cell_at : Value} {od__law_cell_at an__law_cell_at : Option Addr} {sl__law_cell_at : Array (Option Value)} {f__law_word : Addr} {oc__law_word kV__law_word dc__law_word pm__law_word cd__law_word ct__law_word : Value} {od__law_word an__law_word : Option Addr} {sl__law_word : Array (Option Value)} {f__law_words : Addr} {oc__law_words kV__law_words dc__law_words pm__law_words cd__law_words ct__law_words : Value} {od__law_words an__law_words : Option Addr} {sl__law_words : Array (Option Value)} {f_House___init__ : Addr} {oc_House___init__ kV_House___init__ dc_House___init__ pm_House___init__ cd_House___init__ ct_House___init__ : Value} {od_House___init__ an_House___init__ : Option Addr} {sl_House___init__ : Array (Option Value)} {f__law_some : Addr} {oc__law_some kV__law_some dc__law_some pm__law_some cd__law_some ct__law_some : Value} {od__law_some an__law_some : Option Addr} {sl__law_some : Array (Option Value)} {f_Tongue___init__ : Addr} {oc_Tongue___init__ kV_Tongue___init__ dc_Tongue___init__ pm_Tongue___init__ cd_Tongue___init__ ct_Tongue___init__ : Value} {od_Tongue___init__ an_Tongue___init__ : Option Addr} {sl_Tongue___init__ : Array (Option Value)} {f__law_tongue : Addr} {oc__law_tongue kV__law_tongue dc__law_tongue pm__law_tongue cd__law_tongue ct__law_tongue : Value} {od__law_tongue an__law_tongue : Option Addr} {sl__law_tongue : Array (Option Value)} {f_House_add : Addr} {oc_House_add kV_House_add dc_House_add pm_House_add cd_House_add ct_House_add : Value} {od_House_add an_House_add : Option Addr} {sl_House_add : Array (Option Value)} {f__law_kinds_of : Addr} {oc__law_kinds_of kV__law_kinds_of dc__law_kinds_of pm__law_kinds_of cd__law_kinds_of ct__law_kinds_of : Value} {od__law_kinds_of an__law_kinds_of : Option Addr} {sl__law_kinds_of : Array (Option Value)} {f__law_added : Addr} {oc__law_added kV__law_added dc__law_added pm__law_added cd__law_added ct__law_added : Value} {od__law_added an__law_added : Option Addr} {sl__law_added : Array (Option Value)} {f__law_fields : Addr} {oc__law_fields kV__law_fields dc__law_fields pm__law_fields cd__law_fields ct__law_fields : Value} {od__law_fields an__law_fields : Option Addr} {sl__law_fields : Array (Option Value)} {f_House_own_word : Addr} {oc_House_own_word kV_House_own_word dc_House_own_word pm_House_own_word cd_House_own_word ct_House_own_word : Value} {od_House_own_word an_House_own_word : Option Addr} {sl_House_own_word : Array (Option Value)} {f__law_own : Addr} {oc__law_own kV__law_own dc__law_own pm__law_own cd__law_own ct__law_own : Value} {od__law_own an__law_own : Option Addr} {sl__law_own : Array (Option Value)} {f__law_text : Addr} {oc__law_text kV__law_text dc__law_text pm__law_text cd__law_text ct__law_text : Value} {od__law_text an__law_text : Option Addr} {sl__law_text : Array (Option Value)} {f__law_is_text : Addr} {oc__law_is_text kV__law_is_text dc__law_is_text pm__law_is_text cd__law_is_text ct__law_is_text : Value} {od__law_is_text an__law_is_text : Option Addr} {sl__law_is_text : Array (Option Value)} {f__law_due : Addr} {oc__law_due kV__law_due dc__law_due pm__law_due cd__law_due ct__law_due : Value} {od__law_due an__law_due : Option Addr} {sl__law_due : Array (Option Value)} {f_House_tongue_named : Addr} {oc_House_tongue_named kV_House_tongue_named dc_House_tongue_named pm_House_tongue_named cd_House_tongue_named ct_House_tongue_named : Value} {od_House_tongue_named an_House_tongue_named : Option Addr} {sl_House_tongue_named : Array (Option Value)} {f_is_thing_text : Addr} {oc_is_thing_text kV_is_thing_text dc_is_thing_text pm_is_thing_text cd_is_thing_text ct_is_thing_text : Value} {od_is_thing_text an_is_thing_text : Option Addr} {sl_is_thing_text : Array (Option Value)} {f_House_word : Addr} {oc_House_word kV_House_word dc_House_word pm_House_word cd_House_word ct_House_word : Value} {od_House_word an_House_word : Option Addr} {sl_House_word : Array (Option Value)} {f__law_told : Addr} {oc__law_told kV__law_told dc__law_told pm__law_told cd__law_told ct__law_told : Value} {od__law_told an__law_told : Option Addr} {sl__law_told : Array (Option Value)} {f__law_deed : Addr} {oc__law_deed kV__law_deed dc__law_deed pm__law_deed cd__law_deed ct__law_deed : Value} {od__law_deed an__law_deed : Option Addr} {sl__law_deed : Array (Option Value)} {f_House_kinds : Addr} {oc_House_kinds kV_House_kinds dc_House_kinds pm_House_kinds cd_House_kinds ct_House_kinds : Value} {od_House_kinds an_House_kinds : Option Addr} {sl_House_kinds : Array (Option Value)} {f__law_rows : Addr} {oc__law_rows kV__law_rows dc__law_rows pm__law_rows cd__law_rows ct__law_rows : Value} {od__law_rows an__law_rows : Option Addr} {sl__law_rows : Array (Option Value)} {f_House_ranks : Addr} {oc_House_ranks kV_House_ranks dc_House_ranks pm_House_ranks cd_House_ranks ct_House_ranks : Value} {od_House_ranks an_House_ranks : Option Addr} {sl_House_ranks : Array (Option Value)} {f_House_things : Addr} {oc_House_things kV_House_things dc_House_things pm_House_things cd_House_things ct_House_things : Value} {od_House_things an_House_things : Option Addr} {sl_House_things : Array (Option Value)} {f_House_tongues : Addr} {oc_House_tongues kV_House_tongues dc_House_tongues pm_House_tongues cd_House_tongues ct_House_tongues : Value} {od_House_tongues an_House_tongues : Option Addr} {sl_House_tongues : Array (Option Value)} {f__law_asked : Addr} {oc__law_asked kV__law_asked dc__law_asked pm__law_asked cd__law_asked ct__law_asked : Value} {od__law_asked an__law_asked : Option Addr} {sl__law_asked : Array (Option Value)} {f__law_end : Addr} {oc__law_end kV__law_end dc__law_end pm__law_end cd__law_end ct__law_end : Value} {od__law_end an__law_end : Option Addr} {sl__law_end : Array (Option Value)} {f_law : Addr} {oc_law kV_law dc_law pm_law cd_law ct_law : Value} {od_law an_law : Option Addr} {sl_law : Array (Option Value)} {C_House : Addr} {C_Tongue : Addr} {C_NoMessage : Addr} {C_NoThing : Addr} {C_NoTongue : Addr} {C_NoValue : Addr} {C_SayError : Addr} {t_LETTERS : Tok}
    (a__law_cell_at : PySem.W.nsIn K mainGlobals "_law_cell_at" = some (some (.ref f__law_cell_at)))
    (l__law_cell_at : K.lookup f__law_cell_at = some ⟨oc__law_cell_at, od__law_cell_at, .func (PySem.W.fnOf "_law_cell_at" "_law_cell_at" (defArgs s__law_cell_at) (defBody s__law_cell_at) (defScope s__law_cell_at) .none kV__law_cell_at dc__law_cell_at pm__law_cell_at an__law_cell_at cd__law_cell_at ct__law_cell_at), sl__law_cell_at⟩)
    (q__law_cell_at : PySem.W.codeIn K cd__law_cell_at "_law_cell_at" = true)
    (k__law_cell_at : PySem.W.keepIn K (.ref f__law_cell_at) = true)
    (a__law_word : PySem.W.nsIn K mainGlobals "_law_word" = some (some (.ref f__law_word)))
    (l__law_word : K.lookup f__law_word = some ⟨oc__law_word, od__law_word, .func (PySem.W.fnOf "_law_word" "_law_word" (defArgs s__law_word) (defBody s__law_word) (defScope s__law_word) .none kV__law_word dc__law_word pm__law_word an__law_word cd__law_word ct__law_word), sl__law_word⟩)
    (q__law_word : PySem.W.codeIn K cd__law_word "_law_word" = true)
    (k__law_word : PySem.W.keepIn K (.ref f__law_word) = true)
    (a__law_words : PySem.W.nsIn K mainGlobals "_law_words" = some (some (.ref f__law_words)))
    (l__law_words : K.lookup f__law_words = some ⟨oc__law_words, od__law_words, .func (PySem.W.fnOf "_law_words" "_law_words" (defArgs s__law_words) (defBody s__law_words) (defScope s__law_words) .none kV__law_words dc__law_words pm__law_words an__law_words cd__law_words ct__law_words), sl__law_words⟩)
    (q__law_words : PySem.W.codeIn K cd__law_words "_law_words" = true)
    (k__law_words : PySem.W.keepIn K (.ref f__law_words) = true)
    (a__law_some : PySem.W.nsIn K mainGlobals "_law_some" = some (some (.ref f__law_some)))
    (l__law_some : K.lookup f__law_some = some ⟨oc__law_some, od__law_some, .func (PySem.W.fnOf "_law_some" "_law_some" (defArgs s__law_some) (defBody s__law_some) (defScope s__law_some) .none kV__law_some dc__law_some pm__law_some an__law_some cd__law_some ct__law_some), sl__law_some⟩)
    (q__law_some : PySem.W.codeIn K cd__law_some "_law_some" = true)
    (k__law_some : PySem.W.keepIn K (.ref f__law_some) = true)
    (a__law_tongue : PySem.W.nsIn K mainGlobals "_law_tongue" = some (some (.ref f__law_tongue)))
    (l__law_tongue : K.lookup f__law_tongue = some ⟨oc__law_tongue, od__law_tongue, .func (PySem.W.fnOf "_law_tongue" "_law_tongue" (defArgs s__law_tongue) (defBody s__law_tongue) (defScope s__law_tongue) .none kV__law_tongue dc__law_tongue pm__law_tongue an__law_tongue cd__law_tongue ct__law_tongue), sl__law_tongue⟩)
    (q__law_tongue : PySem.W.codeIn K cd__law_tongue "_law_tongue" = true)
    (k__law_tongue : PySem.W.keepIn K (.ref f__law_tongue) = true)
    (a__law_kinds_of : PySem.W.nsIn K mainGlobals "_law_kinds_of" = some (some (.ref f__law_kinds_of)))
    (l__law_kinds_of : K.lookup f__law_kinds_of = some ⟨oc__law_kinds_of, od__law_kinds_of, .func (PySem.W.fnOf "_law_kinds_of" "_law_kinds_of" (defArgs s__law_kinds_of) (defBody s__law_kinds_of) (defScope s__law_kinds_of) .none kV__law_kinds_of dc__law_kinds_of pm__law_kinds_of an__law_kinds_of cd__law_kinds_of ct__law_kinds_of), sl__law_kinds_of⟩)
    (q__law_kinds_of : PySem.W.codeIn K cd__law_kinds_of "_law_kinds_of" = true)
    (k__law_kinds_of : PySem.W.keepIn K (.ref f__law_kinds_of) = true)
    (a__law_added : PySem.W.nsIn K mainGlobals "_law_added" = some (some (.ref f__law_added)))
    (l__law_added : K.lookup f__law_added = some ⟨oc__law_added, od__law_added, .func (PySem.W.fnOf "_law_added" "_law_added" (defArgs s__law_added) (defBody s__law_added) (defScope s__law_added) .none kV__law_added dc__law_added pm__law_added an__law_added cd__law_added ct__law_added), sl__law_added⟩)
    (q__law_added : PySem.W.codeIn K cd__law_added "_law_added" = true)
    (k__law_added : PySem.W.keepIn K (.ref f__law_added) = true)
    (a__law_fields : PySem.W.nsIn K mainGlobals "_law_fields" = some (some (.ref f__law_fields)))
    (l__law_fields : K.lookup f__law_fields = some ⟨oc__law_fields, od__law_fields, .func (PySem.W.fnOf "_law_fields" "_law_fields" (defArgs s__law_fields) (defBody s__law_fields) (defScope s__law_fields) .none kV__law_fields dc__law_fields pm__law_fields an__law_fields cd__law_fields ct__law_fields), sl__law_fields⟩)
    (q__law_fields : PySem.W.codeIn K cd__law_fields "_law_fields" = true)
    (k__law_fields : PySem.W.keepIn K (.ref f__law_fields) = true)
    (a__law_own : PySem.W.nsIn K mainGlobals "_law_own" = some (some (.ref f__law_own)))
    (l__law_own : K.lookup f__law_own = some ⟨oc__law_own, od__law_own, .func (PySem.W.fnOf "_law_own" "_law_own" (defArgs s__law_own) (defBody s__law_own) (defScope s__law_own) .none kV__law_own dc__law_own pm__law_own an__law_own cd__law_own ct__law_own), sl__law_own⟩)
    (q__law_own : PySem.W.codeIn K cd__law_own "_law_own" = true)
    (k__law_own : PySem.W.keepIn K (.ref f__law_own) = true)
    (a__law_text : PySem.W.nsIn K mainGlobals "_law_text" = some (some (.ref f__law_text)))
    (l__law_text : K.lookup f__law_text = some ⟨oc__law_text, od__law_text, .func (PySem.W.fnOf "_law_text" "_law_text" (defArgs s__law_text) (defBody s__law_text) (defScope s__law_text) .none kV__law_text dc__law_text pm__law_text an__law_text cd__law_text ct__law_text), sl__law_text⟩)
    (q__law_text : PySem.W.codeIn K cd__law_text "_law_text" = true)
    (k__law_text : PySem.W.keepIn K (.ref f__law_text) = true)
    (a__law_is_text : PySem.W.nsIn K mainGlobals "_law_is_text" = some (some (.ref f__law_is_text)))
    (l__law_is_text : K.lookup f__law_is_text = some ⟨oc__law_is_text, od__law_is_text, .func (PySem.W.fnOf "_law_is_text" "_law_is_text" (defArgs s__law_is_text) (defBody s__law_is_text) (defScope s__law_is_text) .none kV__law_is_text dc__law_is_text pm__law_is_text an__law_is_text cd__law_is_text ct__law_is_text), sl__law_is_text⟩)
    (q__law_is_text : PySem.W.codeIn K cd__law_is_text "_law_is_text" = true)
    (k__law_is_text : PySem.W.keepIn K (.ref f__law_is_text) = true)
    (a__law_due : PySem.W.nsIn K mainGlobals "_law_due" = some (some (.ref f__law_due)))
    (l__law_due : K.lookup f__law_due = some ⟨oc__law_due, od__law_due, .func (PySem.W.fnOf "_law_due" "_law_due" (defArgs s__law_due) (defBody s__law_due) (defScope s__law_due) .none kV__law_due dc__law_due pm__law_due an__law_due cd__law_due ct__law_due), sl__law_due⟩)
    (q__law_due : PySem.W.codeIn K cd__law_due "_law_due" = true)
    (k__law_due : PySem.W.keepIn K (.ref f__law_due) = true)
    (a_is_thing_text : PySem.W.nsIn K mainGlobals "is_thing_text" = some (some (.ref f_is_thing_text)))
    (l_is_thing_text : K.lookup f_is_thing_text = some ⟨oc_is_thing_text, od_is_thing_text, .func (PySem.W.fnOf "is_thing_text" "is_thing_text" (defArgs s_is_thing_text) (defBody s_is_thing_text) (defScope s_is_thing_text) .none kV_is_thing_text dc_is_thing_text pm_is_thing_text an_is_thing_text cd_is_thing_text ct_is_thing_text), sl_is_thing_text⟩)
    (q_is_thing_text : PySem.W.codeIn K cd_is_thing_text "is_thing_text" = true)
    (k_is_thing_text : PySem.W.keepIn K (.ref f_is_thing_text) = true)
    (a__law_told : PySem.W.nsIn K mainGlobals "_law_told" = some (some (.ref f__law_told)))
    (l__law_told : K.lookup f__law_told = some ⟨oc__law_told, od__law_told, .func (PySem.W.fnOf "_law_told" "_law_told" (defArgs s__law_told) (defBody s__law_told) (defScope s__law_told) .none kV__law_told dc__law_told pm__law_told an__law_told cd__law_told ct__law_told), sl__law_told⟩)
    (q__law_told : PySem.W.codeIn K cd__law_told "_law_told" = true)
    (k__law_told : PySem.W.keepIn K (.ref f__law_told) = true)
    (a__law_deed : PySem.W.nsIn K mainGlobals "_law_deed" = some (some (.ref f__law_deed)))
    (l__law_deed : K.lookup f__law_deed = some ⟨oc__law_deed, od__law_deed, .func (PySem.W.fnOf "_law_deed" "_law_deed" (defArgs s__law_deed) (defBody s__law_deed) (defScope s__law_deed) .none kV__law_deed dc__law_deed pm__law_deed an__law_deed cd__law_deed ct__law_deed), sl__law_deed⟩)
    (q__law_deed : PySem.W.codeIn K cd__law_deed "_law_deed" = true)
    (k__law_deed : PySem.W.keepIn K (.ref f__law_deed) = true)
    (a__law_rows : PySem.W.nsIn K mainGlobals "_law_rows" = some (some (.ref f__law_rows)))
    (l__law_rows : K.lookup f__law_rows = some ⟨oc__law_rows, od__law_rows, .func (PySem.W.fnOf "_law_rows" "_law_rows" (defArgs s__law_rows) (defBody s__law_rows) (defScope s__law_rows) .none kV__law_rows dc__law_rows pm__law_rows an__law_rows cd__law_rows ct__law_rows), sl__law_rows⟩)
    (q__law_rows : PySem.W.codeIn K cd__law_rows "_law_rows" = true)
    (k__law_rows : PySem.W.keepIn K (.ref f__law_rows) = true)
    (a__law_asked : PySem.W.nsIn K mainGlobals "_law_asked" = some (some (.ref f__law_asked)))
    (l__law_asked : K.lookup f__law_asked = some ⟨oc__law_asked, od__law_asked, .func (PySem.W.fnOf "_law_asked" "_law_asked" (defArgs s__law_asked) (defBody s__law_asked) (defScope s__law_asked) .none kV__law_asked dc__law_asked pm__law_asked an__law_asked cd__law_asked ct__law_asked), sl__law_asked⟩)
    (q__law_asked : PySem.W.codeIn K cd__law_asked "_law_asked" = true)
    (k__law_asked : PySem.W.keepIn K (.ref f__law_asked) = true)
    (a__law_end : PySem.W.nsIn K mainGlobals "_law_end" = some (some (.ref f__law_end)))
    (l__law_end : K.lookup f__law_end = some ⟨oc__law_end, od__law_end, .func (PySem.W.fnOf "_law_end" "_law_end" (defArgs s__law_end) (defBody s__law_end) (defScope s__law_end) .none kV__law_end dc__law_end pm__law_end an__law_end cd__law_end ct__law_end), sl__law_end⟩)
    (q__law_end : PySem.W.codeIn K cd__law_end "_law_end" = true)
    (k__law_end : PySem.W.keepIn K (.ref f__law_end) = true)
    (a_law : PySem.W.nsIn K mainGlobals "law" = some (some (.ref f_law)))
    (l_law : K.lookup f_law = some ⟨oc_law, od_law, .func (PySem.W.fnOf "law" "law" (defArgs s_law) (defBody s_law) (defScope s_law) .none kV_law dc_law pm_law an_law cd_law ct_law), sl_law⟩)
    (q_law : PySem.W.codeIn K cd_law "law" = true)
    (k_law : PySem.W.keepIn K (.ref f_law) = true)
    (aC_House : PySem.W.nsIn K mainGlobals "House" = some (some (.ref C_House)))
    (pg_House : PySem.W.plainGet K C_House Str.empty = true)
    (hd_House : PySem.W.hasDictIn K C_House = true)
    (po_House : PySem.W.plainOver K C_House = true)
    (sa_House : PySem.W.findIn K (.ref C_House) "__setattr__" = some (some (.builtin "object.__setattr__")))
    (nf_House_by_name : PySem.W.findIn K (.ref C_House) "by_name" = some none)
    (nf_House_declared : PySem.W.findIn K (.ref C_House) "declared" = some none)
    (nf_House_kind_row : PySem.W.findIn K (.ref C_House) "kind_row" = some none)
    (nf_House_pieces_here : PySem.W.findIn K (.ref C_House) "pieces_here" = some none)
    (nf_House_rank_row : PySem.W.findIn K (.ref C_House) "rank_row" = some none)
    (nf_House_thing_row : PySem.W.findIn K (.ref C_House) "thing_row" = some none)
    (nf_House_thing_texts : PySem.W.findIn K (.ref C_House) "thing_texts" = some none)
    (mt_House_add : PySem.W.findIn K (.ref C_House) "add" = some (some (.ref f_House_add)))
    (mt_House_own_word : PySem.W.findIn K (.ref C_House) "own_word" = some (some (.ref f_House_own_word)))
    (mt_House_tongue_named : PySem.W.findIn K (.ref C_House) "tongue_named" = some (some (.ref f_House_tongue_named)))
    (mt_House_word : PySem.W.findIn K (.ref C_House) "word" = some (some (.ref f_House_word)))
    (mt_House_kinds : PySem.W.findIn K (.ref C_House) "kinds" = some (some (.ref f_House_kinds)))
    (mt_House_ranks : PySem.W.findIn K (.ref C_House) "ranks" = some (some (.ref f_House_ranks)))
    (mt_House_things : PySem.W.findIn K (.ref C_House) "things" = some (some (.ref f_House_things)))
    (mt_House_tongues : PySem.W.findIn K (.ref C_House) "tongues" = some (some (.ref f_House_tongues)))
    (mk_House : PySem.W.makesIn K C_House = true)
    (in_House : PySem.W.findIn K (.ref C_House) "__init__" = some (some (.ref f_House___init__)))
    (kc_House : PySem.W.keepIn K (.ref C_House) = true)
    (aC_Tongue : PySem.W.nsIn K mainGlobals "Tongue" = some (some (.ref C_Tongue)))
    (pg_Tongue : PySem.W.plainGet K C_Tongue Str.empty = true)
    (hd_Tongue : PySem.W.hasDictIn K C_Tongue = true)
    (po_Tongue : PySem.W.plainOver K C_Tongue = true)
    (sa_Tongue : PySem.W.findIn K (.ref C_Tongue) "__setattr__" = some (some (.builtin "object.__setattr__")))
    (nf_Tongue_calendar : PySem.W.findIn K (.ref C_Tongue) "calendar" = some none)
    (nf_Tongue_dayform : PySem.W.findIn K (.ref C_Tongue) "dayform" = some none)
    (nf_Tongue_falls : PySem.W.findIn K (.ref C_Tongue) "falls" = some none)
    (nf_Tongue_figures : PySem.W.findIn K (.ref C_Tongue) "figures" = some none)
    (nf_Tongue_joiners : PySem.W.findIn K (.ref C_Tongue) "joiners" = some none)
    (nf_Tongue_name : PySem.W.findIn K (.ref C_Tongue) "name" = some none)
    (nf_Tongue_rules : PySem.W.findIn K (.ref C_Tongue) "rules" = some none)
    (mk_Tongue : PySem.W.makesIn K C_Tongue = true)
    (in_Tongue : PySem.W.findIn K (.ref C_Tongue) "__init__" = some (some (.ref f_Tongue___init__)))
    (kc_Tongue : PySem.W.keepIn K (.ref C_Tongue) = true)
    (i_House___init__ : PySem.W.isFn K (.ref f_House___init__) = true)
    (l_House___init__ : K.lookup f_House___init__ = some ⟨oc_House___init__, od_House___init__, .func (PySem.W.fnOf "__init__" "House.__init__" (defArgs s_House___init__) (defBody s_House___init__) (defScope s_House___init__) .none kV_House___init__ dc_House___init__ pm_House___init__ an_House___init__ cd_House___init__ ct_House___init__), sl_House___init__⟩)
    (q_House___init__ : PySem.W.codeIn K cd_House___init__ "House.__init__" = true)
    (k_House___init__ : PySem.W.keepIn K (.ref f_House___init__) = true)
    (i_Tongue___init__ : PySem.W.isFn K (.ref f_Tongue___init__) = true)
    (l_Tongue___init__ : K.lookup f_Tongue___init__ = some ⟨oc_Tongue___init__, od_Tongue___init__, .func (PySem.W.fnOf "__init__" "Tongue.__init__" (defArgs s_Tongue___init__) (defBody s_Tongue___init__) (defScope s_Tongue___init__) .none kV_Tongue___init__ dc_Tongue___init__ pm_Tongue___init__ an_Tongue___init__ cd_Tongue___init__ ct_Tongue___init__), sl_Tongue___init__⟩)
    (q_Tongue___init__ : PySem.W.codeIn K cd_Tongue___init__ "Tongue.__init__" = true)
    (k_Tongue___init__ : PySem.W.keepIn K (.ref f_Tongue___init__) = true)
    (i_House_add : PySem.W.isFn K (.ref f_House_add) = true)
    (l_House_add : K.lookup f_House_add = some ⟨oc_House_add, od_House_add, .func (PySem.W.fnOf "add" "House.add" (defArgs s_House_add) (defBody s_House_add) (defScope s_House_add) .none kV_House_add dc_House_add pm_House_add an_House_add cd_House_add ct_House_add), sl_House_add⟩)
    (q_House_add : PySem.W.codeIn K cd_House_add "House.add" = true)
    (k_House_add : PySem.W.keepIn K (.ref f_House_add) = true)
    (i_House_own_word : PySem.W.isFn K (.ref f_House_own_word) = true)
    (l_House_own_word : K.lookup f_House_own_word = some ⟨oc_House_own_word, od_House_own_word, .func (PySem.W.fnOf "own_word" "House.own_word" (defArgs s_House_own_word) (defBody s_House_own_word) (defScope s_House_own_word) .none kV_House_own_word dc_House_own_word pm_House_own_word an_House_own_word cd_House_own_word ct_House_own_word), sl_House_own_word⟩)
    (q_House_own_word : PySem.W.codeIn K cd_House_own_word "House.own_word" = true)
    (k_House_own_word : PySem.W.keepIn K (.ref f_House_own_word) = true)
    (i_House_tongue_named : PySem.W.isFn K (.ref f_House_tongue_named) = true)
    (l_House_tongue_named : K.lookup f_House_tongue_named = some ⟨oc_House_tongue_named, od_House_tongue_named, .func (PySem.W.fnOf "tongue_named" "House.tongue_named" (defArgs s_House_tongue_named) (defBody s_House_tongue_named) (defScope s_House_tongue_named) .none kV_House_tongue_named dc_House_tongue_named pm_House_tongue_named an_House_tongue_named cd_House_tongue_named ct_House_tongue_named), sl_House_tongue_named⟩)
    (q_House_tongue_named : PySem.W.codeIn K cd_House_tongue_named "House.tongue_named" = true)
    (k_House_tongue_named : PySem.W.keepIn K (.ref f_House_tongue_named) = true)
    (i_House_word : PySem.W.isFn K (.ref f_House_word) = true)
    (l_House_word : K.lookup f_House_word = some ⟨oc_House_word, od_House_word, .func (PySem.W.fnOf "word" "House.word" (defArgs s_House_word) (defBody s_House_word) (defScope s_House_word) .none kV_House_word dc_House_word pm_House_word an_House_word cd_House_word ct_House_word), sl_House_word⟩)
    (q_House_word : PySem.W.codeIn K cd_House_word "House.word" = true)
    (k_House_word : PySem.W.keepIn K (.ref f_House_word) = true)
    (i_House_kinds : PySem.W.isFn K (.ref f_House_kinds) = true)
    (l_House_kinds : K.lookup f_House_kinds = some ⟨oc_House_kinds, od_House_kinds, .func (PySem.W.fnOf "kinds" "House.kinds" (defArgs s_House_kinds) (defBody s_House_kinds) (defScope s_House_kinds) .none kV_House_kinds dc_House_kinds pm_House_kinds an_House_kinds cd_House_kinds ct_House_kinds), sl_House_kinds⟩)
    (q_House_kinds : PySem.W.codeIn K cd_House_kinds "House.kinds" = true)
    (k_House_kinds : PySem.W.keepIn K (.ref f_House_kinds) = true)
    (i_House_ranks : PySem.W.isFn K (.ref f_House_ranks) = true)
    (l_House_ranks : K.lookup f_House_ranks = some ⟨oc_House_ranks, od_House_ranks, .func (PySem.W.fnOf "ranks" "House.ranks" (defArgs s_House_ranks) (defBody s_House_ranks) (defScope s_House_ranks) .none kV_House_ranks dc_House_ranks pm_House_ranks an_House_ranks cd_House_ranks ct_House_ranks), sl_House_ranks⟩)
    (q_House_ranks : PySem.W.codeIn K cd_House_ranks "House.ranks" = true)
    (k_House_ranks : PySem.W.keepIn K (.ref f_House_ranks) = true)
    (i_House_things : PySem.W.isFn K (.ref f_House_things) = true)
    (l_House_things : K.lookup f_House_things = some ⟨oc_House_things, od_House_things, .func (PySem.W.fnOf "things" "House.things" (defArgs s_House_things) (defBody s_House_things) (defScope s_House_things) .none kV_House_things dc_House_things pm_House_things an_House_things cd_House_things ct_House_things), sl_House_things⟩)
    (q_House_things : PySem.W.codeIn K cd_House_things "House.things" = true)
    (k_House_things : PySem.W.keepIn K (.ref f_House_things) = true)
    (i_House_tongues : PySem.W.isFn K (.ref f_House_tongues) = true)
    (l_House_tongues : K.lookup f_House_tongues = some ⟨oc_House_tongues, od_House_tongues, .func (PySem.W.fnOf "tongues" "House.tongues" (defArgs s_House_tongues) (defBody s_House_tongues) (defScope s_House_tongues) .none kV_House_tongues dc_House_tongues pm_House_tongues an_House_tongues cd_House_tongues ct_House_tongues), sl_House_tongues⟩)
    (q_House_tongues : PySem.W.codeIn K cd_House_tongues "House.tongues" = true)
    (k_House_tongues : PySem.W.keepIn K (.ref f_House_tongues) = true)
    (aC_NoMessage : PySem.W.nsIn K mainGlobals "NoMessage" = some (some (.ref C_NoMessage)))
    (xbe_NoMessage : PySem.W.subIn K (.ref C_NoMessage) (.type "BaseException") = some true)
    (xhd_NoMessage : PySem.W.hasDictIn K C_NoMessage = true)
    (xty_NoMessage : PySem.W.typeIn K (.ref C_NoMessage) = some (.type "type"))
    (aC_NoThing : PySem.W.nsIn K mainGlobals "NoThing" = some (some (.ref C_NoThing)))
    (xbe_NoThing : PySem.W.subIn K (.ref C_NoThing) (.type "BaseException") = some true)
    (xhd_NoThing : PySem.W.hasDictIn K C_NoThing = true)
    (xty_NoThing : PySem.W.typeIn K (.ref C_NoThing) = some (.type "type"))
    (aC_NoTongue : PySem.W.nsIn K mainGlobals "NoTongue" = some (some (.ref C_NoTongue)))
    (xbe_NoTongue : PySem.W.subIn K (.ref C_NoTongue) (.type "BaseException") = some true)
    (xhd_NoTongue : PySem.W.hasDictIn K C_NoTongue = true)
    (xty_NoTongue : PySem.W.typeIn K (.ref C_NoTongue) = some (.type "type"))
    (aC_NoValue : PySem.W.nsIn K mainGlobals "NoValue" = some (some (.ref C_NoValue)))
    (xbe_NoValue : PySem.W.subIn K (.ref C_NoValue) (.type "BaseException") = some true)
    (xhd_NoValue : PySem.W.hasDictIn K C_NoValue = true)
    (xty_NoValue : PySem.W.typeIn K (.ref C_NoValue) = some (.type "type"))
    (aC_SayError : PySem.W.nsIn K mainGlobals "SayError" = some (some (.ref C_SayError)))
    (xbe_SayError : PySem.W.subIn K (.ref C_SayError) (.type "BaseException") = some true)
    (xhd_SayError : PySem.W.hasDictIn K C_SayError = true)
    (xty_SayError : PySem.W.typeIn K (.ref C_SayError) = some (.type "type"))
    (xex_NoThing : PySem.W.excIn K C_NoThing [.type "ValueError", .type "Exception", .type "BaseException", .type "object"] "ValueError.__new__" = true)
    (xkp_NoThing : PySem.W.keepIn K (.ref C_NoThing) = true)
    (xve_NoThing : PySem.W.subIn K (.ref C_NoThing) (.type "ValueError") = some true)
    (xme_NoThing : PySem.W.subIn K (.ref C_NoThing) (.ref C_NoThing) = some true)
    (xg2_NoThing : PySem.W.findIn K (.ref C_NoThing) "__getattribute__" = some (some (.builtin "BaseException.__getattribute__")))
    (xk2_NoThing : PySem.W.findIn K (.ref C_NoThing) "__getattr__" = some none)
    (xa2_NoThing : PySem.W.findIn K (.ref C_NoThing) "__class__" = some (some (.builtin "object.__class__")))
    (xm2_NoThing : PySem.W.mroIn K C_NoThing (.type "object") = some true)
    (xex_NoTongue : PySem.W.excIn K C_NoTongue [.type "ValueError", .type "Exception", .type "BaseException", .type "object"] "ValueError.__new__" = true)
    (xkp_NoTongue : PySem.W.keepIn K (.ref C_NoTongue) = true)
    (xve_NoTongue : PySem.W.subIn K (.ref C_NoTongue) (.type "ValueError") = some true)
    (xme_NoTongue : PySem.W.subIn K (.ref C_NoTongue) (.ref C_NoTongue) = some true)
    (xg2_NoTongue : PySem.W.findIn K (.ref C_NoTongue) "__getattribute__" = some (some (.builtin "BaseException.__getattribute__")))
    (xk2_NoTongue : PySem.W.findIn K (.ref C_NoTongue) "__getattr__" = some none)
    (xa2_NoTongue : PySem.W.findIn K (.ref C_NoTongue) "__class__" = some (some (.builtin "object.__class__")))
    (xm2_NoTongue : PySem.W.mroIn K C_NoTongue (.type "object") = some true)
    (xex_NoValue : PySem.W.excIn K C_NoValue [.type "ValueError", .type "Exception", .type "BaseException", .type "object"] "ValueError.__new__" = true)
    (xkp_NoValue : PySem.W.keepIn K (.ref C_NoValue) = true)
    (xve_NoValue : PySem.W.subIn K (.ref C_NoValue) (.type "ValueError") = some true)
    (xme_NoValue : PySem.W.subIn K (.ref C_NoValue) (.ref C_NoValue) = some true)
    (xg2_NoValue : PySem.W.findIn K (.ref C_NoValue) "__getattribute__" = some (some (.builtin "BaseException.__getattribute__")))
    (xk2_NoValue : PySem.W.findIn K (.ref C_NoValue) "__getattr__" = some none)
    (xa2_NoValue : PySem.W.findIn K (.ref C_NoValue) "__class__" = some (some (.builtin "object.__class__")))
    (xm2_NoValue : PySem.W.mroIn K C_NoValue (.type "object") = some true)
    (xsp : PySem.W.specialIn K (.builtin "object.__class__") "__get__" = some (some (.builtin "getset_descriptor.__get__")))
    (xta : PySem.W.takesIn K (.builtin "object.__class__") = some true)
    (xs_NoThing_NoMessage : PySem.W.subIn K (.ref C_NoThing) (.ref C_NoMessage) = some false)
    (xs_NoThing_NoTongue : PySem.W.subIn K (.ref C_NoThing) (.ref C_NoTongue) = some false)
    (xs_NoThing_NoValue : PySem.W.subIn K (.ref C_NoThing) (.ref C_NoValue) = some false)
    (xs_NoThing_SayError : PySem.W.subIn K (.ref C_NoThing) (.ref C_SayError) = some true)
    (xs_NoTongue_NoMessage : PySem.W.subIn K (.ref C_NoTongue) (.ref C_NoMessage) = some false)
    (xs_NoTongue_NoThing : PySem.W.subIn K (.ref C_NoTongue) (.ref C_NoThing) = some false)
    (xs_NoTongue_NoValue : PySem.W.subIn K (.ref C_NoTongue) (.ref C_NoValue) = some false)
    (xs_NoTongue_SayError : PySem.W.subIn K (.ref C_NoTongue) (.ref C_SayError) = some true)
    (xs_NoValue_NoMessage : PySem.W.subIn K (.ref C_NoValue) (.ref C_NoMessage) = some false)
    (xs_NoValue_NoThing : PySem.W.subIn K (.ref C_NoValue) (.ref C_NoThing) = some false)
    (xs_NoValue_NoTongue : PySem.W.subIn K (.ref C_NoValue) (.ref C_NoTongue) = some false)
    (xs_NoValue_SayError : PySem.W.subIn K (.ref C_NoValue) (.ref C_SayError) = some true)
    (z_ValueError : PySem.W.nsIn K mainGlobals "ValueError" = some none)
    (z_len : PySem.W.nsIn K mainGlobals "len" = some none)
    (z_isinstance : PySem.W.nsIn K mainGlobals "isinstance" = some none)
    (z_str : PySem.W.nsIn K mainGlobals "str" = some none)
    (z_int : PySem.W.nsIn K mainGlobals "int" = some none)
    (z_bool : PySem.W.nsIn K mainGlobals "bool" = some none)
    (z_list : PySem.W.nsIn K mainGlobals "list" = some none)
    (z_tuple : PySem.W.nsIn K mainGlobals "tuple" = some none)
    (z_dict : PySem.W.nsIn K mainGlobals "dict" = some none)
    (z_set : PySem.W.nsIn K mainGlobals "set" = some none)
    (z_range : PySem.W.nsIn K mainGlobals "range" = some none)
    (z_enumerate : PySem.W.nsIn K mainGlobals "enumerate" = some none)
    (z_zip : PySem.W.nsIn K mainGlobals "zip" = some none)
    (z_reversed : PySem.W.nsIn K mainGlobals "reversed" = some none)
    (z_sorted : PySem.W.nsIn K mainGlobals "sorted" = some none)
    (z_sum : PySem.W.nsIn K mainGlobals "sum" = some none)
    (z_all : PySem.W.nsIn K mainGlobals "all" = some none)
    (z_any : PySem.W.nsIn K mainGlobals "any" = some none)
    (z_abs : PySem.W.nsIn K mainGlobals "abs" = some none)
    (z_max : PySem.W.nsIn K mainGlobals "max" = some none)
    (z_min : PySem.W.nsIn K mainGlobals "min" = some none)
    (z_ord : PySem.W.nsIn K mainGlobals "ord" = some none)
    (z_divmod : PySem.W.nsIn K mainGlobals "divmod" = some none)
    (z_repr : PySem.W.nsIn K mainGlobals "repr" = some none)
    (g_LETTERS : PySem.W.nsIn K mainGlobals "LETTERS" = some (some (.str (tx k_LETTERS) t_LETTERS))) :
    ∃ fd : FuncData, (∀ (s : Shared) (v : Value), BindsTo s fd ⟨[v], []⟩ [("_law_script", v)]) ∧ ∀ base : Heap, K.In base → base.Ns mainGlobals mg → FnG P w K mg base 8 fa fd ["_law_script"] (spLaw K) := by
  have e := hfa.symm.trans (PySem.W.mg_of X G a_law)
  cases e
  have hB : Bl mg := ⟨PySem.W.mg_none_of X G z_len, PySem.W.mg_none_of X G z_isinstance, PySem.W.mg_none_of X G z_str, PySem.W.mg_none_of X G z_int, PySem.W.mg_none_of X G z_bool, PySem.W.mg_none_of X G z_list, PySem.W.mg_none_of X G z_tuple, PySem.W.mg_none_of X G z_dict, PySem.W.mg_none_of X G z_set, PySem.W.mg_none_of X G z_range, PySem.W.mg_none_of X G z_enumerate, PySem.W.mg_none_of X G z_zip, PySem.W.mg_none_of X G z_reversed, PySem.W.mg_none_of X G z_sorted, PySem.W.mg_none_of X G z_sum, PySem.W.mg_none_of X G z_all, PySem.W.mg_none_of X G z_any, PySem.W.mg_none_of X G z_abs, PySem.W.mg_none_of X G z_max, PySem.W.mg_none_of X G z_min, PySem.W.mg_none_of X G z_ord, PySem.W.mg_none_of X G z_divmod, PySem.W.mg_none_of X G z_repr⟩
  have hc_LETTERS := PySem.W.mg_of X G g_LETTERS
  have F__law_cell_at := fun_mk (st := s__law_cell_at) l__law_cell_at q__law_cell_at k__law_cell_at
  have F__law_word := fun_mk (st := s__law_word) l__law_word q__law_word k__law_word
  have F__law_words := fun_mk (st := s__law_words) l__law_words q__law_words k__law_words
  have F_House___init__ := fun_mk (st := s_House___init__) l_House___init__ q_House___init__ k_House___init__
  have F__law_some := fun_mk (st := s__law_some) l__law_some q__law_some k__law_some
  have F_Tongue___init__ := fun_mk (st := s_Tongue___init__) l_Tongue___init__ q_Tongue___init__ k_Tongue___init__
  have F__law_tongue := fun_mk (st := s__law_tongue) l__law_tongue q__law_tongue k__law_tongue
  have F_House_add := fun_mk (st := s_House_add) l_House_add q_House_add k_House_add
  have F__law_kinds_of := fun_mk (st := s__law_kinds_of) l__law_kinds_of q__law_kinds_of k__law_kinds_of
  have F__law_added := fun_mk (st := s__law_added) l__law_added q__law_added k__law_added
  have F__law_fields := fun_mk (st := s__law_fields) l__law_fields q__law_fields k__law_fields
  have F_House_own_word := fun_mk (st := s_House_own_word) l_House_own_word q_House_own_word k_House_own_word
  have F__law_own := fun_mk (st := s__law_own) l__law_own q__law_own k__law_own
  have F__law_text := fun_mk (st := s__law_text) l__law_text q__law_text k__law_text
  have F__law_is_text := fun_mk (st := s__law_is_text) l__law_is_text q__law_is_text k__law_is_text
  have F__law_due := fun_mk (st := s__law_due) l__law_due q__law_due k__law_due
  have F_House_tongue_named := fun_mk (st := s_House_tongue_named) l_House_tongue_named q_House_tongue_named k_House_tongue_named
  have F_is_thing_text := fun_mk (st := s_is_thing_text) l_is_thing_text q_is_thing_text k_is_thing_text
  have F_House_word := fun_mk (st := s_House_word) l_House_word q_House_word k_House_word
  have F__law_told := fun_mk (st := s__law_told) l__law_told q__law_told k__law_told
  have F__law_deed := fun_mk (st := s__law_deed) l__law_deed q__law_deed k__law_deed
  have F_House_kinds := fun_mk (st := s_House_kinds) l_House_kinds q_House_kinds k_House_kinds
  have F__law_rows := fun_mk (st := s__law_rows) l__law_rows q__law_rows k__law_rows
  have F_House_ranks := fun_mk (st := s_House_ranks) l_House_ranks q_House_ranks k_House_ranks
  have F_House_things := fun_mk (st := s_House_things) l_House_things q_House_things k_House_things
  have F_House_tongues := fun_mk (st := s_House_tongues) l_House_tongues q_House_tongues k_House_tongues
  have F__law_asked := fun_mk (st := s__law_asked) l__law_asked q__law_asked k__law_asked
  have F__law_end := fun_mk (st := s__law_end) l__law_end q__law_end k__law_end
  have F_law := fun_mk (st := s_law) l_law q_law k_law
  have hC_House : mg (nmS 311107613541) = some (.ref C_House) := by rw [show nmS 311107613541 = "House" from by decide +kernel]; exact PySem.W.mg_of X G aC_House
  have cl_House : Cls K C_House := ⟨pg_House, hd_House, po_House, sa_House⟩
  have hC_Tongue : mg (nmS 92837570377061) = some (.ref C_Tongue) := by rw [show nmS 92837570377061 = "Tongue" from by decide +kernel]; exact PySem.W.mg_of X G aC_Tongue
  have cl_Tongue : Cls K C_Tongue := ⟨pg_Tongue, hd_Tongue, po_Tongue, sa_Tongue⟩
  have xC_NoMessage : mg (nmS 1446866215807293155173) = some (.ref C_NoMessage) := by rw [show nmS 1446866215807293155173 = "NoMessage" from by decide +kernel]; exact PySem.W.mg_of X G aC_NoMessage
  have hcl_NoMessage : HCl K C_NoMessage := ⟨xbe_NoMessage, xhd_NoMessage, xty_NoMessage⟩
  have xC_NoThing : mg (nmS 22077456503107175) = some (.ref C_NoThing) := by rw [show nmS 22077456503107175 = "NoThing" from by decide +kernel]; exact PySem.W.mg_of X G aC_NoThing
  have hcl_NoThing : HCl K C_NoThing := ⟨xbe_NoThing, xhd_NoThing, xty_NoThing⟩
  have xC_NoTongue : mg (nmS 5651828894943638885) = some (.ref C_NoTongue) := by rw [show nmS 5651828894943638885 = "NoTongue" from by decide +kernel]; exact PySem.W.mg_of X G aC_NoTongue
  have hcl_NoTongue : HCl K C_NoTongue := ⟨xbe_NoTongue, xhd_NoTongue, xty_NoTongue⟩
  have xC_NoValue : mg (nmS 22077464975799653) = some (.ref C_NoValue) := by rw [show nmS 22077464975799653 = "NoValue" from by decide +kernel]; exact PySem.W.mg_of X G aC_NoValue
  have hcl_NoValue : HCl K C_NoValue := ⟨xbe_NoValue, xhd_NoValue, xty_NoValue⟩
  have xC_SayError : mg (nmS 6008216717068758898) = some (.ref C_SayError) := by rw [show nmS 6008216717068758898 = "SayError" from by decide +kernel]; exact PySem.W.mg_of X G aC_SayError
  have hcl_SayError : HCl K C_SayError := ⟨xbe_SayError, xhd_SayError, xty_SayError⟩
  have xcl_NoThing : XCl K C_NoThing := ⟨xex_NoThing, xkp_NoThing, xty_NoThing, ⟨xg2_NoThing, xk2_NoThing, xbe_NoThing, xhd_NoThing, xa2_NoThing, xsp, xta, xm2_NoThing⟩, xve_NoThing, xme_NoThing⟩
  have xcl_NoTongue : XCl K C_NoTongue := ⟨xex_NoTongue, xkp_NoTongue, xty_NoTongue, ⟨xg2_NoTongue, xk2_NoTongue, xbe_NoTongue, xhd_NoTongue, xa2_NoTongue, xsp, xta, xm2_NoTongue⟩, xve_NoTongue, xme_NoTongue⟩
  have xcl_NoValue : XCl K C_NoValue := ⟨xex_NoValue, xkp_NoValue, xty_NoValue, ⟨xg2_NoValue, xk2_NoValue, xbe_NoValue, xhd_NoValue, xa2_NoValue, xsp, xta, xm2_NoValue⟩, xve_NoValue, xme_NoValue⟩
  have hT : XT K mg xT := (.cons xC_NoThing xC_NoThing xme_NoThing xcl_NoThing hcl_NoThing (.cons xC_NoTongue xC_NoTongue xme_NoTongue xcl_NoTongue hcl_NoTongue (.cons xC_NoValue xC_NoValue xme_NoValue xcl_NoValue hcl_NoValue (.cons xC_NoThing xC_NoMessage xs_NoThing_NoMessage xcl_NoThing hcl_NoMessage (.cons xC_NoThing xC_NoTongue xs_NoThing_NoTongue xcl_NoThing hcl_NoTongue (.cons xC_NoThing xC_NoValue xs_NoThing_NoValue xcl_NoThing hcl_NoValue (.cons xC_NoThing xC_SayError xs_NoThing_SayError xcl_NoThing hcl_SayError (.cons xC_NoTongue xC_NoMessage xs_NoTongue_NoMessage xcl_NoTongue hcl_NoMessage (.cons xC_NoTongue xC_NoThing xs_NoTongue_NoThing xcl_NoTongue hcl_NoThing (.cons xC_NoTongue xC_NoValue xs_NoTongue_NoValue xcl_NoTongue hcl_NoValue (.cons xC_NoTongue xC_SayError xs_NoTongue_SayError xcl_NoTongue hcl_SayError (.cons xC_NoValue xC_NoMessage xs_NoValue_NoMessage xcl_NoValue hcl_NoMessage (.cons xC_NoValue xC_NoThing xs_NoValue_NoThing xcl_NoValue hcl_NoThing (.cons xC_NoValue xC_NoTongue xs_NoValue_NoTongue xcl_NoValue hcl_NoTongue (.cons xC_NoValue xC_SayError xs_NoValue_SayError xcl_NoValue hcl_SayError (.nil (PySem.W.mg_none_of X G z_ValueError)))))))))))))))))
  refine ⟨PySem.W.fnOf "law" "law" (defArgs s_law) (defBody s_law) (defScope s_law) .none kV_law dc_law pm_law an_law cd_law ct_law, fun s v => .of_eq rfl, fun base _ _ => ?_⟩
  have hF_kind_row : ClsF K mg [311107613541] "kind_row" := (.cons hC_House cl_House nf_House_kind_row .nil)
  have hF_rank_row : ClsF K mg [311107613541] "rank_row" := (.cons hC_House cl_House nf_House_rank_row .nil)
  have hF_thing_row : ClsF K mg [311107613541] "thing_row" := (.cons hC_House cl_House nf_House_thing_row .nil)
  have hF_by_name : ClsF K mg [311107613541] "by_name" := (.cons hC_House cl_House nf_House_by_name .nil)
  have hF_thing_texts : ClsF K mg [311107613541] "thing_texts" := (.cons hC_House cl_House nf_House_thing_texts .nil)
  have hF_declared : ClsF K mg [311107613541] "declared" := (.cons hC_House cl_House nf_House_declared .nil)
  have hF_pieces_here : ClsF K mg [311107613541] "pieces_here" := (.cons hC_House cl_House nf_House_pieces_here .nil)
  have hF_name : ClsF K mg [92837570377061] "name" := (.cons hC_Tongue cl_Tongue nf_Tongue_name .nil)
  have hF_falls : ClsF K mg [92837570377061] "falls" := (.cons hC_Tongue cl_Tongue nf_Tongue_falls .nil)
  have hF_rules : ClsF K mg [92837570377061] "rules" := (.cons hC_Tongue cl_Tongue nf_Tongue_rules .nil)
  have hF_joiners : ClsF K mg [92837570377061] "joiners" := (.cons hC_Tongue cl_Tongue nf_Tongue_joiners .nil)
  have hF_figures : ClsF K mg [92837570377061] "figures" := (.cons hC_Tongue cl_Tongue nf_Tongue_figures .nil)
  have hF_calendar : ClsF K mg [92837570377061] "calendar" := (.cons hC_Tongue cl_Tongue nf_Tongue_calendar .nil)
  have hF_dayform : ClsF K mg [92837570377061] "dayform" := (.cons hC_Tongue cl_Tongue nf_Tongue_dayform .nil)
  have d__law_cell_at : Def P w K mg base 2 "_law_cell_at" 2 c__law_cell_at := ok__law_cell_at hB hT F__law_cell_at (PySem.W.mg_of X G a__law_cell_at)
  have d__law_word : Def P w K mg base 2 "_law_word" 1 c__law_word := ok__law_word hB hT F__law_word (PySem.W.mg_of X G a__law_word)
  have d__law_words : Def P w K mg base 3 "_law_words" 2 c__law_words := ok__law_words hB hT F__law_words (PySem.W.mg_of X G a__law_words) d__law_word
  have dN_House : IDefS P w K mg base 2 "House" 311107613541 3 c_House___init__ := ⟨C_House, f_House___init__, _, ["self", "kinds", "ranks", "things"], PySem.W.mg_of X G aC_House, by decide +kernel, ⟨mk_House, in_House, i_House___init__, kc_House⟩, ok_House___init__ hB hT F_House___init__ hF_kind_row hF_rank_row hF_thing_row hF_by_name hF_thing_texts hF_declared hF_pieces_here, F_House___init__.binds (ps := ["self", "kinds", "ranks", "things"]) fun _ _ _ _ _ _ us hl => match us, hl with | [_, _, _, _], _ => rfl⟩
  have d__law_some : Def P w K mg base 2 "_law_some" 2 c__law_some := ok__law_some hB hT F__law_some (PySem.W.mg_of X G a__law_some)
  have dN_Tongue : IDefS P w K mg base 2 "Tongue" 92837570377061 7 c_Tongue___init__ := ⟨C_Tongue, f_Tongue___init__, _, ["self", "name", "falls", "rules", "joiners", "figures", "calendar", "dayform"], PySem.W.mg_of X G aC_Tongue, by decide +kernel, ⟨mk_Tongue, in_Tongue, i_Tongue___init__, kc_Tongue⟩, ok_Tongue___init__ hB hT F_Tongue___init__ hF_name hF_falls hF_rules hF_joiners hF_figures hF_calendar hF_dayform, F_Tongue___init__.binds (ps := ["self", "name", "falls", "rules", "joiners", "figures", "calendar", "dayform"]) fun _ _ _ _ _ _ us hl => match us, hl with | [_, _, _, _, _, _, _, _], _ => rfl⟩
  have d__law_tongue : Def P w K mg base 4 "_law_tongue" 3 c__law_tongue := ok__law_tongue hB hT F__law_tongue (PySem.W.mg_of X G a__law_tongue) d__law_some d__law_word dN_Tongue
  have dM_add : MDef P w K mg base 3 "add" 2 [311107613541] (t_add 1) := okm_add hB hT hF_name hF_by_name F_House_add hC_House cl_House ⟨mt_House_add, i_House_add, k_House_add⟩ 1
  have d__law_kinds_of : DefP P w K mg base 2 "_law_kinds_of" c__law_kinds_of := ok__law_kinds_of hB hT F__law_kinds_of (PySem.W.mg_of X G a__law_kinds_of)
  have d__law_added : Def P w K mg base 4 "_law_added" 2 c__law_added := ok__law_added hB hT F__law_added (PySem.W.mg_of X G a__law_added) dM_add d__law_kinds_of
  have d__law_fields : DefG P w K mg base 2 "_law_fields" 1 c__law_fields := ok__law_fields hB hT F__law_fields (PySem.W.mg_of X G a__law_fields) hF_dayform hF_calendar hF_figures hF_joiners hF_rules hF_falls hF_name
  have dM_own_word : MDef P w K mg base 3 "own_word" 3 [311107613541] (t_own_word 1) := okm_own_word hB hT hF_thing_texts F_House_own_word hC_House cl_House ⟨mt_House_own_word, i_House_own_word, k_House_own_word⟩ 1
  have d__law_own : Def P w K mg base 2 "_law_own" 2 c__law_own := ok__law_own hB hT F__law_own (PySem.W.mg_of X G a__law_own)
  have d__law_text : Def P w K mg base 2 "_law_text" 1 c__law_text := ok__law_text hB hT F__law_text (PySem.W.mg_of X G a__law_text)
  have d__law_is_text : Def P w K mg base 2 "_law_is_text" 1 c__law_is_text := ok__law_is_text hB hT F__law_is_text (PySem.W.mg_of X G a__law_is_text)
  have d__law_due : Def P w K mg base 3 "_law_due" 4 c__law_due := ok__law_due hB hT F__law_due (PySem.W.mg_of X G a__law_due) d__law_is_text
  have dM_tongue_named : MDef P w K mg base 3 "tongue_named" 2 [311107613541] (t_tongue_named 1) := okm_tongue_named hB hT hF_by_name F_House_tongue_named hC_House cl_House ⟨mt_House_tongue_named, i_House_tongue_named, k_House_tongue_named⟩ 1
  have d_is_thing_text : Def P w K mg base 2 "is_thing_text" 1 c_is_thing_text := ok_is_thing_text hB hT F_is_thing_text (PySem.W.mg_of X G a_is_thing_text) hc_LETTERS
  have dM_word : MDef P w K mg base 5 "word" 5 [311107613541] (t_word 1) := okm_word hB hT dM_tongue_named hF_thing_row hF_kind_row d_is_thing_text hF_thing_texts F_House_word hC_House cl_House ⟨mt_House_word, i_House_word, k_House_word⟩ 1
  have d__law_told : Def P w K mg base 6 "_law_told" 5 c__law_told := ok__law_told hB hT F__law_told (PySem.W.mg_of X G a__law_told) dM_word d__law_kinds_of
  have d__law_deed : DefG P w K mg base 7 "_law_deed" 7 c__law_deed := ok__law_deed hB hT F__law_deed (PySem.W.mg_of X G a__law_deed) d__law_tongue d__law_added d__law_fields dM_own_word d__law_own d__law_text d__law_due d__law_told
  have dM_kinds : MDef P w K mg base 3 "kinds" 1 [311107613541] (t_kinds 1) := okm_kinds hB hT hF_kind_row F_House_kinds hC_House cl_House ⟨mt_House_kinds, i_House_kinds, k_House_kinds⟩ 1
  have d__law_rows : Def P w K mg base 2 "_law_rows" 2 c__law_rows := ok__law_rows hB hT F__law_rows (PySem.W.mg_of X G a__law_rows)
  have dM_ranks : MDef P w K mg base 3 "ranks" 1 [311107613541] (t_ranks 1) := okm_ranks hB hT hF_rank_row F_House_ranks hC_House cl_House ⟨mt_House_ranks, i_House_ranks, k_House_ranks⟩ 1
  have dM_things : MDef P w K mg base 3 "things" 1 [311107613541] (t_things 1) := okm_things hB hT hF_thing_row F_House_things hC_House cl_House ⟨mt_House_things, i_House_things, k_House_things⟩ 1
  have dM_tongues : MDef P w K mg base 3 "tongues" 1 [311107613541] (t_tongues 1) := okm_tongues hB hT hF_by_name F_House_tongues hC_House cl_House ⟨mt_House_tongues, i_House_tongues, k_House_tongues⟩ 1
  have d__law_asked : Def P w K mg base 4 "_law_asked" 2 c__law_asked := ok__law_asked hB hT F__law_asked (PySem.W.mg_of X G a__law_asked) dM_tongue_named d__law_kinds_of
  have d__law_end : DefG P w K mg base 5 "_law_end" 5 c__law_end := ok__law_end hB hT F__law_end (PySem.W.mg_of X G a__law_end) dM_tongues d__law_rows dM_tongue_named d__law_fields d__law_asked dM_own_word d__law_own
  exact lawG_imp hc (ok_law hB hT F_law d__law_cell_at d__law_words dN_House d__law_deed dM_kinds d__law_rows dM_ranks dM_things d__law_end)
end M
namespace M2
open PySem PySem.Spec PyProof.Rows L2 DL M
abbrev R : PySem.W.OpenRow := PySem.W.OpenLaw.row PySem.Challenge.rw_saywell_k51_tongues_and_words
abbrev qv : Program := PySem.W.view R.prog [31]
def names0 : List PySem.Str := [("_wall" : PySem.Str), ("__name__" : PySem.Str), ("SayError" : PySem.Str), ("NoTongue" : PySem.Str), ("NoThing" : PySem.Str), ("NoMessage" : PySem.Str), ("NoValue" : PySem.Str), ("LETTERS" : PySem.Str)]
def names1 : List PySem.Str := [("is_thing_text" : PySem.Str), ("House" : PySem.Str), ("Tongue" : PySem.Str), ("_law_cell_at" : PySem.Str), ("_law_word" : PySem.Str), ("_law_words" : PySem.Str), ("_law_text" : PySem.Str), ("_law_is_text" : PySem.Str)]
def names2 : List PySem.Str := [("_law_some" : PySem.Str), ("_law_tongue" : PySem.Str), ("_law_fields" : PySem.Str), ("_law_kinds_of" : PySem.Str), ("_law_added" : PySem.Str), ("_law_told" : PySem.Str), ("_law_asked" : PySem.Str), ("_law_due" : PySem.Str)]
def names3 : List PySem.Str := [("_law_own" : PySem.Str), ("_law_rows" : PySem.Str), ("_law_deed" : PySem.Str), ("_law_end" : PySem.Str)]
def names : List PySem.Str := names0 ++ names1 ++ names2 ++ names3
def rs0 : List Rq := [.g "_law_cell_at", .cg "_law_cell_at", .g "_law_word", .cg "_law_word", .g "_law_words", .cg "_law_words", .m "House" "__init__", .cm "House" "__init__"]
def rs1 : List Rq := [.g "_law_some", .cg "_law_some", .m "Tongue" "__init__", .cm "Tongue" "__init__", .g "_law_tongue", .cg "_law_tongue", .m "House" "add", .cm "House" "add"]
def rs2 : List Rq := [.g "_law_kinds_of", .cg "_law_kinds_of", .g "_law_added", .cg "_law_added", .g "_law_fields", .cg "_law_fields", .m "House" "own_word", .cm "House" "own_word"]
def rs3 : List Rq := [.g "_law_own", .cg "_law_own", .g "_law_text", .cg "_law_text", .g "_law_is_text", .cg "_law_is_text", .g "_law_due", .cg "_law_due"]
def rs4 : List Rq := [.m "House" "tongue_named", .cm "House" "tongue_named", .g "is_thing_text", .cg "is_thing_text", .m "House" "word", .cm "House" "word", .g "_law_told", .cg "_law_told"]
def rs5 : List Rq := [.g "_law_deed", .cg "_law_deed", .m "House" "kinds", .cm "House" "kinds", .g "_law_rows", .cg "_law_rows", .m "House" "ranks", .cm "House" "ranks"]
def rs6 : List Rq := [.m "House" "things", .cm "House" "things", .m "House" "tongues", .cm "House" "tongues", .g "_law_asked", .cg "_law_asked", .g "_law_end", .cg "_law_end"]
def rs7 : List Rq := [.g "law", .cg "law", .g "SayError", .ns "SayError", .g "NoTongue", .ns "NoTongue", .g "NoThing", .ns "NoThing"]
def rs8 : List Rq := [.g "NoMessage", .ns "NoMessage", .g "NoValue", .ns "NoValue", .g "House", .ns "House", .g "Tongue", .ns "Tongue"]
def as_ : List Rq := rs0 ++ rs1 ++ rs2 ++ rs3 ++ rs4 ++ rs5 ++ rs6 ++ rs7 ++ rs8
def ex0_0 (l : List Addr) (K : PySem.W.Frag) : List Bool := [He.eqO (PySem.W.nsIn K mainGlobals "_law_cell_at") (some (some (.ref (at_ l 0)))),
  cdA K (at_ l 0) "_law_cell_at" .none,
  PySem.W.keepIn K (.ref (at_ l 0)),
  He.eqO (PySem.W.nsIn K mainGlobals "_law_word") (some (some (.ref (at_ l 2)))),
  cdA K (at_ l 2) "_law_word" .none,
  PySem.W.keepIn K (.ref (at_ l 2)),
  He.eqO (PySem.W.nsIn K mainGlobals "_law_words") (some (some (.ref (at_ l 4)))),
  cdA K (at_ l 4) "_law_words" .none]
def ex0_1 (l : List Addr) (K : PySem.W.Frag) : List Bool := [PySem.W.keepIn K (.ref (at_ l 4)),
  He.eqO (PySem.W.nsIn K mainGlobals "_law_some") (some (some (.ref (at_ l 8)))),
  cdA K (at_ l 8) "_law_some" .none,
  PySem.W.keepIn K (.ref (at_ l 8)),
  He.eqO (PySem.W.nsIn K mainGlobals "_law_tongue") (some (some (.ref (at_ l 12)))),
  cdA K (at_ l 12) "_law_tongue" .none,
  PySem.W.keepIn K (.ref (at_ l 12)),
  He.eqO (PySem.W.nsIn K mainGlobals "_law_kinds_of") (some (some (.ref (at_ l 16))))]
def ex0_2 (l : List Addr) (K : PySem.W.Frag) : List Bool := [cdA K (at_ l 16) "_law_kinds_of" .none,
  PySem.W.keepIn K (.ref (at_ l 16)),
  He.eqO (PySem.W.nsIn K mainGlobals "_law_added") (some (some (.ref (at_ l 18)))),
  cdA K (at_ l 18) "_law_added" .none,
  PySem.W.keepIn K (.ref (at_ l 18)),
  He.eqO (PySem.W.nsIn K mainGlobals "_law_fields") (some (some (.ref (at_ l 20)))),
  cdA K (at_ l 20) "_law_fields" .none,
  PySem.W.keepIn K (.ref (at_ l 20))]
def ex0_3 (l : List Addr) (K : PySem.W.Frag) : List Bool := [He.eqO (PySem.W.nsIn K mainGlobals "_law_own") (some (some (.ref (at_ l 24)))),
  cdA K (at_ l 24) "_law_own" .none,
  PySem.W.keepIn K (.ref (at_ l 24)),
  He.eqO (PySem.W.nsIn K mainGlobals "_law_text") (some (some (.ref (at_ l 26)))),
  cdA K (at_ l 26) "_law_text" .none,
  PySem.W.keepIn K (.ref (at_ l 26)),
  He.eqO (PySem.W.nsIn K mainGlobals "_law_is_text") (some (some (.ref (at_ l 28)))),
  cdA K (at_ l 28) "_law_is_text" .none]
def ex0_4 (l : List Addr) (K : PySem.W.Frag) : List Bool := [PySem.W.keepIn K (.ref (at_ l 28)),
  He.eqO (PySem.W.nsIn K mainGlobals "_law_due") (some (some (.ref (at_ l 30)))),
  cdA K (at_ l 30) "_law_due" .none,
  PySem.W.keepIn K (.ref (at_ l 30)),
  He.eqO (PySem.W.nsIn K mainGlobals "is_thing_text") (some (some (.ref (at_ l 34)))),
  cdA K (at_ l 34) "is_thing_text" .none,
  PySem.W.keepIn K (.ref (at_ l 34)),
  He.eqO (PySem.W.nsIn K mainGlobals "_law_told") (some (some (.ref (at_ l 38))))]
def ex0_5 (l : List Addr) (K : PySem.W.Frag) : List Bool := [cdA K (at_ l 38) "_law_told" .none,
  PySem.W.keepIn K (.ref (at_ l 38)),
  He.eqO (PySem.W.nsIn K mainGlobals "_law_deed") (some (some (.ref (at_ l 40)))),
  cdA K (at_ l 40) "_law_deed" .none,
  PySem.W.keepIn K (.ref (at_ l 40)),
  He.eqO (PySem.W.nsIn K mainGlobals "_law_rows") (some (some (.ref (at_ l 44)))),
  cdA K (at_ l 44) "_law_rows" .none,
  PySem.W.keepIn K (.ref (at_ l 44))]
def ex0_6 (l : List Addr) (K : PySem.W.Frag) : List Bool := [He.eqO (PySem.W.nsIn K mainGlobals "_law_asked") (some (some (.ref (at_ l 52)))),
  cdA K (at_ l 52) "_law_asked" .none,
  PySem.W.keepIn K (.ref (at_ l 52)),
  He.eqO (PySem.W.nsIn K mainGlobals "_law_end") (some (some (.ref (at_ l 54)))),
  cdA K (at_ l 54) "_law_end" .none,
  PySem.W.keepIn K (.ref (at_ l 54)),
  He.eqO (PySem.W.nsIn K mainGlobals "law") (some (some (.ref (at_ l 56)))),
  cdA K (at_ l 56) "law" .none]
def ex0_7 (l : List Addr) (K : PySem.W.Frag) : List Bool := [PySem.W.keepIn K (.ref (at_ l 56)),
  He.eqO (PySem.W.nsIn K mainGlobals "House") (some (some (.ref (at_ l 68)))),
  PySem.W.plainGet K (at_ l 68) Str.empty,
  PySem.W.hasDictIn K (at_ l 68),
  PySem.W.plainOver K (at_ l 68),
  He.eqO (PySem.W.findIn K (.ref (at_ l 68)) "__setattr__") (some (some (.builtin "object.__setattr__"))),
  He.eqO (PySem.W.findIn K (.ref (at_ l 68)) "by_name") (some none),
  He.eqO (PySem.W.findIn K (.ref (at_ l 68)) "declared") (some none)]
def ex0_8 (l : List Addr) (K : PySem.W.Frag) : List Bool := [He.eqO (PySem.W.findIn K (.ref (at_ l 68)) "kind_row") (some none),
  He.eqO (PySem.W.findIn K (.ref (at_ l 68)) "pieces_here") (some none),
  He.eqO (PySem.W.findIn K (.ref (at_ l 68)) "rank_row") (some none),
  He.eqO (PySem.W.findIn K (.ref (at_ l 68)) "thing_row") (some none),
  He.eqO (PySem.W.findIn K (.ref (at_ l 68)) "thing_texts") (some none),
  He.eqO (PySem.W.findIn K (.ref (at_ l 68)) "add") (some (some (.ref (at_ l 14)))),
  He.eqO (PySem.W.findIn K (.ref (at_ l 68)) "own_word") (some (some (.ref (at_ l 22)))),
  He.eqO (PySem.W.findIn K (.ref (at_ l 68)) "tongue_named") (some (some (.ref (at_ l 32))))]
def ex0_9 (l : List Addr) (K : PySem.W.Frag) : List Bool := [He.eqO (PySem.W.findIn K (.ref (at_ l 68)) "word") (some (some (.ref (at_ l 36)))),
  He.eqO (PySem.W.findIn K (.ref (at_ l 68)) "kinds") (some (some (.ref (at_ l 42)))),
  He.eqO (PySem.W.findIn K (.ref (at_ l 68)) "ranks") (some (some (.ref (at_ l 46)))),
  He.eqO (PySem.W.findIn K (.ref (at_ l 68)) "things") (some (some (.ref (at_ l 48)))),
  He.eqO (PySem.W.findIn K (.ref (at_ l 68)) "tongues") (some (some (.ref (at_ l 50)))),
  PySem.W.makesIn K (at_ l 68),
  He.eqO (PySem.W.findIn K (.ref (at_ l 68)) "__init__") (some (some (.ref (at_ l 6)))),
  PySem.W.keepIn K (.ref (at_ l 68))]
def ex0_10 (l : List Addr) (K : PySem.W.Frag) : List Bool := [He.eqO (PySem.W.nsIn K mainGlobals "Tongue") (some (some (.ref (at_ l 70)))),
  PySem.W.plainGet K (at_ l 70) Str.empty,
  PySem.W.hasDictIn K (at_ l 70),
  PySem.W.plainOver K (at_ l 70),
  He.eqO (PySem.W.findIn K (.ref (at_ l 70)) "__setattr__") (some (some (.builtin "object.__setattr__"))),
  He.eqO (PySem.W.findIn K (.ref (at_ l 70)) "calendar") (some none),
  He.eqO (PySem.W.findIn K (.ref (at_ l 70)) "dayform") (some none),
  He.eqO (PySem.W.findIn K (.ref (at_ l 70)) "falls") (some none)]
def ex0_11 (l : List Addr) (K : PySem.W.Frag) : List Bool := [He.eqO (PySem.W.findIn K (.ref (at_ l 70)) "figures") (some none),
  He.eqO (PySem.W.findIn K (.ref (at_ l 70)) "joiners") (some none),
  He.eqO (PySem.W.findIn K (.ref (at_ l 70)) "name") (some none),
  He.eqO (PySem.W.findIn K (.ref (at_ l 70)) "rules") (some none),
  PySem.W.makesIn K (at_ l 70),
  He.eqO (PySem.W.findIn K (.ref (at_ l 70)) "__init__") (some (some (.ref (at_ l 10)))),
  PySem.W.keepIn K (.ref (at_ l 70)),
  PySem.W.isFn K (.ref (at_ l 6))]
def ex0_12 (l : List Addr) (K : PySem.W.Frag) : List Bool := [cdA K (at_ l 6) "House.__init__" .none,
  PySem.W.keepIn K (.ref (at_ l 6)),
  PySem.W.isFn K (.ref (at_ l 10)),
  cdA K (at_ l 10) "Tongue.__init__" .none,
  PySem.W.keepIn K (.ref (at_ l 10)),
  PySem.W.isFn K (.ref (at_ l 14)),
  cdA K (at_ l 14) "House.add" .none,
  PySem.W.keepIn K (.ref (at_ l 14))]
def ex0_13 (l : List Addr) (K : PySem.W.Frag) : List Bool := [PySem.W.isFn K (.ref (at_ l 22)),
  cdA K (at_ l 22) "House.own_word" .none,
  PySem.W.keepIn K (.ref (at_ l 22)),
  PySem.W.isFn K (.ref (at_ l 32)),
  cdA K (at_ l 32) "House.tongue_named" .none,
  PySem.W.keepIn K (.ref (at_ l 32)),
  PySem.W.isFn K (.ref (at_ l 36)),
  cdA K (at_ l 36) "House.word" .none]
def ex0_14 (l : List Addr) (K : PySem.W.Frag) : List Bool := [PySem.W.keepIn K (.ref (at_ l 36)),
  PySem.W.isFn K (.ref (at_ l 42)),
  cdA K (at_ l 42) "House.kinds" .none,
  PySem.W.keepIn K (.ref (at_ l 42)),
  PySem.W.isFn K (.ref (at_ l 46)),
  cdA K (at_ l 46) "House.ranks" .none,
  PySem.W.keepIn K (.ref (at_ l 46)),
  PySem.W.isFn K (.ref (at_ l 48))]
def ex0_15 (l : List Addr) (K : PySem.W.Frag) : List Bool := [cdA K (at_ l 48) "House.things" .none,
  PySem.W.keepIn K (.ref (at_ l 48)),
  PySem.W.isFn K (.ref (at_ l 50)),
  cdA K (at_ l 50) "House.tongues" .none,
  PySem.W.keepIn K (.ref (at_ l 50)),
  He.eqO (PySem.W.nsIn K mainGlobals "NoMessage") (some (some (.ref (at_ l 64)))),
  decide (PySem.W.subIn K (.ref (at_ l 64)) (.type "BaseException") = some true),
  PySem.W.hasDictIn K (at_ l 64)]
def ex0_16 (l : List Addr) (K : PySem.W.Frag) : List Bool := [decide (PySem.W.typeIn K (.ref (at_ l 64)) = some (.type "type")),
  He.eqO (PySem.W.nsIn K mainGlobals "NoThing") (some (some (.ref (at_ l 62)))),
  decide (PySem.W.subIn K (.ref (at_ l 62)) (.type "BaseException") = some true),
  PySem.W.hasDictIn K (at_ l 62),
  decide (PySem.W.typeIn K (.ref (at_ l 62)) = some (.type "type")),
  He.eqO (PySem.W.nsIn K mainGlobals "NoTongue") (some (some (.ref (at_ l 60)))),
  decide (PySem.W.subIn K (.ref (at_ l 60)) (.type "BaseException") = some true),
  PySem.W.hasDictIn K (at_ l 60)]
def ex0_17 (l : List Addr) (K : PySem.W.Frag) : List Bool := [decide (PySem.W.typeIn K (.ref (at_ l 60)) = some (.type "type")),
  He.eqO (PySem.W.nsIn K mainGlobals "NoValue") (some (some (.ref (at_ l 66)))),
  decide (PySem.W.subIn K (.ref (at_ l 66)) (.type "BaseException") = some true),
  PySem.W.hasDictIn K (at_ l 66),
  decide (PySem.W.typeIn K (.ref (at_ l 66)) = some (.type "type")),
  He.eqO (PySem.W.nsIn K mainGlobals "SayError") (some (some (.ref (at_ l 58)))),
  decide (PySem.W.subIn K (.ref (at_ l 58)) (.type "BaseException") = some true),
  PySem.W.hasDictIn K (at_ l 58)]
def ex0_18 (l : List Addr) (K : PySem.W.Frag) : List Bool := [decide (PySem.W.typeIn K (.ref (at_ l 58)) = some (.type "type")),
  PySem.W.excIn K (at_ l 62) [.type "ValueError", .type "Exception", .type "BaseException", .type "object"] "ValueError.__new__",
  PySem.W.keepIn K (.ref (at_ l 62)),
  decide (PySem.W.subIn K (.ref (at_ l 62)) (.type "ValueError") = some true),
  decide (PySem.W.subIn K (.ref (at_ l 62)) (.ref (at_ l 62)) = some true),
  He.eqO (PySem.W.findIn K (.ref (at_ l 62)) "__getattribute__") (some (some (.builtin "BaseException.__getattribute__"))),
  He.eqO (PySem.W.findIn K (.ref (at_ l 62)) "__getattr__") (some none),
  He.eqO (PySem.W.findIn K (.ref (at_ l 62)) "__class__") (some (some (.builtin "object.__class__")))]
def ex0_19 (l : List Addr) (K : PySem.W.Frag) : List Bool := [decide (PySem.W.mroIn K (at_ l 62) (.type "object") = some true),
  PySem.W.excIn K (at_ l 60) [.type "ValueError", .type "Exception", .type "BaseException", .type "object"] "ValueError.__new__",
  PySem.W.keepIn K (.ref (at_ l 60)),
  decide (PySem.W.subIn K (.ref (at_ l 60)) (.type "ValueError") = some true),
  decide (PySem.W.subIn K (.ref (at_ l 60)) (.ref (at_ l 60)) = some true),
  He.eqO (PySem.W.findIn K (.ref (at_ l 60)) "__getattribute__") (some (some (.builtin "BaseException.__getattribute__"))),
  He.eqO (PySem.W.findIn K (.ref (at_ l 60)) "__getattr__") (some none),
  He.eqO (PySem.W.findIn K (.ref (at_ l 60)) "__class__") (some (some (.builtin "object.__class__")))]
def ex0_20 (l : List Addr) (K : PySem.W.Frag) : List Bool := [decide (PySem.W.mroIn K (at_ l 60) (.type "object") = some true),
  PySem.W.excIn K (at_ l 66) [.type "ValueError", .type "Exception", .type "BaseException", .type "object"] "ValueError.__new__",
  PySem.W.keepIn K (.ref (at_ l 66)),
  decide (PySem.W.subIn K (.ref (at_ l 66)) (.type "ValueError") = some true),
  decide (PySem.W.subIn K (.ref (at_ l 66)) (.ref (at_ l 66)) = some true),
  He.eqO (PySem.W.findIn K (.ref (at_ l 66)) "__getattribute__") (some (some (.builtin "BaseException.__getattribute__"))),
  He.eqO (PySem.W.findIn K (.ref (at_ l 66)) "__getattr__") (some none),
  He.eqO (PySem.W.findIn K (.ref (at_ l 66)) "__class__") (some (some (.builtin "object.__class__")))]
def ex0_21 (l : List Addr) (K : PySem.W.Frag) : List Bool := [decide (PySem.W.mroIn K (at_ l 66) (.type "object") = some true),
  He.eqO (PySem.W.specialIn K (.builtin "object.__class__") "__get__") (some (some (.builtin "getset_descriptor.__get__"))),
  decide (PySem.W.takesIn K (.builtin "object.__class__") = some true),
  decide (PySem.W.subIn K (.ref (at_ l 62)) (.ref (at_ l 64)) = some false),
  decide (PySem.W.subIn K (.ref (at_ l 62)) (.ref (at_ l 60)) = some false),
  decide (PySem.W.subIn K (.ref (at_ l 62)) (.ref (at_ l 66)) = some false),
  decide (PySem.W.subIn K (.ref (at_ l 62)) (.ref (at_ l 58)) = some true),
  decide (PySem.W.subIn K (.ref (at_ l 60)) (.ref (at_ l 64)) = some false)]
def ex0_22 (l : List Addr) (K : PySem.W.Frag) : List Bool := [decide (PySem.W.subIn K (.ref (at_ l 60)) (.ref (at_ l 62)) = some false),
  decide (PySem.W.subIn K (.ref (at_ l 60)) (.ref (at_ l 66)) = some false),
  decide (PySem.W.subIn K (.ref (at_ l 60)) (.ref (at_ l 58)) = some true),
  decide (PySem.W.subIn K (.ref (at_ l 66)) (.ref (at_ l 64)) = some false),
  decide (PySem.W.subIn K (.ref (at_ l 66)) (.ref (at_ l 62)) = some false),
  decide (PySem.W.subIn K (.ref (at_ l 66)) (.ref (at_ l 60)) = some false),
  decide (PySem.W.subIn K (.ref (at_ l 66)) (.ref (at_ l 58)) = some true),
  He.eqO (PySem.W.nsIn K mainGlobals "ValueError") (some none)]
def ex0_23 (l : List Addr) (K : PySem.W.Frag) : List Bool := [He.eqO (PySem.W.nsIn K mainGlobals "len") (some none),
  He.eqO (PySem.W.nsIn K mainGlobals "isinstance") (some none),
  He.eqO (PySem.W.nsIn K mainGlobals "str") (some none),
  He.eqO (PySem.W.nsIn K mainGlobals "int") (some none),
  He.eqO (PySem.W.nsIn K mainGlobals "bool") (some none),
  He.eqO (PySem.W.nsIn K mainGlobals "list") (some none),
  He.eqO (PySem.W.nsIn K mainGlobals "tuple") (some none),
  He.eqO (PySem.W.nsIn K mainGlobals "dict") (some none)]
def ex0_24 (l : List Addr) (K : PySem.W.Frag) : List Bool := [He.eqO (PySem.W.nsIn K mainGlobals "set") (some none),
  He.eqO (PySem.W.nsIn K mainGlobals "range") (some none),
  He.eqO (PySem.W.nsIn K mainGlobals "enumerate") (some none),
  He.eqO (PySem.W.nsIn K mainGlobals "zip") (some none),
  He.eqO (PySem.W.nsIn K mainGlobals "reversed") (some none),
  He.eqO (PySem.W.nsIn K mainGlobals "sorted") (some none),
  He.eqO (PySem.W.nsIn K mainGlobals "sum") (some none),
  He.eqO (PySem.W.nsIn K mainGlobals "all") (some none)]
def ex0_25 (l : List Addr) (K : PySem.W.Frag) : List Bool := [He.eqO (PySem.W.nsIn K mainGlobals "any") (some none),
  He.eqO (PySem.W.nsIn K mainGlobals "abs") (some none),
  He.eqO (PySem.W.nsIn K mainGlobals "max") (some none),
  He.eqO (PySem.W.nsIn K mainGlobals "min") (some none),
  He.eqO (PySem.W.nsIn K mainGlobals "ord") (some none),
  He.eqO (PySem.W.nsIn K mainGlobals "divmod") (some none),
  He.eqO (PySem.W.nsIn K mainGlobals "repr") (some none),
  strA K "LETTERS" k_LETTERS]
def xs0 (l : List Addr) (K : PySem.W.Frag) : List (List Bool) := [ex0_0 l K, ex0_1 l K, ex0_2 l K, ex0_3 l K, ex0_4 l K, ex0_5 l K, ex0_6 l K, ex0_7 l K, ex0_8 l K, ex0_9 l K, ex0_10 l K, ex0_11 l K, ex0_12 l K, ex0_13 l K, ex0_14 l K, ex0_15 l K, ex0_16 l K, ex0_17 l K, ex0_18 l K, ex0_19 l K, ex0_20 l K, ex0_21 l K, ex0_22 l K, ex0_23 l K, ex0_24 l K, ex0_25 l K]
def fn0 (l : List Addr) (K : PySem.W.Frag) : List FnA := [fnA K (at_ l 0), fnA K (at_ l 2), fnA K (at_ l 4), fnA K (at_ l 8), fnA K (at_ l 12), fnA K (at_ l 16), fnA K (at_ l 18), fnA K (at_ l 20), fnA K (at_ l 24), fnA K (at_ l 26), fnA K (at_ l 28), fnA K (at_ l 30), fnA K (at_ l 34), fnA K (at_ l 38), fnA K (at_ l 40), fnA K (at_ l 44), fnA K (at_ l 52), fnA K (at_ l 54), fnA K (at_ l 56), fnA K (at_ l 6), fnA K (at_ l 10), fnA K (at_ l 14), fnA K (at_ l 22), fnA K (at_ l 32), fnA K (at_ l 36), fnA K (at_ l 42), fnA K (at_ l 46), fnA K (at_ l 48), fnA K (at_ l 50)]
def fv0 : List FnA := [fnV "_law_cell_at" "_law_cell_at" s__law_cell_at, fnV "_law_word" "_law_word" s__law_word, fnV "_law_words" "_law_words" s__law_words, fnV "_law_some" "_law_some" s__law_some, fnV "_law_tongue" "_law_tongue" s__law_tongue, fnV "_law_kinds_of" "_law_kinds_of" s__law_kinds_of, fnV "_law_added" "_law_added" s__law_added, fnV "_law_fields" "_law_fields" s__law_fields, fnV "_law_own" "_law_own" s__law_own, fnV "_law_text" "_law_text" s__law_text, fnV "_law_is_text" "_law_is_text" s__law_is_text, fnV "_law_due" "_law_due" s__law_due, fnV "is_thing_text" "is_thing_text" s_is_thing_text, fnV "_law_told" "_law_told" s__law_told, fnV "_law_deed" "_law_deed" s__law_deed, fnV "_law_rows" "_law_rows" s__law_rows, fnV "_law_asked" "_law_asked" s__law_asked, fnV "_law_end" "_law_end" s__law_end, fnV "law" "law" s_law, fnV "__init__" "House.__init__" s_House___init__, fnV "__init__" "Tongue.__init__" s_Tongue___init__, fnV "add" "House.add" s_House_add, fnV "own_word" "House.own_word" s_House_own_word, fnV "tongue_named" "House.tongue_named" s_House_tongue_named, fnV "word" "House.word" s_House_word, fnV "kinds" "House.kinds" s_House_kinds, fnV "ranks" "House.ranks" s_House_ranks, fnV "things" "House.things" s_House_things, fnV "tongues" "House.tongues" s_House_tongues]
def ob0 (l : List Addr) (K : PySem.W.Frag) := ((xs0 l K).all (fun l => l.all id), fn0 l K)
def va0 (w : World) := (true, fv0)
abbrev MM : Nat := 30000
abbrev obA (l : List Addr) (K : PySem.W.Frag) := ob0 l K
abbrev vaA (w : World) := va0 w
abbrev hk : PySem.W.Hook := hookL as_ obA vaA
abbrev ob : PySem.W.SharedT → hk.α := obL as_ obA
theorem run_false (w : World) : HandSHeadRun.RunEq R qv hk ob MM names (w.withFollow "special-get-raises" false) := by
  intro os
  kernel_rfl
theorem run_true (w : World) : HandSHeadRun.RunEq R qv hk ob MM names (w.withFollow "special-get-raises" true) := by
  intro os
  kernel_rfl
theorem run (w : World) : HandSHeadRun.RunEq R qv hk ob MM names w := PySem.W.byRow2 "special-get-raises" (P := fun w => HandSHeadRun.RunEq R qv hk ob MM names w) run_false run_true w
end M2
namespace DL
open PySem PySem.Spec PyProof.Rows L2
def Res.go {α β : Type} (r : Res α) (k : α → Sls → Store → β) (e : Exc → Sls → Store → β) (z : β) : β :=
  match r with
  | .ok a S st => k a S st
  | .exc x S st => e x S st
  | .stuck => z
def getK {β : Type} (S : Sls) (i : Nat) (k : Sl → β) (z : β) : β := match S[i]? with
  | some s => k s
  | none => z
def setK {β : Type} (S : Sls) (i : Nat) (x : Sl) (k : Sls → β) : β := k (S.set i x)
def setS {β : Type} (st : Store) (n : Nat) (x : Ob) (k : Store → β) : β := k (st.set n x)
@[simp ↓] theorem setS_a {β : Type} (st : Store) (n : Nat) (x : Ob) (k : Store → β) : setS st n x k = k (st.set n x) := rfl
def iniK {β : Type} (n : Nat) (ds : List D) (k : Sls → β) : β := k (ds.map Sl.d ++ List.replicate (n - ds.length) .no)
section
variable {β : Type}
@[simp ↓] theorem getK_0 (s : Sl) (S : Sls) (k : Sl → β) (z : β) : getK (s :: S) 0 k z = k s := rfl
@[simp ↓] theorem getK_s (s : Sl) (S : Sls) (i : Nat) (k : Sl → β) (z : β) : getK (s :: S) (i + 1) k z = getK S i k z := by simp [getK]
@[simp ↓] theorem setK_0 (s x : Sl) (S : Sls) (k : Sls → β) : setK (s :: S) 0 x k = k (x :: S) := rfl
@[simp ↓] theorem setK_s (s x : Sl) (S : Sls) (i : Nat) (k : Sls → β) : setK (s :: S) (i + 1) x k = setK S i x (fun S => k (s :: S)) := by simp [setK]
@[simp ↓] theorem iniK_0 (k : Sls → β) : iniK 0 [] k = k [] := rfl
@[simp ↓] theorem iniK_d (n : Nat) (d : D) (ds : List D) (k : Sls → β) : iniK (n + 1) (d :: ds) k = iniK n ds (fun S => k (.d d :: S)) := by simp [iniK]
@[simp ↓] theorem iniK_n (n : Nat) (k : Sls → β) : iniK (n + 1) [] k = iniK n [] (fun S => k (.no :: S)) := by simp [iniK, List.replicate_succ]
def vwK {β : Type} (S : Sls) (st : Store) (o : Opd) (k : D → β) (z : β) : β := match vw S st o with
  | some d => k d
  | none => z
def vwsK {β : Type} (S : Sls) (st : Store) (o : List Opd) (k : List D → β) (z : β) : β := match vws S st o with
  | some d => k d
  | none => z
def vdsK {β : Type} (S : Sls) (o : List Opd) (k : List D → β) (z : β) : β := match vds S o with
  | some d => k d
  | none => z
def wipeK {β : Type} (S : Sls) (own : List Nat) (k : Sls → β) : β := k (wipeS S own)
def restK {β : Type} (S0 : Sls) (own : List Nat) (S : Sls) (k : Sls → β) : β := k (restS S0 own S)
@[simp ↓] theorem vwK_v (S : Sls) (st : Store) (d : D) (k : D → β) (z : β) : vwK S st (.v d) k z = k d := rfl
@[simp ↓] theorem vwK_s (S : Sls) (st : Store) (i : Nat) (k : D → β) (z : β) : vwK S st (.s i) k z = getK S i (fun s => match s with | .d d => k d | .own w => k w.d | .no => z) z := by
  unfold vwK getK; rw [vw_s]; rcases S[i]? with _ | s
  · rfl
  · cases s <;> rfl
@[simp ↓] theorem vwK_h (S : Sls) (st : Store) (n : Nat) (k : D → β) (z : β) : vwK S st (.h n) k z = match st[n]? with | some (.t _) => z | some (.z _) => z | some x => k x.d | none => z := by
  unfold vwK; rw [vw_h]; rcases st[n]? with _ | x
  · rfl
  · cases x <;> rfl
@[simp ↓] theorem vwsK_n (S : Sls) (st : Store) (k : List D → β) (z : β) : vwsK S st [] k z = k [] := rfl
@[simp ↓] theorem vwsK_c (S : Sls) (st : Store) (o : Opd) (r : List Opd) (k : List D → β) (z : β) : vwsK S st (o :: r) k z = vwK S st o (fun d => vwsK S st r (fun ds => k (d :: ds)) z) z := by
  unfold vwsK vwK; rw [vws_c]; cases vw S st o <;> cases vws S st r <;> rfl
@[simp ↓] theorem vdsK_n (S : Sls) (k : List D → β) (z : β) : vdsK S [] k z = k [] := rfl
@[simp ↓] theorem vdsK_v (S : Sls) (d : D) (r : List Opd) (k : List D → β) (z : β) : vdsK S (.v d :: r) k z = vdsK S r (fun ds => k (d :: ds)) z := by
  unfold vdsK; rw [vds_c, vd_v]; cases vds S r <;> rfl
@[simp ↓] theorem vdsK_h (S : Sls) (n : Nat) (r : List Opd) (k : List D → β) (z : β) : vdsK S (.h n :: r) k z = vdsK S r (fun ds => k (.loc n :: ds)) z := by
  unfold vdsK; rw [vds_c, vd_h]; cases vds S r <;> rfl
@[simp ↓] theorem vdsK_s (S : Sls) (i : Nat) (r : List Opd) (k : List D → β) (z : β) : vdsK S (.s i :: r) k z = getK S i (fun s => match s with | .d d => vdsK S r (fun ds => k (d :: ds)) z | _ => z) z := by
  unfold vdsK getK; rw [vds_c, vd_s]; rcases S[i]? with _ | s
  · rfl
  · cases s <;> cases vds S r <;> rfl
@[simp ↓] theorem wipeK_n (S : Sls) (k : Sls → β) : wipeK S [] k = k S := rfl
@[simp ↓] theorem wipeK_c (S : Sls) (v : Nat) (r : List Nat) (k : Sls → β) : wipeK S (v :: r) k = wipeK S r (fun S => setK S v .no k) := rfl
@[simp ↓] theorem restK_n (S0 S : Sls) (k : Sls → β) : restK S0 [] S k = k S := rfl
@[simp ↓] theorem restK_c (S0 S : Sls) (i : Nat) (r : List Nat) (k : Sls → β) : restK S0 (i :: r) S k = getK S0 i (fun s => match s with | .d x => setK S i (.d x) (fun S => restK S0 r S k) | _ => restK S0 r S k) (restK S0 r S k) := by
  unfold restK getK setK; rw [restS_c]; rcases S0[i]? with _ | s
  · rfl
  · cases s <;> rfl
def finB : Out → Res D
  | .nx _ st => .ok .non [] st
  | .ret d _ st => .ok d [] st
  | .exc x _ st => .exc x [] st
  | _ => .stuck
@[simp] theorem finB_nx (S : Sls) (st : Store) : finB (.nx S st) = .ok .non [] st := rfl
@[simp] theorem finB_ret (d : D) (S : Sls) (st : Store) : finB (.ret d S st) = .ok d [] st := rfl
@[simp] theorem finB_exc (x : Exc) (S : Sls) (st : Store) : finB (.exc x S st) = .exc x [] st := rfl
@[simp] theorem finB_stuck : finB .stuck = .stuck := rfl
def iniL {β : Type} (n : Nat) (ss : Sls) (k : Sls → β) : β := k (ss ++ List.replicate (n - ss.length) .no)
@[simp ↓] theorem iniL_0 (k : Sls → β) : iniL 0 [] k = k [] := rfl
@[simp ↓] theorem iniL_d (n : Nat) (d : Sl) (ds : Sls) (k : Sls → β) : iniL (n + 1) (d :: ds) k = iniL n ds (fun S => k (d :: S)) := by simp [iniL]
@[simp ↓] theorem iniL_n (n : Nat) (k : Sls → β) : iniL (n + 1) [] k = iniL n [] (fun S => k (.no :: S)) := by simp [iniL, List.replicate_succ]
def finO : Out → Res Ow
  | .rto w _ st => .ok w [] st
  | .exc x _ st => .exc x [] st
  | _ => .stuck
@[simp] theorem finO_rto (w : Ow) (S : Sls) (st : Store) : finO (.rto w S st) = .ok w [] st := rfl
@[simp] theorem finO_exc (x : Exc) (S : Sls) (st : Store) : finO (.exc x S st) = .exc x [] st := rfl
@[simp] theorem finO_stuck : finO .stuck = .stuck := rfl
theorem runB_k (N : Nat) (b : EvS) (ds : List D) (st : Store) : runB N b ds st = iniK N ds fun S => finB (b S st) := by
  rw [runB_a]; show _ = finB (b _ _); cases b (ds.map Sl.d ++ List.replicate (N - ds.length) .no) st <;> rfl
end
section
variable {α β γ : Type} {S : Sls} {st : Store}
@[simp ↓] theorem Res.bind_go (r : Res α) (k : α → Sls → Store → Res β) : r.bind k = r.go k .exc .stuck := by cases r <;> rfl
@[simp ↓] theorem Res.out_go (r : Res α) (k : α → Sls → Store → Out) : r.out k = r.go k .exc .stuck := by cases r <;> rfl
@[simp ↓] theorem go_ok (a : α) (k : α → Sls → Store → β) (e : Exc → Sls → Store → β) (z : β) : (Res.ok a S st).go k e z = k a S st := rfl
@[simp ↓] theorem go_exc (x : Exc) (k : α → Sls → Store → β) (e : Exc → Sls → Store → β) (z : β) : (Res.exc x S st).go k e z = e x S st := rfl
@[simp ↓] theorem go_stuck (k : α → Sls → Store → β) (e : Exc → Sls → Store → β) (z : β) : (Res.stuck : Res α).go k e z = z := rfl
@[simp ↓] theorem go_go (r : Res α) (G : α → Sls → Store → Res γ) (k : γ → Sls → Store → β) (e : Exc → Sls → Store → β) (z : β) : (r.go G .exc .stuck).go k e z = r.go (fun a S st => (G a S st).go k e z) e z := by cases r <;> rfl
theorem go_bind (r : Res α) (G : α → Sls → Store → Res γ) (k : γ → Sls → Store → β) (e : Exc → Sls → Store → β) (z : β) : (r.bind G).go k e z = r.go (fun a S st => (G a S st).go k e z) e z := by cases r <;> rfl
@[simp ↓] theorem go_got (o : Option α) (k : α → Sls → Store → β) (e : Exc → Sls → Store → β) (z : β) : (got o S st).go k e z = match o with | some d => k d S st | none => z := by cases o <;> rfl
theorem go_c {r : Res α} {k k' : α → Sls → Store → β} {e : Exc → Sls → Store → β} {z : β} (h : ∀ a S st, k a S st = k' a S st) : r.go k e z = r.go k' e z := by cases r <;> first | rfl | exact h _ _ _
theorem calm_go (r : Res α) (k : α → Sls → Store → β) (e : Exc → Sls → Store → β) (z : β) : r.calm.go k e z = r.go k (fun _ _ _ => z) z := by cases r <;> rfl
@[simp ↓] theorem kE_g (d : D) (k : D → Sls → Store → β) (e : Exc → Sls → Store → β) (z : β) : (kE d S st).go k e z = k d S st := by
  rfl
@[simp ↓] theorem vE_g (i : Nat) (k : D → Sls → Store → β) (e : Exc → Sls → Store → β) (z : β) : (vE i S st).go k e z = getK S i (fun s => match s with | .d d => k d S st | _ => z) z := by
  rw [vE_a]; unfold getK; rcases S[i]? with _ | s
  · rfl
  · cases s <;> rfl
@[simp ↓] theorem zE_g (i : Nat) (k : D → Sls → Store → β) (e : Exc → Sls → Store → β) (z : β) : (zE i S st).go k e z = getK S i (fun s => match s with | .d d => k d S st | .own w => setK S i (.d w.d) (fun S => k w.d S st) | _ => z) z := by
  rw [zE_a]; unfold getK; rcases S[i]? with _ | s
  · rfl
  · cases s <;> rfl
@[simp ↓] theorem oV_g (f : Ev D) (k : Opd → Sls → Store → β) (e : Exc → Sls → Store → β) (z : β) : (oV f S st).go k e z = (f S st).go (fun d S st => k (.v d) S st) e z := by
  rw [oV_a, go_bind]; rfl
@[simp ↓] theorem oS_g (i : Nat) (k : Opd → Sls → Store → β) (e : Exc → Sls → Store → β) (z : β) : (oS i S st).go k e z = getK S i (fun s => match s with | .no => z | _ => k (.s i) S st) z := by
  rw [oS_a]; unfold getK; rcases S[i]? with _ | s
  · rfl
  · cases s <;> rfl
@[simp ↓] theorem aN_g  (k : List Opd → Sls → Store → β) (e : Exc → Sls → Store → β) (z : β) : (aN S st).go k e z = k [] S st := by
  rfl
@[simp ↓] theorem aC_g (f : Ev Opd) (g : Ev (List Opd)) (k : List Opd → Sls → Store → β) (e : Exc → Sls → Store → β) (z : β) : (aC f g S st).go k e z = (f S st).go (fun a S st => (g S st).go (fun r S st => k (a :: r) S st) e z) e z := by
  rw [aC_a, go_bind]; exact go_c fun a S st => by rw [go_bind]; rfl
@[simp ↓] theorem o2E_g (op : D → D → Option D) (fa fb : Ev Opd) (k : D → Sls → Store → β) (e : Exc → Sls → Store → β) (z : β) : (o2E op fa fb S st).go k e z = (fa S st).go (fun a S st => (fb S st).go (fun b S st => vwK S st a (fun x => vwK S st b (fun y => match op x y with | some d => k d S st | none => z) z) z) e z) e z := by
  simp only [vwK, vwsK, vdsK, wipeK, restK]
  rw [o2E_a, go_bind]; refine go_c fun a S st => ?_; rw [go_bind]; refine go_c fun b S st => ?_; cases vw S st a <;> cases vw S st b <;> first | rfl | (simp only [go_got]; done) | (simp only [go_got]; split <;> simp_all)
@[simp ↓ high] theorem o2E_gv (op : D → D → Option D) (f g : Ev D) (k : D → Sls → Store → β) (e : Exc → Sls → Store → β) (z : β) : (o2E op (oV f) (oV g) S st).go k e z = (f S st).go (fun x S st => (g S st).go (fun y S st => match op x y with | some d => k d S st | none => z) e z) e z := by
  rw [o2E_g, oV_g]; refine go_c fun a S st => ?_; rw [oV_g]; rfl
@[simp ↓] theorem o1E_g (op : D → Option D) (fa : Ev Opd) (k : D → Sls → Store → β) (e : Exc → Sls → Store → β) (z : β) : (o1E op fa S st).go k e z = (fa S st).go (fun a S st => vwK S st a (fun x => match op x with | some d => k d S st | none => z) z) e z := by
  simp only [vwK, vwsK, vdsK, wipeK, restK]
  rw [o1E_a, go_bind]; refine go_c fun a S st => ?_; cases vw S st a <;> first | rfl | (simp only [go_got]; done) | (simp only [go_got]; split <;> simp_all)
@[simp ↓] theorem oAE_g (op : List D → Option D) (fa : Ev (List Opd)) (k : D → Sls → Store → β) (e : Exc → Sls → Store → β) (z : β) : (oAE op fa S st).go k e z = (fa S st).go (fun a S st => vwsK S st a (fun x => match op x with | some d => k d S st | none => z) z) e z := by
  simp only [vwK, vwsK, vdsK, wipeK, restK]
  rw [oAE_a, go_bind]; refine go_c fun a S st => ?_; cases vws S st a <;> first | rfl | (simp only [go_got]; done) | (simp only [go_got]; split <;> simp_all)
@[simp ↓] theorem oAF_g (op : List D → Option Ow) (fa : Ev (List Opd)) (k : Ow → Sls → Store → β) (e : Exc → Sls → Store → β) (z : β) : (oAF op fa S st).go k e z = (fa S st).go (fun a S st => vwsK S st a (fun x => match op x with | some d => k d S st | none => z) z) e z := by
  simp only [vwK, vwsK, vdsK, wipeK, restK]
  rw [oAF_a, go_bind]; refine go_c fun a S st => ?_; cases vws S st a <;> first | rfl | (simp only [go_got]; done) | (simp only [go_got]; split <;> simp_all)
@[simp ↓] theorem lcH_g (fo : Ev Opd) (g : Tg) (own : List Nat) (t : Ev Bool) (f : Ev D) (k : Ow → Sls → Store → β) (e : Exc → Sls → Store → β) (z : β) : (lcH fo g own t f S st).go k e z = (fo S st).go (fun a S st => match getL st a with | some ds => (wipeK S own fun Sw => match lcHL g own t f a ds.length 0 Sw st with | .ok ys S2 st => (if ys.length ≤ 16777216 then restK S own S2 (fun S => k (.l ys) S st) else z) | .exc x S st => e x S st | .stuck => z) | none => z) e z := by
  simp only [vwK, vwsK, vdsK, wipeK, restK]
  rw [lcH_a, go_bind]; refine go_c fun a S st => ?_
  cases getL st a with
  | none => rfl
  | some ds =>
    dsimp only
    rw [go_bind]
    cases lcHL g own t f a ds.length 0 (wipeS S own) st <;> try rfl
    show Res.go (ite _ _ _) _ _ _ = ite _ _ _
    split <;> rfl
@[simp ↓] theorem lcO_g (v : Nat) (g : Tg) (own : List Nat) (t : Ev Bool) (f : Ev D) (k : Ow → Sls → Store → β) (e : Exc → Sls → Store → β) (z : β) : (lcO v g own t f S st).go k e z = (match getO S v with | some ds => if own.contains v = true then z else (wipeK S own fun Sw => match lcOL g own t f v ds.length 0 Sw st with | .ok ys S2 st => (if ys.length ≤ 16777216 then restK S own S2 (fun S => k (.l ys) S st) else z) | .exc x S st => e x S st | .stuck => z) | none => z) := by
  simp only [vwK, vwsK, vdsK, wipeK, restK]
  rw [lcO_a]
  cases getO S v with
  | none => rfl
  | some ds =>
    dsimp only
    by_cases h : own.contains v = true
    · rw [if_pos h, if_pos h]; rfl
    · rw [if_neg h, if_neg h, go_bind]
      cases lcOL g own t f v ds.length 0 (wipeS S own) st <;> try rfl
      show Res.go (ite _ _ _) _ _ _ = ite _ _ _
      split <;> rfl
@[simp ↓] theorem o2O_g (op : D → D → Option D) (fa : Ev Opd) (fb : Ev D) (k : D → Sls → Store → β) (e : Exc → Sls → Store → β) (z : β) : (o2O op fa fb S st).go k e z = (fa S st).go (fun a S st => (fb S st).go (fun b S st => vwK S st a (fun x => match x with | .lst ds => (match dp st 40 (.lst ds), dp st 40 b with | some x, some y => (match op x y with | some d => (if scal d = true then k d S st else z) | none => z) | _, _ => z) | _ => z) z) e z) e z := by
  simp only [vwK, vwsK, vdsK, wipeK, restK]
  rw [o2O_a, go_bind]; refine go_c fun a S st => ?_; rw [go_bind]; refine go_c fun b S st => ?_
  cases vw S st a with
  | none => rfl
  | some x =>
    cases x <;> try rfl
    rename_i ds
    dsimp only
    cases dp st 40 (.lst ds) <;> cases dp st 40 b <;> try rfl
    dsimp only
    rename_i x y
    cases op x y <;> try rfl
    dsimp only
    split <;> rfl
@[simp ↓] theorem oRev_g (f : Ev Opd) (k : Ow → Sls → Store → β) (e : Exc → Sls → Store → β) (z : β) : (oRev f S st).go k e z = (f S st).go (fun a S st => vwK S st a (fun x => match asL x with | some ds => k (.l ds.reverse) S st | none => z) z) e z := by
  simp only [vwK, vwsK, vdsK, wipeK, restK]
  rw [oRev_a, go_bind]; refine go_c fun a S st => ?_
  cases vw S st a with
  | none => rfl
  | some x => dsimp only; cases asL x <;> rfl
@[simp ↓] theorem eRevT_g (f : Ev D) (k : D → Sls → Store → β) (e : Exc → Sls → Store → β) (z : β) : (eRevT f S st).go k e z = (f S st).go (fun d S st => match d with | .tup ds => k (.tup ds.reverse) S st | _ => z) e z := by
  rw [eRevT_a, go_bind]; refine go_c fun a S st => ?_; cases a <;> rfl
@[simp ↓] theorem o2F_g (op : D → D → Option Ow) (fa fb : Ev Opd) (k : Ow → Sls → Store → β) (e : Exc → Sls → Store → β) (z : β) : (o2F op fa fb S st).go k e z = (fa S st).go (fun a S st => (fb S st).go (fun b S st => vwK S st a (fun x => vwK S st b (fun y => match op x y with | some d => k d S st | none => z) z) z) e z) e z := by
  simp only [vwK, vwsK, vdsK, wipeK, restK]
  rw [o2F_a, go_bind]; refine go_c fun a S st => ?_; rw [go_bind]; refine go_c fun b S st => ?_; cases vw S st a <;> cases vw S st b <;> first | rfl | (simp only [go_got]; done) | (simp only [go_got]; split <;> simp_all)
@[simp ↓] theorem mE_g (T : String) (op : D → List D → Option D) (fo : Ev Opd) (fa : Ev (List Opd)) (k : D → Sls → Store → β) (e : Exc → Sls → Store → β) (z : β) : (mE T op fo fa S st).go k e z = (fo S st).go (fun o S st => vwK S st o (fun y => if tyD T y = true then (fa S st).go (fun a S st => vwK S st o (fun y => vwsK S st a (fun x => match op y x with | some d => k d S st | none => z) z) z) e z else z) z) e z := by
  simp only [vwK, vwsK, vdsK, wipeK, restK]
  rw [mE_a, go_bind]; refine go_c fun o S st => ?_
  cases vw S st o with
  | none => rfl
  | some y =>
    show Res.go (ite _ _ _) _ _ _ = ite _ _ _
    split
    · rw [go_bind]; refine go_c fun a S st => ?_; cases vw S st o <;> cases vws S st a <;> first | rfl | (simp only [go_got]; done) | (simp only [go_got]; split <;> simp_all)
    · rfl
@[simp ↓] theorem m0E_g (T : String) (op : D → Option D) (fo : Ev Opd) (k : D → Sls → Store → β) (e : Exc → Sls → Store → β) (z : β) : (m0E T op fo S st).go k e z = (fo S st).go (fun o S st => vwK S st o (fun y => if tyD T y = true then (match op y with | some d => k d S st | none => z) else z) z) e z := by
  simp only [vwK, vwsK, vdsK, wipeK, restK]
  rw [m0E_a, go_bind]; refine go_c fun o S st => ?_
  cases vw S st o with
  | none => rfl
  | some y =>
    show Res.go (ite _ _ _) _ _ _ = ite _ _ _
    split
    · simp only [go_got]; try (split <;> simp_all)
    · rfl
@[simp ↓] theorem fE_g (f : Ev Ow) (k : D → Sls → Store → β) (e : Exc → Sls → Store → β) (z : β) : (fE f S st).go k e z = (f S st).go (fun w S st => k w.d S st) e z := by
  rw [fE_a, go_bind]; rfl
@[simp ↓] theorem lF_g (fa : Ev (List Opd)) (k : Ow → Sls → Store → β) (e : Exc → Sls → Store → β) (z : β) : (lF fa S st).go k e z = (fa S st).go (fun a S st => vdsK S a (fun ds => if ds.length ≤ 16777216 then k (.l ds) S st else z) z) e z := by
  simp only [vwK, vwsK, vdsK, wipeK, restK]
  rw [lF_a, go_bind]; refine go_c fun a S st => ?_
  cases vds S a with
  | none => rfl
  | some ds => show Res.go (ite _ _ _) _ _ _ = ite _ _ _; split <;> rfl
@[simp ↓] theorem pE_g (fa : Ev (List Opd)) (k : D → Sls → Store → β) (e : Exc → Sls → Store → β) (z : β) : (pE fa S st).go k e z = (fa S st).go (fun a S st => vdsK S a (fun ds => if ds.length ≤ 16777216 then k (.tup ds) S st else z) z) e z := by
  simp only [vwK, vwsK, vdsK, wipeK, restK]
  rw [pE_a, go_bind]; refine go_c fun a S st => ?_
  cases vds S a with
  | none => rfl
  | some ds => show Res.go (ite _ _ _) _ _ _ = ite _ _ _; split <;> rfl
@[simp ↓] theorem sN_g  (k : Option Int → Sls → Store → β) (e : Exc → Sls → Store → β) (z : β) : (sN S st).go k e z = k none S st := by
  rfl
@[simp ↓] theorem sS_g (f : Ev D) (k : Option Int → Sls → Store → β) (e : Exc → Sls → Store → β) (z : β) : (sS f S st).go k e z = (f S st).go (fun d S st => match d with | .int i => k (some i) S st | _ => z) e z := by
  rw [sS_a, go_bind]; refine go_c fun d S st => ?_; cases d <;> rfl
@[simp ↓] theorem slE_g (op : D → Option Int → Option Int → Option D) (fa : Ev Opd) (fl fu : Ev (Option Int)) (k : D → Sls → Store → β) (e : Exc → Sls → Store → β) (z : β) : (slE op fa fl fu S st).go k e z = (fa S st).go (fun a S st => (fl S st).go (fun l S st => (fu S st).go (fun u S st => vwK S st a (fun x => match op x l u with | some d => k d S st | none => z) z) e z) e z) e z := by
  simp only [vwK, vwsK, vdsK, wipeK, restK]
  rw [slE_a, go_bind]; refine go_c fun a S st => ?_; rw [go_bind]; refine go_c fun l S st => ?_; rw [go_bind]; refine go_c fun u S st => ?_; cases vw S st a <;> first | rfl | (simp only [go_got]; done) | (simp only [go_got]; split <;> simp_all)
@[simp ↓] theorem cE_g (c : CallT) (fa : Ev (List Opd)) (k : D → Sls → Store → β) (e : Exc → Sls → Store → β) (z : β) : (cE c fa S st).go k e z = (fa S st).go (fun a S st => vdsK S a (fun ds => match c ds st with | .ok d _ st => k d S st | .exc x _ st => e x S st | .stuck => z) z) e z := by
  simp only [vwK, vwsK, vdsK, wipeK, restK]
  rw [cE_a, go_bind]; refine go_c fun a S st => ?_
  cases vds S a with
  | none => rfl
  | some ds => dsimp only; cases c ds st <;> rfl
@[simp ↓] theorem tT_g (f : Ev Opd) (k : Bool → Sls → Store → β) (e : Exc → Sls → Store → β) (z : β) : (tT f S st).go k e z = (f S st).go (fun o S st => vwK S st o (fun d => match tru d with | some b => k b S st | none => z) z) e z := by
  simp only [vwK, vwsK, vdsK, wipeK, restK]
  rw [tT_a, go_bind]; refine go_c fun a S st => ?_; cases vw S st a <;> first | rfl | (simp only [go_got]; done) | (simp only [go_got]; split <;> simp_all)
@[simp ↓] theorem tN_g (f : Ev Bool) (k : Bool → Sls → Store → β) (e : Exc → Sls → Store → β) (z : β) : (tN f S st).go k e z = (f S st).go (fun b S st => k (!b) S st) e z := by
  rw [tN_a, go_bind]; rfl
@[simp ↓] theorem tA_g (f g : Ev Bool) (k : Bool → Sls → Store → β) (e : Exc → Sls → Store → β) (z : β) : (tA f g S st).go k e z = (f S st).go (fun b S st => if b = true then (g S st).go k e z else k false S st) e z := by
  rw [tA_a, go_bind]; refine go_c fun b S st => ?_; cases b <;> rfl
@[simp ↓] theorem tO_g (f g : Ev Bool) (k : Bool → Sls → Store → β) (e : Exc → Sls → Store → β) (z : β) : (tO f g S st).go k e z = (f S st).go (fun b S st => if b = true then k true S st else (g S st).go k e z) e z := by
  rw [tO_a, go_bind]; refine go_c fun b S st => ?_; cases b <;> rfl
@[simp ↓] theorem tV_g (f : Ev D) (k : Bool → Sls → Store → β) (e : Exc → Sls → Store → β) (z : β) : (tV f S st).go k e z = (f S st).go (fun d S st => match d with | .bl b => k b S st | _ => z) e z := by
  rw [tV_a, go_bind]; refine go_c fun b S st => ?_; cases b <;> rfl
@[simp ↓] theorem tY_g  (k : Bool → Sls → Store → β) (e : Exc → Sls → Store → β) (z : β) : (tY S st).go k e z = k true S st := by
  rfl
@[simp ↓] theorem eA_g (f g : Ev D) (k : D → Sls → Store → β) (e : Exc → Sls → Store → β) (z : β) : (eA f g S st).go k e z = (f S st).go (fun d S st => match d with | .bl b => (if b = true then (g S st).go k e z else k (.bl false) S st) | _ => z) e z := by
  rw [eA_a, go_bind]; refine go_c fun d S st => ?_; cases d <;> first | rfl | (rename_i b; cases b <;> rfl)
@[simp ↓] theorem eO_g (f g : Ev D) (k : D → Sls → Store → β) (e : Exc → Sls → Store → β) (z : β) : (eO f g S st).go k e z = (f S st).go (fun d S st => match d with | .bl b => (if b = true then k (.bl true) S st else (g S st).go k e z) | _ => z) e z := by
  rw [eO_a, go_bind]; refine go_c fun d S st => ?_; cases d <;> first | rfl | (rename_i b; cases b <;> rfl)
@[simp ↓] theorem eN_g (f : Ev D) (k : D → Sls → Store → β) (e : Exc → Sls → Store → β) (z : β) : (eN f S st).go k e z = (f S st).go (fun d S st => match d with | .bl b => k (.bl (!b)) S st | _ => z) e z := by
  rw [eN_a, go_bind]; refine go_c fun d S st => ?_; cases d <;> rfl
@[simp ↓] theorem eI_g (t : Ev Bool) (f g : Ev D) (k : D → Sls → Store → β) (e : Exc → Sls → Store → β) (z : β) : (eI t f g S st).go k e z = (t S st).go (fun b S st => if b = true then (f S st).go k e z else (g S st).go k e z) e z := by
  rw [eI_a, go_bind]; refine go_c fun b S st => ?_; cases b <;> rfl
@[simp ↓] theorem iE_g (f : Ev D) (k : List D → Sls → Store → β) (e : Exc → Sls → Store → β) (z : β) : (iE f S st).go k e z = (f S st).go (fun d S st => match itD d with | some ds => k ds S st | none => z) e z := by
  rw [iE_a, go_bind]; refine go_c fun b S st => ?_; simp only [go_got]; try (split <;> simp_all)
@[simp ↓] theorem rgG_g (a n : Int) (k : List D → Sls → Store → β) (e : Exc → Sls → Store → β) (z : β) : (rgG a n S st).go k e z = if (-1000000 ≤ a ∧ a ≤ 1000000) ∧ -1000000 ≤ n ∧ n ≤ 1000000 then k (rng (n - a).toNat a) S st else z := by
  show Res.go (ite _ _ _) _ _ _ = ite _ _ _; split <;> rfl
@[simp ↓] theorem iR1_g (f : Ev (List Opd)) (k : List D → Sls → Store → β) (e : Exc → Sls → Store → β) (z : β) : (iR1 f S st).go k e z = (f S st).go (fun a S st => vwsK S st a (fun l => match l with | [.int n] => (rgG 0 n S st).go k e z | _ => z) z) e z := by
  simp only [vwK, vwsK, vdsK, wipeK, restK]
  rw [iR1_a, go_bind]; refine go_c fun a S st => ?_; rcases vws S st a with _ | l
  · rfl
  · rcases l with _ | ⟨x, r⟩
    · rfl
    · cases x <;> cases r <;> rfl
@[simp ↓] theorem iR2_g (f : Ev (List Opd)) (k : List D → Sls → Store → β) (e : Exc → Sls → Store → β) (z : β) : (iR2 f S st).go k e z = (f S st).go (fun a S st => vwsK S st a (fun l => match l with | [.int a, .int n] => (rgG a n S st).go k e z | _ => z) z) e z := by
  simp only [vwK, vwsK, vdsK, wipeK, restK]
  rw [iR2_a, go_bind]; refine go_c fun a S st => ?_; rcases vws S st a with _ | l
  · rfl
  · rcases l with _ | ⟨x, _ | ⟨y, r⟩⟩
    · rfl
    · cases x <;> rfl
    · cases x <;> first | rfl | (cases y <;> cases r <;> rfl)
@[simp ↓] theorem iEn_g (f : Ev (List Opd)) (k : List D → Sls → Store → β) (e : Exc → Sls → Store → β) (z : β) : (iEn f S st).go k e z = (f S st).go (fun a S st => vdsK S a (fun l => match l with | [d] => (match asL d with | some ds => k (enumD ds) S st | none => z) | _ => z) z) e z := by
  simp only [vwK, vwsK, vdsK, wipeK, restK]
  rw [iEn_a, go_bind]; refine go_c fun a S st => ?_; rcases vds S a with _ | l
  · rfl
  · rcases l with _ | ⟨x, r⟩
    · rfl
    · cases r with
      | nil => dsimp only; cases asL x <;> rfl
      | cons _ _ => rfl
@[simp ↓] theorem iV_g (f : Ev (List Opd)) (k : List D → Sls → Store → β) (e : Exc → Sls → Store → β) (z : β) : (iV f S st).go k e z = (f S st).go (fun a S st => vdsK S a (fun l => match l with | [d] => (match asL d with | some ds => k ds.reverse S st | none => z) | _ => z) z) e z := by
  simp only [vwK, vwsK, vdsK, wipeK, restK]
  rw [iV_a, go_bind]; refine go_c fun a S st => ?_; rcases vds S a with _ | l
  · rfl
  · rcases l with _ | ⟨x, r⟩
    · rfl
    · cases r with
      | nil => dsimp only; cases asL x <;> rfl
      | cons _ _ => rfl
@[simp ↓] theorem iZ_g (f : Ev (List Opd)) (k : List D → Sls → Store → β) (e : Exc → Sls → Store → β) (z : β) : (iZ f S st).go k e z = (f S st).go (fun a S st => vdsK S a (fun l => match l with | [d, d2] => (match asL d, asL d2 with | some ds, some es => k (zipD ds es) S st | _, _ => z) | _ => z) z) e z := by
  simp only [vwK, vwsK, vdsK, wipeK, restK]
  rw [iZ_a, go_bind]; refine go_c fun a S st => ?_; rcases vds S a with _ | l
  · rfl
  · rcases l with _ | ⟨x, _ | ⟨y, r⟩⟩
    · rfl
    · rfl
    · cases r with
      | nil => dsimp only; cases asL x <;> cases asL y <;> rfl
      | cons _ _ => rfl
@[simp ↓] theorem lcF_g (fi : Ev (List D)) (g : Tg) (own : List Nat) (t : Ev Bool) (f : Ev D) (k : Ow → Sls → Store → β) (e : Exc → Sls → Store → β) (z : β) : (lcF fi g own t f S st).go k e z = (fi S st).go (fun ds S st => wipeK S own fun Sw => match lcL g own t f ds Sw st with | .ok ys S2 st => (if ys.length ≤ 16777216 then restK S own S2 (fun S => k (.l ys) S st) else z) | .exc x S st => e x S st | .stuck => z) e z := by
  simp only [vwK, vwsK, vdsK, wipeK, restK]
  rw [lcF_a, go_bind]; refine go_c fun a S st => ?_; rw [go_bind]; cases lcL g own t f a (wipeS S own) st <;> try rfl
  show Res.go (ite _ _ _) _ _ _ = ite _ _ _; split <;> rfl
@[simp ↓] theorem o3E_g (op op2 : D → D → Option D) (f g h : Ev D) (k : D → Sls → Store → β) (e : Exc → Sls → Store → β) (z : β) : (o3E op op2 (oV f) (oV g) (oV h) S st).go k e z = (f S st).go (fun x S st => (g S st).go (fun y S st => match op x y with | some (.bl true) => (h S st).go (fun w S st => match op2 y w with | some d => k d S st | none => z) e z | some (.bl false) => k (.bl false) S st | _ => z) e z) e z := by
  rw [o3E_a, go_bind, oV_g]; refine go_c fun x S st => ?_; rw [go_bind, oV_g]; refine go_c fun y S st => ?_
  show Res.go (match op x y with | some (.bl true) => (oV h S st).bind fun c S st => (match some y, vw S st c with | some y, some z => got (op2 y z) S st | _, _ => .stuck) | some (.bl false) => .ok (.bl false) S st | _ => .stuck) _ _ _ = _
  rcases op x y with _ | d
  · rfl
  · cases d with
    | bl b => cases b with
      | true => show Res.go (Res.bind _ _) _ _ _ = _; rw [go_bind, oV_g]; refine go_c fun w S st => ?_; simp only [vw_v, go_got]; try (split <;> simp_all)
      | false => rfl
    | _ => rfl
@[simp ↓] theorem newE_g (c : Nat) (ks : List Nat) (fa : Ev (List Opd)) (k : D → Sls → Store → β) (e : Exc → Sls → Store → β) (z : β) : (newE c ks fa S st).go k e z = (fa S st).go (fun a S st => vdsK S a (fun ds => if ds.length = ks.length then k (.obj c (ks.zip ds)) S st else z) z) e z := by
  simp only [vwK, vwsK, vdsK, wipeK, restK]
  rw [newE_a, go_bind]; refine go_c fun a S st => ?_
  cases vds S a with
  | none => rfl
  | some ds => show Res.go (ite _ _ _) _ _ _ = ite _ _ _; split <;> rfl
@[simp ↓] theorem mcE_g (cs : List Nat) (mk : Nat) (tab : Nat → CallT) (fo : Ev D) (fa : Ev (List Opd)) (k : D → Sls → Store → β) (e : Exc → Sls → Store → β) (z : β) : (mcE cs mk tab fo fa S st).go k e z = (fo S st).go (fun o S st => match o with | .obj c es => (if c ∈ cs ∧ es.lookup mk = none then (fa S st).go (fun a S st => vdsK S a (fun ds => match tab c (.obj c es :: ds) st with | .ok d _ st => k d S st | .exc x _ st => e x S st | .stuck => z) z) e z else z) | _ => z) e z := by
  simp only [vwK, vwsK, vdsK, wipeK, restK]
  rw [mcE_a, go_bind]; refine go_c fun o S st => ?_
  cases o with
  | obj c es =>
    show Res.go (ite _ _ _) _ _ _ = ite _ _ _
    split
    · rw [go_bind]; refine go_c fun a S st => ?_
      cases vds S a with
      | none => rfl
      | some ds => dsimp only; cases tab c (.obj c es :: ds) st <;> rfl
    · rfl
  | _ => rfl
@[simp ↓] theorem oKE_g (op : List D → D → Option D) (fa : Ev (List Opd)) (fd : Ev D) (k : D → Sls → Store → β) (e : Exc → Sls → Store → β) (z : β) : (oKE op fa fd S st).go k e z = (fa S st).go (fun a S st => (fd S st).go (fun d S st => vwsK S st a (fun x => match op x d with | some d => k d S st | none => z) z) e z) e z := by
  simp only [vwK, vwsK, vdsK, wipeK, restK]
  rw [oKE_a, go_bind]; refine go_c fun a S st => ?_; rw [go_bind]; refine go_c fun d S st => ?_; cases vws S st a <;> first | rfl | (simp only [go_got]; done) | (simp only [go_got]; split <;> simp_all)
@[simp ↓] theorem cKE_g (c : CallT) (fa : Ev (List Opd)) (f2 : Ev D) (k : D → Sls → Store → β) (e : Exc → Sls → Store → β) (z : β) : (cKE c fa f2 S st).go k e z = (fa S st).go (fun a S st => (f2 S st).go (fun y S st => vdsK S a (fun ds => match c (ds ++ [y]) st with | .ok d _ st => k d S st | .exc x _ st => e x S st | .stuck => z) z) e z) e z := by
  simp only [vwK, vwsK, vdsK, wipeK, restK]
  rw [cKE_a, go_bind]; refine go_c fun a S st => ?_; rw [go_bind]; refine go_c fun y S st => ?_
  cases vds S a with
  | none => rfl
  | some ds => dsimp only; cases c (ds ++ [y]) st <;> rfl
@[simp ↓] theorem oZ_g (i : Nat) (k : Ow → Sls → Store → β) (e : Exc → Sls → Store → β) (z : β) : (oZ i S st).go k e z = getK S i (fun s => match s with | .own w => setK S i .no (fun S => k w S st) | _ => z) z := by
  rw [oZ_a]; unfold getK; rcases S[i]? with _ | s
  · rfl
  · cases s <;> rfl
@[simp ↓] theorem coE_g (c : CallO) (fa : Ev (List Opd)) (k : Ow → Sls → Store → β) (e : Exc → Sls → Store → β) (z : β) : (coE c fa S st).go k e z = (fa S st).go (fun a S st => vdsK S a (fun ds => match c (ds.map .d) st with | .ok w _ st => k w S st | .exc x _ st => e x S st | .stuck => z) z) e z := by
  simp only [vwK, vwsK, vdsK, wipeK, restK]
  rw [coE_a, go_bind]; refine go_c fun a S st => ?_
  cases vds S a with
  | none => rfl
  | some ds => dsimp only; cases c (ds.map .d) st <;> rfl
@[simp ↓] theorem coF_g (c : CallO) (j : Nat) (fa : Ev (List Opd)) (k : Ow → Sls → Store → β) (e : Exc → Sls → Store → β) (z : β) : (coF c j fa S st).go k e z = getK S j (fun s => match s with | .own _ => (fa S st).go (fun a S st => vdsK S a (fun ds => getK S j (fun s => match s with | .own w => (match c (.own w :: ds.map .d) st with | .ok w _ st => setK S j .no fun S => k w S st | .exc x _ st => setK S j .no fun S => e x S st | .stuck => z) | _ => z) z) z) e z | _ => z) z := by
  simp only [vwK, vwsK, vdsK, wipeK, restK]
  rw [coF_a]; unfold getK; rcases S[j]? with _ | s
  · rfl
  · cases s with
    | own w0 =>
      dsimp only; rw [go_bind]; refine go_c fun a S st => ?_
      cases vds S a with
      | none => rfl
      | some ds =>
        dsimp only
        rcases S[j]? with _ | s
        · rfl
        · cases s with
          | own w => dsimp only; cases c (.own w :: ds.map .d) st <;> rfl
          | _ => rfl
    | _ => rfl
@[simp ↓] theorem oSrt_g (fa : Ev Opd) (k : Ow → Sls → Store → β) (e : Exc → Sls → Store → β) (z : β) : (oSrt fa S st).go k e z = (fa S st).go (fun a S st => vwK S st a (fun x => match asL x with | some ds => (match intsD ds with | some ns => (if ns.length < 1000 ∧ (srt ns).length < 64 then k (.l ((srt ns).map .int)) S st else z) | none => z) | none => z) z) e z := by
  simp only [vwK, vwsK, vdsK, wipeK, restK]
  rw [oSrt_a, go_bind]; refine go_c fun a S st => ?_
  cases vw S st a with
  | none => rfl
  | some x =>
    dsimp only
    cases asL x with
    | none => rfl
    | some ds =>
      dsimp only
      cases intsD ds with
      | none => rfl
      | some ns => dsimp only; split <;> rfl
@[simp ↓] theorem kF0_g  (k : Ow → Sls → Store → β) (e : Exc → Sls → Store → β) (z : β) : (kF0 S st).go k e z = k (.k []) S st := by
  rfl
@[simp ↓] theorem kF_g (ks : List (List Nat)) (fa : Ev (List Opd)) (k : Ow → Sls → Store → β) (e : Exc → Sls → Store → β) (z : β) : (kF ks fa S st).go k e z = (fa S st).go (fun a S st => vdsK S a (fun ds => if ds.length = ks.length then k (.k (mergeD [] ((ks.map D.str).zip ds))) S st else z) z) (fun _ _ _ => z) z := by
  simp only [vwK, vwsK, vdsK, wipeK, restK]
  unfold kF; rw [go_bind, calm_go]; refine go_c fun a S st => ?_
  cases vds S a with
  | none => rfl
  | some ds => show Res.go (ite _ _ _) _ _ _ = ite _ _ _; split <;> rfl
@[simp ↓] theorem isE_g (T : XTab) (a : Addr) (cx : Nat) (ts : List (Option Nat)) (i : Nat) (k : D → Sls → Store → β) (e : Exc → Sls → Store → β) (z : β) : (isE T a cx ts i S st).go k e z = getK S i (fun s => match s with | .d (.err a2 c2) => (if a2 = a ∧ c2 = cx then (match isX T cx ts with | some b => k (.bl b) S st | none => z) else z) | _ => z) z := by
  unfold isE getK; rcases S[i]? with _ | s
  · rfl
  · cases s with
    | d x => cases x <;> try rfl
             dsimp only; split
             · cases isX T cx ts <;> rfl
             · rfl
    | _ => rfl
@[simp ↓] theorem cPE_g (f : CallP) (a : Addr) (cx i : Nat) (k : D → Sls → Store → β) (e : Exc → Sls → Store → β) (z : β) : (cPE f a cx i S st).go k e z = getK S i (fun s => match s with | .d (.err a2 c2) => (if a2 = a ∧ c2 = cx then (match f a cx [.err a cx] st with | .ok d _ st => k d S st | _ => z) else z) | _ => z) z := by
  unfold cPE getK; rcases S[i]? with _ | s
  · rfl
  · cases s with
    | d x => cases x <;> try rfl
             dsimp only; split
             · cases f a cx [.err a cx] st <;> rfl
             · rfl
    | _ => rfl
@[simp ↓] theorem oH_g (f : Ev D) (k : Opd → Sls → Store → β) (e : Exc → Sls → Store → β) (z : β) : (oH f S st).go k e z = (f S st).go (fun d S st => k (hnd d) S st) e z := by
  unfold oH; rw [go_bind]; refine go_c fun d S st => ?_; rfl
@[simp ↓] theorem aE_g (f : Ev Ow) (k : D → Sls → Store → β) (e : Exc → Sls → Store → β) (z : β) : (aE f S st).go k e z = (f S st).go (fun w S st => k (.loc st.length) S (st ++ [.o w])) e z := by
  unfold aE; rw [go_bind]; refine go_c fun d S st => ?_; rfl
@[simp ↓] theorem mhE_g (cs : List Nat) (mk : Nat) (tab : Nat → CallT) (fo : Ev D) (fa : Ev (List Opd)) (k : D → Sls → Store → β) (e : Exc → Sls → Store → β) (z : β) : (mhE cs mk tab fo fa S st).go k e z = (fo S st).go (fun o S st => match o with | .loc n => (match st[n]? with | some (.i c es) => (if c ∈ cs ∧ es.lookup mk = none then (fa S st).go (fun a S st => vdsK S a (fun ds => match tab c (.loc n :: ds) st with | .ok d _ st => k d S st | .exc x _ st => e x S st | .stuck => z) z) e z else z) | _ => z) | _ => z) e z := by
  simp only [vwK, vwsK, vdsK, wipeK, restK]
  unfold mhE; rw [go_bind]; refine go_c fun o S st => ?_
  cases o with
  | loc n =>
    dsimp only
    rcases st[n]? with _ | x
    · rfl
    · cases x with
      | i c es =>
        show Res.go (ite _ _ _) _ _ _ = ite _ _ _
        split
        · rw [go_bind]; refine go_c fun a S st => ?_
          cases vds S a with
          | none => rfl
          | some ds => dsimp only; cases tab c (.loc n :: ds) st <;> rfl
        · rfl
      | _ => rfl
  | _ => rfl
@[simp ↓] theorem newH_g (c : Nat) (ci : CallT) (fa : Ev (List Opd)) (k : D → Sls → Store → β) (e : Exc → Sls → Store → β) (z : β) : (newH c ci fa S st).go k e z = (fa S st).go (fun a S st => vdsK S a (fun ds => match ci (.loc st.length :: ds) (st ++ [.i c []]) with | .ok .non _ st2 => k (.loc st.length) S st2 | _ => z) z) e z := by
  simp only [vwK, vwsK, vdsK, wipeK, restK]
  unfold newH; rw [go_bind]; refine go_c fun a S st => ?_
  cases vds S a with
  | none => rfl
  | some ds =>
    dsimp only
    generalize ci (.loc st.length :: ds) (st ++ [.i c []]) = r
    rcases r with d | _ | _
    · cases d <;> rfl
    · rfl
    · rfl
@[simp ↓] theorem o2L_g (op : D → D → Option D) (fa fb : Ev D) (k : D → Sls → Store → β) (e : Exc → Sls → Store → β) (z : β) : (o2L op fa fb S st).go k e z = (fa S st).go (fun a S st => (fb S st).go (fun b S st => match dp st 40 a, dp st 40 b with | some x, some y => (match op x y with | some d => (if scal d = true then k d S st else z) | none => z) | _, _ => z) e z) e z := by
  unfold o2L; rw [go_bind]; refine go_c fun a S st => ?_; rw [go_bind]; refine go_c fun b S st => ?_
  cases dp st 40 a with
  | none => rfl
  | some x => cases dp st 40 b with
    | none => rfl
    | some y => dsimp only; cases op x y with
      | none => rfl
      | some d => dsimp only; split <;> rfl
@[simp ↓] theorem ePopL_g (fo : Ev Opd) (k : D → Sls → Store → β) (e : Exc → Sls → Store → β) (z : β) : (ePopL fo S st).go k e z = (fo S st).go (fun a S st => match a with | .h n => (match st[n]? with | some (.o (.l ds)) => (match ds.getLast? with | some d => setS st n (.o (.l ds.dropLast)) fun st => k d S st | none => z) | _ => z) | _ => z) e z := by
  unfold ePopL; rw [go_bind]; refine go_c fun a S st => ?_
  cases a with
  | h n =>
    dsimp only
    rcases st[n]? with _ | x
    · rfl
    · cases x with
      | o w => cases w with
        | l ds => dsimp only; cases ds.getLast? <;> rfl
        | k _ => rfl
      | _ => rfl
  | _ => rfl
@[simp ↓] theorem eClrL_g (fo : Ev Opd) (k : D → Sls → Store → β) (e : Exc → Sls → Store → β) (z : β) : (eClrL fo S st).go k e z = (fo S st).go (fun a S st => match a with | .h n => (match st[n]? with | some (.o (.l _)) => setS st n (.o (.l [])) fun st => k .non S st | _ => z) | _ => z) e z := by
  unfold eClrL; rw [go_bind]; refine go_c fun a S st => ?_
  cases a with
  | h n =>
    dsimp only
    rcases st[n]? with _ | x
    · rfl
    · cases x with
      | o w => cases w with
        | l ds => rfl
        | k _ => rfl
      | _ => rfl
  | _ => rfl
@[simp ↓] theorem sNil_p  : sNil S st = .nx S st := by rfl
@[simp ↓] theorem sSeq_p (f g : EvS) : sSeq f g S st = (f S st).then g := by rfl
@[simp ↓] theorem sE_p (f : Ev D) : sE f S st = (f S st).go (fun _ S st => .nx S st) .exc .stuck := by exact Res.out_go ..
@[simp ↓] theorem sRO_p (f : Ev Ow) : sRO f S st = (f S st).go (fun w S st => .rto w S st) .exc .stuck := by exact Res.out_go ..
@[simp ↓] theorem sR_p (f : Ev D) : sR f S st = (f S st).go (fun d S st => .ret d S st) .exc .stuck := by exact Res.out_go ..
@[simp ↓] theorem sI_p (t : Ev Bool) (f g : EvS) : sI t f g S st = (t S st).go (fun b S st => if b = true then f S st else g S st) .exc .stuck := by exact Res.out_go ..
@[simp ↓] theorem sV_p (i : Nat) (f : Ev D) : sV i f S st = (f S st).go (fun d S st => setK S i (.d d) fun S => .nx S st) .exc .stuck := by exact Res.out_go ..
@[simp ↓] theorem sO_p (i : Nat) (f : Ev Ow) : sO i f S st = (f S st).go (fun w S st => setK S i (.own w) fun S => .nx S st) .exc .stuck := by exact Res.out_go ..
@[simp ↓] theorem sG_p (g : Tg) (f : Ev D) : sG g f S st = (f S st).go (fun d S st => match g d S with | some S2 => .nx S2 st | none => .stuck) .exc .stuck := by exact Res.out_go ..
@[simp ↓] theorem sFH_p (fo : Ev Opd) (g : Tg) (b : EvS) : sFH fo g b S st = (fo S st).go (fun a S st => match a with | .h n => (match st[n]? with | some (.o (.l ds)) => forH g b n ds.length 0 S st | _ => .stuck) | _ => .stuck) .exc .stuck := by exact Res.out_go ..
@[simp ↓] theorem sF_p (f : Ev (List D)) (g : Tg) (b : EvS) : sF f g b S st = (f S st).go (fun ds S st => forL g b ds S st) .exc .stuck := by exact Res.out_go ..
@[simp ↓] theorem sAug_p (i : Nat) (op : D → D → Option D) (f : Ev Opd) : sAug i op f S st = getK S i (fun s => match s with | .d x => (f S st).go (fun y S st => vwK S st y (fun y => match op x y with | some v => setK S i (.d v) fun S => .nx S st | none => .stuck) .stuck) .exc .stuck | _ => .stuck) .stuck := by
  simp only [vwK, vwsK, vdsK]
  rw [sAug_a]; unfold getK; rcases S[i]? with _ | s
  · rfl
  · cases s with
    | d x => exact Res.out_go ..
    | _ => rfl
@[simp ↓] theorem sAp_p (i : Nat) (f : Ev D) : sAp i (oV f) S st = getK S i (fun s => match s with | .own (.l _) => (f S st).go (fun d S st => getK S i (fun s => match s with | .own (.l ds) => if ds.length < 16777216 then setK S i (.own (.l (ds ++ [d]))) fun S => .nx S st else .stuck | _ => .stuck) .stuck) .exc .stuck | _ => .stuck) .stuck := by 
  rw [sAp_a]; unfold getK; rcases S[i]? with _ | ⟨_ | _ | ⟨_ | _⟩⟩ <;> try rfl
  dsimp only; rw [Res.out_go, oV_g]; refine go_c fun d S st => ?_
  dsimp only [vd_v]; rcases S[i]? with _ | ⟨_ | _ | ⟨_ | _⟩⟩ <;> rfl
@[simp ↓] theorem sEx_p (i : Nat) (f : Ev D) : sEx i f S st = getK S i (fun s => match s with | .own (.l _) => (f S st).go (fun d S st => match d with | .lst es => getK S i (fun s => match s with | .own (.l ds) => if ds.length + es.length ≤ 16777216 then setK S i (.own (.l (ds ++ es))) fun S => .nx S st else .stuck | _ => .stuck) .stuck | _ => .stuck) .exc .stuck | _ => .stuck) .stuck := by 
  rw [sEx_a]; unfold getK; rcases S[i]? with _ | ⟨_ | _ | ⟨_ | _⟩⟩ <;> try rfl
  dsimp only; rw [Res.out_go]; refine go_c fun d S st => ?_
  cases d <;> try rfl
  dsimp only; rcases S[i]? with _ | ⟨_ | _ | ⟨_ | _⟩⟩ <;> rfl
@[simp ↓] theorem sSet_p (i : Nat) (fv fj : Ev D) : sSet i fv fj S st = (fv S st).go (fun d S st => getK S i (fun s => match s with | .own (.l _) => (fj S st).go (fun j S st => match j with | .int n => getK S i (fun s => match s with | .own (.l ds) => (match ixN ds.length n with | some j => setK S i (.own (.l (ds.set j d))) fun S => .nx S st | none => .stuck) | _ => .stuck) .stuck | _ => .stuck) .exc .stuck | _ => .stuck) .stuck) .exc .stuck := by 
  show (fv S st).out _ = _; rw [Res.out_go]; refine go_c fun d S st => ?_
  unfold getK; rcases S[i]? with _ | ⟨_ | _ | ⟨_ | _⟩⟩ <;> try rfl
  dsimp only; rw [Res.out_go]; refine go_c fun j S st => ?_
  cases j <;> try rfl
  dsimp only; rcases S[i]? with _ | ⟨_ | _ | ⟨_ | _⟩⟩ <;> rfl
@[simp ↓] theorem sAugS_p (i : Nat) (g : Int → Int → Int) (fj fv : Ev D) : sAugS i g fj fv S st = getK S i (fun s => match s with | .own (.l _) => (fj S st).go (fun j S st => match j with | .int n => getK S i (fun s => match s with | .own (.l ds) => (match L2.atI ds n with | some (.int a) => (fv S st).go (fun y S st => match y with | .int b => getK S i (fun s => match s with | .own (.l es) => (match ixN es.length n with | some j => setK S i (.own (.l (es.set j (.int (g a b))))) fun S => .nx S st | none => .stuck) | _ => .stuck) .stuck | _ => .stuck) .exc .stuck | _ => .stuck) | _ => .stuck) .stuck | _ => .stuck) .exc .stuck | _ => .stuck) .stuck := by 
  unfold sAugS getK; rcases S[i]? with _ | ⟨_ | _ | ⟨_ | _⟩⟩ <;> try rfl
  dsimp only; rw [Res.out_go]; refine go_c fun j S st => ?_
  cases j <;> try rfl
  rename_i n; dsimp only; rcases S[i]? with _ | ⟨_ | _ | ⟨_ | _⟩⟩ <;> try rfl
  rename_i ds; dsimp only; rcases L2.atI ds n with _ | d
  · rfl
  · cases d <;> try rfl
    dsimp only; rw [Res.out_go]; refine go_c fun y S st => ?_
    cases y <;> try rfl
    dsimp only; rcases S[i]? with _ | ⟨_ | _ | ⟨_ | _⟩⟩ <;> rfl
@[simp ↓] theorem sPut_p (i : Nat) (fv fj : Ev D) : sPut i fv fj S st = (fv S st).go (fun d S st => getK S i (fun s => match s with | .own (.k _) => (fj S st).go (fun j S st => getK S i (fun s => match s with | .own (.k ds) => (if isKey j = true ∧ ds.length < 16777216 then setK S i (.own (.k (putD ds j d))) fun S => .nx S st else .stuck) | _ => .stuck) .stuck) .exc .stuck | _ => .stuck) .stuck) .exc .stuck := by 
  show (fv S st).out _ = _; rw [Res.out_go]; refine go_c fun d S st => ?_
  unfold getK; rcases S[i]? with _ | ⟨_ | _ | ⟨_ | _⟩⟩ <;> try rfl
  dsimp only; rw [Res.out_go]; refine go_c fun j S st => ?_
  rcases S[i]? with _ | ⟨_ | _ | ⟨_ | _⟩⟩ <;> rfl
@[simp ↓] theorem sP_p (i j : Nat) (fa : Ev (List Opd)) : sP i j fa S st = (fa S st).go (fun a S st => vdsK S a (fun l => match l with | [x, y] => setK S i (.d x) fun S => setK S j (.d y) fun S => .nx S st | _ => .stuck) .stuck) .exc .stuck := by
  simp only [vwK, vwsK, vdsK]
  rw [sP_a, Res.out_go]; refine go_c fun a S st => ?_
  rcases vds S a with _ | l
  · rfl
  · rcases l with _ | ⟨x, _ | ⟨y, _ | ⟨w, r⟩⟩⟩ <;> rfl
@[simp ↓] theorem sApL_p (fo : Ev Opd) (f : Ev D) : sApL fo (oV f) S st = (fo S st).go (fun a S st => match a with | .h n => (match st[n]? with | some (.o (.l _)) => (f S st).go (fun d S st => match st[n]? with | some (.o (.l ds)) => (if ds.length < 16777216 then setS st n (.o (.l (ds ++ [d]))) fun st => .nx S st else .stuck) | _ => .stuck) .exc .stuck | _ => .stuck) | _ => .stuck) .exc .stuck := by 
  unfold sApL; rw [Res.out_go]; refine go_c fun a S st => ?_
  cases a with
  | h n =>
    dsimp only
    rcases st[n]? with _ | x
    · rfl
    · cases x with
      | o w => cases w with
        | l ds => dsimp only; rw [Res.out_go, oV_g]; refine go_c fun d S st => ?_; dsimp only [vd_v]; rcases st[n]? with _ | x
                  · rfl
                  · cases x with
                    | o w => cases w <;> rfl
                    | _ => rfl
        | k _ => rfl
      | _ => rfl
  | _ => rfl
@[simp ↓] theorem sFL_p (cs : List Nat) (kf : Nat) (fo : Ev Opd) (fe : Ev D) : sFL cs kf fo fe S st = (fe S st).go (fun d S st => (fo S st).go (fun a S st => match a with | .h n => (match st[n]? with | some (.i c es) => (if c ∈ cs ∧ es.length < 1000 then setS st n (.i c (putD' kf d es)) fun st => .nx S st else .stuck) | _ => .stuck) | _ => .stuck) .exc .stuck) .exc .stuck := by 
  unfold sFL; rw [Res.out_go]; refine go_c fun d S st => ?_; rw [Res.out_go]; refine go_c fun a S st => ?_
  cases a with
  | h n =>
    dsimp only
    rcases st[n]? with _ | x
    · rfl
    · cases x <;> rfl
  | _ => rfl
@[simp ↓] theorem sFLA_p (cs : List Nat) (kf : Nat) (op : D → D → Option D) (fo fe : Ev Opd) : sFLA cs kf op fo fe S st = (fo S st).go (fun a S st => match a with | .h n => (match st[n]? with | some (.i c es) => (if c ∈ cs ∧ es.length < 1000 then (match es.lookup kf with | some u => (fe S st).go (fun b S st => vwK S st b (fun y => match st[n]? with | some (.i c2 es2) => (if c2 = c ∧ es2.length < 1000 then (match op u y with | some d => setS st n (.i c (putD' kf d es2)) fun st => .nx S st | none => .stuck) else .stuck) | _ => .stuck) .stuck) .exc .stuck | none => .stuck) else .stuck) | _ => .stuck) | _ => .stuck) .exc .stuck := by
  simp only [vwK, vwsK, vdsK]
  unfold sFLA; rw [Res.out_go]; refine go_c fun a S st => ?_
  cases a with
  | h n =>
    dsimp only
    rcases st[n]? with _ | x
    · rfl
    · cases x with
      | i c es =>
        dsimp only; split
        · cases es.lookup kf with
          | none => rfl
          | some u =>
            dsimp only; rw [Res.out_go]; refine go_c fun b S st => ?_
            cases vw S st b with
            | none => rfl
            | some y =>
              dsimp only [vwK]
              rcases st[n]? with _ | x2
              · rfl
              · cases x2 with
                | i c2 es2 => dsimp only; split <;> first | rfl | (cases op u y <;> rfl)
                | _ => rfl
        · rfl
      | _ => rfl
  | _ => rfl
@[simp ↓] theorem sSetL_p (fo : Ev Opd) (fv fj : Ev D) : sSetL fo fv fj S st = (fv S st).go (fun d S st => (fo S st).go (fun a S st => match a with | .h n => (fj S st).go (fun j S st => match j with | .int i => (match st[n]? with | some (.o (.l ds)) => (match ixN ds.length i with | some j => setS st n (.o (.l (ds.set j d))) fun st => .nx S st | none => .stuck) | _ => .stuck) | _ => .stuck) .exc .stuck | _ => .stuck) .exc .stuck) .exc .stuck := by 
  unfold sSetL; rw [Res.out_go]; refine go_c fun d S st => ?_; rw [Res.out_go]; refine go_c fun a S st => ?_
  cases a with
  | h n =>
    dsimp only; rw [Res.out_go]; refine go_c fun j S st => ?_
    cases j <;> try rfl
    dsimp only
    rcases st[n]? with _ | x
    · rfl
    · cases x with
      | o w => cases w <;> rfl
      | _ => rfl
  | _ => rfl
@[simp ↓] theorem sX_p (c : Nat) : sX c S st = .exc ⟨c, []⟩ S st := by rfl
@[simp] theorem clr_nx (i : Nat) (S : Sls) (st : Store) : clr i (.nx S st) = .nx (S.set i .no) st := rfl
@[simp] theorem clr_ret (i : Nat) (d : D) (S : Sls) (st : Store) : clr i (.ret d S st) = .ret d (S.set i .no) st := rfl
@[simp] theorem pickO_c (o : Out) : pickO (fun _ => o) = o := pickO_eq fun _ => rfl
theorem sTryA_exc {T : XTab} {h i c : Nat} {fb : EvS} {fs : Addr → Nat → EvS} {S1 : Sls} {st1 : Store} {o : Out} (e : fb S st = .exc ⟨c, []⟩ S1 st1) (hl : xLook T c h = some true) (ho : ∀ a, clr i (fs a c (S1.set i (.d (.err a c))) st1) = o) : sTryA T h i fb fs S st = o := by unfold sTryA; rw [e]; dsimp only; rw [hl]; exact pickO_eq ho
theorem sTryA_nx {T : XTab} {h i : Nat} {fb : EvS} {fs : Addr → Nat → EvS} {S1 : Sls} {st1 : Store} (e : fb S st = .nx S1 st1) : sTryA T h i fb fs S st = .nx S1 st1 := by unfold sTryA; rw [e]
theorem then_go {α : Type} (r : Res α) (G : α → Sls → Store → Out) (k : Sls → Store → Out) : (r.out G).then k = r.go (fun a S st => (G a S st).then k) .exc .stuck := by cases r <;> rfl
@[simp ↓] theorem then_go2 {α : Type} (r : Res α) (G : α → Sls → Store → Out) (k : Sls → Store → Out) : (r.go G .exc .stuck).then k = r.go (fun a S st => (G a S st).then k) .exc .stuck := by cases r <;> rfl
@[simp ↓] theorem then_getK (S : Sls) (i : Nat) (G : Sl → Out) (k : Sls → Store → Out) : (getK S i G .stuck).then k = getK S i (fun s => (G s).then k) .stuck := by unfold getK; cases S[i]? <;> rfl
@[simp ↓] theorem then_setK (S : Sls) (i : Nat) (x : Sl) (G : Sls → Out) (k : Sls → Store → Out) : (setK S i x G).then k = setK S i x (fun S => (G S).then k) := rfl
@[simp ↓] theorem then_ite (c : Prop) [Decidable c] (a b : Out) (k : Sls → Store → Out) : (if c then a else b).then k = if c then a.then k else b.then k := by split <;> rfl
@[simp ↓] theorem sSeq_t (f g : EvS) (k : Sls → Store → Out) : (sSeq f g S st).then k = (f S st).then fun S st => (g S st).then k := by
  show ((f S st).then g).then k = _; cases f S st <;> rfl
@[simp ↓] theorem sE_t (f : Ev D) (k : Sls → Store → Out) : (sE f S st).then k = (f S st).go (fun _ S st => k S st) .exc .stuck := by
  rw [sE_a, then_go]; rfl
@[simp ↓] theorem sV_t (i : Nat) (f : Ev D) (k : Sls → Store → Out) : (sV i f S st).then k = (f S st).go (fun d S st => setK S i (.d d) fun S => k S st) .exc .stuck := by
  rw [sV_a, then_go]; rfl
@[simp ↓] theorem sO_t (i : Nat) (f : Ev Ow) (k : Sls → Store → Out) : (sO i f S st).then k = (f S st).go (fun w S st => setK S i (.own w) fun S => k S st) .exc .stuck := by
  rw [sO_a, then_go]; rfl
@[simp ↓] theorem sI_t (t : Ev Bool) (f g : EvS) (k : Sls → Store → Out) : (sI t f g S st).then k = (t S st).go (fun b S st => if b = true then (f S st).then k else (g S st).then k) .exc .stuck := by
  rw [sI_a, then_go]; exact go_c fun b S st => by cases b <;> rfl
@[simp ↓] theorem sG_t (g : Tg) (f : Ev D) (k : Sls → Store → Out) : (sG g f S st).then k = (f S st).go (fun d S st => match g d S with | some S2 => k S2 st | none => .stuck) .exc .stuck := by
  rw [sG_a, then_go]; exact go_c fun b S st => by cases g b S <;> rfl
@[simp ↓] theorem sFH_t (fo : Ev Opd) (g : Tg) (b : EvS) (k : Sls → Store → Out) : (sFH fo g b S st).then k = (fo S st).go (fun a S st => match a with | .h n => (match st[n]? with | some (.o (.l ds)) => (match forH g b n ds.length 0 S st with | .nx S st => k S st | .ret d S st => .ret d S st | .bk S st => .bk S st | .ct S st => .ct S st | .rto w S st => .rto w S st | .exc x S st => .exc x S st | .stuck => .stuck) | _ => .stuck) | _ => .stuck) .exc .stuck := by
  rw [sFH_p, then_go2]; refine go_c fun a S st => ?_
  cases a with
  | h n =>
    dsimp only
    rcases st[n]? with _ | x
    · rfl
    · cases x with
      | o w => cases w with
        | l ds => dsimp only; cases forH g b n ds.length 0 S st <;> rfl
        | _ => rfl
      | _ => rfl
  | _ => rfl
@[simp ↓] theorem sF_t (f : Ev (List D)) (g : Tg) (b : EvS) (k : Sls → Store → Out) : (sF f g b S st).then k = (f S st).go (fun ds S st => match forL g b ds S st with | .nx S st => k S st | .ret d S st => .ret d S st | .bk S st => .bk S st | .ct S st => .ct S st | .rto w S st => .rto w S st | .exc x S st => .exc x S st | .stuck => .stuck) .exc .stuck := by
  rw [sF_a, then_go]; refine go_c fun ds S st => ?_; cases forL g b ds S st <;> rfl
@[simp ↓] theorem sW_t (c : Ev Bool) (b : EvS) (k : Sls → Store → Out) : (sW c b S st).then k = match sW c b S st with | .nx S st => k S st | .ret d S st => .ret d S st | .bk S st => .bk S st | .ct S st => .ct S st | .rto w S st => .rto w S st | .exc x S st => .exc x S st | .stuck => .stuck := by
  cases sW c b S st <;> rfl
@[simp ↓] theorem sNil_t  (k : Sls → Store → Out) : (sNil S st).then k = k S st := by
  rfl
@[simp ↓] theorem sR_t (f : Ev D) (k : Sls → Store → Out) : (sR f S st).then k = (f S st).go (fun d S st => .ret d S st) .exc .stuck := by
  rw [sR_a, then_go]; rfl
@[simp ↓] theorem sRO_t (f : Ev Ow) (k : Sls → Store → Out) : (sRO f S st).then k = (f S st).go (fun w S st => .rto w S st) .exc .stuck := by
  rw [sRO_a, then_go]; rfl
@[simp ↓] theorem then_rto_p (w : Ow) (k : Sls → Store → Out) : (Out.rto w S st).then k = .rto w S st := rfl
@[simp ↓] theorem then_nx_p (k : Sls → Store → Out) : (Out.nx S st).then k = k S st := rfl
@[simp ↓] theorem then_ret_p (d : D) (k : Sls → Store → Out) : (Out.ret d S st).then k = .ret d S st := rfl
@[simp ↓] theorem then_bk_p (k : Sls → Store → Out) : (Out.bk S st).then k = .bk S st := rfl
@[simp ↓] theorem then_ct_p (k : Sls → Store → Out) : (Out.ct S st).then k = .ct S st := rfl
@[simp ↓] theorem then_exc_p (x : Exc) (k : Sls → Store → Out) : (Out.exc x S st).then k = .exc x S st := rfl
@[simp ↓] theorem sAug_t (i : Nat) (op : D → D → Option D) (f : Ev Opd) (k : Sls → Store → Out) : (sAug i op f S st).then k = getK S i (fun s => match s with | .d x => (f S st).go (fun y S st => vwK S st y (fun y => match op x y with | some v => setK S i (.d v) fun S => k S st | none => .stuck) .stuck) .exc .stuck | _ => .stuck) .stuck := by
  rw [sAug_p]; simp only [vwK, vwsK, vdsK]; unfold getK; rcases S[i]? with _ | s
  · rfl
  · cases s with
    | d x =>
      dsimp only; rw [then_go2]; refine go_c fun y S st => ?_
      cases vw S st y with
      | none => rfl
      | some y => dsimp only; cases op x y <;> rfl
    | _ => rfl
@[simp ↓] theorem sAp_t (i : Nat) (f : Ev D) (k : Sls → Store → Out) : (sAp i (oV f) S st).then k = getK S i (fun s => match s with | .own (.l _) => (f S st).go (fun d S st => getK S i (fun s => match s with | .own (.l ds) => if ds.length < 16777216 then setK S i (.own (.l (ds ++ [d]))) fun S => k S st else .stuck | _ => .stuck) .stuck) .exc .stuck | _ => .stuck) .stuck := by
  rw [sAp_p]; unfold getK; rcases S[i]? with _ | ⟨_ | _ | ⟨_ | _⟩⟩ <;> try rfl
  dsimp only; rw [then_go2]; refine go_c fun d S st => ?_
  rcases S[i]? with _ | ⟨_ | _ | ⟨_ | _⟩⟩ <;> try rfl
  dsimp only; split <;> rfl
@[simp ↓] theorem sEx_t (i : Nat) (f : Ev D) (k : Sls → Store → Out) : (sEx i f S st).then k = getK S i (fun s => match s with | .own (.l _) => (f S st).go (fun d S st => match d with | .lst es => getK S i (fun s => match s with | .own (.l ds) => if ds.length + es.length ≤ 16777216 then setK S i (.own (.l (ds ++ es))) fun S => k S st else .stuck | _ => .stuck) .stuck | _ => .stuck) .exc .stuck | _ => .stuck) .stuck := by
  rw [sEx_p]; unfold getK; rcases S[i]? with _ | ⟨_ | _ | ⟨_ | _⟩⟩ <;> try rfl
  dsimp only; rw [then_go2]; refine go_c fun d S st => ?_
  cases d <;> try rfl
  dsimp only; rcases S[i]? with _ | ⟨_ | _ | ⟨_ | _⟩⟩ <;> try rfl
  dsimp only; split <;> rfl
@[simp ↓] theorem sSet_t (i : Nat) (fv fj : Ev D) (k : Sls → Store → Out) : (sSet i fv fj S st).then k = (fv S st).go (fun d S st => getK S i (fun s => match s with | .own (.l _) => (fj S st).go (fun j S st => match j with | .int n => getK S i (fun s => match s with | .own (.l ds) => (match ixN ds.length n with | some j => setK S i (.own (.l (ds.set j d))) fun S => k S st | none => .stuck) | _ => .stuck) .stuck | _ => .stuck) .exc .stuck | _ => .stuck) .stuck) .exc .stuck := by
  rw [sSet_p]; rw [then_go2]; refine go_c fun d S st => ?_
  unfold getK; rcases S[i]? with _ | ⟨_ | _ | ⟨_ | _⟩⟩ <;> try rfl
  dsimp only; rw [then_go2]; refine go_c fun j S st => ?_
  cases j with
  | int n =>
    dsimp only
    rcases S[i]? with _ | s
    · rfl
    · cases s with
      | own w => cases w with
        | l ds => dsimp only; cases ixN ds.length n <;> rfl
        | k _ => rfl
      | _ => rfl
  | _ => rfl
@[simp ↓] theorem sAugS_t (i : Nat) (g : Int → Int → Int) (fj fv : Ev D) (k : Sls → Store → Out) : (sAugS i g fj fv S st).then k = getK S i (fun s => match s with | .own (.l _) => (fj S st).go (fun j S st => match j with | .int n => getK S i (fun s => match s with | .own (.l ds) => (match L2.atI ds n with | some (.int a) => (fv S st).go (fun y S st => match y with | .int b => getK S i (fun s => match s with | .own (.l es) => (match ixN es.length n with | some j => setK S i (.own (.l (es.set j (.int (g a b))))) fun S => k S st | none => .stuck) | _ => .stuck) .stuck | _ => .stuck) .exc .stuck | _ => .stuck) | _ => .stuck) .stuck | _ => .stuck) .exc .stuck | _ => .stuck) .stuck := by
  rw [sAugS_p]; unfold getK; rcases S[i]? with _ | ⟨_ | _ | ⟨_ | _⟩⟩ <;> try rfl
  dsimp only; rw [then_go2]; refine go_c fun j S st => ?_
  cases j <;> try rfl
  rename_i n; dsimp only; rcases S[i]? with _ | ⟨_ | _ | ⟨_ | _⟩⟩ <;> try rfl
  rename_i ds; dsimp only; rcases L2.atI ds n with _ | d
  · rfl
  · cases d <;> try rfl
    dsimp only; rw [then_go2]; refine go_c fun y S st => ?_
    cases y <;> try rfl
    dsimp only; rcases S[i]? with _ | s
    · rfl
    · cases s with
      | own w => cases w with
        | l es => dsimp only; cases ixN es.length n <;> rfl
        | k _ => rfl
      | _ => rfl
@[simp ↓] theorem sPut_t (i : Nat) (fv fj : Ev D) (k : Sls → Store → Out) : (sPut i fv fj S st).then k = (fv S st).go (fun d S st => getK S i (fun s => match s with | .own (.k _) => (fj S st).go (fun j S st => getK S i (fun s => match s with | .own (.k ds) => (if isKey j = true ∧ ds.length < 16777216 then setK S i (.own (.k (putD ds j d))) fun S => k S st else .stuck) | _ => .stuck) .stuck) .exc .stuck | _ => .stuck) .stuck) .exc .stuck := by
  rw [sPut_p]; rw [then_go2]; refine go_c fun d S st => ?_
  unfold getK; rcases S[i]? with _ | ⟨_ | _ | ⟨_ | _⟩⟩ <;> try rfl
  dsimp only; rw [then_go2]; refine go_c fun j S st => ?_
  rcases S[i]? with _ | ⟨_ | _ | ⟨_ | _⟩⟩ <;> try rfl
  dsimp only; split <;> rfl
@[simp ↓] theorem sP_t (i j : Nat) (fa : Ev (List Opd)) (k : Sls → Store → Out) : (sP i j fa S st).then k = (fa S st).go (fun a S st => vdsK S a (fun l => match l with | [x, y] => setK S i (.d x) fun S => setK S j (.d y) fun S => k S st | _ => .stuck) .stuck) .exc .stuck := by
  rw [sP_p]; simp only [vwK, vwsK, vdsK]; rw [then_go2]; refine go_c fun a S st => ?_
  rcases vds S a with _ | l
  · rfl
  · rcases l with _ | ⟨x, _ | ⟨y, _ | ⟨w, r⟩⟩⟩ <;> rfl
@[simp ↓] theorem sApL_t (fo : Ev Opd) (f : Ev D) (k : Sls → Store → Out) : (sApL fo (oV f) S st).then k = (fo S st).go (fun a S st => match a with | .h n => (match st[n]? with | some (.o (.l _)) => (f S st).go (fun d S st => match st[n]? with | some (.o (.l ds)) => (if ds.length < 16777216 then setS st n (.o (.l (ds ++ [d]))) fun st => k S st else .stuck) | _ => .stuck) .exc .stuck | _ => .stuck) | _ => .stuck) .exc .stuck := by
  rw [sApL_p]; rw [then_go2]; refine go_c fun a S st => ?_
  cases a with
  | h n =>
    dsimp only
    rcases st[n]? with _ | x
    · rfl
    · cases x with
      | o w => cases w with
        | l ds => dsimp only; rw [then_go2]; refine go_c fun d S st => ?_; rcases st[n]? with _ | x
                  · rfl
                  · cases x with
                    | o w => cases w with
                      | l ds => dsimp only; split <;> rfl
                      | k _ => rfl
                    | _ => rfl
        | k _ => rfl
      | _ => rfl
  | _ => rfl
@[simp ↓] theorem sFL_t (cs : List Nat) (kf : Nat) (fo : Ev Opd) (fe : Ev D) (k : Sls → Store → Out) : (sFL cs kf fo fe S st).then k = (fe S st).go (fun d S st => (fo S st).go (fun a S st => match a with | .h n => (match st[n]? with | some (.i c es) => (if c ∈ cs ∧ es.length < 1000 then setS st n (.i c (putD' kf d es)) fun st => k S st else .stuck) | _ => .stuck) | _ => .stuck) .exc .stuck) .exc .stuck := by
  rw [sFL_p]; rw [then_go2]; refine go_c fun d S st => ?_; rw [then_go2]; refine go_c fun a S st => ?_
  cases a with
  | h n =>
    dsimp only
    rcases st[n]? with _ | x
    · rfl
    · cases x with
      | i c es => dsimp only; split <;> rfl
      | _ => rfl
  | _ => rfl
@[simp ↓] theorem sFLA_t (cs : List Nat) (kf : Nat) (op : D → D → Option D) (fo fe : Ev Opd) (k : Sls → Store → Out) : (sFLA cs kf op fo fe S st).then k = (fo S st).go (fun a S st => match a with | .h n => (match st[n]? with | some (.i c es) => (if c ∈ cs ∧ es.length < 1000 then (match es.lookup kf with | some u => (fe S st).go (fun b S st => vwK S st b (fun y => match st[n]? with | some (.i c2 es2) => (if c2 = c ∧ es2.length < 1000 then (match op u y with | some d => setS st n (.i c (putD' kf d es2)) fun st => k S st | none => .stuck) else .stuck) | _ => .stuck) .stuck) .exc .stuck | none => .stuck) else .stuck) | _ => .stuck) | _ => .stuck) .exc .stuck := by
  rw [sFLA_p]; simp only [vwK, vwsK, vdsK]; rw [then_go2]; refine go_c fun a S st => ?_
  cases a with
  | h n =>
    dsimp only
    rcases st[n]? with _ | x
    · rfl
    · cases x with
      | i c es =>
        dsimp only; split
        · cases es.lookup kf with
          | none => rfl
          | some u =>
            dsimp only; rw [then_go2]; refine go_c fun b S st => ?_
            cases vw S st b with
            | none => rfl
            | some y =>
              dsimp only
              rcases st[n]? with _ | x2
              · rfl
              · cases x2 with
                | i c2 es2 => dsimp only; split <;> first | rfl | (cases op u y <;> rfl)
                | _ => rfl
        · rfl
      | _ => rfl
  | _ => rfl
@[simp ↓] theorem sSetL_t (fo : Ev Opd) (fv fj : Ev D) (k : Sls → Store → Out) : (sSetL fo fv fj S st).then k = (fv S st).go (fun d S st => (fo S st).go (fun a S st => match a with | .h n => (fj S st).go (fun j S st => match j with | .int i => (match st[n]? with | some (.o (.l ds)) => (match ixN ds.length i with | some j => setS st n (.o (.l (ds.set j d))) fun st => k S st | none => .stuck) | _ => .stuck) | _ => .stuck) .exc .stuck | _ => .stuck) .exc .stuck) .exc .stuck := by
  rw [sSetL_p]; rw [then_go2]; refine go_c fun d S st => ?_; rw [then_go2]; refine go_c fun a S st => ?_
  cases a with
  | h n =>
    dsimp only; rw [then_go2]; refine go_c fun j S st => ?_
    cases j with
    | int i =>
      dsimp only
      rcases st[n]? with _ | x
      · rfl
      · cases x with
        | o w => cases w with
          | l ds => dsimp only; cases ixN ds.length i <;> rfl
          | k _ => rfl
        | _ => rfl
    | _ => rfl
  | _ => rfl
end
end DL
namespace DL
open PySem PySem.Spec PyProof.Rows L2
section
variable {β : Type} {S : Sls} {st : Store}
@[simp ↓] theorem oRng_g (fa : Ev D) (k : Ow → Sls → Store → β) (e : Exc → Sls → Store → β) (z : β) : (oRng fa S st).go k e z = (fa S st).go (fun d S st => match d with | .int n => (if -1000000 ≤ n ∧ n ≤ 1000000 then k (.l (rng n.toNat 0)) S st else z) | _ => z) e z := by
  unfold oRng; rw [go_bind]; refine go_c fun d S st => ?_
  cases d <;> try rfl
  dsimp only; split <;> rfl
@[simp ↓] theorem ePopAt_g (i : Nat) (fj : Ev D) (k : D → Sls → Store → β) (e : Exc → Sls → Store → β) (z : β) : (ePopAt i fj S st).go k e z = getK S i (fun s => match s with | .own (.l _) => (fj S st).go (fun j S st => match j with | .int n => getK S i (fun s => match s with | .own (.l ds) => (if 0 ≤ n ∧ n < 1000000 then (match ds[n.toNat]? with | some d => setK S i (.own (.l (ds.eraseIdx n.toNat))) fun S => k d S st | none => z) else z) | _ => z) z | _ => z) e z | _ => z) z := by
  unfold ePopAt getK
  rcases S[i]? with _ | s
  · rfl
  · cases s with
    | own w =>
      cases w with
      | l ds =>
        dsimp only; rw [go_bind]; refine go_c fun j S st => ?_
        cases j with
        | int n =>
          dsimp only
          rcases S[i]? with _ | s
          · rfl
          · cases s with
            | own w =>
              cases w with
              | l ds =>
                dsimp only; split
                · cases ds[n.toNat]? <;> rfl
                · rfl
              | _ => rfl
            | _ => rfl
        | _ => rfl
      | _ => rfl
    | _ => rfl
@[simp ↓] theorem sPutL_p (fo : Ev Opd) (fv fj : Ev D) : sPutL fo fv fj S st = (fv S st).go (fun d S st => (fo S st).go (fun a S st => match a with | .h n => (fj S st).go (fun j S st => match st[n]? with | some (.o (.k es)) => (if isKey j = true ∧ es.length < 16777216 then setS st n (.o (.k (putD es j d))) fun st => .nx S st else .stuck) | _ => .stuck) .exc .stuck | _ => .stuck) .exc .stuck) .exc .stuck := by
  unfold sPutL; rw [Res.out_go]; refine go_c fun d S st => ?_; rw [Res.out_go]; refine go_c fun a S st => ?_
  cases a with
  | h n =>
    dsimp only; rw [Res.out_go]; refine go_c fun j S st => ?_
    rcases st[n]? with _ | x
    · rfl
    · cases x with
      | o w => cases w <;> rfl
      | _ => rfl
  | _ => rfl
@[simp ↓] theorem sPutL_t (fo : Ev Opd) (fv fj : Ev D) (k : Sls → Store → Out) : (sPutL fo fv fj S st).then k = (fv S st).go (fun d S st => (fo S st).go (fun a S st => match a with | .h n => (fj S st).go (fun j S st => match st[n]? with | some (.o (.k es)) => (if isKey j = true ∧ es.length < 16777216 then setS st n (.o (.k (putD es j d))) fun st => k S st else .stuck) | _ => .stuck) .exc .stuck | _ => .stuck) .exc .stuck) .exc .stuck := by
  rw [sPutL_p]; rw [then_go2]; refine go_c fun d S st => ?_; rw [then_go2]; refine go_c fun a S st => ?_
  cases a with
  | h n =>
    dsimp only; rw [then_go2]; refine go_c fun j S st => ?_
    rcases st[n]? with _ | x
    · rfl
    · cases x with
      | o w =>
        cases w with
        | k es => dsimp only; split <;> rfl
        | _ => rfl
      | _ => rfl
  | _ => rfl
@[simp ↓] theorem setAt_p (fo : Ev Opd) (fj : Ev D) (d : D) : setAt fo fj d S st = (fo S st).go (fun a S st => match a with | .h n => (fj S st).go (fun j S st => match j with | .int i => (match st[n]? with | some (.o (.l ds)) => (match ixN ds.length i with | some j => setS st n (.o (.l (ds.set j d))) fun st => .nx S st | none => .stuck) | _ => .stuck) | _ => .stuck) .exc .stuck | _ => .stuck) .exc .stuck := by
  unfold setAt; rw [Res.out_go]; refine go_c fun a S st => ?_
  cases a with
  | h n =>
    dsimp only; rw [Res.out_go]; refine go_c fun j S st => ?_
    cases j <;> try rfl
    dsimp only
    rcases st[n]? with _ | x
    · rfl
    · cases x with
      | o w => cases w <;> rfl
      | _ => rfl
  | _ => rfl
@[simp ↓] theorem setAt_t (fo : Ev Opd) (fj : Ev D) (d : D) (k : Sls → Store → Out) : (setAt fo fj d S st).then k = (fo S st).go (fun a S st => match a with | .h n => (fj S st).go (fun j S st => match j with | .int i => (match st[n]? with | some (.o (.l ds)) => (match ixN ds.length i with | some j => setS st n (.o (.l (ds.set j d))) fun st => k S st | none => .stuck) | _ => .stuck) | _ => .stuck) .exc .stuck | _ => .stuck) .exc .stuck := by
  rw [setAt_p]; rw [then_go2]; refine go_c fun a S st => ?_
  cases a with
  | h n =>
    dsimp only; rw [then_go2]; refine go_c fun j S st => ?_
    cases j with
    | int i =>
      dsimp only
      rcases st[n]? with _ | x
      · rfl
      · cases x with
        | o w =>
          cases w with
          | l ds => dsimp only; cases ixN ds.length i <;> rfl
          | _ => rfl
        | _ => rfl
    | _ => rfl
  | _ => rfl
@[simp ↓] theorem sSet2_p (fv : Ev D) (fo1 : Ev Opd) (fj1 : Ev D) (fo2 : Ev Opd) (fj2 : Ev D) : sSet2 fv fo1 fj1 fo2 fj2 S st = (fv S st).go (fun d S st => match d with | .tup [d1, d2] => (setAt fo1 fj1 d1 S st).then (fun S st => setAt fo2 fj2 d2 S st) | _ => .stuck) .exc .stuck := by
  unfold sSet2; refine (Res.out_go ..).trans (go_c fun d S st => ?_)
  rcases d with _ | _ | _ | _ | _ | l | _ | _ | _ | _ | _ | _ <;> try rfl
@[simp ↓] theorem sSet2_t (fv : Ev D) (fo1 : Ev Opd) (fj1 : Ev D) (fo2 : Ev Opd) (fj2 : Ev D) (k : Sls → Store → Out) : (sSet2 fv fo1 fj1 fo2 fj2 S st).then k = (fv S st).go (fun d S st => match d with | .tup [d1, d2] => (setAt fo1 fj1 d1 S st).then (fun S st => (setAt fo2 fj2 d2 S st).then k) | _ => .stuck) .exc .stuck := by
  rw [sSet2_p, then_go2]; refine go_c fun d S st => ?_
  rcases d with _ | _ | _ | _ | _ | l | _ | _ | _ | _ | _ | _ <;> try rfl
  rcases l with _ | ⟨a, _ | ⟨b, _ | ⟨c, r⟩⟩⟩ <;> try rfl
  show ((setAt fo1 fj1 _ S st).then _).then k = (setAt fo1 fj1 _ S st).then _
  generalize setAt fo1 fj1 _ S st = o
  cases o <;> rfl
end
end DL
namespace DL
open PySem PySem.Spec PyProof.Rows L2
section
variable {β : Type} {S : Sls} {st : Store}
@[simp ↓] theorem tNw_g (k : D → Sls → Store → β) (e : Exc → Sls → Store → β) (z : β) : (tNw S st).go k e z = k (.loc st.length) S (st ++ [.t []]) := rfl
@[simp ↓] theorem tGt_g (fo : Ev Opd) (fa : Ev (List Opd)) (k : D → Sls → Store → β) (e : Exc → Sls → Store → β) (z : β) : (tGt fo fa S st).go k e z = (fo S st).go (fun o S st => match o with | .h n => (match st[n]? with | some (.t _) => (fa S st).go (fun a S st => vdsK S a (fun l => match l with | [x, d] => (match st[n]? with | some (.t es) => (if (keyT x).isSome then k ((valE es x).getD d) S st else z) | _ => z) | _ => z) z) e z | _ => z) | _ => z) e z := by
  simp only [vwK, vwsK, vdsK, wipeK, restK]
  unfold tGt; rw [go_bind]; refine go_c fun a S st => ?_
  cases a with
  | h n =>
    dsimp only
    rcases st[n]? with _ | x
    · rfl
    · cases x with
      | t es =>
        dsimp only; rw [go_bind]; refine go_c fun a S st => ?_
        rcases vds S a with _ | l
        · rfl
        · rcases l with _ | ⟨x, _ | ⟨y, r⟩⟩
          · rfl
          · rfl
          · cases r with
            | nil =>
              dsimp only
              rcases st[n]? with _ | w
              · rfl
              · cases w with
                | t es => dsimp only; split <;> rfl
                | _ => rfl
            | cons _ _ => rfl
      | _ => rfl
  | _ => rfl
@[simp ↓] theorem tIx_g (fo fk : Ev Opd) (k : D → Sls → Store → β) (e : Exc → Sls → Store → β) (z : β) : (tIx fo fk S st).go k e z = (fo S st).go (fun o S st => (fk S st).go (fun b S st => match o with | .h n => vdsK S [b] (fun l => match l with | [x] => (match st[n]? with | some (.t es) => (match keyT x with | some _ => (match valE es x with | some y => k y S st | none => z) | none => z) | _ => z) | _ => z) z | _ => z) e z) e z := by
  simp only [vwK, vwsK, vdsK, wipeK, restK]
  unfold tIx; rw [go_bind]; refine go_c fun a S st => ?_; rw [go_bind]; refine go_c fun b S st => ?_
  cases a with
  | h n =>
    dsimp only [vds]
    rcases vd S b with _ | x
    · rfl
    · dsimp only
      rcases st[n]? with _ | w
      · rfl
      · cases w with
        | t es =>
          dsimp only
          cases keyT x with
          | none => rfl
          | some _ => dsimp only; cases valE es x <;> rfl
        | _ => rfl
  | _ => rfl
@[simp ↓] theorem tPt_p (fo : Ev Opd) (fv fj : Ev D) : tPt fo fv fj S st = (fv S st).go (fun d S st => (fo S st).go (fun a S st => match a with | .h n => (fj S st).go (fun j S st => match st[n]? with | some (.t es) => (if (keyT j).isSome ∧ es.length < 16777216 then setS st n (.t (storE es j d)) fun st => .nx S st else .stuck) | _ => .stuck) .exc .stuck | _ => .stuck) .exc .stuck) .exc .stuck := by
  unfold tPt; rw [Res.out_go]; refine go_c fun d S st => ?_; rw [Res.out_go]; refine go_c fun a S st => ?_
  cases a with
  | h n =>
    dsimp only; rw [Res.out_go]; refine go_c fun j S st => ?_
    rcases st[n]? with _ | x
    · rfl
    · cases x with
      | t es => rfl
      | _ => rfl
  | _ => rfl
@[simp ↓] theorem tPt_t (fo : Ev Opd) (fv fj : Ev D) (k : Sls → Store → Out) : (tPt fo fv fj S st).then k = (fv S st).go (fun d S st => (fo S st).go (fun a S st => match a with | .h n => (fj S st).go (fun j S st => match st[n]? with | some (.t es) => (if (keyT j).isSome ∧ es.length < 16777216 then setS st n (.t (storE es j d)) fun st => k S st else .stuck) | _ => .stuck) .exc .stuck | _ => .stuck) .exc .stuck) .exc .stuck := by
  rw [tPt_p]; rw [then_go2]; refine go_c fun d S st => ?_; rw [then_go2]; refine go_c fun a S st => ?_
  cases a with
  | h n =>
    dsimp only; rw [then_go2]; refine go_c fun j S st => ?_
    rcases st[n]? with _ | x
    · rfl
    · cases x with
      | t es => dsimp only; split <;> rfl
      | _ => rfl
  | _ => rfl
@[simp ↓] theorem tIn_g (neg : Bool) (fk fo : Ev Opd) (k : D → Sls → Store → β) (e : Exc → Sls → Store → β) (z : β) : (tIn neg fk fo S st).go k e z = (fk S st).go (fun b S st => (fo S st).go (fun o S st => match o with | .h n => vdsK S [b] (fun l => match l with | [x] => (match st[n]? with | some (.t es) => (if (keyT x).isSome then k (.bl (neg != (valE es x).isSome)) S st else z) | _ => z) | _ => z) z | _ => z) e z) e z := by
  simp only [vwK, vwsK, vdsK, wipeK, restK]
  unfold tIn; rw [go_bind]; refine go_c fun b S st => ?_; rw [go_bind]; refine go_c fun a S st => ?_
  cases a with
  | h n =>
    dsimp only [vds]
    rcases vd S b with _ | x
    · rfl
    · dsimp only
      rcases st[n]? with _ | w
      · rfl
      · cases w with
        | t es => dsimp only; split <;> rfl
        | _ => rfl
  | _ => rfl
@[simp ↓] theorem tGo_g (fo : Ev Opd) (fa : Ev (List Opd)) (k : D → Sls → Store → β) (e : Exc → Sls → Store → β) (z : β) : (tGo fo fa S st).go k e z = (fo S st).go (fun o S st => match o with | .h n => (match st[n]? with | some (.t _) => (fa S st).go (fun a S st => vdsK S a (fun l => match l with | [x] => (match st[n]? with | some (.t es) => (if (keyT x).isSome then k ((valE es x).getD .non) S st else z) | _ => z) | _ => z) z) e z | _ => z) | _ => z) e z := by
  simp only [vwK, vwsK, vdsK, wipeK, restK]
  unfold tGo; rw [go_bind]; refine go_c fun a S st => ?_
  cases a with
  | h n =>
    dsimp only
    rcases st[n]? with _ | x
    · rfl
    · cases x with
      | t es =>
        dsimp only; rw [go_bind]; refine go_c fun a S st => ?_
        rcases vds S a with _ | l
        · rfl
        · rcases l with _ | ⟨x, _ | ⟨y, r⟩⟩
          · rfl
          · dsimp only
            rcases st[n]? with _ | w
            · rfl
            · cases w with
              | t es => dsimp only; split <;> rfl
              | _ => rfl
          · rfl
      | _ => rfl
  | _ => rfl
@[simp ↓] theorem tPo_g (fo : Ev Opd) (fa : Ev (List Opd)) (k : D → Sls → Store → β) (e : Exc → Sls → Store → β) (z : β) : (tPo fo fa S st).go k e z = (fo S st).go (fun o S st => match o with | .h n => (match st[n]? with | some (.t _) => (fa S st).go (fun a S st => vdsK S a (fun l => match l with | [x] => (match st[n]? with | some (.t es) => (match keyT x, valE es x with | some _, some y => setS st n (.t (dropE es x)) fun st => k y S st | _, _ => z) | _ => z) | _ => z) z) e z | _ => z) | _ => z) e z := by
  simp only [vwK, vwsK, vdsK, wipeK, restK]
  unfold tPo; rw [go_bind]; refine go_c fun a S st => ?_
  cases a with
  | h n =>
    dsimp only
    rcases st[n]? with _ | x
    · rfl
    · cases x with
      | t es =>
        dsimp only; rw [go_bind]; refine go_c fun a S st => ?_
        rcases vds S a with _ | l
        · rfl
        · rcases l with _ | ⟨x, _ | ⟨y, r⟩⟩
          · rfl
          · dsimp only
            rcases st[n]? with _ | w
            · rfl
            · cases w with
              | t es => dsimp only; cases keyT x <;> cases valE es x <;> rfl
              | _ => rfl
          · rfl
      | _ => rfl
  | _ => rfl
end
end DL
namespace DL
open PySem PySem.Spec PyProof.Rows L2
section
variable {β : Type} {S : Sls} {st : Store}
@[simp ↓] theorem kF1_g (fk fv : Ev D) (k : Ow → Sls → Store → β) (e : Exc → Sls → Store → β) (z : β) : (kF1 fk fv S st).go k e z = (fk S st).go (fun a S st => (fv S st).go (fun x S st => match one1 a x with | some w => k w S st | none => z) (fun _ _ _ => z) z) (fun _ _ _ => z) z := by
  unfold kF1
  cases fk S st with
  | ok a S1 st1 =>
    show ((fv S1 st1).calm.bind fun x S st => got (one1 a x) S st).go k e z = (fv S1 st1).go _ _ _
    cases fv S1 st1 with
    | ok b S2 st2 =>
      show (got (one1 a b) S2 st2).go k e z = (match one1 a b with | some w => k w S2 st2 | none => z)
      cases one1 a b <;> rfl
    | exc _ _ _ => rfl
    | stuck => rfl
  | exc _ _ _ => rfl
  | stuck => rfl
@[simp] theorem one1_s (s : List Nat) (x : D) : one1 (.str s) x = some (.k [(.str s, x)]) := rfl
end
end DL
namespace DL
open PySem PySem.Spec PyProof.Rows L2
def ftK (tw : Tw) (g : Tg) (b : EvS) (n : Nat) (S : Sls) (st : Store) : Out := match st[n]? with
  | some (.t es) => unl n (forL g b (es.map tw.d) S (st.set n (.z es)))
  | some (.z es) => forL g b (es.map tw.d) S st
  | _ => .stuck
section
variable {β : Type} {S : Sls} {st : Store}
@[simp ↓] theorem tN1_g (fk fv : Ev D) (k : D → Sls → Store → β) (e : Exc → Sls → Store → β) (z : β) : (tN1 fk fv S st).go k e z = (fk S (st ++ [.t []])).go (fun d S st1 => (fv S st1).go (fun v S st2 => match st2[st.length]? with | some (.t []) => (if (keyT d).isSome then k (.loc st.length) S (st2.set st.length (.t [(d, v)])) else z) | _ => z) e z) e z := by
  unfold tN1; rw [go_bind]; refine go_c fun d S1 st1 => ?_; rw [go_bind]; refine go_c fun v S2 st2 => ?_
  rcases st2[st.length]? with _ | x
  · rfl
  · cases x with
    | t es =>
      cases es with
      | nil => dsimp only; split <;> rfl
      | cons _ _ => rfl
    | _ => rfl
@[simp ↓] theorem lsT_g (fo : Ev Opd) (k : Ow → Sls → Store → β) (e : Exc → Sls → Store → β) (z : β) : (lsT fo S st).go k e z = (fo S st).go (fun o S st => match o with | .h n => (match st[n]? with | some (.t es) => k (.l (es.map (·.1))) S st | some (.z es) => k (.l (es.map (·.1))) S st | _ => z) | _ => z) e z := by
  unfold lsT; rw [go_bind]; refine go_c fun o S st => ?_
  cases o with
  | h n =>
    dsimp only
    rcases st[n]? with _ | x
    · rfl
    · cases x <;> rfl
  | _ => rfl
@[simp ↓] theorem eRem_g (i : Nat) (fj : Ev D) (k : D → Sls → Store → β) (e : Exc → Sls → Store → β) (z : β) : (eRem i fj S st).go k e z = getK S i (fun s => match s with | .own (.l _) => (fj S st).go (fun j S st => match j with | .str t => getK S i (fun s => match s with | .own (.l ds) => (match strsD ds with | some ss => (match ss.findIdx? (· == t) with | some j => setK S i (.own (.l (ds.eraseIdx j))) fun S => k .non S st | none => z) | none => z) | _ => z) z | _ => z) e z | _ => z) z := by
  unfold eRem getK
  rcases S[i]? with _ | s
  · rfl
  · cases s with
    | own w =>
      cases w with
      | l ds =>
        dsimp only; rw [go_bind]; refine go_c fun j S st => ?_
        cases j with
        | str t =>
          dsimp only
          rcases S[i]? with _ | s
          · rfl
          · cases s with
            | own w =>
              cases w with
              | l ds =>
                dsimp only
                cases strsD ds with
                | none => rfl
                | some ss => dsimp only; cases List.findIdx? (fun x => x == t) ss <;> rfl
              | _ => rfl
            | _ => rfl
        | _ => rfl
      | _ => rfl
    | _ => rfl
@[simp ↓] theorem eRemL_g (fo : Ev Opd) (fj : Ev D) (k : D → Sls → Store → β) (e : Exc → Sls → Store → β) (z : β) : (eRemL fo fj S st).go k e z = (fo S st).go (fun a S st => match a with | .h n => (match st[n]? with | some (.o (.l _)) => (fj S st).go (fun j S st => match j with | .str t => (match st[n]? with | some (.o (.l ds)) => (match strsD ds with | some ss => (match ss.findIdx? (· == t) with | some j => setS st n (.o (.l (ds.eraseIdx j))) fun st => k .non S st | none => z) | none => z) | _ => z) | _ => z) e z | _ => z) | _ => z) e z := by
  unfold eRemL; rw [go_bind]; refine go_c fun a S st => ?_
  cases a with
  | h n =>
    dsimp only
    rcases st[n]? with _ | x
    · rfl
    · cases x with
      | o w => cases w with
        | l ds =>
          dsimp only; rw [go_bind]; refine go_c fun j S st => ?_
          cases j with
          | str t =>
            dsimp only
            rcases st[n]? with _ | x
            · rfl
            · cases x with
              | o w => cases w with
                | l ds =>
                  dsimp only
                  cases strsD ds with
                  | none => rfl
                  | some ss => dsimp only; cases List.findIdx? (fun x => x == t) ss <;> rfl
                | k _ => rfl
              | _ => rfl
          | _ => rfl
        | k _ => rfl
      | _ => rfl
  | _ => rfl
@[simp ↓] theorem sFT_p (tw : Tw) (i : Nat) (g : Tg) (b : EvS) : sFT tw (oH (vE i)) g b S st = getK S i (fun s => match s with | .d (.loc n) => ftK tw g b n S st | _ => .stuck) .stuck := by
  unfold sFT getK ftK
  have key : oH (vE i) S st = match S[i]? with | some (.d d) => .ok (hnd d) S st | _ => .stuck := by
    unfold oH vE
    rcases S[i]? with _ | s
    · rfl
    · cases s <;> rfl
  rw [key]
  rcases h : S[i]? with _ | s
  · rfl
  · cases s with
    | d x =>
      cases x with
      | loc n =>
        dsimp only [hnd]
        rcases h2 : st[n]? with _ | x
        · rfl
        · cases x with
          | t es => dsimp only; unfold sF iT; rw [key, h]; dsimp only [Res.bind, hnd]; rw [h2]; rfl
          | z es => dsimp only; unfold sF iT; rw [key, h]; dsimp only [Res.bind, hnd]; rw [h2]; rfl
          | _ => rfl
      | _ => rfl
    | _ => rfl
@[simp ↓] theorem sFT_t (tw : Tw) (i : Nat) (g : Tg) (b : EvS) (k : Sls → Store → Out) : (sFT tw (oH (vE i)) g b S st).then k = getK S i (fun s => match s with | .d (.loc n) => (ftK tw g b n S st).then k | _ => .stuck) .stuck := by
  rw [sFT_p]; unfold getK
  rcases S[i]? with _ | s
  · rfl
  · cases s with
    | d x => cases x <;> rfl
    | _ => rfl
end
end DL
namespace DL
open PySem PySem.Spec PyProof.Rows L2
section
variable {β : Type} {S : Sls} {st : Store}
@[simp ↓] theorem oSrtP_g (fa : Ev Opd) (k : Ow → Sls → Store → β) (e : Exc → Sls → Store → β) (z : β) : (oSrtP fa S st).go k e z = (fa S st).go (fun a S st => vwK S st a (fun x => match asL x with | some ds => (match prsD ds with | some ps => (if ps.length < 64 then k (.l ((srtP ps).map tp)) S st else z) | none => z) | none => z) z) e z := by
  simp only [vwK, vwsK, vdsK, wipeK, restK]
  rw [oSrtP_a, go_bind]; refine go_c fun a S st => ?_
  cases vw S st a with
  | none => rfl
  | some x =>
    dsimp only
    cases asL x with
    | none => rfl
    | some ds =>
      dsimp only
      cases prsD ds with
      | none => rfl
      | some ss => dsimp only; split <;> rfl
@[simp ↓] theorem srT_g (fo : Ev Opd) (k : Ow → Sls → Store → β) (e : Exc → Sls → Store → β) (z : β) : (srT fo S st).go k e z = (fo S st).go (fun o S st => match o with | .h n => (match st[n]? with | some (.t es) => (match prsD (es.map (·.1)) with | some ps => k (.l ((srtP ps).map tp)) S st | none => z) | _ => z) | _ => z) e z := by
  unfold srT; rw [go_bind]; refine go_c fun o S st => ?_
  cases o with
  | h n =>
    dsimp only
    rcases st[n]? with _ | x
    · rfl
    · cases x with
      | t es => dsimp only; cases prsD (es.map (·.1)) <;> rfl
      | _ => rfl
  | _ => rfl
@[simp ↓] theorem tUp_g (fo fb : Ev Opd) (k : D → Sls → Store → β) (e : Exc → Sls → Store → β) (z : β) : (tUp fo fb S st).go k e z = (fo S st).go (fun o S st => match o with | .h n => (match st[n]? with | some (.t _) => (fb S st).go (fun b S st => match b with | .h m => (match st[n]? with | some (.t es) => (match st[m]? with | some (.t more) => (if n ≠ m ∧ es ≠ [] ∧ es.length + more.length ≤ 16777216 then k .non S (st.set n (.t (storeAll es more))) else z) | _ => z) | _ => z) | _ => z) e z | _ => z) | _ => z) e z := by
  unfold tUp; rw [go_bind]; refine go_c fun o S st => ?_
  cases o with
  | h n =>
    dsimp only
    rcases st[n]? with _ | x
    · rfl
    · cases x with
      | t es =>
        dsimp only; rw [go_bind]; refine go_c fun b S st => ?_
        cases b with
        | h m =>
          dsimp only
          rcases st[n]? with _ | x
          · rfl
          · cases x with
            | t es =>
              dsimp only
              rcases st[m]? with _ | y
              · rfl
              · cases y with
                | t more => dsimp only; split <;> rfl
                | _ => rfl
            | _ => rfl
        | _ => rfl
      | _ => rfl
  | _ => rfl
end
end DL
namespace Bk
open PySem PySem.Spec PyProof.Rows L2 DL
section
variable {α β : Type} [DecidableEq α]
def getA (l : List (α × β)) (a : α) : Option β := (l.find? fun e => decide (e.1 = a)).map (·.2)
def setA (l : List (α × β)) (a : α) (b : β) : List (α × β) := if (getA l a).isSome then l.map (fun e => if e.1 = a then (e.1, b) else e) else l ++ [(a, b)]
theorem getA_some {l : List (α × β)} {a : α} : (getA l a).isSome = true ↔ a ∈ l.map (·.1) := by
  unfold getA
  rw [Option.isSome_map, List.find?_isSome, List.mem_map]
  exact ⟨fun ⟨e, h, k⟩ => ⟨e, h, of_decide_eq_true k⟩, fun ⟨e, h, k⟩ => ⟨e, h, decide_eq_true k⟩⟩
theorem getA_none {l : List (α × β)} {a : α} : getA l a = none ↔ a ∉ l.map (·.1) := by
  rw [← getA_some]
  cases getA l a <;> simp
theorem mem_getA {l : List (α × β)} {a : α} {x : β} (h : getA l a = some x) : (a, x) ∈ l := by
  unfold getA at h
  obtain ⟨e, h1, h2⟩ := Option.map_eq_some_iff.mp h
  have h3 := List.find?_some h1
  have h4 := List.mem_of_find?_eq_some h1
  have h5 : e.1 = a := of_decide_eq_true h3
  rw [← h5, ← h2]; exact h4
end
def dRw {α β : Type} (κ : α → D) (v : β → D) (l : List (α × β)) : List (D × D) := l.map fun e => (κ e.1, v e.2)
section
variable {α β : Type} [DecidableEq α] {κ : α → D} {v : β → D} (inj : ∀ a b : α, keyT (κ a) = keyT (κ b) ↔ a = b)
include inj
theorem valE_dA (l : List (α × β)) (a : α) : valE (dRw κ v l) (κ a) = (getA l a).map v := by
  unfold valE getA dRw
  induction l with
  | nil => rfl
  | cons e r ih =>
    rw [List.map_cons, List.find?_cons, List.find?_cons]
    by_cases h : e.1 = a
    · rw [decide_eq_true h, decide_eq_true ((inj e.1 a).mpr h)]; rfl
    · rw [decide_eq_false h, decide_eq_false fun z => h ((inj e.1 a).mp z)]
      exact ih
theorem storE_dA (l : List (α × β)) (a : α) (b : β) : storE (dRw κ v l) (κ a) (v b) = dRw κ v (setA l a b) := by
  unfold storE setA
  rw [valE_dA inj, Option.isSome_map]
  by_cases h : (getA l a).isSome
  · rw [if_pos h, if_pos h]
    unfold dRw
    rw [List.map_map, List.map_map]
    apply List.map_congr_left
    intro e _
    show (if keyT (κ e.1) = keyT (κ a) then (κ e.1, v b) else (κ e.1, v e.2)) = (κ (if e.1 = a then (e.1, b) else e).1, v (if e.1 = a then (e.1, b) else e).2)
    by_cases k : e.1 = a
    · rw [if_pos k, if_pos ((inj e.1 a).mpr k)]
    · rw [if_neg k, if_neg fun z => k ((inj e.1 a).mp z)]
  · rw [if_neg h, if_neg h]
    unfold dRw
    rw [List.map_append]; rfl
end
abbrev Mk : Type := Tx × Int
def mD (m : Mk) : D := .tup [.str m.1, .int m.2]
theorem tp_kinj (a b : Pr) : keyT (tp a) = keyT (tp b) ↔ a = b := by
  rw [keyT_tp, keyT_tp]
  exact ⟨fun h => kyP_inj (Option.some.inj h), fun h => by rw [h]⟩
abbrev Sn : Type := List (Mk × Unit)
def snD : Sn → List (D × D) := dRw mD fun _ => .bl true
def has (l : Sn) (m : Mk) : Bool := (getA l m).isSome
structure Wr where
  mr : Mk
  pr : Pr
  sn : Sn
  h : Nat
abbrev cWr : Nat := 24614120224026215
abbrev nMark : Nat := 1835102827
abbrev nWords : Nat := 512970876019
abbrev nMade : Nat := 2017712949614106275693
abbrev nSeen : Nat := 1936024942
def fsW (x : Wr) : List (Nat × D) := [(nMark, mD x.mr), (nWords, .str x.pr.1), (nMade, .str x.pr.2), (nSeen, .loc x.h)]
def Wr.d (x : Wr) : D := .obj cWr (fsW x)
def wsD (ws : List Wr) : D := .lst (ws.map Wr.d)
def addAll (l m : Sn) : Sn := m.foldl (fun acc e => setA acc e.1 e.2) l
def seen1 (l : Sn) (x : Wr) : Sn := addAll (setA l x.mr ()) x.sn
def seenOf (ws : List Wr) : Sn := ws.foldl seen1 []
abbrev Ev2 : Type := List (Mk × Wr)
def every (ws : List Wr) : Ev2 := ws.foldl (fun l x => setA l x.mr x) []
def fresh (ev : Ev2) (m : Mk) : Bool := !(ev.any fun o => has o.2.sn m)
def unseen (ws : List Wr) : List Wr := ((every ws).filter fun e => fresh (every ws) e.1).map (·.2)
abbrev Es : Type := List (Pr × List Wr)
def esD : Es → List (D × D) := dRw tp wsD
def held (es : Es) (p : Pr) : List Wr := (getA es p).getD []
structure Book where
  hand : Tx
  many : Int
  es : Es
def unlk (ws : List Wr) : List Pr := srtP (ws.map (·.pr))
def Book.write (b : Book) (p t : Pr) (h : Nat) : Book := ⟨b.hand, b.many + 1, setA b.es p [⟨(b.hand, b.many + 1), t, seenOf (held b.es p), h⟩]⟩
def take1 (es : Es) (e : Pr × List Wr) : Es := setA es e.1 (unseen (held es e.1 ++ e.2))
def Book.takeIn (b o : Book) : Book := ⟨b.hand, b.many, o.es.foldl take1 b.es⟩
def Book.keys (b : Book) : List Pr := srtP (b.es.map (·.1))
def Book.told (b : Book) : List (Pr × List Pr) := b.keys.map fun p => (p, unlk (held b.es p))
def Book.clashes (b : Book) : List Pr := b.keys.filter fun p => decide (1 < (unlk (held b.es p)).length)
def rowD (r : Pr × List Pr) : D := .tup [.str r.1.1, .str r.1.2, .lst (r.2.map tp)]
end Bk
namespace DL
end DL
namespace Pt
open DL
inductive H where
  | many | kind | rank
  deriving DecidableEq
def H.s : H → List Nat
  | .many => [109, 97, 110, 121]
  | .kind => [107, 105, 110, 100]
  | .rank => [114, 97, 110, 107]
def H.m : H → Nat
  | .many => 35
  | .kind => 126
  | .rank => 94
mutual
inductive P where
  | txt (s : List Nat) | gap (w : List Nat) | say (k : List Nat) (bs : List (List Nat × List Nat)) | cho (h : H) (g : List Nat) (as : List Arm)
inductive Arm where
  | mk (n : List Nat) (i : List P)
end
def Arm.n : Arm → List Nat
  | .mk n _ => n
def Arm.i : Arm → List P
  | .mk _ i => i
def bD (b : List Nat × List Nat) : D := .tup [.str b.1, .str b.2]
mutual
def P.d : P → D
  | .txt s => .tup [.str [116, 101, 120, 116], .str s]
  | .gap w => .tup [.str [103, 97, 112], .str w]
  | .say k bs => .tup [.str [115, 97, 121], .str k, .lst (bs.map bD)]
  | .cho h g as => .tup [.str h.s, .str g, .lst (dAs as)]
def Arm.d : Arm → D
  | .mk n i => .tup [.str n, .lst (dPs i)]
def dPs : List P → List D
  | [] => []
  | p :: r => p.d :: dPs r
def dAs : List Arm → List D
  | [] => []
  | a :: r => a.d :: dAs r
end
def bT (b : List Nat × List Nat) : List Nat := 32 :: b.1 ++ 61 :: b.2
mutual
def P.t : P → List Nat
  | .txt s => s
  | .gap w => 123 :: (w ++ [125])
  | .say k bs => 123 :: 64 :: (k ++ ((bs.map bT).flatten ++ [125]))
  | .cho h g as => 123 :: h.m :: (g ++ (tAs as ++ [125]))
def Arm.t : Arm → List Nat
  | .mk n i => 32 :: (n ++ 91 :: (tPs i ++ [93]))
def tPs : List P → List Nat
  | [] => []
  | p :: r => p.t ++ tPs r
def tAs : List Arm → List Nat
  | [] => []
  | a :: r => a.t ++ tAs r
end
def isL (c : Nat) : Bool := decide (97 ≤ c) && decide (c ≤ 122)
def isF (c : Nat) : Bool := decide (48 ≤ c) && decide (c ≤ 57)
def plain (c : Nat) : Bool := decide (32 ≤ c) && decide (c ≤ 126) && !(c == 123 || c == 125 || c == 91 || c == 93) && !(c == 37)
abbrev ELSE : List Nat := [101, 108, 115, 101]
def isW (w : List Nat) : Bool := decide (1 ≤ w.length) && decide (w.length ≤ 8) && !decide (w = ELSE) && w.all isL
def okFig (f : List Nat) : Bool := decide (1 ≤ f.length) && decide (f.length ≤ 59) && !(decide (1 < f.length) && decide (f.head? = some 48)) && f.all isF
def okName (h : H) (n : List Nat) : Bool := decide (n = ELSE) || isW n || (decide (h = .many) && decide (n.head? = some 61) && okFig n.tail)
def word (r : List Nat) : Option (List Nat × List Nat) := if isW (r.takeWhile isL) = true then some (r.takeWhile isL, r.dropWhile isL) else none
def sign (c : Nat) (r : List Nat) : Option (List Nat) := if r.head? = some c then some r.tail else none
def name (h : H) (r : List Nat) : Option (List Nat × List Nat) :=
  if h = .many ∧ r.head? = some 61 then
    if okFig (r.tail.takeWhile isF) = true then some (61 :: r.tail.takeWhile isF, r.tail.dropWhile isF) else none
  else if r.takeWhile isL = ELSE then some (ELSE, r.drop 4) else word r
def binds : Nat → List (List Nat × List Nat) → List Nat → Option (List (List Nat × List Nat) × List Nat)
  | 0, _, _ => none
  | n + 1, acc, r => if r.head? = some 32 then
      match word r.tail with
      | none => none
      | some (a, r1) => match sign 61 r1 with
        | none => none
        | some r2 => match word r2 with
          | none => none
          | some (b, r3) => if a ∈ acc.map (·.1) ∨ acc.length = 4 then none else binds n (acc ++ [(a, b)]) r3
    else some (acc, r)
def arms (rec : List Nat → Option (List P × List Nat)) (h : H) : Nat → List Arm → List Nat → Option (List Arm × List Nat)
  | 0, _, _ => none
  | n + 1, acc, r => if r.head? = some 32 then
      match name h r.tail with
      | none => none
      | some (a, r1) => if a ∈ acc.map Arm.n ∨ acc.length = 8 then none else
        match sign 91 r1 with
        | none => none
        | some r2 => match rec r2 with
          | none => none
          | some (i, r3) => match sign 93 r3 with
            | none => none
            | some r4 => arms rec h n (acc ++ [.mk a i]) r4
    else some (acc, r)
def howOf (r : List Nat) : Option H := if r.head? = some 35 then some .many else if r.head? = some 126 then some .kind else if r.head? = some 94 then some .rank else none
def brace (rec : List Nat → Option (List P × List Nat)) (deep : Nat) (r : List Nat) : Option (P × List Nat) :=
  if r.head? = some 64 then
    match word r.tail with
    | none => none
    | some (k, r1) => match binds (r1.length + 1) [] r1 with
      | none => none
      | some (bs, r2) => (sign 125 r2).map fun r3 => (.say k bs, r3)
  else match howOf r with
    | none => match word r with
      | none => none
      | some (g, r1) => (sign 125 r1).map fun r2 => (.gap g, r2)
    | some h => if deep = 4 then none else
      match word r.tail with
      | none => none
      | some (g, r1) => match arms rec h (r1.length + 1) [] r1 with
        | none => none
        | some (as, r2) => if as.isEmpty = true then none else (sign 125 r2).map fun r3 => (.cho h g as, r3)
def loop (rec : List Nat → Option (List P × List Nat)) (deep : Nat) : Nat → List P → List Nat → Option (List P × List Nat)
  | 0, _, _ => none
  | n + 1, acc, r =>
    if r = [] ∨ r.head? = some 93 then some (acc, r)
    else if r.head? = some 123 then
      match brace rec deep r.tail with
      | none => none
      | some (p, r1) => loop rec deep n (acc ++ [p]) r1
    else if (r.takeWhile plain).isEmpty = true then none
    else loop rec deep n (acc ++ [.txt (r.takeWhile plain)]) (r.dropWhile plain)
def parts : Nat → Nat → List Nat → Option (List P × List Nat)
  | 0, _, _ => none
  | k + 1, deep, r => loop (parts k (deep + 1)) deep (r.length + 1) [] r
end Pt
namespace Rd
abbrev Wd : Type := List Nat
section
variable (fl : Wd → List Wd) (T : List Wd)
def nx (dn : List Wd) : Option Wd := (dn.flatMap fl).find? fun w => decide (w ∈ T) && !decide (w ∈ dn)
def put : List Wd → List Wd → List Wd
  | found, [] => found
  | found, w :: r => if w ∈ T ∧ w ∉ found then put (found ++ [w]) r else put found r
def road : Nat → List Wd → Nat → List Wd
  | 0, found, _ => found
  | k + 1, found, here => match found[here]? with
    | some w => road k (put T found (fl w)) (here + 1)
    | none => found
def Gd (found : List Wd) : Prop := ∀ k w, 0 < k → found[k]? = some w → nx fl T (found.take k) = some w
structure Iv (found : List Wd) : Prop where
  nd : found.Nodup
  sub : ∀ w ∈ found, w ∈ T
  gd : Gd fl T found
end
section
variable {fl : Wd → List Wd} {T : List Wd}
theorem Iv.snoc {found : List Wd} {w : Wd} (h : Iv fl T found) (hw : w ∈ T) (hn : w ∉ found) (e : nx fl T found = some w) : Iv fl T (found ++ [w]) := by
  refine ⟨?_, fun y hy => (List.mem_append.mp hy).elim (h.sub y) fun q => by rw [List.mem_singleton.mp q]; exact hw, fun k y hk hy => ?_⟩
  · rw [List.nodup_append]
    exact ⟨h.nd, by simp, fun a ha b hb => by rw [List.mem_singleton] at hb; subst hb; exact fun z => hn (z ▸ ha)⟩
  · by_cases hl : k < found.length
    · rw [List.getElem?_append_left hl] at hy
      rw [List.take_append_of_le_length (by omega)]
      exact h.gd k y hk hy
    · have hlt := (List.getElem?_eq_some_iff.mp hy).1
      rw [List.length_append, List.length_singleton] at hlt
      have hk2 : k = found.length := by omega
      subst hk2
      rw [List.take_left]
      rw [List.getElem?_append_right (Nat.le_refl _), Nat.sub_self] at hy
      cases hy
      exact e
def Dn (fl : Wd → List Wd) (T found : List Wd) (here : Nat) : Prop := ∀ j v, j < here → found[j]? = some v → ∀ w ∈ fl v, w ∈ T → w ∈ found
theorem find_skip {α : Type} {p : α → Bool} : ∀ {a b : List α}, (∀ x ∈ a, p x = false) → (a ++ b).find? p = b.find? p
  | [], _, _ => rfl
  | x :: r, b, h => by
    rw [List.cons_append, List.find?_cons, h x (List.mem_cons_self ..)]
    exact find_skip fun y hy => h y (List.mem_cons_of_mem _ hy)
theorem nx_here {found : List Wd} {here : Nat} {v : Wd} {pre r : List Wd} {w : Wd} (hd : Dn fl T found here) (hv : found[here]? = some v) (hf : fl v = pre ++ w :: r) (hp : ∀ y ∈ pre, y ∈ T → y ∈ found) (hw : w ∈ T) (hn : w ∉ found) : nx fl T found = some w := by
  have hl := (List.getElem?_eq_some_iff.mp hv).1
  have ev := (List.getElem?_eq_some_iff.mp hv).2
  have e : found = found.take here ++ v :: found.drop (here + 1) := by
    rw [← ev, List.getElem_cons_drop, List.take_append_drop]
  have q : ∀ y : Wd, (y ∈ T → y ∈ found) → (decide (y ∈ T) && !decide (y ∈ found)) = false := fun y h => by
    by_cases hy : y ∈ T
    · simp [hy, h hy]
    · simp [hy]
  unfold nx
  have e2 : found.flatMap fl = (found.take here).flatMap fl ++ (pre ++ (w :: r ++ (found.drop (here + 1)).flatMap fl)) := by
    conv => lhs; rw [e]
    rw [List.flatMap_append, List.flatMap_cons, hf]; simp
  rw [e2, find_skip, find_skip]
  · rw [List.cons_append, List.find?_cons]
    simp [hw, hn]
  · exact fun y hy => q y (hp y hy)
  · intro y hy
    rw [List.mem_flatMap] at hy
    obtain ⟨u, hu, hy⟩ := hy
    obtain ⟨j, hj⟩ := List.getElem?_of_mem hu
    have hj2 : j < here := by have := (List.getElem?_eq_some_iff.mp hj).1; rw [List.length_take] at this; omega
    rw [List.getElem?_take_of_lt hj2] at hj
    exact q y (hd j u hj2 hj y hy)
theorem Dn.more {found : List Wd} {here : Nat} {w : Wd} (h : Dn fl T found here) (hh : here ≤ found.length) : Dn fl T (found ++ [w]) here := fun j v hj hv y hy hT => by
  rw [List.getElem?_append_left (by omega)] at hv
  exact List.mem_append_left _ (h j v hj hv y hy hT)
theorem put_ok {here : Nat} {v : Wd} : ∀ (r pre found : List Wd), Iv fl T found → Dn fl T found here → found[here]? = some v → fl v = pre ++ r → (∀ y ∈ pre, y ∈ T → y ∈ found) → Iv fl T (put T found r) ∧ Dn fl T (put T found r) (here + 1) ∧ found <+: put T found r
  | [], pre, found, h, hd, hv, hf, hp => by
    refine ⟨h, fun j u hj hu y hy hT => ?_, List.prefix_refl _⟩
    by_cases z : j < here
    · exact hd j u z hu y hy hT
    · have : j = here := by omega
      subst this
      have hu : found[j]? = some u := hu
      rw [hv] at hu; cases hu
      rw [List.append_nil] at hf
      rw [hf] at hy
      exact hp y hy hT
  | w :: r, pre, found, h, hd, hv, hf, hp => by
    have hl := (List.getElem?_eq_some_iff.mp hv).1
    rw [put]
    by_cases c : w ∈ T ∧ w ∉ found
    · rw [if_pos c]
      obtain ⟨a, b, d⟩ := put_ok r (pre ++ [w]) (found ++ [w]) (h.snoc c.1 c.2 (nx_here hd hv hf hp c.1 c.2)) (hd.more (by omega)) (by rw [List.getElem?_append_left hl]; exact hv) (by rw [hf]; simp)
        (fun y hy hT => (List.mem_append.mp hy).elim (fun q => List.mem_append_left _ (hp y q hT)) fun q => List.mem_append_right _ q)
      exact ⟨a, b, List.IsPrefix.trans (List.prefix_append _ _) d⟩
    · rw [if_neg c]
      exact put_ok r (pre ++ [w]) found h hd hv (by rw [hf]; simp) fun y hy hT => (List.mem_append.mp hy).elim (fun q => hp y q hT) fun q => by
        rw [List.mem_singleton] at q
        subst q
        exact Classical.byContradiction fun z => c ⟨hT, z⟩
theorem len_sub : ∀ (a b : List Wd), a.Nodup → (∀ x ∈ a, x ∈ b) → a.length ≤ b.length
  | [], b, _, _ => Nat.zero_le _
  | x :: r, b, nd, h => by
    rw [List.nodup_cons] at nd
    have hx := h x (List.mem_cons_self ..)
    have := len_sub r (b.erase x) nd.2 fun y hy => (List.mem_erase_of_ne (fun z : y = x => nd.1 (z ▸ hy))).mpr (h y (List.mem_cons_of_mem _ hy))
    rw [List.length_erase_of_mem hx] at this
    have := List.length_pos_of_mem hx
    rw [List.length_cons]; omega
theorem road_ok : ∀ (k : Nat) (found : List Wd) (here : Nat), Iv fl T found → Dn fl T found here → here ≤ found.length → T.length < here + k → Iv fl T (road fl T k found here) ∧ nx fl T (road fl T k found here) = none ∧ found <+: road fl T k found here
  | 0, found, here, h, hd, hh, hk => by
    have := len_sub found T h.nd h.sub
    omega
  | k + 1, found, here, h, hd, hh, hk => by
    rw [road]
    cases hv : found[here]? with
    | none =>
      have hl : here = found.length := by have := List.getElem?_eq_none_iff.mp hv; omega
      dsimp only
      refine ⟨h, ?_, List.prefix_refl _⟩
      unfold nx
      rw [List.find?_eq_none]
      intro y hy
      rw [List.mem_flatMap] at hy
      obtain ⟨u, hu, hy⟩ := hy
      obtain ⟨j, hj⟩ := List.getElem?_of_mem hu
      have hj2 : j < here := by have := (List.getElem?_eq_some_iff.mp hj).1; omega
      by_cases hT : y ∈ T
      · simp [hd j u hj2 hj y hy hT]
      · simp [hT]
    | some v =>
      dsimp only
      obtain ⟨a, b, d⟩ := put_ok (fl v) [] found h hd hv rfl (by simp)
      have hl := (List.getElem?_eq_some_iff.mp hv).1
      have hle := d.length_le
      obtain ⟨e1, e2, e3⟩ := road_ok k (put T found (fl v)) (here + 1) a b (by omega) (by omega)
      exact ⟨e1, e2, List.IsPrefix.trans d e3⟩
theorem Iv.one {w : Wd} (hw : w ∈ T) : Iv fl T [w] := ⟨by simp, fun y hy => by rw [List.mem_singleton.mp hy]; exact hw, fun k y hk hy => by
  have := (List.getElem?_eq_some_iff.mp hy).1
  rw [List.length_singleton] at this; omega⟩
end
end Rd
namespace Ho
open PySem PySem.Spec PyProof.Rows L2 DL Bk
abbrev Wd : Type := List Nat
abbrev W2 : Type := Pr
structure Tg where
  name : Wd
  falls : List Wd
  rules : D
  joiners : D
  figures : D
  cal : D
  day : D
  hd : Nat
structure Hm where
  kinds : List Wd
  ranks : List Wd
  things : List Wd
  tgs : List (Wd × Tg)
  words : List (W2 × W2)
  decl : List (Wd × (List W2 × Bool))
  pcs : List (W2 × List Pt.P)
def gpD (g : List W2) : D := .lst (g.map tp)
def tgD (l : List (Wd × Tg)) : List (D × D) := l.map fun e => (.str e.1, .loc e.2.hd)
def deD (l : List (Wd × (List W2 × Bool))) : List (D × D) := l.map fun e => (.str e.1, .tup [gpD e.2.1, .bl e.2.2])
def wdD (l : List (W2 × W2)) : List (D × D) := dRw tp tp l
def ptD (p : List Pt.P) : D := .lst (Pt.dPs p)
def pcD (l : List (W2 × List Pt.P)) : List (D × D) := dRw tp ptD l
theorem kEq_ss (a b : Wd) : kEq (.str a) (.str b) = decide (a = b) := by
  by_cases h : a = b
  · subst h; simp [kEq]
  · rw [decide_eq_false h]; simp [kEq, h]
theorem lookD_A {β : Type} (v : β → D) (k : Wd) : ∀ l : List (Wd × β), lookD (l.map fun e => (D.str e.1, v e.2)) (.str k) = (getA l k).map v
  | [] => rfl
  | e :: r => by
    rw [List.map_cons, lookD_c, kEq_ss, lookD_A v k r]
    unfold getA
    rw [List.find?_cons]
    by_cases h : e.1 = k
    · rw [decide_eq_true h]; rfl
    · rw [decide_eq_false h]; rfl
theorem any_A {β : Type} (v : β → D) (k : Wd) : ∀ l : List (Wd × β), ((l.map fun e => (D.str e.1, v e.2)).any fun e => kEq e.1 (.str k)) = (getA l k).isSome
  | [] => rfl
  | e :: r => by
    rw [List.map_cons, List.any_cons, any_A v k r]
    show (kEq (.str e.1) (.str k) || _) = _
    rw [kEq_ss]
    unfold getA
    rw [List.find?_cons]
    by_cases h : e.1 = k
    · rw [decide_eq_true h]; rfl
    · rw [decide_eq_false h]; rfl
theorem putD_A {β : Type} (v : β → D) (k : Wd) (b : β) (l : List (Wd × β)) : putD (l.map fun e => (D.str e.1, v e.2)) (.str k) (v b) = (setA l k b).map fun e => (D.str e.1, v e.2) := by
  unfold putD setA
  rw [any_A]
  split
  · rw [List.map_map, List.map_map]
    apply List.map_congr_left
    intro e _
    show (if kEq (.str e.1) (.str k) = true then (D.str e.1, v b) else (D.str e.1, v e.2)) = _
    rw [kEq_ss]
    show _ = (fun e : Wd × β => (D.str e.1, v e.2)) (if e.1 = k then (e.1, b) else e)
    by_cases h : e.1 = k
    · rw [decide_eq_true h, if_pos rfl, if_pos h]
    · rw [decide_eq_false h, if_neg Bool.false_ne_true, if_neg h]
  · rw [List.map_append]; rfl
theorem keys_A {β : Type} (v : β → D) (l : List (Wd × β)) : (l.map fun e => (D.str e.1, v e.2)).map (·.1) = (l.map (·.1)).map D.str := by
  rw [List.map_map, List.map_map]; rfl
def Hm.names (H : Hm) : List Wd := H.tgs.map (·.1)
def Hm.fl (H : Hm) (w : Wd) : List Wd := match getA H.tgs w with
  | some t => t.falls
  | none => []
def Hm.road (H : Hm) (w : Wd) : List Wd := Rd.road H.fl H.names (H.names.length + 1) [w] 0
structure Hm.Ok (H : Hm) : Prop where
  tn : (H.tgs.map (·.1)).Nodup
  tl : H.tgs.length ≤ 60
  fl : ∀ e ∈ H.tgs, e.2.falls.length ≤ 100
theorem Hm.Ok.rd {H : Hm} (o : H.Ok) {w : Wd} (hw : w ∈ H.names) : Rd.Iv H.fl H.names (H.road w) := (Rd.road_ok (H.names.length + 1) [w] 0 (Rd.Iv.one hw) (fun j v hj => by omega) (by simp) (by omega)).1
theorem srt_okA {β : Type} (v : β → D) (l : List (Wd × β)) (nd : (l.map (·.1)).Nodup) (hl : l.length < 64) : dSortF [.dic (l.map fun e => (D.str e.1, v e.2))] = some (.l ((srtT (l.map (·.1))).map D.str)) := by
  unfold dSortF
  dsimp only
  rw [keys_A, DL.strs_map]
  dsimp only
  rw [if_pos ⟨by rw [List.length_map]; exact hl, nd⟩]
def wordIn (ws : List (W2 × W2)) (th : Wd) : List Wd → Option (Wd × W2)
  | [] => none
  | n :: r => match getA ws (n, th) with
    | some e => some (n, e)
    | none => wordIn ws th r
def Hm.wordOf (H : Hm) (w th : Wd) : Option (Wd × W2) := wordIn H.words th (H.road w)
def Hm.kindIn (H : Hm) (w th : Wd) : Option Wd := (H.wordOf w th).map (·.2.2)
def oD : Option Wd → D
  | some w => .str w
  | none => .non
end Ho
namespace M
open PySem PySem.Spec PyProof.Rows L2 DL Bk
theorem get_app {st : Store} {n : Nat} {o : Ob} (h : st[n]? = some o) (x : List Ob) : (st ++ x)[n]? = some o := by
  rw [List.getElem?_append_left (List.getElem?_eq_some_iff.mp h).1]; exact h
theorem get_last (st : Store) (x : Ob) : (st ++ [x])[st.length]? = some x := by simp
theorem last_set (st : Store) (x y : Ob) : (st ++ [x]).set st.length y = st ++ [y] := by simp
theorem get_set {st : Store} {n : Nat} {o : Ob} (h : st[n]? = some o) (x : Ob) : (st.set n x)[n]? = some x := List.getElem?_set_self (List.getElem?_eq_some_iff.mp h).1
theorem get_ne {st : Store} {n m : Nat} (h : n ≠ m) (x : Ob) : (st.set n x)[m]? = st[m]? := List.getElem?_set_ne h
theorem lt_of_get {st : Store} {n : Nat} {o : Ob} (h : st[n]? = some o) : n < st.length := (List.getElem?_eq_some_iff.mp h).1
structure Fr (xs : List Nat) (st st' : Store) : Prop where
  le : st.length ≤ st'.length
  at_ : ∀ j o, j ∉ xs → st[j]? = some o → st'[j]? = some o
theorem Fr.refl {xs : List Nat} (st : Store) : Fr xs st st := ⟨Nat.le_refl _, fun _ _ _ h => h⟩
theorem Fr.trans {xs : List Nat} {a b c : Store} (h : Fr xs a b) (k : Fr xs b c) : Fr xs a c := ⟨Nat.le_trans h.le k.le, fun j o n e => k.at_ j o n (h.at_ j o n e)⟩
theorem Fr.app {xs : List Nat} (st : Store) (x : List Ob) : Fr xs st (st ++ x) := ⟨by rw [List.length_append]; exact Nat.le_add_right .., fun _ _ _ h => get_app h x⟩
theorem Fr.set {xs : List Nat} (st : Store) {n : Nat} (x : Ob) (h : n ∈ xs) : Fr xs st (st.set n x) := ⟨by rw [List.length_set]; exact Nat.le_refl _, fun j o k e => by
  have ne : n ≠ j := fun z => k (by rw [← z]; exact h)
  rw [get_ne ne]; exact e⟩
theorem Fr.mono {xs ys : List Nat} {a b : Store} (h : Fr xs a b) (k : ∀ x ∈ xs, x ∈ ys) : Fr ys a b := ⟨h.le, fun j o n e => h.at_ j o (fun z => n (k j z)) e⟩
theorem Fr.up {a b c : Store} {xs : List Nat} (f : Fr [] a b) (g : Fr xs b c) (h : ∀ x ∈ xs, a.length ≤ x) : Fr [] a c :=
  ⟨Nat.le_trans f.le g.le, fun j o _ e => g.at_ j o (fun z => by have := h j z; have := lt_of_get e; omega) (f.at_ j o (fun h => nomatch h) e)⟩
theorem Fr.get {a b : Store} (f : Fr [] a b) {j : Nat} {o : Ob} (e : a[j]? = some o) : b[j]? = some o := f.at_ j o (fun h => nomatch h) e
theorem vwK_i {β : Type} {S : Sls} {st : Store} {n c : Nat} {es : List (Nat × D)} (h : st[n]? = some (.i c es)) (k : D → β) (z : β) : vwK S st (.h n) k z = k (.obj c es) := by
  simp only [vwK, vw, h]; rfl
theorem vwK_j {β : Type} {S : Sls} {st : Store} {n c : Nat} {es : List (Nat × D)} (h : st[n]? = some (.i c es)) (k : D → β) (z : β) : vwK S st (hnd (.loc n)) k z = k (.obj c es) := vwK_i h k z
theorem vwK_li {β : Type} {S : Sls} {st : Store} {n : Nat} {ds : List D} (h : st[n]? = some (.o (.l ds))) (k : D → β) (z : β) : vwK S st (.h n) k z = k (.lst ds) := by
  simp only [vwK, vw, h]; rfl
theorem vwK_lj {β : Type} {S : Sls} {st : Store} {n : Nat} {ds : List D} (h : st[n]? = some (.o (.l ds))) (k : D → β) (z : β) : vwK S st (hnd (.loc n)) k z = k (.lst ds) := vwK_li h k z
end M
namespace M
open PySem PySem.Spec PyProof.Rows L2 DL Bk Ho
abbrev cH : Nat := 311107613541
abbrev cT : Nat := 92837570377061
def fsH (H : Hm) (h : Nat) : List (Nat × D) := [(7739838811990028151, .lst (H.kinds.map .str)), (8241990200506609527, .lst (H.ranks.map .str)), (2147345978593069133687, .lst (H.things.map .str)), (27717998498377061, .loc (h + 1)), (140728466053075387167569011, .loc (h + 2)), (7234297693583074660, .loc (h + 3)), (135897410560948860992451173, .loc (h + 4))]
def fsT (t : Ho.Tg) : List (Nat × D) := [(1851878757, .str t.name), (439721159795, .lst (t.falls.map .str)), (491596309875, t.rules), (29958846145720947, t.joiners), (28826340697466227, t.figures), (7161124065395368306, t.cal), (28254671708582509, t.day)]
structure HoAt (st : Store) (h : Nat) (H : Hm) : Prop where
  ob : st[h]? = some (.i cH (fsH H h))
  dn : st[h + 1]? = some (.o (.k (tgD H.tgs)))
  te : st[h + 2]? = some (.t (wdD H.words))
  dd : st[h + 3]? = some (.o (.k (deD H.decl)))
  pe : st[h + 4]? = some (.t (pcD H.pcs))
  tg : ∀ e ∈ H.tgs, e.1 = e.2.name ∧ h + 5 ≤ e.2.hd ∧ st[e.2.hd]? = some (.i cT (fsT e.2))
theorem HoAt.fr {st st' : Store} {h : Nat} {H : Hm} (a : HoAt st h H) (f : Fr [] st st') : HoAt st' h H :=
  ⟨f.get a.ob, f.get a.dn, f.get a.te, f.get a.dd, f.get a.pe, fun e he => ⟨(a.tg e he).1, (a.tg e he).2.1, f.get (a.tg e he).2.2⟩⟩
theorem HoAt.far {st st' : Store} {h : Nat} {H : Hm} {xs : List Nat} (a : HoAt st h H) (f : Fr xs st st') (k : ∀ x ∈ xs, ¬ (h ≤ x ∧ x ≤ h + 4)) (t : ∀ x ∈ xs, ∀ e ∈ H.tgs, e.2.hd ≠ x) : HoAt st' h H :=
  have n : ∀ {i : Nat}, i ≤ 4 → h + i ∉ xs := fun {i} hi z => k _ z (by omega)
  ⟨f.at_ _ _ (n (i := 0) (by omega)) a.ob, f.at_ _ _ (n (by omega)) a.dn, f.at_ _ _ (n (by omega)) a.te, f.at_ _ _ (n (by omega)) a.dd, f.at_ _ _ (n (by omega)) a.pe, fun e he => ⟨(a.tg e he).1, (a.tg e he).2.1, f.at_ _ _ (fun z => t _ z e he rfl) (a.tg e he).2.2⟩⟩
theorem fH_k (H : Hm) (h : Nat) : List.lookup 7739838811990028151 (fsH H h) = some (.lst (H.kinds.map .str)) := rfl
theorem fH_r (H : Hm) (h : Nat) : List.lookup 8241990200506609527 (fsH H h) = some (.lst (H.ranks.map .str)) := rfl
theorem fH_c (H : Hm) (h : Nat) : List.lookup 2147345978593069133687 (fsH H h) = some (.lst (H.things.map .str)) := rfl
theorem fH_B (H : Hm) (h : Nat) : List.lookup 27717998498377061 (fsH H h) = some (.loc (h + 1)) := rfl
theorem fH_T (H : Hm) (h : Nat) : List.lookup 140728466053075387167569011 (fsH H h) = some (.loc (h + 2)) := rfl
theorem fH_m (H : Hm) (h : Nat) : List.lookup 6382692 (fsH H h) = none ∧ List.lookup 28258975365558885 (fsH H h) = none ∧ List.lookup 36034973274040279466295256420 (fsH H h) = none ∧ List.lookup 1734439027 (fsH H h) = none ∧ List.lookup 426953237355 (fsH H h) = none ∧ List.lookup 2003792484 (fsH H h) = none ∧ List.lookup 7370100 (fsH H h) = none ∧ List.lookup 1685221232 (fsH H h) = none ∧ List.lookup 32773617271268723 (fsH H h) = none ∧ List.lookup 482804589413 (fsH H h) = none ∧ List.lookup 7882833662174520691 (fsH H h) = none ∧ List.lookup 7598521962762038373 (fsH H h) = none ∧ List.lookup 8032009816743309924 (fsH H h) = none := ⟨rfl, rfl, rfl, rfl, rfl, rfl, rfl, rfl, rfl, rfl, rfl, rfl, rfl⟩
theorem fT_n (t : Ho.Tg) : List.lookup 1851878757 (fsT t) = some (.str t.name) := rfl
theorem fT_r (t : Ho.Tg) : List.lookup 491596309875 (fsT t) = some t.rules := rfl
theorem fT_f (t : Ho.Tg) : List.lookup 439721159795 (fsT t) = some (.lst (t.falls.map .str)) := rfl
theorem hinit_ok (ks rs ts : List Wd) (h : Nat) (st : Store) (hn : st.length = h) {a b c : Nat} (ea : st[a]? = some (.o (.l (ks.map .str)))) (eb : st[b]? = some (.o (.l (rs.map .str)))) (ec : st[c]? = some (.o (.l (ts.map .str)))) :
    c_House___init__ [.loc h, .loc a, .loc b, .loc c] (st ++ [.i cH []]) = .ok .non [] (st ++ [.i cH (fsH ⟨ks, rs, ts, [], [], [], []⟩ h), .o (.k []), .t [], .o (.k []), .t []]) := by
  have d : ∀ l : List D, dListF [.lst l] = some (.l l) := fun _ => rfl
  have gA : ∀ (l : List (Nat × D)) (r : List Ob), (st ++ (Ob.i cH l :: r))[h]? = some (.i cH l) := fun l r => by rw [← hn, List.getElem?_append_right (Nat.le_refl _), Nat.sub_self]; rfl
  have sA : ∀ (l m : List (Nat × D)) (r : List Ob), (st ++ (Ob.i cH l :: r)).set h (.i cH m) = st ++ (.i cH m :: r) := fun l m r => by rw [← hn, List.set_append_right _ _ (Nat.le_refl _), Nat.sub_self]; rfl
  have lA : ∀ (r : List Ob), (st ++ r).length = h + r.length := fun r => by rw [List.length_append, hn]
  have ga : ∀ r : List Ob, (st ++ r)[a]? = some (.o (.l (ks.map .str))) := fun r => get_app ea r
  have gb : ∀ r : List Ob, (st ++ r)[b]? = some (.o (.l (rs.map .str))) := fun r => get_app eb r
  have gc : ∀ r : List Ob, (st ++ r)[c]? = some (.o (.l (ts.map .str))) := fun r => get_app ec r
  rw [c_House___init__, runB_k, b_House___init__]
  clear hn ea eb ec
  unfold fsH
  generalize ks.map D.str = kd at *
  generalize rs.map D.str = rd at *
  generalize ts.map D.str = td at *
  simp (maxSteps := 30000) (disch := first | assumption | (simp; done) | omega | (simp; omega)) [d, putD', gA, sA, lA, ga, gb, gc, ↓vwK_lj (ga _), ↓vwK_lj (gb _), ↓vwK_lj (gc _), List.append_assoc, List.cons_append, List.nil_append, Ow.d]
theorem hinit_at (ks rs ts : List Wd) (st : Store) : HoAt (st ++ [.i cH (fsH ⟨ks, rs, ts, [], [], [], []⟩ st.length), .o (.k []), .t [], .o (.k []), .t []]) st.length ⟨ks, rs, ts, [], [], [], []⟩ := by
  have g : ∀ i : Nat, (st ++ [Ob.i cH (fsH ⟨ks, rs, ts, [], [], [], []⟩ st.length), .o (.k []), .t [], .o (.k []), .t []])[st.length + i]? = [Ob.i cH (fsH ⟨ks, rs, ts, [], [], [], []⟩ st.length), .o (.k []), .t [], .o (.k []), .t []][i]? := fun i => by
    rw [List.getElem?_append_right (Nat.le_add_right ..), Nat.add_sub_cancel_left]
  exact ⟨g 0, g 1, g 2, g 3, g 4, fun _ h => nomatch h⟩
theorem tinit_ok (t : Ho.Tg) (n : Nat) (st : Store) (hn : st.length = n) : c_Tongue___init__ [.loc n, .str t.name, .lst (t.falls.map .str), t.rules, t.joiners, t.figures, t.cal, t.day] (st ++ [.i cT []]) = .ok .non [] (st ++ [.i cT (fsT t)]) := by
  have gA : ∀ l, (st ++ [Ob.i cT l])[n]? = some (.i cT l) := fun l => by rw [← hn]; exact get_last _ _
  have sA : ∀ l m, (st ++ [Ob.i cT l]).set n (.i cT m) = st ++ [.i cT m] := fun l m => by rw [← hn]; exact last_set _ _ _
  have d : ∀ l : List D, dListF [.lst l] = some (.l l) := fun _ => rfl
  rw [c_Tongue___init__, runB_k, b_Tongue___init__]
  unfold fsT
  clear hn
  generalize D.str t.name = wd at *
  generalize t.falls.map D.str = fd at *
  simp (maxSteps := 30000) (disch := first | assumption | (simp; done) | omega | (simp; omega)) [gA, sA, d, putD', Ow.d]
section
variable {st : Store} {h : Nat} {H : Hm}
theorem named_ok (a : HoAt st h H) {w : Wd} {t : Ho.Tg} (ht : getA H.tgs w = some t) : t_tongue_named 1 cH [.loc h, .str w] st = .ok (.loc t.hd) [] st := by
  have h0 := a.ob
  have h1 := a.dn
  have k1 : isKey (.str w) = true := rfl
  have f1 := fH_B H h
  have hw : lookD (tgD H.tgs) (.str w) = some (.loc t.hd) := by
    have := lookD_A (fun t : Ho.Tg => D.loc t.hd) w H.tgs
    rw [ht] at this; exact this
  rw [t_tongue_named_House, runB_k, b_House_tongue_named]
  clear a
  generalize fsH H h = fs at *
  generalize tgD H.tgs = td at *
  generalize D.str w = wd at *
  simp (maxSteps := 30000) (disch := first | assumption | (simp; done) | omega | (simp; omega)) [↓vwK_j h0, h1, f1, hw, k1, dFld, dNotInK, dGetK, Ow.d]
theorem add_ok (a : HoAt st h H) (hl : H.tgs.length ≤ 1000) {t : Ho.Tg} (hw : getA H.tgs t.name = none) (ht : st[t.hd]? = some (.i cT (fsT t))) (hn : h + 5 ≤ t.hd) :
    ∃ st', t_add 1 cH [.loc h, .loc t.hd] st = .ok .non [] st' ∧ HoAt st' h { H with tgs := H.tgs ++ [(t.name, t)] } ∧ Fr [h + 1] st st' ∧ st'.length = st.length := by
  have h0 := a.ob
  have h1 := a.dn
  have k1 : isKey (.str t.name) = true := rfl
  have f1 := fH_B H h
  have f2 := fT_n t
  have lk : lookD (tgD H.tgs) (.str t.name) = none := by
    have := lookD_A (fun t : Ho.Tg => D.loc t.hd) t.name H.tgs
    rw [hw] at this; exact this
  have pk : putD (tgD H.tgs) (.str t.name) (.loc t.hd) = tgD (H.tgs ++ [(t.name, t)]) := by
    have := putD_A (fun t : Ho.Tg => D.loc t.hd) t.name t H.tgs
    unfold setA at this
    rw [hw] at this; exact this
  have ll : (tgD H.tgs).length < 16777216 := by unfold tgD; rw [List.length_map]; omega
  refine ⟨st.set (h + 1) (.o (.k (tgD (H.tgs ++ [(t.name, t)])))), ?_, ⟨?_, ?_, ?_, ?_, ?_, fun e he => ?_⟩, Fr.set _ _ (List.mem_singleton_self _), List.length_set ..⟩
  · rw [t_add_House, runB_k, b_House_add]
    clear a
    generalize tgD (H.tgs ++ [(t.name, t)]) = td2 at *
    generalize fsH H h = fs at *
    generalize fsT t = tf at *
    generalize tgD H.tgs = td at *
    generalize D.str t.name = wd at *
    generalize t.hd = n at *
    simp (maxSteps := 30000) (disch := first | assumption | (simp; done) | omega | (simp; omega)) [↓vwK_j h0, ↓vwK_j ht, h1, f1, f2, lk, pk, k1, ll, dFld, dInK, Ow.d]
  · rw [get_ne (by omega)]; exact h0
  · exact get_set h1 _
  · rw [get_ne (by omega)]; exact a.te
  · rw [get_ne (by omega)]; exact a.dd
  · rw [get_ne (by omega)]; exact a.pe
  · rcases List.mem_append.mp he with he | he
    · obtain ⟨x, y, z⟩ := a.tg e he
      have ne : h + 1 ≠ e.2.hd := by omega
      exact ⟨x, y, by rw [get_ne ne]; exact z⟩
    · rw [List.mem_singleton.mp he]
      have ne : h + 1 ≠ t.hd := by omega
      exact ⟨rfl, hn, by rw [get_ne ne]; exact ht⟩
end
end M
namespace DL
open PySem PySem.Spec PyProof.Rows L2
def OkT (x : Str) : Prop := ∀ c ∈ x.cps.toList, c < 1114112
theorem OkT.app {x y : Str} (hx : OkT x) (hy : OkT y) : OkT (x ++ y) := fun c hc => by
  have e : (x ++ y).cps = x.cps ++ y.cps := rfl
  rw [e, Array.toList_append] at hc
  exact (List.mem_append.mp hc).elim (hx c) (hy c)
theorem OkT.of (s : String) : OkT (s : Str) := fun c hc => by
  have e : (s : Str) = Str.ofString s := rfl
  rw [e, Str.ofString_eq_toList] at hc
  obtain ⟨z, _, rfl⟩ := List.mem_map.mp (by simpa using hc)
  have := z.valid
  unfold UInt32.isValidChar Nat.isValidChar at this
  show z.val.toNat < _
  omega
theorem okT_chars {l : List Char} {c : Nat} (h : c ∈ l.map Char.toNat) : c < 1114112 := by
  obtain ⟨z, _, rfl⟩ := List.mem_map.mp h
  have := z.valid
  unfold UInt32.isValidChar Nat.isValidChar at this
  show z.val.toNat < _
  omega
theorem okT_char (q c : Nat) (hc : c < 1114112) : ∀ d ∈ Builtin.Str.reprChar q c, d < 1114112 := by
  have hx : ∀ (w : Nat) (d : Nat), d ∈ (List.replicate (w - ((Nat.toDigits 16 c).map Char.toNat).length) 48 ++ (Nat.toDigits 16 c).map Char.toNat) → d < 1114112 := fun w d h => by
    rcases List.mem_append.mp h with h | h
    · rw [List.eq_of_mem_replicate h]; omega
    · exact okT_chars h
  intro d
  unfold Builtin.Str.reprChar
  dsimp only
  repeat' split
  all_goals
    intro h
    first
    | (simp only [List.mem_cons, List.not_mem_nil, or_false] at h; omega)
    | (rcases List.mem_append.mp h with h | h
       · simp only [List.mem_cons, List.not_mem_nil, or_false] at h; omega
       · exact hx _ _ h)
theorem okT_fold (q : Nat) : ∀ (l : List Nat) (acc : Array Nat), (∀ c ∈ l, c < 1114112) → (∀ c ∈ acc.toList, c < 1114112) → ∀ c ∈ (l.foldl (fun out c => out ++ (Builtin.Str.reprChar q c).toArray) acc).toList, c < 1114112
  | [], acc, _, h => h
  | c :: r, acc, hl, h => okT_fold q r _ (fun d hd => hl d (List.mem_cons_of_mem _ hd)) fun d hd => by
    rw [Array.toList_append] at hd
    rcases List.mem_append.mp hd with hd | hd
    · exact h d hd
    · exact okT_char q c (hl c (List.mem_cons_self ..)) d hd
theorem okT_repr {x : Str} (hx : OkT x) : OkT (reprText x) := by
  have hq : reprQuote x < 1114112 := by unfold reprQuote; split <;> decide
  intro c hc
  unfold reprText at hc
  rw [← Array.foldl_toList] at hc
  rw [Array.toList_push] at hc
  rcases List.mem_append.mp hc with hc | hc
  · exact okT_fold _ _ _ hx (fun d hd => by simp at hd; omega) c hc
  · rw [List.mem_singleton.mp hc]; exact hq
theorem okT_join {sep : Str} (hs : OkT sep) : ∀ ts : List Str, (∀ t ∈ ts, OkT t) → OkT (Str.join sep ts)
  | [], _ => fun c hc => by simp [Str.join, Str.empty] at hc
  | [x], h => h x (List.mem_cons_self ..)
  | x :: y :: r, h => ((h x (List.mem_cons_self ..)).app hs).app (okT_join hs (y :: r) fun t ht => h t (List.mem_cons_of_mem _ ht))
theorem okT_list {ts : List Str} (h : ∀ t ∈ ts, OkT t) : OkT (listText ts) := by
  rw [listText_eq_join]
  exact ((OkT.of "[").app (okT_join (OkT.of ", ") ts h)).app (OkT.of "]")
theorem okT_tup {ts : List Str} (h : ∀ t ∈ ts, OkT t) : OkT (tupleText ts) := by
  unfold tupleText
  exact ((OkT.of "(").app (okT_join (OkT.of ", ") ts h)).app (OkT.of _)
mutual
theorem okT_shown : ∀ d : PyData, d.canLay0 = true → OkT d.shown
  | .none, _ => OkT.of "None"
  | .bool b, _ => by cases b <;> exact OkT.of _
  | .int i, _ => by simp only [PyData.shown]; exact OkT.of _
  | .str x, h => by
    simp only [PyData.shown]
    refine okT_repr fun c hc => ?_
    have h : PyData.strOk x = true := h
    unfold PyData.strOk at h
    have h := fun i hi => (Array.all_eq_true.mp h) i hi
    obtain ⟨i, hi, rfl⟩ := List.getElem_of_mem hc
    simpa using h i (by simpa using hi)
  | .list xs, h => by
    simp only [PyData.shown]
    exact okT_list (okT_shownAll xs (by simpa [PyData.canLay0] using h))
  | .tuple xs, h => by
    simp only [PyData.shown]
    exact okT_tup (okT_shownAll xs (by simpa [PyData.canLay0] using h))
  | .dict kvs, h => by simp [PyData.canLay0] at h
theorem okT_shownAll : ∀ xs : List PyData, PyData.canLayAll0 xs = true → ∀ t ∈ PyData.shownAll xs, OkT t
  | [], _ => fun t ht => by simp [PyData.shownAll] at ht
  | x :: r, h => fun t ht => by
    simp [PyData.canLayAll0] at h
    simp only [PyData.shownAll, List.mem_cons] at ht
    rcases ht with rfl | ht
    · exact okT_shown x h.1
    · exact okT_shownAll r h.2 t ht
end
theorem dRepr_ok {d : D} (h1 : isSq d = true) (h2 : eqOk d = true) (h3 : (toPy d).canLay0 = true) (h4 : (toPy d).showable = true) (h5 : (toPy d).intsShort 13 = true) (h6 : (toPy d).weight ≤ 1048576) : dRepr [d] = some (.str (shD d)) := by
  have dp : (toPy d).depth ≤ 64 := by
    unfold eqOk at h2
    rw [Bool.and_eq_true, decide_eq_true_eq] at h2
    have := (depth_toPy d).resolve_right (by rw [h2.1]; simp)
    omega
  have lay : PyData.layable0 (toPy d) = true := by
    show (PyData.canLay0 _ && decide _ && decide _) = true
    rw [h3, decide_eq_true dp, decide_eq_true (by omega)]; rfl
  have len := PyData.shown_le_of_layable0 lay h5
  have hl : (shD d).length ≤ 16777216 := by
    unfold shD
    have : (toPy d).shown.cps.toList.length = (toPy d).shown.length := by simp [Str.length]
    omega
  have hk : okS (shD d) = true := by
    unfold okS shD
    rw [List.all_eq_true]
    intro c hc
    exact decide_eq_true (okT_shown _ h3 c hc)
  unfold dRepr
  simp only [h1, h2, h4, hk, decide_eq_true hl, Bool.and_self, if_true]
end DL
namespace M
open PySem PySem.Spec PyProof.Rows L2 DL Ho
def cell (ns : List Int) (i : Int) : Int := (ns[i.toNat]?).getD 0
theorem cell_ok (ns : List Int) (i : Int) (h : 0 ≤ i) (st : Store) : c__law_cell_at [.scr ns, .int i] st = .ok (.int (cell ns i)) [] st := by
  by_cases hi : i < (ns.length : Int)
  · have e : atI ns i = some (cell ns i) := by
      rw [atI_nn _ h]; unfold cell
      rw [List.getElem?_eq_getElem (by omega)]; rfl
    simp [c__law_cell_at, runB_a, b__law_cell_at, hi, e]
  · have e : cell ns i = 0 := by
      unfold cell
      rw [List.getElem?_eq_none (by omega)]; rfl
    simp [c__law_cell_at, runB_a, b__law_cell_at, hi, e]
abbrev Lw (w : List Nat) : Prop := w.length ≤ 10 ∧ ∀ c ∈ w, c < 128
abbrev let26 : List Nat := [97, 98, 99, 100, 101, 102, 103, 104, 105, 106, 107, 108, 109, 110, 111, 112, 113, 114, 115, 116, 117, 118, 119, 120, 121, 122]
theorem let26_at (v : Int) (h0 : 0 ≤ v) (h1 : v < 26) : ∃ c, c < 128 ∧ dIx (.str let26) (.int v) = some (.str [c]) := by
  refine ⟨97 + v.toNat, by omega, ?_⟩
  have : ∀ j, j < 26 → let26[j]? = some (97 + j) := by decide
  have e : atI let26 v = some (97 + v.toNat) := by rw [atI_nn _ h0]; exact this _ (by omega)
  rw [dIx_s _ _ (by decide), e]; rfl
theorem letters_loop (x0 : D) : ∀ (ds : List D) (i : Int) (f : Wd) (x : Sl) (st : Store), f.length + ds.length ≤ 100 → ∃ (j : Int) (f' : Wd) (x' : Sl), (f'.length = f.length + ds.length ∧ ((∀ c ∈ f, c < 128) → ∀ c ∈ f', c < 128)) ∧
    forL (gV 4) L__law_word_1 ds [.d x0, .d (.str let26), .d (.int i), .d (.str f), x] st = .nx [.d x0, .d (.str let26), .d (.int j), .d (.str f'), x'] st
  | [], i, f, x, st, _ => ⟨i, f, x, ⟨rfl, id⟩, rfl⟩
  | d :: r, i, f, x, st, hl => by
    rw [List.length_cons] at hl
    have m0 := Int.emod_nonneg i (show (26 : Int) ≠ 0 by decide)
    have m1 := Int.emod_lt_of_pos i (show (0 : Int) < 26 by decide)
    obtain ⟨c, c8, hc⟩ := let26_at (i % 26) m0 m1
    obtain ⟨j, f', x', ⟨e1, e8⟩, e2⟩ := letters_loop x0 r (i / 26) (f ++ [c]) (.d d) st (by rw [List.length_append, List.length_singleton]; omega)
    refine ⟨j, f', x', ⟨by rw [e1, List.length_append, List.length_singleton, List.length_cons]; omega, fun hf => e8 fun y hy => by
      rcases List.mem_append.mp hy with hy | hy
      · exact hf y hy
      · rw [List.mem_singleton.mp hy]; exact c8⟩, ?_⟩
    have ha : dAdd (.str f) (.str [c]) = some (.str (f ++ [c])) := dAdd_s _ _ (by rw [List.length_singleton]; omega)
    have md : dMod (.int i) (.int 26) = some (.int (i % 26)) := by simp
    have fd : dFdiv (.int i) (.int 26) = some (.int (i / 26)) := by simp
    have b : L__law_word_1 [.d x0, .d (.str let26), .d (.int i), .d (.str f), .d d] st = .nx [.d x0, .d (.str let26), .d (.int (i / 26)), .d (.str (f ++ [c])), .d d] st := by
      rw [L__law_word_1]
      clear e1 e2 m0 m1 hl e8 c8
      generalize D.str (f ++ [c]) = fc at *
      generalize D.str [c] = gc at *
      generalize D.str f = fx at *
      generalize D.str let26 = ld at *
      generalize i % 26 = i26 at *
      generalize i / 26 = j26 at *
      simp (maxSteps := 30000) (disch := first | assumption | (simp; done) | omega | (simp; omega)) [md, fd, hc, ha]
    rw [forL_c, gV_a]
    simp only [List.set_cons_succ, List.set_cons_zero, b, e2]
theorem word_ok (i : Int) : ∀ st : Store, ∃ w : List Nat, Lw w ∧ c__law_word [.int i] st = .ok (.str w) [] st := fun st => by
  have m0 := Int.emod_nonneg i (show (8 : Int) ≠ 0 by decide)
  have m1 := Int.emod_lt_of_pos i (show (0 : Int) < 8 by decide)
  obtain ⟨m, hm, hm1⟩ : ∃ m : Nat, 1 + i % 8 = (m : Int) ∧ m ≤ 8 := ⟨(1 + i % 8).toNat, by omega, by omega⟩
  obtain ⟨j, f, x', ⟨e1, e8⟩, e2⟩ := letters_loop (.int i) (rng m 0) (i / 8) [] .no st (by rw [rng_len]; simp; omega)
  rw [rng_len, List.length_nil] at e1
  have md : dMod (.int i) (.int 8) = some (.int (i % 8)) := by simp
  have fd : dFdiv (.int i) (.int 8) = some (.int (i / 8)) := by simp
  have ad : dAdd (.int 1) (.int (i % 8)) = some (.int (m : Nat)) := by simp [hm]
  have r0 : -1000000 ≤ ((m : Nat) : Int) := by omega
  have r1 : ((m : Nat) : Int) ≤ 1000000 := by omega
  have r2 : ((m : Nat) : Int).toNat = m := Int.toNat_natCast _
  have q1 : eqOk (.str f) = true := rfl
  have q2 : deq (.str f) (.str [101, 108, 115, 101]) = decide (f = [101, 108, 115, 101]) := deq_str _ _
  refine ⟨if f = [101, 108, 115, 101] then [101, 108, 115] else f, by
    split
    · exact ⟨by decide, by decide⟩
    · exact ⟨by omega, e8 (fun _ h => nomatch h)⟩, ?_⟩
  rw [c__law_word, runB_k, b__law_word]
  clear m0 m1 hm hm1 e1 e8
  generalize L__law_word_1 = LL at *
  generalize ((m : Nat) : Int) = mi at *
  generalize i % 8 = i8 at *
  generalize i / 8 = j8 at *
  by_cases hE : f = [101, 108, 115, 101]
  · rw [if_pos hE]
    rw [decide_eq_true hE] at q2
    generalize D.str f = fx at *
    simp (maxSteps := 30000) (disch := first | assumption | (simp; done) | omega | (simp; omega)) [md, fd, ad, r0, r1, r2, e2, q1, q2]
  · rw [if_neg hE]
    rw [decide_eq_false hE] at q2
    generalize D.str f = fx at *
    simp (maxSteps := 30000) (disch := first | assumption | (simp; done) | omega | (simp; omega)) [md, fd, ad, r0, r1, r2, e2, q1, q2]
theorem any_strs (s : List Nat) (ts : List (List Nat)) : (ts.map D.str).any (fun z => deq z (.str s)) = decide (s ∈ ts) := by
  rw [List.any_map, Bool.eq_iff_iff, List.any_eq_true, decide_eq_true_eq]
  constructor
  · rintro ⟨x, hx, e⟩
    simp at e; subst e; exact hx
  · intro h; exact ⟨s, h, by simp⟩
abbrev B40 : Int := 10000000000000000000000000000000000000000
theorem words_loop (x0 : D) (M : Nat) (hM : M ≤ 1000) (st : Store) : ∀ (ks : List Nat) (i : Int) (acc : List (List Nat)) (x4 x5 : Sl), (∀ k ∈ ks, k ≤ 10000) → 0 ≤ i → i < B40 → acc.Nodup → (∀ w ∈ acc, Lw w) → acc.length ≤ M → ∃ (j : Int) (acc' : List (List Nat)) (y4 y5 : Sl), (acc'.Nodup ∧ (∀ w ∈ acc', Lw w) ∧ acc'.length ≤ M ∧ (0 < M → ks ≠ [] ∨ acc ≠ [] → acc' ≠ [])) ∧
    forL (gV 4) L__law_words_1 (ks.map fun k : Nat => D.int (k : Int)) [.d x0, .d (.int (M : Nat)), .d (.int i), .own (.l (acc.map .str)), x4, x5] st = .nx [.d x0, .d (.int (M : Nat)), .d (.int j), .own (.l (acc'.map .str)), y4, y5] st
  | [], i, acc, x4, x5, _, _, _, h1, h8, h2 => ⟨i, acc, x4, x5, ⟨h1, h8, h2, fun _ h => h.elim (fun z => absurd rfl z) id⟩, rfl⟩
  | k :: r, i, acc, x4, x5, hk, i0, i1, h1, h8, h2 => by
    have hk0 := hk k (List.mem_cons_self ..)
    obtain ⟨j, hj⟩ : ∃ j, (i * 6364136223846793005 + 1442695040888963407 + (k : Int) * (k : Int)) % B40 = j := ⟨_, rfl⟩
    have j0 : 0 ≤ j := by rw [← hj]; exact Int.emod_nonneg _ (by decide)
    have j1 : j < B40 := by rw [← hj]; exact Int.emod_lt_of_pos _ (by decide)
    obtain ⟨w, hwl, hw⟩ := word_ok (j / 1000000000000) st
    have mm : dMul (.int i) (.int 6364136223846793005) = some (.int (i * 6364136223846793005)) := by
      have := mulC_of (i := i) (j := 6364136223846793005) (.lit (Int.le_trans (by decide +kernel) i0) (Int.le_trans (Int.le_of_lt i1) (by decide +kernel))) (.lit (by decide +kernel) (by decide +kernel)); simp [this]
    have mk : dMul (.int (k : Int)) (.int (k : Int)) = some (.int ((k : Int) * (k : Int))) := by
      have := mulC_of (i := (k : Int)) (j := (k : Int)) (.small (by omega) (by omega)) (.small (by omega) (by omega)); simp [this]
    have pw : dPow (.int 10) (.int 40) = some (.int B40) := by simp
    have p2 : dPow (.int 10) (.int 12) = some (.int 1000000000000) := by simp
    have a1 : dAdd (.int (i * 6364136223846793005)) (.int 1442695040888963407) = some (.int (i * 6364136223846793005 + 1442695040888963407)) := by simp
    have a2 : dAdd (.int (i * 6364136223846793005 + 1442695040888963407)) (.int ((k : Int) * (k : Int))) = some (.int (i * 6364136223846793005 + 1442695040888963407 + (k : Int) * (k : Int))) := by simp
    have md : dMod (.int (i * 6364136223846793005 + 1442695040888963407 + (k : Int) * (k : Int))) (.int B40) = some (.int j) := by rw [← hj]; exact dMod_a _ _ (by decide)
    have fd : dFdiv (.int j) (.int 1000000000000) = some (.int (j / 1000000000000)) := by simp
    have nin := any_strs w acc
    have n1 : eqOk (.str w) = true := rfl
    have n2 : eqOk (.lst (acc.map D.str)) = true := eqOk_lst _ (flat_strs acc)
    have dl : dLen [.lst (acc.map D.str)] = some (.int (acc.length : Nat)) := by simp
    have la : (acc.map D.str).length < 16777216 := by rw [List.length_map]; omega
    obtain ⟨acc2, hacc⟩ : ∃ acc2, (if w ∉ acc ∧ acc.length < M then acc ++ [w] else acc) = acc2 := ⟨_, rfl⟩
    have hA : acc2.Nodup ∧ (∀ w ∈ acc2, Lw w) ∧ acc2.length ≤ M ∧ (0 < M → acc2 ≠ []) := by
      rw [← hacc]
      split
      · rename_i hc
        refine ⟨?_, fun y hy => (List.mem_append.mp hy).elim (h8 y) (fun z => by rw [List.mem_singleton.mp z]; exact hwl), by rw [List.length_append, List.length_singleton]; omega, fun _ => by simp⟩
        rw [List.nodup_append]; exact ⟨h1, by simp, fun a ha b hb => by rw [List.mem_singleton] at hb; subst hb; exact fun e => hc.1 (e ▸ ha)⟩
      · rename_i hc
        exact ⟨h1, h8, h2, fun a z => hc (by subst z; exact ⟨by simp, a⟩)⟩
    have b : L__law_words_1 [.d x0, .d (.int (M : Nat)), .d (.int i), .own (.l (acc.map .str)), .d (.int (k : Int)), x5] st = .nx [.d x0, .d (.int (M : Nat)), .d (.int j), .own (.l (acc2.map .str)), .d (.int (k : Int)), .d (.str w)] st := by
      rw [L__law_words_1]
      by_cases hin : w ∈ acc
      · rw [decide_eq_true hin] at nin
        rw [if_neg (fun z => z.1 hin)] at hacc
        subst hacc
        clear hk i0 i1 h1 h8 h2 hj j0 j1 hA hin hwl
        generalize acc.map D.str = al at *
        generalize D.str w = wd at *
        generalize i * 6364136223846793005 + 1442695040888963407 + (k : Int) * (k : Int) = e3 at *
        generalize i * 6364136223846793005 + 1442695040888963407 = e2 at *
        generalize i * 6364136223846793005 = e1 at *
        generalize (k : Int) * (k : Int) = kk at *
        generalize j / 1000000000000 = j12 at *
        generalize ((acc.length : Nat) : Int) = nn1 at *
        generalize ((M : Nat) : Int) = m1 at *
        generalize B40 = b40 at *
        simp (maxSteps := 30000) (disch := first | assumption | (simp; done) | omega | (simp; omega)) [mm, mk, pw, p2, a1, a2, md, fd, hw, n1, n2, nin, dl]
      · rw [decide_eq_false hin] at nin
        by_cases hm : acc.length < M
        · rw [if_pos ⟨hin, hm⟩] at hacc
          subst hacc
          have hm' : ((acc.length : Nat) : Int) < ((M : Nat) : Int) := by omega
          have ea : (acc ++ [w]).map D.str = acc.map D.str ++ [.str w] := by rw [List.map_append]; rfl
          rw [ea]
          clear hk i0 i1 h1 h8 h2 hj j0 j1 hA hin hwl hm ea
          generalize acc.map D.str = al at *
          generalize D.str w = wd at *
          generalize i * 6364136223846793005 + 1442695040888963407 + (k : Int) * (k : Int) = e3 at *
          generalize i * 6364136223846793005 + 1442695040888963407 = e2 at *
          generalize i * 6364136223846793005 = e1 at *
          generalize (k : Int) * (k : Int) = kk at *
          generalize j / 1000000000000 = j12 at *
          generalize ((acc.length : Nat) : Int) = nn1 at *
          generalize ((M : Nat) : Int) = m1 at *
          generalize B40 = b40 at *
          simp (maxSteps := 30000) (disch := first | assumption | (simp; done) | omega | (simp; omega)) [mm, mk, pw, p2, a1, a2, md, fd, hw, n1, n2, nin, dl, hm', la]
        · rw [if_neg (fun z => hm z.2)] at hacc
          subst hacc
          have hm' : ¬ ((acc.length : Nat) : Int) < ((M : Nat) : Int) := by omega
          clear hk i0 i1 h1 h8 h2 hj j0 j1 hA hin hwl hm
          generalize acc.map D.str = al at *
          generalize D.str w = wd at *
          generalize i * 6364136223846793005 + 1442695040888963407 + (k : Int) * (k : Int) = e3 at *
          generalize i * 6364136223846793005 + 1442695040888963407 = e2 at *
          generalize i * 6364136223846793005 = e1 at *
          generalize (k : Int) * (k : Int) = kk at *
          generalize j / 1000000000000 = j12 at *
          generalize ((acc.length : Nat) : Int) = nn1 at *
          generalize ((M : Nat) : Int) = m1 at *
          generalize B40 = b40 at *
          simp (maxSteps := 30000) (disch := first | assumption | (simp; done) | omega | (simp; omega)) [mm, mk, pw, p2, a1, a2, md, fd, hw, n1, n2, nin, dl, hm']
    obtain ⟨j', acc', y4, y5, ⟨e1, e8, e2, e3⟩, G⟩ := words_loop x0 M hM st r j acc2 (.d (.int (k : Int))) (.d (.str w)) (fun y hy => hk y (List.mem_cons_of_mem _ hy)) j0 j1 hA.1 hA.2.1 hA.2.2.1
    refine ⟨j', acc', y4, y5, ⟨e1, e8, e2, fun a _ => e3 a (.inr (hA.2.2.2 a))⟩, ?_⟩
    rw [List.map_cons, forL_c, gV_a]
    simp only [List.set_cons_succ, List.set_cons_zero, b, G]
theorem words_ok (i : Int) (M : Nat) (h0 : 0 < M) (hM : M ≤ 1000) (st : Store) : ∃ ws : List (List Nat), (ws ≠ [] ∧ ws.Nodup ∧ (∀ w ∈ ws, Lw w) ∧ ws.length ≤ M) ∧ c__law_words [.int i, .int (M : Nat)] st = .ok (.lst (ws.map .str)) [] st := by
  obtain ⟨j, ws, y4, y5, ⟨e1, e8, e2, e3⟩, G⟩ := words_loop (.int i) M hM st (List.range (3 * M)) (i % B40) [] .no .no (fun k hk => by rw [List.mem_range] at hk; omega) (Int.emod_nonneg _ (by decide)) (Int.emod_lt_of_pos _ (by decide)) List.nodup_nil (fun _ h => nomatch h) (by simp)
  refine ⟨ws, ⟨e3 h0 (.inl fun z => by have := congrArg List.length z; rw [List.length_range] at this; simp at this; omega), e1, e8, e2⟩, ?_⟩
  have mm : dMul (.int 3) (.int (M : Nat)) = some (.int ((3 * M : Nat) : Int)) := by
    have := mulC_of (i := 3) (j := (M : Int)) (.small (by omega) (by omega)) (.small (by omega) (by omega)); simp [this]
  have er : rng (3 * M) 0 = (List.range (3 * M)).map fun k : Nat => D.int (k : Int) := by
    unfold rng
    exact List.map_congr_left fun i _ => by rw [Int.zero_add]
  have r0 : -1000000 ≤ ((3 * M : Nat) : Int) := by omega
  have r1 : ((3 * M : Nat) : Int) ≤ 1000000 := by omega
  have r2 : ((3 * M : Nat) : Int).toNat = 3 * M := Int.toNat_natCast _
  have z : ([] : List (List Nat)).map D.str = [] := rfl
  have pw : dPow (.int 10) (.int 40) = some (.int B40) := by simp
  have md : dMod (.int i) (.int B40) = some (.int (i % B40)) := dMod_a _ _ (by decide)
  rw [z, ← er] at G
  rw [c__law_words, runB_k, b__law_words]
  clear z e1 e2 e3 e8 er h0 hM
  generalize L__law_words_1 = LL at *
  generalize i % B40 = i40 at *
  generalize B40 = b40 at *
  generalize 3 * M = m3 at *
  generalize ((m3 : Nat) : Int) = m1 at *
  generalize ((M : Nat) : Int) = m0 at *
  generalize ws.map D.str = wl at *
  simp (maxSteps := 30000) (disch := first | assumption | (simp; done) | omega | (simp; omega)) [mm, pw, md, r0, r1, r2, G, Ow.d]
end M
namespace M
open PySem PySem.Spec PyProof.Rows L2 DL Bk Ho
abbrev zz : Wd := [122, 122]
def rulD (w : Wd) (c : Int) : List D := if w = zz then [.tup [.str zz, .non]] else [.tup [.str w, .tup [.str [115, 101, 108, 102], .int c, .non]], .tup [.str zz, .non]]
def joiD : D := .tup [.str [], .str [32], .str [44, 32], .str [32, 43, 32]]
def figD (l f : Int) : D := .tup [.int l, .int f, .str [44], .str [45], .str [48, 49, 50, 51, 52, 53, 54, 55, 56, 57]]
def calD (l : Int) : D := .tup [.lst [.int l], .int 1, .tup [.str [111, 114], .lst []]]
def dayD : D := .tup [.str [100, 109, 121], .str [46], .non]
def tg51 (nm : Wd) (fs : List Wd) (w : Wd) (c l f : Int) (hd : Nat) : Ho.Tg := ⟨nm, fs, .lst (rulD w c), joiD, figD l f, calD l, dayD, hd⟩
def fldD (t : Ho.Tg) : D := .lst [.str t.name, .lst (t.falls.map .str), t.rules, t.joiners, t.figures, t.cal, t.day]
def T51 (t : Ho.Tg) : Prop := ∃ (nm : Wd) (fs : List Wd) (w : Wd) (c l f : Int) (hd : Nat), t = tg51 nm fs w c l f hd ∧ Lw nm ∧ (∀ x ∈ fs, Lw x) ∧ fs.length ≤ 8 ∧ Lw w ∧ 0 ≤ c ∧ c ≤ 9 ∧ 0 ≤ l ∧ l ≤ 9 ∧ 0 ≤ f ∧ f ≤ 9
theorem int_s (i : Int) (h0 : 0 ≤ i) (h1 : i ≤ 9) : (PyData.int i).showable = true ∧ (PyData.int i).intsShort 13 = true ∧ (PyData.int i).weight ≤ 4 := by
  have : i = 0 ∨ i = 1 ∨ i = 2 ∨ i = 3 ∨ i = 4 ∨ i = 5 ∨ i = 6 ∨ i = 7 ∨ i = 8 ∨ i = 9 := by omega
  rcases this with h | h | h | h | h | h | h | h | h | h <;> subst h <;> exact ⟨by decide +kernel, by decide +kernel, by decide +kernel⟩
theorem okS_lw {w : Wd} (h : Lw w) : PyData.strOk (tx w) = true := strOk_of (by unfold okS; rw [List.all_eq_true]; exact fun c hc => decide_eq_true (by have := h.2 c hc; omega))
theorem strs_s : ∀ {fs : List Wd}, (∀ x ∈ fs, Lw x) → pureDs (fs.map .str) = true ∧ depDs (fs.map .str) = 0 ∧ PyData.canLayAll0 (toPys (fs.map .str)) = true ∧ PyData.showableAll (toPys (fs.map .str)) = true ∧ PyData.intsShortAll 13 (toPys (fs.map .str)) = true ∧ PyData.weightAll (toPys (fs.map .str)) ≤ 11 * fs.length
  | [], _ => ⟨rfl, rfl, by simp [toPys, PyData.canLayAll0], by simp [toPys, PyData.showableAll], by simp [toPys, PyData.intsShortAll], by simp [toPys, PyData.weightAll]⟩
  | x :: r, h => by
    obtain ⟨a, b, c, d, e, f⟩ := strs_s fun y hy => h y (List.mem_cons_of_mem _ hy)
    have hx := h x (List.mem_cons_self ..)
    have ok := okS_lw hx
    have l : (tx x).cps.size = x.length := tx_len x
    have := hx.1
    refine ⟨by simp [pureDs, pureD, a], by simp [depDs, depD, b], by simp [toPys, toPy, PyData.canLayAll0, PyData.canLay0, ok, c], by simp [toPys, toPy, PyData.showableAll, PyData.showable, d], by simp [toPys, toPy, PyData.intsShortAll, PyData.intsShort, e], ?_⟩
    simp only [List.map_cons, toPys, toPy, PyData.weightAll, PyData.weight, List.length_cons, l]
    omega
structure Sd (d : D) (k n : Nat) : Prop where
  p : pureD d = true
  q : depD d ≤ k
  c : (toPy d).canLay0 = true
  s : (toPy d).showable = true
  i : (toPy d).intsShort 13 = true
  w : (toPy d).weight ≤ n
structure Sds (ds : List D) (k n : Nat) : Prop where
  p : pureDs ds = true
  q : depDs ds ≤ k
  c : PyData.canLayAll0 (toPys ds) = true
  s : PyData.showableAll (toPys ds) = true
  i : PyData.intsShortAll 13 (toPys ds) = true
  w : PyData.weightAll (toPys ds) ≤ n
theorem Sds.nil : Sds [] 0 0 := ⟨rfl, Nat.le_refl _, by simp [toPys, PyData.canLayAll0], by simp [toPys, PyData.showableAll], by simp [toPys, PyData.intsShortAll], by simp [toPys, PyData.weightAll]⟩
theorem Sds.cons {d : D} {ds : List D} {k k' n n' : Nat} (h : Sd d k n) (t : Sds ds k' n') : Sds (d :: ds) (max k k') (n + 1 + n') :=
  ⟨by simp [pureDs, h.p, t.p], by simp only [depDs]; have := h.q; have := t.q; omega, by simp [toPys, PyData.canLayAll0, h.c, t.c], by simp [toPys, PyData.showableAll, h.s, t.s], by simp [toPys, PyData.intsShortAll, h.i, t.i], by simp only [toPys, PyData.weightAll]; have := h.w; have := t.w; omega⟩
theorem Sd.lst {ds : List D} {k n : Nat} (t : Sds ds k n) : Sd (.lst ds) (k + 1) n := ⟨by simp [pureD, t.p], by simp only [depD]; have := t.q; omega, by simp [toPy, PyData.canLay0, t.c], by simp [toPy, PyData.showable, t.s], by simp [toPy, PyData.intsShort, t.i], by simp only [toPy, PyData.weight]; exact t.w⟩
theorem Sd.tup {ds : List D} {k n : Nat} (t : Sds ds k n) : Sd (.tup ds) (k + 1) n := ⟨by simp [pureD, t.p], by simp only [depD]; have := t.q; omega, by simp [toPy, PyData.canLay0, t.c], by simp [toPy, PyData.showable, t.s], by simp [toPy, PyData.intsShort, t.i], by simp only [toPy, PyData.weight]; exact t.w⟩
theorem Sd.str {w : Wd} (h : Lw w) : Sd (.str w) 0 10 := ⟨rfl, Nat.le_refl _, by simp [toPy, PyData.canLay0, okS_lw h], by simp [toPy, PyData.showable], by simp [toPy, PyData.intsShort], by
  have l : (tx w).cps.size = w.length := tx_len w
  simp only [toPy, PyData.weight, l]; exact h.1⟩
theorem Sd.int {i : Int} (h0 : 0 ≤ i) (h1 : i ≤ 9) : Sd (.int i) 0 4 := ⟨rfl, Nat.le_refl _, by simp [toPy, PyData.canLay0], by simpa only [toPy] using (int_s i h0 h1).1, by simpa only [toPy] using (int_s i h0 h1).2.1, by simpa only [toPy] using (int_s i h0 h1).2.2⟩
theorem Sd.non : Sd .non 0 0 := ⟨rfl, Nat.le_refl _, by simp [toPy, PyData.canLay0], by simp [toPy, PyData.showable], by simp [toPy, PyData.intsShort], by simp [toPy, PyData.weight]⟩
theorem Sds.strs {fs : List Wd} (h : ∀ x ∈ fs, Lw x) : Sds (fs.map .str) 0 (11 * fs.length) :=
  let ⟨a, b, c, d, e, f⟩ := strs_s h
  ⟨a, Nat.le_of_eq b, c, d, e, f⟩
theorem Sd.repr {ds : List D} {k n : Nat} (h : Sd (.lst ds) k n) (hk : k ≤ 60) (hn : n ≤ 1048576) : dRepr [.lst ds] = some (.str (shD (.lst ds))) :=
  dRepr_ok rfl (by unfold eqOk; rw [h.p, decide_eq_true (Nat.le_trans h.q hk)]; rfl) h.c h.s h.i (Nat.le_trans h.w hn)
theorem lw_of {w : Wd} (h : w.length ≤ 10 ∧ ∀ c ∈ w, c < 128) : Lw w := h
theorem rul_s {w : Wd} {c : Int} (h : Lw w) (h0 : 0 ≤ c) (h1 : c ≤ 9) : ∃ n, n ≤ 100 ∧ Sd (.lst (rulD w c)) 3 n := by
  have hz : Lw zz := ⟨by decide, by decide⟩
  have s1 := Sd.tup (Sds.cons (Sd.str hz) (Sds.cons Sd.non Sds.nil))
  unfold rulD
  split
  · have := Sd.lst (Sds.cons s1 Sds.nil)
    exact ⟨_, by omega, ⟨this.p, by have := this.q; omega, this.c, this.s, this.i, this.w⟩⟩
  · exact ⟨_, by omega, Sd.lst (Sds.cons (Sd.tup (Sds.cons (Sd.str h) (Sds.cons (Sd.tup (Sds.cons (Sd.str (lw_of (by decide))) (Sds.cons (Sd.int h0 h1) (Sds.cons Sd.non Sds.nil)))) Sds.nil))) (Sds.cons s1 Sds.nil))⟩
theorem fld_repr {t : Ho.Tg} (h : T51 t) : dRepr [fldD t] = some (.str (shD (fldD t))) := by
  obtain ⟨nm, fs, w, c, l, f, hd, rfl, h1, h2, h3, h4, c0, c1, l0, l1, f0, f1⟩ := h
  obtain ⟨n, hn, hr⟩ := rul_s h4 c0 c1
  have e := Sd.lst (Sds.cons (Sd.str h1) (Sds.cons (Sd.lst (Sds.strs h2)) (Sds.cons hr (Sds.cons (Sd.tup (Sds.cons (Sd.str (lw_of (w := []) (by decide))) (Sds.cons (Sd.str (lw_of (w := [32]) (by decide))) (Sds.cons (Sd.str (lw_of (w := [44, 32]) (by decide))) (Sds.cons (Sd.str (lw_of (w := [32, 43, 32]) (by decide))) Sds.nil)))))
    (Sds.cons (Sd.tup (Sds.cons (Sd.int l0 l1) (Sds.cons (Sd.int f0 f1) (Sds.cons (Sd.str (lw_of (w := [44]) (by decide))) (Sds.cons (Sd.str (lw_of (w := [45]) (by decide))) (Sds.cons (Sd.str (lw_of (w := [48, 49, 50, 51, 52, 53, 54, 55, 56, 57]) (by decide))) Sds.nil))))))
    (Sds.cons (Sd.tup (Sds.cons (Sd.lst (Sds.cons (Sd.int l0 l1) Sds.nil)) (Sds.cons (Sd.int (i := 1) (by decide) (by decide)) (Sds.cons (Sd.tup (Sds.cons (Sd.str (lw_of (w := [111, 114]) (by decide))) (Sds.cons (Sd.lst Sds.nil) Sds.nil))) Sds.nil))))
    (Sds.cons (Sd.tup (Sds.cons (Sd.str (lw_of (w := [100, 109, 121]) (by decide))) (Sds.cons (Sd.str (lw_of (w := [46]) (by decide))) (Sds.cons Sd.non Sds.nil)))) Sds.nil)))))))
  exact Sd.repr e (by omega) (by omega)
theorem fT_j (t : Ho.Tg) : List.lookup 29958846145720947 (fsT t) = some t.joiners := rfl
theorem fT_g (t : Ho.Tg) : List.lookup 28826340697466227 (fsT t) = some t.figures := rfl
theorem fT_c (t : Ho.Tg) : List.lookup 7161124065395368306 (fsT t) = some t.cal := rfl
theorem fT_d (t : Ho.Tg) : List.lookup 28254671708582509 (fsT t) = some t.day := rfl
theorem fields_ok {t : Ho.Tg} {n : Nat} {st : Store} (ht : st[n]? = some (.i cT (fsT t))) (h : T51 t) : c__law_fields [.loc n] st = .ok (.str (shD (fldD t))) [] st := by
  have e := fld_repr h
  have f1 := fT_n t
  have f2 := fT_f t
  have f3 := fT_r t
  have f4 := fT_j t
  have f5 := fT_g t
  have f6 := fT_c t
  have f7 := fT_d t
  unfold fldD at e ⊢
  rw [c__law_fields, runB_k, b__law_fields]
  clear h
  generalize shD _ = sd at *
  generalize fsT t = tf at *
  generalize D.str t.name = x1 at *
  generalize t.falls.map D.str = x2 at *
  generalize t.rules = x3 at *
  generalize t.joiners = x4 at *
  generalize t.figures = x5 at *
  generalize t.cal = x6 at *
  generalize t.day = x7 at *
  simp (maxSteps := 30000) (disch := first | assumption | (simp; done) | omega | (simp; omega)) [↓vwK_j ht, f1, f2, f3, f4, f5, f6, f7, e, dFld, Ow.d]
end M
namespace M
open PySem PySem.Spec PyProof.Rows L2 DL Bk Ho
abbrev NoT : Nat := 5651828894943638885
abbrev NoTh : Nat := 22077456503107175
abbrev NoV : Nat := 22077464975799653
abbrev NoM : Nat := 1446866215807293155173
def flg (a b c : Bool) : D := .lst [.bl true, .bl a, .bl b, .bl c, .bl false]
def flgO : Option Nat → D
  | none => .lst []
  | some c => flg (decide (c = NoT)) (decide (c = NoTh)) (decide (c = NoV))
def Rf (c : Nat) : Prop := c = NoT ∨ c = NoTh ∨ c = NoV
theorem isE_at (a : Addr) (c : Nat) (ts : List (Option Nat)) (v : Bool) (h : isX xT c ts = some v) (S : Sls) (st : Store) (hS : S[0]? = some (.d (.err a c))) : isE xT a c ts 0 S st = .ok (.bl v) S st := by
  unfold isE
  simp [h, hS]
theorem kinds_ok (a : Addr) (c : Nat) (hc : Rf c) (st : Store) : c__law_kinds_of a c [.err a c] st = .ok (flgO (some c)) [] st := by
  have f1 := isE_at a c [none] true (by rcases hc with h | h | h <;> subst h <;> decide +kernel) [.d (.err a c)] st rfl
  have f2 := isE_at a c [some NoT] (decide (c = NoT)) (by rcases hc with h | h | h <;> subst h <;> decide +kernel) [.d (.err a c)] st rfl
  have f3 := isE_at a c [some NoTh] (decide (c = NoTh)) (by rcases hc with h | h | h <;> subst h <;> decide +kernel) [.d (.err a c)] st rfl
  have f4 := isE_at a c [some NoV] (decide (c = NoV)) (by rcases hc with h | h | h <;> subst h <;> decide +kernel) [.d (.err a c)] st rfl
  have f5 := isE_at a c [some NoM] false (by rcases hc with h | h | h <;> subst h <;> decide +kernel) [.d (.err a c)] st rfl
  show _ = Res.ok (flg (decide (c = NoT)) (decide (c = NoTh)) (decide (c = NoV))) [] st
  unfold flg
  rw [c__law_kinds_of, runB_k, b__law_kinds_of]
  generalize isE xT a c [some NoT] 0 = e1 at *
  generalize isE xT a c [some NoTh] 0 = e2 at *
  generalize isE xT a c [some NoV] 0 = e3 at *
  generalize isE xT a c [none] 0 = e4 at *
  generalize isE xT a c [some NoM] 0 = e5 at *
  generalize decide (c = NoT) = b1 at *
  generalize decide (c = NoTh) = b2 at *
  generalize decide (c = NoV) = b3 at *
  generalize D.err a c = er at *
  simp (maxSteps := 30000) (disch := first | assumption | (simp; done) | omega | (simp; omega)) [f1, f2, f3, f4, f5, Ow.d]
theorem try_e {i : Nat} {S : Sls} {st : Store} {L : EvS} {X : Addr → Nat → EvS} {c : Nat} (hc : Rf c) (h1 : L S st = .exc ⟨c, []⟩ S st) (hX : X = fun a c => sR (cPE c__law_kinds_of a c i)) (hi : i < S.length) :
    sTryA xT 6008216717068758898 i L X S st = .ret (flgO (some c)) (S.set i .no) st := by
  have xl : xLook xT c 6008216717068758898 = some true := by rcases hc with h | h | h <;> subst h <;> decide +kernel
  refine sTryA_exc (T := xT) (i := i) (h := 6008216717068758898) (fs := X) (o := .ret (flgO (some c)) (S.set i .no) st) h1 xl (fun a => ?_)
  subst hX
  have kd := kinds_ok a c hc st
  have f1 : cPE c__law_kinds_of a c i (S.set i (.d (.err a c))) st = .ok (flgO (some c)) (S.set i (.d (.err a c))) st := by
    unfold cPE
    simp [kd, List.getElem?_set_self hi]
  show clr i (sR (cPE c__law_kinds_of a c i) (S.set i (.d (.err a c))) st) = _
  have g1 : sR (cPE c__law_kinds_of a c i) (S.set i (.d (.err a c))) st = .ret (flgO (some c)) (S.set i (.d (.err a c))) st := by
    generalize cPE c__law_kinds_of a c i = e1 at *
    generalize S.set i (.d (.err a c)) = S1 at *
    simp (maxSteps := 30000) (disch := first | assumption | (simp; done) | omega | (simp; omega)) [f1]
  rw [g1]
  simp [clr, List.set_set]
section
variable {st : Store} {h : Nat} {H : Hm}
theorem look_no (a : HoAt st h H) {w : Wd} (ht : getA H.tgs w = none) : lookD (tgD H.tgs) (.str w) = none := by
  have := lookD_A (fun t : Ho.Tg => D.loc t.hd) w H.tgs
  rw [ht] at this; exact this
theorem named_no (a : HoAt st h H) {w : Wd} (ht : getA H.tgs w = none) : t_tongue_named 1 cH [.loc h, .str w] st = .exc ⟨NoT, []⟩ [] st := by
  have h0 := a.ob
  have h1 := a.dn
  have k1 : isKey (.str w) = true := rfl
  have f1 := fH_B H h
  have hw := look_no a ht
  rw [t_tongue_named_House, runB_k, b_House_tongue_named]
  clear a
  generalize fsH H h = fs at *
  generalize tgD H.tgs = td at *
  generalize D.str w = wd at *
  simp (maxSteps := 30000) (disch := first | assumption | (simp; done) | omega | (simp; omega)) [↓vwK_j h0, h1, f1, hw, k1, dFld, dNotInK, dGetK, Ow.d]
theorem add_no (a : HoAt st h H) {t u : Ho.Tg} (hw : getA H.tgs t.name = some u) (ht : st[t.hd]? = some (.i cT (fsT t))) : t_add 1 cH [.loc h, .loc t.hd] st = .exc ⟨NoT, []⟩ [] st := by
  have h0 := a.ob
  have h1 := a.dn
  have k1 : isKey (.str t.name) = true := rfl
  have f1 := fH_B H h
  have f2 := fT_n t
  have lk : lookD (tgD H.tgs) (.str t.name) = some (.loc u.hd) := by
    have := lookD_A (fun t : Ho.Tg => D.loc t.hd) t.name H.tgs
    rw [hw] at this; exact this
  rw [t_add_House, runB_k, b_House_add]
  clear a
  generalize fsH H h = fs at *
  generalize fsT t = tf at *
  generalize tgD H.tgs = td at *
  generalize D.str t.name = wd at *
  generalize t.hd = n at *
  simp (maxSteps := 30000) (disch := first | assumption | (simp; done) | omega | (simp; omega)) [↓vwK_j h0, ↓vwK_j ht, h1, f1, f2, lk, k1, dFld, dInK, Ow.d]
def isTx (s : Wd) : Bool := decide (0 < s.length) && decide (s.length ≤ 12) && s.all (fun c => decide (c ∈ k_LETTERS))
theorem bools_all (p : Nat → Bool) : ∀ l : List Nat, boolsD (l.map fun c => D.bl (p c)) = some (l.map p)
  | [] => rfl
  | x :: r => by rw [List.map_cons, List.map_cons]; simp only [boolsD, bools_all p r]; rfl
theorem ttext_ok (s : Wd) (hs : s.length ≤ 1000) (st : Store) : c_is_thing_text [.str s] st = .ok (.bl (isTx s)) [] st := by
  have i1 : dIsI [.str s, .ty "str"] = some (.bl true) := rfl
  have dl : dLen [.str s] = some (.int (s.length : Nat)) := dLen_s _ (by omega)
  have it : itD (.str s) = some (sgs s) := rfl
  have key := lcL_mapF (g := gV 1) (own := [1]) (f := E_is_thing_text_1) (S := [.d (.str s), .no]) (st := st) (fun c : Nat => D.str [c]) (fun c => .bl (decide (c ∈ k_LETTERS))) s (fun c hc => by
    have : dIn (.str [c]) (.str k_LETTERS) = some (.bl (decide (c ∈ k_LETTERS))) := rfl
    refine ⟨_, [.d (.str s), .d (.str [c])], rfl, ?_, rfl⟩
    rw [E_is_thing_text_1]
    generalize decide (c ∈ k_LETTERS) = bb at *
    generalize D.str [c] = cd at *
    generalize D.str k_LETTERS = kd at *
    generalize D.str s = sd at *
    simp (maxSteps := 30000) (disch := first | assumption | (simp; done) | omega | (simp; omega)) [this, -dIn_a])
  have eg : sgs s = s.map fun c : Nat => D.str [c] := rfl
  rw [eg] at it
  have al := bools_all (fun c => decide (c ∈ k_LETTERS)) s
  have hall : (s.map fun c => decide (c ∈ k_LETTERS)).all id = s.all (fun c => decide (c ∈ k_LETTERS)) := by rw [List.all_map]; rfl
  have l1 : (s.map fun c => D.bl (decide (c ∈ k_LETTERS))).length ≤ 16777216 := by rw [List.length_map]; omega
  have g0 : (0 : Int) < (s.length : Nat) ↔ 0 < s.length := by omega
  have g1 : ((s.length : Nat) : Int) ≤ 12 ↔ s.length ≤ 12 := by omega
  unfold isTx
  rw [c_is_thing_text, runB_k, b_is_thing_text]
  clear eg
  generalize s.all (fun c => decide (c ∈ k_LETTERS)) = ba at *
  generalize (s.map fun c => D.bl (decide (c ∈ k_LETTERS))) = bl at *
  generalize (s.map fun c => decide (c ∈ k_LETTERS)) = tl at *
  generalize (s.map fun c : Nat => D.str [c]) = sl at *
  generalize E_is_thing_text_1 = E1 at *
  by_cases q0 : 0 < s.length
  · have z0 := g0.mpr q0
    by_cases q1 : s.length ≤ 12
    · have z1 := g1.mpr q1
      rw [decide_eq_true q0, decide_eq_true q1]
      generalize ((s.length : Nat) : Int) = n1 at *
      generalize D.str s = sd at *
      simp (maxSteps := 30000) (disch := first | assumption | (simp; done) | omega | (simp; omega)) [i1, dl, it, z0, z1, key, al, l1, hall]
    · have z1 : ¬ ((s.length : Nat) : Int) ≤ 12 := fun z => q1 (g1.mp z)
      rw [decide_eq_true q0, decide_eq_false q1]
      generalize ((s.length : Nat) : Int) = n1 at *
      generalize D.str s = sd at *
      simp (maxSteps := 30000) (disch := first | assumption | (simp; done) | omega | (simp; omega)) [i1, dl, it, z0, z1, key, al, l1, hall]
  · have z0 : ¬ (0 : Int) < (s.length : Nat) := fun z => q0 (g0.mp z)
    rw [decide_eq_false q0]
    generalize ((s.length : Nat) : Int) = n1 at *
    generalize D.str s = sd at *
    simp (maxSteps := 30000) (disch := first | assumption | (simp; done) | omega | (simp; omega)) [i1, dl, it, z0, key, al, l1, hall]
def wdO : Option W2 → D
  | some e => tp e
  | none => .non
theorem own_ok (a : HoAt st h H) (w th : Wd) : t_own_word 1 cH [.loc h, .str w, .str th] st = .ok (wdO (getA H.words (w, th))) [] st := by
  have h0 := a.ob
  have h2 := a.te
  have f3 := fH_T H h
  have kk : (keyT (.tup [.str w, .str th])).isSome = true := by
    unfold keyT
    simp only [keyN, keyNs]
    rfl
  have vl : (valE (wdD H.words) (.tup [.str w, .str th])).getD .non = wdO (getA H.words (w, th)) := by
    have := valE_dA (v := tp) tp_kinj H.words (w, th)
    have e : valE (wdD H.words) (.tup [.str w, .str th]) = (getA H.words (w, th)).map tp := this
    rw [e]
    cases getA H.words (w, th) <;> rfl
  rw [t_own_word_House, runB_k, b_House_own_word]
  clear a
  generalize fsH H h = fs at *
  generalize wdD H.words = td at *
  generalize wdO (getA H.words (w, th)) = od at *
  generalize D.str w = wd at *
  generalize D.str th = kd at *
  simp (maxSteps := 30000) (disch := first | assumption | (simp; done) | omega | (simp; omega)) [↓vwK_j h0, h0, h2, f3, kk, vl, dFld]
theorem krow_ok (a : HoAt st h H) : t_kinds 1 cH [.loc h] st = .ok (.loc st.length) [] (st ++ [.o (.l (H.kinds.map .str))]) := by
  have h0 := a.ob
  have f1 := fH_k H h
  have d : ∀ l : List D, dListF [.lst l] = some (.l l) := fun _ => rfl
  rw [t_kinds_House, runB_k, b_House_kinds]
  clear a
  generalize H.kinds.map D.str = td at *
  generalize fsH H h = fs at *
  simp (maxSteps := 30000) (disch := first | assumption | (simp; done) | omega | (simp; omega)) [↓vwK_j h0, f1, d, dFld, Ow.d]
theorem rrow_ok (a : HoAt st h H) : t_ranks 1 cH [.loc h] st = .ok (.loc st.length) [] (st ++ [.o (.l (H.ranks.map .str))]) := by
  have h0 := a.ob
  have f1 := fH_r H h
  have d : ∀ l : List D, dListF [.lst l] = some (.l l) := fun _ => rfl
  rw [t_ranks_House, runB_k, b_House_ranks]
  clear a
  generalize H.ranks.map D.str = td at *
  generalize fsH H h = fs at *
  simp (maxSteps := 30000) (disch := first | assumption | (simp; done) | omega | (simp; omega)) [↓vwK_j h0, f1, d, dFld, Ow.d]
theorem trow_ok (a : HoAt st h H) : t_things 1 cH [.loc h] st = .ok (.loc st.length) [] (st ++ [.o (.l (H.things.map .str))]) := by
  have h0 := a.ob
  have f1 := fH_c H h
  have d : ∀ l : List D, dListF [.lst l] = some (.l l) := fun _ => rfl
  rw [t_things_House, runB_k, b_House_things]
  clear a
  generalize H.things.map D.str = td at *
  generalize fsH H h = fs at *
  simp (maxSteps := 30000) (disch := first | assumption | (simp; done) | omega | (simp; omega)) [↓vwK_j h0, f1, d, dFld, Ow.d]
theorem tongues_ok (a : HoAt st h H) (tn : H.names.Nodup) (tl : H.tgs.length ≤ 60) : t_tongues 1 cH [.loc h] st = .ok (.loc st.length) [] (st ++ [.o (.l ((srtT H.names).map D.str))]) := by
  have h0 := a.ob
  have h1 := a.dn
  have f1 := fH_B H h
  have s1 := srt_okA (fun t : Ho.Tg => D.loc t.hd) H.tgs tn (by omega)
  have s1 : dSortF [.dic (tgD H.tgs)] = some (.l ((srtT H.names).map D.str)) := s1
  rw [t_tongues_House, runB_k, b_House_tongues]
  clear a
  generalize fsH H h = fs at *
  generalize tgD H.tgs = td at *
  generalize (srtT H.names).map D.str = tl at *
  simp (maxSteps := 30000) (disch := first | assumption | (simp; done) | omega | (simp; omega)) [↓vwK_j h0, h1, f1, s1, dFld, Ow.d]
end
end M
namespace M
open PySem PySem.Spec PyProof.Rows L2 DL Bk Ho
def wdOut (H : Hm) (w th x kd : Wd) : Option Nat :=
  if (getA H.tgs w).isNone = true then some NoT else if th ∉ H.things then some NoTh else if kd ∉ H.kinds ∨ isTx x = false then some NoV else none
theorem wdOut_rf {H : Hm} {w th x kd : Wd} {c : Nat} (h : wdOut H w th x kd = some c) : Rf c := by
  unfold wdOut at h
  split at h
  · cases h; exact .inl rfl
  · split at h
    · cases h; exact .inr (.inl rfl)
    · split at h
      · cases h; exact .inr (.inr rfl)
      · cases h
section
variable {st : Store} {h : Nat} {H : Hm}
theorem word_no (a : HoAt st h H) {w th x kd : Wd} {c : Nat} (hx : x.length ≤ 1000) (e : wdOut H w th x kd = some c) : t_word 1 cH [.loc h, .str w, .str th, .str x, .str kd] st = .exc ⟨c, []⟩ [] st := by
  have h0 := a.ob
  have f1 := fH_c H h
  have f2 := fH_k H h
  obtain ⟨_, _, fm, _⟩ := fH_m H h
  have q1 : eqOk (.str th) = true := rfl
  have q2 : eqOk (.str kd) = true := rfl
  have q3 : eqOk (.lst (H.things.map D.str)) = true := eqOk_lst _ (flat_strs _)
  have q4 : eqOk (.lst (H.kinds.map D.str)) = true := eqOk_lst _ (flat_strs _)
  have a1 := any_strs th H.things
  have a2 := any_strs kd H.kinds
  have tx' := ttext_ok x hx st
  unfold wdOut at e
  cases hw : getA H.tgs w with
  | none =>
    rw [hw] at e
    cases e
    have nm := named_no a hw
    rw [t_word_House, runB_k, b_House_word]
    clear a tx' a1 a2
    generalize fsH H h = fs at *
    generalize D.str w = wd at *
    generalize D.str th = thd at *
    generalize D.str x = xd at *
    generalize D.str kd = kd' at *
    simp (maxSteps := 30000) (disch := first | assumption | (simp; done) | omega | (simp; omega)) [↓vwK_j h0, h0, fm, nm]
  | some t =>
    rw [hw] at e
    rw [if_neg (by simp)] at e
    have nm := named_ok a hw
    by_cases hth : th ∈ H.things
    · rw [if_neg (fun z => z hth)] at e
      rw [decide_eq_true hth] at a1
      split at e
      · rename_i hk
        cases e
        rw [t_word_House, runB_k, b_House_word]
        by_cases hkd : kd ∈ H.kinds
        · rw [decide_eq_true hkd] at a2
          have ht : isTx x = false := hk.resolve_left fun z => z hkd
          rw [ht] at tx'
          clear a hw hth hkd hk ht
          generalize fsH H h = fs at *
          generalize H.things.map D.str = tl at *
          generalize H.kinds.map D.str = kl at *
          generalize D.str w = wd at *
          generalize D.str th = thd at *
          generalize D.str x = xd at *
          generalize D.str kd = kd' at *
          generalize t.hd = hd at *
          simp (maxSteps := 30000) (disch := first | assumption | (simp; done) | omega | (simp; omega)) [↓vwK_j h0, h0, fm, nm, f1, f2, q1, q2, q3, q4, a1, a2, tx', dFld]
        · rw [decide_eq_false hkd] at a2
          clear a hw hth hkd hk tx'
          generalize fsH H h = fs at *
          generalize H.things.map D.str = tl at *
          generalize H.kinds.map D.str = kl at *
          generalize D.str w = wd at *
          generalize D.str th = thd at *
          generalize D.str x = xd at *
          generalize D.str kd = kd' at *
          generalize t.hd = hd at *
          simp (maxSteps := 30000) (disch := first | assumption | (simp; done) | omega | (simp; omega)) [↓vwK_j h0, h0, fm, nm, f1, f2, q1, q2, q3, q4, a1, a2, dFld]
      · cases e
    · rw [if_pos hth] at e
      cases e
      rw [decide_eq_false hth] at a1
      rw [t_word_House, runB_k, b_House_word]
      clear a hw hth tx' a2
      generalize fsH H h = fs at *
      generalize H.things.map D.str = tl at *
      generalize D.str w = wd at *
      generalize D.str th = thd at *
      generalize D.str x = xd at *
      generalize D.str kd = kd' at *
      generalize t.hd = hd at *
      simp (maxSteps := 30000) (disch := first | assumption | (simp; done) | omega | (simp; omega)) [↓vwK_j h0, h0, fm, nm, f1, q1, q3, a1, dFld]
theorem word_yes (a : HoAt st h H) {w th x kd : Wd} (hx : x.length ≤ 1000) (e : wdOut H w th x kd = none) (hl : H.words.length ≤ 100000) :
    ∃ st', t_word 1 cH [.loc h, .str w, .str th, .str x, .str kd] st = .ok .non [] st' ∧ HoAt st' h { H with words := setA H.words (w, th) (x, kd) } ∧ Fr [h + 2] st st' ∧ st'.length = st.length := by
  have h0 := a.ob
  have h2 := a.te
  have f1 := fH_c H h
  have f2 := fH_k H h
  have f3 := fH_T H h
  obtain ⟨_, _, fm, _⟩ := fH_m H h
  unfold wdOut at e
  cases hw : getA H.tgs w with
  | none => rw [hw] at e; cases e
  | some t =>
  rw [hw] at e
  rw [if_neg (by simp)] at e
  split at e
  · cases e
  rename_i hth
  have hth : th ∈ H.things := Classical.not_not.mp hth
  split at e
  · cases e
  rename_i hk
  have hkd : kd ∈ H.kinds := Classical.not_not.mp fun z => hk (.inl z)
  have htx : isTx x = true := by
    cases q : isTx x with
    | true => rfl
    | false => exact absurd (.inr q) hk
  have nm := named_ok a hw
  have q1 : eqOk (.str th) = true := rfl
  have q2 : eqOk (.str kd) = true := rfl
  have q3 : eqOk (.lst (H.things.map D.str)) = true := eqOk_lst _ (flat_strs _)
  have q4 : eqOk (.lst (H.kinds.map D.str)) = true := eqOk_lst _ (flat_strs _)
  have a1 := any_strs th H.things
  rw [decide_eq_true hth] at a1
  have a2 := any_strs kd H.kinds
  rw [decide_eq_true hkd] at a2
  have tx' := ttext_ok x hx st
  rw [htx] at tx'
  have kk : (keyT (.tup [.str w, .str th])).isSome = true := by
    unfold keyT
    simp only [keyN, keyNs]
    rfl
  have sE : storE (wdD H.words) (.tup [.str w, .str th]) (.tup [.str x, .str kd]) = wdD (setA H.words (w, th) (x, kd)) := storE_dA (v := tp) tp_kinj H.words (w, th) (x, kd)
  have ll : (wdD H.words).length < 16777216 := by unfold wdD dRw; rw [List.length_map]; omega
  refine ⟨st.set (h + 2) (.t (wdD (setA H.words (w, th) (x, kd)))), ?_, ⟨?_, ?_, ?_, ?_, ?_, fun e he => ?_⟩, Fr.set _ _ (List.mem_singleton_self _), List.length_set ..⟩
  · rw [t_word_House, runB_k, b_House_word]
    clear a hw hth hkd hx hk e htx
    generalize wdD (setA H.words (w, th) (x, kd)) = wd2 at *
    generalize wdD H.words = wd1 at *
    generalize fsH H h = fs at *
    generalize H.things.map D.str = tl at *
    generalize H.kinds.map D.str = kl at *
    generalize D.str w = wd at *
    generalize D.str th = thd at *
    generalize D.str x = xd at *
    generalize D.str kd = kd' at *
    generalize t.hd = hd at *
    simp (maxSteps := 30000) (disch := first | assumption | (simp; done) | omega | (simp; omega)) [↓vwK_j h0, h0, h2, fm, nm, f1, f2, f3, q1, q2, q3, q4, a1, a2, tx', kk, ll, sE, dFld]
  · rw [get_ne (by omega)]; exact h0
  · rw [get_ne (by omega)]; exact a.dn
  · exact get_set h2 _
  · rw [get_ne (by omega)]; exact a.dd
  · rw [get_ne (by omega)]; exact a.pe
  · obtain ⟨u, v, z⟩ := a.tg e he
    have ne : h + 2 ≠ e.2.hd := by omega
    exact ⟨u, v, by rw [get_ne ne]; exact z⟩
theorem told_ok (a : HoAt st h H) {w th x kd : Wd} (hx : x.length ≤ 1000) (hl : H.words.length ≤ 100000) :
    ∃ st', c__law_told [.loc h, .str w, .str th, .str x, .str kd] st = .ok (flgO (wdOut H w th x kd)) [] st' ∧ HoAt st' h (if wdOut H w th x kd = none then { H with words := setA H.words (w, th) (x, kd) } else H) ∧ Fr [h + 2] st st' ∧ st'.length = st.length := by
  have h0 := a.ob
  have fm : List.lookup 2003792484 (fsH H h) = none := rfl
  cases e : wdOut H w th x kd with
  | some c =>
    have k := word_no a hx e
    have t := try_e (i := 5) (S := [.d (.loc h), .d (.str w), .d (.str th), .d (.str x), .d (.str kd), .no]) (st := st) (L := L__law_told_1) (X := X__law_told_1) (wdOut_rf e) (by
      rw [L__law_told_1]
      clear hx e
      generalize fsH H h = fs at *
      simp (maxSteps := 30000) (disch := first | assumption | (simp; done) | omega | (simp; omega)) [↓vwK_j h0, h0, fm, k]) rfl (by simp)
    refine ⟨st, ?_, by rw [if_neg (fun z => nomatch z)]; exact a, Fr.refl _, rfl⟩
    rw [c__law_told, runB_k, b__law_told]
    generalize sTryA xT 6008216717068758898 5 L__law_told_1 X__law_told_1 = f1 at *
    generalize flgO (some c) = fc at *
    simp (maxSteps := 30000) (disch := first | assumption | (simp; done) | omega | (simp; omega)) [t]
  | none =>
    obtain ⟨st', k, b1, b2, b3⟩ := word_yes a hx e hl
    have t := sTryA_nx (T := xT) (h := 6008216717068758898) (i := 5) (S := [.d (.loc h), .d (.str w), .d (.str th), .d (.str x), .d (.str kd), .no]) (st := st) (fb := L__law_told_1) (fs := X__law_told_1) (S1 := [.d (.loc h), .d (.str w), .d (.str th), .d (.str x), .d (.str kd), .no]) (st1 := st') (by
      rw [L__law_told_1]
      clear hx e b1 b2 b3
      generalize fsH H h = fs at *
      simp (maxSteps := 30000) (disch := first | assumption | (simp; done) | omega | (simp; omega)) [↓vwK_j h0, h0, fm, k])
    refine ⟨st', ?_, by rw [if_pos rfl]; exact b1, b2, b3⟩
    show _ = Res.ok (D.lst []) [] st'
    rw [c__law_told, runB_k, b__law_told]
    generalize sTryA xT 6008216717068758898 5 L__law_told_1 X__law_told_1 = f1 at *
    simp (maxSteps := 30000) (disch := first | assumption | (simp; done) | omega | (simp; omega)) [t, Ow.d]
theorem added_no (a : HoAt st h H) {t u : Ho.Tg} (hw : getA H.tgs t.name = some u) (ht : st[t.hd]? = some (.i cT (fsT t))) : c__law_added [.loc h, .loc t.hd] st = .ok (flgO (some NoT)) [] st := by
  have h0 := a.ob
  have fm : List.lookup 6382692 (fsH H h) = none := rfl
  have k := add_no a hw ht
  have t' := try_e (i := 2) (S := [.d (.loc h), .d (.loc t.hd), .no]) (st := st) (L := L__law_added_1) (X := X__law_added_1) (.inl rfl) (by
    rw [L__law_added_1]
    clear hw ht
    generalize fsH H h = fs at *
    generalize t.hd = n at *
    simp (maxSteps := 30000) (disch := first | assumption | (simp; done) | omega | (simp; omega)) [↓vwK_j h0, h0, fm, k]) rfl (by simp)
  rw [c__law_added, runB_k, b__law_added]
  generalize sTryA xT 6008216717068758898 2 L__law_added_1 X__law_added_1 = f1 at *
  generalize flgO (some NoT) = fc at *
  simp (maxSteps := 30000) (disch := first | assumption | (simp; done) | omega | (simp; omega)) [t']
theorem added_yes (a : HoAt st h H) (hl : H.tgs.length ≤ 1000) {t : Ho.Tg} (hw : getA H.tgs t.name = none) (ht : st[t.hd]? = some (.i cT (fsT t))) (hn : h + 5 ≤ t.hd) :
    ∃ st', c__law_added [.loc h, .loc t.hd] st = .ok (.lst []) [] st' ∧ HoAt st' h { H with tgs := H.tgs ++ [(t.name, t)] } ∧ Fr [h + 1] st st' ∧ st'.length = st.length := by
  have h0 := a.ob
  have fm : List.lookup 6382692 (fsH H h) = none := rfl
  obtain ⟨st', k, b1, b2, b3⟩ := add_ok a hl hw ht hn
  have t' := sTryA_nx (T := xT) (h := 6008216717068758898) (i := 2) (S := [.d (.loc h), .d (.loc t.hd), .no]) (st := st) (fb := L__law_added_1) (fs := X__law_added_1) (S1 := [.d (.loc h), .d (.loc t.hd), .no]) (st1 := st') (by
    rw [L__law_added_1]
    clear hw ht b1 b2 b3
    generalize fsH H h = fs at *
    generalize t.hd = n at *
    simp (maxSteps := 30000) (disch := first | assumption | (simp; done) | omega | (simp; omega)) [↓vwK_j h0, h0, fm, k])
  refine ⟨st', ?_, b1, b2, b3⟩
  rw [c__law_added, runB_k, b__law_added]
  generalize sTryA xT 6008216717068758898 2 L__law_added_1 X__law_added_1 = f1 at *
  simp (maxSteps := 30000) (disch := first | assumption | (simp; done) | omega | (simp; omega)) [t', Ow.d]
theorem asked_no (a : HoAt st h H) {w : Wd} (hw : getA H.tgs w = none) : c__law_asked [.loc h, .str w] st = .ok (flgO (some NoT)) [] st := by
  have h0 := a.ob
  obtain ⟨_, _, fm, _⟩ := fH_m H h
  have k := named_no a hw
  have t' := try_e (i := 2) (S := [.d (.loc h), .d (.str w), .no]) (st := st) (L := L__law_asked_1) (X := X__law_asked_1) (.inl rfl) (by
    rw [L__law_asked_1]
    clear hw
    generalize fsH H h = fs at *
    generalize D.str w = wd at *
    simp (maxSteps := 30000) (disch := first | assumption | (simp; done) | omega | (simp; omega)) [↓vwK_j h0, h0, fm, k]) rfl (by simp)
  rw [c__law_asked, runB_k, b__law_asked]
  generalize sTryA xT 6008216717068758898 2 L__law_asked_1 X__law_asked_1 = f1 at *
  generalize flgO (some NoT) = fc at *
  simp (maxSteps := 30000) (disch := first | assumption | (simp; done) | omega | (simp; omega)) [t']
end
end M
namespace M
open PySem PySem.Spec PyProof.Rows L2 DL Bk Ho
abbrev lt52 : Wd := [97, 98, 99, 100, 101, 102, 103, 104, 105, 106, 107, 108, 109, 110, 111, 112, 113, 114, 115, 116, 117, 118, 119, 120, 121, 122, 65, 66, 67, 68, 69, 70, 71, 72, 73, 74, 75, 76, 77, 78, 79, 80, 81, 82, 83, 84, 85, 86, 87, 88, 89, 90]
theorem lt52_eq : k_LETTERS = lt52 := rfl
theorem istext_ok (s : Wd) (hs : s.length ≤ 1000) (st : Store) : c__law_is_text [.str s] st = .ok (.bl (isTx s)) [] st := by
  have dl : dLen [.str s] = some (.int (s.length : Nat)) := dLen_s _ (by omega)
  have it : itD (.str s) = some (sgs s) := rfl
  have key := lcL_filterF (g := gV 2) (own := [2]) (t := T__law_is_text_1) (f := E__law_is_text_1) (S := [.d (.str s), .d (.str lt52), .no]) (st := st) (fun c : Nat => D.str [c]) (fun c => !decide (c ∈ lt52)) (fun c => D.str [c]) s (fun c hc => by
    have : dNotIn (.str [c]) (.str lt52) = some (.bl (!decide (c ∈ lt52))) := rfl
    refine ⟨[.d (.str s), .d (.str lt52), .d (.str [c])], [.d (.str s), .d (.str lt52), .d (.str [c])], rfl, ?_, fun _ => rfl, fun _ => ⟨[.d (.str s), .d (.str lt52), .d (.str [c])], by rw [E__law_is_text_1]; generalize D.str [c] = cd at *; generalize D.str lt52 = kd at *; generalize D.str s = sd at *; simp (maxSteps := 30000) (disch := first | assumption | (simp; done) | omega | (simp; omega)) [], rfl⟩⟩
    rw [T__law_is_text_1]
    generalize (!decide (c ∈ lt52)) = bb at *
    generalize D.str [c] = cd at *
    generalize D.str lt52 = kd at *
    generalize D.str s = sd at *
    simp (maxSteps := 30000) (disch := first | assumption | (simp; done) | omega | (simp; omega)) [this, -dNotIn_a])
  have eg : sgs s = s.map fun c : Nat => D.str [c] := rfl
  rw [eg] at it
  have q1 : eqOk (.lst ((s.filter fun c => !decide (c ∈ lt52)).map fun c => D.str [c])) = true := eqOk_lst _ (by rw [List.all_map]; exact List.all_eq_true.mpr fun _ _ => rfl)
  have l1 : ((s.filter fun c => !decide (c ∈ lt52)).map fun c => D.str [c]).length ≤ 16777216 := by
    rw [List.length_map]
    have := List.length_filter_le (fun c => !decide (c ∈ lt52)) s
    omega
  have q2 : eqOk (.lst []) = true := rfl
  have q3 : deq (.lst ((s.filter fun c => !decide (c ∈ lt52)).map fun c => D.str [c])) (.lst []) = s.all (fun c => decide (c ∈ k_LETTERS)) := by
    rw [lt52_eq]
    cases q : s.filter (fun c => !decide (c ∈ lt52)) with
    | nil =>
      have : s.all (fun c => decide (c ∈ lt52)) = true := by
        rw [List.all_eq_true]
        intro c hc
        have := List.filter_eq_nil_iff.mp q c hc
        cases hd : decide (c ∈ lt52) with
        | true => rfl
        | false => rw [hd] at this; exact absurd rfl this
      rw [this]; rfl
    | cons x r =>
      have hx : x ∈ s.filter (fun c => !decide (c ∈ lt52)) := by rw [q]; exact List.mem_cons_self ..
      rw [List.mem_filter] at hx
      have : s.all (fun c => decide (c ∈ lt52)) = false := by
        rw [List.all_eq_false]
        exact ⟨x, hx.1, fun z => by rw [z] at hx; exact absurd hx.2 (by decide)⟩
      rw [this]; rfl
  have g0 : (0 : Int) < (s.length : Nat) ↔ 0 < s.length := by omega
  have g1 : ((s.length : Nat) : Int) ≤ 12 ↔ s.length ≤ 12 := by omega
  unfold isTx
  rw [c__law_is_text, runB_k, b__law_is_text]
  clear eg
  generalize s.all (fun c => decide (c ∈ k_LETTERS)) = ba at *
  generalize ((s.filter fun c => !decide (c ∈ lt52)).map fun c => D.str [c]) = fl at *
  generalize (s.map fun c : Nat => D.str [c]) = sl at *
  generalize E__law_is_text_1 = E1 at *
  generalize T__law_is_text_1 = E2 at *
  by_cases p0 : 0 < s.length
  · have z0 := g0.mpr p0
    by_cases p1 : s.length ≤ 12
    · have z1 := g1.mpr p1
      rw [decide_eq_true p0, decide_eq_true p1]
      clear hs g0 g1 p0 p1
      generalize ((s.length : Nat) : Int) = n1 at *
      generalize D.str s = sd at *
      generalize D.str lt52 = kd at *
      simp (maxSteps := 30000) (disch := first | assumption | (simp; done) | omega | (simp; omega)) [dl, it, z0, z1, key, q1, q2, q3, l1, Ow.d]
    · have z1 : ¬ ((s.length : Nat) : Int) ≤ 12 := fun z => p1 (g1.mp z)
      rw [decide_eq_true p0, decide_eq_false p1]
      clear hs g0 g1 p0 p1
      generalize ((s.length : Nat) : Int) = n1 at *
      generalize D.str s = sd at *
      generalize D.str lt52 = kd at *
      simp (maxSteps := 30000) (disch := first | assumption | (simp; done) | omega | (simp; omega)) [dl, it, z0, z1]
  · have z0 : ¬ (0 : Int) < (s.length : Nat) := fun z => p0 (g0.mp z)
    rw [decide_eq_false p0]
    clear hs g0 g1 p0
    generalize ((s.length : Nat) : Int) = n1 at *
    generalize D.str s = sd at *
    generalize D.str lt52 = kd at *
    simp (maxSteps := 30000) (disch := first | assumption | (simp; done) | omega | (simp; omega)) [dl, it, z0]
theorem lt52_at (v : Int) (h0 : 0 ≤ v) (h1 : v < 52) : ∃ c, dIx (.str lt52) (.int v) = some (.str [c]) := by
  obtain ⟨c, hc⟩ : ∃ c, lt52[v.toNat]? = some c := ⟨_, List.getElem?_eq_getElem (show v.toNat < 52 by omega)⟩
  refine ⟨c, ?_⟩
  have e : atI lt52 v = some c := by rw [atI_nn _ h0]; exact hc
  rw [dIx_s _ _ (by decide), e]; rfl
theorem text_loop (x0 : D) : ∀ (ds : List D) (i : Int) (f : Wd) (x : Sl) (st : Store), f.length + ds.length ≤ 100 → ∃ (j : Int) (f' : Wd) (x' : Sl), f'.length = f.length + ds.length ∧
    forL (gV 4) L__law_text_1 ds [.d x0, .d (.str lt52), .d (.int i), .d (.str f), x] st = .nx [.d x0, .d (.str lt52), .d (.int j), .d (.str f'), x'] st
  | [], i, f, x, st, _ => ⟨i, f, x, rfl, rfl⟩
  | d :: r, i, f, x, st, hl => by
    rw [List.length_cons] at hl
    have m0 := Int.emod_nonneg i (show (52 : Int) ≠ 0 by decide)
    have m1 := Int.emod_lt_of_pos i (show (0 : Int) < 52 by decide)
    obtain ⟨c, hc⟩ := lt52_at (i % 52) m0 m1
    obtain ⟨j, f', x', e1, e2⟩ := text_loop x0 r (i / 52) (f ++ [c]) (.d d) st (by rw [List.length_append, List.length_singleton]; omega)
    refine ⟨j, f', x', by rw [e1, List.length_append, List.length_singleton, List.length_cons]; omega, ?_⟩
    have ha : dAdd (.str f) (.str [c]) = some (.str (f ++ [c])) := dAdd_s _ _ (by rw [List.length_singleton]; omega)
    have md : dMod (.int i) (.int 52) = some (.int (i % 52)) := by simp
    have fd : dFdiv (.int i) (.int 52) = some (.int (i / 52)) := by simp
    have b : L__law_text_1 [.d x0, .d (.str lt52), .d (.int i), .d (.str f), .d d] st = .nx [.d x0, .d (.str lt52), .d (.int (i / 52)), .d (.str (f ++ [c])), .d d] st := by
      rw [L__law_text_1]
      clear e1 e2 m0 m1 hl
      generalize D.str (f ++ [c]) = fc at *
      generalize D.str [c] = gc at *
      generalize D.str f = fx at *
      generalize D.str lt52 = ld at *
      generalize i % 52 = i26 at *
      generalize i / 52 = j26 at *
      simp (maxSteps := 30000) (disch := first | assumption | (simp; done) | omega | (simp; omega)) [md, fd, hc, ha]
    rw [forL_c, gV_a]
    simp only [List.set_cons_succ, List.set_cons_zero, b, e2]
theorem cut_le {α : Type} (s : List α) (l u : Option Int) : (cut s l u).length ≤ s.length := by
  unfold cut
  simp only [List.length_take, List.length_drop]
  omega
theorem ltext_ok (i : Int) (st : Store) : ∃ s : Wd, s.length ≤ 100 ∧ c__law_text [.int i] st = .ok (.str s) [] st := by
  have m0 := Int.emod_nonneg (i / 8) (show (12 : Int) ≠ 0 by decide)
  have m1 := Int.emod_lt_of_pos (i / 8) (show (0 : Int) < 12 by decide)
  obtain ⟨m, hm, hm1⟩ : ∃ m : Nat, 1 + i / 8 % 12 = (m : Int) ∧ m ≤ 12 := ⟨(1 + i / 8 % 12).toNat, by omega, by omega⟩
  obtain ⟨j, f, x', e1, e2⟩ := text_loop (.int i) (rng m 0) (i / 16) [] .no st (by rw [rng_len]; simp; omega)
  rw [rng_len, List.length_nil] at e1
  have fl : f.length ≤ 12 := by omega
  have f16 : dFdiv (.int i) (.int 16) = some (.int (i / 16)) := by simp
  have f8 : dFdiv (.int i) (.int 8) = some (.int (i / 8)) := by simp
  have f96 : dFdiv (.int i) (.int 96) = some (.int (i / 96)) := by simp
  have m12 : dMod (.int (i / 8)) (.int 12) = some (.int (i / 8 % 12)) := by simp
  have m5 : dMod (.int (i / 96)) (.int 5) = some (.int (i / 96 % 5)) := by simp
  have m8 : dMod (.int i) (.int 8) = some (.int (i % 8)) := by simp
  have ad : dAdd (.int 1) (.int (i / 8 % 12)) = some (.int (m : Nat)) := by simp [hm]
  have r0 : -1000000 ≤ ((m : Nat) : Int) := by omega
  have r1 : ((m : Nat) : Int) ≤ 1000000 := by omega
  have r2 : ((m : Nat) : Int).toNat = m := Int.toNat_natCast _
  have q1 : eqOk (.int (i % 8)) = true := rfl
  have q2 : deq (.int (i % 8)) (.int 1) = decide (i % 8 = 1) := deq_int _ _
  have sA : dSl (.str f) none (some (-1)) = some (.str (cut f none (some (-1)))) := dSl_s _ _ _ (by omega)
  have sB : dSl (.str f) (some 1) none = some (.str (cut f (some 1) none)) := dSl_s _ _ _ (by omega)
  have sC : dSl (.str f) none (some 5) = some (.str (cut f none (some 5))) := dSl_s _ _ _ (by omega)
  have lA := cut_le f none (some (-1))
  have lB := cut_le f (some 1) none
  have lC := cut_le f none (some 5)
  have aA : dAdd (.str (cut f none (some (-1)))) (.str [45]) = some (.str (cut f none (some (-1)) ++ [45])) := dAdd_s _ _ (by rw [List.length_singleton]; omega)
  have aB : dAdd (.str [32]) (.str (cut f (some 1) none)) = some (.str ([32] ++ cut f (some 1) none)) := dAdd_s _ _ (by rw [List.length_singleton]; omega)
  have aC : dAdd (.str (cut f none (some 5))) (.str [55]) = some (.str (cut f none (some 5) ++ [55])) := dAdd_s _ _ (by rw [List.length_singleton]; omega)
  have ng : dNeg (.int 1) = some (.int (-1)) := rfl
  obtain ⟨z, hz, ix⟩ : ∃ z : Wd, z.length ≤ 100 ∧ dIx (.lst [.str [], .str [97, 98, 99, 100, 101, 102, 103, 104, 105, 106, 107, 108, 77], .str (cut f none (some (-1)) ++ [45]), .str ([32] ++ cut f (some 1) none), .str (cut f none (some 5) ++ [55])]) (.int (i / 96 % 5)) = some (.str z) := by
    have v0 := Int.emod_nonneg (i / 96) (show (5 : Int) ≠ 0 by decide)
    have v1 := Int.emod_lt_of_pos (i / 96) (show (0 : Int) < 5 by decide)
    have : i / 96 % 5 = 0 ∨ i / 96 % 5 = 1 ∨ i / 96 % 5 = 2 ∨ i / 96 % 5 = 3 ∨ i / 96 % 5 = 4 := by omega
    rcases this with e | e | e | e | e <;> rw [e]
    · exact ⟨[], by decide, rfl⟩
    · exact ⟨_, by decide, rfl⟩
    · exact ⟨_, by rw [List.length_append, List.length_singleton]; omega, rfl⟩
    · exact ⟨_, by rw [List.length_append, List.length_singleton]; omega, rfl⟩
    · exact ⟨_, by rw [List.length_append, List.length_singleton]; omega, rfl⟩
  refine ⟨if i % 8 = 1 then z else f, by split <;> omega, ?_⟩
  rw [c__law_text, runB_k, b__law_text]
  clear m0 m1 hm hm1 e1 fl lA lB lC hz
  generalize L__law_text_1 = LL at *
  generalize ((m : Nat) : Int) = mi at *
  generalize i / 8 % 12 = i12 at *
  generalize i / 96 % 5 = i5 at *
  generalize i / 8 = i8 at *
  generalize i / 96 = i96 at *
  generalize i / 16 = i16 at *
  generalize D.str (cut f none (some (-1)) ++ [45]) = dA at *
  generalize D.str ([32] ++ cut f (some 1) none) = dB at *
  generalize D.str (cut f none (some 5) ++ [55]) = dC at *
  generalize D.str (cut f none (some (-1))) = dA' at *
  generalize D.str (cut f (some 1) none) = dB' at *
  generalize D.str (cut f none (some 5)) = dC' at *
  by_cases hE : i % 8 = 1
  · rw [if_pos hE]
    rw [decide_eq_true hE] at q2
    generalize i % 8 = im at *
    generalize D.str z = zd at *
    generalize D.str f = fx at *
    simp (maxSteps := 30000) (disch := first | assumption | (simp; done) | omega | (simp; omega)) [f16, f8, f96, m12, m5, m8, ad, r0, r1, r2, e2, q1, q2, sA, sB, sC, aA, aB, aC, ng, ix, Ow.d]
  · rw [if_neg hE]
    rw [decide_eq_false hE] at q2
    generalize i % 8 = im at *
    generalize D.str f = fx at *
    simp (maxSteps := 30000) (disch := first | assumption | (simp; done) | omega | (simp; omega)) [f16, f8, m12, m8, ad, r0, r1, r2, e2, q1, q2]
end M
namespace M
open PySem PySem.Spec PyProof.Rows L2 DL Bk Ho
def thD (l : List (Wd × Ho.Tg)) : List (D × D) := l.map fun e => (.str e.1, .str (shD (fldD e.2)))
theorem thD_look (l : List (Wd × Ho.Tg)) (w : Wd) : lookD (thD l) (.str w) = (getA l w).map fun t => .str (shD (fldD t)) := lookD_A (fun t : Ho.Tg => D.str (shD (fldD t))) w l
theorem due_ok {st : Store} {td : Nat} {H : Hm} (ht : st[td]? = some (.o (.k (thD H.tgs)))) (w th x kd : Wd) (hx : x.length ≤ 1000) :
    c__law_due [.loc td, .lst (H.things.map .str), .lst (H.kinds.map .str), .tup [.str w, .str th, .str x, .str kd]] st = .ok (flgO (wdOut H w th x kd)) [] st := by
  have q1 : eqOk (.str th) = true := rfl
  have q2 : eqOk (.str kd) = true := rfl
  have q3 : eqOk (.lst (H.things.map D.str)) = true := eqOk_lst _ (flat_strs _)
  have q4 : eqOk (.lst (H.kinds.map D.str)) = true := eqOk_lst _ (flat_strs _)
  have a1 := any_strs th H.things
  have a2 := any_strs kd H.kinds
  have tx' := istext_ok x hx st
  have lk := thD_look H.tgs w
  have k1 : isKey (.str w) = true := rfl
  have i0 : dIx (.tup [.str w, .str th, .str x, .str kd]) (.int 0) = some (.str w) := rfl
  have i1 : dIx (.tup [.str w, .str th, .str x, .str kd]) (.int 1) = some (.str th) := rfl
  have i2 : dIx (.tup [.str w, .str th, .str x, .str kd]) (.int 2) = some (.str x) := rfl
  have i3 : dIx (.tup [.str w, .str th, .str x, .str kd]) (.int 3) = some (.str kd) := rfl
  unfold wdOut
  rw [c__law_due, runB_k, b__law_due]
  cases hw : getA H.tgs w with
  | none =>
    rw [hw] at lk
    rw [if_pos (show (none : Option Ho.Tg).isNone = true from rfl)]
    show _ = Res.ok (flg true false false) [] st
    unfold flg
    clear tx' a1 a2 i1 i2 i3
    generalize thD H.tgs = tg at *
    generalize D.tup [.str w, .str th, .str x, .str kd] = dd at *
    generalize D.str w = wd at *
    generalize H.things.map D.str = tl at *
    generalize H.kinds.map D.str = kl at *
    simp (maxSteps := 30000) (disch := first | assumption | (simp; done) | omega | (simp; omega)) [ht, i0, lk, k1, dNotInK, Ow.d]
  | some t =>
    rw [hw] at lk
    rw [if_neg (by simp)]
    have lk : lookD (thD H.tgs) (.str w) = some (.str (shD (fldD t))) := lk
    by_cases hth : th ∈ H.things
    · rw [if_neg (fun z => z hth)]
      rw [decide_eq_true hth] at a1
      by_cases hkd : kd ∈ H.kinds
      · rw [decide_eq_true hkd] at a2
        cases htx : isTx x with
        | true =>
          rw [if_neg (fun z => z.elim (fun z => z hkd) (fun z => nomatch z))]
          show _ = Res.ok (D.lst []) [] st
          rw [htx] at tx'
          clear hw hth hkd htx
          generalize shD (fldD t) = ft at *
          generalize thD H.tgs = tg at *
          generalize D.tup [.str w, .str th, .str x, .str kd] = dd at *
          generalize H.things.map D.str = tl at *
          generalize H.kinds.map D.str = kl at *
          generalize D.str w = wd at *
          generalize D.str th = thd at *
          generalize D.str x = xd at *
          generalize D.str kd = kd' at *
          simp (maxSteps := 30000) (disch := first | assumption | (simp; done) | omega | (simp; omega)) [ht, i0, i1, i2, i3, lk, k1, q1, q2, q3, q4, a1, a2, tx', dNotInK, Ow.d]
        | false =>
          rw [if_pos (.inr rfl)]
          show _ = Res.ok (flg false false true) [] st
          unfold flg
          rw [htx] at tx'
          clear hw hth hkd htx
          generalize shD (fldD t) = ft at *
          generalize thD H.tgs = tg at *
          generalize D.tup [.str w, .str th, .str x, .str kd] = dd at *
          generalize H.things.map D.str = tl at *
          generalize H.kinds.map D.str = kl at *
          generalize D.str w = wd at *
          generalize D.str th = thd at *
          generalize D.str x = xd at *
          generalize D.str kd = kd' at *
          simp (maxSteps := 30000) (disch := first | assumption | (simp; done) | omega | (simp; omega)) [ht, i0, i1, i2, i3, lk, k1, q1, q2, q3, q4, a1, a2, tx', dNotInK, Ow.d]
      · rw [decide_eq_false hkd] at a2
        rw [if_pos (.inl hkd)]
        show _ = Res.ok (flg false false true) [] st
        unfold flg
        clear hw hth hkd tx'
        generalize shD (fldD t) = ft at *
        generalize thD H.tgs = tg at *
        generalize D.tup [.str w, .str th, .str x, .str kd] = dd at *
        generalize H.things.map D.str = tl at *
        generalize H.kinds.map D.str = kl at *
        generalize D.str w = wd at *
        generalize D.str th = thd at *
        generalize D.str kd = kd' at *
        simp (maxSteps := 30000) (disch := first | assumption | (simp; done) | omega | (simp; omega)) [ht, i0, i1, i3, lk, k1, q1, q2, q3, q4, a1, a2, dNotInK, Ow.d]
    · rw [if_pos hth]
      rw [decide_eq_false hth] at a1
      show _ = Res.ok (flg false true false) [] st
      unfold flg
      clear hw hth tx' a2
      generalize shD (fldD t) = ft at *
      generalize thD H.tgs = tg at *
      generalize D.tup [.str w, .str th, .str x, .str kd] = dd at *
      generalize H.things.map D.str = tl at *
      generalize H.kinds.map D.str = kl at *
      generalize D.str w = wd at *
      generalize D.str th = thd at *
      simp (maxSteps := 30000) (disch := first | assumption | (simp; done) | omega | (simp; omega)) [ht, i0, i1, lk, k1, q1, q3, a1, dNotInK, Ow.d]
theorem lown_ok (o : Option W2) (st : Store) : c__law_own [wdO o, wdO o] st = .ok (.bl true) [] st := by
  cases o with
  | none =>
    show c__law_own [.non, .non] st = _
    rw [c__law_own, runB_k, b__law_own]
    simp (maxSteps := 30000) (disch := first | assumption | (simp; done) | omega | (simp; omega)) []
  | some e =>
    show c__law_own [.tup [.str e.1, .str e.2], .tup [.str e.1, .str e.2]] st = _
    have i1 : dIsI [.tup [.str e.1, .str e.2], .ty "tuple"] = some (.bl true) := rfl
    have i2 : dIs (.tup [.str e.1, .str e.2]) .non = some (.bl false) := rfl
    have dl : dLen [.tup [.str e.1, .str e.2]] = some (.int 2) := rfl
    have x0 : dIx (.tup [.str e.1, .str e.2]) (.int 0) = some (.str e.1) := rfl
    have x1 : dIx (.tup [.str e.1, .str e.2]) (.int 1) = some (.str e.2) := rfl
    have q1 : eqOk (.tup [.str e.1, .str e.2]) = true := rfl
    have q2 : deq (.tup [.str e.1, .str e.2]) (.tup [.str e.1, .str e.2]) = true := by rw [deq_tup]; show (deq (.str e.1) (.str e.1) && (deq (.str e.2) (.str e.2) && true)) = true; rw [DL.deq_str, DL.deq_str]; simp
    rw [c__law_own, runB_k, b__law_own]
    generalize D.tup [.str e.1, .str e.2] = td at *
    simp (maxSteps := 30000) (disch := first | assumption | (simp; done) | omega | (simp; omega)) [i1, i2, dl, x0, x1, q1, q2]
theorem rows_ok {st : Store} {n : Nat} {ws : List Wd} (hn : st[n]? = some (.o (.l (ws.map .str)))) (hl : ws.length ≤ 1000) : c__law_rows [.loc n, .lst (ws.map .str)] st = .ok (.bl true) [] (st.set n (.o (.l (ws.map .str ++ [.str [122, 122, 122]])))) := by
  have i1 : dIsI [.lst (ws.map D.str), .ty "list"] = some (.bl true) := rfl
  have q1 : eqOk (.lst (ws.map D.str)) = true := eqOk_lst _ (flat_strs _)
  have q2 : deq (.lst (ws.map D.str)) (.lst (ws.map D.str)) = true := deq_refl_strs ws
  have ll : (ws.map D.str).length < 16777216 := by rw [List.length_map]; omega
  rw [c__law_rows, runB_k, b__law_rows]
  generalize ws.map D.str = wl at *
  simp (maxSteps := 30000) (disch := first | assumption | (simp; done) | omega | (simp; omega)) [hn, i1, q1, q2, ll, Ow.d]
theorem some_loop {x0 : D} {N : List Wd} : ∀ (l : List Wd) (i : Int) (acc : List Wd) (x : Sl) (st : Store), acc.length + l.length ≤ 1000 → (∀ w ∈ acc, w ∈ N) → (∀ w ∈ l, w ∈ N) → ∃ (j : Int) (acc' : List Wd) (x' : Sl), (acc'.length ≤ acc.length + l.length ∧ ∀ w ∈ acc', w ∈ N) ∧
    forL (gV 3) L__law_some_1 (l.map .str) [.d x0, .d (.int i), .own (.l (acc.map .str)), x] st = .nx [.d x0, .d (.int j), .own (.l (acc'.map .str)), x'] st
  | [], i, acc, x, st, _, h, _ => ⟨i, acc, x, ⟨Nat.le_refl _, h⟩, rfl⟩
  | w :: r, i, acc, x, st, hl, h1, h2 => by
    rw [List.length_cons] at hl
    have md : dMod (.int i) (.int 4) = some (.int (i % 4)) := by simp
    have fd : dFdiv (.int i) (.int 4) = some (.int (i / 4)) := by simp
    have q1 : eqOk (.int (i % 4)) = true := rfl
    have q2 : deq (.int (i % 4)) (.int 1) = decide (i % 4 = 1) := deq_int _ _
    have la : (acc.map D.str).length < 16777216 := by rw [List.length_map]; omega
    rw [List.map_cons, forL_c, gV_a]
    simp only [List.set_cons_succ, List.set_cons_zero]
    by_cases hE : i % 4 = 1
    · rw [decide_eq_true hE] at q2
      obtain ⟨j, acc', x', ⟨e1, e2⟩, G⟩ := some_loop (x0 := x0) (N := N) r (i / 4) (acc ++ [w]) (.d (.str w)) st (by rw [List.length_append, List.length_singleton]; omega) (fun y hy => (List.mem_append.mp hy).elim (h1 y) fun z => by rw [List.mem_singleton.mp z]; exact h2 w (List.mem_cons_self ..)) (fun y hy => h2 y (List.mem_cons_of_mem _ hy))
      have b : L__law_some_1 [.d x0, .d (.int i), .own (.l (acc.map .str)), .d (.str w)] st = .nx [.d x0, .d (.int (i / 4)), .own (.l ((acc ++ [w]).map .str)), .d (.str w)] st := by
        have ea : (acc ++ [w]).map D.str = acc.map D.str ++ [.str w] := by rw [List.map_append]; rfl
        rw [ea, L__law_some_1]
        clear hE e1 e2 G h1 h2 hl ea
        generalize i % 4 = i4 at *
        generalize i / 4 = j4 at *
        generalize acc.map D.str = al at *
        generalize D.str w = wd at *
        simp (maxSteps := 30000) (disch := first | assumption | (simp; done) | omega | (simp; omega)) [md, fd, q1, q2, la, Ow.d]
      refine ⟨j, acc', x', ⟨by rw [List.length_append, List.length_singleton] at e1; rw [List.length_cons]; omega, e2⟩, ?_⟩
      rw [b]; exact G
    · rw [decide_eq_false hE] at q2
      obtain ⟨j, acc', x', ⟨e1, e2⟩, G⟩ := some_loop (x0 := x0) (N := N) r (i / 4) acc (.d (.str w)) st (by omega) h1 (fun y hy => h2 y (List.mem_cons_of_mem _ hy))
      have b : L__law_some_1 [.d x0, .d (.int i), .own (.l (acc.map .str)), .d (.str w)] st = .nx [.d x0, .d (.int (i / 4)), .own (.l (acc.map .str)), .d (.str w)] st := by
        rw [L__law_some_1]
        clear hE e1 e2 G h1 h2 hl
        generalize i % 4 = i4 at *
        generalize i / 4 = j4 at *
        generalize acc.map D.str = al at *
        generalize D.str w = wd at *
        simp (maxSteps := 30000) (disch := first | assumption | (simp; done) | omega | (simp; omega)) [md, fd, q1, q2, la, Ow.d]
      refine ⟨j, acc', x', ⟨by rw [List.length_cons]; omega, e2⟩, ?_⟩
      rw [b]; exact G
theorem some_ok (N : List Wd) (i : Int) (hl : N.length ≤ 1000) (st : Store) : ∃ fs : List Wd, fs.length ≤ N.length ∧ (∀ w ∈ fs, w ∈ N) ∧ c__law_some [.lst (N.map .str), .int i] st = .ok (.lst (fs.map .str)) [] st := by
  obtain ⟨j, fs, x', ⟨e1, e2⟩, G⟩ := some_loop (x0 := .lst (N.map .str)) (N := N) N i [] .no st (by simpa using hl) (fun _ h => nomatch h) (fun _ h => h)
  refine ⟨fs, by simpa using e1, e2, ?_⟩
  have z : ([] : List Wd).map D.str = [] := rfl
  rw [z] at G
  rw [c__law_some, runB_k, b__law_some]
  clear e1 e2
  generalize L__law_some_1 = LL at *
  generalize N.map D.str = nl at *
  generalize fs.map D.str = fl at *
  simp (maxSteps := 30000) (disch := first | assumption | (simp; done) | omega | (simp; omega)) [G, Ow.d]
theorem tongue_ok (nm : Wd) (N : List Wd) (hn : Lw nm) (hN : ∀ w ∈ N, Lw w) (hl : N.length ≤ 8) (i : Int) (st : Store) :
    ∃ t : Ho.Tg, T51 t ∧ t.name = nm ∧ t.hd = st.length ∧ c__law_tongue [.str nm, .lst (N.map .str), .int i] st = .ok (.loc st.length) [] (st ++ [.i cT (fsT t)]) := by
  obtain ⟨fs, f1, f2, fe⟩ := some_ok N i (by omega) st
  obtain ⟨w, hw, we⟩ := word_ok (i / 11) st
  have l0 := Int.emod_nonneg (i / 7) (show (9 : Int) ≠ 0 by decide)
  have l1 := Int.emod_lt_of_pos (i / 7) (show (0 : Int) < 9 by decide)
  have v0 := Int.emod_nonneg (i / 5) (show (9 : Int) ≠ 0 by decide)
  have v1 := Int.emod_lt_of_pos (i / 5) (show (0 : Int) < 9 by decide)
  have c0 := Int.emod_nonneg i (show (9 : Int) ≠ 0 by decide)
  have c1 := Int.emod_lt_of_pos i (show (0 : Int) < 9 by decide)
  refine ⟨tg51 nm fs w (i % 9) (1 + i / 7 % 9) (1 + i / 5 % 9) st.length, ⟨_, _, _, _, _, _, _, rfl, hn, fun x hx => hN x (f2 x hx), by omega, hw, c0, by omega, by omega, by omega, by omega, by omega⟩, rfl, rfl, ?_⟩
  have e := tinit_ok (tg51 nm fs w (i % 9) (1 + i / 7 % 9) (1 + i / 5 % 9) st.length) st.length st rfl
  have e : c_Tongue___init__ [.loc st.length, .str nm, .lst (fs.map .str), .lst (rulD w (i % 9)), joiD, figD (1 + i / 7 % 9) (1 + i / 5 % 9), calD (1 + i / 7 % 9), dayD] (st ++ [.i cT []]) = _ := e
  have d7 : dFdiv (.int i) (.int 7) = some (.int (i / 7)) := by simp
  have d5 : dFdiv (.int i) (.int 5) = some (.int (i / 5)) := by simp
  have d11 : dFdiv (.int i) (.int 11) = some (.int (i / 11)) := by simp
  have m7 : dMod (.int (i / 7)) (.int 9) = some (.int (i / 7 % 9)) := by simp
  have m5 : dMod (.int (i / 5)) (.int 9) = some (.int (i / 5 % 9)) := by simp
  have m9 : dMod (.int i) (.int 9) = some (.int (i % 9)) := by simp
  have a7 : dAdd (.int 1) (.int (i / 7 % 9)) = some (.int (1 + i / 7 % 9)) := by simp
  have a5 : dAdd (.int 1) (.int (i / 5 % 9)) = some (.int (1 + i / 5 % 9)) := by simp
  have x0 : dIx (.lst [.tup [.str w, .tup [.str [115, 101, 108, 102], .int (i % 9), .non]], .tup [.str zz, .non]]) (.int 0) = some (.tup [.str w, .tup [.str [115, 101, 108, 102], .int (i % 9), .non]]) := rfl
  have x1 : dIx (.tup [.str w, .tup [.str [115, 101, 108, 102], .int (i % 9), .non]]) (.int 0) = some (.str w) := rfl
  have sl : ∀ a b : D, cut [a, b] (some 1) none = [b] := fun _ _ => rfl
  have q1 : eqOk (.str w) = true := rfl
  have q2 : deq (.str w) (.str zz) = decide (w = zz) := deq_str _ _
  unfold rulD joiD figD calD dayD at e
  rw [c__law_tongue, runB_k, b__law_tongue]
  clear hn hN hl f1 f2 hw l0 l1 v0 v1 c0 c1
  generalize fsT _ = tf at *
  by_cases hE : w = zz
  · rw [if_pos hE] at e
    rw [decide_eq_true hE] at q2
    clear hE
    generalize 1 + i / 7 % 9 = k1 at *
    generalize 1 + i / 5 % 9 = k2 at *
    generalize i / 7 % 9 = k3 at *
    generalize i / 5 % 9 = k4 at *
    generalize i % 9 = k5 at *
    generalize i / 7 = k6 at *
    generalize i / 5 = k7 at *
    generalize i / 11 = k8 at *
    generalize D.str nm = nd at *
    generalize N.map D.str = nl at *
    generalize fs.map D.str = fl at *
    simp (maxSteps := 30000) (disch := first | assumption | (simp; done) | omega | (simp; omega)) [fe, we, d7, d5, d11, m7, m5, m9, a7, a5, sl, q1, q2, e, Ow.d]
  · rw [if_neg hE] at e
    rw [decide_eq_false hE] at q2
    clear hE
    generalize 1 + i / 7 % 9 = k1 at *
    generalize 1 + i / 5 % 9 = k2 at *
    generalize i / 7 % 9 = k3 at *
    generalize i / 5 % 9 = k4 at *
    generalize i % 9 = k5 at *
    generalize i / 7 = k6 at *
    generalize i / 5 = k7 at *
    generalize i / 11 = k8 at *
    generalize D.str nm = nd at *
    generalize N.map D.str = nl at *
    generalize fs.map D.str = fl at *
    simp (maxSteps := 30000) (disch := first | assumption | (simp; done) | omega | (simp; omega)) [fe, we, d7, d5, d11, m7, m5, m9, a7, a5, q1, q2, e, Ow.d]
end M
namespace M
open PySem PySem.Spec PyProof.Rows L2 DL Bk Ho
theorem len_subG {α : Type} [DecidableEq α] : ∀ (a b : List α), a.Nodup → (∀ x ∈ a, x ∈ b) → a.length ≤ b.length
  | [], b, _, _ => Nat.zero_le _
  | x :: r, b, nd, h => by
    rw [List.nodup_cons] at nd
    have hx := h x (List.mem_cons_self ..)
    have := len_subG r (b.erase x) nd.2 fun y hy => (List.mem_erase_of_ne (fun z : y = x => nd.1 (z ▸ hy))).mpr (h y (List.mem_cons_of_mem _ hy))
    rw [List.length_erase_of_mem hx] at this
    have := List.length_pos_of_mem hx
    rw [List.length_cons]; omega
theorem at_strs {N : List Wd} (h : N ≠ []) (j : Int) : ∃ w, w ∈ N ∧ dMod (.int j) (.int (N.length : Nat)) = some (.int (j % (N.length : Nat))) ∧ dIx (.lst (N.map .str)) (.int (j % (N.length : Nat))) = some (.str w) := by
  have hl : 0 < N.length := List.length_pos_iff.mpr h
  have nz : ((N.length : Nat) : Int) ≠ 0 := by omega
  have m0 := Int.emod_nonneg j nz
  have m1 := Int.emod_lt_of_pos j (show (0 : Int) < (N.length : Nat) by omega)
  refine ⟨N[(j % (N.length : Nat)).toNat]'(by omega), List.getElem_mem _, dMod_a _ _ (by omega), ?_⟩
  rw [dIx_l, atI_nn _ m0, List.getElem?_map, List.getElem?_eq_getElem (show (j % (N.length : Nat)).toNat < N.length by omega)]
  rfl
structure Iv (N ks ths : List Wd) (n : Nat) (H : Hm) (st : Store) : Prop where
  at_ : HoAt st 3 H
  th : st[8]? = some (.o (.k (thD H.tgs)))
  tx : st[9]? = some (.t (wdD H.words))
  tg : ∀ e ∈ H.tgs, 10 ≤ e.2.hd ∧ T51 e.2
  sub : ∀ w ∈ H.names, w ∈ N
  nd : H.names.Nodup
  wl : H.words.length ≤ n
  ks : H.kinds = ks
  ths : H.things = ths
  len : 10 ≤ st.length
structure Ns (N ks ths : List Wd) : Prop where
  n0 : N ≠ []
  n8 : N.length ≤ 8
  nl : ∀ w ∈ N, Lw w
  k9 : ks.length ≤ 100
  t9 : ths.length ≤ 100
theorem Iv.tl {N ks ths : List Wd} {n : Nat} {H : Hm} {st : Store} (I : Iv N ks ths n H st) (g : Ns N ks ths) : H.tgs.length ≤ 8 := by
  have h := len_subG _ _ I.nd I.sub
  unfold Hm.names at h
  rw [List.length_map] at h
  have := g.n8
  omega
theorem Iv.fr {N ks ths : List Wd} {n : Nat} {H : Hm} {st st' : Store} (I : Iv N ks ths n H st) (f : Fr [] st st') : Iv N ks ths n H st' :=
  ⟨I.at_.fr f, f.get I.th, f.get I.tx, I.tg, I.sub, I.nd, I.wl, I.ks, I.ths, Nat.le_trans I.len f.le⟩
theorem deq_flg (a b c : Bool) : deq (flg a b c) (flg a b c) = true := by cases a <;> cases b <;> cases c <;> rfl
section
variable {N ks ths : List Wd} {n : Nat} {H : Hm} {st : Store}
theorem deedA_no (I : Iv N ks ths n H st) (g : Ns N ks ths) (i : Int) (hi : i % 3 = 0) {w : Wd} (hw : w ∈ N) (mm : dMod (.int (i / 3)) (.int (N.length : Nat)) = some (.int (i / 3 % (N.length : Nat)))) (ix : dIx (.lst (N.map .str)) (.int (i / 3 % (N.length : Nat))) = some (.str w)) {u : Ho.Tg} (hu : getA H.tgs w = some u) :
    ∃ H' st', c__law_deed [.loc 3, .int i, .lst (N.map .str), .lst (ths.map .str), .lst (ks.map .str), .loc 8, .loc 9] st = .ok (.bl true) [] st' ∧ Iv N ks ths (n + 1) H' st' ∧ H'.ranks = H.ranks := by
  obtain ⟨t, t51, tn, th, te⟩ := tongue_ok w N (g.nl w hw) g.nl g.n8 (i / 24) st
  have f := Fr.app (xs := []) st [Ob.i cT (fsT t)]
  have I1 := I.fr f
  have ad := added_no I1.at_ (t := t) (u := u) (by rw [tn]; exact hu) (by rw [th]; exact get_last _ _)
  rw [th] at ad
  have lk := thD_look H.tgs w
  rw [hu] at lk
  have lk : lookD (thD H.tgs) (.str w) = some (.str (shD (fldD u))) := lk
  have h8 := I1.th
  have k1 : isKey (.str w) = true := rfl
  have d3 : dFdiv (.int i) (.int 3) = some (.int (i / 3)) := by simp
  have d24 : dFdiv (.int i) (.int 24) = some (.int (i / 24)) := by simp
  have m3 : dMod (.int i) (.int 3) = some (.int 0) := by simp [hi]
  have dl : dLen [.lst (N.map D.str)] = some (.int (N.length : Nat)) := by simp
  have q1 := deq_flg true false false
  have q2 : eqOk (flg true false false) = true := rfl
  have ad : c__law_added [.loc 3, .loc st.length] (st ++ [.i cT (fsT t)]) = .ok (flg true false false) [] (st ++ [.i cT (fsT t)]) := ad
  unfold flg at ad q1 q2
  refine ⟨H, _, ?_, ⟨I1.at_, I1.th, I1.tx, I1.tg, I1.sub, I1.nd, Nat.le_succ_of_le I1.wl, I1.ks, I1.ths, I1.len⟩, rfl⟩
  rw [c__law_deed, runB_k, b__law_deed]
  clear I I1 g hi t51 tn th f hu hw
  generalize shD (fldD u) = su at *
  generalize thD H.tgs = tg at *
  generalize st ++ [Ob.i cT (fsT t)] = st1 at *
  generalize i / 3 % (N.length : Nat) = j1 at *
  generalize ((N.length : Nat) : Int) = n1 at *
  generalize i / 3 = j3 at *
  generalize i / 24 = j24 at *
  generalize N.map D.str = nl at *
  generalize ths.map D.str = tl at *
  generalize ks.map D.str = kl at *
  generalize D.str w = wd at *
  simp (maxSteps := 30000) (disch := first | assumption | (simp; done) | omega | (simp; omega)) [d3, dl, mm, ix, m3, d24, te, ad, h8, lk, k1, dInK, q1, q2, Ow.d]
theorem deedA_yes (I : Iv N ks ths n H st) (g : Ns N ks ths) (i : Int) (hi : i % 3 = 0) {w : Wd} (hw : w ∈ N) (mm : dMod (.int (i / 3)) (.int (N.length : Nat)) = some (.int (i / 3 % (N.length : Nat)))) (ix : dIx (.lst (N.map .str)) (.int (i / 3 % (N.length : Nat))) = some (.str w)) (hu : getA H.tgs w = none) :
    ∃ H' st', c__law_deed [.loc 3, .int i, .lst (N.map .str), .lst (ths.map .str), .lst (ks.map .str), .loc 8, .loc 9] st = .ok (.bl true) [] st' ∧ Iv N ks ths (n + 1) H' st' ∧ H'.ranks = H.ranks := by
  obtain ⟨t, t51, tn, th, te⟩ := tongue_ok w N (g.nl w hw) g.nl g.n8 (i / 24) st
  have f := Fr.app (xs := []) st [Ob.i cT (fsT t)]
  have I1 := I.fr f
  have tl := I.tl g
  have g0 : (st ++ [Ob.i cT (fsT t)])[t.hd]? = some (.i cT (fsT t)) := by rw [th]; exact get_last _ _
  obtain ⟨st2, ad, a2, f2, l2⟩ := added_yes I1.at_ (by omega) (t := t) (by rw [tn]; exact hu) g0 (by have := I.len; omega)
  have g2 : st2[t.hd]? = some (.i cT (fsT t)) := f2.at_ _ _ (by rw [List.mem_singleton]; have := I.len; omega) g0
  have g8 : st2[8]? = some (.o (.k (thD H.tgs))) := f2.at_ _ _ (by decide) I1.th
  have g9 : st2[9]? = some (.t (wdD H.words)) := f2.at_ _ _ (by decide) I1.tx
  rw [th] at ad
  have fo := fields_ok g2 t51
  rw [th] at fo
  have lk := thD_look H.tgs w
  rw [hu] at lk
  have lk : lookD (thD H.tgs) (.str w) = none := lk
  have k1 : isKey (.str w) = true := rfl
  have pk : putD (thD H.tgs) (.str w) (.str (shD (fldD t))) = thD (H.tgs ++ [(w, t)]) := by
    have := putD_A (fun t : Ho.Tg => D.str (shD (fldD t))) w t H.tgs
    unfold setA at this
    rw [hu] at this; exact this
  have ll : (thD H.tgs).length < 16777216 := by unfold thD; rw [List.length_map]; omega
  have d3 : dFdiv (.int i) (.int 3) = some (.int (i / 3)) := by simp
  have d24 : dFdiv (.int i) (.int 24) = some (.int (i / 24)) := by simp
  have m3 : dMod (.int i) (.int 3) = some (.int 0) := by simp [hi]
  have dl : dLen [.lst (N.map D.str)] = some (.int (N.length : Nat)) := by simp
  have q1 : deq (.lst []) (.lst []) = true := rfl
  have q2 : eqOk (.lst []) = true := rfl
  refine ⟨{ H with tgs := H.tgs ++ [(w, t)] }, st2.set 8 (.o (.k (thD (H.tgs ++ [(w, t)])))), ?_, ?_, rfl⟩
  · rw [c__law_deed, runB_k, b__law_deed]
    clear I I1 g hi t51 tn th f f2 a2 l2 g0 g2 g9 hu hw tl
    generalize shD (fldD t) = su at *
    generalize thD (H.tgs ++ [(w, t)]) = tg2 at *
    generalize thD H.tgs = tg at *
    generalize st ++ [Ob.i cT (fsT t)] = st1 at *
    have h8 : ∀ (hh : st1[8]? = some (.o (.k tg))), True := fun _ => trivial
    clear h8
    generalize i / 3 % (N.length : Nat) = j1 at *
    generalize ((N.length : Nat) : Int) = n1 at *
    generalize i / 3 = j3 at *
    generalize i / 24 = j24 at *
    generalize N.map D.str = nl at *
    generalize ths.map D.str = tl at *
    generalize ks.map D.str = kl at *
    generalize D.str w = wd at *
    simp (maxSteps := 30000) (disch := first | assumption | (simp; done) | omega | (simp; omega)) [d3, dl, mm, ix, m3, d24, te, ad, g8, fo, lk, pk, ll, k1, dInK, q1, q2, Ow.d]
  · have a2' : HoAt st2 3 { H with tgs := H.tgs ++ [(w, t)] } := by rw [tn] at a2; exact a2
    have far : ∀ e ∈ H.tgs ++ [(w, t)], 10 ≤ e.2.hd ∧ T51 e.2 := fun e he => by
      rcases List.mem_append.mp he with he | he
      · exact I.tg e he
      · rw [List.mem_singleton.mp he]; exact ⟨by show 10 ≤ t.hd; rw [th]; exact I.len, t51⟩
    refine ⟨a2'.far (xs := [8]) (Fr.set _ _ (List.mem_singleton_self _)) (fun x hx => by rw [List.mem_singleton.mp hx]; omega) (fun x hx e he => by rw [List.mem_singleton.mp hx]; have := (far e he).1; omega), get_set g8 _, by rw [get_ne (by decide)]; exact g9, far, ?_, ?_, Nat.le_succ_of_le I.wl, I.ks, I.ths, ?_⟩
    · intro y hy
      unfold Hm.names at hy
      rw [List.map_append] at hy
      rcases List.mem_append.mp hy with hy | hy
      · exact I.sub y hy
      · rw [List.map_cons, List.map_nil] at hy
        rw [List.mem_singleton.mp hy]; exact hw
    · show ((H.tgs ++ [(w, t)]).map (·.1)).Nodup
      rw [List.map_append, List.nodup_append]
      refine ⟨I.nd, by simp, fun a ha b hb => ?_⟩
      rw [List.map_cons, List.map_nil, List.mem_singleton] at hb
      subst hb
      rintro rfl
      exact getA_none.mp hu ha
    · rw [List.length_set, l2, List.length_append]; have := I.len; omega
theorem deedB (I : Iv N ks ths n H st) (g : Ns N ks ths) (i : Int) (hi : i % 3 = 1) {w : Wd} (hw : w ∈ N) (mm : dMod (.int (i / 3)) (.int (N.length : Nat)) = some (.int (i / 3 % (N.length : Nat)))) (ix : dIx (.lst (N.map .str)) (.int (i / 3 % (N.length : Nat))) = some (.str w)) :
    c__law_deed [.loc 3, .int i, .lst (N.map .str), .lst (ths.map .str), .lst (ks.map .str), .loc 8, .loc 9] st = .ok (.bl true) [] st := by
  obtain ⟨th, hth, mt, it⟩ := at_strs (N := ths ++ [[110, 111, 110, 101]]) (by simp) (i / 24)
  have ow := own_ok I.at_ w th
  have h0 := I.at_.ob
  have fm : List.lookup 8032009816743309924 (fsH H 3) = none := rfl
  have h9 := I.tx
  have kk : (keyT (.tup [.str w, .str th])).isSome = true := by
    unfold keyT
    simp only [keyN, keyNs]
    rfl
  have vl : (valE (wdD H.words) (.tup [.str w, .str th])).getD .non = wdO (getA H.words (w, th)) := by
    have := valE_dA (v := tp) tp_kinj H.words (w, th)
    have e : valE (wdD H.words) (.tup [.str w, .str th]) = (getA H.words (w, th)).map tp := this
    rw [e]
    cases getA H.words (w, th) <;> rfl
  have lo := lown_ok (getA H.words (w, th)) st
  have d3 : dFdiv (.int i) (.int 3) = some (.int (i / 3)) := by simp
  have d24 : dFdiv (.int i) (.int 24) = some (.int (i / 24)) := by simp
  have m3 : dMod (.int i) (.int 3) = some (.int 1) := by simp [hi]
  have dl : dLen [.lst (N.map D.str)] = some (.int (N.length : Nat)) := by simp
  have aa : dAdd (.lst (ths.map D.str)) (.lst [.str [110, 111, 110, 101]]) = some (.lst ((ths ++ [[110, 111, 110, 101]]).map D.str)) := by
    rw [List.map_append]
    exact dAdd_l _ _ (by have := g.t9; simp; omega)
  have dt : dLen [.lst ((ths ++ [[110, 111, 110, 101]]).map D.str)] = some (.int ((ths ++ [[110, 111, 110, 101]]).length : Nat)) := by rw [dLen_l, List.length_map]
  rw [c__law_deed, runB_k, b__law_deed]
  clear I g hi hw hth
  generalize wdO (getA H.words (w, th)) = od at *
  generalize wdD H.words = wdd at *
  generalize fsH H 3 = fs at *
  generalize (ths ++ [[110, 111, 110, 101]]).map D.str = tl2 at *
  generalize i / 24 % ((ths ++ [[110, 111, 110, 101]]).length : Nat) = j2 at *
  generalize (((ths ++ [[110, 111, 110, 101]]).length : Nat) : Int) = n2 at *
  generalize i / 3 % (N.length : Nat) = j1 at *
  generalize ((N.length : Nat) : Int) = n1 at *
  generalize i / 3 = j3 at *
  generalize i / 24 = j24 at *
  generalize N.map D.str = nl at *
  generalize ths.map D.str = tl at *
  generalize ks.map D.str = kl at *
  generalize D.str w = wd at *
  generalize D.str th = thd at *
  simp (maxSteps := 30000) (disch := first | assumption | (simp; done) | omega | (simp; omega)) [↓vwK_j h0, h0, h9, fm, d3, dl, mm, ix, m3, d24, aa, dt, mt, it, ow, kk, vl, lo, Ow.d]
theorem deedC (I : Iv N ks ths n H st) (g : Ns N ks ths) (hn : n ≤ 1000) (i : Int) (hi : i % 3 = 2) {w : Wd} (hw : w ∈ N) (mm : dMod (.int (i / 3)) (.int (N.length : Nat)) = some (.int (i / 3 % (N.length : Nat)))) (ix : dIx (.lst (N.map .str)) (.int (i / 3 % (N.length : Nat))) = some (.str w)) :
    ∃ H' st', c__law_deed [.loc 3, .int i, .lst (N.map .str), .lst (ths.map .str), .lst (ks.map .str), .loc 8, .loc 9] st = .ok (.bl true) [] st' ∧ Iv N ks ths (n + 1) H' st' ∧ H'.ranks = H.ranks := by
  obtain ⟨th, hth, mt, it⟩ := at_strs (N := ths ++ [[110, 111, 110, 101]]) (by simp) (i / 24)
  obtain ⟨kd, hkd, mk, ik⟩ := at_strs (N := ks ++ [[111, 116, 104, 101, 114]]) (by simp) (i / 7)
  obtain ⟨x, hx, tx⟩ := ltext_ok (i / 72) st
  have du := due_ok I.th w th x kd (by omega)
  rw [I.ks, I.ths] at du
  have d3 : dFdiv (.int i) (.int 3) = some (.int (i / 3)) := by simp
  have d24 : dFdiv (.int i) (.int 24) = some (.int (i / 24)) := by simp
  have d72 : dFdiv (.int i) (.int 72) = some (.int (i / 72)) := by simp
  have d7 : dFdiv (.int i) (.int 7) = some (.int (i / 7)) := by simp
  have m3 : dMod (.int i) (.int 3) = some (.int 2) := by simp [hi]
  have dl : dLen [.lst (N.map D.str)] = some (.int (N.length : Nat)) := by simp
  have aa : dAdd (.lst (ths.map D.str)) (.lst [.str [110, 111, 110, 101]]) = some (.lst ((ths ++ [[110, 111, 110, 101]]).map D.str)) := by
    rw [List.map_append]
    exact dAdd_l _ _ (by have := g.t9; simp; omega)
  have dt : dLen [.lst ((ths ++ [[110, 111, 110, 101]]).map D.str)] = some (.int ((ths ++ [[110, 111, 110, 101]]).length : Nat)) := by rw [dLen_l, List.length_map]
  have ab : dAdd (.lst (ks.map D.str)) (.lst [.str [111, 116, 104, 101, 114]]) = some (.lst ((ks ++ [[111, 116, 104, 101, 114]]).map D.str)) := by
    rw [List.map_append]
    exact dAdd_l _ _ (by have := g.k9; simp; omega)
  have dk : dLen [.lst ((ks ++ [[111, 116, 104, 101, 114]]).map D.str)] = some (.int ((ks ++ [[111, 116, 104, 101, 114]]).length : Nat)) := by rw [dLen_l, List.length_map]
  have kk : (keyT (.tup [.str w, .str th])).isSome = true := by
    unfold keyT
    simp only [keyN, keyNs]
    rfl
  have sE : storE (wdD H.words) (.tup [.str w, .str th]) (.tup [.str x, .str kd]) = wdD (setA H.words (w, th) (x, kd)) := storE_dA (v := tp) tp_kinj H.words (w, th) (x, kd)
  have ll : (wdD H.words).length < 16777216 := by unfold wdD dRw; rw [List.length_map]; have := I.wl; omega
  have i2 : dIx (.tup [.str w, .str th, .str x, .str kd]) (.int 2) = some (.str x) := rfl
  have i3 : dIx (.tup [.str w, .str th, .str x, .str kd]) (.int 3) = some (.str kd) := rfl
  have q0 : eqOk (.lst []) = true := rfl
  have h9 := I.tx
  cases hO : wdOut H w th x kd with
  | none =>
    have far : HoAt (st.set 9 (.t (wdD (setA H.words (w, th) (x, kd))))) 3 H := I.at_.far (xs := [9]) (Fr.set _ _ (List.mem_singleton_self _)) (fun z hz => by rw [List.mem_singleton.mp hz]; omega) (fun z hz e he => by rw [List.mem_singleton.mp hz]; have := (I.tg e he).1; omega)
    obtain ⟨st', to, b1, b2, b3⟩ := told_ok far (w := w) (th := th) (x := x) (kd := kd) (by omega) (by have := I.wl; omega)
    rw [hO] at du to
    rw [hO, if_pos rfl] at b1
    have q1 : deq (.lst []) (.lst []) = true := rfl
    have du : c__law_due [.loc 8, .lst (ths.map .str), .lst (ks.map .str), .tup [.str w, .str th, .str x, .str kd]] st = .ok (.lst []) [] st := du
    have to : c__law_told [.loc 3, .str w, .str th, .str x, .str kd] (st.set 9 (.t (wdD (setA H.words (w, th) (x, kd))))) = .ok (.lst []) [] st' := to
    refine ⟨_, st', ?_, ⟨b1, ?_, ?_, I.tg, I.sub, I.nd, ?_, I.ks, I.ths, by rw [b3, List.length_set]; exact I.len⟩, rfl⟩
    · rw [c__law_deed, runB_k, b__law_deed]
      clear I g hi hw hth hkd hx b1 b2 b3 far hO
      generalize wdD (setA H.words (w, th) (x, kd)) = wd2 at *
      generalize wdD H.words = wdd at *
      generalize (ths ++ [[110, 111, 110, 101]]).map D.str = tl2 at *
      generalize i / 24 % ((ths ++ [[110, 111, 110, 101]]).length : Nat) = j2 at *
      generalize (((ths ++ [[110, 111, 110, 101]]).length : Nat) : Int) = n2 at *
      generalize (ks ++ [[111, 116, 104, 101, 114]]).map D.str = kl2 at *
      generalize i / 7 % ((ks ++ [[111, 116, 104, 101, 114]]).length : Nat) = j7 at *
      generalize (((ks ++ [[111, 116, 104, 101, 114]]).length : Nat) : Int) = n7 at *
      generalize i / 3 % (N.length : Nat) = j1 at *
      generalize ((N.length : Nat) : Int) = n1 at *
      generalize i / 3 = j3 at *
      generalize i / 24 = j24 at *
      generalize i / 72 = j72 at *
      generalize i / 7 = j77 at *
      generalize N.map D.str = nl at *
      generalize ths.map D.str = tl at *
      generalize ks.map D.str = kl at *
      generalize D.str w = wd at *
      generalize D.str th = thd at *
      generalize D.str x = xd at *
      generalize D.str kd = kdd at *
      simp (maxSteps := 30000) (disch := first | assumption | (simp; done) | omega | (simp; omega)) [h9, d3, dl, mm, ix, m3, d24, aa, dt, mt, it, d72, d7, tx, ab, dk, mk, ik, du, kk, sE, ll, q0, q1, i2, i3, to, Ow.d]
    · exact b2.at_ _ _ (by decide) (by rw [get_ne (by decide)]; exact I.th)
    · exact b2.at_ _ _ (by decide) (get_set h9 _)
    · show (setA H.words (w, th) (x, kd)).length ≤ n + 1
      have := I.wl
      unfold setA
      split
      · rw [List.length_map]; omega
      · rw [List.length_append, List.length_singleton]; omega
  | some c =>
    obtain ⟨st', to, b1, b2, b3⟩ := told_ok I.at_ (w := w) (th := th) (x := x) (kd := kd) (by omega) (by have := I.wl; omega)
    rw [hO] at du to
    rw [hO, if_neg (fun z => nomatch z)] at b1
    have q1 : deq (flgO (some c)) (.lst []) = false := by rw [show flgO (some c) = flg (decide (c = NoT)) (decide (c = NoTh)) (decide (c = NoV)) from rfl]; unfold flg; rfl
    have q2 : deq (flgO (some c)) (flgO (some c)) = true := deq_flg _ _ _
    have q3 : eqOk (flgO (some c)) = true := rfl
    refine ⟨H, st', ?_, ⟨b1, b2.at_ _ _ (by decide) I.th, b2.at_ _ _ (by decide) I.tx, I.tg, I.sub, I.nd, Nat.le_succ_of_le I.wl, I.ks, I.ths, by rw [b3]; exact I.len⟩, rfl⟩
    rw [c__law_deed, runB_k, b__law_deed]
    clear I g hi hw hth hkd hx b1 b2 b3 hO
    generalize flgO (some c) = fc at *
    generalize (ths ++ [[110, 111, 110, 101]]).map D.str = tl2 at *
    generalize i / 24 % ((ths ++ [[110, 111, 110, 101]]).length : Nat) = j2 at *
    generalize (((ths ++ [[110, 111, 110, 101]]).length : Nat) : Int) = n2 at *
    generalize (ks ++ [[111, 116, 104, 101, 114]]).map D.str = kl2 at *
    generalize i / 7 % ((ks ++ [[111, 116, 104, 101, 114]]).length : Nat) = j7 at *
    generalize (((ks ++ [[111, 116, 104, 101, 114]]).length : Nat) : Int) = n7 at *
    generalize i / 3 % (N.length : Nat) = j1 at *
    generalize ((N.length : Nat) : Int) = n1 at *
    generalize i / 3 = j3 at *
    generalize i / 24 = j24 at *
    generalize i / 72 = j72 at *
    generalize i / 7 = j77 at *
    generalize N.map D.str = nl at *
    generalize ths.map D.str = tl at *
    generalize ks.map D.str = kl at *
    generalize D.str w = wd at *
    generalize D.str th = thd at *
    generalize D.str x = xd at *
    generalize D.str kd = kdd at *
    simp (maxSteps := 30000) (disch := first | assumption | (simp; done) | omega | (simp; omega)) [d3, dl, mm, ix, m3, d24, aa, dt, mt, it, d72, d7, tx, ab, dk, mk, ik, du, q0, q1, q2, q3, i2, i3, to, Ow.d]
theorem deed_ok (I : Iv N ks ths n H st) (g : Ns N ks ths) (hn : n ≤ 1000) (i : Int) : ∃ H' st', c__law_deed [.loc 3, .int i, .lst (N.map .str), .lst (ths.map .str), .lst (ks.map .str), .loc 8, .loc 9] st = .ok (.bl true) [] st' ∧ Iv N ks ths (n + 1) H' st' ∧ H'.ranks = H.ranks := by
  obtain ⟨w, hw, mm, ix⟩ := at_strs g.n0 (i / 3)
  have : i % 3 = 0 ∨ i % 3 = 1 ∨ i % 3 = 2 := by omega
  rcases this with h | h | h
  · cases hu : getA H.tgs w with
    | none => exact deedA_yes I g i h hw mm ix hu
    | some u => exact deedA_no I g i h hw mm ix hu
  · exact ⟨H, st, deedB I g i h hw mm ix, ⟨I.at_, I.th, I.tx, I.tg, I.sub, I.nd, Nat.le_succ_of_le I.wl, I.ks, I.ths, I.len⟩, rfl⟩
  · exact deedC I g hn i h hw mm ix
end
end M
namespace M
open PySem PySem.Spec PyProof.Rows L2 DL Bk Ho
section
variable {N ks ths : List Wd} {n : Nat} {H : Hm} {st : Store}
theorem end_in (I : Iv N ks ths n H st) {x1 x2 : Sl} (w : Wd) : ∀ (l : List Wd) (x6 : Sl), ∃ y6, forL (gV 6) L__law_end_1 (l.map .str) [.d (.loc 3), x1, x2, .d (.loc 8), .d (.loc 9), .d (.str w), x6] st = .nx [.d (.loc 3), x1, x2, .d (.loc 8), .d (.loc 9), .d (.str w), y6] st
  | [], x6 => ⟨x6, rfl⟩
  | th :: r, x6 => by
    obtain ⟨y6, G⟩ := end_in I (x1 := x1) (x2 := x2) w r (.d (.str th))
    refine ⟨y6, ?_⟩
    have ow := own_ok I.at_ w th
    have h0 := I.at_.ob
    have fm : List.lookup 8032009816743309924 (fsH H 3) = none := rfl
    have h9 := I.tx
    have kk : (keyT (.tup [.str w, .str th])).isSome = true := by
      unfold keyT
      simp only [keyN, keyNs]
      rfl
    have vl : (valE (wdD H.words) (.tup [.str w, .str th])).getD .non = wdO (getA H.words (w, th)) := by
      have := valE_dA (v := tp) tp_kinj H.words (w, th)
      have e : valE (wdD H.words) (.tup [.str w, .str th]) = (getA H.words (w, th)).map tp := this
      rw [e]
      cases getA H.words (w, th) <;> rfl
    have lo := lown_ok (getA H.words (w, th)) st
    have b : L__law_end_1 [.d (.loc 3), x1, x2, .d (.loc 8), .d (.loc 9), .d (.str w), .d (.str th)] st = .nx [.d (.loc 3), x1, x2, .d (.loc 8), .d (.loc 9), .d (.str w), .d (.str th)] st := by
      rw [L__law_end_1]
      clear I G
      generalize wdO (getA H.words (w, th)) = od at *
      generalize wdD H.words = wdd at *
      generalize fsH H 3 = fs at *
      generalize D.str w = wd at *
      generalize D.str th = thd at *
      simp (maxSteps := 30000) (disch := first | assumption | (simp; done) | omega | (simp; omega)) [↓vwK_j h0, h0, h9, fm, ow, kk, vl, lo, Ow.d]
    rw [List.map_cons, forL_c, gV_a]
    simp only [List.set_cons_succ, List.set_cons_zero]
    rw [b]; exact G
theorem end_out (I : Iv N ks ths n H st) (g : Ns N ks ths) : ∀ (l : List Wd) (x5 x6 : Sl), ∃ y5 y6, forL (gV 5) L__law_end_2 (l.map .str) [.d (.loc 3), .d (.lst (N.map .str)), .d (.lst (ths.map .str)), .d (.loc 8), .d (.loc 9), x5, x6] st = .nx [.d (.loc 3), .d (.lst (N.map .str)), .d (.lst (ths.map .str)), .d (.loc 8), .d (.loc 9), y5, y6] st
  | [], x5, x6 => ⟨x5, x6, rfl⟩
  | w :: r, x5, x6 => by
    obtain ⟨z6, G1⟩ := end_in I (x1 := .d (.lst (N.map .str))) (x2 := .d (.lst (ths.map .str))) w ((cut ths none (some 9)) ++ [[110, 111, 110, 101]]) x6
    obtain ⟨y5, y6, G⟩ := end_out I g r (.d (.str w)) z6
    refine ⟨y5, y6, ?_⟩
    have h0 := I.at_.ob
    have h8 := I.th
    have fm : List.lookup 36034973274040279466295256420 (fsH H 3) = none := rfl
    have k1 : isKey (.str w) = true := rfl
    have lk := thD_look H.tgs w
    have sl : dSl (.lst (ths.map D.str)) none (some 9) = some (.lst ((cut ths none (some 9)).map D.str)) := by rw [dSl_l, cut_map]
    have aa : dAdd (.lst ((cut ths none (some 9)).map D.str)) (.lst [.str [110, 111, 110, 101]]) = some (.lst (((cut ths none (some 9)) ++ [[110, 111, 110, 101]]).map D.str)) := by
      rw [List.map_append]
      exact dAdd_l _ _ (by have := g.t9; have := cut_le ths none (some 9); simp; omega)
    have b : L__law_end_2 [.d (.loc 3), .d (.lst (N.map .str)), .d (.lst (ths.map .str)), .d (.loc 8), .d (.loc 9), .d (.str w), x6] st = .nx [.d (.loc 3), .d (.lst (N.map .str)), .d (.lst (ths.map .str)), .d (.loc 8), .d (.loc 9), .d (.str w), z6] st := by
      rw [L__law_end_2]
      cases hw : getA H.tgs w with
      | some t =>
        rw [hw] at lk
        have lk : lookD (thD H.tgs) (.str w) = some (.str (shD (fldD t))) := lk
        have nm := named_ok I.at_ hw
        have he := I.tg _ (mem_getA hw)
        have fo := fields_ok (I.at_.tg _ (mem_getA hw)).2.2 he.2
        have fo : c__law_fields [.loc t.hd] st = .ok (.str (shD (fldD t))) [] st := fo
        have q1 : eqOk (.str (shD (fldD t))) = true := rfl
        have q2 : deq (.str (shD (fldD t))) (.str (shD (fldD t))) = true := by rw [DL.deq_str]; simp
        clear I G g he hw
        generalize shD (fldD t) = su at *
        generalize t.hd = hd at *
        generalize thD H.tgs = tg at *
        generalize fsH H 3 = fs at *
        generalize L__law_end_1 = L1 at *
        generalize ((cut ths none (some 9)) ++ [[110, 111, 110, 101]]).map D.str = tl3 at *
        generalize (cut ths none (some 9)).map D.str = tl2 at *
        generalize N.map D.str = nl at *
        generalize ths.map D.str = tl at *
        generalize D.str w = wd at *
        generalize D.str su = sud at *
        simp (maxSteps := 30000) (disch := first | assumption | (simp; done) | omega | (simp; omega)) [↓vwK_j h0, h0, h8, fm, k1, lk, sl, aa, nm, fo, q1, q2, G1, dInK, dGetK, -dSl_l, Ow.d]
      | none =>
        rw [hw] at lk
        have lk : lookD (thD H.tgs) (.str w) = none := lk
        have ak := asked_no I.at_ hw
        have ak : c__law_asked [.loc 3, .str w] st = .ok (flg true false false) [] st := ak
        have q1 := deq_flg true false false
        have q2 : eqOk (flg true false false) = true := rfl
        unfold flg at ak q1 q2
        clear I G g hw
        generalize thD H.tgs = tg at *
        generalize fsH H 3 = fs at *
        generalize L__law_end_1 = L1 at *
        generalize ((cut ths none (some 9)) ++ [[110, 111, 110, 101]]).map D.str = tl3 at *
        generalize (cut ths none (some 9)).map D.str = tl2 at *
        generalize N.map D.str = nl at *
        generalize ths.map D.str = tl at *
        generalize D.str w = wd at *
        simp (maxSteps := 30000) (disch := first | assumption | (simp; done) | omega | (simp; omega)) [↓vwK_j h0, h0, h8, fm, k1, lk, sl, aa, ak, q1, q2, G1, dInK, -dSl_l, Ow.d]
    rw [List.map_cons, forL_c, gV_a]
    simp only [List.set_cons_succ, List.set_cons_zero]
    rw [b]; exact G
theorem end_ok (I : Iv N ks ths n H st) (g : Ns N ks ths) : ∃ st', c__law_end [.loc 3, .lst (N.map .str), .lst (ths.map .str), .loc 8, .loc 9] st = .ok (.bl true) [] st' ∧ Iv N ks ths n H st' := by
  have tl := I.tl g
  have t1 := tongues_ok I.at_ I.nd (by omega)
  have ln : (srtT H.names).length ≤ 1000 := by
    have := len_subG _ _ (srtT_nd H.names) (fun x hx => mem_srtT.mp hx)
    unfold Hm.names at this ⊢
    rw [List.length_map] at this
    omega
  have r1 := rows_ok (st := st ++ [.o (.l ((srtT H.names).map D.str))]) (n := st.length) (ws := srtT H.names) (get_last _ _) ln
  rw [last_set] at r1
  have f1 := Fr.app (xs := []) st [Ob.o (.l ((srtT H.names).map D.str ++ [.str [122, 122, 122]]))]
  have I1 := I.fr f1
  have t2 := tongues_ok I1.at_ I.nd (by omega)
  have f2 := Fr.app (xs := []) (st ++ [Ob.o (.l ((srtT H.names).map D.str ++ [.str [122, 122, 122]]))]) [Ob.o (.l ((srtT H.names).map D.str))]
  have I2 := I1.fr f2
  obtain ⟨y5, y6, G⟩ := end_out I2 g N .no .no
  have g2 := get_last (st ++ [Ob.o (.l ((srtT H.names).map D.str ++ [.str [122, 122, 122]]))]) (Ob.o (.l ((srtT H.names).map D.str)))
  have f0 := Fr.app (xs := []) st [Ob.o (.l ((srtT H.names).map D.str))]
  have h0 := I.at_.ob
  have h8 := (I.fr f0).th
  have h0' := I1.at_.ob
  have h8' := I2.th
  have fm : List.lookup 32773617271268723 (fsH H 3) = none := rfl
  have so := srt_okA (fun t : Ho.Tg => D.str (shD (fldD t))) H.tgs I.nd (by omega)
  have so : dSortF [.dic (thD H.tgs)] = some (.l ((srtT H.names).map D.str)) := so
  have q1 : eqOk (.lst ((srtT H.names).map D.str)) = true := eqOk_lst _ (flat_strs _)
  have q2 := deq_refl_strs (srtT H.names)
  refine ⟨_, ?_, I2⟩
  rw [c__law_end, runB_k, b__law_end]
  clear I I1 I2 g f1 f2 f0 tl ln
  generalize ((st ++ [Ob.o (.l ((srtT H.names).map D.str ++ [.str [122, 122, 122]]))]) ++ [Ob.o (.l ((srtT H.names).map D.str))]) = st4 at *
  generalize (st ++ [Ob.o (.l ((srtT H.names).map D.str ++ [.str [122, 122, 122]]))]) = st3 at *
  generalize (st ++ [Ob.o (.l ((srtT H.names).map D.str))]) = st2 at *
  generalize (srtT H.names).map D.str = sl at *
  generalize thD H.tgs = tg at *
  generalize fsH H 3 = fs at *
  generalize L__law_end_2 = L1 at *
  generalize st3.length = l3 at *
  generalize st.length = l0 at *
  generalize N.map D.str = nl at *
  generalize ths.map D.str = tl at *
  simp (maxSteps := 30000) (disch := first | assumption | (simp; done) | omega | (simp; omega)) [↓vwK_j h0, ↓vwK_j h0', ↓vwK_lj g2, h0, h0', h8, h8', g2, fm, t1, t2, so, r1, q1, q2, G, Ow.d]
end
end M
namespace M
open PySem PySem.Spec PyProof.Rows L2 DL Bk Ho
noncomputable def tl51 : EvS :=
   sSeq (sI (tO (tN (tT (oV (cE c__law_rows (aC (oV (mhE [311107613541] 461330343027 (t_kinds 1) (vE 6) (aN))) (aC (oV (vE 1)) (aN))))))) (tN (tT (oV (cE c__law_rows (aC (oV (mhE [311107613541] 491260898163 (t_ranks 1) (vE 6) (aN))) (aC (oV (vE 2)) (aN)))))))) (sR (kE (.bl false))) (sNil))
   (sSeq (sI (tO (tN (tT (oV (cE c__law_rows (aC (oV (mhE [311107613541] 127991794263923 (t_things 1) (vE 6) (aN))) (aC (oV (vE 3)) (aN))))))) (tN (tT (oV (cE c__law_end (aC (oV (vE 6)) (aC (oV (vE 4)) (aC (oV (vE 3)) (aC (oV (vE 8)) (aC (oV (vE 9)) (aN))))))))))) (sR (kE (.bl false))) (sNil))
   (sR (eA (o2L dEq (mhE [311107613541] 461330343027 (t_kinds 1) (vE 6) (aN)) (vE 1)) (eA (o2L dEq (mhE [311107613541] 491260898163 (t_ranks 1) (vE 6) (aN)) (vE 2)) (o2L dEq (mhE [311107613541] 127991794263923 (t_things 1) (vE 6) (aN)) (vE 3))))))
theorem mapO_strs (st : Store) (k : Nat) : ∀ l : List Wd, mapO (dp st (k + 1)) (l.map .str) = some (l.map .str)
  | [] => rfl
  | x :: r => by
    have e : dp st (k + 1) (.str x) = some (.str x) := rfl
    rw [List.map_cons, mapO, e, mapO_strs st k r]
theorem dp_strs (st : Store) (k : Nat) (l : List Wd) : dp st (k + 2) (.lst (l.map .str)) = some (.lst (l.map .str)) := by
  show (mapO (dp st (k + 1)) (l.map .str)).map D.lst = _
  rw [mapO_strs]; rfl
theorem dp_locs {st : Store} {n : Nat} {l : List Wd} (h : st[n]? = some (.o (.l (l.map .str)))) (k : Nat) : dp st (k + 2) (.loc n) = some (.lst (l.map .str)) := by
  show (match st[n]? with | some (.o (.l ds)) => (mapO (dp st (k + 1)) ds).map D.lst | _ => none) = _
  rw [h]
  show (mapO (dp st (k + 1)) (l.map .str)).map D.lst = _
  rw [mapO_strs]; rfl
theorem deed_loop {N ks ths : List Wd} (g : Ns N ks ths) {x0 x2 x5 x7 : Sl} : ∀ (l : List Int) (n : Nat) (H : Hm) (st : Store) (x10 : Sl), Iv N ks ths n H st → n + l.length ≤ 1000 →
    ∃ y10 H' st' m, forL (gV 10) L_law_2 (l.map .int) [x0, .d (.lst (ks.map .str)), x2, .d (.lst (ths.map .str)), .d (.lst (N.map .str)), x5, .d (.loc 3), x7, .d (.loc 8), .d (.loc 9), x10] st = .nx [x0, .d (.lst (ks.map .str)), x2, .d (.lst (ths.map .str)), .d (.lst (N.map .str)), x5, .d (.loc 3), x7, .d (.loc 8), .d (.loc 9), y10] st' ∧ Iv N ks ths m H' st' ∧ H'.ranks = H.ranks
  | [], n, H, st, x10, I, _ => ⟨x10, H, st, n, rfl, I, rfl⟩
  | i :: r, n, H, st, x10, I, hl => by
    rw [List.length_cons] at hl
    obtain ⟨H1, st1, e, I1, r1⟩ := deed_ok I g (by omega) i
    obtain ⟨y10, H', st', m, G, I', r'⟩ := deed_loop g (x0 := x0) (x2 := x2) (x5 := x5) (x7 := x7) r (n + 1) H1 st1 (.d (.int i)) I1 (by omega)
    refine ⟨y10, H', st', m, ?_, I', r'.trans r1⟩
    have b : L_law_2 [x0, .d (.lst (ks.map .str)), x2, .d (.lst (ths.map .str)), .d (.lst (N.map .str)), x5, .d (.loc 3), x7, .d (.loc 8), .d (.loc 9), .d (.int i)] st = .nx [x0, .d (.lst (ks.map .str)), x2, .d (.lst (ths.map .str)), .d (.lst (N.map .str)), x5, .d (.loc 3), x7, .d (.loc 8), .d (.loc 9), .d (.int i)] st1 := by
      rw [L_law_2]
      clear I g I1 I' G hl
      generalize N.map D.str = nl at *
      generalize ths.map D.str = tl at *
      generalize ks.map D.str = kl at *
      simp (maxSteps := 30000) (disch := first | assumption | (simp; done) | omega | (simp; omega)) [e]
    rw [List.map_cons, forL_c, gV_a]
    simp only [List.set_cons_succ, List.set_cons_zero]
    rw [b]; exact G
theorem tail_ok {N ks rs ths : List Wd} {n : Nat} {H : Hm} {st : Store} (I : Iv N ks ths n H st) (g : Ns N ks ths) (hr : H.ranks = rs) (r9 : rs.length ≤ 100) {x0 x5 x7 x10 : Sl} :
    ∃ S' st', tl51 [x0, .d (.lst (ks.map .str)), .d (.lst (rs.map .str)), .d (.lst (ths.map .str)), .d (.lst (N.map .str)), x5, .d (.loc 3), x7, .d (.loc 8), .d (.loc 9), x10] st = .ret (.bl true) S' st' := by
  have k9 := g.k9
  have t9 := g.t9
  have step : ∀ (st : Store) (ws : List Wd), ws.length ≤ 100 → c__law_rows [.loc st.length, .lst (ws.map .str)] (st ++ [.o (.l (ws.map .str))]) = .ok (.bl true) [] (st ++ [.o (.l (ws.map .str ++ [.str [122, 122, 122]]))]) := fun st ws h => by
    have r1 := rows_ok (st := st ++ [.o (.l (ws.map .str))]) (n := st.length) (ws := ws) (get_last _ _) (by omega)
    rw [last_set] at r1
    exact r1
  have ka := krow_ok I.at_
  rw [I.ks] at ka
  have kb := step st ks k9
  have I1 := I.fr (Fr.app st [Ob.o (.l (ks.map .str ++ [.str [122, 122, 122]]))])
  have ra := rrow_ok I1.at_
  rw [hr] at ra
  have rb := step (st ++ [Ob.o (.l (ks.map .str ++ [.str [122, 122, 122]]))]) rs r9
  have I2 := I1.fr (Fr.app _ [Ob.o (.l (rs.map .str ++ [.str [122, 122, 122]]))])
  have ta := trow_ok I2.at_
  rw [I.ths] at ta
  have tb := step ((st ++ [Ob.o (.l (ks.map .str ++ [.str [122, 122, 122]]))]) ++ [Ob.o (.l (rs.map .str ++ [.str [122, 122, 122]]))]) ths t9
  have I3 := I2.fr (Fr.app _ [Ob.o (.l (ths.map .str ++ [.str [122, 122, 122]]))])
  obtain ⟨se, ee, I4⟩ := end_ok I3 g
  have kc := krow_ok I4.at_
  rw [I.ks] at kc
  have I5 := I4.fr (Fr.app se [Ob.o (.l (ks.map .str))])
  have rc := rrow_ok I5.at_
  rw [hr] at rc
  have I6 := I5.fr (Fr.app _ [Ob.o (.l (rs.map .str))])
  have tc := trow_ok I6.at_
  rw [I.ths] at tc
  have p1 := dp_locs (get_last se (.o (.l (ks.map .str)))) 38
  have p2 := dp_strs (se ++ [.o (.l (ks.map .str))]) 38 ks
  have p3 := dp_locs (get_last (se ++ [.o (.l (ks.map .str))]) (.o (.l (rs.map .str)))) 38
  have p4 := dp_strs ((se ++ [.o (.l (ks.map .str))]) ++ [.o (.l (rs.map .str))]) 38 rs
  have p5 := dp_locs (get_last ((se ++ [.o (.l (ks.map .str))]) ++ [.o (.l (rs.map .str))]) (.o (.l (ths.map .str)))) 38
  have p6 := dp_strs (((se ++ [.o (.l (ks.map .str))]) ++ [.o (.l (rs.map .str))]) ++ [.o (.l (ths.map .str))]) 38 ths
  have q : ∀ l : List Wd, eqOk (.lst (l.map .str)) = true := fun l => eqOk_lst _ (flat_strs l)
  have q1 := q ks
  have q2 := q rs
  have q3 := q ths
  have d1 := deq_refl_strs ks
  have d2 := deq_refl_strs rs
  have d3 := deq_refl_strs ths
  have h0 := I.at_.ob
  have h1 := I1.at_.ob
  have h2 := I2.at_.ob
  have h4 := I4.at_.ob
  have h5 := I5.at_.ob
  have h6 := I6.at_.ob
  have sc : DL.scal (.bl true) = true := rfl
  have fk : List.lookup 461330343027 (fsH H 3) = none := rfl
  have fr : List.lookup 491260898163 (fsH H 3) = none := rfl
  have ft : List.lookup 127991794263923 (fsH H 3) = none := rfl
  refine ⟨[x0, .d (.lst (ks.map .str)), .d (.lst (rs.map .str)), .d (.lst (ths.map .str)), .d (.lst (N.map .str)), x5, .d (.loc 3), x7, .d (.loc 8), .d (.loc 9), x10], (((se ++ [.o (.l (ks.map .str))]) ++ [.o (.l (rs.map .str))]) ++ [.o (.l (ths.map .str))]), ?_⟩
  rw [tl51]
  clear I I1 I2 I3 I4 I5 I6 step q k9 t9 r9 g hr
  generalize fsH H 3 = fs at *
  generalize (((se ++ [Ob.o (.l (ks.map .str))]) ++ [Ob.o (.l (rs.map .str))]) ++ [Ob.o (.l (ths.map .str))]) = s9 at *
  generalize ((se ++ [Ob.o (.l (ks.map .str))]) ++ [Ob.o (.l (rs.map .str))]) = s8 at *
  generalize (se ++ [Ob.o (.l (ks.map .str))]) = s7 at *
  generalize (((st ++ [Ob.o (.l (ks.map .str ++ [.str [122, 122, 122]]))]) ++ [Ob.o (.l (rs.map .str ++ [.str [122, 122, 122]]))]) ++ [Ob.o (.l (ths.map .str ++ [.str [122, 122, 122]]))]) = s6 at *
  generalize (((st ++ [Ob.o (.l (ks.map .str ++ [.str [122, 122, 122]]))]) ++ [Ob.o (.l (rs.map .str ++ [.str [122, 122, 122]]))]) ++ [Ob.o (.l (ths.map .str))]) = s5 at *
  generalize ((st ++ [Ob.o (.l (ks.map .str ++ [.str [122, 122, 122]]))]) ++ [Ob.o (.l (rs.map .str ++ [.str [122, 122, 122]]))]) = s4 at *
  generalize ((st ++ [Ob.o (.l (ks.map .str ++ [.str [122, 122, 122]]))]) ++ [Ob.o (.l (rs.map .str))]) = s3 at *
  generalize (st ++ [Ob.o (.l (ks.map .str ++ [.str [122, 122, 122]]))]) = s2 at *
  generalize (st ++ [Ob.o (.l (ks.map .str))]) = s1 at *
  generalize N.map D.str = nl at *
  generalize ths.map D.str = tl at *
  generalize ks.map D.str = kl at *
  generalize rs.map D.str = rl at *
  simp (maxSteps := 30000) (disch := first | assumption | (simp; done) | omega | (simp; omega)) [↓vwK_j h0, ↓vwK_j h1, ↓vwK_j h2, ↓vwK_j h4, ↓vwK_j h5, ↓vwK_j h6, h0, h1, h2, h4, h5, h6, fk, fr, ft, ka, kb, ra, rb, ta, tb, ee, kc, rc, tc, p1, p2, p3, p4, p5, p6, q1, q2, q3, d1, d2, d3, sc, Ow.d]
end M
namespace M
open PySem PySem.Spec PyProof.Rows L2 DL Bk Ho
theorem many_ok (c : Int) (m : Int) (hm : 0 < m) (hm2 : m ≤ 100) : ∃ k : Nat, 1 + c % m = (k : Int) ∧ 0 < k ∧ k ≤ 100 := by
  have m0 := Int.emod_nonneg c (show m ≠ 0 by omega)
  have m1 := Int.emod_lt_of_pos c hm
  exact ⟨(1 + c % m).toNat, by omega, by omega, by omega⟩
abbrev stH (ks rs ths : List Wd) (a b c : List D) : Store := [.o (.l a), .o (.l b), .o (.l c), .i cH (fsH ⟨ks, rs, ths, [], [], [], []⟩ 3), .o (.k []), .t [], .o (.k []), .t []]
theorem clr_loop {x0 x1 x2 x3 x4 x5 x6 x7 : Sl} {ks rs ths : List Wd} {a b c : List D} : forL (gV 7) L_law_1 [.loc 0, .loc 1, .loc 2] [x0, x1, x2, x3, x4, x5, x6, x7, .no, .no, .no] (stH ks rs ths a b c) = .nx [x0, x1, x2, x3, x4, x5, x6, .d (.loc 2), .no, .no, .no] (stH ks rs ths [] [] []) := by
  have one : ∀ (n : Nat) (ds : List D) (st : Store), st[n]? = some (.o (.l ds)) → L_law_1 [x0, x1, x2, x3, x4, x5, x6, .d (.loc n), .no, .no, .no] st = .nx [x0, x1, x2, x3, x4, x5, x6, .d (.loc n), .no, .no, .no] (st.set n (.o (.l []))) := fun n ds st h => by
    rw [L_law_1]
    simp (maxSteps := 30000) (disch := first | assumption | (simp; done) | omega | (simp; omega)) [h, Ow.d]
  unfold stH
  generalize fsH ⟨ks, rs, ths, [], [], [], []⟩ 3 = fs at *
  rw [forL_c, gV_a]
  simp only [List.set_cons_succ, List.set_cons_zero]
  rw [one 0 a _ rfl]
  dsimp only [List.set]
  rw [forL_c, gV_a]
  simp only [List.set_cons_succ, List.set_cons_zero]
  rw [one 1 b _ rfl]
  dsimp only [List.set]
  rw [forL_c, gV_a]
  simp only [List.set_cons_succ, List.set_cons_zero]
  rw [one 2 c _ rfl]
  rfl
theorem lawOk : LawOk c_law := fun ns hl hb => by
  obtain ⟨m1, e1, p1, q1⟩ := many_ok (cell ns 4) 6 (by decide) (by decide)
  obtain ⟨m2, e2, p2, q2⟩ := many_ok (cell ns 4 / 6) 6 (by decide) (by decide)
  obtain ⟨m3, e3, p3, q3⟩ := many_ok (cell ns 4 / 36) 30 (by decide) (by decide)
  obtain ⟨ks, ⟨k0, k1, k2, k3⟩, we1⟩ := words_ok (cell ns 0) m1 p1 (by omega) []
  obtain ⟨rs, ⟨r0, r1, r2, r3⟩, we2⟩ := words_ok (cell ns 1) m2 p2 (by omega) []
  obtain ⟨ths, ⟨t0, t1, t2, t3⟩, we3⟩ := words_ok (cell ns 2) m3 p3 (by omega) []
  obtain ⟨N, ⟨n0, n1, n2, n3⟩, we4⟩ := words_ok (cell ns 3) 8 (by decide) (by decide) []
  have g : Ns N ks ths := ⟨n0, n3, n2, by omega, by omega⟩
  have c0 := cell_ok ns 0 (by decide) []
  have c1 := cell_ok ns 1 (by decide) []
  have c2 := cell_ok ns 2 (by decide) []
  have c3 := cell_ok ns 3 (by decide) []
  have c4 := cell_ok ns 4 (by decide) []
  have f6 : dFdiv (.int (cell ns 4)) (.int 6) = some (.int (cell ns 4 / 6)) := by simp
  have f36 : dFdiv (.int (cell ns 4)) (.int 36) = some (.int (cell ns 4 / 36)) := by simp
  have d6 : dMod (.int (cell ns 4)) (.int 6) = some (.int (cell ns 4 % 6)) := by simp
  have d66 : dMod (.int (cell ns 4 / 6)) (.int 6) = some (.int (cell ns 4 / 6 % 6)) := by simp
  have d30 : dMod (.int (cell ns 4 / 36)) (.int 30) = some (.int (cell ns 4 / 36 % 30)) := by simp
  have a1 : dAdd (.int 1) (.int (cell ns 4 % 6)) = some (.int (m1 : Nat)) := by simp [e1]
  have a2 : dAdd (.int 1) (.int (cell ns 4 / 6 % 6)) = some (.int (m2 : Nat)) := by simp [e2]
  have a3 : dAdd (.int 1) (.int (cell ns 4 / 36 % 30)) = some (.int (m3 : Nat)) := by simp [e3]
  have lf : ∀ l : List D, dListF [.lst l] = some (.l l) := fun _ => rfl
  have hi := hinit_ok ks rs ths 3 [.o (.l (ks.map .str)), .o (.l (rs.map .str)), .o (.l (ths.map .str))] rfl (a := 0) (b := 1) (c := 2) rfl rfl rfl
  have hi : c_House___init__ [.loc 3, .loc 0, .loc 1, .loc 2] [.o (.l (ks.map .str)), .o (.l (rs.map .str)), .o (.l (ths.map .str)), .i cH []] = .ok .non [] (stH ks rs ths (ks.map .str) (rs.map .str) (ths.map .str)) := hi
  have dp1 : dp (stH ks rs ths (ks.map .str) (rs.map .str) (ths.map .str)) 40 (.lst [.loc 0, .loc 1, .loc 2]) = some (.lst [.lst (ks.map .str), .lst (rs.map .str), .lst (ths.map .str)]) := by
    show (mapO (dp _ 39) [.loc 0, .loc 1, .loc 2]).map D.lst = _
    have z0 := dp_locs (st := stH ks rs ths (ks.map .str) (rs.map .str) (ths.map .str)) (n := 0) (l := ks) rfl 37
    have z1 := dp_locs (st := stH ks rs ths (ks.map .str) (rs.map .str) (ths.map .str)) (n := 1) (l := rs) rfl 37
    have z2 := dp_locs (st := stH ks rs ths (ks.map .str) (rs.map .str) (ths.map .str)) (n := 2) (l := ths) rfl 37
    simp only [mapO, z0, z1, z2]; rfl
  have dp2 : dp (stH ks rs ths (ks.map .str) (rs.map .str) (ths.map .str)) 40 (.lst [.lst (ks.map .str), .lst (rs.map .str), .lst (ths.map .str)]) = some (.lst [.lst (ks.map .str), .lst (rs.map .str), .lst (ths.map .str)]) := by
    show (mapO (dp _ 39) [.lst (ks.map .str), .lst (rs.map .str), .lst (ths.map .str)]).map D.lst = _
    have z0 := dp_strs (stH ks rs ths (ks.map .str) (rs.map .str) (ths.map .str)) 37 ks
    have z1 := dp_strs (stH ks rs ths (ks.map .str) (rs.map .str) (ths.map .str)) 37 rs
    have z2 := dp_strs (stH ks rs ths (ks.map .str) (rs.map .str) (ths.map .str)) 37 ths
    simp only [mapO, z0, z1, z2]; rfl
  have s3 : Sds [.lst (ks.map .str), .lst (rs.map .str), .lst (ths.map .str)] _ _ := Sds.cons (Sd.lst (Sds.strs k2)) (Sds.cons (Sd.lst (Sds.strs r2)) (Sds.cons (Sd.lst (Sds.strs t2)) Sds.nil))
  have qq : eqOk (.lst [.lst (ks.map .str), .lst (rs.map .str), .lst (ths.map .str)]) = true := by
    unfold eqOk
    have := (Sd.lst s3).q
    rw [(Sd.lst s3).p, decide_eq_true (by omega)]; rfl
  have qe : deq (.lst [.lst (ks.map .str), .lst (rs.map .str), .lst (ths.map .str)]) (.lst [.lst (ks.map .str), .lst (rs.map .str), .lst (ths.map .str)]) = true := by
    rw [deq_lst]
    show (deq (.lst (ks.map .str)) (.lst (ks.map .str)) && (deq (.lst (rs.map .str)) (.lst (rs.map .str)) && (deq (.lst (ths.map .str)) (.lst (ths.map .str)) && true))) = true
    rw [deq_refl_strs, deq_refl_strs, deq_refl_strs]; rfl
  have cl := clr_loop (x0 := .d (.scr ns)) (x1 := .d (.lst (ks.map .str))) (x2 := .d (.lst (rs.map .str))) (x3 := .d (.lst (ths.map .str))) (x4 := .d (.lst (N.map .str))) (x5 := .d (.lst [.loc 0, .loc 1, .loc 2])) (x6 := .d (.loc 3)) (x7 := .no) (ks := ks) (rs := rs) (ths := ths) (a := ks.map .str) (b := rs.map .str) (c := ths.map .str)
  have h3 := (hinit_at ks rs ths [.o (.l []), .o (.l []), .o (.l [])]).fr (Fr.app _ [.o (.k []), .t []])
  have h3 : HoAt (stH ks rs ths [] [] [] ++ [.o (.k []), .t []]) 3 ⟨ks, rs, ths, [], [], [], []⟩ := h3
  have I : Iv N ks ths 0 ⟨ks, rs, ths, [], [], [], []⟩ (stH ks rs ths [] [] [] ++ [.o (.k []), .t []]) := ⟨h3, rfl, rfl, fun _ h => (nomatch h), fun _ h => (nomatch h), List.nodup_nil, Nat.zero_le _, rfl, rfl, Nat.le_refl 10⟩
  obtain ⟨y10, H', st', m, G, I', hr⟩ := deed_loop g (x0 := .d (.scr ns)) (x2 := .d (.lst (rs.map .str))) (x5 := .d (.lst [.loc 0, .loc 1, .loc 2])) (x7 := .d (.loc 2)) (cut ns (some 5) (some 55)) 0 _ _ .no I (by have := cut_le ns (some 5) (some 55); omega)
  obtain ⟨S', se, TE⟩ := tail_ok (rs := rs) I' g hr (by omega) (x0 := .d (.scr ns)) (x5 := .d (.lst [.loc 0, .loc 1, .loc 2])) (x7 := .d (.loc 2)) (x10 := y10)
  have sl : dSl (.scr ns) (some 5) (some 55) = some (.lst ((cut ns (some 5) (some 55)).map D.int)) := by rw [dSl_scr, cut_map]
  have sc0 : DL.scal (.bl false) = true := rfl
  refine ⟨se, ?_⟩
  rw [c_law, runB_k, b_law, ← tl51]
  clear g I I' h3 hr hb hl k0 k1 k2 k3 r0 r1 r2 r3 t0 t1 t2 t3 n0 n1 n2 n3 p1 p2 p3 q1 q2 q3 s3 e1 e2 e3
  generalize tl51 = TT at *
  generalize L_law_1 = LA at *
  generalize L_law_2 = LB at *
  unfold stH at *
  simp only [List.cons_append, List.nil_append] at G
  generalize fsH ⟨ks, rs, ths, [], [], [], []⟩ 3 = fs at *
  generalize (cut ns (some 5) (some 55)).map D.int = cs at *
  generalize cell ns 4 % 6 = v1 at *
  generalize cell ns 4 / 6 % 6 = v2 at *
  generalize cell ns 4 / 36 % 30 = v3 at *
  generalize cell ns 4 / 36 = v4 at *
  generalize cell ns 4 / 6 = v5 at *
  generalize cell ns 4 = v6 at *
  generalize cell ns 0 = v7 at *
  generalize cell ns 1 = v8 at *
  generalize cell ns 2 = v9 at *
  generalize cell ns 3 = v10 at *
  generalize ((m1 : Nat) : Int) = w1 at *
  generalize ((m2 : Nat) : Int) = w2 at *
  generalize ((m3 : Nat) : Int) = w3 at *
  generalize N.map D.str = nl at *
  generalize ths.map D.str = tl at *
  generalize ks.map D.str = kl at *
  generalize rs.map D.str = rl at *
  generalize D.scr ns = nd at *
  have we4 : c__law_words [.int v10, .int 8] [] = .ok (.lst nl) [] [] := we4
  simp (maxSteps := 30000) (disch := first | assumption | (simp; done) | omega | (simp; omega)) [c0, c1, c2, c3, c4, f6, f36, d6, d66, d30, a1, a2, a3, we1, we2, we3, we4, lf, hi, dp1, dp2, qq, qe, cl, G, TE, sl, sc0, -dSl_scr, Ow.d]
end M
namespace M2
open PySem PySem.Spec PyProof.Rows L2 DL M
theorem facts {P : Program} {w : World} {K : PySem.W.Frag} {h : Heap} {mg : Str → Option Value} {fa : Addr} (hc : LawOk c_law) (X : K.In h) (G : h.Ns mainGlobals mg) (hfa : mg "law" = some (.ref fa)) {l : List Addr} (c : obA l K = vaA w) :
    ∃ fd : FuncData, (∀ (s : Shared) (v : Value), BindsTo s fd ⟨[v], []⟩ [("_law_script", v)]) ∧ ∀ base : Heap, K.In base → base.Ns mainGlobals mg → FnG P w K mg base 8 fa fd ["_law_script"] (spLaw K) := by
  have c0 := c
  have e0 : ob0 l K = va0 w := c0
  have x0 : (xs0 l K).all (fun l => l.all id) = true := congrArg (·.1) e0
  have y0 : fn0 l K = fv0 := congrArg (·.2) e0
  obtain ⟨oc__law_cell_at, kV__law_cell_at, dc__law_cell_at, pm__law_cell_at, cd__law_cell_at, ct__law_cell_at, od__law_cell_at, an__law_cell_at, sl__law_cell_at, l__law_cell_at, q__law_cell_at⟩ := fnA_ok (a := at_ l 0) (n := "_law_cell_at") (q := "_law_cell_at") (st := s__law_cell_at) (fn_in y0 0) (fact_in x0 0 1)
  obtain ⟨oc__law_word, kV__law_word, dc__law_word, pm__law_word, cd__law_word, ct__law_word, od__law_word, an__law_word, sl__law_word, l__law_word, q__law_word⟩ := fnA_ok (a := at_ l 2) (n := "_law_word") (q := "_law_word") (st := s__law_word) (fn_in y0 1) (fact_in x0 0 4)
  obtain ⟨oc__law_words, kV__law_words, dc__law_words, pm__law_words, cd__law_words, ct__law_words, od__law_words, an__law_words, sl__law_words, l__law_words, q__law_words⟩ := fnA_ok (a := at_ l 4) (n := "_law_words") (q := "_law_words") (st := s__law_words) (fn_in y0 2) (fact_in x0 0 7)
  obtain ⟨oc__law_some, kV__law_some, dc__law_some, pm__law_some, cd__law_some, ct__law_some, od__law_some, an__law_some, sl__law_some, l__law_some, q__law_some⟩ := fnA_ok (a := at_ l 8) (n := "_law_some") (q := "_law_some") (st := s__law_some) (fn_in y0 3) (fact_in x0 1 2)
  obtain ⟨oc__law_tongue, kV__law_tongue, dc__law_tongue, pm__law_tongue, cd__law_tongue, ct__law_tongue, od__law_tongue, an__law_tongue, sl__law_tongue, l__law_tongue, q__law_tongue⟩ := fnA_ok (a := at_ l 12) (n := "_law_tongue") (q := "_law_tongue") (st := s__law_tongue) (fn_in y0 4) (fact_in x0 1 5)
  obtain ⟨oc__law_kinds_of, kV__law_kinds_of, dc__law_kinds_of, pm__law_kinds_of, cd__law_kinds_of, ct__law_kinds_of, od__law_kinds_of, an__law_kinds_of, sl__law_kinds_of, l__law_kinds_of, q__law_kinds_of⟩ := fnA_ok (a := at_ l 16) (n := "_law_kinds_of") (q := "_law_kinds_of") (st := s__law_kinds_of) (fn_in y0 5) (fact_in x0 2 0)
  obtain ⟨oc__law_added, kV__law_added, dc__law_added, pm__law_added, cd__law_added, ct__law_added, od__law_added, an__law_added, sl__law_added, l__law_added, q__law_added⟩ := fnA_ok (a := at_ l 18) (n := "_law_added") (q := "_law_added") (st := s__law_added) (fn_in y0 6) (fact_in x0 2 3)
  obtain ⟨oc__law_fields, kV__law_fields, dc__law_fields, pm__law_fields, cd__law_fields, ct__law_fields, od__law_fields, an__law_fields, sl__law_fields, l__law_fields, q__law_fields⟩ := fnA_ok (a := at_ l 20) (n := "_law_fields") (q := "_law_fields") (st := s__law_fields) (fn_in y0 7) (fact_in x0 2 6)
  obtain ⟨oc__law_own, kV__law_own, dc__law_own, pm__law_own, cd__law_own, ct__law_own, od__law_own, an__law_own, sl__law_own, l__law_own, q__law_own⟩ := fnA_ok (a := at_ l 24) (n := "_law_own") (q := "_law_own") (st := s__law_own) (fn_in y0 8) (fact_in x0 3 1)
  obtain ⟨oc__law_text, kV__law_text, dc__law_text, pm__law_text, cd__law_text, ct__law_text, od__law_text, an__law_text, sl__law_text, l__law_text, q__law_text⟩ := fnA_ok (a := at_ l 26) (n := "_law_text") (q := "_law_text") (st := s__law_text) (fn_in y0 9) (fact_in x0 3 4)
  obtain ⟨oc__law_is_text, kV__law_is_text, dc__law_is_text, pm__law_is_text, cd__law_is_text, ct__law_is_text, od__law_is_text, an__law_is_text, sl__law_is_text, l__law_is_text, q__law_is_text⟩ := fnA_ok (a := at_ l 28) (n := "_law_is_text") (q := "_law_is_text") (st := s__law_is_text) (fn_in y0 10) (fact_in x0 3 7)
  obtain ⟨oc__law_due, kV__law_due, dc__law_due, pm__law_due, cd__law_due, ct__law_due, od__law_due, an__law_due, sl__law_due, l__law_due, q__law_due⟩ := fnA_ok (a := at_ l 30) (n := "_law_due") (q := "_law_due") (st := s__law_due) (fn_in y0 11) (fact_in x0 4 2)
  obtain ⟨oc_is_thing_text, kV_is_thing_text, dc_is_thing_text, pm_is_thing_text, cd_is_thing_text, ct_is_thing_text, od_is_thing_text, an_is_thing_text, sl_is_thing_text, l_is_thing_text, q_is_thing_text⟩ := fnA_ok (a := at_ l 34) (n := "is_thing_text") (q := "is_thing_text") (st := s_is_thing_text) (fn_in y0 12) (fact_in x0 4 5)
  obtain ⟨oc__law_told, kV__law_told, dc__law_told, pm__law_told, cd__law_told, ct__law_told, od__law_told, an__law_told, sl__law_told, l__law_told, q__law_told⟩ := fnA_ok (a := at_ l 38) (n := "_law_told") (q := "_law_told") (st := s__law_told) (fn_in y0 13) (fact_in x0 5 0)
  obtain ⟨oc__law_deed, kV__law_deed, dc__law_deed, pm__law_deed, cd__law_deed, ct__law_deed, od__law_deed, an__law_deed, sl__law_deed, l__law_deed, q__law_deed⟩ := fnA_ok (a := at_ l 40) (n := "_law_deed") (q := "_law_deed") (st := s__law_deed) (fn_in y0 14) (fact_in x0 5 3)
  obtain ⟨oc__law_rows, kV__law_rows, dc__law_rows, pm__law_rows, cd__law_rows, ct__law_rows, od__law_rows, an__law_rows, sl__law_rows, l__law_rows, q__law_rows⟩ := fnA_ok (a := at_ l 44) (n := "_law_rows") (q := "_law_rows") (st := s__law_rows) (fn_in y0 15) (fact_in x0 5 6)
  obtain ⟨oc__law_asked, kV__law_asked, dc__law_asked, pm__law_asked, cd__law_asked, ct__law_asked, od__law_asked, an__law_asked, sl__law_asked, l__law_asked, q__law_asked⟩ := fnA_ok (a := at_ l 52) (n := "_law_asked") (q := "_law_asked") (st := s__law_asked) (fn_in y0 16) (fact_in x0 6 1)
  obtain ⟨oc__law_end, kV__law_end, dc__law_end, pm__law_end, cd__law_end, ct__law_end, od__law_end, an__law_end, sl__law_end, l__law_end, q__law_end⟩ := fnA_ok (a := at_ l 54) (n := "_law_end") (q := "_law_end") (st := s__law_end) (fn_in y0 17) (fact_in x0 6 4)
  obtain ⟨oc_law, kV_law, dc_law, pm_law, cd_law, ct_law, od_law, an_law, sl_law, l_law, q_law⟩ := fnA_ok (a := at_ l 56) (n := "law") (q := "law") (st := s_law) (fn_in y0 18) (fact_in x0 6 7)
  obtain ⟨oc_House___init__, kV_House___init__, dc_House___init__, pm_House___init__, cd_House___init__, ct_House___init__, od_House___init__, an_House___init__, sl_House___init__, l_House___init__, q_House___init__⟩ := fnA_ok (a := at_ l 6) (n := "__init__") (q := "House.__init__") (st := s_House___init__) (fn_in y0 19) (fact_in x0 12 0)
  obtain ⟨oc_Tongue___init__, kV_Tongue___init__, dc_Tongue___init__, pm_Tongue___init__, cd_Tongue___init__, ct_Tongue___init__, od_Tongue___init__, an_Tongue___init__, sl_Tongue___init__, l_Tongue___init__, q_Tongue___init__⟩ := fnA_ok (a := at_ l 10) (n := "__init__") (q := "Tongue.__init__") (st := s_Tongue___init__) (fn_in y0 20) (fact_in x0 12 3)
  obtain ⟨oc_House_add, kV_House_add, dc_House_add, pm_House_add, cd_House_add, ct_House_add, od_House_add, an_House_add, sl_House_add, l_House_add, q_House_add⟩ := fnA_ok (a := at_ l 14) (n := "add") (q := "House.add") (st := s_House_add) (fn_in y0 21) (fact_in x0 12 6)
  obtain ⟨oc_House_own_word, kV_House_own_word, dc_House_own_word, pm_House_own_word, cd_House_own_word, ct_House_own_word, od_House_own_word, an_House_own_word, sl_House_own_word, l_House_own_word, q_House_own_word⟩ := fnA_ok (a := at_ l 22) (n := "own_word") (q := "House.own_word") (st := s_House_own_word) (fn_in y0 22) (fact_in x0 13 1)
  obtain ⟨oc_House_tongue_named, kV_House_tongue_named, dc_House_tongue_named, pm_House_tongue_named, cd_House_tongue_named, ct_House_tongue_named, od_House_tongue_named, an_House_tongue_named, sl_House_tongue_named, l_House_tongue_named, q_House_tongue_named⟩ := fnA_ok (a := at_ l 32) (n := "tongue_named") (q := "House.tongue_named") (st := s_House_tongue_named) (fn_in y0 23) (fact_in x0 13 4)
  obtain ⟨oc_House_word, kV_House_word, dc_House_word, pm_House_word, cd_House_word, ct_House_word, od_House_word, an_House_word, sl_House_word, l_House_word, q_House_word⟩ := fnA_ok (a := at_ l 36) (n := "word") (q := "House.word") (st := s_House_word) (fn_in y0 24) (fact_in x0 13 7)
  obtain ⟨oc_House_kinds, kV_House_kinds, dc_House_kinds, pm_House_kinds, cd_House_kinds, ct_House_kinds, od_House_kinds, an_House_kinds, sl_House_kinds, l_House_kinds, q_House_kinds⟩ := fnA_ok (a := at_ l 42) (n := "kinds") (q := "House.kinds") (st := s_House_kinds) (fn_in y0 25) (fact_in x0 14 2)
  obtain ⟨oc_House_ranks, kV_House_ranks, dc_House_ranks, pm_House_ranks, cd_House_ranks, ct_House_ranks, od_House_ranks, an_House_ranks, sl_House_ranks, l_House_ranks, q_House_ranks⟩ := fnA_ok (a := at_ l 46) (n := "ranks") (q := "House.ranks") (st := s_House_ranks) (fn_in y0 26) (fact_in x0 14 5)
  obtain ⟨oc_House_things, kV_House_things, dc_House_things, pm_House_things, cd_House_things, ct_House_things, od_House_things, an_House_things, sl_House_things, l_House_things, q_House_things⟩ := fnA_ok (a := at_ l 48) (n := "things") (q := "House.things") (st := s_House_things) (fn_in y0 27) (fact_in x0 15 0)
  obtain ⟨oc_House_tongues, kV_House_tongues, dc_House_tongues, pm_House_tongues, cd_House_tongues, ct_House_tongues, od_House_tongues, an_House_tongues, sl_House_tongues, l_House_tongues, q_House_tongues⟩ := fnA_ok (a := at_ l 50) (n := "tongues") (q := "House.tongues") (st := s_House_tongues) (fn_in y0 28) (fact_in x0 15 3)
  obtain ⟨tk_LETTERS, g_LETTERS⟩ := strA_ok (fact_in x0 25 7)
  refine' all_mk hc X G hfa ?a__law_cell_at ?l__law_cell_at ?q__law_cell_at ?k__law_cell_at ?a__law_word ?l__law_word ?q__law_word ?k__law_word ?a__law_words ?l__law_words ?q__law_words ?k__law_words ?a__law_some ?l__law_some ?q__law_some ?k__law_some ?a__law_tongue ?l__law_tongue ?q__law_tongue ?k__law_tongue ?a__law_kinds_of ?l__law_kinds_of ?q__law_kinds_of ?k__law_kinds_of ?a__law_added ?l__law_added ?q__law_added ?k__law_added ?a__law_fields ?l__law_fields ?q__law_fields ?k__law_fields ?a__law_own ?l__law_own ?q__law_own ?k__law_own ?a__law_text ?l__law_text ?q__law_text ?k__law_text ?a__law_is_text ?l__law_is_text ?q__law_is_text ?k__law_is_text ?a__law_due ?l__law_due ?q__law_due ?k__law_due ?a_is_thing_text ?l_is_thing_text ?q_is_thing_text ?k_is_thing_text ?a__law_told ?l__law_told ?q__law_told ?k__law_told ?a__law_deed ?l__law_deed ?q__law_deed ?k__law_deed ?a__law_rows ?l__law_rows ?q__law_rows ?k__law_rows ?a__law_asked ?l__law_asked ?q__law_asked ?k__law_asked ?a__law_end ?l__law_end ?q__law_end ?k__law_end ?a_law ?l_law ?q_law ?k_law ?aC_House ?pg_House ?hd_House ?po_House ?sa_House ?nf_House_by_name ?nf_House_declared ?nf_House_kind_row ?nf_House_pieces_here ?nf_House_rank_row ?nf_House_thing_row ?nf_House_thing_texts ?mt_House_add ?mt_House_own_word ?mt_House_tongue_named ?mt_House_word ?mt_House_kinds ?mt_House_ranks ?mt_House_things ?mt_House_tongues ?mk_House ?in_House ?kc_House ?aC_Tongue ?pg_Tongue ?hd_Tongue ?po_Tongue ?sa_Tongue ?nf_Tongue_calendar ?nf_Tongue_dayform ?nf_Tongue_falls ?nf_Tongue_figures ?nf_Tongue_joiners ?nf_Tongue_name ?nf_Tongue_rules ?mk_Tongue ?in_Tongue ?kc_Tongue ?i_House___init__ ?l_House___init__ ?q_House___init__ ?k_House___init__ ?i_Tongue___init__ ?l_Tongue___init__ ?q_Tongue___init__ ?k_Tongue___init__ ?i_House_add ?l_House_add ?q_House_add ?k_House_add ?i_House_own_word ?l_House_own_word ?q_House_own_word ?k_House_own_word ?i_House_tongue_named ?l_House_tongue_named ?q_House_tongue_named ?k_House_tongue_named ?i_House_word ?l_House_word ?q_House_word ?k_House_word ?i_House_kinds ?l_House_kinds ?q_House_kinds ?k_House_kinds ?i_House_ranks ?l_House_ranks ?q_House_ranks ?k_House_ranks ?i_House_things ?l_House_things ?q_House_things ?k_House_things ?i_House_tongues ?l_House_tongues ?q_House_tongues ?k_House_tongues ?aC_NoMessage ?xbe_NoMessage ?xhd_NoMessage ?xty_NoMessage ?aC_NoThing ?xbe_NoThing ?xhd_NoThing ?xty_NoThing ?aC_NoTongue ?xbe_NoTongue ?xhd_NoTongue ?xty_NoTongue ?aC_NoValue ?xbe_NoValue ?xhd_NoValue ?xty_NoValue ?aC_SayError ?xbe_SayError ?xhd_SayError ?xty_SayError ?xex_NoThing ?xkp_NoThing ?xve_NoThing ?xme_NoThing ?xg2_NoThing ?xk2_NoThing ?xa2_NoThing ?xm2_NoThing ?xex_NoTongue ?xkp_NoTongue ?xve_NoTongue ?xme_NoTongue ?xg2_NoTongue ?xk2_NoTongue ?xa2_NoTongue ?xm2_NoTongue ?xex_NoValue ?xkp_NoValue ?xve_NoValue ?xme_NoValue ?xg2_NoValue ?xk2_NoValue ?xa2_NoValue ?xm2_NoValue ?xsp ?xta ?xs_NoThing_NoMessage ?xs_NoThing_NoTongue ?xs_NoThing_NoValue ?xs_NoThing_SayError ?xs_NoTongue_NoMessage ?xs_NoTongue_NoThing ?xs_NoTongue_NoValue ?xs_NoTongue_SayError ?xs_NoValue_NoMessage ?xs_NoValue_NoThing ?xs_NoValue_NoTongue ?xs_NoValue_SayError ?z_ValueError ?z_len ?z_isinstance ?z_str ?z_int ?z_bool ?z_list ?z_tuple ?z_dict ?z_set ?z_range ?z_enumerate ?z_zip ?z_reversed ?z_sorted ?z_sum ?z_all ?z_any ?z_abs ?z_max ?z_min ?z_ord ?z_divmod ?z_repr ?g_LETTERS
  (case a__law_cell_at => exact (He.eqO_ok (fact_in x0 0 0)))
  (case l__law_cell_at => exact l__law_cell_at)
  (case q__law_cell_at => exact q__law_cell_at)
  (case k__law_cell_at => exact ((fact_in x0 0 2)))
  (case a__law_word => exact (He.eqO_ok (fact_in x0 0 3)))
  (case l__law_word => exact l__law_word)
  (case q__law_word => exact q__law_word)
  (case k__law_word => exact ((fact_in x0 0 5)))
  (case a__law_words => exact (He.eqO_ok (fact_in x0 0 6)))
  (case l__law_words => exact l__law_words)
  (case q__law_words => exact q__law_words)
  (case k__law_words => exact ((fact_in x0 1 0)))
  (case a__law_some => exact (He.eqO_ok (fact_in x0 1 1)))
  (case l__law_some => exact l__law_some)
  (case q__law_some => exact q__law_some)
  (case k__law_some => exact ((fact_in x0 1 3)))
  (case a__law_tongue => exact (He.eqO_ok (fact_in x0 1 4)))
  (case l__law_tongue => exact l__law_tongue)
  (case q__law_tongue => exact q__law_tongue)
  (case k__law_tongue => exact ((fact_in x0 1 6)))
  (case a__law_kinds_of => exact (He.eqO_ok (fact_in x0 1 7)))
  (case l__law_kinds_of => exact l__law_kinds_of)
  (case q__law_kinds_of => exact q__law_kinds_of)
  (case k__law_kinds_of => exact ((fact_in x0 2 1)))
  (case a__law_added => exact (He.eqO_ok (fact_in x0 2 2)))
  (case l__law_added => exact l__law_added)
  (case q__law_added => exact q__law_added)
  (case k__law_added => exact ((fact_in x0 2 4)))
  (case a__law_fields => exact (He.eqO_ok (fact_in x0 2 5)))
  (case l__law_fields => exact l__law_fields)
  (case q__law_fields => exact q__law_fields)
  (case k__law_fields => exact ((fact_in x0 2 7)))
  (case a__law_own => exact (He.eqO_ok (fact_in x0 3 0)))
  (case l__law_own => exact l__law_own)
  (case q__law_own => exact q__law_own)
  (case k__law_own => exact ((fact_in x0 3 2)))
  (case a__law_text => exact (He.eqO_ok (fact_in x0 3 3)))
  (case l__law_text => exact l__law_text)
  (case q__law_text => exact q__law_text)
  (case k__law_text => exact ((fact_in x0 3 5)))
  (case a__law_is_text => exact (He.eqO_ok (fact_in x0 3 6)))
  (case l__law_is_text => exact l__law_is_text)
  (case q__law_is_text => exact q__law_is_text)
  (case k__law_is_text => exact ((fact_in x0 4 0)))
  (case a__law_due => exact (He.eqO_ok (fact_in x0 4 1)))
  (case l__law_due => exact l__law_due)
  (case q__law_due => exact q__law_due)
  (case k__law_due => exact ((fact_in x0 4 3)))
  (case a_is_thing_text => exact (He.eqO_ok (fact_in x0 4 4)))
  (case l_is_thing_text => exact l_is_thing_text)
  (case q_is_thing_text => exact q_is_thing_text)
  (case k_is_thing_text => exact ((fact_in x0 4 6)))
  (case a__law_told => exact (He.eqO_ok (fact_in x0 4 7)))
  (case l__law_told => exact l__law_told)
  (case q__law_told => exact q__law_told)
  (case k__law_told => exact ((fact_in x0 5 1)))
  (case a__law_deed => exact (He.eqO_ok (fact_in x0 5 2)))
  (case l__law_deed => exact l__law_deed)
  (case q__law_deed => exact q__law_deed)
  (case k__law_deed => exact ((fact_in x0 5 4)))
  (case a__law_rows => exact (He.eqO_ok (fact_in x0 5 5)))
  (case l__law_rows => exact l__law_rows)
  (case q__law_rows => exact q__law_rows)
  (case k__law_rows => exact ((fact_in x0 5 7)))
  (case a__law_asked => exact (He.eqO_ok (fact_in x0 6 0)))
  (case l__law_asked => exact l__law_asked)
  (case q__law_asked => exact q__law_asked)
  (case k__law_asked => exact ((fact_in x0 6 2)))
  (case a__law_end => exact (He.eqO_ok (fact_in x0 6 3)))
  (case l__law_end => exact l__law_end)
  (case q__law_end => exact q__law_end)
  (case k__law_end => exact ((fact_in x0 6 5)))
  (case a_law => exact (He.eqO_ok (fact_in x0 6 6)))
  (case l_law => exact l_law)
  (case q_law => exact q_law)
  (case k_law => exact ((fact_in x0 7 0)))
  (case aC_House => exact (He.eqO_ok (fact_in x0 7 1)))
  (case pg_House => exact ((fact_in x0 7 2)))
  (case hd_House => exact ((fact_in x0 7 3)))
  (case po_House => exact ((fact_in x0 7 4)))
  (case sa_House => exact (He.eqO_ok (fact_in x0 7 5)))
  (case nf_House_by_name => exact (He.eqO_ok (fact_in x0 7 6)))
  (case nf_House_declared => exact (He.eqO_ok (fact_in x0 7 7)))
  (case nf_House_kind_row => exact (He.eqO_ok (fact_in x0 8 0)))
  (case nf_House_pieces_here => exact (He.eqO_ok (fact_in x0 8 1)))
  (case nf_House_rank_row => exact (He.eqO_ok (fact_in x0 8 2)))
  (case nf_House_thing_row => exact (He.eqO_ok (fact_in x0 8 3)))
  (case nf_House_thing_texts => exact (He.eqO_ok (fact_in x0 8 4)))
  (case mt_House_add => exact (He.eqO_ok (fact_in x0 8 5)))
  (case mt_House_own_word => exact (He.eqO_ok (fact_in x0 8 6)))
  (case mt_House_tongue_named => exact (He.eqO_ok (fact_in x0 8 7)))
  (case mt_House_word => exact (He.eqO_ok (fact_in x0 9 0)))
  (case mt_House_kinds => exact (He.eqO_ok (fact_in x0 9 1)))
  (case mt_House_ranks => exact (He.eqO_ok (fact_in x0 9 2)))
  (case mt_House_things => exact (He.eqO_ok (fact_in x0 9 3)))
  (case mt_House_tongues => exact (He.eqO_ok (fact_in x0 9 4)))
  (case mk_House => exact ((fact_in x0 9 5)))
  (case in_House => exact (He.eqO_ok (fact_in x0 9 6)))
  (case kc_House => exact ((fact_in x0 9 7)))
  (case aC_Tongue => exact (He.eqO_ok (fact_in x0 10 0)))
  (case pg_Tongue => exact ((fact_in x0 10 1)))
  (case hd_Tongue => exact ((fact_in x0 10 2)))
  (case po_Tongue => exact ((fact_in x0 10 3)))
  (case sa_Tongue => exact (He.eqO_ok (fact_in x0 10 4)))
  (case nf_Tongue_calendar => exact (He.eqO_ok (fact_in x0 10 5)))
  (case nf_Tongue_dayform => exact (He.eqO_ok (fact_in x0 10 6)))
  (case nf_Tongue_falls => exact (He.eqO_ok (fact_in x0 10 7)))
  (case nf_Tongue_figures => exact (He.eqO_ok (fact_in x0 11 0)))
  (case nf_Tongue_joiners => exact (He.eqO_ok (fact_in x0 11 1)))
  (case nf_Tongue_name => exact (He.eqO_ok (fact_in x0 11 2)))
  (case nf_Tongue_rules => exact (He.eqO_ok (fact_in x0 11 3)))
  (case mk_Tongue => exact ((fact_in x0 11 4)))
  (case in_Tongue => exact (He.eqO_ok (fact_in x0 11 5)))
  (case kc_Tongue => exact ((fact_in x0 11 6)))
  (case i_House___init__ => exact ((fact_in x0 11 7)))
  (case l_House___init__ => exact l_House___init__)
  (case q_House___init__ => exact q_House___init__)
  (case k_House___init__ => exact ((fact_in x0 12 1)))
  (case i_Tongue___init__ => exact ((fact_in x0 12 2)))
  (case l_Tongue___init__ => exact l_Tongue___init__)
  (case q_Tongue___init__ => exact q_Tongue___init__)
  (case k_Tongue___init__ => exact ((fact_in x0 12 4)))
  (case i_House_add => exact ((fact_in x0 12 5)))
  (case l_House_add => exact l_House_add)
  (case q_House_add => exact q_House_add)
  (case k_House_add => exact ((fact_in x0 12 7)))
  (case i_House_own_word => exact ((fact_in x0 13 0)))
  (case l_House_own_word => exact l_House_own_word)
  (case q_House_own_word => exact q_House_own_word)
  (case k_House_own_word => exact ((fact_in x0 13 2)))
  (case i_House_tongue_named => exact ((fact_in x0 13 3)))
  (case l_House_tongue_named => exact l_House_tongue_named)
  (case q_House_tongue_named => exact q_House_tongue_named)
  (case k_House_tongue_named => exact ((fact_in x0 13 5)))
  (case i_House_word => exact ((fact_in x0 13 6)))
  (case l_House_word => exact l_House_word)
  (case q_House_word => exact q_House_word)
  (case k_House_word => exact ((fact_in x0 14 0)))
  (case i_House_kinds => exact ((fact_in x0 14 1)))
  (case l_House_kinds => exact l_House_kinds)
  (case q_House_kinds => exact q_House_kinds)
  (case k_House_kinds => exact ((fact_in x0 14 3)))
  (case i_House_ranks => exact ((fact_in x0 14 4)))
  (case l_House_ranks => exact l_House_ranks)
  (case q_House_ranks => exact q_House_ranks)
  (case k_House_ranks => exact ((fact_in x0 14 6)))
  (case i_House_things => exact ((fact_in x0 14 7)))
  (case l_House_things => exact l_House_things)
  (case q_House_things => exact q_House_things)
  (case k_House_things => exact ((fact_in x0 15 1)))
  (case i_House_tongues => exact ((fact_in x0 15 2)))
  (case l_House_tongues => exact l_House_tongues)
  (case q_House_tongues => exact q_House_tongues)
  (case k_House_tongues => exact ((fact_in x0 15 4)))
  (case aC_NoMessage => exact (He.eqO_ok (fact_in x0 15 5)))
  (case xbe_NoMessage => exact (of_decide_eq_true (fact_in x0 15 6)))
  (case xhd_NoMessage => exact ((fact_in x0 15 7)))
  (case xty_NoMessage => exact (of_decide_eq_true (fact_in x0 16 0)))
  (case aC_NoThing => exact (He.eqO_ok (fact_in x0 16 1)))
  (case xbe_NoThing => exact (of_decide_eq_true (fact_in x0 16 2)))
  (case xhd_NoThing => exact ((fact_in x0 16 3)))
  (case xty_NoThing => exact (of_decide_eq_true (fact_in x0 16 4)))
  (case aC_NoTongue => exact (He.eqO_ok (fact_in x0 16 5)))
  (case xbe_NoTongue => exact (of_decide_eq_true (fact_in x0 16 6)))
  (case xhd_NoTongue => exact ((fact_in x0 16 7)))
  (case xty_NoTongue => exact (of_decide_eq_true (fact_in x0 17 0)))
  (case aC_NoValue => exact (He.eqO_ok (fact_in x0 17 1)))
  (case xbe_NoValue => exact (of_decide_eq_true (fact_in x0 17 2)))
  (case xhd_NoValue => exact ((fact_in x0 17 3)))
  (case xty_NoValue => exact (of_decide_eq_true (fact_in x0 17 4)))
  (case aC_SayError => exact (He.eqO_ok (fact_in x0 17 5)))
  (case xbe_SayError => exact (of_decide_eq_true (fact_in x0 17 6)))
  (case xhd_SayError => exact ((fact_in x0 17 7)))
  (case xty_SayError => exact (of_decide_eq_true (fact_in x0 18 0)))
  (case xex_NoThing => exact ((fact_in x0 18 1)))
  (case xkp_NoThing => exact ((fact_in x0 18 2)))
  (case xve_NoThing => exact (of_decide_eq_true (fact_in x0 18 3)))
  (case xme_NoThing => exact (of_decide_eq_true (fact_in x0 18 4)))
  (case xg2_NoThing => exact (He.eqO_ok (fact_in x0 18 5)))
  (case xk2_NoThing => exact (He.eqO_ok (fact_in x0 18 6)))
  (case xa2_NoThing => exact (He.eqO_ok (fact_in x0 18 7)))
  (case xm2_NoThing => exact (of_decide_eq_true (fact_in x0 19 0)))
  (case xex_NoTongue => exact ((fact_in x0 19 1)))
  (case xkp_NoTongue => exact ((fact_in x0 19 2)))
  (case xve_NoTongue => exact (of_decide_eq_true (fact_in x0 19 3)))
  (case xme_NoTongue => exact (of_decide_eq_true (fact_in x0 19 4)))
  (case xg2_NoTongue => exact (He.eqO_ok (fact_in x0 19 5)))
  (case xk2_NoTongue => exact (He.eqO_ok (fact_in x0 19 6)))
  (case xa2_NoTongue => exact (He.eqO_ok (fact_in x0 19 7)))
  (case xm2_NoTongue => exact (of_decide_eq_true (fact_in x0 20 0)))
  (case xex_NoValue => exact ((fact_in x0 20 1)))
  (case xkp_NoValue => exact ((fact_in x0 20 2)))
  (case xve_NoValue => exact (of_decide_eq_true (fact_in x0 20 3)))
  (case xme_NoValue => exact (of_decide_eq_true (fact_in x0 20 4)))
  (case xg2_NoValue => exact (He.eqO_ok (fact_in x0 20 5)))
  (case xk2_NoValue => exact (He.eqO_ok (fact_in x0 20 6)))
  (case xa2_NoValue => exact (He.eqO_ok (fact_in x0 20 7)))
  (case xm2_NoValue => exact (of_decide_eq_true (fact_in x0 21 0)))
  (case xsp => exact (He.eqO_ok (fact_in x0 21 1)))
  (case xta => exact (of_decide_eq_true (fact_in x0 21 2)))
  (case xs_NoThing_NoMessage => exact (of_decide_eq_true (fact_in x0 21 3)))
  (case xs_NoThing_NoTongue => exact (of_decide_eq_true (fact_in x0 21 4)))
  (case xs_NoThing_NoValue => exact (of_decide_eq_true (fact_in x0 21 5)))
  (case xs_NoThing_SayError => exact (of_decide_eq_true (fact_in x0 21 6)))
  (case xs_NoTongue_NoMessage => exact (of_decide_eq_true (fact_in x0 21 7)))
  (case xs_NoTongue_NoThing => exact (of_decide_eq_true (fact_in x0 22 0)))
  (case xs_NoTongue_NoValue => exact (of_decide_eq_true (fact_in x0 22 1)))
  (case xs_NoTongue_SayError => exact (of_decide_eq_true (fact_in x0 22 2)))
  (case xs_NoValue_NoMessage => exact (of_decide_eq_true (fact_in x0 22 3)))
  (case xs_NoValue_NoThing => exact (of_decide_eq_true (fact_in x0 22 4)))
  (case xs_NoValue_NoTongue => exact (of_decide_eq_true (fact_in x0 22 5)))
  (case xs_NoValue_SayError => exact (of_decide_eq_true (fact_in x0 22 6)))
  (case z_ValueError => exact (He.eqO_ok (fact_in x0 22 7)))
  (case z_len => exact (He.eqO_ok (fact_in x0 23 0)))
  (case z_isinstance => exact (He.eqO_ok (fact_in x0 23 1)))
  (case z_str => exact (He.eqO_ok (fact_in x0 23 2)))
  (case z_int => exact (He.eqO_ok (fact_in x0 23 3)))
  (case z_bool => exact (He.eqO_ok (fact_in x0 23 4)))
  (case z_list => exact (He.eqO_ok (fact_in x0 23 5)))
  (case z_tuple => exact (He.eqO_ok (fact_in x0 23 6)))
  (case z_dict => exact (He.eqO_ok (fact_in x0 23 7)))
  (case z_set => exact (He.eqO_ok (fact_in x0 24 0)))
  (case z_range => exact (He.eqO_ok (fact_in x0 24 1)))
  (case z_enumerate => exact (He.eqO_ok (fact_in x0 24 2)))
  (case z_zip => exact (He.eqO_ok (fact_in x0 24 3)))
  (case z_reversed => exact (He.eqO_ok (fact_in x0 24 4)))
  (case z_sorted => exact (He.eqO_ok (fact_in x0 24 5)))
  (case z_sum => exact (He.eqO_ok (fact_in x0 24 6)))
  (case z_all => exact (He.eqO_ok (fact_in x0 24 7)))
  (case z_any => exact (He.eqO_ok (fact_in x0 25 0)))
  (case z_abs => exact (He.eqO_ok (fact_in x0 25 1)))
  (case z_max => exact (He.eqO_ok (fact_in x0 25 2)))
  (case z_min => exact (He.eqO_ok (fact_in x0 25 3)))
  (case z_ord => exact (He.eqO_ok (fact_in x0 25 4)))
  (case z_divmod => exact (He.eqO_ok (fact_in x0 25 5)))
  (case z_repr => exact (He.eqO_ok (fact_in x0 25 6)))
  (case g_LETTERS => exact g_LETTERS)
end M2
open PySem PySem.W PyProof.Rows
set_option maxRecDepth 100000 in
set_option maxHeartbeats 0 in
theorem PySem.Challenge.cw_saywell_k51_tongues_and_words_holds : PySem.Challenge.rw_saywell_k51_tongues_and_words.Holds := by
  w_on; o_law
  refine HandSHeadRun.head_any (r := OpenLaw.row PySem.Challenge.rw_saywell_k51_tongues_and_words) (q := M2.qv) (H := M2.hk) (ob := M2.ob) (M := M2.MM) (loose := M2.names) (d := HandSHeadRun.topDef (OpenLaw.row PySem.Challenge.rw_saywell_k51_tongues_and_words).prog 31) (kwd := []) (fun s => DL.obL_eq s)
    (by kernel_rfl) (fun s => by kernel_rfl) M2.run (by kernel_rfl) (by kernel_rfl) (by kernel_rfl) (by rfl) (by first | assumption | decide +kernel) (by decide +kernel) ⟨rfl, rfl, rfl, rfl, rfl, by decide +kernel⟩ ?hw ?hc
  case hw => w_witness2
  case hc =>
    refine DL.walk_ofEG (l := PySem.Challenge.rw_saywell_k51_tongues_and_words) (n := 63) (k := 8) (x := "_law_script") rfl (by decide) (by kernel_rfl) ⟨rfl, by decide, by decide⟩ ?F
    intro w mg fa h Y G hmg0
    obtain ⟨l, K, KX, c⟩ := Y
    have hmg : mg ("law" : PySem.Str) = some (.ref fa) := by
      have e : (HandSHeadRun.topDef (OpenLaw.row PySem.Challenge.rw_saywell_k51_tongues_and_words).prog 31).name = ("law" : PySem.Str) := by kernel_rfl
      rw [← e]; exact hmg0
    obtain ⟨fd, hb, hF⟩ := M2.facts M.lawOk KX G hmg c
    exact ⟨K, fd, DL.spLaw K, KX, hb, fun H a ns hl hbt _ hS => ⟨a, ns, rfl, hS, hl, hbt, fun _ => rfl⟩, hF⟩
