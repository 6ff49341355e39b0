import PyProof.Rows.All
import Wide.All
import OpenK.AllK
import Wide.FinOn
import HandS.ForMost
import HandS.Evl
import HandS.Wide
import HandS.WideBits
import HandS.IsInst
import HandS.Deep
import HandS.Flow
import HandS.Style
import HandS.DictComp
import HandS.RaiseMore
import HandS.TupAny
import KE.SortData
import KE.DatumMoreOrd
import KE.KeyNested
import KE.KDictKeyed
import HandS.SetKeys
import HandS.Small
import HandS.Iter
import HandS.TupSets
import HandS.SortOrd
import KE.KDictSum
import HandS.ExcValue
import HandS.ExcOwn
import HandS.Zip
import KE.KDictPairs
import KE.GoesEnum
import KE.GoesMore
import KE.GoesZip
import KE.KDictZip
import HandS.EndBits
import HandS.FStrTup
import KE.IntBitsLaws
import KE.BitLaws
import PySem.Challenge.RW_onlyseen_k02_plays_what_is_seen_and_lett
set_option Elab.async false
set_option linter.all false
set_option maxRecDepth 100000
set_option maxHeartbeats 4000000
/-! OSa: own layer over the hand layer: abstract slots (data, mutable lists, the law's tank), a frozen part F of the heap in which data are read. -/
namespace OS
open PySem L2 PySem.Spec PyProof.Rows

/-! ### heaps -/
def del (H : Hp) (p : Addr) : Hp := fun b => if b = p then none else H b
theorem del_ne {H : Hp} {p b : Addr} (h : b ≠ p) : del H p b = H b := by unfold del; rw [if_neg h]
theorem del_same {H : Hp} {p : Addr} : del H p p = none := by unfold del; rw [if_pos rfl]
theorem del_upd {H : Hp} {p : Addr} {o : HO} (h : H p = none) : del (upd H p o) p = H := by
  funext b
  by_cases e : b = p
  · subst e; rw [del_same, h]
  · rw [del_ne e, upd_ne e]
theorem same_upd {H : Hp} {p : Addr} {o : HO} (h : H p = none) : Same H (upd H p o) := Evl.Ex.new h
theorem same_del {H : Hp} {p : Addr} : Same (del H p) H := fun b o e => by
  by_cases q : b = p
  · subst q; rw [del_same] at e; cases e
  · rw [del_ne q] at e; exact e
theorem del_some {H : Hp} {p b : Addr} {o : HO} (h : del H p b = some o) : b ≠ p ∧ H b = some o := by
  by_cases q : b = p
  · subst q; rw [del_same] at h; cases h
  · rw [del_ne q] at h; exact ⟨q, h⟩
theorem upd_some {H : Hp} {p b : Addr} {o u : HO} (h : upd H p u b = some o) : (b = p ∧ o = u) ∨ (b ≠ p ∧ H b = some o) := by
  by_cases q : b = p
  · subst q; rw [upd_same] at h; exact .inl ⟨rfl, (Option.some.inj h).symm⟩
  · rw [upd_ne q] at h; exact .inr ⟨q, h⟩

/-! ### data in a heap: dicts, too, flat keys (ints, texts) or tuples -/
/-- the program, the written part, the world -/
structure KW where
  F : PySem.W.Frag
  w : World
  P : Program
instance : Coe KW PySem.W.Frag := ⟨KW.F⟩
mutual
def keyOf : PyData → Option NestedKey
  | .none => some .none
  | .bool b => some (.num (if b = true then 1 else 0))
  | .int i => some (.num i)
  | .str x => some (.text x)
  | .tuple xs => (keyOfAll xs).map .tup
  | .list _ => none
  | .dict _ => none
def keyOfAll : List PyData → Option (List NestedKey)
  | [] => some []
  | x :: xs => match keyOf x, keyOfAll xs with
    | some k, some ks => some (k :: ks)
    | _, _ => none
end
def keyP : Key → PyData
  | .inl i => .int i
  | .inr x => .str x
def flatK : PyData → Bool
  | .int _ => true
  | .str _ => true
  | _ => false
def tupK : PyData → Bool
  | .tuple xs => match keyOfAll xs with
    | some ks => decide (NestedKey.depth (.tup ks) ≤ 8)
    | none => false
  | _ => false
/-- what stands in a dict: what the key is, the key, the value -/
abbrev DL := List (NestedKey × V × V)
abbrev EntOk (w : World) (p : NestedKey × V × V) (e : DictEntry) : Prop := RelV p.2.1 e.key ∧ RelV p.2.2 e.val ∧ e.hash = p.1.hash w
/-- the object at a is ob, a dict that has this -/
structure DAt (w : World) (a : Addr) (ob : Obj) (L : DL) (h : Heap) : Prop where
  get : h.get? a = some ob
  ex : ob.ExactDict
  sys : (a == sysModules) = false
  len : L.length ≤ 16777216
  nd : (L.map (·.1)).Nodup
  ent : ∃ es ep, ob.data = .dict es ep ∧ Paired (EntOk w) L es.toList
def DObj (w : World) (a : Addr) (ob : Obj) (L : DL) : HO := .ext (DAt w a ob L)
/-- all are tuples -/
def isT : PyData → Bool
  | .tuple _ => true
  | _ => false
def tups (ds : List PyData) : Bool := ds.all isT
/-- an object that is known to have no dict of its own -/
def TX (K : KW) (H : Hp) (a : Addr) : Prop := ∃ o : Obj, o.dict = none ∧ ((∃ xs, H a = some (.frz o (.tup xs))) ∨ K.F.lookup a = some o)
theorem tx_mono {K : KW} {H H' : Hp} (e : Same H H') {a : Addr} : TX K H a → TX K H' a := fun ⟨o, h, z⟩ => ⟨o, h, z.imp (fun ⟨u, q⟩ => ⟨u, e _ _ q⟩) id⟩
theorem TX.of {K : KW} {H : Hp} {a : Addr} {o : Obj} {u : List V} (d : o.dict = none) (h : H a = some (.frz o (.tup u))) : TX K H a := ⟨o, d, .inl ⟨u, h⟩⟩
theorem SqT.frz {K : PySem.W.Frag} {H : Hp} {a : Addr} {o : Obj} {xs : List V} (h : H a = some (.frz o (.tup xs))) : SqT K H a xs := .inl (.inr ⟨o, h⟩)
mutual
inductive Dp (K : KW) (H : Hp) : V → PyData → Prop
  | non : Dp K H .non .none
  | bl (b : Bool) : Dp K H (.bl b) (.bool b)
  | int (i : Int) : Dp K H (.int i) (.int i)
  | str (x : Str) : Dp K H (.str x) (.str x)
  | lst {a : Addr} {vs : List V} {ds : List PyData} : SqL K H a vs → DpAll K H vs ds → Dp K H (.ref a) (.list ds)
  | tup {a : Addr} {vs : List V} {ds : List PyData} : SqT K H a vs → DpAll K H vs ds → (tups ds = true → TX K H a) → Dp K H (.ref a) (.tuple ds)
  | dct {a : Addr} {ob : Obj} {L : DL} {kvs : List (PyData × PyData)} : H a = some (DObj K.w a ob L) → DpL K H L kvs → Dp K H (.ref a) (.dict kvs)
inductive DpAll (K : KW) (H : Hp) : List V → List PyData → Prop
  | nil : DpAll K H [] []
  | cons {v : V} {vs : List V} {d : PyData} {ds : List PyData} : Dp K H v d → DpAll K H vs ds → DpAll K H (v :: vs) (d :: ds)
inductive DpL (K : KW) (H : Hp) : DL → List (PyData × PyData) → Prop
  | nil : DpL K H [] []
  | cons {k : NestedKey} {y v : V} {kd d : PyData} {r : DL} {s : List (PyData × PyData)} : Dp K H y kd → keyOf kd = some k → (flatK kd || tupK kd) = true → Dp K H v d → DpL K H r s → DpL K H ((k, y, v) :: r) ((kd, d) :: s)
end
mutual
theorem dp_mono {K : KW} {H H' : Hp} (e : Same H H') : ∀ {v : V} {d : PyData}, Dp K H v d → Dp K H' v d
  | _, _, .non => .non
  | _, _, .bl b => .bl b
  | _, _, .int i => .int i
  | _, _, .str x => .str x
  | _, _, .lst h a => .lst (Evl.ex_l e h) (dpAll_mono e a)
  | _, _, .tup h a x => .tup (Evl.ex_t e h) (dpAll_mono e a) fun z => tx_mono e (x z)
  | _, _, .dct h a => .dct (e _ _ h) (dpL_mono e a)
theorem dpAll_mono {K : KW} {H H' : Hp} (e : Same H H') : ∀ {vs : List V} {ds : List PyData}, DpAll K H vs ds → DpAll K H' vs ds
  | _, _, .nil => .nil
  | _, _, .cons a b => .cons (dp_mono e a) (dpAll_mono e b)
theorem dpL_mono {K : KW} {H H' : Hp} (e : Same H H') : ∀ {L : DL} {kvs : List (PyData × PyData)}, DpL K H L kvs → DpL K H' L kvs
  | _, _, .nil => .nil
  | _, _, .cons a b c d r => .cons (dp_mono e a) b c (dp_mono e d) (dpL_mono e r)
end
/-- what an object of the heap is as a dict -/
def DcO (K : KW) (F : Hp) (a : Addr) (o : HO) (kvs : List (PyData × PyData)) : Prop := ∃ ob L, o = DObj K.w a ob L ∧ DpL K F L kvs
theorem dcO_mono {K : KW} {F F' : Hp} {a : Addr} {o : HO} {kvs : List (PyData × PyData)} (e : Same F F') : DcO K F a o kvs → DcO K F' a o kvs := fun ⟨ob, L, z, r⟩ => ⟨ob, L, z, dpL_mono e r⟩
theorem dcO_dp {K : KW} {F F' : Hp} {a : Addr} {o : HO} {kvs : List (PyData × PyData)} (e : Same F F') (z : F' a = some o) : DcO K F a o kvs → Dp K F' (.ref a) (.dict kvs) := fun ⟨ob, L, z', r⟩ => .dct (z.trans (congrArg some z')) (dpL_mono e r)
section
variable {K : KW} {H H' : Hp}
theorem dpAll_len : ∀ {vs : List V} {ds : List PyData}, DpAll K H vs ds → vs.length = ds.length
  | _, _, .nil => rfl
  | _, _, .cons _ b => congrArg (· + 1) (dpAll_len b)
theorem dpAll_get : ∀ {vs : List V} {ds : List PyData} {i : Nat} {d : PyData}, DpAll K H vs ds → ds[i]? = some d → ∃ v, vs[i]? = some v ∧ Dp K H v d
  | _, _, _, _, .nil, e => by simp at e
  | _, _, 0, _, .cons a _, e => by simp at e; subst e; exact ⟨_, rfl, a⟩
  | _, _, i + 1, d, .cons _ b, e => by
    obtain ⟨v, h1, h2⟩ := dpAll_get (i := i) b (by simpa using e)
    exact ⟨v, by simpa using h1, h2⟩
theorem dpAll_get' : ∀ {vs : List V} {ds : List PyData} {i : Nat} {v : V}, DpAll K H vs ds → vs[i]? = some v → ∃ d, ds[i]? = some d ∧ Dp K H v d
  | _, _, _, _, .nil, e => by simp at e
  | _, _, 0, _, .cons a _, e => by simp at e; subst e; exact ⟨_, rfl, a⟩
  | _, _, i + 1, v, .cons _ b, e => by
    obtain ⟨d, h1, h2⟩ := dpAll_get' (i := i) b (by simpa using e)
    exact ⟨d, by simpa using h1, h2⟩
theorem dpAll_append : ∀ {vs ws : List V} {ds es : List PyData}, DpAll K H vs ds → DpAll K H ws es → DpAll K H (vs ++ ws) (ds ++ es)
  | _, _, _, _, .nil, s => s
  | _, _, _, _, .cons a b, s => .cons a (dpAll_append b s)
theorem dpAll_take : ∀ {vs : List V} {ds : List PyData} (n : Nat), DpAll K H vs ds → DpAll K H (vs.take n) (ds.take n)
  | _, _, 0, _ => by simp; exact .nil
  | _, _, _ + 1, .nil => .nil
  | _, _, n + 1, .cons a b => .cons a (dpAll_take n b)
theorem dpAll_drop : ∀ {vs : List V} {ds : List PyData} (n : Nat), DpAll K H vs ds → DpAll K H (vs.drop n) (ds.drop n)
  | _, _, 0, r => r
  | _, _, _ + 1, .nil => .nil
  | _, _, n + 1, .cons _ b => dpAll_drop n b
theorem dpAll_set {v : V} {d : PyData} (r : Dp K H v d) : ∀ {vs : List V} {ds : List PyData} (i : Nat), DpAll K H vs ds → DpAll K H (vs.set i v) (ds.set i d)
  | _, _, _, .nil => .nil
  | _, _, 0, .cons _ t => .cons r t
  | _, _, i + 1, .cons q t => .cons q (dpAll_set r i t)
theorem dpAll_erase : ∀ {vs : List V} {ds : List PyData} (i : Nat), DpAll K H vs ds → DpAll K H (vs.eraseIdx i) (ds.eraseIdx i)
  | _, _, _, .nil => .nil
  | _, _, 0, .cons _ t => t
  | _, _, i + 1, .cons q t => .cons q (dpAll_erase i t)
theorem dpAll_dropLast : ∀ {vs : List V} {ds : List PyData}, DpAll K H vs ds → DpAll K H vs.dropLast ds.dropLast
  | _, _, .nil => .nil
  | _, _, .cons _ .nil => .nil
  | _, _, .cons q (.cons r t) => .cons q (dpAll_dropLast (.cons r t))
theorem dpAll_ints : ∀ {vs : List V} {ns : List Int}, DpAll K H vs (ns.map .int) → vs = ns.map V.int
  | _, [], .nil => rfl
  | _, _ :: _, .cons a b => by cases a; rw [dpAll_ints b]; rfl
theorem dpAll_bools : ∀ {vs : List V} {ns : List Bool}, DpAll K H vs (ns.map .bool) → vs = ns.map V.bl
  | _, [], .nil => rfl
  | _, _ :: _, .cons a b => by cases a; rw [dpAll_bools b]; rfl
theorem dpAll_strs : ∀ {vs : List V} {ns : List Str}, DpAll K H vs (ns.map .str) → vs = ns.map V.str
  | _, [], .nil => rfl
  | _, _ :: _, .cons a b => by cases a; rw [dpAll_strs b]; rfl
theorem ints_dpAll : ∀ {ns : List Int}, DpAll K H (ns.map V.int) (ns.map .int)
  | [] => .nil
  | n :: ns => .cons (.int n) ints_dpAll
theorem bools_dpAll : ∀ {ns : List Bool}, DpAll K H (ns.map V.bl) (ns.map .bool)
  | [] => .nil
  | n :: ns => .cons (.bl n) bools_dpAll
theorem strs_dpAll : ∀ {ns : List Str}, DpAll K H (ns.map V.str) (ns.map .str)
  | [] => .nil
  | n :: ns => .cons (.str n) strs_dpAll
end

/-! ### abstract slots, states -/
inductive AV where
  | no
  | d (x : PyData)
  | ml (xs : List PyData)
  | tank (n : Nat)
  | tk3 (p q r : Int)
  | dk (kvs : List (PyData × PyData))
  | cl (T : String)
def vol : AV → Bool
  | .ml _ => true
  | .tank _ => true
  | .tk3 _ _ _ => true
  | .dk _ => true
  | _ => false
/-- the law's own source of draws: what is left of a great number, the mixed one, how often was drawn (at most n) -/
def TankOk (p q r : Int) (n : Nat) : Prop := 0 ≤ p ∧ 0 ≤ q ∧ q < 10 ^ 40 ∧ 0 ≤ r ∧ r ≤ n
structure Wd where
  K : KW
  H0 : Hp
  F0 : Hp
  tk : Option Addr
def SlotOk (W : Wd) (F H : Hp) (a : Addr) (s : Option (Option V)) : AV → Prop
  | .no => True
  | .d x => ∃ v, s = some (some v) ∧ Dp W.K F v x
  | .ml xs => s = some (some (.ref a)) ∧ F a = none ∧ W.H0 a = none ∧ ∃ vs, H a = some (.lst vs) ∧ DpAll W.K F vs xs
  | .tank n => s = some (some (.ref a)) ∧ F a = none ∧ W.tk = some a ∧ ∃ p q r, H a = some (.lst [.int p, .int q, .int r]) ∧ TankOk p q r n
  | .tk3 p q r => s = some (some (.ref a)) ∧ F a = none ∧ W.tk = some a ∧ H a = some (.lst [.int p, .int q, .int r])
  | .dk kvs => s = some (some (.ref a)) ∧ F a = none ∧ W.H0 a = none ∧ ∃ o, H a = some o ∧ DcO W.K F a o kvs
  | .cl T => s = some (some (.ty T))
def Apart (ρ : List AV) (ad : Nat → Addr) : Prop := ∀ i j x y, ρ[i]? = some x → ρ[j]? = some y → vol x = true → vol y = true → i ≠ j → ad i ≠ ad j
structure Sto (W : Wd) (ρ : List AV) (F : Hp) (σ : L2.St) (H : Hp) : Prop where
  sub : Same F H
  base : Same W.F0 F
  fr : ∀ b o, F b = some o → (∃ o', W.F0 b = some o') ∨ W.H0 b = none
  keep : ∀ b o, W.H0 b = some o → W.tk ≠ some b → H b = some o
  tkk : ∀ b o, W.tk = some b → W.H0 b = some o → ∃ o', H b = some o'
  slots : ∃ ad : Nat → Addr, (∀ i x, ρ[i]? = some x → SlotOk W F H (ad i) (σ[i]?) x) ∧ Apart ρ ad
  len : σ.length = ρ.length
  wt : ∀ t, W.tk = some t → W.H0 t ≠ none

section
variable {W : Wd} {ρ ρ' : List AV} {F F' : Hp} {σ : L2.St} {H H' : Hp} {p : Addr} {o : HO}
theorem Sto.h0 (S : Sto W ρ F σ H) {b : Addr} (h : H b = none) : W.H0 b = none := by
  cases e : W.H0 b with
  | none => rfl
  | some u =>
    by_cases t : W.tk = some b
    · obtain ⟨o', q⟩ := S.tkk b u t e
      rw [h] at q; cases q
    · rw [S.keep b u e t] at h; cases h
theorem Sto.f0 (S : Sto W ρ F σ H) {b : Addr} (h : H b = none) : F b = none := S.sub.free h
theorem Sto.grow (S : Sto W ρ F σ H) (h1 : Same F F') (h2 : Same F' H') (h3 : Same H H') (h4 : ∀ b u, F' b = some u → (∃ u', F b = some u') ∨ H b = none) : Sto W ρ F' σ H' where
  sub := h2
  base := S.base.trans h1
  fr := fun b u e => by
    rcases h4 b u e with ⟨u', q⟩ | q
    · exact S.fr b u' q
    · exact .inr (S.h0 q)
  keep := fun b u e t => h3 _ _ (S.keep b u e t)
  tkk := fun b u t e => let ⟨o', q⟩ := S.tkk b u t e; ⟨o', h3 _ _ q⟩
  len := S.len
  wt := S.wt
  slots := by
    obtain ⟨ad, hs, hp⟩ := S.slots
    refine ⟨ad, fun i x e => ?_, hp⟩
    have q := hs i x e
    have fn : ∀ u, H (ad i) = some u → F (ad i) = none → F' (ad i) = none := fun u hu hn => by
      cases e2 : F' (ad i) with
      | none => rfl
      | some v =>
        rcases h4 _ _ e2 with ⟨u', z⟩ | z
        · rw [hn] at z; cases z
        · rw [hu] at z; cases z
    cases x with
    | no => trivial
    | d x => obtain ⟨v, a, b⟩ := q; exact ⟨v, a, dp_mono h1 b⟩
    | ml xs => obtain ⟨a, b, c, vs, e1, e2⟩ := q; exact ⟨a, fn _ e1 b, c, vs, h3 _ _ e1, dpAll_mono h1 e2⟩
    | tank n => obtain ⟨a, b, c, p, q, r, e1, e2⟩ := q; exact ⟨a, fn _ e1 b, c, p, q, r, h3 _ _ e1, e2⟩
    | tk3 p q r => obtain ⟨a, b, c, e1⟩ := q; exact ⟨a, fn _ e1 b, c, h3 _ _ e1⟩
    | dk kvs => obtain ⟨a, b, c, o, e1, e2⟩ := q; exact ⟨a, fn _ e1 b, c, o, h3 _ _ e1, dcO_mono h1 e2⟩
    | cl T => exact q
theorem Sto.new (S : Sto W ρ F σ H) (h : H p = none) : Sto W ρ F σ (upd H p o) :=
  S.grow (Same.refl F) (S.sub.trans (same_upd h)) (same_upd h) fun b u e => .inl ⟨u, e⟩
theorem Sto.freeze (S : Sto W ρ F σ (del H p)) (h : H p = some o) : Sto W ρ (upd F p o) σ H := by
  have fp : F p = none := S.f0 del_same
  refine S.grow (same_upd fp) (fun b u e => ?_) same_del fun b u e => ?_
  · rcases upd_some e with ⟨rfl, rfl⟩ | ⟨_, e⟩
    · exact h
    · exact same_del _ _ (S.sub _ _ e)
  · rcases upd_some e with ⟨rfl, rfl⟩ | ⟨_, e⟩
    · exact .inr del_same
    · exact .inl ⟨u, e⟩
theorem Sto.newF (S : Sto W ρ F σ H) (h : H p = none) : Sto W ρ (upd F p o) σ (upd H p o) :=
  Sto.freeze (by rw [del_upd h]; exact S) upd_same
theorem Sto.frozen (S : Sto W ρ F σ (del H p)) (h : H p = some o) : Same F (upd F p o) := same_upd (S.f0 del_same)
theorem Sto.fnew (S : Sto W ρ F σ H) (h : H p = none) : Same F (upd F p o) := same_upd (S.f0 h)
theorem Sto.get (S : Sto W ρ F σ H) {i : Nat} {x : PyData} (h : ρ[i]? = some (.d x)) : ∃ v, σ[i]? = some (some v) ∧ Dp W.K F v x := by
  obtain ⟨ad, hs, _⟩ := S.slots
  exact hs i _ h
end

/-! ### families of contexts: a def's body; the blocks of its comprehensions -/
structure Fam where
  X0 : Cx
  ι : Type
  X : ι → Cx
  hK : ∀ i, (X i).K = X0.K
  hN : ∀ i, (X i).N = X0.N
  hm : ∀ i, (X i).mg = X0.mg
  hA : ∀ i, (X i).A = X0.A
  hp : ∀ i, (X i).prog = X0.prog
  hw : ∀ i, (X i).w = X0.w
  hb : ∀ i, (X i).base = X0.base
  hc : ∀ i, (X i).calm = X0.calm
def Fam.K (Y : Fam) : KW := ⟨Y.X0.K, Y.X0.w, Y.X0.prog⟩
def Fam.one (X : Cx) : Fam := ⟨X, Unit, fun _ => X, fun _ => rfl, fun _ => rfl, fun _ => rfl, fun _ => rfl, fun _ => rfl, fun _ => rfl, fun _ => rfl, fun _ => rfl⟩
def Fam.blk (Y : Fam) (scope : Scope) : Fam :=
  ⟨Y.X0, Y.ι × Shared × Hp × Addr × List (Str × Addr) × List Addr, fun z => (Y.X z.1).blk z.2.1 z.2.2.1 scope (compEnvC scope z.2.2.2.2.1 z.2.2.2.1 (Y.X z.1).env) z.2.2.2.2.2,
    fun z => Y.hK z.1, fun z => Y.hN z.1, fun z => Y.hm z.1, fun z => Y.hA z.1, fun z => Y.hp z.1, fun z => Y.hw z.1, fun z => Y.hb z.1, fun z => Y.hc z.1⟩

/-! ### expressions -/
abbrev AQ := PyData → List AV → Prop
abbrev ATr := List AV → AQ → Prop
abbrev ALQ := List PyData → List AV → Prop
abbrev ALr := List AV → ALQ → Prop
abbrev ATt := List AV → (Bool → List AV → Prop) → Prop
/-- an expression whose value is data -/
structure AE (X : Fam) (e : Expr) (t : ATr) : Prop where
  ex : ∃ te : TE, (∀ i, PE (X.X i) e te) ∧ ∀ (W : Wd) (ρ : List AV) (F : Hp) (σ : L2.St) (H : Hp) (Q : VK) (q : AQ), W.K = X.K → Sto W ρ F σ H → t ρ q →
    (∀ d ρ' F' v H', Sto W ρ' F' σ H' → Same F F' → Dp X.K F' v d → q d ρ' → Q v H') → te σ H Q
/-- an expression whose value is a new list that nobody else holds -/
structure AL (X : Fam) (e : Expr) (t : ALr) : Prop where
  ex : ∃ te : TE, (∀ i, PE (X.X i) e te) ∧ ∀ (W : Wd) (ρ : List AV) (F : Hp) (σ : L2.St) (H : Hp) (Q : VK) (q : ALQ), W.K = X.K → Sto W ρ F σ H → t ρ q →
    (∀ xs ρ' F' p vs H', Sto W ρ' F' σ (del H' p) → H' p = some (.lst vs) → Same F F' → DpAll X.K F' vs xs → q xs ρ' → Q (.ref p) H') → te σ H Q
/-- a test -/
structure AT (X : Fam) (e : Expr) (t : ATt) : Prop where
  ex : ∃ te : TT, (∀ i, PT (X.X i) e te) ∧ ∀ (W : Wd) (ρ : List AV) (F : Hp) (σ : L2.St) (H : Hp) (Q : Bool → Hp → Prop) (q : Bool → List AV → Prop), W.K = X.K → Sto W ρ F σ H → t ρ q →
    (∀ b ρ' F' H', Sto W ρ' F' σ H' → Same F F' → q b ρ' → Q b H') → te σ H Q
/-- a test whatever its whole -/
structure AWt (X : Fam) (e : Expr) (t : ATt) : Prop where
  ex : ∃ te : TT, (∀ i, PW (X.X i) e te) ∧ ∀ (W : Wd) (ρ : List AV) (F : Hp) (σ : L2.St) (H : Hp) (Q : Bool → Hp → Prop) (q : Bool → List AV → Prop), W.K = X.K → Sto W ρ F σ H → t ρ q →
    (∀ b ρ' F' H', Sto W ρ' F' σ H' → Same F F' → q b ρ' → Q b H') → te σ H Q
/-- arguments: data, or a slot that holds a list that changes -/
inductive AArg where
  | d (x : PyData)
  | s (i : Nat)
def ArgR (K : KW) (F : Hp) (σ : L2.St) : AArg → V → Prop
  | .d x, v => Dp K F v x
  | .s i, v => σ[i]? = some (some v)
abbrev AAr := List AV → (List AArg → List AV → Prop) → Prop
structure AA (X : Fam) (es : List Expr) (t : AAr) : Prop where
  ex : ∃ ta : TA, (∀ i, PA (X.X i) es ta) ∧ ∀ (W : Wd) (ρ : List AV) (F : Hp) (σ : L2.St) (H : Hp) (Q : List V → Hp → Prop) (q : List AArg → List AV → Prop), W.K = X.K → Sto W ρ F σ H → t ρ q →
    (∀ as ρ' F' vs H', Sto W ρ' F' σ H' → Same F F' → Paired (ArgR X.K F' σ) as vs → q as ρ' → Q vs H') → ta σ H Q
theorem argR_mono {K : KW} {F F' : Hp} {σ : L2.St} (e : Same F F') : ∀ {a : AArg} {v : V}, ArgR K F σ a v → ArgR K F' σ a v
  | .d _, _, h => dp_mono e h
  | .s _, _, h => h

section
variable {X : Fam} {a b e : Expr} {ta tb te : ATr} {pos : Pos}
/-- a new list, told as data -/
theorem AL.ae {t : ALr} (h : AL X e t) : AE X e fun ρ q => t ρ fun xs ρ' => q (.list xs) ρ' := by
  obtain ⟨te, h1, h2⟩ := h.ex
  refine ⟨te, h1, fun W ρ F σ H Q q hk S ht k => h2 W ρ F σ H Q _ hk S ht fun xs ρ' F' p vs H' S' hp e r hq => ?_⟩
  exact k _ ρ' _ _ _ (S'.freeze hp) (e.trans (S'.frozen hp)) (.lst (SqL.of upd_same) (dpAll_mono (S'.frozen hp) r)) hq
theorem ae_var (i : Nat) {x : Str} {pos : Pos} (hN : ∀ j, (X.X j).N[i]? = some x := by intro _; rfl) (hv : ∀ j, Vis (X.X j).env.scope x := by intro _; first | exact Or.inl rfl | exact Or.inr (Or.inl rfl) | exact Or.inr (Or.inr rfl)) (hd : (x == ("__debug__" : Str)) = false := by decide)
    (hcd : (x == ("__classdict__" : Str)) = false := by decide) : AE X (.Name x pos) fun ρ q => ∃ d, ρ[i]? = some (.d d) ∧ q d ρ := by
  refine ⟨_, fun j => pe_var (hN j) (hv j) hd hcd, fun W ρ F σ H Q q hk S ht k => ?_⟩
  obtain ⟨d, hd, hq⟩ := ht
  obtain ⟨v, h1, h2⟩ := S.get hd
  exact ⟨v, h1, k d ρ F v H S (Same.refl F) (hk ▸ h2) hq⟩
theorem ae_c {v : V} {d : PyData} (h : ∀ j, PE (X.X j) e (tC v)) (hd : ∀ F, Dp X.K F v d) : AE X e fun ρ q => q d ρ :=
  ⟨_, h, fun _ ρ F _ H _ _ _ S ht k => k d ρ F v H S (Same.refl F) (hd F) ht⟩
theorem ae_int {i j pos} : AE X (.Constant (.int i) j pos) fun ρ q => q (.int i) ρ := ae_c (fun _ => pe_int) fun _ => .int i
theorem ae_bl {i j pos} : AE X (.Constant (.bool i) j pos) fun ρ q => q (.bool i) ρ := ae_c (fun _ => pe_bl) fun _ => .bl i
theorem ae_str {i j pos} : AE X (.Constant (.str i) j pos) fun ρ q => q (.str i) ρ := ae_c (fun _ => pe_str) fun _ => .str i
theorem ae_non {j pos} : AE X (.Constant .none j pos) fun ρ q => q .none ρ := ae_c (fun _ => pe_non) fun _ => .non
theorem ae_globI {x : Str} {i : Int} {t : Tok} {pos : Pos} (hg : ∀ j, Gl (X.X j) x) (hm : X.X0.mg x = some (.int i t)) (hd : (x == ("__debug__" : Str)) = false := by decide) : AE X (.Name x pos) fun ρ q => q (.int i) ρ :=
  ae_c (v := .int i) (fun j => pe_glob (hg j) (by rw [X.hm j]; exact hm) ⟨t, rfl⟩ hd) fun _ => .int i
theorem ae_globS {x i : Str} {t : Tok} {pos : Pos} (hg : ∀ j, Gl (X.X j) x) (hm : X.X0.mg x = some (.str i t)) (hd : (x == ("__debug__" : Str)) = false := by decide) : AE X (.Name x pos) fun ρ q => q (.str i) ρ :=
  ae_c (v := .str i) (fun j => pe_glob (hg j) (by rw [X.hm j]; exact hm) ⟨t, rfl⟩ hd) fun _ => .str i

/-! operators by values -/
abbrev RO2 := PyData → PyData → (PyData → Prop) → Prop
/-- what a two-place operation does with data -/
def AOp (K : KW) (r : R2) (ro : RO2) : Prop :=
  ∀ (W : Wd) (ρ : List AV) (F : Hp) (σ : L2.St) (H : Hp) (x y : V) (d e : PyData) (Q : VK) (q : PyData → Prop), W.K = K → Sto W ρ F σ H → Dp K F x d → Dp K F y e → ro d e q →
    (∀ z F' v H', Sto W ρ F' σ H' → Same F F' → Dp K F' v z → q z → Q v H') → r x y H Q
theorem ae_two {r : R2} {ro : RO2} {tx ty : TE} (h : AOp X.K r ro) (ha : AE X a ta) (hb : AE X b tb) (hp : ∀ j tx ty, PE (X.X j) a tx → PE (X.X j) b ty → PE (X.X j) e (tOp r tx ty)) :
    AE X e fun ρ q => ta ρ fun d ρ1 => tb ρ1 fun e ρ2 => ro d e fun z => q z ρ2 := by
  obtain ⟨ta', a1, a2⟩ := ha.ex
  obtain ⟨tb', b1, b2⟩ := hb.ex
  refine ⟨_, fun j => hp j _ _ (a1 j) (b1 j), fun W ρ F σ H Q q hk S ht k => ?_⟩
  refine a2 W ρ F σ H _ _ hk S ht fun d ρ1 F1 x H1 S1 e1 r1 q1 => ?_
  refine b2 W ρ1 F1 σ H1 _ _ hk S1 q1 fun e ρ2 F2 y H2 S2 e2 r2 q2 => ?_
  exact h W ρ2 F2 σ H2 x y d e Q _ hk S2 (dp_mono e2 r1) r2 q2 fun z F' v H' S' e3 r3 q3 => k z ρ2 F' v H' S' ((e1.trans e2).trans e3) r3 q3
theorem ae_op {op : Operator} {r : R2} {ro : RO2} (h : AOp X.K r ro) (ho : ∀ j, OpR (X.X j) (binaryOp op) r) (ha : AE X a ta) (hb : AE X b tb) : AE X (.BinOp a op b pos) fun ρ q => ta ρ fun d ρ1 => tb ρ1 fun e ρ2 => ro d e fun z => q z ρ2 :=
  ae_two (tx := tNo) (ty := tNo) h ha hb fun j _ _ => pe_op (ho j)
where tNo : TE := fun _ _ _ => True
theorem ae_cmp {op : CmpOp} {r : R2} {ro : RO2} (h : AOp X.K r ro) (ho : ∀ j, OpR (X.X j) (compareOp op) r) (ha : AE X a ta) (hb : AE X b tb) (hm : behindInMarks op b = false) : AE X (.Compare a [op] [b] pos) fun ρ q => ta ρ fun d ρ1 => tb ρ1 fun e ρ2 => ro d e fun z => q z ρ2 :=
  ae_two (tx := ae_op.tNo) (ty := ae_op.tNo) h ha hb fun j _ _ p q => pe_cmpR (ho j) p q hm
theorem ae_ix {r : R2} {ro : RO2} (h : AOp X.K r ro) (ho : ∀ j, IxR (X.X j) r) (ha : AE X a ta) (hb : AE X b tb) (hs : PlainIx b) : AE X (.Subscript a b pos) fun ρ q => ta ρ fun d ρ1 => tb ρ1 fun e ρ2 => ro d e fun z => q z ρ2 :=
  ae_two (tx := ae_op.tNo) (ty := ae_op.tNo) h ha hb fun j _ _ p q => pe_ix (ho j) p q hs
theorem at_cmp {op : CmpOp} {r : R2} {ro : RO2} (h : AOp X.K r ro) (ho : ∀ j, OpR (X.X j) (compareOp op) r) (ha : AE X a ta) (hb : AE X b tb) (hm : behindInMarks op b = false) : AT X (.Compare a [op] [b] pos) fun ρ q => ta ρ fun d ρ1 => tb ρ1 fun e ρ2 => ro d e fun z => ∃ k, z = .bool k ∧ q k ρ2 := by
  obtain ⟨ta', a1, a2⟩ := ha.ex
  obtain ⟨tb', b1, b2⟩ := hb.ex
  refine ⟨_, fun j => pt_cmpR (ho j) (a1 j) (b1 j) hm, fun W ρ F σ H Q q hk S ht k => ?_⟩
  refine a2 W ρ F σ H _ _ hk S ht fun d ρ1 F1 x H1 S1 e1 r1 q1 => ?_
  refine b2 W ρ1 F1 σ H1 _ _ hk S1 q1 fun e ρ2 F2 y H2 S2 e2 r2 q2 => ?_
  refine h W ρ2 F2 σ H2 x y d e _ _ hk S2 (dp_mono e2 r1) r2 q2 fun z F' v H' S' e3 r3 q3 => ?_
  obtain ⟨b, rfl, q3⟩ := q3
  cases r3
  exact ⟨b, rfl, k b ρ2 F' H' S' ((e1.trans e2).trans e3) q3⟩
/-- chains a < b < c -/
theorem ae_chain {c : Expr} {tc : ATr} {op op' : CmpOp} {r r' : R2} {ro ro' : RO2} (h : AOp X.K r ro) (h' : AOp X.K r' ro') (ho : ∀ j, OpR (X.X j) (compareOp op) r) (ho' : ∀ j, OpR (X.X j) (compareOp op') r') (ha : AE X a ta) (hb : AE X b tb) (hc : AE X c tc)
    (hm : lastMarks [op, op'] [b, c] = false := by rfl) : AE X (.Compare a [op, op'] [b, c] pos) fun ρ q => ta ρ fun d ρ1 => tb ρ1 fun e ρ2 => ro d e fun z => ∃ k, z = .bool k ∧ (k = true → tc ρ2 fun f ρ3 => ro' e f fun z => q z ρ3) ∧ (k = false → q (.bool false) ρ2) := by
  obtain ⟨ta', a1, a2⟩ := ha.ex
  obtain ⟨tb', b1, b2⟩ := hb.ex
  obtain ⟨tc', c1, c2⟩ := hc.ex
  refine ⟨_, fun j => pe_chain (ho j) (ho' j) (a1 j) (b1 j) (c1 j) hm, fun W ρ F σ H Q q hk S ht k => ?_⟩
  refine a2 W ρ F σ H _ _ hk S ht fun d ρ1 F1 x H1 S1 e1 r1 q1 => ?_
  refine b2 W ρ1 F1 σ H1 _ _ hk S1 q1 fun e ρ2 F2 y H2 S2 e2 r2 q2 => ?_
  refine h W ρ2 F2 σ H2 x y d e _ _ hk S2 (dp_mono e2 r1) r2 q2 fun z F' v H' S' e3 r3 q3 => ?_
  obtain ⟨b, rfl, qt, qf⟩ := q3
  cases r3
  refine ⟨b, rfl, ?_⟩
  cases b with
  | true =>
    rw [if_pos rfl]
    refine c2 W ρ2 F' σ H' _ _ hk S' (qt rfl) fun f ρ3 F3 w H3 S3 e4 r4 q4 => ?_
    exact h' W ρ3 F3 σ H3 y w e f Q _ hk S3 (dp_mono (e3.trans e4) r2) r4 q4 fun z F5 v H5 S5 e5 r5 q5 => k z ρ3 F5 v H5 S5 ((((e1.trans e2).trans e3).trans e4).trans e5) r5 q5
  | false =>
    rw [if_neg Bool.false_ne_true]
    exact k _ ρ2 F' _ H' S' ((e1.trans e2).trans e3) (.bl false) (qf rfl)
/-- a value that is a truth, as a test -/
theorem at_val (h : AE X e te) (he : ∀ j whole, isTrue e (X.X j).env whole = (do let v ← whole; standAt e.pos; holding [v] (truthy v)) := by intro _ _; rfl) : AT X e fun ρ q => te ρ fun d ρ1 => ∃ k, d = .bool k ∧ q k ρ1 := by
  obtain ⟨te', a1, a2⟩ := h.ex
  refine ⟨_, fun j => pt_val (a1 j) (he j), fun W ρ F σ H Q q hk S ht k => ?_⟩
  refine a2 W ρ F σ H _ _ hk S ht fun d ρ1 F1 x H1 S1 e1 r1 q1 => ?_
  obtain ⟨b, rfl, q1⟩ := q1
  cases r1
  exact ⟨b, rfl, k b ρ1 F1 H1 S1 e1 q1⟩
theorem at_not {t : ATt} (h : AT X e t) : AT X (.UnaryOp .Not e pos) fun ρ q => t ρ fun b ρ1 => q (!b) ρ1 := by
  obtain ⟨te', a1, a2⟩ := h.ex
  exact ⟨_, fun j => pt_not (a1 j), fun W ρ F σ H Q q hk S ht k => a2 W ρ F σ H _ _ hk S ht fun b ρ1 F1 H1 S1 e1 q1 => k _ ρ1 F1 H1 S1 e1 q1⟩
theorem AWt.at {t : ATt} (h : AWt X e t) : AT X e t := let ⟨te, h1, h2⟩ := h.ex; ⟨te, fun j => (h1 j).pt, h2⟩
variable {t u : ATt} {rest : List Expr}
theorem aw_and1 (h : AT X a t) : AWt X (.BoolOp .And [a] pos) t := let ⟨_, h1, h2⟩ := h.ex; ⟨_, fun j => pw_and1 (h1 j), h2⟩
theorem aw_or1 (h : AT X a t) : AWt X (.BoolOp .Or [a] pos) t := let ⟨_, h1, h2⟩ := h.ex; ⟨_, fun j => pw_or1 (h1 j), h2⟩
def tAnd (t u : ATt) : ATt := fun ρ q => t ρ fun c ρ1 => (c = true → u ρ1 q) ∧ (c = false → q false ρ1)
def tOr (t u : ATt) : ATt := fun ρ q => t ρ fun c ρ1 => (c = true → q true ρ1) ∧ (c = false → u ρ1 q)
theorem aw_and (ha : AT X a t) (hb : AWt X (.BoolOp .And (b :: rest) pos) u) : AWt X (.BoolOp .And (a :: b :: rest) pos) (tAnd t u) := by
  obtain ⟨_, a1, a2⟩ := ha.ex
  obtain ⟨_, b1, b2⟩ := hb.ex
  refine ⟨_, fun j => pw_and (a1 j) (b1 j), fun W ρ F σ H Q q hk S ht k => a2 W ρ F σ H _ _ hk S ht fun c ρ1 F1 H1 S1 e1 q1 => ?_⟩
  cases c with
  | true =>
    rw [if_pos rfl]
    exact b2 W ρ1 F1 σ H1 _ _ hk S1 (q1.1 rfl) fun c ρ2 F2 H2 S2 e2 q2 => k c ρ2 F2 H2 S2 (e1.trans e2) q2
  | false =>
    rw [if_neg Bool.false_ne_true]
    exact k _ ρ1 F1 H1 S1 e1 (q1.2 rfl)
theorem aw_or (ha : AT X a t) (hb : AWt X (.BoolOp .Or (b :: rest) pos) u) : AWt X (.BoolOp .Or (a :: b :: rest) pos) (tOr t u) := by
  obtain ⟨_, a1, a2⟩ := ha.ex
  obtain ⟨_, b1, b2⟩ := hb.ex
  refine ⟨_, fun j => pw_or (a1 j) (b1 j), fun W ρ F σ H Q q hk S ht k => a2 W ρ F σ H _ _ hk S ht fun c ρ1 F1 H1 S1 e1 q1 => ?_⟩
  cases c with
  | true =>
    rw [if_pos rfl]
    exact k _ ρ1 F1 H1 S1 e1 (q1.1 rfl)
  | false =>
    rw [if_neg Bool.false_ne_true]
    exact b2 W ρ1 F1 σ H1 _ _ hk S1 (q1.2 rfl) fun c ρ2 F2 H2 S2 e2 q2 => k c ρ2 F2 H2 S2 (e1.trans e2) q2
/-- .. as values (truths) -/
theorem ae_one {op} (h : AE X a ta) : AE X (.BoolOp op [a] pos) ta := let ⟨_, h1, h2⟩ := h.ex; ⟨_, fun j => pe_one (h1 j), h2⟩
def vAnd (ta tb : ATr) : ATr := fun ρ q => ta ρ fun d ρ1 => ∃ c, d = .bool c ∧ (c = true → tb ρ1 q) ∧ (c = false → q (.bool false) ρ1)
def vOr (ta tb : ATr) : ATr := fun ρ q => ta ρ fun d ρ1 => ∃ c, d = .bool c ∧ (c = true → q (.bool true) ρ1) ∧ (c = false → tb ρ1 q)
theorem ae_and (ha : AE X a ta) (hb : AE X (.BoolOp .And (b :: rest) pos) tb) : AE X (.BoolOp .And (a :: b :: rest) pos) (vAnd ta tb) := by
  obtain ⟨_, a1, a2⟩ := ha.ex
  obtain ⟨_, b1, b2⟩ := hb.ex
  refine ⟨_, fun j => pe_and (a1 j) (b1 j), fun W ρ F σ H Q q hk S ht k => a2 W ρ F σ H _ _ hk S ht fun d ρ1 F1 v H1 S1 e1 r1 q1 => ?_⟩
  obtain ⟨c, rfl, qt, qf⟩ := q1
  cases r1
  refine ⟨c, rfl, ?_⟩
  cases c with
  | true =>
    rw [if_pos rfl]
    exact b2 W ρ1 F1 σ H1 _ _ hk S1 (qt rfl) fun c ρ2 F2 v H2 S2 e2 r2 q2 => k c ρ2 F2 v H2 S2 (e1.trans e2) r2 q2
  | false =>
    rw [if_neg Bool.false_ne_true]
    exact k _ ρ1 F1 _ H1 S1 e1 (.bl false) (qf rfl)
theorem ae_or (ha : AE X a ta) (hb : AE X (.BoolOp .Or (b :: rest) pos) tb) : AE X (.BoolOp .Or (a :: b :: rest) pos) (vOr ta tb) := by
  obtain ⟨_, a1, a2⟩ := ha.ex
  obtain ⟨_, b1, b2⟩ := hb.ex
  refine ⟨_, fun j => pe_or (a1 j) (b1 j), fun W ρ F σ H Q q hk S ht k => a2 W ρ F σ H _ _ hk S ht fun d ρ1 F1 v H1 S1 e1 r1 q1 => ?_⟩
  obtain ⟨c, rfl, qt, qf⟩ := q1
  cases r1
  refine ⟨c, rfl, ?_⟩
  cases c with
  | true =>
    rw [if_pos rfl]
    exact k _ ρ1 F1 _ H1 S1 e1 (.bl true) (qt rfl)
  | false =>
    rw [if_neg Bool.false_ne_true]
    exact b2 W ρ1 F1 σ H1 _ _ hk S1 (qf rfl) fun c ρ2 F2 v H2 S2 e2 r2 q2 => k c ρ2 F2 v H2 S2 (e1.trans e2) r2 q2
theorem ae_not (ha : AE X a ta) : AE X (.UnaryOp .Not a pos) fun ρ q => ta ρ fun d ρ1 => ∃ c, d = .bool c ∧ q (.bool (!c)) ρ1 := by
  obtain ⟨_, a1, a2⟩ := ha.ex
  refine ⟨_, fun j => pe_not (a1 j), fun W ρ F σ H Q q hk S ht k => a2 W ρ F σ H _ _ hk S ht fun d ρ1 F1 v H1 S1 e1 r1 q1 => ?_⟩
  obtain ⟨c, rfl, q1⟩ := q1
  cases r1
  exact ⟨c, rfl, k _ ρ1 F1 _ H1 S1 e1 (.bl _) q1⟩
/-- a if t else b -/
theorem ae_if {c : Expr} (hc : AT X c t) (ha : AE X a ta) (hb : AE X b tb) : AE X (.IfExp c a b pos) fun ρ q => t ρ fun k ρ1 => (k = true → ta ρ1 q) ∧ (k = false → tb ρ1 q) := by
  obtain ⟨_, c1, c2⟩ := hc.ex
  obtain ⟨_, a1, a2⟩ := ha.ex
  obtain ⟨_, b1, b2⟩ := hb.ex
  refine ⟨_, fun j => pe_ifExp (c1 j) (a1 j) (b1 j), fun W ρ F σ H Q q hk S ht k => c2 W ρ F σ H _ _ hk S ht fun c ρ1 F1 H1 S1 e1 q1 => ?_⟩
  cases c with
  | true =>
    rw [if_pos rfl]
    exact a2 W ρ1 F1 σ H1 _ _ hk S1 (q1.1 rfl) fun c ρ2 F2 v H2 S2 e2 r2 q2 => k c ρ2 F2 v H2 S2 (e1.trans e2) r2 q2
  | false =>
    rw [if_neg Bool.false_ne_true]
    exact b2 W ρ1 F1 σ H1 _ _ hk S1 (q1.2 rfl) fun c ρ2 F2 v H2 S2 e2 r2 q2 => k c ρ2 F2 v H2 S2 (e1.trans e2) r2 q2
theorem al_if {c : Expr} {la lb : ALr} (hc : AT X c t) (ha : AL X a la) (hb : AL X b lb) : AL X (.IfExp c a b pos) fun ρ q => t ρ fun k ρ1 => (k = true → la ρ1 q) ∧ (k = false → lb ρ1 q) := by
  obtain ⟨_, c1, c2⟩ := hc.ex
  obtain ⟨_, a1, a2⟩ := ha.ex
  obtain ⟨_, b1, b2⟩ := hb.ex
  refine ⟨_, fun j => pe_ifExp (c1 j) (a1 j) (b1 j), fun W ρ F σ H Q q hk S ht k => c2 W ρ F σ H _ _ hk S ht fun c ρ1 F1 H1 S1 e1 q1 => ?_⟩
  cases c with
  | true =>
    rw [if_pos rfl]
    exact a2 W ρ1 F1 σ H1 _ _ hk S1 (q1.1 rfl) fun c ρ2 F2 p vs H2 S2 hp e2 r2 q2 => k c ρ2 F2 p vs H2 S2 hp (e1.trans e2) r2 q2
  | false =>
    rw [if_neg Bool.false_ne_true]
    exact b2 W ρ1 F1 σ H1 _ _ hk S1 (q1.2 rfl) fun c ρ2 F2 p vs H2 S2 hp e2 r2 q2 => k c ρ2 F2 p vs H2 S2 hp (e1.trans e2) r2 q2

/-! arguments, displays -/
theorem aa_nil : AA X [] fun ρ q => q [] ρ := ⟨_, fun _ => pa_nil, fun W ρ F σ H Q q _ S ht k => k [] ρ F [] H S (Same.refl F) .nil ht⟩
theorem pairedR_mono {K : KW} {F F' : Hp} {σ : L2.St} (e : Same F F') {as : List AArg} {vs : List V} (h : Paired (ArgR K F σ) as vs) : Paired (ArgR K F' σ) as vs := Paired.mapP h fun _ _ z => argR_mono e z
theorem aa_cons {es : List Expr} {tr : AAr} (ha : AE X a ta) (hr : AA X es tr) (hs : ∀ j, starEach (a :: es) (X.X j).env = (false, eval a (X.X j).env) :: starEach es (X.X j).env := by intro _; rfl) : AA X (a :: es) fun ρ q => ta ρ fun d ρ1 => tr ρ1 fun as ρ2 => q (.d d :: as) ρ2 := by
  obtain ⟨_, a1, a2⟩ := ha.ex
  obtain ⟨_, b1, b2⟩ := hr.ex
  refine ⟨_, fun j => pa_cons (a1 j) (b1 j) (hs j), fun W ρ F σ H Q q hk S ht k => a2 W ρ F σ H _ _ hk S ht fun d ρ1 F1 v H1 S1 e1 r1 q1 => ?_⟩
  exact b2 W ρ1 F1 σ H1 _ _ hk S1 q1 fun as ρ2 F2 vs H2 S2 e2 r2 q2 => k _ ρ2 F2 _ H2 S2 (e1.trans e2) (.cons (a := AArg.d d) (dp_mono e2 r1) r2) q2
/-- an argument that is a slot's changing list -/
theorem aa_slot (i : Nat) {x : Str} {pos : Pos} {es : List Expr} {tr : AAr} (hr : AA X es tr) (hN : ∀ j, (X.X j).N[i]? = some x := by intro _; rfl) (hv : ∀ j, Vis (X.X j).env.scope x := by intro _; first | exact Or.inl rfl | exact Or.inr (Or.inl rfl) | exact Or.inr (Or.inr rfl)) (hd : (x == ("__debug__" : Str)) = false := by decide)
    (hcd : (x == ("__classdict__" : Str)) = false := by decide) (hs : ∀ j, starEach (.Name x pos :: es) (X.X j).env = (false, eval (.Name x pos) (X.X j).env) :: starEach es (X.X j).env := by intro _; rfl) : AA X (.Name x pos :: es) fun ρ q => (∃ y, ρ[i]? = some y ∧ vol y = true) ∧ tr ρ fun as ρ2 => q (.s i :: as) ρ2 := by
  obtain ⟨_, b1, b2⟩ := hr.ex
  refine ⟨_, fun j => pa_cons (pe_var (hN j) (hv j) hd hcd) (b1 j) (hs j), fun W ρ F σ H Q q hk S ht k => ?_⟩
  obtain ⟨⟨y, hy, vy⟩, ht⟩ := ht
  obtain ⟨ad, hs', _⟩ := S.slots
  have so := hs' i y hy
  have e : σ[i]? = some (some (.ref (ad i))) := by
    cases y with
    | ml _ => exact so.1
    | tank _ => exact so.1
    | tk3 _ _ _ => exact so.1
    | dk _ => exact so.1
    | no => cases vy
    | d _ => cases vy
    | cl _ => cases vy
  refine ⟨_, e, b2 W ρ F σ H _ _ hk S ht fun as ρ2 F2 vs H2 S2 e2 r2 q2 => k _ ρ2 F2 _ H2 S2 e2 (.cons (a := AArg.s i) e r2) q2⟩
/-- data arguments -/
def dats : List AArg → Option (List PyData)
  | [] => some []
  | .d x :: r => (dats r).map (x :: ·)
  | .s _ :: _ => none
theorem dats_ok {K : KW} {F : Hp} {σ : L2.St} : ∀ {as : List AArg} {vs : List V} {ds : List PyData}, Paired (ArgR K F σ) as vs → dats as = some ds → DpAll K F vs ds
  | [], _, ds, .nil, h => by cases h; exact .nil
  | .d x :: r, _, ds, .cons a b, h => by
    unfold dats at h
    cases e : dats r with
    | none => rw [e] at h; cases h
    | some l =>
      rw [e] at h
      cases h
      exact .cons a (dats_ok b e)
  | .s _ :: _, _, _, .cons _ _, h => by cases h
/-- tuple(..) -/
abbrev rTupX (K : PySem.W.Frag) : List V → Hp → VK → Prop := fun xs H Q => ∃ p ys, xs = [.ref p] ∧ ((SqL K H p ys ∧ ∀ (l : Addr) (o : Obj), o.dict = none → H l = none → Q (.ref l) (upd H l (.frz o (.tup ys)))) ∨ (SqT K H p ys ∧ Q (.ref p) H))
theorem call_tupX {X : Cx} : CallR X (.type "tuple") (rTupX X.K) := by
  intro pins s σ H xs us Q I r h
  obtain ⟨p, ys, rfl, h⟩ := h
  rcases h with ⟨hq, q⟩ | ⟨hq, q⟩
  · rw [Vals.ref1 r]
    obtain ⟨its, r', pl, hz⟩ := I.list hq
    have hlen := r'.length
    refine call_tuple_list pl.isList (fun h' kp => ?_) (by simp only [List.size_toArray] <;> omega)
    have I1 : Inv X pins σ H { s with heap := h' } := I.kept (t' := s.toks) kp
    have I2 : Inv X pins σ (upd H h'.objs.size (.frz { cls := .type "tuple", data := .seq its.toArray } (.tup ys))) { s with heap := h'.push { cls := .type "tuple", data := .seq its.toArray } } :=
      I1.laid (t' := s.toks) (fun b o e => Heap.get?_push_of_some _ e) (Nat.le_refl _) (show ObjOk X.prog X.w _ _ _ (.frz _ (.tup ys)) from ⟨Heap.get?_push_size _ rfl, hz, its, r', IsTup.new _ _⟩)
    exact ⟨.ref h'.objs.size, _, I2, rfl, q _ _ rfl (I1.hok.fresh (Nat.le_refl _))⟩
  · exact call_tuple_of pins s σ H _ us Q I r ⟨p, ys, rfl, .inr ⟨hq, q⟩⟩
/-- t + u -/
def rCatX (K : PySem.W.Frag) : R2 := fun x y H Q => ∃ a b xs ys, x = .ref a ∧ y = .ref b ∧ SqT K H a xs ∧ SqT K H b ys ∧ xs.length + ys.length ≤ sizeLine ∧
  (xs = [] → Q (.ref b) H) ∧ (xs ≠ [] → ys = [] → Q (.ref a) H) ∧ (xs ≠ [] → ys ≠ [] → ∀ (p : Addr) (o : Obj), o.dict = none → H p = none → Q (.ref p) (upd H p (.frz o (.tup (xs ++ ys)))))
theorem op_catX {X : Cx} : OpR X (binaryOp .Add) (rCatX X.K) := by
  intro pins s σ H x y v u Q I rx ry h
  obtain ⟨a, b, xs, ys, rfl, rfl, ha, hb, hz, q0, q1, q2⟩ := h
  by_cases hx : xs = []
  · exact op_catA pins s σ H _ _ v u Q I rx ry ⟨a, b, xs, ys, rfl, rfl, ha, hb, hz, q0, fun z => absurd hx z, fun z => absurd hx z⟩
  · cases rx
    cases ry
    obtain ⟨its, r1, p1, _⟩ := I.tuple ha
    obtain ⟨its2, r2, p2, _⟩ := I.tuple hb
    refine HT.cat_tup p1 p2 (fun z => hx (r1.nil_iff.mp z)) (fun z => ⟨.ref a, H, I, rfl, q1 hx (r2.nil_iff.mp z)⟩) (fun z => ?_) (by rw [← r1.length, ← r2.length]; exact hz)
    refine ⟨.ref s.heap.objs.size, _, I.laid (t' := s.toks) (o := .frz { cls := .type "tuple", data := .seq (its ++ its2).toArray } (.tup (xs ++ ys))) (fun b ob q => Heap.get?_push_of_some _ q) (Nat.le_refl _) ?_, rfl, q2 hx (fun w => z (r2.nil_iff.mpr w)) _ _ rfl (I.hok.fresh (Nat.le_refl _))⟩
    exact ⟨Heap.get?_push_size _ rfl, by rw [List.length_append]; exact hz, _, r1.append r2, IsTup.new _ _⟩
/-- t[lo:hi] -/
def rSlX (K : PySem.W.Frag) : V → Option Int → Option Int → Hp → VK → Prop := fun x lo hi H Q => ∃ a xs, x = .ref a ∧ SqT K H a xs ∧
  (HT.sIx xs.length 0 lo = 0 ∧ HT.sIx xs.length xs.length hi = xs.length → Q (.ref a) H) ∧ (¬ (HT.sIx xs.length 0 lo = 0 ∧ HT.sIx xs.length xs.length hi = xs.length) → ∀ (p : Addr) (o : Obj), o.dict = none → H p = none → Q (.ref p) (upd H p (.frz o (.tup (cutV xs lo hi)))))
theorem sl_tupX {X : Cx} : SlR X (rSlX X.K) := by
  intro pins s σ H x v vl vu lo hi sl Q I rx hs pl pu h
  obtain ⟨a, xs, rfl, hx, q1, q2⟩ := h
  by_cases hw : HT.sIx xs.length 0 lo = 0 ∧ HT.sIx xs.length xs.length hi = xs.length
  · exact sl_tupA pins s σ H _ v vl vu lo hi sl Q I rx hs pl pu ⟨a, xs, rfl, hx, q1, fun z => absurd hw z⟩
  · cases rx
    obtain ⟨its, r, ht, hz⟩ := I.tuple hx
    have hlen : its.toArray.size = xs.length := by rw [List.size_toArray]; exact r.length.symm
    refine ⟨"tuple", _, PyProof.Rows.slot_tuple_getitem.lookup, ht.typeIs, ?_⟩
    refine HT.getItem_tuple_cut ht hs pl pu (by rw [hlen]; exact hw) ?_ (by rw [hlen]; exact hz)
    rw [hlen]
    refine ⟨.ref s.heap.objs.size, _, I.laid (t' := s.toks) (o := .frz { cls := .type "tuple", data := .seq ((its.drop (HT.sIx xs.length 0 lo)).take (HT.sIx xs.length xs.length hi - HT.sIx xs.length 0 lo)).toArray } (.tup (cutV xs lo hi))) (fun b ob q => Heap.get?_push_of_some _ q) (Nat.le_refl _) ?_, rfl, q2 hw _ _ rfl (I.hok.fresh (Nat.le_refl _))⟩
    exact ⟨Heap.get?_push_size _ rfl, Nat.le_trans (cutV_length xs lo hi) hz, _, (r.drop (HT.sIx xs.length 0 lo)).take (HT.sIx xs.length xs.length hi - HT.sIx xs.length 0 lo), IsTup.new _ _⟩
/-- a tuple's display: the object has no dict -/
def tTupX (t : TA) : TE := fun σ H Q => t σ H fun xs H1 => xs.length ≤ sizeLine ∧ ∀ (p : Addr) (o : Obj), o.dict = none → H1 p = none → Q (.ref p) (upd H1 p (.frz o (.tup xs)))
theorem pe_tupX {X : Cx} {es : List Expr} {t : TA} {x1} {pos : Pos} (h : PA X es t) : PE X (.Tuple es x1 pos) (tTupX t) := by
  refine ⟨fun pins s σ H Q I hq => ?_⟩
  refine wpAny_Tuple_spliced (thn (h.run pos pins s σ H _ I hq) fun us s1 ⟨xs, H1, I1, r, z, q⟩ => ⟨by rw [← r.length]; exact z, ?_⟩)
  have hf : H1 s1.heap.objs.size = none := I1.hok.fresh (Nat.le_refl _)
  refine ⟨.ref s1.heap.objs.size, upd H1 s1.heap.objs.size (.frz { cls := .type "tuple", data := .seq us.toArray } (.tup xs)), I1.laid (t' := s1.toks) (fun b u e => Heap.get?_push_of_some _ e) (Nat.le_refl _) ?_, rfl, q _ _ rfl hf⟩
  exact ⟨Heap.get?_push_size _ rfl, z, us, r, ⟨_, Heap.get?_push_size _ rfl, rfl, _, rfl⟩⟩
theorem ae_tup {es : List Expr} {x1} {tr : AAr} (h : AA X es tr) : AE X (.Tuple es x1 pos) fun ρ q => tr ρ fun as ρ1 => ∃ ds, dats as = some ds ∧ ds.length ≤ 16777216 ∧ q (.tuple ds) ρ1 := by
  obtain ⟨_, b1, b2⟩ := h.ex
  refine ⟨_, fun j => pe_tupX (b1 j), fun W ρ F σ H Q q hk S ht k => b2 W ρ F σ H _ _ hk S ht fun as ρ1 F1 vs H1 S1 e1 r1 q1 => ?_⟩
  obtain ⟨ds, e, hl, q1⟩ := q1
  have r := dats_ok r1 e
  refine ⟨by rw [dpAll_len r]; exact hl, fun p o ho hp => ?_⟩
  exact k _ ρ1 _ _ _ (S1.newF hp) (e1.trans (S1.fnew hp)) (.tup (SqT.frz upd_same) (dpAll_mono (S1.fnew hp) r) fun _ => .of ho upd_same) q1
theorem al_lst {es : List Expr} {tr : AAr} (h : AA X es tr) : AL X (.List es pos) fun ρ q => tr ρ fun as ρ1 => ∃ ds, dats as = some ds ∧ ds.length ≤ 16777216 ∧ q ds ρ1 := by
  obtain ⟨_, b1, b2⟩ := h.ex
  refine ⟨_, fun j => pe_lst (b1 j), fun W ρ F σ H Q q hk S ht k => b2 W ρ F σ H _ _ hk S ht fun as ρ1 F1 vs H1 S1 e1 r1 q1 => ?_⟩
  obtain ⟨ds, e, hl, q1⟩ := q1
  have r := dats_ok r1 e
  refine ⟨by rw [dpAll_len r]; exact hl, fun p hp => ?_⟩
  exact k _ ρ1 _ _ _ _ (by rw [del_upd hp]; exact S1) upd_same e1 r q1
end
end OS

/-! OSb: statements, loops, comprehensions, promises and calls over abstract slots. -/
namespace OS
open PySem L2

/-! ### the frame rule: one more object that stands beside -/
def Wd.add (W : Wd) (D : Addr) (o : HO) : Wd := { W with H0 := upd W.H0 D o }
section
variable {W : Wd} {ρ ρ' : List AV} {F F' : Hp} {σ : L2.St} {H H' : Hp} {p D : Addr} {o : HO}
theorem Sto.frame_in (S : Sto W ρ F σ (del H D)) (h : H D = some o) (ht : W.tk ≠ some D) : Sto (W.add D o) ρ F σ H where
  sub := S.sub.trans same_del
  base := S.base
  fr := fun b u e => by
    rcases S.fr b u e with z | z
    · exact .inl z
    · refine .inr ?_
      have nb : b ≠ D := (del_some (S.sub b u e)).1
      show upd W.H0 D o b = none
      rw [upd_ne nb]; exact z
  keep := fun b u e t => by
    rcases upd_some e with ⟨rfl, rfl⟩ | ⟨_, e⟩
    · exact h
    · exact same_del _ _ (S.keep b u e t)
  tkk := fun b u t e => by
    rcases upd_some e with ⟨rfl, rfl⟩ | ⟨_, e⟩
    · exact absurd t ht
    · obtain ⟨o', q⟩ := S.tkk b u t e
      exact ⟨o', same_del _ _ q⟩
  len := S.len
  wt := fun t e => by
    show upd W.H0 D o t ≠ none
    by_cases q : t = D
    · subst q; exact absurd e ht
    · rw [upd_ne q]; exact S.wt t e
  slots := by
    obtain ⟨ad, hs, hp⟩ := S.slots
    refine ⟨ad, fun i x e => ?_, hp⟩
    have q := hs i x e
    have nd : ∀ u, del H D (ad i) = some u → W.H0 (ad i) = none → upd W.H0 D o (ad i) = none := fun u e z => by
      rw [upd_ne (del_some e).1]; exact z
    cases x with
    | no => trivial
    | d x => exact q
    | ml xs => obtain ⟨a, b, c, vs, e1, e2⟩ := q; exact ⟨a, b, nd _ e1 c, vs, (del_some e1).2, e2⟩
    | tank n =>
      obtain ⟨a, b, c, p, q, r, e1, e2⟩ := q
      exact ⟨a, b, c, p, q, r, (del_some e1).2, e2⟩
    | tk3 p q r => obtain ⟨a, b, c, e1⟩ := q; exact ⟨a, b, c, (del_some e1).2⟩
    | dk kvs => obtain ⟨a, b, c, vs, e1, e2⟩ := q; exact ⟨a, b, nd _ e1 c, vs, (del_some e1).2, e2⟩
    | cl T => exact q
theorem Sto.frame_at (S : Sto (W.add D o) ρ F σ H) (ht : W.tk ≠ some D) : H D = some o := S.keep D o (by show upd W.H0 D o D = some o; exact upd_same) ht
theorem Sto.frame_out (S : Sto (W.add D o) ρ F σ H) (h0 : W.H0 D = none) (hf : W.F0 D = none) (ht : W.tk ≠ some D) : Sto W ρ F σ (del H D) := by
  have hD := S.frame_at ht
  have fD : F D = none := by
    cases e : F D with
    | none => rfl
    | some u =>
      rcases S.fr D u e with ⟨u', z⟩ | z
      · have z2 : W.F0 D = some u' := z
        rw [hf] at z2; cases z2
      · have z' : upd W.H0 D o D = none := z
        rw [upd_same] at z'; cases z'
  have back : ∀ {b}, upd W.H0 D o b = none → W.H0 b = none := fun {b} z => by
    by_cases q : b = D
    · subst q; rw [upd_same] at z; cases z
    · rw [upd_ne q] at z; exact z
  refine ⟨fun b u e => ?_, S.base, fun b u e => (S.fr b u e).imp id back, fun b u e t => ?_, fun b u t e => ?_, ?_, S.len, fun t e z => ?_⟩
  · have nb : b ≠ D := fun z => by rw [z, fD] at e; cases e
    rw [del_ne nb]; exact S.sub b u e
  · have nb : b ≠ D := fun z => by rw [z, h0] at e; cases e
    rw [del_ne nb]
    exact S.keep b u (by show upd W.H0 D o b = some u; rw [upd_ne nb]; exact e) t
  · have nb : b ≠ D := fun z => by rw [z, h0] at e; cases e
    rw [del_ne nb]
    exact S.tkk b u t (by show upd W.H0 D o b = some u; rw [upd_ne nb]; exact e)
  · obtain ⟨ad, hs, hp⟩ := S.slots
    refine ⟨ad, fun i x e => ?_, hp⟩
    have q := hs i x e
    have nd : upd W.H0 D o (ad i) = none → ad i ≠ D := fun z y => by rw [y, upd_same] at z; cases z
    cases x with
    | no => trivial
    | d x => exact q
    | ml xs =>
      obtain ⟨a, b, c, vs, e1, e2⟩ := q
      exact ⟨a, b, back c, vs, by rw [del_ne (nd c)]; exact e1, e2⟩
    | tank n =>
      obtain ⟨a, b, c, p, q, r, e1, e2⟩ := q
      have ne : ad i ≠ D := fun y => ht (by rw [← y]; exact c)
      exact ⟨a, b, c, p, q, r, by rw [del_ne ne]; exact e1, e2⟩
    | tk3 p q' r =>
      obtain ⟨a, b, c, e1⟩ := q
      have ne : ad i ≠ D := fun y => ht (by rw [← y]; exact c)
      exact ⟨a, b, c, by rw [del_ne ne]; exact e1⟩
    | dk kvs =>
      obtain ⟨a, b, c, vs, e1, e2⟩ := q
      exact ⟨a, b, back c, vs, by rw [del_ne (nd c)]; exact e1, e2⟩
    | cl T => exact q
  · have nb : t ≠ D := fun y => ht (by rw [← y]; exact e)
    exact S.wt t e (by show upd W.H0 D o t = none; rw [upd_ne nb]; exact z)
/-- a slot is overwritten by data -/
theorem Sto.setd (S : Sto W ρ F σ H) {i : Nat} {v : V} {d : PyData} (r : Dp W.K F v d) : Sto W (ρ.set i (.d d)) F (σ.set i (some v)) H := by
  refine ⟨S.sub, S.base, S.fr, S.keep, S.tkk, ?_, by rw [List.length_set, List.length_set]; exact S.len, S.wt⟩
  obtain ⟨ad, hs, hp⟩ := S.slots
  refine ⟨ad, fun j x e => ?_, fun j k x y e1 e2 v1 v2 ne => ?_⟩
  · by_cases hj : i = j
    · subst hj
      by_cases hi : i < ρ.length
      · rw [List.getElem?_set_self hi] at e; cases e
        rw [List.getElem?_set_self (by rw [S.len]; exact hi)]
        exact ⟨v, rfl, r⟩
      · rw [List.getElem?_eq_none (by rw [List.length_set]; omega)] at e; cases e
    · rw [List.getElem?_set_ne hj] at e ⊢
      exact hs j x e
  · have g : ∀ {j x}, (ρ.set i (.d d))[j]? = some x → vol x = true → ρ[j]? = some x := fun {j x} e v => by
      by_cases hj : i = j
      · subst hj
        by_cases hi : i < ρ.length
        · rw [List.getElem?_set_self hi] at e; cases e; cases v
        · rw [List.getElem?_eq_none (by rw [List.length_set]; omega)] at e; cases e
      · rw [List.getElem?_set_ne hj] at e; exact e
    exact hp j k x y (g e1 v1) (g e2 v2) v1 v2 ne
/-- a slot is forgotten, some of what it holds too -/
theorem Sto.forget (S : Sto W ρ F σ H) {i : Nat} : Sto W (ρ.set i .no) F σ H := by
  refine ⟨S.sub, S.base, S.fr, S.keep, S.tkk, ?_, by rw [List.length_set]; exact S.len, S.wt⟩
  obtain ⟨ad, hs, hp⟩ := S.slots
  have g : ∀ {j x}, (ρ.set i .no)[j]? = some x → x = AV.no ∨ ρ[j]? = some x := fun {j x} e => by
    by_cases hj : i = j
    · subst hj
      by_cases hi : i < ρ.length
      · rw [List.getElem?_set_self hi] at e; cases e; exact .inl rfl
      · rw [List.getElem?_eq_none (by rw [List.length_set]; omega)] at e; cases e
    · rw [List.getElem?_set_ne hj] at e; exact .inr e
  refine ⟨ad, fun j x e => ?_, fun j k x y e1 e2 v1 v2 ne => ?_⟩
  · rcases g e with rfl | e
    · trivial
    · exact hs j x e
  · rcases g e1 with rfl | e1
    · cases v1
    · rcases g e2 with rfl | e2
      · cases v2
      · exact hp j k x y e1 e2 v1 v2 ne
/-- a new list that nobody else holds becomes a slot's changing list -/
theorem Sto.setm (S : Sto W ρ F σ (del H p)) {i : Nat} {vs : List V} {xs : List PyData} (h : H p = some (.lst vs)) (r : DpAll W.K F vs xs) : Sto W (ρ.set i (.ml xs)) F (σ.set i (some (.ref p))) H := by
  have S' := S.grow (Same.refl F) (S.sub.trans same_del) same_del fun b u e => .inl ⟨u, e⟩
  refine ⟨S'.sub, S'.base, S'.fr, S'.keep, S'.tkk, ?_, by rw [List.length_set, List.length_set]; exact S'.len, S.wt⟩
  obtain ⟨ad, hs, hp⟩ := S.slots
  have np : ∀ {j x}, ρ[j]? = some x → vol x = true → ad j ≠ p := fun {j x} e v => by
    have q := hs j x e
    cases x with
    | ml xs => obtain ⟨_, _, _, vs, e1, _⟩ := q; exact (del_some e1).1
    | tank n => obtain ⟨_, _, _, _, _, _, e1, _⟩ := q; exact (del_some e1).1
    | tk3 p' q' r' => obtain ⟨_, _, _, e1⟩ := q; exact (del_some e1).1
    | dk kvs => obtain ⟨_, _, _, vs, e1, _⟩ := q; exact (del_some e1).1
    | no => cases v
    | d x => cases v
    | cl T => cases v
  have fp : F p = none := S.f0 del_same
  have hp0 : W.H0 p = none := S.h0 del_same
  obtain ⟨ad', hs', hp'⟩ := S'.slots
  have lift : ∀ {j x}, ρ[j]? = some x → SlotOk W F H (ad j) (σ[j]?) x := fun {j x} e => by
    have q := hs j x e
    cases x with
    | ml xs => obtain ⟨a, b, c, vs, e1, e2⟩ := q; exact ⟨a, b, c, vs, (del_some e1).2, e2⟩
    | tank n => obtain ⟨a, b, c, p, q, r, e1, e2⟩ := q; exact ⟨a, b, c, p, q, r, (del_some e1).2, e2⟩
    | tk3 p' q' r' => obtain ⟨a, b, c, e1⟩ := q; exact ⟨a, b, c, (del_some e1).2⟩
    | dk kvs => obtain ⟨a, b, c, vs, e1, e2⟩ := q; exact ⟨a, b, c, vs, (del_some e1).2, e2⟩
    | no => trivial
    | d x => exact q
    | cl T => exact q
  have g : ∀ {j x}, i ≠ j → (ρ.set i (.ml xs))[j]? = some x → ρ[j]? = some x := fun {j x} hj e => by rw [List.getElem?_set_ne hj] at e; exact e
  have gi : ∀ {x}, (ρ.set i (.ml xs))[i]? = some x → x = .ml xs ∧ i < ρ.length := fun {x} e => by
    by_cases hi : i < ρ.length
    · rw [List.getElem?_set_self hi] at e; cases e; exact ⟨rfl, hi⟩
    · rw [List.getElem?_eq_none (by rw [List.length_set]; omega)] at e; cases e
  refine ⟨fun j => if j = i then p else ad j, fun j x e => ?_, fun j k x y e1 e2 v1 v2 ne => ?_⟩
  · by_cases hj : j = i
    · subst hj
      obtain ⟨rfl, hi⟩ := gi e
      show SlotOk W F H (if j = j then p else ad j) _ (.ml xs)
      rw [if_pos rfl, List.getElem?_set_self (by rw [S.len]; exact hi)]
      exact ⟨rfl, fp, hp0, vs, h, r⟩
    · show SlotOk W F H (if j = i then p else ad j) _ x
      rw [if_neg hj, List.getElem?_set_ne (Ne.symm hj)]
      exact lift (g (Ne.symm hj) e)
  · show (if j = i then p else ad j) ≠ (if k = i then p else ad k)
    by_cases hj : j = i
    · have hk : k ≠ i := fun z => ne (hj.trans z.symm)
      rw [if_pos hj, if_neg hk]
      exact (np (g (Ne.symm hk) e2) v2).symm
    · rw [if_neg hj]
      by_cases hk : k = i
      · rw [if_pos hk]
        exact np (g (Ne.symm hj) e1) v1
      · rw [if_neg hk]
        exact hp j k x y (g (Ne.symm hj) e1) (g (Ne.symm hk) e2) v1 v2 ne
/-- a slot's changing list is let go: it stands beside as a new list -/
theorem Sto.release (S : Sto W ρ F σ H) {i : Nat} {xs : List PyData} (h : ρ[i]? = some (.ml xs)) :
    ∃ p vs, σ[i]? = some (some (.ref p)) ∧ H p = some (.lst vs) ∧ DpAll W.K F vs xs ∧ Sto W (ρ.set i .no) F σ (del H p) := by
  obtain ⟨ad, hs, hp⟩ := S.slots
  obtain ⟨a, b, c, vs, e1, e2⟩ := hs i _ h
  refine ⟨ad i, vs, a, e1, e2, ?_⟩
  have nb : ∀ {x o}, F x = some o → x ≠ ad i := fun {x o} e z => by rw [z, b] at e; cases e
  have n0 : ∀ {x o}, W.H0 x = some o → x ≠ ad i := fun {x o} e z => by rw [z, c] at e; cases e
  refine ⟨fun x o e => by rw [del_ne (nb e)]; exact S.sub x o e, S.base, S.fr, fun x o e t => by rw [del_ne (n0 e)]; exact S.keep x o e t, fun x o t e => by rw [del_ne (n0 e)]; exact S.tkk x o t e, ?_, by rw [List.length_set]; exact S.len, S.wt⟩
  have g : ∀ {j x}, (ρ.set i .no)[j]? = some x → x = AV.no ∨ (i ≠ j ∧ ρ[j]? = some x) := fun {j x} e => by
    by_cases hj : i = j
    · subst hj
      by_cases hi : i < ρ.length
      · rw [List.getElem?_set_self hi] at e; cases e; exact .inl rfl
      · rw [List.getElem?_eq_none (by rw [List.length_set]; omega)] at e; cases e
    · rw [List.getElem?_set_ne hj] at e; exact .inr ⟨hj, e⟩
  refine ⟨ad, fun j x e => ?_, fun j k x y e1 e2 v1 v2 ne => ?_⟩
  · rcases g e with rfl | ⟨hj, e⟩
    · trivial
    · have q := hs j x e
      have nv : vol x = true → ad j ≠ ad i := fun v => hp j i x _ e h v rfl (Ne.symm hj)
      cases x with
      | ml xs => obtain ⟨a, b, c, vs, e1, e2⟩ := q; exact ⟨a, b, c, vs, by rw [del_ne (nv rfl)]; exact e1, e2⟩
      | tank n => obtain ⟨a, b, c, p, q, r, e1, e2⟩ := q; exact ⟨a, b, c, p, q, r, by rw [del_ne (nv rfl)]; exact e1, e2⟩
      | tk3 p' q' r' => obtain ⟨a, b, c, e1⟩ := q; exact ⟨a, b, c, by rw [del_ne (nv rfl)]; exact e1⟩
      | dk kvs => obtain ⟨a, b, c, vs, e1, e2⟩ := q; exact ⟨a, b, c, vs, by rw [del_ne (nv rfl)]; exact e1, e2⟩
      | no => trivial
      | d x => exact q
      | cl T => exact q
  · rcases g e1 with rfl | ⟨_, e1⟩
    · cases v1
    · rcases g e2 with rfl | ⟨_, e2⟩
      · cases v2
      · exact hp j k x y e1 e2 v1 v2 ne
/-- a slot's changing list is changed -/
theorem Sto.chg (S : Sto W ρ F σ H) {i : Nat} {xs ys : List PyData} (h : ρ[i]? = some (.ml xs)) : ∃ p vs, σ[i]? = some (some (.ref p)) ∧ H p = some (.lst vs) ∧ DpAll W.K F vs xs ∧
    ∀ ws, DpAll W.K F ws ys → Sto W (ρ.set i (.ml ys)) F σ (upd H p (.lst ws)) := by
  obtain ⟨ad, hs, hp⟩ := S.slots
  obtain ⟨a, b, c, vs, e1, e2⟩ := hs i _ h
  refine ⟨ad i, vs, a, e1, e2, fun ws rw' => ?_⟩
  have nb : ∀ {x o}, F x = some o → x ≠ ad i := fun {x o} e z => by rw [z, b] at e; cases e
  have n0 : ∀ {x o}, W.H0 x = some o → x ≠ ad i := fun {x o} e z => by rw [z, c] at e; cases e
  refine ⟨fun x o e => by rw [upd_ne (nb e)]; exact S.sub x o e, S.base, S.fr, fun x o e t => by rw [upd_ne (n0 e)]; exact S.keep x o e t, fun x o t e => by rw [upd_ne (n0 e)]; exact S.tkk x o t e, ?_, by rw [List.length_set]; exact S.len, S.wt⟩
  have hi : i < ρ.length := (List.getElem?_eq_some_iff.mp h).1
  have g : ∀ {j x}, i ≠ j → (ρ.set i (.ml ys))[j]? = some x → ρ[j]? = some x := fun {j x} hj e => by rw [List.getElem?_set_ne hj] at e; exact e
  have gi : ∀ {x}, (ρ.set i (.ml ys))[i]? = some x → x = .ml ys := fun {x} e => by rw [List.getElem?_set_self hi] at e; cases e; rfl
  refine ⟨ad, fun j x e => ?_, fun j k x y e1 e2 v1 v2 ne => ?_⟩
  · by_cases hj : i = j
    · subst hj
      obtain rfl := gi e
      exact ⟨a, b, c, ws, upd_same, rw'⟩
    · have e' := g hj e
      have q := hs j x e'
      have nv : vol x = true → ad j ≠ ad i := fun v => hp j i x _ e' h v rfl (Ne.symm hj)
      cases x with
      | ml xs => obtain ⟨a, b, c, vs, e1, e2⟩ := q; exact ⟨a, b, c, vs, by rw [upd_ne (nv rfl)]; exact e1, e2⟩
      | tank n => obtain ⟨a, b, c, p, q, r, e1, e2⟩ := q; exact ⟨a, b, c, p, q, r, by rw [upd_ne (nv rfl)]; exact e1, e2⟩
      | tk3 p' q' r' => obtain ⟨a, b, c, e1⟩ := q; exact ⟨a, b, c, by rw [upd_ne (nv rfl)]; exact e1⟩
      | dk kvs => obtain ⟨a, b, c, vs, e1, e2⟩ := q; exact ⟨a, b, c, vs, by rw [upd_ne (nv rfl)]; exact e1, e2⟩
      | no => trivial
      | d x => exact q
      | cl T => exact q
  · have up : ∀ {j x}, (ρ.set i (.ml ys))[j]? = some x → vol x = true → ∃ x', ρ[j]? = some x' ∧ vol x' = true := fun {j x} e v => by
      by_cases hj : i = j
      · subst hj; exact ⟨_, h, rfl⟩
      · exact ⟨x, g hj e, v⟩
    obtain ⟨x', f1, w1⟩ := up e1 v1
    obtain ⟨y', f2, w2⟩ := up e2 v2
    exact hp j k x' y' f1 f2 w1 w2 ne
end

/-! ### statements -/
structure AEnds where
  nx : List AV → Prop
  rt : PyData → List AV → Prop := fun _ _ => False
  ro : List PyData → List AV → Prop := fun _ _ => False
  bk : List AV → Prop := fun _ => False
  ct : List AV → Prop := fun _ => False
abbrev ASt := AEnds → List AV → Prop
structure EndsOk (X : Fam) (W : Wd) (F : Hp) (D : Ends) (A : AEnds) : Prop where
  nx : ∀ ρ' F' σ' H', Sto W ρ' F' σ' H' → Same F F' → A.nx ρ' → D.nx σ' H'
  bk : ∀ ρ' F' σ' H', Sto W ρ' F' σ' H' → Same F F' → A.bk ρ' → D.bk σ' H'
  ct : ∀ ρ' F' σ' H', Sto W ρ' F' σ' H' → Same F F' → A.ct ρ' → D.ct σ' H'
  rt : ∀ d ρ' F' σ' v H', Sto W ρ' F' σ' H' → Same F F' → Dp X.K F' v d → A.rt d ρ' → D.rt v H'
  ro : ∀ xs ρ' F' σ' p vs H', Sto W ρ' F' σ' (del H' p) → H' p = some (.lst vs) → Same F F' → DpAll X.K F' vs xs → A.ro xs ρ' → D.rt (.ref p) H'
theorem EndsOk.mono {X : Fam} {W : Wd} {F F' : Hp} {D : Ends} {A : AEnds} (E : EndsOk X W F D A) (e : Same F F') : EndsOk X W F' D A :=
  ⟨fun a b c d s f => E.nx a b c d s (e.trans f), fun a b c d s f => E.bk a b c d s (e.trans f), fun a b c d s f => E.ct a b c d s (e.trans f), fun a b c d e' h s f => E.rt a b c d e' h s (e.trans f), fun a b c d p q h s z f => E.ro a b c d p q h s z (e.trans f)⟩
structure AS (X : Fam) (st : Stmt) (t : ASt) : Prop where
  ex : ∃ ts : TS, (∀ i, PS (X.X i) st ts) ∧ ∀ (W : Wd) (ρ : List AV) (F : Hp) (σ : L2.St) (H : Hp) (D : Ends) (A : AEnds), W.K = X.K → Sto W ρ F σ H → t A ρ → EndsOk X W F D A → ts D σ H
structure ASs (X : Fam) (st : List Stmt) (t : ASt) : Prop where
  ex : ∃ ts : TS, (∀ i, PSs (X.X i) st ts) ∧ ∀ (W : Wd) (ρ : List AV) (F : Hp) (σ : L2.St) (H : Hp) (D : Ends) (A : AEnds), W.K = X.K → Sto W ρ F σ H → t A ρ → EndsOk X W F D A → ts D σ H

section
variable {X : Fam} {st : Stmt} {rest : List Stmt} {t u : ASt} {e : Expr} {te : ATr} {pos : Pos}
theorem ass_nil : ASs X [] fun A ρ => A.nx ρ := ⟨_, fun _ => pss_nil, fun W ρ F σ H D A _ S ht E => E.nx ρ F σ H S (Same.refl F) ht⟩
def aSeq (t u : ASt) : ASt := fun A ρ => t { A with nx := u A } ρ
theorem ass_cons (h1 : AS X st t) (h2 : ASs X rest u) : ASs X (st :: rest) (aSeq t u) := by
  obtain ⟨_, a1, a2⟩ := h1.ex
  obtain ⟨_, b1, b2⟩ := h2.ex
  refine ⟨_, fun j => pss_cons (a1 j) (b1 j), fun W ρ F σ H D A hk S ht E => ?_⟩
  exact a2 W ρ F σ H _ { A with nx := u A } hk S ht ⟨fun ρ' F' σ' H' S' e q => b2 W ρ' F' σ' H' D A hk S' q (E.mono e), E.bk, E.ct, E.rt, E.ro⟩
theorem ass_one (h1 : AS X st t) : ASs X [st] t := let ⟨_, a1, a2⟩ := h1.ex; ⟨_, fun j => pss_one (a1 j), a2⟩
theorem ass_never {sts : List Stmt} : ASs X sts fun _ _ => False := ⟨_, fun _ => pss_never, fun _ _ _ _ _ _ _ _ _ h _ => h.elim⟩
theorem as_pass : AS X (.Pass pos) fun A ρ => A.nx ρ := ⟨_, fun _ => ps_pass, fun W ρ F σ H D A _ S ht E => E.nx ρ F σ H S (Same.refl F) ht⟩
theorem as_break : AS X (.Break pos) fun A ρ => A.bk ρ := ⟨_, fun _ => ps_break, fun W ρ F σ H D A _ S ht E => E.bk ρ F σ H S (Same.refl F) ht⟩
theorem as_cont : AS X (.Continue pos) fun A ρ => A.ct ρ := ⟨_, fun _ => ps_continue, fun W ρ F σ H D A _ S ht E => E.ct ρ F σ H S (Same.refl F) ht⟩
theorem as_expr (he : AE X e te) (hs : ∀ j, swapsWith e none pos.line (X.X j).env = pure false := by intro _; rfl) : AS X (.Expr e pos) fun A ρ => te ρ fun _ ρ1 => A.nx ρ1 := by
  obtain ⟨_, a1, a2⟩ := he.ex
  exact ⟨_, fun j => ps_expr (a1 j) (hs j), fun W ρ F σ H D A hk S ht E => a2 W ρ F σ H _ _ hk S ht fun d ρ' F' v H' S' e r q => E.nx ρ' F' σ H' S' e q⟩
theorem as_ret (he : AE X e te) : AS X (.Return (some e) pos) fun A ρ => te ρ A.rt := by
  obtain ⟨_, a1, a2⟩ := he.ex
  exact ⟨_, fun j => ps_ret (a1 j), fun W ρ F σ H D A hk S ht E => a2 W ρ F σ H _ _ hk S ht fun d ρ' F' v H' S' e r q => E.rt d ρ' F' σ v H' S' e r q⟩
theorem as_retL {tl : ALr} (he : AL X e tl) : AS X (.Return (some e) pos) fun A ρ => tl ρ A.ro := by
  obtain ⟨_, a1, a2⟩ := he.ex
  exact ⟨_, fun j => ps_ret (a1 j), fun W ρ F σ H D A hk S ht E => a2 W ρ F σ H _ _ hk S ht fun xs ρ' F' p vs H' S' hp e r q => E.ro xs ρ' F' σ p vs H' S' hp e r q⟩
theorem as_retN : AS X (.Return none pos) fun A ρ => A.rt .none ρ :=
  ⟨_, fun _ => ps_retN, fun W ρ F σ H D A hk S ht E => E.rt _ ρ F σ _ H S (Same.refl F) .non ht⟩
/-- return of a slot's changing list -/
theorem as_retM (i : Nat) {x : Str} {p' : Pos} (hN : ∀ j, (X.X j).N[i]? = some x := by intro _; rfl) (hv : ∀ j, Vis (X.X j).env.scope x := by intro _; first | exact Or.inl rfl | exact Or.inr (Or.inl rfl) | exact Or.inr (Or.inr rfl)) (hd : (x == ("__debug__" : Str)) = false := by decide)
    (hcd : (x == ("__classdict__" : Str)) = false := by decide) : AS X (.Return (some (.Name x p')) pos) fun A ρ => ∃ xs, ρ[i]? = some (.ml xs) ∧ A.ro xs (ρ.set i .no) := by
  refine ⟨_, fun j => ps_ret (pe_var (hN j) (hv j) hd hcd), fun W ρ F σ H D A hk S ht E => ?_⟩
  obtain ⟨xs, h, q⟩ := ht
  obtain ⟨p, vs, h1, h2, h3, S'⟩ := S.release h
  exact ⟨_, h1, E.ro xs _ F σ p vs H S' h2 (Same.refl F) (hk ▸ h3) q⟩
theorem as_if {c : Expr} {a b : List Stmt} {tc : ATt} (hc : AT X c tc) (ha : ASs X a t) (hb : ASs X b u) : AS X (.If c a b pos) fun A ρ => tc ρ fun k ρ1 => (k = true → t A ρ1) ∧ (k = false → u A ρ1) := by
  obtain ⟨_, c1, c2⟩ := hc.ex
  obtain ⟨_, a1, a2⟩ := ha.ex
  obtain ⟨_, b1, b2⟩ := hb.ex
  refine ⟨_, fun j => ps_if (c1 j) (a1 j) (b1 j), fun W ρ F σ H D A hk S ht E => c2 W ρ F σ H _ _ hk S ht fun c ρ1 F1 H1 S1 e1 q1 => ?_⟩
  cases c with
  | true => rw [if_pos rfl]; exact a2 W ρ1 F1 σ H1 D A hk S1 (q1.1 rfl) (E.mono e1)
  | false => rw [if_neg Bool.false_ne_true]; exact b2 W ρ1 F1 σ H1 D A hk S1 (q1.2 rfl) (E.mono e1)

/-! targets -/
abbrev AGt := PyData → List AV → (List AV → Prop) → Prop
abbrev AGts := List PyData → List AV → (List AV → Prop) → Prop
structure AG (X : Fam) (tg : Expr) (g : AGt) : Prop where
  ex : ∃ tg' : TG, (∀ i, PG (X.X i) tg tg') ∧ (∀ (W : Wd) (ρ : List AV) (F : Hp) (σ : L2.St) (H : Hp) (d : PyData) (v : V) (Q : L2.St → Hp → Prop) (q : List AV → Prop), W.K = X.K → Sto W ρ F σ H → Dp X.K F v d → g d ρ q →
    (∀ ρ' F' σ' H', Sto W ρ' F' σ' H' → Same F F' → q ρ' → Q σ' H') → tg' v σ H Q)
structure AGs (X : Fam) (tg : List Expr) (g : AGts) : Prop where
  ex : ∃ tg' : TGs, (∀ i, PGs (X.X i) tg tg') ∧ ∀ (W : Wd) (ρ : List AV) (F : Hp) (σ : L2.St) (H : Hp) (d : List PyData) (v : List V) (Q : L2.St → Hp → Prop) (q : List AV → Prop), W.K = X.K → Sto W ρ F σ H → DpAll X.K F v d → g d ρ q →
    (∀ ρ' F' σ' H', Sto W ρ' F' σ' H' → Same F F' → q ρ' → Q σ' H') → tg' v σ H Q
def agN (i : Nat) : AGt := fun d ρ q => q (ρ.set i (.d d))
theorem ag_name (i : Nat) {x : Str} (hN : X.X0.N.Nodup) (hi : X.X0.N[i]? = some x := by rfl) (hx : ∀ j, Loc (X.X j).env.scope x := by intro _; first | exact Or.inl rfl | exact Or.inr rfl) (hf : ∀ j, (X.X j).fn x = true ∨ (X.X j).env.scope.names.lookup x = some .local := by intro _; first | exact .inl rfl | exact .inr rfl | assumption) : AG X (.Name x pos) (agN i) :=
  ⟨_, fun j => pg_name (by rw [X.hN j]; exact hN) (by rw [X.hN j]; exact hi) (hx j) (hf j), fun W ρ F σ H d v Q q hk S r ht k => k _ F _ H (S.setd (hk ▸ r)) (Same.refl F) ht⟩
theorem ags_nil : AGs X [] fun d ρ q => d = [] ∧ q ρ := by
  refine ⟨_, fun _ => pgs_nil, fun W ρ F σ H d v Q q hk S r ht k => ?_⟩
  obtain ⟨rfl, ht⟩ := ht
  cases r
  exact ⟨rfl, k _ F _ H S (Same.refl F) ht⟩
theorem ags_cons {es : List Expr} {g : AGt} {gs : AGts} (h1 : AG X e g) (h2 : AGs X es gs) (hs : ∀ j, (assignEach (e :: es) (X.X j).env).map (·.2) = assign e (X.X j).env :: (assignEach es (X.X j).env).map (·.2) := by intro _; rfl) :
    AGs X (e :: es) fun d ρ q => ∃ d1 dr, d = d1 :: dr ∧ g d1 ρ fun ρ1 => gs dr ρ1 q := by
  obtain ⟨_, a1, a2⟩ := h1.ex
  obtain ⟨_, b1, b2⟩ := h2.ex
  refine ⟨_, fun j => pgs_cons (a1 j) (b1 j) (hs j), fun W ρ F σ H d v Q q hk S r ht k => ?_⟩
  obtain ⟨d1, dr, rfl, ht⟩ := ht
  cases r with
  | cons r rr =>
    refine ⟨_, _, rfl, a2 W ρ F σ H d1 _ _ _ hk S r ht fun ρ1 F1 σ1 H1 S1 e1 q1 => ?_⟩
    exact b2 W ρ1 F1 σ1 H1 dr _ _ _ hk S1 (dpAll_mono e1 rr) q1 fun ρ2 F2 σ2 H2 S2 e2 q2 => k ρ2 F2 σ2 H2 S2 (e1.trans e2) q2
theorem ag_tup {es : List Expr} {k : Nat} {gs : AGts} {n : Nat} (hc : X.X0.calm = true) (h : AGs X es gs) (hn : ∀ j, (assignEach es (X.X j).env).length = n := by intro _; rfl) (hst : ∀ j, (assignEach es (X.X j).env).findIdx? (·.1) = none := by intro _; rfl) :
    AG X (.Tuple es k pos) fun d ρ q => ∃ ds, d = .tuple ds ∧ ds.length = n ∧ gs ds ρ q := by
  obtain ⟨_, a1, a2⟩ := h.ex
  refine ⟨_, fun j => by have q := pg_tup (by rw [X.hc j]; exact hc) (a1 j) (hn j) (hst j) (k := k) (pos := pos); rw [X.hK j] at q; exact q, fun W ρ F σ H d v Q q hk S r ht k => ?_⟩
  obtain ⟨ds, rfl, hl, ht⟩ := ht
  cases r with
  | tup hq ha _ => exact ⟨_, _, rfl, Evl.ex_t S.sub hq, by rw [dpAll_len ha]; exact hl, a2 W ρ F σ H ds _ _ _ hk S ha ht k⟩
theorem as_asg {tg : Expr} {g : AGt} (he : AE X e te) (hg : AG X tg g) (hs : ∀ j, swapsWithSole [tg] e pos.line (X.X j).env = pure false := by intro _; rfl) (hw : ∀ j, swappedStores [tg] e (X.X j).env = pure none := by intro _; rfl)
    (h1 : ∀ j, (assignEach [tg] (X.X j).env).map (·.2) = [assign tg (X.X j).env] := by intro _; rfl) : AS X (.Assign [tg] e pos) fun A ρ => te ρ fun d ρ1 => g d ρ1 A.nx := by
  obtain ⟨_, a1, a2⟩ := he.ex
  obtain ⟨_, b1, b2⟩ := hg.ex
  exact ⟨_, fun j => ps_asg (a1 j) (b1 j) (hs j) (hw j) (h1 j), fun W ρ F σ H D A hk S ht E => a2 W ρ F σ H _ _ hk S ht fun d ρ' F' v H' S' e r q => b2 W ρ' F' σ H' d v _ _ hk S' r q fun ρ2 F2 σ2 H2 S2 e2 q2 => E.nx ρ2 F2 σ2 H2 S2 (e.trans e2) q2⟩
/-- name = e -/
theorem as_set (i : Nat) {x : Str} {p' : Pos} (hN : X.X0.N.Nodup) (he : AE X e te) (hi : X.X0.N[i]? = some x := by rfl) (hx : ∀ j, Loc (X.X j).env.scope x := by intro _; first | exact Or.inl rfl | exact Or.inr rfl) (hs : ∀ j, swapsWith e (some (.Name x p')) pos.line (X.X j).env = pure false := by intro _; rfl) (hf : ∀ j, (X.X j).fn x = true ∨ (X.X j).env.scope.names.lookup x = some .local := by intro _; first | exact .inl rfl | exact .inr rfl | assumption) :
    AS X (.Assign [.Name x p'] e pos) fun A ρ => te ρ fun d ρ1 => A.nx (ρ1.set i (.d d)) := by
  obtain ⟨_, a1, a2⟩ := he.ex
  exact ⟨_, fun j => ps_set (by rw [X.hN j]; exact hN) (by rw [X.hN j]; exact hi) (hx j) (a1 j) (hs j) (hf j), fun W ρ F σ H D A hk S ht E => a2 W ρ F σ H _ _ hk S ht fun d ρ' F' v H' S' e r q => E.nx _ F' _ H' (S'.setd (hk ▸ r)) e q⟩
/-- name = a new list, that will change -/
theorem as_setM (i : Nat) {x : Str} {p' : Pos} {tl : ALr} (hN : X.X0.N.Nodup) (he : AL X e tl) (hi : X.X0.N[i]? = some x := by rfl) (hx : ∀ j, Loc (X.X j).env.scope x := by intro _; first | exact Or.inl rfl | exact Or.inr rfl) (hs : ∀ j, swapsWith e (some (.Name x p')) pos.line (X.X j).env = pure false := by intro _; rfl) (hf : ∀ j, (X.X j).fn x = true ∨ (X.X j).env.scope.names.lookup x = some .local := by intro _; first | exact .inl rfl | exact .inr rfl | assumption) :
    AS X (.Assign [.Name x p'] e pos) fun A ρ => tl ρ fun xs ρ1 => A.nx (ρ1.set i (.ml xs)) := by
  obtain ⟨_, a1, a2⟩ := he.ex
  exact ⟨_, fun j => ps_set (by rw [X.hN j]; exact hN) (by rw [X.hN j]; exact hi) (hx j) (a1 j) (hs j) (hf j), fun W ρ F σ H D A hk S ht E => a2 W ρ F σ H _ _ hk S ht fun xs ρ' F' p vs H' S' hp e r q => E.nx _ F' _ H' (S'.setm hp (hk ▸ r)) e q⟩

/-! ### what is walked -/
def YOk (F H F' H' : Hp) : Prop := (F' = F ∧ H' = H) ∨ ∃ T o, H T = none ∧ F' = upd F T o ∧ H' = upd H T o
/-- the walk J yields the data ds, whatever is laid meanwhile -/
structure ItOk (K : KW) (J : It) (ds : List PyData) (F1 : Hp) : Prop where
  go : ∀ i F H, Same F1 F → Same F H → i < ds.length → J.go i H
  stop : ∀ i F H, Same F1 F → Same F H → i = ds.length → J.stop i H
  yld : ∀ i F H x H', Same F1 F → Same F H → i < ds.length → J.yld i H x H' → ∃ d F', ds[i]? = some d ∧ YOk F H F' H' ∧ Dp K F' x d
abbrev AIt := List AV → (List PyData → List AV → Prop) → Prop
structure AI (X : Fam) (tg iter : Expr) (ti : AIt) : Prop where
  ex : ∃ wi : TI, (∀ i, PI (X.X i) tg iter wi) ∧ ∀ (W : Wd) (ρ : List AV) (F : Hp) (σ : L2.St) (H : Hp) (R : It → Hp → Prop) (q : List PyData → List AV → Prop), W.K = X.K → Sto W ρ F σ H → ti ρ q →
    (∀ ds ρ' F' H' J, Sto W ρ' F' σ H' → Same F F' → ItOk X.K J ds F' → q ds ρ' → R J H') → wi σ H R
theorem itOk_list {K : KW} {a : Addr} {F : Hp} {vs : List V} {ds : List PyData} (h : SqL K F a vs) (r : DpAll K F vs ds) : ItOk K (Itl K a) ds F where
  go := fun i F1 H e1 e2 hi => by
    obtain ⟨v, h1, _⟩ := dpAll_get r (List.getElem?_eq_getElem hi)
    exact ⟨vs, v, Evl.ex_l (e1.trans e2) h, h1⟩
  stop := fun i F1 H e1 e2 hi0 => have hi := Nat.le_of_eq hi0.symm; ⟨vs, Evl.ex_l (e1.trans e2) h, by rw [dpAll_len r]; exact hi⟩
  yld := fun i F1 H x H' e1 e2 hi y => by
    obtain ⟨rfl, y⟩ := y
    obtain ⟨v, h1, h2⟩ := dpAll_get r (List.getElem?_eq_getElem hi)
    have := y vs (Evl.ex_l (e1.trans e2) h)
    rw [h1] at this; cases this
    exact ⟨_, F1, List.getElem?_eq_getElem hi, .inl ⟨rfl, rfl⟩, dp_mono e1 h2⟩
theorem itOk_tup {K : KW} {a : Addr} {F : Hp} {vs : List V} {ds : List PyData} (h : SqT K F a vs) (r : DpAll K F vs ds) : ItOk K (Itt K a) ds F where
  go := fun i F1 H e1 e2 hi => by
    obtain ⟨v, h1, _⟩ := dpAll_get r (List.getElem?_eq_getElem hi)
    exact ⟨vs, v, Evl.ex_t (e1.trans e2) h, h1⟩
  stop := fun i F1 H e1 e2 hi0 => have hi := Nat.le_of_eq hi0.symm; ⟨vs, Evl.ex_t (e1.trans e2) h, by rw [dpAll_len r]; exact hi⟩
  yld := fun i F1 H x H' e1 e2 hi y => by
    obtain ⟨rfl, y⟩ := y
    obtain ⟨v, h1, h2⟩ := dpAll_get r (List.getElem?_eq_getElem hi)
    have := y vs (Evl.ex_t (e1.trans e2) h)
    rw [h1] at this; cases this
    exact ⟨_, F1, List.getElem?_eq_getElem hi, .inl ⟨rfl, rfl⟩, dp_mono e1 h2⟩
theorem ai_list {tg : Expr} (he : AE X e te) : AI X tg e fun ρ q => te ρ fun d ρ1 => ∃ ds, d = .list ds ∧ q ds ρ1 := by
  obtain ⟨_, a1, a2⟩ := he.ex
  refine ⟨_, fun j => by have q := pi_list (tg := tg) (a1 j); rw [X.hK j] at q; exact q, fun W ρ F σ H R q hk S ht k => a2 W ρ F σ H _ _ hk S ht fun d ρ' F' v H' S' e r q1 => ?_⟩
  obtain ⟨ds, rfl, q1⟩ := q1
  cases r with
  | lst hs ha => exact ⟨_, rfl, ⟨_, Evl.ex_l S'.sub hs⟩, k ds ρ' F' H' _ S' e (itOk_list hs ha) q1⟩
theorem ai_tup {tg : Expr} (he : AE X e te) : AI X tg e fun ρ q => te ρ fun d ρ1 => ∃ ds, d = .tuple ds ∧ q ds ρ1 := by
  obtain ⟨_, a1, a2⟩ := he.ex
  refine ⟨_, fun j => by have q := pi_tup (tg := tg) (a1 j); rw [X.hK j] at q; exact q, fun W ρ F σ H R q hk S ht k => a2 W ρ F σ H _ _ hk S ht fun d ρ' F' v H' S' e r q1 => ?_⟩
  obtain ⟨ds, rfl, q1⟩ := q1
  cases r with
  | tup hs ha _ => exact ⟨_, rfl, ⟨_, Evl.ex_t S'.sub hs⟩, k ds ρ' F' H' _ S' e (itOk_tup hs ha) q1⟩
def rng (lo : Int) (n : Nat) : List PyData := (List.range n).map fun (i : Nat) => .int (lo + (i : Int))
theorem itOk_rng {K : KW} {F : Hp} {lo : Int} {n : Nat} : ItOk K (Itr lo n) (rng lo n) F where
  go := fun i F1 H e1 e2 hi => by show i < n; simpa [rng] using hi
  stop := fun i F1 H e1 e2 hi0 => have hi := Nat.le_of_eq hi0.symm; by show n ≤ i; simpa [rng] using hi
  yld := fun i F1 H x H' e1 e2 hi y => by
    obtain ⟨rfl, rfl⟩ := y
    have hi' : i < n := by simpa [rng] using hi
    exact ⟨.int (lo + (i : Int)), F1, by simp [rng, hi'], .inl ⟨rfl, rfl⟩, .int _⟩
theorem ai_rng1 {tg a : Expr} {ta : AAr} {p : Pos} (hg : ∀ j, Gl (X.X j) "range") (hm : X.X0.mg "range" = none) (ha : AA X [a] ta) (hs : ∀ j, starEach [a] (X.X j).env = [(false, eval a (X.X j).env)] := by intro _; rfl) :
    AI X tg (.Call (.Name "range" p) [a] [] pos) fun ρ q => ta ρ fun as ρ1 => ∃ j : Int, as = [.d (.int j)] ∧ -(2 ^ 62) ≤ j ∧ j < 2 ^ 62 ∧ q (rng 0 j.toNat) ρ1 := by
  obtain ⟨_, a1, a2⟩ := ha.ex
  refine ⟨_, fun j => pi_range1 (hg j) (by rw [X.hm j]; exact hm) (a1 j) (hs j), fun W ρ F σ H R q hk S ht k => a2 W ρ F σ H _ _ hk S ht fun as ρ' F' vs H' S' e r q1 => ?_⟩
  obtain ⟨j, rfl, l1, l2, q1⟩ := q1
  cases r with
  | cons r rr =>
    cases rr
    cases r
    exact ⟨j, rfl, l1, l2, k _ ρ' F' H' _ S' e itOk_rng q1⟩
theorem ai_rng2 {tg a b : Expr} {ta : AAr} {p : Pos} (hg : ∀ j, Gl (X.X j) "range") (hm : X.X0.mg "range" = none) (ha : AA X [a, b] ta) (hs : ∀ j, starEach [a, b] (X.X j).env = [(false, eval a (X.X j).env), (false, eval b (X.X j).env)] := by intro _; rfl) (hs2 : ∀ j, starEach [b] (X.X j).env = [(false, eval b (X.X j).env)] := by intro _; rfl) :
    AI X tg (.Call (.Name "range" p) [a, b] [] pos) fun ρ q => ta ρ fun as ρ1 => ∃ i j : Int, as = [.d (.int i), .d (.int j)] ∧ (-(2 ^ 62) ≤ i ∧ i < 2 ^ 62 ∧ -(2 ^ 62) ≤ j ∧ j < 2 ^ 62) ∧ q (rng i (j - i).toNat) ρ1 := by
  obtain ⟨_, a1, a2⟩ := ha.ex
  refine ⟨_, fun j => pi_range2 (hg j) (by rw [X.hm j]; exact hm) (a1 j) (hs j) (hs2 j), fun W ρ F σ H R q hk S ht k => a2 W ρ F σ H _ _ hk S ht fun as ρ' F' vs H' S' e r q1 => ?_⟩
  obtain ⟨i, j, rfl, l, q1⟩ := q1
  cases r with
  | cons r rr =>
    cases rr with
    | cons r' rr =>
      cases rr
      cases r
      cases r'
      exact ⟨i, j, rfl, l, k _ ρ' F' H' _ S' e itOk_rng q1⟩
/-- enumerate of a list -/
def enumD (ds : List PyData) : List PyData := ds.mapIdx fun i d => .tuple [.int (i : Nat), d]
theorem itOk_enum {K : KW} {a : Addr} {F : Hp} {vs : List V} {ds : List PyData} (h : SqL K F a vs) (r : DpAll K F vs ds) : ItOk K (Ite K a) (enumD ds) F where
  go := fun i F1 H e1 e2 hi => by
    have hi : i < ds.length := by simpa [enumD] using hi
    obtain ⟨v, h1, _⟩ := dpAll_get r (List.getElem?_eq_getElem hi)
    exact ⟨vs, v, Evl.ex_l (e1.trans e2) h, h1⟩
  stop := fun i F1 H e1 e2 hi0 => have hi := Nat.le_of_eq hi0.symm; ⟨vs, Evl.ex_l (e1.trans e2) h, by rw [dpAll_len r]; simpa [enumD] using hi⟩
  yld := fun i F1 H x H' e1 e2 hi y => by
    have hi : i < ds.length := by simpa [enumD] using hi
    obtain ⟨T, z, rfl, hT, rfl, y⟩ := y
    obtain ⟨v, h1, h2⟩ := dpAll_get r (List.getElem?_eq_getElem hi)
    have ez := y vs (Evl.ex_l (e1.trans e2) h)
    rw [h1] at ez
    have ez : v = z := Option.some.inj ez
    subst ez
    have fT : F1 T = none := e2.free hT
    exact ⟨.tuple [.int (i : Nat), ds[i]], upd F1 T (.tup [.int (i : Nat), v]), by simp [enumD, hi], .inr ⟨T, _, hT, rfl, rfl⟩, .tup (SqT.of upd_same) (.cons (.int _) (.cons (dp_mono (e1.trans (same_upd fT)) h2) .nil)) fun z => absurd (show false = true from z) Bool.false_ne_true⟩
theorem ai_enum {elts : List Expr} {kk : Nat} {p tpos : Pos} {ta : AAr} (hg : ∀ j, Gl (X.X j) "enumerate") (hm : X.X0.mg "enumerate" = none) (ha : AA X [e] ta) (hs : ∀ j, starEach [e] (X.X j).env = [(false, eval e (X.X j).env)] := by intro _; rfl) :
    AI X (.Tuple elts kk tpos) (.Call (.Name "enumerate" p) [e] [] pos) fun ρ q => ta ρ fun as ρ1 => ∃ ds, as = [.d (.list ds)] ∧ q (enumD ds) ρ1 := by
  obtain ⟨_, a1, a2⟩ := ha.ex
  refine ⟨_, fun j => by have q := pi_enum (kk := kk) (tpos := tpos) (elts := elts) (p := p) (pos := pos) (hg j) (by rw [X.hm j]; exact hm) (a1 j) (hs j); rw [X.hK j] at q; exact q, fun W ρ F σ H R q hk S ht k => a2 W ρ F σ H _ _ hk S ht fun as ρ' F' vs H' S' e r q1 => ?_⟩
  obtain ⟨ds, rfl, q1⟩ := q1
  cases r with
  | cons r rr =>
    cases rr
    cases r with
    | lst hs ha => exact ⟨_, _, rfl, Evl.ex_l S'.sub hs, k _ ρ' F' H' _ S' e (itOk_enum hs ha) q1⟩
/-- a text, sign by sign -/
def signs (x : Str) : List PyData := x.cps.toList.map fun c => .str ⟨#[c]⟩
theorem itOk_str {K : KW} {F : Hp} {x : Str} : ItOk K (Its x) (signs x) F where
  go := fun i F1 H e1 e2 hi => by show i < x.cps.size; simpa [signs] using hi
  stop := fun i F1 H e1 e2 hi0 => have hi := Nat.le_of_eq hi0.symm; by show x.cps.size ≤ i; simpa [signs] using hi
  yld := fun i F1 H y H' e1 e2 hi h => by
    obtain ⟨rfl, c, hc, rfl⟩ := h
    exact ⟨.str ⟨#[c]⟩, F1, by simp [signs, hc], .inl ⟨rfl, rfl⟩, .str _⟩
theorem ai_str {tg : Expr} (he : AE X e te) : AI X tg e fun ρ q => te ρ fun d ρ1 => ∃ x, d = .str x ∧ q (signs x) ρ1 := by
  obtain ⟨_, a1, a2⟩ := he.ex
  refine ⟨_, fun j => pi_str (a1 j), fun W ρ F σ H R q hk S ht k => a2 W ρ F σ H _ _ hk S ht fun d ρ' F' v H' S' e r q1 => ?_⟩
  obtain ⟨x, rfl, q1⟩ := q1
  cases r
  exact ⟨_, rfl, k _ ρ' F' H' _ S' e itOk_str q1⟩

theorem YOk.sto {W : Wd} {ρ : List AV} {F F' H H' : Hp} {σ : L2.St} (y : YOk F H F' H') (S : Sto W ρ F σ H) : Sto W ρ F' σ H' ∧ Same F F' := by
  rcases y with ⟨rfl, rfl⟩ | ⟨T, o, hT, rfl, rfl⟩
  · exact ⟨S, Same.refl _⟩
  · exact ⟨S.newF hT, S.fnew hT⟩
/-- for -/
def aFor (ti : AIt) (g : AGt) (tb : ASt) : ASt := fun A ρ => ti ρ fun ds ρ1 => ∃ I : Nat → List AV → Prop, I 0 ρ1 ∧ (∀ i d ρ2, ds[i]? = some d → I i ρ2 → g d ρ2 fun ρ3 => tb { A with nx := I (i + 1), ct := I (i + 1), bk := A.nx } ρ3) ∧ ∀ ρ2, I ds.length ρ2 → A.nx ρ2
theorem as_for {tg iter : Expr} {body : List Stmt} {ti : AIt} {g : AGt} {tb : ASt} (hp : ∀ j, PassesOwn (model (X.X j).prog (X.X j).w) (X.X j).A (X.X j).env (X.X j).xe) (hc : X.X0.calm = true) (hi : AI X tg iter ti) (hg : AG X tg g) (hb : ASs X body tb)
    (hs : ∀ j x, foldedSetIterable iter (X.X j).env x = pure x := by intro _ _; rfl) : AS X (.For tg iter body [] pos) (aFor ti g tb) := by
  obtain ⟨_, a1, a2⟩ := hi.ex
  obtain ⟨_, g1, g2⟩ := hg.ex
  obtain ⟨_, b1, b2⟩ := hb.ex
  refine ⟨_, fun j => ps_for (hp j) (by rw [X.hc j]; exact hc) (a1 j) (g1 j) (b1 j) (hs j), fun W ρ F σ H D A hk S ht E => a2 W ρ F σ H _ _ hk S ht fun ds ρ1 F1 H1 J S1 e1 It q1 => ?_⟩
  obtain ⟨I, i0, turn, done⟩ := q1
  refine ⟨fun i m σ' H' => m = ds.length - i ∧ i ≤ ds.length ∧ ∃ ρ2 F2, Sto W ρ2 F2 σ' H' ∧ Same F1 F2 ∧ I i ρ2, ⟨_, rfl, Nat.zero_le _, ρ1, F1, S1, Same.refl _, i0⟩, ?_⟩
  rintro i m σ' H' ⟨rfl, hi, ρ2, F2, S2, e2, p2⟩
  by_cases hlt : i < ds.length
  · refine .inr ⟨It.go i F2 H' e2 S2.sub hlt, fun σ' H' => ∃ ρ2 F2, Sto W ρ2 F2 σ' H' ∧ Same F1 F2 ∧ I (i + 1) ρ2, fun σ3 H3 z => ⟨ds.length - (i + 1), by omega, rfl, hlt, z⟩, fun x H3 y => ?_⟩
    obtain ⟨d, F3, hd, y3, r3⟩ := It.yld i F2 H' x H3 e2 S2.sub hlt y
    obtain ⟨S3, e3⟩ := y3.sto S2
    refine g2 W ρ2 F3 σ' H3 d x _ _ hk S3 r3 (turn i d ρ2 hd p2) fun ρ4 F4 σ4 H4 S4 e4 q4 => ?_
    refine b2 W ρ4 F4 σ4 H4 _ _ hk S4 q4 ⟨fun ρ' F' σ' H' S' e q => ⟨ρ', F', S', ((e2.trans e3).trans e4).trans e, q⟩, fun ρ' F' σ' H' S' e q => ?_, fun ρ' F' σ' H' S' e q => ⟨ρ', F', S', ((e2.trans e3).trans e4).trans e, q⟩, fun d ρ' F' σ' v H' S' e r q => ?_, fun xs ρ' F' σ' p vs H' S' hp e r q => ?_⟩
    · exact E.nx ρ' F' σ' H' S' ((((e1.trans e2).trans e3).trans e4).trans e) q
    · exact E.rt d ρ' F' σ' v H' S' ((((e1.trans e2).trans e3).trans e4).trans e) r q
    · exact E.ro xs ρ' F' σ' p vs H' S' hp ((((e1.trans e2).trans e3).trans e4).trans e) r q
  · have e : i = ds.length := by omega
    subst e
    exact .inl ⟨It.stop _ F2 H' e2 S2.sub rfl, E.nx ρ2 F2 σ' H' S2 (e1.trans e2) (done ρ2 p2)⟩
/-- while -/
def aWhile (tc : ATt) (tb : ASt) : ASt := fun A ρ => ∃ I : Nat → List AV → Prop, (∃ m, I m ρ) ∧ ∀ m ρ, I m ρ → tc ρ fun b ρ1 => (b = true → tb { A with nx := fun ρ' => ∃ m', m' < m ∧ I m' ρ', ct := fun ρ' => ∃ m', m' < m ∧ I m' ρ', bk := A.nx } ρ1) ∧ (b = false → A.nx ρ1)
theorem as_while {c : Expr} {body : List Stmt} {tc : ATt} {tb : ASt} (hp : ∀ j, PassesOwn (model (X.X j).prog (X.X j).w) (X.X j).A (X.X j).env (X.X j).xe) (hc : AT X c tc) (hb : ASs X body tb) : AS X (.While c body [] pos) (aWhile tc tb) := by
  obtain ⟨_, c1, c2⟩ := hc.ex
  obtain ⟨_, b1, b2⟩ := hb.ex
  refine ⟨_, fun j => ps_while (hp j) (c1 j) (b1 j), fun W ρ F σ H D A hk S ht E => ?_⟩
  obtain ⟨I, ⟨m0, i0⟩, turn⟩ := ht
  refine ⟨fun m σ' H' => ∃ ρ2 F2, Sto W ρ2 F2 σ' H' ∧ Same F F2 ∧ I m ρ2, ⟨m0, ρ, F, S, Same.refl F, i0⟩, ?_⟩
  rintro m σ' H' ⟨ρ2, F2, S2, e2, p2⟩
  refine c2 W ρ2 F2 σ' H' _ _ hk S2 (turn m ρ2 p2) fun b ρ3 F3 H3 S3 e3 q3 => ?_
  cases b with
  | true =>
    rw [if_pos rfl]
    refine ⟨fun σ' H' => ∃ m' ρ2 F2, m' < m ∧ Sto W ρ2 F2 σ' H' ∧ Same F F2 ∧ I m' ρ2, fun σ4 H4 ⟨m', ρ4, F4, hm, S4, e4, p4⟩ => ⟨m', hm, ρ4, F4, S4, e4, p4⟩, ?_⟩
    refine b2 W ρ3 F3 σ' H3 _ _ hk S3 (q3.1 rfl) ⟨fun ρ' F' σ' H' S' e ⟨m', hm, q⟩ => ⟨m', ρ', F', hm, S', (e2.trans e3).trans e, q⟩, fun ρ' F' σ' H' S' e q => E.nx ρ' F' σ' H' S' ((e2.trans e3).trans e) q, fun ρ' F' σ' H' S' e ⟨m', hm, q⟩ => ⟨m', ρ', F', hm, S', (e2.trans e3).trans e, q⟩, fun d ρ' F' σ' v H' S' e r q => E.rt d ρ' F' σ' v H' S' ((e2.trans e3).trans e) r q, fun xs ρ' F' σ' p vs H' S' hp e r q => E.ro xs ρ' F' σ' p vs H' S' hp ((e2.trans e3).trans e) r q⟩
  | false =>
    rw [if_neg Bool.false_ne_true]
    exact E.nx ρ3 F3 σ' H3 S3 (e2.trans e3) (q3.2 rfl)
end
end OS

/-! OSc: list comprehensions, promises of defs, calls, changing lists. -/
namespace OS
open PySem L2

/-! ### comprehensions -/
structure ATs (X : Fam) (ifs : List Expr) (t : ATt) : Prop where
  ex : ∃ te : TT, (∀ i, PTs (X.X i) ifs te) ∧ ∀ (W : Wd) (ρ : List AV) (F : Hp) (σ : L2.St) (H : Hp) (Q : Bool → Hp → Prop) (q : Bool → List AV → Prop), W.K = X.K → Sto W ρ F σ H → t ρ q →
    (∀ b ρ' F' H', Sto W ρ' F' σ H' → Same F F' → q b ρ' → Q b H') → te σ H Q
theorem ats_nil {X : Fam} : ATs X [] fun ρ q => q true ρ := ⟨_, fun _ => pts_nil, fun W ρ F σ H Q q _ S ht k => k true ρ F H S (Same.refl F) ht⟩
theorem ats_one {X : Fam} {c : Expr} {t : ATt} (h : AT X c t) : ATs X [c] t := let ⟨_, h1, h2⟩ := h.ex; ⟨_, fun j => pts_one (h1 j), h2⟩
def wipeA (ρ : List AV) (vs : List Nat) : List AV := ρ.mapIdx fun j x => if j ∈ vs then .no else x
def mergeA (ρ' ρ : List AV) (vs : List Nat) : List AV := ρ'.mapIdx fun j x => if j ∈ vs then ρ.getD j .no else x
def still (ρ : List AV) (vs : List Nat) : Prop := ∀ v ∈ vs, vol (ρ.getD v .no) = false
theorem wipe_at {σ : L2.St} : ∀ {vs : List Nat} {j : Nat}, j ∉ vs → (wipe σ vs)[j]? = σ[j]?
  | [], _, _ => rfl
  | v :: vs, j, h => by
    simp only [List.mem_cons, not_or] at h
    unfold wipe
    rw [List.getElem?_set_ne (Ne.symm h.1)]
    exact wipe_at h.2
section
variable {W : Wd} {ρ ρ' : List AV} {F F' : Hp} {σ σ' : L2.St} {H H' : Hp} {vs : List Nat}
theorem Sto.wipe (S : Sto W ρ F σ H) : Sto W (wipeA ρ vs) F (L2.wipe σ vs) H := by
  refine ⟨S.sub, S.base, S.fr, S.keep, S.tkk, ?_, by rw [wipe_length]; unfold wipeA; rw [List.length_mapIdx]; exact S.len, S.wt⟩
  obtain ⟨ad, hs, hp⟩ := S.slots
  have g : ∀ {j x}, (wipeA ρ vs)[j]? = some x → x = AV.no ∨ (j ∉ vs ∧ ρ[j]? = some x) := fun {j x} e => by
    unfold wipeA at e
    rw [List.getElem?_mapIdx] at e
    cases h : ρ[j]? with
    | none => rw [h] at e; cases e
    | some y =>
      rw [h] at e
      have e' : (if j ∈ vs then AV.no else y) = x := Option.some.inj e
      by_cases q : j ∈ vs
      · rw [if_pos q] at e'; exact .inl e'.symm
      · rw [if_neg q] at e'; subst e'; exact .inr ⟨q, rfl⟩
  refine ⟨ad, fun j x e => ?_, fun j k x y e1 e2 v1 v2 ne => ?_⟩
  · rcases g e with rfl | ⟨q, e⟩
    · trivial
    · rw [wipe_at q]; exact hs j x e
  · rcases g e1 with rfl | ⟨_, e1⟩
    · cases v1
    · rcases g e2 with rfl | ⟨_, e2⟩
      · cases v2
      · exact hp j k x y e1 e2 v1 v2 ne
theorem Sto.merge (S' : Sto W ρ' F' σ' H') (S : Sto W ρ F σ H) (e : Same F F') (st : still ρ vs) (hw : L2.wipe σ' vs = L2.wipe σ vs) : Sto W (mergeA ρ' ρ vs) F' σ H' := by
  have hl : σ'.length = σ.length := by rw [← wipe_length σ' vs, hw, wipe_length]
  refine ⟨S'.sub, S'.base, S'.fr, S'.keep, S'.tkk, ?_, by unfold mergeA; rw [List.length_mapIdx, ← S'.len, hl], S.wt⟩
  obtain ⟨ad, hs, hp⟩ := S'.slots
  obtain ⟨ad0, hs0, _⟩ := S.slots
  have at_ : ∀ {j}, j ∉ vs → σ'[j]? = σ[j]? := fun {j} q => by rw [← wipe_at (σ := σ') q, hw, wipe_at q]
  have g : ∀ {j x}, (mergeA ρ' ρ vs)[j]? = some x → (j ∈ vs ∧ x = ρ.getD j .no) ∨ (j ∉ vs ∧ ρ'[j]? = some x) := fun {j x} e => by
    unfold mergeA at e
    rw [List.getElem?_mapIdx] at e
    cases h : ρ'[j]? with
    | none => rw [h] at e; cases e
    | some y =>
      rw [h] at e
      have e' : (if j ∈ vs then ρ.getD j .no else y) = x := Option.some.inj e
      by_cases q : j ∈ vs
      · rw [if_pos q] at e'; exact .inl ⟨q, e'.symm⟩
      · rw [if_neg q] at e'; subst e'; exact .inr ⟨q, rfl⟩
  refine ⟨ad, fun j x hx => ?_, fun j k x y e1 e2 v1 v2 ne => ?_⟩
  · rcases g hx with ⟨q, rfl⟩ | ⟨q, hx⟩
    · have nv := st j q
      cases h : ρ[j]? with
      | none =>
        rw [List.getD_eq_getElem?_getD, h]
        trivial
      | some y =>
        have z := hs0 j y h
        rw [List.getD_eq_getElem?_getD, h] at nv ⊢
        show SlotOk W F' H' (ad j) (σ[j]?) y
        cases y with
        | no => trivial
        | d x => obtain ⟨v, a, b⟩ := z; exact ⟨v, a, dp_mono e b⟩
        | ml xs => cases nv
        | tank n => cases nv
        | tk3 _ _ _ => cases nv
        | dk kvs => cases nv
        | cl T => exact z
    · rw [← at_ q]; exact hs j x hx
  · rcases g e1 with ⟨q, rfl⟩ | ⟨_, e1⟩
    · rw [st j q] at v1; cases v1
    · rcases g e2 with ⟨q, rfl⟩ | ⟨_, e2⟩
      · rw [st k q] at v2; cases v2
      · exact hp j k x y e1 e2 v1 v2 ne
end
def aLc (ti : AIt) (g : AGt) (tt : ATt) (te : ATr) (vs : List Nat) : ALr := fun ρ q => ti ρ fun ds ρ1 => ds.length ≤ 16777215 ∧ ∃ I : Nat → List PyData → List AV → Prop, I 0 [] ρ1 ∧
  (∀ i d acc ρ2, ds[i]? = some d → I i acc ρ2 → still ρ2 vs ∧ g d (wipeA ρ2 vs) fun ρ3 => tt ρ3 fun b ρ4 => (b = true → te ρ4 fun y ρ5 => I (i + 1) (acc ++ [y]) (mergeA ρ5 ρ2 vs)) ∧ (b = false → I (i + 1) acc (mergeA ρ4 ρ2 vs))) ∧
  ∀ acc ρ2, I ds.length acc ρ2 → q acc ρ2
/-- the targets of a comprehension: they store in the block's own slots alone -/
structure AGo (X : Fam) (tg : Expr) (g : AGt) (vs : List Nat) : Prop where
  ex : ∃ tg' : TG, (∀ i, PG (X.X i) tg tg') ∧ (∀ (W : Wd) (ρ : List AV) (F : Hp) (σ : L2.St) (H : Hp) (d : PyData) (v : V) (Q : L2.St → Hp → Prop) (q : List AV → Prop), W.K = X.K → Sto W ρ F σ H → Dp X.K F v d → g d ρ q →
    (∀ ρ' F' σ' H', Sto W ρ' F' σ' H' → Same F F' → L2.wipe σ' vs = L2.wipe σ vs → q ρ' → Q σ' H') → tg' v σ H Q)
structure AGos (X : Fam) (tg : List Expr) (g : AGts) (vs : List Nat) : Prop where
  ex : ∃ tg' : TGs, (∀ i, PGs (X.X i) tg tg') ∧ ∀ (W : Wd) (ρ : List AV) (F : Hp) (σ : L2.St) (H : Hp) (d : List PyData) (v : List V) (Q : L2.St → Hp → Prop) (q : List AV → Prop), W.K = X.K → Sto W ρ F σ H → DpAll X.K F v d → g d ρ q →
    (∀ ρ' F' σ' H', Sto W ρ' F' σ' H' → Same F F' → L2.wipe σ' vs = L2.wipe σ vs → q ρ' → Q σ' H') → tg' v σ H Q
theorem wipe_get {σ : L2.St} {j : Nat} : ∀ {vs : List Nat}, (L2.wipe σ vs)[j]? = if j ∈ vs then (σ[j]?).map (fun _ => Option.none) else σ[j]?
  | [] => by simp [L2.wipe]
  | w :: vs => by
    show ((L2.wipe σ vs).set w none)[j]? = _
    by_cases e : w = j
    · subst e
      rw [if_pos List.mem_cons_self]
      by_cases hl : w < σ.length
      · rw [List.getElem?_set_self (by rw [wipe_length]; exact hl), List.getElem?_eq_getElem hl]; rfl
      · rw [List.getElem?_eq_none (by rw [List.length_set, wipe_length]; omega), List.getElem?_eq_none (by omega)]; rfl
    · rw [List.getElem?_set_ne e, wipe_get (vs := vs)]
      by_cases q : j ∈ vs
      · rw [if_pos q, if_pos (List.mem_cons_of_mem _ q)]
      · rw [if_neg q, if_neg (by simp only [List.mem_cons, not_or]; exact ⟨Ne.symm e, q⟩)]
theorem wipe_set {σ : L2.St} {i : Nat} {v : Option V} {vs : List Nat} (h : i ∈ vs) : L2.wipe (σ.set i v) vs = L2.wipe σ vs := by
  apply List.ext_getElem?
  intro j
  rw [wipe_get, wipe_get]
  by_cases q : j ∈ vs
  · rw [if_pos q, if_pos q]
    by_cases e : i = j
    · subst e
      by_cases hl : i < σ.length
      · rw [List.getElem?_set_self hl, List.getElem?_eq_getElem hl]; rfl
      · rw [List.getElem?_eq_none (by rw [List.length_set]; omega), List.getElem?_eq_none (by omega)]
    · rw [List.getElem?_set_ne e]
  · rw [if_neg q, if_neg q, List.getElem?_set_ne (fun e => q (by rw [← e]; exact h))]
theorem wipe_wipe {σ : L2.St} {vs : List Nat} : L2.wipe (L2.wipe σ vs) vs = L2.wipe σ vs := by
  apply List.ext_getElem?
  intro j
  rw [wipe_get, wipe_get]
  by_cases q : j ∈ vs
  · rw [if_pos q, if_pos q]; cases σ[j]? <;> rfl
  · rw [if_neg q, if_neg q]
section
variable {X : Fam} {e elt tg iter : Expr} {es ifs : List Expr} {pos : Pos} {vs : List Nat}
theorem ago_name (i : Nat) {x : Str} (hm : i ∈ vs) (hN : X.X0.N.Nodup) (hi : X.X0.N[i]? = some x := by rfl) (hx : ∀ j, Loc (X.X j).env.scope x := by intro _; first | exact Or.inl rfl | exact Or.inr rfl)
    (hf : ∀ j, (X.X j).fn x = true ∨ (X.X j).env.scope.names.lookup x = some .local := by intro _; first | exact .inl rfl | exact .inr rfl | assumption) : AGo X (.Name x pos) (agN i) vs :=
  ⟨_, fun j => pg_name (by rw [X.hN j]; exact hN) (by rw [X.hN j]; exact hi) (hx j) (hf j), fun W ρ F σ H d v Q q hk S r ht k => k _ F _ H (S.setd (hk ▸ r)) (Same.refl F) (wipe_set hm) ht⟩
theorem agos_nil : AGos X [] (fun d ρ q => d = [] ∧ q ρ) vs := by
  refine ⟨_, fun _ => pgs_nil, fun W ρ F σ H d v Q q hk S r ht k => ?_⟩
  obtain ⟨rfl, ht⟩ := ht
  cases r
  exact ⟨rfl, k _ F _ H S (Same.refl F) rfl ht⟩
theorem agos_cons {g : AGt} {gs : AGts} (h1 : AGo X e g vs) (h2 : AGos X es gs vs) (hs : ∀ j, (assignEach (e :: es) (X.X j).env).map (·.2) = assign e (X.X j).env :: (assignEach es (X.X j).env).map (·.2) := by intro _; rfl) :
    AGos X (e :: es) (fun d ρ q => ∃ d1 dr, d = d1 :: dr ∧ g d1 ρ fun ρ1 => gs dr ρ1 q) vs := by
  obtain ⟨_, a1, a2⟩ := h1.ex
  obtain ⟨_, b1, b2⟩ := h2.ex
  refine ⟨_, fun j => pgs_cons (a1 j) (b1 j) (hs j), fun W ρ F σ H d v Q q hk S r ht k => ?_⟩
  obtain ⟨d1, dr, rfl, ht⟩ := ht
  cases r with
  | cons r rr =>
    refine ⟨_, _, rfl, a2 W ρ F σ H d1 _ _ _ hk S r ht fun ρ1 F1 σ1 H1 S1 e1 w1 q1 => ?_⟩
    exact b2 W ρ1 F1 σ1 H1 dr _ _ _ hk S1 (dpAll_mono e1 rr) q1 fun ρ2 F2 σ2 H2 S2 e2 w2 q2 => k ρ2 F2 σ2 H2 S2 (e1.trans e2) (w2.trans w1) q2
theorem ago_tup {k : Nat} {gs : AGts} {n : Nat} (hc : X.X0.calm = true) (h : AGos X es gs vs) (hn : ∀ j, (assignEach es (X.X j).env).length = n := by intro _; rfl) (hst : ∀ j, (assignEach es (X.X j).env).findIdx? (·.1) = none := by intro _; rfl) :
    AGo X (.Tuple es k pos) (fun d ρ q => ∃ ds, d = .tuple ds ∧ ds.length = n ∧ gs ds ρ q) vs := by
  obtain ⟨_, a1, a2⟩ := h.ex
  refine ⟨_, fun j => by have q := pg_tup (by rw [X.hc j]; exact hc) (a1 j) (hn j) (hst j) (k := k) (pos := pos); rw [X.hK j] at q; exact q, fun W ρ F σ H d v Q q hk S r ht k => ?_⟩
  obtain ⟨ds, rfl, hl, ht⟩ := ht
  cases r with
  | tup hq ha _ => exact ⟨_, _, rfl, Evl.ex_t S.sub hq, by rw [dpAll_len ha]; exact hl, a2 W ρ F σ H ds _ _ _ hk S ha ht k⟩

theorem lc_sem {Y : Fam} {Z : Fam} {ti : AIt} {g : AGt} {tt : ATt} {te : ATr} {wi : TI} {g' : TG} {tt' : TT} {te' : TE}
    (hZ : Z.K = Y.K)
    (a2 : ∀ (W : Wd) (ρ : List AV) (F : Hp) (σ : L2.St) (H : Hp) (R : It → Hp → Prop) (q : List PyData → List AV → Prop), W.K = Y.K → Sto W ρ F σ H → ti ρ q → (∀ ds ρ' F' H' J, Sto W ρ' F' σ H' → Same F F' → ItOk Y.K J ds F' → q ds ρ' → R J H') → wi σ H R)
    (g2 : ∀ (W : Wd) (ρ : List AV) (F : Hp) (σ : L2.St) (H : Hp) (d : PyData) (v : V) (Q : L2.St → Hp → Prop) (q : List AV → Prop), W.K = Z.K → Sto W ρ F σ H → Dp Z.K F v d → g d ρ q → (∀ ρ' F' σ' H', Sto W ρ' F' σ' H' → Same F F' → L2.wipe σ' vs = L2.wipe σ vs → q ρ' → Q σ' H') → g' v σ H Q)
    (t2 : ∀ (W : Wd) (ρ : List AV) (F : Hp) (σ : L2.St) (H : Hp) (Q : Bool → Hp → Prop) (q : Bool → List AV → Prop), W.K = Z.K → Sto W ρ F σ H → tt ρ q → (∀ b ρ' F' H', Sto W ρ' F' σ H' → Same F F' → q b ρ' → Q b H') → tt' σ H Q)
    (e2 : ∀ (W : Wd) (ρ : List AV) (F : Hp) (σ : L2.St) (H : Hp) (Q : VK) (q : AQ), W.K = Z.K → Sto W ρ F σ H → te ρ q → (∀ d ρ' F' v H', Sto W ρ' F' σ H' → Same F F' → Dp Z.K F' v d → q d ρ' → Q v H') → te' σ H Q)
    (W : Wd) (ρ : List AV) (F : Hp) (σ : L2.St) (H : Hp) (Q : VK) (q : ALQ) (hk : W.K = Y.K) (S : Sto W ρ F σ H) (ht : aLc ti g tt te vs ρ q)
    (k : ∀ xs ρ' F' p ws H', Sto W ρ' F' σ (del H' p) → H' p = some (.lst ws) → Same F F' → DpAll Y.K F' ws xs → q xs ρ' → Q (.ref p) H') : tLc wi g' tt' te' vs σ H Q := by
  have hkz : W.K = Z.K := hk.trans hZ.symm
  refine a2 W ρ F σ H _ _ hk S ht fun ds ρ1 F1 H1 J S1 e1 It q1 D hD => ?_
  obtain ⟨hlen, I, i0, turn, done⟩ := q1
  refine ⟨fun i m H' => m = ds.length - i ∧ i ≤ ds.length ∧ ∃ acc ws ρ2 F2, Sto W ρ2 F2 σ (del H' D) ∧ H' D = some (.lst ws) ∧ Same F1 F2 ∧ DpAll Y.K F2 ws acc ∧ acc.length ≤ i ∧ I i acc ρ2,
    ⟨_, rfl, Nat.zero_le _, [], [], ρ1, F1, by rw [del_upd hD]; exact S1, upd_same, Same.refl _, .nil, Nat.le_refl _, i0⟩, ?_⟩
  rintro i m H2 ⟨rfl, hi, acc, ws, ρ2, F2, S2, hD2, e2', r2, l2, p2⟩
  have sH : Same F2 H2 := S2.sub.trans same_del
  by_cases hlt : i < ds.length
  · refine .inr ⟨It.go i F2 H2 e2' sH hlt, fun H' => ∃ acc ws ρ2 F2, Sto W ρ2 F2 σ (del H' D) ∧ H' D = some (.lst ws) ∧ Same F1 F2 ∧ DpAll Y.K F2 ws acc ∧ acc.length ≤ i + 1 ∧ I (i + 1) acc ρ2,
      fun H' ⟨a, b, c, d, z⟩ => ⟨ds.length - (i + 1), by omega, rfl, hlt, a, b, c, d, z⟩, fun x H3 y => ?_⟩
    obtain ⟨d, F3, hd, y3, r3⟩ := It.yld i F2 H2 x H3 e2' sH hlt y
    obtain ⟨st, tn⟩ := turn i d acc ρ2 hd p2
    -- the turn's start, with the new list beside
    have fD : F2 D = none := S2.f0 del_same
    have h0D : W.H0 D = none := S2.h0 del_same
    have f0D : W.F0 D = none := S2.base.free fD
    have tD : W.tk ≠ some D := fun z => S2.wt D z h0D
    have S3 : Sto W ρ2 F3 σ (del H3 D) ∧ Same F2 F3 ∧ H3 D = some (.lst ws) := by
      rcases y3 with ⟨rfl, rfl⟩ | ⟨T, o, hT, rfl, rfl⟩
      · exact ⟨S2, Same.refl _, hD2⟩
      · have nT : D ≠ T := ne_of_none hD2 hT
        have hT' : del H2 D T = none := by rw [del_ne nT.symm]; exact hT
        have ed : del (upd H2 T o) D = upd (del H2 D) T o := by
          funext b
          by_cases hb : b = D
          · subst hb; rw [del_same, upd_ne nT, del_same]
          · rw [del_ne hb]
            by_cases hbT : b = T
            · subst hbT; rw [upd_same, upd_same]
            · rw [upd_ne hbT, upd_ne hbT, del_ne hb]
        refine ⟨by rw [ed]; exact S2.newF hT', S2.fnew hT', by rw [upd_ne nT]; exact hD2⟩
    obtain ⟨S3, e3, hD3⟩ := S3
    have SB : Sto (W.add D (.lst ws)) (wipeA ρ2 vs) F3 (L2.wipe σ vs) H3 := (S3.frame_in hD3 tD).wipe
    have hkB : (W.add D (.lst ws)).K = Z.K := hkz
    refine g2 _ _ F3 _ H3 d x _ _ hkB SB (by rw [hZ]; exact r3) tn fun ρ4 F4 σ4 H4 S4 e4 w4 q4 => ?_
    have w4' : L2.wipe σ4 vs = L2.wipe σ vs := by rw [w4, wipe_wipe]
    refine ⟨w4', t2 _ ρ4 F4 σ4 H4 _ _ hkB S4 q4 fun b ρ5 F5 H5 S5 e5 q5 => ?_⟩
    have out : ∀ {ρ6 F6 H6}, Sto (W.add D (.lst ws)) ρ6 F6 σ4 H6 → Same F3 F6 → Sto W (mergeA ρ6 ρ2 vs) F6 σ (del H6 D) ∧ H6 D = some (.lst ws) := fun {ρ6 F6 H6} S6 e6 =>
      ⟨(S6.frame_out h0D f0D tD).merge S3 e6 st w4', S6.frame_at tD⟩
    cases b with
    | false =>
      rw [if_neg Bool.false_ne_true]
      obtain ⟨So, hDo⟩ := out S5 (e4.trans e5)
      exact ⟨acc, ws, _, F5, So, hDo, ((e2'.trans e3).trans e4).trans e5, dpAll_mono ((e3.trans e4).trans e5) r2, Nat.le_succ_of_le l2, q5.2 rfl⟩
    | true =>
      rw [if_pos rfl]
      refine e2 _ ρ5 F5 σ4 H5 _ _ hkB S5 (q5.1 rfl) fun y ρ6 F6 v H6 S6 e6 r6 q6 => ?_
      obtain ⟨So, hDo⟩ := out S6 ((e4.trans e5).trans e6)
      refine ⟨ws, hDo, by rw [dpAll_len r2]; exact Nat.lt_of_le_of_lt (Nat.le_trans l2 (Nat.le_of_lt hlt)) (Nat.lt_of_le_of_lt hlen (by decide)), acc ++ [y], ws ++ [v], _, F6, ?_, upd_same, (((e2'.trans e3).trans e4).trans e5).trans e6, dpAll_append (dpAll_mono (((e3.trans e4).trans e5).trans e6) r2) (.cons (hZ ▸ r6) .nil), by rw [List.length_append]; show acc.length + 1 ≤ i + 1; omega, q6⟩
      have ed : del (upd H6 D (.lst (ws ++ [v]))) D = del H6 D := by
        funext b
        by_cases hb : b = D
        · subst hb; rw [del_same, del_same]
        · rw [del_ne hb, del_ne hb, upd_ne hb]
      rw [ed]
      exact So
  · have e : i = ds.length := by omega
    subst e
    exact .inl ⟨It.stop _ F2 H2 e2' sH rfl, k acc ρ2 F2 D ws H2 S2 hD2 (e1.trans e2') r2 (done acc ρ2 p2)⟩
theorem al_lc {scope : Scope} {own : List (Str × Nat)} {ti : AIt} {g : AGt} {tt : ATt} {te : ATr} (hc : X.X0.calm = true) (hN : X.X0.N.Nodup) (hi : AI X tg iter ti) (ok : ∀ j, BlkOk (X.X j).N (X.X j).env.scope scope own)
    (hg : AGo (X.blk scope) tg g (own.map (·.2))) (ht : ATs (X.blk scope) ifs tt) (he : AE (X.blk scope) elt te) (hs : ∀ j x, foldedSetIterable iter (X.X j).env x = pure x := by intro _ _; rfl) :
    AL X (.ListComp elt [⟨tg, iter, ifs, 0⟩] scope pos) (aLc ti g tt te (own.map (·.2))) := by
  obtain ⟨_, a1, a2⟩ := hi.ex
  obtain ⟨_, g1, g2⟩ := hg.ex
  obtain ⟨_, t1, t2⟩ := ht.ex
  obtain ⟨_, e1, e2⟩ := he.ex
  exact ⟨_, fun j => pe_lc (by rw [X.hc j]; exact hc) (by rw [X.hN j]; exact hN) (a1 j) (ok j) (fun s H C cl fp => g1 (j, s, H, C, cl, fp)) (fun s H C cl fp => t1 (j, s, H, C, cl, fp)) (fun s H C cl fp => e1 (j, s, H, C, cl, fp)) (hs j), lc_sem rfl a2 g2 t2 e2⟩
/-- name = [..] on one line, the name a plain local: told as data -/
theorem as_setLc (i : Nat) {y : Str} {py spos : Pos} {scope : Scope} {own : List (Str × Nat)} {ti : AIt} {g : AGt} {tt : ATt} {te : ATr} (hc : X.X0.calm = true) (hN : X.X0.N.Nodup) (hi : AI X tg iter ti) (ok : ∀ j, BlkOk (X.X j).N (X.X j).env.scope scope own)
    (hg : AGo (X.blk scope) tg g (own.map (·.2))) (ht : ATs (X.blk scope) ifs tt) (he : AE (X.blk scope) elt te)
    (hy : X.X0.N[i]? = some y := by rfl) (hyl : ∀ j, (X.X j).env.scope.names.lookup y = some .local := by intro _; rfl) (hsw : ∀ j, swapsWith (.ListComp elt [⟨tg, iter, ifs, 0⟩] scope pos) (some (.Name y py)) spos.line (X.X j).env = pure true := by intro _; exact sw_true rfl rfl rfl (by decide +kernel))
    (hs : ∀ j x, foldedSetIterable iter (X.X j).env x = pure x := by intro _ _; rfl) :
    AS X (.Assign [.Name y py] (.ListComp elt [⟨tg, iter, ifs, 0⟩] scope pos) spos) fun A ρ => aLc ti g tt te (own.map (·.2)) ρ fun xs ρ1 => A.nx (ρ1.set i (.d (.list xs))) := by
  obtain ⟨_, a1, a2⟩ := hi.ex
  obtain ⟨_, g1, g2⟩ := hg.ex
  obtain ⟨_, t1, t2⟩ := ht.ex
  obtain ⟨_, e1, e2⟩ := he.ex
  refine ⟨_, fun j => ps_setLc (by rw [X.hc j]; exact hc) (by rw [X.hN j]; exact hN) (by rw [X.hN j]; exact hy) (hyl j) (hsw j) (a1 j) (ok j) (fun s H C cl fp => g1 (j, s, H, C, cl, fp)) (fun s H C cl fp => t1 (j, s, H, C, cl, fp)) (fun s H C cl fp => e1 (j, s, H, C, cl, fp)) (hs j), fun W ρ F σ H D A hk S ht' E => ?_⟩
  exact lc_sem (Y := X) (Z := X.blk scope) rfl a2 g2 t2 e2 W ρ F σ H _ _ hk S ht' fun xs ρ' F' p ws H' S' hp e r q => E.nx _ _ _ _ ((S'.freeze hp).setd (hk ▸ .lst (SqL.of upd_same) (dpAll_mono (S'.frozen hp) r))) (e.trans (S'.frozen hp)) q
/-- .. told as a changing list -/
theorem as_setLcM (i : Nat) {y : Str} {py spos : Pos} {scope : Scope} {own : List (Str × Nat)} {ti : AIt} {g : AGt} {tt : ATt} {te : ATr} (hc : X.X0.calm = true) (hN : X.X0.N.Nodup) (hi : AI X tg iter ti) (ok : ∀ j, BlkOk (X.X j).N (X.X j).env.scope scope own)
    (hg : AGo (X.blk scope) tg g (own.map (·.2))) (ht : ATs (X.blk scope) ifs tt) (he : AE (X.blk scope) elt te)
    (hy : X.X0.N[i]? = some y := by rfl) (hyl : ∀ j, (X.X j).env.scope.names.lookup y = some .local := by intro _; rfl) (hsw : ∀ j, swapsWith (.ListComp elt [⟨tg, iter, ifs, 0⟩] scope pos) (some (.Name y py)) spos.line (X.X j).env = pure true := by intro _; exact sw_true rfl rfl rfl (by decide +kernel))
    (hs : ∀ j x, foldedSetIterable iter (X.X j).env x = pure x := by intro _ _; rfl) :
    AS X (.Assign [.Name y py] (.ListComp elt [⟨tg, iter, ifs, 0⟩] scope pos) spos) fun A ρ => aLc ti g tt te (own.map (·.2)) ρ fun xs ρ1 => A.nx (ρ1.set i (.ml xs)) := by
  obtain ⟨_, a1, a2⟩ := hi.ex
  obtain ⟨_, g1, g2⟩ := hg.ex
  obtain ⟨_, t1, t2⟩ := ht.ex
  obtain ⟨_, e1, e2⟩ := he.ex
  refine ⟨_, fun j => ps_setLc (by rw [X.hc j]; exact hc) (by rw [X.hN j]; exact hN) (by rw [X.hN j]; exact hy) (hyl j) (hsw j) (a1 j) (ok j) (fun s H C cl fp => g1 (j, s, H, C, cl, fp)) (fun s H C cl fp => t1 (j, s, H, C, cl, fp)) (fun s H C cl fp => e1 (j, s, H, C, cl, fp)) (hs j), fun W ρ F σ H D A hk S ht' E => ?_⟩
  exact lc_sem (Y := X) (Z := X.blk scope) rfl a2 g2 t2 e2 W ρ F σ H _ _ hk S ht' fun xs ρ' F' p ws H' S' hp e r q => E.nx _ _ _ _ (S'.setm hp (hk ▸ r)) e q
end
end OS

/-! OSd: promises of defs, calls of defs and of built-ins. -/
namespace OS
open PySem L2
open PyProof.Rows (envOfC)

/-! ### promises -/
inductive Rs where
  | d (x : PyData)
  | own (xs : List PyData)
def Rs.dat : Rs → PyData
  | .d x => x
  | .own xs => .list xs
abbrev PSp := List PyData → (Rs → Prop) → Prop
abbrev TSp := Nat → List PyData → (Nat → Rs → Prop) → Prop
structure After (F F' H H' : Hp) (t : Option Addr) : Prop where
  ff : Same F F'
  fh : Same F' H'
  keep : ∀ b o, H b = some o → t ≠ some b → H' b = some o
  fr : ∀ b o, F' b = some o → (∃ o', F b = some o') ∨ H b = none
def ResOk (K : KW) (F' H H' : Hp) : Rs → V → Prop
  | .d x, v => Dp K F' v x
  | .own xs, v => ∃ p vs, v = .ref p ∧ F' p = none ∧ H p = none ∧ H' p = some (.lst vs) ∧ DpAll K F' vs xs
/-- what a call of values does with data -/
def PCall (K : KW) (r : List V → Hp → VK → Prop) (ro : PSp) : Prop :=
  ∀ (F H : Hp) (vs : List V) (ds : List PyData) (Q : VK) (q : Rs → Prop), Same F H → DpAll K F vs ds → ro ds q → (∀ rs v H' F', q rs → After F F' H H' none → ResOk K F' H H' rs v → Q v H') → r vs H Q
/-- the promise of a def over data -/
def cP (K : KW) (asp : PSp) : Sp := fun vs H Q _ => ∃ F ds q, Same F H ∧ DpAll K F vs ds ∧ asp ds q ∧ ∀ rs v H' F', q rs → After F F' H H' none → ResOk K F' H H' rs v → Q v H'
/-- .. whose first argument is the law's source of draws -/
def TankAt (H : Hp) (a : Addr) (n : Nat) : Prop := ∃ p q r, H a = some (.lst [.int p, .int q, .int r]) ∧ TankOk p q r n
def cT (K : KW) (asp : TSp) : Sp := fun vs H Q _ => ∃ F a vs' n ds q, vs = .ref a :: vs' ∧ Same F H ∧ F a = none ∧ TankAt H a n ∧ DpAll K F vs' ds ∧ asp n ds q ∧
  ∀ m rs v H' F', q m rs → After F F' H H' (some a) → F' a = none → TankAt H' a m → ResOk K F' H H' rs v → Q v H'
theorem After.refl {F H : Hp} (h : Same F H) {t : Option Addr} : After F F H H t := ⟨Same.refl F, h, fun _ _ e _ => e, fun _ o e => .inl ⟨o, e⟩⟩
theorem After.new {F H : Hp} (h : Same F H) {p : Addr} {o : HO} (hp : H p = none) : After F (upd F p o) H (upd H p o) none :=
  ⟨same_upd (h.free hp), fun b u e => by
    rcases upd_some e with ⟨rfl, rfl⟩ | ⟨n, e⟩
    · exact upd_same
    · rw [upd_ne n]; exact h _ _ e, fun b u e _ => same_upd hp _ _ e, fun b u e => by
    rcases upd_some e with ⟨rfl, rfl⟩ | ⟨n, e⟩
    · exact .inr hp
    · exact .inl ⟨u, e⟩⟩
theorem After.own {F H : Hp} (h : Same F H) {p : Addr} {o : HO} (hp : H p = none) : After F F H (upd H p o) none :=
  ⟨Same.refl F, h.trans (same_upd hp), fun b u e _ => same_upd hp _ _ e, fun b u e => .inl ⟨u, e⟩⟩

section
variable {W : Wd} {ρ : List AV} {F F' : Hp} {σ : L2.St} {H H' : Hp} {p : Addr}
theorem Sto.after (S : Sto W ρ F σ H) (A : After F F' H H' none) : Sto W ρ F' σ H' := S.grow A.ff A.fh (fun b o e => A.keep b o e (by intro z; cases z)) A.fr
theorem Sto.afterOwn (S : Sto W ρ F σ H) (A : After F F' H H' none) (f : F' p = none) (h : H p = none) : Sto W ρ F' σ (del H' p) :=
  S.grow A.ff (fun b o e => by
    have nb : b ≠ p := fun z => by rw [z, f] at e; cases e
    rw [del_ne nb]; exact A.fh b o e) (fun b o e => by
    have nb : b ≠ p := ne_of_none e h
    rw [del_ne nb]; exact A.keep b o e (by intro z; cases z)) A.fr
/-- behind a call that turned the list of a slot -/
theorem Sto.afterT (S : Sto W ρ F σ H) {i : Nat} {y z : AV} {a : Addr} {o : HO} (hy : ρ[i]? = some y) (vy : vol y = true) (ha : σ[i]? = some (some (.ref a))) (A : After F F' H H' (some a)) (f : F' a = none) (h' : H' a = some o) (ha0 : ∃ u, H a = some u)
    (hz : ∀ ad, SlotOk W F H ad (σ[i]?) y → ad = a → SlotOk W F' H' ad (σ[i]?) z) (vz : vol z = true) (hk : ∀ u, W.H0 a = some u → W.tk = some a) : Sto W (ρ.set i z) F' σ H' := by
  have hi : i < ρ.length := (List.getElem?_eq_some_iff.mp hy).1
  obtain ⟨u0, hu0⟩ := ha0
  refine ⟨A.fh, S.base.trans A.ff, fun b u e => ?_, fun b u e t => ?_, fun b u t e => ?_, ?_, by rw [List.length_set]; exact S.len, S.wt⟩
  · rcases A.fr b u e with ⟨u', q⟩ | q
    · exact S.fr b u' q
    · exact .inr (S.h0 q)
  · refine A.keep b u (S.keep b u e t) fun q => ?_
    cases q
    exact t (hk u e)
  · obtain ⟨o', q⟩ := S.tkk b u t e
    by_cases hb : b = a
    · subst hb; exact ⟨_, h'⟩
    · exact ⟨o', A.keep b o' q fun z => hb (Option.some.inj z).symm⟩
  · obtain ⟨ad, hs, hp⟩ := S.slots
    have adi : ad i = a := by
      have q := hs i y hy
      have e : σ[i]? = some (some (.ref (ad i))) := by
        cases y with
        | ml _ => exact q.1
        | tank _ => exact q.1
        | tk3 _ _ _ => exact q.1
        | dk _ => exact q.1
        | no => cases vy
        | d _ => cases vy
        | cl _ => cases vy
      rw [ha] at e
      exact (V.ref.inj (Option.some.inj (Option.some.inj e))).symm
    have g : ∀ {j x}, i ≠ j → (ρ.set i z)[j]? = some x → ρ[j]? = some x := fun {j x} hj e => by rw [List.getElem?_set_ne hj] at e; exact e
    have gi : ∀ {x}, (ρ.set i z)[i]? = some x → x = z := fun {x} e => by rw [List.getElem?_set_self hi] at e; cases e; rfl
    have fn : ∀ b u, H b = some u → F b = none → F' b = none := fun b u hu hn => by
      cases e2 : F' b with
      | none => rfl
      | some v =>
        rcases A.fr _ _ e2 with ⟨u', z⟩ | z
        · rw [hn] at z; cases z
        · rw [hu] at z; cases z
    refine ⟨ad, fun j x e => ?_, fun j k x w e1 e2 v1 v2 ne => ?_⟩
    · by_cases hj : i = j
      · subst hj
        obtain rfl := gi e
        exact hz (ad i) (hs i y hy) adi
      · have e' := g hj e
        have q := hs j x e'
        have nv : vol x = true → ad j ≠ a := fun v => by rw [← adi]; exact hp j i x y e' hy v vy (Ne.symm hj)
        have kp : ∀ u, vol x = true → H (ad j) = some u → H' (ad j) = some u := fun u v e => A.keep _ _ e fun z => nv v (Option.some.inj z).symm
        cases x with
        | no => trivial
        | d x => obtain ⟨v, a, b⟩ := q; exact ⟨v, a, dp_mono A.ff b⟩
        | ml xs => obtain ⟨a, b, c, vs, e1, e2⟩ := q; exact ⟨a, fn _ _ e1 b, c, vs, kp _ rfl e1, dpAll_mono A.ff e2⟩
        | tank n => obtain ⟨a, b, c, p, q, r, e1, e2⟩ := q; exact ⟨a, fn _ _ e1 b, c, p, q, r, kp _ rfl e1, e2⟩
        | tk3 p' q' r' => obtain ⟨a, b, c, e1⟩ := q; exact ⟨a, fn _ _ e1 b, c, kp _ rfl e1⟩
        | dk kvs => obtain ⟨a, b, c, o, e1, e2⟩ := q; exact ⟨a, fn _ _ e1 b, c, o, kp _ rfl e1, dcO_mono A.ff e2⟩
        | cl T => exact q
    · have up : ∀ {j x}, (ρ.set i z)[j]? = some x → vol x = true → ∃ x', ρ[j]? = some x' ∧ vol x' = true := fun {j x} e v => by
        by_cases hj : i = j
        · subst hj; exact ⟨_, hy, vy⟩
        · exact ⟨x, g hj e, v⟩
      obtain ⟨x', f1, w1⟩ := up e1 v1
      obtain ⟨y', f2, w2⟩ := up e2 v2
      exact hp j k x' y' f1 f2 w1 w2 ne
end

/-! data without lists: what a borrowed list may tell -/
mutual
def lf : PyData → Bool
  | .none => true
  | .bool _ => true
  | .int _ => true
  | .str _ => true
  | .list _ => false
  | .tuple xs => lfAll xs
  | .dict _ => false
def lfAll : List PyData → Bool
  | [] => true
  | x :: xs => lf x && lfAll xs
end
/-- a tuple's object -/
def TupO (o : HO) : Prop := (∃ xs, o = .tup xs) ∨ ∃ u xs, o = .frz u (.tup xs)
mutual
theorem dp_lf {K : KW} {F F' : Hp} (h : ∀ b o, F b = some o → TupO o → F' b = some o) : ∀ {v : V} {d : PyData}, lf d = true → Dp K F v d → Dp K F' v d
  | _, _, _, .non => .non
  | _, _, _, .bl b => .bl b
  | _, _, _, .int i => .int i
  | _, _, _, .str x => .str x
  | _, _, l, .lst _ _ => by simp [lf] at l
  | _, _, l, .dct _ _ => by simp [lf] at l
  | _, _, l, .tup hs a tx => by
    refine .tup ?_ (dpAll_lf h (by simpa [lf] using l) a) ?_
    rotate_left
    · intro z
      obtain ⟨o, hd, q⟩ := tx z
      exact ⟨o, hd, q.imp (fun ⟨u, q⟩ => ⟨u, h _ _ q (.inr ⟨_, _, rfl⟩)⟩) id⟩
    rcases hs with (hs | ⟨o, hs⟩) | hs
    · exact .inl (.inl (h _ _ hs (.inl ⟨_, rfl⟩)))
    · exact .inl (.inr ⟨o, h _ _ hs (.inr ⟨_, _, rfl⟩)⟩)
    · exact .inr hs
theorem dpAll_lf {K : KW} {F F' : Hp} (h : ∀ b o, F b = some o → TupO o → F' b = some o) : ∀ {vs : List V} {ds : List PyData}, lfAll ds = true → DpAll K F vs ds → DpAll K F' vs ds
  | _, _, _, .nil => .nil
  | _, _, l, .cons a b => by
    simp only [lfAll, Bool.and_eq_true] at l
    exact .cons (dp_lf h l.1 a) (dpAll_lf h l.2 b)
end
def Rs.lf : Rs → Bool
  | .d x => OS.lf x
  | .own xs => lfAll xs
/-- for a while the slots' lists and dicts stand among the data -/
def lent : AV → Option PyData
  | .ml xs => some (.list xs)
  | .dk kvs => some (.dict kvs)
  | _ => none
theorem Sto.borrow {W : Wd} {ρ : List AV} {F : Hp} {σ : L2.St} {H : Hp} (S : Sto W ρ F σ H) : ∃ F2, Same F F2 ∧ Same F2 H ∧ (∀ (i : Nat) (y : AV) (x : PyData), ρ[i]? = some y → lent y = some x → ∃ v, σ[i]? = some (some v) ∧ Dp W.K F2 v x) ∧
    ∀ F' H', After F2 F' H H' none → ∃ F'', After F F'' H H' none ∧ (∀ b o, F' b = some o → TupO o → F'' b = some o) ∧ ∀ b, F' b = none → F'' b = none := by
  classical
  obtain ⟨ad, hs, hp⟩ := id S.slots
  let M : Addr → Prop := fun b => ∃ (i : Nat) (y : AV) (x : PyData), ρ[i]? = some y ∧ lent y = some x ∧ ad i = b
  have hM : ∀ {b}, M b → F b = none ∧ W.H0 b = none ∧ ∃ o, H b = some o ∧ ¬ TupO o := fun {b} ⟨i, y, x, e, l, z⟩ => by
    have q := hs i _ e
    subst z
    cases y with
    | ml xs => obtain ⟨_, f, h0, vs, e1, _⟩ := q; exact ⟨f, h0, _, e1, fun t => by rcases t with ⟨_, t⟩ | ⟨_, _, t⟩ <;> cases t⟩
    | dk kvs =>
      obtain ⟨_, f, h0, o, e1, dc⟩ := q
      exact ⟨f, h0, _, e1, fun t => by obtain ⟨_, _, d, _⟩ := dc; rcases t with ⟨_, t⟩ | ⟨_, _, t⟩ <;> rw [d] at t <;> cases t⟩
    | no => cases l
    | d _ => cases l
    | tank _ => cases l
    | tk3 _ _ _ => cases l
    | cl _ => cases l
  let F2 : Hp := fun b => if M b then H b else F b
  have f2M : ∀ {b}, M b → F2 b = H b := fun {b} m => if_pos m
  have f2N : ∀ {b}, ¬ M b → F2 b = F b := fun {b} m => if_neg m
  have s1 : Same F F2 := fun b o e => by
    by_cases m : M b
    · rw [(hM m).1] at e; cases e
    · rw [f2N m]; exact e
  have s2 : Same F2 H := fun b o e => by
    by_cases m : M b
    · rw [f2M m] at e; exact e
    · rw [f2N m] at e; exact S.sub b o e
  refine ⟨F2, s1, s2, fun i y x e l => ?_, fun F' H' A => ?_⟩
  · have q := hs i _ e
    have m : M (ad i) := ⟨i, y, x, e, l, rfl⟩
    cases y with
    | ml xs =>
      cases l
      obtain ⟨a, f, h0, vs, e1, e2⟩ := q
      exact ⟨_, a, .lst (SqL.of (by rw [f2M m]; exact e1)) (dpAll_mono s1 e2)⟩
    | dk kvs =>
      cases l
      obtain ⟨a, f, h0, o, e1, e2⟩ := q
      exact ⟨_, a, dcO_dp s1 (by rw [f2M m]; exact e1) e2⟩
    | no => cases l
    | d _ => cases l
    | tank _ => cases l
    | tk3 _ _ _ => cases l
    | cl _ => cases l
  · let F'' : Hp := fun b => if M b then none else F' b
    have gM : ∀ {b}, M b → F'' b = none := fun {b} m => if_pos m
    have gN : ∀ {b}, ¬ M b → F'' b = F' b := fun {b} m => if_neg m
    refine ⟨F'', ⟨fun b o e => ?_, fun b o e => ?_, A.keep, fun b o e => ?_⟩, fun b o e nl => ?_, fun b e => ?_⟩
    · by_cases m : M b
      · rw [(hM m).1] at e; cases e
      · rw [gN m]; exact A.ff b o (s1 b o e)
    · by_cases m : M b
      · rw [gM m] at e; cases e
      · rw [gN m] at e; exact A.fh b o e
    · by_cases m : M b
      · rw [gM m] at e; cases e
      · rw [gN m] at e
        rcases A.fr b o e with ⟨o', z⟩ | z
        · rw [f2N m] at z; exact .inl ⟨o', z⟩
        · exact .inr z
    · by_cases m : M b
      · obtain ⟨_, _, u, hv, hn⟩ := hM m
        have e' := A.ff b _ (by rw [f2M m]; exact hv)
        rw [e] at e'
        cases e'
        exact absurd nl hn
      · rw [gN m]; exact e
    · by_cases m : M b
      · exact gM m
      · rw [gN m]; exact e
/-- data arguments, borrowed lists and dicts among them -/
def argD (ρ : List AV) : List AArg → Option (List PyData)
  | [] => some []
  | .d x :: r => (argD ρ r).map (x :: ·)
  | .s i :: r => match ρ[i]? with
    | some (.ml xs) => (argD ρ r).map (.list xs :: ·)
    | some (.dk xs) => (argD ρ r).map (.dict xs :: ·)
    | _ => none
abbrev Lent (K : KW) (ρ : List AV) (σ : L2.St) (F2 : Hp) : Prop := ∀ (i : Nat) (y : AV) (x : PyData), ρ[i]? = some y → lent y = some x → ∃ v, σ[i]? = some (some v) ∧ Dp K F2 v x
theorem argD_ok {K : KW} {ρ : List AV} {F F2 : Hp} {σ : L2.St} (e : Same F F2) (hm : Lent K ρ σ F2) :
    ∀ {as : List AArg} {vs : List V} {ds : List PyData}, Paired (ArgR K F σ) as vs → argD ρ as = some ds → DpAll K F2 vs ds
  | [], _, ds, .nil, h => by cases h; exact .nil
  | .d x :: r, _, ds, .cons a b, h => by
    unfold argD at h
    cases q : argD ρ r with
    | none => rw [q] at h; cases h
    | some l =>
      rw [q] at h
      cases h
      exact .cons (dp_mono e a) (argD_ok e hm b q)
  | .s i :: r, _, ds, .cons a b, h => by
    unfold argD at h
    have go : ∀ {y x}, ρ[i]? = some y → lent y = some x → (argD ρ r).map (x :: ·) = some ds → DpAll K F2 _ ds := fun {y x} z l h => by
      cases q : argD ρ r with
      | none => rw [q] at h; cases h
      | some l' =>
        rw [q] at h
        cases h
        obtain ⟨v, h1, h2⟩ := hm i y x z l
        have a' : σ[i]? = some (some _) := a
        rw [h1] at a'
        cases a'
        exact .cons h2 (argD_ok e hm b q)
    cases z : ρ[i]? with
    | none => rw [z] at h; cases h
    | some y =>
      rw [z] at h
      cases y with
      | ml xs => exact go z rfl h
      | dk xs => exact go z rfl h
      | no => cases h
      | d _ => cases h
      | tank _ => cases h
      | tk3 _ _ _ => cases h
      | cl _ => cases h

/-! ### defs, their promises; no repr runs around -/
structure FnG (P : Program) (w : World) (K : PySem.W.Frag) (mg : Str → Option Value) (base : Heap) (k : Nat) (f : Addr) (fd : FuncData) (ps : List Str) (sp : Sp) : Prop where
  len : ∀ vs H Q E, sp vs H Q E → vs.length = ps.length
  run : ∀ (A : Around) (outer : List Env) (s : Shared) (H : Hp) (args : Args) (us : List Value) (vs : List V) (Q : VK) (E : XK), Room k A → A.guards = some [] → Env0 P w K mg base A outer s H → BindsTo s fd args (ps.zip us) → Vals vs us → sp vs H Q E →
    codeAny (model P w) A (.call (.ref f) args) (CR CX0 outer P w H s Q E) s
theorem FnG.imp {P : Program} {w : World} {K : PySem.W.Frag} {mg : Str → Option Value} {base : Heap} {k : Nat} {f : Addr} {fd : FuncData} {ps : List Str} {sp sp' : Sp} (F : FnG P w K mg base k f fd ps sp)
    (h : ∀ vs H Q E, sp' vs H Q E → sp vs H Q E) : FnG P w K mg base k f fd ps sp' :=
  ⟨fun vs H Q E q => F.len vs H Q E (h _ _ _ _ q), fun A outer s H args us vs Q E hr hg he hb hv hs => F.run A outer s H args us vs Q E hr hg he hb hv (h _ _ _ _ hs)⟩
theorem grounds {P : Program} {w : World} {K : PySem.W.Frag} {mg : Str → Option Value} {base : Heap} {A : Around} {outer : List Env} {s : Shared} {H : Hp} (g : Env0 P w K mg base A outer s H) : K.In s.heap ∧ s.heap.NoLimit :=
  have up : ∀ b o, base.get? b = some o → s.heap.get? b = some o := fun b o z => (g.bs b o z).1
  ⟨g.mod.kin.keeps up, g.mod.nolimit.keeps up⟩
theorem fn_ofG {P : Program} {w : World} {K : PySem.W.Frag} {mg : Str → Option Value} {base : Heap} {k : Nat} {f : Addr} {x q : Str} {pr : Arguments} {b : List Stmt} {sc : Scope} {dV kV dc pm cd ct oc : Value} {an od : Option Addr} {sl : Array (Option Value)} {N ps : List Str} {sp : Sp}
    (at_ : K.lookup f = some ⟨oc, od, .func (PySem.W.fnOf x q pr b sc dV kV dc pm an cd ct), sl⟩) (cin : PySem.W.codeIn K cd q = true) (S : FnScope N ps sc) (ar : ∀ vs H Q E, sp vs H Q E → vs.length = ps.length)
    (go : ∀ (A : Around) (outer : List Env) (s : Shared) (H : Hp) (vs : List V) (Q : VK) (E : XK), Room k (A.deeper (envOfC q sc s.heap.objs.size f cd)) → A.guards = some [] → sp vs H Q E →
      ∃ t, PSs (cxOf CX0 P w K mg base N q sc f cd A outer s H E) b t ∧ t { nx := fun _ H' => Q .non H', rt := Q } (L2.start N vs) H) : FnG P w K mg base (k + 1) f (PySem.W.fnOf x q pr b sc dV kV dc pm an cd ct) ps sp where
  len := ar
  run := fun A outer s H as us vs Q E room quiet g bind rel ask =>
    codeAny_call_function room.depth ((grounds g).1 _ _ at_) rfl S.co S.gen rfl (PySem.W.codeRec_of (grounds g).1 cin) (bind _ _ _ _ (PySem.wpAny_newFunctionEnv_cells S.kind
      (fun y hy => (S.par y.1 (List.of_mem_zip hy).1).imp id fun c => ⟨c, PySem.W.cellsFrom_some _ _ _ (.inl c)⟩) fun env same s1 grown => by
        cases same
        obtain ⟨t, walk, holds⟩ := go A outer s H vs Q E (room.deeper _) quiet ask
        exact ⟨(grounds g).2.keeps grown.toInCall.keep, codeAny_func (wpAny_mono (walk.run [] s1 _ H _ (inv_start S room.hd g (ar _ _ _ _ ask) rel grown) holds) (fun fl s2 z => match fl, z with
          | .ret u, ⟨v, _, H2, J, rv, got⟩ => ⟨v, H2, J.os, J.bare, J.base, J.hok, rv, got⟩
          | .next, ⟨_, H2, J, got⟩ => ⟨.non, H2, J.os, J.bare, J.base, J.hok, rfl, got⟩
          | .brk, ⟨_, _, _, no⟩ => no.elim
          | .cont, ⟨_, _, _, no⟩ => no.elim) fun _ _ z => z)⟩))
section
variable {X : Cx} {k : Nat} {f : Addr} {fd : FuncData} {ps : List Str} {sp : Sp}
theorem run_fnG {pins : List (Addr × Obj)} {σ : L2.St} {H : Hp} {s : Shared} {Q : VK} {us : List Value} {vs : List V} (F : FnG X.prog X.w X.K X.mg X.base k f fd ps sp) (room : Room k X.A) (quiet : X.A.guards = some [])
    (bind : ∀ s, X.K.In s.heap → us.length = ps.length → BindsTo s fd ⟨us, []⟩ (ps.zip us)) (I : Inv X pins σ H s) (rel : Vals vs us) (ask : sp vs H Q E0) : wpAny (model X.prog X.w) X.A (call (.ref f) us) (EP X pins σ Q) X.xe s :=
  wpAny_call (codeAny_mono (F.run X.A X.stack s H ⟨us, []⟩ us vs Q E0 room quiet I.env0 (bind s I.kIn (rel.length.symm.trans (F.len _ _ _ _ ask))) rel ask) fun y s2 z => match y, z with
    | .ok (.ret _), z => I.after z
    | .ok .next, z => z.elim
    | .ok .brk, z => z.elim
    | .ok .cont, z => z.elim
    | .error _, z => z.elim)
theorem pe_callG {x : Str} {p pos : Pos} {e : Expr} {es : List Expr} {t : TA} (F : FnG X.prog X.w X.K X.mg X.base k f fd ps sp) (room : Room k X.A) (quiet : X.A.guards = some []) (hg : Gl X x) (there : X.mg x = some (.ref f)) (kept : PySem.W.keepIn X.K (.ref f) = true) (bind : Binds X.K fd ps [])
    (args : PA X (e :: es) t) (nd : (x == ("__debug__" : Str)) = false) (he : starEach (e :: es) X.env = (false, eval e X.env) :: starEach es X.env) (hpl : (backTo pos (starEach es X.env)).any (·.1) = false) : PE X (.Call (.Name x p) (e :: es) [] pos) (fun σ H Q => t σ H fun vs H1 => sp vs H1 Q E0) where
  run := fun pins s σ H Q I ask => PySem.wpAny_Call_Name_kw (ld_glob I hg there (PySem.W.callWith_K (h₀ := X.base) I.ok.mod.kin kept (thn (args.run pos pins s σ H _ I ask) fun us _ ⟨_, _, J, rel, z⟩ =>
    ⟨J.kIn, run_fnG F room quiet (fun s kin hl => by simpa using bind s us kin (by simpa using hl)) J rel z⟩) he hpl) nd)
end

/-! ### calls -/
section
variable {X : Fam} {e : Expr} {es : List Expr} {pos p : Pos} {x : Str} {ta : AAr}
/-- calls of values with data arguments: the result told as data -/
theorem ae_pc {r : List V → Hp → VK → Prop} {ro : PSp} {tz : TA → TE} (hr : PCall X.K r ro) (hta : AA X es ta) (hp : ∀ j t, PA (X.X j) es t → PE (X.X j) e (fun σ H Q => t σ H fun vs H1 => r vs H1 Q)) :
    AE X e fun ρ q => ta ρ fun as ρ1 => ∃ ds, dats as = some ds ∧ ro ds fun rs => q rs.dat ρ1 := by
  obtain ⟨_, a1, a2⟩ := hta.ex
  refine ⟨_, fun j => hp j _ (a1 j), fun W ρ F σ H Q q hk S ht k => a2 W ρ F σ H _ _ hk S ht fun as ρ1 F1 vs H1 S1 e1 r1 q1 => ?_⟩
  obtain ⟨ds, hd, q1⟩ := q1
  refine hr F1 H1 vs ds Q _ S1.sub (dats_ok r1 hd) q1 fun rs v H' F' hq A R => ?_
  cases rs with
  | d x => exact k x ρ1 F' v H' (S1.after A) (e1.trans A.ff) R hq
  | own xs =>
    obtain ⟨p, ws, rfl, f, h0, h', r⟩ := R
    have S2 := S1.afterOwn A f h0
    exact k _ ρ1 _ _ H' (S2.freeze h') ((e1.trans A.ff).trans (S2.frozen h')) (.lst (SqL.of upd_same) (dpAll_mono (S2.frozen h') r)) hq
/-- .. as a new list -/
theorem al_pc {r : List V → Hp → VK → Prop} {ro : PSp} (hr : PCall X.K r ro) (hta : AA X es ta) (hp : ∀ j t, PA (X.X j) es t → PE (X.X j) e (fun σ H Q => t σ H fun vs H1 => r vs H1 Q)) :
    AL X e fun ρ q => ta ρ fun as ρ1 => ∃ ds, dats as = some ds ∧ ro ds fun rs => ∃ xs, rs = .own xs ∧ q xs ρ1 := by
  obtain ⟨_, a1, a2⟩ := hta.ex
  refine ⟨_, fun j => hp j _ (a1 j), fun W ρ F σ H Q q hk S ht k => a2 W ρ F σ H _ _ hk S ht fun as ρ1 F1 vs H1 S1 e1 r1 q1 => ?_⟩
  obtain ⟨ds, hd, q1⟩ := q1
  refine hr F1 H1 vs ds Q _ S1.sub (dats_ok r1 hd) q1 fun rs v H' F' hq A R => ?_
  obtain ⟨xs, rfl, hq⟩ := hq
  obtain ⟨p, ws, rfl, f, h0, h', r⟩ := R
  exact k _ ρ1 _ _ _ H' (S1.afterOwn A f h0) h' (e1.trans A.ff) r hq
/-- .. with borrowed lists among the arguments -/
theorem ae_pcB {r : List V → Hp → VK → Prop} {ro : PSp} (hr : PCall X.K r ro) (hta : AA X es ta) (hp : ∀ j t, PA (X.X j) es t → PE (X.X j) e (fun σ H Q => t σ H fun vs H1 => r vs H1 Q)) :
    AE X e fun ρ q => ta ρ fun as ρ1 => ∃ ds, argD ρ1 as = some ds ∧ ro ds fun rs => rs.lf = true ∧ q rs.dat ρ1 := by
  obtain ⟨_, a1, a2⟩ := hta.ex
  refine ⟨_, fun j => hp j _ (a1 j), fun W ρ F σ H Q q hk S ht k => a2 W ρ F σ H _ _ hk S ht fun as ρ1 F1 vs H1 S1 e1 r1 q1 => ?_⟩
  obtain ⟨ds, hd, q1⟩ := q1
  obtain ⟨F2, s1, s2, hm, back⟩ := S1.borrow
  refine hr F2 H1 vs ds Q _ s2 (argD_ok s1 (fun i y x z l => by rw [← hk]; exact hm i y x z l) r1 hd) q1 fun rs v H' F' hq A R => ?_
  obtain ⟨F3, A3, c3, n3⟩ := back F' H' A
  obtain ⟨hl, hq⟩ := hq
  cases rs with
  | d x => exact k x ρ1 F3 v H' (S1.after A3) (e1.trans A3.ff) (dp_lf c3 hl R) hq
  | own xs =>
    obtain ⟨p, ws, rfl, f, h0, h', r⟩ := R
    have S2 := S1.afterOwn A3 (n3 p f) h0
    exact k _ ρ1 _ _ H' (S2.freeze h') ((e1.trans A3.ff).trans (S2.frozen h')) (.lst (SqL.of upd_same) (dpAll_mono (S2.frozen h') (dpAll_lf c3 hl r))) hq
theorem al_pcB {r : List V → Hp → VK → Prop} {ro : PSp} (hr : PCall X.K r ro) (hta : AA X es ta) (hp : ∀ j t, PA (X.X j) es t → PE (X.X j) e (fun σ H Q => t σ H fun vs H1 => r vs H1 Q)) :
    AL X e fun ρ q => ta ρ fun as ρ1 => ∃ ds, argD ρ1 as = some ds ∧ ro ds fun rs => ∃ xs, rs = .own xs ∧ lfAll xs = true ∧ q xs ρ1 := by
  obtain ⟨_, a1, a2⟩ := hta.ex
  refine ⟨_, fun j => hp j _ (a1 j), fun W ρ F σ H Q q hk S ht k => a2 W ρ F σ H _ _ hk S ht fun as ρ1 F1 vs H1 S1 e1 r1 q1 => ?_⟩
  obtain ⟨ds, hd, q1⟩ := q1
  obtain ⟨F2, s1, s2, hm, back⟩ := S1.borrow
  refine hr F2 H1 vs ds Q _ s2 (argD_ok s1 (fun i y x z l => by rw [← hk]; exact hm i y x z l) r1 hd) q1 fun rs v H' F' hq A R => ?_
  obtain ⟨F3, A3, c3, n3⟩ := back F' H' A
  obtain ⟨xs, rfl, hl, hq⟩ := hq
  obtain ⟨p, ws, rfl, f, h0, h', r⟩ := R
  exact k _ ρ1 _ _ _ H' (S1.afterOwn A3 (n3 p f) h0) h' (e1.trans A3.ff) (dpAll_lf c3 hl r) hq

/-- a def of the text and its promise, as callers want it -/
structure FnP (P : Program) (w : World) (K : PySem.W.Frag) (mg : Str → Option Value) (base : Heap) (x : Str) (ps : List Str) (k : Nat) (asp : PSp) : Prop where
  ex : ∃ f fd, mg x = some (.ref f) ∧ PySem.W.keepIn K (.ref f) = true ∧ Binds K fd ps [] ∧ FnG P w K mg base k f fd ps (cP ⟨K, w, P⟩ asp)
structure FnT (P : Program) (w : World) (K : PySem.W.Frag) (mg : Str → Option Value) (base : Heap) (x : Str) (ps : List Str) (k : Nat) (asp : TSp) : Prop where
  ex : ∃ f fd, mg x = some (.ref f) ∧ PySem.W.keepIn K (.ref f) = true ∧ Binds K fd ps [] ∧ FnG P w K mg base k f fd ps (cT ⟨K, w, P⟩ asp)
theorem cP_pc {K : KW} {asp : PSp} : PCall K (fun vs H Q => cP K asp vs H Q E0) asp := fun F H vs ds Q q s d a k => ⟨F, ds, q, s, d, a, k⟩
theorem pe_fn {ps : List Str} {k : Nat} {sp : Sp} {f : Addr} {fd : FuncData} {t : TA} (j : X.ι) (hm : X.X0.mg x = some (.ref f)) (hk : PySem.W.keepIn X.X0.K (.ref f) = true) (hb : Binds X.X0.K fd ps []) (F : FnG X.X0.prog X.X0.w X.X0.K X.X0.mg X.X0.base k f fd ps sp) (hr : Room k X.X0.A ∧ X.X0.A.guards = some []) (hg : Gl (X.X j) x)
    (ha : PA (X.X j) (e :: es) t) (hdb : (x == ("__debug__" : Str)) = false) (he : starEach (e :: es) (X.X j).env = (false, eval e (X.X j).env) :: starEach es (X.X j).env) (hpl : (backTo pos (starEach es (X.X j).env)).any (·.1) = false) :
    PE (X.X j) (.Call (.Name x p) (e :: es) [] pos) (fun σ H Q => t σ H fun vs H1 => sp vs H1 Q E0) := by
  have F' : FnG (X.X j).prog (X.X j).w (X.X j).K (X.X j).mg (X.X j).base k f fd ps sp := by rw [X.hp j, X.hw j, X.hK j, X.hm j, X.hb j]; exact F
  exact pe_callG F' (by rw [X.hA j]; exact hr.1) (by rw [X.hA j]; exact hr.2) hg (by rw [X.hm j]; exact hm) (by rw [X.hK j]; exact hk) (by rw [X.hK j]; exact hb) ha hdb he hpl
variable {ps : List Str} {k : Nat} {asp : PSp} {tsp : TSp}
theorem ae_call (G : FnP X.X0.prog X.X0.w X.X0.K X.X0.mg X.X0.base x ps k asp) (hr : Room k X.X0.A ∧ X.X0.A.guards = some []) (hta : AA X (e :: es) ta) (hg : ∀ j, Gl (X.X j) x := by intro _; rfl) (hdb : (x == ("__debug__" : Str)) = false := by decide)
    (he : ∀ j, starEach (e :: es) (X.X j).env = (false, eval e (X.X j).env) :: starEach es (X.X j).env := by intro _; rfl) (hpl : ∀ j, (backTo pos (starEach es (X.X j).env)).any (·.1) = false := by intro _; rfl) :
    AE X (.Call (.Name x p) (e :: es) [] pos) fun ρ q => ta ρ fun as ρ1 => ∃ ds, dats as = some ds ∧ asp ds fun rs => q rs.dat ρ1 := by
  obtain ⟨f, fd, hm, hk, hb, F⟩ := G.ex
  exact ae_pc (tz := fun _ => ae_op.tNo) cP_pc hta fun j t h => pe_fn j hm hk hb F hr (hg j) h hdb (he j) (hpl j)
theorem al_call (G : FnP X.X0.prog X.X0.w X.X0.K X.X0.mg X.X0.base x ps k asp) (hr : Room k X.X0.A ∧ X.X0.A.guards = some []) (hta : AA X (e :: es) ta) (hg : ∀ j, Gl (X.X j) x := by intro _; rfl) (hdb : (x == ("__debug__" : Str)) = false := by decide)
    (he : ∀ j, starEach (e :: es) (X.X j).env = (false, eval e (X.X j).env) :: starEach es (X.X j).env := by intro _; rfl) (hpl : ∀ j, (backTo pos (starEach es (X.X j).env)).any (·.1) = false := by intro _; rfl) :
    AL X (.Call (.Name x p) (e :: es) [] pos) fun ρ q => ta ρ fun as ρ1 => ∃ ds, dats as = some ds ∧ asp ds fun rs => ∃ xs, rs = .own xs ∧ q xs ρ1 := by
  obtain ⟨f, fd, hm, hk, hb, F⟩ := G.ex
  exact al_pc cP_pc hta fun j t h => pe_fn j hm hk hb F hr (hg j) h hdb (he j) (hpl j)
theorem ae_callB (G : FnP X.X0.prog X.X0.w X.X0.K X.X0.mg X.X0.base x ps k asp) (hr : Room k X.X0.A ∧ X.X0.A.guards = some []) (hta : AA X (e :: es) ta) (hg : ∀ j, Gl (X.X j) x := by intro _; rfl) (hdb : (x == ("__debug__" : Str)) = false := by decide)
    (he : ∀ j, starEach (e :: es) (X.X j).env = (false, eval e (X.X j).env) :: starEach es (X.X j).env := by intro _; rfl) (hpl : ∀ j, (backTo pos (starEach es (X.X j).env)).any (·.1) = false := by intro _; rfl) :
    AE X (.Call (.Name x p) (e :: es) [] pos) fun ρ q => ta ρ fun as ρ1 => ∃ ds, argD ρ1 as = some ds ∧ asp ds fun rs => rs.lf = true ∧ q rs.dat ρ1 := by
  obtain ⟨f, fd, hm, hk, hb, F⟩ := G.ex
  exact ae_pcB cP_pc hta fun j t h => pe_fn j hm hk hb F hr (hg j) h hdb (he j) (hpl j)
theorem al_callB (G : FnP X.X0.prog X.X0.w X.X0.K X.X0.mg X.X0.base x ps k asp) (hr : Room k X.X0.A ∧ X.X0.A.guards = some []) (hta : AA X (e :: es) ta) (hg : ∀ j, Gl (X.X j) x := by intro _; rfl) (hdb : (x == ("__debug__" : Str)) = false := by decide)
    (he : ∀ j, starEach (e :: es) (X.X j).env = (false, eval e (X.X j).env) :: starEach es (X.X j).env := by intro _; rfl) (hpl : ∀ j, (backTo pos (starEach es (X.X j).env)).any (·.1) = false := by intro _; rfl) :
    AL X (.Call (.Name x p) (e :: es) [] pos) fun ρ q => ta ρ fun as ρ1 => ∃ ds, argD ρ1 as = some ds ∧ asp ds fun rs => ∃ xs, rs = .own xs ∧ lfAll xs = true ∧ q xs ρ1 := by
  obtain ⟨f, fd, hm, hk, hb, F⟩ := G.ex
  exact al_pcB cP_pc hta fun j t h => pe_fn j hm hk hb F hr (hg j) h hdb (he j) (hpl j)
/-! calls that draw: the first argument a slot's tank, or its own new one -/
def drw (tsp : TSp) (q : Rs → List AV → Prop) (ds : List PyData) (ρ1 : List AV) (i : Nat) : Option AV → Prop
  | some (.tank n) => tsp n ds fun m rs => q rs (ρ1.set i (.tank m))
  | some (.ml [.int a, .int b, .int c]) => ∃ n, TankOk a b c n ∧ tsp n ds fun m rs => ∀ a' b' c', TankOk a' b' c' m → q rs (ρ1.set i (.ml [.int a', .int b', .int c']))
  | _ => False
def drawn (tsp : TSp) (q : Rs → List AV → Prop) (as : List AArg) (ρ1 : List AV) : Prop := match as with
  | .s i :: as' => match dats as' with
    | some ds => drw tsp q ds ρ1 i ρ1[i]?
    | none => False
  | _ => False
theorem drawn_ex {tsp : TSp} {q : Rs → List AV → Prop} {as : List AArg} {ρ1 : List AV} (h : drawn tsp q as ρ1) : ∃ i as' ds, as = .s i :: as' ∧ dats as' = some ds ∧
  ((∃ n, ρ1[i]? = some (.tank n) ∧ tsp n ds fun m rs => q rs (ρ1.set i (.tank m))) ∨
   (∃ n a b c, ρ1[i]? = some (.ml [.int a, .int b, .int c]) ∧ TankOk a b c n ∧ tsp n ds fun m rs => ∀ a' b' c', TankOk a' b' c' m → q rs (ρ1.set i (.ml [.int a', .int b', .int c'])))) := by
  unfold drawn at h
  split at h
  · rename_i i as'
    split at h
    · rename_i ds e
      refine ⟨i, as', ds, rfl, e, ?_⟩
      unfold drw at h
      split at h
      · rename_i n e'; exact .inl ⟨n, e', h⟩
      · rename_i a b c e'
        obtain ⟨n, h1, h2⟩ := h
        exact .inr ⟨n, a, b, c, e', h1, h2⟩
      · exact h.elim
    · exact h.elim
  · exact h.elim
theorem drawn_sem {K : KW} {W : Wd} {ρ1 : List AV} {F1 : Hp} {σ : L2.St} {H1 : Hp} {as : List AArg} {vs : List V} {Q : VK} {q : Rs → List AV → Prop} (hk : W.K = K) (S1 : Sto W ρ1 F1 σ H1) (r1 : Paired (ArgR K F1 σ) as vs) (h : drawn tsp q as ρ1)
    (kk : ∀ rs ρ2 F' H' v, Same F1 F' → q rs ρ2 → (match rs with
      | .d x => Sto W ρ2 F' σ H' ∧ Dp K F' v x
      | .own xs => ∃ p ws, v = .ref p ∧ Sto W ρ2 F' σ (del H' p) ∧ H' p = some (.lst ws) ∧ DpAll K F' ws xs) → Q v H') : cT K tsp vs H1 Q E0 := by
  obtain ⟨i, as', ds, rfl, hd, h⟩ := drawn_ex h
  cases r1 with
  | cons ra rr =>
    have ra' : σ[i]? = some (some _) := ra
    obtain ⟨ad, hs, hp⟩ := S1.slots
    rcases h with ⟨n, hi, hq⟩ | ⟨n, a, b, c, hi, tk, hq⟩
    · obtain ⟨e1, fa, ta', p0, q0, r0, h0, ok⟩ := hs i _ hi
      rw [ra'] at e1
      cases e1
      refine ⟨F1, ad i, _, n, ds, _, rfl, S1.sub, fa, ⟨p0, q0, r0, h0, ok⟩, dats_ok rr hd, hq, fun m rs v H' F' hq' A f' ⟨p1, q1, r1, h1, ok1⟩ R => ?_⟩
      have go : Sto W (ρ1.set i (.tank m)) F' σ H' := S1.afterT hi rfl ra' A f' h1 ⟨_, h0⟩ (fun ad' z e => by subst e; exact ⟨ra', f', ta', p1, q1, r1, h1, ok1⟩) rfl fun _ _ => ta'
      cases rs with
      | d x => exact kk (.d x) _ F' H' v A.ff hq' ⟨go, R⟩
      | own xs =>
        obtain ⟨p, ws, rfl, f, hp0, h', r⟩ := R
        refine kk (.own xs) _ F' H' _ A.ff hq' ⟨p, ws, rfl, ?_, h', r⟩
        have npa : p ≠ ad i := fun z => by rw [z, h0] at hp0; cases hp0
        have A2 : After F1 F' H1 (del H' p) (some (ad i)) := ⟨A.ff, fun b o e => by
          have nb : b ≠ p := fun z => by rw [z, f] at e; cases e
          rw [del_ne nb]; exact A.fh b o e, fun b o e t => by
          have nb : b ≠ p := ne_of_none e hp0
          rw [del_ne nb]; exact A.keep b o e t, A.fr⟩
        have h1' : del H' p (ad i) = some (.lst [.int p1, .int q1, .int r1]) := by rw [del_ne npa.symm]; exact h1
        exact S1.afterT hi rfl ra' A2 f' h1' ⟨_, h0⟩ (fun ad' z e => by subst e; exact ⟨ra', f', ta', p1, q1, r1, h1', ok1⟩) rfl fun _ _ => ta'
    · obtain ⟨e1, fa, h00, ws0, h0, dp0⟩ := hs i _ hi
      rw [ra'] at e1
      cases e1
      have ew : ws0 = [.int a, .int b, .int c] := by
        cases dp0 with
        | cons x1 y1 =>
          cases x1
          cases y1 with
          | cons x2 y2 =>
            cases x2
            cases y2 with
            | cons x3 y3 =>
              cases x3
              cases y3
              rfl
      subst ew
      refine ⟨F1, ad i, _, n, ds, _, rfl, S1.sub, fa, ⟨a, b, c, h0, tk⟩, dats_ok rr hd, hq, fun m rs v H' F' hq' A f' ⟨p1, q1, r1, h1, ok1⟩ R => ?_⟩
      have nh : ∀ u, W.H0 (ad i) = some u → W.tk = some (ad i) := fun u z => by rw [h00] at z; cases z
      have go : Sto W (ρ1.set i (.ml [.int p1, .int q1, .int r1])) F' σ H' := S1.afterT hi rfl ra' A f' h1 ⟨_, h0⟩ (fun ad' z e => by subst e; exact ⟨ra', f', h00, _, h1, .cons (.int _) (.cons (.int _) (.cons (.int _) .nil))⟩) rfl nh
      cases rs with
      | d x => exact kk (.d x) _ F' H' v A.ff (hq' _ _ _ ok1) ⟨go, R⟩
      | own xs =>
        obtain ⟨p, ws, rfl, f, hp0, h', r⟩ := R
        refine kk (.own xs) _ F' H' _ A.ff (hq' _ _ _ ok1) ⟨p, ws, rfl, ?_, h', r⟩
        have npa : p ≠ ad i := fun z => by rw [z, h0] at hp0; cases hp0
        have A2 : After F1 F' H1 (del H' p) (some (ad i)) := ⟨A.ff, fun b o e => by
          have nb : b ≠ p := fun z => by rw [z, f] at e; cases e
          rw [del_ne nb]; exact A.fh b o e, fun b o e t => by
          have nb : b ≠ p := ne_of_none e hp0
          rw [del_ne nb]; exact A.keep b o e t, A.fr⟩
        have h1' : del H' p (ad i) = some (.lst [.int p1, .int q1, .int r1]) := by rw [del_ne npa.symm]; exact h1
        exact S1.afterT hi rfl ra' A2 f' h1' ⟨_, h0⟩ (fun ad' z e => by subst e; exact ⟨ra', f', h00, _, h1', .cons (.int _) (.cons (.int _) (.cons (.int _) .nil))⟩) rfl nh
theorem ae_callT (G : FnT X.X0.prog X.X0.w X.X0.K X.X0.mg X.X0.base x ps k tsp) (hr : Room k X.X0.A ∧ X.X0.A.guards = some []) (hta : AA X (e :: es) ta) (hg : ∀ j, Gl (X.X j) x := by intro _; rfl) (hdb : (x == ("__debug__" : Str)) = false := by decide)
    (he : ∀ j, starEach (e :: es) (X.X j).env = (false, eval e (X.X j).env) :: starEach es (X.X j).env := by intro _; rfl) (hpl : ∀ j, (backTo pos (starEach es (X.X j).env)).any (·.1) = false := by intro _; rfl) :
    AE X (.Call (.Name x p) (e :: es) [] pos) fun ρ q => ta ρ fun as ρ1 => drawn tsp (fun rs => q rs.dat) as ρ1 := by
  obtain ⟨f, fd, hm, hk, hb, F⟩ := G.ex
  obtain ⟨_, a1, a2⟩ := hta.ex
  refine ⟨_, fun j => pe_fn j hm hk hb F hr (hg j) (a1 j) hdb (he j) (hpl j), fun W ρ F σ H Q q hk S ht kk => a2 W ρ F σ H _ _ hk S ht fun as ρ1 F1 vs H1 S1 e1 r1 q1 => ?_⟩
  refine drawn_sem hk S1 r1 q1 fun rs ρ2 F' H' v e2 hq R => ?_
  cases rs with
  | d x => exact kk x ρ2 F' v H' R.1 (e1.trans e2) R.2 hq
  | own xs =>
    obtain ⟨p, ws, rfl, S2, h', r⟩ := R
    exact kk _ ρ2 _ _ H' (S2.freeze h') ((e1.trans e2).trans (S2.frozen h')) (.lst (SqL.of upd_same) (dpAll_mono (S2.frozen h') r)) hq
theorem al_callT (G : FnT X.X0.prog X.X0.w X.X0.K X.X0.mg X.X0.base x ps k tsp) (hr : Room k X.X0.A ∧ X.X0.A.guards = some []) (hta : AA X (e :: es) ta) (hg : ∀ j, Gl (X.X j) x := by intro _; rfl) (hdb : (x == ("__debug__" : Str)) = false := by decide)
    (he : ∀ j, starEach (e :: es) (X.X j).env = (false, eval e (X.X j).env) :: starEach es (X.X j).env := by intro _; rfl) (hpl : ∀ j, (backTo pos (starEach es (X.X j).env)).any (·.1) = false := by intro _; rfl) :
    AL X (.Call (.Name x p) (e :: es) [] pos) fun ρ q => ta ρ fun as ρ1 => drawn tsp (fun rs ρ2 => ∃ xs, rs = .own xs ∧ q xs ρ2) as ρ1 := by
  obtain ⟨f, fd, hm, hk, hb, F⟩ := G.ex
  obtain ⟨_, a1, a2⟩ := hta.ex
  refine ⟨_, fun j => pe_fn j hm hk hb F hr (hg j) (a1 j) hdb (he j) (hpl j), fun W ρ F σ H Q q hk S ht kk => a2 W ρ F σ H _ _ hk S ht fun as ρ1 F1 vs H1 S1 e1 r1 q1 => ?_⟩
  refine drawn_sem hk S1 r1 q1 fun rs ρ2 F' H' v e2 hq R => ?_
  obtain ⟨xs, rfl, hq⟩ := hq
  obtain ⟨p, ws, rfl, S2, h', r⟩ := R
  exact kk xs ρ2 F' p ws H' S2 h' (e1.trans e2) r hq
end

/-! ### the rule for a def -/
section
variable {P : Program} {w : World} {K : PySem.W.Frag} {mg : Str → Option Value} {base : Heap} {x qual : Str} {st : Stmt} {f : Addr} {fd : FuncData} {N ps : List Str} {k : Nat}
abbrev famOf (P : Program) (w : World) (K : PySem.W.Frag) (mg : Str → Option Value) (base : Heap) (N : List Str) (qual : Str) (st : Stmt) (f : Addr) (cdv : Value) (A : Around) (outer : List Env) (s : Shared) (H : Hp) (E : XK) : Fam :=
  Fam.one (cxOf CX0 P w K mg base N qual (defScope st) f cdv A outer s H E).nox
def startA (N : List Str) (ds : List PyData) : List AV := ds.map .d ++ List.replicate (N.length - ds.length) .no
def startT (N : List Str) (n : Nat) (ds : List PyData) : List AV := .tank n :: (ds.map .d ++ List.replicate (N.length - (ds.length + 1)) .no)
def endsP (q : Rs → Prop) : AEnds := { nx := fun _ => q (.d .none), rt := fun d _ => q (.d d), ro := fun xs _ => q (.own xs) }
def endsT (q : Nat → Rs → Prop) : AEnds := { nx := fun ρ => ∃ m, ρ[0]? = some (.tank m) ∧ q m (.d .none), rt := fun d ρ => ∃ m, ρ[0]? = some (.tank m) ∧ q m (.d d), ro := fun xs ρ => ∃ m, ρ[0]? = some (.tank m) ∧ q m (.own xs) }
theorem start_at {N : List Str} {vs : List V} {i : Nat} {v : V} (h : vs[i]? = some v) : (L2.start N vs)[i]? = some (some v) := by
  unfold L2.start
  have hi : i < (vs.map some).length := by rw [List.length_map]; exact (List.getElem?_eq_some_iff.mp h).1
  rw [List.getElem?_append_left hi, List.getElem?_map, h]; rfl
theorem sto_startP {K : KW} {F H : Hp} {vs : List V} {ds : List PyData} (h : Same F H) (r : DpAll K F vs ds) : Sto ⟨K, H, F, none⟩ (startA N ds) F (L2.start N vs) H := by
  refine ⟨h, Same.refl F, fun b o e => .inl ⟨o, e⟩, fun b o e _ => e, (fun b o t => by cases t), ⟨fun _ => 0, fun i y e => ?_, fun i j y z e1 e2 v1 => ?_⟩, ?_, fun t e => by cases e⟩
  · unfold startA at e
    by_cases hi : i < (ds.map AV.d).length
    · rw [List.getElem?_append_left hi, List.getElem?_map] at e
      cases hd : ds[i]? with
      | none => rw [hd] at e; cases e
      | some d =>
        rw [hd] at e
        cases e
        obtain ⟨v, h1, h2⟩ := dpAll_get r hd
        exact ⟨v, start_at h1, h2⟩
    · rw [List.getElem?_append_right (by omega)] at e
      obtain rfl := List.eq_of_mem_replicate (List.mem_of_getElem? e)
      trivial
  · unfold startA at e1
    by_cases hi : i < (ds.map AV.d).length
    · rw [List.getElem?_append_left hi, List.getElem?_map] at e1
      cases hd : ds[i]? with
      | none => rw [hd] at e1; cases e1
      | some d => rw [hd] at e1; cases e1; cases v1
    · rw [List.getElem?_append_right (by omega)] at e1
      obtain rfl := List.eq_of_mem_replicate (List.mem_of_getElem? e1)
      cases v1
  · unfold startA L2.start
    rw [List.length_append, List.length_append, List.length_map, List.length_map, List.length_replicate, List.length_replicate, dpAll_len r]
theorem Fun.okG {sp : Sp} (F : Fun K x qual st f fd) (S : FnScope N ps (defScope st)) (len : ∀ vs H Q E, sp vs H Q E → vs.length = ps.length)
    (hbody : ∀ (cdv : Value) (A : Around) (outer : List Env) (s : Shared) (H : Hp) (vs : List V) (Q : VK) (E : XK), Room k (A.deeper (envOfC qual (defScope st) s.heap.objs.size f cdv)) → A.guards = some [] → sp vs H Q E →
      ∃ t, PSs (cxOf CX0 P w K mg base N qual (defScope st) f cdv A outer s H E).nox (defBody st) t ∧ t { nx := fun _ H' => Q .non H', rt := Q } (L2.start N vs) H) : FnG P w K mg base (k + 1) f fd ps sp := by
  obtain ⟨oc, od, kV, doc, pm, an, cdv, ct, osl, rfl, lk, hcd⟩ := F.ex
  refine fn_ofG lk hcd S len fun A outer s H vs Q E hr hg hsp => ?_
  obtain ⟨t, h, q⟩ := hbody cdv A outer s H vs Q E hr hg hsp
  exact ⟨t, h.nox, q⟩
theorem fnP {asp : PSp} (F : Fun K x qual st f fd) (S : FnScope N ps (defScope st)) (ar : ∀ ds q, asp ds q → ds.length = ps.length) (hbd : Binds K fd ps []) (hmg : mg x = some (.ref f))
    (body : ∀ (cdv : Value) (A : Around) (outer : List Env) (s : Shared) (H : Hp) (E : XK), Room k (A.deeper (envOfC qual (defScope st) s.heap.objs.size f cdv)) ∧ (A.deeper (envOfC qual (defScope st) s.heap.objs.size f cdv)).guards = some [] →
      ∃ t, ASs (famOf P w K mg base N qual st f cdv A outer s H E) (defBody st) t ∧ ∀ ds q, asp ds q → t (endsP q) (startA N ds)) : FnP P w K mg base x ps (k + 1) asp := by
  refine ⟨f, fd, hmg, F.kp, hbd, Fun.okG F S (fun vs H Q E h => ?_) fun cdv A outer s H vs Q E hr hgd h => ?_⟩
  · obtain ⟨F', ds, q, _, r, a, _⟩ := h
    rw [dpAll_len r]; exact ar ds q a
  · obtain ⟨F', ds, q, hs, r, a, kk⟩ := h
    obtain ⟨t, T, ht⟩ := body cdv A outer s H E ⟨hr, hgd⟩
    obtain ⟨ts, t1, t2⟩ := T.ex
    refine ⟨ts, t1 (), t2 ⟨⟨K, w, P⟩, H, F', none⟩ _ F' _ H _ (endsP q) rfl (sto_startP hs r) (ht ds q a) ?_⟩
    have af : ∀ {ρ' F2 σ' H'}, Sto ⟨⟨K, w, P⟩, H, F', none⟩ ρ' F2 σ' H' → After F' F2 H H' none := fun {ρ' F2 σ' H'} S' => ⟨S'.base, S'.sub, fun b o e _ => S'.keep b o e (by intro z; cases z), S'.fr⟩
    refine ⟨fun ρ' F2 σ' H' S' e hq => ?_, fun _ _ _ _ _ _ z => z.elim, fun _ _ _ _ _ _ z => z.elim, fun d ρ' F2 σ' v H' S' e r hq => ?_, fun xs ρ' F2 σ' p vs H' S' hp e r hq => ?_⟩
    · exact kk (.d .none) .non H' F2 hq (af S') .non
    · exact kk (.d d) v H' F2 hq (af S') r
    · have A1 := af S'
      refine kk (.own xs) (.ref p) H' F2 hq ⟨A1.ff, A1.fh.trans same_del, fun b o e t => same_del _ _ (A1.keep b o e t), A1.fr⟩ ⟨p, vs, rfl, S'.f0 del_same, S'.h0 del_same, hp, r⟩
theorem sto_startT {K : KW} {F H : Hp} {vs : List V} {ds : List PyData} {a : Addr} {n : Nat} (h : Same F H) (fa : F a = none) (ta : TankAt H a n) (r : DpAll K F vs ds) : Sto ⟨K, H, F, some a⟩ (startT N n ds) F (L2.start N (.ref a :: vs)) H := by
  obtain ⟨p, q, r0, h0, ok⟩ := ta
  have cs : ∀ {i y}, (startT N n ds)[i]? = some y → (i = 0 ∧ y = .tank n) ∨ y = .no ∨ ∃ j d, i = j + 1 ∧ ds[j]? = some d ∧ y = .d d := fun {i y} e => by
    cases i with
    | zero => cases e; exact .inl ⟨rfl, rfl⟩
    | succ i =>
      have e : (ds.map AV.d ++ List.replicate (N.length - (ds.length + 1)) AV.no)[i]? = some y := e
      by_cases hi : i < (ds.map AV.d).length
      · rw [List.getElem?_append_left hi, List.getElem?_map] at e
        cases hd : ds[i]? with
        | none => rw [hd] at e; cases e
        | some d => rw [hd] at e; cases e; exact .inr (.inr ⟨i, d, rfl, hd, rfl⟩)
      · rw [List.getElem?_append_right (by omega)] at e
        exact .inr (.inl (List.eq_of_mem_replicate (List.mem_of_getElem? e)))
  refine ⟨h, Same.refl F, fun b o e => .inl ⟨o, e⟩, fun b o e _ => e, fun b o t e => ⟨o, e⟩, ⟨fun _ => a, fun i y e => ?_, fun i j y z e1 e2 v1 v2 ne => ?_⟩, ?_, fun t e => by cases e; show H a ≠ none; rw [h0]; intro z; cases z⟩
  · rcases cs e with ⟨rfl, rfl⟩ | rfl | ⟨j, d, rfl, hd, rfl⟩
    · exact ⟨rfl, fa, rfl, p, q, r0, h0, ok⟩
    · trivial
    · obtain ⟨v, h1, h2⟩ := dpAll_get r hd
      exact ⟨v, start_at (by simpa using h1), h2⟩
  · rcases cs e1 with ⟨rfl, rfl⟩ | rfl | ⟨_, d, _, _, rfl⟩
    · rcases cs e2 with ⟨rfl, rfl⟩ | rfl | ⟨_, d, _, _, rfl⟩
      · exact absurd rfl ne
      · cases v2
      · cases v2
    · cases v1
    · cases v1
  · unfold startT L2.start
    simp only [List.length_append, List.length_map, List.length_replicate, List.length_cons, dpAll_len r]
    omega
theorem fnT {asp : TSp} (F : Fun K x qual st f fd) (S : FnScope N ps (defScope st)) (ar : ∀ n ds q, asp n ds q → ds.length + 1 = ps.length) (hbd : Binds K fd ps []) (hmg : mg x = some (.ref f))
    (body : ∀ (cdv : Value) (A : Around) (outer : List Env) (s : Shared) (H : Hp) (E : XK), Room k (A.deeper (envOfC qual (defScope st) s.heap.objs.size f cdv)) ∧ (A.deeper (envOfC qual (defScope st) s.heap.objs.size f cdv)).guards = some [] →
      ∃ t, ASs (famOf P w K mg base N qual st f cdv A outer s H E) (defBody st) t ∧ ∀ n ds q, asp n ds q → t (endsT q) (startT N n ds)) : FnT P w K mg base x ps (k + 1) asp := by
  refine ⟨f, fd, hmg, F.kp, hbd, Fun.okG F S (fun vs H Q E h => ?_) fun cdv A outer s H vs Q E hr hgd h => ?_⟩
  · obtain ⟨F', a, vs', n, ds, q, rfl, _, _, _, r, a', _⟩ := h
    rw [List.length_cons, dpAll_len r]; exact ar n ds q a'
  · obtain ⟨F', a, vs', n, ds, q, rfl, hs, fa, ta, r, a', kk⟩ := h
    obtain ⟨t, T, ht⟩ := body cdv A outer s H E ⟨hr, hgd⟩
    obtain ⟨ts, t1, t2⟩ := T.ex
    refine ⟨ts, t1 (), t2 ⟨⟨K, w, P⟩, H, F', some a⟩ _ F' _ H _ (endsT q) rfl (sto_startT hs fa ta r) (ht n ds q a') ?_⟩
    have af : ∀ {ρ' F2 σ' H'}, Sto ⟨⟨K, w, P⟩, H, F', some a⟩ ρ' F2 σ' H' → After F' F2 H H' (some a) := fun {ρ' F2 σ' H'} S' => ⟨S'.base, S'.sub, fun b o e t => S'.keep b o e t, S'.fr⟩
    have tk : ∀ {ρ' F2 σ' H' m}, Sto ⟨⟨K, w, P⟩, H, F', some a⟩ ρ' F2 σ' H' → ρ'[0]? = some (.tank m) → F2 a = none ∧ TankAt H' a m := fun {ρ' F2 σ' H' m} S' e => by
      obtain ⟨ad, hs, _⟩ := S'.slots
      obtain ⟨_, f, ta, p, q, r, h, ok⟩ := hs 0 _ e
      cases (show some a = some (ad 0) from ta)
      exact ⟨f, p, q, r, h, ok⟩
    refine ⟨fun ρ' F2 σ' H' S' e hq => ?_, fun _ _ _ _ _ _ z => z.elim, fun _ _ _ _ _ _ z => z.elim, fun d ρ' F2 σ' v H' S' e r hq => ?_, fun xs ρ' F2 σ' p vs H' S' hp e r hq => ?_⟩
    · obtain ⟨m, e0, hq⟩ := hq
      obtain ⟨f, t⟩ := tk S' e0
      exact kk m (.d .none) .non H' F2 hq (af S') f t .non
    · obtain ⟨m, e0, hq⟩ := hq
      obtain ⟨f, t⟩ := tk S' e0
      exact kk m (.d d) v H' F2 hq (af S') f t r
    · obtain ⟨m, e0, hq⟩ := hq
      obtain ⟨f, p1, q1, r1, h1, ok⟩ := tk S' e0
      have A1 := af S'
      exact kk m (.own xs) (.ref p) H' F2 hq ⟨A1.ff, A1.fh.trans same_del, fun b o e t => same_del _ _ (A1.keep b o e t), A1.fr⟩ f ⟨p1, q1, r1, (del_some h1).2, ok⟩ ⟨p, vs, rfl, S'.f0 del_same, S'.h0 del_same, hp, r⟩
end
end OS

/-! OSdc: dicts as data: what they hold, reading and writing them. -/
namespace OS
open PySem L2 PySem.Spec PyProof.Rows

/-! ### plain tables -/
def keyQ (a b : PyData) : Bool := match keyOf a, keyOf b with
  | some x, some y => decide (x = y)
  | _, _ => false
def dGet (kvs : List (PyData × PyData)) (k : PyData) : Option PyData := (kvs.find? fun kv => keyQ kv.1 k).map (·.2)
def dPut (kvs : List (PyData × PyData)) (k v : PyData) : List (PyData × PyData) := if (kvs.any fun kv => keyQ kv.1 k) = true then kvs.map (fun kv => if keyQ kv.1 k = true then (kv.1, v) else kv) else kvs ++ [(k, v)]
def dFit (kvs : List (PyData × PyData)) (k : PyData) : Prop := (flatK k = true ∧ kvs.all (fun kv => flatK kv.1) = true) ∨ (tupK k = true ∧ kvs.all (fun kv => tupK kv.1) = true)
theorem flatK_ex {d : PyData} (h : flatK d = true) : ∃ k : Key, d = keyP k := by
  cases d <;> first | exact ⟨.inl _, rfl⟩ | exact ⟨.inr _, rfl⟩ | cases h
theorem tupK_ex {d : PyData} (h : tupK d = true) : ∃ xs k, d = .tuple xs ∧ keyOf (.tuple xs) = some k ∧ k.depth ≤ 8 := by
  cases d with
  | tuple xs =>
    have h : (match keyOfAll xs with
      | some ks => decide (NestedKey.depth (.tup ks) ≤ 8)
      | none => false) = true := h
    cases e : keyOfAll xs with
    | none => rw [e] at h; cases h
    | some ks =>
      rw [e] at h
      exact ⟨xs, .tup ks, rfl, by rw [keyOf, e]; rfl, of_decide_eq_true h⟩
  | _ => cases h
theorem tupK_of {xs : List PyData} {k : NestedKey} (h : keyOf (.tuple xs) = some k) (hd : k.depth ≤ 8) : tupK (.tuple xs) = true := by
  rw [keyOf] at h
  obtain ⟨ks, e, rfl⟩ := Option.map_eq_some_iff.mp h
  show (match keyOfAll xs with
      | some ks => decide (NestedKey.depth (.tup ks) ≤ 8)
      | none => false) = true
  rw [e]
  exact decide_eq_true hd
theorem flatK_P (k : Key) : flatK (keyP k) = true := by cases k <;> rfl
theorem not_both {d : PyData} (h : flatK d = true) (h' : tupK d = true) : False := by cases d <;> first | (simp [flatK] at h; done) | (simp [tupK] at h'; done)
theorem keyQ_of {a b : PyData} {x y : NestedKey} (h : keyOf a = some x) (h' : keyOf b = some y) : keyQ a b = decide (x = y) := by unfold keyQ; rw [h, h']
theorem none_both {kvs : List (PyData × PyData)} (h : kvs.all (fun kv => flatK kv.1) = true) (h' : kvs.all (fun kv => tupK kv.1) = true) : kvs = [] := by
  cases kvs with
  | nil => rfl
  | cons x r =>
    rw [List.all_cons, Bool.and_eq_true] at h h'
    exact (not_both h.1 h'.1).elim
theorem dPut_ne (kvs : List (PyData × PyData)) (k v : PyData) : dPut kvs k v ≠ [] := by
  unfold dPut
  split
  · rename_i h
    cases kvs with
    | nil => cases h
    | cons x L => exact fun z => by cases z
  · exact fun z => by cases kvs <;> cases z
theorem dPut_len (kvs : List (PyData × PyData)) (k v : PyData) : (dPut kvs k v).length ≤ kvs.length + 1 := by
  unfold dPut
  split
  · rw [List.length_map]; omega
  · rw [List.length_append]; exact Nat.le_refl _
def nk : Key → NestedKey
  | .inl i => .num i
  | .inr x => .text x
theorem keyOf_P (k : Key) : keyOf (keyP k) = some (nk k) := by cases k <;> rfl
theorem nk_inj {a b : Key} (h : nk a = nk b) : a = b := by cases a <;> cases b <;> cases h <;> rfl
theorem nk_eq (a b : Key) : decide (nk a = nk b) = decide (a = b) := by
  by_cases h : a = b
  · subst h; simp
  · rw [decide_eq_false h, decide_eq_false fun z => h (nk_inj z)]
def lGet (L : DL) (k : NestedKey) : Option V := (L.find? fun x => decide (x.1 = k)).map (·.2.2)
def lPut (L : DL) (k : NestedKey) (y v : V) : DL := if (L.any fun x => decide (x.1 = k)) = true then L.map (fun x => if x.1 = k then (x.1, x.2.1, v) else x) else L ++ [(k, y, v)]
theorem lPut_len (L : DL) (k : NestedKey) (y v : V) : (lPut L k y v).length ≤ L.length + 1 := by
  unfold lPut
  split
  · rw [List.length_map]; omega
  · rw [List.length_append]; exact Nat.le_refl _
section
variable {K : KW} {H : Hp}
theorem dpL_len : ∀ {L : DL} {kvs : List (PyData × PyData)}, DpL K H L kvs → L.length = kvs.length
  | _, _, .nil => rfl
  | _, _, .cons _ _ _ _ r => congrArg (· + 1) (dpL_len r)
theorem dpL_get {q : PyData} {k : NestedKey} (hk : keyOf q = some k) : ∀ {L : DL} {kvs : List (PyData × PyData)}, DpL K H L kvs → (lGet L k).isSome = (dGet kvs q).isSome ∧ ∀ d, dGet kvs q = some d → ∃ v, lGet L k = some v ∧ Dp K H v d
  | _, _, .nil => ⟨rfl, fun _ h => by cases h⟩
  | _, _, .cons (k := j) _ a _ b r => by
    obtain ⟨h1, h2⟩ := dpL_get hk r
    unfold dGet lGet at h1 h2 ⊢
    rw [List.find?_cons, List.find?_cons]
    dsimp only
    rw [keyQ_of a hk]
    by_cases e : j = k
    · rw [decide_eq_true e]
      exact ⟨rfl, fun d h => by cases h; exact ⟨_, rfl, b⟩⟩
    · rw [decide_eq_false e]
      exact ⟨h1, h2⟩
theorem dpL_any {q : PyData} {k : NestedKey} (hk : keyOf q = some k) : ∀ {L : DL} {kvs : List (PyData × PyData)}, DpL K H L kvs → (L.any fun x => decide (x.1 = k)) = kvs.any fun kv => keyQ kv.1 q
  | _, _, .nil => rfl
  | _, _, .cons _ a _ _ r => by rw [List.any_cons, List.any_cons, dpL_any hk r, keyQ_of a hk]
theorem dpL_app : ∀ {L M : DL} {kvs lws : List (PyData × PyData)}, DpL K H L kvs → DpL K H M lws → DpL K H (L ++ M) (kvs ++ lws)
  | _, _, _, _, .nil, h => h
  | _, _, _, _, .cons a b c d r, h => .cons a b c d (dpL_app r h)
theorem dpL_swap {q : PyData} {k : NestedKey} (hk : keyOf q = some k) {v : V} {d : PyData} (rv : Dp K H v d) : ∀ {L : DL} {kvs : List (PyData × PyData)}, DpL K H L kvs → DpL K H (L.map fun x => if x.1 = k then (x.1, x.2.1, v) else x) (kvs.map fun kv => if keyQ kv.1 q = true then (kv.1, d) else kv)
  | _, _, .nil => .nil
  | _, _, .cons (k := j) a b c d r => by
    rw [List.map_cons, List.map_cons]
    dsimp only
    rw [keyQ_of b hk]
    by_cases e : j = k
    · rw [if_pos e, if_pos (decide_eq_true e)]; exact .cons a b c rv (dpL_swap hk rv r)
    · rw [if_neg e, if_neg (by rw [decide_eq_false e]; exact Bool.false_ne_true)]; exact .cons a b c d (dpL_swap hk rv r)
theorem dpL_put {L : DL} {kvs : List (PyData × PyData)} {k : NestedKey} {q : PyData} {y v : V} {d : PyData} (r : DpL K H L kvs) (rk : Dp K H y q) (hk : keyOf q = some k) (hf : (flatK q || tupK q) = true) (rv : Dp K H v d) :
    DpL K H (lPut L k y v) (dPut kvs q d) := by
  unfold lPut dPut
  rw [dpL_any hk r]
  split
  · exact dpL_swap hk rv r
  · exact dpL_app r (.cons rk hk hf rv .nil)
theorem dp_kV {y : V} {k : Key} (h : Dp K H y (keyP k)) : y = kV k := by
  cases k with
  | inl i => cases h; rfl
  | inr x => cases h; rfl
end

/-! ### reading the heap -/
mutual
theorem key_is {h : Heap} : ∀ (d : PyData) (v : Value) (k : NestedKey) (as : List Addr), Reads h v d as → keyOf d = some k → NestedIs h k v ∧ as = []
  | .none, _, _, _, r, e => by cases r; cases e; exact ⟨.none, rfl⟩
  | .bool b, _, _, _, r, e => by cases r; cases e; exact ⟨.bool rfl, rfl⟩
  | .int i, _, _, _, r, e => by cases r; cases e; exact ⟨.int _ _, rfl⟩
  | .str x, _, _, _, r, e => by cases r; cases e; exact ⟨.text _ _, rfl⟩
  | .tuple xs, _, k, as, r, e => by
    unfold keyOf at e
    obtain ⟨ks, e1, rfl⟩ := Option.map_eq_some_iff.mp e
    cases r with
    | tuple h1 h2 h3 h4 =>
      obtain ⟨a, b⟩ := keys_are xs _ ks as h4 e1
      exact ⟨.tup h1 h2 h3 a, b⟩
  | .list _, _, _, _, _, e => by cases e
  | .dict _, _, _, _, _, e => by cases e
theorem keys_are {h : Heap} : ∀ (ds : List PyData) (vs : List Value) (ks : List NestedKey) (as : List Addr), ReadsAll h vs ds as → keyOfAll ds = some ks → NestedAll h ks vs ∧ as = []
  | [], _, _, _, r, e => by cases r; cases e; exact ⟨.nil, rfl⟩
  | d :: ds, _, ks, _, r, e => by
    unfold keyOfAll at e
    split at e
    · rename_i k ks' e1 e2
      cases e
      cases r with
      | cons r1 r2 =>
        obtain ⟨a1, b1⟩ := key_is d _ k _ r1 e1
        obtain ⟨a2, b2⟩ := keys_are ds _ ks' _ r2 e2
        exact ⟨.cons a1 a2, by rw [b1, b2]; rfl⟩
    · cases e
end
theorem dObj_of {P : Program} {w : World} {H : Hp} {h : Heap} {a : Addr} {ob : Obj} {L : DL} (ok : HOk P w H h) (e : H a = some (DObj w a ob L)) : DAt w a ob L h := (ok a _ e).1
theorem dObj_new {P : Program} {w : World} {H : Hp} {h : Heap} {a : Addr} {ob : Obj} {L : DL} (R : DAt w a ob L h) : ObjOk P w H h a (DObj w a ob L) := ⟨R, ⟨ob, R.get⟩, fun _ _ p k => ⟨k _ p.get, p.ex, p.sys, p.len, p.nd, p.ent⟩⟩
abbrev kw (X : Cx) : KW := ⟨X.K, X.w, X.prog⟩
section
variable {X : Cx} {pins : List (Addr × Obj)} {σ : L2.St} {H : Hp} {s : Shared}
mutual
theorem Dp.reads (I : Inv X pins σ H s) : ∀ {v : V} {d : PyData} {u : Value}, Dp (kw X) H v d → RelV v u → ∃ as, Reads s.heap u d as
  | _, _, _, .non, r => by cases r; exact ⟨_, .none⟩
  | _, _, _, .bl b, r => by cases r; exact ⟨_, .bool b⟩
  | _, _, _, .int i, r => by obtain ⟨t, rfl⟩ := r; exact ⟨_, .int i t⟩
  | _, _, _, .str x, r => by obtain ⟨t, rfl⟩ := r; exact ⟨_, .str x t⟩
  | _, _, _, .lst hs ha, r => by
    cases r
    obtain ⟨its, rv, ⟨o, n, ho, hc, _, hd⟩, _⟩ := I.list hs
    obtain ⟨as, q⟩ := DpAll.reads I ha rv
    exact ⟨_, .list ho hc hd q⟩
  | _, _, _, .tup hs ha _, r => by
    cases r
    obtain ⟨its, rv, ⟨o, ho, hc, n, hd⟩, _⟩ := I.tuple hs
    obtain ⟨as, q⟩ := DpAll.reads I ha rv
    exact ⟨_, .tuple ho hc hd q⟩
  | _, _, _, .dct e dp, r => by
    cases r
    have n := dObj_of I.hok e
    obtain ⟨es, ep, hd, pr⟩ := n.ent
    obtain ⟨⟨as, q1⟩, bs, q2⟩ := DpL.reads I dp pr
    exact ⟨_, .dict n.get n.ex.1 hd q1 q2⟩
theorem DpAll.reads (I : Inv X pins σ H s) : ∀ {vs : List V} {ds : List PyData} {us : List Value}, DpAll (kw X) H vs ds → Vals vs us → ∃ as, ReadsAll s.heap us ds as
  | _, _, _, .nil, r => by cases r; exact ⟨_, .nil⟩
  | _, _, _, .cons h1 h2, r => by
    cases r with
    | cons r1 r2 =>
      obtain ⟨as, q1⟩ := Dp.reads I h1 r1
      obtain ⟨bs, q2⟩ := DpAll.reads I h2 r2
      exact ⟨_, .cons q1 q2⟩
theorem DpL.reads (I : Inv X pins σ H s) : ∀ {L : DL} {kvs : List (PyData × PyData)} {es : List DictEntry}, DpL (kw X) H L kvs → Paired (EntOk X.w) L es → (∃ as, ReadsAll s.heap (es.map (·.key)) (kvs.map (·.1)) as) ∧ ∃ bs, ReadsAll s.heap (es.map (·.val)) (kvs.map (·.2)) bs
  | _, _, _, .nil, r => by cases r; exact ⟨⟨_, .nil⟩, _, .nil⟩
  | _, _, _, .cons h1 _ _ h2 h3, r => by
    cases r with
    | cons r1 r2 =>
      obtain ⟨⟨as, q1⟩, bs, q2⟩ := DpL.reads I h3 r2
      obtain ⟨cs, q3⟩ := Dp.reads I h1 r1.1
      obtain ⟨ds, q4⟩ := Dp.reads I h2 r1.2.1
      exact ⟨⟨_, .cons q3 q1⟩, _, .cons q4 q2⟩
end
/-- a key that is a tuple -/
theorem key_at (I : Inv X pins σ H s) {b : Addr} {xs : List PyData} {k : NestedKey} (r : Dp (kw X) H (.ref b) (.tuple xs)) (e : keyOf (.tuple xs) = some k) (hd : k.depth ≤ 8) : (nestedKind X.prog X.w).is s.heap k b := by
  obtain ⟨as, q⟩ := Dp.reads I r (u := .ref b) rfl
  exact ⟨(key_is _ _ k as q e).1, hd⟩
/-! the entries, keys that are flat, keys that are tuples -/
abbrev FEnt : DL → List (Key × Value) → Prop := Paired fun p q => p.1 = nk q.1 ∧ p.2.1 = kV q.1 ∧ RelV p.2.2 q.2
abbrev TEnt : DL → List (NestedKey × Addr × Value) → Prop := Paired fun p q => p.1 = q.1 ∧ p.2.1 = .ref q.2.1 ∧ RelV p.2.2 q.2.2
theorem fEnt_get {k : Key} : ∀ {L : DL} {vs : List (Key × Value)}, FEnt L vs → RelO (lGet L (nk k)) (valueAt vs k)
  | _, _, .nil => trivial
  | p :: L, q :: vs, .cons a r => by
    have ih := fEnt_get (k := k) r
    unfold lGet valueAt at ih ⊢
    rw [List.find?_cons, List.find?_cons, a.1, nk_eq]
    by_cases e : q.1 = k
    · rw [decide_eq_true e]; exact a.2.2
    · rw [decide_eq_false e]; exact ih
theorem fEnt_any {k : Key} : ∀ {L : DL} {vs : List (Key × Value)}, FEnt L vs → (L.any fun x => decide (x.1 = nk k)) = vs.any fun kv => decide (kv.1 = k)
  | _, _, .nil => rfl
  | p :: L, q :: vs, .cons a r => by rw [List.any_cons, List.any_cons, fEnt_any r, a.1, nk_eq]
theorem fEnt_app : ∀ {L M : DL} {xs ys : List (Key × Value)}, FEnt L xs → FEnt M ys → FEnt (L ++ M) (xs ++ ys)
  | _, _, _, _, .nil, h => h
  | _, _, _, _, .cons a b, h => .cons a (fEnt_app b h)
theorem fEnt_swap {k : Key} {v : V} {u : Value} (rv : RelV v u) : ∀ {L : DL} {vs : List (Key × Value)}, FEnt L vs → FEnt (L.map fun x => if x.1 = nk k then (x.1, x.2.1, v) else x) (vs.map fun kv => if kv.1 = k then (kv.1, u) else kv)
  | _, _, .nil => .nil
  | p :: L, q :: vs, .cons a r => by
    rw [List.map_cons, List.map_cons]
    refine .cons ?_ (fEnt_swap rv r)
    by_cases e : q.1 = k
    · rw [if_pos e, if_pos (a.1.trans (congrArg nk e))]; exact ⟨a.1, a.2.1, rv⟩
    · rw [if_neg e, if_neg fun z => e (nk_inj (a.1.symm.trans z))]; exact a
theorem fEnt_put {k : Key} {v : V} {u : Value} (rv : RelV v u) {L : DL} {vs : List (Key × Value)} (r : FEnt L vs) : FEnt (lPut L (nk k) (kV k) v) (stored vs k u) := by
  unfold lPut stored
  rw [fEnt_any r]
  split
  · exact fEnt_swap rv r
  · exact fEnt_app r (.cons ⟨rfl, rfl, rv⟩ .nil)
theorem tEnt_get {k : NestedKey} : ∀ {L : DL} {xs : List (NestedKey × Addr × Value)}, TEnt L xs → RelO (lGet L k) ((atKey xs k).map (·.2))
  | _, _, .nil => trivial
  | p :: L, q :: xs, .cons a r => by
    have ih := tEnt_get (k := k) r
    unfold lGet atKey at ih ⊢
    rw [List.find?_cons, List.find?_cons, a.1]
    by_cases e : q.1 = k
    · rw [decide_eq_true e]; exact a.2.2
    · rw [decide_eq_false e]; exact ih
theorem tEnt_any {k : NestedKey} : ∀ {L : DL} {xs : List (NestedKey × Addr × Value)}, TEnt L xs → (L.any fun x => decide (x.1 = k)) = (atKey xs k).isSome
  | _, _, .nil => rfl
  | p :: L, q :: xs, .cons a r => by
    have ih := tEnt_any (k := k) r
    unfold atKey at ih ⊢
    rw [List.any_cons, ih, List.find?_cons, a.1]
    by_cases e : q.1 = k
    · rw [decide_eq_true e]; rfl
    · rw [decide_eq_false e]; rfl
theorem tEnt_app : ∀ {L M : DL} {xs ys : List (NestedKey × Addr × Value)}, TEnt L xs → TEnt M ys → TEnt (L ++ M) (xs ++ ys)
  | _, _, _, _, .nil, h => h
  | _, _, _, _, .cons a b, h => .cons a (tEnt_app b h)
theorem tEnt_swap {k : NestedKey} {v : V} {u : Value} (rv : RelV v u) : ∀ {L : DL} {xs : List (NestedKey × Addr × Value)}, TEnt L xs → TEnt (L.map fun x => if x.1 = k then (x.1, x.2.1, v) else x) (xs.map (putAt k u))
  | _, _, .nil => .nil
  | p :: L, q :: xs, .cons a r => by
    rw [List.map_cons, List.map_cons]
    refine .cons ?_ (tEnt_swap rv r)
    unfold putAt
    by_cases e : q.1 = k
    · rw [if_pos e, if_pos (a.1.trans e)]; exact ⟨a.1, a.2.1, rv⟩
    · rw [if_neg e, if_neg fun z => e (a.1.symm.trans z)]; exact a
theorem tEnt_put {k : NestedKey} {b : Addr} {v : V} {u : Value} (rv : RelV v u) {L : DL} {xs : List (NestedKey × Addr × Value)} (r : TEnt L xs) : TEnt (lPut L k (.ref b) v) (storedH xs k b u) := by
  unfold lPut storedH
  rw [tEnt_any r]
  split
  · exact tEnt_swap rv r
  · exact tEnt_app r (.cons ⟨rfl, rfl, rv⟩ .nil)
/-! such dicts by the library's words, and back -/
theorem flat_ents {P : Program} {w : World} {K : KW} {F : Hp} : ∀ {L : DL} {kvs : List (PyData × PyData)} {es : List DictEntry}, DpL K F L kvs → kvs.all (fun kv => flatK kv.1) = true → Paired (EntOk w) L es →
    ∃ vs, FEnt L vs ∧ Pairs (mixKind P w) es vs ∧ ∀ e ∈ es, ∃ k, (mixKind P w).is k e.key = true ∧ e.hash = (mixKind P w).hash k
  | _, _, _, .nil, _, .nil => ⟨[], .nil, .nil, fun _ h => by cases h⟩
  | _, _, e :: es, .cons (kd := kd) h1 h2 _ h4 h5, hf, .cons a r => by
    rw [List.all_cons, Bool.and_eq_true] at hf
    obtain ⟨vs, f, p, q⟩ := flat_ents (P := P) h5 hf.2 r
    obtain ⟨k, e0⟩ := flatK_ex hf.1
    have e0 : kd = keyP k := e0
    subst e0
    rw [keyOf_P] at h2
    cases h2
    have ey := dp_kV h1
    have ik : (mixKind P w).is k e.key = true := kV_is (ey ▸ a.1)
    refine ⟨(k, e.val) :: vs, .cons ⟨rfl, ey, a.2.1⟩ f, .cons ik rfl p, fun z hz => ?_⟩
    cases hz with
    | head => exact ⟨k, ik, a.2.2.trans (by cases k <;> rfl)⟩
    | tail _ hz => exact q z hz
theorem fEnt_keys : ∀ {L : DL} {vs : List (Key × Value)}, FEnt L vs → L.map (·.1) = (vs.map (·.1)).map nk
  | _, _, .nil => rfl
  | _, _, .cons a r => by rw [List.map_cons, List.map_cons, List.map_cons, fEnt_keys r, a.1]
theorem tEnt_keys : ∀ {L : DL} {xs : List (NestedKey × Addr × Value)}, TEnt L xs → L.map (·.1) = xs.map (·.1)
  | _, _, .nil => rfl
  | _, _, .cons a r => by rw [List.map_cons, List.map_cons, tEnt_keys r, a.1]
theorem dc_flat (I : Inv X pins σ H s) {F : Hp} {a : Addr} {ob : Obj} {L : DL} {kvs : List (PyData × PyData)} (e : H a = some (DObj X.w a ob L)) (r : DpL (kw X) F L kvs) (hf : kvs.all (fun kv => flatK kv.1) = true) :
    ∃ vs, FEnt L vs ∧ s.heap.DictOf (mixKind X.prog X.w) a vs ∧ L.length ≤ 16777216 ∧ (a == sysModules) = false := by
  have n := dObj_of I.hok e
  obtain ⟨es, ep, hd, pr⟩ := n.ent
  obtain ⟨vs, f, p, q⟩ := flat_ents (P := X.prog) r hf pr
  refine ⟨vs, f, ⟨ob, es, ep, n.get, n.ex, hd, fun e he => q e (Array.mem_toList_iff.mpr he), p, ?_⟩, n.len, n.sys⟩
  have := n.nd
  rw [fEnt_keys f] at this
  exact (List.pairwise_map.mp this).imp fun h z => h (congrArg nk z)
theorem tup_ents (I : Inv X pins σ H s) : ∀ {L : DL} {kvs : List (PyData × PyData)} {es : List DictEntry}, DpL (kw X) H L kvs → kvs.all (fun kv => tupK kv.1) = true → Paired (EntOk X.w) L es →
    ∃ xs, TEnt L xs ∧ es = xs.map (entryOfKey (nestedKind X.prog X.w)) ∧ ∀ x ∈ xs, (nestedKind X.prog X.w).is s.heap x.1 x.2.1
  | _, _, _, .nil, _, .nil => ⟨[], .nil, rfl, fun _ h => by cases h⟩
  | _, _, e :: es, .cons (k := k) (kd := kd) h1 h2 _ h4 h5, hf, .cons a r => by
    rw [List.all_cons, Bool.and_eq_true] at hf
    obtain ⟨xs, f, p, q⟩ := tup_ents I h5 hf.2 r
    obtain ⟨zs, k', e0, hk, hd⟩ := tupK_ex hf.1
    have e0 : kd = .tuple zs := e0
    subst e0
    rw [hk] at h2
    cases h2
    cases h1 with
    | tup t1 t2 t3 =>
      rename_i b ws
      have eb : e.key = .ref b := a.1
      refine ⟨(k, b, e.val) :: xs, .cons ⟨rfl, rfl, a.2.1⟩ f, ?_, fun x hx => ?_⟩
      · rw [List.map_cons, ← p]
        congr 1
        obtain ⟨eh, ek, ev⟩ := e
        have h1 : eh = k.hash X.w := a.2.2
        have h2 : ek = .ref b := eb
        subst h1 h2
        rfl
      · cases hx with
        | head => exact key_at I (.tup t1 t2 t3) hk hd
        | tail _ hx => exact q x hx
theorem dc_tup (I : Inv X pins σ H s) {F : Hp} (sub : Same F H) {a : Addr} {ob : Obj} {L : DL} {kvs : List (PyData × PyData)} (e : H a = some (DObj X.w a ob L)) (r : DpL (kw X) F L kvs) (hf : kvs.all (fun kv => tupK kv.1) = true) :
    ∃ xs, TEnt L xs ∧ s.heap.DictOfH (nestedKind X.prog X.w) a xs ∧ L.length ≤ 16777216 ∧ (a == sysModules) = false := by
  have n := dObj_of I.hok e
  obtain ⟨es, ep, hd, pr⟩ := n.ent
  obtain ⟨xs, f, p, q⟩ := tup_ents I (dpL_mono sub r) hf pr
  have nd := n.nd
  rw [tEnt_keys f] at nd
  exact ⟨xs, f, ⟨ob, es, ep, n.get, n.ex, hd, p, q, nd⟩, n.len, n.sys⟩
theorem back_flat {P : Program} {w : World} : ∀ {L : DL} {vs : List (Key × Value)} {es : List DictEntry}, FEnt L vs → Pairs (mixKind P w) es vs → (∀ e ∈ es, ∃ k, (mixKind P w).is k e.key = true ∧ e.hash = (mixKind P w).hash k) → Paired (EntOk w) L es
  | _, _, _, .nil, .nil, _ => .nil
  | p :: L, q :: vs, e :: es, .cons a r, .cons b1 b2 b3, h => by
    refine .cons ⟨?_, ?_, ?_⟩ (back_flat r b3 fun z hz => h z (.tail _ hz))
    · rw [a.2.1]; exact relV_key b1
    · rw [b2]; exact a.2.2
    · obtain ⟨k, h1, h2⟩ := h e (.head _)
      rw [(mixKind P w).inj _ _ _ h1 b1] at h2
      rw [h2, a.1]
      cases q.1 <;> rfl
theorem dAt_flat {P : Program} {w : World} {h : Heap} {a : Addr} {L : DL} {vs : List (Key × Value)} (dd : h.DictOf (mixKind P w) a vs) (f : FEnt L vs) (hl : L.length ≤ 16777216) (hs : (a == sysModules) = false) : ∃ ob, DAt w a ob L h := by
  obtain ⟨ob, es, ep, h1, h2, h3, h4, h5, h6⟩ := dd
  refine ⟨ob, h1, h2, hs, hl, ?_, es, ep, h3, back_flat f h5 fun e he => h4 e (Array.mem_toList_iff.mp he)⟩
  rw [fEnt_keys f]
  exact List.pairwise_map.mpr (h6.imp fun h z => h (nk_inj z))
theorem back_tup {P : Program} {w : World} : ∀ {L : DL} {xs : List (NestedKey × Addr × Value)}, TEnt L xs → Paired (EntOk w) L (xs.map (entryOfKey (nestedKind P w)))
  | _, _, .nil => .nil
  | p :: L, q :: xs, .cons a r => .cons ⟨by rw [a.2.1]; rfl, a.2.2, by rw [a.1]; rfl⟩ (back_tup r)
theorem dAt_tup {P : Program} {w : World} {h : Heap} {a : Addr} {L : DL} {xs : List (NestedKey × Addr × Value)} (dd : h.DictOfH (nestedKind P w) a xs) (f : TEnt L xs) (hl : L.length ≤ 16777216) (hs : (a == sysModules) = false) : ∃ ob, DAt w a ob L h := by
  obtain ⟨ob, es, ep, h1, h2, h3, h4, h5, h6⟩ := dd
  refine ⟨ob, h1, h2, hs, hl, by rw [tEnt_keys f]; exact h6, es, ep, h3, ?_⟩
  rw [h4]
  exact back_tup f
/-- a dict in the heap, what it holds being data of F -/
def DcAt (K : KW) (F H : Hp) (a : Addr) (kvs : List (PyData × PyData)) : Prop := ∃ ob L, H a = some (DObj K.w a ob L) ∧ DpL K F L kvs
theorem Dp.at {K : KW} {F H : Hp} {v : V} {kvs : List (PyData × PyData)} (h : Dp K F v (.dict kvs)) (sub : Same F H) : ∃ a, v = .ref a ∧ DcAt K F H a kvs := by
  cases h with
  | dct e r => exact ⟨_, rfl, _, _, sub _ _ e, r⟩
theorem DcO.at {K : KW} {F H : Hp} {a : Addr} {o : HO} {kvs : List (PyData × PyData)} (h : DcO K F a o kvs) (e : H a = some o) : DcAt K F H a kvs := by
  obtain ⟨ob, L, rfl, r⟩ := h
  exact ⟨ob, L, e, r⟩
variable {A : Around} {E : Value → Shared → Prop}
theorem nroom {A : Around} (hu : A.units + 20 < cLine) : A.in1.units + 8 < cLine := by
  show A.units + 1 + 8 < cLine
  omega
/-- y in d -/
theorem dc_in (neg : Bool) (hu : A.units + 20 < cLine) (I : Inv X pins σ H s) {F : Hp} (sub : Same F H) {a : Addr} {kvs : List (PyData × PyData)} {y : V} {q : PyData} {u : Value} {Q : Value → Shared → Prop} (dc : DcAt (kw X) F H a kvs) (rk : Dp (kw X) H y q) (ry : RelV y u) (fit : dFit kvs q)
    (h : ∀ s', Inv X pins σ H s' → Q (.bool (if neg then !(dGet kvs q).isSome else (dGet kvs q).isSome)) s') : wpAny (model X.prog X.w) A (compareOp (if neg then .NotIn else .In) u (.ref a)) Q E s := by
  obtain ⟨ob, L, e, r⟩ := dc
  rcases fit with ⟨f1, f2⟩ | ⟨f1, f2⟩
  · obtain ⟨k, rfl⟩ := flatK_ex f1
    obtain ⟨vs, f, dd, _, hs⟩ := dc_flat I e r f2
    have ey : RelV (kV k) u := dp_kV rk ▸ ry
    have ei : (dGet kvs (keyP k)).isSome = (valueAt vs k).isSome := by rw [← (dpL_get (keyOf_P k) r).1]; exact (fEnt_get f).isSome_eq
    cases neg with
    | false =>
      refine wpAny_in_of (kV_is ey) hs dd.mapOf ?_
      rw [← ei]; exact h _ (I.tok _)
    | true =>
      refine wpAny_notIn_of (kV_is ey) hs dd.mapOf ?_
      rw [← ei]; exact h _ (I.tok _)
  · obtain ⟨zs, k, rfl, hk, hd⟩ := tupK_ex f1
    obtain ⟨xs, f, dd, _, hs⟩ := dc_tup I sub e r f2
    cases rk with
    | tup t1 t2 t3 =>
      cases ry
      have ky := key_at I (Dp.tup t1 t2 t3) hk hd
      have ei : (dGet kvs (.tuple zs)).isSome = (valueAt (pairsH xs) k).isSome := by rw [← (dpL_get hk r).1, valueAt_pairsH]; exact (tEnt_get f).isSome_eq
      cases neg with
      | false =>
        refine in_keyed (knd := nestedKind X.prog X.w) (nroom hu) ky hs ⟨xs, dd, rfl⟩ ?_
        rw [← ei]; exact h _ (I.tok _)
      | true =>
        refine notIn_keyed (knd := nestedKind X.prog X.w) (nroom hu) ky hs ⟨xs, dd, rfl⟩ ?_
        rw [← ei]; exact h _ (I.tok _)
/-- d[y] -/
theorem dc_item (hu : A.units + 20 < cLine) (I : Inv X pins σ H s) {F : Hp} (sub : Same F H) {a : Addr} {kvs : List (PyData × PyData)} {y : V} {q z : PyData} {u : Value} {Q : Value → Shared → Prop} (dc : DcAt (kw X) F H a kvs) (rk : Dp (kw X) H y q) (ry : RelV y u) (fit : dFit kvs q) (hz : dGet kvs q = some z)
    (h : ∀ v w' s', Inv X pins σ H s' → Dp (kw X) F v z → RelV v w' → Q w' s') : wpAny (model X.prog X.w) A (getItem (.ref a) u) Q E s := by
  obtain ⟨ob, L, e, r⟩ := dc
  rcases fit with ⟨f1, f2⟩ | ⟨f1, f2⟩
  · obtain ⟨k, rfl⟩ := flatK_ex f1
    obtain ⟨vs, f, dd, _, hs⟩ := dc_flat I e r f2
    obtain ⟨v, e1, rv⟩ := (dpL_get (keyOf_P k) r).2 z hz
    obtain ⟨w', e2, rw'⟩ := RelO.some_of (v := v) (o := valueAt vs k) (by rw [← e1]; exact fEnt_get f)
    exact wpAny_getItem_of (kV_is (dp_kV rk ▸ ry)) dd.mapOf e2 (h v w' _ (I.tok _) rv rw')
  · obtain ⟨zs, k, rfl, hk, hd⟩ := tupK_ex f1
    obtain ⟨xs, f, dd, _, hs⟩ := dc_tup I sub e r f2
    cases rk with
    | tup t1 t2 t3 =>
      cases ry
      obtain ⟨v, e1, rv⟩ := (dpL_get hk r).2 z hz
      have ro : RelO (some v) (valueAt (pairsH xs) k) := by rw [← e1, valueAt_pairsH]; exact tEnt_get f
      obtain ⟨w', e2, rw'⟩ := RelO.some_of ro
      exact getItem_keyed (knd := nestedKind X.prog X.w) (nroom hu) (key_at I (Dp.tup t1 t2 t3) hk hd) ⟨xs, dd, rfl⟩ e2 (h v w' _ (I.tok _) rv rw')
theorem dc_type (I : Inv X pins σ H s) {F : Hp} {a : Addr} {kvs : List (PyData × PyData)} (dc : DcAt (kw X) F H a kvs) : s.TypeIs (.ref a) "dict" := by
  obtain ⟨ob, L, e, r⟩ := dc
  have n := dObj_of I.hok e
  exact ⟨ob, n.get, n.ex.1⟩
/-- what d.get gives -/
theorem getOr_rel {F : Hp} {L : DL} {kvs : List (PyData × PyData)} {q z : PyData} {k : NestedKey} {o : Option Value} {x : V} {ux : Value} (hk : keyOf q = some k) (r : DpL (kw X) F L kvs) (ro : RelO (lGet L k) o) (rx : Dp (kw X) F x z) (rux : RelV x ux) : ∃ v, Dp (kw X) F v ((dGet kvs q).getD z) ∧ RelV v (o.getD ux) := by
  obtain ⟨g1, g2⟩ := dpL_get hk r
  cases e : dGet kvs q with
  | none =>
    rw [e] at g1
    cases e1 : lGet L k with
    | some _ => rw [e1] at g1; cases g1
    | none =>
      rw [e1] at ro
      cases o with
      | some _ => exact ro.elim
      | none => exact ⟨x, rx, rux⟩
  | some d =>
    obtain ⟨v, e1, rv⟩ := g2 d e
    rw [e1] at ro
    obtain ⟨w', rfl, rw'⟩ := RelO.some_of ro
    exact ⟨v, rv, rw'⟩
/-- d.get(y, x) -/
theorem dc_getOr (hu : A.units + 20 < cLine) (I : Inv X pins σ H s) {F : Hp} (sub : Same F H) {a : Addr} {kvs : List (PyData × PyData)} {y x : V} {q z : PyData} {u ux : Value} {Q : Value → Shared → Prop} (dc : DcAt (kw X) F H a kvs) (rk : Dp (kw X) H y q) (ry : RelV y u) (rx : Dp (kw X) F x z) (rux : RelV x ux) (fit : dFit kvs q)
    (h : ∀ v w' s', Inv X pins σ H s' → Dp (kw X) F v ((dGet kvs q).getD z) → RelV v w' → Q w' s') : wpAny (model X.prog X.w) A (call (.builtin "dict.get") [.ref a, u, ux]) Q E s := by
  obtain ⟨ob, L, e, r⟩ := dc
  rcases fit with ⟨f1, f2⟩ | ⟨f1, f2⟩
  · obtain ⟨k, rfl⟩ := flatK_ex f1
    obtain ⟨vs, f, dd, _, hs⟩ := dc_flat I e r f2
    obtain ⟨v, g1, g2⟩ := getOr_rel (keyOf_P k) r (fEnt_get f) rx rux
    exact call_meetsIn PySem.F.slot_dict_get dd.typeIs PySem.F.entry_dict_get (PySem.F.args_dict_get_3 _ _ _) (meets_dict_get_default (mixKind X.prog X.w) a (kV_is (dp_kV rk ▸ ry)) hs ux) ⟨_, dd.mapOf, h v _ _ (I.tok _) g1 g2⟩
  · obtain ⟨zs, k, rfl, hk, hd⟩ := tupK_ex f1
    obtain ⟨xs, f, dd, _, hs⟩ := dc_tup I sub e r f2
    cases rk with
    | tup t1 t2 t3 =>
      cases ry
      have ro : RelO (lGet L k) (valueAt (pairsH xs) k) := by rw [valueAt_pairsH]; exact tEnt_get f
      obtain ⟨v, g1, g2⟩ := getOr_rel hk r ro rx rux
      exact getOr_keyed (knd := nestedKind X.prog X.w) (nroom hu) (key_at I (Dp.tup t1 t2 t3) hk hd) hs ⟨xs, dd, rfl⟩ (h v _ _ (I.tok _) g1 g2)
/-- d[y] = v, by [] or by a comprehension -/
theorem dc_store (hu : A.units + 20 < cLine) (I : Inv X pins σ H s) {F : Hp} (sub : Same F H) {a : Addr} {o : HO} {kvs : List (PyData × PyData)} {y v : V} {q d : PyData} {u r : Value} {Q : Unit → Shared → Prop} {act : Sem Unit} (e : H a = some o) (dc : DcO (kw X) F a o kvs)
    (rk : Dp (kw X) F y q) (ry : RelV y u) (rd : Dp (kw X) F v d) (rv : RelV v r) (fit : dFit kvs q) (room : kvs.length < 16777216)
    (hf : ∀ (k : Key) (vs : List (Key × Value)), (mixKind X.prog X.w).is k u = true → s.heap.DictOf (mixKind X.prog X.w) a vs → vs.length ≤ sizeLine → (∀ h' t, h'.DictOf (mixKind X.prog X.w) a (stored vs k r) → Heap.SameBut a s.heap h' → Q () { s with heap := h', toks := t }) → wpAny (model X.prog X.w) A act Q E s)
    (ht : ∀ (k : NestedKey) (b : Addr) (xs : List (NestedKey × Addr × Value)), u = .ref b → (nestedKind X.prog X.w).is s.heap k b → s.heap.DictOfH (nestedKind X.prog X.w) a xs → xs.length ≤ sizeLine → (∀ h' t, h'.DictOfH (nestedKind X.prog X.w) a (storedH xs k b r) → Heap.SameBut a s.heap h' → Q () { s with heap := h', toks := t }) → wpAny (model X.prog X.w) A act Q E s)
    (h : ∀ o' s', DcO (kw X) F a o' (dPut kvs q d) → Inv X pins σ (upd H a o') s' → Q () s') : wpAny (model X.prog X.w) A act Q E s := by
  obtain ⟨ob, L, rfl, rL⟩ := dc
  have mu : Mut (H a) := by rw [e]; exact True.intro
  have lL : L.length < 16777216 := by rw [dpL_len rL]; exact room
  rcases fit with ⟨f1, f2⟩ | ⟨f1, f2⟩
  · obtain ⟨k, rfl⟩ := flatK_ex f1
    obtain ⟨vs, f, dd, _, hs⟩ := dc_flat I e rL f2
    refine hf k vs (kV_is (dp_kV rk ▸ ry)) dd (by rw [← Paired.length f, sizeLine_eq]; omega) fun h' t dd' hc => ?_
    obtain ⟨ob', n⟩ := dAt_flat dd' (fEnt_put rv f) (by have := lPut_len L (nk k) (kV k) v; omega) hs
    have rk' := rk
    rw [dp_kV rk] at rk'
    exact h _ _ ⟨ob', _, rfl, dpL_put rL rk' (keyOf_P k) (by rw [f1]; rfl) rd⟩ (d_write I mu hc ⟨_, n.get⟩ (dObj_new n))
  · obtain ⟨zs, k, rfl, hk, hd⟩ := tupK_ex f1
    obtain ⟨xs, f, dd, _, hs⟩ := dc_tup I sub e rL f2
    have rkH := dp_mono sub rk
    cases rk with
    | tup t1 t2 t3 =>
      rename_i b ws
      have eu : u = .ref b := ry
      refine ht k b xs eu (key_at I rkH hk hd) dd (by rw [← Paired.length f, sizeLine_eq]; omega) fun h' t dd' hc => ?_
      obtain ⟨ob', n⟩ := dAt_tup dd' (tEnt_put (b := b) rv f) (by have := lPut_len L k (.ref b) v; omega) hs
      exact h _ _ ⟨ob', _, rfl, dpL_put rL (.tup t1 t2 t3) hk (by rw [f1]; exact Bool.or_true _) rd⟩ (d_write I mu hc ⟨_, n.get⟩ (dObj_new n))
theorem dc_set (hu : A.units + 20 < cLine) (I : Inv X pins σ H s) {F : Hp} (sub : Same F H) {a : Addr} {o : HO} {kvs : List (PyData × PyData)} {y v : V} {q d : PyData} {u r : Value} {Q : Unit → Shared → Prop} (e : H a = some o) (dc : DcO (kw X) F a o kvs)
    (rk : Dp (kw X) F y q) (ry : RelV y u) (rd : Dp (kw X) F v d) (rv : RelV v r) (fit : dFit kvs q) (room : kvs.length < 16777216)
    (h : ∀ o' s', DcO (kw X) F a o' (dPut kvs q d) → Inv X pins σ (upd H a o') s' → Q () s') : wpAny (model X.prog X.w) A (setItem (.ref a) u r) Q E s :=
  dc_store hu I sub e dc rk ry rd rv fit room (fun k vs ik dd hz g => wpAny_setItem_pairs (hsz := hz) ik dd fun h' dd' hc => g h' _ dd' hc)
    (fun k b xs eu ik dd hz g => by subst eu; exact wpAny_setItem_heap (hsz := hz) (nroom hu) ik dd fun h' dd' hc => g h' _ dd' hc) h
end
end OS

/-! OSe: operators, built-ins, changing lists, the tank. -/
namespace OS
open PySem L2

/-! ### operators by data: nothing is made -/
def SOp (K : KW) (r : R2) (ro : RO2) : Prop :=
  ∀ (F H : Hp) (x y : V) (d e : PyData) (Q : VK) (q : PyData → Prop), Same F H → Dp K F x d → Dp K F y e → ro d e q → (∀ z v, Dp K F v z → q z → Q v H) → r x y H Q
theorem SOp.aop {K : KW} {r : R2} {ro : RO2} (h : SOp K r ro) : AOp K r ro := fun W ρ F σ H x y d e Q q hk S a b c k =>
  h F H x y d e Q q S.sub a b c fun z v rz qz => k z F v H S (Same.refl F) rz qz
section
variable {K : KW}
def roI (C : Int → Int → Prop) (g : Int → Int → PyData) : RO2 := fun d e q => ∃ i j, d = .int i ∧ e = .int j ∧ C i j ∧ q (g i j)
theorem sop_I {C : Int → Int → Prop} {g : Int → Int → V} {g' : Int → Int → PyData} (hg : ∀ F i j, Dp K F (g i j) (g' i j)) : SOp K (rI C g) (roI C g') := fun F H x y d e Q q _ a b c k => by
  obtain ⟨i, j, rfl, rfl, hc, hq⟩ := c
  cases a; cases b
  exact ⟨i, j, rfl, rfl, hc, k _ _ (hg F i j) hq⟩
theorem sop_I0 {g : Int → Int → V} {g' : Int → Int → PyData} (hg : ∀ F i j, Dp K F (g i j) (g' i j)) : SOp K (rI0 g) (roI (fun _ _ => True) g') := fun F H x y d e Q q _ a b c k => by
  obtain ⟨i, j, rfl, rfl, hc, hq⟩ := c
  cases a; cases b
  exact ⟨i, j, rfl, rfl, k _ _ (hg F i j) hq⟩
theorem sop_ii {f : Int → Int → Int} : SOp K (rI0 fun i j => .int (f i j)) (roI (fun _ _ => True) fun i j => .int (f i j)) := sop_I0 fun _ _ _ => .int _
theorem sop_ib {f : Int → Int → Bool} : SOp K (rI0 fun i j => .bl (f i j)) (roI (fun _ _ => True) fun i j => .bool (f i j)) := sop_I0 fun _ _ _ => .bl _
theorem sop_iC {C : Int → Int → Prop} {f : Int → Int → Int} : SOp K (rI C fun i j => .int (f i j)) (roI C fun i j => .int (f i j)) := sop_I fun _ _ _ => .int _
/-- == and != of data -/
theorem Fam.hkw (X : Fam) (j : X.ι) : kw (X.X j) = X.K := by
  unfold kw Fam.K
  rw [X.hK j, X.hw j, X.hp j]
def rEqD (K : KW) : R2 := fun x y H Q => ∃ d e, Dp K H x d ∧ Dp K H y e ∧ SeqAt.shaped d = true ∧ SeqAt.shaped e = true ∧ Q (.bl (PyData.eqv d e)) H
def rNeD (K : KW) : R2 := fun x y H Q => ∃ d e, Dp K H x d ∧ Dp K H y e ∧ SeqAt.shaped d = true ∧ SeqAt.shaped e = true ∧ Q (.bl (!PyData.eqv d e)) H
theorem op_eqD {X : Cx} (hu : X.A.units + 64 < cLine) : OpR X (compareOp .Eq) (rEqD (kw X)) := fun pins s σ H x y v u Q I r1 r2 ⟨d, e, h1, h2, s1, s2, q⟩ => by
  obtain ⟨_, q1⟩ := Dp.reads I h1 r1
  obtain ⟨_, q2⟩ := Dp.reads I h2 r2
  exact SeqAt.compareEq_shaped q1 q2 s1 s2 hu ⟨.bl _, H, I, rfl, q⟩
theorem op_neD {X : Cx} (hu : X.A.units + 64 < cLine) : OpR X (compareOp .NotEq) (rNeD (kw X)) := fun pins s σ H x y v u Q I r1 r2 ⟨d, e, h1, h2, s1, s2, q⟩ => by
  obtain ⟨_, q1⟩ := Dp.reads I h1 r1
  obtain ⟨_, q2⟩ := Dp.reads I h2 r2
  exact SeqAt.compareNe_shaped q1 q2 s1 s2 hu ⟨.bl _, H, I, rfl, q⟩
def roEq : RO2 := fun d e q => SeqAt.shaped d = true ∧ SeqAt.shaped e = true ∧ q (.bool (PyData.eqv d e))
def roNe : RO2 := fun d e q => SeqAt.shaped d = true ∧ SeqAt.shaped e = true ∧ q (.bool (!PyData.eqv d e))
theorem sop_eq : SOp K (rEqD K) roEq := fun F H x y d e Q q s a b c k => ⟨d, e, dp_mono s a, dp_mono s b, c.1, c.2.1, k _ _ (.bl _) c.2.2⟩
theorem sop_ne : SOp K (rNeD K) roNe := fun F H x y d e Q q s a b c k => ⟨d, e, dp_mono s a, dp_mono s b, c.1, c.2.1, k _ _ (.bl _) c.2.2⟩
/-- < of data of one kind -/
def rLtD (K : KW) : R2 := fun x y H Q => ∃ d e, Dp K H x d ∧ Dp K H y e ∧ PySem.W.alike d e = true ∧ d ≠ .none ∧ d.depth ≤ 64 ∧ Q (.bl (PySem.W.dataLt d e)) H
theorem op_ltD {X : Cx} (hu : X.A.units + 64 < cLine) : OpR X (compareOp .Lt) (rLtD (kw X)) := by
  intro pins s σ H x y v u Q I rx ry h
  obtain ⟨d, e, hd, he, al, nn, dl, q⟩ := h
  obtain ⟨as, r1⟩ := Dp.reads I hd rx
  obtain ⟨bs, r2⟩ := Dp.reads I he ry
  exact PySem.W.lt_data r1 r2 al nn (by omega) ⟨.bl _, H, I, rfl, q⟩
def roLt : RO2 := fun d e q => PySem.W.alike d e = true ∧ d ≠ .none ∧ d.depth ≤ 64 ∧ q (.bool (PySem.W.dataLt d e))
theorem sop_lt : SOp K (rLtD K) roLt := fun F H x y d e Q q s a b c k => ⟨d, e, dp_mono s a, dp_mono s b, c.1, c.2.1, c.2.2.1, k _ _ (.bl _) c.2.2.2⟩
/-- an item -/
theorem dpAll_at {F : Hp} {vs : List V} {ds : List PyData} {i : Int} {z : PyData} (r : DpAll K F vs ds) (h : atI ds i = some z) : ∃ v, atI vs i = some v ∧ Dp K F v z := by
  unfold atI at h ⊢
  rw [dpAll_len r]
  cases e : ixN ds.length i with
  | none => rw [e] at h; cases h
  | some j =>
    rw [e] at h
    obtain ⟨v, e1, e2⟩ := dpAll_get r h
    exact ⟨v, e1, e2⟩
def roIxL : RO2 := fun d e q => ∃ xs i z, d = .list xs ∧ e = .int i ∧ atI xs i = some z ∧ q z
def roIxT : RO2 := fun d e q => ∃ xs i z, d = .tuple xs ∧ e = .int i ∧ atI xs i = some z ∧ q z
theorem sop_ixL : SOp K (rIxL K) roIxL := fun F H x y d e Q q s a b c k => by
  obtain ⟨xs, i, z, rfl, rfl, h, hq⟩ := c
  cases b
  cases a with
  | lst hs ha =>
    obtain ⟨v, h1, h2⟩ := dpAll_at ha h
    exact ⟨_, _, i, v, rfl, rfl, Evl.ex_l s hs, h1, k z v h2 hq⟩
theorem sop_ixT : SOp K (rIxT K) roIxT := fun F H x y d e Q q s a b c k => by
  obtain ⟨xs, i, z, rfl, rfl, h, hq⟩ := c
  cases b
  cases a with
  | tup hs ha _ =>
    obtain ⟨v, h1, h2⟩ := dpAll_at ha h
    exact ⟨_, _, i, v, rfl, rfl, Evl.ex_t s hs, h1, k z v h2 hq⟩
def roIxS : RO2 := fun d e q => ∃ z i c, d = .str z ∧ e = .int i ∧ z.length ≤ 16777216 ∧ atI z.cps.toList i = some c ∧ q (.str ⟨#[c]⟩)
theorem sop_ixS : SOp K rIxS roIxS := fun F H x y d e Q q s a b c k => by
  obtain ⟨z, i, ch, rfl, rfl, hl, h, hq⟩ := c
  cases a; cases b
  exact ⟨z, i, ch, rfl, rfl, hl, h, k _ _ (.str _) hq⟩
/-- in -/
def flatD : PyData → Bool
  | .none => true
  | .bool _ => true
  | .int _ => true
  | .str _ => true
  | _ => false
def eqFlat : PyData → PyData → Bool
  | .none, .none => true
  | .bool a, .bool b => a == b
  | .bool a, .int b => (if a then 1 else 0) == b
  | .int a, .bool b => a == (if b then 1 else 0)
  | .int a, .int b => a == b
  | .str a, .str b => a == b
  | _, _ => false
theorem flat_dp {F : Hp} {v : V} {d : PyData} (r : Dp K F v d) (h : flatD d = true) : flatV v = true := by
  cases r with
  | non => rfl
  | bl _ => rfl
  | int _ => rfl
  | str _ => rfl
  | lst _ _ => cases h
  | tup _ _ _ => cases h
  | dct _ _ => cases h
theorem eqV_dp {F : Hp} {v w : V} {d e : PyData} (r : Dp K F v d) (r' : Dp K F w e) (h : flatD d = true) (h' : flatD e = true) : eqV v w = eqFlat d e := by
  cases r <;> cases r' <;> first | rfl | cases h | cases h'
theorem inV_dp {F : Hp} {x : V} {d : PyData} (rx : Dp K F x d) (hx : flatD d = true) : ∀ {vs : List V} {ds : List PyData}, DpAll K F vs ds → ds.all flatD = true → vs.all flatV = true ∧ inV x vs = ds.any fun y => eqFlat y d
  | _, _, .nil, _ => ⟨rfl, rfl⟩
  | _, _, .cons a b, h => by
    simp only [List.all_cons, Bool.and_eq_true] at h
    obtain ⟨h1, h2⟩ := inV_dp rx hx b h.2
    refine ⟨by rw [List.all_cons, flat_dp a h.1, h1]; rfl, ?_⟩
    unfold inV at h2 ⊢
    rw [List.any_cons, List.any_cons, h2, eqV_dp a rx h.1 hx]
def roIn (neg : Bool) : RO2 := fun d e q => ∃ ds, (e = .list ds ∨ e = .tuple ds) ∧ flatD d = true ∧ ds.all flatD = true ∧ q (.bool (if neg then !ds.any fun y => eqFlat y d else ds.any fun y => eqFlat y d))
theorem sop_in {neg : Bool} : SOp K (rIn K neg) (roIn neg) := fun F H x y d e Q q s a b c k => by
  obtain ⟨ds, he, hx, hd, hq⟩ := c
  rcases he with rfl | rfl
  · cases b with
    | lst hs ha =>
      obtain ⟨h1, h2⟩ := inV_dp a hx ha hd
      exact ⟨_, _, rfl, .inl (Evl.ex_l s hs), flat_dp a hx, h1, by rw [h2]; exact k _ _ (.bl _) hq⟩
  · cases b with
    | tup hs ha hx' =>
      obtain ⟨h1, h2⟩ := inV_dp a hx ha hd
      exact ⟨_, _, rfl, .inr (Evl.ex_t s hs), flat_dp a hx, h1, by rw [h2]; exact k _ _ (.bl _) hq⟩
/-- in a dict -/
def rInC (K : KW) (neg : Bool) : R2 := fun x y H Q => ∃ F a q kvs, y = .ref a ∧ Same F H ∧ Dp K F x q ∧ DcAt K F H a kvs ∧ dFit kvs q ∧ Q (.bl (if neg then !(dGet kvs q).isSome else (dGet kvs q).isSome)) H
theorem op_inC {X : Cx} (neg : Bool) (hu : X.A.units + 64 < cLine) : OpR X (compareOp (if neg then .NotIn else .In)) (rInC (kw X) neg) := fun pins s σ H x y v u Q I r1 r2 ⟨F, a, q, kvs, e, sub, h1, h2, fit, g⟩ => by
  subst e
  cases r2
  exact dc_in neg (by omega) I sub h2 (dp_mono sub h1) r1 fit fun s' I' => ⟨.bl _, H, I', rfl, g⟩
def roInC (neg : Bool) : RO2 := fun d e q => ∃ kvs, e = .dict kvs ∧ dFit kvs d ∧ q (.bool (if neg then !(dGet kvs d).isSome else (dGet kvs d).isSome))
theorem sop_inC {neg : Bool} : SOp K (rInC K neg) (roInC neg) := fun F H x y d e Q q s a b c k => by
  obtain ⟨kvs, rfl, fit, hq⟩ := c
  obtain ⟨p, rfl, dc⟩ := b.at s
  exact ⟨F, p, d, kvs, rfl, s, a, dc, fit, k _ _ (.bl _) hq⟩
/-- an item of a dict -/
def rIxC (K : KW) : R2 := fun x y H Q => ∃ F a q kvs z, x = .ref a ∧ Same F H ∧ DcAt K F H a kvs ∧ Dp K F y q ∧ dFit kvs q ∧ dGet kvs q = some z ∧ ∀ v, Dp K F v z → Q v H
theorem ix_dictC {X : Cx} (hu : X.A.units + 64 < cLine) : IxR X (rIxC (kw X)) := fun value slice pins s σ H x y v u Q I r1 r2 ⟨F, a, q, kvs, z, e, sub, dc, h1, fit, hz, g⟩ hs => by
  subst e
  cases r1
  exact PyProof.Rows.tail_any (dc_type I dc) PySem.F.slot_dict_getitem.lookup (dc_item (by omega) I sub dc (dp_mono sub h1) r2 fit hz fun v w' s' I' rv rw' => ⟨v, H, I', rw', g v rv⟩) hs
def roIxC : RO2 := fun d e q => ∃ kvs z, d = .dict kvs ∧ dFit kvs e ∧ dGet kvs e = some z ∧ q z
theorem sop_ixC : SOp K (rIxC K) roIxC := fun F H x y d e Q q s a b c k => by
  obtain ⟨kvs, z, rfl, fit, hz, hq⟩ := c
  obtain ⟨p, rfl, dc⟩ := a.at s
  exact ⟨F, p, e, kvs, z, rfl, s, dc, b, fit, hz, fun v rv => k z v rv hq⟩
/-- a sign in a text -/
def roSign (neg : Bool) : RO2 := fun d e q => ∃ (c : Nat) (z : Str), d = .str ⟨#[c]⟩ ∧ e = .str z ∧ q (.bool (if neg then !decide (c ∈ z.cps.toList) else decide (c ∈ z.cps.toList)))
theorem sop_sign : SOp K (fun x y H Q => ∃ (c : Nat) (z : Str), x = .str ⟨#[c]⟩ ∧ y = .str z ∧ Q (.bl (decide (c ∈ z.cps.toList))) H) (roSign false) := fun F H x y d e Q q s a b c k => by
  obtain ⟨ch, z, rfl, rfl, hq⟩ := c
  cases a; cases b
  exact ⟨ch, z, rfl, rfl, k _ _ (.bl _) hq⟩
/-- text + text -/
def roCatS : RO2 := fun d e q => ∃ a b, d = .str a ∧ e = .str b ∧ a.length + b.length ≤ 16777216 ∧ q (.str (a ++ b))
theorem sop_catS : SOp K (fun x y H Q => ∃ i j, x = .str i ∧ y = .str j ∧ i.length + j.length ≤ sizeLine ∧ Q (.str (i ++ j)) H) roCatS := fun F H x y d e Q q s a b c k => by
  obtain ⟨u, v, rfl, rfl, hl, hq⟩ := c
  cases a; cases b
  exact ⟨u, v, rfl, rfl, hl, k _ _ (.str _) hq⟩
/-- is None, is not None -/
def noneD : PyData → Bool
  | .none => true
  | _ => false
def roIs (neg : Bool) : RO2 := fun d e q => e = .none ∧ q (.bool (if neg then !noneD d else noneD d))
theorem non_dp {F : Hp} {v : V} {d : PyData} (r : Dp K F v d) : decide (v = V.non) = noneD d := by
  cases r <;> simp [noneD]
theorem sop_is : SOp K (fun x y H Q => y = .non ∧ Q (.bl (decide (x = .non))) H) (roIs false) := fun F H x y d e Q q s a b c k => by
  obtain ⟨rfl, hq⟩ := c
  cases b
  refine ⟨rfl, ?_⟩
  rw [non_dp a]
  exact k _ _ (.bl _) hq
theorem sop_isnt : SOp K (fun x y H Q => y = .non ∧ Q (.bl (!decide (x = .non))) H) (roIs true) := fun F H x y d e Q q s a b c k => by
  obtain ⟨rfl, hq⟩ := c
  cases b
  refine ⟨rfl, ?_⟩
  rw [non_dp a]
  exact k _ _ (.bl _) hq
end

theorem dp1 {K : KW} {F : Hp} {vs : List V} {d : PyData} (h : DpAll K F vs [d]) : ∃ v, vs = [v] ∧ Dp K F v d := by
  cases h with
  | cons a b => cases b; exact ⟨_, rfl, a⟩
theorem dp2 {K : KW} {F : Hp} {vs : List V} {d e : PyData} (h : DpAll K F vs [d, e]) : ∃ v w, vs = [v, w] ∧ Dp K F v d ∧ Dp K F w e := by
  cases h with
  | cons a b => cases b with
    | cons c d => cases d; exact ⟨_, _, rfl, a, c⟩
/-! operands: data, or a slot's changing list lent -/
/-- an operand: data, or the name of a slot that holds a changing thing -/
structure AO (X : Fam) (e : Expr) (t : List AV → (AArg → List AV → Prop) → Prop) : Prop where
  ex : ∃ te : TE, (∀ i, PE (X.X i) e te) ∧ ∀ (W : Wd) (ρ : List AV) (F : Hp) (σ : L2.St) (H : Hp) (Q : VK) (q : AArg → List AV → Prop), W.K = X.K → Sto W ρ F σ H → t ρ q →
    (∀ a ρ' F' v H', Sto W ρ' F' σ H' → Same F F' → ArgR X.K F' σ a v → q a ρ' → Q v H') → te σ H Q
section
variable {X : Fam} {a b e : Expr} {ta tb te : ATr} {oa ob : List AV → (AArg → List AV → Prop) → Prop} {pos : Pos}
theorem ao_d (h : AE X a ta) : AO X a fun ρ q => ta ρ fun d ρ' => q (.d d) ρ' := by
  obtain ⟨_, a1, a2⟩ := h.ex
  exact ⟨_, a1, fun W ρ F σ H Q q hk S ht k => a2 W ρ F σ H _ _ hk S ht fun d ρ1 F1 v H1 S1 e1 r1 q1 => k (.d d) ρ1 F1 v H1 S1 e1 r1 q1⟩
theorem ao_s (i : Nat) {x : Str} {pos : Pos} (hN : ∀ j, (X.X j).N[i]? = some x := by intro _; rfl) (hv : ∀ j, Vis (X.X j).env.scope x := by intro _; first | exact Or.inl rfl | exact Or.inr (Or.inl rfl) | exact Or.inr (Or.inr rfl)) (hd : (x == ("__debug__" : Str)) = false := by decide)
    (hcd : (x == ("__classdict__" : Str)) = false := by decide) : AO X (.Name x pos) fun ρ q => (∃ y, ρ[i]? = some y ∧ vol y = true) ∧ q (.s i) ρ := by
  refine ⟨_, fun j => pe_var (hN j) (hv j) hd hcd, fun W ρ F σ H Q q hk S ht k => ?_⟩
  obtain ⟨⟨y, hy, vy⟩, ht⟩ := ht
  have e0 : ∃ u, σ[i]? = some (some u) := by
    obtain ⟨ad, hs, _⟩ := S.slots
    have so := hs i y hy
    cases y with
    | ml _ => exact ⟨_, so.1⟩
    | tank _ => exact ⟨_, so.1⟩
    | tk3 _ _ _ => exact ⟨_, so.1⟩
    | dk _ => exact ⟨_, so.1⟩
    | no => cases vy
    | d _ => cases vy
    | cl _ => cases vy
  obtain ⟨u, hu⟩ := e0
  exact ⟨u, hu, k (.s i) ρ F u H S (Same.refl F) hu ht⟩
theorem argR1 {K : KW} {W : Wd} {ρ : List AV} {F F2 : Hp} {σ : L2.St} {a : AArg} {v : V} {d : PyData} (s : Same F F2) (hm : Lent K ρ σ F2) (r : ArgR K F σ a v) (h : argD ρ [a] = some [d]) : Dp K F2 v d := by
  obtain ⟨w, e, r2⟩ := dp1 (argD_ok s hm (.cons r .nil) h)
  cases e
  exact r2
/-- an operator over such operands; the answer holds no list -/
theorem ae_opB {r : R2} {ro : RO2} (h : SOp X.K r ro) (ha : AO X a oa) (hb : AO X b ob) (hp : ∀ j tx ty, PE (X.X j) a tx → PE (X.X j) b ty → PE (X.X j) e (tOp r tx ty)) :
    AE X e fun ρ q => oa ρ fun x ρ1 => ob ρ1 fun y ρ2 => ∃ d f, argD ρ2 [x, y] = some [d, f] ∧ ro d f fun z => lf z = true ∧ q z ρ2 := by
  obtain ⟨_, a1, a2⟩ := ha.ex
  obtain ⟨_, b1, b2⟩ := hb.ex
  refine ⟨_, fun j => hp j _ _ (a1 j) (b1 j), fun W ρ F σ H Q q hk S ht k => a2 W ρ F σ H _ _ hk S ht fun x ρ1 F1 v H1 S1 e1 r1 q1 => ?_⟩
  refine b2 W ρ1 F1 σ H1 _ _ hk S1 q1 fun y ρ2 F2 w H2 S2 e2 r2 q2 => ?_
  obtain ⟨d, f, hd, q2⟩ := q2
  obtain ⟨F3, s1, s2, hm, back⟩ := S2.borrow
  obtain ⟨v', w', e, rv, rw'⟩ := dp2 (argD_ok s1 (fun i y x z l => by rw [← hk]; exact hm i y x z l) (.cons (argR_mono e2 r1) (.cons r2 .nil)) hd)
  cases e
  refine h F3 H2 v w d f Q _ s2 rv rw' q2 fun z u rz hq => ?_
  obtain ⟨F4, A4, c4, _⟩ := back F3 H2 ⟨Same.refl _, s2, fun _ _ e _ => e, fun _ o e => .inl ⟨o, e⟩⟩
  exact k z ρ2 F4 u H2 (S2.after A4) ((e1.trans e2).trans A4.ff) (dp_lf c4 hq.1 rz) hq.2
/-- an operator that makes a list -/
def op2 (r : R2) : List V → Hp → VK → Prop := fun xs H Q => ∃ x y, xs = [x, y] ∧ r x y H Q
theorem al_op {r : R2} {ro : PSp} (h : PCall X.K (op2 r) ro) (ha : AO X a oa) (hb : AO X b ob) (hp : ∀ j tx ty, PE (X.X j) a tx → PE (X.X j) b ty → PE (X.X j) e (tOp r tx ty)) :
    AL X e fun ρ q => oa ρ fun x ρ1 => ob ρ1 fun y ρ2 => ∃ ds, argD ρ2 [x, y] = some ds ∧ ro ds fun rs => ∃ xs, rs = .own xs ∧ lfAll xs = true ∧ q xs ρ2 := by
  obtain ⟨_, a1, a2⟩ := ha.ex
  obtain ⟨_, b1, b2⟩ := hb.ex
  refine ⟨_, fun j => hp j _ _ (a1 j) (b1 j), fun W ρ F σ H Q q hk S ht k => a2 W ρ F σ H _ _ hk S ht fun x ρ1 F1 v H1 S1 e1 r1 q1 => ?_⟩
  refine b2 W ρ1 F1 σ H1 _ _ hk S1 q1 fun y ρ2 F2 w H2 S2 e2 r2 q2 => ?_
  obtain ⟨ds, hd, q2⟩ := q2
  obtain ⟨F3, s1, s2, hm, back⟩ := S2.borrow
  have rr := argD_ok s1 (fun i y x z l => by rw [← hk]; exact hm i y x z l) (.cons (argR_mono e2 r1) (.cons r2 .nil)) hd
  obtain ⟨x', y', e, g⟩ := h F3 H2 [v, w] ds Q _ s2 rr q2 fun rs u H' F' hq A R => by
    obtain ⟨xs, rfl, hl, hq⟩ := hq
    obtain ⟨F4, A4, c4, n4⟩ := back F' H' A
    obtain ⟨p, ws, rfl, f', h0, h', r⟩ := R
    exact k _ ρ2 _ _ _ H' (S2.afterOwn A4 (n4 p f') h0) h' ((e1.trans e2).trans A4.ff) (dpAll_lf c4 hl r) hq
  cases e
  exact g
/-- list + list -/
def rCatSq (K : PySem.W.Frag) : R2 := fun x y H Q => ∃ l b xs zs, x = .ref l ∧ y = .ref b ∧ SqL K H l xs ∧ SqL K H b zs ∧ xs.length + zs.length ≤ sizeLine ∧ ∀ p, H p = none → Q (.ref p) (upd H p (.lst (xs ++ zs)))
theorem op_catSq {X : Cx} : OpR X (binaryOp .Add) (rCatSq X.K) := by
  intro pins s σ H x y v u Q I rx ry h
  obtain ⟨l, b, xs, zs, rfl, rfl, hl, hb, hz, q⟩ := h
  cases rx
  cases ry
  obtain ⟨us, r1, ⟨⟨cl, dd, da, sl⟩, n1, e1, c1, d1, a1⟩, _⟩ := I.list hl
  obtain ⟨ws, r2, ⟨⟨cl2, dd2, da2, sl2⟩, n2, e2, c2, d2, a2⟩, _⟩ := I.list hb
  simp only at c1 a1 c2 a2
  subst c1 a1 c2 a2
  have hs : us.toArray.size + ws.toArray.size ≤ sizeLine := by
    rw [List.size_toArray, List.size_toArray, ← r1.length, ← r2.length]; exact hz
  refine PySem.concat_meets ⟨_, e1, rfl⟩ ⟨_, e2, rfl⟩ noFill_list_add seq_list_add PySem.F.slot_list_add PySem.F.entry_list_add (PySem.F.args_list_add_2 _ _) (PyProof.Rows.list_addW l b us.toArray ws.toArray n1 n2 dd dd2 sl sl2 hs) ⟨e1, e2, ?_⟩
  have ea : us.toArray ++ ws.toArray = (us ++ ws).toArray := by simp
  rw [ea]
  exact ⟨.ref _, _, I.lnew (t' := s.toks) (r1.append r2) (by rw [List.length_append]; omega), rfl, q _ I.fresh⟩
def roCat : PSp := fun ds q => ∃ xs ys, ds = [.list xs, .list ys] ∧ xs.length + ys.length ≤ 16777216 ∧ q (.own (xs ++ ys))
theorem dpAll_app {K : KW} {F : Hp} : ∀ {vs : List V} {xs : List PyData} {ws : List V} {ys : List PyData}, DpAll K F vs xs → DpAll K F ws ys → DpAll K F (vs ++ ws) (xs ++ ys)
  | _, _, _, _, .nil, h => h
  | _, _, _, _, .cons a b, h => .cons a (dpAll_app b h)
theorem pc_cat {K : KW} : PCall K (op2 (rCatSq K)) roCat := fun F H vs ds Q q s r a k => by
  obtain ⟨xs, ys, rfl, hl, hq⟩ := a
  obtain ⟨v, w, rfl, r1, r2⟩ := dp2 r
  cases r1 with
  | lst h1 a1 => cases r2 with
    | lst h2 a2 =>
      refine ⟨_, _, rfl, _, _, _, _, rfl, rfl, Evl.ex_l s h1, Evl.ex_l s h2, by rw [dpAll_len a1, dpAll_len a2]; exact hl, fun p hp => ?_⟩
      exact k (.own (xs ++ ys)) _ _ F hq (After.own s hp) ⟨p, _, rfl, s.free hp, hp, upd_same, dpAll_app a1 a2⟩
/-- an expression told as a truth, whatever test is wanted of it -/
theorem at_of {t : ATr} (h : AE X e t) (hp : ∀ j tx, PE (X.X j) e tx → PT (X.X j) e (fun σ H Q => tx σ H fun x H' => ∃ k, x = .bl k ∧ Q k H')) : AT X e fun ρ q => t ρ fun d ρ1 => ∃ k, d = .bool k ∧ q k ρ1 := by
  obtain ⟨_, a1, a2⟩ := h.ex
  refine ⟨_, fun j => hp j _ (a1 j), fun W ρ F σ H Q q hk S ht k => ?_⟩
  refine a2 W ρ F σ H _ _ hk S ht fun d ρ1 F1 x H1 S1 e1 r1 q1 => ?_
  obtain ⟨b, rfl, q1⟩ := q1
  cases r1
  exact ⟨b, rfl, k b ρ1 F1 H1 S1 e1 q1⟩
end

/-! ### built-ins by data -/
section
variable {K : KW}
def one (f : PyData → (Rs → Prop) → Prop) : PSp := fun ds q => ∃ d, ds = [d] ∧ f d q
/-- len of a list, a tuple -/
theorem pc_len : PCall K (fun xs H Q => ∃ p ys, xs = [.ref p] ∧ (SqL K H p ys ∨ SqT K H p ys) ∧ Q (.int ys.length) H) (one fun d q => ∃ xs, (d = .list xs ∨ d = .tuple xs) ∧ q (.d (.int (xs.length : Nat)))) := fun F H vs ds Q q s r a k => by
  obtain ⟨d, rfl, xs, h, hq⟩ := a
  obtain ⟨v, rfl, r1⟩ := dp1 r
  rcases h with rfl | rfl
  · cases r1 with
    | lst hs ha => exact ⟨_, _, rfl, .inl (Evl.ex_l s hs), by rw [dpAll_len ha]; exact k _ _ _ F hq (After.refl s) (.int _)⟩
  · cases r1 with
    | tup hs ha hx' => exact ⟨_, _, rfl, .inr (Evl.ex_t s hs), by rw [dpAll_len ha]; exact k _ _ _ F hq (After.refl s) (.int _)⟩
theorem pc_lenS : PCall K (fun xs H Q => ∃ z, xs = [.str z] ∧ z.length ≤ sizeLine ∧ Q (.int z.length) H) (one fun d q => ∃ z, d = .str z ∧ z.length ≤ 16777216 ∧ q (.d (.int (z.length : Nat)))) := fun F H vs ds Q q s r a k => by
  obtain ⟨d, rfl, z, rfl, hl, hq⟩ := a
  obtain ⟨v, rfl, r1⟩ := dp1 r
  cases r1
  exact ⟨z, rfl, hl, k _ _ _ F hq (After.refl s) (.int _)⟩
/-- list(..), tuple(..) -/
theorem pc_list : PCall K (fun xs H Q => ∃ p ys, xs = [.ref p] ∧ (SqL K H p ys ∨ SqT K H p ys) ∧ ∀ l, H l = none → Q (.ref l) (upd H l (.lst ys))) (one fun d q => ∃ xs, (d = .list xs ∨ d = .tuple xs) ∧ q (.own xs)) := fun F H vs ds Q q s r a k => by
  obtain ⟨d, rfl, xs, h, hq⟩ := a
  obtain ⟨v, rfl, r1⟩ := dp1 r
  have go : ∀ {ys}, DpAll K F ys xs → ∀ l, H l = none → Q (.ref l) (upd H l (.lst ys)) := fun {ys} ha l hl =>
    k (.own xs) _ _ F hq (After.own s hl) ⟨l, _, rfl, s.free hl, hl, upd_same, ha⟩
  rcases h with rfl | rfl
  · cases r1 with
    | lst hs ha => exact ⟨_, _, rfl, .inl (Evl.ex_l s hs), go ha⟩
  · cases r1 with
    | tup hs ha hx' => exact ⟨_, _, rfl, .inr (Evl.ex_t s hs), go ha⟩
theorem pc_tuple : PCall K (rTupX K) (one fun d q => ∃ xs, (d = .list xs ∨ d = .tuple xs) ∧ q (.d (.tuple xs))) := fun F H vs ds Q q s r a k => by
  obtain ⟨d, rfl, xs, h, hq⟩ := a
  obtain ⟨v, rfl, r1⟩ := dp1 r
  rcases h with rfl | rfl
  · cases r1 with
    | lst hs ha => exact ⟨_, _, rfl, .inl ⟨Evl.ex_l s hs, fun l o ho hl => k _ _ _ _ hq (After.new s hl) (.tup (SqT.frz upd_same) (dpAll_mono (same_upd (s.free hl)) ha) fun _ => .of ho upd_same)⟩⟩
  · cases r1 with
    | tup hs ha hx' => exact ⟨_, _, rfl, .inr ⟨Evl.ex_t s hs, k _ _ _ F hq (After.refl s) (.tup hs ha hx')⟩⟩
/-- all, any, sum over lists -/
theorem pc_all : PCall K (rAll K) (one fun d q => ∃ bs : List Bool, d = .list (bs.map .bool) ∧ q (.d (.bool (bs.all id)))) := fun F H vs ds Q q s r a k => by
  obtain ⟨d, rfl, bs, rfl, hq⟩ := a
  obtain ⟨v, rfl, r1⟩ := dp1 r
  cases r1 with
  | lst hs ha => exact ⟨_, bs, rfl, by rw [← dpAll_bools ha]; exact Evl.ex_l s hs, k _ _ _ F hq (After.refl s) (.bl _)⟩
theorem pc_any : PCall K (rAny K) (one fun d q => ∃ bs : List Bool, d = .list (bs.map .bool) ∧ q (.d (.bool (bs.any id)))) := fun F H vs ds Q q s r a k => by
  obtain ⟨d, rfl, bs, rfl, hq⟩ := a
  obtain ⟨v, rfl, r1⟩ := dp1 r
  cases r1 with
  | lst hs ha => exact ⟨_, bs, rfl, by rw [← dpAll_bools ha]; exact Evl.ex_l s hs, k _ _ _ F hq (After.refl s) (.bl _)⟩
theorem pc_sum : PCall K (rSum K) (one fun d q => ∃ ns : List Int, d = .list (ns.map .int) ∧ q (.d (.int ns.sum))) := fun F H vs ds Q q s r a k => by
  obtain ⟨d, rfl, bs, rfl, hq⟩ := a
  obtain ⟨v, rfl, r1⟩ := dp1 r
  cases r1 with
  | lst hs ha => exact ⟨_, bs, rfl, by rw [← dpAll_ints ha]; exact Evl.ex_l s hs, k _ _ _ F hq (After.refl s) (.int _)⟩
theorem pc_abs : PCall K (fun xs H Q => ∃ i, xs = [.int i] ∧ Q (.int (if i < 0 then -i else i)) H) (one fun d q => ∃ i : Int, d = .int i ∧ q (.d (.int (if i < 0 then -i else i)))) := fun F H vs ds Q q s r a k => by
  obtain ⟨d, rfl, i, rfl, hq⟩ := a
  obtain ⟨v, rfl, r1⟩ := dp1 r
  cases r1
  exact ⟨i, rfl, k _ _ _ F hq (After.refl s) (.int _)⟩
theorem pc_int : PCall K (fun xs H Q => (∃ i, xs = [.int i] ∧ Q (.int i) H) ∨ ∃ k, xs = [.bl k] ∧ Q (.int (if k then 1 else 0)) H) (one fun d q => (∃ i : Int, d = .int i ∧ q (.d (.int i))) ∨ ∃ b : Bool, d = .bool b ∧ q (.d (.int (if b then 1 else 0)))) := fun F H vs ds Q q s r a k => by
  obtain ⟨d, rfl, h⟩ := a
  obtain ⟨v, rfl, r1⟩ := dp1 r
  rcases h with ⟨i, rfl, hq⟩ | ⟨b, rfl, hq⟩
  · cases r1
    exact .inl ⟨i, rfl, k _ _ _ F hq (After.refl s) (.int _)⟩
  · cases r1
    exact .inr ⟨b, rfl, k _ _ _ F hq (After.refl s) (.int _)⟩
def two (f : Int → Int → (Rs → Prop) → Prop) : PSp := fun ds q => ∃ i j : Int, ds = [.int i, .int j] ∧ f i j q
theorem pc_max2 : PCall K (fun xs H Q => ∃ i j, xs = [.int i, .int j] ∧ Q (.int (if j > i then j else i)) H) (two fun i j q => q (.d (.int (if j > i then j else i)))) := fun F H vs ds Q q s r a k => by
  obtain ⟨i, j, rfl, hq⟩ := a
  obtain ⟨v, w, rfl, r1, r2⟩ := dp2 r
  cases r1; cases r2
  exact ⟨i, j, rfl, k _ _ _ F hq (After.refl s) (.int _)⟩
theorem pc_min2 : PCall K (fun xs H Q => ∃ i j, xs = [.int i, .int j] ∧ Q (.int (if j < i then j else i)) H) (two fun i j q => q (.d (.int (if j < i then j else i)))) := fun F H vs ds Q q s r a k => by
  obtain ⟨i, j, rfl, hq⟩ := a
  obtain ⟨v, w, rfl, r1, r2⟩ := dp2 r
  cases r1; cases r2
  exact ⟨i, j, rfl, k _ _ _ F hq (After.refl s) (.int _)⟩
end
end OS

/-! OSf: changing lists, the tank, dicts in slots. -/
namespace OS
open PySem L2

/-! ### the slot's address -/
theorem Sto.volAt {W : Wd} {ρ : List AV} {F : Hp} {σ : L2.St} {H : Hp} (S : Sto W ρ F σ H) {i : Nat} {y : AV} (h : ρ[i]? = some y) (v : vol y = true) : ∃ a, σ[i]? = some (some (.ref a)) := by
  obtain ⟨ad, hs, _⟩ := S.slots
  have so := hs i y h
  cases y with
  | ml _ => exact ⟨_, so.1⟩
  | tank _ => exact ⟨_, so.1⟩
  | tk3 _ _ _ => exact ⟨_, so.1⟩
  | dk _ => exact ⟨_, so.1⟩
  | no => cases v
  | d _ => cases v
  | cl _ => cases v
/-- a slot that holds a changing list (a name read) -/
abbrev NameI (X : Fam) (i : Nat) (x : Str) : Prop := (∀ j, (X.X j).N[i]? = some x) ∧ (∀ j, Vis (X.X j).env.scope x) ∧ (x == ("__debug__" : Str)) = false ∧ (x == ("__classdict__" : Str)) = false

section
variable {X : Fam} {e : Expr} {te : ATr} {x : Str} {px apos pos : Pos} (i : Nat)
/-- the list is let go at a read: it changes no more -/
theorem ae_varF (hN : ∀ j, (X.X j).N[i]? = some x := by intro _; rfl) (hv : ∀ j, Vis (X.X j).env.scope x := by intro _; first | exact Or.inl rfl | exact Or.inr (Or.inl rfl) | exact Or.inr (Or.inr rfl)) (hd : (x == ("__debug__" : Str)) = false := by decide)
    (hcd : (x == ("__classdict__" : Str)) = false := by decide) : AE X (.Name x pos) fun ρ q => ∃ xs, ρ[i]? = some (.ml xs) ∧ q (.list xs) (ρ.set i (.d (.list xs))) := by
  refine ⟨_, fun j => pe_var (hN j) (hv j) hd hcd, fun W ρ F σ H Q q hk S ht k => ?_⟩
  obtain ⟨xs, hx, hq⟩ := ht
  obtain ⟨p, vs, h1, h2, h3, S2⟩ := S.release hx
  have S3 := S2.freeze h2
  have r : Dp W.K (upd F p (.lst vs)) (.ref p) (.list xs) := .lst (SqL.of upd_same) (dpAll_mono (S2.frozen h2) h3)
  refine ⟨_, h1, k _ _ _ _ H ?_ (S2.frozen h2) (hk ▸ r) hq⟩
  have S4 := S3.setd (i := i) r
  have es : σ.set i (some (.ref p)) = σ := by
    apply List.ext_getElem?
    intro n
    by_cases hn : i = n
    · subst hn
      rw [List.getElem?_set_self (by exact (List.getElem?_eq_some_iff.mp h1).1), h1]
    · rw [List.getElem?_set_ne hn]
  rw [es, List.set_set] at S4
  exact S4
theorem tyV_lst {K : PySem.W.Frag} {H : Hp} {a : Addr} {vs : List V} (h : H a = some (.lst vs)) : tyV K "list" (.ref a) H := .inl ⟨rfl, _, SqL.of h⟩
/-- x.append(e) -/
theorem ae_append (he : AE X e te) (hN : ∀ j, (X.X j).N[i]? = some x := by intro _; rfl) (hv : ∀ j, Vis (X.X j).env.scope x := by intro _; first | exact Or.inl rfl | exact Or.inr (Or.inl rfl) | exact Or.inr (Or.inr rfl)) (hd : (x == ("__debug__" : Str)) = false := by decide)
    (hcd : (x == ("__classdict__" : Str)) = false := by decide) (hbase : ∀ j, attributeBase (.Name x px) "append" (X.X j).env (eval (.Name x px) (X.X j).env) = eval (.Name x px) (X.X j).env := by intro _; rfl)
    (hfew : ∀ j, ((backTo pos (starEach [e] (X.X j).env)).all (fun x => !x.1) && (backToKw pos (keywordEach [] (X.X j).env)).all (fun x => x.1.isSome) && decide (([e] : List Expr).length + ([] : List Keyword).length + (if ([] : List Keyword).isEmpty then 0 else 1) < 30)) = true := by intro _; rfl)
    (hline : (apos.endLine == pos.line) = true := by rfl) (hs : ∀ j, starEach [e] (X.X j).env = [(false, eval e (X.X j).env)] := by intro _; rfl) :
    AE X (.Call (.Attribute (.Name x px) "append" apos) [e] [] pos) fun ρ q => (∃ ys, ρ[i]? = some (.ml ys)) ∧ te ρ fun d ρ1 => ∃ xs, ρ1[i]? = some (.ml xs) ∧ xs.length < 16777216 ∧ q .none (ρ1.set i (.ml (xs ++ [d]))) := by
  obtain ⟨_, a1, a2⟩ := he.ex
  refine ⟨fun σ H Q => tBM X.K "list" rAppend (fun σ H Q => ∃ v, σ[i]? = some (some v) ∧ Q v H) (tCons _ tNil) σ H Q, fun j => by
    have q := pe_bm (X := X.X j) (o := .Name x px) PySem.F.plainAttrs_list PySem.F.slot_list_append PySem.F.type_list_append mt_append (pe_var (hN j) (hv j) hd hcd) (pa_cons (a1 j) pa_nil (hs j)) (cpos := pos) (apos := apos) (hbase j) (hfew j) hline (hs j) (by rfl)
    rw [X.hK j] at q
    exact q, fun W ρ F σ H Q q hk S ht k => ?_⟩
  obtain ⟨⟨ys, hy⟩, ht⟩ := ht
  obtain ⟨p, vs, h1, h2, _, _⟩ := S.chg (ys := []) hy
  refine ⟨.ref p, h1, tyV_lst h2, a2 W ρ F σ H _ _ hk S ht fun d ρ1 F1 v H1 S1 e1 r1 q1 => ?_⟩
  obtain ⟨xs, hx, hl, hq⟩ := q1
  obtain ⟨p', vs', h1', h2', h3', chg⟩ := S1.chg (ys := xs ++ [d]) hx
  rw [h1] at h1'
  cases h1'
  refine ⟨p, vs', v, rfl, rfl, h2', by rw [dpAll_len h3']; exact hl, k _ _ F1 _ _ (chg _ (dpAll_app h3' (.cons (hk ▸ r1) .nil))) e1 .non hq⟩
/-- x.pop() -/
theorem ae_pop (hN : ∀ j, (X.X j).N[i]? = some x := by intro _; rfl) (hv : ∀ j, Vis (X.X j).env.scope x := by intro _; first | exact Or.inl rfl | exact Or.inr (Or.inl rfl) | exact Or.inr (Or.inr rfl)) (hd : (x == ("__debug__" : Str)) = false := by decide)
    (hcd : (x == ("__classdict__" : Str)) = false := by decide) (hbase : ∀ j, attributeBase (.Name x px) "pop" (X.X j).env (eval (.Name x px) (X.X j).env) = eval (.Name x px) (X.X j).env := by intro _; rfl)
    (hline : (apos.endLine == pos.line) = true := by rfl) :
    AE X (.Call (.Attribute (.Name x px) "pop" apos) [] [] pos) fun ρ q => ∃ xs d, ρ[i]? = some (.ml xs) ∧ xs[xs.length - 1]? = some d ∧ q d (ρ.set i (.ml xs.dropLast)) := by
  refine ⟨fun σ H Q => tBM0 X.K "list" rPop (fun σ H Q => ∃ v, σ[i]? = some (some v) ∧ Q v H) σ H Q, fun j => by
    have q := pe_bm0 (X := X.X j) (o := .Name x px) PySem.F.plainAttrs_list PySem.F.slot_list_pop PySem.F.type_list_pop mt_pop (pe_var (hN j) (hv j) hd hcd) (cpos := pos) (apos := apos) (hbase j) hline
    rw [X.hK j] at q
    exact q, fun W ρ F σ H Q q hk S ht k => ?_⟩
  obtain ⟨xs, d, hx, hd', hq⟩ := ht
  obtain ⟨p, vs, h1, h2, h3, chg⟩ := S.chg (ys := xs.dropLast) hx
  obtain ⟨v, hv', rv⟩ := dpAll_get h3 hd'
  exact ⟨.ref p, h1, tyV_lst h2, p, vs, v, rfl, rfl, h2, by rw [dpAll_len h3]; exact hv', k _ _ F _ _ (chg _ (dpAll_dropLast h3)) (Same.refl F) (hk ▸ rv) hq⟩
/-- x.pop(e) -/
theorem ae_popAt (he : AE X e te) (hN : ∀ j, (X.X j).N[i]? = some x := by intro _; rfl) (hv : ∀ j, Vis (X.X j).env.scope x := by intro _; first | exact Or.inl rfl | exact Or.inr (Or.inl rfl) | exact Or.inr (Or.inr rfl)) (hd : (x == ("__debug__" : Str)) = false := by decide)
    (hcd : (x == ("__classdict__" : Str)) = false := by decide) (hbase : ∀ j, attributeBase (.Name x px) "pop" (X.X j).env (eval (.Name x px) (X.X j).env) = eval (.Name x px) (X.X j).env := by intro _; rfl)
    (hfew : ∀ j, ((backTo pos (starEach [e] (X.X j).env)).all (fun x => !x.1) && (backToKw pos (keywordEach [] (X.X j).env)).all (fun x => x.1.isSome) && decide (([e] : List Expr).length + ([] : List Keyword).length + (if ([] : List Keyword).isEmpty then 0 else 1) < 30)) = true := by intro _; rfl)
    (hline : (apos.endLine == pos.line) = true := by rfl) (hs : ∀ j, starEach [e] (X.X j).env = [(false, eval e (X.X j).env)] := by intro _; rfl) :
    AE X (.Call (.Attribute (.Name x px) "pop" apos) [e] [] pos) fun ρ q => (∃ ys, ρ[i]? = some (.ml ys)) ∧ te ρ fun n ρ1 => ∃ xs z j d, n = .int z ∧ ρ1[i]? = some (.ml xs) ∧ xs.length ≤ 16777216 ∧ ixN xs.length z = some j ∧ xs[j]? = some d ∧ q d (ρ1.set i (.ml (xs.eraseIdx j))) := by
  obtain ⟨_, a1, a2⟩ := he.ex
  refine ⟨fun σ H Q => tBM X.K "list" rPopAt (fun σ H Q => ∃ v, σ[i]? = some (some v) ∧ Q v H) (tCons _ tNil) σ H Q, fun j => by
    have q := pe_bm (X := X.X j) (o := .Name x px) PySem.F.plainAttrs_list PySem.F.slot_list_pop PySem.F.type_list_pop mt_popAt (pe_var (hN j) (hv j) hd hcd) (pa_cons (a1 j) pa_nil (hs j)) (cpos := pos) (apos := apos) (hbase j) (hfew j) hline (hs j) (by rfl)
    rw [X.hK j] at q
    exact q, fun W ρ F σ H Q q hk S ht k => ?_⟩
  obtain ⟨⟨ys, hy⟩, ht⟩ := ht
  obtain ⟨p, vs, h1, h2, _, _⟩ := S.chg (ys := []) hy
  refine ⟨.ref p, h1, tyV_lst h2, a2 W ρ F σ H _ _ hk S ht fun d ρ1 F1 v H1 S1 e1 r1 q1 => ?_⟩
  obtain ⟨xs, z, m, d', rfl, hx, hl, hm, hd', hq⟩ := q1
  cases r1
  obtain ⟨p', vs', h1', h2', h3', chg⟩ := S1.chg (ys := xs.eraseIdx m) hx
  rw [h1] at h1'
  cases h1'
  obtain ⟨v, hv', rv⟩ := dpAll_get h3' hd'
  obtain ⟨g1, g2, g3, g4⟩ := ixN_seq hm
  exact ⟨p, vs', z, m, v, rfl, rfl, h2', by omega, by omega, by rw [dpAll_len h3']; exact g1, hv', k _ _ F1 _ _ (chg _ (dpAll_erase m h3')) e1 (hk ▸ rv) hq⟩
/-- x[e] = .. -/
theorem ag_setM (he : AE X e te) (hN : ∀ j, (X.X j).N[i]? = some x := by intro _; rfl) (hv : ∀ j, Vis (X.X j).env.scope x := by intro _; first | exact Or.inl rfl | exact Or.inr (Or.inl rfl) | exact Or.inr (Or.inr rfl)) (hd : (x == ("__debug__" : Str)) = false := by decide)
    (hcd : (x == ("__classdict__" : Str)) = false := by decide) (ha : ∀ j v, assign (.Subscript (.Name x px) e pos) (X.X j).env v = (do
      let ov ← holding [v] (eval (.Name x px) (X.X j).env)
      let iv ← holding [v, ov] (eval e (X.X j).env)
      standAt pos
      holding [v, ov, iv] (setItem ov iv v)
      release [v, ov, iv] []) := by intro _ _; rfl) :
    AG X (.Subscript (.Name x px) e pos) fun d ρ q => (∃ ys, ρ[i]? = some (.ml ys)) ∧ te ρ fun n ρ1 => ∃ xs z j, n = .int z ∧ ρ1[i]? = some (.ml xs) ∧ ixN xs.length z = some j ∧ q (ρ1.set i (.ml (xs.set j d))) := by
  obtain ⟨_, a1, a2⟩ := he.ex
  refine ⟨_, fun j => pg_sub (pe_var (hN j) (hv j) hd hcd) (a1 j) set_list (ha j), fun W ρ F σ H d v Q q hk S r ht k => ?_⟩
  obtain ⟨⟨ys, hy⟩, ht⟩ := ht
  obtain ⟨p, vs, h1, h2, _, _⟩ := S.chg (ys := []) hy
  refine ⟨.ref p, h1, a2 W ρ F σ H _ _ hk S ht fun n ρ1 F1 w H1 S1 e1 r1 q1 => ?_⟩
  obtain ⟨xs, z, m, rfl, hx, hm, hq⟩ := q1
  cases r1
  obtain ⟨p', vs', h1', h2', h3', chg⟩ := S1.chg (ys := xs.set m d) hx
  rw [h1] at h1'
  cases h1'
  exact ⟨p, vs', z, m, rfl, rfl, h2', by rw [dpAll_len h3']; exact hm, k _ F1 _ _ (chg _ (dpAll_set (dp_mono e1 (hk ▸ r)) m h3')) e1 hq⟩
end

/-! ### the tank, opened -/
section
variable {W : Wd} {ρ : List AV} {F : Hp} {σ : L2.St} {H : Hp} {i : Nat}
theorem Sto.swap (S : Sto W ρ F σ H) {x y : AV} (hx : ρ[i]? = some x) (v : vol y = true → vol x = true) (h : ∀ a, SlotOk W F H a (σ[i]?) x → SlotOk W F H a (σ[i]?) y) : Sto W (ρ.set i y) F σ H := by
  have hi : i < ρ.length := (List.getElem?_eq_some_iff.mp hx).1
  refine ⟨S.sub, S.base, S.fr, S.keep, S.tkk, ?_, by rw [List.length_set]; exact S.len, S.wt⟩
  obtain ⟨ad, hs, hp⟩ := S.slots
  have g : ∀ {j z}, (ρ.set i y)[j]? = some z → (i = j ∧ z = y) ∨ (i ≠ j ∧ ρ[j]? = some z) := fun {j z} e => by
    by_cases hj : i = j
    · subst hj; rw [List.getElem?_set_self hi] at e; cases e; exact .inl ⟨rfl, rfl⟩
    · rw [List.getElem?_set_ne hj] at e; exact .inr ⟨hj, e⟩
  refine ⟨ad, fun j z e => ?_, fun j k z w e1 e2 v1 v2 ne => ?_⟩
  · rcases g e with ⟨rfl, rfl⟩ | ⟨_, e⟩
    · exact h _ (hs i x hx)
    · exact hs j z e
  · have up : ∀ {j z}, (ρ.set i y)[j]? = some z → vol z = true → ∃ z', ρ[j]? = some z' ∧ vol z' = true := fun {j z} e vz => by
      rcases g e with ⟨rfl, rfl⟩ | ⟨_, e⟩
      · exact ⟨x, hx, v vz⟩
      · exact ⟨z, e, vz⟩
    obtain ⟨z', f1, w1⟩ := up e1 v1
    obtain ⟨w', f2, w2⟩ := up e2 v2
    exact hp j k z' w' f1 f2 w1 w2 ne
theorem Sto.openT (S : Sto W ρ F σ H) {n : Nat} (h : ρ[i]? = some (.tank n)) : ∃ p q r, TankOk p q r n ∧ Sto W (ρ.set i (.tk3 p q r)) F σ H := by
  obtain ⟨ad, hs, _⟩ := id S.slots
  obtain ⟨a, b, c, p, q, r, e1, ok⟩ := hs i _ h
  refine ⟨p, q, r, ok, S.swap h (fun _ => rfl) fun a' so => ?_⟩
  obtain ⟨a2, b2, c2, p2, q2, r2, e2, _⟩ := so
  rw [a2] at a
  cases a
  rw [e1] at e2
  cases e2
  exact ⟨a2, b2, c2, e1⟩
theorem Sto.shutT (S : Sto W ρ F σ H) {p q r : Int} {n : Nat} (h : ρ[i]? = some (.tk3 p q r)) (ok : TankOk p q r n) : Sto W (ρ.set i (.tank n)) F σ H :=
  S.swap h (fun _ => rfl) fun a' ⟨a, b, c, e⟩ => ⟨a, b, c, p, q, r, e, ok⟩
/-- the tank's three numbers change -/
theorem Sto.chgT (S : Sto W ρ F σ H) {p q r p' q' r' : Int} (h : ρ[i]? = some (.tk3 p q r)) : ∃ a, σ[i]? = some (some (.ref a)) ∧ H a = some (.lst [.int p, .int q, .int r]) ∧ Sto W (ρ.set i (.tk3 p' q' r')) F σ (upd H a (.lst [.int p', .int q', .int r'])) := by
  obtain ⟨ad, hs, _⟩ := id S.slots
  obtain ⟨a, b, c, e⟩ := hs i _ h
  refine ⟨ad i, a, e, ?_⟩
  have A : After F F H (upd H (ad i) (.lst [.int p', .int q', .int r'])) (some (ad i)) := ⟨Same.refl F, fun x o ex => by
    have nx : x ≠ ad i := fun z => by rw [z, b] at ex; cases ex
    rw [upd_ne nx]; exact S.sub x o ex, fun x o ex t => by
    have nx : x ≠ ad i := fun z => t (by rw [z])
    rw [upd_ne nx]; exact ex, fun x o ex => .inl ⟨o, ex⟩⟩
  exact S.afterT h rfl a A b upd_same ⟨_, e⟩ (fun ad' z e' => by subst e'; exact ⟨a, b, c, upd_same⟩) rfl fun _ _ => c
end
def openA (i : Nat) (t : List AV → Prop) : List AV → Prop := fun ρ => ∃ n, ρ[i]? = some (.tank n) ∧ ∀ p q r, TankOk p q r n → t (ρ.set i (.tk3 p q r))
def shutA (i : Nat) (t : List AV → Prop) : List AV → Prop := fun ρ => match ρ[i]? with
  | some (.tk3 p q r) => ∃ n, TankOk p q r n ∧ t (ρ.set i (.tank n))
  | _ => False
theorem shutA_ex {i : Nat} {t : List AV → Prop} {ρ : List AV} (h : shutA i t ρ) : ∃ p q r n, ρ[i]? = some (.tk3 p q r) ∧ TankOk p q r n ∧ t (ρ.set i (.tank n)) := by
  unfold shutA at h
  split at h
  · rename_i p q r e
    obtain ⟨n, h1, h2⟩ := h
    exact ⟨p, q, r, n, e, h1, h2⟩
  · exact h.elim
def atT (ρ : List AV) (i : Nat) (f : Int → Int → Int → Prop) : Prop := match ρ[i]? with
  | some (.tk3 a b c) => f a b c
  | _ => False
theorem atT_ex {ρ : List AV} {i : Nat} {f : Int → Int → Int → Prop} (h : atT ρ i f) : ∃ a b c, ρ[i]? = some (.tk3 a b c) ∧ f a b c := by
  unfold atT at h
  split at h
  · rename_i a b c e; exact ⟨a, b, c, e, h⟩
  · exact h.elim
section
variable {X : Fam} {e : Expr} {te : ATr} {x : Str} {px apos pos pk : Pos} (i : Nat)
/-- a suite that walks with the tank open -/
theorem ass_tank {sts : List Stmt} {t : ASt} (h : ASs X sts t) : ASs X sts fun A ρ => openA i (t { nx := shutA i A.nx, rt := fun d => shutA i (A.rt d), ro := fun xs => shutA i (A.ro xs), bk := shutA i A.bk, ct := shutA i A.ct }) ρ := by
  obtain ⟨_, a1, a2⟩ := h.ex
  refine ⟨_, a1, fun W ρ F σ H D A hk S ht E => ?_⟩
  obtain ⟨n, hn, ht⟩ := ht
  obtain ⟨p, q, r, ok, S1⟩ := S.openT hn
  refine a2 W _ F σ H D _ hk S1 (ht p q r ok) ⟨?_, ?_, ?_, ?_, ?_⟩
  · intro ρ' F' σ' H' S' e z; obtain ⟨p, q, r, n, h1, h2, h3⟩ := shutA_ex z; exact E.nx _ F' σ' H' (S'.shutT h1 h2) e h3
  · intro ρ' F' σ' H' S' e z; obtain ⟨p, q, r, n, h1, h2, h3⟩ := shutA_ex z; exact E.bk _ F' σ' H' (S'.shutT h1 h2) e h3
  · intro ρ' F' σ' H' S' e z; obtain ⟨p, q, r, n, h1, h2, h3⟩ := shutA_ex z; exact E.ct _ F' σ' H' (S'.shutT h1 h2) e h3
  · intro d ρ' F' σ' v H' S' e rv z; obtain ⟨p, q, r, n, h1, h2, h3⟩ := shutA_ex z; exact E.rt d _ F' σ' v H' (S'.shutT h1 h2) e rv h3
  · intro xs ρ' F' σ' a vs H' S' e0 e rv z; obtain ⟨p, q, r, n, h1, h2, h3⟩ := shutA_ex z; exact E.ro xs _ F' σ' a vs H' (S'.shutT h1 h2) e0 e rv h3
def tkGet (m : Nat) (p q r : Int) : Int := match m with | 0 => p | 1 => q | _ => r
/-- x[m] of the tank -/
theorem ae_tk (m : Nat) {jk : Nat} (hm : m < 3) (hN : ∀ j, (X.X j).N[i]? = some x := by intro _; rfl) (hv : ∀ j, Vis (X.X j).env.scope x := by intro _; first | exact Or.inl rfl | exact Or.inr (Or.inl rfl) | exact Or.inr (Or.inr rfl)) (hd : (x == ("__debug__" : Str)) = false := by decide)
    (hcd : (x == ("__classdict__" : Str)) = false := by decide) : AE X (.Subscript (.Name x px) (.Constant (.int m) jk pk) pos) fun ρ q => atT ρ i fun a b c => q (.int (tkGet m a b c)) ρ := by
  refine ⟨_, fun j => by
    have q := pe_ix (X := X.X j) (pos := pos) ix_list (pe_var (pos := px) (hN j) (hv j) hd hcd) (pe_int (i := (m : Int)) (j := jk) (pos := pk)) (fun _ _ => rfl)
    rw [X.hK j] at q
    exact q, fun W ρ F σ H Q q hk S ht k => ?_⟩
  obtain ⟨a, b, c, hx, hq⟩ := atT_ex ht
  obtain ⟨ad, h1, h2, _⟩ := S.chgT (p' := 0) (q' := 0) (r' := 0) hx
  refine ⟨_, h1, _, _, _, .int (tkGet m a b c), rfl, rfl, SqL.of h2, ?_, k _ ρ F _ H S (Same.refl F) (.int _) hq⟩
  rcases m with _ | _ | _ | m
  · exact atI_nat rfl
  · exact atI_nat rfl
  · exact atI_nat rfl
  · omega
def tkPut (m : Nat) (p q r z : Int) : AV := match m with | 0 => .tk3 z q r | 1 => .tk3 p z r | _ => .tk3 p q z
theorem ag_tk (m : Nat) {jk : Nat} (hm : m < 3) (hN : ∀ j, (X.X j).N[i]? = some x := by intro _; rfl) (hv : ∀ j, Vis (X.X j).env.scope x := by intro _; first | exact Or.inl rfl | exact Or.inr (Or.inl rfl) | exact Or.inr (Or.inr rfl)) (hd : (x == ("__debug__" : Str)) = false := by decide)
    (hcd : (x == ("__classdict__" : Str)) = false := by decide) (ha : ∀ j v, assign (.Subscript (.Name x px) (.Constant (.int m) jk pk) pos) (X.X j).env v = (do
      let ov ← holding [v] (eval (.Name x px) (X.X j).env)
      let iv ← holding [v, ov] (eval (.Constant (.int m) jk pk) (X.X j).env)
      standAt pos
      holding [v, ov, iv] (setItem ov iv v)
      release [v, ov, iv] []) := by intro _ _; rfl) :
    AG X (.Subscript (.Name x px) (.Constant (.int m) jk pk) pos) fun d ρ q => ∃ z, d = .int z ∧ atT ρ i fun a b c => q (ρ.set i (tkPut m a b c z)) := by
  refine ⟨_, fun j => pg_sub (pe_var (pos := px) (hN j) (hv j) hd hcd) (pe_int (i := (m : Int)) (j := jk) (pos := pk)) set_list (ha j), fun W ρ F σ H d v Q q hk S r ht k => ?_⟩
  obtain ⟨z, rfl, ht⟩ := ht
  obtain ⟨a, b, c, hx, hq⟩ := atT_ex ht
  cases r
  rcases m with _ | _ | _ | m
  · obtain ⟨ad, h1, h2, S2⟩ := S.chgT (p' := z) (q' := b) (r' := c) hx
    exact ⟨_, h1, ad, _, 0, 0, rfl, rfl, h2, rfl, k _ F _ _ S2 (Same.refl F) hq⟩
  · obtain ⟨ad, h1, h2, S2⟩ := S.chgT (p' := a) (q' := z) (r' := c) hx
    exact ⟨_, h1, ad, _, 1, 1, rfl, rfl, h2, rfl, k _ F _ _ S2 (Same.refl F) hq⟩
  · obtain ⟨ad, h1, h2, S2⟩ := S.chgT (p' := a) (q' := b) (r' := z) hx
    exact ⟨_, h1, ad, _, 2, 2, rfl, rfl, h2, rfl, k _ F _ _ S2 (Same.refl F) hq⟩
  · omega
end
end OS

/-! OSg: the operators and built-ins by what the data are. -/
namespace OS
open PySem L2

theorem AOp.or {K : KW} {r r' : R2} {ro : RO2} (h : ∀ d e q, ro d e q → (∃ ro', AOp K r ro' ∧ ro' d e q) ∨ ∃ ro', AOp K r' ro' ∧ ro' d e q) : AOp K (fun x y H Q => r x y H Q ∨ r' x y H Q) ro :=
  fun W ρ F σ H x y d e Q q hk S a b c k => by
    rcases h d e q c with ⟨ro', h1, c⟩ | ⟨ro', h1, c⟩
    · exact .inl (h1 W ρ F σ H x y d e Q q hk S a b c k)
    · exact .inr (h1 W ρ F σ H x y d e Q q hk S a b c k)
/-- a made list, told as data -/
theorem aop_pc {K : KW} {r : R2} {ro : PSp} (h : PCall K (op2 r) ro) : AOp K r fun d e q => ro [d, e] fun rs => q rs.dat := fun W ρ F σ H x y d e Q q hk S a b c k => by
  obtain ⟨x', y', e1, g⟩ := h F H [x, y] [d, e] Q (fun rs => q rs.dat) S.sub (.cons a (.cons b .nil)) c fun rs v H' F' hq A R => by
    cases rs with
    | d z => exact k z F' v H' (S.after A) A.ff R hq
    | own xs =>
      obtain ⟨p, ws, rfl, f, h0, h', r⟩ := R
      have S2 := S.afterOwn A f h0
      exact k _ _ _ H' (S2.freeze h') (A.ff.trans (S2.frozen h')) (.lst (SqL.of upd_same) (dpAll_mono (S2.frozen h') r)) hq
  cases e1
  exact g
section
variable {X : Fam} {a b e : Expr} {ta tb te : ATr} {pos : Pos}

/-! + -/
def dAdd : RO2
  | .int i, .int j, q => q (.int (i + j))
  | .str x, .str y, q => x.length + y.length ≤ 16777216 ∧ q (.str (x ++ y))
  | .list xs, .list ys, q => xs.length + ys.length ≤ 16777216 ∧ q (.list (xs ++ ys))
  | .tuple xs, .tuple ys, q => xs.length + ys.length ≤ 16777216 ∧ q (.tuple (xs ++ ys))
  | _, _, _ => False
def roTT : RO2 := fun d e q => ∃ xs ys, d = .tuple xs ∧ e = .tuple ys ∧ xs.length + ys.length ≤ 16777216 ∧ q (.tuple (xs ++ ys))
theorem aop_tt {K : KW} : AOp K (rCatX K) roTT := fun W ρ F σ H x y d e Q q hk S a b c k => by
  obtain ⟨xs, ys, rfl, rfl, hl, hq⟩ := c
  cases a with
  | tup h1 a1 x1 => cases b with
    | tup h2 a2 x2 =>
      rename_i p vs p' ws
      refine ⟨_, _, _, _, rfl, rfl, Evl.ex_t S.sub h1, Evl.ex_t S.sub h2, by rw [dpAll_len a1, dpAll_len a2]; exact hl, fun z => ?_, fun z1 z2 => ?_, fun z1 z2 p o ho hp => ?_⟩
      · subst z
        cases a1
        exact k _ F _ H S (Same.refl F) (.tup h2 a2 x2) hq
      · subst z2
        cases a2
        rw [List.append_nil] at hq
        exact k _ F _ H S (Same.refl F) (.tup h1 a1 x1) hq
      · exact k _ _ _ _ (S.newF hp) (S.fnew hp) (.tup (SqT.frz upd_same) (dpAll_mono (S.fnew hp) (dpAll_app a1 a2)) fun _ => .of ho upd_same) hq
abbrev rAddS : R2 := fun x y H Q => ∃ i j, x = .str i ∧ y = .str j ∧ i.length + j.length ≤ sizeLine ∧ Q (.str (i ++ j)) H
abbrev rAddN : R2 := rI0 fun i j => .int (i + j)
theorem aop_add {K : KW} : AOp K (fun x y H Q => (rAddN x y H Q ∨ rAddS x y H Q) ∨ (rCatSq K x y H Q ∨ rCatX K x y H Q)) dAdd := by
  refine AOp.or fun d e q h => ?_
  unfold dAdd at h
  split at h
  · exact .inl ⟨_, AOp.or fun d e q h => .inl ⟨_, sop_ii.aop, h⟩, _, _, rfl, rfl, trivial, h⟩
  · exact .inl ⟨_, AOp.or fun d e q h => .inr ⟨_, sop_catS.aop, h⟩, _, _, rfl, rfl, h⟩
  · exact .inr ⟨_, AOp.or fun d e q h => .inl ⟨_, aop_pc pc_cat, h⟩, _, _, rfl, h⟩
  · exact .inr ⟨_, AOp.or fun d e q h => .inr ⟨_, aop_tt, h⟩, _, _, rfl, rfl, h⟩
  · exact h.elim
theorem ae_add (ha : AE X a ta) (hb : AE X b tb) : AE X (.BinOp a .Add b pos) fun ρ q => ta ρ fun d ρ1 => tb ρ1 fun e ρ2 => dAdd d e fun z => q z ρ2 :=
  ae_op aop_add (fun j => by rw [← show (X.X j).K = X.K from X.hK j]; exact (op_add.or op_add_str).or (op_catSq.or op_catX)) ha hb
/-! the others of ints -/
def CPowW (i j : Int) : Prop := 0 ≤ j ∧ (Builtin.Int.intBits i : Int) * j ≤ 2 ^ 27
theorem op_powW {X : Cx} : OpR X (binaryOp .Pow) (rI CPowW fun i j => .int (i ^ j.toNat)) := by
  intro pins s σ H x y v u Q I rx ry h
  obtain ⟨i, j, rfl, rfl, hc, q⟩ := h
  obtain ⟨t, rfl⟩ := rx
  obtain ⟨t', rfl⟩ := ry
  exact PyProof.Rows.pow_int hc.1 hc.2 ⟨.int _, H, I.tok _, ⟨_, rfl⟩, q⟩
def dII (C : Int → Int → Prop) (f : Int → Int → Int) : RO2
  | .int i, .int j, q => C i j ∧ q (.int (f i j))
  | _, _, _ => False
theorem aop_iC {K : KW} {C : Int → Int → Prop} {f : Int → Int → Int} : AOp K (rI C fun i j => .int (f i j)) (dII C f) := fun W ρ F σ H x y d e Q q hk S a b c k => by
  unfold dII at c
  split at c
  · exact sop_iC.aop W ρ F σ H x y _ _ Q q hk S a b ⟨_, _, rfl, rfl, c⟩ k
  · exact c.elim
def dI2 (f : Int → Int → Int) : RO2
  | .int i, .int j, q => q (.int (f i j))
  | _, _, _ => False
theorem aop_i2 {K : KW} {f : Int → Int → Int} : AOp K (rI0 fun i j => .int (f i j)) (dI2 f) := fun W ρ F σ H x y d e Q q hk S a b c k => by
  unfold dI2 at c
  split at c
  · exact sop_ii.aop W ρ F σ H x y _ _ Q q hk S a b ⟨_, _, rfl, rfl, trivial, c⟩ k
  · exact c.elim
theorem ae_sub (ha : AE X a ta) (hb : AE X b tb) : AE X (.BinOp a .Sub b pos) fun ρ q => ta ρ fun d ρ1 => tb ρ1 fun e ρ2 => dI2 (fun i j => i - j) d e fun z => q z ρ2 := ae_op aop_i2 (fun _ => op_sub) ha hb
theorem ae_mul (ha : AE X a ta) (hb : AE X b tb) : AE X (.BinOp a .Mult b pos) fun ρ q => ta ρ fun d ρ1 => tb ρ1 fun e ρ2 => dII CMulX (fun i j => i * j) d e fun z => q z ρ2 := ae_op aop_iC (fun _ => op_mulX) ha hb
theorem ae_mod (ha : AE X a ta) (hb : AE X b tb) : AE X (.BinOp a .Mod b pos) fun ρ q => ta ρ fun d ρ1 => tb ρ1 fun e ρ2 => dII (fun _ j => 0 < j) (fun i j => i % j) d e fun z => q z ρ2 := ae_op aop_iC (fun _ => op_mod) ha hb
theorem ae_fdiv (ha : AE X a ta) (hb : AE X b tb) : AE X (.BinOp a .FloorDiv b pos) fun ρ q => ta ρ fun d ρ1 => tb ρ1 fun e ρ2 => dII CDivW (fun i j => i / j) d e fun z => q z ρ2 := ae_op aop_iC (fun _ => op_fdivW) ha hb
theorem ae_pow (ha : AE X a ta) (hb : AE X b tb) : AE X (.BinOp a .Pow b pos) fun ρ q => ta ρ fun d ρ1 => tb ρ1 fun e ρ2 => dII CPowW (fun i j => i ^ j.toNat) d e fun z => q z ρ2 := ae_op aop_iC (fun _ => op_powW) ha hb
theorem ae_shr (ha : AE X a ta) (hb : AE X b tb) : AE X (.BinOp a .RShift b pos) fun ρ q => ta ρ fun d ρ1 => tb ρ1 fun e ρ2 => dII (fun _ j => 0 ≤ j) (fun i j => i / 2 ^ j.toNat) d e fun z => q z ρ2 := ae_op aop_iC (fun _ => op_shr) ha hb
theorem ae_and_ (ha : AE X a ta) (hb : AE X b tb) : AE X (.BinOp a .BitAnd b pos) fun ρ q => ta ρ fun d ρ1 => tb ρ1 fun e ρ2 => dI2 (fun i j => Builtin.bitAnd i j) d e fun z => q z ρ2 := ae_op aop_i2 (fun _ => op_and) ha hb
theorem ae_or_ (ha : AE X a ta) (hb : AE X b tb) : AE X (.BinOp a .BitOr b pos) fun ρ q => ta ρ fun d ρ1 => tb ρ1 fun e ρ2 => dI2 (fun i j => Builtin.bitOr i j) d e fun z => q z ρ2 := ae_op aop_i2 (fun _ => op_or) ha hb
theorem ae_xor_ (ha : AE X a ta) (hb : AE X b tb) : AE X (.BinOp a .BitXor b pos) fun ρ q => ta ρ fun d ρ1 => tb ρ1 fun e ρ2 => dI2 (fun i j => Builtin.bitXor i j) d e fun z => q z ρ2 := ae_op aop_i2 (fun _ => op_xor) ha hb
theorem ae_shl (ha : AE X a ta) (hb : AE X b tb) : AE X (.BinOp a .LShift b pos) fun ρ q => ta ρ fun d ρ1 => tb ρ1 fun e ρ2 => dII CShl (fun i j => i * 2 ^ j.toNat) d e fun z => q z ρ2 := ae_op aop_iC (fun _ => op_shlW) ha hb

/-! comparisons -/
def dIB (f : Int → Int → Bool) : RO2
  | .int i, .int j, q => q (.bool (f i j))
  | _, _, _ => False
theorem aop_ib {K : KW} {f : Int → Int → Bool} : AOp K (rI0 fun i j => .bl (f i j)) (dIB f) := fun W ρ F σ H x y d e Q q hk S a b c k => by
  unfold dIB at c
  split at c
  · exact sop_ib.aop W ρ F σ H x y _ _ Q q hk S a b ⟨_, _, rfl, rfl, trivial, c⟩ k
  · exact c.elim
def dLt : RO2
  | .int i, .int j, q => q (.bool (decide (i < j)))
  | d, e, q => roLt d e q
theorem aop_lt {K : KW} : AOp K (fun x y H Q => rI0 (fun i j => .bl (decide (i < j))) x y H Q ∨ rLtD K x y H Q) dLt := by
  refine AOp.or fun d e q h => ?_
  unfold dLt at h
  split at h
  · exact .inl ⟨_, sop_ib.aop, _, _, rfl, rfl, trivial, h⟩
  · exact .inr ⟨_, sop_lt.aop, h⟩
/-- the room that the rules of data ask -/
abbrev Roomy (X : Fam) : Prop := X.X0.A.units + 100 < cLine
theorem op_lt2 {X : Fam} (hu : Roomy X) : ∀ j, OpR (X.X j) (compareOp .Lt) (fun x y H Q => rI0 (fun i j => .bl (decide (i < j))) x y H Q ∨ rLtD X.K x y H Q) := fun j => by
  rw [← X.hkw j]; exact op_lt.or (op_ltD (by rw [X.hA j]; have := hu; omega))
def dEq (neg : Bool) : RO2
  | .int i, .int j, q => q (.bool (if neg then !decide (i = j) else decide (i = j)))
  | .str i, .str j, q => q (.bool (if neg then !decide (i = j) else decide (i = j)))
  | .bool i, .bool j, q => q (.bool (if neg then !decide (i = j) else decide (i = j)))
  | d, e, q => SeqAt.shaped d = true ∧ SeqAt.shaped e = true ∧ q (.bool (if neg then !PyData.eqv d e else PyData.eqv d e))
end
abbrev rEq2 (K : KW) : R2 := fun x y H Q => rEq x y H Q ∨ rEqD K x y H Q
abbrev rNe2 (K : KW) : R2 := fun x y H Q => rNe x y H Q ∨ rNeD K x y H Q
theorem aop_eq {K : KW} : SOp K (rEq2 K) (dEq false) := fun F H x y d e Q q s a b c k => by
  unfold dEq at c
  split at c
  · rename_i i j; cases a; cases b; exact .inl ⟨rfl, by have := k _ _ (.bl _) c; simpa using this⟩
  · rename_i i j; cases a; cases b; exact .inl ⟨rfl, by have := k _ _ (.bl _) c; simpa using this⟩
  · rename_i i j; cases a; cases b; exact .inl ⟨rfl, by have := k _ _ (.bl _) c; simpa using this⟩
  · exact .inr (sop_eq F H x y d e Q q s a b c k)
theorem aop_ne {K : KW} : SOp K (rNe2 K) (dEq true) := fun F H x y d e Q q s a b c k => by
  unfold dEq at c
  split at c
  · rename_i i j; cases a; cases b; exact .inl ⟨rfl, by have := k _ _ (.bl _) c; simpa using this⟩
  · rename_i i j; cases a; cases b; exact .inl ⟨rfl, by have := k _ _ (.bl _) c; simpa using this⟩
  · rename_i i j; cases a; cases b; exact .inl ⟨rfl, by have := k _ _ (.bl _) c; simpa using this⟩
  · exact .inr (sop_ne F H x y d e Q q s a b c k)
theorem op_eq2 {X : Fam} (hu : Roomy X) : ∀ j, OpR (X.X j) (compareOp .Eq) (rEq2 X.K) := fun j => by
  rw [← X.hkw j]; exact op_eq.or (op_eqD (by rw [X.hA j]; have := hu; omega))
theorem op_ne2 {X : Fam} (hu : Roomy X) : ∀ j, OpR (X.X j) (compareOp .NotEq) (rNe2 X.K) := fun j => by
  rw [← X.hkw j]; exact op_ne.or (op_neD (by rw [X.hA j]; have := hu; omega))
/-! in: items of a list, a tuple; a sign of a text -/
abbrev inF (neg : Bool) (d : PyData) (ds : List PyData) (q : PyData → Prop) : Prop := flatD d = true ∧ ds.all flatD = true ∧ q (.bool (if neg then !ds.any fun y => eqFlat y d else ds.any fun y => eqFlat y d))
abbrev inDp (neg : Bool) (d w : PyData) (ds : List PyData) (q : PyData → Prop) : Prop := SeqAt.shaped d = true ∧ SeqAt.shaped w = true ∧ q (.bool (if neg then !ds.any fun z => PyData.eqv z d else ds.any fun z => PyData.eqv z d))
def dIn (neg : Bool) : RO2
  | .str x, .list ds, q => inF neg (.str x) ds q
  | .int x, .list ds, q => inF neg (.int x) ds q
  | .bool x, .list ds, q => inF neg (.bool x) ds q
  | .none, .list ds, q => inF neg .none ds q
  | .tuple x, .list ds, q => inDp neg (.tuple x) (.list ds) ds q
  | .str x, .tuple ds, q => inF neg (.str x) ds q
  | .int x, .tuple ds, q => inF neg (.int x) ds q
  | .bool x, .tuple ds, q => inF neg (.bool x) ds q
  | .none, .tuple ds, q => inF neg .none ds q
  | .tuple x, .tuple ds, q => inDp neg (.tuple x) (.tuple ds) ds q
  | d, .str z, q => ∃ c : Nat, d = .str ⟨#[c]⟩ ∧ q (.bool (if neg then !decide (c ∈ z.cps.toList) else decide (c ∈ z.cps.toList)))
  | d, .dict kvs, q => dFit kvs d ∧ q (.bool (if neg then !(dGet kvs d).isSome else (dGet kvs d).isSome))
  | _, _, _ => False
def rInDeep (K : KW) (neg : Bool) : R2 := fun x y H Q => ∃ d w ds, Dp K H x d ∧ Dp K H y w ∧ (w = .list ds ∨ w = .tuple ds) ∧ SeqAt.shaped d = true ∧ SeqAt.shaped w = true ∧ Q (.bl (if neg then !ds.any fun z => PyData.eqv z d else ds.any fun z => PyData.eqv z d)) H
theorem op_inDeep {X : Cx} (neg : Bool) (hu : X.A.units + 65 < cLine) : OpR X (compareOp (if neg then .NotIn else .In)) (rInDeep (kw X) neg) := by
  intro pins s σ H x y v u Q I rx ry h
  obtain ⟨d, w, ds, hd, he, hw, sd, se, q⟩ := h
  obtain ⟨as, r1⟩ := Dp.reads I hd rx
  obtain ⟨bs, r2⟩ := Dp.reads I he ry
  have cl := SeqAt.canLay_of_shaped se
  rcases hw with rfl | rfl
  · cases neg with
    | false => exact SeqAt.in_list_reads r2 r1 cl (SeqAt.canLay_of_shaped sd) (PyProof.Rows.room_in_shaped sd hu) ⟨.bl _, H, I, rfl, q⟩
    | true => exact SeqAt.notIn_list_reads r2 r1 cl (SeqAt.canLay_of_shaped sd) (PyProof.Rows.room_in_shaped sd hu) ⟨.bl _, H, I, rfl, q⟩
  · cases neg with
    | false => exact SeqAt.in_tuple_reads r2 r1 cl (SeqAt.canLay_of_shaped sd) (PyProof.Rows.room_in_shaped sd hu) ⟨.bl _, H, I, rfl, q⟩
    | true => exact SeqAt.notIn_tuple_reads r2 r1 cl (SeqAt.canLay_of_shaped sd) (PyProof.Rows.room_in_shaped sd hu) ⟨.bl _, H, I, rfl, q⟩
theorem sop_inDeep {K : KW} {neg : Bool} {d w : PyData} {ds : List PyData} (hw : w = .list ds ∨ w = .tuple ds) : ∀ (F H : Hp) (x y : V) (Q : VK) (q : PyData → Prop), Same F H → Dp K F x d → Dp K F y w → inDp neg d w ds q → (∀ z v, Dp K F v z → q z → Q v H) → rInDeep K neg x y H Q :=
  fun F H x y Q q s a b c k => ⟨d, w, ds, dp_mono s a, dp_mono s b, hw, c.1, c.2.1, k _ _ (.bl _) c.2.2⟩
abbrev rSign (neg : Bool) : R2 := fun x y H Q => ∃ (c : Nat) (z : Str), x = .str ⟨#[c]⟩ ∧ y = .str z ∧ Q (.bl (if neg then !decide (c ∈ z.cps.toList) else decide (c ∈ z.cps.toList))) H
abbrev rIn2 (K : KW) (neg : Bool) : R2 := fun x y H Q => (rIn K neg x y H Q ∨ rSign neg x y H Q) ∨ (rInC K neg x y H Q ∨ rInDeep K neg x y H Q)
theorem aop_in {K : KW} {neg : Bool} : SOp K (rIn2 K neg) (dIn neg) := fun F H x y d e Q q s a b c k => by
  have fl : ∀ {d : PyData} {ds : List PyData}, Dp K F x d → Dp K F y (.list ds) → inF neg d ds q → rIn2 K neg x y H Q := fun {d ds} a b c => .inl (.inl (sop_in F H x y d _ Q q s a b ⟨_, .inl rfl, c⟩ k))
  have ft : ∀ {d : PyData} {ds : List PyData}, Dp K F x d → Dp K F y (.tuple ds) → inF neg d ds q → rIn2 K neg x y H Q := fun {d ds} a b c => .inl (.inl (sop_in F H x y d _ Q q s a b ⟨_, .inr rfl, c⟩ k))
  unfold dIn at c
  split at c
  · exact fl a b c
  · exact fl a b c
  · exact fl a b c
  · exact fl a b c
  · exact .inr (.inr (sop_inDeep (.inl rfl) F H x y Q q s a b c k))
  · exact ft a b c
  · exact ft a b c
  · exact ft a b c
  · exact ft a b c
  · exact .inr (.inr (sop_inDeep (.inr rfl) F H x y Q q s a b c k))
  · obtain ⟨ch, rfl, hq⟩ := c
    cases a; cases b
    exact .inl (.inr ⟨ch, _, rfl, rfl, k _ _ (.bl _) hq⟩)
  · exact .inr (.inl (sop_inC F H x y d _ Q q s a b ⟨_, rfl, c⟩ k))
  · exact c.elim
/-! an item -/
def dIx : RO2
  | .list xs, .int i, q => ∃ z, atI xs i = some z ∧ q z
  | .tuple xs, .int i, q => ∃ z, atI xs i = some z ∧ q z
  | .str x, .int i, q => x.length ≤ 16777216 ∧ ∃ c, atI x.cps.toList i = some c ∧ q (.str ⟨#[c]⟩)
  | .dict kvs, k, q => ∃ z, dGet kvs k = some z ∧ dFit kvs k ∧ q z
  | _, _, _ => False
abbrev rIx2 (K : KW) : R2 := fun x y H Q => rIx K x y H Q ∨ rIxC K x y H Q
theorem aop_ix {K : KW} : SOp K (rIx2 K) dIx := fun F H x y d e Q q s a b c k => by
  unfold dIx at c
  split at c
  · obtain ⟨z, h, hq⟩ := c
    exact .inl (.inl (sop_ixL F H x y _ _ Q q s a b ⟨_, _, z, rfl, rfl, h, hq⟩ k))
  · obtain ⟨z, h, hq⟩ := c
    exact .inl (.inr (.inl (sop_ixT F H x y _ _ Q q s a b ⟨_, _, z, rfl, rfl, h, hq⟩ k)))
  · obtain ⟨hl, z, h, hq⟩ := c
    exact .inl (.inr (.inr (sop_ixS F H x y _ _ Q q s a b ⟨_, _, z, rfl, rfl, hl, h, hq⟩ k)))
  · obtain ⟨z, hz, fit, hq⟩ := c
    exact .inr (sop_ixC F H x y _ _ Q q s a b ⟨_, z, rfl, fit, hz, hq⟩ k)
  · exact c.elim
section
variable {X : Fam} {a b e : Expr} {ta tb te : ATr} {oa ob : List AV → (AArg → List AV → Prop) → Prop} {pos : Pos}
theorem ix_any (hu : Roomy X) : ∀ j, IxR (X.X j) (rIx2 X.K) := fun j => by
  rw [← X.hkw j]; exact ix_seq.or (ix_dictC (by rw [X.hA j]; have := hu; omega))
theorem ae_ixD (hu : Roomy X) (ha : AE X a ta) (hb : AE X b tb) (hs : PlainIx b := by intro _ _; rfl) : AE X (.Subscript a b pos) fun ρ q => ta ρ fun d ρ1 => tb ρ1 fun e ρ2 => dIx d e fun z => q z ρ2 :=
  ae_ix aop_ix.aop (ix_any hu) ha hb hs
/-- an item of a slot's changing list -/
theorem ae_ixB (hu : Roomy X) (ha : AO X a oa) (hb : AO X b ob) (hs : PlainIx b := by intro _ _; rfl) : AE X (.Subscript a b pos) fun ρ q => oa ρ fun x ρ1 => ob ρ1 fun y ρ2 => ∃ d f, argD ρ2 [x, y] = some [d, f] ∧ dIx d f fun z => lf z = true ∧ q z ρ2 :=
  ae_opB aop_ix ha hb fun j _ _ p q => pe_ix (ix_any hu j) p q hs
/-- an item of what a slot holds -/
def ixV (tb : ATr) (q : PyData → List AV → Prop) (ρ : List AV) (i : Nat) : Option AV → Prop
  | some (.d d) => tb ρ fun e ρ1 => dIx d e fun z => q z ρ1
  | some (.ml xs) => tb ρ fun e ρ1 => ∃ y d, ρ1[i]? = some y ∧ lent y = some d ∧ dIx d e fun z => q z ρ1
  | some (.dk kvs) => tb ρ fun e ρ1 => ∃ y d, ρ1[i]? = some y ∧ lent y = some d ∧ dIx d e fun z => q z ρ1
  | _ => False
theorem ae_ixS (i : Nat) {x : Str} {px : Pos} (hu : Roomy X) (hb : AE X b tb) (hs : PlainIx b := by intro _ _; rfl) (hN : ∀ j, (X.X j).N[i]? = some x := by intro _; rfl) (hv : ∀ j, Vis (X.X j).env.scope x := by intro _; first | exact Or.inl rfl | exact Or.inr (Or.inl rfl) | exact Or.inr (Or.inr rfl)) (hd : (x == ("__debug__" : Str)) = false := by decide)
    (hcd : (x == ("__classdict__" : Str)) = false := by decide) : AE X (.Subscript (.Name x px) b pos) fun ρ q => ixV tb q ρ i ρ[i]? := by
  obtain ⟨_, b1, b2⟩ := hb.ex
  refine ⟨_, fun j => pe_ix (ix_any hu j) (pe_var (hN j) (hv j) hd hcd) (b1 j) hs, fun W ρ F σ H Q q hk S ht k => ?_⟩
  unfold ixV at ht
  split at ht
  · rename_i d hx
    obtain ⟨v, h1, h2⟩ := S.get hx
    rw [hk] at h2
    refine ⟨v, h1, b2 W ρ F σ H _ _ hk S ht fun e ρ1 F1 w H1 S1 e1 r1 q1 => ?_⟩
    exact aop_ix F1 H1 v w d e _ _ S1.sub (dp_mono e1 h2) r1 q1 fun z v2 rv hq => k z ρ1 F1 v2 H1 S1 e1 rv hq
  rotate_left 2
  · exact ht.elim
  all_goals
    rename_i xs hx
    obtain ⟨a, ha⟩ := S.volAt hx rfl
    refine ⟨_, ha, b2 W ρ F σ H _ _ hk S ht fun e ρ1 F1 w H1 S1 e1 r1 q1 => ?_⟩
    obtain ⟨y, d, h1, h2, h3⟩ := q1
    obtain ⟨ad, hs', _⟩ := id S1.slots
    have so := hs' i y h1
    cases y with
    | ml xs =>
      cases h2
      obtain ⟨z1, f, h0, vs, h4, h5⟩ := so
      rw [ha] at z1
      cases z1
      unfold dIx at h3
      split at h3 <;> rename_i hh <;> first | cases hh | skip
      · rename_i i0
        obtain ⟨z, hz, hq⟩ := h3
        cases r1
        rw [hk] at h5
        obtain ⟨v, g1, g2⟩ := dpAll_at h5 hz
        exact .inl (.inl ⟨_, _, _, v, rfl, rfl, SqL.of h4, g1, k z ρ1 F1 v H1 S1 e1 g2 hq⟩)
      · exact h3.elim
    | dk kvs =>
      cases h2
      obtain ⟨z1, f, h0, o, h4, h5⟩ := so
      rw [ha] at z1
      cases z1
      obtain ⟨z, hz, fit, hq⟩ := h3
      rw [hk] at h5
      exact .inr ⟨F1, _, e, kvs, z, rfl, S1.sub, h5.at h4, r1, fit, hz, fun v rv => k z ρ1 F1 v H1 S1 e1 rv hq⟩
    | no => cases h2
    | d _ => cases h2
    | tank _ => cases h2
    | tk3 _ _ _ => cases h2
    | cl _ => cases h2
theorem ae_ltD (hu : Roomy X) (ha : AE X a ta) (hb : AE X b tb) (hm : behindInMarks .Lt b = false := by first | exact nobehind _ (by decide) (by decide) | rfl) : AE X (.Compare a [.Lt] [b] pos) fun ρ q => ta ρ fun d ρ1 => tb ρ1 fun e ρ2 => dLt d e fun z => q z ρ2 := ae_cmp aop_lt (op_lt2 hu) ha hb hm
theorem at_ltD (hu : Roomy X) (ha : AE X a ta) (hb : AE X b tb) (hm : behindInMarks .Lt b = false := by first | exact nobehind _ (by decide) (by decide) | rfl) : AT X (.Compare a [.Lt] [b] pos) fun ρ q => ta ρ fun d ρ1 => tb ρ1 fun e ρ2 => dLt d e fun z => ∃ k, z = .bool k ∧ q k ρ2 := at_cmp aop_lt (op_lt2 hu) ha hb hm
theorem ae_le (ha : AE X a ta) (hb : AE X b tb) (hm : behindInMarks .LtE b = false := by first | exact nobehind _ (by decide) (by decide) | rfl) : AE X (.Compare a [.LtE] [b] pos) fun ρ q => ta ρ fun d ρ1 => tb ρ1 fun e ρ2 => dIB (fun i j => decide (i ≤ j)) d e fun z => q z ρ2 := ae_cmp aop_ib (fun _ => op_le) ha hb hm
theorem at_le (ha : AE X a ta) (hb : AE X b tb) (hm : behindInMarks .LtE b = false := by first | exact nobehind _ (by decide) (by decide) | rfl) : AT X (.Compare a [.LtE] [b] pos) fun ρ q => ta ρ fun d ρ1 => tb ρ1 fun e ρ2 => dIB (fun i j => decide (i ≤ j)) d e fun z => ∃ k, z = .bool k ∧ q k ρ2 := at_cmp aop_ib (fun _ => op_le) ha hb hm
theorem ae_gt (ha : AE X a ta) (hb : AE X b tb) (hm : behindInMarks .Gt b = false := by first | exact nobehind _ (by decide) (by decide) | rfl) : AE X (.Compare a [.Gt] [b] pos) fun ρ q => ta ρ fun d ρ1 => tb ρ1 fun e ρ2 => dIB (fun i j => decide (j < i)) d e fun z => q z ρ2 := ae_cmp aop_ib (fun _ => op_gt) ha hb hm
theorem at_gt (ha : AE X a ta) (hb : AE X b tb) (hm : behindInMarks .Gt b = false := by first | exact nobehind _ (by decide) (by decide) | rfl) : AT X (.Compare a [.Gt] [b] pos) fun ρ q => ta ρ fun d ρ1 => tb ρ1 fun e ρ2 => dIB (fun i j => decide (j < i)) d e fun z => ∃ k, z = .bool k ∧ q k ρ2 := at_cmp aop_ib (fun _ => op_gt) ha hb hm
theorem ae_ge (ha : AE X a ta) (hb : AE X b tb) (hm : behindInMarks .GtE b = false := by first | exact nobehind _ (by decide) (by decide) | rfl) : AE X (.Compare a [.GtE] [b] pos) fun ρ q => ta ρ fun d ρ1 => tb ρ1 fun e ρ2 => dIB (fun i j => decide (j ≤ i)) d e fun z => q z ρ2 := ae_cmp aop_ib (fun _ => op_ge) ha hb hm
theorem at_ge (ha : AE X a ta) (hb : AE X b tb) (hm : behindInMarks .GtE b = false := by first | exact nobehind _ (by decide) (by decide) | rfl) : AT X (.Compare a [.GtE] [b] pos) fun ρ q => ta ρ fun d ρ1 => tb ρ1 fun e ρ2 => dIB (fun i j => decide (j ≤ i)) d e fun z => ∃ k, z = .bool k ∧ q k ρ2 := at_cmp aop_ib (fun _ => op_ge) ha hb hm
theorem ae_eqD (hu : Roomy X) (ha : AE X a ta) (hb : AE X b tb) (hm : behindInMarks .Eq b = false := by first | exact nobehind _ (by decide) (by decide) | rfl) : AE X (.Compare a [.Eq] [b] pos) fun ρ q => ta ρ fun d ρ1 => tb ρ1 fun e ρ2 => dEq false d e fun z => q z ρ2 := ae_cmp aop_eq.aop (op_eq2 hu) ha hb hm
theorem at_eqD (hu : Roomy X) (ha : AE X a ta) (hb : AE X b tb) (hm : behindInMarks .Eq b = false := by first | exact nobehind _ (by decide) (by decide) | rfl) : AT X (.Compare a [.Eq] [b] pos) fun ρ q => ta ρ fun d ρ1 => tb ρ1 fun e ρ2 => dEq false d e fun z => ∃ k, z = .bool k ∧ q k ρ2 := at_cmp aop_eq.aop (op_eq2 hu) ha hb hm
theorem ae_neD (hu : Roomy X) (ha : AE X a ta) (hb : AE X b tb) (hm : behindInMarks .NotEq b = false := by first | exact nobehind _ (by decide) (by decide) | rfl) : AE X (.Compare a [.NotEq] [b] pos) fun ρ q => ta ρ fun d ρ1 => tb ρ1 fun e ρ2 => dEq true d e fun z => q z ρ2 := ae_cmp aop_ne.aop (op_ne2 hu) ha hb hm
theorem at_neD (hu : Roomy X) (ha : AE X a ta) (hb : AE X b tb) (hm : behindInMarks .NotEq b = false := by first | exact nobehind _ (by decide) (by decide) | rfl) : AT X (.Compare a [.NotEq] [b] pos) fun ρ q => ta ρ fun d ρ1 => tb ρ1 fun e ρ2 => dEq true d e fun z => ∃ k, z = .bool k ∧ q k ρ2 := at_cmp aop_ne.aop (op_ne2 hu) ha hb hm
theorem op_in2 {Y : Fam} (hu : Roomy Y) : ∀ j, OpR (Y.X j) (compareOp .In) (rIn2 Y.K false) := fun j => by
  rw [← Y.hkw j]; exact (op_in_seq.or op_in_sign).or ((op_inC false (by rw [Y.hA j]; have := hu; omega)).or (op_inDeep false (by rw [Y.hA j]; have := hu; omega)))
theorem op_notIn2 {Y : Fam} (hu : Roomy Y) : ∀ j, OpR (Y.X j) (compareOp .NotIn) (rIn2 Y.K true) := fun j => by
  rw [← Y.hkw j]; exact (op_notIn_seq.or op_notIn_sign).or ((op_inC true (by rw [Y.hA j]; have := hu; omega)).or (op_inDeep true (by rw [Y.hA j]; have := hu; omega)))
theorem ae_inD (hu : Roomy X) (ha : AE X a ta) (hb : AE X b tb) (hm : behindInMarks .In b = false := by first | exact nobehind _ (by decide) (by decide) | rfl) : AE X (.Compare a [.In] [b] pos) fun ρ q => ta ρ fun d ρ1 => tb ρ1 fun e ρ2 => dIn false d e fun z => q z ρ2 := ae_cmp aop_in.aop (op_in2 hu) ha hb hm
theorem at_inD (hu : Roomy X) (ha : AE X a ta) (hb : AE X b tb) (hm : behindInMarks .In b = false := by first | exact nobehind _ (by decide) (by decide) | rfl) : AT X (.Compare a [.In] [b] pos) fun ρ q => ta ρ fun d ρ1 => tb ρ1 fun e ρ2 => dIn false d e fun z => ∃ k, z = .bool k ∧ q k ρ2 := at_cmp aop_in.aop (op_in2 hu) ha hb hm
theorem ae_notInD (hu : Roomy X) (ha : AE X a ta) (hb : AE X b tb) (hm : behindInMarks .NotIn b = false := by first | exact nobehind _ (by decide) (by decide) | rfl) : AE X (.Compare a [.NotIn] [b] pos) fun ρ q => ta ρ fun d ρ1 => tb ρ1 fun e ρ2 => dIn true d e fun z => q z ρ2 := ae_cmp aop_in.aop (op_notIn2 hu) ha hb hm
theorem at_notInD (hu : Roomy X) (ha : AE X a ta) (hb : AE X b tb) (hm : behindInMarks .NotIn b = false := by first | exact nobehind _ (by decide) (by decide) | rfl) : AT X (.Compare a [.NotIn] [b] pos) fun ρ q => ta ρ fun d ρ1 => tb ρ1 fun e ρ2 => dIn true d e fun z => ∃ k, z = .bool k ∧ q k ρ2 := at_cmp aop_in.aop (op_notIn2 hu) ha hb hm
/-- comparisons with a slot's changing list -/
theorem ae_cmpB {op : CmpOp} {r : R2} {ro : RO2} (h : SOp X.K r ro) (ho : ∀ j, OpR (X.X j) (compareOp op) r) (ha : AO X a oa) (hb : AO X b ob) (hm : behindInMarks op b = false := by first | exact nobehind _ (by decide) (by decide) | rfl) :
    AE X (.Compare a [op] [b] pos) fun ρ q => oa ρ fun x ρ1 => ob ρ1 fun y ρ2 => ∃ d f, argD ρ2 [x, y] = some [d, f] ∧ ro d f fun z => lf z = true ∧ q z ρ2 :=
  ae_opB h ha hb fun j _ _ p q => pe_cmpR (ho j) p q hm
theorem at_cmpB {op : CmpOp} {r : R2} {ro : RO2} (h : SOp X.K r ro) (ho : ∀ j, OpR (X.X j) (compareOp op) r) (ha : AO X a oa) (hb : AO X b ob) (hm : behindInMarks op b = false := by first | exact nobehind _ (by decide) (by decide) | rfl) :
    AT X (.Compare a [op] [b] pos) fun ρ q => oa ρ fun x ρ1 => ob ρ1 fun y ρ2 => ∃ d f, argD ρ2 [x, y] = some [d, f] ∧ ro d f fun z => ∃ k, z = .bool k ∧ q k ρ2 := by
  obtain ⟨_, a1, a2⟩ := ha.ex
  obtain ⟨_, b1, b2⟩ := hb.ex
  refine ⟨_, fun j => pt_cmpR (ho j) (a1 j) (b1 j) hm, fun W ρ F σ H Q q hk S ht k => a2 W ρ F σ H _ _ hk S ht fun x ρ1 F1 v H1 S1 e1 r1 q1 => ?_⟩
  refine b2 W ρ1 F1 σ H1 _ _ hk S1 q1 fun y ρ2 F2 w H2 S2 e2 r2 q2 => ?_
  obtain ⟨d, f, hd, q2⟩ := q2
  obtain ⟨F3, s1, s2, hm', back⟩ := S2.borrow
  obtain ⟨v', w', e, rv, rw'⟩ := dp2 (argD_ok s1 (fun i y x z l => by rw [← hk]; exact hm' i y x z l) (.cons (argR_mono e2 r1) (.cons r2 .nil)) hd)
  cases e
  refine h F3 H2 v w d f _ _ s2 rv rw' q2 fun z u rz hq => ?_
  obtain ⟨b, rfl, hq⟩ := hq
  cases rz
  exact ⟨b, rfl, k b ρ2 F2 H2 S2 (e1.trans e2) hq⟩
end
end OS

/-! OSh: built-ins by what the data are. -/
namespace OS
open PySem L2

/-! ### specs by match -/
def sLen : PSp
  | [.list xs], q => q (.d (.int (xs.length : Nat)))
  | [.tuple xs], q => q (.d (.int (xs.length : Nat)))
  | [.str z], q => z.length ≤ 16777216 ∧ q (.d (.int (z.length : Nat)))
  | _, _ => False
def sList : PSp
  | [.list xs], q => q (.own xs)
  | [.tuple xs], q => q (.own xs)
  | _, _ => False
def sTuple : PSp
  | [.list xs], q => q (.d (.tuple xs))
  | [.tuple xs], q => q (.d (.tuple xs))
  | _, _ => False
def sAbs : PSp
  | [.int i], q => q (.d (.int (if i < 0 then -i else i)))
  | _, _ => False
def sInt : PSp
  | [.int i], q => q (.d (.int i))
  | [.bool b], q => q (.d (.int (if b then 1 else 0)))
  | _, _ => False
def sMax2 : PSp
  | [.int i, .int j], q => q (.d (.int (if j > i then j else i)))
  | _, _ => False
def sMin2 : PSp
  | [.int i, .int j], q => q (.d (.int (if j < i then j else i)))
  | _, _ => False
section
variable {K : KW}
abbrev rLen (K : PySem.W.Frag) : List V → Hp → VK → Prop := fun xs H Q => (∃ p ys, xs = [.ref p] ∧ (SqL K H p ys ∨ SqT K H p ys) ∧ Q (.int ys.length) H) ∨ (∃ z, xs = [.str z] ∧ z.length ≤ sizeLine ∧ Q (.int z.length) H)
theorem ps_len : PCall K (rLen K) sLen := fun F H vs ds Q q s r a k => by
  unfold sLen at a
  split at a
  · exact .inl (pc_len F H vs _ Q q s r ⟨_, rfl, _, .inl rfl, a⟩ k)
  · exact .inl (pc_len F H vs _ Q q s r ⟨_, rfl, _, .inr rfl, a⟩ k)
  · exact .inr (pc_lenS F H vs _ Q q s r ⟨_, rfl, _, rfl, a⟩ k)
  · exact a.elim
theorem ps_list : PCall K (fun xs H Q => ∃ p ys, xs = [.ref p] ∧ (SqL K H p ys ∨ SqT K H p ys) ∧ ∀ l, H l = none → Q (.ref l) (upd H l (.lst ys))) sList := fun F H vs ds Q q s r a k => by
  unfold sList at a
  split at a
  · exact pc_list F H vs _ Q q s r ⟨_, rfl, _, .inl rfl, a⟩ k
  · exact pc_list F H vs _ Q q s r ⟨_, rfl, _, .inr rfl, a⟩ k
  · exact a.elim
theorem ps_tuple : PCall K (rTupX K) sTuple := fun F H vs ds Q q s r a k => by
  unfold sTuple at a
  split at a
  · exact pc_tuple F H vs _ Q q s r ⟨_, rfl, _, .inl rfl, a⟩ k
  · exact pc_tuple F H vs _ Q q s r ⟨_, rfl, _, .inr rfl, a⟩ k
  · exact a.elim
theorem ps_abs : PCall K (fun xs H Q => ∃ i, xs = [.int i] ∧ Q (.int (if i < 0 then -i else i)) H) sAbs := fun F H vs ds Q q s r a k => by
  unfold sAbs at a
  split at a
  · exact pc_abs F H vs _ Q q s r ⟨_, rfl, _, rfl, a⟩ k
  · exact a.elim
theorem ps_int : PCall K (fun xs H Q => (∃ i, xs = [.int i] ∧ Q (.int i) H) ∨ ∃ k, xs = [.bl k] ∧ Q (.int (if k then 1 else 0)) H) sInt := fun F H vs ds Q q s r a k => by
  unfold sInt at a
  split at a
  · exact pc_int F H vs _ Q q s r ⟨_, rfl, .inl ⟨_, rfl, a⟩⟩ k
  · exact pc_int F H vs _ Q q s r ⟨_, rfl, .inr ⟨_, rfl, a⟩⟩ k
  · exact a.elim
theorem ps_max2 : PCall K (fun xs H Q => ∃ i j, xs = [.int i, .int j] ∧ Q (.int (if j > i then j else i)) H) sMax2 := fun F H vs ds Q q s r a k => by
  unfold sMax2 at a
  split at a
  · exact pc_max2 F H vs _ Q q s r ⟨_, _, rfl, a⟩ k
  · exact a.elim
theorem ps_min2 : PCall K (fun xs H Q => ∃ i j, xs = [.int i, .int j] ∧ Q (.int (if j < i then j else i)) H) sMin2 := fun F H vs ds Q q s r a k => by
  unfold sMin2 at a
  split at a
  · exact pc_min2 F H vs _ Q q s r ⟨_, _, rfl, a⟩ k
  · exact a.elim
end

/-! ### sorted -/
def rSortD (K : KW) : List V → Hp → VK → Prop := fun vs H Q => ∃ (F : Hp) (a : Addr) (xs : List V) (ds : List PyData), vs = [.ref a] ∧ (SqL K H a xs ∧ Same F H ∧ DpAll K F xs ds) ∧ PySem.W.AllAlike ds ∧ PySem.W.Sortable ds ∧ (∀ d ∈ ds, d.depth ≤ 64) ∧
  ∀ ys p, H p = none → DpAll K F ys (ds.mergeSort (PySem.W.dataLe false id)) → Q (.ref p) (upd H p (.lst ys))
def SrtR (K : KW) (H : Hp) (v : Value) (b : PyData) : Prop := ∃ x, RelV x v ∧ Dp K H x b
theorem srt_each {K : KW} {H : Hp} : ∀ {xs : List V} {us : List Value} {ds : List PyData}, Vals xs us → DpAll K H xs ds → PySem.W.EachIs (SrtR K H) us ds
  | _, _, _, .nil, .nil => .nil
  | _, _, _, .cons r rs, .cons d dd => .cons ⟨_, r, d⟩ (srt_each rs dd)
theorem srt_back {K : KW} {H : Hp} : ∀ {us : List Value} {ds : List PyData}, PySem.W.EachIs (SrtR K H) us ds → ∃ xs, Vals xs us ∧ DpAll K H xs ds
  | _, _, .nil => ⟨[], .nil, .nil⟩
  | _, _, .cons h t => by
    obtain ⟨x, r, d⟩ := h
    obtain ⟨xs, rs, dd⟩ := srt_back t
    exact ⟨x :: xs, .cons r rs, .cons d dd⟩
theorem cr_sortD {X : Cx} (hu : X.A.units + 100 < cLine) : CallR X (.builtin "sorted") (rSortD (kw X)) := by
  intro pins s σ H vs us Q I r h
  obtain ⟨F, a, xs, ds, rfl, ⟨hs, sF, hd⟩, hal, hk, hdp, q⟩ := h
  obtain ⟨its, rv, hl, hz⟩ := I.list hs
  rw [Vals.ref1 r]
  have e := srt_each rv hd
  have hz' : ds.length ≤ sizeLine := by rw [← dpAll_len hd]; exact hz
  refine PySem.W.sorted_data (vs := its) (R := SrtR (kw X) F) (bs := ds) (enc := id) hl.isList e (e.mono fun v b ⟨x, rx, dx⟩ => Dp.reads I (dp_mono sF dx) rx) (by rw [List.map_id]; exact hal) (by rw [List.map_id]; exact hk) hz' (fun b hb => by have := hdp b hb; show X.A.units + 2 + b.depth < cLine; omega) fun out ho er => ?_
  obtain ⟨ys, r2, d2⟩ := srt_back er
  obtain ⟨ep, he'⟩ := PyProof.Rows.sortedAll_at s.heap its out.toArray
  have hlen : ys.length ≤ sizeLine := by rw [dpAll_len d2, List.length_mergeSort]; exact hz'
  exact ⟨.ref _, upd H (s.heap.objs.size + 1) (.lst ys), I.laid (t' := s.toks) (fun _ _ => PyProof.Rows.sortedAll_old) (Nat.le_succ _) ⟨hlen, out, ep, r2, he'⟩, rfl, q ys _ (I.hok.fresh (Nat.le_succ _)) d2⟩
def sSorted : PSp
  | [.list xs], q => PySem.W.AllAlike xs ∧ PySem.W.Sortable xs ∧ (∀ d ∈ xs, d.depth ≤ 64) ∧ q (.own (xs.mergeSort (PySem.W.dataLe false id)))
  | _, _ => False
theorem ps_sorted {K : KW} : PCall K (rSortD K) sSorted := fun F H vs ds Q q s r a k => by
  unfold sSorted at a
  split at a
  · obtain ⟨h1, h2, h3, hq⟩ := a
    obtain ⟨v, rfl, r1⟩ := dp1 r
    cases r1 with
    | lst hs ha =>
      refine ⟨F, _, _, _, rfl, ⟨Evl.ex_l s hs, s, ha⟩, h1, h2, h3, fun ys p hp hy => ?_⟩
      exact k (.own _) _ _ F hq (After.own s hp) ⟨p, _, rfl, s.free hp, hp, upd_same, hy⟩
  · exact a.elim

/-! ### all, any, sum, of lists of one kind -/
def boolsD : List PyData → Option (List Bool)
  | [] => some []
  | .bool b :: r => (boolsD r).map (b :: ·)
  | _ => none
def intsD : List PyData → Option (List Int)
  | [] => some []
  | .int b :: r => (intsD r).map (b :: ·)
  | _ => none
def strsD : List PyData → Option (List Str)
  | [] => some []
  | .str b :: r => (strsD r).map (b :: ·)
  | _ => none
theorem boolsD_eq : ∀ {ds : List PyData} {bs : List Bool}, boolsD ds = some bs → ds = bs.map .bool
  | [], _, h => by cases h; rfl
  | d :: r, bs, h => by
    cases d with
    | bool b =>
      unfold boolsD at h
      cases e : boolsD r with
      | none => rw [e] at h; cases h
      | some l => rw [e] at h; cases h; rw [boolsD_eq e]; rfl
    | _ => cases h
theorem intsD_eq : ∀ {ds : List PyData} {bs : List Int}, intsD ds = some bs → ds = bs.map .int
  | [], _, h => by cases h; rfl
  | d :: r, bs, h => by
    cases d with
    | int b =>
      unfold intsD at h
      cases e : intsD r with
      | none => rw [e] at h; cases h
      | some l => rw [e] at h; cases h; rw [intsD_eq e]; rfl
    | _ => cases h
theorem strsD_eq : ∀ {ds : List PyData} {bs : List Str}, strsD ds = some bs → ds = bs.map .str
  | [], _, h => by cases h; rfl
  | d :: r, bs, h => by
    cases d with
    | str b =>
      unfold strsD at h
      cases e : strsD r with
      | none => rw [e] at h; cases h
      | some l => rw [e] at h; cases h; rw [strsD_eq e]; rfl
    | _ => cases h
theorem boolsD_map : ∀ bs : List Bool, boolsD (bs.map .bool) = some bs
  | [] => rfl
  | b :: r => by show (boolsD (r.map .bool)).map (b :: ·) = _; rw [boolsD_map r]; rfl
theorem intsD_map : ∀ bs : List Int, intsD (bs.map .int) = some bs
  | [] => rfl
  | b :: r => by show (intsD (r.map .int)).map (b :: ·) = _; rw [intsD_map r]; rfl
theorem strsD_map : ∀ bs : List Str, strsD (bs.map .str) = some bs
  | [] => rfl
  | b :: r => by show (strsD (r.map .str)).map (b :: ·) = _; rw [strsD_map r]; rfl
def sAll : PSp
  | [.list xs], q => ∃ bs : List Bool, xs = bs.map .bool ∧ q (.d (.bool (bs.all id)))
  | _, _ => False
def sAny : PSp
  | [.list xs], q => ∃ bs : List Bool, xs = bs.map .bool ∧ q (.d (.bool (bs.any id)))
  | _, _ => False
def sSum : PSp
  | [.list xs], q => ∃ ns : List Int, xs = ns.map .int ∧ q (.d (.int ns.sum))
  | _, _ => False
def sMaxL : PSp
  | [.list xs], q => ∃ ns : List Int, xs = ns.map .int ∧ 0 < ns.length ∧ ∀ m, m ∈ ns → (∀ y ∈ ns, y ≤ m) → q (.d (.int m))
  | _, _ => False
def sMinL : PSp
  | [.list xs], q => ∃ ns : List Int, xs = ns.map .int ∧ 0 < ns.length ∧ ∀ m, m ∈ ns → (∀ y ∈ ns, m ≤ y) → q (.d (.int m))
  | _, _ => False
section
variable {K : KW}
theorem ps_all : PCall K (rAll K) sAll := fun F H vs ds Q q s r a k => by
  unfold sAll at a
  split at a
  · obtain ⟨bs, rfl, hq⟩ := a; exact pc_all F H vs _ Q q s r ⟨_, rfl, bs, rfl, hq⟩ k
  · exact a.elim
theorem ps_any : PCall K (rAny K) sAny := fun F H vs ds Q q s r a k => by
  unfold sAny at a
  split at a
  · obtain ⟨bs, rfl, hq⟩ := a; exact pc_any F H vs _ Q q s r ⟨_, rfl, bs, rfl, hq⟩ k
  · exact a.elim
theorem ps_sum : PCall K (rSum K) sSum := fun F H vs ds Q q s r a k => by
  unfold sSum at a
  split at a
  · obtain ⟨bs, rfl, hq⟩ := a; exact pc_sum F H vs _ Q q s r ⟨_, rfl, bs, rfl, hq⟩ k
  · exact a.elim
theorem ps_maxL : PCall K (rMax K) sMaxL := fun F H vs ds Q q s r a k => by
  unfold sMaxL at a
  split at a
  · obtain ⟨ns, rfl, hl, hq⟩ := a
    obtain ⟨v, rfl, r1⟩ := dp1 r
    cases r1 with
    | lst hs ha => exact ⟨_, ns, rfl, by rw [← dpAll_ints ha]; exact Evl.ex_l s hs, hl, fun m h1 h2 => k _ _ _ F (hq m h1 h2) (After.refl s) (.int _)⟩
  · exact a.elim
theorem ps_minL : PCall K (rMin K) sMinL := fun F H vs ds Q q s r a k => by
  unfold sMinL at a
  split at a
  · obtain ⟨ns, rfl, hl, hq⟩ := a
    obtain ⟨v, rfl, r1⟩ := dp1 r
    cases r1 with
    | lst hs ha => exact ⟨_, ns, rfl, by rw [← dpAll_ints ha]; exact Evl.ex_l s hs, hl, fun m h1 h2 => k _ _ _ F (hq m h1 h2) (After.refl s) (.int _)⟩
  · exact a.elim
end
/-! ### list(text), repr -/
def sListS : PSp
  | [.str x], q => x.length ≤ 16777216 ∧ q (.own (signs x))
  | _, _ => False
def rListS : List V → Hp → VK → Prop := fun vs H Q => ∃ x : Str, vs = [.str x] ∧ x.length ≤ sizeLine ∧ ∀ p, H p = none → Q (.ref p) (upd H p (.lst (x.cps.toList.map fun c => V.str ⟨#[c]⟩)))
theorem vals_by_get : ∀ {xs : List V} {us : List Value}, xs.length = us.length → (∀ (i : Nat) (x : V), xs[i]? = some x → ∃ u : Value, us[i]? = some u ∧ RelV x u) → Vals xs us
  | [], [], _, _ => .nil
  | [], _ :: _, h, _ => by cases h
  | _ :: _, [], h, _ => by cases h
  | x :: xs, u :: us, h, g => by
    obtain ⟨u', e, r⟩ := g 0 x rfl
    cases e
    exact .cons r (vals_by_get (Nat.succ.inj h) fun i y hy => g (i + 1) y hy)
theorem cr_listS {X : Cx} (hc : X.calm = true) : CallR X (.type "list") rListS := by
  intro pins s σ H vs us Q I r h
  obtain ⟨x, rfl, hl, q⟩ := h
  obtain ⟨u, rfl, t, rfl⟩ := vals1 r
  refine PySem.call_list_str (I.ok.hd hc) x t (fun h' tk acc' c' hk hS' hacc => ?_) hl
  have rv : Vals (x.cps.toList.map fun c => V.str ⟨#[c]⟩) acc'.toList := by
    refine vals_by_get (by rw [List.length_map, Array.length_toList, Array.length_toList, hacc.1]) fun i y hy => ?_
    rw [List.getElem?_map] at hy
    cases e : x.cps.toList[i]? with
    | none => rw [e] at hy; cases hy
    | some c =>
      rw [e] at hy
      cases hy
      have hi : i < acc'.size := by
        rw [hacc.1, ← Array.length_toList]
        exact (List.getElem?_eq_some_iff.mp e).1
      obtain ⟨c', u', hc', hv⟩ := hacc.2 i acc'[i] (by rw [Array.getElem?_eq_getElem hi])
      refine ⟨acc'[i], by rw [Array.getElem?_toList, Array.getElem?_eq_getElem hi], u', ?_⟩
      have ec : x.cps[i]? = some c := by rw [← Array.getElem?_toList]; exact e
      rw [ec] at hc'
      cases hc'
      exact hv
  refine ⟨.ref s.heap.objs.size, _, I.laid (t' := tk) hk (Nat.le_refl _) (show ObjOk X.prog X.w _ _ _ (.lst _) from ⟨?_, acc'.toList, c', rv, by simpa using hS'⟩), rfl, q _ (I.hok.fresh (Nat.le_refl _))⟩
  rw [List.length_map, Array.length_toList]
  exact hl
theorem ps_listS {K : KW} : PCall K rListS sListS := fun F H vs ds Q q s r a k => by
  unfold sListS at a
  split at a
  · obtain ⟨v, rfl, r1⟩ := dp1 r
    cases r1
    refine ⟨_, rfl, a.1, fun p hp => k (.own _) _ _ F a.2 (After.own s hp) ⟨p, _, rfl, s.free hp, hp, upd_same, ?_⟩⟩
    rename_i x
    have go : ∀ l : List Nat, DpAll K F (l.map fun c => V.str ⟨#[c]⟩) (l.map fun c => PyData.str ⟨#[c]⟩) := fun l => by
      induction l with
      | nil => exact .nil
      | cons c l ih => exact .cons (.str _) ih
    exact go _
  · exact a.elim
/-- repr of a list or a tuple, or of something that is no object -/
def rRepr (K : KW) : List V → Hp → VK → Prop := fun vs H Q => (∃ (v : V) (a : Addr) (d : PyData), vs = [v] ∧ v = .ref a ∧ Dp K H v d ∧ d.showable = true ∧ d.hasDict = false ∧ d.depth ≤ 64 ∧ d.shown.length ≤ sizeLine ∧ Q (.str d.shown) H) ∨
  (∃ b, vs = [.bl b] ∧ Q (.str (PyData.bool b).shown) H) ∨ (∃ i, vs = [.int i] ∧ i.natAbs.log2 < 1920 ∧ Q (.str (PyData.int i).shown) H) ∨ (∃ x, vs = [.str x] ∧ (PyData.str x).shown.length ≤ sizeLine ∧ Q (.str (PyData.str x).shown) H) ∨ (vs = [.non] ∧ Q (.str PyData.none.shown) H)
theorem cr_repr {X : Cx} (hg : X.A.guards = some []) (hu : X.A.units + 100 < cLine) : CallR X (.builtin "repr") (rRepr (kw X)) := by
  intro pins s σ H vs us Q I r h
  rcases h with ⟨v, a, d, rfl, rfl, dp, h1, h2, h3, h4, q⟩ | ⟨b, rfl, q⟩ | ⟨i, rfl, hz, q⟩ | ⟨x, rfl, hz, q⟩ | ⟨rfl, q⟩
  · obtain ⟨u, rfl, ru⟩ := vals1 r
    cases ru
    obtain ⟨as, rd⟩ := Dp.reads I dp rfl
    refine PySem.repr_of_reads' rd h1 (PySem.PyData.noDict_hsm h2) hg (by omega) (fun _ _ e => e) (fun h' u tk hk => ?_) h4
    exact ⟨.str d.shown, H, I.kept (t' := tk) hk, ⟨u, rfl⟩, q⟩
  · obtain ⟨u, rfl, ru⟩ := vals1 r
    cases ru
    have e : (PyData.bool b).shown = (if b then "True" else "False" : Str) := by cases b <;> rfl
    rw [e] at q
    exact PySem.P.repr_of_bool ⟨.str _, H, I.tok _, ⟨_, rfl⟩, q⟩
  · obtain ⟨u, rfl, t, rfl⟩ := vals1 r
    exact PySem.P.repr_of_int hz ⟨.str _, H, I.tok _, ⟨_, rfl⟩, q⟩
  · obtain ⟨u, rfl, t, rfl⟩ := vals1 r
    exact PySem.P.repr_of_str ⟨.str _, H, I.tok _, ⟨_, rfl⟩, q⟩ hz
  · obtain ⟨u, rfl, ru⟩ := vals1 r
    cases ru
    exact PySem.P.repr_of_none ⟨.str _, H, I.tok _, ⟨_, rfl⟩, q⟩
/-- what is shown by its own -/
inductive Bare : PyData → Prop where
  | b (b : Bool) : Bare (.bool b)
  | i (i : Int) (h : i.natAbs.log2 < 1920) : Bare (.int i)
  | s (x : Str) : Bare (.str x)
  | n : Bare .none
def sRepr : PSp := fun ds q => ∃ d, ds = [d] ∧ ((∃ xs, d = .list xs ∨ d = .tuple xs) ∧ d.showable = true ∧ d.hasDict = false ∧ d.depth ≤ 64 ∨ Bare d) ∧ d.shown.length ≤ 16777216 ∧ q (.d (.str d.shown))
theorem ps_repr {K : KW} : PCall K (rRepr K) sRepr := fun F H vs ds Q q s r a k => by
  obtain ⟨d, rfl, hd, h4, hq⟩ := a
  obtain ⟨v, rfl, r1⟩ := dp1 r
  have hK : Q (.str d.shown) H := k _ _ _ F hq (After.refl s) (.str _)
  rcases hd with ⟨⟨xs, rfl | rfl⟩, h1, h2, h3⟩ | hd
  · cases r1 with
    | lst hs ha => exact .inl ⟨_, _, _, rfl, rfl, dp_mono s (.lst hs ha), h1, h2, h3, h4, hK⟩
  · cases r1 with
    | tup hs ha tx => exact .inl ⟨_, _, _, rfl, rfl, dp_mono s (.tup hs ha tx), h1, h2, h3, h4, hK⟩
  · cases hd with
    | b b => cases r1; exact .inr (.inl ⟨b, rfl, hK⟩)
    | i i hi => cases r1; exact .inr (.inr (.inl ⟨i, rfl, hi, hK⟩))
    | s x => cases r1; exact .inr (.inr (.inr (.inl ⟨x, rfl, h4, hK⟩)))
    | n => cases r1; exact .inr (.inr (.inr (.inr ⟨rfl, hK⟩)))

/-! ### the calls as rules -/
section
variable {X : Fam} {e a b : Expr} {es : List Expr} {pos p : Pos} {x : Str} {ta : AAr} {te tb : ATr} {r : List V → Hp → VK → Prop} {ro : PSp}
/-- how a call of a built-in stands -/
structure Bi (X : Fam) (x : Str) (e : Expr) (es : List Expr) (p pos : Pos) (r : List V → Hp → VK → Prop) : Prop where
  pe : ∀ j t, PA (X.X j) (e :: es) t → PE (X.X j) (.Call (.Name x p) (e :: es) [] pos) (fun σ H Q => t σ H fun vs H1 => r vs H1 Q)
theorem bu_f {id : String} (hc : ∀ j, CallR (X.X j) (.builtin id) r) (hv : bootBuiltins x = some (.builtin id)) (hm : X.X0.mg x = none) (hg : ∀ j, Gl (X.X j) x := by intro _; rfl) (hn : x ≠ "__name__" := by decide) (hdb : (x == ("__debug__" : Str)) = false := by decide)
    (he : ∀ j, starEach (e :: es) (X.X j).env = (false, eval e (X.X j).env) :: starEach es (X.X j).env := by intro _; rfl) (hpl : ∀ j, (backTo pos (starEach es (X.X j).env)).any (·.1) = false := by intro _; rfl) : Bi X x e es p pos r :=
  ⟨fun j t h => pe_callB (hc j) (hg j) (by rw [X.hm j]; exact hm) hv h hn hdb (he j) (hpl j)⟩
theorem bu_t {T : String} (hc : ∀ j, CallR (X.X j) (.type T) r) (hv : bootBuiltins x = some (.type T)) (hm : X.X0.mg x = none) (hg : ∀ j, Gl (X.X j) x := by intro _; rfl) (hn : x ≠ "__name__" := by decide) (hdb : (x == ("__debug__" : Str)) = false := by decide)
    (he : ∀ j, starEach (e :: es) (X.X j).env = (false, eval e (X.X j).env) :: starEach es (X.X j).env := by intro _; rfl) (hpl : ∀ j, (backTo pos (starEach es (X.X j).env)).any (·.1) = false := by intro _; rfl) : Bi X x e es p pos r :=
  ⟨fun j t h => pe_callTy (hc j) (hg j) (by rw [X.hm j]; exact hm) hv h hn hdb (he j) (hpl j)⟩
theorem ae_bi (b : Bi X x e es p pos r) (hr : PCall X.K r ro) (ha : AA X (e :: es) ta) : AE X (.Call (.Name x p) (e :: es) [] pos) fun ρ q => ta ρ fun as ρ1 => ∃ ds, dats as = some ds ∧ ro ds fun rs => q rs.dat ρ1 := ae_pc (tz := fun _ => ae_op.tNo) hr ha b.pe
theorem al_bi (b : Bi X x e es p pos r) (hr : PCall X.K r ro) (ha : AA X (e :: es) ta) : AL X (.Call (.Name x p) (e :: es) [] pos) fun ρ q => ta ρ fun as ρ1 => ∃ ds, dats as = some ds ∧ ro ds fun rs => ∃ xs, rs = .own xs ∧ q xs ρ1 := al_pc hr ha b.pe
theorem ae_biB (b : Bi X x e es p pos r) (hr : PCall X.K r ro) (ha : AA X (e :: es) ta) : AE X (.Call (.Name x p) (e :: es) [] pos) fun ρ q => ta ρ fun as ρ1 => ∃ ds, argD ρ1 as = some ds ∧ ro ds fun rs => rs.lf = true ∧ q rs.dat ρ1 := ae_pcB hr ha b.pe
theorem al_biB (b : Bi X x e es p pos r) (hr : PCall X.K r ro) (ha : AA X (e :: es) ta) : AL X (.Call (.Name x p) (e :: es) [] pos) fun ρ q => ta ρ fun as ρ1 => ∃ ds, argD ρ1 as = some ds ∧ ro ds fun rs => ∃ xs, rs = .own xs ∧ lfAll xs = true ∧ q xs ρ1 := al_pcB hr ha b.pe
theorem bu_len (hm : X.X0.mg "len" = none) (hg : ∀ j, Gl (X.X j) "len" := by intro _; rfl) (he : ∀ j, starEach [e] (X.X j).env = [(false, eval e (X.X j).env)] := by intro _; rfl) : Bi X "len" e [] p pos (rLen X.K) :=
  bu_f (fun j => by rw [← show (X.X j).K = X.K from X.hK j]; exact call_len_seq.or call_len_str) PySem.boot_len hm hg (by decide) (by decide) he (by intro _; rfl)
theorem bu_list (hm : X.X0.mg "list" = none) (hg : ∀ j, Gl (X.X j) "list" := by intro _; rfl) (he : ∀ j, starEach [e] (X.X j).env = [(false, eval e (X.X j).env)] := by intro _; rfl) : Bi X "list" e [] p pos (fun xs H Q => ∃ p ys, xs = [.ref p] ∧ (SqL X.K H p ys ∨ SqT X.K H p ys) ∧ ∀ l, H l = none → Q (.ref l) (upd H l (.lst ys))) :=
  bu_t (fun j => by rw [← show (X.X j).K = X.K from X.hK j]; exact call_list_of) PyProof.Rows.boot_list hm hg (by decide) (by decide) he (by intro _; rfl)
theorem bu_listS (hc : X.X0.calm = true) (hm : X.X0.mg "list" = none) (hg : ∀ j, Gl (X.X j) "list" := by intro _; rfl) (he : ∀ j, starEach [e] (X.X j).env = [(false, eval e (X.X j).env)] := by intro _; rfl) : Bi X "list" e [] p pos rListS :=
  bu_t (fun j => cr_listS (by rw [X.hc j]; exact hc)) PyProof.Rows.boot_list hm hg (by decide) (by decide) he (by intro _; rfl)
theorem bu_tuple (hm : X.X0.mg "tuple" = none) (hg : ∀ j, Gl (X.X j) "tuple" := by intro _; rfl) (he : ∀ j, starEach [e] (X.X j).env = [(false, eval e (X.X j).env)] := by intro _; rfl) : Bi X "tuple" e [] p pos (rTupX X.K) :=
  bu_t (fun j => by rw [← show (X.X j).K = X.K from X.hK j]; exact call_tupX) PyProof.Rows.boot_tuple hm hg (by decide) (by decide) he (by intro _; rfl)
theorem bu_sorted (hu : Roomy X) (hm : X.X0.mg "sorted" = none) (hg : ∀ j, Gl (X.X j) "sorted" := by intro _; rfl) (he : ∀ j, starEach [e] (X.X j).env = [(false, eval e (X.X j).env)] := by intro _; rfl) : Bi X "sorted" e [] p pos (rSortD X.K) :=
  bu_f (fun j => by rw [← X.hkw j]; exact cr_sortD (by rw [X.hA j]; exact hu)) PyProof.Rows.boot_sorted hm hg (by decide) (by decide) he (by intro _; rfl)
theorem bu_all (hc : X.X0.calm = true) (hm : X.X0.mg "all" = none) (hg : ∀ j, Gl (X.X j) "all" := by intro _; rfl) (he : ∀ j, starEach [e] (X.X j).env = [(false, eval e (X.X j).env)] := by intro _; rfl) : Bi X "all" e [] p pos (rAll X.K) :=
  bu_f (fun j => by rw [← show (X.X j).K = X.K from X.hK j]; exact cr_all (by rw [X.hc j]; exact hc)) PyProof.Rows.boot_all hm hg (by decide) (by decide) he (by intro _; rfl)
theorem bu_any (hc : X.X0.calm = true) (hm : X.X0.mg "any" = none) (hg : ∀ j, Gl (X.X j) "any" := by intro _; rfl) (he : ∀ j, starEach [e] (X.X j).env = [(false, eval e (X.X j).env)] := by intro _; rfl) : Bi X "any" e [] p pos (rAny X.K) :=
  bu_f (fun j => by rw [← show (X.X j).K = X.K from X.hK j]; exact cr_any (by rw [X.hc j]; exact hc)) PyProof.Rows.boot_any hm hg (by decide) (by decide) he (by intro _; rfl)
theorem bu_sum (hc : X.X0.calm = true) (hm : X.X0.mg "sum" = none) (hg : ∀ j, Gl (X.X j) "sum" := by intro _; rfl) (he : ∀ j, starEach [e] (X.X j).env = [(false, eval e (X.X j).env)] := by intro _; rfl) : Bi X "sum" e [] p pos (rSum X.K) :=
  bu_f (fun j => by rw [← show (X.X j).K = X.K from X.hK j]; exact cr_sum (by rw [X.hc j]; exact hc)) PyProof.Rows.boot_sum hm hg (by decide) (by decide) he (by intro _; rfl)
theorem bu_abs (hm : X.X0.mg "abs" = none) (hg : ∀ j, Gl (X.X j) "abs" := by intro _; rfl) (he : ∀ j, starEach [e] (X.X j).env = [(false, eval e (X.X j).env)] := by intro _; rfl) : Bi X "abs" e [] p pos (fun xs H Q => ∃ i, xs = [.int i] ∧ Q (.int (if i < 0 then -i else i)) H) :=
  bu_f (fun j => call_abs) PyProof.Rows.boot_abs hm hg (by decide) (by decide) he (by intro _; rfl)
theorem bu_int (hm : X.X0.mg "int" = none) (hg : ∀ j, Gl (X.X j) "int" := by intro _; rfl) (he : ∀ j, starEach [e] (X.X j).env = [(false, eval e (X.X j).env)] := by intro _; rfl) : Bi X "int" e [] p pos (fun xs H Q => (∃ i, xs = [.int i] ∧ Q (.int i) H) ∨ ∃ k, xs = [.bl k] ∧ Q (.int (if k then 1 else 0)) H) :=
  bu_t (fun j => call_int1) PyProof.Rows.boot_int hm hg (by decide) (by decide) he (by intro _; rfl)
theorem bu_max2 (hc : X.X0.calm = true) (hm : X.X0.mg "max" = none) (hg : ∀ j, Gl (X.X j) "max" := by intro _; rfl) (he : ∀ j, starEach [a, b] (X.X j).env = (false, eval a (X.X j).env) :: starEach [b] (X.X j).env := by intro _; rfl) (hpl : ∀ j, (backTo pos (starEach [b] (X.X j).env)).any (·.1) = false := by intro _; rfl) : Bi X "max" a [b] p pos (fun xs H Q => ∃ i j, xs = [.int i, .int j] ∧ Q (.int (if j > i then j else i)) H) :=
  bu_f (fun j => call_max2 (by rw [X.hc j]; exact hc)) PyProof.Rows.boot_max hm hg (by decide) (by decide) he hpl
theorem bu_min2 (hc : X.X0.calm = true) (hm : X.X0.mg "min" = none) (hg : ∀ j, Gl (X.X j) "min" := by intro _; rfl) (he : ∀ j, starEach [a, b] (X.X j).env = (false, eval a (X.X j).env) :: starEach [b] (X.X j).env := by intro _; rfl) (hpl : ∀ j, (backTo pos (starEach [b] (X.X j).env)).any (·.1) = false := by intro _; rfl) : Bi X "min" a [b] p pos (fun xs H Q => ∃ i j, xs = [.int i, .int j] ∧ Q (.int (if j < i then j else i)) H) :=
  bu_f (fun j => call_min2 (by rw [X.hc j]; exact hc)) PyProof.Rows.boot_min hm hg (by decide) (by decide) he hpl
theorem bu_maxL (hc : X.X0.calm = true) (hm : X.X0.mg "max" = none) (hg : ∀ j, Gl (X.X j) "max" := by intro _; rfl) (he : ∀ j, starEach [e] (X.X j).env = [(false, eval e (X.X j).env)] := by intro _; rfl) : Bi X "max" e [] p pos (rMax X.K) :=
  bu_f (fun j => by rw [← show (X.X j).K = X.K from X.hK j]; exact cr_max (by rw [X.hc j]; exact hc)) PyProof.Rows.boot_max hm hg (by decide) (by decide) he (by intro _; rfl)
theorem bu_minL (hc : X.X0.calm = true) (hm : X.X0.mg "min" = none) (hg : ∀ j, Gl (X.X j) "min" := by intro _; rfl) (he : ∀ j, starEach [e] (X.X j).env = [(false, eval e (X.X j).env)] := by intro _; rfl) : Bi X "min" e [] p pos (rMin X.K) :=
  bu_f (fun j => by rw [← show (X.X j).K = X.K from X.hK j]; exact cr_min (by rw [X.hc j]; exact hc)) PyProof.Rows.boot_min hm hg (by decide) (by decide) he (by intro _; rfl)
theorem bu_repr (hu : Roomy X) (hgd : X.X0.A.guards = some []) (hm : X.X0.mg "repr" = none) (hg : ∀ j, Gl (X.X j) "repr" := by intro _; rfl) (he : ∀ j, starEach [e] (X.X j).env = [(false, eval e (X.X j).env)] := by intro _; rfl) : Bi X "repr" e [] p pos (rRepr X.K) :=
  bu_f (fun j => by rw [← X.hkw j]; exact cr_repr (by rw [X.hA j]; exact hgd) (by rw [X.hA j]; exact hu)) PyProof.Rows.boot_repr hm hg (by decide) (by decide) he (by intro _; rfl)
end
end OS

/-! OSi: isinstance, slices, join, count, several names at once, calls with keywords. -/
namespace OS
open PySem L2

/-! ### isinstance -/
def tyN : PyData → String
  | .none => "NoneType"
  | .bool _ => "bool"
  | .int _ => "int"
  | .str _ => "str"
  | .list _ => "list"
  | .tuple _ => "tuple"
  | .dict _ => "dict"
def isBoolD : PyData → Bool
  | .bool _ => true
  | _ => false
def isIntD : PyData → Bool
  | .bool _ => true
  | .int _ => true
  | _ => false
def isStrD : PyData → Bool
  | .str _ => true
  | _ => false
def isListD : PyData → Bool
  | .list _ => true
  | _ => false
def isTupD : PyData → Bool
  | .tuple _ => true
  | _ => false
structure IsTy (T : String) (f : PyData → Bool) : Prop where
  boot : bootBuiltins T = some (.type T)
  kit : ∀ d, kitB (tyN d) T = some (f d)
theorem isTy_bool : IsTy "bool" isBoolD := ⟨by decide +kernel, fun d => by cases d <;> simp only [tyN, isBoolD] <;> decide +kernel⟩
theorem isTy_int : IsTy "int" isIntD := ⟨by decide +kernel, fun d => by cases d <;> simp only [tyN, isIntD] <;> decide +kernel⟩
theorem isTy_str : IsTy "str" isStrD := ⟨by decide +kernel, fun d => by cases d <;> simp only [tyN, isStrD] <;> decide +kernel⟩
theorem isTy_list : IsTy "list" isListD := ⟨by decide +kernel, fun d => by cases d <;> simp only [tyN, isListD] <;> decide +kernel⟩
theorem isTy_tuple : IsTy "tuple" isTupD := ⟨by decide +kernel, fun d => by cases d <;> simp only [tyN, isTupD] <;> decide +kernel⟩
/-- isinstance over data -/
def rIsiD (K : KW) : List V → Hp → VK → Prop := fun xs H Q => ∃ (x c : V) (d : PyData) (u : Value) (b : Bool), xs = [x, c] ∧ ClsV c u ∧ Dp K H x d ∧ PySem.W.kitOne K (.type (tyN d)) u = some b ∧ Q (.bl b) H
theorem kit_dp {X : Cx} {pins : List (Addr × Obj)} {σ : L2.St} {H : Hp} {s : Shared} {x : V} {d : PyData} {u : Value} (I : Inv X pins σ H s) (rx : RelV x u) (h : Dp (kw X) H x d) : ∃ P : Heap → Prop, PySem.W.KitX X.K u (.type (tyN d)) P ∧ P s.heap ∧ u ≠ .builtin "__main__.__loader__#opaque" := by
  cases h with
  | non => exact kit_of I rx (.base .non)
  | bl b => exact kit_of I rx (.base (.bl b))
  | int i => exact kit_of I rx (.base (.int i))
  | str x => exact kit_of I rx (.base (.str x))
  | lst hs ha =>
    rcases hs with (e | ⟨o, e⟩) | ⟨o, its, n, hk, hc, _⟩
    · exact kit_of I rx (.base (.lst e))
    · exact kit_of I rx (.base (.frz e))
    · exact kit_of I rx (.kList hk hc)
  | tup hs ha tx =>
    rcases hs with (e | ⟨o, e⟩) | ⟨o, its, n, hk, hc, _⟩
    · exact kit_of I rx (.base (.tup e))
    · exact kit_of I rx (.fTuple e)
    · exact kit_of I rx (.kTuple hk hc)
  | dct e r =>
    cases rx
    have n := dObj_of I.hok e
    exact ⟨_, PySem.W.kitx_dict, ⟨_, n.get, n.ex.1⟩, fun z => nomatch z⟩
theorem call_isiD {X : Cx} : CallR X (.builtin "isinstance") (rIsiD (kw X)) := fun pins s σ H xs us Q I r h => by
  obtain ⟨x, c, d, u, b, rfl, k, dx, e, q⟩ := h
  obtain ⟨v1, v2, rfl, g1, g2⟩ := vals2 r
  obtain rfl := k.eq g2
  obtain ⟨P, Z, p, hx⟩ := kit_dp I g1 dx
  exact PySem.W.kia_one Z I.kIn p e hx fun tk => ⟨.bl b, H, I.tok tk, rfl, q⟩
theorem call_isiX {X : Fam} (j : X.ι) : CallR (X.X j) (.builtin "isinstance") (rIsiD X.K) := by rw [← X.hkw j]; exact call_isiD
section
variable {X : Fam} {e a b : Expr} {te ta tb : ATr} {pos p p2 : Pos}
theorem ae_isi {T : Str} {f : PyData → Bool} {n : String} (hT : IsTy n f) (hn : bootBuiltins T = some (.type n)) (hmi : X.X0.mg "isinstance" = none) (hmT : X.X0.mg T = none) (he : AE X e te) (hg : ∀ j, Gl (X.X j) "isinstance" := by intro _; rfl) (hgT : ∀ j, Gl (X.X j) T := by intro _; rfl)
    (h1 : T ≠ "__name__" := by decide) (h2 : (T == ("__debug__" : Str)) = false := by decide) (hs : ∀ j, starEach [e, .Name T p2] (X.X j).env = (false, eval e (X.X j).env) :: starEach [.Name T p2] (X.X j).env := by intro _; rfl)
    (hs2 : ∀ j, starEach [.Name T p2] (X.X j).env = [(false, eval (.Name T p2) (X.X j).env)] := by intro _; rfl) (hpl : ∀ j, (backTo pos (starEach [.Name T p2] (X.X j).env)).any (·.1) = false := by intro _; rfl) :
    AE X (.Call (.Name "isinstance" p) [e, .Name T p2] [] pos) fun ρ q => te ρ fun d ρ1 => q (.bool (f d)) ρ1 := by
  obtain ⟨_, a1, a2⟩ := he.ex
  refine ⟨_, fun j => by
    have q := pe_callB (X := X.X j) (p := p) (pos := pos) (call_isiX j) (hg j) (by rw [X.hm j]; exact hmi) PyProof.Rows.boot_isinstance (pa_cons (a1 j) (pa_cons (pe_bltn (pos := p2) (v := .ty n) (hgT j) (by rw [X.hm j]; exact hmT) hn rfl h1 h2) pa_nil (hs2 j)) (hs j)) (by decide) (by decide) (hs j) (hpl j)
    exact q, fun W ρ F σ H Q q hk S ht k => ?_⟩
  refine a2 W ρ F σ H _ _ hk S ht fun d ρ1 F1 x H1 S1 e1 r1 q1 => ?_
  exact ⟨x, .ty n, d, _, f d, rfl, .ty n, dp_mono S1.sub r1, kit_ty (hT.kit d), k _ ρ1 F1 _ H1 S1 e1 (.bl _) q1⟩
theorem at_isi {T : Str} {f : PyData → Bool} {n : String} (hT : IsTy n f) (hn : bootBuiltins T = some (.type n)) (hmi : X.X0.mg "isinstance" = none) (hmT : X.X0.mg T = none) (he : AE X e te) (hg : ∀ j, Gl (X.X j) "isinstance" := by intro _; rfl) (hgT : ∀ j, Gl (X.X j) T := by intro _; rfl)
    (h1 : T ≠ "__name__" := by decide) (h2 : (T == ("__debug__" : Str)) = false := by decide) (hs : ∀ j, starEach [e, .Name T p2] (X.X j).env = (false, eval e (X.X j).env) :: starEach [.Name T p2] (X.X j).env := by intro _; rfl)
    (hs2 : ∀ j, starEach [.Name T p2] (X.X j).env = [(false, eval (.Name T p2) (X.X j).env)] := by intro _; rfl) (hpl : ∀ j, (backTo pos (starEach [.Name T p2] (X.X j).env)).any (·.1) = false := by intro _; rfl)
    (hv : ∀ j whole, isTrue (.Call (.Name "isinstance" p) [e, .Name T p2] [] pos) (X.X j).env whole = (do let v ← whole; standAt pos; holding [v] (truthy v)) := by intro _ _; rfl) :
    AT X (.Call (.Name "isinstance" p) [e, .Name T p2] [] pos) fun ρ q => te ρ fun d ρ1 => q (f d) ρ1 := by
  have h := at_val (ae_isi (p := p) (pos := pos) (p2 := p2) hT hn hmi hmT he hg hgT h1 h2 hs hs2 hpl) hv
  have e : (fun (ρ : List AV) (q : Bool → List AV → Prop) => te ρ fun d ρ1 => ∃ k, PyData.bool (f d) = .bool k ∧ q k ρ1) = fun ρ q => te ρ fun d ρ1 => q (f d) ρ1 := by
    funext ρ q
    congr 1
    funext d ρ1
    exact propext ⟨fun ⟨k, e, h⟩ => by cases e; exact h, fun h => ⟨_, rfl, h⟩⟩
  exact e ▸ h
end

/-! ### slices -/
def cutD (xs : List PyData) (lo hi : Option Int) : List PyData := (xs.drop (HT.sIx xs.length 0 lo)).take (HT.sIx xs.length xs.length hi - HT.sIx xs.length 0 lo)
section
variable {K : KW} {F : Hp}
theorem dpAll_cut {vs : List V} {ds : List PyData} {lo hi : Option Int} (h : DpAll K F vs ds) : DpAll K F (cutV vs lo hi) (cutD ds lo hi) := by
  unfold cutV cutD
  rw [dpAll_len h]
  exact dpAll_take _ (dpAll_drop _ h)
end
abbrev AOt := List AV → (Option Int → List AV → Prop) → Prop
structure APt (X : Fam) (e : Option Expr) (t : AOt) : Prop where
  ex : ∃ te : TO, (∀ i, PO (X.X i) e te) ∧ ∀ (W : Wd) (ρ : List AV) (F : Hp) (σ : L2.St) (H : Hp) (Q : Option Int → Hp → Prop) (q : Option Int → List AV → Prop), W.K = X.K → Sto W ρ F σ H → t ρ q →
    (∀ d ρ' F' H', Sto W ρ' F' σ H' → Same F F' → q d ρ' → Q d H') → te σ H Q
def dCut : PyData → Option Int → Option Int → (Rs → Prop) → Prop
  | .list xs, lo, hi, q => q (.own (cutD xs lo hi))
  | .tuple xs, lo, hi, q => q (.d (.tuple (cutD xs lo hi)))
  | .str x, lo, hi, q => x.length ≤ 16777216 ∧ q (.d (.str (cutS x lo hi)))
  | _, _, _, _ => False
section
variable {X : Fam} {e a b : Expr} {te ta tb : ATr} {oa : List AV → (AArg → List AV → Prop) → Prop} {tl th : AOt} {lo hi : Option Expr} {pos p p2 : Pos}
theorem apt_none : APt X none fun ρ q => q none ρ := ⟨_, fun _ => po_none, fun W ρ F σ H Q q _ S ht k => k none ρ F H S (Same.refl F) ht⟩
theorem apt_some (h : AE X e te) : APt X (some e) fun ρ q => te ρ fun d ρ1 => ∃ i, d = .int i ∧ q (some i) ρ1 := by
  obtain ⟨_, a1, a2⟩ := h.ex
  refine ⟨_, fun j => po_some (a1 j), fun W ρ F σ H Q q hk S ht k => a2 W ρ F σ H _ _ hk S ht fun d ρ1 F1 x H1 S1 e1 r1 q1 => ?_⟩
  obtain ⟨i, rfl, q1⟩ := q1
  cases r1
  exact ⟨i, rfl, k (some i) ρ1 F1 H1 S1 e1 q1⟩
abbrev rSl3 (K : PySem.W.Frag) : V → Option Int → Option Int → Hp → VK → Prop := fun x lo hi H Q => rSlL K x lo hi H Q ∨ (rSlX K x lo hi H Q ∨ rSlS x lo hi H Q)
theorem sl_sem {K : KW} {F H : Hp} {v : V} {d : PyData} {l h : Option Int} {Q : VK} {q : Rs → Prop} (s : Same F H) (r : Dp K F v d) (c : dCut d l h q) (k : ∀ rs v H' F', q rs → After F F' H H' none → ResOk K F' H H' rs v → Q v H') : rSl3 K v l h H Q := by
  unfold dCut at c
  split at c
  · cases r with
    | lst hs ha => exact .inl ⟨_, _, rfl, Evl.ex_l s hs, fun p hp => k (.own _) _ _ F c (After.own s hp) ⟨p, _, rfl, s.free hp, hp, upd_same, dpAll_cut ha⟩⟩
  · rename_i xs
    cases r with
    | tup hs ha tx =>
      refine .inr (.inl ⟨_, _, rfl, Evl.ex_t s hs, fun hw => ?_, fun _ p o ho hp => k (.d _) _ _ _ c (After.new s hp) (.tup (SqT.frz upd_same) (dpAll_mono (same_upd (s.free hp)) (dpAll_cut ha)) fun _ => .of ho upd_same)⟩)
      refine k (.d _) _ H F c (After.refl s) ?_
      have hw' := hw
      rw [dpAll_len ha] at hw'
      have e : cutD xs l h = xs := by
        unfold cutD
        rw [hw'.1, hw'.2]
        simp
      show Dp K F _ (.tuple (cutD xs l h))
      rw [e]
      exact .tup hs ha tx
  · cases r
    exact .inr (.inr ⟨_, rfl, c.1, k (.d _) _ H F c.2 (After.refl s) (.str _)⟩)
  · exact c.elim
theorem pe_sl3 (j : X.ι) {te : TE} {tl th : TO} (he : PE (X.X j) e te) (hl : PO (X.X j) lo tl) (hu : PO (X.X j) hi th) : PE (X.X j) (.Subscript e (.Slice lo hi none p2) pos) (tSl (rSl3 X.K) te tl th) := by
  rw [← show (X.X j).K = X.K.F from X.hK j]
  exact pe_slice (sl_list.or (sl_tupX.or sl_str)) he hl hu
/-- x[lo:hi] of data -/
theorem ae_sl (he : AE X e te) (hl : APt X lo tl) (hh : APt X hi th) : AE X (.Subscript e (.Slice lo hi none p2) pos) fun ρ q => te ρ fun d ρ1 => tl ρ1 fun l ρ2 => th ρ2 fun h ρ3 => dCut d l h fun rs => q rs.dat ρ3 := by
  obtain ⟨_, a1, a2⟩ := he.ex
  obtain ⟨_, b1, b2⟩ := hl.ex
  obtain ⟨_, c1, c2⟩ := hh.ex
  refine ⟨_, fun j => pe_sl3 j (a1 j) (b1 j) (c1 j), fun W ρ F σ H Q q hk S ht k => a2 W ρ F σ H _ _ hk S ht fun d ρ1 F1 v H1 S1 e1 r1 q1 => b2 W ρ1 F1 σ H1 _ _ hk S1 q1 fun l ρ2 F2 H2 S2 e2 q2 => c2 W ρ2 F2 σ H2 _ _ hk S2 q2 fun h ρ3 F3 H3 S3 e3 q3 => ?_⟩
  refine sl_sem S3.sub (dp_mono (e2.trans e3) r1) q3 fun rs v H' F' hq A R => ?_
  cases rs with
  | d x => exact k x ρ3 F' v H' (S3.after A) (((e1.trans e2).trans e3).trans A.ff) R hq
  | own xs =>
    obtain ⟨p, ws, rfl, f, h0, h', r⟩ := R
    have S4 := S3.afterOwn A f h0
    exact k _ ρ3 _ _ H' (S4.freeze h') ((((e1.trans e2).trans e3).trans A.ff).trans (S4.frozen h')) (.lst (SqL.of upd_same) (dpAll_mono (S4.frozen h') r)) hq
/-- .. a new list -/
theorem al_sl (he : AE X e te) (hl : APt X lo tl) (hh : APt X hi th) : AL X (.Subscript e (.Slice lo hi none p2) pos) fun ρ q => te ρ fun d ρ1 => tl ρ1 fun l ρ2 => th ρ2 fun h ρ3 => dCut d l h fun rs => ∃ xs, rs = .own xs ∧ q xs ρ3 := by
  obtain ⟨_, a1, a2⟩ := he.ex
  obtain ⟨_, b1, b2⟩ := hl.ex
  obtain ⟨_, c1, c2⟩ := hh.ex
  refine ⟨_, fun j => pe_sl3 j (a1 j) (b1 j) (c1 j), fun W ρ F σ H Q q hk S ht k => a2 W ρ F σ H _ _ hk S ht fun d ρ1 F1 v H1 S1 e1 r1 q1 => b2 W ρ1 F1 σ H1 _ _ hk S1 q1 fun l ρ2 F2 H2 S2 e2 q2 => c2 W ρ2 F2 σ H2 _ _ hk S2 q2 fun h ρ3 F3 H3 S3 e3 q3 => ?_⟩
  refine sl_sem S3.sub (dp_mono (e2.trans e3) r1) q3 fun rs v H' F' hq A R => ?_
  obtain ⟨xs, rfl, hq⟩ := hq
  obtain ⟨p, ws, rfl, f, h0, h', r⟩ := R
  exact k xs ρ3 F' p ws H' (S3.afterOwn A f h0) h' (((e1.trans e2).trans e3).trans A.ff) r hq
/-- .. of a slot's changing list (or data), without lists within: a new list -/
theorem al_slB (he : AO X e oa) (hl : APt X lo tl) (hh : APt X hi th) : AL X (.Subscript e (.Slice lo hi none p2) pos) fun ρ q => oa ρ fun x ρ1 => tl ρ1 fun l ρ2 => th ρ2 fun h ρ3 => ∃ xs, argD ρ3 [x] = some [.list xs] ∧ lfAll (cutD xs l h) = true ∧ q (cutD xs l h) ρ3 := by
  obtain ⟨_, a1, a2⟩ := he.ex
  obtain ⟨_, b1, b2⟩ := hl.ex
  obtain ⟨_, c1, c2⟩ := hh.ex
  refine ⟨_, fun j => pe_sl3 j (a1 j) (b1 j) (c1 j), fun W ρ F σ H Q q hk S ht k => a2 W ρ F σ H _ _ hk S ht fun x ρ1 F1 v H1 S1 e1 r1 q1 => b2 W ρ1 F1 σ H1 _ _ hk S1 q1 fun l ρ2 F2 H2 S2 e2 q2 => c2 W ρ2 F2 σ H2 _ _ hk S2 q2 fun h ρ3 F3 H3 S3 e3 q3 => ?_⟩
  obtain ⟨xs, hd, hl', hq⟩ := q3
  obtain ⟨F4, s1, s2, hm, back⟩ := S3.borrow
  have rr := argR1 s1 (fun i y x z l => by rw [← hk]; exact hm i y x z l) (argR_mono (e2.trans e3) r1) hd (W := W)
  refine sl_sem (q := fun rs => rs = .own (cutD xs l h)) s2 rr rfl fun rs v H' F' hq' A R => ?_
  subst hq'
  obtain ⟨F5, A5, c5, n5⟩ := back F' H' A
  obtain ⟨p, ws, rfl, f, h0, h', r⟩ := R
  exact k _ ρ3 _ _ _ H' (S3.afterOwn A5 (n5 p f) h0) h' (((e1.trans e2).trans e3).trans A5.ff) (dpAll_lf c5 hl' r) hq

/-! ### join -/
theorem ae_join (ho : AE X a ta) (he : AE X e te) (hs : ∀ j, starEach [e] (X.X j).env = [(false, eval e (X.X j).env)] := by intro _; rfl) (hbase : ∀ j, attributeBase a "join" (X.X j).env (eval a (X.X j).env) = eval a (X.X j).env := by intro _; rfl) (hline : (p.endLine == pos.line) = true := by rfl) :
    AE X (.Call (.Attribute a "join" p) [e] [] pos) fun ρ q => ta ρ fun d ρ1 => ∃ s, d = .str s ∧ te ρ1 fun f ρ2 => ∃ ys : List Str, (f = .list (ys.map .str) ∨ f = .tuple (ys.map .str)) ∧ (ys.map (·.length)).sum + ys.length * s.length ≤ 16777216 ∧ q (.str (Txt.join s ys)) ρ2 := by
  obtain ⟨_, a1, a2⟩ := ho.ex
  obtain ⟨_, b1, b2⟩ := he.ex
  refine ⟨_, fun j => by
    have q := pe_join (X := X.X j) (apos := p) (pos := pos) (a1 j) (b1 j) (hs j) (hbase j) hline
    rw [X.hK j] at q
    exact q, fun W ρ F σ H Q q hk S ht k => a2 W ρ F σ H _ _ hk S ht fun d ρ1 F1 v H1 S1 e1 r1 q1 => ?_⟩
  obtain ⟨s, rfl, q1⟩ := q1
  cases r1
  refine ⟨⟨s, rfl⟩, b2 W ρ1 F1 σ H1 _ _ hk S1 q1 fun f ρ2 F2 w H2 S2 e2 r2 q2 => ?_⟩
  obtain ⟨ys, hf, hz, hq⟩ := q2
  have fin : Q (.str (Txt.join s ys)) H2 := k _ ρ2 F2 _ H2 S2 (e1.trans e2) (.str _) hq
  rcases hf with rfl | rfl
  · cases r2 with
    | lst hs ha => exact ⟨s, _, ys, rfl, rfl, .inl (by rw [← dpAll_strs ha]; exact Evl.ex_l S2.sub hs), hz, fin⟩
  · cases r2 with
    | tup hs ha tx => exact ⟨s, _, ys, rfl, rfl, .inr (by rw [← dpAll_strs ha]; exact Evl.ex_t S2.sub hs), hz, fin⟩
end

/-! ### list.count of bools -/
def bEq (k : Bool) (v : Value) : Bool := match v with
  | .bool b => b == k
  | _ => false
def rCntB (K : PySem.W.Frag) : V → List V → Hp → VK → Prop := fun x xs H Q => ∃ (p : Addr) (ns : List Bool) (k : Bool), x = .ref p ∧ xs = [.bl k] ∧ SqL K H p (ns.map V.bl) ∧ Q (.int (ns.count k : Nat)) H
theorem bEq_count {k : Bool} : ∀ {ns : List Bool} {us : List Value}, Vals (ns.map V.bl) us → us.countP (bEq k) = ns.count k
  | [], _, .nil => rfl
  | n :: ns, _, .cons r t => by
    cases r
    rw [List.countP_cons, List.count_cons, bEq_count t]
    rfl
theorem bEq_gives {k : Bool} {A : Around} {s : Shared} : ∀ {ns : List Bool} {us : List Value}, Vals (ns.map V.bl) us → ∀ y ∈ us, SeqAt.EqAt A s y (.bool k) (bEq k y)
  | [], _, .nil, y, hy => by cases hy
  | n :: ns, _, .cons r t, y, hy => by
    rcases List.mem_cons.mp hy with e | e
    · cases r
      rw [e]
      exact SeqAt.EqAt.bool_bool n k
    · exact bEq_gives t y e
theorem mt_countB {X : Cx} : MtR X "list.count" (rCntB X.K) := by
  intro pins s σ H x xs v us Q I rx rxs h
  obtain ⟨p, ns, k, rfl, rfl, hs, q⟩ := h
  cases rx
  obtain ⟨u, rfl, ru⟩ := rxs.one
  cases ru
  obtain ⟨its, rv, ⟨⟨cls, dd, data, sl⟩, n, ho, hc, hdn, hd⟩, hlen⟩ := I.list hs
  simp only at hc hd
  subst hc hd
  refine call_meets PySem.F.slot_list_count ⟨_, ho, rfl⟩ PySem.F.entry_list_count (PySem.F.args_list_count_2 _ _)
    (SeqAt.list_countAt p its.toArray n dd sl (.bool k) (bEq k)) ⟨ho, fun y hy => bEq_gives rv y (by simpa using hy), ?_⟩
  have ec : its.toArray.toList.countP (bEq k) = ns.count k := bEq_count rv
  refine ⟨.int (ns.count k : Nat), H, I.tok _, ⟨s.toks, ?_⟩, q⟩
  show Value.int ((its.toArray.toList.countP (bEq k) : Nat) : Int) s.toks = Value.int ((ns.count k : Nat) : Int) s.toks
  rw [ec]
end OS

/-! OSj: several names at once, own lists among the values. -/
namespace OS
open PySem L2

section
variable {W : Wd} {ρ : List AV} {F : Hp} {σ : L2.St} {H : Hp} {p : Addr}
theorem Sto.setDk (S : Sto W ρ F σ (del H p)) {i : Nat} {o : HO} {kvs : List (PyData × PyData)} (h : H p = some o) (r : DcO W.K F p o kvs) : Sto W (ρ.set i (.dk kvs)) F (σ.set i (some (.ref p))) H := by
  have f : F p = none := S.f0 del_same
  have h0 : W.H0 p = none := S.h0 del_same
  have sd : Same (del H p) H := same_del
  have nb : ∀ {x u}, del H p x = some u → x ≠ p := fun {x u} e => (del_some e).1
  refine ⟨S.sub.trans sd, S.base, S.fr, fun x u e t => sd _ _ (S.keep x u e t), fun x u t e => let ⟨o', q⟩ := S.tkk x u t e; ⟨o', sd _ _ q⟩, ?_, by rw [List.length_set, List.length_set]; exact S.len, S.wt⟩
  obtain ⟨ad, hs, hp⟩ := S.slots
  have g : ∀ {j x}, (ρ.set i (.dk kvs))[j]? = some x → (i = j ∧ x = .dk kvs ∧ i < ρ.length) ∨ (i ≠ j ∧ ρ[j]? = some x) := fun {j x} e => by
    by_cases hj : i = j
    · subst hj
      by_cases hi : i < ρ.length
      · rw [List.getElem?_set_self hi] at e; cases e; exact .inl ⟨rfl, rfl, hi⟩
      · rw [List.getElem?_eq_none (by rw [List.length_set]; omega)] at e; cases e
    · rw [List.getElem?_set_ne hj] at e; exact .inr ⟨hj, e⟩
  have va : ∀ {j x}, i ≠ j → ρ[j]? = some x → vol x = true → ad j ≠ p := fun {j x} hj e v => by
    have q := hs j x e
    cases x with
    | ml xs => obtain ⟨_, _, _, vs, e1, _⟩ := q; exact nb e1
    | tank n => obtain ⟨_, _, _, _, _, _, e1, _⟩ := q; exact nb e1
    | tk3 _ _ _ => obtain ⟨_, _, _, e1⟩ := q; exact nb e1
    | dk _ => obtain ⟨_, _, _, vs, e1, _⟩ := q; exact nb e1
    | no => cases v
    | d _ => cases v
    | cl _ => cases v
  refine ⟨fun j => if i = j then p else ad j, fun j x e => ?_, fun j k x y e1 e2 v1 v2 ne => ?_⟩
  · rcases g e with ⟨rfl, rfl, hi⟩ | ⟨hj, e⟩
    · have e0 : (if i = i then p else ad i) = p := if_pos rfl
      show SlotOk W F H (if i = i then p else ad i) _ _
      rw [e0]
      exact ⟨by rw [List.getElem?_set_self (by have := S.len; omega)], f, h0, o, h, r⟩
    · have e0 : (if i = j then p else ad j) = ad j := if_neg hj
      show SlotOk W F H (if i = j then p else ad j) _ _
      rw [e0, List.getElem?_set_ne hj]
      have q := hs j x e
      cases x with
      | ml xs => obtain ⟨a, b, c, vs, e1, e2⟩ := q; exact ⟨a, b, c, vs, sd _ _ e1, e2⟩
      | tank n => obtain ⟨a, b, c, p, q, r, e1, e2⟩ := q; exact ⟨a, b, c, p, q, r, sd _ _ e1, e2⟩
      | tk3 p' q' r' => obtain ⟨a, b, c, e1⟩ := q; exact ⟨a, b, c, sd _ _ e1⟩
      | dk kvs => obtain ⟨a, b, c, vs, e1, e2⟩ := q; exact ⟨a, b, c, vs, sd _ _ e1, e2⟩
      | no => trivial
      | d x => exact q
      | cl T => exact q
  · show (if i = j then p else ad j) ≠ (if i = k then p else ad k)
    rcases g e1 with ⟨rfl, _, _⟩ | ⟨hj, e1⟩
    · rcases g e2 with ⟨rfl, _, _⟩ | ⟨hk, e2⟩
      · exact absurd rfl ne
      · rw [if_pos rfl, if_neg hk]; exact (va hk e2 v2).symm
    · rcases g e2 with ⟨rfl, _, _⟩ | ⟨hk, e2⟩
      · rw [if_neg hj, if_pos rfl]; exact va hj e1 v1
      · rw [if_neg hj, if_neg hk]; exact hp j k x y e1 e2 v1 v2 ne
/-- a slot's dict is changed -/
theorem Sto.chgDk (S : Sto W ρ F σ H) {i : Nat} {kvs kvs' : List (PyData × PyData)} (h : ρ[i]? = some (.dk kvs)) : ∃ a o, σ[i]? = some (some (.ref a)) ∧ H a = some o ∧ DcO W.K F a o kvs ∧
    ∀ o', DcO W.K F a o' kvs' → Sto W (ρ.set i (.dk kvs')) F σ (upd H a o') := by
  obtain ⟨ad, hs, _⟩ := id S.slots
  obtain ⟨a, b, c, vs, e1, e2⟩ := hs i _ h
  refine ⟨ad i, vs, a, e1, e2, fun ws rw' => ?_⟩
  have A : After F F H (upd H (ad i) ws) (some (ad i)) := ⟨Same.refl F, fun x o ex => by
    have nx : x ≠ ad i := fun z => by rw [z, b] at ex; cases ex
    rw [upd_ne nx]; exact S.sub x o ex, fun x o ex t => by
    have nx : x ≠ ad i := fun z => t (by rw [z])
    rw [upd_ne nx]; exact ex, fun x o ex => .inl ⟨o, ex⟩⟩
  exact S.afterT h rfl a A b upd_same ⟨_, e1⟩ (fun ad' z e' => by subst e'; exact ⟨a, b, c, ws, upd_same, rw'⟩) rfl fun u hu => by rw [c] at hu; cases hu
end
/-! ### values in hand -/
inductive Hd where
  | d (x : PyData)
  | own (xs : List PyData)
  | ownD (kvs : List (PyData × PyData))
def HObj (K : KW) (F : Hp) (p : Addr) (o : HO) : Hd → Prop
  | .d _ => False
  | .own xs => ∃ ws, o = .lst ws ∧ DpAll K F ws xs
  | .ownD kvs => DcO K F p o kvs
theorem hObj_mono {K : KW} {F F' : Hp} {p : Addr} {o : HO} {r : Hd} (e : Same F F') (h : HObj K F p o r) : HObj K F' p o r := by
  cases r with
  | d x => exact h
  | own xs => obtain ⟨ws, z, r⟩ := h; exact ⟨ws, z, dpAll_mono e r⟩
  | ownD kvs => exact dcO_mono e h
inductive Held (W : Wd) (ρ : List AV) (σ : L2.St) (F : Hp) : Hp → List Hd → List V → Prop
  | nil {H} : Sto W ρ F σ H → Held W ρ σ F H [] []
  | d {H x v rs vs} : Dp W.K F v x → Held W ρ σ F H rs vs → Held W ρ σ F H (.d x :: rs) (v :: vs)
  | obj {H r p o rs vs} : H p = some o → HObj W.K F p o r → Held W ρ σ F (del H p) rs vs → Held W ρ σ F H (r :: rs) (.ref p :: vs)
def avs : Hd → AV
  | .d x => .d x
  | .own xs => .ml xs
  | .ownD kvs => .dk kvs
theorem Sto.setO {W : Wd} {ρ : List AV} {F : Hp} {σ : L2.St} {H : Hp} {p : Addr} {o : HO} {r : Hd} (S : Sto W ρ F σ (del H p)) {i : Nat} (h : H p = some o) (g : HObj W.K F p o r) : Sto W (ρ.set i (avs r)) F (σ.set i (some (.ref p))) H := by
  cases r with
  | d x => exact g.elim
  | own xs => obtain ⟨ws, rfl, r⟩ := g; exact S.setm h r
  | ownD kvs => exact S.setDk h g
theorem del_comm {H : Hp} {p q : Addr} : del (del H p) q = del (del H q) p := by
  funext b
  by_cases h1 : b = p
  · subst h1
    by_cases h2 : b = q
    · subst h2; rfl
    · rw [del_ne h2, del_same, del_same]
  · by_cases h2 : b = q
    · subst h2; rw [del_same, del_ne h1, del_same]
    · rw [del_ne h2, del_ne h1, del_ne h1, del_ne h2]
section
variable {W : Wd} {ρ : List AV} {σ : L2.St} {F : Hp}
theorem Held.sto : ∀ {H : Hp} {rs : List Hd} {vs : List V}, Held W ρ σ F H rs vs → Sto W ρ F σ H
  | _, _, _, .nil S => S
  | _, _, _, .d _ h => h.sto
  | H, _, _, @Held.obj _ _ _ _ _ _ p _ _ _ h1 _ h => by
    have S := h.sto
    have e : Same (del H p) H := same_del
    exact S.grow (Same.refl F) (S.sub.trans e) e fun b u q => .inl ⟨u, q⟩
theorem Held.mono {F' : Hp} {D : Addr} {o : HO} : ∀ {H : Hp} {rs : List Hd} {vs : List V}, Held (W.add D o) ρ σ F H rs vs → W.H0 D = none → W.F0 D = none → W.tk ≠ some D → H D = some o ∧ Held W ρ σ F (del H D) rs vs
  | _, _, _, .nil S, h0, f0, t => ⟨S.frame_at t, .nil (S.frame_out h0 f0 t)⟩
  | _, _, _, .d r h, h0, f0, t => by
    obtain ⟨a, b⟩ := Held.mono (F' := F') h h0 f0 t
    exact ⟨a, .d r b⟩
  | H, _, _, @Held.obj _ _ _ _ _ xs p ws rs vs h1 r h, h0, f0, t => by
    obtain ⟨a, b⟩ := Held.mono (F' := F') h h0 f0 t
    obtain ⟨n, a⟩ := del_some a
    exact ⟨a, .obj (by rw [del_ne n.symm]; exact h1) r (by rw [del_comm]; exact b)⟩
/-- something else is laid -/
theorem Held.junk {p : Addr} {o : HO} : ∀ {H : Hp} {rs : List Hd} {vs : List V}, Held W ρ σ F H rs vs → H p = none → Held W ρ σ F (upd H p o) rs vs
  | _, _, _, .nil S, h => .nil (S.new h)
  | _, _, _, .d r k, h => .d r (k.junk h)
  | H, _, _, @Held.obj _ _ _ _ _ xs q ws rs vs h1 r k, h => by
    have n : q ≠ p := fun z => by rw [z, h] at h1; cases h1
    refine .obj (by rw [upd_ne n]; exact h1) r ?_
    have e : del (upd H p o) q = upd (del H q) p o := by
      funext b
      by_cases hb : b = q
      · subst hb; rw [del_same, upd_ne n, del_same]
      · rw [del_ne hb]
        by_cases hp : b = p
        · subst hp; rw [upd_same, upd_same]
        · rw [upd_ne hp, upd_ne hp, del_ne hb]
    rw [e]
    exact k.junk (by rw [del_ne n.symm]; exact h)
def setsA (ρ : List AV) : List Nat → List Hd → List AV
  | i :: is, r :: rs => (setsA ρ is rs).set i (avs r)
  | _, _ => ρ
def setsS (σ : L2.St) : List Nat → List V → L2.St
  | i :: is, v :: vs => (setsS σ is vs).set i (some v)
  | _, _ => σ
theorem Held.sets : ∀ {H : Hp} {rs : List Hd} {vs : List V} {is : List Nat}, Held W ρ σ F H rs vs → is.length = rs.length → Sto W (setsA ρ is rs) F (setsS σ is vs) H
  | _, [], [], [], .nil S, _ => S
  | _, .d x :: rs, v :: vs, i :: is, .d r h, hl => (h.sets (Nat.succ.inj hl)).setd r
  | _, r :: rs, _ :: vs, i :: is, .obj h1 g h, hl => (h.sets (Nat.succ.inj hl)).setO h1 g
  | _, [], [], _ :: _, .nil _, hl => by cases hl
end
/-- arguments that may be new lists -/
structure AH (X : Fam) (es : List Expr) (t : List AV → (List Hd → List AV → Prop) → Prop) : Prop where
  ex : ∃ ta : TA, (∀ i, PA (X.X i) es ta) ∧ ∀ (W : Wd) (ρ : List AV) (F : Hp) (σ : L2.St) (H : Hp) (Q : List V → Hp → Prop) (q : List Hd → List AV → Prop), W.K = X.K → Sto W ρ F σ H → t ρ q →
    (∀ rs ρ' F' vs H', Same F F' → Held W ρ' σ F' H' rs vs → q rs ρ' → Q vs H') → ta σ H Q
section
variable {X : Fam} {e : Expr} {es : List Expr} {te : ATr} {tl : ALr} {tr : List AV → (List Hd → List AV → Prop) → Prop} {pos p : Pos}
theorem ah_nil : AH X [] fun ρ q => q [] ρ := ⟨_, fun _ => pa_nil, fun W ρ F σ H Q q _ S ht k => k [] ρ F [] H (Same.refl F) (.nil S) ht⟩
theorem ah_d (he : AE X e te) (hr : AH X es tr) (hs : ∀ j, starEach (e :: es) (X.X j).env = (false, eval e (X.X j).env) :: starEach es (X.X j).env := by intro _; rfl) : AH X (e :: es) fun ρ q => te ρ fun d ρ1 => tr ρ1 fun rs ρ2 => q (.d d :: rs) ρ2 := by
  obtain ⟨_, a1, a2⟩ := he.ex
  obtain ⟨_, b1, b2⟩ := hr.ex
  refine ⟨_, fun j => pa_cons (a1 j) (b1 j) (hs j), fun W ρ F σ H Q q hk S ht k => a2 W ρ F σ H _ _ hk S ht fun d ρ1 F1 v H1 S1 e1 r1 q1 => ?_⟩
  exact b2 W ρ1 F1 σ H1 _ _ hk S1 q1 fun rs ρ2 F2 vs H2 e2 h2 q2 => k _ ρ2 F2 _ H2 (e1.trans e2) (.d (hk ▸ dp_mono e2 r1) h2) q2
theorem ah_l (he : AL X e tl) (hr : AH X es tr) (hs : ∀ j, starEach (e :: es) (X.X j).env = (false, eval e (X.X j).env) :: starEach es (X.X j).env := by intro _; rfl) : AH X (e :: es) fun ρ q => tl ρ fun xs ρ1 => tr ρ1 fun rs ρ2 => q (.own xs :: rs) ρ2 := by
  obtain ⟨_, a1, a2⟩ := he.ex
  obtain ⟨_, b1, b2⟩ := hr.ex
  refine ⟨_, fun j => pa_cons (a1 j) (b1 j) (hs j), fun W ρ F σ H Q q hk S ht k => a2 W ρ F σ H _ _ hk S ht fun xs ρ1 F1 D ws H1 S1 hD e1 r1 q1 => ?_⟩
  have h0D : W.H0 D = none := S1.h0 del_same
  have f0D : W.F0 D = none := S1.base.free (S1.f0 del_same)
  have tD : W.tk ≠ some D := fun z => S1.wt D z h0D
  refine b2 (W.add D (.lst ws)) ρ1 F1 σ H1 _ _ hk (S1.frame_in hD tD) q1 fun rs ρ2 F2 vs H2 e2 h2 q2 => ?_
  obtain ⟨h3, h4⟩ := h2.mono (F' := F2) h0D f0D tD
  exact k _ ρ2 F2 _ H2 (e1.trans e2) (.obj (r := .own xs) h3 (show ∃ z, HO.lst ws = HO.lst z ∧ DpAll W.K F2 z xs from ⟨_, rfl, hk ▸ dpAll_mono e2 r1⟩) h4) q2
/-- a, b = x, y: plain local names -/
theorem as_par (i j : Nat) {x y : Str} {a b : Expr} {px py pt : Pos} {kt k2 pt2} (hc : X.X0.calm = true) (hN : X.X0.N.Nodup) (ha : AH X [a, b] tr) (hi : X.X0.N[i]? = some x := by rfl) (hj : X.X0.N[j]? = some y := by rfl) (hij : i ≠ j := by decide)
    (hx : ∀ j, (X.X j).env.scope.names.lookup x = some .local := by intro _; rfl) (hy : ∀ j, (X.X j).env.scope.names.lookup y = some .local := by intro _; rfl)
    (hw : ∀ j, swappedStores [.Tuple [.Name x px, .Name y py] kt pt] (.Tuple [a, b] k2 pt2) (X.X j).env = pure (some [x, y]) := by intro _; rfl)
    (hs : ∀ j, swapsWithSole [.Tuple [.Name x px, .Name y py] kt pt] (.Tuple [a, b] k2 pt2) pos.line (X.X j).env = pure false := by intro _; rfl) :
    AS X (.Assign [.Tuple [.Name x px, .Name y py] kt pt] (.Tuple [a, b] k2 pt2) pos) fun A ρ => tr ρ fun rs ρ1 => ∃ r1 r2, rs = [r1, r2] ∧ A.nx ((ρ1.set i (avs r1)).set j (avs r2)) := by
  obtain ⟨_, a1, a2⟩ := ha.ex
  refine ⟨_, fun k => ps_par (by rw [X.hc k]; exact hc) (by rw [X.hN k]; exact hN) (by rw [X.hN k]; exact hi) (by rw [X.hN k]; exact hj) hij (hx k) (hy k) (a1 k) (hw k) (hs k), fun W ρ F σ H D A hk S ht E => a2 W ρ F σ H _ _ hk S ht fun rs ρ1 F1 vs H1 e1 h1 q1 => ?_⟩
  obtain ⟨r1, r2, rfl, hq⟩ := q1
  have S2 := h1.sets (is := [i, j]) rfl
  have ev : ∃ v w, vs = [v, w] := by
    cases h1 with
    | d _ h => cases h with
      | d _ h => cases h; exact ⟨_, _, rfl⟩
      | obj _ _ h => cases h; exact ⟨_, _, rfl⟩
    | obj _ _ h => cases h with
      | d _ h => cases h; exact ⟨_, _, rfl⟩
      | obj _ _ h => cases h; exact ⟨_, _, rfl⟩
  obtain ⟨v, w, rfl⟩ := ev
  refine ⟨v, w, rfl, E.nx _ F1 _ H1 ?_ e1 hq⟩
  have S3 : Sto W ((ρ1.set j (avs r2)).set i (avs r1)) F1 ((σ.set j (some w)).set i (some v)) H1 := S2
  rw [List.set_comm _ _ (Ne.symm hij), List.set_comm _ _ (Ne.symm hij)] at S3
  exact S3
/-! names of a tuple, in general -/
def tgtN : List (Nat × Str × Pos) → List Expr := List.map fun z => .Name z.2.1 z.2.2
theorem setsS_fold : ∀ (is : List Nat) (σ : L2.St) (vs : List V), is.Nodup → setsS σ is vs = (is.zip vs).foldl (fun s z => s.set z.1 (some z.2)) σ
  | [], _, _, _ => by cases ‹List V› <;> rfl
  | _ :: _, _, [], _ => rfl
  | i :: is, σ, v :: vs, h => by
    obtain ⟨h1, h2⟩ := List.nodup_cons.mp h
    show (setsS σ is vs).set i (some v) = ((is.zip vs).foldl (fun s z => s.set z.1 (some z.2)) (σ.set i (some v)))
    rw [← setsS_fold is (σ.set i (some v)) vs h2]
    have go : ∀ (is : List Nat) (vs : List V), i ∉ is → (setsS σ is vs).set i (some v) = setsS (σ.set i (some v)) is vs := by
      intro is
      induction is with
      | nil => intro vs _; cases vs <;> rfl
      | cons k is ih =>
        intro vs hk
        cases vs with
        | nil => rfl
        | cons w vs =>
          show ((setsS σ is vs).set k (some w)).set i (some v) = (setsS (σ.set i (some v)) is vs).set k (some w)
          rw [← ih vs (fun z => hk (List.mem_cons_of_mem _ z)), List.set_comm _ _ (fun z => hk (by rw [z]; exact List.mem_cons_self))]
    exact go is vs h1
/-- the slots of names, one after another -/
structure NT (X : Fam) (ts : List Expr) (is : List Nat) : Prop where
  pg : ∀ j, PGs (X.X j) ts fun vs σ H Q => vs.length = is.length ∧ Q ((is.zip vs).foldl (fun s z => s.set z.1 (some z.2)) σ) H
theorem nt_nil : NT X [] [] := ⟨fun j => ⟨fun pins s σ H vs us Q I r h => by
  obtain ⟨hl, h⟩ := h
  cases vs with
  | nil => exact pgs_nil.run pins s σ H [] us Q I r ⟨rfl, h⟩
  | cons _ _ => cases hl⟩⟩
theorem nt_cons (i : Nat) {x : Str} {ts : List Expr} {is : List Nat} (h2 : NT X ts is) (hN : X.X0.N.Nodup) (hi : X.X0.N[i]? = some x := by rfl) (hx : ∀ j, Loc (X.X j).env.scope x := by intro _; first | exact Or.inl rfl | exact Or.inr rfl)
    (hf : ∀ j, (X.X j).fn x = true ∨ (X.X j).env.scope.names.lookup x = some .local := by intro _; first | exact .inl rfl | exact .inr rfl | assumption)
    (hs : ∀ j, (assignEach (.Name x p :: ts) (X.X j).env).map (·.2) = assign (.Name x p) (X.X j).env :: (assignEach ts (X.X j).env).map (·.2) := by intro _; rfl) : NT X (.Name x p :: ts) (i :: is) :=
  ⟨fun j => ⟨fun pins s σ H vs us Q I r h => by
    obtain ⟨hl, h⟩ := h
    cases vs with
    | nil => cases hl
    | cons v vs =>
      exact (pgs_cons (pg_name (by rw [X.hN j]; exact hN) (by rw [X.hN j]; exact hi) (hx j) (hf j)) (h2.pg j) (hs j)).run pins s σ H (v :: vs) us Q I r ⟨v, vs, rfl, Nat.succ.inj hl, h⟩⟩⟩
theorem as_tupH {ts : List Expr} {is : List Nat} {k k2 : Nat} {pt p2 : Pos} (hc : X.X0.calm = true) (hn : NT X ts is) (ha : AH X es tr) (hnd : is.Nodup := by decide) (hlen : ∀ j, (assignEach ts (X.X j).env).length = is.length := by intro _; rfl) (hst : ∀ j, (assignEach ts (X.X j).env).findIdx? (·.1) = none := by intro _; rfl)
    (hs : ∀ j, swapsWithSole [.Tuple ts k pt] (.Tuple es k2 p2) pos.line (X.X j).env = pure false := by intro _; rfl) (hw : ∀ j, swappedStores [.Tuple ts k pt] (.Tuple es k2 p2) (X.X j).env = pure none := by intro _; rfl)
    (h1 : ∀ j, (assignEach [.Tuple ts k pt] (X.X j).env).map (·.2) = [assign (.Tuple ts k pt) (X.X j).env] := by intro _; rfl) :
    AS X (.Assign [.Tuple ts k pt] (.Tuple es k2 p2) pos) fun A ρ => tr ρ fun rs ρ1 => rs.length = is.length ∧ is.length ≤ 1000 ∧ A.nx (setsA ρ1 is rs) := by
  obtain ⟨_, a1, a2⟩ := ha.ex
  refine ⟨_, fun j => ps_asg (pe_tup (a1 j)) (by have q := pg_tup (by rw [X.hc j]; exact hc) (hn.pg j) (hlen j) (hst j) (k := k) (pos := pt); rw [X.hK j] at q; exact q) (hs j) (hw j) (h1 j), fun W ρ F σ H D A hk S ht E => a2 W ρ F σ H _ _ hk S ht fun rs ρ1 F1 vs H1 e1 h1 q1 => ?_⟩
  obtain ⟨hl, h1000, hq⟩ := q1
  have hv : vs.length = rs.length := by
    clear ht E hq hl
    induction h1 with
    | nil _ => rfl
    | d _ _ ih => rw [List.length_cons, List.length_cons, ih]
    | obj _ _ _ ih => rw [List.length_cons, List.length_cons, ih]
  refine ⟨by rw [hv, hl, sizeLine_eq]; omega, fun q hq' => ?_⟩
  refine ⟨q, vs, rfl, SqT.of upd_same, by rw [hv, hl], by rw [hv, hl], ?_⟩
  have S2 := (h1.junk (o := .tup vs) hq').sets (is := is) hl.symm
  rw [setsS_fold is σ vs hnd] at S2
  exact E.nx _ F1 _ _ S2 e1 hq
end
end OS

/-! OSk: dicts in slots, keys ints or texts. -/
namespace OS
open PySem L2

/-! ### tables -/
def mergeD (kvs more : List (PyData × PyData)) : List (PyData × PyData) := more.foldl (fun acc kv => dPut acc kv.1 kv.2) kvs
def fL (ks : List (Key × V)) : DL := ks.map fun p => (nk p.1, kV p.1, p.2)
theorem fL_any {k : Key} : ∀ ks : List (Key × V), ((fL ks).any fun x => decide (x.1 = nk k)) = ks.any fun kv => decide (kv.1 = k)
  | [] => rfl
  | p :: ks => by
    have ih := fL_any (k := k) ks
    unfold fL at ih ⊢
    rw [List.map_cons, List.any_cons, List.any_cons, ih, nk_eq]
theorem fL_put (ks : List (Key × V)) (k : Key) (v : V) : fL (putK ks k v) = lPut (fL ks) (nk k) (kV k) v := by
  unfold lPut putK
  rw [fL_any]
  split
  · unfold fL
    rw [List.map_map, List.map_map]
    refine List.map_congr_left fun p _ => ?_
    show (nk (if p.1 = k then (p.1, v) else p).1, kV (if p.1 = k then (p.1, v) else p).1, (if p.1 = k then (p.1, v) else p).2) = if nk p.1 = nk k then (nk p.1, kV p.1, v) else (nk p.1, kV p.1, p.2)
    by_cases e : p.1 = k
    · rw [if_pos e, if_pos (congrArg nk e)]
    · rw [if_neg e, if_neg fun z => e (nk_inj z)]
  · unfold fL
    rw [List.map_append]; rfl
theorem fL_ent : ∀ {ks : List (Key × V)} {vs : List (Key × Value)}, KV ks vs → FEnt (fL ks) vs
  | _, _, .nil => .nil
  | _, _, .cons a r => .cons ⟨congrArg nk a.1, congrArg kV a.1, a.2⟩ (fL_ent r)
/-- a dict just made, from now on known by its object -/
theorem pe_pin {X : Cx} {e : Expr} {te : TE} (he : PE X e te) : PE X e fun σ H Q => te σ H fun v H1 => ∃ a ks, v = .ref a ∧ H1 a = some (.dK ks) ∧ ∀ ob, Q v (upd H1 a (DObj X.w a ob (fL ks))) := by
  refine ⟨fun pins s σ H Q I h => thn (he.run pins s σ H _ I h) fun u s1 ⟨v, H1, I1, r, a, ks, e1, e2, q⟩ => ?_⟩
  obtain ⟨z, hs, vs, rel, dd⟩ := dk_of I1.hok e2
  obtain ⟨ob, n⟩ := dAt_flat dd (fL_ent rel) (by unfold fL; rw [List.length_map]; rw [sizeLine_eq] at z; exact z) hs
  have I2 := I1.write (t' := s1.toks) (h' := s1.heap) (x := a) (e := a) (by rw [e2]; exact True.intro) (.inl rfl) (fun b u _ q => q) ⟨_, n.get⟩ (dObj_new (P := X.prog) (H := upd H1 a (DObj X.w a ob (fL ks))) n)
  exact ⟨v, _, I2, r, q ob⟩
theorem dpL_merge {K : KW} {F : Hp} : ∀ {js : List (Key × V)} {more : List (PyData × PyData)}, DpL K F (fL js) more → ∀ {ks : List (Key × V)} {kvs : List (PyData × PyData)}, DpL K F (fL ks) kvs → DpL K F (fL (mergeK ks js)) (mergeD kvs more)
  | [], _, .nil, _, _, h => h
  | (k, v) :: js, _, .cons a b c d r, ks, kvs, h => dpL_merge (js := js) r (ks := putK ks k v) (by rw [fL_put]; exact dpL_put h a b c d)

/-! ### a new dict in hand -/
abbrev ADr := List AV → (List (PyData × PyData) → List AV → Prop) → Prop
structure AD (X : Fam) (e : Expr) (t : ADr) : Prop where
  ex : ∃ te : TE, (∀ i, PE (X.X i) e te) ∧ ∀ (W : Wd) (ρ : List AV) (F : Hp) (σ : L2.St) (H : Hp) (Q : VK) (q : List (PyData × PyData) → List AV → Prop), W.K = X.K → Sto W ρ F σ H → t ρ q →
    (∀ kvs ρ' F' p o H', Sto W ρ' F' σ (del H' p) → H' p = some o → Same F F' → DcO X.K F' p o kvs → q kvs ρ' → Q (.ref p) H') → te σ H Q
section
variable {X : Fam} {e a b : Expr} {te ta tb : ATr} {td : ADr} {tr : AAr} {x : Str} {px p pos : Pos}
/-- a new dict, told as data -/
theorem AD.ae (h : AD X e td) : AE X e fun ρ q => td ρ fun kvs ρ' => q (.dict kvs) ρ' := by
  obtain ⟨te, h1, h2⟩ := h.ex
  refine ⟨te, h1, fun W ρ F σ H Q q hk S ht k => h2 W ρ F σ H Q _ hk S ht fun xs ρ' F' p o H' S' hp e r hq => ?_⟩
  exact k _ ρ' _ _ _ (S'.freeze hp) (e.trans (S'.frozen hp)) (dcO_dp (S'.frozen hp) upd_same r) hq
/-- .. a dict among several values in hand -/
theorem ah_c {es : List Expr} {tr : List AV → (List Hd → List AV → Prop) → Prop} (he : AD X e td) (hr : AH X es tr) (hs : ∀ j, starEach (e :: es) (X.X j).env = (false, eval e (X.X j).env) :: starEach es (X.X j).env := by intro _; rfl) : AH X (e :: es) fun ρ q => td ρ fun xs ρ1 => tr ρ1 fun rs ρ2 => q (.ownD xs :: rs) ρ2 := by
  obtain ⟨_, a1, a2⟩ := he.ex
  obtain ⟨_, b1, b2⟩ := hr.ex
  refine ⟨_, fun j => pa_cons (a1 j) (b1 j) (hs j), fun W ρ F σ H Q q hk S ht k => a2 W ρ F σ H _ _ hk S ht fun xs ρ1 F1 D o H1 S1 hD e1 r1 q1 => ?_⟩
  have h0D : W.H0 D = none := S1.h0 del_same
  have f0D : W.F0 D = none := S1.base.free (S1.f0 del_same)
  have tD : W.tk ≠ some D := fun z => S1.wt D z h0D
  refine b2 (W.add D o) ρ1 F1 σ H1 _ _ hk (S1.frame_in hD tD) q1 fun rs ρ2 F2 vs H2 e2 h2 q2 => ?_
  obtain ⟨h3, h4⟩ := h2.mono (F' := F2) h0D f0D tD
  exact k _ ρ2 F2 _ H2 (e1.trans e2) (.obj h3 (hk ▸ dcO_mono e2 r1) h4) q2
/-- {} -/
theorem ad_empty {pos : Pos} : AD X (.Dict [] [] pos) fun ρ q => q [] ρ :=
  ⟨fun σ H Q => tDNewK σ H fun v H1 => ∃ a ks, v = .ref a ∧ H1 a = some (.dK ks) ∧ ∀ ob, Q v (upd H1 a (DObj X.K.w a ob (fL ks))), fun j => by have q := pe_pin (X := X.X j) (pe_dnewK (pos := pos)); rw [X.hw j] at q; exact q, fun W ρ F σ H Q q hk S ht k p hp =>
    ⟨p, [], rfl, upd_same, fun ob => k [] ρ F p _ _ (by rw [upd_upd, del_upd hp]; exact S) upd_same (Same.refl F) ⟨ob, _, rfl, .nil⟩ ht⟩⟩
theorem ad_if {c : Expr} {t : ATt} {la lb : ADr} (hc : AT X c t) (ha : AD X a la) (hb : AD X b lb) : AD X (.IfExp c a b pos) fun ρ q => t ρ fun k ρ1 => (k = true → la ρ1 q) ∧ (k = false → lb ρ1 q) := by
  obtain ⟨_, c1, c2⟩ := hc.ex
  obtain ⟨_, a1, a2⟩ := ha.ex
  obtain ⟨_, b1, b2⟩ := hb.ex
  refine ⟨_, fun j => pe_ifExp (c1 j) (a1 j) (b1 j), fun W ρ F σ H Q q hk S ht k => c2 W ρ F σ H _ _ hk S ht fun c ρ1 F1 H1 S1 e1 q1 => ?_⟩
  cases c with
  | true =>
    rw [if_pos rfl]
    exact a2 W ρ1 F1 σ H1 _ _ hk S1 (q1.1 rfl) fun c ρ2 F2 v o H2 S2 hp e2 r2 q2 => k c ρ2 F2 v o H2 S2 hp (e1.trans e2) r2 q2
  | false =>
    rw [if_neg Bool.false_ne_true]
    exact b2 W ρ1 F1 σ H1 _ _ hk S1 (q1.2 rfl) fun c ρ2 F2 v o H2 S2 hp e2 r2 q2 => k c ρ2 F2 v o H2 S2 hp (e1.trans e2) r2 q2
/-- name = a new dict -/
theorem as_setD (i : Nat) {p' : Pos} (hN : X.X0.N.Nodup) (he : AD X e td) (hi : X.X0.N[i]? = some x := by rfl) (hx : ∀ j, Loc (X.X j).env.scope x := by intro _; first | exact Or.inl rfl | exact Or.inr rfl) (hs : ∀ j, swapsWith e (some (.Name x p')) pos.line (X.X j).env = pure false := by intro _; rfl) (hf : ∀ j, (X.X j).fn x = true ∨ (X.X j).env.scope.names.lookup x = some .local := by intro _; first | exact .inl rfl | exact .inr rfl | assumption) :
    AS X (.Assign [.Name x p'] e pos) fun A ρ => td ρ fun kvs ρ1 => A.nx (ρ1.set i (.dk kvs)) := by
  obtain ⟨_, a1, a2⟩ := he.ex
  exact ⟨_, fun j => ps_set (by rw [X.hN j]; exact hN) (by rw [X.hN j]; exact hi) (hx j) (a1 j) (hs j) (hf j), fun W ρ F σ H D A hk S ht E => a2 W ρ F σ H _ _ hk S ht fun xs ρ' F' p o H' S' hp e r q => E.nx _ F' _ H' (S'.setDk hp (hk ▸ r)) e q⟩
theorem dpL_pairs {K : KW} {F H : Hp} (s : Same F H) : ∀ {kvs : List (PyData × PyData)} {vs : List V}, kvs.all (fun kv => flatK kv.1) = true → DpAll K F vs (kvs.map fun kv => .tuple [kv.1, kv.2]) →
    ∃ (ps : List Addr) (ks : List (Key × V)), vs = ps.map V.ref ∧ Paired (fun p kv => SqT K H p [kV kv.1, kv.2]) ps ks ∧ DpL K F (fL ks) kvs
  | [], _, _, .nil => ⟨[], [], rfl, .nil, .nil⟩
  | (kd, d) :: kvs, _, hf, .cons h t => by
    rw [List.all_cons, Bool.and_eq_true] at hf
    obtain ⟨ps, ks, rfl, h1, h2⟩ := dpL_pairs s hf.2 t
    obtain ⟨k, e⟩ := flatK_ex hf.1
    cases h with
    | tup hs ha tx =>
      obtain ⟨v, w, rfl, rv, rw'⟩ := dp2 ha
      have e' : kd = keyP k := e
      subst e'
      obtain rfl := dp_kV rv
      exact ⟨_ :: ps, (k, w) :: ks, rfl, .cons (Evl.ex_t s hs) h1, .cons rv (keyOf_P k) (by rw [flatK_P]; rfl) rw' h2⟩
/-- dict(a list of pairs) -/
theorem ad_dict (hc : X.X0.calm = true) (hm : X.X0.mg "dict" = none) (he : AE X e te) (hg : ∀ j, Gl (X.X j) "dict" := by intro _; rfl) (hs : ∀ j, starEach [e] (X.X j).env = [(false, eval e (X.X j).env)] := by intro _; rfl) :
    AD X (.Call (.Name "dict" p) [e] [] pos) fun ρ q => te ρ fun d ρ1 => ∃ kvs : List (PyData × PyData), d = .list (kvs.map fun kv => .tuple [kv.1, kv.2]) ∧ kvs.all (fun kv => flatK kv.1) = true ∧ q (mergeD [] kvs) ρ1 := by
  obtain ⟨_, a1, a2⟩ := he.ex
  have hc2 : ∀ j, (X.X j).calm = true := fun j => by rw [X.hc j]; exact hc
  refine ⟨_, fun j => by
    have q := pe_pin (pe_callTy (X := X.X j) (p := p) (pos := pos) (call_dictP (hc2 j)) (hg j) (by rw [X.hm j]; exact hm) PyProof.Rows.boot_dict (pa_cons (a1 j) pa_nil (hs j)) (by decide) (by decide) (hs j) rfl)
    rw [X.hK j, X.hw j] at q
    exact q, fun W ρ F σ H Q q hk S ht k => a2 W ρ F σ H _ _ hk S ht fun d ρ1 F1 v H1 S1 e1 r1 q1 => ?_⟩
  obtain ⟨kvs, rfl, hf, hq⟩ := q1
  cases r1 with
  | lst hsq ha =>
    obtain ⟨ps, ks, rfl, h1, h2⟩ := dpL_pairs S1.sub hf ha
    exact ⟨_, ps, ks, rfl, Evl.ex_l S1.sub hsq, h1, fun p hp => ⟨p, _, rfl, upd_same, fun ob => k _ ρ1 F1 p _ _ (by rw [upd_upd, del_upd hp]; exact S1) upd_same e1 ⟨ob, _, rfl, dpL_merge h2 (ks := []) .nil⟩ hq⟩⟩
/-- x[e] = .. -/
def rSetC (K : KW) : TSet := fun x y v H Q => ∃ F a o q kvs d, x = .ref a ∧ Same F H ∧ H a = some o ∧ DcO K F a o kvs ∧ Dp K F y q ∧ Dp K F v d ∧ dFit kvs q ∧ kvs.length < 16777216 ∧ ∀ o', DcO K F a o' (dPut kvs q d) → Q (upd H a o')
theorem set_dictC {X : Cx} (hu : X.A.units + 64 < cLine) : PSet X (rSetC (kw X)) := by
  intro pins s σ H x y v u w r Q I rx ry rz h
  obtain ⟨F, a, o, q, kvs, d, e, sub, h1, h2, h3, h4, fit, room, h⟩ := h
  subst e
  cases (show u = Value.ref a from rx)
  exact dc_set (by omega) I sub h1 h2 h3 ry h4 rz fit room fun o' s' dc I' => ⟨_, I', h o' dc⟩
theorem ag_dput (i : Nat) (hu : Roomy X) (he : AE X e te) (hN : ∀ j, (X.X j).N[i]? = some x := by intro _; rfl) (hv : ∀ j, Vis (X.X j).env.scope x := by intro _; first | exact Or.inl rfl | exact Or.inr (Or.inl rfl) | exact Or.inr (Or.inr rfl)) (hd : (x == ("__debug__" : Str)) = false := by decide)
    (hcd : (x == ("__classdict__" : Str)) = false := by decide) (ha : ∀ j v, assign (.Subscript (.Name x px) e pos) (X.X j).env v = (do
      let ov ← holding [v] (eval (.Name x px) (X.X j).env)
      let iv ← holding [v, ov] (eval e (X.X j).env)
      standAt pos
      holding [v, ov, iv] (setItem ov iv v)
      release [v, ov, iv] []) := by intro _ _; rfl) :
    AG X (.Subscript (.Name x px) e pos) fun d ρ q => (∃ kvs, ρ[i]? = some (.dk kvs)) ∧ te ρ fun n ρ1 => ∃ kvs, ρ1[i]? = some (.dk kvs) ∧ kvs.length < 16777216 ∧ dFit kvs n ∧ q (ρ1.set i (.dk (dPut kvs n d))) := by
  obtain ⟨_, a1, a2⟩ := he.ex
  have st : ∀ j, PSet (X.X j) (rSetC X.K) := fun j => by rw [← X.hkw j]; exact set_dictC (by rw [X.hA j]; have := hu; omega)
  refine ⟨_, fun j => pg_sub (pe_var (hN j) (hv j) hd hcd) (a1 j) (st j) (ha j), fun W ρ F σ H d v Q q hk S r ht k => ?_⟩
  obtain ⟨⟨kvs0, h0⟩, ht⟩ := ht
  obtain ⟨ad0, vs0, h10, _⟩ := S.chgDk (kvs' := []) h0
  refine ⟨.ref ad0, h10, a2 W ρ F σ H _ _ hk S ht fun n ρ1 F1 w H1 S1 e1 r1 q1 => ?_⟩
  obtain ⟨kvs, hx, hl, fit, hq⟩ := q1
  obtain ⟨ad, o, h1, h2, h3, chg⟩ := S1.chgDk (kvs' := dPut kvs n d) hx
  rw [h10] at h1
  cases h1
  exact ⟨F1, ad0, o, n, kvs, d, rfl, S1.sub, h2, hk ▸ h3, r1, dp_mono e1 r, fit, hl, fun o' dc => k _ F1 _ _ (chg o' (hk ▸ dc)) e1 hq⟩
end
end OS

/-! OSdk: dict comprehensions, whatever the keys are (ints, texts, tuples). -/
namespace OS
open PySem L2 PySem.Spec PyProof.Rows

theorem dc_dset {X : Cx} {pins : List (Addr × Obj)} {σ : L2.St} {H : Hp} {s : Shared} {E : Value → Shared → Prop} (hu : X.A.units + 64 < cLine) (I : Inv X pins σ H s) {F : Hp} (sub : Same F H) {a : Addr} {o : HO} {kvs : List (PyData × PyData)} {y v : V} {q d : PyData} {u r : Value} {Q : Unit → Shared → Prop} (e : H a = some o) (dc : DcO (kw X) F a o kvs)
    (rk : Dp (kw X) F y q) (ry : RelV y u) (rd : Dp (kw X) F v d) (rv : RelV v r) (fit : dFit kvs q) (room : kvs.length < 16777216)
    (h : ∀ o' s', DcO (kw X) F a o' (dPut kvs q d) → Inv X pins σ (upd H a o') s' → Q () s') : wpAny (model X.prog X.w) X.A (dictSet a u r) Q E s :=
  dc_store (by omega) I sub e dc rk ry rd rv fit room (fun k vs ik dd hz g => wpAny_dictSet_pairs (hsz := hz) ik dd fun h' dd' hc => g h' _ dd' hc)
    (fun k b xs eu ik dd hz g => by
      subst eu
      exact wpAny_dictSet_heap (hsz := hz) (show X.A.units + 8 < cLine by omega) ik dd fun h' dd' hc => g h' _ dd' hc) h

/-- one turn's store, D the new dict -/
abbrev gPut (K : KW) (D : Addr) (Nx : Hp → Prop) (y z : V) (H : Hp) : Prop :=
  ∃ F o kvs q d, Same F H ∧ H D = some o ∧ DcO K F D o kvs ∧ Dp K F y q ∧ Dp K F z d ∧ dFit kvs q ∧ kvs.length < 16777216 ∧ ∀ o', DcO K F D o' (dPut kvs q d) → Nx (upd H D o')
abbrev gTurn (K : KW) (J : It) (g : TG) (tt : TT) (tk tv : TE) (vs : List Nat) (σ : L2.St) (D : Addr) (W : Nat → Nat → Hp → Prop) (out : Hp → Prop) : Prop := ∀ i m H, W i m H →
  (J.stop i H ∧ out H) ∨ (J.go i H ∧ ∃ Nx : Hp → Prop, (∀ H', Nx H' → ∃ m', m' < m ∧ W (i + 1) m' H') ∧ ∀ x H', J.yld i H x H' → g x (L2.wipe σ vs) H' fun σ2 H2 => L2.wipe σ2 vs = L2.wipe σ vs ∧ tt σ2 H2 fun b H3 =>
    if b = true then tk σ2 H3 fun y H4 => tv σ2 H4 fun z H5 => gPut K D Nx y z H5 else Nx H3)
def tDg (K : KW) (wi : TI) (g : TG) (tt : TT) (tk tv : TE) (vs : List Nat) : TE := fun σ H Q => wi σ H fun J H1 => ∀ D ob, H1 D = none → ∃ W : Nat → Nat → Hp → Prop, (∃ m, W 0 m (upd H1 D (DObj K.w D ob []))) ∧ gTurn K J g tt tk tv vs σ D W fun H => Q (.ref D) H

section
variable {X : Cx} {pins : List (Addr × Obj)} {s3 : Shared} {σ : L2.St} {H3 : Hp} {kx vx tg iter : Expr} {ifs : List Expr} {scope : Scope} {vs : List Nat} {pos : Pos} {g : TG} {tt : TT} {tk tv : TE} {ce : Env} {fp : List Addr}
/-- the block's turns -/
theorem dg_loop {D it : Addr} {J : It} {tn : Nat → Heap → Prop} {W : Nat → Nat → Hp → Prop} {out : Hp → Prop} {R : Result → Shared → Prop} (hu : X.A.units + 64 < cLine) (hc : X.calm = true) (T : Turn X.prog X.w X.K tg J fp it tn)
    (pg : PG (X.blk s3 H3 scope ce fp) tg g) (pt : PTs (X.blk s3 H3 scope ce fp) ifs tt) (pk : PE (X.blk s3 H3 scope ce fp) kx tk) (pv : PE (X.blk s3 H3 scope ce fp) vx tv) (turns : gTurn (kw X) J g tt tk tv vs σ D W out)
    (hR : ∀ s' H', Inv (X.blk s3 H3 scope ce fp) [] (L2.wipe σ vs) H' s' → out H' → R (.ok .next) s')
    {m0 : Nat} {s : Shared} (I0 : Inv (X.blk s3 H3 scope ce fp) [] (L2.wipe σ vs) H3 s) (st0 : tn 0 s.heap) (n0 : ∀ b ∈ fp, H3 b = none) (w0 : W 0 m0 H3) :
    codeAny (model X.prog X.w) X.A (.compLoop (.DictComp kx vx [⟨tg, iter, ifs, 0⟩] scope pos) 0 (.ref it) (.ref D) ce) R s := by
  have own : ∀ {σ' : L2.St} {H' : Hp} {s' : Shared}, Inv (X.blk s3 H3 scope ce fp) [] σ' H' s' → (∀ b ∈ fp, H' b = none) → ∀ b ∈ fp, FpOk (X.blk s3 H3 scope ce fp) [] H' b := fun J' hn b hb =>
    ⟨hn b hb, (J'.ok.exf b hb).1, J'.ok.exfs b hb, .inl hb, fun x c e => (J'.ok.exf b hb).2 x c e, fun p hp => by cases hp⟩
  refine compLoop_anyD (fun n s' => ∃ i H', Inv (X.blk s3 H3 scope ce fp) [] (L2.wipe σ vs) H' s' ∧ tn i s'.heap ∧ (∀ b ∈ fp, H' b = none) ∧ W i n H') (fun n s5 ⟨i, H5, I5, st5, n5, w5⟩ => ?_) m0 ⟨0, H3, I0, st0, n0, w0⟩
  rcases turns i n H5 w5 with ⟨stop, fin⟩ | ⟨go, Nx, dec, step⟩
  · refine thnF (T.done (X.blk s3 H3 scope ce fp) rfl rfl rfl hc i [] s5 _ H5 (fun _ _ => False) I5 (own I5 n5) st5 stop) fun r s6 ⟨er, I6⟩ => ?_
    subst er
    exact hR s6 H5 I6 fin
  · refine thnF (T.item (X.blk s3 H3 scope ce fp) rfl rfl rfl hc i [] s5 _ H5 (fun _ _ => False) I5 (own I5 n5) st5 go) fun r s6 ⟨u, er, h6⟩ => ?_
    subst er
    refine thnF h6 fun _ s7 ⟨x, H7, I7, r7, y7, st7, n7⟩ => ?_
    have J7 := I7.pinned (own I7 n7) (T.obj _ _ st7)
    refine thnF (pg.run _ s7 _ H7 x u _ J7 r7 (step x H7 y7)) fun _ s8 ⟨σ8, H8, I8, ew, q8⟩ => ?_
    refine thnF (pt.run _ s8 σ8 H8 _ I8 q8) fun b s9 ⟨H9, I9, q9⟩ => ?_
    have next : ∀ {s' : Shared} {H' : Hp}, Inv (X.blk s3 H3 scope ce fp) ([] ++ pinsAt fp s7.heap) σ8 H' s' → Nx H' → ∃ m, m < n ∧ ∃ i H', Inv (X.blk s3 H3 scope ce fp) [] (L2.wipe σ vs) H' s' ∧ tn i s'.heap ∧ (∀ b ∈ fp, H' b = none) ∧ W i m H' := fun {s' H'} J' nx => by
      obtain ⟨m', lt, w'⟩ := dec H' nx
      have at7 : ∀ b ∈ fp, ∀ o, s7.heap.get? b = some o → s'.heap.get? b = some o ∧ H' b = none := fun b hb o e =>
        have z := J'.pin (b, o) (List.mem_append_right _ (List.mem_append_right _ (mem_pinsAt hb e)))
        ⟨z.1, z.2.1⟩
      refine ⟨m', lt, i + 1, H', (J'.unpinned (pins := [])).weak (by rw [← ew, wipe_length]) (fun j v e => (wipe_some (ew ▸ e)).1), T.keep _ _ _ st7 fun b hb o e => (at7 b hb o e).1, fun b hb => ?_, w'⟩
      obtain ⟨o, e, _⟩ := T.obj _ _ st7 b hb
      exact (at7 b hb o e).2
    cases b with
    | false =>
      rw [if_neg Bool.false_ne_true] at q9 ⊢
      exact next I9 q9
    | true =>
      rw [if_pos rfl] at q9 ⊢
      refine thnF (pk.run _ s9 σ8 H9 _ I9 q9) fun z s10 ⟨y, H10, I10, ry, q10⟩ => ?_
      refine thnF (pv.run _ s10 σ8 H10 _ I10 q10) fun z2 s11 ⟨v, H11, I11, rv, F, o, kvs, q, d, sub, eD, dc, dk, dv, fit, room, nx⟩ => ?_
      exact dc_dset (X := X.blk s3 H3 scope ce fp) hu I11 sub eD dc dk ry dv rv fit room fun o' s12 dc' I12 => next I12 (nx o' dc')
end
section
variable {X : Cx} {kx vx tg iter : Expr} {ifs : List Expr} {scope : Scope} {own : List (Str × Nat)} {pos : Pos} {wi : TI} {g : TG} {tt : TT} {tk tv : TE}
theorem dObj_empty {P : Program} {w : World} {H : Hp} (h : Heap) (big : sysModules < h.objs.size) : ObjOk P w H (h.push { cls := .type "dict", data := .dict #[] }) h.objs.size (DObj w h.objs.size { cls := .type "dict", data := .dict #[] } []) :=
  dObj_new ⟨Heap.get?_push_size _ rfl, ⟨rfl, rfl, rfl⟩, beq_eq_false_iff_ne.mpr (Ne.symm (Nat.ne_of_lt big)), Nat.zero_le _, List.nodup_nil, #[], 0, rfl, .nil⟩
theorem pe_dg (hu : X.A.units + 64 < cLine) (hc : X.calm = true) (hN : X.N.Nodup) (hi : PI X tg iter wi) (ok : BlkOk X.N X.env.scope scope own)
    (hg : ∀ (s : Shared) (H : Hp) (C : Addr) (cl : List (Str × Addr)) (fp : List Addr), PG (X.blk s H scope (compEnvC scope cl C X.env) fp) tg g) (ht : ∀ (s : Shared) (H : Hp) (C : Addr) (cl : List (Str × Addr)) (fp : List Addr), PTs (X.blk s H scope (compEnvC scope cl C X.env) fp) ifs tt)
    (hk : ∀ (s : Shared) (H : Hp) (C : Addr) (cl : List (Str × Addr)) (fp : List Addr), PE (X.blk s H scope (compEnvC scope cl C X.env) fp) kx tk)
    (he : ∀ (s : Shared) (H : Hp) (C : Addr) (cl : List (Str × Addr)) (fp : List Addr), PE (X.blk s H scope (compEnvC scope cl C X.env) fp) vx tv) (hs : ∀ x, foldedSetIterable iter X.env x = pure x := by intro _; rfl) :
    PE X (.DictComp kx vx [⟨tg, iter, ifs, 0⟩] scope pos) (tDg (kw X) wi g tt tk tv (own.map (·.2))) := by
  refine ⟨fun pins s σ H Q I h => ?_⟩
  rw [arm_eval_DictComp]
  have cells : ∀ y ∈ scope.names, y.2 = .free → ∃ c, X.env.cells.lookup y.1 = some c := fun y hy e => (ok.free y hy e).elim (fun k => I.ok.has _ (.inl k)) fun k => I.ok.has _ (.inr k)
  refine wpAny_comprehension_free (use := none) rfl hs (closure_ok cells) ok.kind (fun y hy e => by rw [ok.uniq y hy, e]) (thn (hi.run pins s σ H _ I h) fun xv s1 hx => thn hx fun itv s2 ⟨it, fp, tn, J, H2, ei, I2, T, st2, f2, q⟩ => ?_)
  subst ei
  refine wpAny_newObj_type (newEnv_comp ?_)
  obtain ⟨D, hD⟩ : ∃ D, s2.heap.objs.size = D := ⟨_, rfl⟩
  obtain ⟨od, hod⟩ : ∃ o : HO, o = DObj X.w D { cls := .type "dict", data := .dict #[] } [] := ⟨_, rfl⟩
  obtain ⟨W, ⟨m0, w0⟩, turns⟩ := q D { cls := .type "dict", data := .dict #[] } (I2.hok.fresh (Nat.le_of_eq hD))
  have I3 : Inv X pins σ (upd H2 D od) { s2 with heap := s2.heap.push { cls := .type "dict", data := .dict #[] } } := by
    refine I2.laid (t' := s2.toks) (fun b o e => Heap.get?_push_of_some _ e) (Nat.le_of_eq hD) ?_
    rw [hod, ← hD]
    exact dObj_empty s2.heap I2.big
  obtain ⟨s3, e3⟩ : ∃ s3 : Shared, s3 = { s2 with heap := s2.heap.push { cls := .type "dict", data := .dict #[] } } := ⟨_, rfl⟩
  have h3 : s3.heap = s2.heap.push { cls := .type "dict", data := .dict #[] } := by rw [e3]
  rw [← e3] at I3
  obtain ⟨H3, eH⟩ : ∃ H3 : Hp, H3 = upd H2 D od := ⟨_, rfl⟩
  rw [← hod, ← eH] at w0
  rw [← eH] at I3
  have ok3 : ∀ b ∈ fp, FpOk X pins H3 b ∧ b < s3.heap.objs.size := fun b hb => by
    obtain ⟨o, e, _⟩ := T.obj _ _ st2 b hb
    have lt := Heap.lt_size e
    refine ⟨⟨?_, (f2 b hb).2⟩, by rw [h3, Heap.size_push]; exact Nat.lt_succ_of_lt lt⟩
    rw [eH, upd_ne (by rw [← hD]; exact Nat.ne_of_lt lt)]
    exact (f2 b hb).1
  have st3 : tn 0 s3.heap := T.keep _ _ _ st2 fun b _ o e => by rw [h3]; exact Heap.get?_push_of_some _ e
  have IB := block_start I3 ok hN ok3
  let cl := cellsFrom (s3.heap.objs.size + 1) scope.names (cloFrom X.env.cells scope.names [])
  let ce := compEnvC scope cl s3.heap.objs.size X.env
  have pg := hg s3 H3 s3.heap.objs.size cl fp
  have pt := ht s3 H3 s3.heap.objs.size cl fp
  have pk := hk s3 H3 s3.heap.objs.size cl fp
  have pv := he s3 H3 s3.heap.objs.size cl fp
  have st4 : tn 0 (pushCells (s3.heap.push { cls := .type "dict", data := .dict #[] }) scope.names) := T.keep _ _ _ st3 fun b _ o e => pushCells_keeps _ _ _ _ (Heap.get?_push_of_some _ e)
  have lp := dg_loop (iter := iter) (pos := pos) (it := it) (R := compPost (model X.prog X.w) X.A X.xe (none : Option (Value → Sem Unit)) (EP X pins σ Q) (.ref D) s3.heap.objs.size) hu hc T pg pt pk pv turns (fun s' H' J' qq => by
    have J7 : Inv X pins σ H' s' := I3.call' (ch := fp) J'.os J'.base J'.hok J'.bare fun b hb => ⟨(ok3 b hb).1.2.2.2.1, (ok3 b hb).1.2.1, (ok3 b hb).1.2.2.2.2.1, (ok3 b hb).1.2.2.2.2.2⟩
    obtain ⟨m, hn, _⟩ := J'.loc
    obtain ⟨f0, f1, _, f3, f4, f5⟩ := I3.fpOk (Nat.le_refl _) (show H' s3.heap.objs.size = none from J'.free)
    exact ⟨m, hn, fun h'' sb => ⟨.ref D, H', J7.turned (t' := s'.toks) (fun b o hb e => (sb.2 b hb).trans e) f0 f1 f3 f4 f5, rfl, qq⟩⟩) IB st4 (fun b hb => (ok3 b hb).1.1) w0
  have fin := codeAny_compStart_dict lp (T.self X.A 0 _ _ _ st4 lp)
  rw [hD]
  exact e3 ▸ fin
end
end OS

/-! OSl: dict comprehensions, list.count, calls with keywords. -/
namespace OS
open PySem L2

def aDc (ti : AIt) (g : AGt) (tt : ATt) (tk tv : ATr) (vs : List Nat) : ADr := fun ρ q => ti ρ fun ds ρ1 => ds.length ≤ 16777215 ∧ ∃ I : Nat → List (PyData × PyData) → List AV → Prop, I 0 [] ρ1 ∧
  (∀ i d acc ρ2, ds[i]? = some d → I i acc ρ2 → still ρ2 vs ∧ g d (wipeA ρ2 vs) fun ρ3 => tt ρ3 fun b ρ4 => (b = true → tk ρ4 fun y ρ5 => tv ρ5 fun z ρ6 => dFit acc y ∧ I (i + 1) (dPut acc y z) (mergeA ρ6 ρ2 vs)) ∧ (b = false → I (i + 1) acc (mergeA ρ4 ρ2 vs))) ∧
  ∀ acc ρ2, I ds.length acc ρ2 → q acc ρ2
section
variable {vs : List Nat}
theorem dc_sem {Y Z : Fam} {ti : AIt} {g : AGt} {tt : ATt} {tk tv : ATr} {wi : TI} {g' : TG} {tt' : TT} {tk' tv' : TE}
    (hZ : Z.K = Y.K)
    (a2 : ∀ (W : Wd) (ρ : List AV) (F : Hp) (σ : L2.St) (H : Hp) (R : It → Hp → Prop) (q : List PyData → List AV → Prop), W.K = Y.K → Sto W ρ F σ H → ti ρ q → (∀ ds ρ' F' H' J, Sto W ρ' F' σ H' → Same F F' → ItOk Y.K J ds F' → q ds ρ' → R J H') → wi σ H R)
    (g2 : ∀ (W : Wd) (ρ : List AV) (F : Hp) (σ : L2.St) (H : Hp) (d : PyData) (v : V) (Q : L2.St → Hp → Prop) (q : List AV → Prop), W.K = Z.K → Sto W ρ F σ H → Dp Z.K F v d → g d ρ q → (∀ ρ' F' σ' H', Sto W ρ' F' σ' H' → Same F F' → L2.wipe σ' vs = L2.wipe σ vs → q ρ' → Q σ' H') → g' v σ H Q)
    (t2 : ∀ (W : Wd) (ρ : List AV) (F : Hp) (σ : L2.St) (H : Hp) (Q : Bool → Hp → Prop) (q : Bool → List AV → Prop), W.K = Z.K → Sto W ρ F σ H → tt ρ q → (∀ b ρ' F' H', Sto W ρ' F' σ H' → Same F F' → q b ρ' → Q b H') → tt' σ H Q)
    (k2 : ∀ (W : Wd) (ρ : List AV) (F : Hp) (σ : L2.St) (H : Hp) (Q : VK) (q : AQ), W.K = Z.K → Sto W ρ F σ H → tk ρ q → (∀ d ρ' F' v H', Sto W ρ' F' σ H' → Same F F' → Dp Z.K F' v d → q d ρ' → Q v H') → tk' σ H Q)
    (e2 : ∀ (W : Wd) (ρ : List AV) (F : Hp) (σ : L2.St) (H : Hp) (Q : VK) (q : AQ), W.K = Z.K → Sto W ρ F σ H → tv ρ q → (∀ d ρ' F' v H', Sto W ρ' F' σ H' → Same F F' → Dp Z.K F' v d → q d ρ' → Q v H') → tv' σ H Q)
    (W : Wd) (ρ : List AV) (F : Hp) (σ : L2.St) (H : Hp) (Q : VK) (q : List (PyData × PyData) → List AV → Prop) (hk : W.K = Y.K) (S : Sto W ρ F σ H) (ht : aDc ti g tt tk tv vs ρ q)
    (k : ∀ xs ρ' F' p o H', Sto W ρ' F' σ (del H' p) → H' p = some o → Same F F' → DcO Y.K F' p o xs → q xs ρ' → Q (.ref p) H') : tDg Y.K wi g' tt' tk' tv' vs σ H Q := by
  have hkz : W.K = Z.K := hk.trans hZ.symm
  refine a2 W ρ F σ H _ _ hk S ht fun ds ρ1 F1 H1 J S1 e1 It q1 D ob hD => ?_
  obtain ⟨hlen, I, i0, turn, done⟩ := q1
  refine ⟨fun i m H' => m = ds.length - i ∧ i ≤ ds.length ∧ ∃ acc ws ρ2 F2, Sto W ρ2 F2 σ (del H' D) ∧ H' D = some ws ∧ Same F1 F2 ∧ DcO Y.K F2 D ws acc ∧ acc.length ≤ i ∧ I i acc ρ2,
    ⟨_, rfl, Nat.zero_le _, [], _, ρ1, F1, by rw [del_upd hD]; exact S1, upd_same, Same.refl _, ⟨ob, _, rfl, .nil⟩, Nat.le_refl _, i0⟩, ?_⟩
  rintro i m H2 ⟨rfl, hi, acc, ws, ρ2, F2, S2, hD2, e2', r2, l2, p2⟩
  have sH : Same F2 H2 := S2.sub.trans same_del
  by_cases hlt : i < ds.length
  · refine .inr ⟨It.go i F2 H2 e2' sH hlt, fun H' => ∃ acc ws ρ2 F2, Sto W ρ2 F2 σ (del H' D) ∧ H' D = some ws ∧ Same F1 F2 ∧ DcO Y.K F2 D ws acc ∧ acc.length ≤ i + 1 ∧ I (i + 1) acc ρ2,
      fun H' ⟨a, b, c, d, z⟩ => ⟨ds.length - (i + 1), by omega, rfl, hlt, a, b, c, d, z⟩, fun x H3 y => ?_⟩
    obtain ⟨d, F3, hd, y3, r3⟩ := It.yld i F2 H2 x H3 e2' sH hlt y
    obtain ⟨st, tn⟩ := turn i d acc ρ2 hd p2
    have fD : F2 D = none := S2.f0 del_same
    have h0D : W.H0 D = none := S2.h0 del_same
    have f0D : W.F0 D = none := S2.base.free fD
    have tD : W.tk ≠ some D := fun z => S2.wt D z h0D
    have S3 : Sto W ρ2 F3 σ (del H3 D) ∧ Same F2 F3 ∧ H3 D = some ws := by
      rcases y3 with ⟨rfl, rfl⟩ | ⟨T, o, hT, rfl, rfl⟩
      · exact ⟨S2, Same.refl _, hD2⟩
      · have nT : D ≠ T := ne_of_none hD2 hT
        have hT' : del H2 D T = none := by rw [del_ne nT.symm]; exact hT
        have ed : del (upd H2 T o) D = upd (del H2 D) T o := by
          funext b
          by_cases hb : b = D
          · subst hb; rw [del_same, upd_ne nT, del_same]
          · rw [del_ne hb]
            by_cases hbT : b = T
            · subst hbT; rw [upd_same, upd_same]
            · rw [upd_ne hbT, upd_ne hbT, del_ne hb]
        refine ⟨by rw [ed]; exact S2.newF hT', S2.fnew hT', by rw [upd_ne nT]; exact hD2⟩
    obtain ⟨S3, e3, hD3⟩ := S3
    have SB : Sto (W.add D ws) (wipeA ρ2 vs) F3 (L2.wipe σ vs) H3 := (S3.frame_in hD3 tD).wipe
    have hkB : (W.add D ws).K = Z.K := hkz
    refine g2 _ _ F3 _ H3 d x _ _ hkB SB (by rw [hZ]; exact r3) tn fun ρ4 F4 σ4 H4 S4 e4 w4 q4 => ?_
    have w4' : L2.wipe σ4 vs = L2.wipe σ vs := by rw [w4, wipe_wipe]
    refine ⟨w4', t2 _ ρ4 F4 σ4 H4 _ _ hkB S4 q4 fun b ρ5 F5 H5 S5 e5 q5 => ?_⟩
    have out : ∀ {ρ6 F6 H6}, Sto (W.add D ws) ρ6 F6 σ4 H6 → Same F3 F6 → Sto W (mergeA ρ6 ρ2 vs) F6 σ (del H6 D) ∧ H6 D = some ws := fun {ρ6 F6 H6} S6 e6 =>
      ⟨(S6.frame_out h0D f0D tD).merge S3 e6 st w4', S6.frame_at tD⟩
    cases b with
    | false =>
      rw [if_neg Bool.false_ne_true]
      obtain ⟨So, hDo⟩ := out S5 (e4.trans e5)
      exact ⟨acc, ws, _, F5, So, hDo, ((e2'.trans e3).trans e4).trans e5, dcO_mono ((e3.trans e4).trans e5) r2, Nat.le_succ_of_le l2, q5.2 rfl⟩
    | true =>
      rw [if_pos rfl]
      refine k2 _ ρ5 F5 σ4 H5 _ _ hkB S5 (q5.1 rfl) fun y ρ6 F6 v H6 S6 e6 r6 q6 => ?_
      refine e2 _ ρ6 F6 σ4 H6 _ _ hkB S6 q6 fun z ρ7 F7 u H7 S7 e7 r7 q7 => ?_
      obtain ⟨fit, q7⟩ := q7
      obtain ⟨So, hDo⟩ := out S7 (((e4.trans e5).trans e6).trans e7)
      have ec := ((((e3.trans e4).trans e5).trans e6).trans e7)
      refine ⟨F7, ws, acc, y, z, S7.sub, hDo, dcO_mono ec r2, dp_mono e7 (hZ ▸ r6), hZ ▸ r7, fit, Nat.lt_of_le_of_lt (Nat.le_trans l2 (Nat.le_of_lt hlt)) (Nat.lt_of_le_of_lt hlen (by decide)), fun o' dc' => ⟨dPut acc y z, o', _, F7, ?_, upd_same, e2'.trans ec, dc', by have := dPut_len acc y z; omega, q7⟩⟩
      have ed : del (upd H7 D o') D = del H7 D := by
        funext b
        by_cases hb : b = D
        · subst hb; rw [del_same, del_same]
        · rw [del_ne hb, del_ne hb, upd_ne hb]
      rw [ed]
      exact So
  · have e : i = ds.length := by omega
    subst e
    exact .inl ⟨It.stop _ F2 H2 e2' sH rfl, k acc ρ2 F2 D ws H2 S2 hD2 (e1.trans e2') r2 (done acc ρ2 p2)⟩
end
section
variable {X : Fam} {tg iter kx vx e : Expr} {ifs : List Expr} {pos px p : Pos} {te tb : ATr} {x : Str}
theorem ad_dc (hu : Roomy X) {scope : Scope} {own : List (Str × Nat)} {ti : AIt} {g : AGt} {tt : ATt} {tk tv : ATr} (hc : X.X0.calm = true) (hN : X.X0.N.Nodup) (hi : AI X tg iter ti) (ok : ∀ j, BlkOk (X.X j).N (X.X j).env.scope scope own)
    (hg : AGo (X.blk scope) tg g (own.map (·.2))) (ht : ATs (X.blk scope) ifs tt) (hk : AE (X.blk scope) kx tk) (he : AE (X.blk scope) vx tv) (hs : ∀ j x, foldedSetIterable iter (X.X j).env x = pure x := by intro _ _; rfl) :
    AD X (.DictComp kx vx [⟨tg, iter, ifs, 0⟩] scope pos) (aDc ti g tt tk tv (own.map (·.2))) := by
  obtain ⟨_, a1, a2⟩ := hi.ex
  obtain ⟨_, g1, g2⟩ := hg.ex
  obtain ⟨_, t1, t2⟩ := ht.ex
  obtain ⟨_, k1, k2⟩ := hk.ex
  obtain ⟨_, e1, e2⟩ := he.ex
  exact ⟨_, fun j => by rw [← X.hkw j]; exact pe_dg (by rw [X.hA j]; have := hu; omega) (by rw [X.hc j]; exact hc) (by rw [X.hN j]; exact hN) (a1 j) (ok j) (fun s H C cl fp => g1 (j, s, H, C, cl, fp)) (fun s H C cl fp => t1 (j, s, H, C, cl, fp)) (fun s H C cl fp => k1 (j, s, H, C, cl, fp)) (fun s H C cl fp => e1 (j, s, H, C, cl, fp)) (hs j), dc_sem rfl a2 g2 t2 k2 e2⟩
/-- e.count(b) over bools -/
theorem ae_countB {o : Expr} {to : ATr} (ho : AE X o to) (he : AE X e te) (hbase : ∀ j, attributeBase o "count" (X.X j).env (eval o (X.X j).env) = eval o (X.X j).env := by intro _; rfl)
    (hfew : ∀ j, ((backTo pos (starEach [e] (X.X j).env)).all (fun x => !x.1) && (backToKw pos (keywordEach [] (X.X j).env)).all (fun x => x.1.isSome) && decide (([e] : List Expr).length + ([] : List Keyword).length + (if ([] : List Keyword).isEmpty then 0 else 1) < 30)) = true := by intro _; rfl)
    (hline : (p.endLine == pos.line) = true := by rfl) (hs : ∀ j, starEach [e] (X.X j).env = [(false, eval e (X.X j).env)] := by intro _; rfl) :
    AE X (.Call (.Attribute o "count" p) [e] [] pos) fun ρ q => to ρ fun d ρ1 => ∃ bs : List Bool, d = .list (bs.map .bool) ∧ te ρ1 fun f ρ2 => ∃ b, f = .bool b ∧ q (.int (bs.count b : Nat)) ρ2 := by
  obtain ⟨_, a1, a2⟩ := ho.ex
  obtain ⟨_, b1, b2⟩ := he.ex
  refine ⟨fun σ H Q => tBM X.K "list" (rCntB X.K) _ (tCons _ tNil) σ H Q, fun j => by
    have q := pe_bm (X := X.X j) PySem.F.plainAttrs_list PySem.F.slot_list_count PySem.F.type_list_count mt_countB (a1 j) (pa_cons (b1 j) pa_nil (hs j)) (cpos := pos) (apos := p) (hbase j) (hfew j) hline (hs j) (by rfl)
    rw [X.hK j] at q
    exact q, fun W ρ F σ H Q q hk S ht k => a2 W ρ F σ H _ _ hk S ht fun d ρ1 F1 v H1 S1 e1 r1 q1 => ?_⟩
  obtain ⟨bs, rfl, q1⟩ := q1
  cases r1 with
  | lst hsq ha =>
    refine ⟨.inl ⟨rfl, _, Evl.ex_l S1.sub hsq⟩, b2 W ρ1 F1 σ H1 _ _ hk S1 q1 fun f ρ2 F2 w H2 S2 e2 r2 q2 => ?_⟩
    obtain ⟨b, rfl, hq⟩ := q2
    cases r2
    exact ⟨_, bs, b, rfl, rfl, by rw [← dpAll_bools ha]; exact Evl.ex_l (e2.trans S2.sub) hsq, k _ ρ2 F2 _ H2 S2 (e1.trans e2) (.int _) hq⟩

/-! ### keywords, in the order of the parameters behind the positional ones -/
structure AKw (X : Fam) (kws : List Keyword) (t : AAr) : Prop where
  ex : ∃ ta : TA, (∀ i, PK (X.X i) kws ta) ∧ ∀ (W : Wd) (ρ : List AV) (F : Hp) (σ : L2.St) (H : Hp) (Q : List V → Hp → Prop) (q : List AArg → List AV → Prop), W.K = X.K → Sto W ρ F σ H → t ρ q →
    (∀ as ρ' F' vs H', Sto W ρ' F' σ H' → Same F F' → Paired (ArgR X.K F' σ) as vs → q as ρ' → Q vs H') → ta σ H Q
theorem ak_nil : AKw X [] fun ρ q => q [] ρ := ⟨_, fun _ => pk_nil, fun W ρ F σ H Q q _ S ht k => k [] ρ F [] H S (Same.refl F) .nil ht⟩
theorem ak_cons {nm : Option Str} {kpos : Pos} {kws : List Keyword} {tr : AAr} (ha : AE X e te) (hr : AKw X kws tr) : AKw X (⟨nm, e, kpos⟩ :: kws) fun ρ q => te ρ fun d ρ1 => tr ρ1 fun as ρ2 => q (.d d :: as) ρ2 := by
  obtain ⟨_, a1, a2⟩ := ha.ex
  obtain ⟨_, b1, b2⟩ := hr.ex
  refine ⟨_, fun j => pk_cons (a1 j) (b1 j), fun W ρ F σ H Q q hk S ht k => a2 W ρ F σ H _ _ hk S ht fun d ρ1 F1 v H1 S1 e1 r1 q1 => ?_⟩
  exact b2 W ρ1 F1 σ H1 _ _ hk S1 q1 fun as ρ2 F2 vs H2 S2 e2 r2 q2 => k _ ρ2 F2 _ H2 S2 (e1.trans e2) (.cons (a := AArg.d d) (dp_mono e2 r1) r2) q2
end
/-- some of a row, by their places -/
def pmL {α : Type} : List Nat → List α → List α
  | [], _ => []
  | i :: r, l => match l[i]? with
    | some x => x :: pmL r l
    | none => pmL r l
theorem pmL_nil {α : Type} {l : List α} : pmL [] l = [] := rfl
theorem pmL_cons {α : Type} {l : List α} {i : Nat} {r : List Nat} : pmL (i :: r) l = match l[i]? with | some x => x :: pmL r l | none => pmL r l := rfl
theorem pair_at {α β : Type} {R : α → β → Prop} : ∀ {xs : List α} {ys : List β}, Paired R xs ys → ∀ i : Nat, (xs[i]? = none ∧ ys[i]? = none) ∨ ∃ x y, xs[i]? = some x ∧ ys[i]? = some y ∧ R x y
  | _, _, .nil, i => .inl ⟨rfl, rfl⟩
  | _, _, .cons r p, 0 => .inr ⟨_, _, rfl, rfl, r⟩
  | _, _, .cons r p, i + 1 => pair_at p i
theorem pair_pm {α β : Type} {R : α → β → Prop} {xs : List α} {ys : List β} (p : Paired R xs ys) : ∀ pm : List Nat, Paired R (pmL pm xs) (pmL pm ys)
  | [] => .nil
  | i :: r => by
    rw [pmL_cons, pmL_cons]
    rcases pair_at p i with ⟨a, b⟩ | ⟨x, y, a, b, h⟩
    · rw [a, b]; exact pair_pm p r
    · rw [a, b]; exact .cons h (pair_pm p r)
theorem dp_at {K : KW} {H : Hp} : ∀ {xs : List V} {ys : List PyData}, DpAll K H xs ys → ∀ i : Nat, (xs[i]? = none ∧ ys[i]? = none) ∨ ∃ x y, xs[i]? = some x ∧ ys[i]? = some y ∧ Dp K H x y
  | _, _, .nil, i => .inl ⟨rfl, rfl⟩
  | _, _, .cons r p, 0 => .inr ⟨_, _, rfl, rfl, r⟩
  | _, _, .cons r p, i + 1 => dp_at p i
theorem dp_pm {K : KW} {H : Hp} {xs : List V} {ys : List PyData} (p : DpAll K H xs ys) : ∀ pm : List Nat, DpAll K H (pmL pm xs) (pmL pm ys)
  | [] => .nil
  | i :: r => by
    rw [pmL_cons, pmL_cons]
    rcases dp_at p i with ⟨a, b⟩ | ⟨x, y, a, b, h⟩
    · rw [a, b]; exact dp_pm p r
    · rw [a, b]; exact .cons h (dp_pm p r)
theorem dp_len {K : KW} {H : Hp} : ∀ {xs : List V} {ys : List PyData}, DpAll K H xs ys → xs.length = ys.length
  | _, _, .nil => rfl
  | _, _, .cons _ p => congrArg (· + 1) (dp_len p)
/-- what positional ones and keywords give, in the order of the parameters -/
def kwG {α : Type} (n m : Nat) (pm : List Nat) (us ws : List α) : List α := if us.length = n ∧ ws.length = m then pmL pm (us ++ ws) else []
theorem kwG_rel {n m : Nat} {pm : List Nat} {vs zs : List V} {us ws : List Value} (r : Vals vs us) (rz : Vals zs ws) : Vals (kwG n m pm vs zs) (kwG n m pm us ws) := by
  unfold kwG
  rw [r.length, rz.length]
  split
  · exact pair_pm (Vals.append r rz) pm
  · exact .nil
/-- a def of the text, called with some parameters by keywords -/
structure FnKw (P : Program) (w : World) (K : PySem.W.Frag) (mg : Str → Option Value) (base : Heap) (x : Str) (ps ks : List Str) (n : Nat) (pm : List Nat) (k : Nat) (asp : PSp) : Prop where
  ex : ∃ f fd, mg x = some (.ref f) ∧ PySem.W.keepIn K (.ref f) = true ∧ KBinds K fd ps ks (kwG n ks.length pm) (kwG n ks.length pm) ∧ FnG P w K mg base k f fd ps (cP ⟨K, w, P⟩ asp)
theorem call_kwG {X : Cx} {k n : Nat} {pm : List Nat} {f : Addr} {fd : FuncData} {ps ks : List Str} {sp : Sp} {pins : List (Addr × Obj)} {σ : L2.St} {H : Hp} {s : Shared} {Q : VK} {us ws : List Value} {vs zs : List V} (F : FnG X.prog X.w X.K X.mg X.base k f fd ps sp) (hr : Room k X.A) (hgd : X.A.guards = some [])
    (hb : KBinds X.K fd ps ks (kwG n ks.length pm) (kwG n ks.length pm)) (I : Inv X pins σ H s) (r : Vals vs us) (rz : Vals zs ws) (h : sp (kwG n ks.length pm vs zs) H Q E0) : wpAny (model X.prog X.w) X.A (call (.ref f) us (ks.zip ws)) (EP X pins σ Q) X.xe s := by
  have r2 := hb.rel r rz
  have hl : (kwG n ks.length pm us ws).length = ps.length := by rw [← r2.length]; exact F.len _ _ _ _ h
  refine wpAny_call (codeAny_mono (F.run X.A X.stack s H ⟨us, ks.zip ws⟩ _ _ Q E0 hr hgd I.env0 (hb.to s us ws I.kIn hl) r2 h) fun r s' hq => ?_)
  rcases r with e | fl
  · exact hq.elim
  · cases fl with
    | ret u => exact I.after hq
    | next => exact hq.elim
    | brk => exact hq.elim
    | cont => exact hq.elim
section
variable {X : Fam} {e : Expr} {es : List Expr} {kws : List Keyword} {pos p : Pos} {x : Str} {ta tk : AAr} {ps ks : List Str} {n : Nat} {pm : List Nat} {k : Nat} {asp : PSp}
theorem ae_kw0 (G : FnKw X.X0.prog X.X0.w X.X0.K X.X0.mg X.X0.base x ps ks n pm k asp) (hr : Room k X.X0.A ∧ X.X0.A.guards = some []) (hkw : AKw X kws tk) (hg : ∀ j, Gl (X.X j) x := by intro _; rfl) (hdb : (x == ("__debug__" : Str)) = false := by decide)
    (hall : ∀ j, (backToKw pos (keywordEach kws (X.X j).env)).all (·.1.isSome) = true := by intro _; rfl) (hks : ∀ j, (backToKw pos (keywordEach kws (X.X j).env)).filterMap (·.1) = ks := by intro _; rfl)
    (hpl : ∀ j, ((backTo pos (starEach [] (X.X j).env)).any (·.1) || (backToKw pos (keywordEach kws (X.X j).env)).any (·.1.isNone)) = false := by intro _; rfl) :
    AE X (.Call (.Name x p) [] kws pos) fun ρ q => tk ρ fun as ρ1 => ∃ ds, dats as = some ds ∧ 0 = n ∧ ds.length = ks.length ∧ asp (pmL pm ds) fun rs => q rs.dat ρ1 := by
  obtain ⟨f, fd, hm, hk, hb, F⟩ := G.ex
  obtain ⟨_, b1, b2⟩ := hkw.ex
  refine ⟨fun σ H Q => _, fun j => ⟨fun pins s σ H Q I h => ?_⟩, fun W ρ F σ H Q q hk S ht kk => b2 W ρ F σ H (fun vs H1 => cP X.K asp (kwG n ks.length pm [] vs) H1 Q E0) _ hk S ht fun as ρ1 F1 vs H1 S1 e1 r1 q1 => ?_⟩
  · refine wpAny_Call_Name_kw (ld_glob I (hg j) (by rw [X.hm j]; exact hm) ?_ hdb)
    refine PySem.W.callWith_KW0 (K := (X.X j).K) (h₀ := (X.X j).base) I.ok.mod.kin (by rw [X.hK j]; exact hk) (hall j) (thn ((b1 j).run pos pins s σ H _ I h) fun ws s2 ⟨zs, H2, I2, rz, q2⟩ => ⟨I2.kIn, ?_⟩) (hpl j)
    rw [hks j]
    have F' : FnG (X.X j).prog (X.X j).w (X.X j).K (X.X j).mg (X.X j).base k f fd ps (cP X.K asp) := by rw [X.hp j, X.hw j, X.hK j, X.hm j, X.hb j]; exact F
    exact call_kwG (us := []) (vs := []) F' (by rw [X.hA j]; exact hr.1) (by rw [X.hA j]; exact hr.2) (by rw [X.hK j]; exact hb) I2 .nil rz q2
  · obtain ⟨ds, hd, n0, nl, q1⟩ := q1
    have D := dats_ok r1 hd
    have e : kwG n ks.length pm [] vs = pmL pm vs := by
      unfold kwG
      rw [if_pos ⟨n0, by rw [dp_len D]; exact nl⟩]
      rfl
    rw [e]
    refine ⟨F1, pmL pm ds, _, S1.sub, dp_pm D pm, q1, fun rs v H' F' hq A R => ?_⟩
    cases rs with
    | d z => exact kk z ρ1 F' v H' (S1.after A) (e1.trans A.ff) R hq
    | own xs =>
      obtain ⟨p, ws, rfl, f, h0, h', r⟩ := R
      have S2 := S1.afterOwn A f h0
      exact kk _ ρ1 _ _ H' (S2.freeze h') ((e1.trans A.ff).trans (S2.frozen h')) (.lst (SqL.of upd_same) (dpAll_mono (S2.frozen h') r)) hq
theorem ae_kw (G : FnKw X.X0.prog X.X0.w X.X0.K X.X0.mg X.X0.base x ps ks n pm k asp) (hr : Room k X.X0.A ∧ X.X0.A.guards = some []) (hta : AA X (e :: es) ta) (hkw : AKw X kws tk) (hg : ∀ j, Gl (X.X j) x := by intro _; rfl) (hdb : (x == ("__debug__" : Str)) = false := by decide)
    (hall : ∀ j, (backToKw pos (keywordEach kws (X.X j).env)).all (·.1.isSome) = true := by intro _; rfl) (hks : ∀ j, (backToKw pos (keywordEach kws (X.X j).env)).filterMap (·.1) = ks := by intro _; rfl)
    (he : ∀ j, starEach (e :: es) (X.X j).env = (false, eval e (X.X j).env) :: starEach es (X.X j).env := by intro _; rfl)
    (hpl : ∀ j, ((backTo pos (starEach (e :: es) (X.X j).env)).any (·.1) || (backToKw pos (keywordEach kws (X.X j).env)).any (·.1.isNone)) = false := by intro _; rfl) :
    AE X (.Call (.Name x p) (e :: es) kws pos) fun ρ q => ta ρ fun as ρ1 => tk ρ1 fun bs ρ2 => ∃ ds, dats (as ++ bs) = some ds ∧ as.length = n ∧ bs.length = ks.length ∧ asp (pmL pm ds) fun rs => q rs.dat ρ2 := by
  obtain ⟨f, fd, hm, hk, hb, F⟩ := G.ex
  obtain ⟨_, a1, a2⟩ := hta.ex
  obtain ⟨_, b1, b2⟩ := hkw.ex
  refine ⟨fun σ H Q => _, fun j => ⟨fun pins s σ H Q I h => ?_⟩, fun W ρ F σ H Q q hk S ht kk => a2 W ρ F σ H (fun vs H1 => _) _ hk S ht fun as ρ1 F1 vs H1 S1 e1 r1 q1 => b2 W ρ1 F1 σ H1 (fun zs H2 => cP X.K asp (kwG n ks.length pm vs zs) H2 Q E0) _ hk S1 q1 fun bs ρ2 F2 zs H2 S2 e2 r2 q2 => ?_⟩
  · refine wpAny_Call_Name_kw (ld_glob I (hg j) (by rw [X.hm j]; exact hm) ?_ hdb)
    refine PySem.W.callWith_KW (K := (X.X j).K) (h₀ := (X.X j).base) I.ok.mod.kin (by rw [X.hK j]; exact hk) (hall j) (thn ((a1 j).run pos pins s σ H _ I h) fun us s1 ⟨vs, H1, I1, r, q⟩ => thn ((b1 j).run pos pins s1 σ H1 _ I1 q) fun ws s2 ⟨zs, H2, I2, rz, q2⟩ => ⟨I2.kIn, ?_⟩) (hpl j) (he j)
    rw [hks j]
    have F' : FnG (X.X j).prog (X.X j).w (X.X j).K (X.X j).mg (X.X j).base k f fd ps (cP X.K asp) := by rw [X.hp j, X.hw j, X.hK j, X.hm j, X.hb j]; exact F
    exact call_kwG F' (by rw [X.hA j]; exact hr.1) (by rw [X.hA j]; exact hr.2) (by rw [X.hK j]; exact hb) I2 r rz q2
  · obtain ⟨ds, hd, n0, nl, q2⟩ := q2
    have app : ∀ {as bs : List AArg} {vs zs : List V}, Paired (ArgR X.K F2 σ) as vs → Paired (ArgR X.K F2 σ) bs zs → Paired (ArgR X.K F2 σ) (as ++ bs) (vs ++ zs) := fun {as bs vs zs} h h' => by
      induction h with
      | nil => exact h'
      | cons a _ ih => exact .cons a ih
    have e : kwG n ks.length pm vs zs = pmL pm (vs ++ zs) := by
      unfold kwG
      rw [if_pos ⟨by rw [← r1.length]; exact n0, by rw [← r2.length]; exact nl⟩]
    rw [e]
    refine ⟨F2, pmL pm ds, _, S2.sub, dp_pm (dats_ok (app (pairedR_mono e2 r1) r2) hd) pm, q2, fun rs v H' F' hq A R => ?_⟩
    cases rs with
    | d z => exact kk z ρ2 F' v H' (S2.after A) ((e1.trans e2).trans A.ff) R hq
    | own xs =>
      obtain ⟨p, ws, rfl, f, h0, h', r⟩ := R
      have S3 := S2.afterOwn A f h0
      exact kk _ ρ2 _ _ H' (S3.freeze h') (((e1.trans e2).trans A.ff).trans (S3.frozen h')) (.lst (SqL.of upd_same) (dpAll_mono (S3.frozen h') r)) hq
end
end OS

/-! OSm: the reading of a walk made short. -/
namespace OS
open PySem L2 PySem.Spec PyProof.Rows
theorem ex1 {α : Type} {p : α → Prop} {a : α} : (∃ x, a = x ∧ p x) ↔ p a := ⟨fun ⟨_, e, h⟩ => e ▸ h, fun h => ⟨a, rfl, h⟩⟩
theorem ex2 {α : Type} {p : α → Prop} {a : α} : (∃ x, x = a ∧ p x) ↔ p a := ⟨fun ⟨_, e, h⟩ => e ▸ h, fun h => ⟨a, rfl, h⟩⟩
theorem imp_tt {p : Prop} : ((true = true → p) ∧ (true = false → p)) ↔ p := by simp
/-! what is walked: a list, a tuple, a text -/
def dIter : PyData → (List PyData → Prop) → Prop
  | .list ds, q => q ds
  | .tuple ds, q => q ds
  | .str x, q => q (signs x)
  | .dict kvs, q => q (kvs.map (·.1))
  | _, _ => False
/-- the keys of a dict, in their sequence -/
def Itm (w : World) (d : Addr) (ob : Obj) (L : DL) : It :=
  ⟨fun i H => H d = some (DObj w d ob L) ∧ i < L.length, fun i H x H' => H' = H ∧ ∃ k v, L[i]? = some (k, x, v), fun i H => H d = some (DObj w d ob L) ∧ L.length ≤ i⟩
theorem ent_at {w : World} {L : DL} {es : Array DictEntry} (h : Paired (EntOk w) L es.toList) {i : Nat} {p : NestedKey × V × V} (e : L[i]? = some p) : ∃ en, es[i]? = some en ∧ EntOk w p en := by
  obtain ⟨en, h1, h2⟩ := paired_get h e
  exact ⟨en, by rw [← Array.getElem?_toList]; exact h1, h2⟩
theorem turn_dict {P : Program} {w : World} {K : PySem.W.Frag} {tg : Expr} {d : Addr} {ob : Obj} {L : DL} (it : Addr) : Turn P w K tg (Itm w d ob L) [it] it (fun i h => h.IsKeyIter it d i L.length (match ob.data with | .dict _ ep => ep | _ => 0)) where
  mem := List.mem_singleton.mpr rfl
  obj := fun i h st b hb => by
    obtain rfl := List.mem_singleton.mp hb
    obtain ⟨oi, e, c, dd⟩ := st
    exact ⟨oi, e, fun v z => by rw [dd] at z; cases z⟩
  keep := fun i h h' st k => st.at fun oi e => k it (List.mem_singleton.mpr rfl) oi e
  item := fun X hP hw hK hc i pins s σ H E I hf st hg => by
    subst hP hw hK
    obtain ⟨hd, hi⟩ := hg
    obtain ⟨f0, f1, f2, f3, f4, f5⟩ := hf it (List.mem_singleton.mpr rfl)
    have n := dObj_of I.hok hd
    obtain ⟨es, ep, hdt, pr⟩ := n.ent
    rw [hdt] at st
    have e0 : ∃ p, L[i]? = some p := ⟨L[i], List.getElem?_eq_getElem hi⟩
    obtain ⟨⟨k, y, v⟩, e0⟩ := e0
    obtain ⟨en, hen, rk, _, _⟩ := ent_at pr e0
    have sz : es.size = L.length := by rw [← Array.length_toList]; exact (Paired.length pr).symm
    refine next_key_item st n.get hdt sz hen fun h' st' sb => ?_
    have I1 : Inv X pins σ H { s with heap := h' } := I.turned (t' := s.toks) (fun b o hb e => (sb.2 b hb).trans e) f0 f1 f3 f4 f5
    obtain ⟨oi, e, c, dd⟩ := id st'
    refine ⟨en.key, rfl, go_of (s := { s with heap := h' }) e c dd (by decide) ⟨y, H, I1, rk, ⟨rfl, k, v, e0⟩, ?_, fun b hb => (hf b hb).1⟩⟩
    rw [hdt]
    exact st'
  done := fun X hP hw hK hc i pins s σ H E I hf st hg => by
    subst hP hw hK
    obtain ⟨hd, hi⟩ := hg
    obtain ⟨f0, f1, f2, f3, f4, f5⟩ := hf it (List.mem_singleton.mpr rfl)
    have n := dObj_of I.hok hd
    obtain ⟨es, ep, hdt, pr⟩ := n.ent
    rw [hdt] at st
    have sz : es.size = L.length := by rw [← Array.length_toList]; exact (Paired.length pr).symm
    exact next_key_end (I.ok.hd hc) st n.get hdt sz hi fun h' eb => ⟨rfl, I.turned (t' := s.toks) (fun b o hb e => eb b o hb e) f0 f1 f3 f4 f5⟩
  self := fun A i s Q E st h => by
    refine wpAny_pyIter_slot st.typeIs F.slot_dict_keyiterator_iter (wpAny_call_entry F.slot_dict_keyiterator_iter st.typeIs F.entry_dict_keyiterator_iter ?_ (F.args_dict_keyiterator_iter_1 _))
    exact wpAny_pure ⟨_, rfl, "dict_keyiterator", _, st.typeIs, F.slot_dict_keyiterator_next.lookup, h⟩
theorem dpL_keys {K : KW} {F : Hp} : ∀ {L : DL} {kvs : List (PyData × PyData)} {i : Nat} {k : NestedKey} {y v : V}, DpL K F L kvs → L[i]? = some (k, y, v) → ∃ d, (kvs.map (·.1))[i]? = some d ∧ Dp K F y d
  | _, _, _, _, _, _, .nil, e => by simp at e
  | _, _, 0, _, _, _, .cons h1 _ _ _ _, e => by cases e; exact ⟨_, rfl, h1⟩
  | _, _, i + 1, _, _, _, .cons _ _ _ _ r, e => by
    obtain ⟨d, h1, h2⟩ := dpL_keys (i := i) r (by simpa using e)
    exact ⟨d, by simpa using h1, h2⟩
theorem pi_any {X : Cx} {tg l : Expr} {tl : TE} (hl : PE X l tl) : PI X tg l (fun σ H R => tl σ H fun v H1 =>
    ((∃ a, v = .ref a ∧ (∃ xs, SqL X.K H1 a xs) ∧ R (Itl X.K a) H1) ∨ (∃ a, v = .ref a ∧ (∃ xs, SqT X.K H1 a xs) ∧ R (Itt X.K a) H1)) ∨ (∃ x, v = .str x ∧ R (Its x) H1) ∨ ∃ d ob L, v = .ref d ∧ H1 d = some (DObj X.w d ob L) ∧ R (Itm X.w d ob L) H1) := by
  refine ⟨fun pins s σ H R I h => thn (hl.run pins s σ H _ I h) fun v s1 ⟨x, H1, I1, r1, q1⟩ => ?_⟩
  have fp : ∀ b ∈ [s1.heap.objs.size], FpOk X pins H1 b := fun b hb => by
    obtain rfl := List.mem_singleton.mp hb
    exact I1.fpOk (Nat.le_refl _) I1.fresh
  rcases q1 with (⟨a, rfl, ⟨xs, hq⟩, q⟩ | ⟨a, rfl, ⟨xs, hq⟩, q⟩) | ⟨z, rfl, q⟩ | ⟨d, ob, L, rfl, hq, q⟩
  · cases r1
    obtain ⟨its, rv, p, _⟩ := I1.list hq
    exact wpAny_pyIter_list p.isList ⟨_, _, _, _, H1, rfl, I1.kept (t' := s1.toks) fun b o e => Heap.get?_push_of_some _ e, turn_list a _, ⟨_, Heap.get?_push_size _ rfl, rfl, rfl⟩, fp, q⟩
  · cases r1
    obtain ⟨its, rv, p, _⟩ := I1.tuple hq
    exact wpAny_pyIter_tuple (show s1.heap.IsTuple a its.toArray from p) ⟨_, _, _, _, H1, rfl, I1.kept (t' := s1.toks) fun b o e => Heap.get?_push_of_some _ e, turn_tuple a _, ⟨_, Heap.get?_push_size _ rfl, rfl, rfl⟩, fp, q⟩
  · obtain ⟨t, rfl⟩ := r1
    cases ha : z.cps.all (· < 128)
    · exact wpAny_pyIter_wide ha (pi_one (tk := s1.toks) I1 _ (turn_str _ z t "str_iterator" (.inr rfl)) ⟨_, Heap.get?_push_size _ rfl, rfl, rfl⟩ q)
    · exact wpAny_pyIter_ascii ha (pi_one (tk := s1.toks) I1 _ (turn_str _ z t "str_ascii_iterator" (.inl rfl)) ⟨_, Heap.get?_push_size _ rfl, rfl, rfl⟩ q)
  · cases r1
    have n := dObj_of I1.hok hq
    obtain ⟨es, ep, hdt, pr⟩ := n.ent
    have sz : es.size = L.length := by rw [← Array.length_toList]; exact (Paired.length pr).symm
    refine iter_keys n.sys n.get n.ex hdt (pi_one (tk := s1.toks) I1 _ (turn_dict _) ⟨_, Heap.get?_push_size _ rfl, rfl, ?_⟩ q)
    rw [hdt, sz] <;> rfl
theorem itOk_dict {K : KW} {F : Hp} {d : Addr} {ob : Obj} {L : DL} {kvs : List (PyData × PyData)} (e : F d = some (DObj K.w d ob L)) (r : DpL K F L kvs) : ItOk K (Itm K.w d ob L) (kvs.map (·.1)) F where
  go := fun i F1 H e1 e2 hi => ⟨e2 _ _ (e1 _ _ e), by rw [dpL_len r]; rw [List.length_map] at hi; exact hi⟩
  stop := fun i F1 H e1 e2 hi0 => have hi := Nat.le_of_eq hi0.symm; ⟨e2 _ _ (e1 _ _ e), by rw [dpL_len r]; rw [List.length_map] at hi; exact hi⟩
  yld := fun i F1 H x H' e1 e2 hi y => by
    obtain ⟨rfl, k, v, y⟩ := y
    obtain ⟨d, h1, h2⟩ := dpL_keys (dpL_mono e1 r) y
    exact ⟨d, F1, h1, .inl ⟨rfl, rfl⟩, h2⟩
theorem ai_seq {X : Fam} {tg e : Expr} {te : ATr} (he : AE X e te) : AI X tg e fun ρ q => te ρ fun d ρ1 => dIter d fun ds => q ds ρ1 := by
  obtain ⟨_, a1, a2⟩ := he.ex
  refine ⟨_, fun j => by have q := pi_any (tg := tg) (a1 j); rw [X.hK j, X.hw j] at q; exact q, fun W ρ F σ H R q hk S ht k => a2 W ρ F σ H _ _ hk S ht fun d ρ' F' v H' S' e r q1 => ?_⟩
  unfold dIter at q1
  split at q1
  · cases r with
    | lst hs ha => exact .inl (.inl ⟨_, rfl, ⟨_, Evl.ex_l S'.sub hs⟩, k _ ρ' F' H' _ S' e (itOk_list hs ha) q1⟩)
  · cases r with
    | tup hs ha tx => exact .inl (.inr ⟨_, rfl, ⟨_, Evl.ex_t S'.sub hs⟩, k _ ρ' F' H' _ S' e (itOk_tup hs ha) q1⟩)
  · cases r
    exact .inr (.inl ⟨_, rfl, k _ ρ' F' H' _ S' e itOk_str q1⟩)
  · cases r with
    | dct hd dp => exact .inr (.inr ⟨_, _, _, rfl, S'.sub _ _ hd, k _ ρ' F' H' _ S' e (itOk_dict hd dp) q1⟩)
  · exact q1.elim
section
variable {X : Fam} {a b e : Expr} {ta tb te : ATr} {pos : Pos}
def dNeg : PyData → (PyData → Prop) → Prop
  | .int i, q => q (.int (-i))
  | _, _ => False
theorem ae_neg (ha : AE X a ta) : AE X (.UnaryOp .USub a pos) fun ρ q => ta ρ fun d ρ1 => dNeg d fun z => q z ρ1 := by
  obtain ⟨_, a1, a2⟩ := ha.ex
  refine ⟨_, fun j => pe_un un_neg (a1 j), fun W ρ F σ H Q q hk S ht k => a2 W ρ F σ H _ _ hk S ht fun d ρ1 F1 x H1 S1 e1 r1 q1 => ?_⟩
  unfold dNeg at q1
  split at q1
  · cases r1
    exact ⟨_, rfl, k _ ρ1 F1 _ H1 S1 e1 (.int _) q1⟩
  · exact q1.elim
theorem at_chain {c : Expr} {tc : ATr} {op op' : CmpOp} {r r' : R2} {ro ro' : RO2} (h : AOp X.K r ro) (h' : AOp X.K r' ro') (ho : ∀ j, OpR (X.X j) (compareOp op) r) (ho' : ∀ j, OpR (X.X j) (compareOp op') r') (ha : AE X a ta) (hb : AE X b tb) (hc : AE X c tc)
    (hm : lastMarks [op, op'] [b, c] = false := by rfl) : AT X (.Compare a [op, op'] [b, c] pos) fun ρ q => ta ρ fun d ρ1 => tb ρ1 fun e ρ2 => ro d e fun z => ∃ k, z = .bool k ∧ (k = true → tc ρ2 fun f ρ3 => ro' e f fun z => ∃ k, z = .bool k ∧ q k ρ3) ∧ (k = false → q false ρ2) := by
  obtain ⟨_, a1, a2⟩ := ha.ex
  obtain ⟨_, b1, b2⟩ := hb.ex
  obtain ⟨_, c1, c2⟩ := hc.ex
  refine ⟨_, fun j => pt_chain (ho j) (ho' j) (a1 j) (b1 j) (c1 j) hm, fun W ρ F σ H Q q hk S ht k => ?_⟩
  refine a2 W ρ F σ H _ _ hk S ht fun d ρ1 F1 x H1 S1 e1 r1 q1 => ?_
  refine b2 W ρ1 F1 σ H1 _ _ hk S1 q1 fun e ρ2 F2 y H2 S2 e2 r2 q2 => ?_
  refine h W ρ2 F2 σ H2 x y d e _ _ hk S2 (dp_mono e2 r1) r2 q2 fun z F' v H' S' e3 r3 q3 => ?_
  obtain ⟨b, rfl, qt, qf⟩ := q3
  cases r3
  refine ⟨b, rfl, ?_⟩
  cases b with
  | true =>
    rw [if_pos rfl]
    refine c2 W ρ2 F' σ H' _ _ hk S' (qt rfl) fun f ρ3 F3 w H3 S3 e4 r4 q4 => ?_
    refine h' W ρ3 F3 σ H3 y w e f _ _ hk S3 (dp_mono (e3.trans e4) r2) r4 q4 fun z F5 v H5 S5 e5 r5 q5 => ?_
    obtain ⟨b, rfl, q5⟩ := q5
    cases r5
    exact ⟨b, rfl, k b ρ3 F5 H5 S5 ((((e1.trans e2).trans e3).trans e4).trans e5) q5⟩
  | false =>
    rw [if_neg Bool.false_ne_true]
    exact ⟨false, rfl, k false ρ2 F' H' S' ((e1.trans e2).trans e3) (qf rfl)⟩
end
theorem _root_.L2.Room.roomy {k : Nat} {A : Around} (r : Room k A) : A.units + 100 < cLine := by have := r.un; omega
theorem dLt_ss {a b : Str} {q : PyData → Prop} : dLt (.str a) (.str b) q = roLt (.str a) (.str b) q := rfl
theorem dLt_tt {a b : List PyData} {q : PyData → Prop} : dLt (.tuple a) (.tuple b) q = roLt (.tuple a) (.tuple b) q := rfl
theorem dEq_ll {n : Bool} {a b : List PyData} {q : PyData → Prop} : dEq n (.list a) (.list b) q = (SeqAt.shaped (.list a) = true ∧ SeqAt.shaped (.list b) = true ∧ q (.bool (if n then !PyData.eqv (.list a) (.list b) else PyData.eqv (.list a) (.list b)))) := rfl
theorem dEq_tt {n : Bool} {a b : List PyData} {q : PyData → Prop} : dEq n (.tuple a) (.tuple b) q = (SeqAt.shaped (.tuple a) = true ∧ SeqAt.shaped (.tuple b) = true ∧ q (.bool (if n then !PyData.eqv (.tuple a) (.tuple b) else PyData.eqv (.tuple a) (.tuple b)))) := rfl
/-! numbers -/
theorem bnd_mul {i j A B : Int} (h1 : 0 ≤ i) (h2 : i ≤ A) (h3 : 0 ≤ j) (h4 : j ≤ B) : 0 ≤ i * j ∧ i * j ≤ A * B := ⟨Int.mul_nonneg h1 h3, Int.mul_le_mul h2 h4 h3 (Int.le_trans h1 h2)⟩
theorem natAbs_lt {i : Int} {n : Nat} (h1 : 0 ≤ i) (h2 : i < (2 ^ n : Nat)) : i.natAbs < 2 ^ n := by omega
theorem mulB {i j : Int} (h1 : 0 ≤ i) (h2 : i ≤ 10 ^ 100) (h3 : 0 ≤ j) (h4 : j ≤ 10 ^ 100) : CMulX i j := by
  have e : (10 : Int) ^ 100 < ((2 ^ 333 : Nat) : Int) := by decide
  exact mulx_ok (a := 333) (b := 333) (natAbs_lt h1 (Int.lt_of_le_of_lt h2 e)) (natAbs_lt h3 (Int.lt_of_le_of_lt h4 e)) (by decide)
theorem divB {i j : Int} (h : 0 < j) (h2 : j ≤ 10 ^ 100) : CDivW i j := by
  have e : (10 : Int) ^ 100 < ((2 ^ 333 : Nat) : Int) := by decide
  exact wide_div h (natAbs_lt (Int.le_of_lt h) (Int.lt_of_le_of_lt h2 e)) (by decide) (by decide)
theorem powB {j : Int} (h : 0 ≤ j) (h2 : j ≤ 1000) : CPowW 10 j := ⟨h, by
  have : Builtin.Int.intBits 10 = 4 := by decide
  rw [this]; omega⟩
theorem powX {i j : Int} {n : Nat} (hi : i.natAbs < 2 ^ n) (h : 0 ≤ j) (h2 : (n : Int) * j ≤ 2 ^ 27) : CPowW i j := ⟨h, by
  have h1 : Builtin.Int.intBits i ≤ n := intBits_le_iff.mpr hi
  exact Int.le_trans (Int.mul_le_mul_of_nonneg_right (by omega) h) h2⟩
theorem modB (i : Int) {j : Int} (h : 0 < j) : 0 ≤ i % j ∧ i % j < j := ⟨Int.emod_nonneg _ (by omega), Int.emod_lt_of_pos _ h⟩
theorem TankOk.up {p q r : Int} {n m : Nat} (h : TankOk p q r n) (e : n ≤ m) : TankOk p q r m := ⟨h.1, h.2.1, h.2.2.1, h.2.2.2.1, by have := h.2.2.2.2; omega⟩
theorem mulX {i j : Int} {a b : Nat} (ha : i.natAbs < 2 ^ a) (hb : j.natAbs < 2 ^ b) (h : a + b ≤ 134217728) : CMulX i j := mulx_ok ha hb h
end OS

/-! OSset: sets of tuples of texts, truths, numbers and such tuples. -/
namespace OS
open PySem L2 PySem.Spec PyProof.Rows

/-! ### the key k stands at b -/
def KA (h : Heap) (k : NestedKey) (b : Addr) : Prop := NestedIs h k (.ref b) ∧ k.depth ≤ 8
section
variable {P : Program} {w : World}
/-- no class statement's value is within -/
def NoCls (P : Program) (w : World) (n : Nat) (s : Shared) (v : Value) : Prop := ∀ (A : Around) (E : Value → Shared → Prop) (Q : Bool → Shared → Prop), Q false s → wpAny (model P w) A (ofAClassStatement n v) Q E s
def SomeHash (P : Program) (w : World) (n : Nat) (s : Shared) (v : Value) : Prop := ∀ (A : Around) (E : Value → Shared → Prop) (Q : Bool → Shared → Prop), (∀ b, Q b s) → wpAny (model P w) A (hashByValue n v) Q E s
theorem NoCls.seq {n : Nat} {s : Shared} {a : Addr} {o : Obj} {vs : Array Value} {m : Nat} (ho : s.heap.get? a = some o) (hc : o.cls = .type "tuple") (hd : o.data = .seq vs m) (h : ∀ v ∈ vs.toList, NoCls P w n s v) : NoCls P w (n + 1) s (.ref a) := fun A E Q hq => by
  have hT : s.TypeIs (.ref a) "tuple" := ⟨o, ho, hc⟩
  unfold ofAClassStatement
  refine wpAny_bind (wpAny_typeOf hT ?_)
  have et : (("tuple" : String) == "tuple") = true := by decide
  dsimp only
  simp only [et, if_true]
  try refine wpAny_bind (wpAny_pure ?_)
  simp only [Bool.not_true, Bool.false_eq_true, if_false]
  refine wpAny_bind (wpAny_seqItems ho hd ?_)
  dsimp only
  refine wpAny_bind ?_
  show wpAny (model P w) A (forIn vs _ _) _ E s
  rw [← Array.forIn_toList]
  refine wpAny_forIn_list _ (fun rs r s' => (r.1 = none ∧ s' = s) ∧ ∀ u ∈ rs, NoCls P w n s u) _ (fun v rs r s' ⟨⟨h1, h2⟩, h3⟩ => ?_) (fun r s' ⟨⟨h1, h2⟩, _⟩ => ?_) _ _ ⟨⟨rfl, rfl⟩, h⟩
  · subst h2
    refine wpAny_bind (h3 v (.head _) A E _ ?_)
    rw [if_neg Bool.false_ne_true]
    exact wpAny_pure ⟨⟨rfl, rfl⟩, fun u hu => h3 u (.tail _ hu)⟩
  · obtain ⟨r1, r2⟩ := r
    obtain rfl : r1 = none := h1
    subst h2
    exact wpAny_pure hq
theorem SomeHash.seq {n : Nat} {s : Shared} {a : Addr} {o : Obj} {vs : Array Value} {m : Nat} (ho : s.heap.get? a = some o) (hc : o.cls = .type "tuple") (hd : o.data = .seq vs m) (h : ∀ v ∈ vs.toList, SomeHash P w n s v) : SomeHash P w (n + 1) s (.ref a) := fun A E Q hq => by
  have hT : s.TypeIs (.ref a) "tuple" := ⟨o, ho, hc⟩
  unfold hashByValue
  refine wpAny_bind (wpAny_specialOf hT F.slot_tuple_hash.lookup ?_)
  refine wpAny_bind (wpAny_seqItems ho hd ?_)
  refine wpAny_bind ?_
  show wpAny (model P w) A (forIn vs _ _) _ E s
  rw [← Array.forIn_toList]
  refine wpAny_forIn_list _ (fun rs r s' => s' = s ∧ ∀ u ∈ rs, SomeHash P w n s u) _ (fun v rs r s' ⟨h2, h3⟩ => ?_) (fun r s' ⟨h2, _⟩ => ?_) _ _ ⟨rfl, h⟩
  · subst h2
    refine wpAny_bind (h3 v (.head _) A E _ fun b => ?_)
    cases b with
    | true =>
      simp only [Bool.not_true, Bool.false_eq_true, if_false]
      exact wpAny_pure ⟨rfl, fun u hu => h3 u (.tail _ hu)⟩
    | false =>
      simp only [Bool.not_false, if_true]
      exact wpAny_pure (wpAny_pure (hq _))
  · subst h2
    obtain ⟨r1, r2⟩ := r
    cases r1 with
    | none => exact wpAny_pure (hq _)
    | some b => exact wpAny_pure (hq _)
mutual
theorem noCls_key : ∀ (k : NestedKey) (v : Value) (n : Nat) (s : Shared), NestedIs s.heap k v → k.depth ≤ n → NoCls P w n s v
  | .none, _, n, s, x, _ => by cases x; cases n <;> exact fun A E Q hq => wpAny_pure hq
  | .num i, _, n, s, x, _ => by cases x <;> cases n <;> exact fun A E Q hq => wpAny_pure hq
  | .text y, _, n, s, x, _ => by cases x; cases n <;> exact fun A E Q hq => wpAny_pure hq
  | .tup ks, _, 0, s, x, hn => by simp only [NestedKey.depth] at hn; omega
  | .tup ks, _, n + 1, s, x, hn => by
    cases x with
    | tup hg hc hd hk =>
      simp only [NestedKey.depth] at hn
      exact .seq hg hc hd (noCls_keys ks _ n s hk (by omega))
theorem noCls_keys : ∀ (ks : List NestedKey) (vs : List Value) (n : Nat) (s : Shared), NestedAll s.heap ks vs → NestedKey.depthAll ks ≤ n → ∀ v ∈ vs, NoCls P w n s v
  | [], _, n, s, x, _, v, hv => by cases x; cases hv
  | k :: ks, _, n, s, x, hn, v, hv => by
    simp only [NestedKey.depthAll] at hn
    cases x with
    | cons x1 x2 =>
      cases hv with
      | head => exact noCls_key k _ n s x1 (by omega)
      | tail _ hv => exact noCls_keys ks _ n s x2 (by omega) v hv
end
mutual
theorem someHash_key : ∀ (k : NestedKey) (v : Value) (n : Nat) (s : Shared), NestedIs s.heap k v → k.depth ≤ n → SomeHash P w n s v
  | .none, _, n, s, x, _ => by cases x; cases n <;> exact fun A E Q hq => wpAny_pure (hq _)
  | .num i, _, n, s, x, _ => by cases x <;> cases n <;> exact fun A E Q hq => wpAny_pure (hq _)
  | .text y, _, n, s, x, _ => by cases x; cases n <;> exact fun A E Q hq => wpAny_pure (hq _)
  | .tup ks, _, 0, s, x, hn => by simp only [NestedKey.depth] at hn; omega
  | .tup ks, _, n + 1, s, x, hn => by
    cases x with
    | tup hg hc hd hk =>
      simp only [NestedKey.depth] at hn
      exact .seq hg hc hd (someHash_keys ks _ n s hk (by omega))
theorem someHash_keys : ∀ (ks : List NestedKey) (vs : List Value) (n : Nat) (s : Shared), NestedAll s.heap ks vs → NestedKey.depthAll ks ≤ n → ∀ v ∈ vs, SomeHash P w n s v
  | [], _, n, s, x, _, v, hv => by cases x; cases hv
  | k :: ks, _, n, s, x, hn, v, hv => by
    simp only [NestedKey.depthAll] at hn
    cases x with
    | cons x1 x2 =>
      cases hv with
      | head => exact someHash_key k _ n s x1 (by omega)
      | tail _ hv => exact someHash_keys ks _ n s x2 (by omega) v hv
end
variable {A : Around} {E : Value → Shared → Prop} {s : Shared}
theorem ka_hash {k : NestedKey} {b : Addr} {Q : Int → Shared → Prop} (h : KA s.heap k b) (hu : A.units + 8 < cLine) (q : Q (k.hash w) { s with toks := s.toks + k.draws }) : wpAny (model P w) A (pyHash (.ref b)) Q E s := pyHash_key k _ A s Q h.1 (by have := h.2; omega) q
theorem ka_eq {k k' : NestedKey} {b c : Addr} {Q : Bool → Shared → Prop} (h : KA s.heap k b) (h' : KA s.heap k' c) (hu : A.units + 8 < cLine) (q : Q (decide (k = k')) s) : wpAny (model P w) A (eqBool (.ref b) (.ref c)) Q E s := by
  refine eqAt_key k k' A s _ _ h.1 h'.1 (by have := h.2; omega) P w E Q ?_
  rw [← NestedKey.decide_eq]
  exact q
/-- a search among such keys shows nothing -/
theorem ka_seen {k : NestedKey} {b : Addr} {Q : Bool → Shared → Prop} (h : KA s.heap k b) {ys : List Value} (hy : ∀ y ∈ ys, ∃ k' c, y = Value.ref c ∧ KA s.heap k' c) (q : Q false s) : wpAny (model P w) A (searchCouldBeSeen (.ref b) ys) Q E s := by
  unfold searchCouldBeSeen
  refine wpAny_bind (wpAny_forIn_list _ (fun rs r s' => (r.1 = none ∧ s' = s) ∧ ∀ y ∈ rs, ∃ k' c, y = Value.ref c ∧ KA s.heap k' c) _ (fun v rs r s' ⟨⟨h1, h2⟩, h3⟩ => ?_) (fun r s' ⟨⟨h1, h2⟩, _⟩ => ?_) _ _ ⟨⟨rfl, rfl⟩, hy⟩)
  · subst h2
    obtain ⟨k', c, rfl, hc⟩ := h3 v (.head _)
    have nx : ∀ y ∈ rs, ∃ k' c, y = Value.ref c ∧ KA s'.heap k' c := fun u hu => h3 u (.tail _ hu)
    dsimp only
    by_cases hv : (b == c || (carriedByValue (.ref b) && carriedByValue (.ref c))) = true
    · exact wp_if_pos hv (wpAny_pure ⟨⟨rfl, rfl⟩, nx⟩)
    · refine wp_if_neg hv (wpAny_bind (quiet_key (prog := P) (w := w) k _ 8 s' h.1 h.2 A E _ ?_))
      simp only [Bool.not_true, Bool.false_eq_true, if_false]
      refine wpAny_bind (quiet_key (prog := P) (w := w) k' _ 8 s' hc.1 hc.2 A E _ ?_)
      simp only [Bool.not_true, Bool.false_eq_true, if_false]
      refine wpAny_bind (noCls_key k _ 8 s' h.1 h.2 A E _ ?_)
      rw [if_neg Bool.false_ne_true]
      refine wpAny_bind (noCls_key k' _ 8 s' hc.1 hc.2 A E _ ?_)
      rw [if_neg Bool.false_ne_true]
      exact wpAny_pure ⟨⟨rfl, rfl⟩, nx⟩
  · obtain ⟨r1, r2⟩ := r
    obtain rfl : r1 = none := h1
    subst h2
    exact wpAny_pure q
theorem ka_keep {h h' : Heap} {k : NestedKey} {b : Addr} (x : KA h k b) (hk : ∀ c o vs n, h.get? c = some o → o.data = .seq vs n → h'.get? c = some o) : KA h' k b := ⟨NestedIs.at hk k _ x.1, x.2⟩

/-! ### the set of such keys -/
abbrev KL := List (Addr × NestedKey)
def kHs (w : World) (L : KL) : List Int := L.map fun p => p.2.hash w
structure KS (w : World) (h : Heap) (a : Addr) (L : KL) (es : Array (Int × Value)) (ep : Nat) (t : SetTable) : Prop where
  ob : ∃ o, h.get? a = some o ∧ o.ExactSet ∧ o.data = .set es ep t
  rows : es.toList = L.map fun p => (p.2.hash w, Value.ref p.1)
  tab : TabOk t (kHs w L)
  nd : (L.map (·.2)).Nodup
  key : ∀ p ∈ L, KA h p.2 p.1
  led : w.params.followText "set-order" = true ∨ t.led = true
  room : L.length * 5 < t.mask * 3
  few : L.length < 64
variable {a : Addr} {L : KL} {es : Array (Int × Value)} {ep : Nat} {t : SetTable}
theorem kHs_len : (kHs w L).length = L.length := List.length_map ..
theorem rows_size (h : es.toList = L.map fun p => (p.2.hash w, Value.ref p.1)) : es.size = L.length := by
  rw [← Array.length_toList, h, List.length_map]
theorem KS.place (R : KS w s.heap a L es ep t) : t.place.size = L.length := R.tab.sz.trans kHs_len
theorem KS.fits (R : KS w s.heap a L es ep t) : t.fits es.size = true := by
  have e1 := R.place
  have e2 := rows_size R.rows
  have e3 := R.room
  simp only [SetTable.fits, SetTable.fill, R.tab.dm, Bool.and_eq_true, beq_iff_eq, decide_eq_true_eq]
  exact ⟨by omega, by show t.place.size + 0 ≤ t.mask; omega⟩
theorem KS.entry (R : KS w s.heap a L es ep t) {i : Nat} {p : Addr × NestedKey} (h : L[i]? = some p) : es[i]? = some (p.2.hash w, Value.ref p.1) := by
  rw [← Array.getElem?_toList, R.rows, List.getElem?_map, h]
  rfl
theorem KS.hashAt (R : KS w s.heap a L es ep t) {i : Nat} {p : Addr × NestedKey} (h : L[i]? = some p) : (es[i]?.map (·.1)).getD 0 = p.2.hash w := by rw [R.entry h]; rfl
theorem nth_dummy (m : Nat) : ∀ (n : Nat) (p : SetTable.Probe), p.dummy = none → (nth m p n).dummy = none
  | 0, _, h => h
  | n + 1, p, h => nth_dummy m n (adv m p) (by unfold adv; split <;> exact h)
/-- where the search stands behind c steps -/
abbrev stp (w : World) (t : SetTable) (k : NestedKey) (c : Nat) : SetTable.Probe := nth t.mask (runAt t.mask (SetTable.bits (k.hash w) % (t.mask + 1)) (SetTable.bits (k.hash w))) c
abbrev kway (w : World) (t : SetTable) (k : NestedKey) (c : Nat) : Nat := way t.mask (k.hash w) c
theorem ks_search (R : KS w s.heap a L es ep t) {x : Addr} {k : NestedKey} (hx : KA s.heap k x) (hu : A.units + 8 < cLine) {K : Nat} (hKf : K < 10 * SetTable.turns t.mask) (hK : kway w t k K ∉ t.place.toList) (hKb : ∀ c, c < K → kway w t k c ∈ t.place.toList)
    {Q : SetFound → Shared → Prop} (hin : k ∈ L.map (·.2) → Q (.there none) s) (hout : k ∉ L.map (·.2) → Q (.free (kway w t k K) false) s) :
    ∀ (f c : Nat) (st : Option SetTable.Probe), st.getD (t.probeStart (k.hash w)) = stp w t k c → c ≤ K → K - c < f → (∀ (i : Nat) p, L[i]? = some p → p.2 = k → ∃ d, c ≤ d ∧ d < K ∧ t.place.toList[i]? = some (kway w t k d)) →
      wpAny (model P w) A (setSearchFrom a (.ref x) (k.hash w) true f st) Q E s := by
  obtain ⟨o, ho, hex, hd⟩ := R.ob
  have notWay : ¬ t.gaveWay = true := by
    unfold SetTable.gaveWay
    rw [mask_odd R.tab.mok]
    decide
  have same : t.sameMemory t.moves t.mask = some true := by simp [SetTable.sameMemory]
  intro f
  induction f with
  | zero => exact fun c st _ _ h _ => absurd h (Nat.not_lt_zero _)
  | succ f ih =>
    intro c st hst hc hf hre
    -- the steps counted from the start
    have j_at : ∀ q, (nth t.mask (stp w t k c) q).j = kway w t k (c + q) := fun q => congrArg SetTable.Probe.j (nth_add t.mask c _ q).symm
    have p_at : ∀ q, nth t.mask (stp w t k c) q = stp w t k (c + q) := fun q => (nth_add t.mask c _ q).symm
    -- a row of this key is not passed silently
    have passed : ∀ q, (∀ (m i : Nat), m < q → t.place.toList[i]? = some (nth t.mask (stp w t k c) m).j → (es[i]?.map (·.1)).getD 0 ≠ k.hash w) → ∀ (i : Nat) p, L[i]? = some p → p.2 = k → ∀ d, c ≤ d → t.place.toList[i]? = some (kway w t k d) → c + q ≤ d := by
      intro q hq i p hp hpk d hcd hpl
      refine Nat.le_of_not_lt fun z => hq (d - c) i (by omega) (by rw [j_at, show c + (d - c) = d by omega]; exact hpl) ?_
      rw [R.hashAt hp, hpk]
    rw [setSearchFrom_succ]
    refine wpAny_bind (wpAny_setState_of ho hd R.fits ?_)
    dsimp only
    refine wp_if_neg notWay ?_
    rcases go_spec t R.tab.ris R.tab.dm (fun i => (es[i]?.map (·.1)).getD 0) (k.hash w) (10 * SetTable.turns t.mask) (K - c) (stp w t k c) (nth_dummy t.mask c _ rfl) (by omega)
      (fun q hq => by rw [j_at]; exact hKb _ (by omega)) (by rw [j_at, show c + (K - c) = K by omega]; exact hK) with ⟨q, i, hq, hi, hh, hno, hpr⟩ | ⟨hno, hpr⟩
    · -- a row of equal hash
      rw [j_at, p_at] at hpr
      rw [j_at] at hi
      have found : t.probe (fun i => (es[i]?.map (·.1)).getD 0) (k.hash w) (st.getD (t.probeStart (k.hash w))) = some (.candidate (kway w t k (c + q)) i (stp w t k (c + (q + 1)))) := by rw [hst]; exact hpr
      rw [found]
      dsimp only
      have il : i < L.length := by
        have := (List.getElem?_eq_some_iff.mp hi).1
        rw [Array.length_toList, R.place] at this
        exact this
      obtain ⟨p, hp⟩ : ∃ p, L[i]? = some p := ⟨_, List.getElem?_eq_getElem il⟩
      have pm : p ∈ L := List.mem_of_getElem? hp
      have live : t.slot (kway w t k (c + q)) = .live i := slot_live R.tab.ris hi
      have more : wpAny (model P w) A (searchRest a (.ref x) (k.hash w) true f es t (kway w t k (c + q)) i (stp w t k (c + (q + 1)))) Q E s := by
        unfold searchRest
        rw [R.entry hp]
        refine wpAny_bind (wpAny_holding (ka_eq (R.key p pm) hx hu (wpAny_bind (wpAny_setState_of ho hd R.fits ?_))))
        dsimp only
        by_cases e : p.2 = k
        · exact wp_if_pos (by rw [decide_eq_true e]; rfl) (wpAny_pure (hin (e ▸ List.mem_map_of_mem pm)))
        · refine wp_if_neg (by rw [decide_eq_false e]; decide) ?_
          rw [same]
          dsimp only
          simp only [if_true, live, R.entry hp]
          refine wpAny_bind (wpAny_isSame_ref_self (wpAny_bind (wpAny_pure ?_)))
          simp only [if_true]
          refine wp_if_neg (by rw [decide_eq_false e]; decide) (ih (c + (q + 1)) _ rfl (by omega) (by omega) fun i' p' h1 h2 => ?_)
          obtain ⟨d, d1, d2, d3⟩ := hre i' p' h1 h2
          have d4 := passed q hno i' p' h1 h2 d d1 d3
          refine ⟨d, Nat.lt_of_le_of_ne d4 fun z => ?_, d2, d3⟩
          have z' : c + q = d := z
          subst z'
          have l2 := slot_live R.tab.ris d3
          rw [live] at l2
          injection l2 with l2
          rw [← l2, hp] at h1
          cases h1
          exact e h2
      by_cases hl : t.led = true
      · exact wp_if_neg (by rw [hl]; decide) more
      · refine wp_if_pos (by rw [Bool.eq_false_iff.mpr hl]; rfl) (wpAny_bind (ka_seen hx (fun y hy => ?_) (wp_if_neg Bool.false_ne_true more)))
        obtain ⟨r, hr, rfl⟩ := List.mem_map.mp hy
        have hr2 : r ∈ es.toList := by simpa using (by simpa using hr : r ∈ es ∧ r.1 = k.hash w).1
        rw [R.rows] at hr2
        obtain ⟨p', hp', rfl⟩ := List.mem_map.mp hr2
        exact ⟨p'.2, p'.1, rfl, R.key p' hp'⟩
    · rw [j_at, show c + (K - c) = K by omega] at hpr
      have found : t.probe (fun i => (es[i]?.map (·.1)).getD 0) (k.hash w) (st.getD (t.probeStart (k.hash w))) = some (.empty (kway w t k K) none) := by rw [hst]; exact hpr
      rw [found]
      refine wpAny_pure (hout fun hm => ?_)
      obtain ⟨p, hp, e⟩ := List.mem_map.mp hm
      obtain ⟨i, hi, rfl⟩ := List.getElem_of_mem hp
      obtain ⟨d, d1, d2, d3⟩ := hre i _ (List.getElem?_eq_getElem hi) e
      have := passed (K - c) hno i _ (List.getElem?_eq_getElem hi) e d d1 d3
      omega
/-- the search, as adding asks for it -/
theorem ks_find (R : KS w s.heap a L es ep t) {x : Addr} {k : NestedKey} (hx : KA s.heap k x) (hu : A.units + 8 < cLine) {Q : SetFound → Shared → Prop} (hin : k ∈ L.map (·.2) → Q (.there none) s)
    (hout : ∀ K, k ∉ L.map (·.2) → kway w t k K ∉ t.place.toList → (∀ c, c < K → kway w t k c ∈ t.place.toList) → Q (.free (kway w t k K) false) s) : wpAny (model P w) A (setSearch a (.ref x) (k.hash w) true) Q E s := by
  have room := R.room
  obtain ⟨K, k1, k2, k3⟩ := R.tab.first (by rw [kHs_len]; omega) (k.hash w)
  have small : 10 * SetTable.turns t.mask ≤ 1420 := by
    unfold SetTable.turns
    rcases R.tab.mok with e | e | e <;> omega
  unfold setSearch
  refine ks_search R hx hu k1 k2 k3 hin (fun n => hout K n k2 k3) 100000 0 none rfl (Nat.zero_le _) (by omega) fun i p hp hpk => ?_
  have il : i < t.place.toList.length := by
    rw [Array.length_toList, R.place]
    exact (List.getElem?_eq_some_iff.mp hp).1
  have pl := List.getElem?_eq_getElem il
  obtain ⟨c, c1, c2⟩ := R.tab.before (h := k.hash w) k2 (i := i) (by rw [kHs, List.getElem?_map, hp, ← hpk]; rfl) pl
  exact ⟨c, Nat.zero_le _, c1, by rw [pl, ← c2]⟩
/-- a key is none of the set -/
theorem ka_but {h h' : Heap} {k : NestedKey} {b : Addr} {o : Obj} (x : KA h k b) (ho : h.get? a = some o) (hd : o.data = .set es ep t) (sb : Heap.SameBut a h h') : KA h' k b :=
  ka_keep x fun c u vs n hc hs => by
    refine (sb.2 c fun z => ?_).trans hc
    subst z
    rw [ho] at hc
    cases hc
    rw [hd] at hs
    cases hs
/-- the rows in the order of places -/
theorem rows_order (order : List Nat) (hp : order.Perm (List.range L.length)) (hr : es.toList = L.map fun p => (p.2.hash w, Value.ref p.1)) :
    ∃ L2 : KL, order.filterMap (fun i => es[i]?) = L2.map (fun p => (p.2.hash w, Value.ref p.1)) ∧ L2.Perm L ∧ kHs w L2 = order.map fun i => (es.map (·.1)).getD i 0 := by
  have all : ∀ i ∈ order, i < L.length := fun i hi => List.mem_range.mp (hp.mem_iff.mp hi)
  have ent : ∀ {i : Nat} {p : Addr × NestedKey}, L[i]? = some p → es[i]? = some (p.2.hash w, Value.ref p.1) := fun {i p} e => by
    rw [← Array.getElem?_toList, hr, List.getElem?_map, e]; rfl
  have tot : (List.range L.length).filterMap (fun i => L[i]?) = L := by
    have go : ∀ n, n ≤ L.length → (List.range n).filterMap (fun i => L[i]?) = L.take n := fun n => by
      induction n with
      | zero => exact fun _ => rfl
      | succ n ih =>
        intro hn
        obtain ⟨x, hx⟩ : ∃ x, L[n]? = some x := ⟨_, List.getElem?_eq_getElem hn⟩
        rw [List.range_succ, List.filterMap_append, ih (Nat.le_of_succ_le hn), take_next hx]
        simp [hx]
    rw [go _ (Nat.le_refl _), List.take_length]
  refine ⟨order.filterMap fun i => L[i]?, ?_, (hp.filterMap _).trans (by rw [tot]), ?_⟩
  · clear hp
    induction order with
    | nil => rfl
    | cons i r ih =>
      obtain ⟨p, hp⟩ : ∃ p, L[i]? = some p := ⟨_, List.getElem?_eq_getElem (all i (.head _))⟩
      rw [List.filterMap_cons_some (ent hp), List.filterMap_cons_some hp, List.map_cons, ih fun j hj => all j (.tail _ hj)]
  · clear hp
    unfold kHs
    induction order with
    | nil => rfl
    | cons i r ih =>
      obtain ⟨p, hp⟩ : ∃ p, L[i]? = some p := ⟨_, List.getElem?_eq_getElem (all i (.head _))⟩
      rw [List.filterMap_cons_some hp, List.map_cons, List.map_cons, ih fun j hj => all j (.tail _ hj)]
      have e : (es.map (·.1))[i]? = some (p.2.hash w) := by rw [Array.getElem?_map, ent hp]; rfl
      rw [Array.getD_eq_getD_getElem?, e]
      rfl
/-- the table grows -/
theorem ks_relay {o : Obj} (ho : s.heap.get? a = some o) (hex : o.ExactSet) (hd : o.data = .set es ep t) (hr : es.toList = L.map fun p => (p.2.hash w, Value.ref p.1)) (hpl : t.place.size = L.length) (hdm : t.dummies = #[]) (hfl : L.length ≤ t.mask) (nd : (L.map (·.2)).Nodup)
    (key : ∀ p ∈ L, KA s.heap p.2 p.1) (led : w.params.followText "set-order" = true ∨ t.led = true) (few : L.length < 64) {wanted M : Nat} (hw : SetTable.sizeAbove wanted = M + 1) (hM : MaskOk M) (hn : L.length * 5 < M * 3) {Q : Unit → Shared → Prop}
    (hQ : ∀ h' L' es' ep' t', Heap.SameBut a s.heap h' → KS w h' a L' es' ep' t' → L'.Perm L → Q () { s with heap := h' }) : wpAny (model P w) A (setRelay a wanted) Q E s := by
  have sz := rows_size hr
  have mb : M + 1 ≤ 128 := by rcases hM with e | e | e <;> omega
  obtain ⟨t', order, e, hp, T, em, el, _, _⟩ := relaid_ok t (hs := es.map (·.1)) (wanted := wanted) (by omega) hM (by rw [Array.size_map, sz]; omega)
  rw [Array.size_map, sz] at hp
  obtain ⟨L2, r1, r2, r3⟩ := rows_order order.toList hp hr
  rw [← r3] at T
  have ft : t.fits es.size = true := by
    simp only [SetTable.fits, SetTable.fill, hdm, Bool.and_eq_true, beq_iff_eq, decide_eq_true_eq]
    exact ⟨by omega, by show t.place.size + 0 ≤ t.mask; omega⟩
  have r4 : (order.filterMap (es[·]?)).toList = L2.map fun p => (p.2.hash w, Value.ref p.1) := by rw [Array.toList_filterMap]; exact r1
  have z2 : (order.filterMap (es[·]?)).size = es.size := by rw [rows_size r4, r2.length_eq, sz]
  rw [setRelay_eq]
  refine wpAny_bind (wpAny_setState_of ho hd ft ?_)
  dsimp only
  refine wp_if_neg (by rw [hw, sizeLine_eq]; omega) ?_
  rw [e]
  refine wpAny_bind (wp_if_neg (by rw [z2]; simp) (wpAny_pure ?_))
  refine wpAny_storeSet_of ho hd ?_ (by rw [z2, sz, sizeLine_eq]; omega)
  have sb : Heap.SameBut a s.heap (s.heap.update a (Obj.putSet (order.filterMap (es[·]?)) t')) := Heap.SameBut.update ..
  exact hQ _ L2 _ (ep + 1) t' sb ⟨⟨_, store_at ho hd, ⟨hex.1, hex.2.1, hex.2.2⟩, rfl⟩, r4, T, (r2.map _).nodup_iff.mpr nd, fun p hp => ka_but (key p (r2.mem_iff.mp hp)) ho hd sb, by rw [el]; exact led, by rw [r2.length_eq, em]; exact hn, by rw [r2.length_eq]; exact few⟩ r2
/-- one key more -/
theorem ks_add (R : KS w s.heap a L es ep t) {x : Addr} {k : NestedKey} (hx : KA s.heap k x) (hu : A.units + 8 < cLine) (few : L.length + 1 < 64) {Q : Bool → Shared → Prop}
    (hQ : ∀ b h' L' es' ep' t', Heap.SameBut a s.heap h' → KS w h' a L' es' ep' t' → (L' = L ∧ k ∈ L.map (·.2) ∨ L'.Perm ((x, k) :: L)) → Q b { s with heap := h' }) : wpAny (model P w) A (setAddHashed a (.ref x) (k.hash w)) Q E s := by
  obtain ⟨o, ho, hex, hd⟩ := R.ob
  have room := R.room
  have sz := rows_size R.rows
  unfold setAddHashed
  rw [show (100000 : Nat) = 99999 + 1 from rfl, setAddHashedIn_succ]
  refine wpAny_holding (wpAny_bind (wpAny_setState_of ho hd R.fits ?_))
  dsimp only
  refine wp_if_neg (by simp [byScan, Value.scannable]) (wpAny_bind (ks_find R hx hu (fun hm => ?_) fun K hm hK hb => ?_))
  · exact wpAny_pure (hQ false s.heap L es ep t (Heap.SameBut.refl a s.heap) R (.inl ⟨rfl, hm⟩))
  · dsimp only
    refine wpAny_bind (wpAny_setState_of ho hd R.fits ?_)
    dsimp only
    obtain ⟨e2, _, T1, em, el, _, _, _, ef⟩ := R.tab.put (h := k.hash w) hK hb
    rw [kHs_len] at ef
    generalize hpt : t.put (kway w t k K) = pt at e2 T1 em el ef ⊢
    obtain ⟨t1, pl⟩ := pt
    dsimp only at e2 T1 em el ef ⊢
    rw [← e2] at T1
    -- the row in its place
    have pm := put_perm L pl (x, k)
    have hr1 : (SetTable.insertAt es pl (k.hash w, Value.ref x)).toList = (L.take pl ++ (x, k) :: L.drop pl).map fun p => (p.2.hash w, Value.ref p.1) := by
      rw [SetTable.toList_insertAt, R.rows, List.map_append, List.map_cons, List.map_take, List.map_drop]
    have T2 : TabOk t1 (kHs w (L.take pl ++ (x, k) :: L.drop pl)) := by
      have e : kHs w (L.take pl ++ (x, k) :: L.drop pl) = (kHs w L).take pl ++ k.hash w :: (kHs w L).drop pl := by
        unfold kHs
        rw [List.map_append, List.map_cons, List.map_take, List.map_drop]
      rw [e]; exact T1
    have nd1 : ((L.take pl ++ (x, k) :: L.drop pl).map (·.2)).Nodup := (pm.map _).nodup_iff.mpr (List.nodup_cons.mpr ⟨hm, R.nd⟩)
    have len1 : (L.take pl ++ (x, k) :: L.drop pl).length = L.length + 1 := pm.length_eq
    have sz1 := rows_size hr1
    generalize SetTable.insertAt es pl (k.hash w, Value.ref x) = es1 at hr1 sz1 ⊢
    generalize L.take pl ++ (x, k) :: L.drop pl = L1 at pm hr1 T2 nd1 len1 sz1
    -- whichever way the values' hashes go
    have rest : ∀ t2 : SetTable, TabOk t2 (kHs w L1) → t2.mask = t.mask → t2.led = t.led → t2.fill = L.length + 1 →
        wpAny (model P w) A (storeSet a es1 t2 >>= fun _ => (if (!false && t2.tooFull) = true then setRelay a (SetTable.grown (es.size + 1)) >>= fun _ => pure true else pure true)) Q E s := by
      intro t2 T em el ef
      refine wpAny_bind (wpAny_storeSet_of ho hd ?_ (by rw [sz1, len1, sizeLine_eq]; omega))
      have sb : Heap.SameBut a s.heap (s.heap.update a (Obj.putSet es1 t2)) := Heap.SameBut.update ..
      have ho1 := store_at (es' := es1) (t' := t2) ho hd
      generalize s.heap.update a (Obj.putSet es1 t2) = h1 at sb ho1 ⊢
      have key1 : ∀ p ∈ L1, KA h1 p.2 p.1 := fun p hp => by
        rcases List.mem_cons.mp (pm.mem_iff.mp hp) with e | hp
        · rw [e]; exact ka_but hx ho hd sb
        · exact ka_but (R.key p hp) ho hd sb
      have led1 : w.params.followText "set-order" = true ∨ t2.led = true := by rw [el]; exact R.led
      by_cases full : (L.length + 1) * 5 ≥ t2.mask * 3
      · refine wp_if_pos (by simp only [SetTable.tooFull, ef, decide_eq_true full]; rfl) (wpAny_bind ?_)
        have pl2 : t2.place.size = L1.length := T.sz.trans kHs_len
        have grow : ∀ M, SetTable.sizeAbove (SetTable.grown (es.size + 1)) = M + 1 → MaskOk M → L1.length * 5 < M * 3 → L1.length ≤ t2.mask →
            wpAny (model P w) A (setRelay a (SetTable.grown (es.size + 1))) (fun _ s' => wpAny (model P w) A (pure true) Q E s') E { s with heap := h1 } := fun M g1 g2 g3 g4 =>
          ks_relay (s := { s with heap := h1 }) ho1 ⟨hex.1, hex.2.1, hex.2.2⟩ rfl hr1 pl2 T.dm g4 nd1 key1 led1 (by omega) g1 g2 g3 fun h2 L2 es2 ep2 t3 sb2 R2 pm2 => wpAny_pure (hQ true h2 L2 es2 ep2 t3 (sb.trans sb2) R2 (.inr (pm2.trans pm)))
        rcases R.tab.mok with e | e | e
        · have : es.size = 4 := by omega
          rw [this] at grow ⊢
          exact grow 31 size_20 (.inr (.inl rfl)) (by omega) (by omega)
        · have : es.size = 18 := by omega
          rw [this] at grow ⊢
          exact grow 127 size_76 (.inr (.inr rfl)) (by omega) (by omega)
        · omega
      · refine wp_if_neg (by simp only [SetTable.tooFull, ef, decide_eq_false full]; decide) (wpAny_pure (hQ true h1 L1 es1 (ep + 1) t2 sb ⟨⟨_, ho1, ⟨hex.1, hex.2.1, hex.2.2⟩, rfl⟩, hr1, T, nd1, key1, led1, by omega, by omega⟩ (.inr pm)))
    by_cases hp : t1.plain = true
    · first
        | refine wpAny_bind (wp_if_pos hp (someHash_key (P := P) k _ 8 s hx.1 hx.2 A E _ fun b => ?_))
        | refine wp_if_pos hp (wpAny_bind (someHash_key (P := P) k _ 8 s hx.1 hx.2 A E _ fun b => ?_))
      cases b with
      | true => exact rest t1 T2 em el ef
      | false => exact rest { t1 with plain := false } ⟨T2.ris, T2.dm, T2.sz, T2.mok, T2.bd, T2.reach⟩ em el ef
    · first
        | refine wpAny_bind (wp_if_neg hp (wpAny_pure ?_))
        | refine wp_if_neg hp (wpAny_bind (wpAny_pure ?_))
      exact rest t1 T2 em el ef
/-! ### set(list) -/
/-- the first i items are in -/
def KIn (ks : KL) (i : Nat) (L : KL) : Prop := (∀ p ∈ L, p ∈ ks.take i) ∧ (∀ p ∈ ks.take i, p.2 ∈ L.map (·.2)) ∧ L.length ≤ i
theorem KIn.next {ks L L' : KL} {i : Nat} {x : Addr × NestedKey} (g : KIn ks i L) (h : ks[i]? = some x) (d : (L' = L ∧ x.2 ∈ L.map (·.2)) ∨ L'.Perm (x :: L)) : KIn ks (i + 1) L' := by
  obtain ⟨g1, g2, g3⟩ := g
  unfold KIn
  rw [take_next h]
  rcases d with ⟨rfl, m⟩ | pm
  · refine ⟨fun p hp => List.mem_append_left _ (g1 p hp), fun p hp => ?_, by omega⟩
    rcases List.mem_append.mp hp with z | z
    · exact g2 p z
    · rw [List.mem_singleton.mp z]; exact m
  · have pm2 := pm.map (·.2)
    refine ⟨fun p hp => ?_, fun p hp => pm2.mem_iff.mpr ?_, by rw [pm.length_eq, List.length_cons]; omega⟩
    · rcases List.mem_cons.mp (pm.mem_iff.mp hp) with rfl | z
      · exact List.mem_append_right _ (.head _)
      · exact List.mem_append_left _ (g1 p z)
    · rcases List.mem_append.mp hp with z | z
      · exact .tail _ (g2 p z)
      · rw [List.mem_singleton.mp z]; exact .head _
theorem KS.move {h h' : Heap} (R : KS w h a L es ep t) (ha : ∀ o, h.get? a = some o → h'.get? a = some o) (hk : ∀ p ∈ L, KA h' p.2 p.1) : KS w h' a L es ep t := by
  obtain ⟨⟨o, ho, r⟩, r1, r2, r3, _, r5, r6, r7⟩ := R
  exact ⟨⟨o, ha o ho, r⟩, r1, r2, r3, hk, r5, r6, r7⟩
theorem ka_ext {h h' : Heap} {k : NestedKey} {b : Addr} (x : KA h k b) (hk : ∀ c o, h.get? c = some o → h'.get? c = some o) : KA h' k b := ka_keep x fun c o _ _ e _ => hk c o e
theorem ks_none {h : Heap} {S : Addr} (ho : h.get? S = some { cls := .type "set", dict := none, data := .set #[] 0 (.fresh 0 0 (!w.params.followText "set-order")) }) : KS w h S [] #[] 0 (.fresh 0 0 (!w.params.followText "set-order")) := by
  refine ⟨⟨_, ho, ⟨rfl, rfl, rfl⟩, rfl⟩, rfl, ⟨List.Pairwise.nil, rfl, rfl, .inl rfl, fun x hx => (by cases hx), fun i h j hi => (by cases hi)⟩, List.nodup_nil, fun p hp => (by cases hp), ?_, (by show 0 * 5 < 7 * 3; decide), (by show 0 < 64; decide)⟩
  show _ ∨ (!w.params.followText "set-order") = true
  cases w.params.followText "set-order" <;> simp
/-- the loop that fills a new set -/
theorem ks_fill {I S : Addr} {fp wr : List Addr} {G : Array GenState → Array GenState → Prop} {n : Nat} {Pv : Nat → Value → Prop} {St : Nat → Shared → Prop} {R : Result → Shared → Prop} (W : WalksS P w A.in1 I fp wr G n Pv St) (hSf : S ∉ fp) (ks : KL) (hn : n = ks.length)
    (few : ks.length < 64) (hv : ∀ i v, Pv i v → ∃ p, ks[i]? = some p ∧ v = .ref p.1) (h0 : Heap) (hk : ∀ p ∈ ks, KA h0 p.2 p.1) (hS0 : h0.get? S = none) (hw0 : ∀ b ∈ wr, h0.get? b = none) (hu : A.in1.units + 8 < cLine) (k : Nat) :
    ∀ (i : Nat) (s : Shared), n - i = k → i ≤ n → St i s → (∀ b o, h0.get? b = some o → s.heap.get? b = some o) → (∃ L es ep t, KS w s.heap S L es ep t ∧ KIn ks i L) →
      (∀ s' L es ep t, Moved (S :: wr) G s s' → KS w s'.heap S L es ep t → KIn ks n L → (∀ b o, h0.get? b = some o → s'.heap.get? b = some o) → R (.ok (.ret .none)) s') →
      codeAny (model P w) A (.builtin "set.update.loop" ⟨[.ref S, .ref I], []⟩) R s := by
  have outS : S ∉ wr := fun z => hSf (W.sub _ z)
  have up : ∀ b ∈ wr, b ∈ S :: wr := fun _ z => .tail _ z
  have kept : ∀ {s s' : Shared}, Moved wr G s s' → (∀ b o, h0.get? b = some o → s.heap.get? b = some o) → ∀ b o, h0.get? b = some o → s'.heap.get? b = some o := fun m q b o e =>
    m.heap b o (fun z => by rw [hw0 b z] at e; cases e) (q b o e)
  have moved : ∀ {s s' : Shared} {i : Nat} {L es ep t}, Moved wr G s s' → (∀ b o, h0.get? b = some o → s'.heap.get? b = some o) → KIn ks i L → KS w s.heap S L es ep t → KS w s'.heap S L es ep t := fun m q g R =>
    R.move (fun o e => m.heap S o outS e) fun p hp => ka_ext (hk p (List.mem_of_mem_take (g.1 p hp))) q
  induction k with
  | zero =>
    intro i s hi1 hi2 hst hkp ⟨L, es, ep, t, hS, g⟩ hR
    obtain rfl : i = n := by omega
    refine codeAny_builtin F.entry_set_update_loop ?_
    rw [Around.under_plainId F.plain_set_update_loop _]
    show wpAny _ A.in1 (pyNext (.ref I) >>= _) _ _ s
    refine wpAny_bind (W.done s _ _ hst fun s' hm => ?_)
    have hkp' := kept hm hkp
    show wpAny _ A.in1 (ret Value.none) _ _ s'
    exact wpAny_pure (hR s' L es ep t (hm.mono up) (moved hm hkp' g hS) g hkp')
  | succ k ih =>
    intro i s hi1 hi2 hst hkp ⟨L, es, ep, t, hS, g⟩ hR
    refine codeAny_builtin F.entry_set_update_loop ?_
    rw [Around.under_plainId F.plain_set_update_loop _]
    show wpAny _ A.in1 (pyNext (.ref I) >>= _) _ _ s
    refine wpAny_bind (W.item i s _ _ (by omega) hst fun v s' hP hst' hm => ?_)
    obtain ⟨p, hp, rfl⟩ := hv i v hP
    have hkp' := kept hm hkp
    have hx : KA s'.heap p.2 p.1 := ka_ext (hk p (List.mem_of_getElem? hp)) hkp'
    show wpAny _ A.in1 (holding [Value.ref p.1] (setAdd S (.ref p.1)) >>= _) _ _ s'
    refine wpAny_bind (wpAny_holding ?_)
    unfold setAdd
    refine wpAny_holding (wpAny_bind (ka_hash hx hu ?_))
    refine ks_add (s := { s' with toks := s'.toks + p.2.draws }) (show KS w s'.heap S L es ep t from moved hm hkp' g hS) hx hu (by have := g.2.2; omega) fun b h' L' es' ep' t' sb R2 d => ?_
    have later : ∀ b o, h0.get? b = some o → h'.get? b = some o := fun b o e => (sb.2 b fun z => by rw [z, hS0] at e; cases e).trans (hkp' b o e)
    refine wpAny_pure ⟨plainId_quiet F.plain_set_update_loop _, ih (i + 1) _ (by omega) (by omega) ?_ later ⟨L', es', ep', t', R2, g.next hp d⟩ fun s2 L2 es2 ep2 t2 m2 R3 g3 k3 => ?_⟩
    · exact W.frame _ s' _ _ hst' (Nat.le_add_right _ _) fun b hb o e => (sb.2 b fun z => hSf (z ▸ hb)).trans e
    · exact hR s2 L2 es2 ep2 t2 (Moved.trans W.gtrans ((hm.mono up).then_heap (Nat.le_add_right _ _) fun b o hb e => (sb.2 b fun z => hb (z ▸ .head _)).trans e) m2) R3 g3 k3
abbrev setO (w : World) : Obj := { cls := .type "set", dict := none, data := .set #[] 0 (.fresh 0 0 (!w.params.followText "set-order")) }
set_option maxHeartbeats 8000000 in
/-- set(a list of such keys) -/
theorem ks_call {l : Addr} {its : Array Value} (ks : KL) {Q : Value → Shared → Prop} (hh : A.handled = none) (hl : s.heap.IsList l its) (hit : its.toList = ks.map fun p => Value.ref p.1) (hk : ∀ p ∈ ks, KA s.heap p.2 p.1) (few : ks.length < 64) (hu : A.units + 20 < cLine)
    (q : ∀ (h' : Heap) (tk : Nat) L es ep t, KS w h' s.heap.objs.size L es ep t → KIn ks ks.length L → (∀ b o, s.heap.get? b = some o → h'.get? b = some o) → Q (.ref s.heap.objs.size) { s with heap := h', toks := tk }) :
    wpAny (model P w) A (call (.type "set") [.ref l]) Q E s := by
  have isz : its.size = ks.length := by rw [← Array.length_toList, hit, List.length_map]
  obtain ⟨c, tl, hmro⟩ := F.called_set.mro
  have f1 := F.called_set.made
  have f2 := F.called_set.sub
  have f3 := F.called_set.notType
  have f4 := F.called_set.canCreate
  have f5 := F.typeCall_set_1 (.ref l)
  refine wpAny_call (codeAny_of_tree ?_)
  show wpAny (model P w) _ (callAny (.type "set") _) _ _ s
  refine wpAny_pure ⟨Code.quiet_builtin _ (by decide +kernel), codeAny_builtin F.entry_type_call ?_⟩
  rw [Around.under_plain (weight_type_call_type "set" [.ref l] []) rfl]
  repeat (any_goals (first | assumption | wp_step))
  refine codeAny_mono (code_set_led1 (.ref l) (E := E) (Q₁ := fun obj s₁ => obj = .ref s.heap.objs.size ∧ s₁ = { s with heap := s.heap.push (setO w) }) ⟨rfl, rfl⟩) fun r s₁ hr => ?_
  rcases r with e | fl
  · exact hr
  · cases fl with
    | next => exact hr.elim
    | brk => exact hr.elim
    | cont => exact hr.elim
    | ret obj =>
      obtain ⟨rfl, rfl⟩ := hr
      have atS : (s.heap.push (setO w)).get? s.heap.objs.size = some (setO w) := Heap.get?_push_size _ rfl
      have tyS : Shared.TypeIs { s with heap := s.heap.push (setO w) } (.ref s.heap.objs.size) "set" := ⟨_, atS, rfl⟩
      have g1 := F.called_set.init.lookup
      have g2 := F.called_set.init.bind (.ref s.heap.objs.size)
      repeat (any_goals (first | assumption | wp_step))
      refine codeAny_mono (codeAny_call_builtin (R := wants (fun r s₂ => r = .none ∧ ∃ h' tk L es ep t, s₂ = { s with heap := h', toks := tk } ∧ KS w h' s.heap.objs.size L es ep t ∧ KIn ks ks.length L ∧ ∀ b o, s.heap.get? b = some o → h'.get? b = some o) E)
        F.called_set.init.plain F.entry_set_init (check_set_init_1 tyS ?_)) fun r₂ s₂ hr₂ => ?_
      · obtain ⟨⟨oc, od, oda, os⟩, hol, hcl, nl, hdl⟩ := hl
        simp only at hcl hdl
        subst hcl hdl
        have atL : (s.heap.push (setO w)).get? l = some { cls := .type "list", dict := od, data := .seq its nl, slots := os } := Heap.get?_push_of_some _ hol
        have isL : (s.heap.push (setO w)).IsList l its := ⟨_, atL, rfl, nl, rfl⟩
        have s1 := F.sub_list_set
        have s2 := F.sub_list_frozenset
        have s3 : (Value.type "list" == Value.type "dict") = false := by decide
        unfold Builtin.«set.__init__» noKeywords Builtin.Frozenset.updateFrom
        generalize hPI : pyIter = PI
        wp_walk
        subst hPI
        refine wpAny_pyIter_list isL (wpAny_bind (wpAny_runValue ?_))
        have lt : l < s.heap.objs.size := Heap.lt_size hol
        have sz1 : (s.heap.push (setO w)).objs.size = s.heap.objs.size + 1 := Heap.size_push ..
        have gone : ∀ b, s.heap.objs.size ≤ b → s.heap.get? b = none := fun b hb => by
          cases e : s.heap.get? b with
          | none => rfl
          | some o => exact absurd (Nat.lt_of_lt_of_le (Heap.lt_size e) hb) (Nat.lt_irrefl _)
        refine ks_fill ((Walks.list (by simp [hh] : A.in1.in1.in1.handled = none) _ l ?gl its).toS) (S := s.heap.objs.size) ?gs ks isz few (fun i v hv => ?_) s.heap hk (gone _ (Nat.le_refl _))
          (fun b hb => gone b ?gb) ?gu (its.size - 0) 0 _ ?gn (Nat.zero_le _) ⟨⟨_, Heap.get?_push_size _ rfl, rfl, rfl⟩, (isL.push _)⟩
          (fun b o e => Heap.get?_push_of_some _ (Heap.get?_push_of_some _ e)) ⟨[], #[], 0, _, ks_none (Heap.get?_push_of_some _ atS), fun p hp => (by cases hp), fun p hp => (by cases hp), Nat.le_refl _⟩ fun s' L es ep t hm R g kp => ?_
        case gl => rw [sz1]; exact Nat.ne_of_lt (Nat.lt_succ_of_lt lt)
        case gs =>
          rw [sz1]
          intro z
          rcases List.mem_cons.mp z with e | e
          · exact absurd e (Nat.ne_of_lt (Nat.lt_succ_self _))
          · exact absurd (List.mem_singleton.mp e) (Nat.ne_of_gt lt)
        case gb => rw [List.mem_singleton.mp hb, sz1]; exact Nat.le_succ _
        case gu => exact Nat.lt_of_le_of_lt (Nat.add_le_add_left (by decide : (3 + 8 : Nat) ≤ 20) A.units) hu
        case gn => rfl
        · have e : its.toList[i]? = some v := by rw [Array.getElem?_toList]; exact hv
          rw [hit, List.getElem?_map] at e
          obtain ⟨p, h1, h2⟩ := Option.map_eq_some_iff.mp e
          exact ⟨p, h1, h2.symm⟩
        · obtain ⟨h', g2, d', tk', os'⟩ := s'
          obtain rfl : g2 = s.gens := hm.gens
          obtain rfl : d' = s.drawn := hm.drawn
          obtain rfl : os' = s.os := hm.os
          refine wpAny_pure ?_
          show wpAny _ _ (ret Value.none) _ _ _
          exact wpAny_pure ⟨rfl, h', tk', L, es, ep, t, rfl, R, by rw [← isz]; exact g, kp⟩
      · rcases r₂ with e | fl₂
        · exact hr₂
        · cases fl₂ with
          | next => exact hr₂.elim
          | brk => exact hr₂.elim
          | cont => exact hr₂.elim
          | ret r =>
            obtain ⟨rfl, h', tk, L, es, ep, t, rfl, R, g, kp⟩ := hr₂
            repeat (any_goals (first | assumption | wp_step))
            exact q _ _ _ _ _ _ R g kp
end
end OS

/-! OSsort: sorted of tuples, empty ones among them. -/
namespace OS
open PySem L2 PySem.Spec PyProof.Rows PySem.SeqAt PySem.W

section
variable {P : Program} {w : World} {A : Around} {E : Value → Shared → Prop} {s : Shared}
theorem keyLt_general (x y : Value) : keyLt' general' x y = oneLt' false x y := rfl
/-- one tuple against another, both keys of a list of tuples -/
theorem oneLt_tup {xs ys : List PyData} {a b : Value} {as bs : List Addr} {Q : Bool → Shared → Prop} (ra : Reads s.heap a (.tuple xs) as) (rb : Reads s.heap b (.tuple ys) bs) (hal : alikeAll xs ys = true) (hu : A.units + 70 < cLine) (dx : (PyData.tuple xs).depth ≤ 64) (q : Q (dataLt (.tuple xs) (.tuple ys)) s) :
    wpAny (model P w) A (oneLt' true a b) Q E s := by
  cases ra with
  | @tuple l o vs n _ as1 h1 h2 h3 h4 =>
    cases rb with
    | @tuple l' o' vs' n' _ bs1 k1 k2 k3 k4 =>
      have n1 : vs.size = xs.length := by simpa using ReadsAll.length _ _ _ h4
      have n2 : vs'.size = ys.length := by simpa using ReadsAll.length _ _ _ k4
      have room : A.units + 1 + min (PyData.depthAll xs) (PyData.depthAll ys) < cLine := by
        have e : (PyData.tuple xs).depth = PyData.depthAll xs + 1 := by simp [PyData.depth]
        have := Nat.min_le_left (PyData.depthAll xs) (PyData.depthAll ys)
        omega
      rw [dataLt_tuple, ← firstLt_toks xs ys hal, ← n1, ← n2] at q
      obtain ⟨oc, od, oda, os⟩ := o
      obtain ⟨oc', od', oda', os'⟩ := o'
      simp only at h2 h3 k2 k3
      subst h2 h3 k2 k3
      rw [oneLt'_eq]
      simp only [if_true]
      refine wpAny_bind (wpAny_cRoomFor (by omega) (wpAny_bind (wpAny_callSpecialIfBound?_slot (T := "tuple") ⟨_, h1, rfl⟩ PySem.F.slot_tuple_lt
        (call_meets PySem.F.slot_tuple_lt ⟨_, h1, rfl⟩ PySem.F.entry_tuple_lt (PySem.F.args_tuple_lt_2 _ _) (tuple_ltAt l l' vs vs' n n' od od' os os' (pairEq xs ys) fun j => dataLt (xs.getD j .none) (ys.getD j .none)) ⟨h1, k1, fun j j1 j2 => ?_, fun j j1 j2 hj => ?_, ?_⟩))))
      · have := eqAt_alikeAll xs ys A.in1 s vs.toList vs'.toList _ _ h4 k4 hal room j (by simpa using j1) (by simpa using j2)
        simpa using this
      · have := rcLt_alikeAll xs ys A.in1 s vs.toList vs'.toList _ _ h4 k4 hal room j (by simpa using j1) (by simpa using j2) hj
        simpa using this
      · exact wpAny_truthy_bool q
/-- the kind of keys when all are tuples, one of them empty -/
theorem firsts_of {vs : List Value} (f : Value → Option Value) (h : ∀ v ∈ vs, ∃ a o xs n, v = .ref a ∧ s.heap.get? a = some o ∧ o.cls = .type "tuple" ∧ o.data = .seq xs n ∧ f v = xs[0]?) {Q : List (Option Value) → Shared → Prop} (q : Q (vs.map f) s) :
    wpAny (model P w) A (vs.mapM firstOfTuple') Q E s := by
  induction vs generalizing Q with
  | nil => rw [List.mapM_nil]; exact wpAny_pure q
  | cons v vs ih =>
    obtain ⟨a, o, xs, n, rfl, ho, hc, hd, hf⟩ := h v (.head _)
    rw [List.mapM_cons]
    refine wpAny_bind ?_
    rw [kas_first_eq]
    refine wpAny_bind (Looks.here (show Looks (model P w) s.heap (typeOf (.ref a)) o.cls from (Looks.ld ho).andThen .now) ?_)
    rw [hc, if_neg (by decide)]
    refine wpAny_bind (listItems_at ho hd (wpAny_pure (wpAny_bind (ih (fun u hu => h u (.tail _ hu)) (wpAny_pure ?_)))))
    rw [List.map_cons, hf] at q
    exact q
end

/-! ### the order of data -/
theorem dlt_swo : SrtO.Swo fun x y : PyData => dataLt x y where
  asym x y h := by
    cases e : dataLt y x with
    | false => rfl
    | true =>
      have t := lex_trans _ _ _ h e
      rw [lex_irrefl] at t
      cases t
  tr x y z h1 h2 := by
    cases e : dataLt z x with
    | false => rfl
    | true =>
      rcases lex_negTrans _ (keyToks y) _ e with t | t
      · have t' : dataLt z y = true := t
        rw [h2] at t'; cases t'
      · have t' : dataLt y x = true := t
        rw [h1] at t'; cases t'
/-- what sorted gives -/
def Srt (xs ys : List PyData) : Prop := ys.Perm xs ∧ ys.Pairwise fun a b => dataLt b a = false
theorem srt_merge (xs : List PyData) : Srt xs (xs.mergeSort (dataLe false id)) := by
  refine ⟨List.mergeSort_perm _ _, ?_⟩
  have tr : ∀ a b c : PyData, dataLe false id a b = true → dataLe false id b c = true → dataLe false id a c = true := fun a b c h1 h2 => by
    have e1 : dataLt b a = false := by simpa [dataLe, sortLe, dataLt] using h1
    have e2 : dataLt c b = false := by simpa [dataLe, sortLe, dataLt] using h2
    have e3 := dlt_swo.tr a b c e1 e2
    simpa [dataLe, sortLe, dataLt] using e3
  have to : ∀ a b : PyData, (dataLe false id a b || dataLe false id b a) = true := fun a b => by
    cases e : dataLt b a with
    | false =>
      have : dataLe false id a b = true := by simpa [dataLe, sortLe, dataLt] using e
      rw [this]; rfl
    | true =>
      have e2 := dlt_swo.asym _ _ e
      have : dataLe false id b a = true := by simpa [dataLe, sortLe, dataLt] using e2
      rw [this, Bool.or_true]
  refine (List.pairwise_mergeSort tr to xs).imp fun {a b} h => ?_
  simpa [dataLe, sortLe, dataLt] using h

/-! ### reading keys back -/
open Classical in
noncomputable def rdK (h : Heap) (ds : List PyData) (u : Value) : PyData := if z : ∃ d, d ∈ ds ∧ ∃ as, Reads h u d as then z.choose else .none
theorem rdK_eq {h : Heap} {ds : List PyData} {u : Value} {d : PyData} (hal : AllAlike ds) (hd : d ∈ ds) {as : List Addr} (r : Reads h u d as) : rdK h ds u = d := by
  have z : ∃ d, d ∈ ds ∧ ∃ as, Reads h u d as := ⟨d, hd, as, r⟩
  have e : rdK h ds u = z.choose := dif_pos z
  obtain ⟨z1, as', z2⟩ := z.choose_spec
  rw [e]
  exact alike_unique _ _ u as' as (hal _ z1 _ hd) z2 r
section
variable {P : Program} {w : World} {A : Around} {E : Value → Shared → Prop} {s : Shared}
noncomputable abbrev ltK (h : Heap) (ds : List PyData) : Value → Value → Bool := fun u v => dataLt (rdK h ds u) (rdK h ds v)
theorem ltK_swo (h : Heap) (ds : List PyData) : SrtO.Swo (ltK h ds) := ⟨fun _ _ z => dlt_swo.asym _ _ z, fun _ _ _ a b => dlt_swo.tr _ _ _ a b⟩
/-- a list of tuples, one empty, may be sorted -/
theorem gap_sortable {a : Addr} {vs : List Value} {ds : List PyData} (h2 : 2 ≤ vs.length) (hu : A.units + 80 < cLine) (hal : AllAlike ds) (ht : ∀ d ∈ ds, ∃ xs, d = .tuple xs) (hg : PyData.tuple [] ∈ ds) (hdp : ∀ d ∈ ds, d.depth ≤ 64)
    (e : EachIs (fun v d => ∃ as, Reads s.heap v d as ∧ a ∉ as) vs ds) (hl : ∀ o, s.heap.get? a = some o → o.cls = .type "list") : SrtO.SortableO P w A s a vs (ltK s.heap ds) := by
  intro h' keep
  have back : ∀ {v d}, (∃ as, Reads s.heap v d as ∧ a ∉ as) → d ∈ ds → ∃ as, Reads h' v d as := fun {v d} ⟨as, r, hn⟩ hd => ⟨as, Reads.keepBut keep hl d v as (hal _ hd _ hd) r hn⟩
  have each : ∀ {vs : List Value} {ds' : List PyData}, EachIs (fun v d => ∃ as, Reads s.heap v d as ∧ a ∉ as) vs ds' → (∀ d ∈ ds', d ∈ ds) → ∀ v ∈ vs, ∃ d, d ∈ ds ∧ (∃ as, Reads s.heap v d as ∧ a ∉ as) := fun {vs ds'} e => by
    induction e with
    | nil => intro _ v hv; cases hv
    | cons r _ ih =>
      intro hs v hv
      rcases List.mem_cons.mp hv with rfl | hv
      · exact ⟨_, hs _ (.head _), r⟩
      · exact ih (fun d hd => hs d (.tail _ hd)) v hv
  have each2 : ∀ {vs : List Value} {ds' : List PyData}, EachIs (fun v d => ∃ as, Reads s.heap v d as ∧ a ∉ as) vs ds' → ∀ d ∈ ds', ∃ v ∈ vs, ∃ as, Reads s.heap v d as ∧ a ∉ as := fun {vs ds'} e => by
    induction e with
    | nil => intro d hd; cases hd
    | cons r _ ih =>
      intro d hd
      rcases List.mem_cons.mp hd with rfl | hd
      · exact ⟨_, .head _, r⟩
      · obtain ⟨v, h1, h2⟩ := ih d hd
        exact ⟨v, .tail _ h1, h2⟩
  have of := each e fun _ h => h
  -- the tuple's object
  have obj : ∀ v ∈ vs, ∃ b o xs n, v = .ref b ∧ h'.get? b = some o ∧ o.cls = .type "tuple" ∧ o.data = .seq xs n := fun v hv => by
    obtain ⟨d, hd, r⟩ := of v hv
    obtain ⟨xs, rfl⟩ := ht d hd
    obtain ⟨as, r'⟩ := back r hd
    cases r' with
    | tuple h1 h2 h3 h4 => exact ⟨_, _, _, _, rfl, h1, h2, h3⟩
  let fst : Value → Option Value := fun v => match v with
    | .ref b => match h'.get? b with
      | some o => match o.data with
        | .seq xs _ => xs[0]?
        | _ => none
      | none => none
    | _ => none
  have cmp : ∀ κ, (κ = general' ∨ κ = oneType') → SrtO.Cmp P w A { s with heap := h' } κ (fun p => p.1 ∈ vs) (SrtO.lt2 (ltK s.heap ds)) := fun κ hκ p q hp hq => by
    obtain ⟨d, hd, r⟩ := of p.1 hp
    obtain ⟨d', hd', r'⟩ := of q.1 hq
    obtain ⟨as, rd⟩ := back r hd
    obtain ⟨bs, rd'⟩ := back r' hd'
    have e1 : rdK s.heap ds p.1 = d := by obtain ⟨_, x, _⟩ := r; exact rdK_eq hal hd x
    have e2 : rdK s.heap ds q.1 = d' := by obtain ⟨_, x, _⟩ := r'; exact rdK_eq hal hd' x
    have ev : SrtO.lt2 (ltK s.heap ds) p q = dataLt d d' := by show dataLt (rdK s.heap ds p.1) (rdK s.heap ds q.1) = _; rw [e1, e2]
    rw [ev]
    obtain ⟨xs, rfl⟩ := ht d hd
    obtain ⟨ys, rfl⟩ := ht d' hd'
    have al : alike (.tuple xs) (.tuple ys) = true := hal _ hd _ hd'
    have dx := hdp _ hd
    rcases hκ with rfl | rfl
    · rw [keyLt_general]
      exact oneLt_alike (s := { s with heap := h' }) (fun z => by cases z) rd rd' al (fun z => by cases z) (by have := Nat.min_le_left (PyData.tuple xs).depth (PyData.tuple ys).depth; omega) ⟨rfl, rfl⟩
    · rw [keyLt'_oneType]
      exact oneLt_tup (s := { s with heap := h' }) rd rd' (by simpa [alike] using al) (by omega) dx ⟨rfl, rfl⟩
  have fo : ∀ v ∈ vs, ∃ b o xs n, v = .ref b ∧ h'.get? b = some o ∧ o.cls = .type "tuple" ∧ o.data = .seq xs n ∧ fst v = xs[0]? := fun v hv => by
    obtain ⟨b, o, xs, n, rfl, h1, h2, h3⟩ := obj v hv
    exact ⟨b, o, xs, n, rfl, h1, h2, h3, by simp only [fst, h1, h3]⟩
  have gap : ∃ v ∈ vs, fst v = none := by
    obtain ⟨v, hv, r⟩ := each2 e _ hg
    obtain ⟨as, r'⟩ := back r hg
    refine ⟨v, hv, ?_⟩
    cases r' with
    | @tuple b o us n _ _ h1 h2 h3 h4 =>
      have z : us.toList = [] := by
        cases hh : us.toList with
        | nil => rfl
        | cons _ _ => rw [hh] at h4; cases h4
      have z2 : us = #[] := by
        apply Array.toList_inj.mp
        rw [z]
      simp only [fst, h1, h3, z2]
      rfl
  -- the kind: by the first key
  by_cases c : ((vs.map fst)[0]?.bind id).isSome = true
  · refine ⟨general', fun Q E q => ?_, cmp _ (.inl rfl)⟩
    rw [kat_kind_eq, List.mapM_toArray, map_eq_pure_bind]
    refine wpAny_bind (wpAny_bind (firsts_of (s := { s with heap := h' }) fst fo (wpAny_pure ?_)))
    have hall : ¬ ((vs.map fst).toArray.all fun x => x.isSome) = true := by
      obtain ⟨v, hv, e⟩ := gap
      intro z
      simp only [List.all_toArray, List.all_map, List.all_eq_true] at z
      have := z v hv
      simp [e] at this
    rw [if_neg hall, if_pos (by simpa using c)]
    exact wpAny_pure q
  · refine ⟨oneType', fun Q E q => ?_, cmp _ (.inr rfl)⟩
    rw [kat_kind_eq, List.mapM_toArray, map_eq_pure_bind]
    refine wpAny_bind (wpAny_bind (firsts_of (s := { s with heap := h' }) fst fo (wpAny_pure ?_)))
    have hall : ¬ ((vs.map fst).toArray.all fun x => x.isSome) = true := by
      obtain ⟨v, hv, e⟩ := gap
      intro z
      simp only [List.all_toArray, List.all_map, List.all_eq_true] at z
      have := z v hv
      simp [e] at this
    rw [if_neg hall, if_neg (by simpa using c)]
    rw [oneTypeOnly'_eq, List.mapM_toArray, map_eq_pure_bind]
    refine wpAny_bind (wpAny_bind (wpAny_bind (kas_mapM (r := Value.type "tuple") _ (fun v hv Q' hq => ?_) (wpAny_pure ?_))))
    · obtain ⟨a, o, xs, n, rfl, ho, hc, _⟩ := fo v hv
      exact Looks.here (show Looks (model P w) h' (typeOf (.ref a)) (.type "tuple") from hc ▸ (Looks.ld ho).andThen .now) hq
    · cases vs with
      | nil => simp at h2
      | cons v vs =>
        have h0 : (List.map (fun _ => Value.type "tuple") (v :: vs)).toArray[0]? = some (Value.type "tuple") := by simp
        have ha : ((List.map (fun _ => Value.type "tuple") (v :: vs)).toArray.all fun x => x == Value.type "tuple") = true := by
          simp only [List.all_toArray, List.all_map, List.all_eq_true]
          intro _ _
          rfl
        rw [h0]
        simp only [ha, if_true]
        exact wpAny_pure (wpAny_pure (by simpa using q))
/-- how the sorted values stand for the sorted data -/
theorem srt_of {R : Value → PyData → Prop} {ds : List PyData} {vs out : List Value} (hal : AllAlike ds) (e : EachIs R vs ds) (er : EachIs (fun v d => ∃ as, Reads s.heap v d as) vs ds) (h1 : SrtO.Srtd (ltK s.heap ds) out) (h2 : out.Perm vs) : Srt ds (out.map (rdK s.heap ds)) ∧ EachIs R out (out.map (rdK s.heap ds)) := by
  have go : ∀ {vs : List Value} {ds' : List PyData}, EachIs (fun v d => ∃ as, Reads s.heap v d as) vs ds' → (∀ d ∈ ds', d ∈ ds) → vs.map (rdK s.heap ds) = ds' := fun {vs ds'} er => by
    induction er with
    | nil => exact fun _ => rfl
    | cons r _ ih =>
      intro hs
      obtain ⟨as, r⟩ := r
      rw [List.map_cons, ih fun d hd => hs d (.tail _ hd), rdK_eq hal (hs _ (.head _)) r]
  have ev := go er fun _ h => h
  refine ⟨⟨by have := h2.map (rdK s.heap ds); rw [ev] at this; exact this, List.pairwise_map.mpr h1⟩, ?_⟩
  have pt : ∀ {vs : List Value} {ds' : List PyData}, EachIs R vs ds' → vs.map (rdK s.heap ds) = ds' → ∀ v ∈ vs, R v (rdK s.heap ds v) := fun {vs ds'} e => by
    induction e with
    | nil => intro _ v hv; cases hv
    | cons r _ ih =>
      intro hm v hv
      rw [List.map_cons] at hm
      injection hm with m1 m2
      rcases List.mem_cons.mp hv with rfl | hv
      · rw [m1]; exact r
      · exact ih m2 v hv
  have all := pt e ev
  have fin : ∀ out : List Value, (∀ v ∈ out, v ∈ vs) → EachIs R out (out.map (rdK s.heap ds)) := fun out => by
    induction out with
    | nil => exact fun _ => .nil
    | cons v out ih => exact fun h => .cons (all v (h v (.head _))) (ih fun u hu => h u (.tail _ hu))
  exact fin out fun v hv => h2.mem_iff.mp hv
end

/-! ### sorted(list) -/
/-- what may be sorted -/
def SrtOk (ds : List PyData) : Prop := AllAlike ds ∧ (Sortable ds ∨ ∀ d ∈ ds, ∃ xs, d = .tuple xs) ∧ ∀ d ∈ ds, d.depth ≤ 64
theorem srtOk_cases {ds : List PyData} (h : SrtOk ds) : Sortable ds ∨ ((∀ d ∈ ds, ∃ xs, d = .tuple xs) ∧ PyData.tuple [] ∈ ds) := by
  obtain ⟨_, h | h, _⟩ := h
  · exact .inl h
  · by_cases z : PyData.tuple [] ∈ ds
    · exact .inr ⟨h, z⟩
    · refine .inl (.inl fun d hd => ?_)
      obtain ⟨xs, rfl⟩ := h d hd
      cases xs with
      | nil => exact absurd hd z
      | cons x r => exact ⟨x, r, rfl⟩
def rSortG (K : KW) : List V → Hp → VK → Prop := fun vs H Q => ∃ (F : Hp) (a : Addr) (xs : List V) (ds : List PyData), vs = [.ref a] ∧ (SqL K H a xs ∧ Same F H ∧ DpAll K F xs ds) ∧ SrtOk ds ∧
  ∀ (ds' : List PyData) (ys : List V) (p : Addr), H p = none → Srt ds ds' → DpAll K F ys ds' → Q (.ref p) (upd H p (.lst ys))
theorem noList {h : Heap} : ∀ {v : Value} {d : PyData} {as : List Addr}, Reads h v d as → ∀ a ∈ as, ∃ o, h.get? a = some o := fun {v d as} r => by
  refine Reads.rec (motive_1 := fun v d as _ => ∀ a ∈ as, ∃ o, h.get? a = some o) (motive_2 := fun vs ds as _ => ∀ a ∈ as, ∃ o, h.get? a = some o) ?_ ?_ ?_ ?_ ?_ ?_ ?_ ?_ ?_ r
  · intro a ha; cases ha
  · intro _ a ha; cases ha
  · intro _ _ a ha; cases ha
  · intro _ _ a ha; cases ha
  · intro a o vs n xs as h1 _ _ _ ih b hb
    rcases List.mem_cons.mp hb with rfl | hb
    · exact ⟨o, h1⟩
    · exact ih b hb
  · intro a o vs n xs as h1 _ _ _ ih b hb; exact ih b hb
  · intro a o es n kvs as bs h1 _ _ _ _ ih1 ih2 b hb
    rcases List.mem_append.mp hb with hb | hb
    · rcases List.mem_cons.mp hb with rfl | hb
      · exact ⟨o, h1⟩
      · exact ih1 b hb
    · exact ih2 b hb
  · intro a ha; cases ha
  · intro v vs d ds as bs _ _ ih1 ih2 b hb
    rcases List.mem_append.mp hb with hb | hb
    · exact ih1 b hb
    · exact ih2 b hb
theorem cr_sortG {X : Cx} (hu : X.A.units + 100 < cLine) : CallR X (.builtin "sorted") (rSortG (kw X)) := by
  intro pins s σ H vs us Q I r h
  obtain ⟨F, a, xs, ds, rfl, ⟨hs, sF, hd⟩, ok, q⟩ := h
  rcases srtOk_cases ok with hk | ⟨ht, hg⟩
  · exact cr_sortD hu pins s σ H _ us Q I r ⟨F, a, xs, ds, rfl, ⟨hs, sF, hd⟩, ok.1, hk, ok.2.2, fun ys p hp dv => q _ ys p hp (srt_merge ds) dv⟩
  · obtain ⟨its, rv, hl, hz⟩ := I.list hs
    rw [Vals.ref1 r]
    have e := srt_each rv hd
    have er : EachIs (fun v d => ∃ as, Reads s.heap v d as) its ds := e.mono fun v b ⟨x, rx, dx⟩ => Dp.reads I (dp_mono sF dx) rx
    have hzi : its.length ≤ sizeLine := by rw [← rv.length]; exact hz
    refine SrtO.sorted_ord (ltK_swo s.heap ds) hl.isList hzi (fun h2 h₁ b hb kp => ?_) fun out h1 h2 => ?_
    · have e2 : EachIs (fun v d => ∃ as, Reads h₁ v d as ∧ b ∉ as) its ds := er.mono fun v d ⟨as, r⟩ => ⟨as, Reads.keeps (fun c o z => (kp c o z).2) r, fun z => by
        obtain ⟨o, ho⟩ := noList r b z
        exact (kp b o ho).1 rfl⟩
      have g := gap_sortable (P := X.prog) (w := X.w) (A := X.A.in1.in1) (s := { s with heap := h₁ }) (a := b) h2 (by show X.A.units + 1 + 1 + 80 < cLine; omega) ok.1 ht hg ok.2.2 e2 fun o ho => by rw [hb] at ho; cases ho; rfl
      -- the two readings agree
      have same : ∀ v ∈ its, rdK h₁ ds v = rdK s.heap ds v := by
        have go : ∀ {vs : List Value} {ds' : List PyData}, EachIs (fun v d => ∃ as, Reads s.heap v d as) vs ds' → (∀ d ∈ ds', d ∈ ds) → ∀ v ∈ vs, rdK h₁ ds v = rdK s.heap ds v := fun {vs ds'} er => by
          induction er with
          | nil => intro _ v hv; cases hv
          | cons r _ ih =>
            intro hs v hv
            rcases List.mem_cons.mp hv with rfl | hv
            · obtain ⟨as, r⟩ := r
              rw [rdK_eq ok.1 (hs _ (.head _)) r, rdK_eq ok.1 (hs _ (.head _)) (Reads.keeps (fun c o z => (kp c o z).2) r)]
            · exact ih (fun d hd => hs d (.tail _ hd)) v hv
        exact go er fun _ h => h
      intro h' keep
      obtain ⟨κ, k1, k2⟩ := g h' keep
      refine ⟨κ, k1, fun p q hp hq => ?_⟩
      have := k2 p q hp hq
      have ev : SrtO.lt2 (ltK s.heap ds) p q = SrtO.lt2 (ltK h₁ ds) p q := by
        show dataLt (rdK s.heap ds p.1) (rdK s.heap ds q.1) = dataLt (rdK h₁ ds p.1) (rdK h₁ ds q.1)
        rw [same _ hp, same _ hq]
      rw [ev]
      exact this
    · obtain ⟨g1, g2⟩ := srt_of (s := s) ok.1 e er h1 h2.perm
      obtain ⟨ys, r2, d2⟩ := srt_back g2
      obtain ⟨ep, he'⟩ := sortedAll_at s.heap its out.toArray
      have hlen : ys.length ≤ sizeLine := by rw [r2.length, h2.perm.length_eq]; exact hzi
      exact ⟨.ref _, upd H (s.heap.objs.size + 1) (.lst ys), I.laid (t' := s.toks) (fun _ _ => sortedAll_old) (Nat.le_succ _) ⟨hlen, out, ep, r2, he'⟩, rfl, q _ ys _ (I.hok.fresh (Nat.le_succ _)) g1 d2⟩
def sSortG : PSp
  | [.list xs], q => SrtOk xs ∧ ∀ ys, Srt xs ys → q (.own ys)
  | _, _ => False
theorem ps_sortG {K : KW} : PCall K (rSortG K) sSortG := fun F H vs ds Q q s r a k => by
  unfold sSortG at a
  split at a
  · obtain ⟨v, rfl, r1⟩ := dp1 r
    cases r1 with
    | lst hs ha => exact ⟨F, _, _, _, rfl, ⟨Evl.ex_l s hs, s, ha⟩, a.1, fun ds' ys p hp hs' hy => k (.own _) _ _ F (a.2 ds' hs') (After.own s hp) ⟨p, _, rfl, s.free hp, hp, upd_same, hy⟩⟩
  · exact a.elim
theorem bu_sortG {X : Fam} {e : Expr} {p pos : Pos} (hu : Roomy X) (hm : X.X0.mg "sorted" = none) (hg : ∀ j, Gl (X.X j) "sorted" := by intro _; rfl) (he : ∀ j, starEach [e] (X.X j).env = [(false, eval e (X.X j).env)] := by intro _; rfl) : Bi X "sorted" e [] p pos (rSortG X.K) :=
  bu_f (fun j => by rw [← X.hkw j]; exact cr_sortG (by rw [X.hA j]; exact hu)) PyProof.Rows.boot_sorted hm hg (by decide) (by decide) he (by intro _; rfl)
end OS

/-! OSset2: sorted(set(..)) by data. -/
namespace OS
open PySem L2 PySem.Spec PyProof.Rows

structure KS0 (w : World) (h : Heap) (a : Addr) (L : KL) : Prop where
  ex : ∃ (es : Array (Int × Value)) (ep : Nat) (t : SetTable), (∃ o, h.get? a = some o ∧ o.ExactSet ∧ o.data = .set es ep t) ∧ es.toList = L.map (fun p => (p.2.hash w, Value.ref p.1)) ∧ TabOk t (kHs w L) ∧ (L.map (·.2)).Nodup ∧
    (w.params.followText "set-order" = true ∨ t.led = true) ∧ L.length * 5 < t.mask * 3 ∧ L.length < 64
def SO (w : World) (a : Addr) (L : KL) : HO := .ext fun h => KS0 w h a L
theorem so_new {P : Program} {w : World} {H : Hp} {h : Heap} {a : Addr} {L : KL} (R : KS0 w h a L) : ObjOk P w H h a (SO w a L) := by
  obtain ⟨es, ep, t, ⟨o, ho, r⟩, q⟩ := id R.ex
  refine ⟨R, ⟨o, ho⟩, fun h1 h2 p k => ?_⟩
  obtain ⟨es', ep', t', ⟨o', ho', r'⟩, q'⟩ := KS0.ex p
  exact ⟨es', ep', t', ⟨o', k o' ho', r'⟩, q'⟩
/-- the rows and the data they stand for -/
abbrev KD := List ((Addr × NestedKey) × PyData)
def KdOk (K : KW) (F : Hp) (z : (Addr × NestedKey) × PyData) : Prop := Dp K F (.ref z.1.1) z.2 ∧ keyOf z.2 = some z.1.2 ∧ z.1.2.depth ≤ 8
def rSetD (K : KW) (w : World) : List V → Hp → VK → Prop := fun vs H Q => ∃ (F : Hp) (l : Addr) (kd : KD), vs = [.ref l] ∧ Same F H ∧ SqL K H l (kd.map fun z => V.ref z.1.1) ∧ (∀ z ∈ kd, KdOk K F z) ∧ kd.length < 64 ∧
  ∀ a (L : KL), H a = none → (∀ p ∈ L, p ∈ kd.map (·.1)) → (∀ z ∈ kd, z.1.2 ∈ L.map (·.2)) → (L.map (·.2)).Nodup → Q (.ref a) (upd H a (SO w a L))
theorem refs_vals : ∀ {kd : KD} {us : List Value}, Vals (kd.map fun z => V.ref z.1.1) us → us = (kd.map (·.1)).map fun p => Value.ref p.1
  | [], _, .nil => rfl
  | z :: kd, _, .cons r t => by
    cases r
    rw [refs_vals t]
    rfl
section
variable {X : Cx} {pins : List (Addr × Obj)} {σ : L2.St} {H F : Hp} {s : Shared}
theorem Inv_key (I : Inv X pins σ H s) (sF : Same F H) {z : (Addr × NestedKey) × PyData} (h : KdOk (kw X) F z) : KA s.heap z.1.2 z.1.1 := by
  obtain ⟨as, r⟩ := Dp.reads I (u := .ref z.1.1) (dp_mono sF h.1) rfl
  exact ⟨(key_is _ _ _ _ r h.2.1).1, h.2.2⟩
theorem cr_setD (hc : X.calm = true) (hu : X.A.units + 100 < cLine) : CallR X (.type "set") (rSetD (kw X) X.w) := by
  intro pins s σ H vs us Q I r h
  obtain ⟨F, l, kd, rfl, sF, hs, hk, few, q⟩ := h
  obtain ⟨its, rv, hl, hz⟩ := I.list hs
  rw [Vals.ref1 r]
  have ev := refs_vals rv
  refine ks_call (P := X.prog) (w := X.w) (kd.map (·.1)) (I.ok.hd hc) hl.isList (by rw [List.toList_toArray]; exact ev) (fun p hp => ?_) (by rw [List.length_map]; exact few) (by omega) fun h' tk L es ep t R g kp => ?_
  · obtain ⟨z, hz, rfl⟩ := List.mem_map.mp hp
    exact Inv_key I sF (hk z hz)
  · obtain ⟨g1, g2, _⟩ := g
    rw [List.take_length] at g1 g2
    exact ⟨.ref _, _, I.laid (t' := tk) kp (Nat.le_refl _) (so_new ⟨es, ep, t, R.ob, R.rows, R.tab, R.nd, R.led, R.room, R.few⟩), rfl, q _ L I.fresh g1 (fun z hz => g2 _ (List.mem_map_of_mem hz)) R.nd⟩
/-- sorted of such a set -/
def rSortS (K : KW) (w : World) : List V → Hp → VK → Prop := fun vs H Q => ∃ (F : Hp) (a : Addr) (kd : KD), vs = [.ref a] ∧ Same F H ∧ H a = some (SO w a (kd.map (·.1))) ∧ (∀ z ∈ kd, KdOk K F z) ∧ SrtOk (kd.map (·.2)) ∧
  ∀ (ds : List PyData) (ys : List V) (p : Addr), H p = none → Srt (kd.map (·.2)) ds → DpAll K F ys ds → Q (.ref p) (upd H p (.lst ys))
theorem pick_kd {K : KW} {F : Hp} : ∀ (vs : List Value) (kd : KD), (∀ z ∈ kd, KdOk K F z) → vs.Perm (kd.map fun z => Value.ref z.1.1) → ∃ kd' : KD, kd'.Perm kd ∧ vs = kd'.map fun z => Value.ref z.1.1
  | [], kd, _, p => by
    have : kd.map (fun z => Value.ref z.1.1) = [] := p.symm.eq_nil
    cases kd with
    | nil => exact ⟨[], .refl _, rfl⟩
    | cons _ _ => cases this
  | v :: vs, kd, hk, p => by
    have hv : v ∈ kd.map fun z => Value.ref z.1.1 := p.mem_iff.mp (.head _)
    obtain ⟨z, hz, rfl⟩ := List.mem_map.mp hv
    obtain ⟨l1, l2, rfl⟩ := List.append_of_mem hz
    have pm : (l1 ++ z :: l2).Perm (z :: (l1 ++ l2)) := List.perm_middle
    obtain ⟨kd', h1, h2⟩ := pick_kd vs (l1 ++ l2) (fun y hy => hk y (pm.mem_iff.mpr (.tail _ hy))) ((p.trans (pm.map _)).cons_inv)
    exact ⟨z :: kd', (h1.cons z).trans pm.symm, by rw [List.map_cons, ← h2]⟩
theorem cr_sortS (hc : X.calm = true) (hu : X.A.units + 100 < cLine) : CallR X (.builtin "sorted") (rSortS (kw X) X.w) := by
  intro pins s σ H vs us Q I r h
  obtain ⟨F, a, kd, rfl, sF, ha, hk, ok, q⟩ := h
  rw [Vals.ref1 r]
  obtain ⟨R0, _, _⟩ := (show ObjOk X.prog X.w H s.heap a (SO X.w a (kd.map (·.1))) from I.hok a _ ha)
  obtain ⟨es, ep, t, ⟨o, ho, hex, hd⟩, rows, tab, nd, led, room, few⟩ := KS0.ex R0
  have sz := rows_size rows
  have ft : t.fits es.size = true := by
    have e1 : t.place.size = (kd.map (·.1)).length := tab.sz.trans kHs_len
    simp only [SetTable.fits, SetTable.fill, tab.dm, Bool.and_eq_true, beq_iff_eq, decide_eq_true_eq]
    exact ⟨by omega, by show t.place.size + 0 ≤ t.mask; omega⟩
  refine Calls.call_function_entry kind_sorted plain_sorted entry_sorted (args_sorted1 _) ?_
  unfold Builtin.«sorted»
  refine wpAny_bind (m := checkCount "sorted" 1 1 _) (wpAny_pure (wpAny_bind (collect_set (A := X.A.in1) (I.ok.hd hc) ⟨o, ho, hex.1, hd⟩ ft (by unfold scanBound; omega) tab.ris led fun s1 vs k1 hz g1 o1 pm => ?_)))
  have es2 : es.toList.map (·.2) = kd.map fun z => Value.ref z.1.1 := by
    rw [rows, List.map_map, List.map_map]
    rfl
  rw [es2] at pm
  obtain ⟨kd', p1, rfl⟩ := pick_kd vs kd hk pm
  have hk' : ∀ z ∈ kd', KdOk (kw X) F z := fun z hz => hk z (p1.mem_iff.mp hz)
  have len : kd'.length < 64 := by rw [p1.length_eq]; simpa using few
  have p2 := p1.map (·.2)
  refine wpAny_bind (wpAny_newList ?_ (by rw [sizeLine_eq]; simp; omega))
  have hoL : (s1.heap.push (seqObj "list" (kd'.map fun z => Value.ref z.1.1).toArray 0)).get? s1.heap.objs.size = some (seqObj "list" (kd'.map fun z => Value.ref z.1.1).toArray 0) := Heap.get?_push_size _ rfl
  have up : ∀ b o, s.heap.get? b = some o → (s1.heap.push (seqObj "list" (kd'.map fun z => Value.ref z.1.1).toArray 0)).get? b = some o := fun b o e => Heap.get?_push_of_some _ (k1 b o e)
  have each : ∀ kd : KD, (∀ z ∈ kd, KdOk (kw X) F z) → PySem.W.EachIs (SrtR (kw X) F) (kd.map fun z => Value.ref z.1.1) (kd.map (·.2)) := fun kd => by
    induction kd with
    | nil => exact fun _ => .nil
    | cons z kd ih => exact fun h => .cons ⟨.ref z.1.1, rfl, (h z (.head _)).1⟩ (ih fun y hy => h y (.tail _ hy))
  have eachR : ∀ kd : KD, (∀ z ∈ kd, KdOk (kw X) F z) → PySem.W.EachIs (fun v b => ∃ as, Reads (s1.heap.push (seqObj "list" (kd'.map fun z => Value.ref z.1.1).toArray 0)) v (id b) as ∧ s1.heap.objs.size ∉ as) (kd.map fun z => Value.ref z.1.1) (kd.map (·.2)) := fun kd => by
    induction kd with
    | nil => exact fun _ => .nil
    | cons z kd ih =>
      intro h
      refine .cons ?_ (ih fun y hy => h y (.tail _ hy))
      obtain ⟨as, r⟩ := Dp.reads I (u := .ref z.1.1) (dp_mono sF (h z (.head _)).1) rfl
      have e := (key_is _ _ _ _ r (h z (.head _)).2.1).2
      subst e
      exact ⟨[], Reads.keeps up r, by simp⟩
  have ok' : SrtOk (kd'.map (·.2)) := by
    obtain ⟨o1, o2, o3⟩ := ok
    refine ⟨fun d hd d' hd' => o1 d (p2.mem_iff.mp hd) d' (p2.mem_iff.mp hd'), ?_, fun d hd => o3 d (p2.mem_iff.mp hd)⟩
    rcases o2 with (z | z) | z
    · exact .inl (.inl fun d hd => z d (p2.mem_iff.mp hd))
    · exact .inl (.inr fun d hd => z d (p2.mem_iff.mp hd))
    · exact .inr fun d hd => z d (p2.mem_iff.mp hd)
  have len2 : (kd'.map fun z => Value.ref z.1.1).length ≤ sizeLine := by rw [sizeLine_eq]; simp; omega
  -- behind the sort
  have fin : ∀ (out : List Value) (ds : List PyData), Srt (kd'.map (·.2)) ds → PySem.W.EachIs (SrtR (kw X) F) out ds → EP X pins σ Q (.ref s1.heap.objs.size) { s1 with heap := sortedHeap (s1.heap.push (seqObj "list" (kd'.map fun z => Value.ref z.1.1).toArray 0)) s1.heap.objs.size (kd'.map fun z => Value.ref z.1.1) out.toArray } := fun out ds hs er => by
    obtain ⟨ys, rv, dv⟩ := srt_back er
    obtain ⟨c, hc'⟩ := sortedHeap_at (vs := kd'.map fun z => Value.ref z.1.1) (out := out.toArray) hoL
    have old : ∀ b u, s.heap.get? b = some u → (sortedHeap (s1.heap.push (seqObj "list" (kd'.map fun z => Value.ref z.1.1).toArray 0)) s1.heap.objs.size (kd'.map fun z => Value.ref z.1.1) out.toArray).get? b = some u := fun b u e => by
      have lt := Heap.lt_size (k1 b u e)
      rw [sortedHeap_old (Nat.ne_of_lt lt) (by rw [size_push']; exact Nat.lt_succ_of_lt lt)]
      exact up b u e
    have yl : ys.length ≤ sizeLine := by rw [dpAll_len dv, hs.1.length_eq, sizeLine_eq]; simp; omega
    have nn : H s1.heap.objs.size = none := I.hok.fresh hz
    have sp : Srt (kd.map (·.2)) ds := ⟨hs.1.trans p2, hs.2⟩
    refine ⟨.ref s1.heap.objs.size, upd H s1.heap.objs.size (.lst ys), ?_, rfl, q _ ys _ nn sp dv⟩
    have J : L2.Inv X pins σ (upd H s1.heap.objs.size (.lst ys)) { s with heap := sortedHeap (s1.heap.push (seqObj "list" (kd'.map fun z => Value.ref z.1.1).toArray 0)) s1.heap.objs.size (kd'.map fun z => Value.ref z.1.1) out.toArray, gens := s1.gens, drawn := s1.drawn, toks := s1.toks } := I.call (ch := []) (Un.laid old hz nn) (I.hok.laid old hz ⟨yl, out, c, rv, hc'⟩) (by rw [g1]; exact I.bare) (fun _ z => nomatch z)
    obtain ⟨h1, gg, dd, tt, oo⟩ := s1
    cases o1
    exact J
  rcases srtOk_cases ok' with sr' | ⟨ht, hg⟩
  · refine wpAny_bind (wpAny_holding (PySem.W.list_sort_data (s := { s1 with heap := s1.heap.push (seqObj "list" (kd'.map fun z => Value.ref z.1.1).toArray 0) }) (R := SrtR (kw X) F) (enc := id) hoL (each kd' hk') (eachR kd' hk') (by rw [List.map_id]; exact ok'.1) (by rw [List.map_id]; exact sr') (by rw [sizeLine_eq]; simp; omega) (fun b hb => ?_) fun out ol er => ?_))
    · have := ok'.2.2 b hb
      show X.A.units + 1 + 1 + b.depth < cLine
      omega
    · exact wpAny_pure ⟨_, rfl, fin out _ (srt_merge _) er⟩
  · have eR : PySem.W.EachIs (fun v d => ∃ as, Reads (s1.heap.push (seqObj "list" (kd'.map fun z => Value.ref z.1.1).toArray 0)) v d as ∧ s1.heap.objs.size ∉ as) (kd'.map fun z => Value.ref z.1.1) (kd'.map (·.2)) := eachR kd' hk'
    refine wpAny_bind (wpAny_holding (wpAny_call_entry slot_list_sort ⟨_, hoL, rfl⟩ entry_list_sort (SrtO.list_sort_ord (s := { s1 with heap := s1.heap.push (seqObj "list" (kd'.map fun z => Value.ref z.1.1).toArray 0) }) (ltK_swo (s1.heap.push (seqObj "list" (kd'.map fun z => Value.ref z.1.1).toArray 0)) (kd'.map (·.2))) hoL len2 (fun h2 => ?_) fun out r1 r2 => ⟨_, rfl, ?_⟩) (args_list_sort _)))
    · exact gap_sortable h2 (by show X.A.units + 1 + 1 + 80 < cLine; omega) ok'.1 ht hg ok'.2.2 eR fun o ho => by rw [hoL] at ho; cases ho; rfl
    · obtain ⟨g1', g2'⟩ := srt_of (s := { s1 with heap := s1.heap.push (seqObj "list" (kd'.map fun z => Value.ref z.1.1).toArray 0) }) ok'.1 (each kd' hk') (eR.mono fun _ _ ⟨as, r, _⟩ => ⟨as, r⟩) r1 r2.perm
      exact wpAny_pure ⟨_, rfl, fin out _ g1' g2'⟩
/-- the whole: vs a list -/
def rSS (K : KW) (w : World) : List V → Hp → VK → Prop := fun vs H Q => rSetD K w vs H fun v H1 => rSortS K w [v] H1 Q
end
/-- what sorted(set(xs)) may be -/
def SSet (xs ys : List PyData) : Prop := ∃ zs : List PyData, (∀ z ∈ zs, z ∈ xs) ∧ (∀ x ∈ xs, ∃ z ∈ zs, keyOf z = keyOf x) ∧ (zs.map keyOf).Nodup ∧ Srt zs ys
def sSS : PSp
  | [.list xs], q => xs.length < 64 ∧ (∀ d ∈ xs, ∃ ys k, d = .tuple ys ∧ keyOf d = some k ∧ k.depth ≤ 8) ∧ PySem.W.AllAlike xs ∧ (∀ d ∈ xs, d.depth ≤ 64) ∧ ∀ ys, SSet xs ys → q (.own ys)
  | _, _ => False
theorem ps_SS {K : KW} {w : World} : PCall K (rSS K w) sSS := fun F H vs ds Q q s r a k => by
  unfold sSS at a
  split at a
  · rename_i xs
    obtain ⟨few, hk, hal, hdp, hq⟩ := a
    obtain ⟨v, rfl, r1⟩ := dp1 r
    cases r1 with
    | @lst l us _ hs ha =>
      have mk : ∀ {us : List V} {xs : List PyData}, DpAll K F us xs → (∀ d ∈ xs, ∃ ys k, d = .tuple ys ∧ keyOf d = some k ∧ k.depth ≤ 8) → ∃ kd : KD, us = kd.map (fun z => V.ref z.1.1) ∧ kd.map (·.2) = xs ∧ ∀ z ∈ kd, KdOk K F z := fun {us xs} h => by
        induction xs generalizing us with
        | nil => intro _; cases h; exact ⟨[], rfl, rfl, fun z hz => by cases hz⟩
        | cons d xs ih =>
          intro hd
          cases h with
          | cons r rr =>
            obtain ⟨kd, e1, e2, e3⟩ := ih rr fun y hy => hd y (.tail _ hy)
            obtain ⟨ys, ky, rfl, h2, h3⟩ := hd d (.head _)
            cases r with
            | tup hs' ha' tx' =>
              refine ⟨((_, ky), _) :: kd, by rw [List.map_cons, ← e1], by rw [List.map_cons, e2], fun z hz => ?_⟩
              rcases List.mem_cons.mp hz with rfl | hz
              · exact ⟨.tup hs' ha' tx', h2, h3⟩
              · exact e3 z hz
      obtain ⟨kd, rfl, e2, e3⟩ := mk ha hk
      refine ⟨F, l, kd, rfl, s, Evl.ex_l s hs, e3, by rw [← e2, List.length_map] at few; exact few, fun a L hn g1 g2 g3 => ?_⟩
      -- the set's rows and their data
      have pick : ∀ L : KL, (∀ p ∈ L, p ∈ kd.map (·.1)) → ∃ kd2 : KD, kd2.map (·.1) = L ∧ ∀ z ∈ kd2, z ∈ kd := fun L => by
        induction L with
        | nil => exact fun _ => ⟨[], rfl, fun z hz => by cases hz⟩
        | cons p L ih =>
          intro h
          obtain ⟨kd2, a1, a2⟩ := ih fun y hy => h y (.tail _ hy)
          obtain ⟨z, hz, rfl⟩ := List.mem_map.mp (h p (.head _))
          exact ⟨z :: kd2, by rw [List.map_cons, a1], fun y hy => by
            rcases List.mem_cons.mp hy with rfl | hy
            · exact hz
            · exact a2 y hy⟩
      obtain ⟨kd2, rfl, b2⟩ := pick L g1
      have in2 : ∀ d ∈ kd2.map (·.2), d ∈ xs := fun d hd => by
        obtain ⟨z, hz, rfl⟩ := List.mem_map.mp hd
        rw [← e2]
        exact List.mem_map_of_mem (b2 z hz)
      refine ⟨F, a, kd2, rfl, s.trans (same_upd hn), upd_same, fun z hz => e3 z (b2 z hz), ⟨fun d hd d' hd' => hal d (in2 d hd) d' (in2 d' hd'), .inr fun d hd => ?_, fun d hd => hdp _ (in2 _ hd)⟩, fun zs ys p hp pm dv => ?_⟩
      · obtain ⟨us', _, e, _⟩ := hk d (in2 d hd)
        exact ⟨us', e⟩
      · have hpn : H p = none := by
          by_cases e : p = a
          · subst e; exact hn
          · rw [upd_ne e] at hp; exact hp
        have npa : p ≠ a := fun z => by rw [z, upd_same] at hp; cases hp
        have nk : (kd2.map fun z => keyOf z.2).Nodup := by
          have e : (kd2.map fun z => keyOf z.2) = (kd2.map fun z => z.1.2).map some := by
            rw [List.map_map]
            exact List.map_congr_left fun z hz => (e3 z (b2 z hz)).2.1
          rw [e]
          rw [List.map_map] at g3
          exact List.Pairwise.map some (fun _ _ h => fun z => h (Option.some.inj z)) g3
        refine k (.own _) (.ref p) _ F (hq _ ⟨kd2.map (·.2), in2, fun x hx => ?_, ?_, pm⟩) ⟨Same.refl F, (s.trans (same_upd hn)).trans (same_upd hp), fun b u e _ => same_upd hp _ _ (same_upd hn _ _ e), fun b u e => .inl ⟨u, e⟩⟩ ⟨p, ys, rfl, s.free hpn, hpn, upd_same, dv⟩
        · rw [← e2] at hx
          obtain ⟨z, hz, rfl⟩ := List.mem_map.mp hx
          have m := g2 z hz
          rw [List.map_map] at m
          obtain ⟨y, hy, e⟩ := List.mem_map.mp m
          refine ⟨y.2, List.mem_map_of_mem hy, ?_⟩
          rw [(e3 y (b2 y hy)).2.1, (e3 z hz).2.1]
          exact congrArg some e
        · rw [List.map_map]; exact nk
  · exact a.elim
section
variable {X : Fam} {e : Expr} {p p2 p3 pos : Pos} {ta : AAr}
theorem ss_pe (hc : X.X0.calm = true) (hu : Roomy X) (h1 : X.X0.mg "sorted" = none) (h2 : X.X0.mg "set" = none) (g1 : ∀ j, Gl (X.X j) "sorted") (g2 : ∀ j, Gl (X.X j) "set") (hs : ∀ j, starEach [e] (X.X j).env = [(false, eval e (X.X j).env)])
    (hs2 : ∀ j, starEach [.Call (.Name "set" p2) [e] [] p3] (X.X j).env = [(false, eval (.Call (.Name "set" p2) [e] [] p3) (X.X j).env)]) :
    ∀ j t, PA (X.X j) [e] t → PE (X.X j) (.Call (.Name "sorted" p) [.Call (.Name "set" p2) [e] [] p3] [] pos) (fun σ H Q => t σ H fun vs H1 => rSS X.K X.X0.w vs H1 Q) := fun j t ht => by
  have hw : (X.X j).w = X.X0.w := X.hw j
  have hK : (X.X j).K = X.K := X.hK j
  have A1 := pe_callTy (X := X.X j) (p := p2) (pos := p3) (cr_setD (by rw [X.hc j]; exact hc) (by rw [X.hA j]; exact hu)) (g2 j) (by rw [X.hm j]; exact h2) PyProof.Rows.boot_set ht (by decide) (by decide) (hs j) rfl
  have A2 := pe_callB (X := X.X j) (p := p) (pos := pos) (cr_sortS (by rw [X.hc j]; exact hc) (by rw [X.hA j]; exact hu)) (g1 j) (by rw [X.hm j]; exact h1) PyProof.Rows.boot_sorted (pa_cons A1 pa_nil (hs2 j)) (by decide) (by decide) (hs2 j) rfl
  rw [hw, X.hkw j] at A2
  exact A2
theorem al_sset (hc : X.X0.calm = true) (hu : Roomy X) (h1 : X.X0.mg "sorted" = none) (h2 : X.X0.mg "set" = none) (ha : AA X [e] ta) (g1 : ∀ j, Gl (X.X j) "sorted" := by intro _; rfl) (g2 : ∀ j, Gl (X.X j) "set" := by intro _; rfl) (hs : ∀ j, starEach [e] (X.X j).env = [(false, eval e (X.X j).env)] := by intro _; rfl)
    (hs2 : ∀ j, starEach [.Call (.Name "set" p2) [e] [] p3] (X.X j).env = [(false, eval (.Call (.Name "set" p2) [e] [] p3) (X.X j).env)] := by intro _; rfl) :
    AL X (.Call (.Name "sorted" p) [.Call (.Name "set" p2) [e] [] p3] [] pos) fun ρ q => ta ρ fun as ρ1 => ∃ ds, dats as = some ds ∧ sSS ds fun rs => ∃ xs, rs = .own xs ∧ q xs ρ1 := al_pc ps_SS ha (ss_pe hc hu h1 h2 g1 g2 hs hs2)
theorem al_ssetB (hc : X.X0.calm = true) (hu : Roomy X) (h1 : X.X0.mg "sorted" = none) (h2 : X.X0.mg "set" = none) (ha : AA X [e] ta) (g1 : ∀ j, Gl (X.X j) "sorted" := by intro _; rfl) (g2 : ∀ j, Gl (X.X j) "set" := by intro _; rfl) (hs : ∀ j, starEach [e] (X.X j).env = [(false, eval e (X.X j).env)] := by intro _; rfl)
    (hs2 : ∀ j, starEach [.Call (.Name "set" p2) [e] [] p3] (X.X j).env = [(false, eval (.Call (.Name "set" p2) [e] [] p3) (X.X j).env)] := by intro _; rfl) :
    AL X (.Call (.Name "sorted" p) [.Call (.Name "set" p2) [e] [] p3] [] pos) fun ρ q => ta ρ fun as ρ1 => ∃ ds, argD ρ1 as = some ds ∧ sSS ds fun rs => ∃ xs, rs = .own xs ∧ lfAll xs = true ∧ q xs ρ1 := al_pcB ps_SS ha (ss_pe hc hu h1 h2 g1 g2 hs hs2)
end
end OS

/-! OSord: orders of typed data; sorted lists; loops over ranges. -/
namespace OS
open PySem L2 PyProof.Rows PySem.W

theorem dlt_tot {x y : PyData} (h : alike x y = true) (h1 : dataLt x y = false) (h2 : dataLt y x = false) : PyData.eqv x y = true := by
  cases e : PyData.eqv x y with
  | true => rfl
  | false =>
    exfalso
    have k : keyToks x = keyToks y := lex_total _ _ h1 h2
    have z := (toks_eqv x y h).2 e [] [Sum.inl 0]
    rw [k, lex_pre, lex_irrefl] at z
    cases z
/-- a list that comes by sorting, typed -/
theorem perm_map {α β : Type} {f : α → β} : ∀ {ys : List β} {xs : List α}, ys.Perm (xs.map f) → ∃ zs : List α, zs.Perm xs ∧ ys = zs.map f
  | [], xs, p => by
    have : xs.map f = [] := p.symm.eq_nil
    cases xs with
    | nil => exact ⟨[], .refl _, rfl⟩
    | cons _ _ => cases this
  | y :: ys, xs, p => by
    obtain ⟨x, hx, rfl⟩ := List.mem_map.mp (p.mem_iff.mp (.head _))
    obtain ⟨l1, l2, rfl⟩ := List.append_of_mem hx
    have pm : (l1 ++ x :: l2).Perm (x :: (l1 ++ l2)) := List.perm_middle
    obtain ⟨zs, h1, h2⟩ := perm_map ((p.trans (pm.map f)).cons_inv)
    exact ⟨x :: zs, (h1.cons x).trans pm.symm, by rw [List.map_cons, ← h2]⟩
section
variable {α : Type} [DecidableEq α] [DatumOrd α]
theorem lt_tot {a b : α} (h1 : DatumOrd.lt a b = false) (h2 : DatumOrd.lt b a = false) : a = b := by
  have := dlt_tot (DatumOrd.alike a b) ((DatumOrd.lt_eq a b).trans h1) ((DatumOrd.lt_eq b a).trans h2)
  rw [Datum.eqv] at this
  exact of_decide_eq_true this
theorem lt_irr (a : α) : DatumOrd.lt a a = false := (DatumOrd.lt_eq a a).symm.trans (dataLt_self _)
theorem srt_typed {xs : List α} {ys : List PyData} (h : Srt (xs.map Datum.toD) ys) : ∃ zs : List α, ys = zs.map Datum.toD ∧ zs.Perm xs ∧ zs.Pairwise fun a b => DatumOrd.lt b a = false := by
  obtain ⟨p, w⟩ := h
  obtain ⟨zs, h1, rfl⟩ := perm_map p
  refine ⟨zs, rfl, h1, (List.pairwise_map.mp w).imp fun {a b} h => ?_⟩
  rw [DatumOrd.lt_eq] at h
  exact h
/-- without equal items: strictly -/
theorem srt_strict {zs : List α} (h : zs.Pairwise fun a b => DatumOrd.lt b a = false) (n : zs.Nodup) : zs.Pairwise fun a b => DatumOrd.lt a b = true := by
  refine (h.and n).imp fun {a b} ⟨h1, h2⟩ => ?_
  cases e : DatumOrd.lt a b with
  | true => rfl
  | false => exact absurd (lt_tot e h1) h2
theorem alike_typed (xs : List α) : AllAlike (xs.map Datum.toD) := fun d hd d' hd' => by
  obtain ⟨a, _, rfl⟩ := List.mem_map.mp hd
  obtain ⟨b, _, rfl⟩ := List.mem_map.mp hd'
  exact DatumOrd.alike a b
theorem depth_typed (h : Datum.depth α ≤ 64) (xs : List α) : ∀ d ∈ xs.map Datum.toD, d.depth ≤ 64 := fun d hd => by
  obtain ⟨a, _, rfl⟩ := List.mem_map.mp hd
  exact Nat.le_trans (Datum.depth_le a) h
theorem sset_typed {xs : List α} {ys : List PyData} (h : SSet (xs.map Datum.toD) ys) : ∃ zs : List α, ys = zs.map Datum.toD ∧ (∀ z ∈ zs, z ∈ xs) ∧ zs.Pairwise (fun a b => DatumOrd.lt a b = true) ∧ ∀ x ∈ xs, ∃ z ∈ zs, keyOf (Datum.toD z) = keyOf (Datum.toD x) := by
  obtain ⟨us, h1, h2, h3, h4⟩ := h
  have pick : ∀ us : List PyData, (∀ z ∈ us, z ∈ xs.map Datum.toD) → ∃ vs : List α, us = vs.map Datum.toD ∧ ∀ z ∈ vs, z ∈ xs := fun us => by
    induction us with
    | nil => exact fun _ => ⟨[], rfl, fun z hz => by cases hz⟩
    | cons u us ih =>
      intro h
      obtain ⟨vs, e, hv⟩ := ih fun z hz => h z (.tail _ hz)
      obtain ⟨x, hx, rfl⟩ := List.mem_map.mp (h u (.head _))
      exact ⟨x :: vs, by rw [List.map_cons, e], fun z hz => by
        rcases List.mem_cons.mp hz with rfl | hz
        · exact hx
        · exact hv z hz⟩
  obtain ⟨vs, rfl, hv⟩ := pick us h1
  obtain ⟨zs, rfl, p, w⟩ := srt_typed h4
  have nv : vs.Nodup := by
    rw [List.map_map] at h3
    exact List.Pairwise.of_map _ (fun a b n e => n (by rw [e])) h3
  refine ⟨zs, rfl, fun z hz => hv z (p.mem_iff.mp hz), srt_strict w (p.nodup_iff.mpr nv), fun x hx => ?_⟩
  obtain ⟨z, hz, e⟩ := h2 _ (List.mem_map_of_mem hx)
  obtain ⟨v, hv', rfl⟩ := List.mem_map.mp hz
  exact ⟨v, p.mem_iff.mpr hv', e⟩
end

/-! what < asks -/
def LtOk (d e : PyData) : Prop := ∀ q : PyData → Prop, q (.bool true) → dLt d e q
theorem ltOk_typed {α : Type} [DecidableEq α] [DatumOrd α] (h : Datum.depth α ≤ 64) {a b : α} (z : DatumOrd.lt a b = true) : LtOk (Datum.toD a) (Datum.toD b) := fun q hq => by
  have r : roLt (Datum.toD a) (Datum.toD b) q := ⟨DatumOrd.alike a b, DatumOrd.notNone a, Nat.le_trans (Datum.depth_le a) h, by rw [DatumOrd.lt_eq, z]; exact hq⟩
  unfold dLt
  split
  · rename_i i j e1 e2
    rw [e1, e2] at r
    obtain ⟨_, _, _, r⟩ := r
    rw [dataLt_int] at r
    exact r
  · exact r
/-- a list in which each is less than the next -/
def Asc (xs : List PyData) : Prop := ∀ (i : Nat) (d e : PyData), xs[i]? = some d → xs[i + 1]? = some e → LtOk d e
theorem asc_typed {α : Type} [DecidableEq α] [DatumOrd α] (h : Datum.depth α ≤ 64) {xs : List α} (p : xs.Pairwise fun a b => DatumOrd.lt a b = true) : Asc (xs.map Datum.toD) := fun i d e h1 h2 => by
  rw [List.getElem?_map] at h1 h2
  obtain ⟨a, ha, rfl⟩ := Option.map_eq_some_iff.mp h1
  obtain ⟨b, hb, rfl⟩ := Option.map_eq_some_iff.mp h2
  obtain ⟨la, rfl⟩ := List.getElem?_eq_some_iff.mp ha
  obtain ⟨lb, rfl⟩ := List.getElem?_eq_some_iff.mp hb
  exact ltOk_typed h (List.pairwise_iff_getElem.mp p i (i + 1) la lb (Nat.lt_succ_self i))
/-! the items of a range -/
theorem rng_get {lo : Int} {n i : Nat} {d : PyData} (h : (rng lo n)[i]? = some d) : d = .int (lo + (i : Int)) ∧ i < n := by
  unfold rng at h
  rw [List.getElem?_map] at h
  obtain ⟨j, hj, rfl⟩ := Option.map_eq_some_iff.mp h
  obtain ⟨l, e⟩ := List.getElem?_eq_some_iff.mp hj
  rw [List.length_range] at l
  rw [List.getElem_range] at e
  exact ⟨by rw [← e], l⟩
theorem rng_len {lo : Int} {n : Nat} : (rng lo n).length = n := by unfold rng; rw [List.length_map, List.length_range]
/-- a comprehension that only reads -/
theorem ex_lc {ds : List PyData} {ρ : List AV} {B : (Nat → List PyData → List AV → Prop) → Nat → PyData → List PyData → List AV → Prop} {q : List PyData → List AV → Prop} (f : PyData → Option PyData)
    (turn : ∀ (I : Nat → List PyData → List AV → Prop) i d acc, ds[i]? = some d → (∀ y, f d = some y → I (i + 1) (acc ++ [y]) ρ) → (f d = none → I (i + 1) acc ρ) → B I i d acc ρ) (fin : q (ds.filterMap f) ρ) :
    ∃ I : Nat → List PyData → List AV → Prop, I 0 [] ρ ∧ (∀ i d acc ρ2, ds[i]? = some d → I i acc ρ2 → B I i d acc ρ2) ∧ ∀ acc ρ2, I ds.length acc ρ2 → q acc ρ2 := by
  refine ⟨fun i acc ρ2 => ρ2 = ρ ∧ acc = (ds.take i).filterMap f, ⟨rfl, rfl⟩, fun i d acc ρ2 hd ⟨e1, e2⟩ => ?_, fun acc ρ2 ⟨e1, e2⟩ => ?_⟩
  · subst e1 e2
    have tk : ds.take (i + 1) = ds.take i ++ [d] := by rw [List.take_succ, hd]; rfl
    refine turn _ i d _ hd (fun y hy => ⟨rfl, ?_⟩) fun hn => ⟨rfl, ?_⟩
    · rw [tk, List.filterMap_append]; simp [hy]
    · rw [tk, List.filterMap_append]; simp [hn]
  · subst e1 e2
    rw [List.take_length]
    exact fin
/-- .. that takes every item -/
theorem ex_lcm {ds : List PyData} {ρ : List AV} {B : (Nat → List PyData → List AV → Prop) → Nat → PyData → List PyData → List AV → Prop} {q : List PyData → List AV → Prop} (f : PyData → PyData)
    (turn : ∀ (I : Nat → List PyData → List AV → Prop) i d acc, ds[i]? = some d → I (i + 1) (acc ++ [f d]) ρ → B I i d acc ρ) (fin : q (ds.map f) ρ) :
    ∃ I : Nat → List PyData → List AV → Prop, I 0 [] ρ ∧ (∀ i d acc ρ2, ds[i]? = some d → I i acc ρ2 → B I i d acc ρ2) ∧ ∀ acc ρ2, I ds.length acc ρ2 → q acc ρ2 := by
  refine ex_lc (fun d => some (f d)) (fun I i d acc hd h _ => turn I i d acc hd (h _ rfl)) ?_
  have e : (ds.filterMap fun d => some (f d)) = ds.map f := by
    have := List.filterMap_eq_map (f := f)
    exact congrFun this ds
  rw [e]
  exact fin
theorem all_true {α : Type} {xs : List α} : ∃ bs : List Bool, xs.map (fun _ => PyData.bool true) = bs.map .bool ∧ bs.all id = true := ⟨xs.map fun _ => true, by rw [List.map_map]; rfl, by simp⟩
end OS

/-! OSsd: len, list, tuple, sorted of dicts. -/
namespace OS
open PySem L2 PySem.W PySem.Spec PyProof.Rows

section
variable {X : Cx} {pins : List (Addr × Obj)} {σ : L2.St} {H F : Hp} {s : Shared}
/-- the keys of a dict, collected -/
theorem keys_each {w : World} {K : KW} : ∀ {L : DL} {kvs : List (PyData × PyData)} {es : List DictEntry}, DpL K F L kvs → Paired (EntOk w) L es → EachIs (SrtR K F) (es.map (·.key)) (kvs.map (·.1))
  | _, _, _, .nil, .nil => .nil
  | _, _, _, .cons h _ _ _ r, .cons a b => .cons ⟨_, a.1, h⟩ (keys_each r b)
theorem items_keys {es : Array DictEntry} {acc : Array Value} (h : ItemsOf (fun i v => ∃ hi : i < es.size, v = es[i].key) acc es.size) : acc.toList = es.toList.map (·.key) := by
  apply List.ext_getElem?
  intro i
  rw [List.getElem?_map, Array.getElem?_toList, Array.getElem?_toList]
  by_cases hi : i < es.size
  · obtain ⟨v, hv⟩ : ∃ v, acc[i]? = some v := ⟨acc[i]'(by rw [h.1]; exact hi), Array.getElem?_eq_getElem _⟩
    obtain ⟨h1, h2⟩ := h.2 i v hv
    rw [hv, h2, Array.getElem?_eq_getElem hi]
    rfl
  · rw [Array.getElem?_eq_none (by rw [h.1]; omega), Array.getElem?_eq_none (by omega)]
    rfl
theorem obj_there (I : Inv X pins σ H s) {a : Addr} {o : HO} (e : H a = some o) : ∃ u, s.heap.get? a = some u := objOk_get (I.hok a o e)
/-- sorted(..) of what is collected -/
theorem sorted_any (hu : X.A.units + 100 < cLine) (I : Inv X pins σ H s) {v0 : Value} (sF : Same F H) {ds : List PyData} {Q : VK}
    (col : ∀ (E : Value → Shared → Prop) (R : List Value → Shared → Prop), (∀ (h' : Heap) (tk : Nat) (acc : List Value), (∀ b o, s.heap.get? b = some o → h'.get? b = some o) → EachIs (SrtR (kw X) F) acc ds → acc.length ≤ sizeLine → R acc { s with heap := h', toks := tk }) → wpAny (model X.prog X.w) X.A.in1 (collect v0) R E s)
    (ok : SrtOk ds) (q : ∀ ds' ys p, H p = none → Srt ds ds' → DpAll (kw X) F ys ds' → Q (.ref p) (upd H p (.lst ys))) :
    wpAny (model X.prog X.w) X.A (call (.builtin "sorted") [v0]) (EP X pins σ Q) X.xe s := by
  refine Calls.call_function_entry kind_sorted plain_sorted entry_sorted (args_sorted1 _) ?_
  unfold Builtin.«sorted»
  refine wpAny_bind (m := checkCount "sorted" 1 1 _) (wpAny_pure (wpAny_bind (col _ _ fun h' tk vs keep each la => ?_)))
  have er : EachIs (fun v d => ∃ as, Reads s.heap v d as) vs ds := each.mono fun v b ⟨x, rx, dx⟩ => Dp.reads I (dp_mono sF dx) rx
  refine wpAny_bind (wpAny_newList ?_ la)
  have here : (h'.push (seqObj "list" vs.toArray 0)).get? h'.objs.size = some (seqObj "list" vs.toArray 0) := Heap.get?_push_size _ rfl
  have up : ∀ b o, s.heap.get? b = some o → (h'.push (seqObj "list" vs.toArray 0)).get? b = some o := fun b o e => Heap.get?_push_of_some _ (keep b o e)
  have eR : EachIs (fun v d => ∃ as, Reads (h'.push (seqObj "list" vs.toArray 0)) v d as ∧ h'.objs.size ∉ as) vs ds := er.mono fun v b ⟨as, rd⟩ => ⟨as, Reads.keeps up rd, fun z => by
    obtain ⟨o, e⟩ := noList rd _ z
    exact Nat.lt_irrefl _ (Heap.lt_size (keep _ _ e))⟩
  have done : ∀ (out : List Value) (ds' : List PyData), Srt ds ds' → EachIs (SrtR (kw X) F) out ds' → EP X pins σ Q (.ref h'.objs.size) { s with heap := sortedHeap (h'.push (seqObj "list" vs.toArray 0)) h'.objs.size vs out.toArray, toks := tk } := fun out ds' hs eo => by
    obtain ⟨ys, rv, dv⟩ := srt_back eo
    obtain ⟨c, at'⟩ := sortedHeap_at (vs := vs) (out := out.toArray) here
    have old : ∀ b u, s.heap.get? b = some u → (sortedHeap (h'.push (seqObj "list" vs.toArray 0)) h'.objs.size vs out.toArray).get? b = some u := fun b u e => by
      have lt := Heap.lt_size (keep b u e)
      rw [sortedHeap_old (Nat.ne_of_lt lt) (by rw [size_push']; exact Nat.lt_succ_of_lt lt)]
      exact up b u e
    have ly : ys.length ≤ sizeLine := by
      have e1 : vs.length = ds.length := each.length
      rw [dpAll_len dv, hs.1.length_eq, ← e1]
      exact la
    have gone : s.heap.get? h'.objs.size = none := by
      cases e : s.heap.get? h'.objs.size with
      | none => rfl
      | some o => exact absurd (Heap.lt_size (keep _ _ e)) (Nat.lt_irrefl _)
    have nn : H h'.objs.size = none := by
      cases e : H h'.objs.size with
      | none => rfl
      | some o =>
        obtain ⟨u, hu⟩ := obj_there I e
        rw [gone] at hu
        cases hu
    exact ⟨.ref h'.objs.size, upd H h'.objs.size (.lst ys), L2.Inv.laidN (t' := tk) I old gone nn ⟨ly, out, c, rv, at'⟩, rfl, q _ ys _ nn hs dv⟩
  rcases srtOk_cases ok with sr | ⟨ht, hg⟩
  · refine wpAny_bind (wpAny_holding (list_sort_data (s := { s with heap := h'.push (seqObj "list" vs.toArray 0), toks := tk }) (R := SrtR (kw X) F) (enc := id) here each eR (by rw [List.map_id]; exact ok.1) (by rw [List.map_id]; exact sr) (by rw [← each.length]; exact la) (fun b hb => ?_) fun out ol eo => ?_))
    · have := ok.2.2 b hb
      show X.A.units + 1 + 1 + b.depth < cLine
      omega
    · exact wpAny_pure ⟨_, rfl, done out _ (srt_merge _) eo⟩
  · refine wpAny_bind (wpAny_holding (wpAny_call_entry slot_list_sort ⟨_, here, rfl⟩ entry_list_sort (SrtO.list_sort_ord (s := { s with heap := h'.push (seqObj "list" vs.toArray 0), toks := tk }) (ltK_swo (h'.push (seqObj "list" vs.toArray 0)) ds) here la (fun h2 => ?_) fun out r1 r2 => ⟨_, rfl, ?_⟩) (args_list_sort _)))
    · exact gap_sortable h2 (by show X.A.units + 1 + 1 + 80 < cLine; omega) ok.1 ht hg ok.2.2 eR fun o ho => by rw [here] at ho; cases ho; rfl
    · obtain ⟨g1, g2⟩ := srt_of (s := { s with heap := h'.push (seqObj "list" vs.toArray 0), toks := tk }) ok.1 each (eR.mono fun _ _ ⟨as, r, _⟩ => ⟨as, r⟩) r1 r2.perm
      exact wpAny_pure ⟨_, rfl, done out _ g1 g2⟩
end

/-! ### calls over a dict -/
section
variable {X : Cx}
theorem sorted_src (hc : X.calm = true) (hu : X.A.units + 100 < cLine) (I : Inv X pins σ H s) {T : String} {r d : Addr} {n : Nat} {P : Nat → Value → Prop} {OK : Heap → Prop} (src : KdlSrc X.prog X.w T r d n P OK) (hok : OK s.heap) (hn : n ≤ sizeLine) (sF : Same F H) {ds : List PyData} {Q : VK}
    (hi : ∀ acc : Array Value, ItemsOf P acc n → EachIs (SrtR (kw X) F) acc.toList ds) (ok : SrtOk ds) (q : ∀ ds' ys p, H p = none → Srt ds ds' → DpAll (kw X) F ys ds' → Q (.ref p) (upd H p (.lst ys))) :
    wpAny (model X.prog X.w) X.A (call (.builtin "sorted") [.ref r]) (EP X pins σ Q) X.xe s :=
  sorted_any hu I sF (fun E R k => kdu_collect (A := X.A.in1) src (I.ok.hd hc) hok hn fun h' tk acc keep ha => k h' tk acc.toList keep (hi acc ha) (by rw [Array.length_toList, ha.1]; exact hn)) ok q
/-- sorted(t), t a tuple -/
def rSortT2 (K : KW) : List V → Hp → VK → Prop := fun vs H Q => ∃ (F : Hp) (a : Addr) (xs : List V) (ds : List PyData), vs = [.ref a] ∧ SqT K H a xs ∧ Same F H ∧ DpAll K F xs ds ∧ SrtOk ds ∧
  ∀ (ds' : List PyData) (ys : List V) (p : Addr), H p = none → Srt ds ds' → DpAll K F ys ds' → Q (.ref p) (upd H p (.lst ys))
theorem cr_sortT2 {X : Cx} (hu : X.A.units + 100 < cLine) : CallR X (.builtin "sorted") (rSortT2 (kw X)) := fun pins s σ H vs us Q I r h => by
  obtain ⟨F, a, xs, ds, rfl, hs, sF, hd, ok, q⟩ := h
  obtain ⟨its, rv, ⟨o, ho, hcl, n, hdt⟩, hz⟩ := I.tuple hs
  rw [Vals.ref1 r]
  have e := srt_each rv hd
  have hl : its.length ≤ sizeLine := by rw [← rv.length]; exact hz
  exact sorted_any hu I sF (fun E R k => wpAny_collect_seq a (.inr rfl) ho hcl hdt (fun h' keep => k h' s.toks its keep e hl) (by rw [List.size_toArray]; exact hl)) ok fun ds' ys p hp hs' hy => q ds' ys p hp hs' hy

theorem dict_src {pins : List (Addr × Obj)} {σ : L2.St} {H : Hp} {s : Shared} (I : Inv X pins σ H s) {F : Hp} (sub : Same F H) {v : V} {kvs : List (PyData × PyData)} (dp : Dp (kw X) F v (.dict kvs)) : ∃ (d : Addr) (es : Array DictEntry) (ep : Nat), v = .ref d ∧ (d == sysModules) = false ∧ s.heap.DictRaw d es ep ∧ es.size = kvs.length ∧ kvs.length ≤ 16777216 ∧
    EachIs (SrtR (kw X) F) (es.toList.map (·.key)) (kvs.map (·.1)) := by
  cases dp with
  | dct e r =>
    have n := dObj_of I.hok (sub _ _ e)
    obtain ⟨es, ep, hd, pr⟩ := n.ent
    exact ⟨_, es, ep, rfl, n.sys, ⟨_, n.get, n.ex, hd⟩, by rw [← Array.length_toList, ← Paired.length pr, dpL_len r], by rw [← dpL_len r]; exact n.len, keys_each r pr⟩
def rLenC (K : KW) : List V → Hp → VK → Prop := fun xs H Q => ∃ F v kvs, xs = [v] ∧ Same F H ∧ Dp K F v (.dict kvs) ∧ Q (.int kvs.length) H
theorem cr_lenC : CallR X (.builtin "len") (rLenC (kw X)) := fun pins s σ H xs us Q I r h => by
  obtain ⟨F, v, kvs, rfl, sub, dp, q⟩ := h
  obtain ⟨d, es, ep, rfl, hs, raw, sz, le, _⟩ := dict_src I sub dp
  rw [Vals.ref1 r]
  refine PyProof.Rows.call_len_slot (n := es.size) raw.typeIs PySem.F.slot_dict_len (fun Q' hq => call_len_raw hs raw hq) (by omega) (by have := line63; rw [sizeLine_eq] at this; omega) ?_
  rw [sz]
  exact ⟨.int kvs.length, H, I.tok _, ⟨_, rfl⟩, q⟩
def rListC (K : KW) : List V → Hp → VK → Prop := fun xs H Q => ∃ F v kvs, xs = [v] ∧ Same F H ∧ Dp K F v (.dict kvs) ∧ ∀ p ys, H p = none → DpAll K F ys (kvs.map (·.1)) → Q (.ref p) (upd H p (.lst ys))
theorem cr_listC (hc : X.calm = true) : CallR X (.type "list") (rListC (kw X)) := fun pins s σ H xs us Q I r h => by
  obtain ⟨F, v, kvs, rfl, sub, dp, q⟩ := h
  obtain ⟨d, es, ep, rfl, hs, raw, sz, le, ek⟩ := dict_src I sub dp
  rw [Vals.ref1 r]
  have hz : es.size ≤ sizeLine := by rw [sz, sizeLine_eq]; exact le
  refine kdl_call (KdlSrc.rawDict hs) (I.ok.hd hc) raw hz fun h' tk acc c keep at' ha => ?_
  have eq := items_keys ha
  rw [← eq] at ek
  obtain ⟨ys, rv, dv⟩ := srt_back ek
  have ly : ys.length ≤ sizeLine := by rw [rv.length, Array.length_toList, ha.1]; exact hz
  exact ⟨.ref s.heap.objs.size, upd H s.heap.objs.size (.lst ys), I.laid (t' := tk) keep (Nat.le_refl _) ⟨ly, acc.toList, c, rv, by rw [Array.toArray_toList]; exact at'⟩, rfl, q _ ys I.fresh dv⟩
def rSortC (K : KW) : List V → Hp → VK → Prop := fun xs H Q => ∃ F v kvs, xs = [v] ∧ Same F H ∧ Dp K F v (.dict kvs) ∧ SrtOk (kvs.map (·.1)) ∧ ∀ ds' p ys, H p = none → Srt (kvs.map (·.1)) ds' → DpAll K F ys ds' → Q (.ref p) (upd H p (.lst ys))
theorem cr_sortC (hc : X.calm = true) (hu : X.A.units + 100 < cLine) : CallR X (.builtin "sorted") (rSortC (kw X)) := fun pins s σ H xs us Q I r h => by
  obtain ⟨F, v, kvs, rfl, sub, dp, ok, q⟩ := h
  obtain ⟨d, es, ep, rfl, hs, raw, sz, le, ek⟩ := dict_src I sub dp
  rw [Vals.ref1 r]
  exact sorted_src hc hu I (KdlSrc.rawDict hs) raw (by rw [sz, sizeLine_eq]; exact le) sub (fun acc ha => by rw [items_keys ha]; exact ek) ok fun ds' ys p hp hs' hy => q ds' p ys hp hs' hy
end
end OS

/-! OSx: further built-ins and methods: dicts in len, list, sorted; get; extend, reverse; zip. -/
namespace OS
open PySem L2 PySem.W PySem.Spec PyProof.Rows

/-! ### len, list, sorted, dicts too -/
def sLenX : PSp
  | [.list xs], q => q (.d (.int (xs.length : Nat)))
  | [.tuple xs], q => q (.d (.int (xs.length : Nat)))
  | [.str z], q => z.length ≤ 16777216 ∧ q (.d (.int (z.length : Nat)))
  | [.dict kvs], q => q (.d (.int (kvs.length : Nat)))
  | _, _ => False
theorem ps_lenX {K : KW} : PCall K (fun xs H Q => rLen K xs H Q ∨ rLenC K xs H Q) sLenX := fun F H vs ds Q q s r a k => by
  unfold sLenX at a
  split at a
  · exact .inl (ps_len F H vs [.list _] Q q s r a k)
  · exact .inl (ps_len F H vs [.tuple _] Q q s r a k)
  · exact .inl (ps_len F H vs [.str _] Q q s r a k)
  · obtain ⟨v, rfl, r1⟩ := dp1 r
    exact .inr ⟨F, v, _, rfl, s, r1, k (.d _) _ _ F a (After.refl s) (.int _)⟩
  · exact a.elim
def sListX : PSp
  | [.list xs], q => q (.own xs)
  | [.tuple xs], q => q (.own xs)
  | [.dict kvs], q => q (.own (kvs.map (·.1)))
  | _, _ => False
abbrev rListO (K : PySem.W.Frag) : List V → Hp → VK → Prop := fun xs H Q => ∃ p ys, xs = [.ref p] ∧ (SqL K H p ys ∨ SqT K H p ys) ∧ ∀ l, H l = none → Q (.ref l) (upd H l (.lst ys))
theorem ps_listX {K : KW} : PCall K (fun xs H Q => rListO K xs H Q ∨ rListC K xs H Q) sListX := fun F H vs ds Q q s r a k => by
  unfold sListX at a
  split at a
  · exact .inl (ps_list F H vs [.list _] Q q s r a k)
  · exact .inl (ps_list F H vs [.tuple _] Q q s r a k)
  · obtain ⟨v, rfl, r1⟩ := dp1 r
    exact .inr ⟨F, v, _, rfl, s, r1, fun p ys hp hy => k (.own _) _ _ F a (After.own s hp) ⟨p, _, rfl, s.free hp, hp, upd_same, hy⟩⟩
  · exact a.elim
def sSortX : PSp
  | [.list xs], q => SrtOk xs ∧ ∀ ys, Srt xs ys → q (.own ys)
  | [.dict kvs], q => SrtOk (kvs.map (·.1)) ∧ ∀ ys, Srt (kvs.map (·.1)) ys → q (.own ys)
  | [.tuple xs], q => SrtOk xs ∧ ∀ ys, Srt xs ys → q (.own ys)
  | _, _ => False
theorem ps_sortX {K : KW} : PCall K (fun xs H Q => (rSortG K xs H Q ∨ rSortC K xs H Q) ∨ rSortT2 K xs H Q) sSortX := fun F H vs ds Q q s r a k => by
  unfold sSortX at a
  split at a
  · exact .inl (.inl (ps_sortG F H vs [.list _] Q q s r a k))
  · obtain ⟨v, rfl, r1⟩ := dp1 r
    exact .inl (.inr ⟨F, v, _, rfl, s, r1, a.1, fun ds' p ys hp hs hy => k (.own _) _ _ F (a.2 ds' hs) (After.own s hp) ⟨p, _, rfl, s.free hp, hp, upd_same, hy⟩⟩)
  · obtain ⟨v, rfl, r1⟩ := dp1 r
    cases r1 with
    | tup hs ha tx => exact .inr ⟨F, _, _, _, rfl, Evl.ex_t s hs, s, ha, a.1, fun ds' ys p hp hs' hy => k (.own _) _ _ F (a.2 ds' hs') (After.own s hp) ⟨p, _, rfl, s.free hp, hp, upd_same, hy⟩⟩
  · exact a.elim
section
variable {X : Fam} {e : Expr} {p pos : Pos}
theorem bu_lenX (hm : X.X0.mg "len" = none) (hg : ∀ j, Gl (X.X j) "len" := by intro _; rfl) (he : ∀ j, starEach [e] (X.X j).env = [(false, eval e (X.X j).env)] := by intro _; rfl) : Bi X "len" e [] p pos (fun xs H Q => rLen X.K xs H Q ∨ rLenC X.K xs H Q) :=
  bu_f (fun j => by rw [← X.hkw j]; exact (call_len_seq.or call_len_str).or cr_lenC) PySem.boot_len hm hg (by decide) (by decide) he (by intro _; rfl)
theorem bu_listX (hc : X.X0.calm = true) (hm : X.X0.mg "list" = none) (hg : ∀ j, Gl (X.X j) "list" := by intro _; rfl) (he : ∀ j, starEach [e] (X.X j).env = [(false, eval e (X.X j).env)] := by intro _; rfl) : Bi X "list" e [] p pos (fun xs H Q => rListO X.K xs H Q ∨ rListC X.K xs H Q) :=
  bu_t (fun j => by rw [← X.hkw j]; exact CallR.or call_list_of (cr_listC (by rw [X.hc j]; exact hc))) PyProof.Rows.boot_list hm hg (by decide) (by decide) he (by intro _; rfl)
theorem bu_sortX (hc : X.X0.calm = true) (hu : Roomy X) (hm : X.X0.mg "sorted" = none) (hg : ∀ j, Gl (X.X j) "sorted" := by intro _; rfl) (he : ∀ j, starEach [e] (X.X j).env = [(false, eval e (X.X j).env)] := by intro _; rfl) : Bi X "sorted" e [] p pos (fun xs H Q => (rSortG X.K xs H Q ∨ rSortC X.K xs H Q) ∨ rSortT2 X.K xs H Q) :=
  bu_f (fun j => by rw [← X.hkw j]; exact ((cr_sortG (by rw [X.hA j]; exact hu)).or (cr_sortC (by rw [X.hc j]; exact hc) (by rw [X.hA j]; exact hu))).or (cr_sortT2 (by rw [X.hA j]; exact hu))) PyProof.Rows.boot_sorted hm hg (by decide) (by decide) he (by intro _; rfl)
end

/-! ### a slot's dict let go -/
theorem Sto.letD {W : Wd} {ρ : List AV} {F : Hp} {σ : L2.St} {H : Hp} (S : Sto W ρ F σ H) {i : Nat} {kvs : List (PyData × PyData)} (h : ρ[i]? = some (.dk kvs)) :
    ∃ p o, σ[i]? = some (some (.ref p)) ∧ H p = some o ∧ DcO W.K F p o kvs ∧ Sto W (ρ.set i .no) F σ (del H p) := by
  obtain ⟨ad, hs, hp⟩ := id S.slots
  obtain ⟨a, b, c, o, e1, e2⟩ := hs i _ h
  have hi : i < ρ.length := (List.getElem?_eq_some_iff.mp h).1
  have nt : W.tk ≠ some (ad i) := fun z => S.wt _ z c
  refine ⟨ad i, o, a, e1, e2, ⟨fun x u ex => ?_, S.base, S.fr, fun x u ex t => ?_, fun x u t ex => ?_, ⟨ad, fun j x e => ?_, fun j k x y f1 f2 v1 v2 ne => ?_⟩, by rw [List.length_set]; exact S.len, S.wt⟩⟩
  · rw [del_ne fun z => by rw [z, b] at ex; cases ex]; exact S.sub x u ex
  · rw [del_ne fun z => by rw [z, c] at ex; cases ex]; exact S.keep x u ex t
  · obtain ⟨o', q⟩ := S.tkk x u t ex
    exact ⟨o', by rw [del_ne fun z => nt (by rw [← z]; exact t)]; exact q⟩
  · by_cases hj : i = j
    · subst hj
      rw [List.getElem?_set_self hi] at e
      cases e
      trivial
    · rw [List.getElem?_set_ne hj] at e
      have q := hs j x e
      have nd : vol x = true → ad j ≠ ad i := fun v => hp j i x _ e h v rfl (Ne.symm hj)
      cases x with
      | ml xs => obtain ⟨a, b, c, vs, g1, g2⟩ := q; exact ⟨a, b, c, vs, by rw [del_ne (nd rfl)]; exact g1, g2⟩
      | tank n => obtain ⟨a, b, c, p, q, r, g1, g2⟩ := q; exact ⟨a, b, c, p, q, r, by rw [del_ne (nd rfl)]; exact g1, g2⟩
      | tk3 p' q' r' => obtain ⟨a, b, c, g1⟩ := q; exact ⟨a, b, c, by rw [del_ne (nd rfl)]; exact g1⟩
      | dk kvs => obtain ⟨a, b, c, u, g1, g2⟩ := q; exact ⟨a, b, c, u, by rw [del_ne (nd rfl)]; exact g1, g2⟩
      | no => trivial
      | d x => exact q
      | cl T => exact q
  · have back : ∀ {m z}, (ρ.set i .no)[m]? = some z → vol z = true → ρ[m]? = some z := fun {m z} e v => by
      by_cases hm : i = m
      · subst hm
        rw [List.getElem?_set_self hi] at e
        cases e
        cases v
      · rw [List.getElem?_set_ne hm] at e; exact e
    exact hp j k x y (back f1 v1) (back f2 v2) v1 v2 ne
section
variable {X : Fam} {e f a b : Expr} {te tf ta tb : ATr} {x : Str} {px apos pos : Pos}
theorem ae_varD (i : Nat) (hN : ∀ j, (X.X j).N[i]? = some x := by intro _; rfl) (hv : ∀ j, Vis (X.X j).env.scope x := by intro _; first | exact Or.inl rfl | exact Or.inr (Or.inl rfl) | exact Or.inr (Or.inr rfl)) (hd : (x == ("__debug__" : Str)) = false := by decide)
    (hcd : (x == ("__classdict__" : Str)) = false := by decide) : AE X (.Name x pos) fun ρ q => ∃ kvs, ρ[i]? = some (.dk kvs) ∧ q (.dict kvs) (ρ.set i (.d (.dict kvs))) := by
  refine ⟨_, fun j => pe_var (hN j) (hv j) hd hcd, fun W ρ F σ H Q q hk S ht k => ?_⟩
  obtain ⟨kvs, hx, hq⟩ := ht
  obtain ⟨p, o, h1, h2, h3, S2⟩ := S.letD hx
  have S3 := S2.freeze h2
  have r : Dp W.K (upd F p o) (.ref p) (.dict kvs) := dcO_dp (S2.frozen h2) upd_same h3
  refine ⟨_, h1, k _ _ _ _ H ?_ (S2.frozen h2) (hk ▸ r) hq⟩
  have S4 := S3.setd (i := i) r
  have es : σ.set i (some (.ref p)) = σ := by
    apply List.ext_getElem?
    intro n
    by_cases hn : i = n
    · subst hn
      rw [List.getElem?_set_self (by exact (List.getElem?_eq_some_iff.mp h1).1), h1]
    · rw [List.getElem?_set_ne hn]
  rw [es, List.set_set] at S4
  exact S4
/-- a name read, whatever it holds; a changing thing is let go -/
def varR (q : AQ) (ρ : List AV) (i : Nat) : Option AV → Prop
  | some (.d d) => q d ρ
  | some (.ml xs) => q (.list xs) (ρ.set i (.d (.list xs)))
  | some (.dk kvs) => q (.dict kvs) (ρ.set i (.d (.dict kvs)))
  | _ => False
theorem set_slot_same {σ : L2.St} {i : Nat} {p : Addr} (h : σ[i]? = some (some (.ref p))) : σ.set i (some (.ref p)) = σ := by
  apply List.ext_getElem?
  intro n
  by_cases hn : i = n
  · subst hn
    rw [List.getElem?_set_self (by exact (List.getElem?_eq_some_iff.mp h).1), h]
  · rw [List.getElem?_set_ne hn]
theorem ae_varA (i : Nat) (hN : ∀ j, (X.X j).N[i]? = some x := by intro _; rfl) (hv : ∀ j, Vis (X.X j).env.scope x := by intro _; first | exact Or.inl rfl | exact Or.inr (Or.inl rfl) | exact Or.inr (Or.inr rfl)) (hd : (x == ("__debug__" : Str)) = false := by decide)
    (hcd : (x == ("__classdict__" : Str)) = false := by decide) : AE X (.Name x pos) fun ρ q => varR q ρ i ρ[i]? := by
  refine ⟨_, fun j => pe_var (hN j) (hv j) hd hcd, fun W ρ F σ H Q q hk S ht k => ?_⟩
  unfold varR at ht
  split at ht
  · rename_i d hx
    obtain ⟨v, h1, h2⟩ := S.get hx
    exact ⟨v, h1, k d ρ F v H S (Same.refl F) (hk ▸ h2) ht⟩
  · rename_i xs hx
    obtain ⟨p, vs, h1, h2, h3, S2⟩ := S.release hx
    have r : Dp W.K (upd F p (.lst vs)) (.ref p) (.list xs) := .lst (SqL.of upd_same) (dpAll_mono (S2.frozen h2) h3)
    refine ⟨_, h1, k _ _ _ _ H ?_ (S2.frozen h2) (hk ▸ r) ht⟩
    have S4 := (S2.freeze h2).setd (i := i) r
    rw [set_slot_same h1, List.set_set] at S4
    exact S4
  · rename_i kvs hx
    obtain ⟨p, o, h1, h2, h3, S2⟩ := S.letD hx
    have r : Dp W.K (upd F p o) (.ref p) (.dict kvs) := dcO_dp (S2.frozen h2) upd_same h3
    refine ⟨_, h1, k _ _ _ _ H ?_ (S2.frozen h2) (hk ▸ r) ht⟩
    have S4 := (S2.freeze h2).setd (i := i) r
    rw [set_slot_same h1, List.set_set] at S4
    exact S4
  · exact ht.elim
/-- of which kind a variable is -/
def isV (f : PyData → Bool) (q : AQ) (ρ : List AV) : Option AV → Prop
  | some (.d d) => q (.bool (f d)) ρ
  | some (.ml xs) => q (.bool (f (.list xs))) ρ
  | some (.dk kvs) => q (.bool (f (.dict kvs))) ρ
  | _ => False
theorem isV_sem {f : PyData → Bool} {q : AQ} {W : Wd} {ρ : List AV} {F : Hp} {σ : L2.St} {H : Hp} {i : Nat} (S : Sto W ρ F σ H) (h : isV f q ρ ρ[i]?) : ∃ v d, σ[i]? = some (some v) ∧ Dp W.K H v d ∧ q (.bool (f d)) ρ := by
  unfold isV at h
  split at h
  · rename_i d hx
    obtain ⟨v, h1, h2⟩ := S.get hx
    exact ⟨v, d, h1, dp_mono S.sub h2, h⟩
  · rename_i xs hx
    obtain ⟨F2, _, s2, at2, _⟩ := S.borrow
    obtain ⟨v, h1, h2⟩ := at2 i _ _ hx rfl
    exact ⟨v, _, h1, dp_mono s2 h2, h⟩
  · rename_i kvs hx
    obtain ⟨F2, _, s2, at2, _⟩ := S.borrow
    obtain ⟨v, h1, h2⟩ := at2 i _ _ hx rfl
    exact ⟨v, _, h1, dp_mono s2 h2, h⟩
  · exact h.elim
theorem ae_isiL {T : Str} {f : PyData → Bool} {n : String} {p p2 : Pos} (i : Nat) (hT : IsTy n f) (hn : bootBuiltins T = some (.type n)) (hmi : X.X0.mg "isinstance" = none) (hmT : X.X0.mg T = none)
    (hN : ∀ j, (X.X j).N[i]? = some x := by intro _; rfl) (hv : ∀ j, Vis (X.X j).env.scope x := by intro _; first | exact Or.inl rfl | exact Or.inr (Or.inl rfl) | exact Or.inr (Or.inr rfl)) (hd : (x == ("__debug__" : Str)) = false := by decide)
    (hcd : (x == ("__classdict__" : Str)) = false := by decide) (hg : ∀ j, Gl (X.X j) "isinstance" := by intro _; rfl) (hgT : ∀ j, Gl (X.X j) T := by intro _; rfl)
    (h1 : T ≠ "__name__" := by decide) (h2 : (T == ("__debug__" : Str)) = false := by decide) (hs : ∀ j, starEach [.Name x pos, .Name T p2] (X.X j).env = (false, eval (.Name x pos) (X.X j).env) :: starEach [.Name T p2] (X.X j).env := by intro _; rfl)
    (hs2 : ∀ j, starEach [.Name T p2] (X.X j).env = [(false, eval (.Name T p2) (X.X j).env)] := by intro _; rfl) {cpos : Pos} (hpl : ∀ j, (backTo cpos (starEach [.Name T p2] (X.X j).env)).any (·.1) = false := by intro _; rfl) :
    AE X (.Call (.Name "isinstance" p) [.Name x pos, .Name T p2] [] cpos) fun ρ q => isV f q ρ ρ[i]? := by
  refine ⟨_, fun j => by
    have q := pe_callB (X := X.X j) (p := p) (pos := cpos) (call_isiX j) (hg j) (by rw [X.hm j]; exact hmi) PyProof.Rows.boot_isinstance (pa_cons (pe_var (hN j) (hv j) hd hcd) (pa_cons (pe_bltn (pos := p2) (v := .ty n) (hgT j) (by rw [X.hm j]; exact hmT) hn rfl h1 h2) pa_nil (hs2 j)) (hs j)) (by decide) (by decide) (hs j) (hpl j)
    exact q, fun W ρ F σ H Q q hk S ht k => ?_⟩
  obtain ⟨v, d, h1, h2, ht⟩ := isV_sem S ht
  exact ⟨v, h1, v, .ty n, d, _, f d, rfl, .ty n, hk ▸ h2, kit_ty (hT.kit d), k _ ρ F _ H S (Same.refl F) (.bl _) ht⟩
/-- .. lent, where it changes -/
def varL (q : AArg → List AV → Prop) (ρ : List AV) (i : Nat) : Option AV → Prop
  | some (.d d) => q (.d d) ρ
  | some (.ml xs) => q (.s i) ρ
  | some (.dk kvs) => q (.s i) ρ
  | _ => False
theorem varL_sem {q : AArg → List AV → Prop} {W : Wd} {ρ : List AV} {F : Hp} {σ : L2.St} {H : Hp} {i : Nat} (S : Sto W ρ F σ H) (h : varL q ρ i ρ[i]?) : ∃ a v, σ[i]? = some (some v) ∧ ArgR W.K F σ a v ∧ q a ρ := by
  unfold varL at h
  split at h
  · rename_i d hx
    obtain ⟨v, h1, h2⟩ := S.get hx
    exact ⟨.d d, v, h1, h2, h⟩
  · rename_i hx
    obtain ⟨a, ha⟩ := S.volAt hx rfl
    exact ⟨.s i, _, ha, ha, h⟩
  · rename_i hx
    obtain ⟨a, ha⟩ := S.volAt hx rfl
    exact ⟨.s i, _, ha, ha, h⟩
  · exact h.elim
theorem aa_var (i : Nat) {es : List Expr} {tr : AAr} (hr : AA X es tr) (hN : ∀ j, (X.X j).N[i]? = some x := by intro _; rfl) (hv : ∀ j, Vis (X.X j).env.scope x := by intro _; first | exact Or.inl rfl | exact Or.inr (Or.inl rfl) | exact Or.inr (Or.inr rfl)) (hd : (x == ("__debug__" : Str)) = false := by decide)
    (hcd : (x == ("__classdict__" : Str)) = false := by decide) (hs : ∀ j, starEach (.Name x pos :: es) (X.X j).env = (false, eval (.Name x pos) (X.X j).env) :: starEach es (X.X j).env := by intro _; rfl) :
    AA X (.Name x pos :: es) fun ρ q => varL (fun a ρ1 => tr ρ1 fun as ρ2 => q (a :: as) ρ2) ρ i ρ[i]? := by
  obtain ⟨_, b1, b2⟩ := hr.ex
  refine ⟨_, fun j => pa_cons (pe_var (hN j) (hv j) hd hcd) (b1 j) (hs j), fun W ρ F σ H Q q hk S ht k => ?_⟩
  obtain ⟨a, v, h1, h2, ht⟩ := varL_sem S ht
  exact ⟨v, h1, b2 W ρ F σ H _ _ hk S ht fun as ρ2 F2 vs H2 S2 e2 r2 q2 => k _ ρ2 F2 _ H2 S2 e2 (.cons (a := a) (argR_mono e2 (hk ▸ h2)) r2) q2⟩
theorem ao_var (i : Nat) (hN : ∀ j, (X.X j).N[i]? = some x := by intro _; rfl) (hv : ∀ j, Vis (X.X j).env.scope x := by intro _; first | exact Or.inl rfl | exact Or.inr (Or.inl rfl) | exact Or.inr (Or.inr rfl)) (hd : (x == ("__debug__" : Str)) = false := by decide)
    (hcd : (x == ("__classdict__" : Str)) = false := by decide) : AO X (.Name x pos) fun ρ q => varL q ρ i ρ[i]? := by
  refine ⟨_, fun j => pe_var (hN j) (hv j) hd hcd, fun W ρ F σ H Q q hk S ht k => ?_⟩
  obtain ⟨a, v, h1, h2, ht⟩ := varL_sem S ht
  exact ⟨v, h1, k a ρ F v H S (Same.refl F) (hk ▸ h2) ht⟩
/-- a, b, c = x, y, z: plain local names -/
theorem as_par3 (i j l : Nat) {x y z : Str} {a b c : Expr} {px py pz pt : Pos} {kt k2 pt2} {tr : List AV → (List Hd → List AV → Prop) → Prop} (hc : X.X0.calm = true) (hN : X.X0.N.Nodup) (ha : AH X [a, b, c] tr) (hi : X.X0.N[i]? = some x := by rfl) (hj : X.X0.N[j]? = some y := by rfl) (hl : X.X0.N[l]? = some z := by rfl)
    (hij : i ≠ j := by decide) (hil : i ≠ l := by decide) (hjl : j ≠ l := by decide) (hx : ∀ j, (X.X j).env.scope.names.lookup x = some .local := by intro _; rfl) (hy : ∀ j, (X.X j).env.scope.names.lookup y = some .local := by intro _; rfl) (hz : ∀ j, (X.X j).env.scope.names.lookup z = some .local := by intro _; rfl)
    (hw : ∀ j, swappedStores [.Tuple [.Name x px, .Name y py, .Name z pz] kt pt] (.Tuple [a, b, c] k2 pt2) (X.X j).env = pure (some [x, y, z]) := by intro _; rfl)
    (hs : ∀ j, swapsWithSole [.Tuple [.Name x px, .Name y py, .Name z pz] kt pt] (.Tuple [a, b, c] k2 pt2) pos.line (X.X j).env = pure false := by intro _; rfl) :
    AS X (.Assign [.Tuple [.Name x px, .Name y py, .Name z pz] kt pt] (.Tuple [a, b, c] k2 pt2) pos) fun A ρ => tr ρ fun rs ρ1 => ∃ r1 r2 r3, rs = [r1, r2, r3] ∧ A.nx (((ρ1.set i (avs r1)).set j (avs r2)).set l (avs r3)) := by
  obtain ⟨_, a1, a2⟩ := ha.ex
  refine ⟨_, fun k => ps_par3 (by rw [X.hc k]; exact hc) (by rw [X.hN k]; exact hN) (by rw [X.hN k]; exact hi) (by rw [X.hN k]; exact hj) (by rw [X.hN k]; exact hl) hij hil hjl (hx k) (hy k) (hz k) (a1 k) (hw k) (hs k), fun W ρ F σ H D A hk S ht E => a2 W ρ F σ H _ _ hk S ht fun rs ρ1 F1 vs H1 e1 h1 q1 => ?_⟩
  obtain ⟨r1, r2, r3, rfl, hq⟩ := q1
  have S2 := h1.sets (is := [i, j, l]) rfl
  have lv : vs.length = 3 := by
    have : ∀ {H : Hp} {rs : List Hd} {vs : List V}, Held W ρ1 σ F1 H rs vs → vs.length = rs.length := fun h => by
      induction h with
      | nil _ => rfl
      | d _ _ ih => rw [List.length_cons, List.length_cons, ih]
      | obj _ _ _ ih => rw [List.length_cons, List.length_cons, ih]
    exact this h1
  match vs, lv with
  | [u, v, w], _ =>
    refine ⟨u, v, w, rfl, E.nx _ F1 _ H1 ?_ e1 hq⟩
    have S3 : Sto W (((ρ1.set l (avs r3)).set j (avs r2)).set i (avs r1)) F1 (((σ.set l (some w)).set j (some v)).set i (some u)) H1 := S2
    rw [List.set_comm _ _ (Ne.symm hij), List.set_comm _ _ (Ne.symm hij), List.set_comm (avs r3) _ (Ne.symm hil), List.set_comm (some w) _ (Ne.symm hil), List.set_comm (avs r3) _ (Ne.symm hjl), List.set_comm (some w) _ (Ne.symm hjl)] at S3
    exact S3
/-! ### extend, reverse -/
theorem ae_extend (i : Nat) {tl : ALr} (he : AL X e tl) (hN : ∀ j, (X.X j).N[i]? = some x := by intro _; rfl) (hv : ∀ j, Vis (X.X j).env.scope x := by intro _; first | exact Or.inl rfl | exact Or.inr (Or.inl rfl) | exact Or.inr (Or.inr rfl)) (hd : (x == ("__debug__" : Str)) = false := by decide)
    (hcd : (x == ("__classdict__" : Str)) = false := by decide) (hbase : ∀ j, attributeBase (.Name x px) "extend" (X.X j).env (eval (.Name x px) (X.X j).env) = eval (.Name x px) (X.X j).env := by intro _; rfl)
    (hfew : ∀ j, ((backTo pos (starEach [e] (X.X j).env)).all (fun x => !x.1) && (backToKw pos (keywordEach [] (X.X j).env)).all (fun x => x.1.isSome) && decide (([e] : List Expr).length + ([] : List Keyword).length + (if ([] : List Keyword).isEmpty then 0 else 1) < 30)) = true := by intro _; rfl)
    (hline : (apos.endLine == pos.line) = true := by rfl) (hs : ∀ j, starEach [e] (X.X j).env = [(false, eval e (X.X j).env)] := by intro _; rfl) :
    AE X (.Call (.Attribute (.Name x px) "extend" apos) [e] [] pos) fun ρ q => (∃ ys, ρ[i]? = some (.ml ys)) ∧ tl ρ fun zs ρ1 => ∃ xs, ρ1[i]? = some (.ml xs) ∧ xs.length + zs.length ≤ 16777216 ∧ q .none (ρ1.set i (.ml (xs ++ zs))) := by
  obtain ⟨_, a1, a2⟩ := he.ex
  refine ⟨fun σ H Q => tBM X.K "list" rExtend (fun σ H Q => ∃ v, σ[i]? = some (some v) ∧ Q v H) (tCons _ tNil) σ H Q, fun j => by
    have q := pe_bm (X := X.X j) (o := .Name x px) PySem.F.plainAttrs_list PySem.F.slot_list_extend PySem.F.type_list_extend mt_extend (pe_var (hN j) (hv j) hd hcd) (pa_cons (a1 j) pa_nil (hs j)) (cpos := pos) (apos := apos) (hbase j) (hfew j) hline (hs j) (by rfl)
    rw [X.hK j] at q
    exact q, fun W ρ F σ H Q q hk S ht k => ?_⟩
  obtain ⟨⟨ys, hy⟩, ht⟩ := ht
  obtain ⟨p, vs, h1, h2, _, _⟩ := S.chg (ys := []) hy
  refine ⟨.ref p, h1, tyV_lst h2, a2 W ρ F σ H _ _ hk S ht fun zs ρ1 F1 b ws H1 S1 hb e1 r1 q1 => ?_⟩
  obtain ⟨xs, hx, hl, hq⟩ := q1
  have S2 : Sto W ρ1 F1 σ H1 := S1.grow (Same.refl F1) (S1.sub.trans same_del) same_del fun b u e => .inl ⟨u, e⟩
  obtain ⟨p', vs', h1', h2', h3', chg⟩ := S2.chg (ys := xs ++ zs) hx
  rw [h1] at h1'
  cases h1'
  refine ⟨p, b, vs', ws, rfl, rfl, h2', hb, by rw [dpAll_len h3', dpAll_len r1]; exact hl, k _ _ F1 _ _ (chg _ (dpAll_app h3' (hk ▸ r1))) e1 .non hq⟩
theorem dpAll_rev {K : KW} {F : Hp} : ∀ {vs : List V} {ds : List PyData}, DpAll K F vs ds → DpAll K F vs.reverse ds.reverse
  | _, _, .nil => .nil
  | _, _, .cons a b => by
    rw [List.reverse_cons, List.reverse_cons]
    exact dpAll_app (dpAll_rev b) (.cons a .nil)
theorem ae_reverse (i : Nat) (hN : ∀ j, (X.X j).N[i]? = some x := by intro _; rfl) (hv : ∀ j, Vis (X.X j).env.scope x := by intro _; first | exact Or.inl rfl | exact Or.inr (Or.inl rfl) | exact Or.inr (Or.inr rfl)) (hd : (x == ("__debug__" : Str)) = false := by decide)
    (hcd : (x == ("__classdict__" : Str)) = false := by decide) (hbase : ∀ j, attributeBase (.Name x px) "reverse" (X.X j).env (eval (.Name x px) (X.X j).env) = eval (.Name x px) (X.X j).env := by intro _; rfl)
    (hline : (apos.endLine == pos.line) = true := by rfl) :
    AE X (.Call (.Attribute (.Name x px) "reverse" apos) [] [] pos) fun ρ q => ∃ xs, ρ[i]? = some (.ml xs) ∧ q .none (ρ.set i (.ml xs.reverse)) := by
  refine ⟨fun σ H Q => tBM0 X.K "list" rReverse (fun σ H Q => ∃ v, σ[i]? = some (some v) ∧ Q v H) σ H Q, fun j => by
    have q := pe_bm0 (X := X.X j) (o := .Name x px) PySem.F.plainAttrs_list PySem.F.slot_list_reverse PySem.F.type_list_reverse mt_reverse (pe_var (hN j) (hv j) hd hcd) (cpos := pos) (apos := apos) (hbase j) hline
    rw [X.hK j] at q
    exact q, fun W ρ F σ H Q q hk S ht k => ?_⟩
  obtain ⟨xs, hx, hq⟩ := ht
  obtain ⟨p, vs, h1, h2, h3, chg⟩ := S.chg (ys := xs.reverse) hx
  exact ⟨.ref p, h1, tyV_lst h2, p, vs, rfl, rfl, h2, k _ _ F _ _ (chg _ (dpAll_rev h3)) (Same.refl F) .non hq⟩
end
/-! ### zip of two lists, of two tuples -/
def zipD : List PyData → List PyData → List PyData
  | x :: xs, y :: ys => .tuple [x, y] :: zipD xs ys
  | _, _ => []
def dZip : List PyData → (List PyData → Prop) → Prop
  | [.list xs, .list ys], q => q (zipD xs ys)
  | [.tuple xs, .tuple ys], q => q (zipD xs ys)
  | _, _ => False
theorem zipD_get : ∀ {xs ys : List PyData} {i : Nat} {x y : PyData}, xs[i]? = some x → ys[i]? = some y → (zipD xs ys)[i]? = some (.tuple [x, y])
  | _ :: _, _ :: _, 0, _, _, h, h' => by cases h; cases h'; rfl
  | _ :: xs, _ :: ys, i + 1, _, _, h, h' => zipD_get (xs := xs) (ys := ys) (i := i) (by simpa using h) (by simpa using h')
  | [], _, _, _, _, h, _ => by simp at h
  | _ :: _, [], _, _, _, _, h => by simp at h
theorem zipD_len : ∀ xs ys : List PyData, (zipD xs ys).length = min xs.length ys.length
  | [], _ => by simp [zipD]
  | _ :: _, [] => by simp [zipD]
  | x :: xs, y :: ys => by
    show (zipD xs ys).length + 1 = _
    rw [zipD_len xs ys, List.length_cons, List.length_cons]
    omega

def opS : Option AV → Option (List (PyData × PyData))
  | some (.dk kvs) => some kvs
  | _ => none
def opC (ρ : List AV) : AArg → Option (List (PyData × PyData))
  | .d (.dict kvs) => some kvs
  | .s i => opS ρ[i]?
  | _ => none
theorem opC_at {K : KW} {W : Wd} {ρ : List AV} {F F' H : Hp} {σ : L2.St} {a : AArg} {v : V} {kvs : List (PyData × PyData)} (hk : W.K = K) (S : Sto W ρ F' σ H) (e : Same F F') (r : ArgR K F σ a v) (h : opC ρ a = some kvs) : ∃ p, v = .ref p ∧ DcAt K F' H p kvs := by
  unfold opC at h
  split at h
  · rename_i kvs'
    cases h
    exact Dp.at (dp_mono e r) S.sub
  · rename_i i
    unfold opS at h
    split at h
    · rename_i kvs' hx
      cases h
      obtain ⟨ad, hs, _⟩ := id S.slots
      obtain ⟨z, f, h0, o, h4, h5⟩ := hs i _ hx
      have r' : σ[i]? = some (some v) := r
      rw [z] at r'
      cases r'
      exact ⟨_, rfl, (hk ▸ h5).at h4⟩
    · cases h
  · cases h
def tGetC (K : KW) (td ty tx : TE) : TE := fun σ H Q => td σ H fun x H1 => ∃ a F0 k0, x = .ref a ∧ DcAt K F0 H1 a k0 ∧ ty σ H1 fun y H2 => tx σ H2 fun z H3 => ∃ F kvs q d, Same F H3 ∧ DcAt K F H3 a kvs ∧ Dp K F y q ∧ Dp K F z d ∧ dFit kvs q ∧ ∀ v, Dp K F v ((dGet kvs q).getD d) → Q v H3
theorem pe_getC {X : Cx} {o e f : Expr} {apos cpos : Pos} {td ty tx : TE} (hu : X.A.units + 64 < cLine) (ho : PE X o td) (he : PE X e ty) (hf : PE X f tx) (m : M2 X o "get" apos e f cpos) : PE X (.Call (.Attribute o "get" apos) [e, f] [] cpos) (tGetC (kw X) td ty tx) := by
  refine ⟨fun pins s σ H Q I h => wpAny_Call_method m.base m.few m.line PySem.F.plainAttrs_dict PySem.F.slot_dict_get PySem.F.type_dict_get (thn (ho.run pins s σ H _ I h) fun u s1 ⟨x, H1, I1, rx, a, F0, k0, ex, dc0, q1⟩ => ?_)⟩
  subst ex
  obtain rfl : u = Value.ref a := rx
  have nd : ∀ b, Value.ref a = .ref b → ∃ ob, s1.heap.get? b = some ob ∧ ob.dict = none := fun b e => by
    cases e
    obtain ⟨ob, L, e0, _⟩ := dc0
    have n := dObj_of I1.hok e0
    exact ⟨ob, n.get, n.ex.2.1⟩
  refine ⟨dc_type I1 dc0, nd, ?_⟩
  rw [m.trees]
  refine Calls.callWith_builtin rfl (Calls.evalArgs_plain (Calls.spliced_cons (thn (he.run pins s1 σ H1 _ I1 q1) fun iv s2 ⟨y, H2, I2, ry, q2⟩ => Calls.spliced_cons (thn (hf.run pins s2 σ H2 _ I2 q2) fun fv s3 ⟨z, H3, I3, rz, F, kvs, q, d, sub, dc, dy, dz, fit, q3⟩ => Calls.spliced_nil ?_))))
  exact dc_getOr (by omega) I3 sub dc (dp_mono sub dy) ry dz rz fit fun v w' s4 I4 rv rw' => ⟨v, H3, I4, rw', q3 v rv⟩
theorem ae_get2 {X : Fam} {o e f : Expr} {oa : List AV → (AArg → List AV → Prop) → Prop} {te tf : ATr} {apos pos : Pos} (hu : Roomy X) (ho : AO X o oa) (he : AE X e te) (hf : AE X f tf) (m : ∀ j, M2 (X.X j) o "get" apos e f pos := by intro _; exact ⟨rfl, rfl, rfl, rfl⟩) :
    AE X (.Call (.Attribute o "get" apos) [e, f] [] pos) fun ρ q => oa ρ fun x ρ1 => (∃ k0, opC ρ1 x = some k0) ∧ te ρ1 fun d ρ2 => tf ρ2 fun z ρ3 => ∃ kvs, opC ρ3 x = some kvs ∧ dFit kvs d ∧ q ((dGet kvs d).getD z) ρ3 := by
  obtain ⟨_, o1, o2⟩ := ho.ex
  obtain ⟨_, a1, a2⟩ := he.ex
  obtain ⟨_, b1, b2⟩ := hf.ex
  refine ⟨_, fun j => by have q := pe_getC (by rw [X.hA j]; have := hu; omega) (o1 j) (a1 j) (b1 j) (m j); rw [X.hkw j] at q; exact q, fun W ρ F σ H Q q hk S ht k => o2 W ρ F σ H _ _ hk S ht fun x ρ1 F1 v H1 S1 e1 r1 q1 => ?_⟩
  obtain ⟨⟨k0, h0⟩, q1⟩ := q1
  obtain ⟨p, rfl, dc0⟩ := opC_at hk S1 (Same.refl F1) r1 h0
  refine ⟨p, F1, k0, rfl, dc0, a2 W ρ1 F1 σ H1 _ _ hk S1 q1 fun d ρ2 F2 y H2 S2 e2 r2 q2 => b2 W ρ2 F2 σ H2 _ _ hk S2 q2 fun z ρ3 F3 w H3 S3 e3 r3 q3 => ?_⟩
  obtain ⟨kvs, h3, fit, hq⟩ := q3
  obtain ⟨p', e', dc⟩ := opC_at hk S3 (e2.trans e3) r1 h3
  cases e'
  exact ⟨F3, kvs, d, z, S3.sub, dc, dp_mono e3 r2, r3, fit, fun u ru => k _ ρ3 F3 u H3 S3 ((e1.trans e2).trans e3) ru hq⟩
end OS

/-! OSdp: dict(a list of pairs), whatever the keys are. -/
namespace OS
open PySem L2 PySem.W PySem.Spec PyProof.Rows

section
variable {X : Cx} {pins : List (Addr × Obj)} {σ : L2.St} {H F : Hp} {s : Shared}
/-- the pairs, each its own tuple -/
theorem pairs_at (I : Inv X pins σ H s) (sub : Same F H) : ∀ {kvs : List (PyData × PyData)} {vs : List V} {us : List Value}, (∀ kv ∈ kvs, (∃ k, keyOf kv.1 = some k) ∧ (flatK kv.1 || tupK kv.1) = true) → DpAll (kw X) F vs (kvs.map fun kv => .tuple [kv.1, kv.2]) → Vals vs us →
    ∃ (ts : List Addr) (ps : List (Value × Value)) (L : DL), us = ts.map Value.ref ∧ ts.length = ps.length ∧ ps.length = kvs.length ∧ (∀ (j : Nat) (t : Addr) (k v : Value), ts[j]? = some t → ps[j]? = some (k, v) → PairAt s.heap t k v) ∧ DpL (kw X) F L kvs ∧ Paired (fun (p : NestedKey × V × V) (q : Value × Value) => RelV p.2.1 q.1 ∧ RelV p.2.2 q.2) L ps
  | [], _, _, _, .nil, .nil => ⟨[], [], [], rfl, rfl, rfl, fun j t k v h => by simp at h, .nil, .nil⟩
  | (kd, d) :: kvs, _, _, hf, .cons h t, .cons r rr => by
    obtain ⟨ts, ps, L, rfl, l1, l2, at', dl, pr⟩ := pairs_at I sub (fun kv hkv => hf kv (.tail _ hkv)) t rr
    obtain ⟨⟨k, hk⟩, hfit⟩ := hf _ (.head _)
    cases h with
    | tup hs ha tx =>
      rename_i a ws
      cases r
      obtain ⟨x, y, rfl, rx, ry⟩ := dp2 ha
      obtain ⟨its, rv, tp, _⟩ := I.tuple (Evl.ex_t sub hs)
      obtain ⟨u1, u2, rfl, g1, g2⟩ := vals2 rv
      refine ⟨a :: ts, (u1, u2) :: ps, (k, x, y) :: L, rfl, by simp [l1], by simp [l2], fun j t k v h1 h2 => ?_, .cons rx hk hfit ry dl, .cons ⟨g1, g2⟩ pr⟩
      cases j with
      | zero => cases h1; cases h2; exact .inl tp
      | succ j => exact at' j t k v (by simpa using h1) (by simpa using h2)
theorem dpL_mergeG {K : KW} {F : Hp} : ∀ {M : DL} {more : List (PyData × PyData)}, DpL K F M more → ∀ {L : DL} {kvs : List (PyData × PyData)}, DpL K F L kvs → DpL K F (M.foldl (fun acc x => lPut acc x.1 x.2.1 x.2.2) L) (mergeD kvs more)
  | _, _, .nil, _, _, h => h
  | _, _, .cons a b c d r, _, _, h => dpL_mergeG r (dpL_put h a b c d)
theorem fEnt_merge : ∀ {M : DL} {ms : List (Key × Value)}, FEnt M ms → ∀ {L : DL} {vs : List (Key × Value)}, FEnt L vs → FEnt (M.foldl (fun acc x => lPut acc x.1 x.2.1 x.2.2) L) (merged vs ms)
  | _, _, .nil, _, _, h => h
  | (_, _, _) :: M, q :: ms, .cons a r, L, vs, h => by
    obtain ⟨a1, a2, a3⟩ := a
    dsimp only at a1 a2 a3
    subst a1 a2
    exact fEnt_merge r (fEnt_put a3 h)
theorem tEnt_merge : ∀ {M : DL} {ms : List (NestedKey × Addr × Value)}, TEnt M ms → ∀ {L : DL} {xs : List (NestedKey × Addr × Value)}, TEnt L xs → TEnt (M.foldl (fun acc x => lPut acc x.1 x.2.1 x.2.2) L) (storedAllH xs ms)
  | _, _, .nil, _, _, h => h
  | (_, _, _) :: M, q :: ms, .cons a r, L, xs, h => by
    obtain ⟨a1, a2, a3⟩ := a
    dsimp only at a1 a2 a3
    subst a1 a2
    exact tEnt_merge r (tEnt_put a3 h)
theorem fold_len : ∀ (M : DL) (L : DL), (M.foldl (fun acc x => lPut acc x.1 x.2.1 x.2.2) L).length ≤ L.length + M.length
  | [], L => Nat.le_refl _
  | x :: M, L => by
    have h1 := fold_len M (lPut L x.1 x.2.1 x.2.2)
    have h2 := lPut_len L x.1 x.2.1 x.2.2
    rw [List.foldl_cons, List.length_cons]
    omega
theorem flat_pairs {P : Program} {w : World} {K : KW} : ∀ {L : DL} {kvs : List (PyData × PyData)} {ps : List (Value × Value)}, DpL K F L kvs → kvs.all (fun kv => flatK kv.1) = true → Paired (fun (p : NestedKey × V × V) (q : Value × Value) => RelV p.2.1 q.1 ∧ RelV p.2.2 q.2) L ps →
    ∃ ms : List (Key × Value), FEnt L ms ∧ ms.length = ps.length ∧ ∀ (i : Nat) (key v : Value), ps[i]? = some (key, v) → ∃ k, ms[i]? = some (k, v) ∧ (mixKind P w).is k key = true
  | _, _, _, .nil, _, .nil => ⟨[], .nil, rfl, fun i key v h => by simp at h⟩
  | _, _, q :: ps, .cons (kd := kd) h1 h2 _ h4 h5, hf, .cons a r => by
    rw [List.all_cons, Bool.and_eq_true] at hf
    obtain ⟨ms, f, l, g⟩ := flat_pairs (P := P) (w := w) h5 hf.2 r
    obtain ⟨k, e0⟩ := flatK_ex hf.1
    have e0 : kd = keyP k := e0
    subst e0
    rw [keyOf_P] at h2
    cases h2
    have ey := dp_kV h1
    refine ⟨(k, q.2) :: ms, .cons ⟨rfl, ey, a.2⟩ f, by simp [l], fun i key v h => ?_⟩
    cases i with
    | zero => cases h; exact ⟨k, rfl, kV_is (ey ▸ a.1)⟩
    | succ i => exact g i key v (by simpa using h)
theorem tup_pairs (I : Inv X pins σ H s) (sub : Same F H) : ∀ {L : DL} {kvs : List (PyData × PyData)} {ps : List (Value × Value)}, DpL (kw X) F L kvs → kvs.all (fun kv => tupK kv.1) = true → Paired (fun (p : NestedKey × V × V) (q : Value × Value) => RelV p.2.1 q.1 ∧ RelV p.2.2 q.2) L ps →
    ∃ ms : List (NestedKey × Addr × Value), TEnt L ms ∧ ms.length = ps.length ∧ (∀ (i : Nat) (key v : Value), ps[i]? = some (key, v) → ∃ k b, ms[i]? = some (k, b, v) ∧ key = .ref b) ∧ ∀ x ∈ ms, (nestedKind X.prog X.w).is s.heap x.1 x.2.1
  | _, _, _, .nil, _, .nil => ⟨[], .nil, rfl, fun i key v h => by simp at h, fun _ h => by cases h⟩
  | _, _, q :: ps, .cons (k := k) (kd := kd) h1 h2 _ h4 h5, hf, .cons a r => by
    rw [List.all_cons, Bool.and_eq_true] at hf
    obtain ⟨ms, f, l, g, ks⟩ := tup_pairs I sub h5 hf.2 r
    obtain ⟨zs, k', e0, hk, hd⟩ := tupK_ex hf.1
    have e0 : kd = .tuple zs := e0
    subst e0
    rw [hk] at h2
    cases h2
    have ka := dp_mono sub h1
    cases h1 with
    | tup t1 t2 tx =>
      rename_i b ws
      have eb : q.1 = .ref b := a.1
      refine ⟨(k, b, q.2) :: ms, .cons ⟨rfl, rfl, a.2⟩ f, by simp [l], fun i key v h => ?_, fun x hx => ?_⟩
      · cases i with
        | zero => cases h; exact ⟨k, b, rfl, eb⟩
        | succ i => exact g i key v (by simpa using h)
      · cases hx with
        | head => exact key_at I ka hk hd
        | tail _ hx => exact ks x hx
def rDictP (K : KW) : List V → Hp → VK → Prop := fun xs H Q => ∃ F v kvs, xs = [v] ∧ Same F H ∧ (Dp K F v (.list (kvs.map fun kv => .tuple [kv.1, kv.2])) ∨ Dp K F v (.tuple (kvs.map fun kv => .tuple [kv.1, kv.2]))) ∧ (kvs.all (fun kv => flatK kv.1) = true ∨ kvs.all (fun kv => tupK kv.1) = true) ∧
  ∀ p o, H p = none → DcO K F p o (mergeD [] kvs) → Q (.ref p) (upd H p o)
theorem fit_keys {kvs : List (PyData × PyData)} (h : kvs.all (fun kv => flatK kv.1) = true ∨ kvs.all (fun kv => tupK kv.1) = true) : ∀ kv ∈ kvs, (∃ k, keyOf kv.1 = some k) ∧ (flatK kv.1 || tupK kv.1) = true := fun kv hkv => by
  rcases h with h | h
  · have := List.all_eq_true.mp h kv hkv
    obtain ⟨k, e⟩ := flatK_ex this
    exact ⟨⟨_, by rw [e]; exact keyOf_P k⟩, by rw [this]; rfl⟩
  · have := List.all_eq_true.mp h kv hkv
    obtain ⟨xs, k, e, hk, _⟩ := tupK_ex this
    exact ⟨⟨k, by rw [e]; exact hk⟩, by rw [this]; exact Bool.or_true _⟩
theorem plain_of (I : Inv X pins σ H s) (sub : Same F H) {v : V} {kvs : List (PyData × PyData)} (h : Dp (kw X) F v (.list (kvs.map fun kv => .tuple [kv.1, kv.2])) ∨ Dp (kw X) F v (.tuple (kvs.map fun kv => .tuple [kv.1, kv.2]))) :
    ∃ (T : String) (a : Addr) (vs : List V) (its : List Value), (T = "list" ∨ T = "tuple") ∧ v = .ref a ∧ DpAll (kw X) F vs (kvs.map fun kv => .tuple [kv.1, kv.2]) ∧ Vals vs its ∧ PlainSeq T s.heap a its.toArray ∧ vs.length ≤ sizeLine := by
  rcases h with h | h
  · cases h with
    | lst hs ha =>
      obtain ⟨its, rv, ⟨o, n, ho, ho1, ho2, ho3⟩, hz⟩ := I.list (Evl.ex_l sub hs)
      exact ⟨"list", _, _, its, .inl rfl, rfl, ha, rv, ⟨o, n, ho, ho1, ho2, ho3⟩, hz⟩
  · cases h with
    | @tup ad _ _ hs ha tx =>
      obtain ⟨its, rv, ⟨o, ho, ho1, n, ho3⟩, hz⟩ := I.tuple (Evl.ex_t sub hs)
      have tt : tups (kvs.map fun kv => PyData.tuple [kv.1, kv.2]) = true := by
        unfold tups
        rw [List.all_map]
        exact List.all_eq_true.mpr fun _ _ => rfl
      obtain ⟨o2, hd, q⟩ := tx_mono sub (tx tt)
      have e : s.heap.get? ad = some o2 := by
        rcases q with ⟨u, q⟩ | q
        · exact (I.hok _ _ q).1
        · exact I.kIn _ o2 q
      rw [ho] at e
      cases e
      exact ⟨"tuple", _, _, its, .inr rfl, rfl, ha, rv, ⟨o, n, ho, ho1, hd, ho3⟩, hz⟩
theorem cr_dictP (hc : X.calm = true) (hu : X.A.units + 100 < cLine) : CallR X (.type "dict") (rDictP (kw X)) := fun pins s σ H xs us Q I r h => by
  obtain ⟨F, v, kvs, rfl, sub, dp, fit, q⟩ := h
  obtain ⟨T, a, vs, its, hT, rfl, ha, rv, ⟨o, n, ho, ho1, ho2, ho3⟩, hz⟩ := plain_of I sub dp
  rw [Vals.ref1 r]
  obtain ⟨ts, ps, L, rfl, l1, l2, at', dl, pr⟩ := pairs_at I sub (fit_keys fit) ha rv
  have lz : ps.length ≤ sizeLine := by rw [← l1, ← List.length_map (f := Value.ref), ← rv.length]; exact hz
  have lL : L.length ≤ 16777216 := by rw [Paired.length pr]; rw [sizeLine_eq] at lz; exact lz
  have ok : PlainSeq T s.heap a (ts.map Value.ref).toArray ∧ PairItems s.heap (ts.map Value.ref).toArray (fun j => ts.getD j 0) ps := ⟨⟨o, n, ho, ho1, ho2, ho3⟩, by simp [l1], fun j k v hj => by
    have hj' : j < ts.length := by rw [l1]; exact (List.getElem?_eq_some_iff.mp hj).1
    have et : ts[j]? = some (ts.getD j 0) := by rw [List.getD_eq_getElem?_getD, List.getElem?_eq_getElem hj']; rfl
    exact ⟨by rw [List.getElem?_toArray, List.getElem?_map, et]; rfl, at' j _ k v et hj⟩⟩
  have ln := fold_len L []
  have lm : (L.foldl (fun acc x => lPut acc x.1 x.2.1 x.2.2) []).length ≤ 16777216 := by rw [List.length_nil] at ln; omega
  have sm : (s.heap.objs.size == sysModules) = false := beq_eq_false_iff_ne.mpr (Nat.ne_of_gt I.big)
  have P : PairArg X.prog X.w T a (a :: (List.range ps.length).map fun j => ts.getD j 0) [] ps.length (PairRel ps) (fun h => PlainSeq T h a (ts.map Value.ref).toArray ∧ PairItems h (ts.map Value.ref).toArray (fun j => ts.getD j 0) ps) := by
    rcases hT with rfl | rfl
    · exact PairArg.list a _ _ ps
    · exact PairArg.tuple a _ _ ps
  rcases fit with hf | hf
  · obtain ⟨ms, f, l3, g⟩ := flat_pairs (P := X.prog) (w := X.w) dl hf pr
    refine call_dict_pairs (knd := mixKind X.prog X.w) (kvs := ms) P (I.ok.hd hc) ok ⟨l3, fun i key v h => g i key v h⟩ lz fun h' tk dd keep => ?_
    obtain ⟨ob, m⟩ := dAt_flat dd (fEnt_merge f (L := []) (vs := []) .nil) lm sm
    exact ⟨.ref s.heap.objs.size, _, I.laid (t' := tk) (fun b u e => keep b u (by simp) e) (Nat.le_refl _) (dObj_new m), rfl, q _ _ I.fresh ⟨ob, _, rfl, dpL_mergeG dl (L := []) (kvs := []) .nil⟩⟩
  · obtain ⟨ms, f, l3, g, ks⟩ := tup_pairs I sub dl hf pr
    refine call_dict_pairsH (knd := nestedKind X.prog X.w) (ps := ms) P (I.ok.hd hc) (show X.A.in1.in1.units + 8 < cLine by show X.A.units + 1 + 1 + 8 < cLine; omega) ok ⟨l3, fun i key v h => g i key v h⟩ (fun h' hk x hx => nestedKind_stays.stays (fun b o us n e _ => hk b o (Nat.ne_of_lt (Heap.lt_size e)) (by simp) e) (ks x hx)) lz fun h' tk dd keep => ?_
    obtain ⟨ob, m⟩ := dAt_tup dd (tEnt_merge f (L := []) (xs := []) .nil) lm sm
    exact ⟨.ref s.heap.objs.size, _, I.laid (t' := tk) (fun b u e => keep b u (by simp) e) (Nat.le_refl _) (dObj_new m), rfl, q _ _ I.fresh ⟨ob, _, rfl, dpL_mergeG dl (L := []) (kvs := []) .nil⟩⟩
end
section
variable {X : Fam} {e : Expr} {te : ATr} {p pos : Pos}
/-- the pairs that a list or a tuple is -/
def prsD : PyData → List (PyData × PyData) → Prop
  | .list xs, kvs => xs = kvs.map fun kv => .tuple [kv.1, kv.2]
  | .tuple xs, kvs => xs = kvs.map fun kv => .tuple [kv.1, kv.2]
  | _, _ => False
theorem prsD_of {d : PyData} {kvs : List (PyData × PyData)} (h : prsD d kvs) : d = .list (kvs.map fun kv => .tuple [kv.1, kv.2]) ∨ d = .tuple (kvs.map fun kv => .tuple [kv.1, kv.2]) := by
  unfold prsD at h
  split at h
  · exact .inl (by rw [h])
  · exact .inr (by rw [h])
  · exact h.elim
/-- dict(a list of pairs) -/
theorem ad_dictP (hc : X.X0.calm = true) (hu : Roomy X) (hm : X.X0.mg "dict" = none) (he : AE X e te) (hg : ∀ j, Gl (X.X j) "dict" := by intro _; rfl) (hs : ∀ j, starEach [e] (X.X j).env = [(false, eval e (X.X j).env)] := by intro _; rfl) :
    AD X (.Call (.Name "dict" p) [e] [] pos) fun ρ q => te ρ fun d ρ1 => ∃ kvs : List (PyData × PyData), prsD d kvs ∧ (kvs.all (fun kv => flatK kv.1) = true ∨ kvs.all (fun kv => tupK kv.1) = true) ∧ q (mergeD [] kvs) ρ1 := by
  obtain ⟨_, a1, a2⟩ := he.ex
  have cr : ∀ j, CallR (X.X j) (.type "dict") (rDictP X.K) := fun j => by rw [← X.hkw j]; exact cr_dictP (by rw [X.hc j]; exact hc) (by rw [X.hA j]; exact hu)
  refine ⟨_, fun j => pe_callTy (X := X.X j) (p := p) (pos := pos) (cr j) (hg j) (by rw [X.hm j]; exact hm) PyProof.Rows.boot_dict (pa_cons (a1 j) pa_nil (hs j)) (by decide) (by decide) (hs j) rfl, fun W ρ F σ H Q q hk S ht k => a2 W ρ F σ H _ _ hk S ht fun d ρ1 F1 v H1 S1 e1 r1 q1 => ?_⟩
  obtain ⟨kvs, hp, fit, hq⟩ := q1
  exact ⟨F1, v, kvs, rfl, S1.sub, (prsD_of hp).imp (fun z => by rw [z] at r1; exact r1) (fun z => by rw [z] at r1; exact r1), fit, fun p o hp dc => k _ ρ1 F1 p o _ (by rw [del_upd hp]; exact S1) upd_same e1 dc hq⟩
end
end OS

/-! OSy: name += e, and what else came later. -/
namespace OS
open PySem PySem.Spec PyProof.Rows L2
section
variable {X : Fam} {e : Expr} {te : ATr} {x : Str} {pos p' : Pos}
/-- name += a whole number -/
def augI (f : Int → Int → Int) (i : Nat) (te : ATr) (k : List AV → Prop) (ρ : List AV) : Prop := ∃ a, ρ[i]? = some (.d (.int a)) ∧ te ρ fun d ρ1 => ∃ b, d = .int b ∧ k (ρ1.set i (.d (.int (f a b))))
theorem as_augI {op : Operator} {f : Int → Int → Int} (i : Nat) (hN : X.X0.N.Nodup) (hip : ∀ j, PIp (X.X j) op (ipI f)) (he : AE X e te) (hi : X.X0.N[i]? = some x := by rfl) (hx : ∀ j, Loc (X.X j).env.scope x := by intro _; first | exact Or.inl rfl | exact Or.inr rfl)
    (hf : ∀ j, (X.X j).fn x = true ∨ (X.X j).env.scope.names.lookup x = some .local := by intro _; first | exact Or.inl rfl | exact Or.inr rfl | assumption) :
    AS X (.AugAssign (.Name x p') op e pos) fun A ρ => augI f i te A.nx ρ := by
  obtain ⟨_, a1, a2⟩ := he.ex
  refine ⟨_, fun j => ps_aug (by rw [X.hN j]; exact hN) (by rw [X.hN j]; exact hi) (hx j) (a1 j) (hip j) (hf j), fun W ρ F σ H D A hk S ht E => ?_⟩
  obtain ⟨a, h1, h2⟩ := ht
  obtain ⟨v, g1, g2⟩ := S.get h1
  cases g2
  refine ⟨_, g1, a2 W ρ F σ H _ _ hk S h2 fun d ρ1 F1 w H1 S1 e1 r1 q1 => ?_⟩
  obtain ⟨b, rfl, q⟩ := q1
  cases r1
  exact ⟨a, b, rfl, rfl, E.nx _ F1 _ H1 (S1.setd (.int _)) e1 q⟩
theorem as_aadd (i : Nat) (hN : X.X0.N.Nodup) (he : AE X e te) (hi : X.X0.N[i]? = some x := by rfl) (hx : ∀ j, Loc (X.X j).env.scope x := by intro _; first | exact Or.inl rfl | exact Or.inr rfl)
    (hf : ∀ j, (X.X j).fn x = true ∨ (X.X j).env.scope.names.lookup x = some .local := by intro _; first | exact Or.inl rfl | exact Or.inr rfl | assumption) :
    AS X (.AugAssign (.Name x p') .Add e pos) fun A ρ => augI (fun a b => a + b) i te A.nx ρ := as_augI i hN (fun _ => ip_add) he hi hx hf
theorem as_asub (i : Nat) (hN : X.X0.N.Nodup) (he : AE X e te) (hi : X.X0.N[i]? = some x := by rfl) (hx : ∀ j, Loc (X.X j).env.scope x := by intro _; first | exact Or.inl rfl | exact Or.inr rfl)
    (hf : ∀ j, (X.X j).fn x = true ∨ (X.X j).env.scope.names.lookup x = some .local := by intro _; first | exact Or.inl rfl | exact Or.inr rfl | assumption) :
    AS X (.AugAssign (.Name x p') .Sub e pos) fun A ρ => augI (fun a b => a - b) i te A.nx ρ := as_augI i hN (fun _ => ip_sub) he hi hx hf
end
section
open PySem.W
variable {X : Cx} {kx vx tg iter : Expr} {ifs : List Expr} {scope : Scope} {own : List (Str × Nat)} {pos : Pos} {wi : TI} {g : TG} {tt : TT} {tk tv : TE}
/-! a dict comprehension, with what is done with it at once -/
theorem dg_core {pins : List (Addr × Obj)} {s : Shared} {σ : L2.St} {H : Hp} {Q : VK} {pos' : Pos} {use : Option (Value → Sem Unit)} {Qf : Value → Shared → Prop} (hu : X.A.units + 64 < cLine) (hc : X.calm = true) (hN : X.N.Nodup) (I : Inv X pins σ H s) (hi : PI X tg iter wi) (ok : BlkOk X.N X.env.scope scope own)
    (hg : ∀ (s : Shared) (H : Hp) (C : Addr) (cl : List (Str × Addr)) (fp : List Addr), PG (X.blk s H scope (compEnvC scope cl C X.env) fp) tg g) (ht : ∀ (s : Shared) (H : Hp) (C : Addr) (cl : List (Str × Addr)) (fp : List Addr), PTs (X.blk s H scope (compEnvC scope cl C X.env) fp) ifs tt)
    (hk : ∀ (s : Shared) (H : Hp) (C : Addr) (cl : List (Str × Addr)) (fp : List Addr), PE (X.blk s H scope (compEnvC scope cl C X.env) fp) kx tk)
    (he : ∀ (s : Shared) (H : Hp) (C : Addr) (cl : List (Str × Addr)) (fp : List Addr), PE (X.blk s H scope (compEnvC scope cl C X.env) fp) vx tv) (hs : ∀ x, foldedSetIterable iter X.env x = pure x) (h : tDg (kw X) wi g tt tk tv (own.map (·.2)) σ H Q)
    (hRR : ∀ D C s' m H', Inv X pins σ H' s' → Q (.ref D) H' → s'.heap.Ns C m → FpOk X pins H' C → compPost (model X.prog X.w) X.A X.xe use Qf (.ref D) C (.ok .next) s') :
    wpAny (model X.prog X.w) X.A (comprehension (.DictComp kx vx [⟨tg, iter, ifs, 0⟩] scope pos) scope X.env pos' newDict false (eval iter X.env) use) Qf X.xe s := by
  have cells : ∀ y ∈ scope.names, y.2 = .free → ∃ c, X.env.cells.lookup y.1 = some c := fun y hy e => (ok.free y hy e).elim (fun k => I.ok.has _ (.inl k)) fun k => I.ok.has _ (.inr k)
  refine wpAny_comprehension_free (use := use) rfl hs (closure_ok cells) ok.kind (fun y hy e => by rw [ok.uniq y hy, e]) (thn (hi.run pins s σ H _ I h) fun xv s1 hx => thn hx fun itv s2 ⟨it, fp, tn, J, H2, ei, I2, T, st2, f2, q⟩ => ?_)
  subst ei
  refine wpAny_newObj_type (newEnv_comp ?_)
  obtain ⟨D, hD⟩ : ∃ D, s2.heap.objs.size = D := ⟨_, rfl⟩
  obtain ⟨od, hod⟩ : ∃ o : HO, o = DObj X.w D { cls := .type "dict", data := .dict #[] } [] := ⟨_, rfl⟩
  obtain ⟨W, ⟨m0, w0⟩, turns⟩ := q D { cls := .type "dict", data := .dict #[] } (I2.hok.fresh (Nat.le_of_eq hD))
  have I3 : Inv X pins σ (upd H2 D od) { s2 with heap := s2.heap.push { cls := .type "dict", data := .dict #[] } } := by
    refine I2.laid (t' := s2.toks) (fun b o e => Heap.get?_push_of_some _ e) (Nat.le_of_eq hD) ?_
    rw [hod, ← hD]
    exact dObj_empty s2.heap I2.big
  obtain ⟨s3, e3⟩ : ∃ s3 : Shared, s3 = { s2 with heap := s2.heap.push { cls := .type "dict", data := .dict #[] } } := ⟨_, rfl⟩
  have h3 : s3.heap = s2.heap.push { cls := .type "dict", data := .dict #[] } := by rw [e3]
  rw [← e3] at I3
  obtain ⟨H3, eH⟩ : ∃ H3 : Hp, H3 = upd H2 D od := ⟨_, rfl⟩
  rw [← hod, ← eH] at w0
  rw [← eH] at I3
  have ok3 : ∀ b ∈ fp, FpOk X pins H3 b ∧ b < s3.heap.objs.size := fun b hb => by
    obtain ⟨o, e, _⟩ := T.obj _ _ st2 b hb
    have lt := Heap.lt_size e
    refine ⟨⟨?_, (f2 b hb).2⟩, by rw [h3, Heap.size_push]; exact Nat.lt_succ_of_lt lt⟩
    rw [eH, upd_ne (by rw [← hD]; exact Nat.ne_of_lt lt)]
    exact (f2 b hb).1
  have st3 : tn 0 s3.heap := T.keep _ _ _ st2 fun b _ o e => by rw [h3]; exact Heap.get?_push_of_some _ e
  have IB := block_start I3 ok hN ok3
  let cl := cellsFrom (s3.heap.objs.size + 1) scope.names (cloFrom X.env.cells scope.names [])
  let ce := compEnvC scope cl s3.heap.objs.size X.env
  have pg := hg s3 H3 s3.heap.objs.size cl fp
  have pt := ht s3 H3 s3.heap.objs.size cl fp
  have pk := hk s3 H3 s3.heap.objs.size cl fp
  have pv := he s3 H3 s3.heap.objs.size cl fp
  have st4 : tn 0 (pushCells (s3.heap.push { cls := .type "dict", data := .dict #[] }) scope.names) := T.keep _ _ _ st3 fun b _ o e => pushCells_keeps _ _ _ _ (Heap.get?_push_of_some _ e)
  have lp := dg_loop (iter := iter) (pos := pos) (it := it) (R := compPost (model X.prog X.w) X.A X.xe use Qf (.ref D) s3.heap.objs.size) hu hc T pg pt pk pv turns (fun s' H' J' qq => by
    have J7 : Inv X pins σ H' s' := I3.call' (ch := fp) J'.os J'.base J'.hok J'.bare fun b hb => ⟨(ok3 b hb).1.2.2.2.1, (ok3 b hb).1.2.1, (ok3 b hb).1.2.2.2.2.1, (ok3 b hb).1.2.2.2.2.2⟩
    obtain ⟨m, hn, _⟩ := J'.loc
    exact hRR D _ s' m H' J7 qq hn (I3.fpOk (Nat.le_refl _) (show H' s3.heap.objs.size = none from J'.free))) IB st4 (fun b hb => (ok3 b hb).1.1) w0
  have fin := codeAny_compStart_dict lp (T.self X.A 0 _ _ _ st4 lp)
  rw [hD]
  exact e3 ▸ fin
theorem sw_trueD {gs : List Comprehension} {py : Pos} {y : Str} {l : Nat} {env : Env} (hk : env.scope.kind = .function) (hy : env.scope.names.lookup y = some .local) (hl : (py.line == pos.line) = true)
    (ha : (scope.names.any fun (n, k) => n == y && (k == .local || k == .cell)) = false) : swapsWith (.DictComp kx vx gs scope pos) (some (.Name y py)) l env = pure true := by
  have ky : env.kindOf y = some .local := hy
  have hb : env.blockKind = .function := by unfold Env.blockKind; rw [hk]; rfl
  unfold swapsWith
  simp only [hb, ky, ha, Expr.pos, hl]
  rfl
theorem ps_setDc {i : Nat} {y : Str} {py spos : Pos} (hu : X.A.units + 64 < cLine) (hc : X.calm = true) (hN : X.N.Nodup) (hy : X.N[i]? = some y) (hyl : X.env.scope.names.lookup y = some .local)
    (hsw : swapsWith (.DictComp kx vx [⟨tg, iter, ifs, 0⟩] scope pos) (some (.Name y py)) spos.line X.env = pure true) (hi : PI X tg iter wi) (ok : BlkOk X.N X.env.scope scope own)
    (hg : ∀ (s : Shared) (H : Hp) (C : Addr) (cl : List (Str × Addr)) (fp : List Addr), PG (X.blk s H scope (compEnvC scope cl C X.env) fp) tg g) (ht : ∀ (s : Shared) (H : Hp) (C : Addr) (cl : List (Str × Addr)) (fp : List Addr), PTs (X.blk s H scope (compEnvC scope cl C X.env) fp) ifs tt)
    (hk : ∀ (s : Shared) (H : Hp) (C : Addr) (cl : List (Str × Addr)) (fp : List Addr), PE (X.blk s H scope (compEnvC scope cl C X.env) fp) kx tk)
    (he : ∀ (s : Shared) (H : Hp) (C : Addr) (cl : List (Str × Addr)) (fp : List Addr), PE (X.blk s H scope (compEnvC scope cl C X.env) fp) vx tv) (hs : ∀ x, foldedSetIterable iter X.env x = pure x := by intro _; rfl) :
    PS X (.Assign [.Name y py] (.DictComp kx vx [⟨tg, iter, ifs, 0⟩] scope pos) spos) (tAsg (tDg (kw X) wi g tt tk tv (own.map (·.2))) (gName i)) := by
  refine ⟨fun pins s σ H D I h => ?_⟩
  rw [exec_Assign_Name_used _ _ _ _ hsw]
  refine wpAny_bind (wpAny_standAt (wpAny_bind ?_))
  show wpAny _ X.A (do let _ ← comprehension (.DictComp kx vx [⟨tg, iter, ifs, 0⟩] scope pos) scope X.env (firstIterPos [⟨tg, iter, ifs, 0⟩] pos) newDict false (eval iter X.env) (some (assign (.Name y py) X.env))) _ _ s
  have h : tDg (kw X) wi g tt tk tv (own.map (·.2)) σ H (fun x H1 => gName i x σ H1 D.nx) := h
  refine wpAny_bind (thn (dg_core (Qf := fun _ s' => SP X pins D .next s') hu hc hN I hi ok hg ht hk he hs h fun L C s' m H' I' q hn f => ?_) fun _ s' hq => wpAny_pure (wpAny_pure hq))
  show wpAny _ _ (assign (.Name y py) X.env (.ref L)) _ _ _
  refine wpAny_assign_Name (store_ok2 (v := V.ref L) I' hN hy (.inl hyl) rfl (fun s2 I2 ⟨a, sb, ha⟩ => ?_) (.inr hyl))
  obtain ⟨f0, f1, f2, f3, f4, f5⟩ := f
  have haC : C ≠ a := by
    rcases ha with z | z
    · rw [z]; exact f1
    · exact fun e => f4 y a z e.symm
  refine ⟨m, hn.sameBut sb haC, fun h3 sb3 => ?_⟩
  exact ⟨_, H', I2.turned (t' := s2.toks) (fun b o hb e => (sb3.2 b hb).trans e) f0 f1 f3 f4 f5, q⟩
end
section
variable {X : Fam} {tg iter kx vx e : Expr} {ifs : List Expr} {pos px p : Pos} {te tb : ATr} {x : Str}
/-- name = {..} on one line, the name a plain local: a dict that may change -/
theorem as_setDc (hu : Roomy X) (i : Nat) {y : Str} {py spos : Pos} {scope : Scope} {own : List (Str × Nat)} {ti : AIt} {g : AGt} {tt : ATt} {tk tv : ATr} (hc : X.X0.calm = true) (hN : X.X0.N.Nodup) (hi : AI X tg iter ti) (ok : ∀ j, BlkOk (X.X j).N (X.X j).env.scope scope own)
    (hg : AGo (X.blk scope) tg g (own.map (·.2))) (ht : ATs (X.blk scope) ifs tt) (hk : AE (X.blk scope) kx tk) (he : AE (X.blk scope) vx tv)
    (hy : X.X0.N[i]? = some y := by rfl) (hyl : ∀ j, (X.X j).env.scope.names.lookup y = some .local := by intro _; rfl) (hsw : ∀ j, swapsWith (.DictComp kx vx [⟨tg, iter, ifs, 0⟩] scope pos) (some (.Name y py)) spos.line (X.X j).env = pure true := by intro _; exact sw_trueD rfl rfl rfl (by decide +kernel))
    (hs : ∀ j x, foldedSetIterable iter (X.X j).env x = pure x := by intro _ _; rfl) :
    AS X (.Assign [.Name y py] (.DictComp kx vx [⟨tg, iter, ifs, 0⟩] scope pos) spos) fun A ρ => aDc ti g tt tk tv (own.map (·.2)) ρ fun kvs ρ1 => A.nx (ρ1.set i (.dk kvs)) := by
  obtain ⟨_, a1, a2⟩ := hi.ex
  obtain ⟨_, g1, g2⟩ := hg.ex
  obtain ⟨_, t1, t2⟩ := ht.ex
  obtain ⟨_, k1, k2⟩ := hk.ex
  obtain ⟨_, e1, e2⟩ := he.ex
  refine ⟨tAsg (tDg X.K _ _ _ _ _ (own.map (·.2))) (gName i), fun j => by rw [← X.hkw j]; exact ps_setDc (by rw [X.hA j]; have := hu; omega) (by rw [X.hc j]; exact hc) (by rw [X.hN j]; exact hN) (by rw [X.hN j]; exact hy) (hyl j) (hsw j) (a1 j) (ok j) (fun s H C cl fp => g1 (j, s, H, C, cl, fp)) (fun s H C cl fp => t1 (j, s, H, C, cl, fp)) (fun s H C cl fp => k1 (j, s, H, C, cl, fp)) (fun s H C cl fp => e1 (j, s, H, C, cl, fp)) (hs j), fun W ρ F σ H D A hk' S ht' E => ?_⟩
  exact dc_sem (Y := X) (Z := X.blk scope) rfl a2 g2 t2 k2 e2 W ρ F σ H _ _ hk' S ht' fun xs ρ' F' p o H' S' hp e r q => E.nx _ F' _ H' (S'.setDk hp (hk' ▸ r)) e q
end
/-- a statement, what a name holds being let go ahead of it -/
theorem as_drop {X : Fam} {st : Stmt} {t : ASt} (i : Nat) (h : AS X st t) : AS X st fun A ρ => t A (ρ.set i .no) := by
  obtain ⟨_, a1, a2⟩ := h.ex
  exact ⟨_, a1, fun W ρ F σ H D A hk S ht E => a2 W _ F σ H D A hk S.forget ht E⟩
/-- a def that nobody may call yet -/
theorem fnG_never {P : Program} {w : World} {K : PySem.W.Frag} {mg : Str → Option Value} {base : Heap} {k : Nat} {f : Addr} {fd : FuncData} {ps : List Str} {asp : PSp} (h : ∀ ds q, ¬ asp ds q) : FnG P w K mg base k f fd ps (cP ⟨K, w, P⟩ asp) :=
  ⟨fun _ _ _ _ ⟨_, ds, q, _, _, a, _⟩ => (h ds q a).elim, fun _ _ _ _ _ _ _ _ _ _ _ _ _ _ ⟨_, ds, q, _, _, a, _⟩ => (h ds q a).elim⟩
end OS

/-! OSen: enumerate of a tuple. -/
namespace OS
open PySem L2 PySem.W PySem.Spec PyProof.Rows
theorem enum_made {v : Value} {o : Obj} {Hh : Heap → Prop} (B : Begins v o Hh) :
    Meets (Builtin.«enumerate.__new__» ⟨[.type "enumerate", v], []⟩) (fun _ R s => Hh s.heap ∧ R (.ok (.ret (.ref (s.heap.push o).objs.size))) { s with heap := (s.heap.push o).push { cls := .type "enumerate", data := .fields #[.none, .bool false, .ref s.heap.objs.size, rawInt 0, .none, .none] } }) :=
  .of_wp fun prog w A R s h => by
    obtain ⟨hp, g, d, tk, os⟩ := s
    obtain ⟨h1, h⟩ := h
    have hsub := sub_enumerate
    have go : ∀ {A' : Around} {E : Value → Shared → Prop} {Q : Value → Shared → Prop}, Q (.ref hp.objs.size) ⟨hp.push o, g, d, tk, os⟩ → wpAny (model prog w) A' (pyIter v) Q E ⟨hp, g, d, tk, os⟩ := fun q => B.iter prog w _ _ ⟨hp, g, d, tk, os⟩ _ h1 q
    wp_walk using go
    refine wpAny_stack_any fun st => wpAny_pure ?_
    split
    · rename_i c _ _ _ _ _
      cases (c == Value.type "enumerate") <;> (wp_walk using go; exact ⟨_, rfl, h⟩)
    · wp_walk using go
      exact ⟨_, rfl, h⟩
theorem enum_call {prog : Program} {w : World} {A : Around} {E : Value → Shared → Prop} {s : Shared} {v : Value} {o : Obj} {Hh : Heap → Prop} {Q : Value → Shared → Prop} (B : Begins v o Hh) (h1 : Hh s.heap)
    (h : ∀ h', IsEnum h' (s.heap.objs.size + 1) s.heap.objs.size 0 .none → h'.get? s.heap.objs.size = some o → (∀ b ob, s.heap.get? b = some ob → h'.get? b = some ob) → Q (.ref (s.heap.objs.size + 1)) { s with heap := h' }) :
    wpAny (model prog w) A (call (.type "enumerate") [v]) Q E s := by
  refine callType_new F.called_enumerate (by decide) (F.typeCall_enumerate_1 _) (F.newCall_enumerate_1 _) (fun obj => F.args_object_init_2 obj _) F.entry_enumerate_new (enum_made B) ⟨h1, ?_⟩
  obtain ⟨h2, e2⟩ : ∃ h2, h2 = s.heap.push o := ⟨_, rfl⟩
  have z2 : h2.objs.size = s.heap.objs.size + 1 := by rw [e2]; exact Heap.size_push ..
  rw [← e2]
  obtain ⟨en, een⟩ : ∃ en : Obj, en = { cls := .type "enumerate", data := .fields #[.none, .bool false, .ref s.heap.objs.size, rawInt 0, .none, .none] } := ⟨_, rfl⟩
  show _ ∧ _
  rw [z2]
  have he : IsEnum (h2.push { cls := .type "enumerate", data := .fields #[.none, .bool false, .ref s.heap.objs.size, rawInt 0, .none, .none] }) (s.heap.objs.size + 1) s.heap.objs.size 0 .none := by
    have := Heap.get?_push_size h2 (o := { cls := .type "enumerate", data := .fields #[.none, .bool false, .ref s.heap.objs.size, rawInt 0, .none, .none] }) rfl
    rw [z2] at this
    exact this
  have old : ∀ b ob, s.heap.get? b = some ob → h2.get? b = some ob := fun b ob x => by rw [e2]; exact Heap.get?_push_of_some _ x
  refine ⟨⟨_, he, rfl⟩, h _ he ?_ fun b ob x => Heap.get?_push_of_some _ (old b ob x)⟩
  refine Heap.get?_push_of_some _ ?_
  rw [e2]
  exact Heap.get?_push_size _ B.free
/-- the tuple at a, each item in a new pair -/
def ItnT (K : PySem.W.Frag) (a : Addr) : It :=
  ⟨fun i H => ∃ (xs : List V) (x : V), SqT K H a xs ∧ xs[i]? = some x, fun i H v H' => ∃ T x, v = .ref T ∧ H T = none ∧ H' = upd H T (.tup [.int (i : Nat), x]) ∧ ∀ xs, SqT K H a xs → xs[i]? = some x, fun i H => ∃ xs : List V, SqT K H a xs ∧ xs.length ≤ i⟩
theorem turn_enumT {P : Program} {w : World} {K : PySem.W.Frag} {elts : List Expr} {kk : Nat} {tpos : Pos} (a e it : Addr) (hea : e ≠ a) (hia : it ≠ a) (items : Array Value) :
    Turn P w K (.Tuple elts kk tpos) (ItnT K a) [e, it] e (fun i h => (∃ old, IsEnum h e it ((i : Nat) : Int) old) ∧ h.IsTupleIter it a i ∧ e ≠ it) where
  mem := by simp
  obj := fun i h st b hb => by
    obtain ⟨⟨old, he⟩, ⟨o, ho, hc, hd⟩, _⟩ := st
    have e' : b = e ∨ b = it := by simpa using hb
    rcases e' with z | z <;> rw [z]
    · exact ⟨_, he, fun v q => nomatch q⟩
    · exact ⟨o, ho, fun v q => by rw [hd] at q; cases q⟩
  keep := fun i h h' st k => let ⟨⟨old, he⟩, hi, hne⟩ := st; ⟨⟨old, k e (by simp) _ he⟩, hi.at fun o q => k it (by simp) o q, hne⟩
  item := by
    intro X hP hw hK hc i pins s σ H E I hf st hg
    subst hP hw hK
    obtain ⟨⟨old, he⟩, hit, hne⟩ := st
    obtain ⟨xs, x, hq, hx⟩ := hg
    obtain ⟨its, rv, p, hz⟩ := I.tuple hq
    obtain ⟨u, hu, ru⟩ := rv.get hx
    have hel : e < s.heap.objs.size := Heap.lt_size he
    have hil : it < s.heap.objs.size := by obtain ⟨_, q, _⟩ := hit; exact Heap.lt_size q
    have hd : X.A.handled = none := I.ok.hd hc
    have D := Draws.tuple (prog := X.prog) (w := X.w) (A := X.A.in1) hd it a (Ne.symm hia) its.toArray
    have lt : i < its.toArray.size := by
      obtain ⟨h, _⟩ := List.getElem?_eq_some_iff.mp hu
      simpa using h
    refine wpAny_pyNext_enum_itemD D he ⟨hit, (show s.heap.IsTuple a its.toArray from p)⟩ lt hne (by simp [hne, hea]) fun x' h' tk hP ho hst hT hsz hk => ?_
    have ex : x' = u := by
      have : its[i]? = some x' := by simpa using hP
      rw [hu] at this
      exact (Option.some.inj this).symm
    subst ex
    refine ⟨_, rfl, wpAny_letOwnedTupleGo_enum (s := { s with heap := h', toks := tk + 1 }) ho fun h'' he' sb => ?_⟩
    have hT2 : h''.get? s.heap.objs.size = some { cls := .type "tuple", data := .seq #[.int i tk, x'] } := (sb.2 _ (Nat.ne_of_gt hel)).trans hT
    have new : ObjOk X.prog X.w (upd H s.heap.objs.size (.tup [.int (i : Nat), x])) h'' s.heap.objs.size (.tup [.int (i : Nat), x]) :=
      ⟨by show 2 ≤ sizeLine; decide, [.int i tk, x'], .cons ⟨_, rfl⟩ (.cons ru .nil), ⟨_, hT2, rfl, _, rfl⟩⟩
    have I1 : Inv X pins σ (upd H s.heap.objs.size (.tup [.int (i : Nat), x])) { s with heap := h'', toks := tk + 1 } :=
      I.turnedNew (ch := [e, it]) (fun b ob hb q => (sb.2 b (fun z => hb (by simp [z]))).trans (hk b ob (fun z => hb (by simp [z])) (fun z => hb (by simp [z])) q)) hf (Nat.le_refl _) new
    refine ⟨.ref s.heap.objs.size, _, I1, rfl, ⟨_, x, rfl, I.hok.fresh (Nat.le_refl _), rfl, fun ys hy => by rw [I.tuple_inj hy hq]; exact hx⟩, ⟨⟨x', ?_⟩, hst.1.at fun o q => (sb.2 it (Ne.symm hne)).trans q, hne⟩, fun b hb => ?_⟩
    · have e1 : ((i + 1 : Nat) : Int) = (i : Int) + 1 := by omega
      rw [e1]; exact he'
    · have e' : b = e ∨ b = it := by simpa using hb
      have hb' : b < s.heap.objs.size := by rcases e' with z | z <;> rw [z] <;> assumption
      rw [upd_ne (Nat.ne_of_lt hb')]
      exact (hf b hb).1
  done := by
    intro X hP hw hK hc i pins s σ H E I hf st hg
    subst hP hw hK
    obtain ⟨⟨old, he⟩, hit, hne⟩ := st
    obtain ⟨xs, hq, hx⟩ := hg
    obtain ⟨its, rv, p, hz⟩ := I.tuple hq
    obtain ⟨f0, f1, f2, f3, f4, f5⟩ := hf it (by simp)
    have hl := rv.length
    have hd : X.A.handled = none := I.ok.hd hc
    have hT : s.TypeIs (.ref e) "enumerate" := ⟨_, he, rfl⟩
    unfold pyNext
    refine wpAny_bind (wpAny_attempt (wpAny_callSpecial?_slot (name := Str.ofString "__next__") hT F.slot_enumerate_next (wpAny_call_entry F.slot_enumerate_next hT F.entry_enumerate_next ?_ (F.args_enumerate_next_1 _))))
    show wpAny _ _ (field (.ref e) 2 >>= _) _ _ _
    refine wpAny_bind (wpAny_field he rfl (x := .ref it) rfl ?_)
    refine wpAny_bind (wpAny_nextOf_tuple_end hd hit (show s.heap.IsTuple a its.toArray from p) (by simp; omega) fun h' x he' hx' => ?_)
    obtain ⟨o, ho, hcc⟩ := hx'
    refine wpAny_bind (wpAny_isInstance (T := "StopIteration") (b := true) ⟨o, ho, hcc⟩ isSubtype_stop ?_)
    exact wpAny_pure ⟨rfl, I.turned (t' := s.toks) (fun b o hb q => he' b o hb q) f0 f1 f3 f4 f5⟩
  self := fun A i s Q E st h => let ⟨⟨_, he⟩, _⟩ := st; wpAny_pyIter_enum he h
/-- enumerate of a list or a tuple -/
def iEnum2 (K : PySem.W.Frag) (ta : TA) : TI := fun σ H R => ta σ H fun vs H1 => ∃ a xs, vs = [.ref a] ∧ ((SqL K H1 a xs ∧ R (Ite K a) H1) ∨ (SqT K H1 a xs ∧ R (ItnT K a) H1))
theorem pi_enum2 {X : Cx} {e : Expr} {ta : TA} {p pos tpos : Pos} {elts : List Expr} {kk : Nat} (hg : Gl X "enumerate") (hm : X.mg "enumerate" = none) (ha : PA X [e] ta) (hs : starEach [e] X.env = [(false, eval e X.env)] := by rfl) :
    PI X (.Tuple elts kk tpos) (.Call (.Name "enumerate" p) [e] [] pos) (iEnum2 X.K ta) := by
  refine ⟨fun pins s σ H R I h => ?_⟩
  refine Call_ (ld_blt I hg hm boot_enumerate (PyProof.Rows.callWith_type1 (thn (ha.run pos pins s σ H _ I h) fun us s1 ⟨vs, H1, I1, r1, q1⟩ => ?_) hs rfl))
  obtain ⟨a, xs, ex, q⟩ := q1
  subst ex
  cases r1 with
  | cons r rr =>
    cases rr
    cases r
    have big : ∀ b, b = s1.heap.objs.size + 1 ∨ b = s1.heap.objs.size → s1.heap.objs.size ≤ b := fun b hb => by omega
    rcases q with ⟨hq, q⟩ | ⟨hq, q⟩
    · obtain ⟨its, rv, p', hz⟩ := I1.list hq
      refine call_enumerate_list p'.isList fun h' he hit hsz hk => wpAny_pyIter_enum he ?_
      have I2 : Inv X pins σ H1 { s1 with heap := h' } := I1.kept (t' := s1.toks) hk
      refine ⟨s1.heap.objs.size + 1, [s1.heap.objs.size + 1, s1.heap.objs.size], _, _, H1, rfl, I2, turn_enum a (s1.heap.objs.size + 1) s1.heap.objs.size, ⟨⟨.none, he⟩, hit, Nat.succ_ne_self _⟩, fun b hb => ?_, q⟩
      have hle := big b (by simpa using hb)
      exact I1.fpOk hle (I1.hok.fresh hle)
    · obtain ⟨its, rv, p', hz⟩ := I1.tuple hq
      have lt : a < s1.heap.objs.size := by obtain ⟨o, ho, _⟩ := p'; exact Heap.lt_size ho
      refine enum_call (begins_tuple a its.toArray) (show s1.heap.IsTuple a its.toArray from p') fun h' he hit hk => wpAny_pyIter_enum he ?_
      have I2 : Inv X pins σ H1 { s1 with heap := h' } := I1.kept (t' := s1.toks) hk
      refine ⟨s1.heap.objs.size + 1, [s1.heap.objs.size + 1, s1.heap.objs.size], _, _, H1, rfl, I2, turn_enumT a (s1.heap.objs.size + 1) s1.heap.objs.size (Nat.ne_of_gt (Nat.lt_succ_of_lt lt)) (Nat.ne_of_gt lt) #[], ⟨⟨.none, he⟩, ⟨_, hit, rfl, rfl⟩, Nat.succ_ne_self _⟩, fun b hb => ?_, q⟩
      have hle := big b (by simpa using hb)
      exact I1.fpOk hle (I1.hok.fresh hle)
theorem itOk_enumT {K : KW} {a : Addr} {F : Hp} {vs : List V} {ds : List PyData} (h : SqT K F a vs) (r : DpAll K F vs ds) : ItOk K (ItnT K a) (enumD ds) F where
  go := fun i F1 H e1 e2 hi => by
    have hi : i < ds.length := by simpa [enumD] using hi
    obtain ⟨v, h1, _⟩ := dpAll_get r (List.getElem?_eq_getElem hi)
    exact ⟨vs, v, Evl.ex_t (e1.trans e2) h, h1⟩
  stop := fun i F1 H e1 e2 hi0 => have hi := Nat.le_of_eq hi0.symm; ⟨vs, Evl.ex_t (e1.trans e2) h, by rw [dpAll_len r]; simpa [enumD] using hi⟩
  yld := fun i F1 H x H' e1 e2 hi y => by
    have hi : i < ds.length := by simpa [enumD] using hi
    obtain ⟨T, z, rfl, hT, rfl, y⟩ := y
    obtain ⟨v, h1, h2⟩ := dpAll_get r (List.getElem?_eq_getElem hi)
    have ez := y vs (Evl.ex_t (e1.trans e2) h)
    rw [h1] at ez
    have ez : v = z := Option.some.inj ez
    subst ez
    have fT : F1 T = none := e2.free hT
    exact ⟨.tuple [.int (i : Nat), ds[i]], upd F1 T (.tup [.int (i : Nat), v]), by simp [enumD, hi], .inr ⟨T, _, hT, rfl, rfl⟩, .tup (SqT.of upd_same) (.cons (.int _) (.cons (dp_mono (e1.trans (same_upd fT)) h2) .nil)) fun z => absurd (show false = true from z) Bool.false_ne_true⟩
def enumR (q : List PyData → Prop) : List AArg → Prop
  | [.d (.list ds)] => q (enumD ds)
  | [.d (.tuple ds)] => q (enumD ds)
  | _ => False
theorem ai_enum2 {X : Fam} {e : Expr} {pos : Pos} {elts : List Expr} {kk : Nat} {p tpos : Pos} {ta : AAr} (hg : ∀ j, Gl (X.X j) "enumerate") (hm : X.X0.mg "enumerate" = none) (ha : AA X [e] ta) (hs : ∀ j, starEach [e] (X.X j).env = [(false, eval e (X.X j).env)] := by intro _; rfl) :
    AI X (.Tuple elts kk tpos) (.Call (.Name "enumerate" p) [e] [] pos) fun ρ q => ta ρ fun as ρ1 => enumR (fun ds => q ds ρ1) as := by
  obtain ⟨_, a1, a2⟩ := ha.ex
  refine ⟨_, fun j => by have q := pi_enum2 (kk := kk) (tpos := tpos) (elts := elts) (p := p) (pos := pos) (hg j) (by rw [X.hm j]; exact hm) (a1 j) (hs j); rw [X.hK j] at q; exact q, fun W ρ F σ H R q hk S ht k => a2 W ρ F σ H _ _ hk S ht fun as ρ' F' vs H' S' e r q1 => ?_⟩
  unfold enumR at q1
  split at q1
  · cases r with
    | cons r rr =>
      cases rr
      cases r with
      | lst hs ha => exact ⟨_, _, rfl, .inl ⟨Evl.ex_l S'.sub hs, k _ ρ' F' H' _ S' e (itOk_enum hs ha) q1⟩⟩
  · cases r with
    | cons r rr =>
      cases rr
      cases r with
      | tup hs ha tx => exact ⟨_, _, rfl, .inr ⟨Evl.ex_t S'.sub hs, k _ ρ' F' H' _ S' e (itOk_enumT hs ha) q1⟩⟩
  · exact q1.elim
end OS

/-! OSzm: zip of a list or a tuple with a list or a tuple. -/
namespace OS
open PySem L2 PySem.W PySem.Spec PyProof.Rows
/-- a tuple (true) or a list -/
def SqB (K : PySem.W.Frag) (b : Bool) (H : Hp) (a : Addr) (xs : List V) : Prop := if b then SqT K H a xs else SqL K H a xs
def HSq (b : Bool) (h : Heap) (a : Addr) (its : Array Value) : Prop := if b then h.IsTuple a its else h.IsList a its
def HIt (b : Bool) (h : Heap) (it a : Addr) (i : Nat) : Prop := if b then h.IsTupleIter it a i else h.IsListIter it a i
def itO (b : Bool) (a : Addr) : Obj := if b then { cls := .type "tuple_iterator", data := .fields #[.ref a, .int 0 0] } else { cls := .type "list_iterator", data := .fields #[.ref a, .int 0 0] }
theorem sqb_items {X : Cx} {pins : List (Addr × Obj)} {σ : L2.St} {H : Hp} {s : Shared} {b : Bool} {a : Addr} {xs : List V} (I : Inv X pins σ H s) (h : SqB X.K b H a xs) : ∃ its : List Value, Vals xs its ∧ HSq b s.heap a its.toArray := by
  cases b with
  | true => obtain ⟨its, r, p, _⟩ := I.tuple h; exact ⟨its, r, p⟩
  | false => obtain ⟨its, r, p, _⟩ := I.list h; exact ⟨its, r, p.isList⟩
theorem sqb_inj {X : Cx} {pins : List (Addr × Obj)} {σ : L2.St} {H : Hp} {s : Shared} {b : Bool} {a : Addr} {xs ys : List V} (I : Inv X pins σ H s) (h : SqB X.K b H a xs) (h' : SqB X.K b H a ys) : xs = ys := by
  cases b with
  | true => exact I.tuple_inj h h'
  | false => exact I.list_inj h h'
theorem sqb_lt {b : Bool} {h : Heap} {a : Addr} {its : Array Value} (p : HSq b h a its) : a < h.objs.size := by
  cases b with
  | true => obtain ⟨o, ho, _⟩ := p; exact Heap.lt_size ho
  | false => obtain ⟨o, ho, _⟩ := p; exact Heap.lt_size ho
theorem hit_obj {b : Bool} {h : Heap} {it a : Addr} {i : Nat} (p : HIt b h it a i) : ∃ o, h.get? it = some o := by
  cases b with
  | true => obtain ⟨o, ho, _⟩ := p; exact ⟨o, ho⟩
  | false => obtain ⟨o, ho, _⟩ := p; exact ⟨o, ho⟩
theorem hit_at {b : Bool} {h h' : Heap} {it a : Addr} {i : Nat} (p : HIt b h it a i) (k : ∀ o, h.get? it = some o → h'.get? it = some o) : HIt b h' it a i := by
  cases b with
  | true => exact Heap.IsTupleIter.at p k
  | false => exact Heap.IsListIter.at p k
theorem draws_b {prog : Program} {w : World} {A : Around} (hh : A.handled = none) (b : Bool) (it a : Addr) (hne : a ≠ it) (items : Array Value) :
    Draws prog w A it [it, a] items.size (fun i v => items[i]? = some v) (fun i h => HIt b h it a i ∧ HSq b h a items) := by
  cases b with
  | true => exact Draws.tuple hh it a hne items
  | false => exact Draws.list hh it a hne items
theorem begins_b (b : Bool) (a : Addr) (items : Array Value) : Begins (.ref a) (itO b a) fun h => HSq b h a items := by
  cases b with
  | true => exact begins_tuple a items
  | false => exact begins_list a items
theorem hit_new {b : Bool} {h : Heap} {it a : Addr} (e : h.get? it = some (itO b a)) : HIt b h it a 0 := by
  cases b with
  | true => exact ⟨_, e, rfl, rfl⟩
  | false => exact ⟨_, e, rfl, rfl⟩
def ItzB (K : PySem.W.Frag) (b1 b2 : Bool) (a b : Addr) : It :=
  ⟨fun i H => ∃ (xs ys : List V) (x y : V), SqB K b1 H a xs ∧ SqB K b2 H b ys ∧ xs[i]? = some x ∧ ys[i]? = some y,
    fun i H v H' => ∃ (T : Addr) (o : Obj) (x y : V), v = .ref T ∧ o.dict = none ∧ H T = none ∧ H' = upd H T (.frz o (.tup [x, y])) ∧ (∀ xs, SqB K b1 H a xs → xs[i]? = some x) ∧ ∀ ys, SqB K b2 H b ys → ys[i]? = some y,
    fun i H => ∃ xs ys : List V, SqB K b1 H a xs ∧ SqB K b2 H b ys ∧ i ≤ xs.length ∧ i ≤ ys.length ∧ (i = xs.length ∨ i = ys.length)⟩
theorem turn_zipB {P : Program} {w : World} {K : PySem.W.Frag} {elts : List Expr} {kk : Nat} {tpos : Pos} (b1 b2 : Bool) {a b z TI TO i1 i2 : Addr} (D : ZipSep2 z TI TO i1 i2 [i1, a] [i2, b]) (n1 : a ≠ i1) (n2 : b ≠ i2) :
    Turn P w K (.Tuple elts kk tpos) (ItzB K b1 b2 a b) [z, TI, TO, i1, i2] z (fun i h => IsZip h z TI TO .none ∧ IsTupOf2 h TI (.ref i1) (.ref i2) ∧ (∃ x y, IsTupOf2 h TO x y) ∧ HIt b1 h i1 a i ∧ HIt b2 h i2 b i) where
  mem := by simp
  obj := fun i h st c hc => by
    obtain ⟨hz, hTI, ⟨x, y, hTO⟩, h1, h2⟩ := st
    have e' : c = z ∨ c = TI ∨ c = TO ∨ c = i1 ∨ c = i2 := by simpa using hc
    rcases e' with q | q | q | q | q <;> rw [q]
    · exact ⟨_, hz, fun v q => nomatch q⟩
    · exact ⟨_, hTI, fun v q => nomatch q⟩
    · exact ⟨_, hTO, fun v q => nomatch q⟩
    · cases b1 with
      | true => obtain ⟨o, ho, _, hd⟩ := h1; exact ⟨o, ho, fun v q => by rw [hd] at q; cases q⟩
      | false => obtain ⟨o, ho, _, hd⟩ := h1; exact ⟨o, ho, fun v q => by rw [hd] at q; cases q⟩
    · cases b2 with
      | true => obtain ⟨o, ho, _, hd⟩ := h2; exact ⟨o, ho, fun v q => by rw [hd] at q; cases q⟩
      | false => obtain ⟨o, ho, _, hd⟩ := h2; exact ⟨o, ho, fun v q => by rw [hd] at q; cases q⟩
  keep := fun i h h' st k => by
    obtain ⟨hz, hTI, ⟨x, y, hTO⟩, h1, h2⟩ := st
    exact ⟨k z (by simp) _ hz, k TI (by simp) _ hTI, ⟨x, y, k TO (by simp) _ hTO⟩, hit_at h1 fun o q => k i1 (by simp) o q, hit_at h2 fun o q => k i2 (by simp) o q⟩
  item := by
    intro X hP hw hK hc i pins s σ H E I hf st hg
    subst hP hw hK
    obtain ⟨hz, hTI, ⟨x0, y0, hTO⟩, h1, h2⟩ := st
    obtain ⟨xs, ys, x, y, hqx, hqy, hx, hy⟩ := hg
    obtain ⟨its, rv, p⟩ := sqb_items I hqx
    obtain ⟨its2, rv2, p2⟩ := sqb_items I hqy
    obtain ⟨u, hu, ru⟩ := rv.get hx
    obtain ⟨u2, hu2, ru2⟩ := rv2.get hy
    have hh : X.A.in1.handled = none := I.ok.hd hc
    have D1 := draws_b (prog := X.prog) (w := X.w) hh b1 i1 a n1 its.toArray
    have D2 := draws_b (prog := X.prog) (w := X.w) hh b2 i2 b n2 its2.toArray
    have hzl : z < s.heap.objs.size := Heap.lt_size hz
    have lt1 : i < its.toArray.size := by obtain ⟨h, _⟩ := List.getElem?_eq_some_iff.mp hu; simpa using h
    have lt2 : i < its2.toArray.size := by obtain ⟨h, _⟩ := List.getElem?_eq_some_iff.mp hu2; simpa using h
    refine wpAny_pyNext_zipD2_item D D1 D2 hz hTI hTO ⟨h1, p⟩ ⟨h2, p2⟩ lt1 lt2 fun v1 v2 h' tk q1 q2 z' TO' st1 st2 hT hsz hk => ?_
    have e1 : v1 = u := by
      have : its[i]? = some v1 := by simpa using q1
      rw [hu] at this
      exact (Option.some.inj this).symm
    have e2 : v2 = u2 := by
      have : its2[i]? = some v2 := by simpa using q2
      rw [hu2] at this
      exact (Option.some.inj this).symm
    subst e1 e2
    refine ⟨_, rfl, wpAny_letOwnedTupleGo_zip (s := { s with heap := h', toks := tk }) z' fun h'' z'' sb => ?_⟩
    have hT2 : h''.get? s.heap.objs.size = some { cls := .type "tuple", data := .seq #[v1, v2] } := (sb.2 _ (Nat.ne_of_gt hzl)).trans hT
    have new : ObjOk X.prog X.w (upd H s.heap.objs.size (.frz { cls := .type "tuple", data := .seq #[v1, v2] } (.tup [x, y]))) h'' s.heap.objs.size (.frz { cls := .type "tuple", data := .seq #[v1, v2] } (.tup [x, y])) :=
      ⟨hT2, by show 2 ≤ sizeLine; decide, [v1, v2], .cons ru (.cons ru2 .nil), ⟨_, hT2, rfl, _, rfl⟩⟩
    have I1 : Inv X pins σ (upd H s.heap.objs.size (.frz { cls := .type "tuple", data := .seq #[v1, v2] } (.tup [x, y]))) { s with heap := h'', toks := tk } :=
      I.turnedNew (ch := [z, TI, TO, i1, i2]) (fun c o hb q => (sb.2 c (fun q' => hb (by simp [q']))).trans (hk c o (fun q' => hb (by simp [q'])) (fun q' => hb (by simp [q'])) (fun q' => hb (by simp [q'])) (fun q' => hb (by simp [q'])) q)) hf (Nat.le_refl _) new
    refine ⟨.ref s.heap.objs.size, _, I1, rfl, ⟨_, _, x, y, rfl, rfl, I.hok.fresh (Nat.le_refl _), rfl, fun l hl => by rw [sqb_inj I hl hqx]; exact hx, fun l hl => by rw [sqb_inj I hl hqy]; exact hy⟩, ⟨z'', ?_, ⟨v1, v2, ?_⟩, ?_, ?_⟩, fun c hcm => ?_⟩
    · exact (sb.2 _ D.TIz).trans (hk _ _ D.TIz D.TITO D.TIi1 D.TIi2 hTI)
    · exact (sb.2 _ D.TOz).trans TO'
    · exact hit_at st1.1 fun o q => (sb.2 _ (Ne.symm D.zi1)).trans q
    · exact hit_at st2.1 fun o q => (sb.2 _ (Ne.symm D.zi2)).trans q
    · have hlt : c < s.heap.objs.size := by
        have e' : c = z ∨ c = TI ∨ c = TO ∨ c = i1 ∨ c = i2 := by simpa using hcm
        rcases e' with q | q | q | q | q <;> rw [q]
        · exact hzl
        · exact Heap.lt_size hTI
        · exact Heap.lt_size hTO
        · obtain ⟨_, e1⟩ := hit_obj h1; exact Heap.lt_size e1
        · obtain ⟨_, e2⟩ := hit_obj h2; exact Heap.lt_size e2
      rw [upd_ne (Nat.ne_of_lt hlt)]
      exact (hf c hcm).1
  done := by
    intro X hP hw hK hc i pins s σ H E I hf st hg
    subst hP hw hK
    obtain ⟨hz, hTI, ⟨x0, y0, hTO⟩, h1, h2⟩ := st
    obtain ⟨xs, ys, hqx, hqy, l1, l2, hend⟩ := hg
    obtain ⟨its, rv, p⟩ := sqb_items I hqx
    obtain ⟨its2, rv2, p2⟩ := sqb_items I hqy
    have e1 := rv.length
    have e2 := rv2.length
    have hh : X.A.in1.handled = none := I.ok.hd hc
    have D1 := draws_b (prog := X.prog) (w := X.w) hh b1 i1 a n1 its.toArray
    have D2 := draws_b (prog := X.prog) (w := X.w) hh b2 i2 b n2 its2.toArray
    exact wpAny_pyNext_zipD2_end D D1 D2 hz hTI hTO ⟨h1, p⟩ ⟨h2, p2⟩ (by rw [List.size_toArray]; omega) (by rw [List.size_toArray]; omega) (by rw [List.size_toArray, List.size_toArray]; omega) fun h' tk hk => ⟨rfl, I.turnedL (t' := tk) (ch := [z, TI, TO, i1, i2]) (fun c o hb q =>
      hk c o (fun q' => hb (by simp [q'])) (fun q' => hb (by simp [q'])) (fun q' => hb (by simp [q'])) (fun q' => hb (by simp [q'])) q) hf⟩
  self := fun A i s Q E st h => wpAny_pyIter_zip st.1 h
def iZipB (K : PySem.W.Frag) (ta : TA) : TI := fun σ H R => ta σ H fun vs H1 => ∃ b1 b2 a b xs ys, vs = [.ref a, .ref b] ∧ SqB K b1 H1 a xs ∧ SqB K b2 H1 b ys ∧ R (ItzB K b1 b2 a b) H1
theorem pi_zipB {X : Cx} {e e2 : Expr} {ta : TA} {p pos tpos : Pos} {elts : List Expr} {kk : Nat} (hg : Gl X "zip") (hm : X.mg "zip" = none) (ha : PA X [e, e2] ta)
    (hs : starEach [e, e2] X.env = (false, eval e X.env) :: starEach [e2] X.env := by rfl) (hpl : (backTo pos (starEach [e2] X.env)).any (·.1) = false := by rfl) :
    PI X (.Tuple elts kk tpos) (.Call (.Name "zip" p) [e, e2] [] pos) (iZipB X.K ta) := by
  refine ⟨fun pins s σ H R I h => ?_⟩
  refine Call_ (ld_blt I hg hm PyProof.Rows.boot_zip (PyProof.Rows.callWith_type1 (thn (ha.run pos pins s σ H _ I h) fun us s1 ⟨vs, H1, I1, r1, q1⟩ => ?_) hs hpl))
  obtain ⟨b1, b2, a, b, xs, ys, ex, hqx, hqy, q⟩ := q1
  subst ex
  cases r1 with
  | cons r rr =>
    cases rr with
    | cons r' rr =>
      cases rr
      cases r
      cases r'
      have fresh5 : ∀ c, c ∈ [s1.heap.objs.size + 4, s1.heap.objs.size + 2, s1.heap.objs.size + 3, s1.heap.objs.size, s1.heap.objs.size + 1] → FpOk X pins H1 c := fun c hcm => by
        have hle : s1.heap.objs.size ≤ c := by
          have e' : c = s1.heap.objs.size + 4 ∨ c = s1.heap.objs.size + 2 ∨ c = s1.heap.objs.size + 3 ∨ c = s1.heap.objs.size ∨ c = s1.heap.objs.size + 1 := by simpa using hcm
          rcases e' with z | z | z | z | z <;> rw [z] <;> first | exact Nat.le_add_right _ _ | exact Nat.le_refl _
        exact I1.fpOk hle (I1.hok.fresh hle)
      obtain ⟨its, rv, p1⟩ := sqb_items I1 hqx
      obtain ⟨its2, rv2, p2⟩ := sqb_items I1 hqy
      have la := sqb_lt p1
      have lb := sqb_lt p2
      refine zip_begins2 (begins_b b1 a its.toArray) (begins_b b2 b its2.toArray) p1 p2 fun h' hz hTI hTO g1 g2 hsz hk => wpAny_pyIter_zip hz ?_
      have I2 : Inv X pins σ H1 { s1 with heap := h' } := I1.kept (t' := s1.toks) hk
      obtain ⟨N, eN⟩ : ∃ N : Nat, N = s1.heap.objs.size := ⟨_, rfl⟩
      rw [← eN] at la lb
      have sep : ZipSep2 (N + 4) (N + 2) (N + 3) N (N + 1) [N, a] [N + 1, b] := by
        have la' : @LT.lt Nat instLTNat a N := la
        have lb' : @LT.lt Nat instLTNat b N := lb
        have up : ∀ k x : Nat, x < N → N + k ≠ x := fun k x h => Nat.ne_of_gt (Nat.lt_of_lt_of_le h (Nat.le_add_right _ _))
        have df : ∀ k l : Nat, k ≠ l → N + k ≠ N + l := fun k l h e => h (Nat.add_left_cancel e)
        have two : ∀ (x y z : Addr), x ≠ y → x ≠ z → x ∉ [y, z] := fun x y z h1 h2 hm => by
          rcases List.mem_cons.mp hm with e | hm
          · exact h1 e
          · exact h2 (List.mem_singleton.mp hm)
        exact ⟨df 2 4 (by decide), df 3 4 (by decide), df 2 3 (by decide), df 2 0 (by decide), .head _, two _ _ _ (df 4 0 (by decide)) (up 4 a la'), two _ _ _ (df 3 0 (by decide)) (up 3 a la'), df 2 1 (by decide), .head _, two _ _ _ (df 4 1 (by decide)) (up 4 b lb'), two _ _ _ (df 3 1 (by decide)) (up 3 b lb'), two _ _ _ (df 0 1 (by decide)) (up 0 b lb'), two _ _ _ (df 1 0 (by decide)) (up 1 a la')⟩
      rw [eN] at sep la lb
      exact ⟨s1.heap.objs.size + 4, [s1.heap.objs.size + 4, s1.heap.objs.size + 2, s1.heap.objs.size + 3, s1.heap.objs.size, s1.heap.objs.size + 1], _, _, H1, rfl, I2, turn_zipB b1 b2 sep (Nat.ne_of_lt la) (Nat.ne_of_lt (Nat.lt_succ_of_lt lb)), ⟨hz, hTI, ⟨_, _, hTO⟩, hit_new g1, hit_new g2⟩, fresh5, q⟩
theorem itOk_zipB {K : KW} {b1 b2 : Bool} {a b : Addr} {F : Hp} {vs ws : List V} {xs ys : List PyData} (h : ∀ H, Same F H → SqB K b1 H a vs) (r : DpAll K F vs xs) (h' : ∀ H, Same F H → SqB K b2 H b ws) (r' : DpAll K F ws ys) : ItOk K (ItzB K b1 b2 a b) (zipD xs ys) F where
  go := fun i F1 H e1 e2 hi => by
    rw [zipD_len] at hi
    obtain ⟨v, g1, _⟩ := dpAll_get r (List.getElem?_eq_getElem (show i < xs.length by omega))
    obtain ⟨w, g2, _⟩ := dpAll_get r' (List.getElem?_eq_getElem (show i < ys.length by omega))
    exact ⟨vs, ws, v, w, h H (e1.trans e2), h' H (e1.trans e2), g1, g2⟩
  stop := fun i F1 H e1 e2 hi => by
    rw [zipD_len] at hi
    have l1 := dpAll_len r
    have l2 := dpAll_len r'
    exact ⟨vs, ws, h H (e1.trans e2), h' H (e1.trans e2), by omega, by omega, by omega⟩
  yld := fun i F1 H x H' e1 e2 hi y => by
    rw [zipD_len] at hi
    obtain ⟨T, o, z, z2, rfl, ho, hT, rfl, y1, y2⟩ := y
    obtain ⟨v, g1, d1⟩ := dpAll_get r (List.getElem?_eq_getElem (show i < xs.length by omega))
    obtain ⟨w, g2, d2⟩ := dpAll_get r' (List.getElem?_eq_getElem (show i < ys.length by omega))
    have ez := y1 vs (h H (e1.trans e2))
    rw [g1] at ez
    cases Option.some.inj ez
    have ew := y2 ws (h' H (e1.trans e2))
    rw [g2] at ew
    cases Option.some.inj ew
    have fT : F1 T = none := e2.free hT
    exact ⟨_, _, zipD_get (List.getElem?_eq_getElem (by omega)) (List.getElem?_eq_getElem (by omega)), .inr ⟨T, _, hT, rfl, rfl⟩, .tup (SqT.frz upd_same) (.cons (dp_mono (e1.trans (same_upd fT)) d1) (.cons (dp_mono (e1.trans (same_upd fT)) d2) .nil)) fun _ => .of ho upd_same⟩
def dZip2 : List PyData → (List PyData → Prop) → Prop
  | [.list xs, .list ys], q => q (zipD xs ys)
  | [.list xs, .tuple ys], q => q (zipD xs ys)
  | [.tuple xs, .list ys], q => q (zipD xs ys)
  | [.tuple xs, .tuple ys], q => q (zipD xs ys)
  | _, _ => False
def seqX : PyData → Option (Bool × List PyData)
  | .list xs => some (false, xs)
  | .tuple xs => some (true, xs)
  | _ => none
theorem dZip2_of {ds : List PyData} {q : List PyData → Prop} (h : dZip2 ds q) : ∃ d e b1 b2 xs ys, ds = [d, e] ∧ seqX d = some (b1, xs) ∧ seqX e = some (b2, ys) ∧ q (zipD xs ys) := by
  unfold dZip2 at h
  split at h
  · exact ⟨_, _, _, _, _, _, rfl, rfl, rfl, h⟩
  · exact ⟨_, _, _, _, _, _, rfl, rfl, rfl, h⟩
  · exact ⟨_, _, _, _, _, _, rfl, rfl, rfl, h⟩
  · exact ⟨_, _, _, _, _, _, rfl, rfl, rfl, h⟩
  · exact h.elim
theorem seqX_dp {K : KW} {F : Hp} {v : V} {d : PyData} {b : Bool} {xs : List PyData} (h : seqX d = some (b, xs)) (r : Dp K F v d) : ∃ a vs, v = .ref a ∧ (∀ H, Same F H → SqB K b H a vs) ∧ DpAll K F vs xs := by
  cases d <;> cases h
  · cases r with
    | lst hs ha => exact ⟨_, _, rfl, fun H e => Evl.ex_l e hs, ha⟩
  · cases r with
    | tup hs ha tx => exact ⟨_, _, rfl, fun H e => Evl.ex_t e hs, ha⟩
theorem ai_zip2 {X : Fam} {e e2 : Expr} {elts : List Expr} {kk : Nat} {p pos tpos : Pos} {ta : AAr} (hg : ∀ j, Gl (X.X j) "zip") (hm : X.X0.mg "zip" = none) (ha : AA X [e, e2] ta) (hs : ∀ j, starEach [e, e2] (X.X j).env = (false, eval e (X.X j).env) :: starEach [e2] (X.X j).env := by intro _; rfl)
    (hpl : ∀ j, (backTo pos (starEach [e2] (X.X j).env)).any (·.1) = false := by intro _; rfl) :
    AI X (.Tuple elts kk tpos) (.Call (.Name "zip" p) [e, e2] [] pos) fun ρ q => ta ρ fun as ρ1 => ∃ ds, dats as = some ds ∧ dZip2 ds fun zs => q zs ρ1 := by
  obtain ⟨_, a1, a2⟩ := ha.ex
  refine ⟨_, fun j => by have q := pi_zipB (kk := kk) (tpos := tpos) (elts := elts) (p := p) (pos := pos) (hg j) (by rw [X.hm j]; exact hm) (a1 j) (hs j) (hpl j); rw [X.hK j] at q; exact q, fun W ρ F σ H R q hk S ht k => a2 W ρ F σ H _ _ hk S ht fun as ρ' F' vs H' S' e r q1 => ?_⟩
  obtain ⟨ds, hd, q1⟩ := q1
  obtain ⟨d, e, b1, b2, xs, ys, rfl, h1, h2, hq⟩ := dZip2_of q1
  have D := dats_ok r hd
  cases D with
  | cons r1 D =>
    cases D with
    | cons r2 D =>
      cases D
      obtain ⟨a, vs, rfl, s1, x1⟩ := seqX_dp h1 r1
      obtain ⟨b, ws, rfl, s2, x2⟩ := seqX_dp h2 r2
      exact ⟨b1, b2, a, b, vs, ws, rfl, s1 _ S'.sub, s2 _ S'.sub, k _ ρ' F' H' _ S' (by assumption) (itOk_zipB s1 x1 s2 x2) hq⟩
/-! range(i, j, -1) -/
def rngD (hi : Int) (n : Nat) : List PyData := (List.range n).map fun (i : Nat) => .int (hi - (i : Int))
theorem itOk_rngD {K : KW} {F : Hp} {hi : Int} {n : Nat} : ItOk K (Itc hi (-1) n) (rngD hi n) F where
  go := fun i F1 H e1 e2 hi => by show i < n; simpa [rngD] using hi
  stop := fun i F1 H e1 e2 hi0 => have hi := Nat.le_of_eq hi0.symm; by show n ≤ i; simpa [rngD] using hi
  yld := fun i F1 H x H' e1 e2 hi2 y => by
    obtain ⟨rfl, rfl⟩ := y
    have hi' : i < n := by simpa [rngD] using hi2
    have e : hi + (i : Nat) * (-1 : Int) = hi - (i : Int) := by omega
    rw [e]
    exact ⟨.int (hi - (i : Int)), F1, by simp [rngD, hi'], .inl ⟨rfl, rfl⟩, .int _⟩
theorem ai_rngd {X : Fam} {tg a b c : Expr} {ta : AAr} {p pos : Pos} (hg : ∀ j, Gl (X.X j) "range") (hm : X.X0.mg "range" = none) (ha : AA X [a, b, c] ta) (hs : ∀ j, starEach [a, b, c] (X.X j).env = (false, eval a (X.X j).env) :: starEach [b, c] (X.X j).env := by intro _; rfl)
    (hpl : ∀ j, (backTo pos (starEach [b, c] (X.X j).env)).any (·.1) = false := by intro _; rfl) :
    AI X tg (.Call (.Name "range" p) [a, b, c] [] pos) fun ρ q => ta ρ fun as ρ1 => ∃ i j : Int, as = [.d (.int i), .d (.int j), .d (.int (-1))] ∧ (-(2 ^ 62) ≤ i ∧ i < 2 ^ 62 ∧ -(2 ^ 62) ≤ j ∧ j < 2 ^ 62) ∧ q (rngD i (i - j).toNat) ρ1 := by
  obtain ⟨_, a1, a2⟩ := ha.ex
  refine ⟨_, fun j => pi_range3 (hg j) (by rw [X.hm j]; exact hm) (a1 j) (hs j) (hpl j), fun W ρ F σ H R q hk S ht k => a2 W ρ F σ H _ _ hk S ht fun as ρ' F' vs H' S' e r q1 => ?_⟩
  obtain ⟨i, j, rfl, l, q1⟩ := q1
  cases r with
  | cons r rr =>
    cases rr with
    | cons r' rr =>
      cases rr with
      | cons r'' rr =>
        cases rr
        cases r
        cases r'
        cases r''
        exact ⟨i, j, -1, _, rfl, RgC.neg l.1 l.2.1 l.2.2.1 l.2.2.2, k _ ρ' F' H' _ S' e itOk_rngD q1⟩
/-! is True, is not True, of a truth -/
def roIsB (neg : Bool) : RO2
  | .bool a, .bool b, q => q (.bool (if neg then !decide (a = b) else decide (a = b)))
  | _, _, _ => False
theorem sop_isB {K : KW} : SOp K rIsB (roIsB false) := fun F H x y d e Q q s a b c k => by
  unfold roIsB at c
  split at c
  · cases a
    cases b
    exact ⟨_, _, rfl, rfl, k _ _ (.bl _) c⟩
  · exact c.elim
theorem sop_isntB {K : KW} : SOp K rNotB (roIsB true) := fun F H x y d e Q q s a b c k => by
  unfold roIsB at c
  split at c
  · cases a
    cases b
    exact ⟨_, _, rfl, rfl, k _ _ (.bl _) c⟩
  · exact c.elim
end OS

/-! OSdz: dict(zip(a, b)), a and b a list or a tuple each; the keys flat. -/
namespace OS
open PySem L2 PySem.W PySem.Spec PyProof.Rows

section
variable {prog : Program} {w : World} {A : Around} {E : Value → Shared → Prop} {s : Shared} {z TI TO T i1 i2 : Addr} {f : Bool} {oT : Obj} {fp1 fp2 : List Addr} {n1 n2 i : Nat} {P1 P2 : Nat → Value → Prop} {St1 St2 : Nat → Heap → Prop}
/-- a turn of a zip whose tuple is still out -/
theorem zipH_item {Q : Value → Shared → Prop} (S : ZipSep2 z TI TO i1 i2 fp1 fp2) (D1 : Draws prog w A i1 fp1 n1 P1 St1) (D2 : Draws prog w A i2 fp2 n2 P2 St2)
    (hz : IsZipHeld s.heap z TI TO T f) (hT : s.heap.get? T = some oT) (hTI : IsTupOf2 s.heap TI (.ref i1) (.ref i2)) (st1 : St1 i s.heap) (st2 : St2 i s.heap) (hlt1 : i < n1) (hlt2 : i < n2)
    (hQ : ∀ x1 x2 h' tk, P1 i x1 → P2 i x2 → IsZipHeld h' z TI TO T true → St1 (i + 1) h' → St2 (i + 1) h' → IsTupOf2 h' s.heap.objs.size x1 x2 →
      (∀ c o, c ≠ z → c ≠ i1 → c ≠ i2 → s.heap.get? c = some o → h'.get? c = some o) → Q (.ref s.heap.objs.size) { s with heap := h', toks := tk }) :
    wpAny (model prog w) A (Builtin.«zip.__next__» ⟨[.ref z], []⟩) (fun fin s' => ∃ v, fin = .done (.ret v) ∧ Q v s') E s := by
  obtain ⟨hp, g, d, tk0, os⟩ := s
  show wpAny _ _ (field (.ref z) 2 >>= _) _ _ _
  refine wpAny_bind (wpAny_field hz rfl (x := .bool false) rfl ?_)
  show wpAny _ _ (field (.ref z) 3 >>= _) _ _ _
  refine wpAny_bind (wpAny_field hz rfl (x := .ref TI) rfl ?_)
  refine wpAny_bind (wpAny_seqItems hTI rfl ?_)
  show wpAny _ _ (Builtin.SmallTypes.ownedTupleIsFree (.ref z) >>= _) _ _ _
  refine wpAny_bind (wpAny_tupleHeld_zip hz hT fun h1 hz1 hs1 => ?_)
  replace hs1 : Heap.SameBut z hp h1 := hs1
  simp only [Bool.false_eq_true, if_false]
  refine wpAny_bind ?_
  rw [← Array.forIn_toList]
  simp only [List.forIn_cons, List.forIn_nil]
  refine wpAny_bind (wpAny_bind (wpAny_holding ?_))
  show wpAny _ _ (Builtin.SmallTypes.nextOf (.ref i1) >>= _) _ _ ⟨h1, g, d, tk0, os⟩
  refine wpAny_bind (D1.item i ⟨h1, g, d, tk0, os⟩ _ _ hlt1 (D1.over st1 hs1 S.zf1) fun x1 p1 tk1 hx1 sn1 hp1 => wpAny_pure ?_)
  replace hp1 : Heap.SameBut i1 h1 p1 := hp1
  refine wpAny_pure ?_
  refine wpAny_bind (wpAny_bind (wpAny_holding ?_))
  show wpAny _ _ (Builtin.SmallTypes.nextOf (.ref i2) >>= _) _ _ ⟨p1, g, d, tk1, os⟩
  refine wpAny_bind (D2.item i ⟨p1, g, d, tk1, os⟩ _ _ hlt2 (D2.over (D2.over st2 hs1 S.zf2) hp1 S.sep1_2) fun x2 p2 tk2 hx2 sn2 hp2 => wpAny_pure ?_)
  replace hp2 : Heap.SameBut i2 p1 p2 := hp2
  refine wpAny_pure (wpAny_pure ?_)
  show wpAny _ _ (newTuple [x1, x2] >>= _) _ _ ⟨p2, g, d, tk2, os⟩
  refine wpAny_bind (wpAny_newTuple ?_)
  have hsz : p2.objs.size = hp.objs.size := by rw [hp2.1, hp1.1, hs1.1]
  have hz2 : IsZipHeld p2 z TI TO T true := hp2.extBut _ _ S.zi2 (hp1.extBut _ _ S.zi1 hz1)
  have hk : ∀ c o, c ≠ z → c ≠ i1 → c ≠ i2 → hp.get? c = some o → p2.get? c = some o := fun c o c1 c2 c3 e => hp2.extBut _ _ c3 (hp1.extBut _ _ c2 (hs1.extBut _ _ c1 e))
  have hj1 : St1 (i + 1) p2 := D1.over sn1 hp2 S.sep2_1
  refine wpAny_pure ⟨_, rfl, ?_⟩
  show Q (.ref p2.objs.size) _
  have hp' : IsTupOf2 (p2.push { cls := .type "tuple", data := .seq #[x1, x2] }) p2.objs.size x1 x2 := Heap.get?_push_size _ rfl
  rw [hsz] at hp' ⊢
  exact hQ x1 x2 _ tk2 hx1 hx2 (Heap.get?_push_of_some _ hz2) (D1.frame _ _ _ hj1 fun b hb o e => Heap.get?_push_of_some _ e) (D2.frame _ _ _ sn2 fun b hb o e => Heap.get?_push_of_some _ e) hp' fun c o c1 c2 c3 e => Heap.get?_push_of_some _ (hk c o c1 c2 c3 e)
theorem zipH_end {Q : Fin → Shared → Prop} (S : ZipSep2 z TI TO i1 i2 fp1 fp2) (D1 : Draws prog w A i1 fp1 n1 P1 St1) (D2 : Draws prog w A i2 fp2 n2 P2 St2)
    (hz : IsZipHeld s.heap z TI TO T f) (hT : s.heap.get? T = some oT) (hTI : IsTupOf2 s.heap TI (.ref i1) (.ref i2)) (st1 : St1 i s.heap) (st2 : St2 i s.heap) (hle1 : i ≤ n1) (hle2 : i ≤ n2) (hend : i = n1 ∨ i = n2)
    (hE : ∀ h' tk e, (∀ c o, c ≠ z → c ≠ i1 → c ≠ i2 → s.heap.get? c = some o → h'.get? c = some o) → (∃ o, h'.get? e = some o ∧ o.cls = .type "StopIteration") → E (.ref e) { s with heap := h', toks := tk }) :
    wpAny (model prog w) A (Builtin.«zip.__next__» ⟨[.ref z], []⟩) Q E s := by
  obtain ⟨hp, g, d, tk0, os⟩ := s
  show wpAny _ _ (field (.ref z) 2 >>= _) _ _ _
  refine wpAny_bind (wpAny_field hz rfl (x := .bool false) rfl ?_)
  show wpAny _ _ (field (.ref z) 3 >>= _) _ _ _
  refine wpAny_bind (wpAny_field hz rfl (x := .ref TI) rfl ?_)
  refine wpAny_bind (wpAny_seqItems hTI rfl ?_)
  show wpAny _ _ (Builtin.SmallTypes.ownedTupleIsFree (.ref z) >>= _) _ _ _
  refine wpAny_bind (wpAny_tupleHeld_zip hz hT fun h1 hz1 hs1 => ?_)
  replace hs1 : Heap.SameBut z hp h1 := hs1
  simp only [Bool.false_eq_true, if_false]
  refine wpAny_bind ?_
  rw [← Array.forIn_toList]
  simp only [List.forIn_cons, List.forIn_nil]
  refine wpAny_bind (wpAny_bind (wpAny_holding ?_))
  show wpAny _ _ (Builtin.SmallTypes.nextOf (.ref i1) >>= _) _ _ ⟨h1, g, d, tk0, os⟩
  by_cases hlt1 : i < n1
  · refine wpAny_bind (D1.item i ⟨h1, g, d, tk0, os⟩ _ _ hlt1 (D1.over st1 hs1 S.zf1) fun x1 p1 tk1 hx1 sn1 hp1 => wpAny_pure ?_)
    replace hp1 : Heap.SameBut i1 h1 p1 := hp1
    have hi2 : i = n2 := by omega
    refine wpAny_pure ?_
    refine wpAny_bind (wpAny_bind (wpAny_holding ?_))
    show wpAny _ _ (Builtin.SmallTypes.nextOf (.ref i2) >>= _) _ _ ⟨p1, g, d, tk1, os⟩
    refine wpAny_bind (D2.done ⟨p1, g, d, tk1, os⟩ _ _ (by rw [← hi2]; exact D2.over (D2.over st2 hs1 S.zf2) hp1 S.sep1_2) fun q e hq he => ?_)
    replace hq : Heap.ExtBut i2 p1 q := hq
    exact hE q tk1 e (fun c o cz c1 c2 x => hq _ _ c2 (hp1.extBut _ _ c1 (hs1.extBut _ _ cz x))) he
  · have hi1 : i = n1 := by omega
    refine wpAny_bind (D1.done ⟨h1, g, d, tk0, os⟩ _ _ (by rw [← hi1]; exact D1.over st1 hs1 S.zf1) fun q e hq he => ?_)
    replace hq : Heap.ExtBut i1 h1 q := hq
    exact hE q tk0 e (fun c o cz c1 c2 x => hq _ _ c1 (hs1.extBut _ _ cz x)) he
theorem next_zipH_item {Q : Option Value → Shared → Prop} (S : ZipSep2 z TI TO i1 i2 fp1 fp2) (D1 : Draws prog w A.in1 i1 fp1 n1 P1 St1) (D2 : Draws prog w A.in1 i2 fp2 n2 P2 St2)
    (hz : IsZipHeld s.heap z TI TO T f) (hT : s.heap.get? T = some oT) (hTI : IsTupOf2 s.heap TI (.ref i1) (.ref i2)) (st1 : St1 i s.heap) (st2 : St2 i s.heap) (hlt1 : i < n1) (hlt2 : i < n2)
    (hQ : ∀ x1 x2 h' tk, P1 i x1 → P2 i x2 → IsZipHeld h' z TI TO T true → St1 (i + 1) h' → St2 (i + 1) h' → IsTupOf2 h' s.heap.objs.size x1 x2 →
      (∀ c o, c ≠ z → c ≠ i1 → c ≠ i2 → s.heap.get? c = some o → h'.get? c = some o) → Q (some (.ref s.heap.objs.size)) { s with heap := h', toks := tk }) :
    wpAny (model prog w) A (pyNext (.ref z)) Q E s := by
  have hTy : s.TypeIs (.ref z) "zip" := ⟨_, hz, rfl⟩
  unfold pyNext
  exact wpAny_bind (wpAny_attempt (wpAny_callSpecial?_slot (name := Str.ofString "__next__") hTy F.slot_zip_next
    (wpAny_call_entry F.slot_zip_next hTy F.entry_zip_next
      (zipH_item S D1 D2 hz hT hTI st1 st2 hlt1 hlt2 fun x1 x2 h' tk y1 y2 b1 d1 d2 b5 b7 => wpAny_pure (hQ x1 x2 h' tk y1 y2 b1 d1 d2 b5 b7)) (F.args_zip_next_1 _))))
theorem next_zipH_end {Q : Option Value → Shared → Prop} (S : ZipSep2 z TI TO i1 i2 fp1 fp2) (D1 : Draws prog w A.in1 i1 fp1 n1 P1 St1) (D2 : Draws prog w A.in1 i2 fp2 n2 P2 St2)
    (hz : IsZipHeld s.heap z TI TO T f) (hT : s.heap.get? T = some oT) (hTI : IsTupOf2 s.heap TI (.ref i1) (.ref i2)) (st1 : St1 i s.heap) (st2 : St2 i s.heap) (hle1 : i ≤ n1) (hle2 : i ≤ n2) (hend : i = n1 ∨ i = n2)
    (hQ : ∀ h' tk, (∀ c o, c ≠ z → c ≠ i1 → c ≠ i2 → s.heap.get? c = some o → h'.get? c = some o) → Q none { s with heap := h', toks := tk }) : wpAny (model prog w) A (pyNext (.ref z)) Q E s := by
  have hTy : s.TypeIs (.ref z) "zip" := ⟨_, hz, rfl⟩
  unfold pyNext
  refine wpAny_bind (wpAny_attempt (wpAny_callSpecial?_slot (name := Str.ofString "__next__") hTy F.slot_zip_next
    (wpAny_call_entry F.slot_zip_next hTy F.entry_zip_next (zipH_end S D1 D2 hz hT hTI st1 st2 hle1 hle2 hend fun h' tk e hk he => ?_) (F.args_zip_next_1 _))))
  obtain ⟨o, ho, hc⟩ := he
  refine wpAny_bind (wpAny_isInstance (T := "StopIteration") (b := true) ⟨o, ho, hc⟩ isSubtype_stop ?_)
  exact wpAny_pure (hQ _ _ hk)
end
/-- zip over any two rows, as what dict() is made of -/
theorem pairArg_zip {prog : Program} {w : World} (b1 b2 : Bool) {z TI TO i1 i2 a b : Addr} (D : ZipSep2 z TI TO i1 i2 [i1, a] [i2, b]) (n1 : a ≠ i1) (n2 : b ≠ i2) (xs ys : Array Value) :
    PairArg prog w "zip" z [z, TI, TO, i1, i2, a, b] [z, TO, i1, i2] (min xs.size ys.size) (fun i k v => xs[i]? = some k ∧ ys[i]? = some v)
      (fun h => IsZip h z TI TO .none ∧ IsTupOf2 h TI (.ref i1) (.ref i2) ∧ (∃ x y, IsTupOf2 h TO x y) ∧ HIt b1 h i1 a 0 ∧ HIt b2 h i2 b 0 ∧ HSq b1 h a xs ∧ HSq b2 h b ys) where
  type := fun s ok => ⟨_, ok.1, rfl⟩
  notDict := by decide
  keep := fun h h' ok hk => by
    obtain ⟨hz, hTI, ⟨x, y, hTO⟩, h1, h2, g1, g2⟩ := ok
    refine ⟨hk _ _ hz, hk _ _ hTI, ⟨x, y, hk _ _ hTO⟩, hit_at h1 fun o e => hk _ o e, hit_at h2 fun o e => hk _ o e, ?_, ?_⟩
    · cases b1
      · exact Heap.IsList.at g1 fun o e => hk _ o e
      · exact Heap.IsTuple.at g1 fun o e => hk _ o e
    · cases b2
      · exact Heap.IsList.at g2 fun o e => hk _ o e
      · exact Heap.IsTuple.at g2 fun o e => hk _ o e
  there := fun h ok c hc => by
    obtain ⟨hz, hTI, ⟨x, y, hTO⟩, h1, h2, g1, g2⟩ := ok
    obtain ⟨o1, e1⟩ := hit_obj h1
    obtain ⟨o2, e2⟩ := hit_obj h2
    have e3 : ∃ o, h.get? a = some o := by
      cases b1
      · obtain ⟨o, ho, _⟩ := g1; exact ⟨o, ho⟩
      · obtain ⟨o, ho, _⟩ := g1; exact ⟨o, ho⟩
    have e4 : ∃ o, h.get? b = some o := by
      cases b2
      · obtain ⟨o, ho, _⟩ := g2; exact ⟨o, ho⟩
      · obtain ⟨o, ho, _⟩ := g2; exact ⟨o, ho⟩
    simp only [List.mem_cons, List.not_mem_nil, or_false] at hc
    rcases hc with rfl | rfl | rfl | rfl | rfl | rfl | rfl
    · exact ⟨_, hz⟩
    · exact ⟨_, hTI⟩
    · exact ⟨_, hTO⟩
    · exact ⟨_, e1⟩
    · exact ⟨_, e2⟩
    · exact e3
    · exact e4
  sub := fun c hc => by simp at hc ⊢; rcases hc with rfl | rfl | rfl | rfl <;> simp
  noKeys := fun A s Q E hA ok h => getAttrOr_miss_zip ok.1 rfl rfl rfl zip_no_keys (by decide +kernel) hA h
  iter := fun A s d Q E hA ok hd hdf h => by
    obtain ⟨hz, hTI, ⟨x, y, hTO⟩, h1, h2, g1, g2⟩ := ok
    simp only [List.mem_cons, List.not_mem_nil, or_false, not_or] at hdf
    obtain ⟨dz, dTI, dTO, di1, di2, da, db⟩ := hdf
    have hh : A.in1.handled = none := hA
    have D1 := draws_b (prog := prog) (w := w) hh b1 i1 a n1 xs
    have D2 := draws_b (prog := prog) (w := w) hh b2 i2 b n2 ys
    refine wpAny_pyIter_zip hz (h z [z, TO, i1, i2] (fun i h => IsTupOf2 h TI (.ref i1) (.ref i2) ∧ (HIt b1 h i1 a i ∧ HSq b1 h a xs) ∧ (HIt b2 h i2 b i ∧ HSq b2 h b ys) ∧
      ((IsZip h z TI TO .none ∧ ∃ x y, IsTupOf2 h TO x y) ∨ ∃ T f oT, IsZipHeld h z TI TO T f ∧ h.get? T = some oT ∧ T ≠ z ∧ T ≠ i1 ∧ T ≠ i2 ∧ T ≠ d)) s.heap s.toks ?_
      ⟨hTI, ⟨h1, g1⟩, ⟨h2, g2⟩, .inl ⟨hz, x, y, hTO⟩⟩ (fun _ _ e => e) fun b hb => .inl hb)
    have nf1 : d ∉ [i1, a] := by simp [di1, da]
    have nf2 : d ∉ [i2, b] := by simp [di2, db]
    exact {
      off := fun hm => by
        simp only [List.mem_cons, List.not_mem_nil, or_false] at hm
        rcases hm with e | e | e | e
        · exact dz e
        · exact dTO e
        · exact di1 e
        · exact di2 e
      frame := fun i h1 h2 st hk => by
        obtain ⟨hTI, s1, s2, hz⟩ := st
        refine ⟨hk _ _ (Ne.symm dTI) hTI, D1.frame _ _ _ s1 fun c hc o e => hk c o (fun q => nf1 (q ▸ hc)) e, D2.frame _ _ _ s2 fun c hc o e => hk c o (fun q => nf2 (q ▸ hc)) e, ?_⟩
        rcases hz with ⟨hz, x, y, hTO⟩ | ⟨T, f, oT, hz, hT, r1, r2, r3, r4⟩
        · exact .inl ⟨hk _ _ (Ne.symm dz) hz, x, y, hk _ _ (Ne.symm dTO) hTO⟩
        · exact .inr ⟨T, f, oT, hk _ _ (Ne.symm dz) hz, hk _ _ r4 hT, r1, r2, r3, r4⟩
      item := fun i s1 Q1 E1 hi st hds hQ => by
        obtain ⟨hTI, t1, t2, hz⟩ := st
        have hix : i < xs.size := Nat.lt_of_lt_of_le hi (Nat.min_le_left ..)
        have hiy : i < ys.size := Nat.lt_of_lt_of_le hi (Nat.min_le_right ..)
        have lt : ∀ {c o}, s1.heap.get? c = some o → s1.heap.objs.size ≠ c := fun e => Nat.ne_of_gt (Heap.lt_size e)
        have l1 : s1.heap.objs.size ≠ i1 := let ⟨_, e⟩ := hit_obj t1.1; lt e
        have l2 : s1.heap.objs.size ≠ i2 := let ⟨_, e⟩ := hit_obj t2.1; lt e
        rcases hz with ⟨hz, x, y, hTO⟩ | ⟨T, f, oT, hz, hT, r1, r2, r3, r4⟩
        · refine wpAny_pyNext_zipD2_item D D1 D2 hz hTI hTO t1 t2 hix hiy fun v1 v2 h' tk q1 q2 z' TO' st1 st2 hT hsz hk => ?_
          exact hQ s1.heap.objs.size _ _ h' tk ⟨q1, q2⟩ (.inl ⟨_, hT, rfl, _, rfl⟩)
            ⟨hk _ _ D.TIz D.TITO D.TIi1 D.TIi2 hTI, st1, st2, .inr ⟨s1.heap.objs.size, false, _, z', hT, lt hz, l1, l2, Nat.ne_of_gt hds⟩⟩
            fun c o hc e => hk c o (fun x => hc (by simp [x])) (fun x => hc (by simp [x])) (fun x => hc (by simp [x])) (fun x => hc (by simp [x])) e
        · refine next_zipH_item D D1 D2 hz hT hTI t1 t2 hix hiy fun v1 v2 h' tk q1 q2 z' st1 st2 hTn hk => ?_
          exact hQ s1.heap.objs.size _ _ h' tk ⟨q1, q2⟩ (.inl ⟨_, hTn, rfl, _, rfl⟩)
            ⟨hk _ _ D.TIz D.TIi1 D.TIi2 hTI, st1, st2, .inr ⟨T, true, oT, z', hk _ _ r1 r2 r3 hT, r1, r2, r3, r4⟩⟩
            fun c o hc e => hk c o (fun x => hc (by simp [x])) (fun x => hc (by simp [x])) (fun x => hc (by simp [x])) e
      done := fun s1 Q1 E1 st hQ => by
        obtain ⟨hTI, t1, t2, hz⟩ := st
        rcases hz with ⟨hz, x, y, hTO⟩ | ⟨T, f, oT, hz, hT, r1, r2, r3, r4⟩
        · exact wpAny_pyNext_zipD2_end D D1 D2 hz hTI hTO t1 t2 (by omega) (by omega) (by omega) fun h' tk hk => hQ h' tk fun c o hc e => hk c o (fun x => hc (by simp [x])) (fun x => hc (by simp [x])) (fun x => hc (by simp [x])) (fun x => hc (by simp [x])) e
        · exact next_zipH_end D D1 D2 hz hT hTI t1 t2 (by omega) (by omega) (by omega) fun h' tk hk => hQ h' tk fun c o hc e => hk c o (fun x => hc (by simp [x])) (fun x => hc (by simp [x])) (fun x => hc (by simp [x])) e }
theorem sqb_len {X : Cx} {pins : List (Addr × Obj)} {σ : L2.St} {H : Hp} {s : Shared} {b : Bool} {a : Addr} {xs : List V} (I : Inv X pins σ H s) (h : SqB X.K b H a xs) : xs.length ≤ sizeLine := by
  cases b with
  | true => obtain ⟨its, r, p, l⟩ := I.tuple h; exact l
  | false => obtain ⟨its, r, p, l⟩ := I.list h; exact l
/-- the rows side by side -/
theorem zip_dl {K : KW} {F : Hp} : ∀ {vs : List V} {dks : List PyData} {ws : List V} {dvs : List PyData} {us us2 : List Value}, DpAll K F vs dks → DpAll K F ws dvs → (dks.all fun d => flatK d) = true → Vals vs us → Vals ws us2 →
    ∃ L : DL, DpL K F L (dks.zip dvs) ∧ Paired (fun (p : NestedKey × V × V) (q : Value × Value) => RelV p.2.1 q.1 ∧ RelV p.2.2 q.2) L (us.zip us2)
  | _, _, _, _, _, _, .nil, _, _, .nil, _ => ⟨[], .nil, .nil⟩
  | _, _, _, _, _, _, .cons _ _, .nil, _, .cons _ _, .nil => ⟨[], .nil, .nil⟩
  | _, _, _, _, _, _, .cons (d := d) a r, .cons b r2, h, .cons c t, .cons e t2 => by
    rw [List.all_cons, Bool.and_eq_true] at h
    obtain ⟨L, l1, l2⟩ := zip_dl r r2 h.2 t t2
    obtain ⟨k, ek⟩ := flatK_ex h.1
    exact ⟨_, .cons a (by rw [ek]; exact keyOf_P k) (by rw [h.1]; rfl) b l1, .cons ⟨c, e⟩ l2⟩
def rDictZ (K : KW) : List V → Hp → VK → Prop := fun vs H Q => ∃ (F : Hp) (b1 b2 : Bool) (a b : Addr) (xs ys : List V) (dks dvs : List PyData), vs = [.ref a, .ref b] ∧ Same F H ∧ SqB K.1 b1 H a xs ∧ SqB K.1 b2 H b ys ∧ DpAll K F xs dks ∧ DpAll K F ys dvs ∧ (dks.all fun d => flatK d) = true ∧
  ∀ p o, H p = none → DcO K F p o (mergeD [] (dks.zip dvs)) → Q (.ref p) (upd H p o)
theorem all_zip {dks dvs : List PyData} (h : (dks.all fun d => flatK d) = true) : ((dks.zip dvs).all fun kv => flatK kv.1) = true := by
  rw [List.all_eq_true] at h ⊢
  exact fun x hx => h x.1 (List.of_mem_zip hx).1
theorem pe_dictZ {X : Cx} {e1 e2 : Expr} {ta : TA} {p p2 p3 pos : Pos} (hc : X.calm = true) (hg : Gl X "dict") (hm : X.mg "dict" = none) (hgz : Gl X "zip") (hmz : X.mg "zip" = none) (ha : PA X [e1, e2] ta)
    (hs : starEach [e1, e2] X.env = (false, eval e1 X.env) :: starEach [e2] X.env := by rfl) (hpl : (backTo p3 (starEach [e2] X.env)).any (·.1) = false := by rfl) :
    PE X (.Call (.Name "dict" p) [.Call (.Name "zip" p2) [e1, e2] [] p3] [] pos) fun σ H Q => ta σ H fun vs H1 => rDictZ (kw X) vs H1 Q := by
  refine ⟨fun pins s σ H Q I h => ?_⟩
  refine Call_ (ld_blt I hg hm PyProof.Rows.boot_dict (PyProof.Rows.callWith_type1 (args_cons ?_)))
  refine Call_ (ld_blt I hgz hmz PyProof.Rows.boot_zip (PyProof.Rows.callWith_type1 (thn (ha.run p3 pins s σ H _ I h) fun us s1 ⟨vs, H1, I1, r1, q1⟩ => ?_) hs hpl))
  obtain ⟨F, b1, b2, a, b, xs, ys, dks, dvs, ex, sub, hqx, hqy, d1, d2, fl, q⟩ := q1
  subst ex
  cases r1 with
  | cons r rr =>
    cases rr with
    | cons r' rr =>
      cases rr
      cases r
      cases r'
      obtain ⟨its, rv, p1⟩ := sqb_items I1 hqx
      obtain ⟨its2, rv2, p2'⟩ := sqb_items I1 hqy
      have lx := sqb_len I1 hqx
      have la := sqb_lt p1
      have lb := sqb_lt p2'
      refine zip_begins2 (begins_b b1 a its.toArray) (begins_b b2 b its2.toArray) p1 p2' fun h' hz hTI hTO g1 g2 hsz hk => ?_
      refine PyProof.Rows.args_nil ?_
      have I2 : Inv X pins σ H1 { s1 with heap := h' } := I1.kept (t' := s1.toks) hk
      have fresh4 : ∀ c, c ∈ [s1.heap.objs.size + 4, s1.heap.objs.size + 3, s1.heap.objs.size, s1.heap.objs.size + 1] → FpOk X pins H1 c := fun c hcm => by
        have hle : s1.heap.objs.size ≤ c := by
          have e' : c = s1.heap.objs.size + 4 ∨ c = s1.heap.objs.size + 3 ∨ c = s1.heap.objs.size ∨ c = s1.heap.objs.size + 1 := by simpa using hcm
          rcases e' with z | z | z | z <;> rw [z] <;> first | exact Nat.le_add_right _ _ | exact Nat.le_refl _
        exact I1.fpOk hle (I1.hok.fresh hle)
      obtain ⟨N, eN⟩ : ∃ N : Nat, N = s1.heap.objs.size := ⟨_, rfl⟩
      rw [← eN] at la lb
      have la' : @LT.lt Nat instLTNat a N := la
      have lb' : @LT.lt Nat instLTNat b N := lb
      have sep : ZipSep2 (N + 4) (N + 2) (N + 3) N (N + 1) [N, a] [N + 1, b] := by
        have up : ∀ k x : Nat, x < N → N + k ≠ x := fun k x h => Nat.ne_of_gt (Nat.lt_of_lt_of_le h (Nat.le_add_right _ _))
        have df : ∀ k l : Nat, k ≠ l → N + k ≠ N + l := fun k l h e => h (Nat.add_left_cancel e)
        have two : ∀ (x y z : Addr), x ≠ y → x ≠ z → x ∉ [y, z] := fun x y z h1 h2 hm => by
          rcases List.mem_cons.mp hm with e | hm
          · exact h1 e
          · exact h2 (List.mem_singleton.mp hm)
        exact ⟨df 2 4 (by decide), df 3 4 (by decide), df 2 3 (by decide), df 2 0 (by decide), .head _, two _ _ _ (df 4 0 (by decide)) (up 4 a la'), two _ _ _ (df 3 0 (by decide)) (up 3 a la'), df 2 1 (by decide), .head _, two _ _ _ (df 4 1 (by decide)) (up 4 b lb'), two _ _ _ (df 3 1 (by decide)) (up 3 b lb'), two _ _ _ (df 0 1 (by decide)) (up 0 b lb'), two _ _ _ (df 1 0 (by decide)) (up 1 a la')⟩
      have na : a ≠ N := Nat.ne_of_lt la'
      have nb : b ≠ N + 1 := Nat.ne_of_lt (Nat.lt_succ_of_lt lb')
      rw [eN] at sep na nb
      have kp1 : HSq b1 h' a its.toArray := by
        cases b1
        · exact Heap.IsList.at p1 fun o e => hk _ o e
        · exact Heap.IsTuple.at p1 fun o e => hk _ o e
      have kp2 : HSq b2 h' b its2.toArray := by
        cases b2
        · exact Heap.IsList.at p2' fun o e => hk _ o e
        · exact Heap.IsTuple.at p2' fun o e => hk _ o e
      obtain ⟨L, dl, pr⟩ := zip_dl d1 d2 fl rv rv2
      obtain ⟨ms, fe, l3, g⟩ := flat_pairs (P := X.prog) (w := X.w) dl (all_zip fl) pr
      have lm0 : min its.toArray.size its2.toArray.size = (its.zip its2).length := by rw [List.length_zip]; simp
      have lz : min its.toArray.size its2.toArray.size ≤ sizeLine := by
        have : its.toArray.size ≤ sizeLine := by rw [List.size_toArray, ← rv.length]; exact lx
        exact Nat.le_trans (Nat.min_le_left _ _) this
      have lL : L.length ≤ 16777216 := by rw [Paired.length pr, ← lm0]; rw [sizeLine_eq] at lz; exact lz
      have ln := fold_len L []
      have lm : (L.foldl (fun acc x => lPut acc x.1 x.2.1 x.2.2) []).length ≤ 16777216 := by rw [List.length_nil] at ln; omega
      have sm : (({ s1 with heap := h' } : Shared).heap.objs.size == sysModules) = false := beq_eq_false_iff_ne.mpr (Nat.ne_of_gt I2.big)
      refine call_dict_pairs (s := { s1 with heap := h' }) (knd := mixKind X.prog X.w) (kvs := ms) (pairArg_zip b1 b2 sep na nb its.toArray its2.toArray) (I.ok.hd hc) ⟨hz, hTI, ⟨_, _, hTO⟩, hit_new g1, hit_new g2, kp1, kp2⟩ ⟨by rw [l3, lm0], fun i key v hr => ?_⟩ lz fun h3 tk dd keep => ?_
      · obtain ⟨r1, r2⟩ := hr
        refine g i key v ?_
        rw [List.getElem?_toArray] at r1 r2
        exact List.getElem?_zip_eq_some.mpr ⟨r1, r2⟩
      · obtain ⟨ob, m⟩ := dAt_flat dd (fEnt_merge fe (L := []) (vs := []) .nil) lm sm
        exact ⟨.ref h'.objs.size, _, I2.turnedNew (t' := tk) (ch := [s1.heap.objs.size + 4, s1.heap.objs.size + 3, s1.heap.objs.size, s1.heap.objs.size + 1]) keep fresh4 (Nat.le_refl _) (dObj_new m), rfl, q _ _ I2.fresh ⟨ob, _, rfl, dpL_mergeG dl (L := []) (kvs := []) .nil⟩⟩
def dZipK : List PyData → (List (PyData × PyData) → Prop) → Prop
  | [.list xs, .list ys], q => (xs.all fun d => flatK d) = true ∧ q (xs.zip ys)
  | [.list xs, .tuple ys], q => (xs.all fun d => flatK d) = true ∧ q (xs.zip ys)
  | [.tuple xs, .list ys], q => (xs.all fun d => flatK d) = true ∧ q (xs.zip ys)
  | [.tuple xs, .tuple ys], q => (xs.all fun d => flatK d) = true ∧ q (xs.zip ys)
  | _, _ => False
theorem dZipK_of {ds : List PyData} {q : List (PyData × PyData) → Prop} (h : dZipK ds q) : ∃ d e b1 b2 xs ys, ds = [d, e] ∧ seqX d = some (b1, xs) ∧ seqX e = some (b2, ys) ∧ (xs.all fun d => flatK d) = true ∧ q (xs.zip ys) := by
  unfold dZipK at h
  split at h
  · exact ⟨_, _, _, _, _, _, rfl, rfl, rfl, h⟩
  · exact ⟨_, _, _, _, _, _, rfl, rfl, rfl, h⟩
  · exact ⟨_, _, _, _, _, _, rfl, rfl, rfl, h⟩
  · exact ⟨_, _, _, _, _, _, rfl, rfl, rfl, h⟩
  · exact h.elim
/-- dict(zip(a, b)) -/
theorem ad_dictZ {X : Fam} {e1 e2 : Expr} {ta : AAr} {p p2 p3 pos : Pos} (hc : X.X0.calm = true) (hm : X.X0.mg "dict" = none) (hmz : X.X0.mg "zip" = none) (ha : AA X [e1, e2] ta) (hg : ∀ j, Gl (X.X j) "dict" := by intro _; rfl) (hgz : ∀ j, Gl (X.X j) "zip" := by intro _; rfl)
    (hs : ∀ j, starEach [e1, e2] (X.X j).env = (false, eval e1 (X.X j).env) :: starEach [e2] (X.X j).env := by intro _; rfl) (hpl : ∀ j, (backTo p3 (starEach [e2] (X.X j).env)).any (·.1) = false := by intro _; rfl) :
    AD X (.Call (.Name "dict" p) [.Call (.Name "zip" p2) [e1, e2] [] p3] [] pos) fun ρ q => ta ρ fun as ρ1 => ∃ ds, dats as = some ds ∧ dZipK ds fun kvs => q (mergeD [] kvs) ρ1 := by
  obtain ⟨_, a1, a2⟩ := ha.ex
  refine ⟨_, fun j => by have q := pe_dictZ (X := X.X j) (p := p) (p2 := p2) (p3 := p3) (pos := pos) (by rw [X.hc j]; exact hc) (hg j) (by rw [X.hm j]; exact hm) (hgz j) (by rw [X.hm j]; exact hmz) (a1 j) (hs j) (hpl j); rw [X.hkw j] at q; exact q, fun W ρ F σ H Q q hk S ht k => a2 W ρ F σ H _ _ hk S ht fun as ρ1 F1 vs H1 S1 e1' r0 q1 => ?_⟩
  obtain ⟨ds, hd, q1⟩ := q1
  obtain ⟨d, e, b1, b2, xs, ys, rfl, h1, h2, fl, hq⟩ := dZipK_of q1
  have D := dats_ok r0 hd
  cases D with
  | cons r1 D =>
    cases D with
    | cons r2 D =>
      cases D
      obtain ⟨a, vs, rfl, s1, x1⟩ := seqX_dp h1 r1
      obtain ⟨b, ws, rfl, s2, x2⟩ := seqX_dp h2 r2
      exact ⟨F1, b1, b2, a, b, vs, ws, xs, ys, rfl, S1.sub, s1 _ S1.sub, s2 _ S1.sub, x1, x2, fl, fun p o hp dc => k _ ρ1 F1 p o _ (by rw [del_upd hp]; exact S1) upd_same (by assumption) dc hq⟩
end OS

/-! OSnest: x = [a, b] of two new lists; a test; both lists changed in place; x is not read again. -/
namespace OS
open PySem L2 PySem.W PySem.Spec PyProof.Rows

/-- what must stay of a heap -/
structure Stays (W : Wd) (F H : Hp) : Prop where
  sub : Same F H
  keep : ∀ b o, W.H0 b = some o → W.tk ≠ some b → H b = some o
  tkk : ∀ b o, W.tk = some b → W.H0 b = some o → ∃ o', H b = some o'
theorem Stays.upd {W : Wd} {F H : Hp} (S : Stays W F H) {p : Addr} {o : HO} (f : F p = none) (h : W.H0 p = none) : Stays W F (upd H p o) where
  sub := fun b u e => by
    have : b ≠ p := fun z => by rw [z, f] at e; cases e
    rw [upd_ne this]
    exact S.sub b u e
  keep := fun b u e t => by
    have : b ≠ p := fun z => by rw [z, h] at e; cases e
    rw [upd_ne this]
    exact S.keep b u e t
  tkk := fun b u t e => by
    have : b ≠ p := fun z => by rw [z, h] at e; cases e
    rw [upd_ne this]
    exact S.tkk b u t e
theorem Stays.h0 {W : Wd} {F H : Hp} (S : Stays W F H) {b : Addr} (h : H b = none) : W.H0 b = none := by
  cases e : W.H0 b with
  | none => rfl
  | some u =>
    by_cases t : W.tk = some b
    · obtain ⟨o', q⟩ := S.tkk b u t e
      rw [h] at q; cases q
    · rw [S.keep b u e t] at h; cases h
theorem Sto.stays {W : Wd} {ρ : List AV} {F : Hp} {σ : L2.St} {H : Hp} (S : Sto W ρ F σ H) {F0 : Hp} (e : Same F0 F) : Stays W F0 H := ⟨e.trans S.sub, S.keep, S.tkk⟩
/-- slots that hold data hold it still, whatever two others hold -/
theorem Sto.forget2 {W : Wd} {ρ : List AV} {F : Hp} {σ σ' : L2.St} {H H' : Hp} (S : Sto W ρ F σ H) (nv : ∀ z ∈ ρ, vol z = false) {i j : Nat} (hs : ∀ k, k ≠ i → k ≠ j → σ'[k]? = σ[k]?) (hl : σ'.length = σ.length) (T : Stays W F H') : Sto W ((ρ.set i .no).set j .no) F σ' H' where
  sub := T.sub
  base := S.base
  fr := S.fr
  keep := T.keep
  tkk := T.tkk
  len := by rw [hl, S.len, List.length_set, List.length_set]
  wt := S.wt
  slots := by
    obtain ⟨ad, hs0, _⟩ := S.slots
    have key : ∀ k x, ((ρ.set i .no).set j .no)[k]? = some x → x = .no ∨ k ≠ i ∧ k ≠ j ∧ ρ[k]? = some x := fun k x e => by
      by_cases kj : j = k
      · subst kj
        rw [List.getElem?_set_self' ] at e
        cases h : (ρ.set i .no)[j]? with
        | none => rw [h] at e; cases e
        | some u => rw [h] at e; cases e; exact .inl rfl
      · rw [List.getElem?_set_ne kj] at e
        by_cases ki : i = k
        · subst ki
          rw [List.getElem?_set_self'] at e
          cases h : ρ[i]? with
          | none => rw [h] at e; cases e
          | some u => rw [h] at e; cases e; exact .inl rfl
        · rw [List.getElem?_set_ne ki] at e
          exact .inr ⟨fun z => ki z.symm, fun z => kj z.symm, e⟩
    refine ⟨ad, fun k x e => ?_, fun k l x y h1 h2 v1 v2 n => ?_⟩
    · rcases key k x e with rfl | ⟨n1, n2, e'⟩
      · trivial
      · have q := hs0 k x e'
        have nx := nv x (List.mem_of_getElem? e')
        rw [hs k n1 n2]
        cases x with
        | no => trivial
        | d x => exact q
        | cl T => exact q
        | ml xs => cases nx
        | tank n => cases nx
        | tk3 p q r => cases nx
        | dk kvs => cases nx
    · exfalso
      rcases key k x h1 with rfl | ⟨_, _, e'⟩
      · cases v1
      · rw [nv x (List.mem_of_getElem? e')] at v1; cases v1
section
variable {X : Fam} {e1 e2 tst : Expr} {l1 l2 : ALr} {tt : ATt} {rb rest : List Stmt} {tr u : ASt} {x y : Str}
theorem as_spoil (i j : Nat) {x1 x2 y0 y1 y2 y3 p1 p2 p3 p4 p5 p6 p7 p8 p9 q1 q2 q3 q4 : Pos} {kt jk kk : _} (hN : X.X0.N.Nodup) (hij : i ≠ j) (h1 : AL X e1 l1) (h2 : AL X e2 l2) (ht : AT X tst tt) (hr : ASs X rb tr) (hu : ASs X rest u)
    (hp : ∀ k, PassesOwn (model (X.X k).prog (X.X k).w) (X.X k).A (X.X k).env (X.X k).xe) (hc : X.X0.calm = true)
    (hi : X.X0.N[i]? = some x := by rfl) (hj : X.X0.N[j]? = some y := by rfl)
    (hx : ∀ k, Loc (X.X k).env.scope x := by intro _; first | exact Or.inl rfl | exact Or.inr rfl) (hy : ∀ k, Loc (X.X k).env.scope y := by intro _; first | exact Or.inl rfl | exact Or.inr rfl)
    (vx : ∀ k, Vis (X.X k).env.scope x := by intro _; first | exact Or.inl rfl | exact Or.inr (Or.inl rfl) | exact Or.inr (Or.inr rfl)) (vy : ∀ k, Vis (X.X k).env.scope y := by intro _; first | exact Or.inl rfl | exact Or.inr (Or.inl rfl) | exact Or.inr (Or.inr rfl))
    (fx : ∀ k, (X.X k).fn x = true ∨ (X.X k).env.scope.names.lookup x = some .local := by intro _; first | exact .inl rfl | exact .inr rfl | assumption) (fy : ∀ k, (X.X k).fn y = true ∨ (X.X k).env.scope.names.lookup y = some .local := by intro _; first | exact .inl rfl | exact .inr rfl | assumption)
    (dx : (x == ("__debug__" : Str)) = false := by decide) (cx : (x == ("__classdict__" : Str)) = false := by decide) (dy : (y == ("__debug__" : Str)) = false := by decide) (cy : (y == ("__classdict__" : Str)) = false := by decide)
    (s1 : ∀ k, starEach [e1, e2] (X.X k).env = (false, eval e1 (X.X k).env) :: starEach [e2] (X.X k).env := by intro _; rfl) (s2 : ∀ k, starEach [e2] (X.X k).env = (false, eval e2 (X.X k).env) :: starEach [] (X.X k).env := by intro _; rfl)
    (sw : ∀ k, swapsWith (.List [e1, e2] x2) (some (.Name x x1)) p1.line (X.X k).env = pure false := by intro _; rfl)
    (fo : ∀ k v, foldedSetIterable (.Name x p2) (X.X k).env v = pure v := by intro _ _; rfl)
    (b1 : ∀ k, attributeBase (.Name y y1) "append" (X.X k).env (eval (.Name y y1) (X.X k).env) = eval (.Name y y1) (X.X k).env := by intro _; rfl)
    (few : ∀ k, ((backTo p5 (starEach [.Tuple [] kt p3] (X.X k).env)).all (fun x => !x.1) && (backToKw p5 (keywordEach [] (X.X k).env)).all (fun x => x.1.isSome) && decide (([.Tuple [] kt p3] : List Expr).length + ([] : List Keyword).length + (if ([] : List Keyword).isEmpty then 0 else 1) < 30)) = true := by intro _; rfl)
    (ln : (p4.endLine == p5.line) = true := by rfl) (st : ∀ k, starEach [.Tuple [] kt p3] (X.X k).env = [(false, eval (.Tuple [] kt p3) (X.X k).env)] := by intro _; rfl)
    (sx : ∀ k, swapsWith (.Call (.Attribute (.Name y y1) "append" p4) [.Tuple [] kt p3] [] p5) none p6.line (X.X k).env = pure false := by intro _; rfl)
    (as1 : ∀ k v, assign (.Subscript (.Name y y2) (.Constant (.int 0) jk q1) q2) (X.X k).env v = (do
      let ov ← holding [v] (eval (.Name y y2) (X.X k).env)
      let iv ← holding [v, ov] (eval (.Constant (.int 0) jk q1) (X.X k).env)
      standAt q2
      holding [v, ov, iv] (setItem ov iv v)
      release [v, ov, iv] []) := by intro _ _; rfl)
    (as2 : ∀ k, swapsWithSole [.Subscript (.Name y y2) (.Constant (.int 0) jk q1) q2] (.Constant .none kk q3) p7.line (X.X k).env = pure false := by intro _; rfl) (as3 : ∀ k, swappedStores [.Subscript (.Name y y2) (.Constant (.int 0) jk q1) q2] (.Constant .none kk q3) (X.X k).env = pure none := by intro _; rfl)
    (as4 : ∀ k, (assignEach [.Subscript (.Name y y2) (.Constant (.int 0) jk q1) q2] (X.X k).env).map (·.2) = [assign (.Subscript (.Name y y2) (.Constant (.int 0) jk q1) q2) (X.X k).env] := by intro _; rfl)
    (b2 : ∀ k, attributeBase (.Name y y3) "reverse" (X.X k).env (eval (.Name y y3) (X.X k).env) = eval (.Name y y3) (X.X k).env := by intro _; rfl) (ln2 : (q4.endLine == p8.line) = true := by rfl)
    (sx2 : ∀ k, swapsWith (.Call (.Attribute (.Name y y3) "reverse" q4) [] [] p8) none p9.line (X.X k).env = pure false := by intro _; rfl) {pf pi : Pos} :
    ASs X (.Assign [.Name x x1] (.List [e1, e2] x2) p1 :: .If tst rb [] pi :: .For (.Name y y0) (.Name x p2) [.Expr (.Call (.Attribute (.Name y y1) "append" p4) [.Tuple [] kt p3] [] p5) p6, .Assign [.Subscript (.Name y y2) (.Constant (.int 0) jk q1) q2] (.Constant .none kk q3) p7, .Expr (.Call (.Attribute (.Name y y3) "reverse" q4) [] [] p8) p9] [] pf :: rest)
      fun A ρ => (∀ z ∈ ρ, vol z = false) ∧ i < ρ.length ∧ j < ρ.length ∧ l1 ρ fun xs1 ρ1 => l2 ρ1 fun xs2 ρ2 => xs1.length < 16777216 ∧ xs2.length < 16777216 ∧ tt (ρ2.set i (.d (.list [.list xs1, .list xs2]))) fun b ρ3 => (b = true → tr { A with nx := fun _ => False } ρ3) ∧ (b = false → u A ((ρ.set i .no).set j .no)) := by
  obtain ⟨_, a1, a2⟩ := h1.ex
  obtain ⟨_, c1, c2⟩ := h2.ex
  obtain ⟨_, t1, t2⟩ := ht.ex
  obtain ⟨_, r1, r2⟩ := hr.ex
  obtain ⟨_, u1, u2⟩ := hu.ex
  have PA_ : ∀ k, PE (X.X k) (.Call (.Attribute (.Name y y1) "append" p4) [.Tuple [] kt p3] [] p5) (tBM X.X0.K "list" rAppend (tVar j) (tCons (tTup tNil) tNil)) := fun k => by
    have q := pe_bm (X := X.X k) (o := .Name y y1) PySem.F.plainAttrs_list PySem.F.slot_list_append PySem.F.type_list_append mt_append (pe_var (by rw [X.hN k]; exact hj) (vy k) dy cy) (pa_cons (pe_tup pa_nil) pa_nil (st k)) (cpos := p5) (apos := p4) (b1 k) (few k) ln (st k) (by rfl)
    rw [X.hK k] at q
    exact q
  have PR_ : ∀ k, PE (X.X k) (.Call (.Attribute (.Name y y3) "reverse" q4) [] [] p8) (tBM0 X.X0.K "list" rReverse (tVar j)) := fun k => by
    have q := pe_bm0 (X := X.X k) (o := .Name y y3) PySem.F.plainAttrs_list PySem.F.slot_list_reverse PySem.F.type_list_reverse mt_reverse (pe_var (by rw [X.hN k]; exact hj) (vy k) dy cy) (cpos := p8) (apos := q4) (b2 k) ln2
    rw [X.hK k] at q
    exact q
  have PI_ : ∀ k, PI (X.X k) (.Name y y0) (.Name x p2) (iList X.X0.K (tVar i)) := fun k => by
    have q := pi_list (X := X.X k) (tg := .Name y y0) (pe_var (pos := p2) (by rw [X.hN k]; exact hi) (vx k) dx cx)
    rw [X.hK k] at q
    exact q
  refine ⟨_, fun k => pss_cons (ps_set (by rw [X.hN k]; exact hN) (by rw [X.hN k]; exact hi) (hx k) (pe_lst (pa_cons (a1 k) (pa_cons (c1 k) pa_nil (s2 k)) (s1 k))) (sw k) (fx k)) (pss_cons (ps_if (t1 k) (r1 k) pss_nil) (pss_cons (ps_for (hp k) (by rw [X.hc k]; exact hc) (PI_ k) (pg_name (by rw [X.hN k]; exact hN) (by rw [X.hN k]; exact hj) (hy k) (fy k))
    (pss_cons (ps_expr (PA_ k) (sx k)) (pss_cons (ps_asg pe_non (pg_sub (pe_var (pos := y2) (by rw [X.hN k]; exact hj) (vy k) dy cy) (pe_int (i := 0) (j := jk) (pos := q1)) set_list (as1 k)) (as2 k) (as3 k) (as4 k)) (pss_cons (ps_expr (PR_ k) (sx2 k)) pss_nil))) (fo k)) (u1 k))), fun W ρ F σ H D A hk S ht E => ?_⟩
  obtain ⟨nv, li0, lj0, ht⟩ := ht
  -- the two lists
  refine a2 W ρ F σ H _ _ hk S ht fun xs1 ρ1 F1 a vs1 H1 S1 ha eF1 r1' q1 => ?_
  have fa1 : F1 a = none := S1.f0 del_same
  have ha0 : W.H0 a = none := S1.h0 del_same
  have S1f := S1.freeze ha
  refine c2 W ρ1 _ σ H1 _ _ hk S1f q1 fun xs2 ρ2 F2 b vs2 H2 S2 hb eF2 r2' q2 => ?_
  obtain ⟨lx1, lx2, q3⟩ := q2
  have fb2 : F2 b = none := S2.f0 del_same
  have hb0 : W.H0 b = none := S2.h0 del_same
  have S2f := S2.freeze hb
  refine ⟨(by decide : 2 ≤ sizeLine), fun c hc3 => ?_⟩
  have S3 := S2f.newF (o := .lst [.ref a, .ref b]) hc3
  have g1 : Same F F2 := (eF1.trans (same_upd fa1)).trans eF2
  have ga : F2 a = some (.lst vs1) := eF2 _ _ upd_same
  have nab : a ≠ b := fun z => by rw [z, fb2] at ga; cases ga
  have hc2 : (upd F2 b (.lst vs2)) c = none := S2f.f0 hc3
  have fc2 : F2 c = none := by
    cases e : F2 c with
    | none => rfl
    | some o => rw [same_upd fb2 _ _ e] at hc2; cases hc2
  have nac : a ≠ c := fun z => by rw [z, fc2] at ga; cases ga
  have nbc : b ≠ c := fun z => by rw [← z, upd_same] at hc2; cases hc2
  have g2 : Same F2 (upd (upd F2 b (.lst vs2)) c (.lst [.ref a, .ref b])) := (same_upd fb2).trans (same_upd hc2)
  have fF : ∀ d, F2 d = none → F d = none := fun d h => by
    cases e : F d with
    | none => rfl
    | some o => rw [g1 _ _ e] at h; cases h
  have fA : F a = none := by
    cases e : F a with
    | none => rfl
    | some o => rw [eF1 _ _ e] at fa1; cases fa1
  have fB := fF b fb2
  have fC := fF c fc2
  have hc0 : W.H0 c = none := S2f.h0 hc3
  obtain ⟨F3, eF3⟩ : ∃ F3, F3 = upd (upd F2 b (.lst vs2)) c (.lst [.ref a, .ref b]) := ⟨_, rfl⟩
  rw [← eF3] at g2 S3
  have gc3 : F3 c = some (.lst [.ref a, .ref b]) := by rw [eF3]; exact upd_same
  have gb3 : F3 b = some (.lst vs2) := by rw [eF3, upd_ne nbc]; exact upd_same
  have ga3 : F3 a = some (.lst vs1) := g2 _ _ ga
  have dp : Dp W.K F3 (.ref c) (.list [.list xs1, .list xs2]) := by
    rw [hk]
    exact .lst (SqL.of gc3) (.cons (.lst (SqL.of ga3) (dpAll_mono (((same_upd fa1).trans eF2).trans g2) r1')) (.cons (.lst (SqL.of gb3) (dpAll_mono g2 r2')) .nil))
  have S4 := S3.setd (i := i) dp
  refine t2 W _ _ _ _ _ _ hk S4 q3 fun bb ρ3 F5 H5 S5 eF5 q5 => ?_
  have e05 : Same F F5 := (g1.trans g2).trans eF5
  cases bb with
  | true =>
    rw [if_pos rfl]
    exact r2 W ρ3 F5 _ H5 _ _ hk S5 (q5.1 rfl) ⟨fun _ _ _ _ _ _ z => z.elim, fun p1 p2 p3 p4 p5 p6 => E.bk p1 p2 p3 p4 p5 (e05.trans p6), fun p1 p2 p3 p4 p5 p6 => E.ct p1 p2 p3 p4 p5 (e05.trans p6), fun p1 p2 p3 p4 p5 p6 p7 p8 => E.rt p1 p2 p3 p4 p5 p6 p7 (e05.trans p8), fun p1 p2 p3 p4 p5 p6 p7 p8 p9 p10 => E.ro p1 p2 p3 p4 p5 p6 p7 p8 p9 (e05.trans p10)⟩
  | false =>
    rw [if_neg Bool.false_ne_true]
    have l1 : vs1.length < 16777216 := by rw [dpAll_len r1']; exact lx1
    have l2 : vs2.length < 16777216 := by rw [dpAll_len r2']; exact lx2
    have hc5 : H5 c = some (.lst [.ref a, .ref b]) := S5.sub _ _ (eF5 _ _ gc3)
    have ha5 : H5 a = some (.lst vs1) := S5.sub _ _ (eF5 _ _ ga3)
    have hb5 : H5 b = some (.lst vs2) := S5.sub _ _ (eF5 _ _ gb3)
    have T5 : Stays W F H5 := S5.stays e05
    have li : i < σ.length := by rw [S.len]; exact li0
    have lj : j < σ.length := by rw [S.len]; exact lj0
    have si : (σ.set i (some (V.ref c)))[i]? = some (some (V.ref c)) := List.getElem?_set_self li
    -- what one turn does
    have body : ∀ (d : Addr) (ws : List V) (σ' : L2.St) (H' : Hp) (D' : Ends), H' d = some (.lst ws) → ws.length < 16777216 → Stays W F H' → F d = none → W.H0 d = none → σ'[j]? = some (some (.ref d)) →
        (∀ H'' ws', Stays W F H'' → H'' d = some (.lst ws') → (∀ e o, e ≠ d → H' e = some o → H'' e = some o) → D'.nx σ' H'') →
        tSeq (tDrop (tBM X.X0.K "list" rAppend (tVar j) (tCons (tTup tNil) tNil))) (tSeq (tAsg (tC V.non) (gSub (tVar j) (tC (V.int 0)) rSetL)) (tSeq (tDrop (tBM0 X.X0.K "list" rReverse (tVar j))) tNext)) D' σ' H' := fun d ws σ' H' D' hd hl T fd hd0 hσ fin => by
      refine ⟨.ref d, hσ, tyV_lst hd, Nat.zero_le _, fun q hq => ?_⟩
      have nqd : d ≠ q := fun z => by rw [z, hq] at hd; cases hd
      have fq : F q = none := T.sub.free hq
      have hq0 : W.H0 q = none := T.h0 hq
      have hd1 : upd H' q (.tup []) d = some (.lst ws) := by rw [upd_ne nqd]; exact hd
      refine ⟨d, ws, .ref q, rfl, rfl, hd1, hl, ?_⟩
      refine ⟨.ref d, hσ, d, ws ++ [.ref q], 0, 0, rfl, rfl, upd_same, ?_, ?_⟩
      · unfold ixN
        rw [if_pos (by decide), if_pos (by rw [List.length_append, List.length_singleton]; omega)]
        rfl
      · refine ⟨.ref d, hσ, tyV_lst upd_same, d, _, rfl, rfl, upd_same, ?_⟩
        refine fin _ _ ((((T.upd fq hq0).upd fd hd0).upd fd hd0).upd fd hd0) upd_same fun e o ne he => ?_
        have nq : e ≠ q := fun z => by rw [z, hq] at he; cases he
        rw [upd_ne ne, upd_ne ne, upd_ne ne, upd_ne nq]
        exact he
    show tFor (iList X.X0.K (tVar i)) (gName j) _ _ _ _
    refine ⟨.ref c, si, c, rfl, ⟨_, SqL.of hc5⟩, fun n m σ' H' => m = 2 - n ∧ n ≤ 2 ∧ (∀ k, k ≠ i → k ≠ j → σ'[k]? = σ[k]?) ∧ σ'.length = σ.length ∧ Stays W F H' ∧ H' c = some (.lst [.ref a, .ref b]) ∧ (∃ ws, H' a = some (.lst ws) ∧ (n = 0 → ws.length < 16777216)) ∧ ∃ ws, H' b = some (.lst ws) ∧ (n ≤ 1 → ws.length < 16777216), ⟨2, rfl, Nat.zero_le _, fun k n1 _ => List.getElem?_set_ne (fun z => n1 z.symm), by rw [List.length_set], T5, hc5, ⟨vs1, ha5, fun _ => l1⟩, vs2, hb5, fun _ => l2⟩, ?_⟩
    rintro n m σ' H' ⟨rfl, n2, sk, sl, T, hcc, ⟨wa, hwa, lwa⟩, wb, hwb, lwb⟩
    by_cases hn : n < 2
    · refine .inr ⟨⟨[.ref a, .ref b], _, SqL.of hcc, List.getElem?_eq_getElem (show n < [V.ref a, V.ref b].length from hn)⟩, fun σ2 H2 => (∀ k, k ≠ i → k ≠ j → σ2[k]? = σ[k]?) ∧ σ2.length = σ.length ∧ Stays W F H2 ∧ H2 c = some (.lst [.ref a, .ref b]) ∧ (∃ ws, H2 a = some (.lst ws)) ∧ ∃ ws, H2 b = some (.lst ws) ∧ (n = 0 → ws.length < 16777216), fun σ2 H2 ⟨z1, z2, z3, z4, ⟨z5, z6⟩, z7, z8, z9⟩ => ⟨2 - (n + 1), by omega, rfl, by omega, z1, z2, z3, z4, ⟨z5, z6, fun z => absurd z (by omega)⟩, z7, z8, fun z => z9 (by omega)⟩, fun v H2 hv => ?_⟩
      obtain ⟨rfl, hv⟩ := hv
      have hv := hv _ (SqL.of hcc)
      have sj : (σ'.set j (some v))[j]? = some (some v) := List.getElem?_set_self (by rw [sl]; exact lj)
      have sk2 : ∀ k, k ≠ i → k ≠ j → (σ'.set j (some v))[k]? = σ[k]? := fun k n1 n2 => by
        rw [List.getElem?_set_ne fun z => n2 z.symm]
        exact sk k n1 n2
      have sl2 : (σ'.set j (some v)).length = σ.length := by rw [List.length_set]; exact sl
      match n, hn, hv, lwa, lwb with
      | 0, _, hv, lwa, lwb =>
        cases hv
        refine body a wa _ H2 _ hwa (lwa rfl) T fA ha0 sj fun H'' ws' T' h1 h2 => ⟨sk2, sl2, T', h2 _ _ nac.symm hcc, ⟨ws', h1⟩, wb, h2 _ _ nab.symm hwb, fun _ => lwb (by decide)⟩
      | 1, _, hv, lwa, lwb =>
        cases hv
        refine body b wb _ H2 _ hwb (lwb (by decide)) T fB hb0 sj fun H'' ws' T' h1 h2 => ⟨sk2, sl2, T', h2 _ _ nbc.symm hcc, ⟨wa, h2 _ _ nab hwa⟩, ws', h1, fun z => absurd z (by decide)⟩
    · have e2 : n = 2 := by omega
      subst e2
      exact .inl ⟨⟨[.ref a, .ref b], SqL.of hcc, Nat.le_refl _⟩, u2 W _ F σ' H' D A hk (S.forget2 nv sk sl T) (q5.2 rfl) E⟩
/-- x = y, of a list that y holds alone: it goes over -/
theorem as_move (i j : Nat) {y0 pos : Pos} {p' : Pos} (hN : X.X0.N.Nodup) (hi : X.X0.N[i]? = some x := by rfl) (hj : ∀ k, (X.X k).N[j]? = some y := by intro _; rfl) (hx : ∀ k, Loc (X.X k).env.scope x := by intro _; first | exact Or.inl rfl | exact Or.inr rfl)
    (hv : ∀ k, Vis (X.X k).env.scope y := by intro _; first | exact Or.inl rfl | exact Or.inr (Or.inl rfl) | exact Or.inr (Or.inr rfl)) (hd : (y == ("__debug__" : Str)) = false := by decide) (hcd : (y == ("__classdict__" : Str)) = false := by decide)
    (hs : ∀ k, swapsWith (.Name y y0) (some (.Name x p')) pos.line (X.X k).env = pure false := by intro _; rfl) (hf : ∀ k, (X.X k).fn x = true ∨ (X.X k).env.scope.names.lookup x = some .local := by intro _; first | exact .inl rfl | exact .inr rfl | assumption) :
    AS X (.Assign [.Name x p'] (.Name y y0) pos) fun A ρ => ∃ xs, ρ[j]? = some (.ml xs) ∧ A.nx ((ρ.set j .no).set i (.ml xs)) := by
  refine ⟨_, fun k => ps_set (by rw [X.hN k]; exact hN) (by rw [X.hN k]; exact hi) (hx k) (pe_var (hj k) (hv k) hd hcd) (hs k) (hf k), fun W ρ F σ H D A hk S ht E => ?_⟩
  obtain ⟨xs, h, q⟩ := ht
  obtain ⟨p, vs, h1, h2, h3, S'⟩ := S.release h
  exact ⟨_, h1, E.nx _ F _ H (S'.setm h2 h3) (Same.refl F) q⟩
end
end OS

/-! OSeq: the readings, case by case. -/
namespace OS
open PySem L2 PyProof.Rows PySem.W
theorem lent_1 : lent (.ml xs) = (some (.list xs)) := rfl
theorem lent_2 : lent (.dk kvs) = (some (.dict kvs)) := rfl
theorem dAdd_1 : dAdd (.int i) (.int j) q = (q (.int (i + j))) := rfl
theorem dAdd_2 : dAdd (.str x) (.str y) q = (x.length + y.length ≤ 16777216 ∧ q (.str (x ++ y))) := rfl
theorem dAdd_3 : dAdd (.list xs) (.list ys) q = (xs.length + ys.length ≤ 16777216 ∧ q (.list (xs ++ ys))) := rfl
theorem dAdd_4 : dAdd (.tuple xs) (.tuple ys) q = (xs.length + ys.length ≤ 16777216 ∧ q (.tuple (xs ++ ys))) := rfl
theorem dII_1 : dII C f (.int i) (.int j) q = (C i j ∧ q (.int (f i j))) := rfl
theorem dI2_1 : dI2 f (.int i) (.int j) q = (q (.int (f i j))) := rfl
theorem dIB_1 : dIB f (.int i) (.int j) q = (q (.bool (f i j))) := rfl
theorem dLt_1 : dLt (.int i) (.int j) q = (q (.bool (decide (i < j)))) := rfl
theorem dEq_1 : dEq neg (.int i) (.int j) q = (q (.bool (if neg then !decide (i = j) else decide (i = j)))) := rfl
theorem dEq_2 : dEq neg (.str i) (.str j) q = (q (.bool (if neg then !decide (i = j) else decide (i = j)))) := rfl
theorem dEq_3 : dEq neg (.bool i) (.bool j) q = (q (.bool (if neg then !decide (i = j) else decide (i = j)))) := rfl
theorem dIn_1 : dIn neg (.str x) (.list ds) q = (inF neg (.str x) ds q) := rfl
theorem dIn_2 : dIn neg (.int x) (.list ds) q = (inF neg (.int x) ds q) := rfl
theorem dIn_3 : dIn neg (.bool x) (.list ds) q = (inF neg (.bool x) ds q) := rfl
theorem dIn_4 : dIn neg (.none) (.list ds) q = (inF neg .none ds q) := rfl
theorem dIn_5 : dIn neg (.tuple x) (.list ds) q = (inDp neg (.tuple x) (.list ds) ds q) := rfl
theorem dIn_6 : dIn neg (.str x) (.tuple ds) q = (inF neg (.str x) ds q) := rfl
theorem dIn_7 : dIn neg (.int x) (.tuple ds) q = (inF neg (.int x) ds q) := rfl
theorem dIn_8 : dIn neg (.bool x) (.tuple ds) q = (inF neg (.bool x) ds q) := rfl
theorem dIn_9 : dIn neg (.none) (.tuple ds) q = (inF neg .none ds q) := rfl
theorem dIn_10 : dIn neg (.tuple x) (.tuple ds) q = (inDp neg (.tuple x) (.tuple ds) ds q) := rfl
theorem dIn_11 : dIn neg (PyData.str x) (.str z) q = (∃ c : Nat, (PyData.str x) = .str ⟨#[c]⟩ ∧ q (.bool (if neg then !decide (c ∈ z.cps.toList) else decide (c ∈ z.cps.toList)))) := rfl
theorem dIn_12 : dIn neg (PyData.tuple x) (.str z) q = (∃ c : Nat, (PyData.tuple x) = .str ⟨#[c]⟩ ∧ q (.bool (if neg then !decide (c ∈ z.cps.toList) else decide (c ∈ z.cps.toList)))) := rfl
theorem dIn_13 : dIn neg (PyData.int x) (.str z) q = (∃ c : Nat, (PyData.int x) = .str ⟨#[c]⟩ ∧ q (.bool (if neg then !decide (c ∈ z.cps.toList) else decide (c ∈ z.cps.toList)))) := rfl
theorem dIn_14 : dIn neg (PyData.bool x) (.str z) q = (∃ c : Nat, (PyData.bool x) = .str ⟨#[c]⟩ ∧ q (.bool (if neg then !decide (c ∈ z.cps.toList) else decide (c ∈ z.cps.toList)))) := rfl
theorem dIn_15 : dIn neg PyData.none (.str z) q = (∃ c : Nat, PyData.none = .str ⟨#[c]⟩ ∧ q (.bool (if neg then !decide (c ∈ z.cps.toList) else decide (c ∈ z.cps.toList)))) := rfl
theorem dIn_16 : dIn neg (PyData.str x) (.dict kvs) q = (dFit kvs (PyData.str x) ∧ q (.bool (if neg then !(dGet kvs (PyData.str x)).isSome else (dGet kvs (PyData.str x)).isSome))) := rfl
theorem dIn_17 : dIn neg (PyData.tuple x) (.dict kvs) q = (dFit kvs (PyData.tuple x) ∧ q (.bool (if neg then !(dGet kvs (PyData.tuple x)).isSome else (dGet kvs (PyData.tuple x)).isSome))) := rfl
theorem dIn_18 : dIn neg (PyData.int x) (.dict kvs) q = (dFit kvs (PyData.int x) ∧ q (.bool (if neg then !(dGet kvs (PyData.int x)).isSome else (dGet kvs (PyData.int x)).isSome))) := rfl
theorem dIn_19 : dIn neg (PyData.bool x) (.dict kvs) q = (dFit kvs (PyData.bool x) ∧ q (.bool (if neg then !(dGet kvs (PyData.bool x)).isSome else (dGet kvs (PyData.bool x)).isSome))) := rfl
theorem dIn_20 : dIn neg PyData.none (.dict kvs) q = (dFit kvs PyData.none ∧ q (.bool (if neg then !(dGet kvs PyData.none).isSome else (dGet kvs PyData.none).isSome))) := rfl
theorem dIx_1 : dIx (.list xs) (.int i) q = (∃ z, atI xs i = some z ∧ q z) := rfl
theorem dIx_2 : dIx (.tuple xs) (.int i) q = (∃ z, atI xs i = some z ∧ q z) := rfl
theorem dIx_3 : dIx (.str x) (.int i) q = (x.length ≤ 16777216 ∧ ∃ c, atI x.cps.toList i = some c ∧ q (.str ⟨#[c]⟩)) := rfl
theorem dIx_4 : dIx (.dict kvs) k q = (∃ z, dGet kvs k = some z ∧ dFit kvs k ∧ q z) := rfl
theorem ixV_1 : ixV tb q ρ i (some (.d d)) = (tb ρ fun e ρ1 => dIx d e fun z => q z ρ1) := rfl
theorem ixV_2 : ixV tb q ρ i (some (.ml xs)) = (tb ρ fun e ρ1 => ∃ y d, ρ1[i]? = some y ∧ lent y = some d ∧ dIx d e fun z => q z ρ1) := rfl
theorem ixV_3 : ixV tb q ρ i (some (.dk kvs)) = (tb ρ fun e ρ1 => ∃ y d, ρ1[i]? = some y ∧ lent y = some d ∧ dIx d e fun z => q z ρ1) := rfl
theorem sLen_1 : sLen ([.list xs]) q = (q (.d (.int (xs.length : Nat)))) := rfl
theorem sLen_2 : sLen ([.tuple xs]) q = (q (.d (.int (xs.length : Nat)))) := rfl
theorem sLen_3 : sLen ([.str z]) q = (z.length ≤ 16777216 ∧ q (.d (.int (z.length : Nat)))) := rfl
theorem sList_1 : sList ([.list xs]) q = (q (.own xs)) := rfl
theorem sList_2 : sList ([.tuple xs]) q = (q (.own xs)) := rfl
theorem sTuple_1 : sTuple ([.list xs]) q = (q (.d (.tuple xs))) := rfl
theorem sTuple_2 : sTuple ([.tuple xs]) q = (q (.d (.tuple xs))) := rfl
theorem sAbs_1 : sAbs ([.int i]) q = (q (.d (.int (if i < 0 then -i else i)))) := rfl
theorem sInt_1 : sInt ([.int i]) q = (q (.d (.int i))) := rfl
theorem sInt_2 : sInt ([.bool b]) q = (q (.d (.int (if b then 1 else 0)))) := rfl
theorem sMax2_1 : sMax2 ([.int i, .int j]) q = (q (.d (.int (if j > i then j else i)))) := rfl
theorem sMin2_1 : sMin2 ([.int i, .int j]) q = (q (.d (.int (if j < i then j else i)))) := rfl
theorem sAll_1 : sAll ([.list xs]) q = (∃ bs : List Bool, xs = bs.map .bool ∧ q (.d (.bool (bs.all id)))) := rfl
theorem sAny_1 : sAny ([.list xs]) q = (∃ bs : List Bool, xs = bs.map .bool ∧ q (.d (.bool (bs.any id)))) := rfl
theorem sSum_1 : sSum ([.list xs]) q = (∃ ns : List Int, xs = ns.map .int ∧ q (.d (.int ns.sum))) := rfl
theorem sMaxL_1 : sMaxL ([.list xs]) q = (∃ ns : List Int, xs = ns.map .int ∧ 0 < ns.length ∧ ∀ m, m ∈ ns → (∀ y ∈ ns, y ≤ m) → q (.d (.int m))) := rfl
theorem sMinL_1 : sMinL ([.list xs]) q = (∃ ns : List Int, xs = ns.map .int ∧ 0 < ns.length ∧ ∀ m, m ∈ ns → (∀ y ∈ ns, m ≤ y) → q (.d (.int m))) := rfl
theorem sListS_1 : sListS ([.str x]) q = (x.length ≤ 16777216 ∧ q (.own (signs x))) := rfl
theorem dCut_1 {lo hi : Option Int} : dCut (.list xs) lo hi q = (q (.own (cutD xs lo hi))) := rfl
theorem dCut_2 {lo hi : Option Int} : dCut (.tuple xs) lo hi q = (q (.d (.tuple (cutD xs lo hi)))) := rfl
theorem dCut_3 {lo hi : Option Int} : dCut (.str x) lo hi q = (x.length ≤ 16777216 ∧ q (.d (.str (cutS x lo hi)))) := rfl
theorem dIter_1 : dIter (.list ds) q = (q ds) := rfl
theorem dIter_2 : dIter (.tuple ds) q = (q ds) := rfl
theorem dIter_3 : dIter (.str x) q = (q (signs x)) := rfl
theorem dIter_4 : dIter (.dict kvs) q = (q (kvs.map (·.1))) := rfl
theorem dNeg_1 : dNeg (.int i) q = (q (.int (-i))) := rfl
theorem sSortG_1 : sSortG ([.list xs]) q = (SrtOk xs ∧ ∀ ys, Srt xs ys → q (.own ys)) := rfl
theorem sSS_1 : sSS ([.list xs]) q = (xs.length < 64 ∧ (∀ d ∈ xs, ∃ ys k, d = .tuple ys ∧ keyOf d = some k ∧ k.depth ≤ 8) ∧ PySem.W.AllAlike xs ∧ (∀ d ∈ xs, d.depth ≤ 64) ∧ ∀ ys, SSet xs ys → q (.own ys)) := rfl
theorem sLenX_1 : sLenX ([.list xs]) q = (q (.d (.int (xs.length : Nat)))) := rfl
theorem sLenX_2 : sLenX ([.tuple xs]) q = (q (.d (.int (xs.length : Nat)))) := rfl
theorem sLenX_3 : sLenX ([.str z]) q = (z.length ≤ 16777216 ∧ q (.d (.int (z.length : Nat)))) := rfl
theorem sLenX_4 : sLenX ([.dict kvs]) q = (q (.d (.int (kvs.length : Nat)))) := rfl
theorem sListX_1 : sListX ([.list xs]) q = (q (.own xs)) := rfl
theorem sListX_2 : sListX ([.tuple xs]) q = (q (.own xs)) := rfl
theorem sListX_3 : sListX ([.dict kvs]) q = (q (.own (kvs.map (·.1)))) := rfl
theorem sSortX_1 : sSortX ([.list xs]) q = (SrtOk xs ∧ ∀ ys, Srt xs ys → q (.own ys)) := rfl
theorem sSortX_2 : sSortX ([.dict kvs]) q = (SrtOk (kvs.map (·.1)) ∧ ∀ ys, Srt (kvs.map (·.1)) ys → q (.own ys)) := rfl
theorem sSortX_3 : sSortX ([.tuple xs]) q = (SrtOk xs ∧ ∀ ys, Srt xs ys → q (.own ys)) := rfl
theorem varR_1 : varR q ρ i (some (.d d)) = (q d ρ) := rfl
theorem varR_2 : varR q ρ i (some (.ml xs)) = (q (.list xs) (ρ.set i (.d (.list xs)))) := rfl
theorem varR_3 : varR q ρ i (some (.dk kvs)) = (q (.dict kvs) (ρ.set i (.d (.dict kvs)))) := rfl
theorem isV_1 : isV f q ρ (some (.d d)) = (q (.bool (f d)) ρ) := rfl
theorem isV_2 : isV f q ρ (some (.ml xs)) = (q (.bool (f (.list xs))) ρ) := rfl
theorem isV_3 : isV f q ρ (some (.dk kvs)) = (q (.bool (f (.dict kvs))) ρ) := rfl
theorem varL_1 : varL q ρ i (some (.d d)) = (q (.d d) ρ) := rfl
theorem varL_2 : varL q ρ i (some (.ml xs)) = (q (.s i) ρ) := rfl
theorem varL_3 : varL q ρ i (some (.dk kvs)) = (q (.s i) ρ) := rfl
theorem dZip_1 : dZip ([.list xs, .list ys]) q = (q (zipD xs ys)) := rfl
theorem dZip_2 : dZip ([.tuple xs, .tuple ys]) q = (q (zipD xs ys)) := rfl
theorem opS_1 : opS (some (.dk kvs)) = (some kvs) := rfl
theorem opC_1 : opC ρ (.d (.dict kvs)) = (some kvs) := rfl
theorem opC_2 : opC ρ (.s i) = (opS ρ[i]?) := rfl
theorem prsD_1 : prsD (.list xs) kvs = (xs = kvs.map fun kv => .tuple [kv.1, kv.2]) := rfl
theorem prsD_2 : prsD (.tuple xs) kvs = (xs = kvs.map fun kv => .tuple [kv.1, kv.2]) := rfl
theorem enumR_1 : enumR q ([.d (.list ds)]) = (q (enumD ds)) := rfl
theorem enumR_2 : enumR q ([.d (.tuple ds)]) = (q (enumD ds)) := rfl
theorem dZip2_1 : dZip2 ([.list xs, .list ys]) q = (q (zipD xs ys)) := rfl
theorem dZip2_2 : dZip2 ([.list xs, .tuple ys]) q = (q (zipD xs ys)) := rfl
theorem dZip2_3 : dZip2 ([.tuple xs, .list ys]) q = (q (zipD xs ys)) := rfl
theorem dZip2_4 : dZip2 ([.tuple xs, .tuple ys]) q = (q (zipD xs ys)) := rfl
theorem roIsB_1 : roIsB neg (.bool a) (.bool b) q = (q (.bool (if neg then !decide (a = b) else decide (a = b)))) := rfl
theorem dZipK_1 : dZipK ([.list xs, .list ys]) q = ((xs.all fun d => flatK d) = true ∧ q (xs.zip ys)) := rfl
theorem dZipK_2 : dZipK ([.list xs, .tuple ys]) q = ((xs.all fun d => flatK d) = true ∧ q (xs.zip ys)) := rfl
theorem dZipK_3 : dZipK ([.tuple xs, .list ys]) q = ((xs.all fun d => flatK d) = true ∧ q (xs.zip ys)) := rfl
theorem dZipK_4 : dZipK ([.tuple xs, .tuple ys]) q = ((xs.all fun d => flatK d) = true ∧ q (xs.zip ys)) := rfl
theorem vol_1 : vol (.ml xs) = true := rfl
theorem vol_2 : vol (.tank n) = true := rfl
theorem vol_3 : vol (.tk3 a b c) = true := rfl
theorem vol_4 : vol (.dk k) = true := rfl
theorem vol_5 : vol .no = false := rfl
theorem vol_6 : vol (.d x) = false := rfl
theorem noneD_none : noneD .none = true := rfl
theorem noneD_bool : noneD (.bool x) = false := rfl
theorem noneD_int : noneD (.int x) = false := rfl
theorem noneD_str : noneD (.str x) = false := rfl
theorem noneD_list : noneD (.list x) = false := rfl
theorem noneD_tuple : noneD (.tuple x) = false := rfl
theorem isBoolD_none : isBoolD .none = false := rfl
theorem isBoolD_bool : isBoolD (.bool x) = true := rfl
theorem isBoolD_int : isBoolD (.int x) = false := rfl
theorem isBoolD_str : isBoolD (.str x) = false := rfl
theorem isBoolD_list : isBoolD (.list x) = false := rfl
theorem isBoolD_tuple : isBoolD (.tuple x) = false := rfl
theorem isIntD_none : isIntD .none = false := rfl
theorem isIntD_bool : isIntD (.bool x) = true := rfl
theorem isIntD_int : isIntD (.int x) = true := rfl
theorem isIntD_str : isIntD (.str x) = false := rfl
theorem isIntD_list : isIntD (.list x) = false := rfl
theorem isIntD_tuple : isIntD (.tuple x) = false := rfl
theorem isStrD_none : isStrD .none = false := rfl
theorem isStrD_bool : isStrD (.bool x) = false := rfl
theorem isStrD_int : isStrD (.int x) = false := rfl
theorem isStrD_str : isStrD (.str x) = true := rfl
theorem isStrD_list : isStrD (.list x) = false := rfl
theorem isStrD_tuple : isStrD (.tuple x) = false := rfl
theorem isListD_none : isListD .none = false := rfl
theorem isListD_bool : isListD (.bool x) = false := rfl
theorem isListD_int : isListD (.int x) = false := rfl
theorem isListD_str : isListD (.str x) = false := rfl
theorem isListD_list : isListD (.list x) = true := rfl
theorem isListD_tuple : isListD (.tuple x) = false := rfl
theorem isTupD_none : isTupD .none = false := rfl
theorem isTupD_bool : isTupD (.bool x) = false := rfl
theorem isTupD_int : isTupD (.int x) = false := rfl
theorem isTupD_str : isTupD (.str x) = false := rfl
theorem isTupD_list : isTupD (.list x) = false := rfl
theorem isTupD_tuple : isTupD (.tuple x) = true := rfl
theorem Rs_dat_d : Rs.dat (.d x) = x := rfl
theorem Rs_dat_o : Rs.dat (.own xs) = .list xs := rfl
theorem Rs_lf_d : Rs.lf (.d x) = lf x := rfl
theorem Rs_lf_o : Rs.lf (.own xs) = lfAll xs := rfl
theorem avs_d : avs (.d x) = .d x := rfl
theorem avs_o : avs (.own xs) = .ml xs := rfl
theorem avs_c : avs (.ownD kvs) = .dk kvs := rfl
theorem lf_none : lf .none = true := rfl
theorem lf_bool : lf (.bool x) = true := rfl
theorem lf_int : lf (.int x) = true := rfl
theorem lf_str : lf (.str x) = true := rfl
theorem lf_list : lf (.list x) = false := rfl
theorem lf_tuple : lf (.tuple xs) = lfAll xs := rfl
theorem lfAll_0 : lfAll [] = true := rfl
theorem lfAll_1 : lfAll (x :: xs) = (lf x && lfAll xs) := rfl
theorem drw_1 : drw tsp q ds ρ1 i (some (.tank n)) = (tsp n ds fun m rs => q rs (ρ1.set i (.tank m))) := rfl
theorem drw_2 : drw tsp q ds ρ1 i (some (.ml [.int a, .int b, .int c])) = (∃ n, TankOk a b c n ∧ tsp n ds fun m rs => ∀ a' b' c', TankOk a' b' c' m → q rs (ρ1.set i (.ml [.int a', .int b', .int c']))) := rfl
theorem atI_0 {α : Type} {x : α} {r : List α} : atI (x :: r) 0 = some x := atI_nat (j := 0) rfl
theorem atI_1 {α : Type} {x y : α} {r : List α} : atI (x :: y :: r) 1 = some y := atI_nat (j := 1) rfl
theorem atI_2 {α : Type} {x y z : α} {r : List α} : atI (x :: y :: z :: r) 2 = some z := atI_nat (j := 2) rfl
theorem atI_3 {α : Type} {x y z u : α} {r : List α} : atI (x :: y :: z :: u :: r) 3 = some u := atI_nat (j := 3) rfl
theorem atI_4 {α : Type} {x y z u v : α} {r : List α} : atI (x :: y :: z :: u :: v :: r) 4 = some v := atI_nat (j := 4) rfl
end OS

/-! OSend: from the promise of a law's def, in which repr may run, to the statement's walk. -/
namespace OS
open PySem L2 PySem.Spec PyProof.Rows

section
variable {P : Program} {w : World} {K : PySem.W.Frag} {mg : Str → Option Value} {base : Heap} {x qual : Str} {st : Stmt} {f : Addr} {fd : FuncData} {N ps : List Str} {k : Nat}
theorem fnPG {asp : PSp} (F : Fun K x qual st f fd) (S : FnScope N ps (defScope st)) (ar : ∀ ds q, asp ds q → ds.length = ps.length)
    (body : ∀ (cdv : Value) (A : Around) (outer : List Env) (s : Shared) (H : Hp) (E : XK), Room k (A.deeper (envOfC qual (defScope st) s.heap.objs.size f cdv)) ∧ (A.deeper (envOfC qual (defScope st) s.heap.objs.size f cdv)).guards = some [] →
      ∃ t, ASs (famOf P w K mg base N qual st f cdv A outer s H E) (defBody st) t ∧ ∀ ds q, asp ds q → t (endsP q) (startA N ds)) : FnG P w K mg base (k + 1) f fd ps (cP ⟨K, w, P⟩ asp) := by
  refine Fun.okG F S (fun vs H Q E h => ?_) fun cdv A outer s H vs Q E hr hgd h => ?_
  · obtain ⟨F', ds, q, _, r, a, _⟩ := h
    rw [dpAll_len r]; exact ar ds q a
  · obtain ⟨F', ds, q, hs, r, a, kk⟩ := h
    obtain ⟨t, T, ht⟩ := body cdv A outer s H E ⟨hr, hgd⟩
    obtain ⟨ts, t1, t2⟩ := T.ex
    refine ⟨ts, t1 (), t2 ⟨⟨K, w, P⟩, H, F', none⟩ _ F' _ H _ (endsP q) rfl (sto_startP hs r) (ht ds q a) ?_⟩
    have af : ∀ {ρ' F2 σ' H'}, Sto ⟨⟨K, w, P⟩, H, F', none⟩ ρ' F2 σ' H' → After F' F2 H H' none := fun {ρ' F2 σ' H'} S' => ⟨S'.base, S'.sub, fun b o e _ => S'.keep b o e (by intro z; cases z), S'.fr⟩
    refine ⟨fun ρ' F2 σ' H' S' e hq => ?_, fun _ _ _ _ _ _ z => z.elim, fun _ _ _ _ _ _ z => z.elim, fun d ρ' F2 σ' v H' S' e r hq => ?_, fun xs ρ' F2 σ' p vs H' S' hp e r hq => ?_⟩
    · exact kk (.d .none) .non H' F2 hq (af S') .non
    · exact kk (.d d) v H' F2 hq (af S') r
    · have A1 := af S'
      refine kk (.own xs) (.ref p) H' F2 hq ⟨A1.ff, A1.fh.trans same_del, fun b o e t => same_del _ _ (A1.keep b o e t), A1.fr⟩ ⟨p, vs, rfl, S'.f0 del_same, S'.h0 del_same, hp, r⟩
end
/-- the script alone, frozen, unless it is one of the module's own lists -/
def scrH (K : PySem.W.Frag) (ad : Addr) (u : HO) : Hp := fun b => if b = ad ∧ (K.lookup ad).isNone = true then some u else none
theorem scrH_some {K : PySem.W.Frag} {ad b : Addr} {u o : HO} (h : scrH K ad u b = some o) : b = ad ∧ K.lookup ad = none ∧ o = u := by
  unfold scrH at h
  split at h
  · rename_i c
    exact ⟨c.1, Option.isNone_iff_eq_none.mp c.2, (Option.some.inj h).symm⟩
  · cases h
theorem scrH_no {K : PySem.W.Frag} {ad b : Addr} {u : HO} (h : b = ad → K.lookup ad = none → False) : scrH K ad u b = none := by
  cases z : scrH K ad u b with
  | none => rfl
  | some o => exact (h (scrH_some z).1 (scrH_some z).2.1).elim
theorem dp_ints {K : KW} {F : Hp} : ∀ zs : List Int, DpAll K F (zs.map V.int) (zs.map PyData.int)
  | [] => .nil
  | z :: zs => .cons (.int z) (dp_ints zs)
section
variable {P : Program} {w : World} {K : PySem.W.Frag} {gm bm : Str → Option Value} {k : Nat} {fo ad : Addr} {fd : FuncData} {asp : PSp} {t : Shared} {us : List Value} {zs : List Int}
theorem at_end (hk : K.In t.heap) (hg : t.heap.Ns mainGlobals gm) (hb : t.heap.Ns builtinsNs bm) (hbb : ∀ x : Str, x ≠ "__name__" → bm x = bootBuiltins x) (hl : t.heap.NoLimit) (h0 : t.gens = #[])
    (ha : t.heap.get? ad = some { cls := .type "list", data := .seq us.toArray }) (hi : IntsAre us zs) (hn : zs.length ≤ sizeLine) (hr : Room k callerA)
    (F : ∀ base : Heap, K.In base → base.Ns mainGlobals gm → FnG P w K gm base k fo fd ["script"] (cP ⟨K, w, P⟩ asp)) (hbd : ∀ (s : Shared) (u : Value), BindsTo s fd ⟨[u], []⟩ [("script", u)])
    (hs : asp [.list (zs.map .int)] fun rs => rs = .d (.bool true)) :
    codeAny (model P w) callerA (.call (.ref fo) ⟨[.ref ad], []⟩) (fun r s' => r = .ok (.ret (.bool true)) ∧ OldK t.heap s'.heap ∧ s'.os = t.os ∧ AllBare s'.gens) t := by
  have rv := vals_ints hi
  obtain ⟨u, eu⟩ : ∃ u : HO, u = .frz { cls := .type "list", data := .seq us.toArray } (.lst (zs.map V.int)) := ⟨_, rfl⟩
  obtain ⟨H, eH⟩ : ∃ H : Hp, H = scrH K ad u := ⟨_, rfl⟩
  have off : ∀ b, (b = ad → K.lookup ad = none → False) → H b = none := fun b h => by rw [eH]; exact scrH_no h
  have on : ∀ b o, H b = some o → b = ad ∧ K.lookup ad = none ∧ o = u := fun b o h => scrH_some (by rw [← eH]; exact h)
  have bk : K.In (hidT t.heap H) := fun b o e => hidT_get (hk b o e) (off b fun z n => by rw [z, n] at e; cases e)
  have bn : ∀ {b : Addr} {m : Str → Option Value}, t.heap.Ns b m → (hidT t.heap H).Ns b m := fun {b m} ⟨o, es, ep, e, d, r⟩ =>
    ⟨o, es, ep, hidT_get e (off b fun z _ => by
      rw [z, ha] at e
      cases e
      exact absurd d fun q => by cases q), d, r⟩
  have ok : HOk P w H t.heap := fun b o e => by
    obtain ⟨rfl, _, rfl⟩ := on b o e
    rw [eu]
    exact ⟨ha, by rw [List.length_map]; exact hn, us, _, rv, ha⟩
  have seen : SqL K H ad (zs.map V.int) := by
    cases z : K.lookup ad with
    | some o =>
      have e := hk ad o z
      rw [ha] at e
      cases e
      exact .inr ⟨_, us.toArray, _, z, rfl, rfl, rfl, by rw [List.size_toArray, hi.length]; exact hn, by simpa using rv⟩
    | none => exact .inl (.inr ⟨{ cls := .type "list", data := .seq us.toArray }, by rw [eH, ← eu]; exact if_pos ⟨rfl, by rw [z]; rfl⟩⟩)
  have md : Mod K gm (hidT t.heap H) := ⟨bk, bn hg, ⟨bm, bn hb, hbb⟩, hl.elim fun m h => ⟨m, bn h.1, h.2⟩⟩
  have ev : Env0 P w K gm (hidT t.heap H) callerA [] t H := { frames := rfl, mod := md, bs := fun b o e => of_hidT e, bsz := Nat.le_of_eq (hidT_size _ _), funs := trivial, frf := fun b q => (List.not_mem_nil q).elim, hok := ok, bare := .of_eq h0 }
  have sp : cP ⟨K, w, P⟩ asp [.ref ad] H (fun v _ => v = .bl true) E0 := ⟨H, _, _, Same.refl H, .cons (.lst seen (dp_ints zs)) .nil, hs, fun rs v H' F' e A R => by
    subst e
    cases (show Dp ⟨K, w, P⟩ F' v (.bool true) from R)
    rfl⟩
  refine codeAny_mono ((F _ bk (bn hg)).run callerA [] t H ⟨[.ref ad], []⟩ [.ref ad] [.ref ad] _ _ hr rfl ev (hbd t (.ref ad)) (.cons rfl .nil) sp) fun r s' q => ?_
  match r, q with
  | .error e, q => exact q.elim
  | .ok .next, q => exact q.elim
  | .ok .brk, q => exact q.elim
  | .ok .cont, q => exact q.elim
  | .ok (.ret y), ⟨v, H2, os, bare, un, ok2, ry, qv⟩ =>
    cases (show v = .bl true from qv)
    cases (show y = Value.bool true from ry)
    refine ⟨rfl, OldK.of_keep fun b o e => ?_, os, bare⟩
    match z : H b with
    | none => exact un.keep b o e z (fun q => (List.not_mem_nil q).elim) (fun q => (List.not_mem_nil q).elim)
    | some ob =>
      obtain ⟨rfl, _, rfl⟩ := on b ob z
      rw [eu] at z
      have e2 := (ok2 b _ (un.frzs b _ _ z)).1
      rw [ha] at e
      cases e
      exact e2
end
/-- the case hc of the head, for a law's def in which repr may run, the script's bits told -/
theorem walk_end {l : PySem.W.OpenLaw} {n k : Nat} {q : Program} {loose : List Str} {XP : (Str → Option Value) → Heap → Prop} {YP : World → Heap → Prop} {d : DefRec} {K : Params → PySem.W.Frag} {asp : PSp}
    (hn : l.most = some n) (hn2 : n ≤ sizeLine) (hdf : d.params.defaults = []) (hr : Room k callerA) (hY : ∀ (w : World) (h : Heap), YP w h → (K w.params).In h)
    (F : ∀ (w : World) (gm : Str → Option Value) (fo : Addr) (h : Heap), (K w.params).In h → h.Ns mainGlobals gm → gm d.name = some (.ref fo) →
      ∃ fd : FuncData, (∀ (s : Shared) (u : Value), BindsTo s fd ⟨[u], []⟩ [("script", u)]) ∧ ∀ base : Heap, (K w.params).In base → base.Ns mainGlobals gm → FnG l.prog w (K w.params) gm base k fo fd ["script"] (cP ⟨K w.params, w, l.prog⟩ asp))
    (hs : ∀ zs : List Int, zs.length ≤ n → (∀ z ∈ zs, Builtin.Int.intBits z ≤ 1048576) → asp [.list (zs.map .int)] fun rs => rs = .d (.bool true)) :
    PySem.W.WalkO q loose XP YP l.row.toRowW d [] (fun f vs => PySem.call f vs) :=
  Att.attach_callB hn hdf fun w s₀ t gm bm fo o pm cd doc ad us zs G Y ho hd hcd hmg hobj hints hlen hbits h0 =>
    (F w gm fo _ (hY w _ Y) G.T.g hmg).elim fun fd hF => at_end (hY w _ Y) G.T.g G.T.b G.T.builtins G.T.nolimit h0 hobj hints (Nat.le_trans hlen hn2) hr hF.2 hF.1 (hs zs hlen hbits)
end OS

/-! OSq: plain lemmas: turns of loops, typed dicts, sayings that the checker lets through. -/
namespace OS
open PySem L2

def LET : Str := "abcdefghijklmnopqrstuvwxyz"
def Nm (s : Str) : Prop := 1 ≤ s.length ∧ s.length ≤ 8 ∧ ∀ c ∈ s.cps.toList, c ∈ LET.cps.toList
def dL (p : Str × Bool) : PyData := .tuple [.str p.1, .bool p.2]
def dC (c : List (Str × Bool)) : PyData := .tuple (c.map dL)
def dO (p : Str × List Str) : PyData := .tuple [.str p.1, .tuple (p.2.map .str)]
def dSay (p : List Str) (o : List (Str × List Str)) (c : List (List (Str × Bool))) : PyData := .tuple [.tuple (p.map .str), .tuple (o.map dO), .tuple (c.map dC)]
theorem get_map {α : Type} {xs : List α} {f : α → PyData} {i : Nat} {d : PyData} (h : (xs.map f)[i]? = some d) : ∃ x ∈ xs, d = f x := by
  rw [List.getElem?_map] at h
  obtain ⟨x, hx, rfl⟩ := Option.map_eq_some_iff.mp h
  exact ⟨x, List.mem_of_getElem? hx, rfl⟩
theorem ex_x {α : Type} {xs : List α} {g : α → PyData} {ρ : List AV} {B : (Nat → List PyData → List AV → Prop) → Nat → PyData → List PyData → List AV → Prop} {q : List PyData → List AV → Prop} (f : α → Option PyData)
    (turn : ∀ (I : Nat → List PyData → List AV → Prop) i x acc, x ∈ xs → (∀ y, f x = some y → I (i + 1) (acc ++ [y]) ρ) → (f x = none → I (i + 1) acc ρ) → B I i (g x) acc ρ) (fin : q (xs.filterMap f) ρ) :
    ∃ I : Nat → List PyData → List AV → Prop, I 0 [] ρ ∧ (∀ i d acc ρ2, (xs.map g)[i]? = some d → I i acc ρ2 → B I i d acc ρ2) ∧ ∀ acc ρ2, I (xs.map g).length acc ρ2 → q acc ρ2 := by
  refine ⟨fun i acc ρ2 => ρ2 = ρ ∧ acc = (xs.take i).filterMap f, ⟨rfl, rfl⟩, fun i d acc ρ2 hd ⟨e1, e2⟩ => ?_, fun acc ρ2 ⟨e1, e2⟩ => ?_⟩
  · subst e1 e2
    rw [List.getElem?_map] at hd
    obtain ⟨x, hx, rfl⟩ := Option.map_eq_some_iff.mp hd
    have tk : xs.take (i + 1) = xs.take i ++ [x] := by rw [List.take_succ, hx]; rfl
    refine turn _ i x _ (List.mem_of_getElem? hx) (fun y hy => ⟨rfl, ?_⟩) fun hn => ⟨rfl, ?_⟩
    · rw [tk, List.filterMap_append]; simp [hy]
    · rw [tk, List.filterMap_append]; simp [hn]
  · subst e1 e2
    rw [List.length_map, List.take_length]
    exact fin
theorem ex_xm {α : Type} {xs : List α} {g : α → PyData} {ρ : List AV} {B : (Nat → List PyData → List AV → Prop) → Nat → PyData → List PyData → List AV → Prop} {q : List PyData → List AV → Prop} (f : α → PyData)
    (turn : ∀ (I : Nat → List PyData → List AV → Prop) i x acc, x ∈ xs → I (i + 1) (acc ++ [f x]) ρ → B I i (g x) acc ρ) (fin : q (xs.map f) ρ) :
    ∃ I : Nat → List PyData → List AV → Prop, I 0 [] ρ ∧ (∀ i d acc ρ2, (xs.map g)[i]? = some d → I i acc ρ2 → B I i d acc ρ2) ∧ ∀ acc ρ2, I (xs.map g).length acc ρ2 → q acc ρ2 := by
  refine ex_x (fun x => some (f x)) (fun I i x acc hx h _ => turn I i x acc hx (h _ rfl)) ?_
  have e : (xs.filterMap fun x => some (f x)) = xs.map f := congrFun (List.filterMap_eq_map (f := f)) xs
  rw [e]
  exact fin
theorem any_str {s : Str} {ss : List Str} : ((ss.map PyData.str).any fun y => eqFlat y (.str s)) = decide (s ∈ ss) := by
  rw [List.any_map]
  induction ss with
  | nil => rfl
  | cons a as ih =>
    rw [List.any_cons, ih]
    by_cases e : a = s
    · subst e; simp [eqFlat]
    · have e' : ¬s = a := fun z => e z.symm
      simp [eqFlat, e, e']
theorem flat_str {ss : List Str} : (ss.map PyData.str).all flatD = true := by rw [List.all_map]; simp [flatD]
theorem lf_map {α : Type} {g : α → PyData} (h : ∀ x, lf (g x) = true) : ∀ {xs : List α}, lfAll (xs.map g) = true
  | [] => rfl
  | x :: xs => by rw [List.map_cons]; unfold lfAll; rw [h x, lf_map h (xs := xs)]; rfl
theorem lf_strs {ss : List Str} : lfAll (ss.map .str) = true := lf_map fun _ => rfl
/-- A saying that the checker lets through. -/
structure SayOk (p : List Str) (o : List (Str × List Str)) (c : List (List (Str × Bool))) : Prop where
  pn : ∀ s ∈ p, Nm s
  pa : Asc (p.map .str)
  pl : p.length ≤ 6
  oo : ∀ x ∈ o, Nm x.1 ∧ x.1 ∉ p ∧ (∀ s ∈ x.2, Nm s ∧ s ∈ p) ∧ Asc (x.2.map .str) ∧ x.2.length ≤ 6
  ol : o.length ≤ 8
  oa : Asc (o.map fun x => .str x.1)
  om : (o.map fun x => (2 : Int) ^ x.2.length).sum ≤ 120
  cl : c.length ≤ 40
  ca : Asc (c.map dC)
  cc : ∀ x ∈ c, (∀ y ∈ x, Nm y.1 ∧ y.1 ∈ p ++ o.map (·.1)) ∧ Asc (x.map fun y => .str y.1) ∧ x.length ≤ 14
def ownB (o : List (Str × List Str)) (y : Str × Bool) : Bool := decide (y.1 ∈ o.map (·.1))
def pl1 (o : List (Str × List Str)) (x : List (Str × Bool)) : Bool := decide ((x.filter fun y => ownB o y && y.2).length ≤ 1)
def tw1 (o : List (Str × List Str)) (x : List (Str × Bool)) : Bool := decide (1 ≤ (x.filter (ownB o)).length) && decide ((x.filter (ownB o)).length ≤ 2)
def plainB (o : List (Str × List Str)) (c : List (List (Str × Bool))) : Bool := c.all (pl1 o)
def twosB (o : List (Str × List Str)) (c : List (List (Str × Bool))) : Bool := c.all (tw1 o)
theorem map_at {α : Type} {xs : List α} {f : α → PyData} {i : Nat} {d : PyData} (h : (xs.map f)[i]? = some d) : ∃ x, xs[i]? = some x ∧ x ∈ xs ∧ d = f x ∧ xs.take (i + 1) = xs.take i ++ [x] := by
  rw [List.getElem?_map] at h
  obtain ⟨x, hx, rfl⟩ := Option.map_eq_some_iff.mp h
  exact ⟨x, hx, List.mem_of_getElem? hx, rfl, by rw [List.take_succ, hx]; rfl⟩
theorem atI_z {xs : List PyData} {z : Int} (h0 : 0 ≤ z) (h1 : z < xs.length) : ∃ x ∈ xs, atI xs z = some x := by
  obtain ⟨k, rfl⟩ := Int.eq_ofNat_of_zero_le h0
  have hk : k < xs.length := by omega
  exact ⟨xs[k], List.getElem_mem hk, atI_nat (List.getElem?_eq_getElem hk)⟩
theorem ex_j {ds : List PyData} {ρ : List AV} {B : (Nat → List PyData → List AV → Prop) → Nat → PyData → List PyData → List AV → Prop} {q : List PyData → List AV → Prop} (J : Nat → List PyData → List AV → Prop) (h0 : J 0 [] ρ)
    (turn : ∀ I : Nat → List PyData → List AV → Prop, (∀ i acc ρ2, J i acc ρ2 → I i acc ρ2) → ∀ i d acc ρ2, ds[i]? = some d → J i acc ρ2 → B I i d acc ρ2) (fin : ∀ acc ρ2, J ds.length acc ρ2 → q acc ρ2) :
    ∃ I : Nat → List PyData → List AV → Prop, I 0 [] ρ ∧ (∀ i d acc ρ2, ds[i]? = some d → I i acc ρ2 → B I i d acc ρ2) ∧ ∀ acc ρ2, I ds.length acc ρ2 → q acc ρ2 := ⟨J, h0, turn J fun _ _ _ h => h, fin⟩
theorem ex_f {ds : List PyData} {ρ : List AV} {B : (Nat → List AV → Prop) → Nat → PyData → List AV → Prop} {q : List AV → Prop} (J : Nat → List AV → Prop) (h0 : J 0 ρ)
    (turn : ∀ I : Nat → List AV → Prop, (∀ i ρ2, J i ρ2 → I i ρ2) → ∀ i d ρ2, ds[i]? = some d → J i ρ2 → B I i d ρ2) (fin : ∀ ρ2, J ds.length ρ2 → q ρ2) :
    ∃ I : Nat → List AV → Prop, I 0 ρ ∧ (∀ i d ρ2, ds[i]? = some d → I i ρ2 → B I i d ρ2) ∧ ∀ ρ2, I ds.length ρ2 → q ρ2 := ⟨J, h0, turn J fun _ _ h => h, fin⟩
theorem erase_map {α β : Type} {f : α → β} : ∀ {xs : List α} {k : Nat}, (xs.map f).eraseIdx k = (xs.eraseIdx k).map f
  | [], _ => rfl
  | x :: xs, 0 => rfl
  | x :: xs, k + 1 => congrArg (f x :: ·) (erase_map (xs := xs) (k := k))
theorem pop_perm {α : Type} {xs : List α} {k : Nat} {x : α} (h : xs[k]? = some x) : (x :: xs.eraseIdx k).Perm xs := by
  obtain ⟨l, rfl⟩ := List.getElem?_eq_some_iff.mp h
  rw [List.eraseIdx_eq_take_drop_succ]
  refine List.perm_middle.symm.trans ?_
  rw [← List.drop_eq_getElem_cons l, List.take_append_drop]
/-- what a pop by a number drawn does -/
theorem pop_z {α : Type} {xs : List α} {f : α → PyData} {z : Int} (z0 : 0 ≤ z) (z1 : z < (xs.map f).length) : ∃ k x, ixN (xs.map f).length z = some k ∧ (xs.map f)[k]? = some (f x) ∧ (xs.map f).eraseIdx k = (xs.eraseIdx k).map f ∧ (x :: xs.eraseIdx k).Perm xs := by
  obtain ⟨k, rfl⟩ := Int.eq_ofNat_of_zero_le z0
  have hk : k < xs.length := by rw [List.length_map] at z1; omega
  exact ⟨k, xs[k], Evl.ixN_nat (by rw [List.length_map]; exact hk), by rw [List.getElem?_map, List.getElem?_eq_getElem hk]; rfl, erase_map, pop_perm (List.getElem?_eq_getElem hk)⟩
/-- A clause over these names. -/
structure ClOk (names : List Str) (x : List (Str × Bool)) : Prop where
  mem : ∀ y ∈ x, y.1 ∈ names
  asc : x.Pairwise fun a b => PySem.W.DatumOrd.lt a.1 b.1 = true
open PySem.W in
theorem sort_letters {names : List Str} {ys : List (Str × Bool)} (hn : (ys.map (·.1)).Nodup) (hm : ∀ y ∈ ys, y.1 ∈ names) : SrtOk (ys.map dL) ∧ ∀ zs, Srt (ys.map dL) zs → ∃ c, zs = c.map dL ∧ ClOk names c ∧ c.length = ys.length := by
  have e : ys.map dL = ys.map Datum.toD := List.map_congr_left fun _ _ => rfl
  have tt : ∀ d ∈ ys.map Datum.toD, ∃ xs, d = PyData.tuple xs := fun d hd => by
    obtain ⟨a, _, rfl⟩ := List.mem_map.mp hd
    exact ⟨_, rfl⟩
  refine ⟨by rw [e]; exact ⟨alike_typed ys, Or.inr tt, depth_typed (by decide) ys⟩, fun zs h => ?_⟩
  · rw [e] at h
    obtain ⟨c, rfl, p, w⟩ := srt_typed h
    refine ⟨c, List.map_congr_left fun _ _ => rfl, ⟨fun y hy => hm y (p.mem_iff.mp hy), ?_⟩, p.length_eq⟩
    have n2 : c.Pairwise fun a b => a.1 ≠ b.1 := List.pairwise_map.mp ((p.map Prod.fst).nodup_iff.mpr hn)
    refine (w.and n2).imp fun {a b} ⟨h1, h2⟩ => ?_
    have h3 : DatumOrd.lt b.1 a.1 = false := by
      have h1' : (if b.1 = a.1 then DatumOrd.lt b.2 a.2 else DatumOrd.lt b.1 a.1) = false := h1
      rw [if_neg fun z => h2 z.symm] at h1'
      exact h1'
    cases z : DatumOrd.lt a.1 b.1 with
    | true => rfl
    | false => exact absurd (lt_tot z h3) h2
/-- what was taken out of different names -/
theorem part_nodup {names ys r : List Str} (h : (ys ++ r).Perm names) (n : names.Nodup) : ys.Nodup ∧ (∀ y ∈ ys, y ∈ names) ∧ ys.length ≤ names.length := by
  have := h.nodup_iff.mpr n
  refine ⟨(List.nodup_append.mp this).1, fun y hy => h.mem_iff.mp (List.mem_append_left _ hy), ?_⟩
  have := h.length_eq
  rw [List.length_append] at this
  omega
theorem min_T {z : Int} (h : 0 ≤ z) (n : Nat) : ∃ T : Nat, (if z < (n : Int) then z else (n : Int)) = T ∧ T ≤ n := by
  split
  · exact ⟨z.toNat, by omega, by omega⟩
  · exact ⟨n, rfl, Nat.le_refl _⟩
theorem cut_from {α : Type} {xs : List α} {f : α → PyData} {k : Nat} : cutD (xs.map f) (some (k : Int)) none = (xs.drop k).map f := by
  unfold cutD
  rw [HT.sIx_nat, HT.sIx_none, List.length_map, List.take_of_length_le (by rw [List.length_drop, List.length_map]; omega), ← List.map_drop]
  by_cases h : k ≤ xs.length
  · rw [Nat.min_eq_left h]
  · rw [Nat.min_eq_right (by omega), List.drop_of_length_le (Nat.le_refl _), List.drop_of_length_le (by omega)]
theorem cut_to {α : Type} {xs : List α} {f : α → PyData} {k : Nat} : cutD (xs.map f) none (some (k : Int)) = (xs.take k).map f := by
  unfold cutD
  rw [HT.sIx_nat, HT.sIx_none, List.length_map, Nat.sub_zero, List.drop_zero, ← List.map_take]
  by_cases h : k ≤ xs.length
  · rw [Nat.min_eq_left h]
  · rw [Nat.min_eq_right (by omega), List.take_of_length_le (Nat.le_refl _), List.take_of_length_le (by omega)]
theorem keys_dL : ∀ c : List (Str × Bool), ∃ ks, keyOfAll (c.map dL) = some ks ∧ NestedKey.depthAll ks ≤ 1
  | [] => ⟨[], rfl, by decide⟩
  | p :: c => by
    obtain ⟨ks, h1, h2⟩ := keys_dL c
    refine ⟨.tup [.text p.1, .num (if p.2 = true then 1 else 0)] :: ks, ?_, ?_⟩
    · rw [List.map_cons]
      show (match keyOf (dL p), keyOfAll (c.map dL) with
        | some k, some ks => some (k :: ks)
        | _, _ => Option.none) = _
      rw [h1]
      rfl
    · simp only [NestedKey.depthAll, NestedKey.depth]
      omega
theorem key_dC (c : List (Str × Bool)) : ∃ ys k, dC c = .tuple ys ∧ keyOf (dC c) = some k ∧ k.depth ≤ 8 := by
  obtain ⟨ks, h1, h2⟩ := keys_dL c
  refine ⟨_, .tup ks, rfl, ?_, ?_⟩
  · show (keyOfAll (c.map dL)).map NestedKey.tup = _
    rw [h1]; rfl
  · simp only [NestedKey.depth]
    omega
theorem nm_ok {s : Str} (h : Nm s) : PyData.strOk s = true := by
  unfold PyData.strOk
  rw [Array.all_eq_true']
  intro c hc
  have h1 := h.2.2 c (Array.mem_toList_iff.mpr hc)
  have h2 : ∀ c ∈ LET.cps.toList, c < 1114112 := by decide +kernel
  exact decide_eq_true (h2 c h1)
theorem lay_dL {names : List Str} (hn : ∀ s ∈ names, Nm s) : ∀ {c : List (Str × Bool)}, (∀ y ∈ c, y.1 ∈ names) → PyData.canLayAll0 (c.map dL) = true ∧ PyData.depthAll (c.map dL) ≤ 1
  | [], _ => ⟨rfl, by decide⟩
  | p :: c, h => by
    obtain ⟨h1, h2⟩ := lay_dL hn (c := c) fun y hy => h y (.tail _ hy)
    have l1 : (dL p).canLay0 = true := by simp only [dL, PyData.canLay0, PyData.canLayAll0, nm_ok (hn _ (h p (.head _))), Bool.and_self]
    have l2 : (dL p).depth ≤ 1 := by simp only [dL, PyData.depth, PyData.depthAll]; omega
    rw [List.map_cons]
    exact ⟨by rw [PyData.canLayAll0, h1, l1]; rfl, by rw [PyData.depthAll]; omega⟩
theorem lay_dC {names : List Str} (hn : ∀ s ∈ names, Nm s) : ∀ {cs : List (List (Str × Bool))}, (∀ c ∈ cs, ClOk names c) → PyData.canLayAll0 (cs.map dC) = true ∧ PyData.depthAll (cs.map dC) ≤ 2
  | [], _ => ⟨rfl, by decide⟩
  | c :: cs, h => by
    obtain ⟨h1, h2⟩ := lay_dC hn (cs := cs) fun y hy => h y (.tail _ hy)
    obtain ⟨h3, h4⟩ := lay_dL hn (h c (.head _)).mem
    have l1 : (dC c).canLay0 = true := by simp only [dC, PyData.canLay0, h3]
    have l2 : (dC c).depth ≤ 2 := by simp only [dC, PyData.depth]; omega
    rw [List.map_cons]
    exact ⟨by rw [PyData.canLayAll0, h1, l1]; rfl, by rw [PyData.depthAll]; omega⟩
theorem shaped_dC {names : List Str} (hn : ∀ s ∈ names, Nm s) {cs : List (List (Str × Bool))} (h : ∀ c ∈ cs, ClOk names c) : SeqAt.shaped (.list (cs.map dC)) = true := by
  obtain ⟨h1, h2⟩ := lay_dC hn h
  have h3 : PyData.depth (.list (cs.map dC)) ≤ 64 := by simp only [PyData.depth]; omega
  show (PyData.canLay0 (.list (cs.map dC)) && decide (PyData.depth (.list (cs.map dC)) ≤ 64)) = true
  rw [Bool.and_eq_true]
  exact ⟨by simp only [PyData.canLay0]; exact h1, decide_eq_true h3⟩
theorem nodup_le {α : Type} : ∀ {l m : List α}, l.Nodup → (∀ x ∈ l, x ∈ m) → l.length ≤ m.length
  | [], _, _, _ => Nat.zero_le _
  | a :: l, m, n, h => by
    obtain ⟨s, t, rfl⟩ := List.append_of_mem (h a (.head _))
    have n2 := List.nodup_cons.mp n
    have := nodup_le (l := l) (m := s ++ t) n2.2 fun x hx => by
      have := h x (.tail _ hx)
      rw [List.mem_append, List.mem_cons] at this
      rw [List.mem_append]
      rcases this with z | z | z
      · exact .inl z
      · exact absurd (z ▸ hx) n2.1
      · exact .inr z
    rw [List.length_append] at this
    rw [List.length_append, List.length_cons, List.length_cons]
    omega
open PySem.W in
theorem sort_clauses {cs : List (List (Str × Bool))} {ys : List PyData} (h : SSet (cs.map dC) ys) : ∃ c : List (List (Str × Bool)), ys = c.map dC ∧ (∀ x ∈ c, x ∈ cs) ∧ c.length ≤ cs.length ∧ (c.map Tup.mk).Pairwise fun a b => DatumOrd.lt a b = true := by
  have e : cs.map dC = (cs.map Tup.mk).map Datum.toD := by rw [List.map_map]; rfl
  rw [e] at h
  obtain ⟨zs, rfl, h1, h2, _⟩ := sset_typed h
  have ez : (zs.map Tup.items).map Tup.mk = zs := by rw [List.map_map]; exact List.map_id _
  have hm : ∀ x ∈ zs.map Tup.items, x ∈ cs := fun x hx => by
    obtain ⟨z, hz, rfl⟩ := List.mem_map.mp hx
    obtain ⟨y, hy, rfl⟩ := List.mem_map.mp (h1 z hz)
    exact hy
  refine ⟨zs.map Tup.items, by rw [List.map_map]; rfl, hm, ?_, by rw [ez]; exact h2⟩
  have n1 : zs.Nodup := h2.imp fun {a b} z e => by rw [e, lt_irr] at z; cases z
  have := nodup_le n1 h1
  rw [List.length_map] at this
  rw [List.length_map]
  exact this
open PySem.W in
theorem ok_clauses (cs : List (List (Str × Bool))) : AllAlike (cs.map dC) ∧ ∀ d ∈ cs.map dC, d.depth ≤ 64 := by
  have e : cs.map dC = (cs.map Tup.mk).map Datum.toD := by rw [List.map_map]; rfl
  rw [e]
  exact ⟨alike_typed _, depth_typed (by decide) _⟩
theorem lf_dC (c : List (Str × Bool)) : lf (dC c) = true := by
  show lfAll (c.map dL) = true
  exact lf_map fun y => by unfold dL; simp only [lf, lfAll, Bool.and_self]
def ltr (c : Nat) : Str := ⟨#[c]⟩
def LS : List Str := LET.cps.toList.map ltr
def NM0 : List Str := ["a", "b", "ab", "ba", "x", "xy", "xyz", "q", "qq", "abcdefgh", "abcdefgi", "m", "z", "k", "aa", "yes"]
theorem signs_LS : signs LET = LS.map .str := by unfold signs LS; rw [List.map_map]; rfl
theorem nm0_ok : NM0.Nodup ∧ ∀ s ∈ NM0, Nm s := ⟨by decide +kernel, by unfold Nm; decide +kernel⟩
theorem str_len (a b : Str) : (a ++ b).length = a.length + b.length := by
  show (a.cps ++ b.cps).size = _
  rw [Array.size_append]; rfl
theorem str_mem {a b : Str} {c : Nat} (h : c ∈ (a ++ b).cps.toList) : c ∈ a.cps.toList ∨ c ∈ b.cps.toList := by
  have h' : c ∈ (a.cps ++ b.cps).toList := h
  rw [Array.toList_append] at h'
  exact List.mem_append.mp h'
def Wrd (k : Nat) (w : Str) : Prop := w.length ≤ k ∧ ∀ c ∈ w.cps.toList, c ∈ LET.cps.toList
theorem ls_ok {s : Str} (h : s ∈ LS) : s.length = 1 ∧ ∀ c ∈ s.cps.toList, c ∈ LET.cps.toList := by
  obtain ⟨c, hc, rfl⟩ := List.mem_map.mp h
  refine ⟨rfl, fun d hd => ?_⟩
  cases List.mem_singleton.mp (show d ∈ [c] from hd)
  exact hc
theorem word_ok : ∀ {ys : List Str}, (∀ y ∈ ys, y ∈ LS) → Wrd ys.length (Str.join "" ys)
  | [], _ => ⟨Nat.le_refl _, fun c h => by cases (show c ∈ ([] : List Nat) from h)⟩
  | [y], h => ⟨by have := (ls_ok (h y (.head _))).1; show y.length ≤ 1; omega, (ls_ok (h y (.head _))).2⟩
  | y :: z :: r, h => by
    obtain ⟨h1, h2⟩ := word_ok (ys := z :: r) fun x hx => h x (.tail _ hx)
    obtain ⟨g1, g2⟩ := ls_ok (h y (.head _))
    have e : Str.join "" (y :: z :: r) = y ++ "" ++ Str.join "" (z :: r) := rfl
    rw [e]
    have e0 : ("" : Str).length = 0 := rfl
    refine ⟨by rw [str_len, str_len, e0, g1, List.length_cons]; omega, fun c hc => ?_⟩
    rcases str_mem hc with h3 | h3
    · rcases str_mem h3 with h4 | h4
      · exact g2 c h4
      · cases (show c ∈ ([] : List Nat) from h4)
    · exact h2 c h3
theorem word_sum : ∀ {ys : List Str}, (∀ y ∈ ys, y ∈ LS) → (ys.map fun x => x.length).sum = ys.length
  | [], _ => rfl
  | y :: ys, h => by
    rw [List.map_cons, List.sum_cons, (ls_ok (h y (.head _))).1, word_sum fun x hx => h x (.tail _ hx), List.length_cons]
    omega
theorem after_ok {w : Str} (h : Wrd 7 w) : (LS.map (w ++ ·)).Nodup ∧ (∀ s ∈ LS.map (w ++ ·), Nm s) ∧ (LS.map (· ++ w)).Nodup ∧ ∀ s ∈ LS.map (· ++ w), Nm s := by
  have n0 : LS.Nodup := by decide +kernel
  refine ⟨?_, fun s hs => ?_, ?_, fun s hs => ?_⟩
  · refine List.pairwise_map.mpr (n0.imp fun {a b} ne e => ne ?_)
    have e' : w.cps ++ a.cps = w.cps ++ b.cps := congrArg Str.cps e
    have := (Array.append_right_inj (xs := w.cps)).mp e'
    cases a; cases b; cases this; rfl
  · obtain ⟨y, hy, rfl⟩ := List.mem_map.mp hs
    obtain ⟨g1, g2⟩ := ls_ok hy
    have := h.1
    exact ⟨by rw [str_len]; omega, by rw [str_len]; omega, fun c hc => (str_mem hc).elim (h.2 c) (g2 c)⟩
  · refine List.pairwise_map.mpr (n0.imp fun {a b} ne e => ne ?_)
    have e' : a.cps ++ w.cps = b.cps ++ w.cps := congrArg Str.cps e
    have := (Array.append_left_inj (ys := w.cps)).mp e'
    cases a; cases b; cases this; rfl
  · obtain ⟨y, hy, rfl⟩ := List.mem_map.mp hs
    obtain ⟨g1, g2⟩ := ls_ok hy
    have := h.1
    exact ⟨by rw [str_len]; omega, by rw [str_len]; omega, fun c hc => (str_mem hc).elim (g2 c) (h.2 c)⟩
open PySem.W in
theorem sort_strs {ss : List Str} (hn : ss.Nodup) : SrtOk (ss.map .str) ∧ ∀ zs, Srt (ss.map .str) zs → ∃ p : List Str, zs = p.map .str ∧ p.Perm ss ∧ p.Pairwise fun a b => DatumOrd.lt a b = true := by
  have e : ss.map PyData.str = ss.map Datum.toD := List.map_congr_left fun _ _ => rfl
  refine ⟨⟨by rw [e]; exact alike_typed ss, Or.inl (Sortable.others fun b => ⟨fun h => (by cases h), fun xs h => (by cases h)⟩), by rw [e]; exact depth_typed (by decide) ss⟩, fun zs h => ?_⟩
  rw [e] at h
  obtain ⟨p, rfl, p1, w⟩ := srt_typed h
  exact ⟨p, List.map_congr_left fun _ _ => rfl, p1, srt_strict w (p1.nodup_iff.mpr hn)⟩
theorem enum_at {α : Type} {xs : List α} {f : α → PyData} {i : Nat} {d : PyData} (h : (enumD (xs.map f))[i]? = some d) : ∃ x, xs[i]? = some x ∧ d = .tuple [.int (i : Int), f x] ∧ i < xs.length ∧ xs.take (i + 1) = xs.take i ++ [x] := by
  unfold enumD at h
  rw [List.getElem?_mapIdx, List.getElem?_map] at h
  obtain ⟨y, hy, rfl⟩ := Option.map_eq_some_iff.mp h
  obtain ⟨x, hx, rfl⟩ := Option.map_eq_some_iff.mp hy
  exact ⟨x, hx, rfl, (List.getElem?_eq_some_iff.mp hx).1, by rw [List.take_succ, hx]; rfl⟩
theorem enum_len (ds : List PyData) : (enumD ds).length = ds.length := by unfold enumD; rw [List.length_mapIdx]
theorem ex_w {ρ : List AV} {B : (Nat → List AV → Prop) → Nat → List AV → Prop} (J : Nat → List AV → Prop) (h0 : ∃ m, J m ρ) (turn : ∀ I : Nat → List AV → Prop, (∀ m ρ, J m ρ → I m ρ) → ∀ m ρ, J m ρ → B I m ρ) :
    ∃ I : Nat → List AV → Prop, (∃ m, I m ρ) ∧ ∀ m ρ, I m ρ → B I m ρ := ⟨J, h0, turn J fun _ _ h => h⟩
open PyProof.Rows PySem.SeqAt in
theorem sh_all {B : Nat} : ∀ {xs : List PyData}, (∀ d ∈ xs, d.shown.length ≤ B) → piled (PyData.shownAll xs) ≤ xs.length * (B + 2)
  | [], _ => by simp [PyData.shownAll, piled]
  | x :: xs, h => by
    have h1 := h x (.head _)
    have h2 := sh_all (xs := xs) fun d hd => h d (.tail _ hd)
    rw [PyData.shownAll]
    have e : piled (PyData.shown x :: PyData.shownAll xs) = (PyData.shown x).length + 2 + piled (PyData.shownAll xs) := by simp [piled]
    rw [e, List.length_cons, Nat.add_mul]
    omega
theorem sh_tup {xs : List PyData} {B n : Nat} (h : ∀ d ∈ xs, d.shown.length ≤ B) (hn : xs.length ≤ n) : (PyData.tuple xs).shown.length ≤ n * (B + 2) + 2 := by
  have h1 := sh_all h
  have h2 := Nat.mul_le_mul_right (B + 2) hn
  rw [PyData.shown]
  exact Nat.le_trans (fmt_text _) (by omega)
theorem sh_nm {s : Str} (h : Nm s) : (PyData.str s).shown.length ≤ 82 := by
  rw [PyData.shown]
  have h2 : ∀ c ∈ LET.cps.toList, c < 16 ^ 8 := by decide +kernel
  have := StrLaws.reprText_len s fun c hc => h2 c (h.2.2 c hc)
  have := h.2.1
  omega
theorem show_map {α : Type} {g : α → PyData} (h : ∀ x, (g x).showable = true ∧ (g x).hasDict = false) : ∀ xs : List α, PyData.showableAll (xs.map g) = true ∧ PyData.hasDictAll (xs.map g) = false
  | [] => ⟨rfl, rfl⟩
  | x :: xs => by
    obtain ⟨h1, h2⟩ := show_map h xs
    rw [List.map_cons]
    exact ⟨by rw [PyData.showableAll, (h x).1, h1]; rfl, by rw [PyData.hasDictAll, (h x).2, h2]; rfl⟩
theorem dep_map {α : Type} {g : α → PyData} {B : Nat} (h : ∀ x, (g x).depth ≤ B) : ∀ xs : List α, PyData.depthAll (xs.map g) ≤ B
  | [] => Nat.zero_le _
  | x :: xs => by
    have h1 := dep_map h xs
    have h2 := h x
    rw [List.map_cons, PyData.depthAll]
    omega
theorem say_show (p : List Str) (o : List (Str × List Str)) (c : List (List (Str × Bool))) : (dSay p o c).showable = true ∧ (dSay p o c).hasDict = false ∧ (dSay p o c).depth ≤ 64 := by
  have s1 : ∀ ss : List Str, (PyData.tuple (ss.map .str)).showable = true ∧ (PyData.tuple (ss.map .str)).hasDict = false := fun ss => by
    have := show_map (g := PyData.str) (fun _ => ⟨rfl, rfl⟩) ss
    exact ⟨by rw [PyData.showable]; exact this.1, by rw [PyData.hasDict]; exact this.2⟩
  have d1 : ∀ ss : List Str, (PyData.tuple (ss.map .str)).depth ≤ 1 := fun ss => by
    have := dep_map (g := PyData.str) (B := 0) (fun _ => Nat.le_refl _) ss
    rw [PyData.depth]; omega
  have s2 : ∀ x : Str × List Str, (dO x).showable = true ∧ (dO x).hasDict = false := fun x => by
    obtain ⟨a, b⟩ := s1 x.2
    unfold dO
    exact ⟨by simp only [PyData.showable, PyData.showableAll] at a ⊢; rw [a]; rfl, by simp only [PyData.hasDict, PyData.hasDictAll] at b ⊢; rw [b]; rfl⟩
  have d2 : ∀ x : Str × List Str, (dO x).depth ≤ 2 := fun x => by
    have := d1 x.2
    unfold dO
    simp only [PyData.depth, PyData.depthAll] at this ⊢
    omega
  have s3 : ∀ x : Str × Bool, (dL x).showable = true ∧ (dL x).hasDict = false := fun x => by
    unfold dL
    exact ⟨by simp only [PyData.showable, PyData.showableAll, Bool.and_self], by simp only [PyData.hasDict, PyData.hasDictAll, Bool.or_self]⟩
  have d3 : ∀ x : Str × Bool, (dL x).depth ≤ 1 := fun x => by
    unfold dL
    simp only [PyData.depth, PyData.depthAll]
    omega
  have s4 : ∀ x : List (Str × Bool), (dC x).showable = true ∧ (dC x).hasDict = false := fun x => by
    have := show_map s3 x
    unfold dC
    exact ⟨by rw [PyData.showable]; exact this.1, by rw [PyData.hasDict]; exact this.2⟩
  have d4 : ∀ x : List (Str × Bool), (dC x).depth ≤ 2 := fun x => by
    have := dep_map d3 x
    unfold dC
    rw [PyData.depth]; omega
  have a1 := s1 p
  have a2 := show_map s2 o
  have a3 := show_map s4 c
  have b1 := d1 p
  have b2 := dep_map d2 o
  have b3 := dep_map d4 c
  unfold dSay
  refine ⟨?_, ?_, ?_⟩
  · have := a1.1
    simp only [PyData.showable, PyData.showableAll] at this ⊢
    rw [this, a2.1, a3.1]; rfl
  · have := a1.2
    simp only [PyData.hasDict, PyData.hasDictAll] at this ⊢
    rw [this, a2.2, a3.2]; rfl
  · simp only [PyData.depth, PyData.depthAll] at b1 ⊢
    omega
theorem say_repr {p : List Str} {o : List (Str × List Str)} {c : List (List (Str × Bool))} (ok : SayOk p o c) {q : Rs → Prop} (hq : q (.d (.str (dSay p o c).shown))) : sRepr [dSay p o c] q := by
  obtain ⟨h1, h2, h3⟩ := say_show p o c
  refine ⟨_, rfl, .inl ⟨⟨_, .inr rfl⟩, h1, h2, h3⟩, ?_, hq⟩
  have t1 : (PyData.tuple (p.map .str)).shown.length ≤ 6 * 84 + 2 := sh_tup (fun d hd => by
    obtain ⟨s, hs, rfl⟩ := List.mem_map.mp hd
    exact sh_nm (ok.pn s hs)) (by rw [List.length_map]; exact ok.pl)
  have t2 : (PyData.tuple (o.map dO)).shown.length ≤ 8 * 1200 + 2 := sh_tup (B := 1198) (fun d hd => by
    obtain ⟨x, hx, rfl⟩ := List.mem_map.mp hd
    have z := ok.oo x hx
    refine Nat.le_trans (sh_tup (B := 506) (n := 2) (fun d hd => ?_) (Nat.le_refl _)) (by decide)
    simp only [List.mem_cons, List.not_mem_nil, or_false] at hd
    rcases hd with rfl | rfl
    · exact Nat.le_trans (sh_nm z.1) (by decide)
    · exact sh_tup (B := 82) (n := 6) (fun d hd => (by
        obtain ⟨s, hs, rfl⟩ := List.mem_map.mp hd
        exact sh_nm (z.2.2.1 s hs).1)) (by rw [List.length_map]; exact z.2.2.2.2)) (by rw [List.length_map]; exact ok.ol)
  have t3 : (PyData.tuple (c.map dC)).shown.length ≤ 40 * 3000 + 2 := sh_tup (B := 2998) (fun d hd => by
    obtain ⟨x, hx, rfl⟩ := List.mem_map.mp hd
    have z := ok.cc x hx
    refine Nat.le_trans (sh_tup (B := 170) (n := 14) (fun d hd => ?_) (by rw [List.length_map]; exact z.2.2)) (by decide)
    obtain ⟨y, hy, rfl⟩ := List.mem_map.mp hd
    refine sh_tup (B := 82) (n := 2) (fun d hd => ?_) (Nat.le_refl _)
    simp only [List.mem_cons, List.not_mem_nil, or_false] at hd
    rcases hd with rfl | rfl
    · exact sh_nm (z.1 y hy).1
    · rw [PyData.shown]; cases y.2 <;> decide +kernel) (by rw [List.length_map]; exact ok.cl)
  refine Nat.le_trans (sh_tup (B := 130000) (n := 3) (fun d hd => ?_) (Nat.le_refl _)) (by decide)
  simp only [List.mem_cons, List.not_mem_nil, or_false] at hd
  rcases hd with rfl | rfl | rfl <;> omega
theorem bb_repr {a b : Bool} {q : Rs → Prop} (hq : q (.d (.str (PyData.list [.bool a, .bool b]).shown))) : sRepr [.list [.bool a, .bool b]] q :=
  ⟨_, rfl, .inl ⟨⟨_, .inl rfl⟩, by cases a <;> cases b <;> decide +kernel, by cases a <;> cases b <;> decide +kernel, by cases a <;> cases b <;> decide +kernel⟩, by cases a <;> cases b <;> decide +kernel, hq⟩
theorem sum_rng {B : Int} : ∀ {xs : List Int}, (∀ x ∈ xs, 0 ≤ x ∧ x ≤ B) → 0 ≤ xs.sum ∧ xs.sum ≤ (xs.length : Int) * B
  | [], _ => by simp
  | x :: xs, h => by
    have h1 := h x (.head _)
    have h2 := sum_rng (xs := xs) fun y hy => h y (.tail _ hy)
    rw [List.sum_cons, List.length_cons]
    have e : ((xs.length + 1 : Nat) : Int) * B = (xs.length : Int) * B + B := by rw [Int.natCast_add, Int.add_mul]; simp
    rw [e]
    omega
open PySem.W in
/-- Names and owns that the checker lets through. -/
structure FrOk (p : List Str) (o : List (Str × List Str)) : Prop where
  pn : ∀ s ∈ p, Nm s
  pa : p.Pairwise fun a b => DatumOrd.lt a b = true
  pl : p.length ≤ 6
  oo : ∀ x ∈ o, Nm x.1 ∧ x.1 ∉ p ∧ (∀ s ∈ x.2, s ∈ p) ∧ x.2.Pairwise fun a b => DatumOrd.lt a b = true
  ol : o.length ≤ 8
  oa : (o.map (·.1)).Pairwise fun a b => DatumOrd.lt a b = true
  om : (o.map fun x => (2 : Int) ^ x.2.length).sum ≤ 120
open PySem.W in
theorem asc_nodup {xs : List Str} (h : xs.Pairwise fun a b => DatumOrd.lt a b = true) : xs.Nodup := h.imp fun {a b} z e => by rw [e, lt_irr] at z; cases z
theorem FrOk.nodup {p : List Str} {o : List (Str × List Str)} (f : FrOk p o) : (p ++ o.map (·.1)).Nodup := List.nodup_append.mpr ⟨asc_nodup f.pa, asc_nodup f.oa, fun a ha b hb e => by
  obtain ⟨x, hx, rfl⟩ := List.mem_map.mp hb
  exact (f.oo x hx).2.1 (e ▸ ha)⟩
theorem FrOk.nms {p : List Str} {o : List (Str × List Str)} (f : FrOk p o) : ∀ s ∈ p ++ o.map (·.1), Nm s := fun s hs => by
  rcases List.mem_append.mp hs with h | h
  · exact f.pn s h
  · obtain ⟨x, hx, rfl⟩ := List.mem_map.mp h
    exact (f.oo x hx).1
open PySem.W in
theorem asc_strs {xs : List Str} (h : xs.Pairwise fun a b => DatumOrd.lt a b = true) : Asc (xs.map .str) := by
  have e : xs.map PyData.str = xs.map Datum.toD := List.map_congr_left fun _ _ => rfl
  rw [e]
  exact asc_typed (by decide) h
open PySem.W in
theorem say_ok {p : List Str} {o : List (Str × List Str)} {c : List (List (Str × Bool))} (f : FrOk p o) (cl : c.length ≤ 40) (ca : (c.map Tup.mk).Pairwise fun a b => DatumOrd.lt a b = true) (cc : ∀ x ∈ c, ClOk (p ++ o.map (·.1)) x) : SayOk p o c where
  pn := f.pn
  pa := asc_strs f.pa
  pl := f.pl
  oo := fun x hx => by
    obtain ⟨h1, h2, h3, h4⟩ := f.oo x hx
    exact ⟨h1, h2, fun s hs => ⟨f.pn s (h3 s hs), h3 s hs⟩, asc_strs h4, Nat.le_trans (nodup_le (asc_nodup h4) h3) f.pl⟩
  ol := f.ol
  oa := by
    have e : (o.map fun x => PyData.str x.1) = (o.map (·.1)).map .str := by rw [List.map_map]; rfl
    rw [e]
    exact asc_strs f.oa
  om := f.om
  cl := cl
  ca := by
    have e : c.map dC = (c.map Tup.mk).map Datum.toD := by rw [List.map_map]; rfl
    rw [e]
    exact asc_typed (by decide) ca
  cc := fun x hx => by
    have k := cc x hx
    have w : (x.map (·.1)).Pairwise fun a b => DatumOrd.lt a b = true := List.pairwise_map.mpr k.asc
    have e : (x.map fun y => PyData.str y.1) = (x.map (·.1)).map .str := by rw [List.map_map]; rfl
    refine ⟨fun y hy => ⟨f.nms _ (k.mem y hy), k.mem y hy⟩, by rw [e]; exact asc_strs w, ?_⟩
    have := nodup_le (asc_nodup w) (m := p ++ o.map (·.1)) fun s hs => by
      obtain ⟨y, hy, rfl⟩ := List.mem_map.mp hs
      exact k.mem y hy
    rw [List.length_map, List.length_append, List.length_map] at this
    have := f.pl
    have := f.ol
    omega
def selD (b : Bool) (d : PyData) : Option PyData := if b then some d else none
theorem sel_map {α : Type} {p : α → Bool} {g : α → PyData} : ∀ {xs : List α}, (xs.filterMap fun y => selD (p y) (g y)) = (xs.filter p).map g
  | [] => rfl
  | x :: xs => by
    rw [List.filterMap_cons, List.filter_cons]
    cases p x with
    | true => exact congrArg (g x :: ·) (sel_map (xs := xs))
    | false => exact sel_map (xs := xs)
theorem sel_len {α : Type} {p : α → Bool} {g : α → PyData} : ∀ {xs : List α}, (xs.filterMap fun y => selD (p y) (g y)).length = (xs.filter p).length
  | [] => rfl
  | x :: xs => by
    rw [List.filterMap_cons, List.filter_cons]
    cases p x with
    | true => exact congrArg (· + 1) (sel_len (xs := xs))
    | false => exact sel_len (xs := xs)
theorem all_map {α : Type} {f : α → Bool} {xs : List α} : (xs.map f).all id = xs.all f := by rw [List.all_map]; rfl
theorem all_bs {α : Type} {xs : List α} {q : Rs → Prop} (hq : q (.d (.bool true))) : ∃ bs : List Bool, xs.map (fun _ => PyData.bool true) = bs.map .bool ∧ q (.d (.bool (bs.all id))) := by
  obtain ⟨bs, e, h⟩ := all_true (xs := xs)
  exact ⟨bs, e, by rw [h]; exact hq⟩
theorem all_bs2 {α : Type} {xs : List α} {p : PyData → Prop} (hq : p (.bool true)) : ∃ bs : List Bool, xs.map (fun _ => PyData.bool true) = bs.map .bool ∧ p (.bool (bs.all id)) := by
  obtain ⟨bs, e, h⟩ := all_true (xs := xs)
  exact ⟨bs, e, by rw [h]; exact hq⟩
theorem all_bs3 {α : Type} {xs : List α} {p : Bool → Prop} (hq : p true) : ∃ bs : List Bool, xs.map (fun _ => PyData.bool true) = bs.map .bool ∧ p (bs.all id) := by
  obtain ⟨bs, e, h⟩ := all_true (xs := xs)
  exact ⟨bs, e, by rw [h]; exact hq⟩

/-! ### dicts whose keys are of one type -/
structure Enc {α : Type} [DecidableEq α] (e : α → PyData) : Prop where
  kq : ∀ a b, keyQ (e a) (e b) = decide (a = b)
  fit : (∀ a, flatK (e a) = true) ∨ ∀ a, tupK (e a) = true
theorem Enc.of {α : Type} [DecidableEq α] {e : α → PyData} (key : α → NestedKey) (h : ∀ a, keyOf (e a) = some (key a)) (inj : ∀ a b, key a = key b → a = b) (fit : (∀ a, flatK (e a) = true) ∨ ∀ a, tupK (e a) = true) : Enc e where
  kq := fun a b => by
    rw [keyQ_of (h a) (h b)]
    exact decide_eq_decide.mpr ⟨inj a b, fun z => congrArg key z⟩
  fit := fit
theorem enc_str : Enc PyData.str := .of (fun s => .text s) (fun _ => rfl) (fun a b h => by injection h) (.inl fun _ => rfl)
theorem enc_dL : Enc dL := .of (fun p => .tup [.text p.1, .num (if p.2 = true then 1 else 0)]) (fun _ => rfl) (fun a b h => by
  obtain ⟨a1, a2⟩ := a
  obtain ⟨b1, b2⟩ := b
  injection h with h
  injection h with h1 h
  injection h with h2 _
  injection h1 with h1
  injection h2 with h2
  dsimp only at h1 h2
  subst h1
  cases a2 <;> cases b2 <;> first | rfl | cases h2) (.inr fun _ => rfl)
theorem letters_key : ∀ c : List (Str × Bool), keyOfAll (c.map dL) = some (c.map fun p => .tup [.text p.1, .num (if p.2 = true then 1 else 0)])
  | [] => rfl
  | p :: c => by
    rw [List.map_cons, List.map_cons]
    show (match keyOf (dL p), keyOfAll (c.map dL) with
      | some k, some ks => some (k :: ks)
      | _, _ => Option.none) = _
    rw [letters_key c]
    rfl
theorem letters_inj : ∀ a b : List (Str × Bool), (a.map fun p => NestedKey.tup [.text p.1, .num (if p.2 = true then 1 else 0)]) = (b.map fun p => .tup [.text p.1, .num (if p.2 = true then 1 else 0)]) → a = b
  | [], [], _ => rfl
  | [], _ :: _, h => by cases h
  | _ :: _, [], h => by cases h
  | (s, x) :: a, (t, y) :: b, h => by
    injection h with h1 h2
    injection h1 with h1
    injection h1 with h3 h4
    injection h4 with h4 _
    injection h3 with h3
    injection h4 with h4
    dsimp only at h3 h4
    subst h3
    rw [letters_inj a b h2]
    cases x <;> cases y <;> first | rfl | cases h4
theorem letters_deep : ∀ c : List (Str × Bool), NestedKey.depthAll (c.map fun p => NestedKey.tup [.text p.1, .num (if p.2 = true then 1 else 0)]) ≤ 1
  | [] => Nat.zero_le _
  | p :: c => by
    have := letters_deep c
    simp only [List.map_cons, NestedKey.depthAll, NestedKey.depth]
    omega
theorem enc_dC : Enc dC := .of (fun c => .tup (c.map fun p => .tup [.text p.1, .num (if p.2 = true then 1 else 0)])) (fun c => by
  show (keyOfAll (c.map dL)).map NestedKey.tup = _
  rw [letters_key]; rfl) (fun a b h => by injection h with h; exact letters_inj a b h) (.inr fun c => by
  refine tupK_of (k := .tup (c.map fun p => .tup [.text p.1, .num (if p.2 = true then 1 else 0)])) ?_ ?_
  · show (keyOfAll (c.map dL)).map NestedKey.tup = _
    rw [letters_key]; rfl
  · have := letters_deep c
    simp only [NestedKey.depth]
    omega)
section
variable {α β : Type} [DecidableEq α] {e : α → PyData}
theorem enc_get (E : Enc e) {k : β → α} {v : β → PyData} {a : α} : ∀ xs : List β, dGet (xs.map fun x => (e (k x), v x)) (e a) = (xs.find? fun x => decide (k x = a)).map v
  | [] => rfl
  | x :: xs => by
    have ih := enc_get E (k := k) (v := v) (a := a) xs
    unfold dGet at ih ⊢
    rw [List.map_cons, List.find?_cons, List.find?_cons]
    dsimp only
    rw [E.kq]
    cases decide (k x = a) with
    | true => rfl
    | false => exact ih
theorem enc_some (E : Enc e) {k : β → α} {v : β → PyData} {a : α} : ∀ xs : List β, (dGet (xs.map fun x => (e (k x), v x)) (e a)).isSome = decide (a ∈ xs.map k) := fun xs => by
  rw [enc_get E, Option.isSome_map]
  induction xs with
  | nil => simp
  | cons x xs ih =>
    rw [List.find?_cons]
    by_cases h : k x = a
    · rw [decide_eq_true h]; simp [h]
    · rw [decide_eq_false h]
      have h' : ¬ a = k x := fun z => h z.symm
      simp only [ih, List.map_cons, List.mem_cons, h', false_or]
theorem enc_mem (E : Enc e) {v : PyData} {a : α} (xs : List α) : (dGet (xs.map fun x => (e x, v)) (e a)).isSome = decide (a ∈ xs) := by
  have := enc_some E (k := fun x : α => x) (v := fun _ => v) (a := a) xs
  rw [List.map_id'] at this
  exact this
theorem enc_val (E : Enc e) {k : β → α} {v : β → PyData} {xs : List β} (nd : (xs.map k).Nodup) {x : β} (h : x ∈ xs) : dGet (xs.map fun x => (e (k x), v x)) (e (k x)) = some (v x) := by
  rw [enc_get E]
  induction xs with
  | nil => cases h
  | cons y ys ih =>
    rw [List.map_cons, List.nodup_cons] at nd
    rw [List.find?_cons]
    by_cases z : k y = k x
    · rw [decide_eq_true z]
      rcases List.mem_cons.mp h with rfl | h
      · rfl
      · exact absurd (z ▸ List.mem_map_of_mem h) nd.1
    · rw [decide_eq_false z]
      rcases List.mem_cons.mp h with rfl | h
      · exact absurd rfl z
      · exact ih nd.2 h
theorem enc_fit (E : Enc e) {k : β → α} {v : β → PyData} {a : α} (xs : List β) : dFit (xs.map fun x => (e (k x), v x)) (e a) := by
  rcases E.fit with h | h
  · exact .inl ⟨h a, by rw [List.all_map, List.all_eq_true]; exact fun x _ => h (k x)⟩
  · exact .inr ⟨h a, by rw [List.all_map, List.all_eq_true]; exact fun x _ => h (k x)⟩
theorem enc_any (E : Enc e) {k : β → α} {v : β → PyData} {a : α} : ∀ xs : List β, ((xs.map fun x => (e (k x), v x)).any fun kv => keyQ kv.1 (e a)) = decide (a ∈ xs.map k) := fun xs => by
  induction xs with
  | nil => simp
  | cons x xs ih =>
    rw [List.map_cons, List.any_cons, ih]
    dsimp only
    rw [E.kq]
    by_cases h : k x = a
    · rw [decide_eq_true h]; simp [h]
    · have h' : ¬ a = k x := fun z => h z.symm
      rw [decide_eq_false h, List.map_cons]
      simp only [List.mem_cons, h', false_or, Bool.false_or]
theorem enc_new (E : Enc e) {k : β → α} {v : β → PyData} {a : α} {d : PyData} {xs : List β} (h : a ∉ xs.map k) : dPut (xs.map fun x => (e (k x), v x)) (e a) d = (xs.map fun x => (e (k x), v x)) ++ [(e a, d)] := by
  unfold dPut
  rw [enc_any E, decide_eq_false h]
  exact if_neg Bool.false_ne_true
/-- a store in a dict whose values are all alike -/
theorem enc_put (E : Enc e) {v : PyData} {a : α} (xs : List α) : dPut (xs.map fun x => (e x, v)) (e a) v = (if a ∈ xs then xs else xs ++ [a]).map fun x => (e x, v) := by
  by_cases h : a ∈ xs
  · rw [if_pos h]
    unfold dPut
    have : ((xs.map fun x => (e x, v)).any fun kv => keyQ kv.1 (e a)) = true := by
      rw [enc_any E (k := fun x : α => x) (v := fun _ => v), List.map_id']; exact decide_eq_true h
    rw [if_pos this, List.map_map]
    refine List.map_congr_left fun x _ => ?_
    show (if keyQ (e x) (e a) = true then (e x, v) else (e x, v)) = (e x, v)
    split <;> rfl
  · rw [if_neg h, List.map_append]
    exact enc_new E (k := fun x : α => x) (v := fun _ => v) (by rw [List.map_id']; exact h)
end
theorem nodup_put {α : Type} [DecidableEq α] {a : α} {xs : List α} (h : xs.Nodup) : (if a ∈ xs then xs else xs ++ [a]).Nodup ∧ (∀ x, x ∈ (if a ∈ xs then xs else xs ++ [a]) ↔ x ∈ xs ∨ x = a) ∧ (if a ∈ xs then xs else xs ++ [a]).length ≤ xs.length + 1 := by
  split
  · rename_i z
    exact ⟨h, fun x => ⟨.inl, fun q => q.elim id fun q => q ▸ z⟩, Nat.le_succ _⟩
  · rename_i z
    refine ⟨List.nodup_append.mpr ⟨h, by simp, fun x hx y hy => ?_⟩, fun x => by simp, by simp⟩
    cases List.mem_singleton.mp hy
    exact fun q => z (q ▸ hx)
/-- a dict comprehension over data of one type: those that p lets through, their keys unlike -/
theorem ex_dc {α γ : Type} [DecidableEq γ] {e : γ → PyData} (E : Enc e) {xs : List α} {g : α → PyData} {ρ : List AV} {B : (Nat → List (PyData × PyData) → List AV → Prop) → Nat → PyData → List (PyData × PyData) → List AV → Prop} {q : List (PyData × PyData) → List AV → Prop} (k : α → γ) (v : α → PyData) (p : α → Bool)
    (nd : ((xs.filter p).map k).Nodup)
    (turn : ∀ (I : Nat → List (PyData × PyData) → List AV → Prop) i x acc, x ∈ xs → dFit acc (e (k x)) → (p x = true → I (i + 1) (dPut acc (e (k x)) (v x)) ρ) → (p x = false → I (i + 1) acc ρ) → B I i (g x) acc ρ) (fin : q ((xs.filter p).map fun x => (e (k x), v x)) ρ) :
    ∃ I : Nat → List (PyData × PyData) → List AV → Prop, I 0 [] ρ ∧ (∀ i d acc ρ2, (xs.map g)[i]? = some d → I i acc ρ2 → B I i d acc ρ2) ∧ ∀ acc ρ2, I (xs.map g).length acc ρ2 → q acc ρ2 := by
  refine ⟨fun i acc ρ2 => ρ2 = ρ ∧ acc = ((xs.take i).filter p).map fun x => (e (k x), v x), ⟨rfl, rfl⟩, fun i d acc ρ2 hd ⟨e1, e2⟩ => ?_, fun acc ρ2 ⟨e1, e2⟩ => ?_⟩
  · subst e1 e2
    rw [List.getElem?_map] at hd
    obtain ⟨x, hx, rfl⟩ := Option.map_eq_some_iff.mp hd
    have tk : xs.take (i + 1) = xs.take i ++ [x] := by rw [List.take_succ, hx]; rfl
    refine turn _ i x _ (List.mem_of_getElem? hx) (enc_fit E _) (fun hp => ⟨rfl, ?_⟩) fun hn => ⟨rfl, ?_⟩
    · have un : k x ∉ ((xs.take i).filter p).map k := fun z => by
        have sp : xs.filter p = (xs.take i).filter p ++ (xs.drop i).filter p := by rw [← List.filter_append, List.take_append_drop]
        rw [sp, List.map_append, List.nodup_append] at nd
        have li := (List.getElem?_eq_some_iff.mp hx)
        have hm : x ∈ (xs.drop i).filter p := List.mem_filter.mpr ⟨by rw [List.drop_eq_getElem_cons li.1, li.2]; exact .head _, hp⟩
        exact nd.2.2 _ z _ (List.mem_map_of_mem hm) rfl
      rw [enc_new E un, tk, List.filter_append, List.map_append, List.filter_cons, if_pos hp]
      rfl
    · rw [tk, List.filter_append, List.filter_cons, if_neg (by rw [hn]; exact Bool.false_ne_true)]
      simp
  · subst e1 e2
    rw [List.length_map, List.take_length]
    exact fin
end OS

namespace OS
open PySem L2
/-! The letters that a pick's letter reaches, in plain words. -/
def vw (o : List (Str × List Str)) (s : Str) : List Str := (o.filter fun x => decide (s ∈ x.2)).map (·.1)
def metB (vs : List Str) (l y : Str × Bool) : Bool := decide (y.1 ∈ vs) && decide (y ≠ l)
def metL (c : List (List (Str × Bool))) (vs : List Str) (l : Str × Bool) : List (Str × Bool) := c.flatMap fun x => if l ∈ x then x.filter (metB vs l) else []
def co (l : Str × Bool) : Str × Bool := (l.1, !l.2)
inductive Rch (c : List (List (Str × Bool))) (vs : List Str) (t : Str × Bool) : Str × Bool → Prop
  | base {y} : y ∈ metL c vs t → Rch c vs t y
  | step {l y} : Rch c vs t l → y ∈ metL c vs (co l) → Rch c vs t y
def Goes (o : List (Str × List Str)) (c : List (List (Str × Bool))) (s : Str) (b : Bool) (L : List (Str × Bool)) : Prop := L.Nodup ∧ ∀ l, l ∈ L ↔ Rch c (vw o s) (s, b) l
theorem mem_metL {c : List (List (Str × Bool))} {vs : List Str} {l y : Str × Bool} : y ∈ metL c vs l ↔ ∃ x ∈ c, l ∈ x ∧ y ∈ x ∧ y.1 ∈ vs ∧ y ≠ l := by
  unfold metL
  rw [List.mem_flatMap]
  constructor
  · rintro ⟨x, hx, h⟩
    by_cases e : l ∈ x
    · rw [if_pos e] at h
      obtain ⟨h1, h2⟩ := List.mem_filter.mp h
      unfold metB at h2
      rw [Bool.and_eq_true] at h2
      exact ⟨x, hx, e, h1, of_decide_eq_true h2.1, of_decide_eq_true h2.2⟩
    · rw [if_neg e] at h; cases h
  · rintro ⟨x, hx, e, h1, h2, h3⟩
    refine ⟨x, hx, ?_⟩
    rw [if_pos e]
    refine List.mem_filter.mpr ⟨h1, ?_⟩
    unfold metB
    rw [Bool.and_eq_true]
    exact ⟨decide_eq_true h2, decide_eq_true h3⟩
def bo2 (vs : List Str) : List (Str × Bool) := vs.flatMap fun s => [(s, true), (s, false)]
theorem bo2_mem {vs : List Str} {l : Str × Bool} (h : l.1 ∈ vs) : l ∈ bo2 vs := by
  obtain ⟨s, b⟩ := l
  refine List.mem_flatMap.mpr ⟨s, h, ?_⟩
  cases b <;> simp
theorem bo2_len : ∀ vs : List Str, (bo2 vs).length = 2 * vs.length
  | [] => rfl
  | s :: vs => by
    have := bo2_len vs
    unfold bo2 at this ⊢
    rw [List.flatMap_cons, List.length_append, this]
    simp only [List.length_cons, List.length_nil]
    omega
theorem rch_vw {c : List (List (Str × Bool))} {vs : List Str} {t l : Str × Bool} (h : Rch c vs t l) : l.1 ∈ vs := by
  cases h with
  | base h => obtain ⟨_, _, _, _, h, _⟩ := mem_metL.mp h; exact h
  | step _ h => obtain ⟨_, _, _, _, h, _⟩ := mem_metL.mp h; exact h
theorem rch_len {c : List (List (Str × Bool))} {vs : List Str} {t : Str × Bool} {L : List (Str × Bool)} (n : L.Nodup) (h : ∀ l ∈ L, Rch c vs t l) : L.length ≤ 2 * vs.length := by
  rw [← bo2_len]
  exact nodup_le n fun x hx => bo2_mem (rch_vw (h x hx))
theorem metL_len {c : List (List (Str × Bool))} {vs : List Str} {l : Str × Bool} (h : ∀ x ∈ c, x.length ≤ 14) : (metL c vs l).length ≤ 14 * c.length := by
  induction c with
  | nil => exact Nat.le_refl 0
  | cons x c ih =>
    have e : metL (x :: c) vs l = (if l ∈ x then x.filter (metB vs l) else []) ++ metL c vs l := rfl
    have h1 := ih fun y hy => h y (List.mem_cons_of_mem _ hy)
    have h2 : (if l ∈ x then x.filter (metB vs l) else []).length ≤ 14 := by
      split
      · exact Nat.le_trans (List.length_filter_le _ _) (h x (List.mem_cons_self ..))
      · exact Nat.zero_le _
    rw [e, List.length_append, List.length_cons]
    omega
theorem metL_take {c : List (List (Str × Bool))} {vs : List Str} {l : Str × Bool} {x : List (Str × Bool)} {i : Nat} (tk : c.take (i + 1) = c.take i ++ [x]) : metL (c.take (i + 1)) vs l = metL (c.take i) vs l ++ if l ∈ x then x.filter (metB vs l) else [] := by
  unfold metL
  rw [tk, List.flatMap_append]
  simp
theorem vw_len (o : List (Str × List Str)) (s : Str) : (vw o s).length ≤ o.length := by
  unfold vw; rw [List.length_map]; exact List.length_filter_le _ _
theorem vw_nodup {o : List (Str × List Str)} (h : (o.map (·.1)).Nodup) (s : Str) : (vw o s).Nodup := by
  unfold vw
  exact (List.filter_sublist.map _).nodup h
section
open PySem.W
variable {α : Type} [DecidableEq α] [DatumOrd α]
theorem lt_tr {a b c : α} (h1 : DatumOrd.lt a b = true) (h2 : DatumOrd.lt b c = true) : DatumOrd.lt a c = true := by
  rw [← DatumOrd.lt_eq] at h1 h2 ⊢
  exact PyProof.Rows.lex_trans _ _ _ h1 h2
theorem ltOk_back {a b : α} (h : LtOk (Datum.toD a) (Datum.toD b)) : DatumOrd.lt a b = true := by
  have z := h (fun d => d = .bool true) rfl
  rw [← DatumOrd.lt_eq]
  unfold dLt at z
  split at z
  · rename_i i j e1 e2
    rw [e1, e2, dataLt_int]
    injection z
  · injection z.2.2.2
theorem asc_back : ∀ {xs : List α}, Asc (xs.map Datum.toD) → xs.Pairwise fun a b => DatumOrd.lt a b = true
  | [], _ => .nil
  | [x], _ => List.pairwise_singleton ..
  | x :: y :: t, h => by
    have h1 : DatumOrd.lt x y = true := ltOk_back (h 0 _ _ rfl rfl)
    have h2 : (y :: t).Pairwise fun a b => DatumOrd.lt a b = true := asc_back fun i d e p q => h (i + 1) d e p q
    refine .cons (fun z hz => ?_) h2
    rcases List.mem_cons.mp hz with rfl | hz
    · exact h1
    · exact lt_tr h1 ((List.pairwise_cons.mp h2).1 z hz)
theorem lt_nodup {xs : List α} (h : xs.Pairwise fun a b => DatumOrd.lt a b = true) : xs.Nodup := h.imp fun {a b} z e => by rw [e, lt_irr] at z; cases z
/-- two strict rows with the same members are one -/
theorem strict_one {xs ys : List α} (h1 : xs.Pairwise fun a b => DatumOrd.lt a b = true) (h2 : ys.Pairwise fun a b => DatumOrd.lt a b = true) (h : ∀ a, a ∈ xs ↔ a ∈ ys) : xs = ys := by
  refine List.Perm.eq_of_pairwise (le := fun a b => DatumOrd.lt a b = true) (fun a b _ _ p q => ?_) h1 h2 ((List.perm_ext_iff_of_nodup (lt_nodup h1) (lt_nodup h2)).mpr h)
  have := lt_tr p q
  rw [lt_irr] at this
  cases this
theorem sorted_one {xs ys : List α} {a b : List PyData} (n1 : xs.Nodup) (n2 : ys.Nodup) (h : ∀ a, a ∈ xs ↔ a ∈ ys) (s1 : Srt (xs.map Datum.toD) a) (s2 : Srt (ys.map Datum.toD) b) : a = b := by
  obtain ⟨z1, rfl, p1, w1⟩ := srt_typed s1
  obtain ⟨z2, rfl, p2, w2⟩ := srt_typed s2
  rw [strict_one (srt_strict w1 (p1.nodup_iff.mpr n1)) (srt_strict w2 (p2.nodup_iff.mpr n2)) fun a => by rw [p1.mem_iff, p2.mem_iff]; exact h a]
end
theorem strs_nodup {xs : List Str} (h : Asc (xs.map .str)) : xs.Nodup := lt_nodup (asc_back (α := Str) h)
theorem own_nodup {o : List (Str × List Str)} (h : Asc (o.map fun x => .str x.1)) : (o.map (·.1)).Nodup := strs_nodup (by rw [List.map_map]; exact h)
theorem eqv_dL (a b : Str × Bool) : PyData.eqv (dL a) (dL b) = decide (a = b) := by
  have := PySem.W.Datum.eqv (α := Str × Bool) a b
  exact this
theorem any_dL {x : List (Str × Bool)} {l : Str × Bool} : ((x.map dL).any fun z => PyData.eqv z (dL l)) = decide (l ∈ x) := by
  rw [List.any_map]
  induction x with
  | nil => rfl
  | cons a as ih =>
    rw [List.any_cons, ih]
    show (PyData.eqv (dL a) (dL l) || _) = _
    rw [eqv_dL]
    by_cases e : a = l
    · subst e; simp
    · have e' : ¬ l = a := fun z => e z.symm
      simp [e, e']
theorem ex_fx {α : Type} {xs : List α} {g : α → PyData} {ρ : List AV} {B : (Nat → List AV → Prop) → Nat → PyData → List AV → Prop} {q : List AV → Prop} (J : Nat → List AV → Prop) (h0 : J 0 ρ)
    (turn : ∀ I : Nat → List AV → Prop, (∀ i ρ2, J i ρ2 → I i ρ2) → ∀ i x ρ2, xs[i]? = some x → x ∈ xs → xs.take (i + 1) = xs.take i ++ [x] → J i ρ2 → B I i (g x) ρ2) (fin : ∀ ρ2, J xs.length ρ2 → q ρ2) :
    ∃ I : Nat → List AV → Prop, I 0 ρ ∧ (∀ i d ρ2, (xs.map g)[i]? = some d → I i ρ2 → B I i d ρ2) ∧ ∀ ρ2, I (xs.map g).length ρ2 → q ρ2 := by
  refine ⟨J, h0, fun i d ρ2 hd hI => ?_, fun ρ2 h => fin ρ2 (by rw [List.length_map] at h; exact h)⟩
  obtain ⟨x, hx, hm, rfl, tk⟩ := map_at hd
  exact turn J (fun _ _ h => h) i x ρ2 hx hm tk hI
/-- a comprehension over data of one type, with what goes on said about those already taken -/
theorem ex_jx {α : Type} {xs : List α} {g : α → PyData} {ρ : List AV} {B : (Nat → List PyData → List AV → Prop) → Nat → PyData → List PyData → List AV → Prop} {q : List PyData → List AV → Prop} (J : Nat → List PyData → List AV → Prop) (h0 : J 0 [] ρ)
    (turn : ∀ I : Nat → List PyData → List AV → Prop, (∀ i acc ρ2, J i acc ρ2 → I i acc ρ2) → ∀ i x acc ρ2, xs[i]? = some x → x ∈ xs → xs.take (i + 1) = xs.take i ++ [x] → J i acc ρ2 → B I i (g x) acc ρ2) (fin : ∀ acc ρ2, J xs.length acc ρ2 → q acc ρ2) :
    ∃ I : Nat → List PyData → List AV → Prop, I 0 [] ρ ∧ (∀ i d acc ρ2, (xs.map g)[i]? = some d → I i acc ρ2 → B I i d acc ρ2) ∧ ∀ acc ρ2, I (xs.map g).length acc ρ2 → q acc ρ2 := by
  refine ⟨J, h0, fun i d acc ρ2 hd hI => ?_, fun acc ρ2 h => fin acc ρ2 (by rw [List.length_map] at h; exact h)⟩
  obtain ⟨x, hx, hm, rfl, tk⟩ := map_at hd
  exact turn J (fun _ _ _ h => h) i x acc ρ2 hx hm tk hI
theorem find_take {α : Type} {p : α → Bool} {xs : List α} {x : α} {i : Nat} (hx : xs[i]? = some x) (h : ∀ y ∈ xs.take i, p y = false) (hp : p x = true) : xs.find? p = some x := by
  have li := List.getElem?_eq_some_iff.mp hx
  have sp : xs = xs.take i ++ x :: xs.drop (i + 1) := by
    have := List.drop_eq_getElem_cons li.1
    rw [li.2] at this
    rw [← this, List.take_append_drop]
  rw [sp, List.find?_append, List.find?_eq_none.mpr fun y hy => by rw [h y hy]; exact Bool.false_ne_true, List.find?_cons, hp]
  rfl
theorem find_none {α : Type} {p : α → Bool} {xs : List α} (h : ∀ y ∈ xs.take xs.length, p y = false) : xs.find? p = none := by
  rw [List.take_length] at h
  exact List.find?_eq_none.mpr fun y hy => by rw [h y hy]; exact Bool.false_ne_true
/-- shapes -/
theorem shaped_dC1 {c : List (Str × Bool)} (h : ∀ l ∈ c, Nm l.1) : SeqAt.shaped (dC c) = true := by
  obtain ⟨h3, h4⟩ := lay_dL (names := c.map (·.1)) (fun s hs => by obtain ⟨l, hl, rfl⟩ := List.mem_map.mp hs; exact h l hl) (c := c) fun y hy => List.mem_map_of_mem hy
  have l1 : (dC c).canLay0 = true := by simp only [dC, PyData.canLay0, h3]
  have l2 : (dC c).depth ≤ 2 := by simp only [dC, PyData.depth]; omega
  show ((dC c).canLay0 && decide ((dC c).depth ≤ 64)) = true
  rw [l1, decide_eq_true (Nat.le_trans l2 (by decide))]
  rfl
theorem shaped_dL {l : Str × Bool} (h : Nm l.1) : SeqAt.shaped (dL l) = true := by
  have l1 : (dL l).canLay0 = true := by simp only [dL, PyData.canLay0, PyData.canLayAll0, nm_ok h, Bool.and_self]
  have l2 : (dL l).depth ≤ 1 := by simp only [dL, PyData.depth, PyData.depthAll]; omega
  show ((dL l).canLay0 && decide ((dL l).depth ≤ 64)) = true
  rw [l1, decide_eq_true (Nat.le_trans l2 (by decide))]
  rfl
theorem sayok_nm {p : List Str} {o : List (Str × List Str)} {c : List (List (Str × Bool))} (ok : SayOk p o c) {x : List (Str × Bool)} (hx : x ∈ c) : ∀ l ∈ x, Nm l.1 := fun l hl => ((ok.cc x hx).1 l hl).1
theorem in_dC {l : Str × Bool} {x : List (Str × Bool)} {q : PyData → Prop} (h : Nm l.1) (hx : ∀ y ∈ x, Nm y.1) (hq : q (.bool (decide (l ∈ x)))) : dIn false (dL l) (dC x) q := ⟨shaped_dL h, shaped_dC1 hx, by
  show q (.bool ((x.map dL).any fun z => PyData.eqv z (dL l)))
  rw [any_dL]
  exact hq⟩
theorem in_vs {s : Str} {vs : List Str} {v : PyData} {q : PyData → Prop} (hq : q (.bool (decide (s ∈ vs)))) : dIn false (.str s) (.dict (vs.map fun x => (.str x, v))) q := ⟨enc_fit enc_str (k := fun x => x) (v := fun _ => v) vs, by
  show q (.bool (dGet (vs.map fun x => (PyData.str x, v)) (.str s)).isSome)
  rw [enc_mem enc_str]
  exact hq⟩
theorem in_ls {l : Str × Bool} {L : List (Str × Bool)} {v : PyData} {n : Bool} {q : PyData → Prop} (hq : q (.bool (if n then !decide (l ∈ L) else decide (l ∈ L)))) : dIn n (dL l) (.dict (L.map fun x => (dL x, v))) q := ⟨enc_fit enc_dL (k := fun x => x) (v := fun _ => v) L, by
  show q (.bool (if n then !(dGet (L.map fun x => (dL x, v)) (dL l)).isSome else (dGet (L.map fun x => (dL x, v)) (dL l)).isSome))
  have e : (dGet (L.map fun x => (dL x, v)) (dL l)).isSome = decide (l ∈ L) := (enc_mem enc_dL L).trans (decide_eq_decide.mpr Iff.rfl)
  rw [e]
  exact hq⟩
theorem ne_dL {a b : Str × Bool} {q : PyData → Prop} (ha : Nm a.1) (hb : Nm b.1) (hq : q (.bool (decide (a ≠ b)))) : dEq true (dL a) (dL b) q := ⟨shaped_dL ha, shaped_dL hb, by
  show q (.bool (!PyData.eqv (dL a) (dL b)))
  rw [eqv_dL, ← decide_not]
  exact hq⟩
theorem it_dC {x : List (Str × Bool)} {q : List PyData → Prop} : dIter (dC x) q = q (x.map dL) := rfl
theorem ix_dL0 {y : Str × Bool} {q : PyData → Prop} (h : q (.str y.1)) : dIx (dL y) (.int 0) q := by
  unfold dL
  exact ⟨_, rfl, h⟩
theorem ix_dL1 {y : Str × Bool} {q : PyData → Prop} (h : q (.bool y.2)) : dIx (dL y) (.int 1) q := by
  unfold dL
  exact ⟨_, rfl, h⟩
structure Chs (c : List (List (Str × Bool))) (vs : List Str) (t : Str × Bool) (F W : List (Str × Bool)) : Prop where
  nd : F.Nodup
  fr : ∀ l ∈ F, Rch c vs t l
  wr : ∀ l ∈ W, Rch c vs t l
  st : ∀ y ∈ metL c vs t, y ∈ F ∨ y ∈ W
  cl : ∀ l ∈ F, ∀ y ∈ metL c vs (co l), y ∈ F ∨ y ∈ W
theorem chs_nil {c : List (List (Str × Bool))} {vs : List Str} {t : Str × Bool} : Chs c vs t [] (metL c vs t) := ⟨.nil, fun _ h => (by cases h), fun _ h => .base h, fun _ h => .inr h, fun _ h => (by cases h)⟩
theorem chs_skip {c : List (List (Str × Bool))} {vs : List Str} {t x : Str × Bool} {F W : List (Str × Bool)} (h : Chs c vs t F (W ++ [x])) (hx : x ∈ F) : Chs c vs t F W := by
  have k : ∀ y, y ∈ F ∨ y ∈ W ++ [x] → y ∈ F ∨ y ∈ W := fun y hy => by
    rcases hy with hy | hy
    · exact .inl hy
    · rcases List.mem_append.mp hy with hy | hy
      · exact .inr hy
      · cases List.mem_singleton.mp hy; exact .inl hx
  exact ⟨h.nd, h.fr, fun l hl => h.wr l (List.mem_append_left _ hl), fun y hy => k y (h.st y hy), fun l hl y hy => k y (h.cl l hl y hy)⟩
theorem chs_add {c : List (List (Str × Bool))} {vs : List Str} {t x : Str × Bool} {F W : List (Str × Bool)} (h : Chs c vs t F (W ++ [x])) (hx : x ∉ F) : Chs c vs t (F ++ [x]) (W ++ metL c vs (co x)) := by
  have rx : Rch c vs t x := h.wr x (List.mem_append_right _ (.head _))
  have k : ∀ y, y ∈ F ∨ y ∈ W ++ [x] → y ∈ F ++ [x] ∨ y ∈ W ++ metL c vs (co x) := fun y hy => by
    rcases hy with hy | hy
    · exact .inl (List.mem_append_left _ hy)
    · rcases List.mem_append.mp hy with hy | hy
      · exact .inr (List.mem_append_left _ hy)
      · exact .inl (List.mem_append_right _ hy)
  refine ⟨List.nodup_append.mpr ⟨h.nd, by simp, fun a ha b hb e => ?_⟩, fun l hl => ?_, fun l hl => ?_, fun y hy => k y (h.st y hy), fun l hl y hy => ?_⟩
  · cases List.mem_singleton.mp hb; exact hx (e ▸ ha)
  · rcases List.mem_append.mp hl with hl | hl
    · exact h.fr l hl
    · cases List.mem_singleton.mp hl; exact rx
  · rcases List.mem_append.mp hl with hl | hl
    · exact h.wr l (List.mem_append_left _ hl)
    · exact .step rx hl
  · rcases List.mem_append.mp hl with hl | hl
    · exact k y (h.cl l hl y hy)
    · cases List.mem_singleton.mp hl; exact .inr (List.mem_append_right _ hy)
theorem chs_end {o : List (Str × List Str)} {c : List (List (Str × Bool))} {s : Str} {b : Bool} {F : List (Str × Bool)} (h : Chs c (vw o s) (s, b) F []) : Goes o c s b F := ⟨h.nd, fun l => ⟨h.fr l, fun r => by
  induction r with
  | base hy => exact (h.st _ hy).elim id fun z => by cases z
  | step _ hy ih => exact (h.cl _ ih _ hy).elim id fun z => by cases z⟩⟩
theorem chs_len {c : List (List (Str × Bool))} {vs : List Str} {t : Str × Bool} {F W : List (Str × Bool)} (h : Chs c vs t F W) : F.length ≤ 2 * vs.length := rch_len h.nd h.fr
theorem shaped_ls {W : List (Str × Bool)} (h : ∀ l ∈ W, Nm l.1) : SeqAt.shaped (.list (W.map dL)) = true := by
  obtain ⟨h3, h4⟩ := lay_dL (names := W.map (·.1)) (fun s hs => by obtain ⟨l, hl, rfl⟩ := List.mem_map.mp hs; exact h l hl) (c := W) fun y hy => List.mem_map_of_mem hy
  have l1 : (PyData.list (W.map dL)).canLay0 = true := by simp only [PyData.canLay0, h3]
  have l2 : (PyData.list (W.map dL)).depth ≤ 2 := by simp only [PyData.depth]; omega
  show ((PyData.list (W.map dL)).canLay0 && decide ((PyData.list (W.map dL)).depth ≤ 64)) = true
  rw [l1, decide_eq_true (Nat.le_trans l2 (by decide))]
  rfl
theorem ne_nil {W : List (Str × Bool)} {q : PyData → Prop} (h : ∀ l ∈ W, Nm l.1) (hq : q (.bool (decide (W ≠ [])))) : dEq true (.list (W.map dL)) (.list []) q := by
  refine ⟨shaped_ls h, rfl, ?_⟩
  cases W with
  | nil => exact hq
  | cons a t => exact hq
theorem vw_mem {o : List (Str × List Str)} {s x : Str} : x ∈ vw o s ↔ ∃ y ∈ o, s ∈ y.2 ∧ x = y.1 := by
  unfold vw
  simp only [List.mem_map, List.mem_filter, decide_eq_true_eq]
  exact ⟨fun ⟨y, ⟨h1, h2⟩, e⟩ => ⟨y, h1, h2, e.symm⟩, fun ⟨y, h1, h2, e⟩ => ⟨y, ⟨h1, h2⟩, e.symm⟩⟩
theorem rch_nm {p : List Str} {o : List (Str × List Str)} {c : List (List (Str × Bool))} (ok : SayOk p o c) {s : Str} {t l : Str × Bool} (h : Rch c (vw o s) t l) : Nm l.1 := by
  obtain ⟨y, hy, _, e⟩ := vw_mem.mp (rch_vw h)
  rw [e]
  exact (ok.oo y hy).1
theorem in_some {l : Str × Bool} {L : List (Str × Bool)} {v : PyData} : (dGet (L.map fun x => (dL x, v)) (dL l)).isSome = decide (l ∈ L) := (enc_mem enc_dL L).trans (decide_eq_decide.mpr Iff.rfl)
theorem fit_ls {l : Str × Bool} {L : List (Str × Bool)} {v : PyData} : dFit (L.map fun x => (dL x, v)) (dL l) := enc_fit enc_dL (k := fun x => x) (v := fun _ => v) L
theorem srt_ls (L : List (Str × Bool)) : SrtOk (L.map dL) := by
  have e : L.map dL = L.map PySem.W.Datum.toD := List.map_congr_left fun _ _ => rfl
  have tt : ∀ d ∈ L.map PySem.W.Datum.toD, ∃ xs, d = PyData.tuple xs := fun d hd => by
    obtain ⟨a, _, rfl⟩ := List.mem_map.mp hd
    exact ⟨_, rfl⟩
  rw [e]
  exact ⟨alike_typed L, Or.inr tt, depth_typed (by decide) L⟩
theorem keys_vs (vs : List Str) (v : PyData) : List.map (fun x : PyData × PyData => x.1) (vs.map fun x => (PyData.str x, v)) = vs.map .str := by rw [List.map_map]; rfl
theorem put_ls {x : Str × Bool} {v : PyData} (F : List (Str × Bool)) : dPut (F.map fun l => (dL l, v)) (dL x) v = (if x ∈ F then F else F ++ [x]).map fun l => (dL l, v) := by
  rw [enc_put enc_dL]
  congr
def hgB (L M : List (Str × Bool)) (s : Str) : Bool := decide ((s, false) ∈ L ∧ (s, true) ∈ M ∨ (s, true) ∈ L ∧ (s, false) ∈ M)
def IdleAt (o : List (Str × List Str)) (c : List (List (Str × Bool))) (s x : Str) : Prop := x ∈ vw o s ∧ ∀ L M, Goes o c s true L → Goes o c s false M → hgB L M x = false
def IdleOf (p : List Str) (o : List (Str × List Str)) (c : List (List (Str × Bool))) (I : List (Str × Str)) : Prop := I.Nodup ∧ ∀ y, y ∈ I ↔ y.2 ∈ p ∧ IdleAt o c y.2 y.1
def dP (y : Str × Str) : PyData := .tuple [.str y.1, .str y.2]
theorem goes_same {o : List (Str × List Str)} {c : List (List (Str × Bool))} {s : Str} {b : Bool} {L M : List (Str × Bool)} (h1 : Goes o c s b L) (h2 : Goes o c s b M) (l : Str × Bool) : l ∈ L ↔ l ∈ M := (h1.2 l).trans (h2.2 l).symm
theorem hg_same {o : List (Str × List Str)} {c : List (List (Str × Bool))} {s x : Str} {L M L2 M2 : List (Str × Bool)} (h1 : Goes o c s true L) (h2 : Goes o c s false M) (h3 : Goes o c s true L2) (h4 : Goes o c s false M2) : hgB L M x = hgB L2 M2 x := by
  unfold hgB
  rw [decide_eq_decide, goes_same h1 h3, goes_same h2 h4, goes_same h1 h3, goes_same h2 h4]
theorem idle_step {p : List Str} {o : List (Str × List Str)} {c : List (List (Str × Bool))} {s : Str} {i : Nat} {A : List (Str × Str)} {L M : List (Str × Bool)} (h1 : Goes o c s true L) (h2 : Goes o c s false M) (tk : p.take (i + 1) = p.take i ++ [s]) (np : p.Nodup) (nv : (vw o s).Nodup) (hA : IdleOf (p.take i) o c A) : IdleOf (p.take (i + 1)) o c (A ++ ((vw o s).filter fun x => !hgB L M x).map fun x => (x, s)) := by
  have ns : s ∉ p.take i := fun z => by
    have := (List.take_sublist (i + 1) p).nodup np
    rw [tk, List.nodup_append] at this
    exact this.2.2 s z s (.head _) rfl
  have ia : ∀ x, x ∈ ((vw o s).filter fun x => !hgB L M x) ↔ IdleAt o c s x := fun x => by
    rw [List.mem_filter]
    refine and_congr_right fun _ => ⟨fun h L2 M2 h3 h4 => ?_, fun h => by rw [h L M h1 h2]; rfl⟩
    rw [← hg_same h1 h2 h3 h4]
    simpa using h
  refine ⟨List.nodup_append.mpr ⟨hA.1, ?_, fun a ha b hb e => ?_⟩, fun y => ?_⟩
  · exact List.Pairwise.map _ (fun a b n e => n (Prod.mk.inj e).1) ((List.filter_sublist).nodup nv)
  · obtain ⟨x, _, rfl⟩ := List.mem_map.mp hb
    exact ns (by have := ((hA.2 a).mp ha).1; rw [e] at this; exact this)
  · rw [List.mem_append, hA.2, tk, List.mem_append, List.mem_singleton]
    constructor
    · rintro (h | h)
      · exact ⟨.inl h.1, h.2⟩
      · obtain ⟨x, hx, rfl⟩ := List.mem_map.mp h
        exact ⟨.inr rfl, (ia x).mp hx⟩
    · rintro ⟨h | h, hi⟩
      · exact .inl ⟨h, hi⟩
      · refine .inr (List.mem_map.mpr ⟨y.1, (ia y.1).mpr (h ▸ hi), ?_⟩)
        rw [← h]
theorem srt_dP (L : List (Str × Str)) : SrtOk (L.map dP) := by
  have e : L.map dP = L.map PySem.W.Datum.toD := List.map_congr_left fun _ _ => rfl
  have tt : ∀ d ∈ L.map PySem.W.Datum.toD, ∃ xs, d = PyData.tuple xs := fun d hd => by
    obtain ⟨a, _, rfl⟩ := List.mem_map.mp hd
    exact ⟨_, rfl⟩
  rw [e]
  exact ⟨alike_typed L, Or.inr tt, depth_typed (by decide) L⟩
theorem fit_vs {x : Str} {vs : List Str} {v : PyData} : dFit (vs.map fun x => (PyData.str x, v)) (.str x) := enc_fit enc_str (k := fun x => x) (v := fun _ => v) vs
theorem some_vs {x : Str} {vs : List Str} {p : Str → Bool} {v : PyData} (h : x ∈ vs) : (!(dGet ((vs.filter p).map fun x => (PyData.str x, v)) (.str x)).isSome) = !p x := by
  rw [enc_mem enc_str]
  congr 1
  cases e : p x with
  | true => exact decide_eq_true (List.mem_filter.mpr ⟨h, e⟩)
  | false => exact decide_eq_false fun z => by rw [(List.mem_filter.mp z).2] at e; cases e
def kB (y : Str × Bool) : PyData × PyData := (.str y.1, .bool y.2)
theorem put_kB {F : List (Str × Bool)} (nd : (F.map (·.1)).Nodup) (a : Str) (b : Bool) : ∃ G : List (Str × Bool), dPut (F.map kB) (.str a) (.bool b) = G.map kB ∧ (G.map (·.1)).Nodup ∧ (∀ y ∈ G, y.1 = a ∨ y.1 ∈ F.map (·.1)) ∧ G.length ≤ F.length + 1 := by
  by_cases h : a ∈ F.map (·.1)
  · refine ⟨F.map fun y => if y.1 = a then (y.1, b) else y, ?_, ?_, fun y hy => ?_, by rw [List.length_map]; omega⟩
    · unfold dPut
      have e : ((F.map kB).any fun kv => keyQ kv.1 (.str a)) = true := by
        rw [show F.map kB = F.map fun y => (PyData.str y.1, PyData.bool y.2) from rfl, enc_any enc_str]
        exact decide_eq_true h
      rw [if_pos e, List.map_map, List.map_map]
      refine List.map_congr_left fun y _ => ?_
      show (if keyQ (.str y.1) (.str a) = true then (PyData.str y.1, PyData.bool b) else (PyData.str y.1, PyData.bool y.2)) = kB (if y.1 = a then (y.1, b) else y)
      rw [enc_str.kq]
      by_cases z : y.1 = a
      · rw [decide_eq_true z, if_pos rfl, if_pos z]; rfl
      · rw [decide_eq_false z, if_neg Bool.false_ne_true, if_neg z]; rfl
    · rw [List.map_map]
      have e : F.map ((fun y : Str × Bool => y.1) ∘ fun y => if y.1 = a then (y.1, b) else y) = F.map (·.1) := List.map_congr_left fun y _ => by
        show (if y.1 = a then (y.1, b) else y).1 = y.1
        split <;> rfl
      rw [e]; exact nd
    · obtain ⟨x, hx, rfl⟩ := List.mem_map.mp hy
      refine .inr ?_
      have e : (if x.1 = a then (x.1, b) else x).1 = x.1 := by split <;> rfl
      rw [e]
      exact List.mem_map_of_mem (f := fun y : Str × Bool => y.1) hx
  · refine ⟨F ++ [(a, b)], ?_, ?_, fun y hy => ?_, by rw [List.length_append]; exact Nat.le_refl _⟩
    · rw [show F.map kB = F.map fun y => (PyData.str y.1, PyData.bool y.2) from rfl, enc_new enc_str h, List.map_append]
      rfl
    · rw [List.map_append]
      refine List.nodup_append.mpr ⟨nd, by simp, fun x hx y hy => ?_⟩
      cases List.mem_singleton.mp hy
      exact fun e => h (show a ∈ F.map (·.1) by have e : x = a := e; rw [← e]; exact hx)
    · rcases List.mem_append.mp hy with hy | hy
      · exact .inr (List.mem_map_of_mem hy)
      · cases List.mem_singleton.mp hy; exact .inl rfl
theorem get_kB {F : List (Str × Bool)} (nd : (F.map (·.1)).Nodup) {y : Str × Bool} (h : y ∈ F) : dGet (F.map kB) (.str y.1) = some (.bool y.2) := enc_val enc_str (k := fun y : Str × Bool => y.1) (v := fun y => .bool y.2) nd h
theorem fit_kB {F : List (Str × Bool)} {s : Str} : dFit (F.map kB) (.str s) := enc_fit enc_str (k := fun y : Str × Bool => y.1) (v := fun y => .bool y.2) F
theorem keys_kB (F : List (Str × Bool)) : List.map (fun x : PyData × PyData => x.1) (F.map kB) = F.map fun y => .str y.1 := by rw [List.map_map]; rfl
theorem lay_strs : ∀ {ss : List Str}, (∀ s ∈ ss, Nm s) → PyData.canLayAll0 (ss.map .str) = true ∧ PyData.depthAll (ss.map .str) ≤ 0
  | [], _ => ⟨rfl, by decide⟩
  | s :: ss, h => by
    obtain ⟨h1, h2⟩ := lay_strs fun x hx => h x (.tail _ hx)
    have l1 : (PyData.str s).canLay0 = true := by simp only [PyData.canLay0, nm_ok (h s (.head _))]
    have l2 : (PyData.str s).depth = 0 := by simp only [PyData.depth]
    rw [List.map_cons]
    exact ⟨by rw [PyData.canLayAll0, h1, l1]; rfl, by rw [PyData.depthAll]; omega⟩
theorem shaped_strsL {ss : List Str} (h : ∀ s ∈ ss, Nm s) : SeqAt.shaped (.list (ss.map .str)) = true := by
  obtain ⟨h3, h4⟩ := lay_strs h
  have l1 : (PyData.list (ss.map .str)).canLay0 = true := by simp only [PyData.canLay0, h3]
  have l2 : (PyData.list (ss.map .str)).depth ≤ 1 := by simp only [PyData.depth]; omega
  show ((PyData.list (ss.map .str)).canLay0 && decide ((PyData.list (ss.map .str)).depth ≤ 64)) = true
  rw [l1, decide_eq_true (Nat.le_trans l2 (by decide))]
  rfl
theorem shaped_strsT {ss : List Str} (h : ∀ s ∈ ss, Nm s) : SeqAt.shaped (.tuple (ss.map .str)) = true := by
  obtain ⟨h3, h4⟩ := lay_strs h
  have l1 : (PyData.tuple (ss.map .str)).canLay0 = true := by simp only [PyData.canLay0, h3]
  have l2 : (PyData.tuple (ss.map .str)).depth ≤ 1 := by simp only [PyData.depth]; omega
  show ((PyData.tuple (ss.map .str)).canLay0 && decide ((PyData.tuple (ss.map .str)).depth ≤ 64)) = true
  rw [l1, decide_eq_true (Nat.le_trans l2 (by decide))]
  rfl
theorem ne_lst {xs : List PyData} (h : (!PyData.eqv (.list xs) (.list [])) = true) : 0 < xs.length := by
  cases xs with
  | nil => cases h
  | cons a t => exact Nat.succ_pos _
theorem ne_tup {xs : List PyData} (h : (!PyData.eqv (.tuple xs) (.tuple [])) = true) : 0 < xs.length := by
  cases xs with
  | nil => cases h
  | cons a t => exact Nat.succ_pos _
theorem put_enc {α : Type} [DecidableEq α] {e : α → PyData} (E : Enc e) {v : PyData} {xs : List α} (nd : xs.Nodup) (a : α) : ∃ G : List α, dPut (xs.map fun x => (e x, v)) (e a) v = G.map (fun x => (e x, v)) ∧ G.Nodup ∧ (∀ x, x ∈ G ↔ x ∈ xs ∨ x = a) ∧ G.length ≤ xs.length + 1 := ⟨_, enc_put E xs, nodup_put nd⟩
theorem fit_enc {α : Type} [DecidableEq α] {e : α → PyData} (E : Enc e) {v : PyData} {xs : List α} {a : α} : dFit (xs.map fun x => (e x, v)) (e a) := enc_fit E (k := fun x => x) (v := fun _ => v) xs
theorem keys_enc {α : Type} {e : α → PyData} {v : PyData} (xs : List α) : List.map (fun x : PyData × PyData => x.1) (xs.map fun x => (e x, v)) = xs.map e := by rw [List.map_map]; rfl
open PySem.W in
theorem srt_dC {cs : List (List (Str × Bool))} (nd : cs.Nodup) : SrtOk (cs.map dC) ∧ ∀ ys, Srt (cs.map dC) ys → ∃ c : List (List (Str × Bool)), ys = c.map dC ∧ c.Perm cs ∧ (c.map Tup.mk).Pairwise fun a b => DatumOrd.lt a b = true := by
  obtain ⟨h1, h2⟩ := ok_clauses cs
  refine ⟨⟨h1, Or.inr fun d hd => ?_, h2⟩, fun ys h => ?_⟩
  · obtain ⟨x, _, rfl⟩ := List.mem_map.mp hd
    exact ⟨_, rfl⟩
  · have e : cs.map dC = (cs.map Tup.mk).map Datum.toD := by rw [List.map_map]; rfl
    rw [e] at h
    obtain ⟨zs, rfl, p, w⟩ := srt_typed h
    have ez : (zs.map Tup.items).map Tup.mk = zs := by rw [List.map_map]; exact List.map_id _
    have nd2 : (cs.map Tup.mk).Nodup := List.Pairwise.map _ (fun a b n e => n (by injection e)) nd
    refine ⟨zs.map Tup.items, by rw [List.map_map]; rfl, ?_, by rw [ez]; exact srt_strict w (p.nodup_iff.mpr nd2)⟩
    have := p.map Tup.items
    rw [List.map_map] at this
    exact this.trans (by rw [show (Tup.items ∘ Tup.mk : List (Str × Bool) → _) = id from rfl, List.map_id])
theorem mod_wrap {x l : Int} (h0 : 0 ≤ x) (h1 : x < 2 * l) : x % l = if x < l then x else x - l := by
  split
  · exact Int.emod_eq_of_lt h0 (by assumption)
  · rw [← Int.sub_emod_right]
    exact Int.emod_eq_of_lt (by omega) (by omega)
theorem merge_app {α : Type} [DecidableEq α] {e : α → PyData} (E : Enc e) {v : PyData} : ∀ {xs ys : List α}, (xs ++ ys).Nodup → mergeD (xs.map fun x => (e x, v)) (ys.map fun x => (e x, v)) = (xs ++ ys).map fun x => (e x, v)
  | xs, [], _ => by rw [List.append_nil]; rfl
  | xs, y :: ys, nd => by
    have nx : y ∉ xs := fun z => (List.nodup_append.mp nd).2.2 y z y (.head _) rfl
    have e1 : xs ++ y :: ys = (xs ++ [y]) ++ ys := by simp
    have ih := merge_app E (v := v) (xs := xs ++ [y]) (ys := ys) (e1 ▸ nd)
    have e2 : dPut (xs.map fun x => (e x, v)) (e y) v = (xs ++ [y]).map fun x => (e x, v) := by rw [enc_put E, if_neg nx]
    rw [e1, ← ih, ← e2]
    rfl
theorem merge_enc {α : Type} [DecidableEq α] {e : α → PyData} (E : Enc e) {v : PyData} {xs : List α} (nd : xs.Nodup) : mergeD [] (xs.map fun x => (e x, v)) = xs.map fun x => (e x, v) := merge_app E (xs := []) nd
theorem all_tupK {α : Type} [DecidableEq α] {e : α → PyData} (E : Enc e) {v : PyData} (xs : List α) : ((xs.map fun x => (e x, v)).all fun kv => flatK kv.1) = true ∨ ((xs.map fun x => (e x, v)).all fun kv => tupK kv.1) = true := by
  rcases E.fit with h | h
  · exact .inl (by rw [List.all_map, List.all_eq_true]; exact fun x _ => h x)
  · exact .inr (by rw [List.all_map, List.all_eq_true]; exact fun x _ => h x)
open PySem.W in
theorem clauses_nodup {c : List (List (Str × Bool))} (h : (c.map Tup.mk).Pairwise fun a b => DatumOrd.lt a b = true) : c.Nodup := by
  have := lt_nodup h
  exact (List.pairwise_map.mp this).imp fun n e => n (by rw [e])
structure FrC (z : Int) (p : List Str) (o : List (Str × List Str)) : Prop where
  oo : ∀ x ∈ o, x.2.Sublist p
  om : (o.map fun x => (2 : Int) ^ x.2.length).sum ≤ z
structure SayW (p : List Str) (o : List (Str × List Str)) (c : List (List (Str × Bool))) : Prop where
  fr : FrOk p o
  cl : c.length ≤ 40
  ca : (c.map PySem.W.Tup.mk).Pairwise fun a b => PySem.W.DatumOrd.lt a b = true
  cc : ∀ x ∈ c, ClOk (p ++ o.map (·.1)) x
theorem SayW.ok {p : List Str} {o : List (Str × List Str)} {c : List (List (Str × Bool))} (h : SayW p o c) : SayOk p o c := say_ok h.fr h.cl h.ca h.cc
theorem at_k {α : Type} {xs : List α} {f : α → PyData} {z : Int} (h0 : 0 ≤ z) (h1 : z < ((xs.map f).length : Int)) : ∃ (k : Nat) (x : α), z = k ∧ xs[k]? = some x ∧ x ∈ xs ∧ atI (xs.map f) z = some (f x) := by
  obtain ⟨k, rfl⟩ := Int.eq_ofNat_of_zero_le h0
  have hk : k < xs.length := by rw [List.length_map] at h1; omega
  exact ⟨k, xs[k], rfl, List.getElem?_eq_getElem hk, List.getElem_mem hk, atI_nat (by rw [List.getElem?_map, List.getElem?_eq_getElem hk]; rfl)⟩
theorem nodup_at {α : Type} {xs : List α} (nd : xs.Nodup) {i j : Nat} {x y : α} (h1 : xs[i]? = some x) (h2 : xs[j]? = some y) (n : i ≠ j) : x ≠ y := by
  obtain ⟨l1, rfl⟩ := List.getElem?_eq_some_iff.mp h1
  obtain ⟨l2, rfl⟩ := List.getElem?_eq_some_iff.mp h2
  have := List.pairwise_iff_getElem.mp nd
  rcases Nat.lt_or_gt_of_ne n with z | z
  · exact this i j l1 l2 z
  · exact fun e => this j i l2 l1 z e.symm
/-! the other way to the same letters -/
structure Chl (c : List (List (Str × Bool))) (vs : List Str) (t : Str × Bool) (F O : List (Str × Bool)) : Prop where
  nd : F.Nodup
  fr : ∀ l ∈ F, Rch c vs t l
  op : ∀ l ∈ O, l = t ∨ ∃ r, Rch c vs t r ∧ l = co r
  pr : ∀ l, (l = t ∨ ∃ r ∈ F, l = co r) → l ∈ O ∨ ∀ y ∈ metL c vs l, y ∈ F
theorem chl_nil {c : List (List (Str × Bool))} {vs : List Str} {t : Str × Bool} : Chl c vs t [] [t] := ⟨.nil, fun _ h => (by cases h), fun _ h => .inl (List.mem_singleton.mp h), fun l h => by
  rcases h with rfl | ⟨_, h, _⟩
  · exact .inl (.head _)
  · cases h⟩
theorem chl_step {c : List (List (Str × Bool))} {vs : List Str} {t l : Str × Bool} {F O G : List (Str × Bool)} (h : Chl c vs t F (O ++ [l])) (nd : (F ++ G).Nodup) (gm : ∀ g ∈ G, g ∈ metL c vs l) (all : ∀ y ∈ metL c vs l, y ∈ F ++ G) : Chl c vs t (F ++ G) (O ++ G.map co) := by
  have gr : ∀ g ∈ G, Rch c vs t g := fun g hg => by
    rcases h.op l (List.mem_append_right _ (.head _)) with rfl | ⟨r, hr, rfl⟩
    · exact .base (gm g hg)
    · exact .step hr (gm g hg)
  refine ⟨nd, fun y hy => (List.mem_append.mp hy).elim (h.fr y) (gr y), fun y hy => ?_, fun y hy => ?_⟩
  · rcases List.mem_append.mp hy with hy | hy
    · exact h.op y (List.mem_append_left _ hy)
    · obtain ⟨g, hg, rfl⟩ := List.mem_map.mp hy
      exact .inr ⟨g, gr g hg, rfl⟩
  · have old : (y = t ∨ ∃ r ∈ F, y = co r) → y ∈ O ++ G.map co ∨ ∀ z ∈ metL c vs y, z ∈ F ++ G := fun hy => by
      rcases h.pr y hy with k | k
      · rcases List.mem_append.mp k with k | k
        · exact .inl (List.mem_append_left _ k)
        · cases List.mem_singleton.mp k; exact .inr all
      · exact .inr fun z hz => List.mem_append_left _ (k z hz)
    rcases hy with hy | ⟨r, hr, rfl⟩
    · exact old (.inl hy)
    · rcases List.mem_append.mp hr with hr | hr
      · exact old (.inr ⟨r, hr, rfl⟩)
      · exact .inl (List.mem_append_right _ (List.mem_map_of_mem hr))
theorem chl_end {o : List (Str × List Str)} {c : List (List (Str × Bool))} {s : Str} {b : Bool} {F : List (Str × Bool)} (h : Chl c (vw o s) (s, b) F []) : Goes o c s b F := ⟨h.nd, fun l => ⟨h.fr l, fun r => by
  induction r with
  | base hy => exact (h.pr _ (.inl rfl)).elim (fun z => by cases z) fun z => z _ hy
  | step _ hy ih => exact (h.pr _ (.inr ⟨_, ih, rfl⟩)).elim (fun z => by cases z) fun z => z _ hy⟩⟩
theorem chl_nm {p : List Str} {o : List (Str × List Str)} {c : List (List (Str × Bool))} (ok : SayOk p o c) {s : Str} (hs : s ∈ p) {b : Bool} {F O : List (Str × Bool)} (h : Chl c (vw o s) (s, b) F O) : ∀ l ∈ O, Nm l.1 := fun l hl => by
  rcases h.op l hl with rfl | ⟨r, hr, rfl⟩
  · exact ok.pn s hs
  · exact (rch_nm ok hr : Nm r.1)
theorem in_lsL {y : Str × Bool} {F : List (Str × Bool)} {n : Bool} {q : PyData → Prop} (h : Nm y.1) (hF : ∀ l ∈ F, Nm l.1) (hq : q (.bool (if n then !decide (y ∈ F) else decide (y ∈ F)))) : dIn n (dL y) (.list (F.map dL)) q := ⟨shaped_dL h, shaped_ls hF, by
  show q (.bool (if n then !(F.map dL).any fun z => PyData.eqv z (dL y) else (F.map dL).any fun z => PyData.eqv z (dL y)))
  rw [any_dL]
  exact hq⟩
theorem vs_len {vs : List Str} {L : List (Str × Bool)} (n : L.Nodup) (h : ∀ l ∈ L, l.1 ∈ vs) : L.length ≤ 2 * vs.length := by
  rw [← bo2_len]
  exact nodup_le n fun x hx => bo2_mem (h x hx)
theorem vw_nm {p : List Str} {o : List (Str × List Str)} {c : List (List (Str × Bool))} (ok : SayOk p o c) {s x : Str} (h : x ∈ vw o s) : Nm x := by
  obtain ⟨y, hy, _, rfl⟩ := vw_mem.mp h
  exact (ok.oo y hy).1
theorem vw_own {o : List (Str × List Str)} {s x : Str} (h : x ∈ vw o s) : x ∈ o.map (·.1) := by
  obtain ⟨y, hy, _, rfl⟩ := vw_mem.mp h
  exact List.mem_map_of_mem hy
theorem hg_form {L M L2 M2 : List (Str × Bool)} {x : Str} (hL : ∀ l, l ∈ L2 ↔ l ∈ L) (hM : ∀ l, l ∈ M2 ↔ l ∈ M) : hgB L M x = ((decide ((x, true) ∈ L2) && decide ((x, false) ∈ M2)) || (decide ((x, false) ∈ L2) && decide ((x, true) ∈ M2))) := by
  unfold hgB
  rw [Bool.eq_iff_iff]
  simp only [Bool.or_eq_true, Bool.and_eq_true, decide_eq_true_eq, hL, hM]
  exact or_comm
theorem in_strsL {s : Str} {vs : List Str} {q : PyData → Prop} (hq : q (.bool (decide (s ∈ vs)))) : dIn false (.str s) (.list (vs.map .str)) q := ⟨rfl, flat_str, by
  rw [any_str]
  exact hq⟩
/-! ### what is shown -/
def ShowOk (d : PyData) : Prop := ∀ q : Rs → Prop, q (.d (.str d.shown)) → sRepr [d] q
open PyProof.Rows PySem.SeqAt in
theorem sh_lst {xs : List PyData} {B n : Nat} (h : ∀ d ∈ xs, d.shown.length ≤ B) (hn : xs.length ≤ n) : (PyData.list xs).shown.length ≤ n * (B + 2) + 2 := by
  have h1 := sh_all h
  have h2 := Nat.mul_le_mul_right (B + 2) hn
  rw [PyData.shown, listText_eq_join]
  obtain ⟨ts, et⟩ : ∃ ts, ts = PyData.shownAll xs := ⟨_, rfl⟩
  rw [← et] at h1 ⊢
  have e1 : ((("[" : Str) ++ Str.join ", " ts ++ "]" : Str)).length = 1 + (Str.join ", " ts).length + 1 := by
    rw [PySem.strLen_append, PySem.strLen_append]; rfl
  rw [e1]
  cases ts with
  | nil => rw [show (Str.join ", " []).length = 0 from rfl]; omega
  | cons t r =>
    have := join_length_add (t :: r) (by simp)
    omega
theorem rep_seq {α : Type} {g : α → PyData} {xs : List α} {n B : Nat} (hs : ∀ x, (g x).showable = true ∧ (g x).hasDict = false) (hd : ∀ x, (g x).depth ≤ 60) (hB : ∀ x ∈ xs, (g x).shown.length ≤ B) (hn : xs.length ≤ n) (hm : n * (B + 2) + 2 ≤ 16777216) : ShowOk (.tuple (xs.map g)) ∧ ShowOk (.list (xs.map g)) := by
  have a := show_map hs xs
  have b := dep_map hd xs
  have c : ∀ d ∈ xs.map g, d.shown.length ≤ B := fun d h => by
    obtain ⟨x, hx, rfl⟩ := List.mem_map.mp h
    exact hB x hx
  refine ⟨fun q hq => ⟨_, rfl, .inl ⟨⟨_, .inr rfl⟩, ?_, ?_, ?_⟩, Nat.le_trans (sh_tup c (by rw [List.length_map]; exact hn)) hm, hq⟩, fun q hq => ⟨_, rfl, .inl ⟨⟨_, .inl rfl⟩, ?_, ?_, ?_⟩, Nat.le_trans (sh_lst c (by rw [List.length_map]; exact hn)) hm, hq⟩⟩
  · rw [PyData.showable]; exact a.1
  · rw [PyData.hasDict]; exact a.2
  · rw [PyData.depth]; omega
  · rw [PyData.showable]; exact a.1
  · rw [PyData.hasDict]; exact a.2
  · rw [PyData.depth]; omega
theorem show_dL (x : Str × Bool) : (dL x).showable = true ∧ (dL x).hasDict = false ∧ (dL x).depth ≤ 60 := by
  unfold dL
  exact ⟨by simp only [PyData.showable, PyData.showableAll, Bool.and_self], by simp only [PyData.hasDict, PyData.hasDictAll, Bool.or_self], by simp only [PyData.depth, PyData.depthAll]; omega⟩
theorem show_dP (x : Str × Str) : (dP x).showable = true ∧ (dP x).hasDict = false ∧ (dP x).depth ≤ 60 := by
  unfold dP
  exact ⟨by simp only [PyData.showable, PyData.showableAll, Bool.and_self], by simp only [PyData.hasDict, PyData.hasDictAll, Bool.or_self], by simp only [PyData.depth, PyData.depthAll]; omega⟩
theorem shl_dL {x : Str × Bool} (h : Nm x.1) : (dL x).shown.length ≤ 170 := by
  refine sh_tup (B := 82) (n := 2) (fun d hd => ?_) (Nat.le_refl _)
  simp only [List.mem_cons, List.not_mem_nil, or_false] at hd
  rcases hd with rfl | rfl
  · exact sh_nm h
  · rw [PyData.shown]; cases x.2 <;> decide +kernel
theorem shl_dP {x : Str × Str} (h : Nm x.1) (h2 : Nm x.2) : (dP x).shown.length ≤ 170 := by
  refine sh_tup (B := 82) (n := 2) (fun d hd => ?_) (Nat.le_refl _)
  simp only [List.mem_cons, List.not_mem_nil, or_false] at hd
  rcases hd with rfl | rfl
  · exact sh_nm h
  · exact sh_nm h2
theorem rep_dL {L : List (Str × Bool)} {n : Nat} (hn : ∀ l ∈ L, Nm l.1) (hl : L.length ≤ n) (h1 : n ≤ 90000) : ShowOk (.tuple (L.map dL)) ∧ ShowOk (.list (L.map dL)) :=
  rep_seq (n := n) (B := 170) (fun x => ⟨(show_dL x).1, (show_dL x).2.1⟩) (fun x => (show_dL x).2.2) (fun x hx => shl_dL (hn x hx)) hl (by omega)
theorem rep_dP {I : List (Str × Str)} {n : Nat} (hn : ∀ l ∈ I, Nm l.1 ∧ Nm l.2) (hl : I.length ≤ n) (h1 : n ≤ 90000) : ShowOk (.list (I.map dP)) :=
  (rep_seq (n := n) (B := 170) (fun x => ⟨(show_dP x).1, (show_dP x).2.1⟩) (fun x => (show_dP x).2.2) (fun x hx => shl_dP (hn x hx).1 (hn x hx).2) hl (by omega)).2
theorem rep_bool (b : Bool) : ShowOk (.bool b) := fun q hq => ⟨_, rfl, .inr (.b b), by cases b <;> decide +kernel, hq⟩

theorem merge_gen {α β : Type} [DecidableEq α] {e : α → PyData} (E : Enc e) {k : β → α} {v : β → PyData} : ∀ {xs ys : List β}, ((xs ++ ys).map k).Nodup → mergeD (xs.map fun x => (e (k x), v x)) (ys.map fun x => (e (k x), v x)) = (xs ++ ys).map fun x => (e (k x), v x)
  | xs, [], _ => by rw [List.append_nil]; rfl
  | xs, y :: ys, nd => by
    have nx : k y ∉ xs.map k := fun z => by
      rw [List.map_append] at nd
      exact (List.nodup_append.mp nd).2.2 _ z _ (.head _) rfl
    have e1 : xs ++ y :: ys = (xs ++ [y]) ++ ys := by simp
    have ih := merge_gen E (k := k) (v := v) (xs := xs ++ [y]) (ys := ys) (e1 ▸ nd)
    have e2 : dPut (xs.map fun x => (e (k x), v x)) (e (k y)) (v y) = (xs ++ [y]).map fun x => (e (k x), v x) := by rw [enc_new E nx, List.map_append]; rfl
    rw [e1, ← ih, ← e2]
    rfl
theorem merge_kB {F : List (Str × Bool)} (nd : (F.map (·.1)).Nodup) : mergeD [] (F.map kB) = F.map kB := merge_gen enc_str (k := fun y : Str × Bool => y.1) (v := fun y => .bool y.2) (xs := []) nd
end OS

namespace OS
open PySem L2
/-! Plain laws of family A: plays, what is seen, tables. -/
/-- all plays of so many picks -/
def PL : Nat → List (List Bool)
  | 0 => [[]]
  | n + 1 => (PL n).flatMap fun p => [p ++ [false], p ++ [true]]
def dB (p : List Bool) : PyData := .tuple (p.map .bool)
theorem pl_len : ∀ (n : Nat), (PL n).length = 2 ^ n
  | 0 => rfl
  | n + 1 => by
    rw [PL, List.length_flatMap]
    have e : ∀ l : List (List Bool), (l.map fun a => [a ++ [false], a ++ [true]].length).sum = 2 * l.length := fun l => by
      induction l with
      | nil => rfl
      | cons a t ih => rw [List.map_cons, List.sum_cons, ih, List.length_cons]; simp only [List.length_cons, List.length_nil]; omega
    rw [e, pl_len n, Nat.pow_succ]
    omega
theorem pl_mem : ∀ {n : Nat} {p : List Bool}, p ∈ PL n → p.length = n
  | 0, p, h => by cases List.mem_singleton.mp h; rfl
  | n + 1, p, h => by
    obtain ⟨a, ha, hp⟩ := List.mem_flatMap.mp h
    have := pl_mem ha
    simp only [List.mem_cons, List.not_mem_nil, or_false] at hp
    rcases hp with rfl | rfl <;> simp [this]
/-- where a row of truths stands in a table -/
def spN : List Bool → Nat
  | [] => 0
  | b :: r => (if b then 1 else 0) + 2 * spN r
theorem spN_lt : ∀ bs : List Bool, spN bs < 2 ^ bs.length
  | [] => Nat.one_pos
  | b :: r => by
    have := spN_lt r
    rw [spN, List.length_cons, Nat.pow_succ]
    split <;> omega
theorem spN_snoc : ∀ (bs : List Bool) (b : Bool), spN (bs ++ [b]) = spN bs + (if b then 2 ^ bs.length else 0)
  | [], b => by cases b <;> rfl
  | a :: r, b => by
    rw [List.cons_append, spN, spN_snoc r b, spN, List.length_cons, Nat.pow_succ]
    cases b
    · rfl
    · simp only [if_true]; omega
/-- the truth of a name in a row of names and truths -/
def tv (F : List (Str × Bool)) (s : Str) : Bool := ((F.find? fun y => decide (y.1 = s)).map (·.2)).getD false
/-- the truth of a pick in a play -/
def lk (p : List Str) (pl : List Bool) (s : Str) : Bool := tv (p.zip pl) s
theorem tv_mem : ∀ {F : List (Str × Bool)} {y : Str × Bool}, (F.map (·.1)).Nodup → y ∈ F → tv F y.1 = y.2
  | z :: F, y, nd, h => by
    rw [List.map_cons, List.nodup_cons] at nd
    unfold tv
    rw [List.find?_cons]
    by_cases e : z.1 = y.1
    · rw [decide_eq_true e]
      rcases List.mem_cons.mp h with rfl | h
      · rfl
      · exact absurd (e ▸ List.mem_map_of_mem (f := (·.1)) h) nd.1
    · rw [decide_eq_false e]
      rcases List.mem_cons.mp h with rfl | h
      · exact absurd rfl e
      · exact tv_mem nd.2 h
theorem get_tv {F : List (Str × Bool)} {s : Str} (nd : (F.map (·.1)).Nodup) (h : s ∈ F.map (·.1)) : dGet (F.map kB) (.str s) = some (.bool (tv F s)) := by
  obtain ⟨y, hy, rfl⟩ := List.mem_map.mp h
  rw [get_kB nd hy, tv_mem nd hy]
theorem zip_d : ∀ (p : List Str) (pl : List Bool), zipD (p.map .str) (pl.map .bool) = (p.zip pl).map dL
  | [], _ => rfl
  | _ :: _, [] => rfl
  | a :: p, b :: pl => congrArg (dL (a, b) :: ·) (zip_d p pl)
theorem zip_fst : ∀ {p : List Str} {pl : List Bool}, pl.length = p.length → (p.zip pl).map (·.1) = p
  | [], [], _ => rfl
  | a :: p, b :: pl, h => congrArg (a :: ·) (zip_fst (by simpa using h))
  | [], _ :: _, h => by cases h
  | _ :: _, [], h => by cases h
def bitsOf (n k : Nat) : List Bool := (List.range n).map fun i => k / 2 ^ i % 2 == 1
theorem sum_app1 (ns : List Int) (z : Int) : (ns ++ [z]).sum = ns.sum + z := by simp
theorem spN_take {bs : List Bool} {i : Nat} {b : Bool} (h : bs.take (i + 1) = bs.take i ++ [b]) (li : i < bs.length) : spN (bs.take (i + 1)) = spN (bs.take i) + (if b then 2 ^ i else 0) := by
  rw [h, spN_snoc, List.length_take, Nat.min_eq_left (Nat.le_of_lt li)]
/-- whether a letter of a clause is so -/
def soB (t : Str → Bool) (x : List (Str × Bool)) : Bool := x.any fun y => decide (t y.1 = y.2)
theorem ix_tv {F : List (Str × Bool)} {s : Str} {q : PyData → Prop} (nd : (F.map (·.1)).Nodup) (h : s ∈ F.map (·.1)) (hq : q (.bool (tv F s))) : dIx (.dict (F.map kB)) (.str s) q := ⟨_, get_tv nd h, fit_kB, hq⟩
theorem filt_true {α : Type} (xs : List α) : xs.filter (fun _ => true) = xs := List.filter_eq_self.mpr fun _ _ => rfl
theorem bits_snoc (i b : Nat) : bitsOf (i + 1) b = bitsOf i b ++ [b / 2 ^ i % 2 == 1] := by
  unfold bitsOf
  rw [List.range_succ, List.map_append]
  rfl
theorem zip_map {α β : Type} (f : α → PyData) (g : β → PyData) : ∀ (xs : List α) (ys : List β), zipD (xs.map f) (ys.map g) = (xs.zip ys).map fun y => .tuple [f y.1, g y.2]
  | [], _ => rfl
  | _ :: _, [] => rfl
  | x :: xs, y :: ys => congrArg (PyData.tuple [f x, g y] :: ·) (zip_map f g xs ys)
/-- answers: a table for each own -/
def dAns (ans : List (List Bool)) : PyData := .tuple (ans.map dB)
def AnsOk (o : List (Str × List Str)) (ans : List (List Bool)) : Prop := ans.map List.length = o.map fun x => 2 ^ x.2.length
/-- what an own says at a play -/
def sayT (p : List Str) (pl : List Bool) (y : List Bool × Str × List Str) : Str × Bool := (y.2.1, y.1.getD (spN (y.2.2.map (lk p pl))) false)
def trF (p : List Str) (o : List (Str × List Str)) (ans : List (List Bool)) (pl : List Bool) : List (Str × Bool) := p.zip pl ++ (ans.zip o).map (sayT p pl)
theorem ans_len {o : List (Str × List Str)} {ans : List (List Bool)} (h : AnsOk o ans) : ans.length = o.length := by
  have := congrArg List.length h
  rw [List.length_map, List.length_map] at this
  exact this
theorem ans_at {o : List (Str × List Str)} {ans : List (List Bool)} (h : AnsOk o ans) {y : List Bool × Str × List Str} (hy : y ∈ ans.zip o) : y.1.length = 2 ^ y.2.2.length := by
  obtain ⟨i, hi, e⟩ := List.getElem_of_mem hy
  rw [List.length_zip] at hi
  have h1 : i < ans.length := by omega
  have h2 : i < o.length := by omega
  rw [List.getElem_zip] at e
  have := congrArg (fun l => l[i]?) h
  simp only [List.getElem?_map, List.getElem?_eq_getElem h1, List.getElem?_eq_getElem h2, Option.map_some] at this
  rw [← e]
  exact Option.some.inj this
theorem zip_snd : ∀ {α β : Type} {xs : List α} {ys : List β}, xs.length = ys.length → (xs.zip ys).map (·.2) = ys
  | _, _, [], [], _ => rfl
  | _, _, a :: p, b :: pl, h => congrArg (b :: ·) (zip_snd (by simpa using h))
  | _, _, [], _ :: _, h => by cases h
  | _, _, _ :: _, [], h => by cases h
theorem tr_names {p : List Str} {o : List (Str × List Str)} {ans : List (List Bool)} {pl : List Bool} (h : AnsOk o ans) (hp : pl.length = p.length) : (trF p o ans pl).map (·.1) = p ++ o.map (·.1) := by
  unfold trF
  rw [List.map_append, zip_fst hp, List.map_map]
  have e : ((fun x : Str × Bool => x.1) ∘ sayT p pl) = (fun x : Str × List Str => x.1) ∘ fun y : List Bool × Str × List Str => y.2 := rfl
  rw [e, ← List.map_map, zip_snd (ans_len h)]
theorem say_names {p : List Str} {o : List (Str × List Str)} {c : List (List (Str × Bool))} (ok : SayOk p o c) : (p ++ o.map (·.1)).Nodup := by
  refine List.nodup_append.mpr ⟨strs_nodup ok.pa, own_nodup ok.oa, fun a ha b hb e => ?_⟩
  obtain ⟨x, hx, rfl⟩ := List.mem_map.mp hb
  exact (ok.oo x hx).2.1 (e ▸ ha)
theorem at_getD {bs : List Bool} {k : Nat} (h : k < bs.length) : atI (bs.map PyData.bool) (k : Int) = some (PyData.bool (bs.getD k false)) := by
  have e : (bs.map PyData.bool)[k]? = some (PyData.bool (bs.getD k false)) := by
    rw [List.getElem?_map, List.getElem?_eq_getElem h, List.getD_eq_getElem?_getD, List.getElem?_eq_getElem h]
    rfl
  exact atI_nat e
theorem put_new {F : List (Str × Bool)} {a : Str} {b : Bool} (h : a ∉ F.map (·.1)) : dPut (F.map kB) (.str a) (.bool b) = (F ++ [(a, b)]).map kB := by
  rw [List.map_append]
  exact enc_new enc_str (k := fun y : Str × Bool => y.1) (v := fun y => .bool y.2) h
theorem tr_new {p : List Str} {o : List (Str × List Str)} {c : List (List (Str × Bool))} {ans : List (List Bool)} {pl : List Bool} (ok : SayOk p o c) (ao : AnsOk o ans) (pe : pl.length = p.length) {i : Nat} {y : List Bool × Str × List Str} (tk : (ans.zip o).take (i + 1) = (ans.zip o).take i ++ [y]) :
    y.2.1 ∉ (p.zip pl ++ ((ans.zip o).take i).map (sayT p pl)).map (·.1) := by
  have nt : ((trF p o ans pl).map (·.1)).Nodup := by rw [tr_names ao pe]; exact say_names ok
  have sub : (p.zip pl ++ ((ans.zip o).take (i + 1)).map (sayT p pl)).Sublist (trF p o ans pl) := List.Sublist.append (List.Sublist.refl _) ((List.take_sublist _ _).map _)
  have n2 := (sub.map (·.1)).nodup nt
  simp only [tk, List.map_append, List.map_cons, List.map_nil, ← List.append_assoc] at n2
  intro h
  rw [List.map_append] at h
  exact (List.nodup_append.mp n2).2.2 _ h _ (.head _) rfl
theorem shl_ok {n : Nat} (h : n ≤ 60) : CShl 1 (n : Int) ∧ (1 : Int) * 2 ^ ((n : Int)).toNat = ((2 ^ n : Nat) : Int) := ⟨⟨by omega, by have : Builtin.Int.intBits 1 = 1 := (by decide); rw [this]; omega⟩, by rw [Int.one_mul, Int.toNat_natCast]; simp⟩
/-- the first clause that is not so at a play -/
def brkAt (t : Str → Bool) (c : List (List (Str × Bool))) : Option Nat := c.findIdx? fun x => !soB t x
theorem brkAt_none {t : Str → Bool} {c : List (List (Str × Bool))} (h : ∀ y ∈ c, soB t y = true) : brkAt t c = none := by
  unfold brkAt
  rw [List.findIdx?_eq_none_iff]
  intro x hx
  rw [h x hx]
  rfl
theorem brkAt_some {t : Str → Bool} : ∀ {c : List (List (Str × Bool))} {j : Nat} {x : List (Str × Bool)}, c[j]? = some x → (∀ y ∈ c.take j, soB t y = true) → soB t x = false → brkAt t c = some j
  | a :: c, 0, x, h, _, hx => by
    cases h
    unfold brkAt
    rw [List.findIdx?_cons, hx]
    rfl
  | a :: c, j + 1, x, h, hy, hx => by
    have ih := brkAt_some (c := c) (j := j) (x := x) (by simpa using h) (fun y hy' => hy y (List.mem_cons_of_mem _ hy')) hx
    unfold brkAt at ih ⊢
    rw [List.findIdx?_cons, hy a (.head _), ih]
    rfl
theorem some_at {α β : Type} {f : α → Option β} {b : β} : ∀ {xs : List α} {i : Nat} {x : α}, xs[i]? = some x → (∀ y ∈ xs.take i, f y = none) → f x = some b → xs.findSome? f = some b
  | a :: xs, 0, x, h, _, hx => by
    cases h
    rw [List.findSome?_cons, hx]
  | a :: xs, i + 1, x, h, hy, hx => by
    rw [List.findSome?_cons, hy a (.head _)]
    exact some_at (xs := xs) (i := i) (x := x) (by simpa using h) (fun y hy' => hy y (List.mem_cons_of_mem _ hy')) hx
/-- the first clause, by its index, at the first play at which it is broken -/
def brk (p : List Str) (o : List (Str × List Str)) (c : List (List (Str × Bool))) (ans : List (List Bool)) : Option (Nat × List Bool) :=
  (PL p.length).findSome? fun pl => (brkAt (tv (trF p o ans pl)) c).map fun i => (i, pl)
theorem brk_none {p : List Str} {o : List (Str × List Str)} {c : List (List (Str × Bool))} {ans : List (List Bool)} (h : ∀ pl ∈ PL p.length, brkAt (tv (trF p o ans pl)) c = none) : brk p o c ans = none := by
  unfold brk
  rw [List.findSome?_eq_none_iff]
  intro pl hp
  rw [h pl hp]
  rfl
theorem brk_some {p : List Str} {o : List (Str × List Str)} {c : List (List (Str × Bool))} {ans : List (List Bool)} {i j : Nat} {pl : List Bool} (h1 : (PL p.length)[i]? = some pl) (h2 : ∀ q ∈ (PL p.length).take i, brkAt (tv (trF p o ans q)) c = none) (h3 : brkAt (tv (trF p o ans pl)) c = some j) : brk p o c ans = some (j, pl) := by
  unfold brk
  refine some_at h1 (fun y hy => ?_) ?_
  · rw [h2 y hy]; rfl
  · rw [h3]; rfl
def brkD : Option (Nat × List Bool) → PyData
  | some (i, pl) => .tuple [.int i, dB pl]
  | none => .none
theorem cut_mid {α : Type} {f : α → PyData} (A T B : List α) : cutD ((A ++ T ++ B).map f) (some (A.length : Int)) (some ((A.length : Int) + (T.length : Int))) = T.map f := by
  unfold cutD
  have e : (A.length : Int) + (T.length : Int) = ((A.length + T.length : Nat) : Int) := by omega
  rw [e, HT.sIx_nat, HT.sIx_nat, List.length_map, List.length_append, List.length_append, Nat.min_eq_left (by omega), Nat.min_eq_left (by omega), Nat.add_sub_cancel_left, ← List.map_drop, ← List.map_take, List.append_assoc, List.drop_left, List.take_left]
theorem ans_cut {ans : List (List Bool)} {i : Nat} {t : List Bool} (h : ans[i]? = some t) : cutD (ans.flatten.map PyData.bool) (some ((ans.take i).flatten.length : Int)) (some (((ans.take i).flatten.length : Int) + (t.length : Int))) = t.map .bool := by
  have e : ans.flatten = (ans.take i).flatten ++ t ++ (ans.drop (i + 1)).flatten := by
    have h2 : ans = ans.take i ++ t :: ans.drop (i + 1) := by
      obtain ⟨hi, e⟩ := List.getElem?_eq_some_iff.mp h
      rw [← e]
      simp
    rw [List.append_assoc, ← List.flatten_cons, ← List.flatten_append, ← h2]
  rw [e]
  exact cut_mid _ _ _
theorem ans_get {o : List (Str × List Str)} {ans : List (List Bool)} (h : AnsOk o ans) {i : Nat} {x : Str × List Str} (hx : o[i]? = some x) : ∃ t, ans[i]? = some t ∧ t.length = 2 ^ x.2.length := by
  have := congrArg (fun l => l[i]?) h
  simp only [List.getElem?_map, hx, Option.map_some] at this
  obtain ⟨t, e1, e2⟩ := Option.map_eq_some_iff.mp this
  exact ⟨t, e1, e2⟩
theorem lf_dB (p : List Bool) : lf (dB p) = true := by
  have : ∀ p : List Bool, lfAll (p.map .bool) = true := fun p => lf_map (g := PyData.bool) (fun _ => rfl)
  unfold dB
  rw [lf]
  exact this p
def copL (o : List (Str × List Str)) : List (Str × List Bool) := o.flatMap fun x => (List.range (2 ^ x.2.length)).map fun k => (x.1, bitsOf x.2.length k)
def dCp (y : Str × List Bool) : PyData := .tuple [.str y.1, dB y.2]
theorem cop_len : ∀ o : List (Str × List Str), ((copL o).length : Int) = (o.map fun x => (2 : Int) ^ x.2.length).sum
  | [] => rfl
  | x :: o => by
    have := cop_len o
    unfold copL at this ⊢
    rw [List.flatMap_cons, List.length_append, List.length_map, List.length_range, List.map_cons, List.sum_cons, Int.natCast_add, this]
    simp
theorem cop_app (a b : List (Str × List Str)) : copL (a ++ b) = copL a ++ copL b := by unfold copL; rw [List.flatMap_append]
theorem flat_len {o : List (Str × List Str)} {ans : List (List Bool)} (h : AnsOk o ans) : (ans.flatten.length : Int) = (copL o).length := by
  rw [cop_len, List.length_flatten, h]
  have e : ∀ o : List (Str × List Str), (((o.map fun x => 2 ^ x.2.length).sum : Nat) : Int) = (o.map fun x => (2 : Int) ^ x.2.length).sum := fun o => by
    induction o with
    | nil => rfl
    | cons a t ih => rw [List.map_cons, List.sum_cons, List.map_cons, List.sum_cons, Int.natCast_add, ih]; simp
  exact e o
theorem sees_eq {p s : List Str} {pl : List Bool} (pe : pl.length = p.length) (pa : Asc (p.map .str)) (sa : Asc (s.map .str)) (sp : ∀ x ∈ s, x ∈ p) : ((p.zip pl).filter fun y => decide (y.1 ∈ s)).map (·.2) = s.map (lk p pl) := by
  have nz : ((p.zip pl).map (·.1)).Nodup := by rw [zip_fst pe]; exact strs_nodup pa
  have h1 : ((p.zip pl).filter fun y => decide (y.1 ∈ s)).map (·.2) = (((p.zip pl).filter fun y => decide (y.1 ∈ s)).map (·.1)).map (lk p pl) := by
    rw [List.map_map]
    exact List.map_congr_left fun y hy => (tv_mem nz (List.mem_filter.mp hy).1).symm
  have h2 : ((p.zip pl).filter fun y => decide (y.1 ∈ s)).map (·.1) = p.filter fun x => decide (x ∈ s) := by
    have := List.filter_map (f := fun y : Str × Bool => y.1) (p := fun x => decide (x ∈ s)) (l := p.zip pl)
    rw [zip_fst pe] at this
    exact this.symm
  have h3 : (p.filter fun x => decide (x ∈ s)) = s := strict_one (α := Str) ((asc_back (α := Str) pa).filter _) (asc_back (α := Str) sa) fun a => by
    rw [List.mem_filter, decide_eq_true_eq]
    exact ⟨fun h => h.2, fun h => ⟨sp a h, h⟩⟩
  rw [h1, h2, h3]
theorem zip_at {p : List Str} {pl : List Bool} (pe : pl.length = p.length) {i : Nat} (hi : i < pl.length) : ∃ s b, p[i]? = some s ∧ pl[i]? = some b ∧ (p.zip pl)[i]? = some (s, b) ∧ (p.zip pl).take (i + 1) = (p.zip pl).take i ++ [(s, b)] := by
  have h1 : i < p.length := by omega
  have e : (p.zip pl)[i]? = some (p[i], pl[i]) := by
    rw [List.getElem?_eq_getElem (by rw [List.length_zip]; omega), List.getElem_zip]
  exact ⟨_, _, List.getElem?_eq_getElem h1, List.getElem?_eq_getElem hi, e, by rw [List.take_succ, e]; rfl⟩
theorem at_map {α : Type} {xs : List α} {f : α → PyData} {i : Nat} {x : α} (h : xs[i]? = some x) : atI (xs.map f) (0 + (i : Int)) = some (f x) := by
  rw [Int.zero_add]
  refine atI_nat ?_
  rw [List.getElem?_map, h]
  rfl
theorem eqv_nil (xs : List PyData) : PyData.eqv (.list xs) (.list []) = xs.isEmpty := by cases xs <;> rfl
theorem so_nil {t : Str → Bool} (x : List (Str × Bool)) : ((x.filter fun y => decide (t y.1 = y.2)).map fun y => PyData.str y.1).isEmpty = !soB t x := by
  unfold soB
  induction x with
  | nil => rfl
  | cons a r ih =>
    rw [List.filter_cons, List.any_cons]
    cases h : decide (t a.1 = a.2) with
    | true => simp
    | false =>
      rw [if_neg Bool.false_ne_true, ih, Bool.false_or]
/-! ### words of any letters -/
theorem cps_app (a b : Str) : (a ++ b).cps = a.cps ++ b.cps := rfl
theorem join_cps : ∀ cs : List Nat, (Str.join (Str.ofString "") (cs.map ltr)).cps.toList = cs
  | [] => rfl
  | [c] => rfl
  | c :: d :: r => by
    have ih := join_cps (d :: r)
    show (ltr c ++ Str.ofString "" ++ Str.join (Str.ofString "") ((d :: r).map ltr)).cps.toList = _
    rw [cps_app, cps_app, Array.toList_append, Array.toList_append, ih]
    rfl
theorem word_nm {cs : List Nat} (h : ∀ c ∈ cs, c ∈ LET.cps.toList) (h1 : 1 ≤ cs.length) (h8 : cs.length ≤ 8) : Nm (Txt.join (Str.ofString "") (cs.map ltr)) := by
  have e : Txt.join (Str.ofString "") (cs.map ltr) = Str.join (Str.ofString "") (cs.map ltr) := StrLaws.glued_eq_join _ _
  have c := join_cps cs
  have l : (Str.join (Str.ofString "") (cs.map ltr)).length = cs.length := by
    have := congrArg List.length c
    rw [Array.length_toList] at this
    exact this
  rw [e]
  exact ⟨by rw [l]; exact h1, by rw [l]; exact h8, by rw [c]; exact h⟩
theorem filt_perm {L M : List Str} {x : Str} {ys : List Str} (h : (x :: L).Perm M) : (M.filter fun a => decide (a ∉ ys)).length = (L.filter fun a => decide (a ∉ ys)).length + (if x ∈ ys then 0 else 1) := by
  rw [← (h.filter _).length_eq, List.filter_cons]
  by_cases z : x ∈ ys
  · rw [if_neg (by simpa using z), if_pos z]; rfl
  · rw [if_pos (by simpa using z), if_neg z]; rfl
theorem filt_ne {x : Str} : ∀ {M : List Str}, M.Nodup → M.length ≤ (M.filter fun a => decide (a ≠ x)).length + 1
  | [], _ => Nat.zero_le _
  | a :: M, nd => by
    rw [List.nodup_cons] at nd
    rw [List.filter_cons]
    by_cases z : a = x
    · subst z
      have e2 : (M.filter fun b => decide (b ≠ a)) = M := List.filter_eq_self.mpr fun b hb => decide_eq_true fun e : b = a => nd.1 (by rw [← e]; exact hb)
      rw [if_neg (by simp), e2]
      exact Nat.le_refl _
    · rw [if_pos (decide_eq_true z), List.length_cons, List.length_cons]
      have := filt_ne (x := x) nd.2
      omega
theorem filt_more {L ys : List Str} {x : Str} (nd : L.Nodup) : (L.filter fun a => decide (a ∉ ys)).length ≤ (L.filter fun a => decide (a ∉ ys ++ [x])).length + 1 ∧ (x ∉ L → (L.filter fun a => decide (a ∉ ys)).length = (L.filter fun a => decide (a ∉ ys ++ [x])).length) := by
  have e : (L.filter fun a => decide (a ∉ ys ++ [x])) = (L.filter fun a => decide (a ∉ ys)).filter fun a => decide (a ≠ x) := by
    rw [List.filter_filter]
    refine List.filter_congr fun a _ => ?_
    rw [Bool.eq_iff_iff]
    simp
    exact and_comm
  rw [e]
  refine ⟨filt_ne ((List.filter_sublist).nodup nd), fun hx => ?_⟩
  have e3 : ((L.filter fun a => decide (a ∉ ys)).filter fun a => decide (a ≠ x)) = L.filter fun a => decide (a ∉ ys) := List.filter_eq_self.mpr fun a ha => decide_eq_true fun z : a = x => hx (by rw [← z]; exact (List.mem_filter.mp ha).1)
  rw [e3]
theorem one_sum : ∀ cs : List Nat, ((cs.map ltr).map fun x => x.length).sum = cs.length
  | [] => rfl
  | c :: cs => by
    have := one_sum cs
    rw [List.map_cons, List.map_cons, List.sum_cons, this, List.length_cons, show (ltr c).length = 1 from rfl]
    omega
theorem let_at {z : Int} (h0 : 0 ≤ z) (h1 : z < 26) : ∃ c ∈ LET.cps.toList, atI LET.cps.toList z = some c := by
  obtain ⟨k, rfl⟩ := Int.eq_ofNat_of_zero_le h0
  have hk : k < LET.cps.toList.length := by
    have : LET.cps.toList.length = 26 := by decide +kernel
    omega
  exact ⟨_, List.getElem_mem hk, atI_nat (List.getElem?_eq_getElem hk)⟩
open PySem.W in
/-- owns in the sequence of their names -/
theorem sort_owns {os : List (Str × List Str)} (hn : (os.map (·.1)).Nodup) : SrtOk (os.map dO) ∧ ∀ zs, Srt (os.map dO) zs → ∃ o : List (Str × List Str), zs = o.map dO ∧ o.Perm os ∧ (o.map (·.1)).Pairwise fun a b => DatumOrd.lt a b = true := by
  have e : os.map dO = (os.map fun x => (x.1, Tup.mk x.2)).map Datum.toD := by rw [List.map_map]; rfl
  have tt : ∀ d ∈ (os.map fun x => (x.1, Tup.mk x.2)).map Datum.toD, ∃ xs, d = PyData.tuple xs := fun d hd => by
    obtain ⟨a, _, rfl⟩ := List.mem_map.mp hd
    exact ⟨_, rfl⟩
  refine ⟨by rw [e]; exact ⟨alike_typed _, Or.inr tt, depth_typed (by decide) _⟩, fun zs h => ?_⟩
  rw [e] at h
  obtain ⟨c, rfl, p, w⟩ := srt_typed h
  have pm : (c.map fun y => (y.1, y.2.items)).Perm os := by
    have := p.map fun y : Str × Tup Str => (y.1, y.2.items)
    rw [List.map_map] at this
    exact this.trans (by rw [show ((fun y : Str × Tup Str => (y.1, y.2.items)) ∘ fun x : Str × List Str => (x.1, Tup.mk x.2)) = id from rfl, List.map_id])
  refine ⟨c.map fun y => (y.1, y.2.items), by rw [List.map_map]; rfl, pm, ?_⟩
  have n3 : c.Pairwise fun a b => a.1 ≠ b.1 := by
    have := (pm.map (·.1)).nodup_iff.mpr hn
    rw [List.map_map] at this
    exact List.pairwise_map.mp this
  rw [List.map_map]
  refine List.pairwise_map.mpr ((w.and n3).imp fun {a b} ⟨h1, h2⟩ => ?_)
  have h3 : DatumOrd.lt b.1 a.1 = false := by
    have h1' : (if b.1 = a.1 then DatumOrd.lt b.2 a.2 else DatumOrd.lt b.1 a.1) = false := h1
    rw [if_neg fun z => h2 z.symm] at h1'
    exact h1'
  show DatumOrd.lt a.1 b.1 = true
  cases z : DatumOrd.lt a.1 b.1 with
  | true => rfl
  | false => exact absurd (lt_tot z h3) h2
theorem cut_ab {α : Type} {xs : List α} {f : α → PyData} {a j : Nat} : cutD (xs.map f) (some (a : Int)) (some ((a : Int) + (j : Int))) = ((xs.drop a).take j).map f := by
  unfold cutD
  have e : (a : Int) + (j : Int) = ((a + j : Nat) : Int) := by omega
  rw [e, HT.sIx_nat, HT.sIx_nat, List.length_map, ← List.map_drop, ← List.map_take]
  congr 1
  by_cases h : a ≤ xs.length
  · rw [Nat.min_eq_left h]
    by_cases h2 : a + j ≤ xs.length
    · rw [Nat.min_eq_left h2, Nat.add_sub_cancel_left]
    · rw [Nat.min_eq_right (by omega), List.take_of_length_le (by rw [List.length_drop]; omega), List.take_of_length_le (by rw [List.length_drop]; omega)]
  · rw [List.drop_of_length_le (show xs.length ≤ min a xs.length by omega), List.drop_of_length_le (show xs.length ≤ a by omega), List.take_nil, List.take_nil]
theorem perm_sum {xs ys : List Int} (h : xs.Perm ys) : xs.sum = ys.sum := by
  induction h with
  | nil => rfl
  | cons a _ ih => rw [List.sum_cons, List.sum_cons, ih]
  | swap a b l => rw [List.sum_cons, List.sum_cons, List.sum_cons, List.sum_cons]; omega
  | trans _ _ h1 h2 => exact h1.trans h2
/-! ### how long it is when shown -/
theorem say_len {p : List Str} {o : List (Str × List Str)} {c : List (List (Str × Bool))} (ok : SayOk p o c) : (dSay p o c).shown.length ≤ 400000 := by
  have t1 : (PyData.tuple (p.map .str)).shown.length ≤ 6 * 84 + 2 := sh_tup (fun d hd => by
    obtain ⟨s, hs, rfl⟩ := List.mem_map.mp hd
    exact sh_nm (ok.pn s hs)) (by rw [List.length_map]; exact ok.pl)
  have t2 : (PyData.tuple (o.map dO)).shown.length ≤ 8 * 1200 + 2 := sh_tup (B := 1198) (fun d hd => by
    obtain ⟨x, hx, rfl⟩ := List.mem_map.mp hd
    have z := ok.oo x hx
    refine Nat.le_trans (sh_tup (B := 506) (n := 2) (fun d hd => ?_) (Nat.le_refl _)) (by decide)
    simp only [List.mem_cons, List.not_mem_nil, or_false] at hd
    rcases hd with rfl | rfl
    · exact Nat.le_trans (sh_nm z.1) (by decide)
    · exact sh_tup (B := 82) (n := 6) (fun d hd => (by
        obtain ⟨s, hs, rfl⟩ := List.mem_map.mp hd
        exact sh_nm (z.2.2.1 s hs).1)) (by rw [List.length_map]; exact z.2.2.2.2)) (by rw [List.length_map]; exact ok.ol)
  have t3 : (PyData.tuple (c.map dC)).shown.length ≤ 40 * 3000 + 2 := sh_tup (B := 2998) (fun d hd => by
    obtain ⟨x, hx, rfl⟩ := List.mem_map.mp hd
    have z := ok.cc x hx
    refine Nat.le_trans (sh_tup (B := 170) (n := 14) (fun d hd => ?_) (by rw [List.length_map]; exact z.2.2)) (by decide)
    obtain ⟨y, hy, rfl⟩ := List.mem_map.mp hd
    refine sh_tup (B := 82) (n := 2) (fun d hd => ?_) (Nat.le_refl _)
    simp only [List.mem_cons, List.not_mem_nil, or_false] at hd
    rcases hd with rfl | rfl
    · exact sh_nm (z.1 y hy).1
    · rw [PyData.shown]; cases y.2 <;> decide +kernel) (by rw [List.length_map]; exact ok.cl)
  refine Nat.le_trans (sh_tup (B := 130000) (n := 3) (fun d hd => ?_) (Nat.le_refl _)) (by decide)
  simp only [List.mem_cons, List.not_mem_nil, or_false] at hd
  rcases hd with rfl | rfl | rfl <;> omega
theorem show_dB (x : List Bool) : (dB x).showable = true ∧ (dB x).hasDict = false ∧ (dB x).depth ≤ 1 := by
  have a := show_map (g := PyData.bool) (fun _ => ⟨by simp only [PyData.showable], by simp only [PyData.hasDict]⟩) x
  have b := dep_map (g := PyData.bool) (B := 0) (fun _ => by simp only [PyData.depth]; omega) x
  unfold dB
  exact ⟨by rw [PyData.showable]; exact a.1, by rw [PyData.hasDict]; exact a.2, by rw [PyData.depth]; omega⟩
theorem shl_bool (b : Bool) : (PyData.bool b).shown.length ≤ 5 := by cases b <;> decide +kernel
theorem shl_dB {x : List Bool} (h : x.length ≤ 64) : (dB x).shown.length ≤ 450 := by
  refine Nat.le_trans (sh_tup (B := 5) (n := 64) (fun d hd => ?_) (by rw [List.length_map]; exact h)) (by decide)
  obtain ⟨b, _, rfl⟩ := List.mem_map.mp hd
  exact shl_bool b
theorem ans_small {p : List Str} {o : List (Str × List Str)} {c : List (List (Str × Bool))} {ans : List (List Bool)} (ok : SayOk p o c) (ao : AnsOk o ans) : ∀ t ∈ ans, t.length ≤ 64 := fun t ht => by
  obtain ⟨i, hi, e⟩ := List.getElem_of_mem ht
  have hl := ans_len ao
  have h2 : i < o.length := by omega
  obtain ⟨t2, e1, e2⟩ := ans_get ao (List.getElem?_eq_getElem h2)
  rw [List.getElem?_eq_getElem hi, e] at e1
  cases e1
  rw [e2]
  exact Nat.le_trans (Nat.pow_le_pow_right (by decide) (ok.oo _ (List.getElem_mem h2)).2.2.2.2) (by decide)
theorem say_dep (p : List Str) (o : List (Str × List Str)) (c : List (List (Str × Bool))) : (dSay p o c).depth ≤ 60 := by
  have d1 : ∀ ss : List Str, (PyData.tuple (ss.map .str)).depth ≤ 1 := fun ss => by
    have := dep_map (g := PyData.str) (B := 0) (fun _ => by simp only [PyData.depth]; omega) ss
    rw [PyData.depth]; omega
  have d2 : ∀ x : Str × List Str, (dO x).depth ≤ 2 := fun x => by
    have := d1 x.2
    unfold dO
    simp only [PyData.depth, PyData.depthAll] at this ⊢
    omega
  have d4 : ∀ x : List (Str × Bool), (dC x).depth ≤ 61 := fun x => by
    have := dep_map (g := dL) (B := 60) (fun y => (show_dL y).2.2) x
    unfold dC
    rw [PyData.depth]; omega
  have d3 : ∀ x : Str × Bool, (dL x).depth ≤ 1 := fun x => by
    unfold dL
    simp only [PyData.depth, PyData.depthAll]
    omega
  have d5 : ∀ x : List (Str × Bool), (dC x).depth ≤ 2 := fun x => by
    have := dep_map d3 x
    unfold dC
    rw [PyData.depth]; omega
  have b1 := d1 p
  have b2 := dep_map d2 o
  have b3 := dep_map d5 c
  unfold dSay
  simp only [PyData.depth, PyData.depthAll] at b1 ⊢
  omega
theorem dep_two {d e : PyData} (h1 : d.depth ≤ 60) (h2 : e.depth ≤ 60) : (PyData.list [d, e]).depth ≤ 64 := by
  simp only [PyData.depth, PyData.depthAll]
  omega
theorem known_show {p : List Str} {o : List (Str × List Str)} {c : List (List (Str × Bool))} {ans : List (List Bool)} (ok : SayOk p o c) (ao : AnsOk o ans) : ShowOk (.list [dSay p o c, dAns ans]) := fun q hq => by
  obtain ⟨h1, h2, h3⟩ := say_show p o c
  have a := show_map (g := dB) (fun x => ⟨(show_dB x).1, (show_dB x).2.1⟩) ans
  have b := dep_map (g := dB) (B := 1) (fun x => (show_dB x).2.2) ans
  have al := ans_len ao
  have ol := ok.ol
  have l2 : (dAns ans).shown.length ≤ 4000 := by
    refine Nat.le_trans (sh_tup (B := 450) (n := 8) (fun d hd => ?_) (by rw [List.length_map]; omega)) (by decide)
    obtain ⟨t, ht, rfl⟩ := List.mem_map.mp hd
    exact shl_dB (ans_small ok ao t ht)
  have l1 := say_len ok
  have e1 : (dAns ans).showable = true := by unfold dAns; rw [PyData.showable]; exact a.1
  have e2 : (dAns ans).hasDict = false := by unfold dAns; rw [PyData.hasDict]; exact a.2
  have D60 : (dSay p o c).depth ≤ 60 := say_dep p o c
  have e3 : (dAns ans).depth ≤ 2 := by unfold dAns; rw [PyData.depth]; omega
  refine ⟨_, rfl, .inl ⟨⟨_, .inl rfl⟩, ?_, ?_, ?_⟩, ?_, hq⟩
  · simp only [PyData.showable, PyData.showableAll, h1, e1, Bool.and_self]
  · simp only [PyData.hasDict, PyData.hasDictAll, h2, e2, Bool.or_self]
  · exact dep_two D60 (Nat.le_trans e3 (by decide))
  · refine Nat.le_trans (sh_lst (B := 400000) (n := 2) (fun d hd => ?_) (Nat.le_refl _)) (by decide)
    simp only [List.mem_cons, List.not_mem_nil, or_false] at hd
    rcases hd with rfl | rfl
    · exact l1
    · exact Nat.le_trans l2 (by decide)
theorem cut_last {α : Type} {xs : List α} {f : α → PyData} {l : Nat} : ∃ k, cutD (xs.map f) (some (((xs.map f).length : Int) - (l : Int))) none = (xs.drop k).map f ∧ xs.length - k ≤ l := by
  rw [List.length_map]
  by_cases h : l ≤ xs.length
  · have e : (xs.length : Int) - (l : Int) = ((xs.length - l : Nat) : Int) := by omega
    exact ⟨xs.length - l, by rw [e]; exact cut_from, by omega⟩
  · refine ⟨((xs.length : Int) - (l : Int) + (xs.length : Int)).toNat, ?_, by omega⟩
    unfold cutD
    have e : HT.sIx (xs.map f).length 0 (some ((xs.length : Int) - (l : Int))) = ((xs.length : Int) - (l : Int) + (xs.length : Int)).toNat := by
      show (if (xs.length : Int) - (l : Int) < 0 then ((xs.length : Int) - (l : Int) + ((xs.map f).length : Int)).toNat else _) = _
      rw [if_pos (by omega), List.length_map]
    rw [e, HT.sIx_none, ← List.map_drop, List.take_of_length_le (by rw [List.length_map, List.length_map, List.length_drop]; exact Nat.le_refl _)]
theorem clok_nodup {names : List Str} {x : List (Str × Bool)} (h : ClOk names x) : (x.map (·.1)).Nodup := by
  have : (x.map (·.1)).Pairwise fun a b => PySem.W.DatumOrd.lt a b = true := List.pairwise_map.mpr h.asc
  exact asc_nodup this
end OS

namespace OS
open PySem L2
/-! Plain laws about marked letters, and about copies in their sequence. -/
abbrev Mk3 := Str × List Bool × Bool
def dMk (m : Mk3) : PyData := .tuple [.str m.1, dB m.2.1, .bool m.2.2]
def sgt (o : List (Str × List Str)) (s : Str) : List Str := ((o.find? fun y => decide (y.1 = s)).map (·.2)).getD []
/-- a letter of a pick that is so -/
def pkSo (p : List Str) (o : List (Str × List Str)) (pl : List Bool) (l : Str × Bool) : Bool := !ownB o l && decide (lk p pl l.1 = l.2)
def mk1 (p : List Str) (o : List (Str × List Str)) (pl : List Bool) (l : Str × Bool) : Mk3 := (l.1, (sgt o l.1).map (lk p pl), l.2)
def mkF (p : List Str) (o : List (Str × List Str)) (pl : List Bool) (x : List (Str × Bool)) : List Mk3 := (x.filter (ownB o)).map (mk1 p o pl)
def mkL (p : List Str) (o : List (Str × List Str)) (pl : List Bool) (x : List (Str × Bool)) : Option (List Mk3) := if x.any (pkSo p o pl) then none else some (mkF p o pl x)
def mkD : Option (List Mk3) → PyData
  | none => .none
  | some l => .tuple (l.map dMk)
theorem sgt_of {o : List (Str × List Str)} (nd : (o.map (·.1)).Nodup) {y : Str × List Str} (h : y ∈ o) : sgt o y.1 = y.2 := by
  unfold sgt
  induction o with
  | nil => cases h
  | cons a r ih =>
    rw [List.map_cons, List.nodup_cons] at nd
    rw [List.find?_cons]
    by_cases e : a.1 = y.1
    · rw [decide_eq_true e]
      rcases List.mem_cons.mp h with rfl | h
      · rfl
      · exact absurd (e ▸ List.mem_map_of_mem (f := (·.1)) h) nd.1
    · rw [decide_eq_false e]
      rcases List.mem_cons.mp h with rfl | h
      · exact absurd rfl e
      · exact ih nd.2 h
theorem mkL_none {p : List Str} {o : List (Str × List Str)} {pl : List Bool} {x : List (Str × Bool)} {l : Str × Bool} (h : l ∈ x) (hs : pkSo p o pl l = true) : mkL p o pl x = none := by
  unfold mkL
  rw [if_pos (List.any_eq_true.mpr ⟨l, h, hs⟩)]
theorem mkL_some {p : List Str} {o : List (Str × List Str)} {pl : List Bool} {x : List (Str × Bool)} (h : ∀ l ∈ x, pkSo p o pl l = false) : mkL p o pl x = some (mkF p o pl x) := by
  unfold mkL
  rw [if_neg]
  intro z
  obtain ⟨l, h1, h2⟩ := List.any_eq_true.mp z
  rw [h l h1] at h2
  cases h2
theorem mkF_step {p : List Str} {o : List (Str × List Str)} {pl : List Bool} {x : List (Str × Bool)} {i : Nat} {l : Str × Bool} (tk : x.take (i + 1) = x.take i ++ [l]) : mkF p o pl (x.take (i + 1)) = mkF p o pl (x.take i) ++ if ownB o l then [mk1 p o pl l] else [] := by
  unfold mkF
  rw [tk, List.filter_append, List.map_append, List.filter_cons]
  split <;> rfl
open PySem.W in
theorem srt_mk {m : List Mk3} (h : m.Pairwise fun a b => DatumOrd.lt a.1 b.1 = true) : SrtOk (m.map dMk) ∧ ∀ zs, Srt (m.map dMk) zs → zs = m.map dMk := by
  have e : m.map dMk = (m.map fun x => (T3.mk x.1 (Tup.mk x.2.1) x.2.2 : T3 Str (Tup Bool) Bool)).map Datum.toD := by rw [List.map_map]; rfl
  have tt : ∀ d ∈ (m.map fun x => (T3.mk x.1 (Tup.mk x.2.1) x.2.2 : T3 Str (Tup Bool) Bool)).map Datum.toD, ∃ xs, d = PyData.tuple xs := fun d hd => by
    obtain ⟨a, _, rfl⟩ := List.mem_map.mp hd
    exact ⟨_, rfl⟩
  refine ⟨by rw [e]; exact ⟨alike_typed _, Or.inr tt, depth_typed (by decide) _⟩, fun zs hz => ?_⟩
  have pw : (m.map fun x => (T3.mk x.1 (Tup.mk x.2.1) x.2.2 : T3 Str (Tup Bool) Bool)).Pairwise fun a b => DatumOrd.lt a b = true := by
    refine List.pairwise_map.mpr (h.imp fun {a b} z => ?_)
    show (if a.1 = b.1 then _ else DatumOrd.lt a.1 b.1) = true
    rw [if_neg (fun e => by rw [e, lt_irr] at z; cases z)]
    exact z
  rw [e] at hz ⊢
  obtain ⟨z1, rfl, p1, w1⟩ := srt_typed hz
  rw [strict_one (srt_strict w1 (p1.nodup_iff.mpr (lt_nodup pw))) pw fun a => p1.mem_iff]
theorem mkF_asc {p : List Str} {o : List (Str × List Str)} {pl : List Bool} {x : List (Str × Bool)} (h : Asc (x.map fun y => .str y.1)) : (mkF p o pl x).Pairwise fun a b => PySem.W.DatumOrd.lt a.1 b.1 = true := by
  have h2 : (x.map (·.1)).Pairwise fun a b => PySem.W.DatumOrd.lt a b = true := asc_back (α := Str) (by rw [List.map_map]; exact h)
  unfold mkF
  exact List.pairwise_map.mpr ((List.pairwise_map.mp h2).filter _)
/-! rows of truths by their numbers -/
theorem bits_cons (n k : Nat) : bitsOf (n + 1) k = (k % 2 == 1) :: bitsOf n (k / 2) := by
  unfold bitsOf
  rw [List.range_succ_eq_map, List.map_cons, List.map_map, Nat.pow_zero, Nat.div_one]
  congr 1
  refine List.map_congr_left fun i _ => ?_
  show (k / 2 ^ (i + 1) % 2 == 1) = _
  rw [Nat.pow_succ, Nat.mul_comm, ← Nat.div_div_eq_div_mul]
theorem bits_sp : ∀ r : List Bool, bitsOf r.length (spN r) = r
  | [] => rfl
  | b :: r => by
    have ih := bits_sp r
    rw [List.length_cons, bits_cons, spN]
    cases b with
    | true =>
      rw [if_pos rfl, show (1 + 2 * spN r) % 2 = 1 by omega, show (1 + 2 * spN r) / 2 = spN r by omega, ih]
      rfl
    | false =>
      rw [if_neg Bool.false_ne_true, show (0 + 2 * spN r) % 2 = 0 by omega, show (0 + 2 * spN r) / 2 = spN r by omega, ih]
      rfl
theorem bits_len (n k : Nat) : (bitsOf n k).length = n := by unfold bitsOf; rw [List.length_map, List.length_range]
theorem sp_bits : ∀ {n k : Nat}, k < 2 ^ n → spN (bitsOf n k) = k
  | 0, k, h => by
    have : k = 0 := by simpa using h
    subst this
    rfl
  | n + 1, k, h => by
    have h2 : k / 2 < 2 ^ n := by rw [Nat.pow_succ] at h; omega
    rw [bits_cons, spN, sp_bits h2]
    by_cases e : k % 2 = 1
    · rw [if_pos (by simpa using e)]; omega
    · rw [if_neg (by simpa using e)]; omega
theorem pl_all : ∀ {n : Nat} {p : List Bool}, p.length = n → p ∈ PL n
  | 0, p, h => by rw [List.length_eq_zero_iff.mp h]; exact .head _
  | n + 1, p, h => by
    rcases List.eq_nil_or_concat p with rfl | ⟨q, b, rfl⟩
    · cases h
    · rw [List.concat_eq_append] at h ⊢
      rw [List.length_append, List.length_singleton] at h
      refine List.mem_flatMap.mpr ⟨q, pl_all (by omega), ?_⟩
      cases b <;> simp
open PySem.W in
theorem srt_rows {n : Nat} : SrtOk ((PL n).map fun r => .tuple [.int (spN r), dB r]) ∧ ∀ zs, Srt ((PL n).map fun r => .tuple [.int (spN r), dB r]) zs → zs = (List.range (2 ^ n)).map fun (k : Nat) => PyData.tuple [.int k, dB (bitsOf n k)] := by
  have e : ((PL n).map fun r => PyData.tuple [.int (spN r), dB r]) = ((PL n).map fun r => (((spN r : Nat) : Int), Tup.mk r)).map Datum.toD := by rw [List.map_map]; rfl
  have tt : ∀ d ∈ ((PL n).map fun r => (((spN r : Nat) : Int), Tup.mk r)).map Datum.toD, ∃ xs, d = PyData.tuple xs := fun d hd => by
    obtain ⟨a, _, rfl⟩ := List.mem_map.mp hd
    exact ⟨_, rfl⟩
  refine ⟨by rw [e]; exact ⟨alike_typed _, Or.inr tt, depth_typed (by decide) _⟩, fun zs hz => ?_⟩
  rw [e] at hz
  obtain ⟨z1, rfl, p1, w1⟩ := srt_typed hz
  have e2 : ((List.range (2 ^ n)).map fun (k : Nat) => PyData.tuple [.int k, dB (bitsOf n k)]) = ((List.range (2 ^ n)).map fun k => (((k : Nat) : Int), Tup.mk (bitsOf n k))).map Datum.toD := by rw [List.map_map]; rfl
  have pn : (PL n).Nodup := by
    have inj : ∀ a ∈ PL n, ∀ b ∈ PL n, spN a = spN b → a = b := fun a ha b hb z => by
      rw [← bits_sp a, ← bits_sp b, pl_mem ha, pl_mem hb, z]
    have mm : ∀ n, (PL n).Nodup := fun n => by
      induction n with
      | zero => exact List.pairwise_singleton ..
      | succ n ih =>
        rw [PL]
        have hh : ∀ l : List (List Bool), l.Nodup → (∀ a ∈ l, a.length = n) → (l.flatMap fun p => [p ++ [false], p ++ [true]]).Nodup := fun l => by
          induction l with
          | nil => intro _ _; exact .nil
          | cons a t ih =>
            intro nd hl
            rw [List.nodup_cons] at nd
            rw [List.flatMap_cons]
            refine List.nodup_append.mpr ⟨?_, ih nd.2 fun b hb => hl b (.tail _ hb), fun u hu v hv z => ?_⟩
            · refine List.nodup_cons.mpr ⟨fun z => ?_, List.pairwise_singleton ..⟩
              have := List.append_cancel_left (List.mem_singleton.mp z)
              cases this
            · subst z
              obtain ⟨b, hb, hu2⟩ := List.mem_flatMap.mp hv
              simp only [List.mem_cons, List.not_mem_nil, or_false] at hu hu2
              have : b = a := by
                rcases hu with rfl | rfl <;> rcases hu2 with z | z <;> exact ((List.append_inj' z rfl).1).symm
              subst this
              exact nd.1 hb
        exact hh _ ih fun a ha => pl_mem ha
    exact mm n
  rw [e2]
  refine congrArg (List.map Datum.toD) (strict_one (α := Int × Tup Bool) (srt_strict w1 (p1.nodup_iff.mpr ?_)) ?_ fun a => ?_)
  · refine List.pairwise_map.mpr (pn.imp fun {a b} z q => z ?_)
    have := congrArg (fun y : Int × Tup Bool => y.2.items) q
    exact this
  · refine List.pairwise_map.mpr ((List.pairwise_lt_range).imp fun {a b} z => ?_)
    show (if ((a : Nat) : Int) = (b : Int) then _ else DatumOrd.lt ((a : Nat) : Int) (b : Int)) = true
    rw [if_neg (by omega)]
    show decide (((a : Nat) : Int) < (b : Int)) = true
    exact decide_eq_true (by omega)
  · rw [p1.mem_iff, List.mem_map, List.mem_map]
    constructor
    · rintro ⟨r, hr, rfl⟩
      have hl := pl_mem hr
      refine ⟨spN r, List.mem_range.mpr (by rw [← hl]; exact spN_lt r), ?_⟩
      rw [← hl, bits_sp]
    · rintro ⟨k, hk, rfl⟩
      exact ⟨bitsOf n k, pl_all (bits_len n k), by rw [sp_bits (List.mem_range.mp hk)]⟩
/-- a clause of these names -/
def ClsOk (p : List Str) (o : List (Str × List Str)) (x : List (Str × Bool)) : Prop := (∀ y ∈ x, Nm y.1 ∧ y.1 ∈ p ++ o.map (·.1)) ∧ Asc (x.map fun y => .str y.1) ∧ x.length ≤ 14
/-- what an own sees at a play -/
def sP (p : List Str) (pl : List Bool) (y : Str × List Str) : PyData × PyData := (.str y.1, dB (y.2.map (lk p pl)))
/-- an own and its sight -/
def oP (y : Str × List Str) : PyData × PyData := (.str y.1, .tuple (y.2.map .str))
theorem dO_oP (o : List (Str × List Str)) : o.map dO = (o.map oP).map fun kv => .tuple [kv.1, kv.2] := by rw [List.map_map]; rfl
theorem merge_oP {o : List (Str × List Str)} (nd : (o.map (·.1)).Nodup) : mergeD [] (o.map oP) = o.map oP := merge_gen enc_str (k := fun y : Str × List Str => y.1) (v := fun y => .tuple (y.2.map .str)) (xs := []) nd
theorem zip_kB : ∀ (p : List Str) (pl : List Bool), (p.map PyData.str).zip (pl.map PyData.bool) = (p.zip pl).map kB
  | [], _ => by simp
  | _ :: _, [] => by simp
  | a :: p, b :: pl => by rw [List.map_cons, List.map_cons, List.zip_cons_cons, List.zip_cons_cons, List.map_cons, zip_kB p pl]; rfl
theorem flat_oP (o : List (Str × List Str)) : ((o.map oP).all fun kv => flatK kv.1) = true := by
  rw [List.all_map]
  exact List.all_eq_true.mpr fun _ _ => rfl
theorem some_oP (o : List (Str × List Str)) (l : Str × Bool) : (dGet (o.map oP) (.str l.1)).isSome = ownB o l := enc_some enc_str (k := fun y : Str × List Str => y.1) (v := fun y => .tuple (y.2.map .str)) o
theorem fit_oP (o : List (Str × List Str)) (s : Str) : dFit (o.map oP) (.str s) := enc_fit enc_str (k := fun y : Str × List Str => y.1) (v := fun y => .tuple (y.2.map .str)) o
theorem get_oP {o : List (Str × List Str)} (nd : (o.map (·.1)).Nodup) {l : Str × Bool} (h : ownB o l = true) : dGet (o.map oP) (.str l.1) = some (.tuple ((sgt o l.1).map .str)) := by
  obtain ⟨y, ym, ye⟩ := List.mem_map.mp (of_decide_eq_true h)
  rw [← ye, sgt_of nd ym]
  exact enc_val enc_str (k := fun y : Str × List Str => y.1) (v := fun y => .tuple (y.2.map .str)) nd ym
theorem some_sP (p : List Str) (pl : List Bool) (o : List (Str × List Str)) (l : Str × Bool) : (dGet (o.map (sP p pl)) (.str l.1)).isSome = ownB o l := enc_some enc_str (k := fun y : Str × List Str => y.1) (v := fun y => dB (y.2.map (lk p pl))) o
theorem fit_sP (p : List Str) (pl : List Bool) (o : List (Str × List Str)) (s : Str) : dFit (o.map (sP p pl)) (.str s) := enc_fit enc_str (k := fun y : Str × List Str => y.1) (v := fun y => dB (y.2.map (lk p pl))) o
theorem get_sP {p : List Str} {pl : List Bool} {o : List (Str × List Str)} (nd : (o.map (·.1)).Nodup) {l : Str × Bool} (h : ownB o l = true) : dGet (o.map (sP p pl)) (.str l.1) = some (dB ((sgt o l.1).map (lk p pl))) := by
  obtain ⟨y, ym, ye⟩ := List.mem_map.mp (of_decide_eq_true h)
  rw [← ye, sgt_of nd ym]
  exact enc_val enc_str (k := fun y : Str × List Str => y.1) (v := fun y => dB (y.2.map (lk p pl))) nd ym
theorem sgt_ok {p : List Str} {o : List (Str × List Str)} {c : List (List (Str × Bool))} (ok : SayOk p o c) {l : Str × Bool} (h : ownB o l = true) : Asc ((sgt o l.1).map .str) ∧ (∀ s ∈ sgt o l.1, s ∈ p) ∧ (sgt o l.1).length ≤ 6 := by
  obtain ⟨y, ym, ye⟩ := List.mem_map.mp (of_decide_eq_true h)
  have xk := ok.oo y ym
  rw [← ye, sgt_of (own_nodup ok.oa) ym]
  exact ⟨xk.2.2.2.1, fun s hs => (xk.2.2.1 s hs).2, xk.2.2.2.2⟩
theorem own_not {p : List Str} {o : List (Str × List Str)} {c : List (List (Str × Bool))} (ok : SayOk p o c) {l : Str × Bool} (h : ownB o l = true) : l.1 ∉ p := fun z => by
  obtain ⟨y, ym, ye⟩ := List.mem_map.mp (of_decide_eq_true h)
  exact (ok.oo y ym).2.1 (ye ▸ z)
theorem not_own {p : List Str} {o : List (Str × List Str)} {l : Str × Bool} (hm : l.1 ∈ p ++ o.map (·.1)) (h : ownB o l = false) : l.1 ∈ p := by
  rcases List.mem_append.mp hm with h2 | h2
  · exact h2
  · exact absurd h2 (of_decide_eq_false h)
theorem some_zip {p : List Str} {pl : List Bool} (pe : pl.length = p.length) (s : Str) : (dGet ((p.zip pl).map kB) (.str s)).isSome = decide (s ∈ p) := by
  have := enc_some enc_str (k := fun y : Str × Bool => y.1) (v := fun y => .bool y.2) (a := s) (p.zip pl)
  rw [zip_fst pe] at this
  exact this
theorem lf_dMk (m : List Mk3) : lfAll (m.map dMk) = true := lf_map (g := dMk) fun x => by
  have := lf_dB x.2.1
  unfold dMk
  rw [lf, lfAll, lfAll, lfAll, lfAll, this]
  rfl
theorem say_nm {p : List Str} {o : List (Str × List Str)} {c : List (List (Str × Bool))} (ok : SayOk p o c) : ∀ s ∈ p ++ o.map (·.1), Nm s := fun s hs => by
  rcases List.mem_append.mp hs with h | h
  · exact ok.pn s h
  · obtain ⟨y, hy, rfl⟩ := List.mem_map.mp h
    exact (ok.oo y hy).1
theorem clok_len {names : List Str} {x : List (Str × Bool)} (h : ClOk names x) : x.length ≤ names.length := by
  have n1 := clok_nodup h
  have := nodup_le n1 (m := names) fun s hs => by
    obtain ⟨y, hy, rfl⟩ := List.mem_map.mp hs
    exact h.mem y hy
  rwa [List.length_map] at this
theorem clsok_of {p : List Str} {o : List (Str × List Str)} {c : List (List (Str × Bool))} (ok : SayOk p o c) {x : List (Str × Bool)} (h : ClOk (p ++ o.map (·.1)) x) : ClsOk p o x := by
  have l := clok_len h
  have p6 := ok.pl
  have ol := ok.ol
  rw [List.length_append, List.length_map] at l
  refine ⟨fun y hy => ⟨say_nm ok _ (h.mem y hy), h.mem y hy⟩, ?_, by omega⟩
  have e : x.map (fun y => PyData.str y.1) = (x.map (·.1)).map .str := by rw [List.map_map]; rfl
  rw [e]
  exact asc_strs (List.pairwise_map.mpr h.asc)
theorem shaped_dCs {p : List Str} {o : List (Str × List Str)} {c : List (List (Str × Bool))} (ok : SayOk p o c) : SeqAt.shaped (.tuple (c.map dC)) = true := by
  have h : ∀ {cs : List (List (Str × Bool))}, (∀ x ∈ cs, ∀ y ∈ x, y.1 ∈ p ++ o.map (·.1)) → PyData.canLayAll0 (cs.map dC) = true ∧ PyData.depthAll (cs.map dC) ≤ 2 := fun {cs} => by
    induction cs with
    | nil => exact fun _ => ⟨rfl, by decide⟩
    | cons c cs ih =>
      intro h
      obtain ⟨h1, h2⟩ := ih fun x hx => h x (.tail _ hx)
      obtain ⟨h3, h4⟩ := lay_dL (say_nm ok) (h c (.head _))
      have l1 : (dC c).canLay0 = true := by simp only [dC, PyData.canLay0, h3]
      have l2 : (dC c).depth ≤ 2 := by simp only [dC, PyData.depth]; omega
      rw [List.map_cons]
      exact ⟨by rw [PyData.canLayAll0, h1, l1]; rfl, by rw [PyData.depthAll]; omega⟩
  obtain ⟨h1, h2⟩ := h fun x hx y hy => ((ok.cc x hx).1 y hy).2
  have h3 : PyData.depth (.tuple (c.map dC)) ≤ 64 := by simp only [PyData.depth]; omega
  show (PyData.canLay0 (.tuple (c.map dC)) && decide (PyData.depth (.tuple (c.map dC)) ≤ 64)) = true
  rw [Bool.and_eq_true]
  exact ⟨by simp only [PyData.canLay0]; exact h1, decide_eq_true h3⟩
theorem clsok_nil {p : List Str} {o : List (Str × List Str)} : ClsOk p o [] := ⟨fun _ h => (by cases h), asc_strs (xs := []) .nil, by decide⟩
end OS


namespace Gk02
open PySem L2 OS
local macro_rules | `(tactic| walk_at "OS") => `(tactic| simp (config := { failIfUnchanged := false, maxSteps := 10000000 }) only [openA, shutA, pmL_nil, pmL_cons, augI, atT, aSeq, startA, startT, endsT, endsP, dats, argD, drawn, Option.map, lent_1, lent_2, dAdd_1, dAdd_2, dAdd_3, dAdd_4, dII_1, dI2_1, dIB_1, dLt_1, dEq_1, dEq_2, dEq_3, dIn_1, dIn_2, dIn_3, dIn_4, dIn_5, dIn_6, dIn_7, dIn_8, dIn_9, dIn_10, dIn_11, dIn_12, dIn_13, dIn_14, dIn_15, dIn_16, dIn_17, dIn_18, dIn_19, dIn_20, dIx_1, dIx_2, dIx_3, dIx_4, ixV_1, ixV_2, ixV_3, sLen_1, sLen_2, sLen_3, sList_1, sList_2, sTuple_1, sTuple_2, sAbs_1, sInt_1, sInt_2, sMax2_1, sMin2_1, sAll_1, sAny_1, sSum_1, sMaxL_1, sMinL_1, sListS_1, dCut_1, dCut_2, dCut_3, dIter_1, dIter_2, dIter_3, dIter_4, dNeg_1, sSortG_1, sSS_1, sLenX_1, sLenX_2, sLenX_3, sLenX_4, sListX_1, sListX_2, sListX_3, sSortX_1, sSortX_2, sSortX_3, varR_1, varR_2, varR_3, isV_1, isV_2, isV_3, varL_1, varL_2, varL_3, dZip_1, dZip_2, opS_1, opC_1, opC_2, prsD_1, prsD_2, enumR_1, enumR_2, dZip2_1, dZip2_2, dZip2_3, dZip2_4, roIsB_1, dZipK_1, dZipK_2, dZipK_3, dZipK_4, vol_1, vol_2, vol_3, vol_4, vol_5, vol_6, noneD_none, noneD_bool, noneD_int, noneD_str, noneD_list, noneD_tuple, isBoolD_none, isBoolD_bool, isBoolD_int, isBoolD_str, isBoolD_list, isBoolD_tuple, isIntD_none, isIntD_bool, isIntD_int, isIntD_str, isIntD_list, isIntD_tuple, isStrD_none, isStrD_bool, isStrD_int, isStrD_str, isStrD_list, isStrD_tuple, isListD_none, isListD_bool, isListD_int, isListD_str, isListD_list, isListD_tuple, isTupD_none, isTupD_bool, isTupD_int, isTupD_str, isTupD_list, isTupD_tuple, Rs_dat_d, Rs_dat_o, Rs_lf_d, Rs_lf_o, avs_d, avs_o, avs_c, lf_none, lf_bool, lf_int, lf_str, lf_list, lf_tuple, lfAll_0, lfAll_1, drw_1, drw_2, atI_0, atI_1, atI_2, atI_3, atI_4, dLt_ss, dLt_tt, dEq_ll, dEq_tt, aLc, aFor, aWhile, still, wipeA, mergeA, setsA, vAnd, vOr, OS.tAnd, OS.tOr, tkGet, tkPut, agN, roIs, inF, inDp, Int.cast_ofNat_Int, Int.reduceEq, Int.reduceLT, Int.reduceLE, decide_true, decide_false, eq_self, Option.getD_some, List.mapIdx_cons, List.mapIdx_nil, List.getD_cons_zero, List.getD_cons_succ, List.mem_cons, List.not_mem_nil, List.mem_singleton, List.map_cons, List.map_nil, List.set_cons_zero, List.set_cons_succ, List.cons_append, List.nil_append, List.getElem?_cons_zero, List.getElem?_cons_succ, List.length_cons, List.length_nil, List.replicate, Nat.reduceAdd, Nat.reduceSub, Nat.reduceMul, Nat.reduceEqDiff, Nat.zero_add, Nat.succ_ne_zero, Nat.add_eq_zero_iff, Int.reduceToNat, Int.reducePow, Int.reduceAdd, Int.reduceSub, Int.reduceMul, Int.reduceNeg, Int.natCast_zero, Int.natCast_one, ex1, ex2, exists_eq', exists_eq, exists_eq_left', exists_eq_left, exists_and_left, exists_and_right, and_assoc, forall_eq, forall_eq_or_imp, forall_eq', Option.some.injEq, AV.d.injEq, AV.ml.injEq, AV.dk.injEq, AV.tank.injEq, AArg.d.injEq, PyData.int.injEq, PyData.bool.injEq, PyData.str.injEq, PyData.list.injEq, PyData.tuple.injEq, Rs.d.injEq, Rs.own.injEq, List.cons.injEq, and_true, true_and, and_self, or_self, decide_eq_true_eq, decide_eq_false_iff_not, reduceCtorEq, false_and, and_false, false_or, or_false, exists_false, Bool.true_eq_false, Bool.false_eq_true, forall_const, true_implies, false_implies, implies_true, Bool.not_eq_true, Bool.not_eq_false, Bool.not_true, Bool.not_false, if_true, if_false, ite_true, ite_false, Bool.and_eq_true])
def top (i : Nat) : Stmt := PySem.Challenge.pw_onlyseen_k02_plays_what_is_seen_and_lett.main.body.getD i (.Pass ⟨0, 0, 0, 0⟩)
abbrev s_l_source : Stmt := top 47
abbrev s_l_same : Stmt := top 49
abbrev s_l_plays : Stmt := top 54
abbrev s_l_spot : Stmt := top 56
abbrev s_l_copies : Stmt := top 57
abbrev s_p_names_of : Stmt := top 23
abbrev s_p_are_ascending : Stmt := top 15
abbrev s_p_is_name : Stmt := top 16
abbrev s_p_are_names : Stmt := top 17
abbrev s_p_is_own : Stmt := top 21
abbrev s_p_are_owns : Stmt := top 22
abbrev s_p_has_names : Stmt := top 24
abbrev s_p_is_truth : Stmt := top 13
abbrev s_p_is_letter : Stmt := top 19
abbrev s_p_is_any_clause : Stmt := top 20
abbrev s_p_is_a_saying : Stmt := top 25
abbrev s_p_need_saying : Stmt := top 29
abbrev s_p_plays_of : Stmt := top 34
abbrev s_p_plays : Stmt := top 42
abbrev s_p_seen_at : Stmt := top 36
abbrev s_p_copies_of : Stmt := top 37
abbrev s_p_copies : Stmt := top 44
abbrev s_l_lists_right : Stmt := top 59
abbrev s_l_sees : Stmt := top 55
abbrev s_l_letters : Stmt := top 58
abbrev s_l_pick : Stmt := top 48
abbrev s_l_clause : Stmt := top 51
abbrev s_p_is_a_clause : Stmt := top 26
abbrev s_p_need_clause : Stmt := top 30
abbrev s_p_are_truths : Stmt := top 18
abbrev s_p_is_a_play : Stmt := top 27
abbrev s_p_need_play : Stmt := top 31
abbrev s_p_marked_by : Stmt := top 39
abbrev s_p_seen_by : Stmt := top 35
abbrev s_p_sees_at : Stmt := top 38
abbrev s_p_marked_at : Stmt := top 40
abbrev s_p_letters_at : Stmt := top 45
abbrev s_p_sight_of : Stmt := top 28
abbrev s_p_need_own : Stmt := top 32
abbrev s_p_seen : Stmt := top 43
abbrev s_l_right : Stmt := top 60
abbrev s_l_words : Stmt := top 50
abbrev s_l_some : Stmt := top 52
abbrev s_l_saying : Stmt := top 53
abbrev s_l_law : Stmt := top 61

section
variable {P : Program} {w : World} {K : PySem.W.Frag} {mg : Str → Option Value} {base : Heap}
theorem sc_l_source : FnScope ["script", "k", "cell", "total", "other"] ["script", "k"] (defScope s_l_source) := ⟨rfl, rfl, rfl, by decide +kernel, rfl, by decide +kernel, by decide +kernel⟩

def sp_l_source : PSp := fun ds q => match ds with
  | [.list xs, .int k] => ∃ ns : List Int, xs = ns.map .int ∧ (∀ i ∈ ns, i.natAbs < 2 ^ 1048576) ∧ ns.length ≤ 16777215 ∧ 0 ≤ k ∧ k ≤ 1000000 ∧ ∀ a b : Int, 0 ≤ a → 0 ≤ b → b < 10 ^ 40 → q (.own [.int a, .int b, .int 0])
  | _ => False


theorem d_l_source {f : Addr} {fd : FuncData} (F : Fun K "_law_source" "_law_source" s_l_source f fd) (bd : Binds K fd ["script", "k"] []) (hmg : mg "_law_source" = some (.ref f)) (b_len : mg "len" = none) (b_int : mg "int" = none) (b_abs : mg "abs" = none) (b_max : mg "max" = none) : FnP P w K mg base "_law_source" ["script", "k"] 1 sp_l_source := by
  refine fnP F sc_l_source (fun ds q h => ?_) bd hmg fun cdv A outer s H E hr => (have hu := hr.1.roomy; ⟨_, (ass_cons (as_set 2 sc_l_source.nd (ae_if (at_ltD hu (ae_var 1) (ae_bi (bu_lenX b_len) ps_lenX (aa_cons (ae_var 0) aa_nil))) (ae_ixD hu (ae_var 0) (ae_var 1)) (ae_add (ae_mul ae_int (ae_var 1)) ae_int))) (ass_cons (as_set 3 sc_l_source.nd (ae_bi (bu_lenX b_len) ps_lenX (aa_cons (ae_var 0) aa_nil))) (ass_cons (as_for (fun _ => PassesOwn.never) rfl (ai_seq (ae_var 0)) (ag_name 4 sc_l_source.nd) (ass_one (as_set 3 sc_l_source.nd (ae_mod (ae_bi (bu_int b_int) ps_int (aa_cons (ae_add (ae_mul (ae_var 3) ae_int) (ae_mod (ae_bi (bu_int b_int) ps_int (aa_cons (ae_var 4) aa_nil)) (ae_add (ae_pow ae_int ae_int) ae_int))) aa_nil)) (ae_add (ae_pow ae_int ae_int) ae_int))))) (ass_one (as_retL (al_lst (aa_cons (ae_bi (bu_max2 rfl b_max) ps_max2 (aa_cons ae_int (aa_cons (ae_sub (ae_var 2) (ae_pow ae_int ae_int)) aa_nil))) (aa_cons (ae_mod (ae_bi (bu_int b_int) ps_int (aa_cons (ae_add (ae_add (ae_add (ae_mul (ae_bi (bu_abs b_abs) ps_abs (aa_cons (ae_var 2) aa_nil)) ae_int) (ae_mul ae_int (ae_var 3))) (ae_bi (bu_int b_int) ps_int (aa_cons (ae_ltD hu (ae_var 2) ae_int) aa_nil))) (ae_mul ae_int (ae_var 1))) aa_nil)) (ae_add (ae_pow ae_int ae_int) ae_int)) (aa_cons ae_int aa_nil))))))))), fun ds q h => ?_⟩)
  · unfold sp_l_source at h
    split at h <;> first | rfl | exact h.elim
  · unfold sp_l_source at h
    split at h
    rotate_left
    · exact h.elim
    rename_i k
    obtain ⟨ns, rfl, hb, hl, k0, k1, hq⟩ := h
    walk_at "OS"
    refine ⟨fun h => ?_, fun h => ?_⟩
    · obtain ⟨d, hd, e⟩ := atI_z k0 h
      obtain ⟨cell, hx, rfl⟩ := List.mem_map.mp hd
      refine ⟨_, e, ?_⟩
      have hc := hb cell hx
      refine ex_fx (fun i ρ2 => ∃ T : Int, ∃ x, ρ2 = [AV.d (PyData.list (List.map PyData.int ns)), AV.d (PyData.int k), AV.d (.int cell), AV.d (.int T), x] ∧ 0 ≤ T ∧ T ≤ 10 ^ 34) ⟨_, _, rfl, by omega, by rw [List.length_map]; omega⟩ (fun I hI i z ρ2 hz zm tk ⟨T, x, e, t0, t1⟩ => ?_) fun ρ2 ⟨T, x, e, t0, t1⟩ => ?_
      · subst e
        walk_at "OS"
        have m1 := modB (T * 7919 + z % 100000000000000000039) (j := 100000000000000000000000067) (by decide)
        exact ⟨mulB t0 (by omega) (by decide) (by decide), powB (by decide) (by decide), powB (by decide) (by decide), hI _ _ ⟨_, _, rfl, m1.1, by omega⟩⟩
      · subst e
        walk_at "OS"
        have hx2 : (if cell < 0 then -cell else cell).natAbs = cell.natAbs := by split <;> omega
        refine ⟨powB (by decide) (by decide), mulX (a := 1048576) (b := 16) (by rw [hx2]; exact hc) (by decide) (by decide), mulB (by decide) (by decide) t0 (by omega), mulB (by decide) (by decide) k0 (by omega), powB (by decide) (by decide), by decide, hq _ _ (by split <;> omega) (modB _ (by decide)).1 (Int.lt_trans (modB _ (by decide)).2 (by decide))⟩
    · refine ⟨mulB (by decide) (by decide) k0 (by omega), ?_⟩
      obtain ⟨cell, ec⟩ : ∃ cell : Int, cell = 41 * k + 17 := ⟨_, rfl⟩
      have hc : cell.natAbs < 2 ^ 1048576 := Nat.lt_of_lt_of_le (show cell.natAbs < 2 ^ 100 by omega) (Nat.pow_le_pow_right (by decide) (by decide))
      rw [← ec]
      refine ex_fx (fun i ρ2 => ∃ T : Int, ∃ x, ρ2 = [AV.d (PyData.list (List.map PyData.int ns)), AV.d (PyData.int k), AV.d (.int cell), AV.d (.int T), x] ∧ 0 ≤ T ∧ T ≤ 10 ^ 34) ⟨_, _, rfl, by omega, by rw [List.length_map]; omega⟩ (fun I hI i z ρ2 hz zm tk ⟨T, x, e, t0, t1⟩ => ?_) fun ρ2 ⟨T, x, e, t0, t1⟩ => ?_
      · subst e
        walk_at "OS"
        have m1 := modB (T * 7919 + z % 100000000000000000039) (j := 100000000000000000000000067) (by decide)
        exact ⟨mulB t0 (by omega) (by decide) (by decide), powB (by decide) (by decide), powB (by decide) (by decide), hI _ _ ⟨_, _, rfl, m1.1, by omega⟩⟩
      · subst e
        walk_at "OS"
        have hx2 : (if cell < 0 then -cell else cell).natAbs = cell.natAbs := by split <;> omega
        refine ⟨powB (by decide) (by decide), mulX (a := 1048576) (b := 16) (by rw [hx2]; exact hc) (by decide) (by decide), mulB (by decide) (by decide) t0 (by omega), mulB (by decide) (by decide) k0 (by omega), powB (by decide) (by decide), by decide, hq _ _ (by split <;> omega) (modB _ (by decide)).1 (Int.lt_trans (modB _ (by decide)).2 (by decide))⟩

theorem sc_l_same : FnScope ["found", "due", "at"] ["found", "due"] (defScope s_l_same) := ⟨rfl, rfl, rfl, by decide +kernel, rfl, by decide +kernel, by decide +kernel⟩

/-- what is compared: no dicts in it, and so many levels -/
def plainD : Nat → PyData → Prop
  | 0, _ => False
  | n + 1, .list xs => xs.length ≤ 1000000 ∧ ∀ x ∈ xs, plainD n x
  | n + 1, .tuple xs => xs.length ≤ 1000000 ∧ ∀ x ∈ xs, plainD n x
  | _ + 1, .bool _ => True
  | _ + 1, .int _ => True
  | _ + 1, .str _ => True
  | _ + 1, .none => True
  | _ + 1, .dict _ => False
def sn_l_same (n : Nat) : PSp := fun ds q => match ds with
  | [d, e] => d = e ∧ plainD (n + 1) e ∧ q (.d (.bool true))
  | _ => False
def sr_l_same : Nat → PSp
  | 0 => fun _ _ => False
  | n + 1 => sn_l_same n
def sp_l_same : PSp := sr_l_same 6
theorem same_of : ∀ {n : Nat} {x : PyData} {q : Rs → Prop}, plainD n x → q (.d (.bool true)) → sr_l_same n [x, x] q
  | 0, _, _, h, _ => h.elim
  | _ + 1, _, _, h, hq => ⟨rfl, h, hq⟩


theorem r_l_same {n0 : Nat} {f : Addr} {fd : FuncData} (F : Fun K "_law_same" "_law_same" s_l_same f fd) (bd : Binds K fd ["found", "due"] []) (hmg : mg "_law_same" = some (.ref f)) (b_isinstance : mg "isinstance" = none) (b_tuple : mg "tuple" = none) (b_list : mg "list" = none) (b_all : mg "all" = none) (b_range : mg "range" = none) (b_len : mg "len" = none) (b_bool : mg "bool" = none) (b_int : mg "int" = none) (b_str : mg "str" = none) (g_l_same : FnP P w K mg base "_law_same" ["found", "due"] (1 + n0) (sr_l_same n0)) : FnP P w K mg base "_law_same" ["found", "due"] (1 + (n0 + 1)) (sr_l_same (n0 + 1)) := by
  refine fnP F sc_l_same (fun ds q h => ?_) bd hmg fun cdv A outer s H E hr => (have hu := hr.1.roomy; ⟨_, (ass_cons (as_if (AWt.at (aw_or (at_isi isTy_list isTy_list.boot b_isinstance b_list (ae_var 1)) (aw_or1 (at_isi isTy_tuple isTy_tuple.boot b_isinstance b_tuple (ae_var 1))))) (ass_cons (as_if (AWt.at (aw_or (at_neD hu (ae_isi isTy_list isTy_list.boot b_isinstance b_list (ae_var 0)) (ae_isi isTy_list isTy_list.boot b_isinstance b_list (ae_var 1))) (aw_or1 (at_neD hu (ae_isi isTy_tuple isTy_tuple.boot b_isinstance b_tuple (ae_var 0)) (ae_isi isTy_tuple isTy_tuple.boot b_isinstance b_tuple (ae_var 1)))))) (ass_one (as_ret ae_bl)) ass_nil) (ass_one (as_ret (ae_and (ae_eqD hu (ae_bi (bu_lenX b_len) ps_lenX (aa_cons (ae_var 0) aa_nil)) (ae_bi (bu_lenX b_len) ps_lenX (aa_cons (ae_var 1) aa_nil))) (ae_one (ae_bi (bu_all rfl b_all) ps_all (aa_cons (AL.ae (al_lc (own := [("at", 2)]) rfl sc_l_same.nd (ai_rng1 (fun _ => rfl) b_range (aa_cons (ae_bi (bu_lenX b_len) ps_lenX (aa_cons (ae_var 1) aa_nil)) aa_nil)) (fun _ => blkOk_by rfl) (ago_name 2 (by decide) sc_l_same.nd) ats_nil (ae_call g_l_same ⟨hr.1.mono (Nat.le_refl _), hr.2⟩ (aa_cons (ae_ixD hu (ae_var 0) (ae_var 2)) (aa_cons (ae_ixD hu (ae_var 1) (ae_var 2)) aa_nil))))) aa_nil))))))) ass_nil) (ass_cons (as_if (at_isi isTy_bool isTy_bool.boot b_isinstance b_bool (ae_var 1)) (ass_one (as_ret (ae_and (ae_isi isTy_bool isTy_bool.boot b_isinstance b_bool (ae_var 0)) (ae_one (ae_eqD hu (ae_var 0) (ae_var 1)))))) ass_nil) (ass_cons (as_if (at_isi isTy_int isTy_int.boot b_isinstance b_int (ae_var 1)) (ass_one (as_ret (ae_and (ae_isi isTy_int isTy_int.boot b_isinstance b_int (ae_var 0)) (ae_and (ae_not (ae_isi isTy_bool isTy_bool.boot b_isinstance b_bool (ae_var 0))) (ae_one (ae_eqD hu (ae_var 0) (ae_var 1))))))) ass_nil) (ass_cons (as_if (at_isi isTy_str isTy_str.boot b_isinstance b_str (ae_var 1)) (ass_one (as_ret (ae_and (ae_isi isTy_str isTy_str.boot b_isinstance b_str (ae_var 0)) (ae_one (ae_eqD hu (ae_var 0) (ae_var 1)))))) ass_nil) (ass_one (as_ret (ae_cmp sop_is.aop (fun _ => op_isN) (ae_var 0) ae_non (by first | exact nobehind _ (by decide) (by decide) | rfl)))))))), fun ds q h => ?_⟩)
  · replace h : sn_l_same n0 ds q := h
    unfold sn_l_same at h
    split at h <;> first | rfl | exact h.elim
  · replace h : sn_l_same n0 ds q := h
    unfold sn_l_same at h
    split at h
    rotate_left
    · exact h.elim
    obtain ⟨rfl, pd, hq⟩ := h
    rename_i d
    cases d with
    | none =>
      walk_at "OS"
      exact hq
    | bool b =>
      walk_at "OS"
      exact hq
    | int i =>
      walk_at "OS"
      exact hq
    | str x =>
      walk_at "OS"
      exact hq
    | dict kvs => exact pd.elim
    | list xs =>
      obtain ⟨xl, px⟩ := pd
      walk_at "OS"
      refine ⟨by omega, by omega, by rw [rng_len]; omega, ex_j (fun i acc ρ2 => acc = (List.replicate i true).map .bool ∧ ρ2 = [AV.d (.list xs), .d (.list xs), .no]) ⟨rfl, rfl⟩ (fun I hI i d acc ρ2 hd ⟨e1, e2⟩ => ?_) fun acc ρ2 ⟨e1, e2⟩ => ?_⟩
      · obtain ⟨rfl, hi⟩ := rng_get hd
        rw [Int.toNat_natCast] at hi
        have hx : atI xs (0 + (i : Int)) = some xs[i] := by
          rw [Int.zero_add]
          exact atI_nat (List.getElem?_eq_getElem hi)
        have pm := px _ (List.getElem_mem hi)
        generalize xs[i] = x at hx pm
        subst e1 e2
        walk_at "OS"
        refine ⟨_, hx, _, hx, same_of pm ?_⟩
        walk_at "OS"
        exact hI _ _ _ ⟨by rw [List.replicate_succ', List.map_append]; rfl, rfl⟩
      · subst e1 e2
        refine ⟨_, rfl, ?_⟩
        have e : (List.replicate (rng 0 (xs.length : Int).toNat).length true).all id = true := by simp
        rw [e]
        exact hq
    | tuple xs =>
      obtain ⟨xl, px⟩ := pd
      walk_at "OS"
      refine ⟨by omega, by omega, by rw [rng_len]; omega, ex_j (fun i acc ρ2 => acc = (List.replicate i true).map .bool ∧ ρ2 = [AV.d (.tuple xs), .d (.tuple xs), .no]) ⟨rfl, rfl⟩ (fun I hI i d acc ρ2 hd ⟨e1, e2⟩ => ?_) fun acc ρ2 ⟨e1, e2⟩ => ?_⟩
      · obtain ⟨rfl, hi⟩ := rng_get hd
        rw [Int.toNat_natCast] at hi
        have hx : atI xs (0 + (i : Int)) = some xs[i] := by
          rw [Int.zero_add]
          exact atI_nat (List.getElem?_eq_getElem hi)
        have pm := px _ (List.getElem_mem hi)
        generalize xs[i] = x at hx pm
        subst e1 e2
        walk_at "OS"
        refine ⟨_, hx, _, hx, same_of pm ?_⟩
        walk_at "OS"
        exact hI _ _ _ ⟨by rw [List.replicate_succ', List.map_append]; rfl, rfl⟩
      · subst e1 e2
        refine ⟨_, rfl, ?_⟩
        have e : (List.replicate (rng 0 (xs.length : Int).toNat).length true).all id = true := by simp
        rw [e]
        exact hq
theorem d_l_same {f : Addr} {fd : FuncData} (F : Fun K "_law_same" "_law_same" s_l_same f fd) (bd : Binds K fd ["found", "due"] []) (hmg : mg "_law_same" = some (.ref f)) (b_isinstance : mg "isinstance" = none) (b_tuple : mg "tuple" = none) (b_list : mg "list" = none) (b_all : mg "all" = none) (b_range : mg "range" = none) (b_len : mg "len" = none) (b_bool : mg "bool" = none) (b_int : mg "int" = none) (b_str : mg "str" = none) : FnP P w K mg base "_law_same" ["found", "due"] 7 sp_l_same := by
  have go : ∀ n, FnP P w K mg base "_law_same" ["found", "due"] (1 + n) (sr_l_same n) := fun n => by
    induction n with
    | zero => exact ⟨f, fd, hmg, F.kp, bd, fnG_never fun _ _ h => h⟩
    | succ n ih => exact r_l_same F bd hmg b_isinstance b_tuple b_list b_all b_range b_len b_bool b_int b_str ih
  exact go 6

theorem sc_l_plays : FnScope ["size", "found", "turn", "longer", "play"] ["size"] (defScope s_l_plays) := ⟨rfl, rfl, rfl, by decide +kernel, rfl, by decide +kernel, by decide +kernel⟩

def sp_l_plays : PSp := fun ds q => match ds with
  | [.int n] => ∃ a : Nat, n = a ∧ a ≤ 6 ∧ q (.d (.list ((PL a).map dB)))
  | _ => False


theorem d_l_plays {f : Addr} {fd : FuncData} (F : Fun K "_law_plays" "_law_plays" s_l_plays f fd) (bd : Binds K fd ["size"] []) (hmg : mg "_law_plays" = some (.ref f)) (b_range : mg "range" = none) : FnP P w K mg base "_law_plays" ["size"] 1 sp_l_plays := by
  refine fnP F sc_l_plays (fun ds q h => ?_) bd hmg fun cdv A outer s H E hr => (have hu := hr.1.roomy; ⟨_, (ass_cons (as_set 1 sc_l_plays.nd (AL.ae (al_lst (aa_cons (ae_tup aa_nil) aa_nil)))) (ass_cons (as_for (fun _ => PassesOwn.never) rfl (ai_rng1 (fun _ => rfl) b_range (aa_cons (ae_var 0) aa_nil)) (ag_name 2 sc_l_plays.nd) (ass_cons (as_set 3 sc_l_plays.nd (AL.ae (al_lst aa_nil))) (ass_cons (as_for (fun _ => PassesOwn.never) rfl (ai_seq (ae_var 1)) (ag_name 4 sc_l_plays.nd) (ass_one (as_set 3 sc_l_plays.nd (ae_add (ae_var 3) (AL.ae (al_lst (aa_cons (ae_add (ae_var 4) (ae_tup (aa_cons ae_bl aa_nil))) (aa_cons (ae_add (ae_var 4) (ae_tup (aa_cons ae_bl aa_nil))) aa_nil)))))))) (ass_one (as_set 1 sc_l_plays.nd (ae_var 3)))))) (ass_one (as_ret (ae_var 1))))), fun ds q h => ?_⟩)
  · unfold sp_l_plays at h
    split at h <;> first | rfl | exact h.elim
  · unfold sp_l_plays at h
    split at h
    rotate_left
    · exact h.elim
    obtain ⟨a, rfl, al, hq⟩ := h
    walk_at "OS"
    refine ⟨by decide, by decide, by omega, by omega, ?_⟩
    rw [Int.toNat_natCast]
    refine ex_f (fun i ρ => ∃ y2 y3 y4, ρ = [AV.d (.int a), .d (.list ((PL i).map dB)), y2, y3, y4]) ⟨_, _, _, rfl⟩ (fun I hI i d ρ2 hd ⟨y2, y3, y4, e⟩ => ?_) fun ρ2 ⟨y2, y3, y4, e⟩ => ?_
    · obtain ⟨rfl, hi⟩ := rng_get hd
      have e64 : (PL i).length ≤ 32 := by rw [pl_len]; exact Nat.le_trans (Nat.pow_le_pow_right (by decide) (show i ≤ 5 by omega)) (by decide)
      subst e
      walk_at "OS"
      refine ⟨by decide, ex_fx (fun j ρ => ∃ y4, ρ = [AV.d (.int a), .d (.list ((PL i).map dB)), .d (.int (0 + (i : Int))), .d (.list ((((PL i).take j).flatMap fun p => [p ++ [false], p ++ [true]]).map dB)), y4]) ⟨_, by rw [List.take_zero]; rfl⟩ (fun I2 hI2 j x ρ2 hx xm tk ⟨y4, e⟩ => ?_) fun ρ2 ⟨y4, e⟩ => ?_⟩
      · subst e
        have lj := (List.getElem?_eq_some_iff.mp hx).1
        have fl : ∀ l : List (List Bool), (l.flatMap fun p => [p ++ [false], p ++ [true]]).length = 2 * l.length := fun l => by
          induction l with
          | nil => rfl
          | cons a t ih => rw [List.flatMap_cons, List.length_append, ih]; simp only [List.length_cons, List.length_nil]; omega
        have ll := fl ((PL i).take j)
        rw [List.length_take] at ll
        have xl := pl_mem xm
        unfold dB
        walk_at "OS"
        refine ⟨by decide, by rw [List.length_map]; omega, by decide, by rw [List.length_map]; omega, by decide, by rw [List.length_map, ll]; omega, hI2 _ _ ⟨AV.d (dB x), ?_⟩⟩
        rw [tk, List.flatMap_append, List.map_append, List.flatMap_singleton]
        simp only [List.map_cons, List.map_nil]
        unfold dB
        rw [List.map_append, List.map_append]
        rfl
      · subst e
        walk_at "OS"
        rw [List.take_length]
        exact hI _ _ ⟨_, _, _, rfl⟩
    · subst e
      rw [rng_len]
      walk_at "OS"
      exact hq

theorem sc_l_spot : FnScope ["row", "total", "at"] ["row"] (defScope s_l_spot) := ⟨rfl, rfl, rfl, by decide +kernel, rfl, by decide +kernel, by decide +kernel⟩

def sp_l_spot : PSp := fun ds q => match ds with
  | [.tuple xs] => ∃ bs : List Bool, xs = bs.map .bool ∧ bs.length ≤ 6 ∧ q (.d (.int (spN bs)))
  | _ => False


theorem d_l_spot {f : Addr} {fd : FuncData} (F : Fun K "_law_spot" "_law_spot" s_l_spot f fd) (bd : Binds K fd ["row"] []) (hmg : mg "_law_spot" = some (.ref f)) (b_range : mg "range" = none) (b_len : mg "len" = none) (b_int : mg "int" = none) : FnP P w K mg base "_law_spot" ["row"] 1 sp_l_spot := by
  refine fnP F sc_l_spot (fun ds q h => ?_) bd hmg fun cdv A outer s H E hr => (have hu := hr.1.roomy; ⟨_, (ass_cons (as_set 1 sc_l_spot.nd ae_int) (ass_cons (as_for (fun _ => PassesOwn.never) rfl (ai_rng1 (fun _ => rfl) b_range (aa_cons (ae_bi (bu_lenX b_len) ps_lenX (aa_cons (ae_var 0) aa_nil)) aa_nil)) (ag_name 2 sc_l_spot.nd) (ass_one (as_set 1 sc_l_spot.nd (ae_add (ae_var 1) (ae_mul (ae_shl ae_int (ae_var 2)) (ae_bi (bu_int b_int) ps_int (aa_cons (ae_ixD hu (ae_var 0) (ae_var 2)) aa_nil))))))) (ass_one (as_ret (ae_var 1))))), fun ds q h => ?_⟩)
  · unfold sp_l_spot at h
    split at h <;> first | rfl | exact h.elim
  · unfold sp_l_spot at h
    split at h
    rotate_left
    · exact h.elim
    obtain ⟨bs, rfl, bl, hq⟩ := h
    walk_at "OS"
    rw [List.length_map]
    refine ⟨by omega, by omega, ex_f (fun i ρ2 => ∃ y2, ρ2 = [AV.d (.tuple (bs.map .bool)), .d (.int (spN (bs.take i))), y2]) ⟨_, rfl⟩ (fun I hI i d ρ2 hd ⟨y2, e⟩ => ?_) fun ρ2 ⟨y2, e⟩ => ?_⟩
    · obtain ⟨rfl, hi⟩ := rng_get hd
      rw [Int.toNat_natCast] at hi
      have hb : bs[i]? = some bs[i] := List.getElem?_eq_getElem hi
      have tk : bs.take (i + 1) = bs.take i ++ [bs[i]] := by rw [List.take_succ, hb]; rfl
      have hs := spN_take tk hi
      generalize bs[i] = b at hb tk hs
      subst e
      walk_at "OS"
      have shl : CShl 1 (0 + (i : Int)) := ⟨by omega, by have : Builtin.Int.intBits 1 = 1 := (by decide); rw [this]; omega⟩
      have e2n : (1 : Int) * 2 ^ (0 + (i : Int)).toNat = ((2 ^ i : Nat) : Int) := by rw [Int.one_mul, show (0 + (i : Int)).toNat = i by omega]; simp
      have p64 : 2 ^ i ≤ 64 := Nat.le_trans (Nat.pow_le_pow_right (by decide) (show i ≤ 6 by omega)) (by decide)
      rw [e2n]
      refine ⟨shl, _, at_map hb, ?_⟩
      obtain ⟨M, eM⟩ : ∃ M, M = 2 ^ i := ⟨_, rfl⟩
      rw [← eM] at p64 hs ⊢
      walk_at "OS"
      refine ⟨mulB (by omega) (by omega) (by split <;> decide) (by split <;> decide), hI _ _ ⟨.d (.int (0 + (i : Int))), ?_⟩⟩
      have e : ((spN (bs.take i) : Nat) : Int) + (M : Int) * (if b = true then 1 else 0) = ((spN (bs.take (i + 1)) : Nat) : Int) := by
        rw [hs]
        cases b <;> simp
      rw [e]
    · subst e
      rw [rng_len, Int.toNat_natCast, List.take_length]
      walk_at "OS"
      exact hq

theorem sc_l_copies : FnScope ["saying", "found", "word", "sight", "rows", "row", "spot"] ["saying"] (defScope s_l_copies) := ⟨rfl, rfl, rfl, by decide +kernel, rfl, by decide +kernel, by decide +kernel⟩

def sp_l_copies : PSp := fun ds q => match ds with
  | [d] => ∃ p o c, d = dSay p o c ∧ SayOk p o c ∧ q (.d (.list ((copL o).map dCp)))
  | _ => False


theorem d_l_copies {f : Addr} {fd : FuncData} (F : Fun K "_law_copies" "_law_copies" s_l_copies f fd) (bd : Binds K fd ["saying"] []) (hmg : mg "_law_copies" = some (.ref f)) (b_sorted : mg "sorted" = none) (b_len : mg "len" = none) (g_l_plays : FnP P w K mg base "_law_plays" ["size"] 1 sp_l_plays) (g_l_spot : FnP P w K mg base "_law_spot" ["row"] 1 sp_l_spot) : FnP P w K mg base "_law_copies" ["saying"] 2 sp_l_copies := by
  refine fnP F sc_l_copies (fun ds q h => ?_) bd hmg fun cdv A outer s H E hr => (have hu := hr.1.roomy; ⟨_, (ass_cons (as_set 1 sc_l_copies.nd (AL.ae (al_lst aa_nil))) (ass_cons (as_for (fun _ => PassesOwn.never) rfl (ai_seq (ae_ixD hu (ae_var 0) ae_int)) (ag_tup (n := 2) rfl (ags_cons (ag_name 2 sc_l_copies.nd) (ags_cons (ag_name 3 sc_l_copies.nd) ags_nil))) (ass_cons (as_set 4 sc_l_copies.nd (ae_bi (bu_sortX rfl hu b_sorted) ps_sortX (aa_cons (AL.ae (al_lc (own := [("row", 5)]) rfl sc_l_copies.nd (ai_seq (ae_call g_l_plays ⟨hr.1.mono (by decide), hr.2⟩ (aa_cons (ae_bi (bu_lenX b_len) ps_lenX (aa_cons (ae_var 3) aa_nil)) aa_nil))) (fun _ => blkOk_by rfl) (ago_name 5 (by decide) sc_l_copies.nd) ats_nil (ae_tup (aa_cons (ae_call g_l_spot ⟨hr.1.mono (by decide), hr.2⟩ (aa_cons (ae_var 5) aa_nil)) (aa_cons (ae_var 5) aa_nil))))) aa_nil))) (ass_one (as_set 1 sc_l_copies.nd (ae_add (ae_var 1) (AL.ae (al_lc (own := [("spot", 6), ("row", 5)]) rfl sc_l_copies.nd (ai_seq (ae_var 4)) (fun _ => blkOk_by rfl) (ago_tup (n := 2) rfl (agos_cons (ago_name 6 (by decide) sc_l_copies.nd) (agos_cons (ago_name 5 (by decide) sc_l_copies.nd) agos_nil))) ats_nil (ae_tup (aa_cons (ae_var 2) (aa_cons (ae_var 5) aa_nil)))))))))) (ass_one (as_ret (ae_var 1))))), fun ds q h => ?_⟩)
  · unfold sp_l_copies at h
    split at h <;> first | rfl | exact h.elim
  · unfold sp_l_copies at h
    split at h
    rotate_left
    · exact h.elim
    obtain ⟨p, o, c, rfl, ok, hq⟩ := h
    have c3 := cop_len o
    have om := ok.om
    unfold dSay
    walk_at "OS"
    refine ⟨by decide, ex_fx (fun i ρ => ∃ y2 y3 y4 y5 y6, ρ = [AV.d (PyData.tuple [PyData.tuple (List.map PyData.str p), PyData.tuple (List.map dO o), PyData.tuple (List.map dC c)]), .d (.list ((copL (o.take i)).map dCp)), y2, y3, y4, y5, y6] ∧ vol y5 = false ∧ vol y6 = false) ⟨_, _, _, _, _, rfl, rfl, rfl⟩ (fun I hI i x ρ2 hx xm tk ⟨y2, y3, y4, y5, y6, e⟩ => ?_) fun ρ2 ⟨y2, y3, y4, y5, y6, e⟩ => ?_⟩
    · obtain ⟨e, v5, v6⟩ := e
      subst e
      have x6 := (ok.oo x xm).2.2.2.2
      unfold dO
      walk_at "OS"
      refine ⟨x.2.length, by rw [List.length_map], x6, ?_⟩
      walk_at "OS"
      have p64 : 2 ^ x.2.length ≤ 64 := Nat.le_trans (Nat.pow_le_pow_right (by decide) x6) (by decide)
      refine ⟨by rw [List.length_map, pl_len]; omega, ex_xm (fun r => .tuple [.int (spN r), dB r]) (fun I2 j r acc hr hI2 => ?_) ?_⟩
      · unfold dB
        walk_at "OS"
        exact ⟨v5, r, rfl, by rw [pl_mem hr]; exact x6, by decide, hI2⟩
      · walk_at "OS"
        refine ⟨srt_rows.1, fun ys hy => ?_⟩
        rw [srt_rows.2 ys hy]
        walk_at "OS"
        refine ⟨by rw [List.length_map, List.length_range]; omega, ex_xm (fun k => dCp (x.1, bitsOf x.2.length k)) (fun I2 j r acc hr hI2 => ?_) ?_⟩
        · unfold dB
          walk_at "OS"
          exact ⟨v6, v5, by decide, hI2⟩
        · walk_at "OS"
          have c1 := cop_len (o.take i)
          have c4 : copL o = copL (o.take i) ++ copL (o.drop i) := by rw [← cop_app, List.take_append_drop]
          have c5 := congrArg List.length c4
          rw [List.length_append] at c5
          refine ⟨by rw [List.length_map, List.length_map, List.length_range]; omega, hI _ _ ⟨.d (.str x.1), .d (.tuple (x.2.map .str)), .d (.list ((List.range (2 ^ x.2.length)).map fun (k : Nat) => .tuple [.int k, dB (bitsOf x.2.length k)])), y5, y6, ?_, v5, v6⟩⟩
          rw [tk, cop_app, List.map_append]
          unfold copL
          rw [List.flatMap_singleton, List.map_map]
          rfl
    · obtain ⟨e, _, _⟩ := e
      subst e
      rw [List.take_length]
      walk_at "OS"
      exact hq

theorem sc_p_names_of : FnScope ["picks", "owns", "name", "sight"] ["picks", "owns"] (defScope s_p_names_of) := ⟨rfl, rfl, rfl, by decide +kernel, rfl, by decide +kernel, by decide +kernel⟩

def sp_p_names_of : PSp := fun ds q => match ds with
  | [.tuple ps, d] => ∃ (os : List (Str × List Str)) (picks : List Str), d = .tuple (os.map dO) ∧ ps = picks.map .str ∧ picks.length ≤ 1000 ∧ os.length ≤ 1000 ∧ q (.own ((picks ++ os.map (·.1)).map .str))
  | _ => False


theorem d_p_names_of {f : Addr} {fd : FuncData} (F : Fun K "names_of" "names_of" s_p_names_of f fd) (bd : Binds K fd ["picks", "owns"] []) (hmg : mg "names_of" = some (.ref f)) (b_list : mg "list" = none) : FnP P w K mg base "names_of" ["picks", "owns"] 1 sp_p_names_of := by
  refine fnP F sc_p_names_of (fun ds q h => ?_) bd hmg fun cdv A outer s H E hr => (have hu := hr.1.roomy; ⟨_, (ass_one (as_retL (al_op pc_cat (ao_d (ae_bi (bu_listX rfl b_list) ps_listX (aa_cons (ae_var 0) aa_nil))) (ao_d (AL.ae (al_lc (own := [("name", 2), ("sight", 3)]) rfl sc_p_names_of.nd (ai_seq (ae_var 1)) (fun _ => blkOk_by rfl) (ago_tup (n := 2) rfl (agos_cons (ago_name 2 (by decide) sc_p_names_of.nd) (agos_cons (ago_name 3 (by decide) sc_p_names_of.nd) agos_nil))) ats_nil (ae_var 2)))) (fun _ _ _ => pe_op op_catSq)))), fun ds q h => ?_⟩)
  · unfold sp_p_names_of at h
    split at h <;> first | rfl | exact h.elim
  · unfold sp_p_names_of at h
    split at h
    rotate_left
    · exact h.elim
    obtain ⟨os, picks, rfl, rfl, hl, hl2, hq⟩ := h
    walk_at "OS"
    refine ⟨by rw [List.length_map]; omega, ex_xm (fun o => .str o.1) (fun I i o acc hp hI => ?_) ⟨_, _, rfl, by rw [List.length_map, List.length_map]; omega, _, rfl, ?_, ?_⟩⟩
    · unfold dO
      walk_at "OS"
      exact hI
    all_goals have e : picks.map PyData.str ++ os.map (fun o => .str o.1) = (picks ++ os.map (·.1)).map .str := by rw [List.map_append, List.map_map]; rfl
    · rw [e]; exact lf_strs
    · rw [e]; exact hq

theorem sc_p_are_ascending : FnScope ["values", "at"] ["values"] (defScope s_p_are_ascending) := ⟨rfl, rfl, rfl, by decide +kernel, rfl, by decide +kernel, by decide +kernel⟩

def sp_p_are_ascending : PSp := fun ds q => match ds with
  | [.tuple xs] => Asc xs ∧ xs.length ≤ 1000000 ∧ q (.d (.bool true))
  | _ => False


theorem d_p_are_ascending {f : Addr} {fd : FuncData} (F : Fun K "are_ascending" "are_ascending" s_p_are_ascending f fd) (bd : Binds K fd ["values"] []) (hmg : mg "are_ascending" = some (.ref f)) (b_all : mg "all" = none) (b_range : mg "range" = none) (b_len : mg "len" = none) : FnP P w K mg base "are_ascending" ["values"] 1 sp_p_are_ascending := by
  refine fnP F sc_p_are_ascending (fun ds q h => ?_) bd hmg fun cdv A outer s H E hr => (have hu := hr.1.roomy; ⟨_, (ass_one (as_ret (ae_bi (bu_all rfl b_all) ps_all (aa_cons (AL.ae (al_lc (own := [("at", 1)]) rfl sc_p_are_ascending.nd (ai_rng1 (fun _ => rfl) b_range (aa_cons (ae_sub (ae_bi (bu_lenX b_len) ps_lenX (aa_cons (ae_var 0) aa_nil)) ae_int) aa_nil)) (fun _ => blkOk_by rfl) (ago_name 1 (by decide) sc_p_are_ascending.nd) ats_nil (ae_ltD hu (ae_ixD hu (ae_var 0) (ae_var 1)) (ae_ixD hu (ae_var 0) (ae_add (ae_var 1) ae_int))))) aa_nil)))), fun ds q h => ?_⟩)
  · unfold sp_p_are_ascending at h
    split at h <;> first | rfl | exact h.elim
  · unfold sp_p_are_ascending at h
    split at h
    rotate_left
    · exact h.elim
    rename_i xs
    obtain ⟨ha, hl, hq⟩ := h
    walk_at "OS"
    refine ⟨by omega, by omega, by rw [rng_len]; omega, ex_lcm (fun _ => .bool true) (fun I i d acc hd hI => ?_) (all_bs hq)⟩
    obtain ⟨rfl, hi⟩ := rng_get hd
    walk_at "OS"
    have h1 : i + 1 < xs.length := by omega
    refine ⟨xs[i], by rw [Int.zero_add]; exact atI_nat (List.getElem?_eq_getElem (by omega)), xs[i + 1], by rw [Int.zero_add]; exact atI_nat (List.getElem?_eq_getElem h1), ?_⟩
    exact ha i _ _ (List.getElem?_eq_getElem (by omega)) (List.getElem?_eq_getElem h1) _ hI

theorem sc_p_is_name : FnScope ["value", "sign"] ["value"] (defScope s_p_is_name) := ⟨rfl, rfl, rfl, by decide +kernel, rfl, by decide +kernel, by decide +kernel⟩

def sp_p_is_name : PSp := fun ds q => match ds with
  | [.str s] => Nm s ∧ q (.d (.bool true))
  | _ => False


theorem d_p_is_name {f : Addr} {fd : FuncData} (F : Fun K "is_name" "is_name" s_p_is_name f fd) (bd : Binds K fd ["value"] []) (hmg : mg "is_name" = some (.ref f)) (b_all : mg "all" = none) (b_len : mg "len" = none) (b_isinstance : mg "isinstance" = none) (b_str : mg "str" = none) (c_LETTERS : ∃ t, mg "LETTERS" = some (.str "abcdefghijklmnopqrstuvwxyz" t)) (c_MOST_LETTERS : ∃ t, mg "MOST_LETTERS" = some (.int 8 t)) : FnP P w K mg base "is_name" ["value"] 1 sp_p_is_name := by
  obtain ⟨t_LETTERS, c_LETTERS⟩ := c_LETTERS
  obtain ⟨t_MOST_LETTERS, c_MOST_LETTERS⟩ := c_MOST_LETTERS
  refine fnP F sc_p_is_name (fun ds q h => ?_) bd hmg fun cdv A outer s H E hr => (have hu := hr.1.roomy; ⟨_, (ass_one (as_ret (ae_and (ae_isi isTy_str isTy_str.boot b_isinstance b_str (ae_var 0)) (ae_and (ae_chain aop_ib aop_ib (fun _ => op_le) (fun _ => op_le) ae_int (ae_bi (bu_lenX b_len) ps_lenX (aa_cons (ae_var 0) aa_nil)) (ae_globI (fun _ => rfl) c_MOST_LETTERS)) (ae_one (ae_bi (bu_all rfl b_all) ps_all (aa_cons (AL.ae (al_lc (own := [("sign", 1)]) rfl sc_p_is_name.nd (ai_seq (ae_var 0)) (fun _ => blkOk_by rfl) (ago_name 1 (by decide) sc_p_is_name.nd) ats_nil (ae_inD hu (ae_var 1) (ae_globS (fun _ => rfl) c_LETTERS)))) aa_nil))))))), fun ds q h => ?_⟩)
  · unfold sp_p_is_name at h
    split at h <;> first | rfl | exact h.elim
  · unfold sp_p_is_name at h
    split at h
    rotate_left
    · exact h.elim
    rename_i s
    obtain ⟨⟨h1, h2, h3⟩, hq⟩ := h
    walk_at "OS"
    have hl : (signs s).length = s.length := by unfold signs; rw [List.length_map]; rfl
    refine ⟨by omega, fun _ => ⟨fun _ => ⟨by omega, ex_lcm (fun _ => .bool true) (fun I i d acc hd hI => ?_) (all_bs hq)⟩, fun z => by omega⟩, fun z => by omega⟩
    obtain ⟨c, hc, rfl⟩ := get_map hd
    walk_at "OS"
    refine ⟨c, rfl, ?_⟩
    have e := decide_eq_true (h3 c hc)
    unfold LET at e
    rw [e]
    exact hI

theorem sc_p_are_names : FnScope ["value", "name"] ["value"] (defScope s_p_are_names) := ⟨rfl, rfl, rfl, by decide +kernel, rfl, by decide +kernel, by decide +kernel⟩

def sp_p_are_names : PSp := fun ds q => match ds with
  | [.tuple xs] => ∃ ns : List Str, xs = ns.map .str ∧ (∀ s ∈ ns, Nm s) ∧ Asc xs ∧ ns.length ≤ 1000 ∧ q (.d (.bool true))
  | _ => False


theorem d_p_are_names {f : Addr} {fd : FuncData} (F : Fun K "are_names" "are_names" s_p_are_names f fd) (bd : Binds K fd ["value"] []) (hmg : mg "are_names" = some (.ref f)) (b_all : mg "all" = none) (b_isinstance : mg "isinstance" = none) (b_tuple : mg "tuple" = none) (g_p_are_ascending : FnP P w K mg base "are_ascending" ["values"] 1 sp_p_are_ascending) (g_p_is_name : FnP P w K mg base "is_name" ["value"] 1 sp_p_is_name) : FnP P w K mg base "are_names" ["value"] 2 sp_p_are_names := by
  refine fnP F sc_p_are_names (fun ds q h => ?_) bd hmg fun cdv A outer s H E hr => (have hu := hr.1.roomy; ⟨_, (ass_one (as_ret (ae_and (ae_isi isTy_tuple isTy_tuple.boot b_isinstance b_tuple (ae_var 0)) (ae_and (ae_bi (bu_all rfl b_all) ps_all (aa_cons (AL.ae (al_lc (own := [("name", 1)]) rfl sc_p_are_names.nd (ai_seq (ae_var 0)) (fun _ => blkOk_by rfl) (ago_name 1 (by decide) sc_p_are_names.nd) ats_nil (ae_call g_p_is_name ⟨hr.1.mono (by decide), hr.2⟩ (aa_cons (ae_var 1) aa_nil)))) aa_nil)) (ae_one (ae_call g_p_are_ascending ⟨hr.1.mono (by decide), hr.2⟩ (aa_cons (ae_var 0) aa_nil))))))), fun ds q h => ?_⟩)
  · unfold sp_p_are_names at h
    split at h <;> first | rfl | exact h.elim
  · unfold sp_p_are_names at h
    split at h
    rotate_left
    · exact h.elim
    obtain ⟨ns, rfl, hn, ha, hl, hq⟩ := h
    walk_at "OS"
    refine ⟨by rw [List.length_map]; omega, ex_lcm (fun _ => .bool true) (fun I i d acc hd hI => ?_) (all_bs3 (p := fun b => (b = true → _) ∧ (b = false → _)) ⟨fun _ => ?_, fun z => by cases z⟩)⟩
    · obtain ⟨s, hs, rfl⟩ := get_map hd
      walk_at "OS"
      exact ⟨hn s hs, hI⟩
    · walk_at "OS"
      exact ⟨ha, by rw [List.length_map]; omega, hq⟩

theorem sc_p_is_own : FnScope ["value", "picks", "pick"] ["value", "picks"] (defScope s_p_is_own) := ⟨rfl, rfl, rfl, by decide +kernel, rfl, by decide +kernel, by decide +kernel⟩

def sp_p_is_own : PSp := fun ds q => match ds with
  | [d, .tuple ps] => ∃ (o : Str × List Str) (picks : List Str), d = dO o ∧ ps = picks.map .str ∧ Nm o.1 ∧ o.1 ∉ picks ∧ (∀ s ∈ o.2, Nm s ∧ s ∈ picks) ∧ Asc (o.2.map .str) ∧ o.2.length ≤ 1000 ∧ q (.d (.bool true))
  | _ => False


theorem d_p_is_own {f : Addr} {fd : FuncData} (F : Fun K "is_own" "is_own" s_p_is_own f fd) (bd : Binds K fd ["value", "picks"] []) (hmg : mg "is_own" = some (.ref f)) (b_len : mg "len" = none) (b_isinstance : mg "isinstance" = none) (b_tuple : mg "tuple" = none) (b_all : mg "all" = none) (g_p_is_name : FnP P w K mg base "is_name" ["value"] 1 sp_p_is_name) (g_p_are_names : FnP P w K mg base "are_names" ["value"] 2 sp_p_are_names) : FnP P w K mg base "is_own" ["value", "picks"] 3 sp_p_is_own := by
  refine fnP F sc_p_is_own (fun ds q h => ?_) bd hmg fun cdv A outer s H E hr => (have hu := hr.1.roomy; ⟨_, (ass_cons (as_if (AWt.at (aw_or (at_not (at_isi isTy_tuple isTy_tuple.boot b_isinstance b_tuple (ae_var 0))) (aw_or (at_neD hu (ae_bi (bu_lenX b_len) ps_lenX (aa_cons (ae_var 0) aa_nil)) ae_int) (aw_or (at_not (at_val (ae_call g_p_is_name ⟨hr.1.mono (by decide), hr.2⟩ (aa_cons (ae_ixD hu (ae_var 0) ae_int) aa_nil)))) (aw_or1 (at_inD hu (ae_ixD hu (ae_var 0) ae_int) (ae_var 1))))))) (ass_one (as_ret ae_bl)) ass_nil) (ass_one (as_ret (ae_and (ae_call g_p_are_names ⟨hr.1.mono (by decide), hr.2⟩ (aa_cons (ae_ixD hu (ae_var 0) ae_int) aa_nil)) (ae_one (ae_bi (bu_all rfl b_all) ps_all (aa_cons (AL.ae (al_lc (own := [("pick", 2)]) rfl sc_p_is_own.nd (ai_seq (ae_ixD hu (ae_var 0) ae_int)) (fun _ => blkOk_by rfl) (ago_name 2 (by decide) sc_p_is_own.nd) ats_nil (ae_inD hu (ae_var 2) (ae_var 1)))) aa_nil))))))), fun ds q h => ?_⟩)
  · unfold sp_p_is_own at h
    split at h <;> first | rfl | exact h.elim
  · unfold sp_p_is_own at h
    split at h
    rotate_left
    · exact h.elim
    obtain ⟨o, picks, rfl, rfl, hn, hni, hs, ha, hl, hq⟩ := h
    unfold dO
    walk_at "OS"
    refine ⟨hn, true, rfl, fun z => (by cases z), fun _ => ⟨rfl, flat_str, fun z => ?_, fun _ => ⟨o.2, rfl, fun s h => (hs s h).1, ha, hl, true, rfl, fun _ => ⟨by rw [List.length_map]; omega, ?_⟩, fun z => (by cases z)⟩⟩⟩
    · rw [any_str] at z
      exact absurd (of_decide_eq_true z) hni
    · refine ex_xm (fun _ => .bool true) (fun I i s acc hp hI => ?_) (all_bs hq)
      walk_at "OS"
      refine ⟨rfl, flat_str, ?_⟩
      rw [any_str, decide_eq_true (hs s hp).2]
      exact hI

theorem sc_p_are_owns : FnScope ["value", "picks", "own", "name", "sight"] ["value", "picks"] (defScope s_p_are_owns) := ⟨rfl, rfl, rfl, by decide +kernel, rfl, by decide +kernel, by decide +kernel⟩

def sp_p_are_owns : PSp := fun ds q => match ds with
  | [d, .tuple ps] => ∃ (os : List (Str × List Str)) (picks : List Str), d = .tuple (os.map dO) ∧ ps = picks.map .str ∧ (∀ o ∈ os, Nm o.1 ∧ o.1 ∉ picks ∧ (∀ s ∈ o.2, Nm s ∧ s ∈ picks) ∧ Asc (o.2.map .str) ∧ o.2.length ≤ 6) ∧ os.length ≤ 8 ∧ Asc (os.map fun o => .str o.1) ∧ (os.map fun o => (2 : Int) ^ o.2.length).sum ≤ 120 ∧ q (.d (.bool true))
  | _ => False


theorem d_p_are_owns {f : Addr} {fd : FuncData} (F : Fun K "are_owns" "are_owns" s_p_are_owns f fd) (bd : Binds K fd ["value", "picks"] []) (hmg : mg "are_owns" = some (.ref f)) (b_all : mg "all" = none) (b_len : mg "len" = none) (b_isinstance : mg "isinstance" = none) (b_tuple : mg "tuple" = none) (b_sum : mg "sum" = none) (c_MOST_OWNS : ∃ t, mg "MOST_OWNS" = some (.int 8 t)) (c_MOST_COPIES : ∃ t, mg "MOST_COPIES" = some (.int 120 t)) (g_p_is_own : FnP P w K mg base "is_own" ["value", "picks"] 3 sp_p_is_own) (g_p_are_ascending : FnP P w K mg base "are_ascending" ["values"] 1 sp_p_are_ascending) : FnP P w K mg base "are_owns" ["value", "picks"] 4 sp_p_are_owns := by
  obtain ⟨t_MOST_OWNS, c_MOST_OWNS⟩ := c_MOST_OWNS
  obtain ⟨t_MOST_COPIES, c_MOST_COPIES⟩ := c_MOST_COPIES
  refine fnP F sc_p_are_owns (fun ds q h => ?_) bd hmg fun cdv A outer s H E hr => (have hu := hr.1.roomy; ⟨_, (ass_cons (as_if (AWt.at (aw_or (at_not (at_isi isTy_tuple isTy_tuple.boot b_isinstance b_tuple (ae_var 0))) (aw_or (at_gt (ae_bi (bu_lenX b_len) ps_lenX (aa_cons (ae_var 0) aa_nil)) (ae_globI (fun _ => rfl) c_MOST_OWNS)) (aw_or1 (at_not (at_val (ae_bi (bu_all rfl b_all) ps_all (aa_cons (AL.ae (al_lc (own := [("own", 2)]) rfl sc_p_are_owns.nd (ai_seq (ae_var 0)) (fun _ => blkOk_by rfl) (ago_name 2 (by decide) sc_p_are_owns.nd) ats_nil (ae_call g_p_is_own ⟨hr.1.mono (by decide), hr.2⟩ (aa_cons (ae_var 2) (aa_cons (ae_var 1) aa_nil))))) aa_nil)))))))) (ass_one (as_ret ae_bl)) ass_nil) (ass_cons (as_if (at_not (at_val (ae_call g_p_are_ascending ⟨hr.1.mono (by decide), hr.2⟩ (aa_cons (ae_bi (bu_tuple b_tuple) ps_tuple (aa_cons (AL.ae (al_lc (own := [("name", 3), ("sight", 4)]) rfl sc_p_are_owns.nd (ai_seq (ae_var 0)) (fun _ => blkOk_by rfl) (ago_tup (n := 2) rfl (agos_cons (ago_name 3 (by decide) sc_p_are_owns.nd) (agos_cons (ago_name 4 (by decide) sc_p_are_owns.nd) agos_nil))) ats_nil (ae_var 3))) aa_nil)) aa_nil)))) (ass_one (as_ret ae_bl)) ass_nil) (ass_one (as_ret (ae_le (ae_bi (bu_sum rfl b_sum) ps_sum (aa_cons (AL.ae (al_lc (own := [("name", 3), ("sight", 4)]) rfl sc_p_are_owns.nd (ai_seq (ae_var 0)) (fun _ => blkOk_by rfl) (ago_tup (n := 2) rfl (agos_cons (ago_name 3 (by decide) sc_p_are_owns.nd) (agos_cons (ago_name 4 (by decide) sc_p_are_owns.nd) agos_nil))) ats_nil (ae_shl ae_int (ae_bi (bu_lenX b_len) ps_lenX (aa_cons (ae_var 4) aa_nil))))) aa_nil)) (ae_globI (fun _ => rfl) c_MOST_COPIES)))))), fun ds q h => ?_⟩)
  · unfold sp_p_are_owns at h
    split at h <;> first | rfl | exact h.elim
  · unfold sp_p_are_owns at h
    split at h
    rotate_left
    · exact h.elim
    obtain ⟨os, picks, rfl, rfl, ho, hl, ha, hm, hq⟩ := h
    walk_at "OS"
    refine ⟨fun z => (by rw [List.length_map] at z; omega), fun _ => ⟨by rw [List.length_map]; omega, ex_xm (fun _ => .bool true) (fun I i o acc hp hI => ?_) (all_bs3 (p := fun b => ((!b) = true → _) ∧ ((!b) = false → _)) ⟨fun z => (by cases z), fun _ => ?_⟩)⟩⟩
    · walk_at "OS"
      exact ⟨o, picks, rfl, rfl, (ho o hp).1, (ho o hp).2.1, (ho o hp).2.2.1, (ho o hp).2.2.2.1, by have := (ho o hp).2.2.2.2; omega, hI⟩
    · walk_at "OS"
      refine ⟨by rw [List.length_map]; omega, ex_xm (fun o => .str o.1) (fun I i o acc hp hI => ?_) ?_⟩
      · unfold dO
        walk_at "OS"
        exact hI
      · walk_at "OS"
        refine ⟨ha, by rw [List.length_map]; omega, true, rfl, fun z => (by cases z), fun _ => ⟨by rw [List.length_map]; omega, ex_xm (fun o => .int (2 ^ o.2.length)) (fun I i o acc hp hI => ?_) ?_⟩⟩
        · have h6 := (ho o hp).2.2.2.2
          unfold dO
          walk_at "OS"
          rw [List.length_map, Int.one_mul]
          exact ⟨⟨by omega, by have : Builtin.Int.intBits 1 = 1 := (by decide); rw [this]; omega⟩, hI⟩
        · walk_at "OS"
          refine ⟨os.map fun o => 2 ^ o.2.length, by rw [List.map_map]; rfl, ?_⟩
          rw [decide_eq_true hm]
          exact hq

theorem sc_p_has_names : FnScope ["clause", "names", "name", "truth"] ["clause", "names"] (defScope s_p_has_names) := ⟨rfl, rfl, rfl, by decide +kernel, rfl, by decide +kernel, by decide +kernel⟩

def sp_p_has_names : PSp := fun ds q => match ds with
  | [d, .list ns] => ∃ (c : List (Str × Bool)) (names : List Str), d = dC c ∧ ns = names.map .str ∧ (∀ p ∈ c, p.1 ∈ names) ∧ c.length ≤ 1000 ∧ q (.d (.bool true))
  | _ => False


theorem d_p_has_names {f : Addr} {fd : FuncData} (F : Fun K "has_names" "has_names" s_p_has_names f fd) (bd : Binds K fd ["clause", "names"] []) (hmg : mg "has_names" = some (.ref f)) (b_all : mg "all" = none) : FnP P w K mg base "has_names" ["clause", "names"] 1 sp_p_has_names := by
  refine fnP F sc_p_has_names (fun ds q h => ?_) bd hmg fun cdv A outer s H E hr => (have hu := hr.1.roomy; ⟨_, (ass_one (as_ret (ae_bi (bu_all rfl b_all) ps_all (aa_cons (AL.ae (al_lc (own := [("name", 2), ("truth", 3)]) rfl sc_p_has_names.nd (ai_seq (ae_var 0)) (fun _ => blkOk_by rfl) (ago_tup (n := 2) rfl (agos_cons (ago_name 2 (by decide) sc_p_has_names.nd) (agos_cons (ago_name 3 (by decide) sc_p_has_names.nd) agos_nil))) ats_nil (ae_inD hu (ae_var 2) (ae_var 1)))) aa_nil)))), fun ds q h => ?_⟩)
  · unfold sp_p_has_names at h
    split at h <;> first | rfl | exact h.elim
  · unfold sp_p_has_names at h
    split at h
    rotate_left
    · exact h.elim
    obtain ⟨c, names, rfl, rfl, hc, hl, hq⟩ := h
    unfold dC
    walk_at "OS"
    refine ⟨by rw [List.length_map]; omega, ex_xm (fun _ => .bool true) (fun I i p acc hp hI => ?_) (all_bs hq)⟩
    unfold dL
    walk_at "OS"
    refine ⟨rfl, flat_str, ?_⟩
    rw [any_str, decide_eq_true (hc p hp)]
    exact hI

theorem sc_p_is_truth : FnScope ["value"] ["value"] (defScope s_p_is_truth) := ⟨rfl, rfl, rfl, by decide +kernel, rfl, by decide +kernel, by decide +kernel⟩

def sp_p_is_truth : PSp := fun ds q => match ds with
  | [.bool _] => q (.d (.bool true))
  | _ => False


theorem d_p_is_truth {f : Addr} {fd : FuncData} (F : Fun K "is_truth" "is_truth" s_p_is_truth f fd) (bd : Binds K fd ["value"] []) (hmg : mg "is_truth" = some (.ref f)) (b_isinstance : mg "isinstance" = none) (b_bool : mg "bool" = none) : FnP P w K mg base "is_truth" ["value"] 1 sp_p_is_truth := by
  refine fnP F sc_p_is_truth (fun ds q h => ?_) bd hmg fun cdv A outer s H E hr => (have hu := hr.1.roomy; ⟨_, (ass_one (as_ret (ae_isi isTy_bool isTy_bool.boot b_isinstance b_bool (ae_var 0)))), fun ds q h => ?_⟩)
  · unfold sp_p_is_truth at h
    split at h <;> first | rfl | exact h.elim
  · unfold sp_p_is_truth at h
    split at h
    rotate_left
    · exact h.elim
    walk_at "OS"
    exact h

theorem sc_p_is_letter : FnScope ["value"] ["value"] (defScope s_p_is_letter) := ⟨rfl, rfl, rfl, by decide +kernel, rfl, by decide +kernel, by decide +kernel⟩

def sp_p_is_letter : PSp := fun ds q => match ds with
  | [d] => ∃ p : Str × Bool, d = dL p ∧ Nm p.1 ∧ q (.d (.bool true))
  | _ => False


theorem d_p_is_letter {f : Addr} {fd : FuncData} (F : Fun K "is_letter" "is_letter" s_p_is_letter f fd) (bd : Binds K fd ["value"] []) (hmg : mg "is_letter" = some (.ref f)) (b_len : mg "len" = none) (b_isinstance : mg "isinstance" = none) (b_tuple : mg "tuple" = none) (g_p_is_truth : FnP P w K mg base "is_truth" ["value"] 1 sp_p_is_truth) (g_p_is_name : FnP P w K mg base "is_name" ["value"] 1 sp_p_is_name) : FnP P w K mg base "is_letter" ["value"] 2 sp_p_is_letter := by
  refine fnP F sc_p_is_letter (fun ds q h => ?_) bd hmg fun cdv A outer s H E hr => (have hu := hr.1.roomy; ⟨_, (ass_one (as_ret (ae_and (ae_isi isTy_tuple isTy_tuple.boot b_isinstance b_tuple (ae_var 0)) (ae_and (ae_eqD hu (ae_bi (bu_lenX b_len) ps_lenX (aa_cons (ae_var 0) aa_nil)) ae_int) (ae_and (ae_call g_p_is_name ⟨hr.1.mono (by decide), hr.2⟩ (aa_cons (ae_ixD hu (ae_var 0) ae_int) aa_nil)) (ae_one (ae_call g_p_is_truth ⟨hr.1.mono (by decide), hr.2⟩ (aa_cons (ae_ixD hu (ae_var 0) ae_int) aa_nil)))))))), fun ds q h => ?_⟩)
  · unfold sp_p_is_letter at h
    split at h <;> first | rfl | exact h.elim
  · unfold sp_p_is_letter at h
    split at h
    rotate_left
    · exact h.elim
    obtain ⟨p, rfl, hn, hq⟩ := h
    unfold dL
    walk_at "OS"
    exact ⟨hn, true, rfl, fun _ => hq, fun z => by cases z⟩

theorem sc_p_is_any_clause : FnScope ["value", "letter", "name", "truth"] ["value"] (defScope s_p_is_any_clause) := ⟨rfl, rfl, rfl, by decide +kernel, rfl, by decide +kernel, by decide +kernel⟩

def sp_p_is_any_clause : PSp := fun ds q => match ds with
  | [d] => ∃ c, d = dC c ∧ (∀ p ∈ c, Nm p.1) ∧ Asc (c.map fun p => .str p.1) ∧ c.length ≤ 1000 ∧ q (.d (.bool true))
  | _ => False


theorem d_p_is_any_clause {f : Addr} {fd : FuncData} (F : Fun K "is_any_clause" "is_any_clause" s_p_is_any_clause f fd) (bd : Binds K fd ["value"] []) (hmg : mg "is_any_clause" = some (.ref f)) (b_all : mg "all" = none) (b_isinstance : mg "isinstance" = none) (b_tuple : mg "tuple" = none) (g_p_is_letter : FnP P w K mg base "is_letter" ["value"] 2 sp_p_is_letter) (g_p_are_ascending : FnP P w K mg base "are_ascending" ["values"] 1 sp_p_are_ascending) : FnP P w K mg base "is_any_clause" ["value"] 3 sp_p_is_any_clause := by
  refine fnP F sc_p_is_any_clause (fun ds q h => ?_) bd hmg fun cdv A outer s H E hr => (have hu := hr.1.roomy; ⟨_, (ass_cons (as_if (AWt.at (aw_or (at_not (at_isi isTy_tuple isTy_tuple.boot b_isinstance b_tuple (ae_var 0))) (aw_or1 (at_not (at_val (ae_bi (bu_all rfl b_all) ps_all (aa_cons (AL.ae (al_lc (own := [("letter", 1)]) rfl sc_p_is_any_clause.nd (ai_seq (ae_var 0)) (fun _ => blkOk_by rfl) (ago_name 1 (by decide) sc_p_is_any_clause.nd) ats_nil (ae_call g_p_is_letter ⟨hr.1.mono (by decide), hr.2⟩ (aa_cons (ae_var 1) aa_nil)))) aa_nil))))))) (ass_one (as_ret ae_bl)) ass_nil) (ass_one (as_ret (ae_call g_p_are_ascending ⟨hr.1.mono (by decide), hr.2⟩ (aa_cons (ae_bi (bu_tuple b_tuple) ps_tuple (aa_cons (AL.ae (al_lc (own := [("name", 2), ("truth", 3)]) rfl sc_p_is_any_clause.nd (ai_seq (ae_var 0)) (fun _ => blkOk_by rfl) (ago_tup (n := 2) rfl (agos_cons (ago_name 2 (by decide) sc_p_is_any_clause.nd) (agos_cons (ago_name 3 (by decide) sc_p_is_any_clause.nd) agos_nil))) ats_nil (ae_var 2))) aa_nil)) aa_nil))))), fun ds q h => ?_⟩)
  · unfold sp_p_is_any_clause at h
    split at h <;> first | rfl | exact h.elim
  · unfold sp_p_is_any_clause at h
    split at h
    rotate_left
    · exact h.elim
    obtain ⟨c, rfl, hn, ha, hl, hq⟩ := h
    unfold dC
    walk_at "OS"
    refine ⟨by rw [List.length_map]; omega, ex_xm (fun _ => .bool true) (fun I i p acc hp hI => ?_) (all_bs3 (p := fun b => ((!b) = true → _) ∧ ((!b) = false → _)) ⟨fun z => (by cases z), fun _ => ?_⟩)⟩
    · walk_at "OS"
      exact ⟨p, rfl, hn p hp, hI⟩
    · walk_at "OS"
      refine ⟨by rw [List.length_map]; omega, ex_xm (fun p => .str p.1) (fun I i p acc hp hI => ?_) ?_⟩
      · unfold dL
        walk_at "OS"
        exact hI
      · walk_at "OS"
        exact ⟨ha, by rw [List.length_map]; omega, hq⟩

theorem sc_p_is_a_saying : FnScope ["value", "names", "picks", "owns", "clauses", "clause"] ["value"] (defScope s_p_is_a_saying) := ⟨rfl, rfl, rfl, by decide +kernel, rfl, by decide +kernel, by decide +kernel⟩

def sp_p_is_a_saying : PSp := fun ds q => match ds with
  | [d] => ∃ p o c, d = dSay p o c ∧ SayOk p o c ∧ q (.d (.bool true))
  | _ => False


theorem d_p_is_a_saying {f : Addr} {fd : FuncData} (F : Fun K "is_a_saying" "is_a_saying" s_p_is_a_saying f fd) (bd : Binds K fd ["value"] []) (hmg : mg "is_a_saying" = some (.ref f)) (b_len : mg "len" = none) (b_isinstance : mg "isinstance" = none) (b_tuple : mg "tuple" = none) (b_all : mg "all" = none) (c_MOST_PICKS : ∃ t, mg "MOST_PICKS" = some (.int 6 t)) (c_MOST_CLAUSES : ∃ t, mg "MOST_CLAUSES" = some (.int 40 t)) (g_p_are_owns : FnP P w K mg base "are_owns" ["value", "picks"] 4 sp_p_are_owns) (g_p_are_names : FnP P w K mg base "are_names" ["value"] 2 sp_p_are_names) (g_p_are_ascending : FnP P w K mg base "are_ascending" ["values"] 1 sp_p_are_ascending) (g_p_is_any_clause : FnP P w K mg base "is_any_clause" ["value"] 3 sp_p_is_any_clause) (g_p_names_of : FnP P w K mg base "names_of" ["picks", "owns"] 1 sp_p_names_of) (g_p_has_names : FnP P w K mg base "has_names" ["clause", "names"] 1 sp_p_has_names) : FnP P w K mg base "is_a_saying" ["value"] 5 sp_p_is_a_saying := by
  obtain ⟨t_MOST_PICKS, c_MOST_PICKS⟩ := c_MOST_PICKS
  obtain ⟨t_MOST_CLAUSES, c_MOST_CLAUSES⟩ := c_MOST_CLAUSES
  refine fnP F sc_p_is_a_saying (fun ds q h => ?_) bd hmg fun cdv A outer s H E hr => (have hu := hr.1.roomy; ⟨_, (ass_cons (as_if (AWt.at (aw_or (at_not (at_isi isTy_tuple isTy_tuple.boot b_isinstance b_tuple (ae_var 0))) (aw_or1 (at_neD hu (ae_bi (bu_lenX b_len) ps_lenX (aa_cons (ae_var 0) aa_nil)) ae_int)))) (ass_one (as_ret ae_bl)) ass_nil) (ass_cons (as_asg (ae_var 0) (ag_tup (n := 3) rfl (ags_cons (ag_name 2 sc_p_is_a_saying.nd) (ags_cons (ag_name 3 sc_p_is_a_saying.nd) (ags_cons (ag_name 4 sc_p_is_a_saying.nd) ags_nil))))) (ass_cons (as_if (AWt.at (aw_or (at_not (at_val (ae_call g_p_are_names ⟨hr.1.mono (by decide), hr.2⟩ (aa_cons (ae_var 2) aa_nil)))) (aw_or (at_gt (ae_bi (bu_lenX b_len) ps_lenX (aa_cons (ae_var 2) aa_nil)) (ae_globI (fun _ => rfl) c_MOST_PICKS)) (aw_or1 (at_not (at_val (ae_call g_p_are_owns ⟨hr.1.mono (by decide), hr.2⟩ (aa_cons (ae_var 3) (aa_cons (ae_var 2) aa_nil))))))))) (ass_one (as_ret ae_bl)) ass_nil) (ass_cons (as_if (AWt.at (aw_or (at_not (at_isi isTy_tuple isTy_tuple.boot b_isinstance b_tuple (ae_var 4))) (aw_or1 (at_gt (ae_bi (bu_lenX b_len) ps_lenX (aa_cons (ae_var 4) aa_nil)) (ae_globI (fun _ => rfl) c_MOST_CLAUSES))))) (ass_one (as_ret ae_bl)) ass_nil) (ass_cons (as_if (AWt.at (aw_or (at_not (at_val (ae_bi (bu_all rfl b_all) ps_all (aa_cons (AL.ae (al_lc (own := [("clause", 5)]) rfl sc_p_is_a_saying.nd (ai_seq (ae_var 4)) (fun _ => blkOk_by rfl) (ago_name 5 (by decide) sc_p_is_a_saying.nd) ats_nil (ae_call g_p_is_any_clause ⟨hr.1.mono (by decide), hr.2⟩ (aa_cons (ae_var 5) aa_nil)))) aa_nil)))) (aw_or1 (at_not (at_val (ae_call g_p_are_ascending ⟨hr.1.mono (by decide), hr.2⟩ (aa_cons (ae_var 4) aa_nil))))))) (ass_one (as_ret ae_bl)) ass_nil) (ass_cons (as_set 1 sc_p_is_a_saying.nd (ae_call g_p_names_of ⟨hr.1.mono (by decide), hr.2⟩ (aa_cons (ae_var 2) (aa_cons (ae_var 3) aa_nil)))) (ass_one (as_ret (ae_bi (bu_all rfl b_all) ps_all (aa_cons (AL.ae (al_lc (own := [("clause", 5)]) rfl sc_p_is_a_saying.nd (ai_seq (ae_var 4)) (fun _ => blkOk_by rfl) (ago_name 5 (by decide) sc_p_is_a_saying.nd) ats_nil (ae_call g_p_has_names ⟨hr.1.mono (by decide), hr.2⟩ (aa_cons (ae_var 5) (aa_cons (ae_var 1) aa_nil))))) aa_nil)))))))))), fun ds q h => ?_⟩)
  · unfold sp_p_is_a_saying at h
    split at h <;> first | rfl | exact h.elim
  · unfold sp_p_is_a_saying at h
    split at h
    rotate_left
    · exact h.elim
    obtain ⟨p, o, c, rfl, ok, hq⟩ := h
    have pl := ok.pl
    have ol := ok.ol
    have cl := ok.cl
    unfold dSay
    walk_at "OS"
    refine ⟨p, rfl, ok.pn, ok.pa, by omega, true, rfl, fun z => (by cases z), fun _ => ⟨fun z => (by rw [List.length_map] at z; omega), fun _ => ⟨o, p, rfl, rfl, ok.oo, ok.ol, ok.oa, ok.om, true, rfl, fun z => (by cases z), fun _ => ⟨fun z => (by rw [List.length_map] at z; omega), fun _ => ⟨by rw [List.length_map]; omega, ex_xm (fun _ => .bool true) (fun I i x acc hp hI => ?_) (all_bs3 (p := fun b => ((!b) = true → _) ∧ ((!b) = false → _)) ⟨fun z => (by cases z), fun _ => ?_⟩)⟩⟩⟩⟩⟩
    · walk_at "OS"
      exact ⟨x, rfl, fun y hy => ((ok.cc x hp).1 y hy).1, (ok.cc x hp).2.1, by have := (ok.cc x hp).2.2; omega, hI⟩
    · walk_at "OS"
      refine ⟨ok.ca, by rw [List.length_map]; omega, true, rfl, fun z => (by cases z), fun _ => ⟨o, p, rfl, rfl, by omega, by omega, ?_⟩⟩
      walk_at "OS"
      refine ⟨by rw [List.length_map]; omega, ex_xm (fun _ => .bool true) (fun I i x acc hp hI => ?_) (all_bs hq)⟩
      walk_at "OS"
      exact ⟨x, _, rfl, rfl, fun y hy => ((ok.cc x hp).1 y hy).2, by have := (ok.cc x hp).2.2; omega, hI⟩

theorem sc_p_need_saying : FnScope ["saying"] ["saying"] (defScope s_p_need_saying) := ⟨rfl, rfl, rfl, by decide +kernel, rfl, by decide +kernel, by decide +kernel⟩

def sp_p_need_saying : PSp := fun ds q => match ds with
  | [d] => ∃ p o c, d = dSay p o c ∧ SayOk p o c ∧ q (.d .none)
  | _ => False


theorem d_p_need_saying {f : Addr} {fd : FuncData} (F : Fun K "need_saying" "need_saying" s_p_need_saying f fd) (bd : Binds K fd ["saying"] []) (hmg : mg "need_saying" = some (.ref f)) (g_p_is_a_saying : FnP P w K mg base "is_a_saying" ["value"] 5 sp_p_is_a_saying) : FnP P w K mg base "need_saying" ["saying"] 6 sp_p_need_saying := by
  refine fnP F sc_p_need_saying (fun ds q h => ?_) bd hmg fun cdv A outer s H E hr => (have hu := hr.1.roomy; ⟨_, (ass_one (as_if (at_not (at_val (ae_call g_p_is_a_saying ⟨hr.1.mono (by decide), hr.2⟩ (aa_cons (ae_var 0) aa_nil)))) ass_never ass_nil)), fun ds q h => ?_⟩)
  · unfold sp_p_need_saying at h
    split at h <;> first | rfl | exact h.elim
  · unfold sp_p_need_saying at h
    split at h
    rotate_left
    · exact h.elim
    obtain ⟨p, o, c, rfl, ok, hq⟩ := h
    walk_at "OS"
    exact ⟨p, o, c, rfl, ok, true, rfl, fun z => (by cases z), fun _ => hq⟩

theorem sc_p_plays_of : FnScope ["saying", "found", "turn", "longer", "play"] ["saying"] (defScope s_p_plays_of) := ⟨rfl, rfl, rfl, by decide +kernel, rfl, by decide +kernel, by decide +kernel⟩

def sp_p_plays_of : PSp := fun ds q => match ds with
  | [d] => ∃ p o c, d = dSay p o c ∧ p.length ≤ 6 ∧ q (.own ((PL p.length).map dB))
  | _ => False


theorem d_p_plays_of {f : Addr} {fd : FuncData} (F : Fun K "plays_of" "plays_of" s_p_plays_of f fd) (bd : Binds K fd ["saying"] []) (hmg : mg "plays_of" = some (.ref f)) (b_range : mg "range" = none) (b_len : mg "len" = none) : FnP P w K mg base "plays_of" ["saying"] 1 sp_p_plays_of := by
  refine fnP F sc_p_plays_of (fun ds q h => ?_) bd hmg fun cdv A outer s H E hr => (have hu := hr.1.roomy; ⟨_, (ass_cons (as_setM 1 sc_p_plays_of.nd (al_lst (aa_cons (ae_tup aa_nil) aa_nil))) (ass_cons (as_for (fun _ => PassesOwn.never) rfl (ai_rng1 (fun _ => rfl) b_range (aa_cons (ae_bi (bu_lenX b_len) ps_lenX (aa_cons (ae_ixD hu (ae_var 0) ae_int) aa_nil)) aa_nil)) (ag_name 2 sc_p_plays_of.nd) (ass_cons (as_setM 3 sc_p_plays_of.nd (al_lst aa_nil)) (ass_cons (as_for (fun _ => PassesOwn.never) rfl (ai_seq (ae_varA 1)) (ag_name 4 sc_p_plays_of.nd) (ass_one (as_expr (ae_extend 3 (al_lst (aa_cons (ae_add (ae_var 4) (ae_tup (aa_cons ae_bl aa_nil))) (aa_cons (ae_add (ae_var 4) (ae_tup (aa_cons ae_bl aa_nil))) aa_nil))))))) (ass_one (as_move 1 3 sc_p_plays_of.nd))))) (ass_one (as_retM 1)))), fun ds q h => ?_⟩)
  · unfold sp_p_plays_of at h
    split at h <;> first | rfl | exact h.elim
  · unfold sp_p_plays_of at h
    split at h
    rotate_left
    · exact h.elim
    obtain ⟨p, o, c, rfl, pl, hq⟩ := h
    unfold dSay
    walk_at "OS"
    refine ⟨by decide, by decide, by rw [List.length_map]; omega, by rw [List.length_map]; omega, ?_⟩
    have e1 : ((List.map PyData.str p).length : Int).toNat = p.length := by rw [List.length_map]; omega
    rw [e1]
    refine ex_f (fun i ρ => ∃ y2 y3 y4, ρ = [AV.d (PyData.tuple [PyData.tuple (List.map PyData.str p), PyData.tuple (List.map dO o), PyData.tuple (List.map dC c)]), .ml ((PL i).map dB), y2, y3, y4]) ⟨_, _, _, rfl⟩ (fun I hI i d ρ2 hd ⟨y2, y3, y4, e⟩ => ?_) fun ρ2 ⟨y2, y3, y4, e⟩ => ?_
    · obtain ⟨rfl, hi⟩ := rng_get hd
      have e64 : (PL i).length ≤ 32 := by rw [pl_len]; exact Nat.le_trans (Nat.pow_le_pow_right (by decide) (show i ≤ 5 by omega)) (by decide)
      subst e
      walk_at "OS"
      refine ⟨by decide, ex_fx (fun j ρ => ∃ y4, ρ = [AV.d (PyData.tuple [PyData.tuple (List.map PyData.str p), PyData.tuple (List.map dO o), PyData.tuple (List.map dC c)]), .d (.list ((PL i).map dB)), .d (.int (0 + (i : Int))), .ml ((((PL i).take j).flatMap fun p => [p ++ [false], p ++ [true]]).map dB), y4]) ⟨_, by rw [List.take_zero]; rfl⟩ (fun I2 hI2 j x ρ2 hx xm tk ⟨y4, e⟩ => ?_) fun ρ2 ⟨y4, e⟩ => ?_⟩
      · subst e
        have lj := (List.getElem?_eq_some_iff.mp hx).1
        have fl : ∀ l : List (List Bool), (l.flatMap fun p => [p ++ [false], p ++ [true]]).length = 2 * l.length := fun l => by
          induction l with
          | nil => rfl
          | cons a t ih => rw [List.flatMap_cons, List.length_append, ih]; simp only [List.length_cons, List.length_nil]; omega
        have ll := fl ((PL i).take j)
        rw [List.length_take] at ll
        have xl := pl_mem xm
        unfold dB
        walk_at "OS"
        refine ⟨by decide, by rw [List.length_map]; omega, by decide, by rw [List.length_map]; omega, by decide, by rw [List.length_map, ll]; omega, hI2 _ _ ⟨AV.d (dB x), ?_⟩⟩
        rw [tk, List.flatMap_append, List.map_append, List.flatMap_singleton]
        simp only [List.map_cons, List.map_nil]
        unfold dB
        rw [List.map_append, List.map_append]
        rfl
      · subst e
        walk_at "OS"
        rw [List.take_length]
        exact hI _ _ ⟨_, _, _, rfl⟩
    · subst e
      rw [rng_len]
      walk_at "OS"
      exact hq

theorem sc_p_plays : FnScope ["saying"] ["saying"] (defScope s_p_plays) := ⟨rfl, rfl, rfl, by decide +kernel, rfl, by decide +kernel, by decide +kernel⟩

def sp_p_plays : PSp := fun ds q => match ds with
  | [d] => ∃ p o c, d = dSay p o c ∧ SayOk p o c ∧ q (.own ((PL p.length).map dB))
  | _ => False


theorem e_p_plays {f : Addr} {fd : FuncData} (F : Fun K "plays" "plays" s_p_plays f fd) (bd : Binds K fd ["saying"] []) (hmg : mg "plays" = some (.ref f)) (g_p_need_saying : FnP P w K mg base "need_saying" ["saying"] 6 sp_p_need_saying) (g_p_plays_of : FnP P w K mg base "plays_of" ["saying"] 1 sp_p_plays_of) : FnG P w K mg base 7 f fd ["saying"] (cP ⟨K, w, P⟩ sp_p_plays) := by
  refine fnPG F sc_p_plays (fun ds q h => ?_) fun cdv A outer s H E hr => (have hu := hr.1.roomy; ⟨_, (ass_cons (as_expr (ae_call g_p_need_saying ⟨hr.1.mono (by decide), hr.2⟩ (aa_cons (ae_var 0) aa_nil))) (ass_one (as_retL (al_call g_p_plays_of ⟨hr.1.mono (by decide), hr.2⟩ (aa_cons (ae_var 0) aa_nil))))), fun ds q h => ?_⟩)
  · unfold sp_p_plays at h
    split at h <;> first | rfl | exact h.elim
  · unfold sp_p_plays at h
    split at h
    rotate_left
    · exact h.elim
    obtain ⟨p, o, c, rfl, ok, hq⟩ := h
    walk_at "OS"
    exact ⟨p, o, c, rfl, ok, p, o, c, rfl, ok.pl, _, rfl, hq⟩

theorem d_p_plays {f : Addr} {fd : FuncData} (F : Fun K "plays" "plays" s_p_plays f fd) (bd : Binds K fd ["saying"] []) (hmg : mg "plays" = some (.ref f)) (g_p_need_saying : FnP P w K mg base "need_saying" ["saying"] 6 sp_p_need_saying) (g_p_plays_of : FnP P w K mg base "plays_of" ["saying"] 1 sp_p_plays_of) : FnP P w K mg base "plays" ["saying"] 7 sp_p_plays := ⟨f, fd, hmg, F.kp, bd, e_p_plays F bd hmg g_p_need_saying g_p_plays_of⟩

theorem sc_p_seen_at : FnScope ["many", "spot", "at"] ["many", "spot"] (defScope s_p_seen_at) := ⟨rfl, rfl, rfl, by decide +kernel, rfl, by decide +kernel, by decide +kernel⟩

def sp_p_seen_at : PSp := fun ds q => match ds with
  | [.int n, .int k] => ∃ a b : Nat, n = a ∧ k = b ∧ a ≤ 6 ∧ q (.d (dB (bitsOf a b)))
  | _ => False


theorem d_p_seen_at {f : Addr} {fd : FuncData} (F : Fun K "seen_at" "seen_at" s_p_seen_at f fd) (bd : Binds K fd ["many", "spot"] []) (hmg : mg "seen_at" = some (.ref f)) (b_tuple : mg "tuple" = none) (b_range : mg "range" = none) : FnP P w K mg base "seen_at" ["many", "spot"] 1 sp_p_seen_at := by
  refine fnP F sc_p_seen_at (fun ds q h => ?_) bd hmg fun cdv A outer s H E hr => (have hu := hr.1.roomy; ⟨_, (ass_one (as_ret (ae_bi (bu_tuple b_tuple) ps_tuple (aa_cons (AL.ae (al_lc (own := [("at", 2)]) rfl sc_p_seen_at.nd (ai_rng1 (fun _ => rfl) b_range (aa_cons (ae_var 0) aa_nil)) (fun _ => blkOk_by rfl) (ago_name 2 (by decide) sc_p_seen_at.nd) ats_nil (ae_eqD hu (ae_and_ (ae_shr (ae_var 1) (ae_var 2)) ae_int) ae_int))) aa_nil)))), fun ds q h => ?_⟩)
  · unfold sp_p_seen_at at h
    split at h <;> first | rfl | exact h.elim
  · unfold sp_p_seen_at at h
    split at h
    rotate_left
    · exact h.elim
    obtain ⟨a, b, rfl, rfl, al, hq⟩ := h
    walk_at "OS"
    refine ⟨by omega, by omega, by rw [rng_len]; omega, ex_j (fun i acc ρ2 => acc = (bitsOf i b).map .bool ∧ ρ2 = [AV.d (PyData.int a), .d (.int b), .no]) ⟨rfl, rfl⟩ (fun I hI i d acc ρ2 hd ⟨e1, e2⟩ => ?_) fun acc ρ2 ⟨e1, e2⟩ => ?_⟩
    · obtain ⟨rfl, hi⟩ := rng_get hd
      subst e1 e2
      walk_at "OS"
      have eb : decide (Builtin.bitAnd ((b : Int) / 2 ^ (0 + (i : Int)).toNat) 1 = 1) = (b / 2 ^ i % 2 == 1) := by
        rw [PyProof.Rows.bitAnd_m1, show (0 + (i : Int)).toNat = i by omega]
        have e : ((b : Int) / 2 ^ i % 2) = ((b / 2 ^ i % 2 : Nat) : Int) := by simp
        rw [e, Bool.eq_iff_iff, decide_eq_true_eq, beq_iff_eq]
        omega
      rw [eb]
      exact ⟨by omega, hI _ _ _ ⟨by rw [bits_snoc, List.map_append]; rfl, rfl⟩⟩
    · subst e1 e2
      rw [rng_len, Int.toNat_natCast]
      exact hq

theorem sc_p_copies_of : FnScope ["saying", "found", "name", "sight", "spot"] ["saying"] (defScope s_p_copies_of) := ⟨rfl, rfl, rfl, by decide +kernel, rfl, by decide +kernel, by decide +kernel⟩

def sp_p_copies_of : PSp := fun ds q => match ds with
  | [d] => ∃ p o c, d = dSay p o c ∧ SayOk p o c ∧ q (.own ((copL o).map dCp))
  | _ => False


theorem d_p_copies_of {f : Addr} {fd : FuncData} (F : Fun K "copies_of" "copies_of" s_p_copies_of f fd) (bd : Binds K fd ["saying"] []) (hmg : mg "copies_of" = some (.ref f)) (b_range : mg "range" = none) (b_len : mg "len" = none) (g_p_seen_at : FnP P w K mg base "seen_at" ["many", "spot"] 1 sp_p_seen_at) : FnP P w K mg base "copies_of" ["saying"] 2 sp_p_copies_of := by
  refine fnP F sc_p_copies_of (fun ds q h => ?_) bd hmg fun cdv A outer s H E hr => (have hu := hr.1.roomy; ⟨_, (ass_cons (as_setM 1 sc_p_copies_of.nd (al_lst aa_nil)) (ass_cons (as_for (fun _ => PassesOwn.never) rfl (ai_seq (ae_ixD hu (ae_var 0) ae_int)) (ag_tup (n := 2) rfl (ags_cons (ag_name 2 sc_p_copies_of.nd) (ags_cons (ag_name 3 sc_p_copies_of.nd) ags_nil))) (ass_one (as_expr (ae_extend 1 (al_lc (own := [("spot", 4)]) rfl sc_p_copies_of.nd (ai_rng1 (fun _ => rfl) b_range (aa_cons (ae_shl ae_int (ae_bi (bu_lenX b_len) ps_lenX (aa_cons (ae_var 3) aa_nil))) aa_nil)) (fun _ => blkOk_by rfl) (ago_name 4 (by decide) sc_p_copies_of.nd) ats_nil (ae_tup (aa_cons (ae_var 2) (aa_cons (ae_call g_p_seen_at ⟨hr.1.mono (by decide), hr.2⟩ (aa_cons (ae_bi (bu_lenX b_len) ps_lenX (aa_cons (ae_var 3) aa_nil)) (aa_cons (ae_var 4) aa_nil))) aa_nil)))))))) (ass_one (as_retM 1)))), fun ds q h => ?_⟩)
  · unfold sp_p_copies_of at h
    split at h <;> first | rfl | exact h.elim
  · unfold sp_p_copies_of at h
    split at h
    rotate_left
    · exact h.elim
    obtain ⟨p, o, c, rfl, ok, hq⟩ := h
    unfold dSay
    walk_at "OS"
    refine ⟨by decide, ex_fx (fun i ρ => ∃ y2 y3, ρ = [AV.d (PyData.tuple [PyData.tuple (List.map PyData.str p), PyData.tuple (List.map dO o), PyData.tuple (List.map dC c)]), .ml ((copL (o.take i)).map dCp), y2, y3, .no]) ⟨_, _, rfl⟩ (fun I hI i x ρ2 hx xm tk ⟨y2, y3, e⟩ => ?_) fun ρ2 ⟨y2, y3, e⟩ => ?_⟩
    · subst e
      have x6 := (ok.oo x xm).2.2.2.2
      obtain ⟨s1, s2⟩ := shl_ok (n := (x.2.map PyData.str).length) (by rw [List.length_map]; omega)
      have p64 : 2 ^ x.2.length ≤ 64 := Nat.le_trans (Nat.pow_le_pow_right (by decide) x6) (by decide)
      unfold dO
      walk_at "OS"
      rw [s2]
      rw [List.length_map] at s1 ⊢
      obtain ⟨M, eM⟩ : ∃ M, M = 2 ^ x.2.length := ⟨_, rfl⟩
      rw [← eM] at p64 ⊢
      have cl := ok.om
      refine ⟨s1, by omega, by omega, by rw [rng_len]; omega, ex_j (fun k acc ρ2 => acc = ((List.range k).map fun k => (x.1, bitsOf x.2.length k)).map dCp ∧ ρ2 = [AV.d (PyData.tuple [PyData.tuple (List.map PyData.str p), PyData.tuple (List.map dO o), PyData.tuple (List.map dC c)]), .ml ((copL (o.take i)).map dCp), .d (.str x.1), .d (.tuple (x.2.map .str)), .no]) ⟨rfl, rfl⟩ (fun I2 hI2 k d acc ρ2 hd ⟨e1, e2⟩ => ?_) fun acc ρ2 ⟨e1, e2⟩ => ?_⟩
      · obtain ⟨rfl, hk⟩ := rng_get hd
        subst e1 e2
        walk_at "OS"
        refine ⟨x.2.length, k, by rw [List.length_map], by omega, x6, by decide, hI2 _ _ _ ⟨?_, rfl⟩⟩
        rw [List.range_succ, List.map_append, List.map_append]
        rfl
      · subst e1 e2
        rw [rng_len]
        walk_at "OS"
        have c1 := cop_len (o.take i)
        have c3 := cop_len o
        have c4 : copL o = copL (o.take i) ++ copL (o.drop i) := by rw [← cop_app, List.take_append_drop]
        have c5 := congrArg List.length c4
        rw [List.length_append] at c5
        refine ⟨by rw [List.length_map, List.length_map, List.length_map, List.length_range]; omega, hI _ _ ⟨.d (.str x.1), .d (.tuple (x.2.map .str)), ?_⟩⟩
        rw [tk, cop_app, List.map_append, Int.toNat_natCast, eM]
        unfold copL
        rw [List.flatMap_singleton]
    · subst e
      rw [List.take_length]
      walk_at "OS"
      exact hq

theorem sc_p_copies : FnScope ["saying"] ["saying"] (defScope s_p_copies) := ⟨rfl, rfl, rfl, by decide +kernel, rfl, by decide +kernel, by decide +kernel⟩

def sp_p_copies : PSp := fun ds q => match ds with
  | [d] => ∃ p o c, d = dSay p o c ∧ SayOk p o c ∧ q (.own ((copL o).map dCp))
  | _ => False


theorem e_p_copies {f : Addr} {fd : FuncData} (F : Fun K "copies" "copies" s_p_copies f fd) (bd : Binds K fd ["saying"] []) (hmg : mg "copies" = some (.ref f)) (g_p_need_saying : FnP P w K mg base "need_saying" ["saying"] 6 sp_p_need_saying) (g_p_copies_of : FnP P w K mg base "copies_of" ["saying"] 2 sp_p_copies_of) : FnG P w K mg base 7 f fd ["saying"] (cP ⟨K, w, P⟩ sp_p_copies) := by
  refine fnPG F sc_p_copies (fun ds q h => ?_) fun cdv A outer s H E hr => (have hu := hr.1.roomy; ⟨_, (ass_cons (as_expr (ae_call g_p_need_saying ⟨hr.1.mono (by decide), hr.2⟩ (aa_cons (ae_var 0) aa_nil))) (ass_one (as_retL (al_call g_p_copies_of ⟨hr.1.mono (by decide), hr.2⟩ (aa_cons (ae_var 0) aa_nil))))), fun ds q h => ?_⟩)
  · unfold sp_p_copies at h
    split at h <;> first | rfl | exact h.elim
  · unfold sp_p_copies at h
    split at h
    rotate_left
    · exact h.elim
    obtain ⟨p, o, c, rfl, ok, hq⟩ := h
    walk_at "OS"
    exact ⟨p, o, c, rfl, ok, p, o, c, rfl, ok, _, rfl, hq⟩

theorem d_p_copies {f : Addr} {fd : FuncData} (F : Fun K "copies" "copies" s_p_copies f fd) (bd : Binds K fd ["saying"] []) (hmg : mg "copies" = some (.ref f)) (g_p_need_saying : FnP P w K mg base "need_saying" ["saying"] 6 sp_p_need_saying) (g_p_copies_of : FnP P w K mg base "copies_of" ["saying"] 2 sp_p_copies_of) : FnP P w K mg base "copies" ["saying"] 7 sp_p_copies := ⟨f, fd, hmg, F.kp, bd, e_p_copies F bd hmg g_p_need_saying g_p_copies_of⟩

theorem sc_l_lists_right : FnScope ["saying", "due", "first", "part"] ["saying"] (defScope s_l_lists_right) := ⟨rfl, rfl, rfl, by decide +kernel, rfl, by decide +kernel, by decide +kernel⟩

theorem plL {α : Type} {n : Nat} {f : α → PyData} {xs : List α} (l : xs.length ≤ 1000000) (h : ∀ x ∈ xs, plainD n (f x)) : plainD (n + 1) (.list (xs.map f)) := ⟨by rw [List.length_map]; exact l, fun y hy => by
  obtain ⟨x, hx, rfl⟩ := List.mem_map.mp hy
  exact h x hx⟩
theorem plT {α : Type} {n : Nat} {f : α → PyData} {xs : List α} (l : xs.length ≤ 1000000) (h : ∀ x ∈ xs, plainD n (f x)) : plainD (n + 1) (.tuple (xs.map f)) := ⟨by rw [List.length_map]; exact l, fun y hy => by
  obtain ⟨x, hx, rfl⟩ := List.mem_map.mp hy
  exact h x hx⟩
theorem pl_two {n : Nat} {x y : PyData} (h : plainD n x) (h2 : plainD n y) : plainD (n + 1) (.list [x, y]) := ⟨by show 2 ≤ 1000000; decide, fun z hz => by
  simp only [List.mem_cons, List.not_mem_nil, or_false] at hz
  rcases hz with rfl | rfl
  · exact h
  · exact h2⟩
theorem pl_dB {n : Nat} {bs : List Bool} (h : bs.length ≤ 1000) : plainD (n + 2) (dB bs) := plT (by omega) fun _ _ => trivial
theorem pl_dCp {n : Nat} {y : Str × List Bool} (h : y.2.length ≤ 1000) : plainD (n + 3) (dCp y) := ⟨by show 2 ≤ 1000000; decide, fun z hz => by
  simp only [List.mem_cons, List.not_mem_nil, or_false] at hz
  rcases hz with rfl | rfl
  · trivial
  · exact pl_dB h⟩
theorem pl_dMk {n : Nat} {y : Mk3} (h : y.2.1.length ≤ 1000) : plainD (n + 3) (dMk y) := ⟨by show 3 ≤ 1000000; decide, fun z hz => by
  simp only [List.mem_cons, List.not_mem_nil, or_false] at hz
  rcases hz with rfl | rfl | rfl
  · trivial
  · exact pl_dB h
  · trivial⟩
theorem pl_mkD {n : Nat} {p : List Str} {o : List (Str × List Str)} {c : List (List (Str × Bool))} (ok : SayOk p o c) (pl : List Bool) {x : List (Str × Bool)} (xl : x.length ≤ 14) : plainD (n + 4) (mkD (mkL p o pl x)) := by
  unfold mkL
  split
  · trivial
  · refine plT (f := dMk) (Nat.le_trans (by unfold mkF; rw [List.length_map]; exact List.length_filter_le ..) (Nat.le_trans xl (by decide))) fun m hm => pl_dMk ?_
    obtain ⟨l, hl, rfl⟩ := List.mem_map.mp hm
    have := (sgt_ok ok (List.mem_filter.mp hl).2).2.2
    show ((sgt o l.1).map (lk p pl)).length ≤ 1000
    rw [List.length_map]
    omega
theorem cop_small {o : List (Str × List Str)} (h : ∀ x ∈ o, x.2.length ≤ 6) : ∀ y ∈ copL o, y.2.length ≤ 1000 := fun y hy => by
  unfold copL at hy
  obtain ⟨x, hx, hy⟩ := List.mem_flatMap.mp hy
  obtain ⟨k, _, rfl⟩ := List.mem_map.mp hy
  have := h x hx
  show (bitsOf x.2.length k).length ≤ 1000
  rw [bits_len]
  omega
def sp_l_lists_right : PSp := fun ds q => match ds with
  | [d] => ∃ p o c, d = dSay p o c ∧ SayOk p o c ∧ q (.d (.bool true))
  | _ => False


theorem d_l_lists_right {f : Addr} {fd : FuncData} (F : Fun K "_law_lists_right" "_law_lists_right" s_l_lists_right f fd) (bd : Binds K fd ["saying"] []) (hmg : mg "_law_lists_right" = some (.ref f)) (b_len : mg "len" = none) (g_l_copies : FnP P w K mg base "_law_copies" ["saying"] 2 sp_l_copies) (g_l_plays : FnP P w K mg base "_law_plays" ["size"] 1 sp_l_plays) (g_p_plays : FnP P w K mg base "plays" ["saying"] 7 sp_p_plays) (g_p_copies : FnP P w K mg base "copies" ["saying"] 7 sp_p_copies) (g_l_same : FnP P w K mg base "_law_same" ["found", "due"] 7 sp_l_same) (k_p_copies : FnKw P w K mg base "copies" ["saying"] ["saying"] 0 [0] 7 sp_p_copies) (k_p_plays : FnKw P w K mg base "plays" ["saying"] ["saying"] 0 [0] 7 sp_p_plays) : FnP P w K mg base "_law_lists_right" ["saying"] 8 sp_l_lists_right := by
  refine fnP F sc_l_lists_right (fun ds q h => ?_) bd hmg fun cdv A outer s H E hr => (have hu := hr.1.roomy; ⟨_, (ass_cons (as_set 1 sc_l_lists_right.nd (AL.ae (al_lst (aa_cons (ae_call g_l_plays ⟨hr.1.mono (by decide), hr.2⟩ (aa_cons (ae_bi (bu_lenX b_len) ps_lenX (aa_cons (ae_ixD hu (ae_var 0) ae_int) aa_nil)) aa_nil)) (aa_cons (ae_call g_l_copies ⟨hr.1.mono (by decide), hr.2⟩ (aa_cons (ae_var 0) aa_nil)) aa_nil))))) (as_spoil 2 3 sc_l_lists_right.nd (by decide) (al_call g_p_plays ⟨hr.1.mono (by decide), hr.2⟩ (aa_cons (ae_var 0) aa_nil)) (al_call g_p_copies ⟨hr.1.mono (by decide), hr.2⟩ (aa_cons (ae_var 0) aa_nil)) (at_not (at_val (ae_call g_l_same ⟨hr.1.mono (by decide), hr.2⟩ (aa_cons (ae_var 2) (aa_cons (ae_var 1) aa_nil))))) (ass_one (as_ret ae_bl)) (ass_one (as_ret (ae_call g_l_same ⟨hr.1.mono (by decide), hr.2⟩ (aa_cons (AL.ae (al_lst (aa_cons (ae_kw0 k_p_plays ⟨hr.1.mono (by decide), hr.2⟩ (ak_cons (ae_var 0) ak_nil)) (aa_cons (ae_kw0 k_p_copies ⟨hr.1.mono (by decide), hr.2⟩ (ak_cons (ae_var 0) ak_nil)) aa_nil)))) (aa_cons (ae_var 1) aa_nil))))) (fun _ => PassesOwn.never) rfl)), fun ds q h => ?_⟩)
  · unfold sp_l_lists_right at h
    split at h <;> first | rfl | exact h.elim
  · unfold sp_l_lists_right at h
    split at h
    rotate_left
    · exact h.elim
    obtain ⟨p, o, c, rfl, ok, hq⟩ := h
    have p6 := ok.pl
    have om := ok.om
    have c3 := cop_len o
    have e64 : (PL p.length).length ≤ 64 := by rw [pl_len]; exact Nat.le_trans (Nat.pow_le_pow_right (by decide) p6) (by decide)
    have ps : plainD 6 (.list [.list ((PL p.length).map dB), .list ((copL o).map dCp)]) := pl_two (plL (by omega) fun x hx => pl_dB (by have := pl_mem hx; omega)) (plL (by omega) fun y hy => pl_dCp (cop_small (fun x hx => (ok.oo x hx).2.2.2.2) y hy))
    unfold dSay
    walk_at "OS"
    refine ⟨p.length, by rw [List.length_map], p6, p, o, c, rfl, ok, by decide, by decide, by decide, p, o, c, rfl, ok, _, rfl, p, o, c, rfl, ok, _, rfl, by rw [List.length_map]; omega, by rw [List.length_map]; omega, rfl, ps, ?_⟩
    walk_at "OS"
    refine ⟨p, o, c, rfl, ok, p, o, c, rfl, ok, by decide, rfl, ps, hq⟩

theorem sc_l_sees : FnScope ["saying", "sight", "play", "at"] ["saying", "sight", "play"] (defScope s_l_sees) := ⟨rfl, rfl, rfl, by decide +kernel, rfl, by decide +kernel, by decide +kernel⟩

def sp_l_sees : PSp := fun ds q => match ds with
  | [d, .tuple ss, .tuple ps] => ∃ p o c, ∃ s : List Str, ∃ pl : List Bool, d = dSay p o c ∧ ss = s.map .str ∧ ps = pl.map .bool ∧ p.length ≤ 6 ∧ pl.length = p.length ∧ Asc (p.map .str) ∧ Asc (s.map .str) ∧ (∀ x ∈ s, x ∈ p) ∧ q (.d (dB (s.map (lk p pl))))
  | _ => False


theorem d_l_sees {f : Addr} {fd : FuncData} (F : Fun K "_law_sees" "_law_sees" s_l_sees f fd) (bd : Binds K fd ["saying", "sight", "play"] []) (hmg : mg "_law_sees" = some (.ref f)) (b_tuple : mg "tuple" = none) (b_range : mg "range" = none) (b_len : mg "len" = none) : FnP P w K mg base "_law_sees" ["saying", "sight", "play"] 1 sp_l_sees := by
  refine fnP F sc_l_sees (fun ds q h => ?_) bd hmg fun cdv A outer s H E hr => (have hu := hr.1.roomy; ⟨_, (ass_one (as_ret (ae_bi (bu_tuple b_tuple) ps_tuple (aa_cons (AL.ae (al_lc (own := [("at", 3)]) rfl sc_l_sees.nd (ai_rng1 (fun _ => rfl) b_range (aa_cons (ae_bi (bu_lenX b_len) ps_lenX (aa_cons (ae_var 2) aa_nil)) aa_nil)) (fun _ => blkOk_by rfl) (ago_name 3 (by decide) sc_l_sees.nd) (ats_one (at_inD hu (ae_ixD hu (ae_ixD hu (ae_var 0) ae_int) (ae_var 3)) (ae_var 1))) (ae_ixD hu (ae_var 2) (ae_var 3)))) aa_nil)))), fun ds q h => ?_⟩)
  · unfold sp_l_sees at h
    split at h <;> first | rfl | exact h.elim
  · unfold sp_l_sees at h
    split at h
    rotate_left
    · exact h.elim
    obtain ⟨p, o, c, s, pl, rfl, rfl, rfl, p6, pe, pa, sa, sp, hq⟩ := h
    unfold dSay
    walk_at "OS"
    rw [List.length_map]
    refine ⟨by omega, by omega, by rw [rng_len]; omega, ex_j (fun i acc ρ2 => acc = ((((p.zip pl).take i).filter fun y => decide (y.1 ∈ s)).map (·.2)).map PyData.bool ∧ ρ2 = [AV.d (PyData.tuple [PyData.tuple (List.map PyData.str p), PyData.tuple (List.map dO o), PyData.tuple (List.map dC c)]), .d (.tuple (s.map .str)), .d (.tuple (pl.map .bool)), .no]) ⟨rfl, rfl⟩ (fun I hI i d acc ρ2 hd ⟨e1, e2⟩ => ?_) fun acc ρ2 ⟨e1, e2⟩ => ?_⟩
    · obtain ⟨rfl, hi⟩ := rng_get hd
      rw [Int.toNat_natCast] at hi
      obtain ⟨x, b, h1, h2, h3, h4⟩ := zip_at pe hi
      subst e1 e2
      walk_at "OS"
      refine ⟨_, at_map h1, ?_⟩
      walk_at "OS"
      refine ⟨rfl, flat_str, ?_⟩
      rw [any_str]
      have fs : [(x, b)].filter (fun y : Str × Bool => decide (y.1 ∈ s)) = if decide (x ∈ s) = true then [(x, b)] else [] := by
        rw [List.filter_cons]
        rfl
      refine ⟨fun z => ⟨_, at_map h2, hI _ _ _ ⟨?_, rfl⟩⟩, fun z => hI _ _ _ ⟨?_, rfl⟩⟩
      · rw [h4, List.filter_append, fs, if_pos z, List.map_append, List.map_append]
        rfl
      · rw [h4, List.filter_append, fs, if_neg (by rw [z]; decide), List.append_nil]
    · subst e1 e2
      rw [rng_len, Int.toNat_natCast, List.take_of_length_le (by rw [List.length_zip]; omega), sees_eq pe pa sa sp]
      exact hq

theorem sc_l_letters : FnScope ["saying", "clause", "play", "truths", "sights", "found", "word", "truth"] ["saying", "clause", "play"] (defScope s_l_letters) := ⟨rfl, rfl, rfl, by decide +kernel, rfl, by decide +kernel, by decide +kernel⟩

def sp_l_letters : PSp := fun ds q => match ds with
  | [d, e, .tuple ps] => ∃ p o c x, ∃ pl : List Bool, d = dSay p o c ∧ SayOk p o c ∧ e = dC x ∧ ClsOk p o x ∧ ps = pl.map .bool ∧ pl.length = p.length ∧ q (.d (mkD (mkL p o pl x)))
  | _ => False


theorem d_l_letters {f : Addr} {fd : FuncData} (F : Fun K "_law_letters" "_law_letters" s_l_letters f fd) (bd : Binds K fd ["saying", "clause", "play"] []) (hmg : mg "_law_letters" = some (.ref f)) (b_dict : mg "dict" = none) (b_zip : mg "zip" = none) (b_tuple : mg "tuple" = none) (b_sorted : mg "sorted" = none) (g_l_sees : FnP P w K mg base "_law_sees" ["saying", "sight", "play"] 1 sp_l_sees) : FnP P w K mg base "_law_letters" ["saying", "clause", "play"] 2 sp_l_letters := by
  refine fnP F sc_l_letters (fun ds q h => ?_) bd hmg fun cdv A outer s H E hr => (have hu := hr.1.roomy; ⟨_, (ass_cons (as_par3 3 4 5 rfl sc_l_letters.nd (ah_d (AD.ae (ad_dictZ rfl b_dict b_zip (aa_cons (ae_ixD hu (ae_var 0) ae_int) (aa_cons (ae_var 2) aa_nil)))) (ah_d (AD.ae (ad_dictP rfl hu b_dict (ae_ixD hu (ae_var 0) ae_int))) (ah_l (al_lst aa_nil) ah_nil)))) (ass_cons (as_for (fun _ => PassesOwn.never) rfl (ai_seq (ae_var 1)) (ag_tup (n := 2) rfl (ags_cons (ag_name 6 sc_l_letters.nd) (ags_cons (ag_name 7 sc_l_letters.nd) ags_nil))) (ass_cons (as_if (AWt.at (aw_and (at_inD hu (ae_var 6) (ae_var 3)) (aw_and1 (at_eqD hu (ae_ixD hu (ae_var 3) (ae_var 6)) (ae_var 7))))) (ass_one (as_ret ae_non)) ass_nil) (ass_one (as_if (at_inD hu (ae_var 6) (ae_var 4)) (ass_one (as_expr (ae_append 5 (ae_tup (aa_cons (ae_var 6) (aa_cons (ae_call g_l_sees ⟨hr.1.mono (by decide), hr.2⟩ (aa_cons (ae_var 0) (aa_cons (ae_ixD hu (ae_var 4) (ae_var 6)) (aa_cons (ae_var 2) aa_nil)))) (aa_cons (ae_var 7) aa_nil))))))) ass_nil)))) (ass_one (as_ret (ae_bi (bu_tuple b_tuple) ps_tuple (aa_cons (AL.ae (al_biB (bu_sortX rfl hu b_sorted) ps_sortX (aa_var 5 aa_nil))) aa_nil)))))), fun ds q h => ?_⟩)
  · unfold sp_l_letters at h
    split at h <;> first | rfl | exact h.elim
  · unfold sp_l_letters at h
    split at h
    rotate_left
    · exact h.elim
    obtain ⟨p, o, c, x, pl, rfl, ok, rfl, xk, rfl, pe, hq⟩ := h
    have xl := xk.2.2
    have p6 := ok.pl
    have pn := strs_nodup ok.pa
    have nz : ((p.zip pl).map (·.1)).Nodup := by rw [zip_fst pe]; exact pn
    unfold dSay dC
    walk_at "OS"
    rw [zip_kB, merge_kB nz]
    refine ⟨by rw [List.all_map]; exact List.all_eq_true.mpr fun _ _ => rfl, o.map oP, dO_oP o, .inl (flat_oP o), by decide, ?_⟩
    rw [merge_oP (own_nodup ok.oa)]
    refine ex_fx (fun i ρ => ∃ y6 y7, ρ = [AV.d (PyData.tuple [PyData.tuple (List.map PyData.str p), PyData.tuple (List.map dO o), PyData.tuple (List.map dC c)]), AV.d (PyData.tuple (List.map dL x)), AV.d (PyData.tuple (List.map PyData.bool pl)), AV.d (PyData.dict (List.map kB (p.zip pl))), AV.d (PyData.dict (List.map oP o)), .ml ((mkF p o pl (x.take i)).map dMk), y6, y7] ∧ ∀ l ∈ x.take i, pkSo p o pl l = false) ⟨_, _, rfl, fun _ h => (by cases h)⟩ (fun I hI i l ρ2 hx xm tk ⟨y6, y7, e, hn⟩ => ?_) fun ρ2 ⟨y6, y7, e, hn⟩ => ?_
    · subst e
      have lm := (xk.1 l xm).2
      have fl : (mkF p o pl (x.take i)).length ≤ 14 := by
        unfold mkF
        rw [List.length_map]
        exact Nat.le_trans (List.length_filter_le ..) (Nat.le_trans (List.length_take_le' ..) xl)
      unfold dL
      walk_at "OS"
      rw [some_zip pe, some_oP]
      refine ⟨fit_kB, fun z => ?_, fun z => ?_⟩
      · have z := of_decide_eq_true z
        have no : ownB o l = false := by
          cases h : ownB o l with
          | false => rfl
          | true => exact absurd z (own_not ok h)
        refine ⟨_, get_tv nz (by rw [zip_fst pe]; exact z), fit_kB, ?_⟩
        walk_at "OS"
        refine ⟨fun e => ?_, fun e => ⟨fit_oP o l.1, fun z => ?_, fun _ => hI _ _ ⟨.d (.str l.1), .d (.bool l.2), ?_, fun l' h' => ?_⟩⟩⟩
        · rw [mkL_none xm (by unfold pkSo; rw [no]; exact decide_eq_true e)] at hq
          exact hq
        · rw [no] at z; cases z
        · rw [mkF_step tk, no, if_neg Bool.false_ne_true, List.append_nil]
          rfl
        · rw [tk] at h'
          rcases List.mem_append.mp h' with h' | h'
          · exact hn _ h'
          · cases List.mem_singleton.mp h'
            unfold pkSo
            rw [no]
            exact decide_eq_false e
      · have z := of_decide_eq_false z
        refine ⟨fit_oP o l.1, fun yo => ?_, fun no => absurd (not_own lm no) z⟩
        obtain ⟨sa, sp, s6⟩ := sgt_ok ok yo
        refine ⟨_, get_oP (own_nodup ok.oa) yo, fit_oP o l.1, p, o, c, sgt o l.1, pl, rfl, rfl, rfl, p6, pe, ok.pa, sa, sp, by decide, by rw [List.length_map]; omega, hI _ _ ⟨.d (.str l.1), .d (.bool l.2), ?_, fun l' h' => ?_⟩⟩
        · rw [mkF_step tk, yo, if_pos rfl, List.map_append]
          rfl
        · rw [tk] at h'
          rcases List.mem_append.mp h' with h' | h'
          · exact hn _ h'
          · cases List.mem_singleton.mp h'
            unfold pkSo
            rw [yo]
            rfl
    · subst e
      rw [List.take_length] at hn ⊢
      have sm := srt_mk (mkF_asc (p := p) (o := o) (pl := pl) xk.2.1)
      rw [mkL_some hn] at hq
      walk_at "OS"
      refine ⟨sm.1, fun ys hy => ?_⟩
      rw [sm.2 ys hy]
      exact ⟨lf_dMk _, hq⟩

theorem sc_l_pick : FnScope ["source", "top", "mixed", "found"] ["source", "top"] (defScope s_l_pick) := ⟨rfl, rfl, rfl, by decide +kernel, rfl, by decide +kernel, by decide +kernel⟩

def sp_l_pick : TSp := fun n ds q => match ds with
  | [.int many] => 0 < many ∧ many ≤ 1000000 ∧ n ≤ 1000000 ∧ ∀ z : Int, 0 ≤ z → z < many → q (n + 1) (.d (.int z))
  | _ => False


theorem d_l_pick {f : Addr} {fd : FuncData} (F : Fun K "_law_pick" "_law_pick" s_l_pick f fd) (bd : Binds K fd ["source", "top"] []) (hmg : mg "_law_pick" = some (.ref f)) (b_int : mg "int" = none) : FnT P w K mg base "_law_pick" ["source", "top"] 1 sp_l_pick := by
  refine fnT F sc_l_pick (fun n ds q h => ?_) bd hmg fun cdv A outer s H E hr => (have hu := hr.1.roomy; ⟨_, (ass_tank 0 (ass_cons (as_if (at_gt (ae_tk 0 0 (by decide)) ae_int) (ass_cons (as_set 3 sc_l_pick.nd (ae_mod (ae_bi (bu_int b_int) ps_int (aa_cons (ae_tk 0 0 (by decide)) aa_nil)) (ae_var 1))) (ass_cons (as_asg (ae_fdiv (ae_tk 0 0 (by decide)) (ae_var 1)) (ag_tk 0 0 (by decide))) (ass_one (as_ret (ae_var 3))))) ass_nil) (ass_cons (as_asg (ae_add (ae_tk 0 2 (by decide)) ae_int) (ag_tk 0 2 (by decide))) (ass_cons (as_set 2 sc_l_pick.nd (ae_mod (ae_bi (bu_int b_int) ps_int (aa_cons (ae_add (ae_add (ae_tk 0 1 (by decide)) (ae_mul (ae_mul ae_int (ae_tk 0 2 (by decide))) (ae_tk 0 2 (by decide)))) (ae_mul ae_int (ae_tk 0 2 (by decide)))) aa_nil)) (ae_add (ae_pow ae_int ae_int) ae_int))) (ass_cons (as_set 2 sc_l_pick.nd (ae_mod (ae_bi (bu_int b_int) ps_int (aa_cons (ae_add (ae_mul (ae_mul (ae_var 2) (ae_var 2)) (ae_var 2)) (ae_tk 0 2 (by decide))) aa_nil)) (ae_add (ae_pow ae_int ae_int) ae_int))) (ass_one (as_ret (ae_mod (ae_fdiv (ae_mod (ae_bi (bu_int b_int) ps_int (aa_cons (ae_mul (ae_var 2) (ae_add (ae_var 2) ae_int)) aa_nil)) (ae_add (ae_pow ae_int ae_int) ae_int)) ae_int) (ae_var 1))))))))), fun n ds q h => ?_⟩)
  · unfold sp_l_pick at h
    split at h <;> first | rfl | exact h.elim
  · unfold sp_l_pick at h
    split at h
    rotate_left
    · exact h.elim
    rename_i many
    obtain ⟨h1, h2, h3, hq⟩ := h
    walk_at "OS"
    intro p x r ok
    obtain ⟨hp, hx, hx2, hr0, hr1⟩ := ok
    refine ⟨fun h => ⟨h1, divB h1 (by omega), n + 1, ⟨Int.ediv_nonneg hp (by omega), hx, hx2, hr0, by omega⟩, ?_⟩, fun h => ?_⟩
    · exact hq _ (modB _ h1).1 (modB _ h1).2
    · have c1 : CMulX 899809363 (r + 1) := mulB (by omega) (by omega) (by omega) (by omega)
      have c2 : CMulX (899809363 * (r + 1)) (r + 1) := mulB (by omega) (by omega) (by omega) (by omega)
      have c3 : CMulX 32416190071 (r + 1) := mulB (by omega) (by omega) (by omega) (by omega)
      obtain ⟨y, ey⟩ : ∃ y : Int, y = (x + 899809363 * (r + 1) * (r + 1) + 32416190071 * (r + 1)) % 100000000000000000000000000319 := ⟨_, rfl⟩
      have m1 := modB (x + 899809363 * (r + 1) * (r + 1) + 32416190071 * (r + 1)) (j := 100000000000000000000000000319) (by decide)
      rw [← ey] at m1 ⊢
      have yy : 0 ≤ y * y ∧ y * y ≤ 10 ^ 60 := by
        refine ⟨Int.mul_nonneg m1.1 m1.1, Int.le_trans (Int.mul_le_mul (Int.le_of_lt m1.2) (Int.le_of_lt m1.2) m1.1 (by decide)) (by decide)⟩
      obtain ⟨z, ez⟩ : ∃ z : Int, z = (y * y * y + (r + 1)) % 10000000000000000000000000000033 := ⟨_, rfl⟩
      have m2 := modB (y * y * y + (r + 1)) (j := 10000000000000000000000000000033) (by decide)
      rw [← ez] at m2 ⊢
      refine ⟨c1, c2, c3, powB (by decide) (by decide), mulB m1.1 (by omega) m1.1 (by omega), mulB yy.1 (Int.le_trans yy.2 (by decide)) m1.1 (by omega), powB (by decide) (by decide), mulB m2.1 (by omega) (by omega) (by omega), powB (by decide) (by decide), divB (by decide) (by decide), h1, n + 1, ⟨hp, hx, hx2, by omega, by omega⟩, ?_⟩
      exact hq _ (modB _ h1).1 (modB _ h1).2

theorem sc_l_clause : FnScope ["source", "words", "turn", "size", "left", "letters"] ["source", "words"] (defScope s_l_clause) := ⟨rfl, rfl, rfl, by decide +kernel, rfl, by decide +kernel, by decide +kernel⟩

def sp_l_clause : TSp := fun n ds q => match ds with
  | [.list ws] => ∃ ss : List Str, ws = ss.map .str ∧ ss.Nodup ∧ ss.length ≤ 14 ∧ (∀ s ∈ ss, Nm s) ∧ n ≤ 900000 ∧ ∀ m c, m ≤ n + 40 → ClOk ss c → q m (.d (dC c))
  | _ => False


theorem d_l_clause {f : Addr} {fd : FuncData} (F : Fun K "_law_clause" "_law_clause" s_l_clause f fd) (bd : Binds K fd ["source", "words"] []) (hmg : mg "_law_clause" = some (.ref f)) (b_list : mg "list" = none) (b_range : mg "range" = none) (b_min : mg "min" = none) (b_len : mg "len" = none) (b_tuple : mg "tuple" = none) (b_sorted : mg "sorted" = none) (g_l_pick : FnT P w K mg base "_law_pick" ["source", "top"] 1 sp_l_pick) : FnT P w K mg base "_law_clause" ["source", "words"] 2 sp_l_clause := by
  refine fnT F sc_l_clause (fun n ds q h => ?_) bd hmg fun cdv A outer s H E hr => (have hu := hr.1.roomy; ⟨_, (ass_cons (as_par3 3 4 5 rfl sc_l_clause.nd (ah_d (ae_ixD hu (AL.ae (al_lst (aa_cons ae_int (aa_cons ae_int (aa_cons ae_int (aa_cons ae_int (aa_cons ae_int (aa_cons ae_int (aa_cons ae_int (aa_cons ae_int (aa_cons ae_int (aa_cons ae_int (aa_cons ae_int (aa_cons ae_int aa_nil)))))))))))))) (ae_callT g_l_pick ⟨hr.1.mono (by decide), hr.2⟩ (aa_slot 0 (aa_cons ae_int aa_nil)))) (ah_l (al_bi (bu_listX rfl b_list) ps_listX (aa_cons (ae_var 1) aa_nil)) (ah_l (al_lst aa_nil) ah_nil)))) (ass_cons (as_for (fun _ => PassesOwn.never) rfl (ai_rng1 (fun _ => rfl) b_range (aa_cons (ae_if (at_gt (ae_callT g_l_pick ⟨hr.1.mono (by decide), hr.2⟩ (aa_slot 0 (aa_cons ae_int aa_nil))) ae_int) (ae_bi (bu_min2 rfl b_min) ps_min2 (aa_cons (ae_var 3) (aa_cons (ae_biB (bu_lenX b_len) ps_lenX (aa_var 4 aa_nil)) aa_nil))) ae_int) aa_nil)) (ag_name 2 sc_l_clause.nd) (ass_one (as_expr (ae_append 5 (ae_tup (aa_cons (ae_popAt 4 (ae_callT g_l_pick ⟨hr.1.mono (by decide), hr.2⟩ (aa_slot 0 (aa_cons (ae_biB (bu_lenX b_len) ps_lenX (aa_var 4 aa_nil)) aa_nil)))) (aa_cons (ae_eqD hu (ae_callT g_l_pick ⟨hr.1.mono (by decide), hr.2⟩ (aa_slot 0 (aa_cons ae_int aa_nil))) ae_int) aa_nil))))))) (ass_one (as_ret (ae_bi (bu_tuple b_tuple) ps_tuple (aa_cons (AL.ae (al_biB (bu_sortX rfl hu b_sorted) ps_sortX (aa_var 5 aa_nil))) aa_nil)))))), fun n ds q h => ?_⟩)
  · unfold sp_l_clause at h
    split at h <;> first | rfl | exact h.elim
  · unfold sp_l_clause at h
    split at h
    rotate_left
    · exact h.elim
    obtain ⟨ss, rfl, nd, sl, sn, hn, hq⟩ := h
    walk_at "OS"
    refine ⟨by decide, by decide, by decide, by omega, fun z z0 z1 => ?_⟩
    walk_at "OS"
    obtain ⟨d, hd, ed⟩ := atI_z (xs := [PyData.int 1, PyData.int 2, PyData.int 2, PyData.int 2, PyData.int 3, PyData.int 3, PyData.int 3, PyData.int 3, PyData.int 4, PyData.int 4, PyData.int 5, PyData.int 14]) z0 z1
    obtain ⟨sz, rfl, sz1, sz14⟩ : ∃ sz : Int, d = .int sz ∧ 1 ≤ sz ∧ sz ≤ 14 := by
      simp only [List.mem_cons, List.not_mem_nil, or_false] at hd
      rcases hd with rfl | rfl | rfl | rfl | rfl | rfl | rfl | rfl | rfl | rfl | rfl | rfl <;> exact ⟨_, rfl, by decide, by decide⟩
    refine ⟨_, ed, by decide, by decide, by decide, by omega, fun y y0 y1 => ?_⟩
    walk_at "OS"
    refine ⟨fun _ => ?_, fun _ => ?_⟩
    · rw [List.length_map]
      obtain ⟨T, eT⟩ : ∃ T : Nat, (if (ss.length : Int) < sz then (ss.length : Int) else sz) = T := ⟨(if (ss.length : Int) < sz then (ss.length : Int) else sz).toNat, by split <;> omega⟩
      have lT : T ≤ ss.length := by split at eT <;> omega
      rw [eT]
      refine ⟨by omega, by omega, ?_⟩
      rw [Int.toNat_natCast]
      refine ex_f (fun i ρ => ∃ m3, ∃ ys : List (Str × Bool), ∃ r y2, ρ = [AV.tank m3, .d (.list (ss.map .str)), y2, .d (.int sz), .ml (r.map PyData.str), .ml (ys.map dL)] ∧ (ys.map (·.1) ++ r).Perm ss ∧ ys.length = i ∧ m3 ≤ n + 2 + 2 * i) ⟨n + 1 + 1, [], ss, _, rfl, List.Perm.refl _, rfl, by omega⟩ (fun I hI i d ρ2 hd ⟨m3, ys, r, y2, e1, e2, e3, e4⟩ => ?_) fun ρ2 ⟨m3, ys, r, y2, e1, e2, e3, e4⟩ => ?_
      · obtain ⟨rfl, hi⟩ := rng_get hd
        have hl := e2.length_eq
        rw [List.length_append, List.length_map] at hl
        subst e1
        walk_at "OS"
        refine ⟨by rw [List.length_map]; omega, by rw [List.length_map]; omega, by omega, fun z2 z3 z4 => ?_⟩
        obtain ⟨k, x, h5, h6, h7, h8⟩ := pop_z z3 z4
        walk_at "OS"
        refine ⟨by rw [List.length_map]; omega, k, h5, _, h6, by decide, by decide, by omega, fun w w0 w1 => ?_⟩
        walk_at "OS"
        refine ⟨by decide, by rw [List.length_map]; omega, ?_⟩
        rw [h7]
        refine hI _ _ ⟨m3 + 1 + 1, ys ++ [(x, decide (w = 0))], r.eraseIdx k, .d (.int (0 + (i : Int))), by rw [List.map_append]; rfl, ?_, by rw [List.length_append, e3]; rfl, by omega⟩
        rw [List.map_append, List.append_assoc]
        exact (List.Perm.append_left _ h8).trans e2
      · rw [rng_len] at e3 e4
        obtain ⟨n1, n2, _⟩ := part_nodup e2 nd
        obtain ⟨ok, done⟩ := sort_letters (names := ss) n1 (fun y hy => n2 _ (List.mem_map_of_mem hy))
        subst e1
        walk_at "OS"
        refine ⟨ok, fun us hu => ?_⟩
        obtain ⟨c, rfl, w1, w2⟩ := done us hu
        exact ⟨lf_map (g := dL) (fun _ => rfl), hq m3 c (by omega) w1⟩
    · refine ⟨fun i ρ2 => i = 0 ∧ ρ2 = _, ⟨rfl, rfl⟩, fun i d ρ2 hd => ?_, fun ρ2 h => ?_⟩
      · obtain ⟨_, hi⟩ := rng_get hd
        omega
      · obtain ⟨_, rfl⟩ := h
        obtain ⟨ok, done⟩ := sort_letters (names := ss) (ys := []) .nil (fun y hy => by cases hy)
        walk_at "OS"
        refine ⟨ok, fun us hu => ?_⟩
        obtain ⟨c, rfl, w1, w2⟩ := done us hu
        exact ⟨lf_map (g := dL) (fun _ => rfl), hq _ c (by omega) w1⟩

theorem sc_p_is_a_clause : FnScope ["saying", "value"] ["saying", "value"] (defScope s_p_is_a_clause) := ⟨rfl, rfl, rfl, by decide +kernel, rfl, by decide +kernel, by decide +kernel⟩

def sp_p_is_a_clause : PSp := fun ds q => match ds with
  | [d, e] => ∃ p o c x, d = dSay p o c ∧ SayOk p o c ∧ e = dC x ∧ ClsOk p o x ∧ q (.d (.bool true))
  | _ => False


theorem d_p_is_a_clause {f : Addr} {fd : FuncData} (F : Fun K "is_a_clause" "is_a_clause" s_p_is_a_clause f fd) (bd : Binds K fd ["saying", "value"] []) (hmg : mg "is_a_clause" = some (.ref f)) (g_p_has_names : FnP P w K mg base "has_names" ["clause", "names"] 1 sp_p_has_names) (g_p_names_of : FnP P w K mg base "names_of" ["picks", "owns"] 1 sp_p_names_of) (g_p_is_any_clause : FnP P w K mg base "is_any_clause" ["value"] 3 sp_p_is_any_clause) : FnP P w K mg base "is_a_clause" ["saying", "value"] 4 sp_p_is_a_clause := by
  refine fnP F sc_p_is_a_clause (fun ds q h => ?_) bd hmg fun cdv A outer s H E hr => (have hu := hr.1.roomy; ⟨_, (ass_one (as_ret (ae_and (ae_call g_p_is_any_clause ⟨hr.1.mono (by decide), hr.2⟩ (aa_cons (ae_var 1) aa_nil)) (ae_one (ae_call g_p_has_names ⟨hr.1.mono (by decide), hr.2⟩ (aa_cons (ae_var 1) (aa_cons (ae_call g_p_names_of ⟨hr.1.mono (by decide), hr.2⟩ (aa_cons (ae_ixD hu (ae_var 0) ae_int) (aa_cons (ae_ixD hu (ae_var 0) ae_int) aa_nil))) aa_nil))))))), fun ds q h => ?_⟩)
  · unfold sp_p_is_a_clause at h
    split at h <;> first | rfl | exact h.elim
  · unfold sp_p_is_a_clause at h
    split at h
    rotate_left
    · exact h.elim
    obtain ⟨p, o, c, x, rfl, ok, rfl, xk, hq⟩ := h
    unfold dSay
    walk_at "OS"
    have pl := ok.pl
    have ol := ok.ol
    have xl := xk.2.2
    refine ⟨x, rfl, fun y hy => (xk.1 y hy).1, xk.2.1, by omega, true, rfl, fun _ => ⟨o, p, rfl, rfl, by omega, by omega, x, _, rfl, rfl, fun y hy => (xk.1 y hy).2, by omega, hq⟩, fun z => by cases z⟩

theorem sc_p_need_clause : FnScope ["saying", "clause"] ["saying", "clause"] (defScope s_p_need_clause) := ⟨rfl, rfl, rfl, by decide +kernel, rfl, by decide +kernel, by decide +kernel⟩

def sp_p_need_clause : PSp := fun ds q => match ds with
  | [d, e] => ∃ p o c x, d = dSay p o c ∧ SayOk p o c ∧ e = dC x ∧ ClsOk p o x ∧ q (.d .none)
  | _ => False


theorem d_p_need_clause {f : Addr} {fd : FuncData} (F : Fun K "need_clause" "need_clause" s_p_need_clause f fd) (bd : Binds K fd ["saying", "clause"] []) (hmg : mg "need_clause" = some (.ref f)) (g_p_is_a_clause : FnP P w K mg base "is_a_clause" ["saying", "value"] 4 sp_p_is_a_clause) : FnP P w K mg base "need_clause" ["saying", "clause"] 5 sp_p_need_clause := by
  refine fnP F sc_p_need_clause (fun ds q h => ?_) bd hmg fun cdv A outer s H E hr => (have hu := hr.1.roomy; ⟨_, (ass_one (as_if (at_not (at_val (ae_call g_p_is_a_clause ⟨hr.1.mono (by decide), hr.2⟩ (aa_cons (ae_var 0) (aa_cons (ae_var 1) aa_nil))))) ass_never ass_nil)), fun ds q h => ?_⟩)
  · unfold sp_p_need_clause at h
    split at h <;> first | rfl | exact h.elim
  · unfold sp_p_need_clause at h
    split at h
    rotate_left
    · exact h.elim
    obtain ⟨p, o, c, x, rfl, ok, rfl, xk, hq⟩ := h
    walk_at "OS"
    exact ⟨p, o, c, x, rfl, ok, rfl, xk, true, rfl, fun z => (by cases z), fun _ => hq⟩

theorem sc_p_are_truths : FnScope ["value", "many", "truth"] ["value", "many"] (defScope s_p_are_truths) := ⟨rfl, rfl, rfl, by decide +kernel, rfl, by decide +kernel, by decide +kernel⟩

def sp_p_are_truths : PSp := fun ds q => match ds with
  | [.tuple xs, .int n] => ∃ bs : List Bool, xs = bs.map .bool ∧ n = bs.length ∧ bs.length ≤ 64 ∧ q (.d (.bool true))
  | _ => False


theorem d_p_are_truths {f : Addr} {fd : FuncData} (F : Fun K "are_truths" "are_truths" s_p_are_truths f fd) (bd : Binds K fd ["value", "many"] []) (hmg : mg "are_truths" = some (.ref f)) (b_all : mg "all" = none) (b_len : mg "len" = none) (b_isinstance : mg "isinstance" = none) (b_tuple : mg "tuple" = none) (g_p_is_truth : FnP P w K mg base "is_truth" ["value"] 1 sp_p_is_truth) : FnP P w K mg base "are_truths" ["value", "many"] 2 sp_p_are_truths := by
  refine fnP F sc_p_are_truths (fun ds q h => ?_) bd hmg fun cdv A outer s H E hr => (have hu := hr.1.roomy; ⟨_, (ass_one (as_ret (ae_and (ae_isi isTy_tuple isTy_tuple.boot b_isinstance b_tuple (ae_var 0)) (ae_and (ae_eqD hu (ae_bi (bu_lenX b_len) ps_lenX (aa_cons (ae_var 0) aa_nil)) (ae_var 1)) (ae_one (ae_bi (bu_all rfl b_all) ps_all (aa_cons (AL.ae (al_lc (own := [("truth", 2)]) rfl sc_p_are_truths.nd (ai_seq (ae_var 0)) (fun _ => blkOk_by rfl) (ago_name 2 (by decide) sc_p_are_truths.nd) ats_nil (ae_call g_p_is_truth ⟨hr.1.mono (by decide), hr.2⟩ (aa_cons (ae_var 2) aa_nil)))) aa_nil))))))), fun ds q h => ?_⟩)
  · unfold sp_p_are_truths at h
    split at h <;> first | rfl | exact h.elim
  · unfold sp_p_are_truths at h
    split at h
    rotate_left
    · exact h.elim
    obtain ⟨bs, rfl, rfl, bl, hq⟩ := h
    walk_at "OS"
    refine ⟨fun _ => ⟨by rw [List.length_map]; omega, ex_xm (fun b => .bool true) (fun I i b acc hb hI => ?_) ⟨bs.map fun _ => true, by rw [List.map_map]; rfl, ?_⟩⟩, fun z => absurd (by rw [List.length_map]) z⟩
    · walk_at "OS"
      exact hI
    · rw [all_map]
      have e : bs.all (fun _ => true) = true := List.all_eq_true.mpr fun _ _ => rfl
      rw [e]
      exact hq

theorem sc_p_is_a_play : FnScope ["saying", "value"] ["saying", "value"] (defScope s_p_is_a_play) := ⟨rfl, rfl, rfl, by decide +kernel, rfl, by decide +kernel, by decide +kernel⟩

def sp_p_is_a_play : PSp := fun ds q => match ds with
  | [d, .tuple ps] => ∃ p o c, ∃ pl : List Bool, d = dSay p o c ∧ SayOk p o c ∧ ps = pl.map .bool ∧ pl.length = p.length ∧ q (.d (.bool true))
  | _ => False


theorem d_p_is_a_play {f : Addr} {fd : FuncData} (F : Fun K "is_a_play" "is_a_play" s_p_is_a_play f fd) (bd : Binds K fd ["saying", "value"] []) (hmg : mg "is_a_play" = some (.ref f)) (b_len : mg "len" = none) (g_p_are_truths : FnP P w K mg base "are_truths" ["value", "many"] 2 sp_p_are_truths) : FnP P w K mg base "is_a_play" ["saying", "value"] 3 sp_p_is_a_play := by
  refine fnP F sc_p_is_a_play (fun ds q h => ?_) bd hmg fun cdv A outer s H E hr => (have hu := hr.1.roomy; ⟨_, (ass_one (as_ret (ae_call g_p_are_truths ⟨hr.1.mono (by decide), hr.2⟩ (aa_cons (ae_var 1) (aa_cons (ae_bi (bu_lenX b_len) ps_lenX (aa_cons (ae_ixD hu (ae_var 0) ae_int) aa_nil)) aa_nil))))), fun ds q h => ?_⟩)
  · unfold sp_p_is_a_play at h
    split at h <;> first | rfl | exact h.elim
  · unfold sp_p_is_a_play at h
    split at h
    rotate_left
    · exact h.elim
    obtain ⟨p, o, c, pl, rfl, ok, rfl, pe, hq⟩ := h
    have p6 := ok.pl
    unfold dSay
    walk_at "OS"
    exact ⟨pl, rfl, by rw [List.length_map, pe], by omega, hq⟩

theorem sc_p_need_play : FnScope ["saying", "play"] ["saying", "play"] (defScope s_p_need_play) := ⟨rfl, rfl, rfl, by decide +kernel, rfl, by decide +kernel, by decide +kernel⟩

def sp_p_need_play : PSp := fun ds q => match ds with
  | [d, .tuple ps] => ∃ p o c, ∃ pl : List Bool, d = dSay p o c ∧ SayOk p o c ∧ ps = pl.map .bool ∧ pl.length = p.length ∧ q (.d .none)
  | _ => False


theorem d_p_need_play {f : Addr} {fd : FuncData} (F : Fun K "need_play" "need_play" s_p_need_play f fd) (bd : Binds K fd ["saying", "play"] []) (hmg : mg "need_play" = some (.ref f)) (g_p_is_a_play : FnP P w K mg base "is_a_play" ["saying", "value"] 3 sp_p_is_a_play) : FnP P w K mg base "need_play" ["saying", "play"] 4 sp_p_need_play := by
  refine fnP F sc_p_need_play (fun ds q h => ?_) bd hmg fun cdv A outer s H E hr => (have hu := hr.1.roomy; ⟨_, (ass_one (as_if (at_not (at_val (ae_call g_p_is_a_play ⟨hr.1.mono (by decide), hr.2⟩ (aa_cons (ae_var 0) (aa_cons (ae_var 1) aa_nil))))) ass_never ass_nil)), fun ds q h => ?_⟩)
  · unfold sp_p_need_play at h
    split at h <;> first | rfl | exact h.elim
  · unfold sp_p_need_play at h
    split at h
    rotate_left
    · exact h.elim
    obtain ⟨p, o, c, pl, rfl, ok, rfl, pe, hq⟩ := h
    walk_at "OS"
    refine ⟨p, o, c, pl, rfl, ok, rfl, pe, ?_⟩
    walk_at "OS"
    exact hq

theorem sc_p_marked_by : FnScope ["clause", "picks", "sees", "found", "name", "truth"] ["clause", "picks", "sees"] (defScope s_p_marked_by) := ⟨rfl, rfl, rfl, by decide +kernel, rfl, by decide +kernel, by decide +kernel⟩

def sp_p_marked_by : PSp := fun ds q => match ds with
  | [e, .dict k1, .dict k2] => ∃ p o c x, ∃ pl : List Bool, SayOk p o c ∧ e = dC x ∧ ClsOk p o x ∧ k1 = (p.zip pl).map kB ∧ k2 = o.map (sP p pl) ∧ pl.length = p.length ∧ q (.d (mkD (mkL p o pl x)))
  | _ => False


theorem d_p_marked_by {f : Addr} {fd : FuncData} (F : Fun K "marked_by" "marked_by" s_p_marked_by f fd) (bd : Binds K fd ["clause", "picks", "sees"] []) (hmg : mg "marked_by" = some (.ref f)) (b_tuple : mg "tuple" = none) (b_sorted : mg "sorted" = none) : FnP P w K mg base "marked_by" ["clause", "picks", "sees"] 1 sp_p_marked_by := by
  refine fnP F sc_p_marked_by (fun ds q h => ?_) bd hmg fun cdv A outer s H E hr => (have hu := hr.1.roomy; ⟨_, (ass_cons (as_setM 3 sc_p_marked_by.nd (al_lst aa_nil)) (ass_cons (as_for (fun _ => PassesOwn.never) rfl (ai_seq (ae_var 0)) (ag_tup (n := 2) rfl (ags_cons (ag_name 4 sc_p_marked_by.nd) (ags_cons (ag_name 5 sc_p_marked_by.nd) ags_nil))) (ass_one (as_if (at_inD hu (ae_var 4) (ae_var 2)) (ass_one (as_expr (ae_append 3 (ae_tup (aa_cons (ae_var 4) (aa_cons (ae_ixD hu (ae_var 2) (ae_var 4)) (aa_cons (ae_var 5) aa_nil))))))) (ass_one (as_if (at_eqD hu (ae_ixD hu (ae_var 1) (ae_var 4)) (ae_var 5)) (ass_one (as_ret ae_non)) ass_nil))))) (ass_one (as_ret (ae_bi (bu_tuple b_tuple) ps_tuple (aa_cons (AL.ae (al_biB (bu_sortX rfl hu b_sorted) ps_sortX (aa_var 3 aa_nil))) aa_nil)))))), fun ds q h => ?_⟩)
  · unfold sp_p_marked_by at h
    split at h <;> first | rfl | exact h.elim
  · unfold sp_p_marked_by at h
    split at h
    rotate_left
    · exact h.elim
    obtain ⟨p, o, c, x, pl, ok, rfl, xk, rfl, rfl, pe, hq⟩ := h
    have xl := xk.2.2
    have pn := strs_nodup ok.pa
    have nz : ((p.zip pl).map (·.1)).Nodup := by rw [zip_fst pe]; exact pn
    unfold dC
    walk_at "OS"
    refine ⟨by decide, ex_fx (fun i ρ => ∃ y4 y5, ρ = [AV.d (PyData.tuple (List.map dL x)), AV.d (PyData.dict (List.map kB (p.zip pl))), AV.d (PyData.dict (List.map (sP p pl) o)), .ml ((mkF p o pl (x.take i)).map dMk), y4, y5] ∧ ∀ l ∈ x.take i, pkSo p o pl l = false) ⟨_, _, rfl, fun _ h => (by cases h)⟩ (fun I hI i l ρ2 hx xm tk ⟨y4, y5, e, hn⟩ => ?_) fun ρ2 ⟨y4, y5, e, hn⟩ => ?_⟩
    · subst e
      have lm := (xk.1 l xm).2
      have fl : (mkF p o pl (x.take i)).length ≤ 14 := by
        unfold mkF
        rw [List.length_map]
        exact Nat.le_trans (List.length_filter_le ..) (Nat.le_trans (List.length_take_le' ..) xl)
      unfold dL
      walk_at "OS"
      rw [some_sP]
      refine ⟨fit_sP p pl o l.1, fun z => ?_, fun z => ?_⟩
      · refine ⟨_, get_sP (own_nodup ok.oa) z, fit_sP p pl o l.1, by decide, by rw [List.length_map]; omega, hI _ _ ⟨.d (.str l.1), .d (.bool l.2), ?_, fun l' h' => ?_⟩⟩
        · rw [mkF_step tk, z, if_pos rfl, List.map_append]
          rfl
        · rw [tk] at h'
          rcases List.mem_append.mp h' with h' | h'
          · exact hn _ h'
          · cases List.mem_singleton.mp h'
            unfold pkSo
            rw [z]
            rfl
      · have lp := not_own lm z
        refine ix_tv nz (by rw [zip_fst pe]; exact lp) ?_
        walk_at "OS"
        refine ⟨fun e => ?_, fun e => hI _ _ ⟨.d (.str l.1), .d (.bool l.2), ?_, fun l' h' => ?_⟩⟩
        · rw [mkL_none xm (by unfold pkSo; rw [z]; exact decide_eq_true e)] at hq
          exact hq
        · rw [mkF_step tk, z, if_neg Bool.false_ne_true, List.append_nil]
          rfl
        · rw [tk] at h'
          rcases List.mem_append.mp h' with h' | h'
          · exact hn _ h'
          · cases List.mem_singleton.mp h'
            unfold pkSo
            rw [z]
            exact decide_eq_false e
    · subst e
      rw [List.take_length] at hn
      rw [mkL_some hn] at hq
      have sm := srt_mk (mkF_asc (p := p) (o := o) (pl := pl) xk.2.1)
      rw [List.take_length]
      walk_at "OS"
      refine ⟨sm.1, fun ys hy => ?_⟩
      rw [sm.2 ys hy]
      exact ⟨lf_dMk _, hq⟩

theorem sc_p_seen_by : FnScope ["saying", "sight", "play", "truths", "pick", "truth"] ["saying", "sight", "play"] (defScope s_p_seen_by) := ⟨rfl, rfl, rfl, by decide +kernel, rfl, by decide +kernel, by decide +kernel⟩

def sp_p_seen_by : PSp := fun ds q => match ds with
  | [d, .tuple ss, .tuple ps] => ∃ p o c, ∃ s : List Str, ∃ pl : List Bool, d = dSay p o c ∧ ss = s.map .str ∧ ps = pl.map .bool ∧ p.length ≤ 6 ∧ pl.length = p.length ∧ p.Nodup ∧ (∀ x ∈ s, x ∈ p) ∧ s.length ≤ 6 ∧ q (.d (dB (s.map (lk p pl))))
  | _ => False


theorem d_p_seen_by {f : Addr} {fd : FuncData} (F : Fun K "seen_by" "seen_by" s_p_seen_by f fd) (bd : Binds K fd ["saying", "sight", "play"] []) (hmg : mg "seen_by" = some (.ref f)) (b_zip : mg "zip" = none) (b_tuple : mg "tuple" = none) : FnP P w K mg base "seen_by" ["saying", "sight", "play"] 1 sp_p_seen_by := by
  refine fnP F sc_p_seen_by (fun ds q h => ?_) bd hmg fun cdv A outer s H E hr => (have hu := hr.1.roomy; ⟨_, (ass_cons (as_set 3 sc_p_seen_by.nd (AD.ae (ad_dc hu (own := [("pick", 4), ("truth", 5)]) rfl sc_p_seen_by.nd (ai_zip2 (fun _ => rfl) b_zip (aa_cons (ae_ixD hu (ae_var 0) ae_int) (aa_cons (ae_var 2) aa_nil))) (fun _ => blkOk_by rfl) (ago_tup (n := 2) rfl (agos_cons (ago_name 4 (by decide) sc_p_seen_by.nd) (agos_cons (ago_name 5 (by decide) sc_p_seen_by.nd) agos_nil))) ats_nil (ae_var 4) (ae_var 5)))) (ass_one (as_ret (ae_bi (bu_tuple b_tuple) ps_tuple (aa_cons (AL.ae (al_lc (own := [("pick", 4)]) rfl sc_p_seen_by.nd (ai_seq (ae_var 1)) (fun _ => blkOk_by rfl) (ago_name 4 (by decide) sc_p_seen_by.nd) ats_nil (ae_ixD hu (ae_var 3) (ae_var 4)))) aa_nil))))), fun ds q h => ?_⟩)
  · unfold sp_p_seen_by at h
    split at h <;> first | rfl | exact h.elim
  · unfold sp_p_seen_by at h
    split at h
    rotate_left
    · exact h.elim
    obtain ⟨p, o, c, s, pl, rfl, rfl, rfl, p6, pe, nd, sp, s6, hq⟩ := h
    have nz : ((p.zip pl).map (·.1)).Nodup := by rw [zip_fst pe]; exact nd
    unfold dSay
    walk_at "OS"
    unfold aDc
    walk_at "OS"
    rw [zip_d]
    refine ⟨by rw [List.length_map, List.length_zip]; omega, ?_⟩
    refine ex_dc enc_str (fun y : Str × Bool => y.1) (fun y => .bool y.2) (fun _ => true) (by rw [filt_true]; exact nz) (fun I i x acc hx hf h1 h2 => ?_) ?_
    · unfold dL
      walk_at "OS"
      exact ⟨hf, h1 rfl⟩
    · rw [filt_true]
      walk_at "OS"
      refine ⟨by rw [List.length_map]; omega, ex_xm (fun x => .bool (lk p pl x)) (fun I i x acc hx hI => ?_) ?_⟩
      · walk_at "OS"
        refine ix_tv nz (by rw [zip_fst pe]; exact sp x hx) ?_
        walk_at "OS"
        exact hI
      · rw [show (fun x => PyData.bool (lk p pl x)) = PyData.bool ∘ lk p pl from rfl, ← List.map_map]
        exact hq

theorem sc_p_sees_at : FnScope ["saying", "play", "name", "sight"] ["saying", "play"] (defScope s_p_sees_at) := ⟨rfl, rfl, rfl, by decide +kernel, rfl, by decide +kernel, by decide +kernel⟩

def sp_p_sees_at : PSp := fun ds q => match ds with
  | [d, .tuple ps] => ∃ p o c, ∃ pl : List Bool, d = dSay p o c ∧ SayOk p o c ∧ ps = pl.map .bool ∧ pl.length = p.length ∧ q (.d (.dict (o.map (sP p pl))))
  | _ => False


theorem d_p_sees_at {f : Addr} {fd : FuncData} (F : Fun K "sees_at" "sees_at" s_p_sees_at f fd) (bd : Binds K fd ["saying", "play"] []) (hmg : mg "sees_at" = some (.ref f)) (g_p_seen_by : FnP P w K mg base "seen_by" ["saying", "sight", "play"] 1 sp_p_seen_by) : FnP P w K mg base "sees_at" ["saying", "play"] 2 sp_p_sees_at := by
  refine fnP F sc_p_sees_at (fun ds q h => ?_) bd hmg fun cdv A outer s H E hr => (have hu := hr.1.roomy; ⟨_, (ass_one (as_ret (AD.ae (ad_dc hu (own := [("name", 2), ("sight", 3)]) rfl sc_p_sees_at.nd (ai_seq (ae_ixD hu (ae_var 0) ae_int)) (fun _ => blkOk_by rfl) (ago_tup (n := 2) rfl (agos_cons (ago_name 2 (by decide) sc_p_sees_at.nd) (agos_cons (ago_name 3 (by decide) sc_p_sees_at.nd) agos_nil))) ats_nil (ae_var 2) (ae_call g_p_seen_by ⟨hr.1.mono (by decide), hr.2⟩ (aa_cons (ae_var 0) (aa_cons (ae_var 3) (aa_cons (ae_var 1) aa_nil)))))))), fun ds q h => ?_⟩)
  · unfold sp_p_sees_at at h
    split at h <;> first | rfl | exact h.elim
  · unfold sp_p_sees_at at h
    split at h
    rotate_left
    · exact h.elim
    obtain ⟨p, o, c, pl, rfl, ok, rfl, pe, hq⟩ := h
    have ol := ok.ol
    unfold dSay
    walk_at "OS"
    unfold aDc
    walk_at "OS"
    refine ⟨by rw [List.length_map]; omega, ex_dc enc_str (fun y : Str × List Str => y.1) (fun y => dB (y.2.map (lk p pl))) (fun _ => true) (by rw [filt_true]; exact own_nodup ok.oa) (fun I i x acc hx hf h1 h2 => ?_) (by rw [filt_true]; exact hq)⟩
    have xk := ok.oo x hx
    unfold dO
    walk_at "OS"
    refine ⟨p, o, c, x.2, pl, rfl, rfl, rfl, ok.pl, pe, strs_nodup ok.pa, fun y hy => (xk.2.2.1 y hy).2, xk.2.2.2.2, ?_⟩
    exact ⟨hf, h1 rfl⟩

theorem sc_p_marked_at : FnScope ["saying", "clause", "play", "pick", "truth"] ["saying", "clause", "play"] (defScope s_p_marked_at) := ⟨rfl, rfl, rfl, by decide +kernel, rfl, by decide +kernel, by decide +kernel⟩

def sp_p_marked_at : PSp := fun ds q => match ds with
  | [d, e, .tuple ps] => ∃ p o c x, ∃ pl : List Bool, d = dSay p o c ∧ SayOk p o c ∧ e = dC x ∧ ClsOk p o x ∧ ps = pl.map .bool ∧ pl.length = p.length ∧ q (.d (mkD (mkL p o pl x)))
  | _ => False


theorem d_p_marked_at {f : Addr} {fd : FuncData} (F : Fun K "marked_at" "marked_at" s_p_marked_at f fd) (bd : Binds K fd ["saying", "clause", "play"] []) (hmg : mg "marked_at" = some (.ref f)) (b_zip : mg "zip" = none) (g_p_marked_by : FnP P w K mg base "marked_by" ["clause", "picks", "sees"] 1 sp_p_marked_by) (g_p_sees_at : FnP P w K mg base "sees_at" ["saying", "play"] 2 sp_p_sees_at) : FnP P w K mg base "marked_at" ["saying", "clause", "play"] 3 sp_p_marked_at := by
  refine fnP F sc_p_marked_at (fun ds q h => ?_) bd hmg fun cdv A outer s H E hr => (have hu := hr.1.roomy; ⟨_, (ass_one (as_ret (ae_call g_p_marked_by ⟨hr.1.mono (by decide), hr.2⟩ (aa_cons (ae_var 1) (aa_cons (AD.ae (ad_dc hu (own := [("pick", 3), ("truth", 4)]) rfl sc_p_marked_at.nd (ai_zip2 (fun _ => rfl) b_zip (aa_cons (ae_ixD hu (ae_var 0) ae_int) (aa_cons (ae_var 2) aa_nil))) (fun _ => blkOk_by rfl) (ago_tup (n := 2) rfl (agos_cons (ago_name 3 (by decide) sc_p_marked_at.nd) (agos_cons (ago_name 4 (by decide) sc_p_marked_at.nd) agos_nil))) ats_nil (ae_var 3) (ae_var 4))) (aa_cons (ae_call g_p_sees_at ⟨hr.1.mono (by decide), hr.2⟩ (aa_cons (ae_var 0) (aa_cons (ae_var 2) aa_nil))) aa_nil)))))), fun ds q h => ?_⟩)
  · unfold sp_p_marked_at at h
    split at h <;> first | rfl | exact h.elim
  · unfold sp_p_marked_at at h
    split at h
    rotate_left
    · exact h.elim
    obtain ⟨p, o, c, x, pl, rfl, ok, rfl, xk, rfl, pe, hq⟩ := h
    have pn := strs_nodup ok.pa
    have p6 := ok.pl
    have nz : ((p.zip pl).map (·.1)).Nodup := by rw [zip_fst pe]; exact pn
    unfold dSay
    walk_at "OS"
    unfold aDc
    walk_at "OS"
    rw [zip_d]
    refine ⟨by rw [List.length_map, List.length_zip]; omega, ?_⟩
    refine ex_dc enc_str (fun y : Str × Bool => y.1) (fun y => .bool y.2) (fun _ => true) (by rw [filt_true]; exact nz) (fun I i x acc hx hf h1 h2 => ?_) ?_
    · unfold dL
      walk_at "OS"
      exact ⟨hf, h1 rfl⟩
    · rw [filt_true]
      walk_at "OS"
      exact ⟨p, o, c, pl, rfl, ok, rfl, pe, p, o, c, x, pl, ok, rfl, xk, rfl, rfl, pe, hq⟩

theorem sc_p_letters_at : FnScope ["saying", "clause", "play"] ["saying", "clause", "play"] (defScope s_p_letters_at) := ⟨rfl, rfl, rfl, by decide +kernel, rfl, by decide +kernel, by decide +kernel⟩

def sp_p_letters_at : PSp := fun ds q => match ds with
  | [d, e, .tuple ps] => ∃ p o c x, ∃ pl : List Bool, d = dSay p o c ∧ SayOk p o c ∧ e = dC x ∧ ClsOk p o x ∧ ps = pl.map .bool ∧ pl.length = p.length ∧ q (.d (mkD (mkL p o pl x)))
  | _ => False


theorem e_p_letters_at {f : Addr} {fd : FuncData} (F : Fun K "letters_at" "letters_at" s_p_letters_at f fd) (bd : Binds K fd ["saying", "clause", "play"] []) (hmg : mg "letters_at" = some (.ref f)) (g_p_need_saying : FnP P w K mg base "need_saying" ["saying"] 6 sp_p_need_saying) (g_p_need_clause : FnP P w K mg base "need_clause" ["saying", "clause"] 5 sp_p_need_clause) (g_p_need_play : FnP P w K mg base "need_play" ["saying", "play"] 4 sp_p_need_play) (g_p_marked_at : FnP P w K mg base "marked_at" ["saying", "clause", "play"] 3 sp_p_marked_at) : FnG P w K mg base 7 f fd ["saying", "clause", "play"] (cP ⟨K, w, P⟩ sp_p_letters_at) := by
  refine fnPG F sc_p_letters_at (fun ds q h => ?_) fun cdv A outer s H E hr => (have hu := hr.1.roomy; ⟨_, (ass_cons (as_expr (ae_call g_p_need_saying ⟨hr.1.mono (by decide), hr.2⟩ (aa_cons (ae_var 0) aa_nil))) (ass_cons (as_expr (ae_call g_p_need_clause ⟨hr.1.mono (by decide), hr.2⟩ (aa_cons (ae_var 0) (aa_cons (ae_var 1) aa_nil)))) (ass_cons (as_expr (ae_call g_p_need_play ⟨hr.1.mono (by decide), hr.2⟩ (aa_cons (ae_var 0) (aa_cons (ae_var 2) aa_nil)))) (ass_one (as_ret (ae_call g_p_marked_at ⟨hr.1.mono (by decide), hr.2⟩ (aa_cons (ae_var 0) (aa_cons (ae_var 1) (aa_cons (ae_var 2) aa_nil))))))))), fun ds q h => ?_⟩)
  · unfold sp_p_letters_at at h
    split at h <;> first | rfl | exact h.elim
  · unfold sp_p_letters_at at h
    split at h
    rotate_left
    · exact h.elim
    obtain ⟨p, o, c, x, pl, rfl, ok, rfl, xk, rfl, pe, hq⟩ := h
    walk_at "OS"
    exact ⟨p, o, c, rfl, ok, p, o, c, x, rfl, ok, rfl, xk, p, o, c, pl, rfl, ok, rfl, pe, p, o, c, x, pl, rfl, ok, rfl, xk, rfl, pe, hq⟩

theorem d_p_letters_at {f : Addr} {fd : FuncData} (F : Fun K "letters_at" "letters_at" s_p_letters_at f fd) (bd : Binds K fd ["saying", "clause", "play"] []) (hmg : mg "letters_at" = some (.ref f)) (g_p_need_saying : FnP P w K mg base "need_saying" ["saying"] 6 sp_p_need_saying) (g_p_need_clause : FnP P w K mg base "need_clause" ["saying", "clause"] 5 sp_p_need_clause) (g_p_need_play : FnP P w K mg base "need_play" ["saying", "play"] 4 sp_p_need_play) (g_p_marked_at : FnP P w K mg base "marked_at" ["saying", "clause", "play"] 3 sp_p_marked_at) : FnP P w K mg base "letters_at" ["saying", "clause", "play"] 7 sp_p_letters_at := ⟨f, fd, hmg, F.kp, bd, e_p_letters_at F bd hmg g_p_need_saying g_p_need_clause g_p_need_play g_p_marked_at⟩

theorem sc_p_sight_of : FnScope ["saying", "name", "own", "sight"] ["saying", "name"] (defScope s_p_sight_of) := ⟨rfl, rfl, rfl, by decide +kernel, rfl, by decide +kernel, by decide +kernel⟩

def sightD (o : List (Str × List Str)) (s : Str) : PyData := match o.find? (fun x => decide (x.1 = s)) with | some x => .tuple (x.2.map .str) | none => .none
def sp_p_sight_of : PSp := fun ds q => match ds with
  | [d, .str s] => ∃ p o c, d = dSay p o c ∧ SayOk p o c ∧ q (.d (sightD o s))
  | _ => False


theorem d_p_sight_of {f : Addr} {fd : FuncData} (F : Fun K "sight_of" "sight_of" s_p_sight_of f fd) (bd : Binds K fd ["saying", "name"] []) (hmg : mg "sight_of" = some (.ref f)) (b_isinstance : mg "isinstance" = none) (b_str : mg "str" = none) : FnP P w K mg base "sight_of" ["saying", "name"] 1 sp_p_sight_of := by
  refine fnP F sc_p_sight_of (fun ds q h => ?_) bd hmg fun cdv A outer s H E hr => (have hu := hr.1.roomy; ⟨_, (ass_cons (as_for (fun _ => PassesOwn.never) rfl (ai_seq (ae_ixD hu (ae_var 0) ae_int)) (ag_tup (n := 2) rfl (ags_cons (ag_name 2 sc_p_sight_of.nd) (ags_cons (ag_name 3 sc_p_sight_of.nd) ags_nil))) (ass_one (as_if (AWt.at (aw_and (at_isi isTy_str isTy_str.boot b_isinstance b_str (ae_var 1)) (aw_and1 (at_eqD hu (ae_var 2) (ae_var 1))))) (ass_one (as_ret (ae_var 3))) ass_nil))) (ass_one (as_ret ae_non))), fun ds q h => ?_⟩)
  · unfold sp_p_sight_of at h
    split at h <;> first | rfl | exact h.elim
  · unfold sp_p_sight_of at h
    split at h
    rotate_left
    · exact h.elim
    obtain ⟨p, o, c, rfl, ok, hq⟩ := h
    rename_i s
    unfold dSay
    walk_at "OS"
    refine ex_fx (fun i ρ => (∀ x ∈ o.take i, decide (x.1 = s) = false) ∧ ∃ a b, ρ = [AV.d (PyData.tuple [PyData.tuple (List.map PyData.str p), PyData.tuple (List.map dO o), PyData.tuple (List.map dC c)]), AV.d (.str s), a, b]) ⟨fun _ h => (by cases h), _, _, rfl⟩ (fun I hI i x ρ2 hx hm tk ⟨h1, a, b, e⟩ => ?_) fun ρ2 ⟨h1, _⟩ => ?_
    · subst e
      unfold dO
      walk_at "OS"
      refine ⟨fun z => ?_, fun z => hI _ _ ⟨fun y hy => ?_, _, _, rfl⟩⟩
      · have e : x.1 = s := by simpa using z
        have : sightD o s = .tuple (x.2.map .str) := by
          unfold sightD
          rw [find_take (p := fun x => decide (x.1 = s)) hx h1 (decide_eq_true e)]
        rw [this] at hq
        exact hq
      · rw [tk] at hy
        rcases List.mem_append.mp hy with hy | hy
        · exact h1 y hy
        · cases List.mem_singleton.mp hy
          simpa using z
    · have : sightD o s = .none := by
        unfold sightD
        rw [find_none h1]
      rw [this] at hq
      exact hq

theorem sc_p_need_own : FnScope ["saying", "name"] ["saying", "name"] (defScope s_p_need_own) := ⟨rfl, rfl, rfl, by decide +kernel, rfl, by decide +kernel, by decide +kernel⟩

def sp_p_need_own : PSp := fun ds q => match ds with
  | [d, .str s] => ∃ p o c, d = dSay p o c ∧ SayOk p o c ∧ s ∈ o.map (·.1) ∧ q (.d .none)
  | _ => False


theorem d_p_need_own {f : Addr} {fd : FuncData} (F : Fun K "need_own" "need_own" s_p_need_own f fd) (bd : Binds K fd ["saying", "name"] []) (hmg : mg "need_own" = some (.ref f)) (g_p_sight_of : FnP P w K mg base "sight_of" ["saying", "name"] 1 sp_p_sight_of) : FnP P w K mg base "need_own" ["saying", "name"] 2 sp_p_need_own := by
  refine fnP F sc_p_need_own (fun ds q h => ?_) bd hmg fun cdv A outer s H E hr => (have hu := hr.1.roomy; ⟨_, (ass_one (as_if (at_cmp sop_is.aop (fun _ => op_isN) (ae_call g_p_sight_of ⟨hr.1.mono (by decide), hr.2⟩ (aa_cons (ae_var 0) (aa_cons (ae_var 1) aa_nil))) ae_non (by first | exact nobehind _ (by decide) (by decide) | rfl)) ass_never ass_nil)), fun ds q h => ?_⟩)
  · unfold sp_p_need_own at h
    split at h <;> first | rfl | exact h.elim
  · unfold sp_p_need_own at h
    split at h
    rotate_left
    · exact h.elim
    obtain ⟨p, o, c, rfl, ok, hs, hq⟩ := h
    rename_i s
    walk_at "OS"
    have e : noneD (sightD o s) = false := by
      obtain ⟨x, hx, rfl⟩ := List.mem_map.mp hs
      unfold sightD
      cases e : o.find? (fun y => decide (y.1 = x.1)) with
      | none => exact absurd (decide_eq_true rfl) (List.find?_eq_none.mp e x hx)
      | some y => rfl
    exact ⟨p, o, c, rfl, ok, fun z => (by rw [show noneD (Rs.d (sightD o s)).dat = false from e] at z; cases z), fun _ => hq⟩

theorem sc_p_seen : FnScope ["saying", "name", "play"] ["saying", "name", "play"] (defScope s_p_seen) := ⟨rfl, rfl, rfl, by decide +kernel, rfl, by decide +kernel, by decide +kernel⟩

theorem sightD_of {o : List (Str × List Str)} {s : Str} {t : List Str} (nd : (o.map (·.1)).Nodup) (h : (s, t) ∈ o) : sightD o s = .tuple (t.map .str) := by
  unfold sightD
  induction o with
  | nil => cases h
  | cons a r ih =>
    rw [List.map_cons, List.nodup_cons] at nd
    rw [List.find?_cons]
    by_cases e : a.1 = s
    · rw [decide_eq_true e]
      rcases List.mem_cons.mp h with rfl | h
      · rfl
      · exact absurd (e ▸ List.mem_map_of_mem (f := (·.1)) h) nd.1
    · rw [decide_eq_false e]
      rcases List.mem_cons.mp h with rfl | h
      · exact absurd rfl e
      · exact ih nd.2 h
def sp_p_seen : PSp := fun ds q => match ds with
  | [d, .str s, .tuple ps] => ∃ p o c, ∃ t : List Str, ∃ pl : List Bool, d = dSay p o c ∧ SayOk p o c ∧ (s, t) ∈ o ∧ ps = pl.map .bool ∧ pl.length = p.length ∧ q (.d (dB (t.map (lk p pl))))
  | _ => False


theorem e_p_seen {f : Addr} {fd : FuncData} (F : Fun K "seen" "seen" s_p_seen f fd) (bd : Binds K fd ["saying", "name", "play"] []) (hmg : mg "seen" = some (.ref f)) (g_p_need_saying : FnP P w K mg base "need_saying" ["saying"] 6 sp_p_need_saying) (g_p_need_own : FnP P w K mg base "need_own" ["saying", "name"] 2 sp_p_need_own) (g_p_need_play : FnP P w K mg base "need_play" ["saying", "play"] 4 sp_p_need_play) (g_p_seen_by : FnP P w K mg base "seen_by" ["saying", "sight", "play"] 1 sp_p_seen_by) (g_p_sight_of : FnP P w K mg base "sight_of" ["saying", "name"] 1 sp_p_sight_of) : FnG P w K mg base 7 f fd ["saying", "name", "play"] (cP ⟨K, w, P⟩ sp_p_seen) := by
  refine fnPG F sc_p_seen (fun ds q h => ?_) fun cdv A outer s H E hr => (have hu := hr.1.roomy; ⟨_, (ass_cons (as_expr (ae_call g_p_need_saying ⟨hr.1.mono (by decide), hr.2⟩ (aa_cons (ae_var 0) aa_nil))) (ass_cons (as_expr (ae_call g_p_need_own ⟨hr.1.mono (by decide), hr.2⟩ (aa_cons (ae_var 0) (aa_cons (ae_var 1) aa_nil)))) (ass_cons (as_expr (ae_call g_p_need_play ⟨hr.1.mono (by decide), hr.2⟩ (aa_cons (ae_var 0) (aa_cons (ae_var 2) aa_nil)))) (ass_one (as_ret (ae_call g_p_seen_by ⟨hr.1.mono (by decide), hr.2⟩ (aa_cons (ae_var 0) (aa_cons (ae_call g_p_sight_of ⟨hr.1.mono (by decide), hr.2⟩ (aa_cons (ae_var 0) (aa_cons (ae_var 1) aa_nil))) (aa_cons (ae_var 2) aa_nil))))))))), fun ds q h => ?_⟩)
  · unfold sp_p_seen at h
    split at h <;> first | rfl | exact h.elim
  · unfold sp_p_seen at h
    split at h
    rotate_left
    · exact h.elim
    rename_i s _
    obtain ⟨p, o, c, t, pl, rfl, ok, ht, rfl, pe, hq⟩ := h
    walk_at "OS"
    have xk := ok.oo _ ht
    refine ⟨p, o, c, rfl, ok, p, o, c, rfl, ok, List.mem_map_of_mem (f := (·.1)) ht, p, o, c, pl, rfl, ok, rfl, pe, p, o, c, rfl, ok, ?_⟩
    show sp_p_seen_by [dSay p o c, sightD o s, _] _
    rw [sightD_of (own_nodup ok.oa) ht]
    exact ⟨p, o, c, t, pl, rfl, rfl, rfl, ok.pl, pe, strs_nodup ok.pa, fun x hx => (xk.2.2.1 x hx).2, xk.2.2.2.2, hq⟩

theorem d_p_seen {f : Addr} {fd : FuncData} (F : Fun K "seen" "seen" s_p_seen f fd) (bd : Binds K fd ["saying", "name", "play"] []) (hmg : mg "seen" = some (.ref f)) (g_p_need_saying : FnP P w K mg base "need_saying" ["saying"] 6 sp_p_need_saying) (g_p_need_own : FnP P w K mg base "need_own" ["saying", "name"] 2 sp_p_need_own) (g_p_need_play : FnP P w K mg base "need_play" ["saying", "play"] 4 sp_p_need_play) (g_p_seen_by : FnP P w K mg base "seen_by" ["saying", "sight", "play"] 1 sp_p_seen_by) (g_p_sight_of : FnP P w K mg base "sight_of" ["saying", "name"] 1 sp_p_sight_of) : FnP P w K mg base "seen" ["saying", "name", "play"] 7 sp_p_seen := ⟨f, fd, hmg, F.kp, bd, e_p_seen F bd hmg g_p_need_saying g_p_need_own g_p_need_play g_p_seen_by g_p_sight_of⟩

theorem sc_l_right : FnScope ["source", "saying", "turn", "every", "words", "play", "clause", "due", "told", "word", "sight"] ["source", "saying"] (defScope s_l_right) := ⟨rfl, rfl, rfl, by decide +kernel, rfl, by decide +kernel, by decide +kernel⟩

def sp_l_right : TSp := fun n ds q => match ds with
  | [d] => ∃ p o c, d = dSay p o c ∧ SayOk p o c ∧ n ≤ 600000 ∧ ∀ m, m ≤ n + 2000 → q m (.d (.bool true))
  | _ => False


theorem d_l_right {f : Addr} {fd : FuncData} (F : Fun K "_law_right" "_law_right" s_l_right f fd) (bd : Binds K fd ["source", "saying"] []) (hmg : mg "_law_right" = some (.ref f)) (b_list : mg "list" = none) (b_len : mg "len" = none) (b_range : mg "range" = none) (g_l_lists_right : FnP P w K mg base "_law_lists_right" ["saying"] 8 sp_l_lists_right) (g_l_plays : FnP P w K mg base "_law_plays" ["size"] 1 sp_l_plays) (g_l_pick : FnT P w K mg base "_law_pick" ["source", "top"] 1 sp_l_pick) (g_l_clause : FnT P w K mg base "_law_clause" ["source", "words"] 2 sp_l_clause) (g_l_letters : FnP P w K mg base "_law_letters" ["saying", "clause", "play"] 2 sp_l_letters) (g_p_letters_at : FnP P w K mg base "letters_at" ["saying", "clause", "play"] 7 sp_p_letters_at) (g_l_same : FnP P w K mg base "_law_same" ["found", "due"] 7 sp_l_same) (g_l_sees : FnP P w K mg base "_law_sees" ["saying", "sight", "play"] 1 sp_l_sees) (g_p_seen : FnP P w K mg base "seen" ["saying", "name", "play"] 7 sp_p_seen) (k_p_letters_at_210 : FnKw P w K mg base "letters_at" ["saying", "clause", "play"] ["play", "clause", "saying"] 0 [2, 1, 0] 7 sp_p_letters_at) (k_p_seen_210 : FnKw P w K mg base "seen" ["saying", "name", "play"] ["play", "name", "saying"] 0 [2, 1, 0] 7 sp_p_seen) : FnT P w K mg base "_law_right" ["source", "saying"] 9 sp_l_right := by
  refine fnT F sc_l_right (fun n ds q h => ?_) bd hmg fun cdv A outer s H E hr => (have hu := hr.1.roomy; ⟨_, (ass_cons (as_if (at_not (at_val (ae_call g_l_lists_right ⟨hr.1.mono (by decide), hr.2⟩ (aa_cons (ae_var 1) aa_nil)))) (ass_one (as_ret ae_bl)) ass_nil) (ass_cons (as_par 3 4 rfl sc_l_right.nd (ah_d (ae_call g_l_plays ⟨hr.1.mono (by decide), hr.2⟩ (aa_cons (ae_bi (bu_lenX b_len) ps_lenX (aa_cons (ae_ixD hu (ae_var 1) ae_int) aa_nil)) aa_nil)) (ah_d (ae_add (ae_bi (bu_listX rfl b_list) ps_listX (aa_cons (ae_ixD hu (ae_var 1) ae_int) aa_nil)) (AL.ae (al_lc (own := [("word", 9), ("sight", 10)]) rfl sc_l_right.nd (ai_seq (ae_ixD hu (ae_var 1) ae_int)) (fun _ => blkOk_by rfl) (ago_tup (n := 2) rfl (agos_cons (ago_name 9 (by decide) sc_l_right.nd) (agos_cons (ago_name 10 (by decide) sc_l_right.nd) agos_nil))) ats_nil (ae_var 9)))) ah_nil))) (ass_cons (as_for (fun _ => PassesOwn.never) rfl (ai_rng1 (fun _ => rfl) b_range (aa_cons ae_int aa_nil)) (ag_name 2 sc_l_right.nd) (ass_cons (as_set 5 sc_l_right.nd (ae_ixD hu (ae_var 3) (ae_callT g_l_pick ⟨hr.1.mono (by decide), hr.2⟩ (aa_slot 0 (aa_cons (ae_bi (bu_lenX b_len) ps_lenX (aa_cons (ae_var 3) aa_nil)) aa_nil))))) (ass_cons (as_set 6 sc_l_right.nd (ae_if (at_gt (ae_var 2) ae_int) (ae_callT g_l_clause ⟨hr.1.mono (by decide), hr.2⟩ (aa_slot 0 (aa_cons (ae_var 4) aa_nil))) (ae_tup aa_nil))) (ass_cons (as_if (AWt.at (aw_and (at_inD hu (ae_var 2) (ae_tup (aa_cons ae_int (aa_cons ae_int aa_nil)))) (aw_and1 (at_neD hu (ae_ixD hu (ae_var 1) ae_int) (ae_tup aa_nil))))) (ass_one (as_set 6 sc_l_right.nd (ae_tup (aa_cons (ae_tup (aa_cons (ae_ixD hu (ae_ixD hu (ae_var 1) ae_int) (ae_callT g_l_pick ⟨hr.1.mono (by decide), hr.2⟩ (aa_slot 0 (aa_cons (ae_bi (bu_lenX b_len) ps_lenX (aa_cons (ae_ixD hu (ae_var 1) ae_int) aa_nil)) aa_nil)))) (aa_cons (ae_eqD hu (ae_var 2) ae_int) aa_nil))) aa_nil)))) (ass_one (as_if (AWt.at (aw_and (at_gt (ae_var 2) ae_int) (aw_and (at_neD hu (ae_ixD hu (ae_var 1) ae_int) (ae_tup aa_nil)) (aw_and1 (at_gt (ae_callT g_l_pick ⟨hr.1.mono (by decide), hr.2⟩ (aa_slot 0 (aa_cons ae_int aa_nil))) ae_int))))) (ass_one (as_set 6 sc_l_right.nd (ae_ixD hu (ae_ixD hu (ae_var 1) ae_int) (ae_callT g_l_pick ⟨hr.1.mono (by decide), hr.2⟩ (aa_slot 0 (aa_cons (ae_bi (bu_lenX b_len) ps_lenX (aa_cons (ae_ixD hu (ae_var 1) ae_int) aa_nil)) aa_nil)))))) ass_nil))) (ass_cons (as_set 7 sc_l_right.nd (ae_call g_l_letters ⟨hr.1.mono (by decide), hr.2⟩ (aa_cons (ae_var 1) (aa_cons (ae_var 6) (aa_cons (ae_var 5) aa_nil))))) (ass_cons (as_set 8 sc_l_right.nd (AL.ae (al_lst (aa_cons (ae_call g_p_letters_at ⟨hr.1.mono (by decide), hr.2⟩ (aa_cons (ae_var 1) (aa_cons (ae_var 6) (aa_cons (ae_var 5) aa_nil)))) (aa_cons (ae_kw0 k_p_letters_at_210 ⟨hr.1.mono (by decide), hr.2⟩ (ak_cons (ae_var 5) (ak_cons (ae_var 6) (ak_cons (ae_var 1) ak_nil)))) aa_nil))))) (ass_cons (as_if (at_not (at_val (ae_call g_l_same ⟨hr.1.mono (by decide), hr.2⟩ (aa_cons (ae_var 8) (aa_cons (AL.ae (al_lst (aa_cons (ae_var 7) (aa_cons (ae_var 7) aa_nil)))) aa_nil))))) (ass_one (as_ret ae_bl)) ass_nil) (ass_one (as_for (fun _ => PassesOwn.never) rfl (ai_seq (ae_ixD hu (ae_var 1) ae_int)) (ag_tup (n := 2) rfl (ags_cons (ag_name 9 sc_l_right.nd) (ags_cons (ag_name 10 sc_l_right.nd) ags_nil))) (ass_cons (as_set 7 sc_l_right.nd (ae_call g_l_sees ⟨hr.1.mono (by decide), hr.2⟩ (aa_cons (ae_var 1) (aa_cons (ae_var 10) (aa_cons (ae_var 5) aa_nil))))) (ass_one (as_if (at_not (at_val (ae_call g_l_same ⟨hr.1.mono (by decide), hr.2⟩ (aa_cons (AL.ae (al_lst (aa_cons (ae_call g_p_seen ⟨hr.1.mono (by decide), hr.2⟩ (aa_cons (ae_var 1) (aa_cons (ae_var 9) (aa_cons (ae_var 5) aa_nil)))) (aa_cons (ae_kw0 k_p_seen_210 ⟨hr.1.mono (by decide), hr.2⟩ (ak_cons (ae_var 5) (ak_cons (ae_var 9) (ak_cons (ae_var 1) ak_nil)))) aa_nil)))) (aa_cons (AL.ae (al_lst (aa_cons (ae_var 7) (aa_cons (ae_var 7) aa_nil)))) aa_nil))))) (ass_one (as_ret ae_bl)) ass_nil)))))))))))) (ass_one (as_ret ae_bl))))), fun n ds q h => ?_⟩)
  · unfold sp_l_right at h
    split at h <;> first | rfl | exact h.elim
  · unfold sp_l_right at h
    split at h
    rotate_left
    · exact h.elim
    obtain ⟨p, o, c, rfl, ok, hn, hq⟩ := h
    have p6 := ok.pl
    have ol := ok.ol
    have ss := say_names ok
    unfold dSay
    walk_at "OS"
    refine ⟨p, o, c, rfl, ok, true, rfl, fun z => (by cases z), fun _ => ⟨p.length, by rw [List.length_map], p6, ?_⟩⟩
    walk_at "OS"
    refine ⟨by rw [List.length_map]; omega, ex_xm (fun y => .str y.1) (fun I j y acc hy hI => ?_) ?_⟩
    · unfold dO
      walk_at "OS"
      exact hI
    walk_at "OS"
    refine ⟨by rw [List.length_map, List.length_map]; omega, ?_⟩
    have ew : p.map PyData.str ++ o.map (fun y => PyData.str y.1) = (p ++ o.map (·.1)).map .str := by rw [List.map_append, List.map_map]; rfl
    rw [ew]
    refine ex_f (fun i ρ => ∃ m y2 y5 y6 y7 y8 y9 y10, ρ = [AV.tank m, AV.d (PyData.tuple [PyData.tuple (List.map PyData.str p), PyData.tuple (List.map dO o), PyData.tuple (List.map dC c)]), y2, .d (.list ((PL p.length).map dB)), .d (.list ((p ++ o.map (·.1)).map .str)), y5, y6, y7, y8, y9, y10] ∧ m ≤ n + 60 * i) ⟨n, _, _, _, _, _, _, _, rfl, by omega⟩ (fun I hI i d ρ2 hd ⟨m, y2, y5, y6, y7, y8, y9, y10, e, le⟩ => ?_) fun ρ2 ⟨m, y2, y5, y6, y7, y8, y9, y10, e, le⟩ => ?_
    · obtain ⟨rfl, hi⟩ := rng_get hd
      subst e
      have pw : 0 < (PL p.length).length := by rw [pl_len]; exact Nat.pow_pos (by decide)
      have p64 : (PL p.length).length ≤ 64 := by rw [pl_len]; exact Nat.le_trans (Nat.pow_le_pow_right (by decide) p6) (by decide)
      walk_at "OS"
      refine ⟨by rw [List.length_map]; omega, by rw [List.length_map]; omega, by omega, fun z z0 z1 => ?_⟩
      obtain ⟨d, hd, ed⟩ := atI_z (xs := (PL p.length).map dB) z0 z1
      obtain ⟨pl, plm, rfl⟩ := List.mem_map.mp hd
      have pe := pl_mem plm
      walk_at "OS"
      refine ⟨_, ed, fun h0 => ?_, fun h0 => ?_⟩
      · refine ⟨_, rfl, ss, by rw [List.length_append, List.length_map]; omega, say_nm ok, by omega, fun m1 x0 l1 ck => ?_⟩
        have xk : ClsOk p o x0 := clsok_of ok ck
        walk_at "OS"
        refine ⟨by decide, rfl, by decide, fun h1 => ⟨by decide, shaped_strsT ok.pn, by decide, fun hp => ⟨by have := ne_tup hp; omega, by rw [List.length_map]; omega, by omega, fun w w0 w1 => ?_⟩, fun _ => ?_⟩, fun h1 => ?_⟩
        · obtain ⟨d, hd, ed'⟩ := atI_z (xs := p.map .str) w0 w1
          obtain ⟨s, sm, rfl⟩ := List.mem_map.mp hd
          have xk1 : ClsOk p o [(s, decide (0 + (i : Int) = 1))] := ⟨fun y hy => (by cases List.mem_singleton.mp hy; exact ⟨ok.pn s sm, List.mem_append_left _ sm⟩), asc_strs (xs := [s]) (List.pairwise_singleton ..), (show 1 ≤ 14 by decide)⟩
          walk_at "OS"
          refine ⟨_, ed', by decide, by decide, ?_⟩
          refine ⟨p, o, c, [(s, decide (0 + (i : Int) = 1))], pl, rfl, ok, rfl, xk1, rfl, pe, p, o, c, [(s, decide (0 + (i : Int) = 1))], pl, rfl, ok, rfl, xk1, rfl, pe, p, o, c, [(s, decide (0 + (i : Int) = 1))], pl, rfl, ok, rfl, xk1, rfl, pe, by decide, by decide, rfl, pl_two (pl_mkD ok pl (xk1).2.2) (pl_mkD ok pl (xk1).2.2), true, rfl, fun z => (by cases z), fun _ => ex_fx (fun j ρ => ∃ z7 z8 z9 z10, ρ = [AV.tank (m1 + 1), AV.d (PyData.tuple [PyData.tuple (List.map PyData.str p), PyData.tuple (List.map dO o), PyData.tuple (List.map dC c)]), .d (.int (0 + (i : Int))), .d (.list ((PL p.length).map dB)), .d (.list ((p ++ o.map (·.1)).map .str)), .d (dB pl), .d (dC ([(s, decide (0 + (i : Int) = 1))])), z7, z8, z9, z10]) ⟨_, _, _, _, rfl⟩ (fun I2 hI2 j y ρ3 hy ym tk ⟨z7, z8, z9, z10, e⟩ => ?_) fun ρ3 ⟨z7, z8, z9, z10, e⟩ => ?_⟩
          · subst e
            have yk := ok.oo y ym
            unfold dO
            walk_at "OS"
            refine ⟨p, o, c, y.2, pl, rfl, rfl, rfl, p6, pe, ok.pa, yk.2.2.2.1, fun x hx => (yk.2.2.1 x hx).2, p, o, c, y.2, pl, rfl, ok, ym, rfl, pe, p, o, c, y.2, pl, rfl, ok, ym, rfl, pe, by decide, by decide, rfl, pl_two (pl_dB (by rw [List.length_map]; omega)) (pl_dB (by rw [List.length_map]; omega)), true, rfl, fun z => (by cases z), fun _ => hI2 _ _ ⟨_, _, _, _, rfl⟩⟩
          · subst e
            exact hI _ _ ⟨m1 + 1, _, _, _, _, _, _, _, rfl, by omega⟩
        · skip
          refine ⟨fun h2 => ⟨by decide, shaped_dCs ok, by decide, fun hc => ⟨by decide, by decide, by omega, fun w w0 w1 => ?_⟩, fun _ => ?_⟩, fun _ => ?_⟩
          · walk_at "OS"
            refine ⟨fun _ => ⟨by have := ne_tup hc; omega, by have := ok.cl; rw [List.length_map]; omega, by omega, fun u u0 u1 => ?_⟩, fun _ => ?_⟩
            · obtain ⟨d, hd, ed'⟩ := atI_z (xs := c.map dC) u0 u1
              obtain ⟨x, xm, rfl⟩ := List.mem_map.mp hd
              walk_at "OS"
              refine ⟨_, ed', ?_⟩
              refine ⟨p, o, c, x, pl, rfl, ok, rfl, ok.cc x xm, rfl, pe, p, o, c, x, pl, rfl, ok, rfl, ok.cc x xm, rfl, pe, p, o, c, x, pl, rfl, ok, rfl, ok.cc x xm, rfl, pe, by decide, by decide, rfl, pl_two (pl_mkD ok pl (ok.cc x xm).2.2) (pl_mkD ok pl (ok.cc x xm).2.2), true, rfl, fun z => (by cases z), fun _ => ex_fx (fun j ρ => ∃ z7 z8 z9 z10, ρ = [AV.tank (m1 + 1 + 1), AV.d (PyData.tuple [PyData.tuple (List.map PyData.str p), PyData.tuple (List.map dO o), PyData.tuple (List.map dC c)]), .d (.int (0 + (i : Int))), .d (.list ((PL p.length).map dB)), .d (.list ((p ++ o.map (·.1)).map .str)), .d (dB pl), .d (dC (x)), z7, z8, z9, z10]) ⟨_, _, _, _, rfl⟩ (fun I2 hI2 j y ρ3 hy ym tk ⟨z7, z8, z9, z10, e⟩ => ?_) fun ρ3 ⟨z7, z8, z9, z10, e⟩ => ?_⟩
              · subst e
                have yk := ok.oo y ym
                unfold dO
                walk_at "OS"
                refine ⟨p, o, c, y.2, pl, rfl, rfl, rfl, p6, pe, ok.pa, yk.2.2.2.1, fun x hx => (yk.2.2.1 x hx).2, p, o, c, y.2, pl, rfl, ok, ym, rfl, pe, p, o, c, y.2, pl, rfl, ok, ym, rfl, pe, by decide, by decide, rfl, pl_two (pl_dB (by rw [List.length_map]; omega)) (pl_dB (by rw [List.length_map]; omega)), true, rfl, fun z => (by cases z), fun _ => hI2 _ _ ⟨_, _, _, _, rfl⟩⟩
              · subst e
                exact hI _ _ ⟨m1 + 1 + 1, _, _, _, _, _, _, _, rfl, by omega⟩
            · skip
              refine ⟨p, o, c, x0, pl, rfl, ok, rfl, xk, rfl, pe, p, o, c, x0, pl, rfl, ok, rfl, xk, rfl, pe, p, o, c, x0, pl, rfl, ok, rfl, xk, rfl, pe, by decide, by decide, rfl, pl_two (pl_mkD ok pl (xk).2.2) (pl_mkD ok pl (xk).2.2), true, rfl, fun z => (by cases z), fun _ => ex_fx (fun j ρ => ∃ z7 z8 z9 z10, ρ = [AV.tank (m1 + 1), AV.d (PyData.tuple [PyData.tuple (List.map PyData.str p), PyData.tuple (List.map dO o), PyData.tuple (List.map dC c)]), .d (.int (0 + (i : Int))), .d (.list ((PL p.length).map dB)), .d (.list ((p ++ o.map (·.1)).map .str)), .d (dB pl), .d (dC (x0)), z7, z8, z9, z10]) ⟨_, _, _, _, rfl⟩ (fun I2 hI2 j y ρ3 hy ym tk ⟨z7, z8, z9, z10, e⟩ => ?_) fun ρ3 ⟨z7, z8, z9, z10, e⟩ => ?_⟩
              · subst e
                have yk := ok.oo y ym
                unfold dO
                walk_at "OS"
                refine ⟨p, o, c, y.2, pl, rfl, rfl, rfl, p6, pe, ok.pa, yk.2.2.2.1, fun x hx => (yk.2.2.1 x hx).2, p, o, c, y.2, pl, rfl, ok, ym, rfl, pe, p, o, c, y.2, pl, rfl, ok, ym, rfl, pe, by decide, by decide, rfl, pl_two (pl_dB (by rw [List.length_map]; omega)) (pl_dB (by rw [List.length_map]; omega)), true, rfl, fun z => (by cases z), fun _ => hI2 _ _ ⟨_, _, _, _, rfl⟩⟩
              · subst e
                exact hI _ _ ⟨m1 + 1, _, _, _, _, _, _, _, rfl, by omega⟩
          · skip
            refine ⟨p, o, c, x0, pl, rfl, ok, rfl, xk, rfl, pe, p, o, c, x0, pl, rfl, ok, rfl, xk, rfl, pe, p, o, c, x0, pl, rfl, ok, rfl, xk, rfl, pe, by decide, by decide, rfl, pl_two (pl_mkD ok pl (xk).2.2) (pl_mkD ok pl (xk).2.2), true, rfl, fun z => (by cases z), fun _ => ex_fx (fun j ρ => ∃ z7 z8 z9 z10, ρ = [AV.tank (m1), AV.d (PyData.tuple [PyData.tuple (List.map PyData.str p), PyData.tuple (List.map dO o), PyData.tuple (List.map dC c)]), .d (.int (0 + (i : Int))), .d (.list ((PL p.length).map dB)), .d (.list ((p ++ o.map (·.1)).map .str)), .d (dB pl), .d (dC (x0)), z7, z8, z9, z10]) ⟨_, _, _, _, rfl⟩ (fun I2 hI2 j y ρ3 hy ym tk ⟨z7, z8, z9, z10, e⟩ => ?_) fun ρ3 ⟨z7, z8, z9, z10, e⟩ => ?_⟩
            · subst e
              have yk := ok.oo y ym
              unfold dO
              walk_at "OS"
              refine ⟨p, o, c, y.2, pl, rfl, rfl, rfl, p6, pe, ok.pa, yk.2.2.2.1, fun x hx => (yk.2.2.1 x hx).2, p, o, c, y.2, pl, rfl, ok, ym, rfl, pe, p, o, c, y.2, pl, rfl, ok, ym, rfl, pe, by decide, by decide, rfl, pl_two (pl_dB (by rw [List.length_map]; omega)) (pl_dB (by rw [List.length_map]; omega)), true, rfl, fun z => (by cases z), fun _ => hI2 _ _ ⟨_, _, _, _, rfl⟩⟩
            · subst e
              exact hI _ _ ⟨m1, _, _, _, _, _, _, _, rfl, by omega⟩
          · skip
            refine ⟨p, o, c, x0, pl, rfl, ok, rfl, xk, rfl, pe, p, o, c, x0, pl, rfl, ok, rfl, xk, rfl, pe, p, o, c, x0, pl, rfl, ok, rfl, xk, rfl, pe, by decide, by decide, rfl, pl_two (pl_mkD ok pl (xk).2.2) (pl_mkD ok pl (xk).2.2), true, rfl, fun z => (by cases z), fun _ => ex_fx (fun j ρ => ∃ z7 z8 z9 z10, ρ = [AV.tank (m1), AV.d (PyData.tuple [PyData.tuple (List.map PyData.str p), PyData.tuple (List.map dO o), PyData.tuple (List.map dC c)]), .d (.int (0 + (i : Int))), .d (.list ((PL p.length).map dB)), .d (.list ((p ++ o.map (·.1)).map .str)), .d (dB pl), .d (dC (x0)), z7, z8, z9, z10]) ⟨_, _, _, _, rfl⟩ (fun I2 hI2 j y ρ3 hy ym tk ⟨z7, z8, z9, z10, e⟩ => ?_) fun ρ3 ⟨z7, z8, z9, z10, e⟩ => ?_⟩
            · subst e
              have yk := ok.oo y ym
              unfold dO
              walk_at "OS"
              refine ⟨p, o, c, y.2, pl, rfl, rfl, rfl, p6, pe, ok.pa, yk.2.2.2.1, fun x hx => (yk.2.2.1 x hx).2, p, o, c, y.2, pl, rfl, ok, ym, rfl, pe, p, o, c, y.2, pl, rfl, ok, ym, rfl, pe, by decide, by decide, rfl, pl_two (pl_dB (by rw [List.length_map]; omega)) (pl_dB (by rw [List.length_map]; omega)), true, rfl, fun z => (by cases z), fun _ => hI2 _ _ ⟨_, _, _, _, rfl⟩⟩
            · subst e
              exact hI _ _ ⟨m1, _, _, _, _, _, _, _, rfl, by omega⟩
        · skip
          refine ⟨fun h2 => ⟨by decide, shaped_dCs ok, by decide, fun hc => ⟨by decide, by decide, by omega, fun w w0 w1 => ?_⟩, fun _ => ?_⟩, fun _ => ?_⟩
          · walk_at "OS"
            refine ⟨fun _ => ⟨by have := ne_tup hc; omega, by have := ok.cl; rw [List.length_map]; omega, by omega, fun u u0 u1 => ?_⟩, fun _ => ?_⟩
            · obtain ⟨d, hd, ed'⟩ := atI_z (xs := c.map dC) u0 u1
              obtain ⟨x, xm, rfl⟩ := List.mem_map.mp hd
              walk_at "OS"
              refine ⟨_, ed', ?_⟩
              refine ⟨p, o, c, x, pl, rfl, ok, rfl, ok.cc x xm, rfl, pe, p, o, c, x, pl, rfl, ok, rfl, ok.cc x xm, rfl, pe, p, o, c, x, pl, rfl, ok, rfl, ok.cc x xm, rfl, pe, by decide, by decide, rfl, pl_two (pl_mkD ok pl (ok.cc x xm).2.2) (pl_mkD ok pl (ok.cc x xm).2.2), true, rfl, fun z => (by cases z), fun _ => ex_fx (fun j ρ => ∃ z7 z8 z9 z10, ρ = [AV.tank (m1 + 1 + 1), AV.d (PyData.tuple [PyData.tuple (List.map PyData.str p), PyData.tuple (List.map dO o), PyData.tuple (List.map dC c)]), .d (.int (0 + (i : Int))), .d (.list ((PL p.length).map dB)), .d (.list ((p ++ o.map (·.1)).map .str)), .d (dB pl), .d (dC (x)), z7, z8, z9, z10]) ⟨_, _, _, _, rfl⟩ (fun I2 hI2 j y ρ3 hy ym tk ⟨z7, z8, z9, z10, e⟩ => ?_) fun ρ3 ⟨z7, z8, z9, z10, e⟩ => ?_⟩
              · subst e
                have yk := ok.oo y ym
                unfold dO
                walk_at "OS"
                refine ⟨p, o, c, y.2, pl, rfl, rfl, rfl, p6, pe, ok.pa, yk.2.2.2.1, fun x hx => (yk.2.2.1 x hx).2, p, o, c, y.2, pl, rfl, ok, ym, rfl, pe, p, o, c, y.2, pl, rfl, ok, ym, rfl, pe, by decide, by decide, rfl, pl_two (pl_dB (by rw [List.length_map]; omega)) (pl_dB (by rw [List.length_map]; omega)), true, rfl, fun z => (by cases z), fun _ => hI2 _ _ ⟨_, _, _, _, rfl⟩⟩
              · subst e
                exact hI _ _ ⟨m1 + 1 + 1, _, _, _, _, _, _, _, rfl, by omega⟩
            · skip
              refine ⟨p, o, c, x0, pl, rfl, ok, rfl, xk, rfl, pe, p, o, c, x0, pl, rfl, ok, rfl, xk, rfl, pe, p, o, c, x0, pl, rfl, ok, rfl, xk, rfl, pe, by decide, by decide, rfl, pl_two (pl_mkD ok pl (xk).2.2) (pl_mkD ok pl (xk).2.2), true, rfl, fun z => (by cases z), fun _ => ex_fx (fun j ρ => ∃ z7 z8 z9 z10, ρ = [AV.tank (m1 + 1), AV.d (PyData.tuple [PyData.tuple (List.map PyData.str p), PyData.tuple (List.map dO o), PyData.tuple (List.map dC c)]), .d (.int (0 + (i : Int))), .d (.list ((PL p.length).map dB)), .d (.list ((p ++ o.map (·.1)).map .str)), .d (dB pl), .d (dC (x0)), z7, z8, z9, z10]) ⟨_, _, _, _, rfl⟩ (fun I2 hI2 j y ρ3 hy ym tk ⟨z7, z8, z9, z10, e⟩ => ?_) fun ρ3 ⟨z7, z8, z9, z10, e⟩ => ?_⟩
              · subst e
                have yk := ok.oo y ym
                unfold dO
                walk_at "OS"
                refine ⟨p, o, c, y.2, pl, rfl, rfl, rfl, p6, pe, ok.pa, yk.2.2.2.1, fun x hx => (yk.2.2.1 x hx).2, p, o, c, y.2, pl, rfl, ok, ym, rfl, pe, p, o, c, y.2, pl, rfl, ok, ym, rfl, pe, by decide, by decide, rfl, pl_two (pl_dB (by rw [List.length_map]; omega)) (pl_dB (by rw [List.length_map]; omega)), true, rfl, fun z => (by cases z), fun _ => hI2 _ _ ⟨_, _, _, _, rfl⟩⟩
              · subst e
                exact hI _ _ ⟨m1 + 1, _, _, _, _, _, _, _, rfl, by omega⟩
          · skip
            refine ⟨p, o, c, x0, pl, rfl, ok, rfl, xk, rfl, pe, p, o, c, x0, pl, rfl, ok, rfl, xk, rfl, pe, p, o, c, x0, pl, rfl, ok, rfl, xk, rfl, pe, by decide, by decide, rfl, pl_two (pl_mkD ok pl (xk).2.2) (pl_mkD ok pl (xk).2.2), true, rfl, fun z => (by cases z), fun _ => ex_fx (fun j ρ => ∃ z7 z8 z9 z10, ρ = [AV.tank (m1), AV.d (PyData.tuple [PyData.tuple (List.map PyData.str p), PyData.tuple (List.map dO o), PyData.tuple (List.map dC c)]), .d (.int (0 + (i : Int))), .d (.list ((PL p.length).map dB)), .d (.list ((p ++ o.map (·.1)).map .str)), .d (dB pl), .d (dC (x0)), z7, z8, z9, z10]) ⟨_, _, _, _, rfl⟩ (fun I2 hI2 j y ρ3 hy ym tk ⟨z7, z8, z9, z10, e⟩ => ?_) fun ρ3 ⟨z7, z8, z9, z10, e⟩ => ?_⟩
            · subst e
              have yk := ok.oo y ym
              unfold dO
              walk_at "OS"
              refine ⟨p, o, c, y.2, pl, rfl, rfl, rfl, p6, pe, ok.pa, yk.2.2.2.1, fun x hx => (yk.2.2.1 x hx).2, p, o, c, y.2, pl, rfl, ok, ym, rfl, pe, p, o, c, y.2, pl, rfl, ok, ym, rfl, pe, by decide, by decide, rfl, pl_two (pl_dB (by rw [List.length_map]; omega)) (pl_dB (by rw [List.length_map]; omega)), true, rfl, fun z => (by cases z), fun _ => hI2 _ _ ⟨_, _, _, _, rfl⟩⟩
            · subst e
              exact hI _ _ ⟨m1, _, _, _, _, _, _, _, rfl, by omega⟩
          · skip
            refine ⟨p, o, c, x0, pl, rfl, ok, rfl, xk, rfl, pe, p, o, c, x0, pl, rfl, ok, rfl, xk, rfl, pe, p, o, c, x0, pl, rfl, ok, rfl, xk, rfl, pe, by decide, by decide, rfl, pl_two (pl_mkD ok pl (xk).2.2) (pl_mkD ok pl (xk).2.2), true, rfl, fun z => (by cases z), fun _ => ex_fx (fun j ρ => ∃ z7 z8 z9 z10, ρ = [AV.tank (m1), AV.d (PyData.tuple [PyData.tuple (List.map PyData.str p), PyData.tuple (List.map dO o), PyData.tuple (List.map dC c)]), .d (.int (0 + (i : Int))), .d (.list ((PL p.length).map dB)), .d (.list ((p ++ o.map (·.1)).map .str)), .d (dB pl), .d (dC (x0)), z7, z8, z9, z10]) ⟨_, _, _, _, rfl⟩ (fun I2 hI2 j y ρ3 hy ym tk ⟨z7, z8, z9, z10, e⟩ => ?_) fun ρ3 ⟨z7, z8, z9, z10, e⟩ => ?_⟩
            · subst e
              have yk := ok.oo y ym
              unfold dO
              walk_at "OS"
              refine ⟨p, o, c, y.2, pl, rfl, rfl, rfl, p6, pe, ok.pa, yk.2.2.2.1, fun x hx => (yk.2.2.1 x hx).2, p, o, c, y.2, pl, rfl, ok, ym, rfl, pe, p, o, c, y.2, pl, rfl, ok, ym, rfl, pe, by decide, by decide, rfl, pl_two (pl_dB (by rw [List.length_map]; omega)) (pl_dB (by rw [List.length_map]; omega)), true, rfl, fun z => (by cases z), fun _ => hI2 _ _ ⟨_, _, _, _, rfl⟩⟩
            · subst e
              exact hI _ _ ⟨m1, _, _, _, _, _, _, _, rfl, by omega⟩
      · have xk0 : ClsOk p o [] := clsok_nil
        walk_at "OS"
        refine ⟨by decide, by decide, rfl, by decide, fun h1 => ⟨by decide, shaped_strsT ok.pn, by decide, fun hp => ⟨by have := ne_tup hp; omega, by rw [List.length_map]; omega, by omega, fun w w0 w1 => ?_⟩, fun _ => ?_⟩, fun h1 => ?_⟩
        · obtain ⟨d, hd, ed'⟩ := atI_z (xs := p.map .str) w0 w1
          obtain ⟨s, sm, rfl⟩ := List.mem_map.mp hd
          have xk1 : ClsOk p o [(s, decide (0 + (i : Int) = 1))] := ⟨fun y hy => (by cases List.mem_singleton.mp hy; exact ⟨ok.pn s sm, List.mem_append_left _ sm⟩), asc_strs (xs := [s]) (List.pairwise_singleton ..), (show 1 ≤ 14 by decide)⟩
          walk_at "OS"
          refine ⟨_, ed', by decide, by decide, ?_⟩
          refine ⟨p, o, c, [(s, decide (0 + (i : Int) = 1))], pl, rfl, ok, rfl, xk1, rfl, pe, p, o, c, [(s, decide (0 + (i : Int) = 1))], pl, rfl, ok, rfl, xk1, rfl, pe, p, o, c, [(s, decide (0 + (i : Int) = 1))], pl, rfl, ok, rfl, xk1, rfl, pe, by decide, by decide, rfl, pl_two (pl_mkD ok pl (xk1).2.2) (pl_mkD ok pl (xk1).2.2), true, rfl, fun z => (by cases z), fun _ => ex_fx (fun j ρ => ∃ z7 z8 z9 z10, ρ = [AV.tank (m + 1 + 1), AV.d (PyData.tuple [PyData.tuple (List.map PyData.str p), PyData.tuple (List.map dO o), PyData.tuple (List.map dC c)]), .d (.int (0 + (i : Int))), .d (.list ((PL p.length).map dB)), .d (.list ((p ++ o.map (·.1)).map .str)), .d (dB pl), .d (dC ([(s, decide (0 + (i : Int) = 1))])), z7, z8, z9, z10]) ⟨_, _, _, _, rfl⟩ (fun I2 hI2 j y ρ3 hy ym tk ⟨z7, z8, z9, z10, e⟩ => ?_) fun ρ3 ⟨z7, z8, z9, z10, e⟩ => ?_⟩
          · subst e
            have yk := ok.oo y ym
            unfold dO
            walk_at "OS"
            refine ⟨p, o, c, y.2, pl, rfl, rfl, rfl, p6, pe, ok.pa, yk.2.2.2.1, fun x hx => (yk.2.2.1 x hx).2, p, o, c, y.2, pl, rfl, ok, ym, rfl, pe, p, o, c, y.2, pl, rfl, ok, ym, rfl, pe, by decide, by decide, rfl, pl_two (pl_dB (by rw [List.length_map]; omega)) (pl_dB (by rw [List.length_map]; omega)), true, rfl, fun z => (by cases z), fun _ => hI2 _ _ ⟨_, _, _, _, rfl⟩⟩
          · subst e
            exact hI _ _ ⟨m + 1 + 1, _, _, _, _, _, _, _, rfl, by omega⟩
        · skip
          refine ⟨fun h2 => ⟨by decide, shaped_dCs ok, by decide, fun hc => ⟨by decide, by decide, by omega, fun w w0 w1 => ?_⟩, fun _ => ?_⟩, fun _ => ?_⟩
          · walk_at "OS"
            refine ⟨fun _ => ⟨by have := ne_tup hc; omega, by have := ok.cl; rw [List.length_map]; omega, by omega, fun u u0 u1 => ?_⟩, fun _ => ?_⟩
            · obtain ⟨d, hd, ed'⟩ := atI_z (xs := c.map dC) u0 u1
              obtain ⟨x, xm, rfl⟩ := List.mem_map.mp hd
              walk_at "OS"
              refine ⟨_, ed', ?_⟩
              refine ⟨p, o, c, x, pl, rfl, ok, rfl, ok.cc x xm, rfl, pe, p, o, c, x, pl, rfl, ok, rfl, ok.cc x xm, rfl, pe, p, o, c, x, pl, rfl, ok, rfl, ok.cc x xm, rfl, pe, by decide, by decide, rfl, pl_two (pl_mkD ok pl (ok.cc x xm).2.2) (pl_mkD ok pl (ok.cc x xm).2.2), true, rfl, fun z => (by cases z), fun _ => ex_fx (fun j ρ => ∃ z7 z8 z9 z10, ρ = [AV.tank (m + 1 + 1 + 1), AV.d (PyData.tuple [PyData.tuple (List.map PyData.str p), PyData.tuple (List.map dO o), PyData.tuple (List.map dC c)]), .d (.int (0 + (i : Int))), .d (.list ((PL p.length).map dB)), .d (.list ((p ++ o.map (·.1)).map .str)), .d (dB pl), .d (dC (x)), z7, z8, z9, z10]) ⟨_, _, _, _, rfl⟩ (fun I2 hI2 j y ρ3 hy ym tk ⟨z7, z8, z9, z10, e⟩ => ?_) fun ρ3 ⟨z7, z8, z9, z10, e⟩ => ?_⟩
              · subst e
                have yk := ok.oo y ym
                unfold dO
                walk_at "OS"
                refine ⟨p, o, c, y.2, pl, rfl, rfl, rfl, p6, pe, ok.pa, yk.2.2.2.1, fun x hx => (yk.2.2.1 x hx).2, p, o, c, y.2, pl, rfl, ok, ym, rfl, pe, p, o, c, y.2, pl, rfl, ok, ym, rfl, pe, by decide, by decide, rfl, pl_two (pl_dB (by rw [List.length_map]; omega)) (pl_dB (by rw [List.length_map]; omega)), true, rfl, fun z => (by cases z), fun _ => hI2 _ _ ⟨_, _, _, _, rfl⟩⟩
              · subst e
                exact hI _ _ ⟨m + 1 + 1 + 1, _, _, _, _, _, _, _, rfl, by omega⟩
            · skip
              refine ⟨p, o, c, [], pl, rfl, ok, rfl, xk0, rfl, pe, p, o, c, [], pl, rfl, ok, rfl, xk0, rfl, pe, p, o, c, [], pl, rfl, ok, rfl, xk0, rfl, pe, by decide, by decide, rfl, pl_two (pl_mkD ok pl (xk0).2.2) (pl_mkD ok pl (xk0).2.2), true, rfl, fun z => (by cases z), fun _ => ex_fx (fun j ρ => ∃ z7 z8 z9 z10, ρ = [AV.tank (m + 1 + 1), AV.d (PyData.tuple [PyData.tuple (List.map PyData.str p), PyData.tuple (List.map dO o), PyData.tuple (List.map dC c)]), .d (.int (0 + (i : Int))), .d (.list ((PL p.length).map dB)), .d (.list ((p ++ o.map (·.1)).map .str)), .d (dB pl), .d (dC ([])), z7, z8, z9, z10]) ⟨_, _, _, _, rfl⟩ (fun I2 hI2 j y ρ3 hy ym tk ⟨z7, z8, z9, z10, e⟩ => ?_) fun ρ3 ⟨z7, z8, z9, z10, e⟩ => ?_⟩
              · subst e
                have yk := ok.oo y ym
                unfold dO
                walk_at "OS"
                refine ⟨p, o, c, y.2, pl, rfl, rfl, rfl, p6, pe, ok.pa, yk.2.2.2.1, fun x hx => (yk.2.2.1 x hx).2, p, o, c, y.2, pl, rfl, ok, ym, rfl, pe, p, o, c, y.2, pl, rfl, ok, ym, rfl, pe, by decide, by decide, rfl, pl_two (pl_dB (by rw [List.length_map]; omega)) (pl_dB (by rw [List.length_map]; omega)), true, rfl, fun z => (by cases z), fun _ => hI2 _ _ ⟨_, _, _, _, rfl⟩⟩
              · subst e
                exact hI _ _ ⟨m + 1 + 1, _, _, _, _, _, _, _, rfl, by omega⟩
          · skip
            refine ⟨p, o, c, [], pl, rfl, ok, rfl, xk0, rfl, pe, p, o, c, [], pl, rfl, ok, rfl, xk0, rfl, pe, p, o, c, [], pl, rfl, ok, rfl, xk0, rfl, pe, by decide, by decide, rfl, pl_two (pl_mkD ok pl (xk0).2.2) (pl_mkD ok pl (xk0).2.2), true, rfl, fun z => (by cases z), fun _ => ex_fx (fun j ρ => ∃ z7 z8 z9 z10, ρ = [AV.tank (m + 1), AV.d (PyData.tuple [PyData.tuple (List.map PyData.str p), PyData.tuple (List.map dO o), PyData.tuple (List.map dC c)]), .d (.int (0 + (i : Int))), .d (.list ((PL p.length).map dB)), .d (.list ((p ++ o.map (·.1)).map .str)), .d (dB pl), .d (dC ([])), z7, z8, z9, z10]) ⟨_, _, _, _, rfl⟩ (fun I2 hI2 j y ρ3 hy ym tk ⟨z7, z8, z9, z10, e⟩ => ?_) fun ρ3 ⟨z7, z8, z9, z10, e⟩ => ?_⟩
            · subst e
              have yk := ok.oo y ym
              unfold dO
              walk_at "OS"
              refine ⟨p, o, c, y.2, pl, rfl, rfl, rfl, p6, pe, ok.pa, yk.2.2.2.1, fun x hx => (yk.2.2.1 x hx).2, p, o, c, y.2, pl, rfl, ok, ym, rfl, pe, p, o, c, y.2, pl, rfl, ok, ym, rfl, pe, by decide, by decide, rfl, pl_two (pl_dB (by rw [List.length_map]; omega)) (pl_dB (by rw [List.length_map]; omega)), true, rfl, fun z => (by cases z), fun _ => hI2 _ _ ⟨_, _, _, _, rfl⟩⟩
            · subst e
              exact hI _ _ ⟨m + 1, _, _, _, _, _, _, _, rfl, by omega⟩
          · skip
            refine ⟨p, o, c, [], pl, rfl, ok, rfl, xk0, rfl, pe, p, o, c, [], pl, rfl, ok, rfl, xk0, rfl, pe, p, o, c, [], pl, rfl, ok, rfl, xk0, rfl, pe, by decide, by decide, rfl, pl_two (pl_mkD ok pl (xk0).2.2) (pl_mkD ok pl (xk0).2.2), true, rfl, fun z => (by cases z), fun _ => ex_fx (fun j ρ => ∃ z7 z8 z9 z10, ρ = [AV.tank (m + 1), AV.d (PyData.tuple [PyData.tuple (List.map PyData.str p), PyData.tuple (List.map dO o), PyData.tuple (List.map dC c)]), .d (.int (0 + (i : Int))), .d (.list ((PL p.length).map dB)), .d (.list ((p ++ o.map (·.1)).map .str)), .d (dB pl), .d (dC ([])), z7, z8, z9, z10]) ⟨_, _, _, _, rfl⟩ (fun I2 hI2 j y ρ3 hy ym tk ⟨z7, z8, z9, z10, e⟩ => ?_) fun ρ3 ⟨z7, z8, z9, z10, e⟩ => ?_⟩
            · subst e
              have yk := ok.oo y ym
              unfold dO
              walk_at "OS"
              refine ⟨p, o, c, y.2, pl, rfl, rfl, rfl, p6, pe, ok.pa, yk.2.2.2.1, fun x hx => (yk.2.2.1 x hx).2, p, o, c, y.2, pl, rfl, ok, ym, rfl, pe, p, o, c, y.2, pl, rfl, ok, ym, rfl, pe, by decide, by decide, rfl, pl_two (pl_dB (by rw [List.length_map]; omega)) (pl_dB (by rw [List.length_map]; omega)), true, rfl, fun z => (by cases z), fun _ => hI2 _ _ ⟨_, _, _, _, rfl⟩⟩
            · subst e
              exact hI _ _ ⟨m + 1, _, _, _, _, _, _, _, rfl, by omega⟩
        · skip
          refine ⟨fun h2 => ⟨by decide, shaped_dCs ok, by decide, fun hc => ⟨by decide, by decide, by omega, fun w w0 w1 => ?_⟩, fun _ => ?_⟩, fun _ => ?_⟩
          · walk_at "OS"
            refine ⟨fun _ => ⟨by have := ne_tup hc; omega, by have := ok.cl; rw [List.length_map]; omega, by omega, fun u u0 u1 => ?_⟩, fun _ => ?_⟩
            · obtain ⟨d, hd, ed'⟩ := atI_z (xs := c.map dC) u0 u1
              obtain ⟨x, xm, rfl⟩ := List.mem_map.mp hd
              walk_at "OS"
              refine ⟨_, ed', ?_⟩
              refine ⟨p, o, c, x, pl, rfl, ok, rfl, ok.cc x xm, rfl, pe, p, o, c, x, pl, rfl, ok, rfl, ok.cc x xm, rfl, pe, p, o, c, x, pl, rfl, ok, rfl, ok.cc x xm, rfl, pe, by decide, by decide, rfl, pl_two (pl_mkD ok pl (ok.cc x xm).2.2) (pl_mkD ok pl (ok.cc x xm).2.2), true, rfl, fun z => (by cases z), fun _ => ex_fx (fun j ρ => ∃ z7 z8 z9 z10, ρ = [AV.tank (m + 1 + 1 + 1), AV.d (PyData.tuple [PyData.tuple (List.map PyData.str p), PyData.tuple (List.map dO o), PyData.tuple (List.map dC c)]), .d (.int (0 + (i : Int))), .d (.list ((PL p.length).map dB)), .d (.list ((p ++ o.map (·.1)).map .str)), .d (dB pl), .d (dC (x)), z7, z8, z9, z10]) ⟨_, _, _, _, rfl⟩ (fun I2 hI2 j y ρ3 hy ym tk ⟨z7, z8, z9, z10, e⟩ => ?_) fun ρ3 ⟨z7, z8, z9, z10, e⟩ => ?_⟩
              · subst e
                have yk := ok.oo y ym
                unfold dO
                walk_at "OS"
                refine ⟨p, o, c, y.2, pl, rfl, rfl, rfl, p6, pe, ok.pa, yk.2.2.2.1, fun x hx => (yk.2.2.1 x hx).2, p, o, c, y.2, pl, rfl, ok, ym, rfl, pe, p, o, c, y.2, pl, rfl, ok, ym, rfl, pe, by decide, by decide, rfl, pl_two (pl_dB (by rw [List.length_map]; omega)) (pl_dB (by rw [List.length_map]; omega)), true, rfl, fun z => (by cases z), fun _ => hI2 _ _ ⟨_, _, _, _, rfl⟩⟩
              · subst e
                exact hI _ _ ⟨m + 1 + 1 + 1, _, _, _, _, _, _, _, rfl, by omega⟩
            · skip
              refine ⟨p, o, c, [], pl, rfl, ok, rfl, xk0, rfl, pe, p, o, c, [], pl, rfl, ok, rfl, xk0, rfl, pe, p, o, c, [], pl, rfl, ok, rfl, xk0, rfl, pe, by decide, by decide, rfl, pl_two (pl_mkD ok pl (xk0).2.2) (pl_mkD ok pl (xk0).2.2), true, rfl, fun z => (by cases z), fun _ => ex_fx (fun j ρ => ∃ z7 z8 z9 z10, ρ = [AV.tank (m + 1 + 1), AV.d (PyData.tuple [PyData.tuple (List.map PyData.str p), PyData.tuple (List.map dO o), PyData.tuple (List.map dC c)]), .d (.int (0 + (i : Int))), .d (.list ((PL p.length).map dB)), .d (.list ((p ++ o.map (·.1)).map .str)), .d (dB pl), .d (dC ([])), z7, z8, z9, z10]) ⟨_, _, _, _, rfl⟩ (fun I2 hI2 j y ρ3 hy ym tk ⟨z7, z8, z9, z10, e⟩ => ?_) fun ρ3 ⟨z7, z8, z9, z10, e⟩ => ?_⟩
              · subst e
                have yk := ok.oo y ym
                unfold dO
                walk_at "OS"
                refine ⟨p, o, c, y.2, pl, rfl, rfl, rfl, p6, pe, ok.pa, yk.2.2.2.1, fun x hx => (yk.2.2.1 x hx).2, p, o, c, y.2, pl, rfl, ok, ym, rfl, pe, p, o, c, y.2, pl, rfl, ok, ym, rfl, pe, by decide, by decide, rfl, pl_two (pl_dB (by rw [List.length_map]; omega)) (pl_dB (by rw [List.length_map]; omega)), true, rfl, fun z => (by cases z), fun _ => hI2 _ _ ⟨_, _, _, _, rfl⟩⟩
              · subst e
                exact hI _ _ ⟨m + 1 + 1, _, _, _, _, _, _, _, rfl, by omega⟩
          · skip
            refine ⟨p, o, c, [], pl, rfl, ok, rfl, xk0, rfl, pe, p, o, c, [], pl, rfl, ok, rfl, xk0, rfl, pe, p, o, c, [], pl, rfl, ok, rfl, xk0, rfl, pe, by decide, by decide, rfl, pl_two (pl_mkD ok pl (xk0).2.2) (pl_mkD ok pl (xk0).2.2), true, rfl, fun z => (by cases z), fun _ => ex_fx (fun j ρ => ∃ z7 z8 z9 z10, ρ = [AV.tank (m + 1), AV.d (PyData.tuple [PyData.tuple (List.map PyData.str p), PyData.tuple (List.map dO o), PyData.tuple (List.map dC c)]), .d (.int (0 + (i : Int))), .d (.list ((PL p.length).map dB)), .d (.list ((p ++ o.map (·.1)).map .str)), .d (dB pl), .d (dC ([])), z7, z8, z9, z10]) ⟨_, _, _, _, rfl⟩ (fun I2 hI2 j y ρ3 hy ym tk ⟨z7, z8, z9, z10, e⟩ => ?_) fun ρ3 ⟨z7, z8, z9, z10, e⟩ => ?_⟩
            · subst e
              have yk := ok.oo y ym
              unfold dO
              walk_at "OS"
              refine ⟨p, o, c, y.2, pl, rfl, rfl, rfl, p6, pe, ok.pa, yk.2.2.2.1, fun x hx => (yk.2.2.1 x hx).2, p, o, c, y.2, pl, rfl, ok, ym, rfl, pe, p, o, c, y.2, pl, rfl, ok, ym, rfl, pe, by decide, by decide, rfl, pl_two (pl_dB (by rw [List.length_map]; omega)) (pl_dB (by rw [List.length_map]; omega)), true, rfl, fun z => (by cases z), fun _ => hI2 _ _ ⟨_, _, _, _, rfl⟩⟩
            · subst e
              exact hI _ _ ⟨m + 1, _, _, _, _, _, _, _, rfl, by omega⟩
          · skip
            refine ⟨p, o, c, [], pl, rfl, ok, rfl, xk0, rfl, pe, p, o, c, [], pl, rfl, ok, rfl, xk0, rfl, pe, p, o, c, [], pl, rfl, ok, rfl, xk0, rfl, pe, by decide, by decide, rfl, pl_two (pl_mkD ok pl (xk0).2.2) (pl_mkD ok pl (xk0).2.2), true, rfl, fun z => (by cases z), fun _ => ex_fx (fun j ρ => ∃ z7 z8 z9 z10, ρ = [AV.tank (m + 1), AV.d (PyData.tuple [PyData.tuple (List.map PyData.str p), PyData.tuple (List.map dO o), PyData.tuple (List.map dC c)]), .d (.int (0 + (i : Int))), .d (.list ((PL p.length).map dB)), .d (.list ((p ++ o.map (·.1)).map .str)), .d (dB pl), .d (dC ([])), z7, z8, z9, z10]) ⟨_, _, _, _, rfl⟩ (fun I2 hI2 j y ρ3 hy ym tk ⟨z7, z8, z9, z10, e⟩ => ?_) fun ρ3 ⟨z7, z8, z9, z10, e⟩ => ?_⟩
            · subst e
              have yk := ok.oo y ym
              unfold dO
              walk_at "OS"
              refine ⟨p, o, c, y.2, pl, rfl, rfl, rfl, p6, pe, ok.pa, yk.2.2.2.1, fun x hx => (yk.2.2.1 x hx).2, p, o, c, y.2, pl, rfl, ok, ym, rfl, pe, p, o, c, y.2, pl, rfl, ok, ym, rfl, pe, by decide, by decide, rfl, pl_two (pl_dB (by rw [List.length_map]; omega)) (pl_dB (by rw [List.length_map]; omega)), true, rfl, fun z => (by cases z), fun _ => hI2 _ _ ⟨_, _, _, _, rfl⟩⟩
            · subst e
              exact hI _ _ ⟨m + 1, _, _, _, _, _, _, _, rfl, by omega⟩
    
    · subst e
      exact ⟨m, rfl, hq m (by have : (rng 0 12).length = 12 := rng_len; omega)⟩

theorem sc_l_words : FnScope ["source", "size", "left", "turn", "found", "letters", "word", "sign"] ["source", "size"] (defScope s_l_words) := ⟨rfl, rfl, rfl, by decide +kernel, rfl, by decide +kernel, by decide +kernel⟩

def W1 : List Str := ["a", "b", "c", "x", "y", "z", "ab", "ba", "aa", "xy", "yx", "zz", "abc", "acb", "xyz", "zyx", "own", "owns"]
def W2 : List Str := ["pick", "picks", "zebra", "alpha", "omega", "abcdefg", "abcdefgh", "hgfedcba", "aaaaaaaa", "zzzzzzzz"]
theorem w_ok : (W1 ++ W2).Nodup ∧ (W1 ++ W2).length = 28 ∧ ∀ s ∈ W1 ++ W2, Nm s := ⟨by decide +kernel, by decide +kernel, by unfold Nm; decide +kernel⟩
def EXL : List Str := ["mine", "newone", "nobody", "notthere"]
theorem w_ex : ∀ y ∈ W1 ++ W2, y ∉ EXL := by decide +kernel
def sp_l_words : TSp := fun n ds q => match ds with
  | [.int size] => 0 ≤ size ∧ size ≤ 14 ∧ n ≤ 800000 ∧ ∀ m (ys : List Str), m ≤ n + 1000 → ys.Nodup → (∀ y ∈ ys, Nm y) → (ys.length : Int) = size → q m (.own (ys.map .str))
  | _ => False


theorem d_l_words {f : Addr} {fd : FuncData} (F : Fun K "_law_words" "_law_words" s_l_words f fd) (bd : Binds K fd ["source", "size"] []) (hmg : mg "_law_words" = some (.ref f)) (b_range : mg "range" = none) (b_len : mg "len" = none) (g_l_pick : FnT P w K mg base "_law_pick" ["source", "top"] 1 sp_l_pick) : FnT P w K mg base "_law_words" ["source", "size"] 2 sp_l_words := by
  refine fnT F sc_l_words (fun n ds q h => ?_) bd hmg fun cdv A outer s H E hr => (have hu := hr.1.roomy; ⟨_, (ass_cons (as_setM 2 sc_l_words.nd (al_lst (aa_cons ae_str (aa_cons ae_str (aa_cons ae_str (aa_cons ae_str (aa_cons ae_str (aa_cons ae_str (aa_cons ae_str (aa_cons ae_str (aa_cons ae_str (aa_cons ae_str (aa_cons ae_str (aa_cons ae_str (aa_cons ae_str (aa_cons ae_str (aa_cons ae_str (aa_cons ae_str (aa_cons ae_str (aa_cons ae_str aa_nil)))))))))))))))))))) (ass_cons (as_setM 2 sc_l_words.nd (al_op pc_cat (ao_var 2) (ao_d (AL.ae (al_lst (aa_cons ae_str (aa_cons ae_str (aa_cons ae_str (aa_cons ae_str (aa_cons ae_str (aa_cons ae_str (aa_cons ae_str (aa_cons ae_str (aa_cons ae_str (aa_cons ae_str aa_nil))))))))))))) (fun _ _ _ => pe_op op_catSq))) (ass_cons (as_tupH rfl (nt_cons 4 (nt_cons 5 nt_nil sc_l_words.nd) sc_l_words.nd) (ah_l (al_lst aa_nil) (ah_d ae_str ah_nil))) (ass_cons (as_for (fun _ => PassesOwn.never) rfl (ai_rng1 (fun _ => rfl) b_range (aa_cons (ae_var 1) aa_nil)) (ag_name 3 sc_l_words.nd) (ass_cons (as_set 6 sc_l_words.nd (ae_popAt 2 (ae_callT g_l_pick ⟨hr.1.mono (by decide), hr.2⟩ (aa_slot 0 (aa_cons (ae_biB (bu_lenX b_len) ps_lenX (aa_var 2 aa_nil)) aa_nil))))) (ass_cons (as_if (at_eqD hu (ae_callT g_l_pick ⟨hr.1.mono (by decide), hr.2⟩ (aa_slot 0 (aa_cons ae_int aa_nil))) ae_int) (ass_one (as_set 6 sc_l_words.nd (ae_join ae_str (AL.ae (al_lc (own := [("sign", 7)]) rfl sc_l_words.nd (ai_rng1 (fun _ => rfl) b_range (aa_cons (ae_add ae_int (ae_callT g_l_pick ⟨hr.1.mono (by decide), hr.2⟩ (aa_slot 0 (aa_cons ae_int aa_nil)))) aa_nil)) (fun _ => blkOk_by rfl) (ago_name 7 (by decide) sc_l_words.nd) ats_nil (ae_ixD hu (ae_var 5) (ae_callT g_l_pick ⟨hr.1.mono (by decide), hr.2⟩ (aa_slot 0 (aa_cons ae_int aa_nil))))))))) ass_nil) (ass_cons (as_while (fun _ => PassesOwn.never) (AWt.at (aw_or (at_cmpB aop_in (op_in2 hu) (ao_d (ae_var 6)) (ao_var 4)) (aw_or1 (at_inD hu (ae_var 6) (ae_tup (aa_cons ae_str (aa_cons ae_str (aa_cons ae_str (aa_cons ae_str aa_nil))))))))) (ass_one (as_set 6 sc_l_words.nd (ae_popAt 2 (ae_callT g_l_pick ⟨hr.1.mono (by decide), hr.2⟩ (aa_slot 0 (aa_cons (ae_biB (bu_lenX b_len) ps_lenX (aa_var 2 aa_nil)) aa_nil))))))) (ass_one (as_expr (ae_append 4 (ae_var 6)))))))) (ass_one (as_retM 4)))))), fun n ds q h => ?_⟩)
  · unfold sp_l_words at h
    split at h <;> first | rfl | exact h.elim
  · unfold sp_l_words at h
    split at h
    rotate_left
    · exact h.elim
    rename_i size
    obtain ⟨h1, h2, h3, hq⟩ := h
    walk_at "OS"
    unfold roCat
    refine ⟨by decide, by decide, W1.map .str, W2.map .str, rfl, by decide +kernel, _, rfl, ?_⟩
    rw [← List.map_append]
    refine ⟨lf_strs, by decide, by decide, by omega, by omega, ?_⟩
    obtain ⟨T, rfl⟩ := Int.eq_ofNat_of_zero_le h1
    rw [Int.toNat_natCast]
    refine ex_f (fun i ρ => ∃ m3, ∃ ys left : List Str, ∃ y3 y6, ρ = [AV.tank m3, .d (.int T), .ml (left.map .str), y3, .ml (ys.map .str), .d (.str LET), y6, .no] ∧ ys.Nodup ∧ (∀ y ∈ ys, Nm y) ∧ ys.length = i ∧ left.Nodup ∧ (∀ y ∈ left, Nm y) ∧ 28 ≤ (left.filter fun x => decide (x ∉ ys)).length + 2 * i ∧ left.length ≤ 28 ∧ m3 ≤ n + 60 * i ∧ ∀ y ∈ left, y ∉ EXL) ⟨n, [], W1 ++ W2, _, _, rfl, .nil, (fun _ h => by cases h), rfl, w_ok.1, w_ok.2.2, by decide +kernel, by decide +kernel, by omega, w_ex⟩ (fun I hI i d ρ2 hd ⟨m3, ys, left, y3, y6, e1, e2, e3, e4, e5, e6, e7, e8, e9, e10⟩ => ?_) fun ρ2 ⟨m3, ys, left, y3, y6, e1, e2, e3, e4, e5, e6, e7, e8, e9, e10⟩ => ?_
    · obtain ⟨rfl, hi⟩ := rng_get hd
      have fl := List.length_filter_le (fun x => decide (x ∉ ys)) left
      subst e1
      walk_at "OS"
      refine ⟨by rw [List.length_map]; omega, by rw [List.length_map]; omega, by omega, fun z2 z3 z4 => ?_⟩
      obtain ⟨k, x, h5, h6, h7, h8⟩ := pop_z z3 z4
      walk_at "OS"
      refine ⟨by rw [List.length_map]; omega, k, h5, _, h6, by decide, by decide, by omega, fun w w0 w1 => ?_⟩
      rw [h7]
      have nL : (x :: left.eraseIdx k).Nodup := h8.nodup_iff.mpr e5
      rw [List.nodup_cons] at nL
      have mL : ∀ y ∈ left.eraseIdx k, y ∈ left := fun y hy => h8.mem_iff.mp (.tail _ hy)
      have lL := h8.length_eq
      rw [List.length_cons] at lL
      have u1 := filt_perm (ys := ys) h8
      generalize left.eraseIdx k = L0 at *
      walk_at "OS"
      refine ⟨fun _ => ⟨by decide, by decide, by omega, fun v v0 v1 => ?_⟩, fun _ => ?_⟩
      · walk_at "OS"
        refine ⟨by omega, by omega, by rw [rng_len]; omega, ex_j (fun k acc ρ2 => ∃ m5, ∃ cs : List Nat, acc = (cs.map ltr).map .str ∧ ρ2 = [AV.tank m5, .d (.int T), .ml (L0.map .str), .d (.int (0 + (i : Int))), .ml (ys.map .str), .d (.str LET), .d (.str x), .no] ∧ (∀ c ∈ cs, c ∈ LET.cps.toList) ∧ cs.length = k ∧ m5 ≤ n + 60 * i + 3 + k) ⟨_, [], rfl, rfl, (fun _ h => by cases h), rfl, by omega⟩ (fun I3 hI3 k3 d acc ρ2 hd ⟨m5, cs, g1, g2, g3, g4, g5⟩ => ?_) fun acc ρ2 ⟨m5, cs, g1, g2, g3, g4, g5⟩ => ?_⟩
        · obtain ⟨rfl, hk⟩ := rng_get hd
          subst g1 g2
          walk_at "OS"
          refine ⟨by decide, by decide, by omega, fun z5 z6 z7 => ?_⟩
          walk_at "OS"
          obtain ⟨c, hc, ec⟩ := let_at z6 z7
          refine ⟨by decide, c, ec, hI3 _ _ _ ⟨m5 + 1, cs ++ [c], by rw [List.map_append, List.map_append]; rfl, rfl, fun y hy => ?_, by rw [List.length_append, g4]; rfl, by omega⟩⟩
          rcases List.mem_append.mp hy with hy | hy
          · exact g3 y hy
          · cases List.mem_singleton.mp hy; exact hc
        · subst g1 g2
          rw [rng_len] at g4 g5
          walk_at "OS"
          refine ⟨_, rfl, ?_, ?_⟩
          · rw [one_sum, List.length_map, show (Str.ofString "").length = 0 from rfl]
            omega
          · walk_at "OS"
            refine ex_w (fun mm ρ => ∃ m4, ∃ x2 : Str, ∃ L : List Str, ρ = [AV.tank m4, .d (.int T), .ml (L.map .str), .d (.int (0 + (i : Int))), .ml (ys.map .str), .d (.str LET), .d (.str x2), .no] ∧ Nm x2 ∧ L.Nodup ∧ (∀ y ∈ L, y ∈ left) ∧ L.length = mm ∧ (m4 + L.length ≤ n + 60 * i + 50 ∧ L.length ≤ 28) ∧ (28 ≤ (L.filter fun a => decide (a ∉ ys)).length + 2 * i + 1 ∨ (x2 ∉ L ∧ x2 ∉ ys ∧ x2 ∈ left ∧ 28 ≤ (L.filter fun a => decide (a ∉ ys)).length + 2 * i + 2))) ⟨_, _, _, L0, rfl, word_nm g3 (by omega) (by omega), nL.2, mL, rfl, ⟨by omega, by omega⟩, .inl (by split at u1 <;> omega)⟩ fun I1 hI1 mm ρ ⟨m4, x2, L, f1, f2, f3, f4, f5, f6, f7⟩ => ?_
            subst f1
            walk_at "OS"
            obtain ⟨f6, f8⟩ := f6
            have anyE : ([PyData.str (Str.ofString "mine"), PyData.str (Str.ofString "newone"), PyData.str (Str.ofString "nobody"), PyData.str (Str.ofString "notthere")].any fun y => eqFlat y (.str x2)) = decide (x2 ∈ EXL) := any_str (ss := EXL)
            rw [any_str, anyE]
            refine ⟨rfl, flat_str, fun z => ?_, fun z => ⟨by decide, rfl, rfl, fun zz => ?_, fun zz => ?_⟩⟩
            · have z : x2 ∈ ys := of_decide_eq_true z
              have fl4 := List.length_filter_le (fun a => decide (a ∉ ys)) L
              rcases f7 with f7 | ⟨_, g, g2, _⟩
              · refine ⟨by rw [List.length_map]; omega, by rw [List.length_map]; omega, by omega, fun z5 z6 z7 => ?_⟩
                obtain ⟨k2, x5, p5, p6, p7, p8⟩ := pop_z z6 z7
                have nL2 : (x5 :: L.eraseIdx k2).Nodup := p8.nodup_iff.mpr f3
                rw [List.nodup_cons] at nL2
                have u2 := filt_perm (ys := ys) p8
                have ll := p8.length_eq
                rw [List.length_cons] at ll
                refine ⟨_, _, rfl, rfl, by rw [List.length_map]; omega, k2, p5, _, p6, (L.eraseIdx k2).length, by omega, ?_⟩
                rw [p7]
                have hx5 : x5 ∈ left := f4 x5 (p8.mem_iff.mp (.head _))
                refine hI1 _ _ ⟨m4 + 1, x5, L.eraseIdx k2, rfl, e6 x5 hx5, nL2.2, fun y hy => f4 y (p8.mem_iff.mp (.tail _ hy)), rfl, ⟨by omega, by omega⟩, ?_⟩
                by_cases b : x5 ∈ ys
                · rw [if_pos b] at u2
                  exact .inl (by omega)
                · rw [if_neg b] at u2
                  exact .inr ⟨nL2.1, b, hx5, by omega⟩
              · exact absurd z g
            · have zz : x2 ∈ EXL := of_decide_eq_true zz
              have fl4 := List.length_filter_le (fun a => decide (a ∉ ys)) L
              rcases f7 with f7 | ⟨_, g, g2, _⟩
              · refine ⟨by rw [List.length_map]; omega, by rw [List.length_map]; omega, by omega, fun z5 z6 z7 => ?_⟩
                obtain ⟨k2, x5, p5, p6, p7, p8⟩ := pop_z z6 z7
                have nL2 : (x5 :: L.eraseIdx k2).Nodup := p8.nodup_iff.mpr f3
                rw [List.nodup_cons] at nL2
                have u2 := filt_perm (ys := ys) p8
                have ll := p8.length_eq
                rw [List.length_cons] at ll
                refine ⟨_, _, rfl, rfl, by rw [List.length_map]; omega, k2, p5, _, p6, (L.eraseIdx k2).length, by omega, ?_⟩
                rw [p7]
                have hx5 : x5 ∈ left := f4 x5 (p8.mem_iff.mp (.head _))
                refine hI1 _ _ ⟨m4 + 1, x5, L.eraseIdx k2, rfl, e6 x5 hx5, nL2.2, fun y hy => f4 y (p8.mem_iff.mp (.tail _ hy)), rfl, ⟨by omega, by omega⟩, ?_⟩
                by_cases b : x5 ∈ ys
                · rw [if_pos b] at u2
                  exact .inl (by omega)
                · rw [if_neg b] at u2
                  exact .inr ⟨nL2.1, b, hx5, by omega⟩
              · exact absurd zz (e10 x2 g2)
            · have z : x2 ∉ ys := of_decide_eq_false z
              obtain ⟨m1, m2⟩ := filt_more (ys := ys) (x := x2) f3
              refine ⟨by rw [List.length_map]; omega, hI _ _ ⟨m4, ys ++ [x2], L, _, _, by rw [List.map_append]; rfl, ?_, fun y hy => ?_, by rw [List.length_append, e4]; rfl, f3, fun y hy => e6 y (f4 y hy), ?_, f8, by omega, fun y hy => e10 y (f4 y hy)⟩⟩
              · refine List.nodup_append.mpr ⟨e2, by simp, fun a ha b hb e => ?_⟩
                cases List.mem_singleton.mp hb
                exact z (e ▸ ha)
              · rcases List.mem_append.mp hy with hy | hy
                · exact e3 y hy
                · cases List.mem_singleton.mp hy; exact f2
              · rcases f7 with f7 | ⟨g, _, _, f7⟩
                · omega
                · have := m2 g
                  omega
      · refine ex_w (fun mm ρ => ∃ m4, ∃ x2 : Str, ∃ L : List Str, ρ = [AV.tank m4, .d (.int T), .ml (L.map .str), .d (.int (0 + (i : Int))), .ml (ys.map .str), .d (.str LET), .d (.str x2), .no] ∧ Nm x2 ∧ L.Nodup ∧ (∀ y ∈ L, y ∈ left) ∧ L.length = mm ∧ (m4 + L.length ≤ n + 60 * i + 50 ∧ L.length ≤ 28) ∧ (28 ≤ (L.filter fun a => decide (a ∉ ys)).length + 2 * i + 1 ∨ (x2 ∉ L ∧ x2 ∉ ys ∧ x2 ∈ left ∧ 28 ≤ (L.filter fun a => decide (a ∉ ys)).length + 2 * i + 2))) ⟨_, _, _, L0, rfl, e6 x (h8.mem_iff.mp (.head _)), nL.2, mL, rfl, ⟨by omega, by omega⟩, .inl (by split at u1 <;> omega)⟩ fun I1 hI1 mm ρ ⟨m4, x2, L, f1, f2, f3, f4, f5, f6, f7⟩ => ?_
        subst f1
        walk_at "OS"
        obtain ⟨f6, f8⟩ := f6
        have anyE : ([PyData.str (Str.ofString "mine"), PyData.str (Str.ofString "newone"), PyData.str (Str.ofString "nobody"), PyData.str (Str.ofString "notthere")].any fun y => eqFlat y (.str x2)) = decide (x2 ∈ EXL) := any_str (ss := EXL)
        rw [any_str, anyE]
        refine ⟨rfl, flat_str, fun z => ?_, fun z => ⟨by decide, rfl, rfl, fun zz => ?_, fun zz => ?_⟩⟩
        · have z : x2 ∈ ys := of_decide_eq_true z
          have fl4 := List.length_filter_le (fun a => decide (a ∉ ys)) L
          rcases f7 with f7 | ⟨_, g, g2, _⟩
          · refine ⟨by rw [List.length_map]; omega, by rw [List.length_map]; omega, by omega, fun z5 z6 z7 => ?_⟩
            obtain ⟨k2, x5, p5, p6, p7, p8⟩ := pop_z z6 z7
            have nL2 : (x5 :: L.eraseIdx k2).Nodup := p8.nodup_iff.mpr f3
            rw [List.nodup_cons] at nL2
            have u2 := filt_perm (ys := ys) p8
            have ll := p8.length_eq
            rw [List.length_cons] at ll
            refine ⟨_, _, rfl, rfl, by rw [List.length_map]; omega, k2, p5, _, p6, (L.eraseIdx k2).length, by omega, ?_⟩
            rw [p7]
            have hx5 : x5 ∈ left := f4 x5 (p8.mem_iff.mp (.head _))
            refine hI1 _ _ ⟨m4 + 1, x5, L.eraseIdx k2, rfl, e6 x5 hx5, nL2.2, fun y hy => f4 y (p8.mem_iff.mp (.tail _ hy)), rfl, ⟨by omega, by omega⟩, ?_⟩
            by_cases b : x5 ∈ ys
            · rw [if_pos b] at u2
              exact .inl (by omega)
            · rw [if_neg b] at u2
              exact .inr ⟨nL2.1, b, hx5, by omega⟩
          · exact absurd z g
        · have zz : x2 ∈ EXL := of_decide_eq_true zz
          have fl4 := List.length_filter_le (fun a => decide (a ∉ ys)) L
          rcases f7 with f7 | ⟨_, g, g2, _⟩
          · refine ⟨by rw [List.length_map]; omega, by rw [List.length_map]; omega, by omega, fun z5 z6 z7 => ?_⟩
            obtain ⟨k2, x5, p5, p6, p7, p8⟩ := pop_z z6 z7
            have nL2 : (x5 :: L.eraseIdx k2).Nodup := p8.nodup_iff.mpr f3
            rw [List.nodup_cons] at nL2
            have u2 := filt_perm (ys := ys) p8
            have ll := p8.length_eq
            rw [List.length_cons] at ll
            refine ⟨_, _, rfl, rfl, by rw [List.length_map]; omega, k2, p5, _, p6, (L.eraseIdx k2).length, by omega, ?_⟩
            rw [p7]
            have hx5 : x5 ∈ left := f4 x5 (p8.mem_iff.mp (.head _))
            refine hI1 _ _ ⟨m4 + 1, x5, L.eraseIdx k2, rfl, e6 x5 hx5, nL2.2, fun y hy => f4 y (p8.mem_iff.mp (.tail _ hy)), rfl, ⟨by omega, by omega⟩, ?_⟩
            by_cases b : x5 ∈ ys
            · rw [if_pos b] at u2
              exact .inl (by omega)
            · rw [if_neg b] at u2
              exact .inr ⟨nL2.1, b, hx5, by omega⟩
          · exact absurd zz (e10 x2 g2)
        · have z : x2 ∉ ys := of_decide_eq_false z
          obtain ⟨m1, m2⟩ := filt_more (ys := ys) (x := x2) f3
          refine ⟨by rw [List.length_map]; omega, hI _ _ ⟨m4, ys ++ [x2], L, _, _, by rw [List.map_append]; rfl, ?_, fun y hy => ?_, by rw [List.length_append, e4]; rfl, f3, fun y hy => e6 y (f4 y hy), ?_, f8, by omega, fun y hy => e10 y (f4 y hy)⟩⟩
          · refine List.nodup_append.mpr ⟨e2, by simp, fun a ha b hb e => ?_⟩
            cases List.mem_singleton.mp hb
            exact z (e ▸ ha)
          · rcases List.mem_append.mp hy with hy | hy
            · exact e3 y hy
            · cases List.mem_singleton.mp hy; exact f2
          · rcases f7 with f7 | ⟨g, _, _, f7⟩
            · omega
            · have := m2 g
              omega
    · rw [rng_len] at e4 e9
      subst e1
      walk_at "OS"
      exact hq m3 ys (by omega) e2 e3 (by omega)

theorem sc_l_some : FnScope ["source", "size"] ["source", "size"] (defScope s_l_some) := ⟨rfl, rfl, rfl, by decide +kernel, rfl, by decide +kernel, by decide +kernel⟩

def sp_l_some : TSp := fun n ds q => match ds with
  | [.int many] => 0 ≤ many ∧ many ≤ 1000000 ∧ n ≤ 900000 ∧ ∀ m (z : Int), m ≤ n + 2 → 0 ≤ z → z ≤ many → q m (.d (.int z))
  | _ => False


theorem d_l_some {f : Addr} {fd : FuncData} (F : Fun K "_law_some" "_law_some" s_l_some f fd) (bd : Binds K fd ["source", "size"] []) (hmg : mg "_law_some" = some (.ref f)) (g_l_pick : FnT P w K mg base "_law_pick" ["source", "top"] 1 sp_l_pick) : FnT P w K mg base "_law_some" ["source", "size"] 2 sp_l_some := by
  refine fnT F sc_l_some (fun n ds q h => ?_) bd hmg fun cdv A outer s H E hr => (have hu := hr.1.roomy; ⟨_, (ass_one (as_ret (ae_if (AWt.at (aw_or (at_eqD hu (ae_var 1) ae_int) (aw_or1 (at_eqD hu (ae_callT g_l_pick ⟨hr.1.mono (by decide), hr.2⟩ (aa_slot 0 (aa_cons ae_int aa_nil))) ae_int)))) ae_int (ae_add ae_int (ae_callT g_l_pick ⟨hr.1.mono (by decide), hr.2⟩ (aa_slot 0 (aa_cons (ae_var 1) aa_nil))))))), fun n ds q h => ?_⟩)
  · unfold sp_l_some at h
    split at h <;> first | rfl | exact h.elim
  · unfold sp_l_some at h
    split at h
    rotate_left
    · exact h.elim
    rename_i many
    obtain ⟨h1, h2, h3, hq⟩ := h
    walk_at "OS"
    refine ⟨fun e => hq n 0 (by omega) (by decide) (by omega), fun e => ⟨by decide, by decide, by omega, fun z z0 z1 => ?_⟩⟩
    walk_at "OS"
    refine ⟨fun _ => hq (n + 1) 0 (by omega) (by decide) (by omega), fun _ => ⟨by omega, by omega, by omega, fun y y0 y1 => ?_⟩⟩
    walk_at "OS"
    exact hq (n + 1 + 1) (1 + y) (by omega) (by omega) (by omega)

theorem sc_l_saying : FnScope ["source", "sizes", "words", "word", "clauses", "picks", "owns", "room", "sight", "turn", "pick"] ["source", "sizes"] (defScope s_l_saying) := ⟨rfl, rfl, rfl, by decide +kernel, rfl, by decide +kernel, by decide +kernel⟩

def sp_l_saying : TSp := fun n ds q => match ds with
  | [.tuple [.int a, .int b, .int z, .int cl]] => 1 ≤ a ∧ a ≤ 6 ∧ 1 ≤ b ∧ b ≤ 8 ∧ 1 ≤ z ∧ z ≤ 120 ∧ 1 ≤ cl ∧ cl ≤ 40 ∧ n ≤ 600000 ∧ ∀ m p o c, m ≤ n + 20000 → SayW p o c → q m (.d (dSay p o c))
  | _ => False


theorem d_l_saying {f : Addr} {fd : FuncData} (F : Fun K "_law_saying" "_law_saying" s_l_saying f fd) (bd : Binds K fd ["source", "sizes"] []) (hmg : mg "_law_saying" = some (.ref f)) (b_sorted : mg "sorted" = none) (b_len : mg "len" = none) (b_tuple : mg "tuple" = none) (b_range : mg "range" = none) (b_set : mg "set" = none) (g_l_words : FnT P w K mg base "_law_words" ["source", "size"] 2 sp_l_words) (g_l_some : FnT P w K mg base "_law_some" ["source", "size"] 2 sp_l_some) (g_l_pick : FnT P w K mg base "_law_pick" ["source", "top"] 1 sp_l_pick) (g_l_clause : FnT P w K mg base "_law_clause" ["source", "words"] 2 sp_l_clause) : FnT P w K mg base "_law_saying" ["source", "sizes"] 3 sp_l_saying := by
  refine fnT F sc_l_saying (fun n ds q h => ?_) bd hmg fun cdv A outer s H E hr => (have hu := hr.1.roomy; ⟨_, (ass_cons (as_set 2 sc_l_saying.nd (ae_callT g_l_words ⟨hr.1.mono (by decide), hr.2⟩ (aa_slot 0 (aa_cons (ae_add (ae_ixD hu (ae_var 1) ae_int) (ae_ixD hu (ae_var 1) ae_int)) aa_nil)))) (ass_cons (as_par3 5 6 7 rfl sc_l_saying.nd (ah_d (ae_bi (bu_sortX rfl hu b_sorted) ps_sortX (aa_cons (ae_sl (ae_var 2) apt_none (apt_some (ae_callT g_l_some ⟨hr.1.mono (by decide), hr.2⟩ (aa_slot 0 (aa_cons (ae_ixD hu (ae_var 1) ae_int) aa_nil))))) aa_nil)) (ah_l (al_lst aa_nil) (ah_d (ae_ixD hu (ae_var 1) ae_int) ah_nil)))) (ass_cons (as_for (fun _ => PassesOwn.never) rfl (ai_seq (ae_sl (ae_var 2) (apt_some (ae_ixD hu (ae_var 1) ae_int)) (apt_some (ae_add (ae_ixD hu (ae_var 1) ae_int) (ae_callT g_l_some ⟨hr.1.mono (by decide), hr.2⟩ (aa_slot 0 (aa_cons (ae_ixD hu (ae_var 1) ae_int) aa_nil))))))) (ag_name 3 sc_l_saying.nd) (ass_cons (as_setLcM 8 (own := [("pick", 10)]) rfl sc_l_saying.nd (ai_seq (ae_var 5)) (fun _ => blkOk_by rfl) (ago_name 10 (by decide) sc_l_saying.nd) (ats_one (at_eqD hu (ae_callT g_l_pick ⟨hr.1.mono (by decide), hr.2⟩ (aa_slot 0 (aa_cons ae_int aa_nil))) ae_int)) (ae_var 10)) (ass_cons (as_while (fun _ => PassesOwn.never) (AWt.at (aw_and (at_gt (ae_biB (bu_lenX b_len) ps_lenX (aa_var 8 aa_nil)) ae_int) (aw_and1 (at_gt (ae_shl ae_int (ae_biB (bu_lenX b_len) ps_lenX (aa_var 8 aa_nil))) (ae_var 7))))) (ass_one (as_expr (ae_popAt 8 (ae_callT g_l_pick ⟨hr.1.mono (by decide), hr.2⟩ (aa_slot 0 (aa_cons (ae_biB (bu_lenX b_len) ps_lenX (aa_var 8 aa_nil)) aa_nil))))))) (ass_one (as_if (at_gt (ae_var 7) ae_int) (ass_cons (as_expr (ae_append 6 (ae_tup (aa_cons (ae_var 3) (aa_cons (ae_biB (bu_tuple b_tuple) ps_tuple (aa_var 8 aa_nil)) aa_nil))))) (ass_one (as_set 7 sc_l_saying.nd (ae_sub (ae_var 7) (ae_shl ae_int (ae_biB (bu_lenX b_len) ps_lenX (aa_var 8 aa_nil))))))) ass_nil))))) (ass_cons (as_drop 8 (as_set 2 sc_l_saying.nd (ae_add (ae_var 5) (AL.ae (al_lc (own := [("word", 3), ("sight", 8)]) rfl sc_l_saying.nd (ai_seq (ae_varA 6)) (fun _ => blkOk_by rfl) (ago_tup (n := 2) rfl (agos_cons (ago_name 3 (by decide) sc_l_saying.nd) (agos_cons (ago_name 8 (by decide) sc_l_saying.nd) agos_nil))) ats_nil (ae_var 3)))))) (ass_cons (as_setLc 4 (own := [("turn", 9)]) rfl sc_l_saying.nd (ai_rng1 (fun _ => rfl) b_range (aa_cons (ae_callT g_l_pick ⟨hr.1.mono (by decide), hr.2⟩ (aa_slot 0 (aa_cons (ae_add (ae_ixD hu (ae_var 1) ae_int) ae_int) aa_nil))) aa_nil)) (fun _ => blkOk_by rfl) (ago_name 9 (by decide) sc_l_saying.nd) ats_nil (ae_callT g_l_clause ⟨hr.1.mono (by decide), hr.2⟩ (aa_slot 0 (aa_cons (ae_var 2) aa_nil)))) (ass_one (as_ret (ae_tup (aa_cons (ae_bi (bu_tuple b_tuple) ps_tuple (aa_cons (ae_var 5) aa_nil)) (aa_cons (ae_bi (bu_tuple b_tuple) ps_tuple (aa_cons (AL.ae (al_biB (bu_sortX rfl hu b_sorted) ps_sortX (aa_var 6 aa_nil))) aa_nil)) (aa_cons (ae_bi (bu_tuple b_tuple) ps_tuple (aa_cons (AL.ae (al_sset rfl hu b_sorted b_set (aa_cons (ae_var 4) aa_nil))) aa_nil)) aa_nil))))))))))), fun n ds q h => ?_⟩)
  · unfold sp_l_saying at h
    split at h <;> first | rfl | exact h.elim
  · unfold sp_l_saying at h
    split at h
    rotate_left
    · exact h.elim
    rename_i a b z cl
    obtain ⟨a1, a6, b1, b8, z1, z120, c1, c40, hn, hq⟩ := h
    walk_at "OS"
    refine ⟨by omega, by omega, by omega, fun m1 ws l1 wn wm wl => ⟨by omega, by omega, by omega, fun m2 i2 l2 i0 ia => ?_⟩⟩
    obtain ⟨A, rfl⟩ := Int.eq_ofNat_of_zero_le (show 0 ≤ a by omega)
    obtain ⟨i2, rfl⟩ := Int.eq_ofNat_of_zero_le i0
    walk_at "OS"
    rw [cut_to]
    obtain ⟨sp1, sp2⟩ := sort_strs (ss := ws.take i2) ((List.take_sublist _ _).nodup wn)
    refine ⟨sp1, fun us hu => ?_⟩
    obtain ⟨p, rfl, p1, p2⟩ := sp2 us hu
    have pl := p1.length_eq
    rw [List.length_take] at pl
    refine ⟨by decide, by omega, by omega, by omega, fun m3 i3 l3 i30 ib => ?_⟩
    obtain ⟨j, rfl⟩ := Int.eq_ofNat_of_zero_le i30
    walk_at "OS"
    rw [cut_ab]
    have pw : ∀ s ∈ p, s ∈ ws.take A := fun s hs => by
      have h := p1.mem_iff.mp hs
      exact List.mem_of_mem_take (i := i2) (by rw [List.take_take, Nat.min_eq_left (by omega)]; exact h)
    obtain ⟨N, eN⟩ : ∃ N, N = (ws.drop A).take j := ⟨_, rfl⟩
    have Nd : ∀ s ∈ N, s ∈ ws.drop A := fun s hs => List.mem_of_mem_take (by rw [← eN]; exact hs)
    have Nn : N.Nodup := by rw [eN]; exact (List.take_sublist _ _).nodup ((List.drop_sublist _ _).nodup wn)
    have Nl : N.length ≤ 8 := by rw [eN, List.length_take]; omega
    have Np : ∀ s ∈ N, s ∉ p := fun s hs h => by
      have n0 : (ws.take A ++ ws.drop A).Nodup := by rw [List.take_append_drop]; exact wn
      exact (List.nodup_append.mp n0).2.2 s (pw s h) s (Nd s hs) rfl
    have Nm1 : ∀ s ∈ N, Nm s := fun s hs => wm s (List.mem_of_mem_drop (Nd s hs))
    have pm1 : ∀ s ∈ p, Nm s := fun s hs => wm s (List.mem_of_mem_take (pw s hs))
    rw [← eN]
    refine ex_fx (fun k ρ => ∃ m os room y3 y4 y8, ρ = [AV.tank m, .d (.tuple [.int A, .int b, .int z, .int cl]), .d (.list (ws.map .str)), y3, y4, .d (.list (p.map .str)), .ml (os.map dO), .d (.int room), y8, .no, .no] ∧ (os.map (·.1)).Sublist (N.take k) ∧ (∀ x ∈ os, x.2.Sublist p) ∧ room + (os.map fun x => (2 : Int) ^ x.2.length).sum = z ∧ 0 ≤ room ∧ m ≤ m3 + 20 * k ∧ vol y3 = false) ⟨m3, [], z, _, _, _, rfl, List.nil_sublist _, (fun _ h => by cases h), (by simp), by omega, by omega, rfl⟩ (fun I hI k nm ρ2 hx xm tk ⟨m4, os, room, y3, y4, y8, e1, e2, e3, e4, e5, e6, e7⟩ => ?_) fun ρ2 ⟨m4, os, room, y3, y4, y8, e1, e2, e3, e4, e5, e6, e7⟩ => ?_
    · have lk := (List.getElem?_eq_some_iff.mp hx).1
      have p6 : p.length ≤ 6 := by omega
      subst e1
      walk_at "OS"
      refine ⟨by rw [List.length_map]; omega, ex_jx (fun i acc ρ2 => ∃ m5, ∃ ys : List Str, ρ2 = [AV.tank m5, .d (.tuple [.int A, .int b, .int z, .int cl]), .d (.list (ws.map .str)), .d (.str nm), y4, .d (.list (p.map .str)), .ml (os.map dO), .d (.int room), y8, .no, .no] ∧ acc = ys.map PyData.str ∧ ys.Sublist (p.take i) ∧ m5 ≤ m4 + i) ⟨_, [], rfl, rfl, List.nil_sublist _, by omega⟩ (fun I1 hI1 i x acc ρ2 h3 _ tk2 ⟨m5, ys, f1, f2, f3, f4⟩ => ?_) fun acc ρ2 ⟨m5, ys, f1, f2, f3, f4⟩ => ?_⟩
      · have li := (List.getElem?_eq_some_iff.mp h3).1
        subst f1 f2
        walk_at "OS"
        refine ⟨by decide, by decide, by omega, fun w w0 w1 => ?_⟩
        walk_at "OS"
        refine ⟨fun _ => hI1 _ _ _ ⟨m5 + 1, ys ++ [x], rfl, by rw [List.map_append]; rfl, by rw [tk2]; exact List.Sublist.append f3 (List.Sublist.refl _), by omega⟩, fun _ => hI1 _ _ _ ⟨m5 + 1, ys, rfl, rfl, by rw [tk2]; exact f3.trans (List.sublist_append_left _ _), by omega⟩⟩
      · subst f1 f2
        rw [List.take_length] at f3
        have yl := f3.length_le
        walk_at "OS"
        refine ex_w (fun mm ρ => ∃ m6 ts, ρ = [AV.tank m6, .d (.tuple [.int A, .int b, .int z, .int cl]), .d (.list (ws.map .str)), .d (.str nm), y4, .d (.list (p.map .str)), .ml (os.map dO), .d (.int room), .ml (ts.map PyData.str), .no, .no] ∧ ts.length = mm ∧ ts.Sublist p ∧ m6 + ts.length ≤ m5 + ys.length) ⟨_, _, ys, rfl, rfl, f3, Nat.le_refl _⟩ fun I2 hI2 mm ρ ⟨m6, ts, g1, g2, g3, g4⟩ => ?_
        have tl := g3.length_le
        subst g1
        obtain ⟨s1, s2⟩ := shl_ok (n := (ts.map PyData.str).length) (by rw [List.length_map]; omega)
        walk_at "OS"
        rw [s2]
        rw [List.length_map] at s1 ⊢
        have p64 : 2 ^ ts.length ≤ 64 := Nat.le_trans (Nat.pow_le_pow_right (by decide) (show ts.length ≤ 6 by omega)) (by decide)
        have one : 1 ≤ 2 ^ ts.length := Nat.one_le_two_pow
        have cst : ((2 ^ ts.length : Nat) : Int) = (2 : Int) ^ ts.length := by simp
        have zer : ts.length = 0 → 2 ^ ts.length = 1 := fun e => by rw [e]
        obtain ⟨M, eM⟩ : ∃ M, M = 2 ^ ts.length := ⟨_, rfl⟩
        rw [← eM] at p64 one cst zer ⊢
        have osl := e2.length_le
        rw [List.length_map, List.length_take] at osl
        refine ⟨fun t0 => ⟨s1, fun lt => ?_, fun ge => ⟨fun r0 => ⟨lf_strs, by decide, by rw [List.length_map]; omega, s1, hI _ _ ⟨m6, os ++ [(nm, ts)], room - M, .d (.str nm), y4, .ml (ts.map .str), by rw [List.map_append]; rfl, by rw [List.map_append, tk]; exact List.Sublist.append e2 (List.Sublist.refl _), fun x hx => (List.mem_append.mp hx).elim (e3 x) fun h => (by cases List.mem_singleton.mp h; exact g3), by rw [List.map_append, List.sum_append, List.map_cons, List.map_nil, List.sum_cons, List.sum_nil, ← cst]; omega, by omega, by omega, rfl⟩⟩, fun r0 => hI _ _ ⟨m6, os, room, .d (.str nm), y4, .ml (ts.map .str), rfl, by rw [tk]; exact e2.trans (List.sublist_append_left _ _), e3, e4, e5, by omega, rfl⟩⟩⟩, fun t0 => ⟨fun r0 => ⟨lf_strs, by decide, by rw [List.length_map]; omega, s1, hI _ _ ⟨m6, os ++ [(nm, ts)], room - M, .d (.str nm), y4, .ml (ts.map .str), by rw [List.map_append]; rfl, by rw [List.map_append, tk]; exact List.Sublist.append e2 (List.Sublist.refl _), fun x hx => (List.mem_append.mp hx).elim (e3 x) fun h => (by cases List.mem_singleton.mp h; exact g3), by rw [List.map_append, List.sum_append, List.map_cons, List.map_nil, List.sum_cons, List.sum_nil, ← cst]; omega, by omega, by omega, rfl⟩⟩, fun r0 => hI _ _ ⟨m6, os, room, .d (.str nm), y4, .ml (ts.map .str), rfl, by rw [tk]; exact e2.trans (List.sublist_append_left _ _), e3, e4, e5, by omega, rfl⟩⟩⟩
        refine ⟨by omega, by omega, by omega, fun z5 z6 z7 => ?_⟩
        obtain ⟨kk, x, q1, q2, q3, q4⟩ := pop_z (xs := ts) (f := PyData.str) z6 (by rw [List.length_map]; exact z7)
        have q5 := q4.length_eq
        rw [List.length_cons] at q5
        refine ⟨_, _, rfl, rfl, by rw [List.length_map]; omega, kk, q1, ⟨_, q2⟩, (ts.eraseIdx kk).length, by omega, ?_⟩
        rw [q3]
        exact hI2 _ _ ⟨m6 + 1, ts.eraseIdx kk, rfl, rfl, (List.eraseIdx_sublist ts kk).trans g3, by omega⟩
    · subst e1
      rw [List.take_length] at e2
      have el := e2.length_le
      rw [List.length_map] at el
      walk_at "OS"
      refine ⟨by rw [List.length_map]; omega, ex_xm (fun x => .str x.1) (fun I1 i x acc hx hI1 => ?_) ?_⟩
      · unfold dO
        walk_at "OS"
        exact ⟨e7, hI1⟩
      have enn : p.map PyData.str ++ os.map (fun x => PyData.str x.1) = (p ++ os.map (·.1)).map .str := by rw [List.map_append, List.map_map]; rfl
      walk_at "OS"
      rw [enn]
      have frn : (p ++ os.map (·.1)).Nodup := List.nodup_append.mpr ⟨p1.nodup_iff.mpr ((List.take_sublist _ _).nodup wn), e2.nodup Nn, fun a ha b hb e => Np b (e2.mem hb) (e ▸ ha)⟩
      have frm : ∀ s ∈ p ++ os.map (·.1), Nm s := fun s hs => (List.mem_append.mp hs).elim (pm1 s) fun h => Nm1 s (e2.mem h)
      have frl : (p ++ os.map (·.1)).length ≤ 14 := by rw [List.length_append, List.length_map]; omega
      refine ⟨by rw [List.length_map, List.length_map]; omega, by omega, by omega, by omega, fun w w0 w1 => ?_⟩
      obtain ⟨W, rfl⟩ := Int.eq_ofNat_of_zero_le w0
      walk_at "OS"
      refine ⟨by omega, by omega, by rw [rng_len]; omega, ex_j (fun i acc ρ2 => ∃ m5, ∃ cs : List (List (Str × Bool)), ρ2 = [AV.tank m5, .d (.tuple [.int A, .int b, .int z, .int cl]), .d (.list ((p ++ os.map (·.1)).map .str)), y3, y4, .d (.list (p.map .str)), .d (.list (os.map dO)), .d (.int room), .no, .no, .no] ∧ acc = cs.map dC ∧ (∀ x ∈ cs, ClOk (p ++ os.map (·.1)) x) ∧ cs.length = i ∧ m5 ≤ m4 + 1 + 40 * i) ⟨_, [], rfl, rfl, (fun _ h => by cases h), rfl, by omega⟩ (fun I2 hI2 i d acc ρ2 hd ⟨m5, cs, f1, f2, f3, f4, f5⟩ => ?_) fun acc ρ2 ⟨m5, cs, f1, f2, f3, f4, f5⟩ => ?_⟩
      · obtain ⟨rfl, hi⟩ := rng_get hd
        subst f1 f2
        walk_at "OS"
        refine ⟨_, rfl, frn, frl, frm, by omega, fun m6 c lc co => ?_⟩
        walk_at "OS"
        refine hI2 _ _ _ ⟨m6, cs ++ [c], rfl, by rw [List.map_append]; rfl, fun x hx => ?_, by rw [List.length_append, f4]; rfl, by omega⟩
        rcases List.mem_append.mp hx with h | h
        · exact f3 x h
        · cases List.mem_singleton.mp h; exact co
      · rw [rng_len] at f4 f5
        subst f1 f2
        have on : (os.map (·.1)).Nodup := e2.nodup Nn
        obtain ⟨so1, so2⟩ := sort_owns on
        walk_at "OS"
        refine ⟨so1, fun us hu => ?_⟩
        obtain ⟨o, rfl, o1, o2⟩ := so2 us hu
        have lfo : ∀ x : Str × List Str, lf (dO x) = true := fun x => by unfold dO; simp only [lf, lfAll, lf_strs, Bool.and_self]
        have k1 : ∀ d ∈ cs.map dC, (∃ x, d = PyData.tuple x) ∧ ∃ k, keyOf d = some k ∧ k.depth ≤ 8 := fun d hd => by
          obtain ⟨c, _, rfl⟩ := List.mem_map.mp hd
          obtain ⟨ys, k, g1, g2, g3⟩ := key_dC c
          exact ⟨⟨ys, g1⟩, k, g2, g3⟩
        refine ⟨lf_map lfo, by rw [List.length_map]; omega, k1, (ok_clauses cs).1, (ok_clauses cs).2, fun ys hs => ?_⟩
        obtain ⟨c, rfl, c1, c2, c3⟩ := sort_clauses hs
        have oo : ∀ x ∈ o, x ∈ os := fun x hx => o1.mem_iff.mp hx
        have on2 : ∀ s ∈ o.map (·.1), s ∈ os.map (·.1) := fun s hs => (o1.map (·.1)).mem_iff.mp hs
        have fr : FrOk p o := ⟨pm1, p2, by omega, fun x hx => ?_, by have := o1.length_eq; omega, o2, ?_⟩
        · refine ⟨by decide, hq m5 p o c (by omega) ⟨fr, by omega, c3, fun x hx => ?_⟩⟩
          have co := f3 x (c1 x hx)
          refine ⟨fun y hy => ?_, co.asc⟩
          have hm := co.mem y hy
          rw [List.mem_append] at hm ⊢
          exact hm.imp_right fun h => (o1.map (·.1)).mem_iff.mpr h
        · have xo := oo x hx
          have xN : x.1 ∈ N := e2.mem (List.mem_map_of_mem xo)
          exact ⟨Nm1 _ xN, Np _ xN, fun s hs => (e3 x xo).mem hs, p2.sublist (e3 x xo)⟩
        · have sm := perm_sum (o1.map fun x => (2 : Int) ^ x.2.length)
          rw [sm]
          omega

theorem sc_l_law : FnScope ["script", "k", "source", "sizes"] ["script"] (defScope s_l_law) := ⟨rfl, rfl, rfl, by decide +kernel, rfl, by decide +kernel, by decide +kernel⟩

def sp_l_law : PSp := fun ds q => match ds with
  | [.list xs] => ∃ ns : List Int, xs = ns.map .int ∧ (∀ i ∈ ns, i.natAbs < 2 ^ 1048576) ∧ ns.length ≤ 16777215 ∧ q (.d (.bool true))
  | _ => False


theorem e_l_law {f : Addr} {fd : FuncData} (F : Fun K "law" "law" s_l_law f fd) (bd : Binds K fd ["script"] []) (hmg : mg "law" = some (.ref f)) (b_range : mg "range" = none) (b_max : mg "max" = none) (b_min : mg "min" = none) (b_len : mg "len" = none) (g_l_source : FnP P w K mg base "_law_source" ["script", "k"] 1 sp_l_source) (g_l_right : FnT P w K mg base "_law_right" ["source", "saying"] 9 sp_l_right) (g_l_saying : FnT P w K mg base "_law_saying" ["source", "sizes"] 3 sp_l_saying) : FnG P w K mg base 10 f fd ["script"] (cP ⟨K, w, P⟩ sp_l_law) := by
  refine fnPG F sc_l_law (fun ds q h => ?_) fun cdv A outer s H E hr => (have hu := hr.1.roomy; ⟨_, (ass_cons (as_for (fun _ => PassesOwn.never) rfl (ai_rng1 (fun _ => rfl) b_range (aa_cons (ae_bi (bu_max2 rfl b_max) ps_max2 (aa_cons ae_int (aa_cons (ae_bi (bu_min2 rfl b_min) ps_min2 (aa_cons ae_int (aa_cons (ae_bi (bu_lenX b_len) ps_lenX (aa_cons (ae_var 0) aa_nil)) aa_nil))) aa_nil))) aa_nil)) (ag_name 1 sc_l_law.nd) (ass_cons (as_setM 2 sc_l_law.nd (al_call g_l_source ⟨hr.1.mono (by decide), hr.2⟩ (aa_cons (ae_var 0) (aa_cons (ae_var 1) aa_nil)))) (ass_one (as_for (fun _ => PassesOwn.never) rfl (ai_seq (AL.ae (al_lst (aa_cons (ae_tup (aa_cons ae_int (aa_cons ae_int (aa_cons ae_int (aa_cons ae_int aa_nil))))) (aa_cons (ae_tup (aa_cons ae_int (aa_cons ae_int (aa_cons ae_int (aa_cons ae_int aa_nil))))) (aa_cons (ae_tup (aa_cons ae_int (aa_cons ae_int (aa_cons ae_int (aa_cons ae_int aa_nil))))) aa_nil)))))) (ag_name 3 sc_l_law.nd) (ass_one (as_if (at_not (at_val (ae_callT g_l_right ⟨hr.1.mono (by decide), hr.2⟩ (aa_slot 2 (aa_cons (ae_callT g_l_saying ⟨hr.1.mono (by decide), hr.2⟩ (aa_slot 2 (aa_cons (ae_var 3) aa_nil))) aa_nil))))) (ass_one (as_ret ae_bl)) ass_nil)))))) (ass_one (as_ret ae_bl))), fun ds q h => ?_⟩)
  · unfold sp_l_law at h
    split at h <;> first | rfl | exact h.elim
  · unfold sp_l_law at h
    split at h
    rotate_left
    · exact h.elim
    obtain ⟨ns, rfl, hb, hl, hq⟩ := h
    walk_at "OS"
    have hT : ∃ T : Nat, (if (if ((ns.map PyData.int).length : Int) < 2 then ((ns.map PyData.int).length : Int) else 2) > 1 then (if ((ns.map PyData.int).length : Int) < 2 then ((ns.map PyData.int).length : Int) else 2) else 1) = T ∧ T ≤ 2 := by
      rw [List.length_map]
      refine ⟨(if (if (ns.length : Int) < 2 then (ns.length : Int) else 2) > 1 then (if (ns.length : Int) < 2 then (ns.length : Int) else 2) else 1).toNat, ?_, ?_⟩ <;> split <;> split <;> omega
    obtain ⟨T, eT, lT⟩ := hT
    rw [eT]
    refine ⟨by omega, by omega, ex_f (fun i ρ2 => ∃ y1 y2 y3, ρ2 = [AV.d (.list (ns.map .int)), y1, y2, y3]) ⟨_, _, _, rfl⟩ (fun I hI i d ρ2 hd ⟨y1, y2, y3, e1⟩ => ?_) fun ρ2 _ => hq⟩
    obtain ⟨rfl, hi⟩ := rng_get hd
    subst e1
    walk_at "OS"
    refine ⟨ns, rfl, hb, hl, by omega, by omega, fun a b a0 b0 b1 => ?_⟩
    walk_at "OS"
    refine ⟨by decide, by decide, by decide, by decide, ex_f (fun j ρ2 => ∃ a b c m y3, ρ2 = [AV.d (.list (ns.map .int)), .d (.int (0 + (i : Int))), .ml [.int a, .int b, .int c], y3] ∧ TankOk a b c m ∧ m ≤ 30000 * j) ⟨a, b, 0, 0, _, rfl, ⟨a0, b0, b1, by decide, by decide⟩, by decide⟩ (fun I2 hI2 j d ρ2 hd ⟨a, b, c, m, y3, e1, tk, le⟩ => ?_) fun ρ2 ⟨a, b, c, m, y3, e1, tk, le⟩ => ?_⟩
    · have lj : j < 3 := (List.getElem?_eq_some_iff.mp hd).1
      obtain ⟨sa, sb, sz, sc, rfl, g1, g2, g3, g4, g5, g6, g7, g8⟩ : ∃ sa sb sz sc : Int, d = .tuple [.int sa, .int sb, .int sz, .int sc] ∧ 1 ≤ sa ∧ sa ≤ 6 ∧ 1 ≤ sb ∧ sb ≤ 8 ∧ 1 ≤ sz ∧ sz ≤ 120 ∧ 1 ≤ sc ∧ sc ≤ 40 := by
        have hm := List.mem_of_getElem? hd
        simp only [List.mem_cons, List.not_mem_nil, or_false] at hm
        rcases hm with rfl | rfl | rfl <;> exact ⟨_, _, _, _, rfl, by decide, by decide, by decide, by decide, by decide, by decide, by decide, by decide⟩
      subst e1
      walk_at "OS"
      refine ⟨m, tk, g1, g2, g3, g4, g5, g6, g7, g8, by omega, fun m2 p o c' lm sw a2 b2 c2 tk2 => ?_⟩
      walk_at "OS"
      refine ⟨m2, tk2, p, o, c', rfl, sw.ok, by omega, fun m3 l3 a3 b3 c3 tk3 => ?_⟩
      walk_at "OS"
      exact hI2 _ _ ⟨_, _, _, m3, _, rfl, tk3, by omega⟩
    · subst e1
      exact hI _ _ ⟨_, _, _, rfl⟩

theorem d_l_law {f : Addr} {fd : FuncData} (F : Fun K "law" "law" s_l_law f fd) (bd : Binds K fd ["script"] []) (hmg : mg "law" = some (.ref f)) (b_range : mg "range" = none) (b_max : mg "max" = none) (b_min : mg "min" = none) (b_len : mg "len" = none) (g_l_source : FnP P w K mg base "_law_source" ["script", "k"] 1 sp_l_source) (g_l_right : FnT P w K mg base "_law_right" ["source", "saying"] 9 sp_l_right) (g_l_saying : FnT P w K mg base "_law_saying" ["source", "sizes"] 3 sp_l_saying) : FnP P w K mg base "law" ["script"] 10 sp_l_law := ⟨f, fd, hmg, F.kp, bd, e_l_law F bd hmg b_range b_max b_min b_len g_l_source g_l_right g_l_saying⟩

/-! what the top has written -/
theorem all_mk {P : Program} {w : World} {K : PySem.W.Frag} {h : Heap} {mg : Str → Option Value} {fa : Addr} (X : K.In h) (G : h.Ns mainGlobals mg) (hfa : mg "law" = some (.ref fa))
    {oc0 kV0 dc0 pm0 cd0 ct0 : Value} {od0 an0 : Option Addr} {sl0 : Array (Option Value)} {f0 : Addr}
    {oc1 kV1 dc1 pm1 cd1 ct1 : Value} {od1 an1 : Option Addr} {sl1 : Array (Option Value)} {f1 : Addr}
    {oc2 kV2 dc2 pm2 cd2 ct2 : Value} {od2 an2 : Option Addr} {sl2 : Array (Option Value)} {f2 : Addr}
    {oc3 kV3 dc3 pm3 cd3 ct3 : Value} {od3 an3 : Option Addr} {sl3 : Array (Option Value)} {f3 : Addr}
    {oc4 kV4 dc4 pm4 cd4 ct4 : Value} {od4 an4 : Option Addr} {sl4 : Array (Option Value)} {f4 : Addr}
    {oc5 kV5 dc5 pm5 cd5 ct5 : Value} {od5 an5 : Option Addr} {sl5 : Array (Option Value)} {f5 : Addr}
    {oc6 kV6 dc6 pm6 cd6 ct6 : Value} {od6 an6 : Option Addr} {sl6 : Array (Option Value)} {f6 : Addr}
    {oc7 kV7 dc7 pm7 cd7 ct7 : Value} {od7 an7 : Option Addr} {sl7 : Array (Option Value)} {f7 : Addr}
    {oc8 kV8 dc8 pm8 cd8 ct8 : Value} {od8 an8 : Option Addr} {sl8 : Array (Option Value)} {f8 : Addr}
    {oc9 kV9 dc9 pm9 cd9 ct9 : Value} {od9 an9 : Option Addr} {sl9 : Array (Option Value)} {f9 : Addr}
    {oc10 kV10 dc10 pm10 cd10 ct10 : Value} {od10 an10 : Option Addr} {sl10 : Array (Option Value)} {f10 : Addr}
    {oc11 kV11 dc11 pm11 cd11 ct11 : Value} {od11 an11 : Option Addr} {sl11 : Array (Option Value)} {f11 : Addr}
    {oc12 kV12 dc12 pm12 cd12 ct12 : Value} {od12 an12 : Option Addr} {sl12 : Array (Option Value)} {f12 : Addr}
    {oc13 kV13 dc13 pm13 cd13 ct13 : Value} {od13 an13 : Option Addr} {sl13 : Array (Option Value)} {f13 : Addr}
    {oc14 kV14 dc14 pm14 cd14 ct14 : Value} {od14 an14 : Option Addr} {sl14 : Array (Option Value)} {f14 : Addr}
    {oc15 kV15 dc15 pm15 cd15 ct15 : Value} {od15 an15 : Option Addr} {sl15 : Array (Option Value)} {f15 : Addr}
    {oc16 kV16 dc16 pm16 cd16 ct16 : Value} {od16 an16 : Option Addr} {sl16 : Array (Option Value)} {f16 : Addr}
    {oc17 kV17 dc17 pm17 cd17 ct17 : Value} {od17 an17 : Option Addr} {sl17 : Array (Option Value)} {f17 : Addr}
    {oc18 kV18 dc18 pm18 cd18 ct18 : Value} {od18 an18 : Option Addr} {sl18 : Array (Option Value)} {f18 : Addr}
    {oc19 kV19 dc19 pm19 cd19 ct19 : Value} {od19 an19 : Option Addr} {sl19 : Array (Option Value)} {f19 : Addr}
    {oc20 kV20 dc20 pm20 cd20 ct20 : Value} {od20 an20 : Option Addr} {sl20 : Array (Option Value)} {f20 : Addr}
    {oc21 kV21 dc21 pm21 cd21 ct21 : Value} {od21 an21 : Option Addr} {sl21 : Array (Option Value)} {f21 : Addr}
    {oc22 kV22 dc22 pm22 cd22 ct22 : Value} {od22 an22 : Option Addr} {sl22 : Array (Option Value)} {f22 : Addr}
    {oc23 kV23 dc23 pm23 cd23 ct23 : Value} {od23 an23 : Option Addr} {sl23 : Array (Option Value)} {f23 : Addr}
    {oc24 kV24 dc24 pm24 cd24 ct24 : Value} {od24 an24 : Option Addr} {sl24 : Array (Option Value)} {f24 : Addr}
    {oc25 kV25 dc25 pm25 cd25 ct25 : Value} {od25 an25 : Option Addr} {sl25 : Array (Option Value)} {f25 : Addr}
    {oc26 kV26 dc26 pm26 cd26 ct26 : Value} {od26 an26 : Option Addr} {sl26 : Array (Option Value)} {f26 : Addr}
    {oc27 kV27 dc27 pm27 cd27 ct27 : Value} {od27 an27 : Option Addr} {sl27 : Array (Option Value)} {f27 : Addr}
    {oc28 kV28 dc28 pm28 cd28 ct28 : Value} {od28 an28 : Option Addr} {sl28 : Array (Option Value)} {f28 : Addr}
    {oc29 kV29 dc29 pm29 cd29 ct29 : Value} {od29 an29 : Option Addr} {sl29 : Array (Option Value)} {f29 : Addr}
    {oc30 kV30 dc30 pm30 cd30 ct30 : Value} {od30 an30 : Option Addr} {sl30 : Array (Option Value)} {f30 : Addr}
    {oc31 kV31 dc31 pm31 cd31 ct31 : Value} {od31 an31 : Option Addr} {sl31 : Array (Option Value)} {f31 : Addr}
    {oc32 kV32 dc32 pm32 cd32 ct32 : Value} {od32 an32 : Option Addr} {sl32 : Array (Option Value)} {f32 : Addr}
    {oc33 kV33 dc33 pm33 cd33 ct33 : Value} {od33 an33 : Option Addr} {sl33 : Array (Option Value)} {f33 : Addr}
    {oc34 kV34 dc34 pm34 cd34 ct34 : Value} {od34 an34 : Option Addr} {sl34 : Array (Option Value)} {f34 : Addr}
    {oc35 kV35 dc35 pm35 cd35 ct35 : Value} {od35 an35 : Option Addr} {sl35 : Array (Option Value)} {f35 : Addr}
    {oc36 kV36 dc36 pm36 cd36 ct36 : Value} {od36 an36 : Option Addr} {sl36 : Array (Option Value)} {f36 : Addr}
    {oc37 kV37 dc37 pm37 cd37 ct37 : Value} {od37 an37 : Option Addr} {sl37 : Array (Option Value)} {f37 : Addr}
    {oc38 kV38 dc38 pm38 cd38 ct38 : Value} {od38 an38 : Option Addr} {sl38 : Array (Option Value)} {f38 : Addr}
    {oc39 kV39 dc39 pm39 cd39 ct39 : Value} {od39 an39 : Option Addr} {sl39 : Array (Option Value)} {f39 : Addr}
    {oc40 kV40 dc40 pm40 cd40 ct40 : Value} {od40 an40 : Option Addr} {sl40 : Array (Option Value)} {f40 : Addr}
    {oc41 kV41 dc41 pm41 cd41 ct41 : Value} {od41 an41 : Option Addr} {sl41 : Array (Option Value)} {f41 : Addr}
    {oc42 kV42 dc42 pm42 cd42 ct42 : Value} {od42 an42 : Option Addr} {sl42 : Array (Option Value)} {f42 : Addr}
    {oc43 kV43 dc43 pm43 cd43 ct43 : Value} {od43 an43 : Option Addr} {sl43 : Array (Option Value)} {f43 : Addr}
    {oc44 kV44 dc44 pm44 cd44 ct44 : Value} {od44 an44 : Option Addr} {sl44 : Array (Option Value)} {f44 : Addr}
    {t_LETTERS : Tok}
    {t_MOST_CLAUSES : Tok}
    {t_MOST_COPIES : Tok}
    {t_MOST_LETTERS : Tok}
    {t_MOST_OWNS : Tok}
    {t_MOST_PICKS : Tok}
    (a0 : PySem.W.nsIn K mainGlobals "_law_source" = some (some (.ref f0)))
    (l0 : K.lookup f0 = some ⟨oc0, od0, .func (PySem.W.fnOf "_law_source" "_law_source" (defArgs s_l_source) (defBody s_l_source) (defScope s_l_source) .none kV0 dc0 pm0 an0 cd0 ct0), sl0⟩)
    (e0 : PySem.W.codeIn K cd0 "_law_source" = true)
    (k0 : PySem.W.keepIn K (.ref f0) = true)
    (a1 : PySem.W.nsIn K mainGlobals "_law_same" = some (some (.ref f1)))
    (l1 : K.lookup f1 = some ⟨oc1, od1, .func (PySem.W.fnOf "_law_same" "_law_same" (defArgs s_l_same) (defBody s_l_same) (defScope s_l_same) .none kV1 dc1 pm1 an1 cd1 ct1), sl1⟩)
    (e1 : PySem.W.codeIn K cd1 "_law_same" = true)
    (k1 : PySem.W.keepIn K (.ref f1) = true)
    (a2 : PySem.W.nsIn K mainGlobals "_law_plays" = some (some (.ref f2)))
    (l2 : K.lookup f2 = some ⟨oc2, od2, .func (PySem.W.fnOf "_law_plays" "_law_plays" (defArgs s_l_plays) (defBody s_l_plays) (defScope s_l_plays) .none kV2 dc2 pm2 an2 cd2 ct2), sl2⟩)
    (e2 : PySem.W.codeIn K cd2 "_law_plays" = true)
    (k2 : PySem.W.keepIn K (.ref f2) = true)
    (a3 : PySem.W.nsIn K mainGlobals "_law_spot" = some (some (.ref f3)))
    (l3 : K.lookup f3 = some ⟨oc3, od3, .func (PySem.W.fnOf "_law_spot" "_law_spot" (defArgs s_l_spot) (defBody s_l_spot) (defScope s_l_spot) .none kV3 dc3 pm3 an3 cd3 ct3), sl3⟩)
    (e3 : PySem.W.codeIn K cd3 "_law_spot" = true)
    (k3 : PySem.W.keepIn K (.ref f3) = true)
    (a4 : PySem.W.nsIn K mainGlobals "_law_copies" = some (some (.ref f4)))
    (l4 : K.lookup f4 = some ⟨oc4, od4, .func (PySem.W.fnOf "_law_copies" "_law_copies" (defArgs s_l_copies) (defBody s_l_copies) (defScope s_l_copies) .none kV4 dc4 pm4 an4 cd4 ct4), sl4⟩)
    (e4 : PySem.W.codeIn K cd4 "_law_copies" = true)
    (k4 : PySem.W.keepIn K (.ref f4) = true)
    (a5 : PySem.W.nsIn K mainGlobals "names_of" = some (some (.ref f5)))
    (l5 : K.lookup f5 = some ⟨oc5, od5, .func (PySem.W.fnOf "names_of" "names_of" (defArgs s_p_names_of) (defBody s_p_names_of) (defScope s_p_names_of) .none kV5 dc5 pm5 an5 cd5 ct5), sl5⟩)
    (e5 : PySem.W.codeIn K cd5 "names_of" = true)
    (k5 : PySem.W.keepIn K (.ref f5) = true)
    (a6 : PySem.W.nsIn K mainGlobals "are_ascending" = some (some (.ref f6)))
    (l6 : K.lookup f6 = some ⟨oc6, od6, .func (PySem.W.fnOf "are_ascending" "are_ascending" (defArgs s_p_are_ascending) (defBody s_p_are_ascending) (defScope s_p_are_ascending) .none kV6 dc6 pm6 an6 cd6 ct6), sl6⟩)
    (e6 : PySem.W.codeIn K cd6 "are_ascending" = true)
    (k6 : PySem.W.keepIn K (.ref f6) = true)
    (a7 : PySem.W.nsIn K mainGlobals "is_name" = some (some (.ref f7)))
    (l7 : K.lookup f7 = some ⟨oc7, od7, .func (PySem.W.fnOf "is_name" "is_name" (defArgs s_p_is_name) (defBody s_p_is_name) (defScope s_p_is_name) .none kV7 dc7 pm7 an7 cd7 ct7), sl7⟩)
    (e7 : PySem.W.codeIn K cd7 "is_name" = true)
    (k7 : PySem.W.keepIn K (.ref f7) = true)
    (a8 : PySem.W.nsIn K mainGlobals "are_names" = some (some (.ref f8)))
    (l8 : K.lookup f8 = some ⟨oc8, od8, .func (PySem.W.fnOf "are_names" "are_names" (defArgs s_p_are_names) (defBody s_p_are_names) (defScope s_p_are_names) .none kV8 dc8 pm8 an8 cd8 ct8), sl8⟩)
    (e8 : PySem.W.codeIn K cd8 "are_names" = true)
    (k8 : PySem.W.keepIn K (.ref f8) = true)
    (a9 : PySem.W.nsIn K mainGlobals "is_own" = some (some (.ref f9)))
    (l9 : K.lookup f9 = some ⟨oc9, od9, .func (PySem.W.fnOf "is_own" "is_own" (defArgs s_p_is_own) (defBody s_p_is_own) (defScope s_p_is_own) .none kV9 dc9 pm9 an9 cd9 ct9), sl9⟩)
    (e9 : PySem.W.codeIn K cd9 "is_own" = true)
    (k9 : PySem.W.keepIn K (.ref f9) = true)
    (a10 : PySem.W.nsIn K mainGlobals "are_owns" = some (some (.ref f10)))
    (l10 : K.lookup f10 = some ⟨oc10, od10, .func (PySem.W.fnOf "are_owns" "are_owns" (defArgs s_p_are_owns) (defBody s_p_are_owns) (defScope s_p_are_owns) .none kV10 dc10 pm10 an10 cd10 ct10), sl10⟩)
    (e10 : PySem.W.codeIn K cd10 "are_owns" = true)
    (k10 : PySem.W.keepIn K (.ref f10) = true)
    (a11 : PySem.W.nsIn K mainGlobals "has_names" = some (some (.ref f11)))
    (l11 : K.lookup f11 = some ⟨oc11, od11, .func (PySem.W.fnOf "has_names" "has_names" (defArgs s_p_has_names) (defBody s_p_has_names) (defScope s_p_has_names) .none kV11 dc11 pm11 an11 cd11 ct11), sl11⟩)
    (e11 : PySem.W.codeIn K cd11 "has_names" = true)
    (k11 : PySem.W.keepIn K (.ref f11) = true)
    (a12 : PySem.W.nsIn K mainGlobals "is_truth" = some (some (.ref f12)))
    (l12 : K.lookup f12 = some ⟨oc12, od12, .func (PySem.W.fnOf "is_truth" "is_truth" (defArgs s_p_is_truth) (defBody s_p_is_truth) (defScope s_p_is_truth) .none kV12 dc12 pm12 an12 cd12 ct12), sl12⟩)
    (e12 : PySem.W.codeIn K cd12 "is_truth" = true)
    (k12 : PySem.W.keepIn K (.ref f12) = true)
    (a13 : PySem.W.nsIn K mainGlobals "is_letter" = some (some (.ref f13)))
    (l13 : K.lookup f13 = some ⟨oc13, od13, .func (PySem.W.fnOf "is_letter" "is_letter" (defArgs s_p_is_letter) (defBody s_p_is_letter) (defScope s_p_is_letter) .none kV13 dc13 pm13 an13 cd13 ct13), sl13⟩)
    (e13 : PySem.W.codeIn K cd13 "is_letter" = true)
    (k13 : PySem.W.keepIn K (.ref f13) = true)
    (a14 : PySem.W.nsIn K mainGlobals "is_any_clause" = some (some (.ref f14)))
    (l14 : K.lookup f14 = some ⟨oc14, od14, .func (PySem.W.fnOf "is_any_clause" "is_any_clause" (defArgs s_p_is_any_clause) (defBody s_p_is_any_clause) (defScope s_p_is_any_clause) .none kV14 dc14 pm14 an14 cd14 ct14), sl14⟩)
    (e14 : PySem.W.codeIn K cd14 "is_any_clause" = true)
    (k14 : PySem.W.keepIn K (.ref f14) = true)
    (a15 : PySem.W.nsIn K mainGlobals "is_a_saying" = some (some (.ref f15)))
    (l15 : K.lookup f15 = some ⟨oc15, od15, .func (PySem.W.fnOf "is_a_saying" "is_a_saying" (defArgs s_p_is_a_saying) (defBody s_p_is_a_saying) (defScope s_p_is_a_saying) .none kV15 dc15 pm15 an15 cd15 ct15), sl15⟩)
    (e15 : PySem.W.codeIn K cd15 "is_a_saying" = true)
    (k15 : PySem.W.keepIn K (.ref f15) = true)
    (a16 : PySem.W.nsIn K mainGlobals "need_saying" = some (some (.ref f16)))
    (l16 : K.lookup f16 = some ⟨oc16, od16, .func (PySem.W.fnOf "need_saying" "need_saying" (defArgs s_p_need_saying) (defBody s_p_need_saying) (defScope s_p_need_saying) .none kV16 dc16 pm16 an16 cd16 ct16), sl16⟩)
    (e16 : PySem.W.codeIn K cd16 "need_saying" = true)
    (k16 : PySem.W.keepIn K (.ref f16) = true)
    (a17 : PySem.W.nsIn K mainGlobals "plays_of" = some (some (.ref f17)))
    (l17 : K.lookup f17 = some ⟨oc17, od17, .func (PySem.W.fnOf "plays_of" "plays_of" (defArgs s_p_plays_of) (defBody s_p_plays_of) (defScope s_p_plays_of) .none kV17 dc17 pm17 an17 cd17 ct17), sl17⟩)
    (e17 : PySem.W.codeIn K cd17 "plays_of" = true)
    (k17 : PySem.W.keepIn K (.ref f17) = true)
    (a18 : PySem.W.nsIn K mainGlobals "plays" = some (some (.ref f18)))
    (l18 : K.lookup f18 = some ⟨oc18, od18, .func (PySem.W.fnOf "plays" "plays" (defArgs s_p_plays) (defBody s_p_plays) (defScope s_p_plays) .none kV18 dc18 pm18 an18 cd18 ct18), sl18⟩)
    (e18 : PySem.W.codeIn K cd18 "plays" = true)
    (k18 : PySem.W.keepIn K (.ref f18) = true)
    (a19 : PySem.W.nsIn K mainGlobals "seen_at" = some (some (.ref f19)))
    (l19 : K.lookup f19 = some ⟨oc19, od19, .func (PySem.W.fnOf "seen_at" "seen_at" (defArgs s_p_seen_at) (defBody s_p_seen_at) (defScope s_p_seen_at) .none kV19 dc19 pm19 an19 cd19 ct19), sl19⟩)
    (e19 : PySem.W.codeIn K cd19 "seen_at" = true)
    (k19 : PySem.W.keepIn K (.ref f19) = true)
    (a20 : PySem.W.nsIn K mainGlobals "copies_of" = some (some (.ref f20)))
    (l20 : K.lookup f20 = some ⟨oc20, od20, .func (PySem.W.fnOf "copies_of" "copies_of" (defArgs s_p_copies_of) (defBody s_p_copies_of) (defScope s_p_copies_of) .none kV20 dc20 pm20 an20 cd20 ct20), sl20⟩)
    (e20 : PySem.W.codeIn K cd20 "copies_of" = true)
    (k20 : PySem.W.keepIn K (.ref f20) = true)
    (a21 : PySem.W.nsIn K mainGlobals "copies" = some (some (.ref f21)))
    (l21 : K.lookup f21 = some ⟨oc21, od21, .func (PySem.W.fnOf "copies" "copies" (defArgs s_p_copies) (defBody s_p_copies) (defScope s_p_copies) .none kV21 dc21 pm21 an21 cd21 ct21), sl21⟩)
    (e21 : PySem.W.codeIn K cd21 "copies" = true)
    (k21 : PySem.W.keepIn K (.ref f21) = true)
    (a22 : PySem.W.nsIn K mainGlobals "_law_lists_right" = some (some (.ref f22)))
    (l22 : K.lookup f22 = some ⟨oc22, od22, .func (PySem.W.fnOf "_law_lists_right" "_law_lists_right" (defArgs s_l_lists_right) (defBody s_l_lists_right) (defScope s_l_lists_right) .none kV22 dc22 pm22 an22 cd22 ct22), sl22⟩)
    (e22 : PySem.W.codeIn K cd22 "_law_lists_right" = true)
    (k22 : PySem.W.keepIn K (.ref f22) = true)
    (a23 : PySem.W.nsIn K mainGlobals "_law_sees" = some (some (.ref f23)))
    (l23 : K.lookup f23 = some ⟨oc23, od23, .func (PySem.W.fnOf "_law_sees" "_law_sees" (defArgs s_l_sees) (defBody s_l_sees) (defScope s_l_sees) .none kV23 dc23 pm23 an23 cd23 ct23), sl23⟩)
    (e23 : PySem.W.codeIn K cd23 "_law_sees" = true)
    (k23 : PySem.W.keepIn K (.ref f23) = true)
    (a24 : PySem.W.nsIn K mainGlobals "_law_letters" = some (some (.ref f24)))
    (l24 : K.lookup f24 = some ⟨oc24, od24, .func (PySem.W.fnOf "_law_letters" "_law_letters" (defArgs s_l_letters) (defBody s_l_letters) (defScope s_l_letters) .none kV24 dc24 pm24 an24 cd24 ct24), sl24⟩)
    (e24 : PySem.W.codeIn K cd24 "_law_letters" = true)
    (k24 : PySem.W.keepIn K (.ref f24) = true)
    (a25 : PySem.W.nsIn K mainGlobals "_law_pick" = some (some (.ref f25)))
    (l25 : K.lookup f25 = some ⟨oc25, od25, .func (PySem.W.fnOf "_law_pick" "_law_pick" (defArgs s_l_pick) (defBody s_l_pick) (defScope s_l_pick) .none kV25 dc25 pm25 an25 cd25 ct25), sl25⟩)
    (e25 : PySem.W.codeIn K cd25 "_law_pick" = true)
    (k25 : PySem.W.keepIn K (.ref f25) = true)
    (a26 : PySem.W.nsIn K mainGlobals "_law_clause" = some (some (.ref f26)))
    (l26 : K.lookup f26 = some ⟨oc26, od26, .func (PySem.W.fnOf "_law_clause" "_law_clause" (defArgs s_l_clause) (defBody s_l_clause) (defScope s_l_clause) .none kV26 dc26 pm26 an26 cd26 ct26), sl26⟩)
    (e26 : PySem.W.codeIn K cd26 "_law_clause" = true)
    (k26 : PySem.W.keepIn K (.ref f26) = true)
    (a27 : PySem.W.nsIn K mainGlobals "is_a_clause" = some (some (.ref f27)))
    (l27 : K.lookup f27 = some ⟨oc27, od27, .func (PySem.W.fnOf "is_a_clause" "is_a_clause" (defArgs s_p_is_a_clause) (defBody s_p_is_a_clause) (defScope s_p_is_a_clause) .none kV27 dc27 pm27 an27 cd27 ct27), sl27⟩)
    (e27 : PySem.W.codeIn K cd27 "is_a_clause" = true)
    (k27 : PySem.W.keepIn K (.ref f27) = true)
    (a28 : PySem.W.nsIn K mainGlobals "need_clause" = some (some (.ref f28)))
    (l28 : K.lookup f28 = some ⟨oc28, od28, .func (PySem.W.fnOf "need_clause" "need_clause" (defArgs s_p_need_clause) (defBody s_p_need_clause) (defScope s_p_need_clause) .none kV28 dc28 pm28 an28 cd28 ct28), sl28⟩)
    (e28 : PySem.W.codeIn K cd28 "need_clause" = true)
    (k28 : PySem.W.keepIn K (.ref f28) = true)
    (a29 : PySem.W.nsIn K mainGlobals "are_truths" = some (some (.ref f29)))
    (l29 : K.lookup f29 = some ⟨oc29, od29, .func (PySem.W.fnOf "are_truths" "are_truths" (defArgs s_p_are_truths) (defBody s_p_are_truths) (defScope s_p_are_truths) .none kV29 dc29 pm29 an29 cd29 ct29), sl29⟩)
    (e29 : PySem.W.codeIn K cd29 "are_truths" = true)
    (k29 : PySem.W.keepIn K (.ref f29) = true)
    (a30 : PySem.W.nsIn K mainGlobals "is_a_play" = some (some (.ref f30)))
    (l30 : K.lookup f30 = some ⟨oc30, od30, .func (PySem.W.fnOf "is_a_play" "is_a_play" (defArgs s_p_is_a_play) (defBody s_p_is_a_play) (defScope s_p_is_a_play) .none kV30 dc30 pm30 an30 cd30 ct30), sl30⟩)
    (e30 : PySem.W.codeIn K cd30 "is_a_play" = true)
    (k30 : PySem.W.keepIn K (.ref f30) = true)
    (a31 : PySem.W.nsIn K mainGlobals "need_play" = some (some (.ref f31)))
    (l31 : K.lookup f31 = some ⟨oc31, od31, .func (PySem.W.fnOf "need_play" "need_play" (defArgs s_p_need_play) (defBody s_p_need_play) (defScope s_p_need_play) .none kV31 dc31 pm31 an31 cd31 ct31), sl31⟩)
    (e31 : PySem.W.codeIn K cd31 "need_play" = true)
    (k31 : PySem.W.keepIn K (.ref f31) = true)
    (a32 : PySem.W.nsIn K mainGlobals "marked_by" = some (some (.ref f32)))
    (l32 : K.lookup f32 = some ⟨oc32, od32, .func (PySem.W.fnOf "marked_by" "marked_by" (defArgs s_p_marked_by) (defBody s_p_marked_by) (defScope s_p_marked_by) .none kV32 dc32 pm32 an32 cd32 ct32), sl32⟩)
    (e32 : PySem.W.codeIn K cd32 "marked_by" = true)
    (k32 : PySem.W.keepIn K (.ref f32) = true)
    (a33 : PySem.W.nsIn K mainGlobals "seen_by" = some (some (.ref f33)))
    (l33 : K.lookup f33 = some ⟨oc33, od33, .func (PySem.W.fnOf "seen_by" "seen_by" (defArgs s_p_seen_by) (defBody s_p_seen_by) (defScope s_p_seen_by) .none kV33 dc33 pm33 an33 cd33 ct33), sl33⟩)
    (e33 : PySem.W.codeIn K cd33 "seen_by" = true)
    (k33 : PySem.W.keepIn K (.ref f33) = true)
    (a34 : PySem.W.nsIn K mainGlobals "sees_at" = some (some (.ref f34)))
    (l34 : K.lookup f34 = some ⟨oc34, od34, .func (PySem.W.fnOf "sees_at" "sees_at" (defArgs s_p_sees_at) (defBody s_p_sees_at) (defScope s_p_sees_at) .none kV34 dc34 pm34 an34 cd34 ct34), sl34⟩)
    (e34 : PySem.W.codeIn K cd34 "sees_at" = true)
    (k34 : PySem.W.keepIn K (.ref f34) = true)
    (a35 : PySem.W.nsIn K mainGlobals "marked_at" = some (some (.ref f35)))
    (l35 : K.lookup f35 = some ⟨oc35, od35, .func (PySem.W.fnOf "marked_at" "marked_at" (defArgs s_p_marked_at) (defBody s_p_marked_at) (defScope s_p_marked_at) .none kV35 dc35 pm35 an35 cd35 ct35), sl35⟩)
    (e35 : PySem.W.codeIn K cd35 "marked_at" = true)
    (k35 : PySem.W.keepIn K (.ref f35) = true)
    (a36 : PySem.W.nsIn K mainGlobals "letters_at" = some (some (.ref f36)))
    (l36 : K.lookup f36 = some ⟨oc36, od36, .func (PySem.W.fnOf "letters_at" "letters_at" (defArgs s_p_letters_at) (defBody s_p_letters_at) (defScope s_p_letters_at) .none kV36 dc36 pm36 an36 cd36 ct36), sl36⟩)
    (e36 : PySem.W.codeIn K cd36 "letters_at" = true)
    (k36 : PySem.W.keepIn K (.ref f36) = true)
    (a37 : PySem.W.nsIn K mainGlobals "sight_of" = some (some (.ref f37)))
    (l37 : K.lookup f37 = some ⟨oc37, od37, .func (PySem.W.fnOf "sight_of" "sight_of" (defArgs s_p_sight_of) (defBody s_p_sight_of) (defScope s_p_sight_of) .none kV37 dc37 pm37 an37 cd37 ct37), sl37⟩)
    (e37 : PySem.W.codeIn K cd37 "sight_of" = true)
    (k37 : PySem.W.keepIn K (.ref f37) = true)
    (a38 : PySem.W.nsIn K mainGlobals "need_own" = some (some (.ref f38)))
    (l38 : K.lookup f38 = some ⟨oc38, od38, .func (PySem.W.fnOf "need_own" "need_own" (defArgs s_p_need_own) (defBody s_p_need_own) (defScope s_p_need_own) .none kV38 dc38 pm38 an38 cd38 ct38), sl38⟩)
    (e38 : PySem.W.codeIn K cd38 "need_own" = true)
    (k38 : PySem.W.keepIn K (.ref f38) = true)
    (a39 : PySem.W.nsIn K mainGlobals "seen" = some (some (.ref f39)))
    (l39 : K.lookup f39 = some ⟨oc39, od39, .func (PySem.W.fnOf "seen" "seen" (defArgs s_p_seen) (defBody s_p_seen) (defScope s_p_seen) .none kV39 dc39 pm39 an39 cd39 ct39), sl39⟩)
    (e39 : PySem.W.codeIn K cd39 "seen" = true)
    (k39 : PySem.W.keepIn K (.ref f39) = true)
    (a40 : PySem.W.nsIn K mainGlobals "_law_right" = some (some (.ref f40)))
    (l40 : K.lookup f40 = some ⟨oc40, od40, .func (PySem.W.fnOf "_law_right" "_law_right" (defArgs s_l_right) (defBody s_l_right) (defScope s_l_right) .none kV40 dc40 pm40 an40 cd40 ct40), sl40⟩)
    (e40 : PySem.W.codeIn K cd40 "_law_right" = true)
    (k40 : PySem.W.keepIn K (.ref f40) = true)
    (a41 : PySem.W.nsIn K mainGlobals "_law_words" = some (some (.ref f41)))
    (l41 : K.lookup f41 = some ⟨oc41, od41, .func (PySem.W.fnOf "_law_words" "_law_words" (defArgs s_l_words) (defBody s_l_words) (defScope s_l_words) .none kV41 dc41 pm41 an41 cd41 ct41), sl41⟩)
    (e41 : PySem.W.codeIn K cd41 "_law_words" = true)
    (k41 : PySem.W.keepIn K (.ref f41) = true)
    (a42 : PySem.W.nsIn K mainGlobals "_law_some" = some (some (.ref f42)))
    (l42 : K.lookup f42 = some ⟨oc42, od42, .func (PySem.W.fnOf "_law_some" "_law_some" (defArgs s_l_some) (defBody s_l_some) (defScope s_l_some) .none kV42 dc42 pm42 an42 cd42 ct42), sl42⟩)
    (e42 : PySem.W.codeIn K cd42 "_law_some" = true)
    (k42 : PySem.W.keepIn K (.ref f42) = true)
    (a43 : PySem.W.nsIn K mainGlobals "_law_saying" = some (some (.ref f43)))
    (l43 : K.lookup f43 = some ⟨oc43, od43, .func (PySem.W.fnOf "_law_saying" "_law_saying" (defArgs s_l_saying) (defBody s_l_saying) (defScope s_l_saying) .none kV43 dc43 pm43 an43 cd43 ct43), sl43⟩)
    (e43 : PySem.W.codeIn K cd43 "_law_saying" = true)
    (k43 : PySem.W.keepIn K (.ref f43) = true)
    (a44 : PySem.W.nsIn K mainGlobals "law" = some (some (.ref f44)))
    (l44 : K.lookup f44 = some ⟨oc44, od44, .func (PySem.W.fnOf "law" "law" (defArgs s_l_law) (defBody s_l_law) (defScope s_l_law) .none kV44 dc44 pm44 an44 cd44 ct44), sl44⟩)
    (e44 : PySem.W.codeIn K cd44 "law" = true)
    (k44 : PySem.W.keepIn K (.ref f44) = true)
    (z_abs : PySem.W.nsIn K mainGlobals "abs" = some none)
    (z_all : PySem.W.nsIn K mainGlobals "all" = some none)
    (z_bool : PySem.W.nsIn K mainGlobals "bool" = some none)
    (z_dict : PySem.W.nsIn K mainGlobals "dict" = some none)
    (z_int : PySem.W.nsIn K mainGlobals "int" = some none)
    (z_isinstance : PySem.W.nsIn K mainGlobals "isinstance" = some none)
    (z_len : PySem.W.nsIn K mainGlobals "len" = some none)
    (z_list : PySem.W.nsIn K mainGlobals "list" = some none)
    (z_max : PySem.W.nsIn K mainGlobals "max" = some none)
    (z_min : PySem.W.nsIn K mainGlobals "min" = some none)
    (z_range : PySem.W.nsIn K mainGlobals "range" = some none)
    (z_set : PySem.W.nsIn K mainGlobals "set" = some none)
    (z_sorted : PySem.W.nsIn K mainGlobals "sorted" = some none)
    (z_str : PySem.W.nsIn K mainGlobals "str" = some none)
    (z_sum : PySem.W.nsIn K mainGlobals "sum" = some none)
    (z_tuple : PySem.W.nsIn K mainGlobals "tuple" = some none)
    (z_zip : PySem.W.nsIn K mainGlobals "zip" = some none)
    (v_LETTERS : PySem.W.nsIn K mainGlobals "LETTERS" = some (some (.str "abcdefghijklmnopqrstuvwxyz" t_LETTERS)))
    (v_MOST_CLAUSES : PySem.W.nsIn K mainGlobals "MOST_CLAUSES" = some (some (.int 40 t_MOST_CLAUSES)))
    (v_MOST_COPIES : PySem.W.nsIn K mainGlobals "MOST_COPIES" = some (some (.int 120 t_MOST_COPIES)))
    (v_MOST_LETTERS : PySem.W.nsIn K mainGlobals "MOST_LETTERS" = some (some (.int 8 t_MOST_LETTERS)))
    (v_MOST_OWNS : PySem.W.nsIn K mainGlobals "MOST_OWNS" = some (some (.int 8 t_MOST_OWNS)))
    (v_MOST_PICKS : PySem.W.nsIn K mainGlobals "MOST_PICKS" = some (some (.int 6 t_MOST_PICKS)))
    : ∃ fd : FuncData, (∀ (s : Shared) (u : Value), BindsTo s fd ⟨[u], []⟩ [("script", u)]) ∧ ∀ base : Heap, K.In base → base.Ns mainGlobals mg → FnG P w K mg base 10 fa fd ["script"] (cP ⟨K, w, P⟩ sp_l_law) := by
  have e := hfa.symm.trans (PySem.W.mg_of X G a44)
  cases e
  have F0 := fun_mk (st := s_l_source) l0 e0 k0
  have B0 := F0.binds (ps := ["script", "k"]) fun _ _ _ _ _ _ us hl => match us, hl with | [_, _], _ => rfl
  have F1 := fun_mk (st := s_l_same) l1 e1 k1
  have B1 := F1.binds (ps := ["found", "due"]) fun _ _ _ _ _ _ us hl => match us, hl with | [_, _], _ => rfl
  have F2 := fun_mk (st := s_l_plays) l2 e2 k2
  have B2 := F2.binds (ps := ["size"]) fun _ _ _ _ _ _ us hl => match us, hl with | [_], _ => rfl
  have F3 := fun_mk (st := s_l_spot) l3 e3 k3
  have B3 := F3.binds (ps := ["row"]) fun _ _ _ _ _ _ us hl => match us, hl with | [_], _ => rfl
  have F4 := fun_mk (st := s_l_copies) l4 e4 k4
  have B4 := F4.binds (ps := ["saying"]) fun _ _ _ _ _ _ us hl => match us, hl with | [_], _ => rfl
  have F5 := fun_mk (st := s_p_names_of) l5 e5 k5
  have B5 := F5.binds (ps := ["picks", "owns"]) fun _ _ _ _ _ _ us hl => match us, hl with | [_, _], _ => rfl
  have F6 := fun_mk (st := s_p_are_ascending) l6 e6 k6
  have B6 := F6.binds (ps := ["values"]) fun _ _ _ _ _ _ us hl => match us, hl with | [_], _ => rfl
  have F7 := fun_mk (st := s_p_is_name) l7 e7 k7
  have B7 := F7.binds (ps := ["value"]) fun _ _ _ _ _ _ us hl => match us, hl with | [_], _ => rfl
  have F8 := fun_mk (st := s_p_are_names) l8 e8 k8
  have B8 := F8.binds (ps := ["value"]) fun _ _ _ _ _ _ us hl => match us, hl with | [_], _ => rfl
  have F9 := fun_mk (st := s_p_is_own) l9 e9 k9
  have B9 := F9.binds (ps := ["value", "picks"]) fun _ _ _ _ _ _ us hl => match us, hl with | [_, _], _ => rfl
  have F10 := fun_mk (st := s_p_are_owns) l10 e10 k10
  have B10 := F10.binds (ps := ["value", "picks"]) fun _ _ _ _ _ _ us hl => match us, hl with | [_, _], _ => rfl
  have F11 := fun_mk (st := s_p_has_names) l11 e11 k11
  have B11 := F11.binds (ps := ["clause", "names"]) fun _ _ _ _ _ _ us hl => match us, hl with | [_, _], _ => rfl
  have F12 := fun_mk (st := s_p_is_truth) l12 e12 k12
  have B12 := F12.binds (ps := ["value"]) fun _ _ _ _ _ _ us hl => match us, hl with | [_], _ => rfl
  have F13 := fun_mk (st := s_p_is_letter) l13 e13 k13
  have B13 := F13.binds (ps := ["value"]) fun _ _ _ _ _ _ us hl => match us, hl with | [_], _ => rfl
  have F14 := fun_mk (st := s_p_is_any_clause) l14 e14 k14
  have B14 := F14.binds (ps := ["value"]) fun _ _ _ _ _ _ us hl => match us, hl with | [_], _ => rfl
  have F15 := fun_mk (st := s_p_is_a_saying) l15 e15 k15
  have B15 := F15.binds (ps := ["value"]) fun _ _ _ _ _ _ us hl => match us, hl with | [_], _ => rfl
  have F16 := fun_mk (st := s_p_need_saying) l16 e16 k16
  have B16 := F16.binds (ps := ["saying"]) fun _ _ _ _ _ _ us hl => match us, hl with | [_], _ => rfl
  have F17 := fun_mk (st := s_p_plays_of) l17 e17 k17
  have B17 := F17.binds (ps := ["saying"]) fun _ _ _ _ _ _ us hl => match us, hl with | [_], _ => rfl
  have F18 := fun_mk (st := s_p_plays) l18 e18 k18
  have B18 := F18.binds (ps := ["saying"]) fun _ _ _ _ _ _ us hl => match us, hl with | [_], _ => rfl
  have F19 := fun_mk (st := s_p_seen_at) l19 e19 k19
  have B19 := F19.binds (ps := ["many", "spot"]) fun _ _ _ _ _ _ us hl => match us, hl with | [_, _], _ => rfl
  have F20 := fun_mk (st := s_p_copies_of) l20 e20 k20
  have B20 := F20.binds (ps := ["saying"]) fun _ _ _ _ _ _ us hl => match us, hl with | [_], _ => rfl
  have F21 := fun_mk (st := s_p_copies) l21 e21 k21
  have B21 := F21.binds (ps := ["saying"]) fun _ _ _ _ _ _ us hl => match us, hl with | [_], _ => rfl
  have F22 := fun_mk (st := s_l_lists_right) l22 e22 k22
  have B22 := F22.binds (ps := ["saying"]) fun _ _ _ _ _ _ us hl => match us, hl with | [_], _ => rfl
  have F23 := fun_mk (st := s_l_sees) l23 e23 k23
  have B23 := F23.binds (ps := ["saying", "sight", "play"]) fun _ _ _ _ _ _ us hl => match us, hl with | [_, _, _], _ => rfl
  have F24 := fun_mk (st := s_l_letters) l24 e24 k24
  have B24 := F24.binds (ps := ["saying", "clause", "play"]) fun _ _ _ _ _ _ us hl => match us, hl with | [_, _, _], _ => rfl
  have F25 := fun_mk (st := s_l_pick) l25 e25 k25
  have B25 := F25.binds (ps := ["source", "top"]) fun _ _ _ _ _ _ us hl => match us, hl with | [_, _], _ => rfl
  have F26 := fun_mk (st := s_l_clause) l26 e26 k26
  have B26 := F26.binds (ps := ["source", "words"]) fun _ _ _ _ _ _ us hl => match us, hl with | [_, _], _ => rfl
  have F27 := fun_mk (st := s_p_is_a_clause) l27 e27 k27
  have B27 := F27.binds (ps := ["saying", "value"]) fun _ _ _ _ _ _ us hl => match us, hl with | [_, _], _ => rfl
  have F28 := fun_mk (st := s_p_need_clause) l28 e28 k28
  have B28 := F28.binds (ps := ["saying", "clause"]) fun _ _ _ _ _ _ us hl => match us, hl with | [_, _], _ => rfl
  have F29 := fun_mk (st := s_p_are_truths) l29 e29 k29
  have B29 := F29.binds (ps := ["value", "many"]) fun _ _ _ _ _ _ us hl => match us, hl with | [_, _], _ => rfl
  have F30 := fun_mk (st := s_p_is_a_play) l30 e30 k30
  have B30 := F30.binds (ps := ["saying", "value"]) fun _ _ _ _ _ _ us hl => match us, hl with | [_, _], _ => rfl
  have F31 := fun_mk (st := s_p_need_play) l31 e31 k31
  have B31 := F31.binds (ps := ["saying", "play"]) fun _ _ _ _ _ _ us hl => match us, hl with | [_, _], _ => rfl
  have F32 := fun_mk (st := s_p_marked_by) l32 e32 k32
  have B32 := F32.binds (ps := ["clause", "picks", "sees"]) fun _ _ _ _ _ _ us hl => match us, hl with | [_, _, _], _ => rfl
  have F33 := fun_mk (st := s_p_seen_by) l33 e33 k33
  have B33 := F33.binds (ps := ["saying", "sight", "play"]) fun _ _ _ _ _ _ us hl => match us, hl with | [_, _, _], _ => rfl
  have F34 := fun_mk (st := s_p_sees_at) l34 e34 k34
  have B34 := F34.binds (ps := ["saying", "play"]) fun _ _ _ _ _ _ us hl => match us, hl with | [_, _], _ => rfl
  have F35 := fun_mk (st := s_p_marked_at) l35 e35 k35
  have B35 := F35.binds (ps := ["saying", "clause", "play"]) fun _ _ _ _ _ _ us hl => match us, hl with | [_, _, _], _ => rfl
  have F36 := fun_mk (st := s_p_letters_at) l36 e36 k36
  have B36 := F36.binds (ps := ["saying", "clause", "play"]) fun _ _ _ _ _ _ us hl => match us, hl with | [_, _, _], _ => rfl
  have F37 := fun_mk (st := s_p_sight_of) l37 e37 k37
  have B37 := F37.binds (ps := ["saying", "name"]) fun _ _ _ _ _ _ us hl => match us, hl with | [_, _], _ => rfl
  have F38 := fun_mk (st := s_p_need_own) l38 e38 k38
  have B38 := F38.binds (ps := ["saying", "name"]) fun _ _ _ _ _ _ us hl => match us, hl with | [_, _], _ => rfl
  have F39 := fun_mk (st := s_p_seen) l39 e39 k39
  have B39 := F39.binds (ps := ["saying", "name", "play"]) fun _ _ _ _ _ _ us hl => match us, hl with | [_, _, _], _ => rfl
  have F40 := fun_mk (st := s_l_right) l40 e40 k40
  have B40 := F40.binds (ps := ["source", "saying"]) fun _ _ _ _ _ _ us hl => match us, hl with | [_, _], _ => rfl
  have F41 := fun_mk (st := s_l_words) l41 e41 k41
  have B41 := F41.binds (ps := ["source", "size"]) fun _ _ _ _ _ _ us hl => match us, hl with | [_, _], _ => rfl
  have F42 := fun_mk (st := s_l_some) l42 e42 k42
  have B42 := F42.binds (ps := ["source", "size"]) fun _ _ _ _ _ _ us hl => match us, hl with | [_, _], _ => rfl
  have F43 := fun_mk (st := s_l_saying) l43 e43 k43
  have B43 := F43.binds (ps := ["source", "sizes"]) fun _ _ _ _ _ _ us hl => match us, hl with | [_, _], _ => rfl
  have F44 := fun_mk (st := s_l_law) l44 e44 k44
  have B44 := F44.binds (ps := ["script"]) fun _ _ _ _ _ _ us hl => match us, hl with | [_], _ => rfl
  refine ⟨PySem.W.fnOf "law" "law" (defArgs s_l_law) (defBody s_l_law) (defScope s_l_law) .none kV44 dc44 pm44 an44 cd44 ct44, fun s v => .of_eq rfl, fun base _ _ => ?_⟩
  have g_l_source := d_l_source (P := P) (w := w) (base := base) F0 B0 (PySem.W.mg_of X G a0) (PySem.W.mg_none_of X G z_len) (PySem.W.mg_none_of X G z_int) (PySem.W.mg_none_of X G z_abs) (PySem.W.mg_none_of X G z_max)
  have g_l_same := d_l_same (P := P) (w := w) (base := base) F1 B1 (PySem.W.mg_of X G a1) (PySem.W.mg_none_of X G z_isinstance) (PySem.W.mg_none_of X G z_tuple) (PySem.W.mg_none_of X G z_list) (PySem.W.mg_none_of X G z_all) (PySem.W.mg_none_of X G z_range) (PySem.W.mg_none_of X G z_len) (PySem.W.mg_none_of X G z_bool) (PySem.W.mg_none_of X G z_int) (PySem.W.mg_none_of X G z_str)
  have g_l_plays := d_l_plays (P := P) (w := w) (base := base) F2 B2 (PySem.W.mg_of X G a2) (PySem.W.mg_none_of X G z_range)
  have g_l_spot := d_l_spot (P := P) (w := w) (base := base) F3 B3 (PySem.W.mg_of X G a3) (PySem.W.mg_none_of X G z_range) (PySem.W.mg_none_of X G z_len) (PySem.W.mg_none_of X G z_int)
  have g_l_copies := d_l_copies (P := P) (w := w) (base := base) F4 B4 (PySem.W.mg_of X G a4) (PySem.W.mg_none_of X G z_sorted) (PySem.W.mg_none_of X G z_len) g_l_plays g_l_spot
  have g_p_names_of := d_p_names_of (P := P) (w := w) (base := base) F5 B5 (PySem.W.mg_of X G a5) (PySem.W.mg_none_of X G z_list)
  have g_p_are_ascending := d_p_are_ascending (P := P) (w := w) (base := base) F6 B6 (PySem.W.mg_of X G a6) (PySem.W.mg_none_of X G z_all) (PySem.W.mg_none_of X G z_range) (PySem.W.mg_none_of X G z_len)
  have g_p_is_name := d_p_is_name (P := P) (w := w) (base := base) F7 B7 (PySem.W.mg_of X G a7) (PySem.W.mg_none_of X G z_all) (PySem.W.mg_none_of X G z_len) (PySem.W.mg_none_of X G z_isinstance) (PySem.W.mg_none_of X G z_str) ⟨_, PySem.W.mg_of X G v_LETTERS⟩ ⟨_, PySem.W.mg_of X G v_MOST_LETTERS⟩
  have g_p_are_names := d_p_are_names (P := P) (w := w) (base := base) F8 B8 (PySem.W.mg_of X G a8) (PySem.W.mg_none_of X G z_all) (PySem.W.mg_none_of X G z_isinstance) (PySem.W.mg_none_of X G z_tuple) g_p_are_ascending g_p_is_name
  have g_p_is_own := d_p_is_own (P := P) (w := w) (base := base) F9 B9 (PySem.W.mg_of X G a9) (PySem.W.mg_none_of X G z_len) (PySem.W.mg_none_of X G z_isinstance) (PySem.W.mg_none_of X G z_tuple) (PySem.W.mg_none_of X G z_all) g_p_is_name g_p_are_names
  have g_p_are_owns := d_p_are_owns (P := P) (w := w) (base := base) F10 B10 (PySem.W.mg_of X G a10) (PySem.W.mg_none_of X G z_all) (PySem.W.mg_none_of X G z_len) (PySem.W.mg_none_of X G z_isinstance) (PySem.W.mg_none_of X G z_tuple) (PySem.W.mg_none_of X G z_sum) ⟨_, PySem.W.mg_of X G v_MOST_OWNS⟩ ⟨_, PySem.W.mg_of X G v_MOST_COPIES⟩ g_p_is_own g_p_are_ascending
  have g_p_has_names := d_p_has_names (P := P) (w := w) (base := base) F11 B11 (PySem.W.mg_of X G a11) (PySem.W.mg_none_of X G z_all)
  have g_p_is_truth := d_p_is_truth (P := P) (w := w) (base := base) F12 B12 (PySem.W.mg_of X G a12) (PySem.W.mg_none_of X G z_isinstance) (PySem.W.mg_none_of X G z_bool)
  have g_p_is_letter := d_p_is_letter (P := P) (w := w) (base := base) F13 B13 (PySem.W.mg_of X G a13) (PySem.W.mg_none_of X G z_len) (PySem.W.mg_none_of X G z_isinstance) (PySem.W.mg_none_of X G z_tuple) g_p_is_truth g_p_is_name
  have g_p_is_any_clause := d_p_is_any_clause (P := P) (w := w) (base := base) F14 B14 (PySem.W.mg_of X G a14) (PySem.W.mg_none_of X G z_all) (PySem.W.mg_none_of X G z_isinstance) (PySem.W.mg_none_of X G z_tuple) g_p_is_letter g_p_are_ascending
  have g_p_is_a_saying := d_p_is_a_saying (P := P) (w := w) (base := base) F15 B15 (PySem.W.mg_of X G a15) (PySem.W.mg_none_of X G z_len) (PySem.W.mg_none_of X G z_isinstance) (PySem.W.mg_none_of X G z_tuple) (PySem.W.mg_none_of X G z_all) ⟨_, PySem.W.mg_of X G v_MOST_PICKS⟩ ⟨_, PySem.W.mg_of X G v_MOST_CLAUSES⟩ g_p_are_owns g_p_are_names g_p_are_ascending g_p_is_any_clause g_p_names_of g_p_has_names
  have g_p_need_saying := d_p_need_saying (P := P) (w := w) (base := base) F16 B16 (PySem.W.mg_of X G a16) g_p_is_a_saying
  have g_p_plays_of := d_p_plays_of (P := P) (w := w) (base := base) F17 B17 (PySem.W.mg_of X G a17) (PySem.W.mg_none_of X G z_range) (PySem.W.mg_none_of X G z_len)
  have x_p_plays := e_p_plays (P := P) (w := w) (base := base) F18 B18 (PySem.W.mg_of X G a18) g_p_need_saying g_p_plays_of
  have g_p_plays : FnP P w K mg base "plays" ["saying"] 7 sp_p_plays := ⟨_, _, PySem.W.mg_of X G a18, k18, B18, x_p_plays⟩
  have k_p_plays : FnKw P w K mg base "plays" ["saying"] ["saying"] 0 [0] 7 sp_p_plays := ⟨_, PySem.W.fnOf "plays" "plays" (defArgs s_p_plays) (defBody s_p_plays) (defScope s_p_plays) .none kV18 dc18 pm18 an18 cd18 ct18, PySem.W.mg_of X G a18, k18, ⟨fun s us ws _ hl => (by
      unfold kwG at hl ⊢
      split at hl
      · rename_i h
        obtain ⟨h1, h2⟩ := h
        match us, ws, h1, h2 with
        | [], [_], _, _ => exact .of_eq rfl
      · cases hl), fun a b => kwG_rel a b⟩, x_p_plays⟩
  have g_p_seen_at := d_p_seen_at (P := P) (w := w) (base := base) F19 B19 (PySem.W.mg_of X G a19) (PySem.W.mg_none_of X G z_tuple) (PySem.W.mg_none_of X G z_range)
  have g_p_copies_of := d_p_copies_of (P := P) (w := w) (base := base) F20 B20 (PySem.W.mg_of X G a20) (PySem.W.mg_none_of X G z_range) (PySem.W.mg_none_of X G z_len) g_p_seen_at
  have x_p_copies := e_p_copies (P := P) (w := w) (base := base) F21 B21 (PySem.W.mg_of X G a21) g_p_need_saying g_p_copies_of
  have g_p_copies : FnP P w K mg base "copies" ["saying"] 7 sp_p_copies := ⟨_, _, PySem.W.mg_of X G a21, k21, B21, x_p_copies⟩
  have k_p_copies : FnKw P w K mg base "copies" ["saying"] ["saying"] 0 [0] 7 sp_p_copies := ⟨_, PySem.W.fnOf "copies" "copies" (defArgs s_p_copies) (defBody s_p_copies) (defScope s_p_copies) .none kV21 dc21 pm21 an21 cd21 ct21, PySem.W.mg_of X G a21, k21, ⟨fun s us ws _ hl => (by
      unfold kwG at hl ⊢
      split at hl
      · rename_i h
        obtain ⟨h1, h2⟩ := h
        match us, ws, h1, h2 with
        | [], [_], _, _ => exact .of_eq rfl
      · cases hl), fun a b => kwG_rel a b⟩, x_p_copies⟩
  have g_l_lists_right := d_l_lists_right (P := P) (w := w) (base := base) F22 B22 (PySem.W.mg_of X G a22) (PySem.W.mg_none_of X G z_len) g_l_copies g_l_plays g_p_plays g_p_copies g_l_same k_p_copies k_p_plays
  have g_l_sees := d_l_sees (P := P) (w := w) (base := base) F23 B23 (PySem.W.mg_of X G a23) (PySem.W.mg_none_of X G z_tuple) (PySem.W.mg_none_of X G z_range) (PySem.W.mg_none_of X G z_len)
  have g_l_letters := d_l_letters (P := P) (w := w) (base := base) F24 B24 (PySem.W.mg_of X G a24) (PySem.W.mg_none_of X G z_dict) (PySem.W.mg_none_of X G z_zip) (PySem.W.mg_none_of X G z_tuple) (PySem.W.mg_none_of X G z_sorted) g_l_sees
  have g_l_pick := d_l_pick (P := P) (w := w) (base := base) F25 B25 (PySem.W.mg_of X G a25) (PySem.W.mg_none_of X G z_int)
  have g_l_clause := d_l_clause (P := P) (w := w) (base := base) F26 B26 (PySem.W.mg_of X G a26) (PySem.W.mg_none_of X G z_list) (PySem.W.mg_none_of X G z_range) (PySem.W.mg_none_of X G z_min) (PySem.W.mg_none_of X G z_len) (PySem.W.mg_none_of X G z_tuple) (PySem.W.mg_none_of X G z_sorted) g_l_pick
  have g_p_is_a_clause := d_p_is_a_clause (P := P) (w := w) (base := base) F27 B27 (PySem.W.mg_of X G a27) g_p_has_names g_p_names_of g_p_is_any_clause
  have g_p_need_clause := d_p_need_clause (P := P) (w := w) (base := base) F28 B28 (PySem.W.mg_of X G a28) g_p_is_a_clause
  have g_p_are_truths := d_p_are_truths (P := P) (w := w) (base := base) F29 B29 (PySem.W.mg_of X G a29) (PySem.W.mg_none_of X G z_all) (PySem.W.mg_none_of X G z_len) (PySem.W.mg_none_of X G z_isinstance) (PySem.W.mg_none_of X G z_tuple) g_p_is_truth
  have g_p_is_a_play := d_p_is_a_play (P := P) (w := w) (base := base) F30 B30 (PySem.W.mg_of X G a30) (PySem.W.mg_none_of X G z_len) g_p_are_truths
  have g_p_need_play := d_p_need_play (P := P) (w := w) (base := base) F31 B31 (PySem.W.mg_of X G a31) g_p_is_a_play
  have g_p_marked_by := d_p_marked_by (P := P) (w := w) (base := base) F32 B32 (PySem.W.mg_of X G a32) (PySem.W.mg_none_of X G z_tuple) (PySem.W.mg_none_of X G z_sorted)
  have g_p_seen_by := d_p_seen_by (P := P) (w := w) (base := base) F33 B33 (PySem.W.mg_of X G a33) (PySem.W.mg_none_of X G z_zip) (PySem.W.mg_none_of X G z_tuple)
  have g_p_sees_at := d_p_sees_at (P := P) (w := w) (base := base) F34 B34 (PySem.W.mg_of X G a34) g_p_seen_by
  have g_p_marked_at := d_p_marked_at (P := P) (w := w) (base := base) F35 B35 (PySem.W.mg_of X G a35) (PySem.W.mg_none_of X G z_zip) g_p_marked_by g_p_sees_at
  have x_p_letters_at := e_p_letters_at (P := P) (w := w) (base := base) F36 B36 (PySem.W.mg_of X G a36) g_p_need_saying g_p_need_clause g_p_need_play g_p_marked_at
  have g_p_letters_at : FnP P w K mg base "letters_at" ["saying", "clause", "play"] 7 sp_p_letters_at := ⟨_, _, PySem.W.mg_of X G a36, k36, B36, x_p_letters_at⟩
  have k_p_letters_at_210 : FnKw P w K mg base "letters_at" ["saying", "clause", "play"] ["play", "clause", "saying"] 0 [2, 1, 0] 7 sp_p_letters_at := ⟨_, PySem.W.fnOf "letters_at" "letters_at" (defArgs s_p_letters_at) (defBody s_p_letters_at) (defScope s_p_letters_at) .none kV36 dc36 pm36 an36 cd36 ct36, PySem.W.mg_of X G a36, k36, ⟨fun s us ws _ hl => (by
      unfold kwG at hl ⊢
      split at hl
      · rename_i h
        obtain ⟨h1, h2⟩ := h
        match us, ws, h1, h2 with
        | [], [_, _, _], _, _ => exact .of_eq rfl
      · cases hl), fun a b => kwG_rel a b⟩, x_p_letters_at⟩
  have g_p_sight_of := d_p_sight_of (P := P) (w := w) (base := base) F37 B37 (PySem.W.mg_of X G a37) (PySem.W.mg_none_of X G z_isinstance) (PySem.W.mg_none_of X G z_str)
  have g_p_need_own := d_p_need_own (P := P) (w := w) (base := base) F38 B38 (PySem.W.mg_of X G a38) g_p_sight_of
  have x_p_seen := e_p_seen (P := P) (w := w) (base := base) F39 B39 (PySem.W.mg_of X G a39) g_p_need_saying g_p_need_own g_p_need_play g_p_seen_by g_p_sight_of
  have g_p_seen : FnP P w K mg base "seen" ["saying", "name", "play"] 7 sp_p_seen := ⟨_, _, PySem.W.mg_of X G a39, k39, B39, x_p_seen⟩
  have k_p_seen_210 : FnKw P w K mg base "seen" ["saying", "name", "play"] ["play", "name", "saying"] 0 [2, 1, 0] 7 sp_p_seen := ⟨_, PySem.W.fnOf "seen" "seen" (defArgs s_p_seen) (defBody s_p_seen) (defScope s_p_seen) .none kV39 dc39 pm39 an39 cd39 ct39, PySem.W.mg_of X G a39, k39, ⟨fun s us ws _ hl => (by
      unfold kwG at hl ⊢
      split at hl
      · rename_i h
        obtain ⟨h1, h2⟩ := h
        match us, ws, h1, h2 with
        | [], [_, _, _], _, _ => exact .of_eq rfl
      · cases hl), fun a b => kwG_rel a b⟩, x_p_seen⟩
  have g_l_right := d_l_right (P := P) (w := w) (base := base) F40 B40 (PySem.W.mg_of X G a40) (PySem.W.mg_none_of X G z_list) (PySem.W.mg_none_of X G z_len) (PySem.W.mg_none_of X G z_range) g_l_lists_right g_l_plays g_l_pick g_l_clause g_l_letters g_p_letters_at g_l_same g_l_sees g_p_seen k_p_letters_at_210 k_p_seen_210
  have g_l_words := d_l_words (P := P) (w := w) (base := base) F41 B41 (PySem.W.mg_of X G a41) (PySem.W.mg_none_of X G z_range) (PySem.W.mg_none_of X G z_len) g_l_pick
  have g_l_some := d_l_some (P := P) (w := w) (base := base) F42 B42 (PySem.W.mg_of X G a42) g_l_pick
  have g_l_saying := d_l_saying (P := P) (w := w) (base := base) F43 B43 (PySem.W.mg_of X G a43) (PySem.W.mg_none_of X G z_sorted) (PySem.W.mg_none_of X G z_len) (PySem.W.mg_none_of X G z_tuple) (PySem.W.mg_none_of X G z_range) (PySem.W.mg_none_of X G z_set) g_l_words g_l_some g_l_pick g_l_clause
  have x_l_law := e_l_law (P := P) (w := w) (base := base) F44 B44 (PySem.W.mg_of X G a44) (PySem.W.mg_none_of X G z_range) (PySem.W.mg_none_of X G z_max) (PySem.W.mg_none_of X G z_min) (PySem.W.mg_none_of X G z_len) g_l_source g_l_right g_l_saying
  exact x_l_law
end
theorem law_holds : ∀ zs : List Int, zs.length ≤ 63 → (∀ z ∈ zs, Builtin.Int.intBits z ≤ 1048576) → sp_l_law [.list (zs.map .int)] fun rs => rs = .d (.bool true) := fun zs h1 h2 =>
  ⟨zs, rfl, fun z hz => PySem.intBits_le_iff.mp (h2 z hz), by omega, rfl⟩
end Gk02

open PySem PySem.W PyProof.Rows in
set_option maxRecDepth 100000 in
set_option maxHeartbeats 0 in
theorem PySem.Challenge.cw_onlyseen_k02_plays_what_is_seen_and_lett_holds : PySem.Challenge.rw_onlyseen_k02_plays_what_is_seen_and_lett.Holds := by
  w_on; o_law; k_head; (case hw => w_witness2)
  k_fill
  refine OS.walk_end (l := PySem.Challenge.rw_onlyseen_k02_plays_what_is_seen_and_lett) (n := 63) (k := 10) (asp := Gk02.sp_l_law) rfl (by decide) rfl ⟨rfl, by decide, by decide⟩ (fun w h Y => PySem.W.kIn_of Y) ?F Gk02.law_holds
  case F =>
    intro w gm fo h KX G hmg
    refine' Gk02.all_mk KX G hmg ?a0 ?l0 ?e0 ?k0 ?a1 ?l1 ?e1 ?k1 ?a2 ?l2 ?e2 ?k2 ?a3 ?l3 ?e3 ?k3 ?a4 ?l4 ?e4 ?k4 ?a5 ?l5 ?e5 ?k5 ?a6 ?l6 ?e6 ?k6 ?a7 ?l7 ?e7 ?k7 ?a8 ?l8 ?e8 ?k8 ?a9 ?l9 ?e9 ?k9 ?a10 ?l10 ?e10 ?k10 ?a11 ?l11 ?e11 ?k11 ?a12 ?l12 ?e12 ?k12 ?a13 ?l13 ?e13 ?k13 ?a14 ?l14 ?e14 ?k14 ?a15 ?l15 ?e15 ?k15 ?a16 ?l16 ?e16 ?k16 ?a17 ?l17 ?e17 ?k17 ?a18 ?l18 ?e18 ?k18 ?a19 ?l19 ?e19 ?k19 ?a20 ?l20 ?e20 ?k20 ?a21 ?l21 ?e21 ?k21 ?a22 ?l22 ?e22 ?k22 ?a23 ?l23 ?e23 ?k23 ?a24 ?l24 ?e24 ?k24 ?a25 ?l25 ?e25 ?k25 ?a26 ?l26 ?e26 ?k26 ?a27 ?l27 ?e27 ?k27 ?a28 ?l28 ?e28 ?k28 ?a29 ?l29 ?e29 ?k29 ?a30 ?l30 ?e30 ?k30 ?a31 ?l31 ?e31 ?k31 ?a32 ?l32 ?e32 ?k32 ?a33 ?l33 ?e33 ?k33 ?a34 ?l34 ?e34 ?k34 ?a35 ?l35 ?e35 ?k35 ?a36 ?l36 ?e36 ?k36 ?a37 ?l37 ?e37 ?k37 ?a38 ?l38 ?e38 ?k38 ?a39 ?l39 ?e39 ?k39 ?a40 ?l40 ?e40 ?k40 ?a41 ?l41 ?e41 ?k41 ?a42 ?l42 ?e42 ?k42 ?a43 ?l43 ?e43 ?k43 ?a44 ?l44 ?e44 ?k44 ?z_abs ?z_all ?z_bool ?z_dict ?z_int ?z_isinstance ?z_len ?z_list ?z_max ?z_min ?z_range ?z_set ?z_sorted ?z_str ?z_sum ?z_tuple ?z_zip ?v_LETTERS ?v_MOST_CLAUSES ?v_MOST_COPIES ?v_MOST_LETTERS ?v_MOST_OWNS ?v_MOST_PICKS
    (case a0 => k_is)
    (case l0 => k_is)
    (case e0 => k_is)
    (case k0 => k_is)
    (case a1 => k_is)
    (case l1 => k_is)
    (case e1 => k_is)
    (case k1 => k_is)
    (case a2 => k_is)
    (case l2 => k_is)
    (case e2 => k_is)
    (case k2 => k_is)
    (case a3 => k_is)
    (case l3 => k_is)
    (case e3 => k_is)
    (case k3 => k_is)
    (case a4 => k_is)
    (case l4 => k_is)
    (case e4 => k_is)
    (case k4 => k_is)
    (case a5 => k_is)
    (case l5 => k_is)
    (case e5 => k_is)
    (case k5 => k_is)
    (case a6 => k_is)
    (case l6 => k_is)
    (case e6 => k_is)
    (case k6 => k_is)
    (case a7 => k_is)
    (case l7 => k_is)
    (case e7 => k_is)
    (case k7 => k_is)
    (case a8 => k_is)
    (case l8 => k_is)
    (case e8 => k_is)
    (case k8 => k_is)
    (case a9 => k_is)
    (case l9 => k_is)
    (case e9 => k_is)
    (case k9 => k_is)
    (case a10 => k_is)
    (case l10 => k_is)
    (case e10 => k_is)
    (case k10 => k_is)
    (case a11 => k_is)
    (case l11 => k_is)
    (case e11 => k_is)
    (case k11 => k_is)
    (case a12 => k_is)
    (case l12 => k_is)
    (case e12 => k_is)
    (case k12 => k_is)
    (case a13 => k_is)
    (case l13 => k_is)
    (case e13 => k_is)
    (case k13 => k_is)
    (case a14 => k_is)
    (case l14 => k_is)
    (case e14 => k_is)
    (case k14 => k_is)
    (case a15 => k_is)
    (case l15 => k_is)
    (case e15 => k_is)
    (case k15 => k_is)
    (case a16 => k_is)
    (case l16 => k_is)
    (case e16 => k_is)
    (case k16 => k_is)
    (case a17 => k_is)
    (case l17 => k_is)
    (case e17 => k_is)
    (case k17 => k_is)
    (case a18 => k_is)
    (case l18 => k_is)
    (case e18 => k_is)
    (case k18 => k_is)
    (case a19 => k_is)
    (case l19 => k_is)
    (case e19 => k_is)
    (case k19 => k_is)
    (case a20 => k_is)
    (case l20 => k_is)
    (case e20 => k_is)
    (case k20 => k_is)
    (case a21 => k_is)
    (case l21 => k_is)
    (case e21 => k_is)
    (case k21 => k_is)
    (case a22 => k_is)
    (case l22 => k_is)
    (case e22 => k_is)
    (case k22 => k_is)
    (case a23 => k_is)
    (case l23 => k_is)
    (case e23 => k_is)
    (case k23 => k_is)
    (case a24 => k_is)
    (case l24 => k_is)
    (case e24 => k_is)
    (case k24 => k_is)
    (case a25 => k_is)
    (case l25 => k_is)
    (case e25 => k_is)
    (case k25 => k_is)
    (case a26 => k_is)
    (case l26 => k_is)
    (case e26 => k_is)
    (case k26 => k_is)
    (case a27 => k_is)
    (case l27 => k_is)
    (case e27 => k_is)
    (case k27 => k_is)
    (case a28 => k_is)
    (case l28 => k_is)
    (case e28 => k_is)
    (case k28 => k_is)
    (case a29 => k_is)
    (case l29 => k_is)
    (case e29 => k_is)
    (case k29 => k_is)
    (case a30 => k_is)
    (case l30 => k_is)
    (case e30 => k_is)
    (case k30 => k_is)
    (case a31 => k_is)
    (case l31 => k_is)
    (case e31 => k_is)
    (case k31 => k_is)
    (case a32 => k_is)
    (case l32 => k_is)
    (case e32 => k_is)
    (case k32 => k_is)
    (case a33 => k_is)
    (case l33 => k_is)
    (case e33 => k_is)
    (case k33 => k_is)
    (case a34 => k_is)
    (case l34 => k_is)
    (case e34 => k_is)
    (case k34 => k_is)
    (case a35 => k_is)
    (case l35 => k_is)
    (case e35 => k_is)
    (case k35 => k_is)
    (case a36 => k_is)
    (case l36 => k_is)
    (case e36 => k_is)
    (case k36 => k_is)
    (case a37 => k_is)
    (case l37 => k_is)
    (case e37 => k_is)
    (case k37 => k_is)
    (case a38 => k_is)
    (case l38 => k_is)
    (case e38 => k_is)
    (case k38 => k_is)
    (case a39 => k_is)
    (case l39 => k_is)
    (case e39 => k_is)
    (case k39 => k_is)
    (case a40 => k_is)
    (case l40 => k_is)
    (case e40 => k_is)
    (case k40 => k_is)
    (case a41 => k_is)
    (case l41 => k_is)
    (case e41 => k_is)
    (case k41 => k_is)
    (case a42 => k_is)
    (case l42 => k_is)
    (case e42 => k_is)
    (case k42 => k_is)
    (case a43 => k_is)
    (case l43 => k_is)
    (case e43 => k_is)
    (case k43 => k_is)
    (case a44 => k_is)
    (case l44 => k_is)
    (case e44 => k_is)
    (case k44 => k_is)
    (case z_abs => k_is)
    (case z_all => k_is)
    (case z_bool => k_is)
    (case z_dict => k_is)
    (case z_int => k_is)
    (case z_isinstance => k_is)
    (case z_len => k_is)
    (case z_list => k_is)
    (case z_max => k_is)
    (case z_min => k_is)
    (case z_range => k_is)
    (case z_set => k_is)
    (case z_sorted => k_is)
    (case z_str => k_is)
    (case z_sum => k_is)
    (case z_tuple => k_is)
    (case z_zip => k_is)
    (case v_LETTERS => k_is)
    (case v_MOST_CLAUSES => k_is)
    (case v_MOST_COPIES => k_is)
    (case v_MOST_LETTERS => k_is)
    (case v_MOST_OWNS => k_is)
    (case v_MOST_PICKS => k_is)
