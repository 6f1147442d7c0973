import PyProof.Rows.All
import Wide.All
import OpenK.AllK
import Wide.FinOn
import KE.KStateDown
import HandS.ForMost
import HandS.WordsExc
import HandS.Defaults
import HandS.Head0
import HandS.Head1
import HandS.Head2
import HandS.HeadEnd
import HandS.HeadHook1
import HandS.HeadHook2
import HandS.Deep
import HandS.TupAny
import HandS.TupSets
import HandS.Strs
import HandS.Style
import KE.SortData
import KE.KDictKeyed
import HandS.IsInst
import HandS.Conv
import HandS.SetFor
import PyProof.MinMaxWalk
import HandS.Comp
import KE.KStar
import HandS.Flow
import HandS.Walk
import HandS.Zip
import HandS.NoneIn
import PyProof.EnumMake
import KE.KDictWalk
import KE.KDictItemsList
import HandS.ListItems
import PySem.Challenge.RW_walkedbands_k53_main_ways_led_past_each
set_option Elab.async false
set_option linter.all false
section
set_option Elab.async false
set_option linter.all false
set_option maxRecDepth 100000
set_option maxHeartbeats 4000000
/-! own layer, part 1: what a value stands for -/
namespace DL
open PySem PySem.Spec PyProof.Rows L2
abbrev D := PyData
abbrev Fb := Addr → Prop

/-! ### keys of dicts -/
mutual
def keyOf : D → Option NestedKey
  | .none => some .none
  | .bool b => some (.num (if b = true then 1 else 0))
  | .int i => some (.num i)
  | .str x => some (.text x)
  | .tuple ds => (keysOf ds).map NestedKey.tup
  | .list _ => none
  | .dict _ => none
def keysOf : List D → Option (List NestedKey)
  | [] => some []
  | d :: ds => match keyOf d, keysOf ds with
    | some k, some ks => some (k :: ks)
    | _, _ => none
end
/-- a dict's object, by its raw entries -/
def DictAt (a : Addr) (es : List (V × Int × V)) (ep : Nat) (h : Heap) : Prop :=
  (a == sysModules) = false ∧ es.length ≤ sizeLine ∧ ∃ o ens, h.get? a = some o ∧ o.ExactDict ∧ o.data = .dict ens ep ∧
    Paired (fun (e : V × Int × V) (n : DictEntry) => RelV e.1 n.key ∧ n.hash = e.2.1 ∧ RelV e.2.2 n.val) es ens.toList
def dictO (a : Addr) (es : List (V × Int × V)) (ep : Nat) : HO := .ext (DictAt a es ep)

def notNone : D → Bool
  | .none => false
  | _ => true
/-- the law's script, a list that is only read -/
def scrD (ns : List Int) : D := .dict [(.none, .list (ns.map .int))]

/-- a tuple that stands as it was made (it has no dict of its own) -/
def SqF (H : Hp) (a : Addr) (xs : List V) : Prop := ∃ o : Obj, o.dict = none ∧ H a = some (.frz o (.tup xs))
theorem SqF.t {K : PySem.W.Frag} {H : Hp} {a : Addr} {xs : List V} (h : SqF H a xs) : SqT K H a xs := by
  obtain ⟨o, _, h⟩ := h
  exact .inl (.inr ⟨o, h⟩)
/-- the script: known to the object, or an object of the module -/
def ScrAt (K : PySem.W.Frag) (F : Fb) (H : Hp) (a : Addr) (xs : List V) : Prop :=
  (¬ F a ∧ ∃ o : Obj, H a = some (.frz o (.lst xs))) ∨ ∃ (o : Obj) (its : Array Value) (n : Nat), K.lookup a = some o ∧ o.cls = .type "list" ∧ o.dict = none ∧ o.data = .seq its n ∧ its.size ≤ sizeLine ∧ Vals xs its.toList
theorem ScrAt.l {K : PySem.W.Frag} {F : Fb} {H : Hp} {a : Addr} {xs : List V} (h : ScrAt K F H a xs) : SqL K H a xs := by
  rcases h with ⟨_, o, h⟩ | h
  · exact .inl (.inr ⟨o, h⟩)
  · exact .inr h
/-! ### v stands for d, not over the addresses of F -/
mutual
inductive Rep (w : World) (K : PySem.W.Frag) (F : Fb) (H : Hp) : V → D → Prop
  | non : Rep w K F H .non .none
  | bl (b : Bool) : Rep w K F H (.bl b) (.bool b)
  | int (i : Int) : Rep w K F H (.int i) (.int i)
  | str (x : Str) : Rep w K F H (.str x) (.str x)
  | lst {a : Addr} {xs : List V} {ds : List D} : ¬ F a → H a = some (.lst xs) → RepL w K F H xs ds → Rep w K F H (.ref a) (.list ds)
  | scr {a : Addr} {ns : List Int} : ScrAt K F H a (ns.map V.int) → Rep w K F H (.ref a) (scrD ns)
  | tup {a : Addr} {xs : List V} {ds : List D} : ¬ F a → SqF H a xs → RepL w K F H xs ds → Rep w K F H (.ref a) (.tuple ds)
  | dic {a : Addr} {es : List (V × Int × V)} {ep : Nat} {kvs : List (D × D)} : ¬ F a → H a = some (dictO a es ep) → RepE w K F H es kvs → (kvs.map fun p => keyOf p.1).Nodup → kvs.all (fun p => notNone p.1) = true → Rep w K F H (.ref a) (.dict kvs)
inductive RepL (w : World) (K : PySem.W.Frag) (F : Fb) (H : Hp) : List V → List D → Prop
  | nil : RepL w K F H [] []
  | cons {v : V} {vs : List V} {d : D} {ds : List D} : Rep w K F H v d → RepL w K F H vs ds → RepL w K F H (v :: vs) (d :: ds)
inductive RepE (w : World) (K : PySem.W.Frag) (F : Fb) (H : Hp) : List (V × Int × V) → List (D × D) → Prop
  | nil : RepE w K F H [] []
  | cons {k v : V} {i : Int} {es : List (V × Int × V)} {kd vd : D} {nk : NestedKey} {kvs : List (D × D)} : Rep w K F H k kd → keyOf kd = some nk → i = nk.hash w → Rep w K F H v vd → RepE w K F H es kvs → RepE w K F H ((k, i, v) :: es) ((kd, vd) :: kvs)
end
section
variable {w : World} {K : PySem.W.Frag} {F F' : Fb} {H H' : Hp}
theorem RepL.length : ∀ {vs : List V} {ds : List D}, RepL w K F H vs ds → vs.length = ds.length
  | _, _, .nil => rfl
  | _, _, .cons _ t => congrArg Nat.succ (RepL.length t)
theorem RepE.length : ∀ {es : List (V × Int × V)} {kvs : List (D × D)}, RepE w K F H es kvs → es.length = kvs.length
  | _, _, .nil => rfl
  | _, _, .cons _ _ _ _ t => congrArg Nat.succ (RepE.length t)
theorem RepL.get : ∀ {vs : List V} {ds : List D} {i : Nat} {d : D}, RepL w K F H vs ds → ds[i]? = some d → ∃ v, vs[i]? = some v ∧ Rep w K F H v d
  | _, _, _, _, .nil, e => by simp at e
  | _, _, 0, _, .cons r _, e => by simp at e; subst e; exact ⟨_, rfl, r⟩
  | _, _, i + 1, d, .cons _ t, e => by
    obtain ⟨u, h1, h2⟩ := RepL.get (i := i) (d := d) t (by simpa using e)
    exact ⟨u, by simpa using h1, h2⟩
theorem RepL.getV {vs : List V} {ds : List D} {i : Nat} {v : V} (r : RepL w K F H vs ds) (e : vs[i]? = some v) : ∃ d, ds[i]? = some d ∧ Rep w K F H v d := by
  have hl := r.length
  obtain ⟨hi, _⟩ := List.getElem?_eq_some_iff.mp e
  obtain ⟨u, h1, h2⟩ := r.get (i := i) (List.getElem?_eq_getElem (by omega))
  rw [e] at h1
  cases h1
  exact ⟨_, List.getElem?_eq_getElem (by omega), h2⟩
theorem RepL.append : ∀ {vs ws : List V} {ds es : List D}, RepL w K F H vs ds → RepL w K F H ws es → RepL w K F H (vs ++ ws) (ds ++ es)
  | _, _, _, _, .nil, s => s
  | _, _, _, _, .cons r t, s => .cons r (RepL.append t s)
theorem RepL.take : ∀ {vs : List V} {ds : List D} (n : Nat), RepL w K F H vs ds → RepL w K F H (vs.take n) (ds.take n)
  | _, _, 0, _ => .nil
  | _, _, _ + 1, .nil => .nil
  | _, _, n + 1, .cons r t => .cons r (RepL.take n t)
theorem RepL.drop : ∀ {vs : List V} {ds : List D} (n : Nat), RepL w K F H vs ds → RepL w K F H (vs.drop n) (ds.drop n)
  | _, _, 0, r => r
  | _, _, _ + 1, .nil => .nil
  | _, _, n + 1, .cons _ t => RepL.drop n t
theorem RepL.reverse : ∀ {vs : List V} {ds : List D}, RepL w K F H vs ds → RepL w K F H vs.reverse ds.reverse
  | _, _, .nil => .nil
  | _, _, .cons r t => by rw [List.reverse_cons, List.reverse_cons]; exact (RepL.reverse t).append (.cons r .nil)
theorem RepL.set {v : V} {d : D} (r : Rep w K F H v d) : ∀ {vs : List V} {ds : List D} (i : Nat), RepL w K F H vs ds → RepL w K F H (vs.set i v) (ds.set i d)
  | _, _, _, .nil => .nil
  | _, _, 0, .cons _ t => .cons r t
  | _, _, i + 1, .cons q t => .cons q (RepL.set r i t)
theorem RepL.ints : ∀ (ns : List Int), RepL w K F H (ns.map V.int) (ns.map PyData.int)
  | [] => .nil
  | n :: ns => .cons (.int n) (RepL.ints ns)
theorem RepL.ints_inv : ∀ {vs : List V} {ns : List Int}, RepL w K F H vs (ns.map PyData.int) → vs = ns.map V.int
  | _, [], .nil => rfl
  | _, n :: ns, .cons r t => by cases r; rw [RepL.ints_inv t]; rfl
theorem RepL.bls_inv : ∀ {vs : List V} {bs : List Bool}, RepL w K F H vs (bs.map PyData.bool) → vs = bs.map V.bl
  | _, [], .nil => rfl
  | _, n :: ns, .cons r t => by cases r; rw [RepL.bls_inv t]; rfl

/-- the heap has grown but for the addresses of W -/
def Ext (W : Fb) (H H' : Hp) : Prop := ∀ p o, H p = some o → ¬ W p → H' p = some o
theorem Ext.refl {W : Fb} : Ext W H H := fun _ _ h _ => h
theorem Ext.trans {W : Fb} {H1 H2 H3 : Hp} (a : Ext W H1 H2) (b : Ext W H2 H3) : Ext W H1 H3 := fun p o h n => b p o (a p o h n) n
theorem Ext.mono {W W' : Fb} {H1 H2 : Hp} (a : Ext W H1 H2) (h : ∀ p, W p → W' p) : Ext W' H1 H2 := fun p o e n => a p o e fun z => n (h p z)
theorem Ext.new {W : Fb} {p : Addr} {o : HO} (h : H p = none) : Ext W H (upd H p o) := fun b x e _ => by rw [upd_ne (ne_of_none e h)]; exact e
theorem Ext.upd {W : Fb} {p : Addr} {o : HO} (h : W p) : Ext W H (L2.upd H p o) := fun b x e n => by
  have hb : b ≠ p := fun z => n (by rw [z]; exact h)
  rw [upd_ne hb]; exact e
theorem ScrAt.ext {a : Addr} {xs : List V} (e : Ext F H H') (hF : ∀ p, F' p → F p) (h : ScrAt K F H a xs) : ScrAt K F' H' a xs := by
  rcases h with ⟨n, o, h⟩ | h
  · exact .inl ⟨fun z => n (hF _ z), o, e a _ h n⟩
  · exact .inr h
theorem SqF.ext {W : Fb} {a : Addr} {xs : List V} (e : Ext W H H') (n : ¬ W a) (h : SqF H a xs) : SqF H' a xs := by
  obtain ⟨o, hd, h⟩ := h
  exact ⟨o, hd, e a _ h n⟩
mutual
/-- what stands for d stays, while only addresses of F change; F may shrink -/
theorem Rep.ext (e : Ext F H H') (hF : ∀ p, F' p → F p) : ∀ (d : D) (v : V), Rep w K F H v d → Rep w K F' H' v d
  | .none, _, h => by cases h; exact .non
  | .bool _, _, h => by cases h; exact .bl _
  | .int _, _, h => by cases h; exact .int _
  | .str _, _, h => by cases h; exact .str _
  | .list ds, _, h => by
    cases h with
    | lst n q r => exact .lst (fun z => n (hF _ z)) (e _ _ q n) (RepL.ext e hF ds _ r)
  | .tuple ds, _, h => by
    cases h with
    | tup n q r => exact .tup (fun z => n (hF _ z)) (SqF.ext e n q) (RepL.ext e hF ds _ r)
  | .dict kvs, _, h => by
    cases h with
    | dic n q r nd nn => exact .dic (fun z => n (hF _ z)) (e _ _ q n) (RepE.ext e hF kvs _ r) nd nn
    | scr q => exact .scr (q.ext e hF)
theorem RepL.ext (e : Ext F H H') (hF : ∀ p, F' p → F p) : ∀ (ds : List D) (vs : List V), RepL w K F H vs ds → RepL w K F' H' vs ds
  | [], _, h => by cases h; exact .nil
  | d :: ds, _, h => by
    cases h with
    | cons a b => exact .cons (Rep.ext e hF d _ a) (RepL.ext e hF ds _ b)
theorem RepE.ext (e : Ext F H H') (hF : ∀ p, F' p → F p) : ∀ (kvs : List (D × D)) (es : List (V × Int × V)), RepE w K F H es kvs → RepE w K F' H' es kvs
  | [], _, h => by cases h; exact .nil
  | (k, v) :: kvs, _, h => by
    cases h with
    | cons a b c d t => exact .cons (Rep.ext e hF k _ a) b c (Rep.ext e hF v _ d) (RepE.ext e hF kvs _ t)
end
end

section
variable {w : World} {K : PySem.W.Frag} {F F' : Fb} {H : Hp}
mutual
/-- F may grow by what is not there yet -/
theorem Rep.grow (hF : ∀ p, F' p → F p ∨ H p = none) : ∀ (d : D) (v : V), Rep w K F H v d → Rep w K F' H v d
  | .none, _, h => by cases h; exact .non
  | .bool _, _, h => by cases h; exact .bl _
  | .int _, _, h => by cases h; exact .int _
  | .str _, _, h => by cases h; exact .str _
  | .list ds, _, h => by
    cases h with
    | lst n q r => exact .lst (fun z => (hF _ z).elim n fun m => by rw [q] at m; cases m) q (RepL.grow hF ds _ r)
  | .tuple ds, _, h => by
    cases h with
    | tup n q r => exact .tup (fun z => (hF _ z).elim n fun m => by obtain ⟨o, _, q⟩ := q; rw [q] at m; cases m) q (RepL.grow hF ds _ r)
  | .dict kvs, _, h => by
    cases h with
    | dic n q r nd nn => exact .dic (fun z => (hF _ z).elim n fun m => by rw [q] at m; cases m) q (RepE.grow hF kvs _ r) nd nn
    | scr q => 
      refine .scr ?_
      rcases q with ⟨n, o, h⟩ | q
      · exact .inl ⟨fun z => (hF _ z).elim n fun m => (by rw [h] at m; cases m), o, h⟩
      · exact .inr q
theorem RepL.grow (hF : ∀ p, F' p → F p ∨ H p = none) : ∀ (ds : List D) (vs : List V), RepL w K F H vs ds → RepL w K F' H vs ds
  | [], _, h => by cases h; exact .nil
  | d :: ds, _, h => by
    cases h with
    | cons a b => exact .cons (Rep.grow hF d _ a) (RepL.grow hF ds _ b)
theorem RepE.grow (hF : ∀ p, F' p → F p ∨ H p = none) : ∀ (kvs : List (D × D)) (es : List (V × Int × V)), RepE w K F H es kvs → RepE w K F' H es kvs
  | [], _, h => by cases h; exact .nil
  | (k, v) :: kvs, _, h => by
    cases h with
    | cons a b c d t => exact .cons (Rep.grow hF k _ a) b c (Rep.grow hF v _ d) (RepE.grow hF kvs _ t)
end
end

/-! ### data that never change -/
mutual
def imm : D → Bool
  | .none => true
  | .bool _ => true
  | .int _ => true
  | .str _ => true
  | .tuple ds => immL ds
  | .list _ => false
  | .dict _ => false
def immL : List D → Bool
  | [] => true
  | d :: ds => imm d && immL ds
end
section
variable {w : World} {K : PySem.W.Frag} {F F' : Fb} {H H' : Hp}
mutual
/-- such data may be held to stand over fewer addresses: those that hold no tuples -/
theorem Rep.imm (hF : ∀ p, F' p → F p ∨ ∀ xs, ¬ SqF H p xs) : ∀ (d : D) (v : V), imm d = true → Rep w K F H v d → Rep w K F' H v d
  | .none, _, _, h => by cases h; exact .non
  | .bool _, _, _, h => by cases h; exact .bl _
  | .int _, _, _, h => by cases h; exact .int _
  | .str _, _, _, h => by cases h; exact .str _
  | .list ds, _, i, h => by simp [DL.imm] at i
  | .tuple ds, _, i, h => by
    cases h with
    | tup n q r => exact .tup (fun z => (hF _ z).elim n fun m => m _ q) q (RepL.imm hF ds _ (by simpa [DL.imm] using i) r)
  | .dict kvs, _, i, h => by simp [DL.imm] at i
theorem RepL.imm (hF : ∀ p, F' p → F p ∨ ∀ xs, ¬ SqF H p xs) : ∀ (ds : List D) (vs : List V), immL ds = true → RepL w K F H vs ds → RepL w K F' H vs ds
  | [], _, _, h => by cases h; exact .nil
  | d :: ds, _, i, h => by
    simp only [immL, Bool.and_eq_true] at i
    cases h with
    | cons a b => exact .cons (Rep.imm hF d _ i.1 a) (RepL.imm hF ds _ i.2 b)
end
end

/-! ### depth -/
mutual
def dp : Nat → D → Bool
  | _, .none => true
  | _, .bool _ => true
  | _, .int _ => true
  | _, .str x => PyData.strOk x
  | 0, .list _ => false
  | 0, .tuple _ => false
  | n + 1, .list ds => dpL n ds
  | n + 1, .tuple ds => dpL n ds
  | _, .dict _ => false
def dpL : Nat → List D → Bool
  | _, [] => true
  | n, d :: ds => dp n d && dpL n ds
end
theorem dpL_all (n : Nat) : ∀ ds : List D, dpL n ds = ds.all (dp n)
  | [] => by simp [dpL]
  | d :: ds => by simp [dpL, dpL_all n ds]
mutual
theorem dp_shaped : ∀ (d : D) (n : Nat), dp n d = true → d.canLay0 = true ∧ d.depth ≤ n
  | .none, n, _ => by simp [PyData.canLay0, PyData.depth]
  | .bool _, n, _ => by simp [PyData.canLay0, PyData.depth]
  | .int _, n, _ => by simp [PyData.canLay0, PyData.depth]
  | .str _, n, h => by simp only [dp] at h; simp [PyData.canLay0, PyData.depth, h]
  | .list ds, 0, h => by simp [dp] at h
  | .tuple ds, 0, h => by simp [dp] at h
  | .list ds, n + 1, h => by
    obtain ⟨a, b⟩ := dpL_shaped ds n (by simpa [dp] using h)
    simp only [PyData.canLay0, PyData.depth]
    exact ⟨a, by omega⟩
  | .tuple ds, n + 1, h => by
    obtain ⟨a, b⟩ := dpL_shaped ds n (by simpa [dp] using h)
    simp only [PyData.canLay0, PyData.depth]
    exact ⟨a, by omega⟩
  | .dict _, n, h => by simp [dp] at h
theorem dpL_shaped : ∀ (ds : List D) (n : Nat), dpL n ds = true → PyData.canLayAll0 ds = true ∧ PyData.depthAll ds ≤ n
  | [], n, _ => by simp [PyData.canLayAll0, PyData.depthAll]
  | d :: ds, n, h => by
    simp only [dpL, Bool.and_eq_true] at h
    obtain ⟨a, b⟩ := dp_shaped d n h.1
    obtain ⟨c, e⟩ := dpL_shaped ds n h.2
    simp only [PyData.canLayAll0, PyData.depthAll, a, c, Bool.and_self, true_and]
    omega
end
theorem dp60 {d : D} (h : dp 60 d = true) : SeqAt.shaped d = true := by
  obtain ⟨a, b⟩ := dp_shaped d 60 h
  unfold SeqAt.shaped
  rw [a, Bool.true_and, decide_eq_true_eq]
  omega

/-- what an owned list or dict holds -/
def OwnAt (w : World) (K : PySem.W.Frag) (F : Fb) (H : Hp) (a : Addr) (d : D) : Prop :=
  (∃ xs ds, d = .list ds ∧ H a = some (.lst xs) ∧ RepL w K F H xs ds) ∨ ∃ es ep kvs, d = .dict kvs ∧ H a = some (dictO a es ep) ∧ RepE w K F H es kvs ∧ (kvs.map fun p => keyOf p.1).Nodup ∧ kvs.all (fun p => notNone p.1) = true
/-- v stands for d, or is owned and holds d: for reading only -/
inductive RepB (w : World) (K : PySem.W.Frag) (F : Fb) (H : Hp) (v : V) (d : D) : Prop
  | rep (h : Rep w K F H v d) : RepB w K F H v d
  | own (a : Addr) (e : v = .ref a) (h : OwnAt w K F H a d) : RepB w K F H v d
abbrev RepBL (w : World) (K : PySem.W.Frag) (F : Fb) (H : Hp) : List V → List D → Prop := Paired (RepB w K F H)
section
variable {w : World} {K : PySem.W.Frag} {F F' : Fb} {H H' : Hp}
theorem OwnAt.ext {a : Addr} {d : D} (e : Ext F H H') (hF : ∀ p, F' p → F p) (h : OwnAt w K F H a d) (ha : H' a = H a) : OwnAt w K F' H' a d := by
  rcases h with ⟨xs, ds, rfl, h1, h2⟩ | ⟨es, ep, kvs, rfl, h1, h2, h3, h4⟩
  · exact .inl ⟨xs, ds, rfl, ha.trans h1, RepL.ext e hF _ _ h2⟩
  · exact .inr ⟨es, ep, kvs, rfl, ha.trans h1, RepE.ext e hF _ _ h2, h3, h4⟩
theorem OwnAt.grow {a : Addr} {d : D} (hF : ∀ p, F' p → F p ∨ H p = none) (h : OwnAt w K F H a d) : OwnAt w K F' H a d := by
  rcases h with ⟨xs, ds, rfl, h1, h2⟩ | ⟨es, ep, kvs, rfl, h1, h2, h3, h4⟩
  · exact .inl ⟨xs, ds, rfl, h1, RepL.grow hF _ _ h2⟩
  · exact .inr ⟨es, ep, kvs, rfl, h1, RepE.grow hF _ _ h2, h3, h4⟩
theorem OwnAt.rep {a : Addr} {d : D} (n : ¬ F a) (h : OwnAt w K F H a d) : Rep w K F H (.ref a) d := by
  rcases h with ⟨xs, ds, rfl, h1, h2⟩ | ⟨es, ep, kvs, rfl, h1, h2, h3, h4⟩
  · exact .lst n h1 h2
  · exact .dic n h1 h2 h3 h4
/-- where nothing that was there changed -/
theorem RepB.ext {v : V} {d : D} (e : Ext (fun _ => False) H H') (h : RepB w K F H v d) : RepB w K F H' v d := by
  cases h with
  | rep h => exact .rep (Rep.ext (e.mono fun _ z => z.elim) (fun _ z => z) _ _ h)
  | own a ea h => exact .own a ea (h.ext (e.mono fun _ z => z.elim) (fun _ z => z) (by
      rcases h with ⟨xs, ds, _, h1, _⟩ | ⟨es, ep, kvs, _, h1, _⟩
      · rw [h1]; exact e _ _ h1 fun z => z
      · rw [h1]; exact e _ _ h1 fun z => z))
theorem RepBL.of : ∀ {vs : List V} {ds : List D}, RepL w K F H vs ds → RepBL w K F H vs ds
  | _, _, .nil => .nil
  | _, _, .cons a t => .cons (.rep a) (RepBL.of t)
end
section
variable {w : World} {K : PySem.W.Frag} {F : Fb} {H : Hp}
mutual
theorem Rep.dp_ : ∀ (d : D) (v : V) (n : Nat), dp n d = true → Rep w K F H v d → Dp K H v d
  | .none, _, _, _, h => by cases h; exact .non
  | .bool _, _, _, _, h => by cases h; exact .bl _
  | .int _, _, _, _, h => by cases h; exact .int _
  | .str _, _, _, _, h => by cases h; exact .str _
  | .list ds, _, 0, i, h => by simp [dp] at i
  | .tuple ds, _, 0, i, h => by simp [dp] at i
  | .list ds, _, n + 1, i, h => by
    cases h with
    | lst _ q r => exact .lst (.inl (.inl q)) (RepL.dp_ ds _ n (by simpa [dp] using i) r)
  | .tuple ds, _, n + 1, i, h => by
    cases h with
    | tup _ q r => exact .tup q.t (RepL.dp_ ds _ n (by simpa [dp] using i) r)
  | .dict _, _, _, i, h => by simp [dp] at i
theorem RepL.dp_ : ∀ (ds : List D) (vs : List V) (n : Nat), dpL n ds = true → RepL w K F H vs ds → DpAll K H vs ds
  | [], _, _, _, h => by cases h; exact .nil
  | d :: ds, _, n, i, h => by
    simp only [dpL, Bool.and_eq_true] at i
    cases h with
    | cons a b => exact .cons (Rep.dp_ d _ n i.1 a) (RepL.dp_ ds _ n i.2 b)
end
theorem RepB.dp_ {d : D} {v : V} {n : Nat} (i : dp n d = true) (h : RepB w K F H v d) : Dp K H v d := by
  cases h with
  | rep h => exact Rep.dp_ d v n i h
  | own a e h =>
    subst e
    rcases h with ⟨xs, ds, rfl, h1, h2⟩ | ⟨es, ep, kvs, rfl, h1, h2, h3, h4⟩
    · cases n with
      | zero => simp [dp] at i
      | succ n => exact .lst (.inl (.inl h1)) (RepL.dp_ ds _ n (by simpa [dp] using i) h2)
    · simp [dp] at i
end
end DL

end
section
set_option Elab.async false
set_option linter.all false
set_option maxRecDepth 100000
set_option maxHeartbeats 4000000
/-! own layer, part 2: operators -/
namespace DL
open PySem PySem.Spec PyProof.Rows L2

def FOk (F : Fb) (H : Hp) : Prop := ∀ p, F p → H p ≠ none
abbrev E0 : Fb := fun _ => False
def ndK (kvs : List (D × D)) : Prop := (kvs.map fun p => keyOf p.1).Nodup
/-- the answer is a new list or dict -/
def Fresh (w : World) (K : PySem.W.Frag) (F : Fb) (H : Hp) (d : D) (v : V) (H' : Hp) : Prop :=
  ∃ p, v = .ref p ∧ H p = none ∧ OwnAt w K (fun q => F q ∨ q = p) H' p d
theorem Fresh.rep {w : World} {K : PySem.W.Frag} {F : Fb} {H H' : Hp} {d : D} {v : V} (f : Fresh w K F H d v H') (o : FOk F H) : Rep w K F H' v d := by
  obtain ⟨p, rfl, n, h⟩ := f
  exact OwnAt.rep (fun z => o p z n) (h.ext (F' := F) (fun _ _ e _ => e) (fun _ z => .inl z) rfl)
/-- what a pure operation leaves -/
def Out (w : World) (K : PySem.W.Frag) (fr : Bool) (F : Fb) (H : Hp) (d : D) (Q : VK) : Prop :=
  ∀ v H', Ext E0 H H' → Rep w K F H' v d → (fr = true → Fresh w K F H d v H') → Q v H'
def isN : D → Bool
  | .none => true
  | _ => false
section
variable {w : World} {K : PySem.W.Frag} {F : Fb} {H H' : Hp} {Q : VK} {fr : Bool} {v : V} {d : D}
theorem Ext.e0 {W : Fb} {H H' : Hp} (e : Ext E0 H H') : Ext W H H' := e.mono fun _ z => z.elim
theorem FOk.ext {W : Fb} (o : FOk F H) (e : Ext W H H') (hW : ∀ p, W p → F p → H' p ≠ none) : FOk F H' := fun p f n => by
  cases q : H p with
  | none => exact o p f q
  | some x =>
    by_cases hw : W p
    · exact hW p hw f n
    · rw [e p x q hw] at n
      cases n
theorem FOk.e0 (o : FOk F H) (e : Ext E0 H H') : FOk F H' := o.ext e fun _ z => z.elim
theorem Out.here (h : Out w K false F H d Q) (r : Rep w K F H v d) : Q v H := h v H .refl r (fun z => nomatch z)
theorem grow_new {p : Addr} (n : H p = none) : ∀ q, F q ∨ q = p → F q ∨ H q = none := fun q z => z.imp id fun e => by rw [e]; exact n
theorem Out.list {ds : List D} {xs : List V} (h : Out w K fr F H (.list ds) Q) (o : FOk F H) (r : RepL w K F H xs ds) (p : Addr) (n : H p = none) : Q (.ref p) (upd H p (.lst xs)) := by
  have e : Ext E0 H (upd H p (.lst xs)) := Ext.new n
  have r' : RepL w K (fun q => F q ∨ q = p) (upd H p (.lst xs)) xs ds := RepL.ext (e.e0) (fun _ z => z) ds xs (RepL.grow (grow_new n) ds xs r)
  have f : Fresh w K F H (.list ds) (.ref p) (upd H p (.lst xs)) := ⟨p, rfl, n, .inl ⟨xs, ds, rfl, upd_same, r'⟩⟩
  exact h _ _ e (f.rep o) fun _ => f
theorem Out.tuple {ds : List D} {xs : List V} (h : Out w K false F H (.tuple ds) Q) (o : FOk F H) (r : RepL w K F H xs ds) (p : Addr) (ob : Obj) (n : H p = none) (hd : ob.dict = none) : Q (.ref p) (upd H p (.frz ob (.tup xs))) := by
  have e : Ext E0 H (upd H p (.frz ob (.tup xs))) := Ext.new n
  exact h _ _ e (.tup (fun z => o p z n) ⟨ob, hd, upd_same⟩ (RepL.ext (e.e0) (fun _ z => z) ds xs r)) (fun z => nomatch z)
theorem Rep.list_inv0 {ds : List D} (h : Rep w K F H v (.list ds)) : ∃ a xs, v = .ref a ∧ ¬ F a ∧ H a = some (.lst xs) ∧ RepL w K F H xs ds := by
  cases h with
  | lst n q r => exact ⟨_, _, rfl, n, q, r⟩
theorem RepB.list_inv {ds : List D} (h : RepB w K F H v (.list ds)) : ∃ a xs, v = .ref a ∧ H a = some (.lst xs) ∧ RepL w K F H xs ds := by
  cases h with
  | rep h => obtain ⟨a, xs, e, _, q⟩ := h.list_inv0; exact ⟨a, xs, e, q⟩
  | own a e h =>
    rcases h with ⟨xs, ds, e2, h1, h2⟩ | ⟨es, ep, kvs, e2, _⟩
    · cases e2; exact ⟨a, xs, e, h1, h2⟩
    · cases e2
theorem Rep.tuple_inv {ds : List D} (h : Rep w K F H v (.tuple ds)) : ∃ a xs, v = .ref a ∧ ¬ F a ∧ SqF H a xs ∧ RepL w K F H xs ds := by
  cases h with
  | tup n q r => exact ⟨_, _, rfl, n, q, r⟩
theorem Rep.dict_inv0 {kvs : List (D × D)} (h : Rep w K F H v (.dict kvs)) (hk : kvs.all (fun p => notNone p.1) = true) : ∃ a es ep, v = .ref a ∧ ¬ F a ∧ H a = some (dictO a es ep) ∧ RepE w K F H es kvs ∧ ndK kvs := by
  cases h with
  | dic n q r nd => exact ⟨_, _, _, rfl, n, q, r, nd⟩
  | scr q => simp [notNone] at hk
theorem RepB.dict_inv {kvs : List (D × D)} (h : RepB w K F H v (.dict kvs)) (hk : kvs.all (fun p => notNone p.1) = true) : ∃ a es ep, v = .ref a ∧ H a = some (dictO a es ep) ∧ RepE w K F H es kvs ∧ ndK kvs := by
  cases h with
  | rep h => obtain ⟨a, es, ep, e, _, q⟩ := h.dict_inv0 hk; exact ⟨a, es, ep, e, q⟩
  | own a e h =>
    rcases h with ⟨xs, ds, e2, h1, h2⟩ | ⟨es, ep, kvs, e2, h1, h2, h3, _⟩
    · cases e2
    · cases e2; exact ⟨a, es, ep, e, h1, h2, h3⟩
theorem Rep.scr_inv {ns : List Int} (h : Rep w K F H v (scrD ns)) : ∃ a, v = .ref a ∧ SqL K H a (ns.map V.int) := by
  generalize e : scrD ns = d at h
  cases h with
  | @dic a es ep kvs n q r nd nn =>
    have e' : [(PyData.none, PyData.list (ns.map .int))] = kvs := by
      unfold scrD at e
      injection e
    rw [← e'] at nn
    simp [notNone] at nn
  | @scr a ms q =>
    have e' : ns.map PyData.int = ms.map PyData.int := by
      unfold scrD at e
      simpa using e
    have e2 : ns = ms := by
      have := congrArg (List.map fun d => match d with | PyData.int i => i | _ => 0) e'
      simpa [Function.comp_def] using this
    rw [e2]
    exact ⟨_, rfl, q.l⟩
  | _ => unfold scrD at e; cases e
theorem OwnAt.kind {a : Addr} {d : D} (h : OwnAt w K F H a d) : (∃ ds, d = .list ds) ∨ ∃ kvs, d = .dict kvs ∧ kvs.all (fun p => notNone p.1) = true := by
  rcases h with ⟨xs, ds, e2, h1, h2⟩ | ⟨es, ep, kvs, e2, h1, h2, h3, h4⟩
  · exact .inl ⟨_, e2⟩
  · exact .inr ⟨_, e2, h4⟩
def flatD : D → Bool
  | .list _ => false
  | .dict [(.none, _)] => true
  | .dict _ => false
  | _ => true
theorem RepB.rep_of (h : RepB w K F H v d) (n : flatD d = true) : Rep w K F H v d := by
  cases h with
  | rep h => exact h
  | own a e h =>
    rcases h.kind with ⟨ds, rfl⟩ | ⟨kvs, rfl, h2⟩
    · cases n
    · unfold flatD at n
      split at n <;> rename_i e2
      · cases e2
      · cases e2; simp [notNone] at h2
      · cases n
      · exact (e2 _ rfl).elim
theorem RepB.tuple_inv {ds : List D} (h : RepB w K F H v (.tuple ds)) : ∃ a xs, v = .ref a ∧ ¬ F a ∧ SqF H a xs ∧ RepL w K F H xs ds := (h.rep_of rfl).tuple_inv
theorem RepB.scr_inv {ns : List Int} (h : RepB w K F H v (scrD ns)) : ∃ a, v = .ref a ∧ SqL K H a (ns.map V.int) := (h.rep_of rfl).scr_inv
theorem RepB.int_inv {i : Int} (h : RepB w K F H v (.int i)) : v = .int i := by have h := h.rep_of rfl; cases h; rfl
theorem RepB.bool_inv {i : Bool} (h : RepB w K F H v (.bool i)) : v = .bl i := by have h := h.rep_of rfl; cases h; rfl
theorem RepB.none_inv (h : RepB w K F H v .none) : v = .non := by have h := h.rep_of rfl; cases h; rfl
theorem RepB.str_inv {x : Str} (h : RepB w K F H v (.str x)) : v = .str x := by have h := h.rep_of rfl; cases h; rfl
theorem RepB.non_iff (h : RepB w K F H v d) : decide (v = V.non) = isN d := by
  cases h with
  | rep h => cases h <;> rfl
  | own a e h =>
    subst e
    rcases h.kind with ⟨ds, rfl⟩ | ⟨kvs, rfl, h2⟩ <;> rfl
end
/-- how long a list or tuple may be here -/
def fits (n : Nat) : Bool := decide (n ≤ 16777216)
theorem fits_line {n : Nat} (h : fits n = true) : n ≤ sizeLine := by rw [sizeLine_eq]; exact of_decide_eq_true h

/-! ### keys -/
def isKey (k : D) : Bool := match keyOf k with
  | some nk => decide (nk.depth ≤ 8)
  | none => false
def isTup : D → Bool
  | .tuple _ => true
  | _ => false
def isInt : D → Bool
  | .int _ => true
  | _ => false
/-- the keys are all tuples, or all ints -/
def goodKey (k : D) (kvs : List (D × D)) : Bool := isTup k && isKey k && kvs.all (fun p => isTup p.1 && isKey p.1)
def lookD (k : D) (kvs : List (D × D)) : Option D := (kvs.find? fun p => decide (keyOf p.1 = keyOf k)).map (·.2)
def putD (k v : D) (kvs : List (D × D)) : List (D × D) :=
  if (lookD k kvs).isSome then kvs.map (fun p => if keyOf p.1 = keyOf k then (p.1, v) else p) else kvs ++ [(k, v)]

/-! ### two data -/
inductive O2 where
  | add | addL | sub | mul | mod | fdiv | pow | eq | ne | lt | le | gt | ge | is | isnot | inn | notin
  deriving DecidableEq
def memD (d : D) (ds : List D) : Bool := ds.any fun y => PyData.eqv y d
def mulOk (i j : Int) : Bool := decide (i.natAbs < 18446744073709551616) || decide (j.natAbs < 18446744073709551616)
def addD : D → D → Option D
  | .int i, .int j => some (.int (i + j))
  | .tuple xs, .tuple ys => if fits (xs.length + ys.length) then some (.tuple (xs ++ ys)) else none
  | _, _ => none
def addLD : D → D → Option D
  | .list xs, .list ys => if fits (xs.length + ys.length) then some (.list (xs ++ ys)) else none
  | _, _ => none
def mulD : D → D → Option D
  | .int i, .int j => if mulOk i j then some (.int (i * j)) else none
  | _, _ => none
/-- two ints -/
def intD (c : Int → Int → Bool) (f : Int → Int → D) : D → D → Option D
  | .int i, .int j => if c i j then some (f i j) else none
  | _, _ => none
def ltD : D → D → Option D
  | .int i, .int j => some (.bool (decide (i < j)))
  | .tuple xs, .tuple ys => if dp 60 (.tuple xs) && dp 60 (.tuple ys) && PySem.W.alike (.tuple xs) (.tuple ys) then some (.bool (PySem.W.dataLt (.tuple xs) (.tuple ys))) else none
  | _, _ => none
def isD (neg : Bool) (a : D) : D → Option D
  | .none => some (.bool (isN a != neg))
  | _ => none
def inD (neg : Bool) (a : D) : D → Option D
  | .list xs => if dp 60 a && dp 60 (.list xs) then some (.bool (memD a xs != neg)) else none
  | .tuple xs => if dp 60 a && dp 60 (.tuple xs) then some (.bool (memD a xs != neg)) else none
  | .dict kvs => if goodKey a kvs then some (.bool ((lookD a kvs).isSome != neg)) else none
  | _ => none
def eqD (neg : Bool) (a b : D) : Option D := if dp 60 a && dp 60 b then some (.bool (PyData.eqv a b != neg)) else none
def o2 : O2 → D → D → Option D
  | .add => addD
  | .addL => addLD
  | .sub => intD (fun _ _ => true) fun i j => .int (i - j)
  | .mul => mulD
  | .mod => intD (fun _ j => decide (0 < j)) fun i j => .int (i % j)
  | .fdiv => intD (fun _ j => decide (0 < j ∧ j < 1073741824)) fun i j => .int (i / j)
  | .pow => intD (fun i j => decide (0 ≤ j ∧ j ≤ 1000 ∧ i.natAbs < 1000)) fun i j => .int (i ^ j.toNat)
  | .eq => eqD false
  | .ne => eqD true
  | .lt => ltD
  | .le => intD (fun _ _ => true) fun i j => .bool (decide (i ≤ j))
  | .gt => intD (fun _ _ => true) fun i j => .bool (decide (j < i))
  | .ge => intD (fun _ _ => true) fun i j => .bool (decide (j ≤ i))
  | .is => isD false
  | .isnot => isD true
  | .inn => inD false
  | .notin => inD true
def O2.bin : O2 → Option Operator
  | .add => some .Add
  | .addL => some .Add
  | .sub => some .Sub
  | .mul => some .Mult
  | .mod => some .Mod
  | .fdiv => some .FloorDiv
  | .pow => some .Pow
  | _ => none
def O2.cmp : O2 → Option CmpOp
  | .eq => some .Eq
  | .ne => some .NotEq
  | .lt => some .Lt
  | .le => some .LtE
  | .gt => some .Gt
  | .ge => some .GtE
  | .is => some .Is
  | .isnot => some .IsNot
  | .inn => some .In
  | .notin => some .NotIn
  | _ => none
def O2.fr : O2 → Bool
  | .addL => true
  | _ => false
theorem ite_some {α : Type} {c : Prop} [Decidable c] {x y : α} (h : (if c then some x else none) = some y) : c ∧ x = y := by
  split at h
  · exact ⟨‹c›, Option.some.inj h⟩
  · cases h
theorem intD_inv {c : Int → Int → Bool} {f : Int → Int → D} {a b d : D} (h : intD c f a b = some d) : ∃ i j, a = .int i ∧ b = .int j ∧ c i j = true ∧ f i j = d := by
  unfold intD at h
  split at h
  · obtain ⟨h1, h2⟩ := ite_some h
    exact ⟨_, _, rfl, rfl, h1, h2⟩
  · cases h
/-- the relation of a two-place operation -/
def r2 (w : World) (K : PySem.W.Frag) (fr : Bool) (f : D → D → Option D) : R2 := fun x y H Q => ∃ F a b d, FOk F H ∧ RepB w K F H x a ∧ RepB w K F H y b ∧ f a b = some d ∧ Out w K fr F H d Q

section
variable {X : Cx}
theorem OpR.of {f : Value → Value → Sem Value} {r r' : R2} (h : OpR X f r) (i : ∀ x y H Q, r' x y H Q → r x y H Q) : OpR X f r' :=
  fun pins s σ H x y v u Q I rx ry q => h pins s σ H x y v u Q I rx ry (i _ _ _ _ q)
/-- two ints -/
theorem r2_int {f : Value → Value → Sem Value} {C : Int → Int → Prop} {c : Int → Int → Bool} {g : Int → Int → V} {gd : Int → Int → D} (h : OpR X f (rI C g)) (hc : ∀ i j, c i j = true → C i j)
    (hg : ∀ {F H} i j, Rep X.w X.K F H (g i j) (gd i j)) : OpR X f (r2 X.w X.K false (intD c gd)) :=
  OpR.of h fun x y H Q ⟨F, a, b, d, o, r1, r2, e, q⟩ => by
    obtain ⟨i, j, rfl, rfl, h1, rfl⟩ := intD_inv e
    exact ⟨i, j, r1.int_inv, r2.int_inv, hc i j h1, q.here (hg i j)⟩
theorem r2_int0 {f : Value → Value → Sem Value} {g : Int → Int → V} {gd : Int → Int → D} (h : OpR X f (rI0 g))
    (hg : ∀ {F H} i j, Rep X.w X.K F H (g i j) (gd i j)) : OpR X f (r2 X.w X.K false (intD (fun _ _ => true) gd)) :=
  OpR.of h fun x y H Q ⟨F, a, b, d, o, r1, r2, e, q⟩ => by
    obtain ⟨i, j, rfl, rfl, h1, rfl⟩ := intD_inv e
    exact ⟨i, j, r1.int_inv, r2.int_inv, q.here (hg i j)⟩
theorem ok_sub : OpR X (binaryOp .Sub) (r2 X.w X.K false (o2 .sub)) := r2_int0 op_sub fun i j => .int _
theorem ok_mod : OpR X (binaryOp .Mod) (r2 X.w X.K false (o2 .mod)) := r2_int op_mod (fun i j h => of_decide_eq_true h) fun i j => .int _
theorem ok_fdiv : OpR X (binaryOp .FloorDiv) (r2 X.w X.K false (o2 .fdiv)) := r2_int op_fdiv (fun i j h => by
  have h : 0 < j ∧ j < 1073741824 := of_decide_eq_true h
  exact h) fun i j => .int _
theorem ok_pow : OpR X (binaryOp .Pow) (r2 X.w X.K false (o2 .pow)) := r2_int op_pow (fun i j h => by
  obtain ⟨h1, h2, h3⟩ := of_decide_eq_true h
  exact ⟨h1, by omega, by omega⟩) fun i j => .int _
theorem ok_le : OpR X (compareOp .LtE) (r2 X.w X.K false (o2 .le)) := r2_int0 op_le fun i j => .bl _
theorem ok_gt : OpR X (compareOp .Gt) (r2 X.w X.K false (o2 .gt)) := r2_int0 op_gt fun i j => .bl _
theorem ok_ge : OpR X (compareOp .GtE) (r2 X.w X.K false (o2 .ge)) := r2_int0 op_ge fun i j => .bl _
theorem mulD_inv {a b d : D} (h : mulD a b = some d) : ∃ i j, a = .int i ∧ b = .int j ∧ mulOk i j = true ∧ d = .int (i * j) := by
  cases a <;> cases b <;> first | (simp only [mulD] at h; cases h; done) | skip
  obtain ⟨h1, h2⟩ := ite_some h
  exact ⟨_, _, rfl, rfl, h1, h2.symm⟩
theorem ok_mul : OpR X (binaryOp .Mult) (r2 X.w X.K false (o2 .mul)) :=
  OpR.of op_mul fun x y H Q ⟨F, a, b, d, o, r1, r2, e, q⟩ => by
    obtain ⟨i, j, rfl, rfl, h1, rfl⟩ := mulD_inv e
    refine ⟨i, j, r1.int_inv, r2.int_inv, ?_, q.here (.int _)⟩
    unfold mulOk at h1
    rw [Bool.or_eq_true, decide_eq_true_eq, decide_eq_true_eq] at h1
    rcases h1 with h1 | h1
    · exact .inl ⟨by omega, by omega⟩
    · exact .inr ⟨by omega, by omega⟩
/-- t + u -/
def rCatF (K : PySem.W.Frag) : R2 := fun x y H Q => ∃ a b xs ys, x = .ref a ∧ y = .ref b ∧ SqT K H a xs ∧ SqT K H b ys ∧ xs.length + ys.length ≤ sizeLine ∧
  (xs = [] → Q (.ref b) H) ∧ (ys = [] → Q (.ref a) H) ∧ ∀ p (o : Obj), H p = none → o.dict = none → Q (.ref p) (upd H p (.frz o (.tup (xs ++ ys))))
/-- a tuple that was just laid -/
theorem laid_tup {pins : List (Addr × Obj)} {σ : L2.St} {H : Hp} {s : Shared} {xs : List V} {its : List Value} (I : Inv X pins σ H s) (r : Vals xs its) (hz : xs.length ≤ sizeLine) :
    Inv X pins σ (upd H s.heap.objs.size (.frz { cls := .type "tuple", data := .seq its.toArray } (.tup xs))) { s with heap := s.heap.push { cls := .type "tuple", data := .seq its.toArray } } := by
  refine I.laid (t' := s.toks) (fun b u e => Heap.get?_push_of_some _ e) (Nat.le_refl _) ?_
  have e : (s.heap.push { cls := .type "tuple", data := .seq its.toArray }).get? s.heap.objs.size = some { cls := .type "tuple", data := .seq its.toArray } := Heap.get?_push_size _ rfl
  exact ⟨e, hz, its, r, ⟨_, e, rfl, _, rfl⟩⟩
theorem op_catF : OpR X (binaryOp .Add) (rCatF X.K) := by
  intro pins s σ H x y v u Q I rx ry h
  obtain ⟨a, b, xs, ys, rfl, rfl, ha, hb, hz, q0, q1, q2⟩ := h
  by_cases hx : xs = []
  · exact op_catA pins s σ H _ _ v u Q I rx ry ⟨a, b, xs, ys, rfl, rfl, ha, hb, hz, q0, fun z => absurd hx z, fun z => absurd hx z⟩
  · cases rx
    cases ry
    obtain ⟨its, r1, p1, _⟩ := I.tuple ha
    obtain ⟨its2, r2, p2, _⟩ := I.tuple hb
    refine HT.cat_tup p1 p2 (fun z => hx (r1.nil_iff.mp z)) (fun z => ⟨.ref a, H, I, rfl, q1 (r2.nil_iff.mp z)⟩) (fun z => ?_) (by rw [← r1.length, ← r2.length]; exact hz)
    exact ⟨.ref s.heap.objs.size, _, laid_tup I (r1.append r2) (by rw [List.length_append]; exact hz), rfl, q2 _ _ (I.hok.fresh (Nat.le_refl _)) rfl⟩
theorem ok_add : OpR X (binaryOp .Add) (r2 X.w X.K false (o2 .add)) :=
  OpR.of (OpR.or op_add op_catF) fun x y H Q ⟨F, a, b, d, o, r1, r2, e, q⟩ => by
    have e : addD a b = some d := e
    unfold addD at e
    split at e
    · cases e
      exact .inl ⟨_, _, r1.int_inv, r2.int_inv, q.here (.int _)⟩
    · obtain ⟨h1, rfl⟩ := ite_some e
      obtain ⟨p, xs, rfl, n1, q1, l1⟩ := r1.tuple_inv
      obtain ⟨p', ys, rfl, n2, q2, l2⟩ := r2.tuple_inv
      have hz := fits_line h1
      rw [← l1.length, ← l2.length] at hz
      refine .inr ⟨p, p', xs, ys, rfl, rfl, q1.t, q2.t, hz, fun z => ?_, fun z => ?_, q.tuple o (l1.append l2)⟩
      · subst z
        cases l1
        exact q.here (.tup n2 q2 l2)
      · subst z
        cases l2
        rw [List.append_nil] at q
        exact q.here (.tup n1 q1 l1)
    · cases e
theorem ok_is : OpR X (compareOp .Is) (r2 X.w X.K false (o2 .is)) :=
  OpR.of op_isN fun x y H Q ⟨F, a, b, d, o, r1, r2, e, q⟩ => by
    have e : isD false a b = some d := e
    unfold isD at e
    split at e
    · cases e
      refine ⟨r2.none_inv, q.here ?_⟩
      rw [r1.non_iff]
      have h : isN a = (isN a != false) := by cases isN a <;> rfl
      rw [← h]
      exact .bl _
    · cases e
theorem ok_isnot : OpR X (compareOp .IsNot) (r2 X.w X.K false (o2 .isnot)) :=
  OpR.of op_notN fun x y H Q ⟨F, a, b, d, o, r1, r2, e, q⟩ => by
    have e : isD true a b = some d := e
    unfold isD at e
    split at e
    · cases e
      refine ⟨r2.none_inv, q.here ?_⟩
      rw [r1.non_iff]
      have h : (!isN a) = (isN a != true) := by cases isN a <;> rfl
      rw [← h]
      exact .bl _
    · cases e
theorem bfalse (b : Bool) : (b != false) = b := by cases b <;> rfl
theorem btrue (b : Bool) : (b != true) = !b := by cases b <;> rfl
theorem ok_eq (hu : X.A.units + 64 < cLine) : OpR X (compareOp .Eq) (r2 X.w X.K false (o2 .eq)) :=
  OpR.of (op_eqD hu) fun x y H Q ⟨F, a, b, d, o, r1, r2, e, q⟩ => by
    obtain ⟨h1, rfl⟩ := ite_some (show (if _ then _ else _) = _ from e)
    rw [Bool.and_eq_true] at h1
    refine ⟨a, b, r1.dp_ h1.1, r2.dp_ h1.2, dp60 h1.1, dp60 h1.2, q.here ?_⟩
    rw [bfalse]
    exact .bl _
theorem ok_ne (hu : X.A.units + 64 < cLine) : OpR X (compareOp .NotEq) (r2 X.w X.K false (o2 .ne)) :=
  OpR.of (op_neD hu) fun x y H Q ⟨F, a, b, d, o, r1, r2, e, q⟩ => by
    obtain ⟨h1, rfl⟩ := ite_some (show (if _ then _ else _) = _ from e)
    rw [Bool.and_eq_true] at h1
    refine ⟨a, b, r1.dp_ h1.1, r2.dp_ h1.2, dp60 h1.1, dp60 h1.2, q.here ?_⟩
    rw [btrue]
    exact .bl _
/-- list + list -/
theorem ok_addL : OpR X (binaryOp .Add) (r2 X.w X.K true (o2 .addL)) :=
  OpR.of op_cat fun x y H Q ⟨F, a, b, d, o, r1, r2, e, q⟩ => by
    have e : addLD a b = some d := e
    unfold addLD at e
    split at e
    · obtain ⟨h1, rfl⟩ := ite_some e
      obtain ⟨p, xs, rfl, q1, l1⟩ := r1.list_inv
      obtain ⟨p', ys, rfl, q2, l2⟩ := r2.list_inv
      have hz := fits_line h1
      rw [← l1.length, ← l2.length] at hz
      exact ⟨p, p', xs, ys, rfl, rfl, q1, q2, hz, q.list o (l1.append l2)⟩
    · cases e
/-- < -/
theorem ok_lt (hu : X.A.units + 64 < cLine) : OpR X (compareOp .Lt) (r2 X.w X.K false (o2 .lt)) := by
  intro pins s σ H x y v u Q I rx ry h
  obtain ⟨F, a, b, d, o, r1, r2, e, q⟩ := h
  have e : ltD a b = some d := e
  unfold ltD at e
  split at e
  · cases e
    exact op_lt pins s σ H x y v u Q I rx ry ⟨_, _, r1.int_inv, r2.int_inv, q.here (.bl _)⟩
  · obtain ⟨h1, rfl⟩ := ite_some e
    simp only [Bool.and_eq_true] at h1
    obtain ⟨as, q1⟩ := (r1.dp_ h1.1.1).reads I _ _ _ rx
    obtain ⟨bs, q2⟩ := (r2.dp_ h1.1.2).reads I _ _ _ ry
    have k1 := dp_shaped _ _ h1.1.1
    refine PySem.W.rcLt_alike _ _ X.A s v u as bs q1 q2 h1.2 (fun z => nomatch z) (by omega) X.prog X.w X.xe _ ⟨.bl _, H, I, rfl, q.here (.bl _)⟩
  · cases e
end
end DL

end
section
set_option Elab.async false
set_option linter.all false
set_option maxRecDepth 100000
set_option maxHeartbeats 4000000
/-! own layer, part 3: dicts with tuple keys -/
namespace DL
open PySem PySem.Spec PyProof.Rows L2
section
variable {X : Cx} {pins : List (Addr × Obj)} {σ : L2.St} {H : Hp} {s : Shared} {F : Fb}
mutual
/-- data that can be keys are the library's keys -/
theorem Rep.nested (I : Inv X pins σ H s) : ∀ (d : D) (v : V) (u : Value) (nk : NestedKey), Rep X.w X.K F H v d → RelV v u → keyOf d = some nk → NestedIs s.heap nk u
  | .none, _, _, _, h, r, k => by
    cases h; cases r
    simp only [keyOf] at k; cases k; exact .none
  | .bool b, _, _, _, h, r, k => by
    cases h; cases r
    simp only [keyOf] at k; cases k; exact .bool rfl
  | .int i, _, _, _, h, r, k => by
    cases h
    obtain ⟨t, rfl⟩ := r
    simp only [keyOf] at k; cases k; exact .int _ _
  | .str x, _, _, _, h, r, k => by
    cases h
    obtain ⟨t, rfl⟩ := r
    simp only [keyOf] at k; cases k; exact .text _ _
  | .list _, _, _, _, h, r, k => by simp [keyOf] at k
  | .dict _, _, _, _, h, r, k => by simp [keyOf] at k
  | .tuple ds, _, _, _, h, r, k => by
    obtain ⟨a, xs, rfl, n, q, l⟩ := h.tuple_inv
    cases r
    simp only [keyOf, Option.map_eq_some_iff] at k
    obtain ⟨ks, k1, rfl⟩ := k
    obtain ⟨its, rv, ⟨o, ho, hc, m, hd⟩, _⟩ := I.tuple q.t
    exact .tup ho hc hd (RepL.nested I ds _ _ _ l rv k1)
theorem RepL.nested (I : Inv X pins σ H s) : ∀ (ds : List D) (vs : List V) (us : List Value) (ks : List NestedKey), RepL X.w X.K F H vs ds → Vals vs us → keysOf ds = some ks → NestedAll s.heap ks us
  | [], _, _, _, h, r, k => by
    cases h; cases r
    simp only [keysOf] at k; cases k; exact .nil
  | d :: ds, _, _, _, h, r, k => by
    cases h with
    | cons h1 h2 =>
      cases r with
      | cons r1 r2 =>
        simp only [keysOf] at k
        split at k
        · rename_i k1 ks1 e1 e2
          cases k
          exact .cons (Rep.nested I d _ _ _ h1 r1 e1) (RepL.nested I ds _ _ _ h2 r2 e2)
        · cases k
end
/-- the entries, three ways -/
inductive LK (w : World) (K : PySem.W.Frag) (F : Fb) (H : Hp) : List (V × Int × V) → List (D × D) → List (NestedKey × Addr × Value) → Prop
  | nil : LK w K F H [] [] []
  | cons {b : Addr} {v : V} {u : Value} {kd vd : D} {nk : NestedKey} {es kvs xs} : Rep w K F H (.ref b) kd → keyOf kd = some nk → nk.depth ≤ 8 → Rep w K F H v vd → RelV v u → LK w K F H es kvs xs →
      LK w K F H ((.ref b, nk.hash w, v) :: es) ((kd, vd) :: kvs) ((nk, b, u) :: xs)
abbrev tupKeys (kvs : List (D × D)) : Bool := kvs.all (fun p => isTup p.1 && isKey p.1)
theorem isKey_inv {k : D} (h : isKey k = true) : ∃ nk, keyOf k = some nk ∧ nk.depth ≤ 8 := by
  unfold isKey at h
  split at h
  · exact ⟨_, by assumption, of_decide_eq_true h⟩
  · cases h
theorem isTup_inv {k : D} (h : isTup k = true) : ∃ ds, k = .tuple ds := by
  cases k <;> first | exact ⟨_, rfl⟩ | cases h
theorem LK.of {w : World} {K : PySem.W.Frag} : ∀ {kvs : List (D × D)} {es : List (V × Int × V)} {ens : List DictEntry}, RepE w K F H es kvs → Paired (fun (e : V × Int × V) (n : DictEntry) => RelV e.1 n.key ∧ n.hash = e.2.1 ∧ RelV e.2.2 n.val) es ens → tupKeys kvs = true →
    ∃ xs : List (NestedKey × Addr × Value), LK w K F H es kvs xs ∧ ens.map (fun e => (e.hash, e.key, e.val)) = xs.map (fun x => (x.1.hash w, Value.ref x.2.1, x.2.2))
  | [], _, _, h, p, _ => by
    cases h; cases p
    exact ⟨[], .nil, rfl⟩
  | (kd, vd) :: kvs, _, _, h, p, t => by
    cases h with
    | @cons k v i es _ _ nk _ a b c d e =>
      cases p with
      | @cons _ n _ ens' p1 p2 =>
        obtain ⟨q1, q2, q3⟩ := p1
        unfold tupKeys at t
        rw [List.all_cons, Bool.and_eq_true, Bool.and_eq_true] at t
        obtain ⟨ds, hk⟩ := isTup_inv t.1.1
        have hk : kd = .tuple ds := hk
        subst hk
        obtain ⟨ad, xs, rfl, n1, q, l⟩ := a.tuple_inv
        obtain ⟨nk2, k1, k2⟩ := isKey_inv t.1.2
        have k1 : keyOf (.tuple ds) = some nk2 := k1
        rw [b] at k1
        cases k1
        have q1 : n.key = Value.ref ad := q1
        have q2 : n.hash = i := q2
        obtain ⟨xs', l', e'⟩ := LK.of e p2 t.2
        subst c
        refine ⟨(nk, ad, n.val) :: xs', .cons a b k2 d q3 l', ?_⟩
        rw [List.map_cons, List.map_cons, e', q1, q2]
theorem LK.repE {w : World} {K : PySem.W.Frag} : ∀ {kvs : List (D × D)} {es : List (V × Int × V)} {xs : List (NestedKey × Addr × Value)}, LK w K F H es kvs xs → RepE w K F H es kvs
  | _, _, _, .nil => .nil
  | _, _, _, .cons a b _ d _ t => .cons a b rfl d t.repE
theorem LK.len {w : World} {K : PySem.W.Frag} : ∀ {kvs : List (D × D)} {es : List (V × Int × V)} {xs : List (NestedKey × Addr × Value)}, LK w K F H es kvs xs → xs.length = kvs.length
  | _, _, _, .nil => rfl
  | _, _, _, .cons _ _ _ _ _ t => congrArg Nat.succ t.len
theorem LK.keys {w : World} {K : PySem.W.Frag} : ∀ {kvs : List (D × D)} {es : List (V × Int × V)} {xs : List (NestedKey × Addr × Value)}, LK w K F H es kvs xs → kvs.map (fun p => keyOf p.1) = (xs.map (·.1)).map some
  | _, _, _, .nil => rfl
  | _, _, _, .cons _ b _ _ _ t => by rw [List.map_cons, List.map_cons, List.map_cons, t.keys, b]
theorem nodup_some {α : Type} {l : List α} (h : (l.map some).Nodup) : l.Nodup := List.Pairwise.of_map some (fun _ _ hne e => hne (congrArg some e)) h
theorem LK.rel {w : World} {K : PySem.W.Frag} {H : Hp} {h : Heap} {P : Program} (f : ∀ (d : D) (b : Addr) (nk : NestedKey), Rep w K F H (.ref b) d → keyOf d = some nk → NestedIs h nk (.ref b)) :
    ∀ {kvs : List (D × D)} {es : List (V × Int × V)} {xs : List (NestedKey × Addr × Value)}, LK w K F H es kvs xs → ∀ x ∈ xs, (nestedKind P w).is h x.1 x.2.1
  | _, _, _, .nil, _, hx => by cases hx
  | _, _, _, .cons a b c _ _ t, x, hx => by
    rcases List.mem_cons.mp hx with e | hx
    · rw [e]; exact ⟨f _ _ _ a b, c⟩
    · exact t.rel f x hx
/-- the dict at a as the library tells it -/
theorem dict_at (I : Inv X pins σ H s) {a : Addr} {es : List (V × Int × V)} {ep : Nat} {kvs : List (D × D)} (hd : H a = some (dictO a es ep)) (r : RepE X.w X.K F H es kvs) (nd : ndK kvs) (t : tupKeys kvs = true) :
    ∃ xs, LK X.w X.K F H es kvs xs ∧ s.heap.DictOfH (nestedKind X.prog X.w) a xs ∧ (a == sysModules) = false ∧ xs.length ≤ sizeLine := by
  obtain ⟨hs, hl, o, ens, ho, hex, hdt, hp⟩ := (I.hok a _ hd).1
  obtain ⟨xs, l, e⟩ := LK.of r hp t
  refine ⟨xs, l, ⟨o, ens, ep, ho, hex, hdt, ?_, l.rel (P := X.prog) fun d b nk h k => Rep.nested I d _ _ _ h rfl k, ?_⟩, hs, ?_⟩
  · have inj : ∀ (l1 : List DictEntry) (l2 : List (NestedKey × Addr × Value)), l1.map (fun e => (e.hash, e.key, e.val)) = l2.map (fun x => (x.1.hash X.w, Value.ref x.2.1, x.2.2)) → l1 = l2.map (entryOfKey (nestedKind X.prog X.w)) := by
      intro l1
      induction l1 with
      | nil => intro l2 h; cases l2 with
        | nil => rfl
        | cons x l2 => simp at h
      | cons e l1 ih => intro l2 h; cases l2 with
        | nil => simp at h
        | cons x l2 =>
          rw [List.map_cons, List.map_cons] at h
          injection h with h1 h2
          rw [List.map_cons, ih l2 h2]
          obtain ⟨eh, ek, ev⟩ := e
          simp only [Prod.mk.injEq] at h1
          obtain ⟨h3, h4, h5⟩ := h1
          subst h3 h4 h5
          rfl
    exact inj _ _ e
  · have z := l.keys
    unfold ndK at nd
    rw [z] at nd
    exact nodup_some nd
  · rw [l.len, ← r.length]
    exact hl
theorem LK.look {w : World} {K : PySem.W.Frag} {k : D} {nk : NestedKey} (hk : keyOf k = some nk) : ∀ {kvs : List (D × D)} {es : List (V × Int × V)} {xs : List (NestedKey × Addr × Value)}, LK w K F H es kvs xs →
    (atKey xs nk = none ∧ lookD k kvs = none) ∨ ∃ b u v vd, atKey xs nk = some (b, u) ∧ lookD k kvs = some vd ∧ RelV v u ∧ Rep w K F H v vd
  | _, _, _, .nil => .inl ⟨rfl, rfl⟩
  | _, _, _, .cons (b := b) (v := v) (u := u) (kd := kd) (vd := vd) (nk := nk') (es := es) (kvs := kvs) (xs := xs) a h c d e t => by
    by_cases z : nk' = nk
    · refine .inr ⟨b, u, v, vd, ?_, ?_, e, d⟩
      · unfold atKey
        rw [List.find?_cons]
        simp [z]
      · unfold lookD
        rw [List.find?_cons]
        simp [h, hk, z]
    · have e1 : atKey ((nk', b, u) :: xs) nk = atKey xs nk := by
        unfold atKey
        rw [List.find?_cons]
        simp [z]
      have e2 : lookD k ((kd, vd) :: kvs) = lookD k kvs := by
        unfold lookD
        rw [List.find?_cons]
        simp [h, hk, z]
      rw [e1, e2]
      exact t.look hk
end
section
variable {X : Cx}
theorem goodKey_inv {k : D} {kvs : List (D × D)} (h : goodKey k kvs = true) : isTup k = true ∧ isKey k = true ∧ tupKeys kvs = true := by
  unfold goodKey at h
  simp only [Bool.and_eq_true] at h
  exact ⟨h.1.1, h.1.2, h.2⟩
theorem tupKeys_nn {kvs : List (D × D)} (h : tupKeys kvs = true) : kvs.all (fun p => notNone p.1) = true := by
  rw [List.all_eq_true] at h ⊢
  intro p hp
  have z := h p hp
  rw [Bool.and_eq_true] at z
  obtain ⟨ds, e⟩ := isTup_inv z.1
  rw [e]
  rfl
theorem LK.put {w : World} {K : PySem.W.Frag} {F : Fb} {H : Hp} {k : D} {nk : NestedKey} {b : Addr} {v : V} {u : Value} {vd : D} (hk : keyOf k = some nk) (h8 : nk.depth ≤ 8) (rk : Rep w K F H (.ref b) k) (rv : Rep w K F H v vd) (ru : L2.RelV v u)
    {kvs : List (D × D)} {es : List (V × Int × V)} {xs : List (NestedKey × Addr × Value)} (l : LK w K F H es kvs xs) : ∃ es', LK w K F H es' (putD k vd kvs) (storedH xs nk b u) := by
  have mapd : ∀ {kvs : List (D × D)} {es : List (V × Int × V)} {xs : List (NestedKey × Addr × Value)}, LK w K F H es kvs xs → ∃ es', LK w K F H es' (kvs.map (fun p => if keyOf p.1 = keyOf k then (p.1, vd) else p)) (xs.map (putAt nk u)) := by
    intro kvs es xs l
    induction l with
    | nil => exact ⟨[], .nil⟩
    | @cons b' v' u' kd' vd' nk' es' kvs' xs' a h c d e t ih =>
      obtain ⟨es2, ih⟩ := ih
      rw [List.map_cons, List.map_cons]
      by_cases z : nk' = nk
      · refine ⟨(.ref b', nk'.hash w, v) :: es2, ?_⟩
        have e1 : putAt nk u (nk', b', u') = (nk', b', u) := by simp [putAt, z]
        have e2 : (if keyOf (kd', vd').1 = keyOf k then ((kd', vd').1, vd) else (kd', vd')) = (kd', vd) := by simp [h, hk, z]
        rw [e1, e2]
        exact .cons a h c rv ru ih
      · refine ⟨(.ref b', nk'.hash w, v') :: es2, ?_⟩
        have e1 : putAt nk u (nk', b', u') = (nk', b', u') := by simp [putAt, z]
        have e2 : (if keyOf (kd', vd').1 = keyOf k then ((kd', vd').1, vd) else (kd', vd')) = (kd', vd') := by simp [h, hk, z]
        rw [e1, e2]
        exact .cons a h c d e ih
  have app : ∀ {kvs : List (D × D)} {es : List (V × Int × V)} {xs : List (NestedKey × Addr × Value)}, LK w K F H es kvs xs → ∃ es', LK w K F H es' (kvs ++ [(k, vd)]) (xs ++ [(nk, b, u)]) := by
    intro kvs es xs l
    induction l with
    | nil => exact ⟨_, .cons rk hk h8 rv ru .nil⟩
    | cons a h c d e t ih =>
      obtain ⟨es2, ih⟩ := ih
      exact ⟨_, .cons a h c d e ih⟩
  rcases l.look hk with ⟨e1, e2⟩ | ⟨b', u', v', vd', e1, e2, _⟩
  · have p : putD k vd kvs = kvs ++ [(k, vd)] := by simp [putD, e2]
    rw [storedH_new e1, p]
    exact app l
  · have p : putD k vd kvs = kvs.map (fun p => if keyOf p.1 = keyOf k then (p.1, vd) else p) := by simp [putD, e2]
    rw [storedH_old e1, p]
    exact mapd l
/-- back: the library's dict is one of ours -/
theorem LK.dictAt {w : World} {P : Program} {K : PySem.W.Frag} {F : Fb} {H : Hp} {h : Heap} {a : Addr} {kvs : List (D × D)} {es : List (V × Int × V)} {xs : List (NestedKey × Addr × Value)} (l : LK w K F H es kvs xs) (hd : h.DictOfH (nestedKind P w) a xs) (hs : (a == sysModules) = false)
    (hl : kvs.length ≤ sizeLine) : ∃ ep, DictAt a es ep h ∧ ndK kvs ∧ tupKeys kvs = true := by
  obtain ⟨o, ens, ep, ho, hex, hdt, he, _, nd⟩ := hd
  refine ⟨ep, ⟨hs, by rw [RepE.length l.repE]; exact hl, o, ens, ho, hex, hdt, ?_⟩, ?_, ?_⟩
  · rw [he]
    have go : ∀ {kvs : List (D × D)} {es : List (V × Int × V)} {xs : List (NestedKey × Addr × Value)}, LK w K F H es kvs xs → Paired (fun (e : V × Int × V) (n : DictEntry) => L2.RelV e.1 n.key ∧ n.hash = e.2.1 ∧ L2.RelV e.2.2 n.val) es (xs.map (entryOfKey (nestedKind P w))) := by
      intro kvs es xs l
      induction l with
      | nil => exact .nil
      | cons a h c d e t ih => exact .cons ⟨rfl, rfl, e⟩ ih
    exact go l
  · unfold ndK
    rw [l.keys]
    exact List.Pairwise.map _ (fun _ _ hne e => hne (Option.some.inj e)) nd
  · have go : ∀ {kvs : List (D × D)} {es : List (V × Int × V)} {xs : List (NestedKey × Addr × Value)}, LK w K F H es kvs xs → tupKeys kvs = true := by
      intro kvs es xs l
      induction l with
      | nil => rfl
      | @cons b' v' u' kd' vd' nk' es' kvs' xs' a h c d e t ih =>
        unfold tupKeys
        rw [List.all_cons]
        have h1 : isTup kd' = true := by
          cases a with
          | tup => rfl
          | lst => simp [keyOf] at h
          | dic => simp [keyOf] at h
          | scr => simp [keyOf, scrD] at h
        have h2 : isKey kd' = true := by
          unfold isKey
          rw [h]
          exact decide_eq_true c
        show ((isTup kd' && isKey kd') && _) = true
        rw [h1, h2]
        exact ih
    exact go l
end
section
variable {X : Cx} {pins : List (Addr × Obj)} {σ : L2.St} {H : Hp} {s : Shared} {F : Fb}
theorem room8 (hu : X.A.units + 100 < cLine) : (nestedKind X.prog X.w).room X.A.in1 := by
  show X.A.units + 1 + 8 < cLine
  omega
/-- k in d -/
theorem in_dict (hu : X.A.units + 100 < cLine) {neg : Bool} {x : V} {v : Value} {k : D} {nk : NestedKey} {a : Addr} {es : List (V × Int × V)} {ep : Nat} {kvs : List (D × D)} {Q : Value → Shared → Prop} (I : Inv X pins σ H s) (rx : Rep X.w X.K F H x k) (r : L2.RelV x v) (ht : isTup k = true) (hk : isKey k = true)
    (hd : H a = some (dictO a es ep)) (re : RepE X.w X.K F H es kvs) (nd : ndK kvs) (t : tupKeys kvs = true) (h : ∀ tk, Q (.bool ((lookD k kvs).isSome != neg)) { s with toks := tk }) :
    wpAny (model X.prog X.w) X.A (compareOp (if neg then .NotIn else .In) v (.ref a)) Q X.xe s := by
  obtain ⟨xs, l, hm, hs, hl⟩ := dict_at I hd re nd t
  obtain ⟨ds, rfl⟩ := isTup_inv ht
  obtain ⟨nk, k1, k2⟩ := isKey_inv hk
  obtain ⟨b, ys, rfl, n, q, l2⟩ := rx.tuple_inv
  cases r
  have his : (nestedKind X.prog X.w).is s.heap nk b := ⟨Rep.nested I _ _ _ _ rx rfl k1, k2⟩
  have e : (lookD (.tuple ds) kvs).isSome = (atKey xs nk).isSome := by
    rcases l.look k1 with ⟨e1, e2⟩ | ⟨_, _, _, _, e1, e2, _⟩ <;> rw [e1, e2] <;> rfl
  rw [e] at h
  cases neg with
  | false =>
    rw [if_neg (by decide)]
    refine wpAny_in_heap (room8 hu) his hs hm ?_
    have z := h (s.toks + (nestedKind X.prog X.w).draws nk)
    rw [bfalse] at z
    exact z
  | true =>
    rw [if_pos rfl]
    show wpAny _ _ (do return .bool (!(← contains (.ref a) (.ref b)))) Q _ s
    refine wpAny_bind (wpAny_contains_heap (room8 hu) his hs hm (wpAny_pure ?_))
    have z := h (s.toks + (nestedKind X.prog X.w).draws nk)
    rw [btrue] at z
    exact z
theorem ok_inG (hu : X.A.units + 100 < cLine) (neg : Bool) : OpR X (compareOp (if neg then .NotIn else .In)) (r2 X.w X.K false (inD neg)) := by
  intro pins s σ H x y v u Q I rx ry h
  obtain ⟨F, a, b, d, o, r1, r2, e, q⟩ := h
  unfold inD at e
  split at e
  · rename_i xs
    obtain ⟨h1, rfl⟩ := ite_some e
    rw [Bool.and_eq_true] at h1
    obtain ⟨as, p1⟩ := (r1.dp_ h1.1).reads I _ _ _ rx
    obtain ⟨bs, p2⟩ := (r2.dp_ h1.2).reads I _ _ _ ry
    have k1 := dp60 h1.1
    have k2 := dp60 h1.2
    cases neg with
    | false =>
      rw [bfalse] at q
      exact SeqAt.in_list_reads p2 p1 (SeqAt.canLay_of_shaped k2) (SeqAt.canLay_of_shaped k1) (room_in_shaped k1 (by omega)) ⟨.bl _, H, I, rfl, q.here (.bl _)⟩
    | true =>
      rw [btrue] at q
      exact SeqAt.notIn_list_reads p2 p1 (SeqAt.canLay_of_shaped k2) (SeqAt.canLay_of_shaped k1) (room_in_shaped k1 (by omega)) ⟨.bl _, H, I, rfl, q.here (.bl _)⟩
  · rename_i xs
    obtain ⟨h1, rfl⟩ := ite_some e
    rw [Bool.and_eq_true] at h1
    obtain ⟨as, p1⟩ := (r1.dp_ h1.1).reads I _ _ _ rx
    obtain ⟨bs, p2⟩ := (r2.dp_ h1.2).reads I _ _ _ ry
    have k1 := dp60 h1.1
    have k2 := dp60 h1.2
    cases neg with
    | false =>
      rw [bfalse] at q
      exact SeqAt.in_tuple_reads p2 p1 (SeqAt.canLay_of_shaped k2) (SeqAt.canLay_of_shaped k1) (room_in_shaped k1 (by omega)) ⟨.bl _, H, I, rfl, q.here (.bl _)⟩
    | true =>
      rw [btrue] at q
      exact SeqAt.notIn_tuple_reads p2 p1 (SeqAt.canLay_of_shaped k2) (SeqAt.canLay_of_shaped k1) (room_in_shaped k1 (by omega)) ⟨.bl _, H, I, rfl, q.here (.bl _)⟩
  · rename_i kvs
    obtain ⟨h1, rfl⟩ := ite_some e
    obtain ⟨ht, hk, t⟩ := goodKey_inv h1
    obtain ⟨ad, es, ep, rfl, hd, re, nd⟩ := r2.dict_inv (tupKeys_nn t)
    cases ry
    exact in_dict (nk := .none) hu I (r1.rep_of (by obtain ⟨_, e⟩ := isTup_inv ht; rw [e]; rfl)) rx ht hk hd re nd t fun tk => ⟨.bl _, H, I.tok tk, rfl, q.here (.bl _)⟩
  · cases e
theorem ok_inn (hu : X.A.units + 100 < cLine) : OpR X (compareOp .In) (r2 X.w X.K false (o2 .inn)) := ok_inG hu false
theorem ok_notin (hu : X.A.units + 100 < cLine) : OpR X (compareOp .NotIn) (r2 X.w X.K false (o2 .notin)) := ok_inG hu true

/-! ### subscripts -/
def subD : D → D → Option D
  | .list xs, .int i => atI xs i
  | .tuple xs, .int i => atI xs i
  | .dict kvs, k => if goodKey k kvs then lookD k kvs else none
  | _, _ => none
theorem RepL.atI_ {vs : List V} {ds : List D} {i : Int} {d : D} (r : RepL X.w X.K F H vs ds) (e : atI ds i = some d) : ∃ v, atI vs i = some v ∧ Rep X.w X.K F H v d := by
  unfold atI at e ⊢
  rw [r.length]
  cases z : ixN ds.length i with
  | none => rw [z] at e; cases e
  | some j =>
    rw [z] at e
    exact r.get e
theorem ok_sub_ix (hu : X.A.units + 100 < cLine) : IxR X (r2 X.w X.K false subD) := by
  intro value slice pins s σ H x y v u Q I rx ry h hsub
  obtain ⟨F, a, b, d, o, r1, r2, e, q⟩ := h
  unfold subD at e
  split at e
  · obtain ⟨p, xs, rfl, e1, l⟩ := r1.list_inv
    obtain ⟨w', e2, r3⟩ := l.atI_ e
    exact ix_list value slice pins s σ H _ _ v u Q I rx ry ⟨p, xs, _, w', rfl, r2.int_inv, .inl (.inl e1), e2, q.here r3⟩ hsub
  · obtain ⟨p, xs, rfl, n, e1, l⟩ := r1.tuple_inv
    obtain ⟨w', e2, r3⟩ := l.atI_ e
    exact ix_tup value slice pins s σ H _ _ v u Q I rx ry ⟨p, xs, _, w', rfl, r2.int_inv, e1.t, e2, q.here r3⟩ hsub
  · split at e
    · rename_i h1
      obtain ⟨ht, hk, t⟩ := goodKey_inv h1
      obtain ⟨ad, es, ep, rfl, hd, re, nd⟩ := r1.dict_inv (tupKeys_nn t)
      cases rx
      obtain ⟨xs, l, hm, hs, hl⟩ := dict_at I hd re nd t
      obtain ⟨ds, rfl⟩ := isTup_inv ht
      obtain ⟨nk, k1, k2⟩ := isKey_inv hk
      obtain ⟨b', ys, rfl, n2, q2, l2⟩ := r2.tuple_inv
      cases ry
      have his : (nestedKind X.prog X.w).is s.heap nk b' := ⟨Rep.nested I _ _ _ _ (r2.rep_of rfl) rfl k1, k2⟩
      rcases l.look k1 with ⟨e1, e2⟩ | ⟨b2, u2, v2, vd2, e1, e2, ru2, rv2⟩
      · rw [e2] at e; cases e
      · rw [e2] at e; cases e
        exact subscriptTail_builtinR (x := u2) hm.typeIs PySem.F.slot_dict_getitem.lookup
          (wpAny_getItem_heap (Q := fun r s' => r = u2 ∧ EP X pins σ Q r s') (room8 hu) his hm e1 ⟨rfl, v2, H, I.tok _, ru2, q.here rv2⟩) hsub
    · cases e
  · cases e
end
end DL

end
section
set_option Elab.async false
set_option linter.all false
set_option maxRecDepth 100000
set_option maxHeartbeats 4000000
/-! own layer, part 4: min of a list of data -/
namespace DL
open PySem PySem.Spec PyProof.Rows L2

/-- the comparison holds while all of h₀ but wr stands -/
def CmpH (prog : Program) (w : World) (A : Around) (h₀ : Heap) (wr : List Addr) (P : Nat → Value → Prop) (bt : Nat → Nat → Bool) : Prop :=
  ∀ i j vi vj (s : Shared) (Q : Value → Shared → Prop) (E : Value → Shared → Prop), (∀ b o, b ∉ wr → h₀.get? b = some o → s.heap.get? b = some o) → P i vi → P j vj → Q (.bool (bt i j)) s → wpAny (model prog w) A (richCompare .Lt vi vj) Q E s
section
variable {prog : Program} {w : World} {A : Around} {R : Result → Shared → Prop} {I : Addr} {fp wr : List Addr} {n : Nat} {P : Nat → Value → Prop} {St : Nat → Heap → Prop} {h₀ : Heap}
theorem min_goes (W : Walks prog w A.in1 I fp wr n P St) (bt : Nat → Nat → Bool) (S : Addr) (hSf : S ∉ fp) (hS0 : h₀.get? S = none) (hcmp : CmpH prog w A.in1 h₀ wr P bt) :
    ∀ (k j : Nat) (s : Shared) (vb : Value) (c : Nat), n = j + 1 + k → St (j + 1) s.heap → P (argBest bt j) vb → (∀ b o, b ∉ wr → h₀.get? b = some o → s.heap.get? b = some o) →
    s.heap.get? S = some { cls := .type "list", dict := none, data := .seq #[vb, vb] c, slots := #[] } →
    (∀ v h' tk, P (argBest bt (n - 1)) v → (∀ b o, b ∉ wr → b ≠ S → s.heap.get? b = some o → h'.get? b = some o) → R (.ok (.ret v)) { s with heap := h', toks := tk }) →
    codeAny (model prog w) A (.builtin "min.loop" ⟨[.ref I, .none, .ref S], []⟩) R s := by
  have nwr : S ∉ wr := fun z => hSf (W.sub _ z)
  have nm : (toString "min" ++ toString ".loop" : String) = "min.loop" := by decide
  have old : ∀ {h h' : Heap} {f : Obj → Obj}, (∀ b o, b ∉ wr → h₀.get? b = some o → h.get? b = some o) → (∀ b o, b ∉ wr → h₀.get? b = some o → (h.update S f).get? b = some o) := fun {h h' f} k b o hb e => by
    have ne : S ≠ b := fun z => by rw [← z, hS0] at e; cases e
    exact (Heap.get?_update_other _ _ ne).trans (k b o hb e)
  intro k
  induction k with
  | zero =>
    intro j s vb c hn st pb ho hS q
    refine codeAny_builtin F.entry_min_loop ?_
    rw [Around.under_plainId F.plain_min_loop _]
    show wpAny _ A.in1 (seqItems? (.ref S) >>= _) _ _ s
    refine wpAny_bind (wpAny_seqItems hS rfl ?_)
    show wpAny _ A.in1 (tryCatch (pyNext (.ref I)) _ >>= _) _ _ s
    refine wpAny_bind (wpAny_tryCatch (W.done s _ _ (by rw [hn]; exact st) fun h' tk kp => ?_))
    have hS2 := kp S _ nwr hS
    show wpAny _ A.in1 (updateSeq S (fun _ => #[]) >>= _) _ _ _
    refine wpAny_bind (wpAny_updateSeq hS2 rfl (wpAny_bind (wpAny_letGo (wpAny_pure ?_))))
    refine q vb _ tk (by rw [hn]; exact pb) fun b o b1 b2 e => (Heap.get?_update_other _ _ (Ne.symm b2)).trans (kp b o b1 e)
  | succ k ih =>
    intro j s vb c hn st pb ho hS q
    refine codeAny_builtin F.entry_min_loop ?_
    rw [Around.under_plainId F.plain_min_loop _]
    show wpAny _ A.in1 (seqItems? (.ref S) >>= _) _ _ s
    refine wpAny_bind (wpAny_seqItems hS rfl ?_)
    show wpAny _ A.in1 (tryCatch (pyNext (.ref I)) _ >>= _) _ _ s
    refine wpAny_bind (wpAny_tryCatch (W.item (j + 1) s _ _ (by omega) st fun v h' tk pv st2 kp => ?_))
    have hS2 := kp S _ nwr hS
    have ho2 : ∀ b o, b ∉ wr → h₀.get? b = some o → h'.get? b = some o := fun b o b1 e => kp b o b1 (ho b o b1 e)
    show wpAny _ A.in1 (tryCatch (holding [v, v] (richCompare .Lt v vb >>= _)) _ >>= _) _ _ _
    refine wpAny_bind (wpAny_tryCatch (wpAny_holding (wpAny_bind (hcmp (j + 1) (argBest bt j) v vb _ _ _ ho2 pv pb ?_))))
    refine wpAny_bind (wpAny_holding (wpAny_truthy_bool (wpAny_bind (wpAny_letGo (wpAny_pure ?_)))))
    cases hb : bt (j + 1) (argBest bt j) with
    | true =>
      simp only [if_true]
      refine wpAny_bind (wpAny_updateSeq hS2 rfl (wpAny_bind (wpAny_letGo ?_)))
      rw [nm]
      refine wpAny_pure ⟨plainId_quiet F.plain_min_loop _, ih (j + 1) _ v _ (by omega) (W.frame _ _ _ st2 fun b hbf o e => ?_) (by simp only [argBest, hb, if_true]; exact pv) (old (h' := h') ho2) (Heap.get?_update_self _ hS2 rfl) fun v' h2 tk2 p2 k2 => ?_⟩
      · have ne : S ≠ b := fun z => hSf (by rw [z]; exact hbf)
        exact (Heap.get?_update_other _ _ ne).trans e
      · exact q v' h2 tk2 p2 fun b o b1 b2 e => k2 b o b1 b2 ((Heap.get?_update_other _ _ (Ne.symm b2)).trans (kp b o b1 e))
    | false =>
      simp only [Bool.false_eq_true, if_false]
      refine wpAny_bind (wpAny_letGo ?_)
      rw [nm]
      refine wpAny_pure ⟨plainId_quiet F.plain_min_loop _, ih (j + 1) _ vb c (by omega) st2 (by simp only [argBest, hb, Bool.false_eq_true, if_false]; exact pb) ho2 hS2 fun v' h2 tk2 p2 k2 => ?_⟩
      exact q v' h2 tk2 p2 fun b o b1 b2 e => k2 b o b1 b2 (kp b o b1 e)
/-- the loop from its start -/
theorem min_begins (W : Walks prog w A.in1 I fp wr n P St) (bt : Nat → Nat → Bool) (S : Addr) (hSf : S ∉ fp) (hS0 : h₀.get? S = none) (hcmp : CmpH prog w A.in1 h₀ wr P bt) (hn : 0 < n) {s : Shared} {c : Nat} (hst : St 0 s.heap)
    (ho : ∀ b o, b ∉ wr → h₀.get? b = some o → s.heap.get? b = some o) (hS : s.heap.get? S = some { cls := .type "list", dict := none, data := .seq #[] c, slots := #[] })
    (hR : ∀ v h' tk, P (argBest bt (n - 1)) v → (∀ b o, b ∉ wr → b ≠ S → s.heap.get? b = some o → h'.get? b = some o) → R (.ok (.ret v)) { s with heap := h', toks := tk }) :
    codeAny (model prog w) A (.builtin "min.loop" ⟨[.ref I, .none, .ref S], []⟩) R s := by
  have nwr : S ∉ wr := fun z => hSf (W.sub _ z)
  have nm : (toString "min" ++ toString ".loop" : String) = "min.loop" := by decide
  refine codeAny_builtin F.entry_min_loop ?_
  rw [Around.under_plainId F.plain_min_loop _]
  show wpAny _ A.in1 (seqItems? (.ref S) >>= _) _ _ s
  refine wpAny_bind (wpAny_seqItems hS rfl ?_)
  show wpAny _ A.in1 (tryCatch (pyNext (.ref I)) _ >>= _) _ _ s
  refine wpAny_bind (wpAny_tryCatch (W.item 0 s _ _ hn hst fun v h' tk pv st2 kp => ?_))
  have hS2 := kp S _ nwr hS
  show wpAny _ A.in1 (updateSeq S (fun _ => #[v, v]) >>= _) _ _ _
  refine wpAny_bind (wpAny_updateSeq hS2 rfl ?_)
  rw [nm]
  refine wpAny_pure ⟨plainId_quiet F.plain_min_loop _, min_goes W bt S hSf hS0 hcmp (n - 1) 0 _ v _ (by omega) (W.frame _ _ _ st2 fun b hbf o e => ?_) pv (fun b o b1 e => ?_) (Heap.get?_update_self _ hS2 rfl) fun v' h2 tk2 p2 k2 => ?_⟩
  · have ne : S ≠ b := fun z => hSf (by rw [z]; exact hbf)
    exact (Heap.get?_update_other _ _ ne).trans e
  · have ne : S ≠ b := fun z => by rw [← z, hS0] at e; cases e
    exact (Heap.get?_update_other _ _ ne).trans (kp b o b1 (ho b o b1 e))
  · exact hR v' h2 tk2 p2 fun b o b1 b2 e => k2 b o b1 b2 ((Heap.get?_update_other _ _ (Ne.symm b2)).trans (kp b o b1 e))
end
/-- min(x), the comparison as it is over the heap -/
theorem min_walk {prog : Program} {w : World} {A : Around} {E : Value → Shared → Prop} {s : Shared} {x : Value} {Q : Value → Shared → Prop}
    (h : wpAny (model prog w) A.in1 (pyIter x) (fun it s₂ => ∃ I fp wr n P St bt h₀, it = .ref I ∧ Walks prog w A.in1 I fp wr n P St ∧ St 0 s₂.heap ∧ (∀ b ∈ fp, b < s₂.heap.objs.size) ∧ 0 < n ∧ CmpH prog w A.in1 h₀ wr P bt ∧
      (∀ b o, h₀.get? b = some o → s₂.heap.get? b = some o) ∧ ∀ v h' tk, P (argBest bt (n - 1)) v → (∀ b o, b ∉ wr → s₂.heap.get? b = some o → h'.get? b = some o) → Q v { s₂ with heap := h', toks := tk }) E s) :
    wpAny (model prog w) A (call (.builtin "min") [x]) Q E s := by
  have nm : (toString "min" ++ toString ".loop" : String) = "min.loop" := by decide
  refine call_function_tree F.kind_min F.plain_min F.entry_min (F.args_min1 _) ?_
  show wpAny _ A.in1 (Builtin.Builtins.bindParams "min" ["key", "default"] 0 ⟨[], []⟩ >>= _) _ _ s
  refine wpAny_bind (wpAny_of_eq (show Builtin.Builtins.bindParams "min" ["key", "default"] 0 ⟨[], []⟩ = pure [none, none] from rfl) ?_)
  refine wpAny_bind (wpAny_pure (wpAny_bind (wpAny_mono h (fun it s₂ h₂ => ?_) fun _ _ e => e)))
  obtain ⟨I, fp, wr, n, P, St, bt, h₀, rfl, W, hst, hfp, hn, hcmp, hk, hQ⟩ := h₂
  refine wpAny_bind (wpAny_newObj_type ?_)
  have nS : s₂.heap.objs.size ∉ fp := fun z => Nat.lt_irrefl _ (hfp _ z)
  have nS0 : h₀.get? s₂.heap.objs.size = none := by
    cases q : h₀.get? s₂.heap.objs.size with
    | none => rfl
    | some o => exact absurd (Heap.lt_size (hk _ _ q)) (Nat.lt_irrefl _)
  rw [nm]
  refine wpAny_pure ⟨plainId_quiet F.plain_min_loop _, min_begins W bt s₂.heap.objs.size nS nS0 hcmp hn (W.frame _ _ _ hst fun b _ o e => Heap.get?_push_of_some _ e) (fun b o _ e => Heap.get?_push_of_some _ (hk b o e)) (Heap.get?_push_size _ rfl) fun v h' tk hP kp => ?_⟩
  exact hQ v h' tk hP fun b o hbw e => kp b o hbw (Nat.ne_of_lt (Heap.lt_size e)) (Heap.get?_push_of_some _ e)

/-! ### .. on data -/
def minF (x : D) (xs : List D) : D := xs.foldl (fun b y => if PySem.W.dataLt y b then y else b) x
def alikeB (ds : List D) : Bool := ds.all fun d => ds.all fun e => PySem.W.alike d e
theorem argBest_at (ds : List D) : ∀ (k : Nat) (x : D) (r : List D), ds = x :: r → k < ds.length → ds[argBest (fun i j => PySem.W.dataLt (ds.getD i .none) (ds.getD j .none)) k]? = some (minF x (r.take k)) ∧ argBest (fun i j => PySem.W.dataLt (ds.getD i .none) (ds.getD j .none)) k ≤ k
  | 0, x, r, e, _ => by subst e; exact ⟨rfl, Nat.le_refl _⟩
  | k + 1, x, r, e, h => by
    obtain ⟨ih, ih2⟩ := argBest_at ds k x r e (by omega)
    have hr : k < r.length := by rw [e] at h; simp at h; omega
    have hk : ds[k + 1]? = some r[k] := by rw [e]; simp [hr]
    have h1 : ds.getD (k + 1) .none = r[k] := by rw [List.getD_eq_getElem?_getD, hk]; rfl
    have h2 : ds.getD (argBest (fun i j => PySem.W.dataLt (ds.getD i .none) (ds.getD j .none)) k) .none = minF x (r.take k) := by rw [List.getD_eq_getElem?_getD, ih]; rfl
    have h3 : minF x (r.take (k + 1)) = if PySem.W.dataLt r[k] (minF x (r.take k)) then r[k] else minF x (r.take k) := by
      unfold minF
      rw [List.take_add_one, List.foldl_append]
      simp [hr]
    simp only [argBest, h1, h2]
    rw [h3]
    split
    · exact ⟨hk, Nat.le_refl _⟩
    · exact ⟨ih, by omega⟩
section
variable {X : Cx}
/-- the relation of a built-in call -/
def rB (w : World) (K : PySem.W.Frag) (fr : Bool) (f : List D → Option D) : List V → Hp → VK → Prop := fun vs H Q => ∃ F ds d, FOk F H ∧ RepBL w K F H vs ds ∧ f ds = some d ∧ Out w K fr F H d Q
def minB : List D → Option D
  | [.list (x :: xs)] => if dp 60 (.list (x :: xs)) && alikeB (x :: xs) && !isN x then some (minF x xs) else none
  | _ => none
theorem RepL.one {w : World} {K : PySem.W.Frag} {F : Fb} {H : Hp} {vs : List V} {d : D} (r : RepBL w K F H vs [d]) : ∃ v, vs = [v] ∧ RepB w K F H v d := by
  cases r with
  | cons a b => cases b; exact ⟨_, rfl, a⟩
theorem RepL.two {w : World} {K : PySem.W.Frag} {F : Fb} {H : Hp} {vs : List V} {d e : D} (r : RepBL w K F H vs [d, e]) : ∃ v u, vs = [v, u] ∧ RepB w K F H v d ∧ RepB w K F H u e := by
  cases r with
  | cons a b =>
    cases b with
    | cons c z => cases z; exact ⟨_, _, rfl, a, c⟩
theorem RepL.twoR {w : World} {K : PySem.W.Frag} {F : Fb} {H : Hp} {vs : List V} {d e : D} (r : RepL w K F H vs [d, e]) : ∃ v u, vs = [v, u] ∧ Rep w K F H v d ∧ Rep w K F H u e := by
  cases r with
  | cons a b =>
    cases b with
    | cons c z => cases z; exact ⟨_, _, rfl, a, c⟩
theorem alikeB_inv {ds : List D} (h : alikeB ds = true) {d e : D} (hd : d ∈ ds) (he : e ∈ ds) : PySem.W.alike d e = true := by
  unfold alikeB at h
  exact List.all_eq_true.mp (List.all_eq_true.mp h d hd) e he
theorem isN_alike {d e : D} (h : PySem.W.alike d e = true) : isN d = isN e := by
  cases d <;> cases e <;> first | rfl | simp [PySem.W.alike] at h
theorem cb_min (hc : X.calm = true) (hu : X.A.units + 100 < cLine) : CallR X (.builtin "min") (rB X.w X.K false minB) := by
  intro pins s σ H vs us Q I r h
  obtain ⟨F, ds, d, o, rl, e, q⟩ := h
  unfold minB at e
  split at e
  · rename_i x xs
    obtain ⟨h1, rfl⟩ := ite_some e
    simp only [Bool.and_eq_true] at h1
    obtain ⟨⟨hdp, hal⟩, hnn⟩ := h1
    obtain ⟨v, rfl, r1⟩ := RepL.one rl
    obtain ⟨p, ys, rfl, eH, l⟩ := r1.list_inv
    rw [Vals.ref1 r]
    obtain ⟨its, rv, pl, hz⟩ := I.list (.inl (.inl eH))
    have hdl : dpL 59 (x :: xs) = true := by simpa [dp] using hdp
    have hlen : its.length = (x :: xs).length := by rw [← rv.length, l.length]
    have each : ∀ (i : Nat) (u : Value), its.toArray[i]? = some u → ∃ di bs, (x :: xs)[i]? = some di ∧ Reads s.heap u di bs ∧ ∃ v, ys[i]? = some v ∧ L2.RelV v u ∧ Rep X.w X.K F H v di := fun i u hi => by
      have hi : its[i]? = some u := by simpa using hi
      obtain ⟨hlt, _⟩ := List.getElem?_eq_some_iff.mp hi
      obtain ⟨v, hv, rr⟩ := l.get (i := i) (List.getElem?_eq_getElem (by omega))
      obtain ⟨u', hu', rvu⟩ := rv.get hv
      rw [hi] at hu'
      cases hu'
      have hd1 : dp 59 (x :: xs)[i] = true := by
        rw [dpL_all] at hdl
        exact List.all_eq_true.mp hdl _ (List.getElem_mem _)
      obtain ⟨bs, q1⟩ := (rr.dp_ _ _ _ hd1).reads I _ _ _ rvu
      exact ⟨_, bs, List.getElem?_eq_getElem (by omega), q1, v, hv, rvu, rr⟩
    refine min_walk ?_
    refine wpAny_pyIter_list pl.isList ?_
    have hpl : p < s.heap.objs.size := by
      obtain ⟨ol, hol, _⟩ := pl.isList
      exact Heap.lt_size hol
    have hne : p ≠ s.heap.objs.size := Nat.ne_of_lt hpl
    have hh : X.A.in1.handled = none := by simpa using I.ok.hd hc
    refine ⟨_, _, _, _, _, _, fun i j => PySem.W.dataLt ((x :: xs).getD i .none) ((x :: xs).getD j .none), s.heap, rfl, Walks.list (A := X.A.in1) hh _ p hne its.toArray, ⟨⟨_, Heap.get?_push_size _ rfl, rfl, rfl⟩, pl.isList.push _⟩, fun b hb => ?_, ?_, ?_, fun b ob eb => Heap.get?_push_of_some _ eb, fun v h' tk hP hk => ?_⟩
    · simp only [List.mem_cons, List.not_mem_nil, or_false] at hb
      show b < (s.heap.push _).objs.size
      rw [Heap.size_push]
      rcases hb with rfl | rfl
      · exact Nat.lt_succ_self _
      · exact Nat.lt_succ_of_lt hpl
    · rw [List.size_toArray, hlen]
      simp
    · intro i j vi vj s2 Q2 E2 hold hi hj hq
      obtain ⟨di, bi, e1, q1, _⟩ := each i vi hi
      obtain ⟨dj, bj, e2, q2, _⟩ := each j vj hj
      have keep : ∀ b ob, s.heap.get? b = some ob → s2.heap.get? b = some ob := fun b ob eb => hold b ob (fun z => by
        simp only [List.mem_singleton] at z
        rw [z] at eb
        exact absurd (Heap.lt_size eb) (Nat.lt_irrefl _)) eb
      have g1 : (x :: xs).getD i .none = di := by rw [List.getD_eq_getElem?_getD, e1]; rfl
      have g2 : (x :: xs).getD j .none = dj := by rw [List.getD_eq_getElem?_getD, e2]; rfl
      have hq : Q2 (.bool (PySem.W.dataLt ((x :: xs).getD i .none) ((x :: xs).getD j .none))) s2 := hq
      rw [g1, g2] at hq
      have m1 : di ∈ x :: xs := List.mem_of_getElem? e1
      have m2 : dj ∈ x :: xs := List.mem_of_getElem? e2
      have d1 : di ≠ .none := fun z => by
        have z2 := isN_alike (alikeB_inv hal m1 (List.mem_cons_self (a := x) (l := xs)))
        rw [z] at z2
        rw [← z2] at hnn
        cases hnn
      have dep : ∀ {y : D}, y ∈ x :: xs → y.depth ≤ 59 := fun {y} hy => by
        rw [dpL_all] at hdl
        exact (dp_shaped _ _ (List.all_eq_true.mp hdl y hy)).2
      have w1 := dep m1
      have w2 := dep m2
      exact PySem.W.rcLt_alike di dj X.A.in1 s2 vi vj bi bj (Reads.keeps keep q1) (Reads.keeps keep q2) (alikeB_inv hal m1 m2) d1 (by show X.A.units + 1 + _ < _; omega) X.prog X.w E2 Q2 hq
    · rw [List.size_toArray, hlen] at hP
      obtain ⟨di, bi, e1, q1, v', hv', rv', rr'⟩ := each _ v hP
      have hk2 : ∀ b ob, s.heap.get? b = some ob → h'.get? b = some ob := fun b ob eb => hk b ob (fun z => by
        simp only [List.mem_singleton] at z
        rw [z] at eb
        exact absurd (Heap.lt_size eb) (Nat.lt_irrefl _)) (Heap.get?_push_of_some _ eb)
      obtain ⟨z1, _⟩ := argBest_at (x :: xs) ((x :: xs).length - 1) x xs rfl (by simp)
      rw [z1] at e1
      have e2 : minF x xs = di := by
        have e3 := Option.some.inj e1
        rw [List.length_cons, Nat.add_sub_cancel, List.take_length] at e3
        exact e3
      subst e2
      exact ⟨v', H, I.kept hk2, rv', q.here rr'⟩
  · cases e
end
end DL

end
section
set_option Elab.async false
set_option linter.all false
set_option maxRecDepth 100000
set_option maxHeartbeats 4000000
/-! own layer, part 5: built-in functions -/
namespace DL
open PySem PySem.Spec PyProof.Rows L2

def intsOf : List D → Option (List Int)
  | [] => some []
  | .int i :: r => (intsOf r).map (i :: ·)
  | _ :: _ => none
def boolsOf : List D → Option (List Bool)
  | [] => some []
  | .bool i :: r => (boolsOf r).map (i :: ·)
  | _ :: _ => none
theorem intsOf_inv : ∀ {ds : List D} {ns : List Int}, intsOf ds = some ns → ds = ns.map .int
  | [], ns, h => by cases h; rfl
  | .int i :: r, ns, h => by
    simp only [intsOf, Option.map_eq_some_iff] at h
    obtain ⟨ms, h1, rfl⟩ := h
    rw [intsOf_inv h1]; rfl
  | .none :: _, _, h => by cases h
  | .bool _ :: _, _, h => by cases h
  | .str _ :: _, _, h => by cases h
  | .list _ :: _, _, h => by cases h
  | .tuple _ :: _, _, h => by cases h
  | .dict _ :: _, _, h => by cases h
theorem boolsOf_inv : ∀ {ds : List D} {ns : List Bool}, boolsOf ds = some ns → ds = ns.map .bool
  | [], ns, h => by cases h; rfl
  | .bool i :: r, ns, h => by
    simp only [boolsOf, Option.map_eq_some_iff] at h
    obtain ⟨ms, h1, rfl⟩ := h
    rw [boolsOf_inv h1]; rfl
  | .none :: _, _, h => by cases h
  | .int _ :: _, _, h => by cases h
  | .str _ :: _, _, h => by cases h
  | .list _ :: _, _, h => by cases h
  | .tuple _ :: _, _, h => by cases h
  | .dict _ :: _, _, h => by cases h
theorem intsOf_map : ∀ ns : List Int, intsOf (ns.map .int) = some ns
  | [] => rfl
  | n :: ns => by simp [intsOf, intsOf_map ns]
theorem boolsOf_map : ∀ ns : List Bool, boolsOf (ns.map .bool) = some ns
  | [] => rfl
  | n :: ns => by simp [boolsOf, boolsOf_map ns]
def maxI (x : Int) (xs : List Int) : Int := xs.foldl (fun b y => if b < y then y else b) x
theorem maxI_mem (x : Int) : ∀ xs : List Int, maxI x xs ∈ x :: xs := by
  have go : ∀ (xs : List Int) (b : Int), xs.foldl (fun b y => if b < y then y else b) b = b ∨ xs.foldl (fun b y => if b < y then y else b) b ∈ xs := by
    intro xs
    induction xs with
    | nil => intro b; exact .inl rfl
    | cons y ys ih =>
      intro b
      rw [List.foldl_cons]
      rcases ih (if b < y then y else b) with h | h
      · rw [h]
        split
        · exact .inr List.mem_cons_self
        · exact .inl rfl
      · exact .inr (List.mem_cons_of_mem _ h)
  intro xs
  rcases go xs x with h | h
  · unfold maxI; rw [h]; exact List.mem_cons_self
  · exact List.mem_cons_of_mem _ h
theorem maxI_le (x : Int) : ∀ (xs : List Int) (y : Int), y ∈ x :: xs → y ≤ maxI x xs := by
  have go : ∀ (xs : List Int) (b : Int), b ≤ xs.foldl (fun b y => if b < y then y else b) b ∧ ∀ y ∈ xs, y ≤ xs.foldl (fun b y => if b < y then y else b) b := by
    intro xs
    induction xs with
    | nil => intro b; exact ⟨Int.le_refl _, fun y h => by cases h⟩
    | cons z zs ih =>
      intro b
      rw [List.foldl_cons]
      obtain ⟨h1, h2⟩ := ih (if b < z then z else b)
      refine ⟨?_, fun y hy => ?_⟩
      · refine Int.le_trans ?_ h1
        split <;> omega
      · rcases List.mem_cons.mp hy with e | hy
        · subst e
          refine Int.le_trans ?_ h1
          split <;> omega
        · exact h2 y hy
  intro xs y hy
  obtain ⟨h1, h2⟩ := go xs x
  rcases List.mem_cons.mp hy with e | hy
  · rw [e]; exact h1
  · exact h2 y hy

/-! ### the functions on data -/
def lenB : List D → Option D
  | [.list xs] => some (.int xs.length)
  | [.tuple xs] => some (.int xs.length)
  | _ => none
def sumB : List D → Option D
  | [.list xs] => (intsOf xs).map fun ns => .int ns.sum
  | _ => none
def maxB : List D → Option D
  | [.list (x :: xs)] => match intsOf (x :: xs) with
    | some (n :: ns) => some (.int (maxI n ns))
    | _ => none
  | [.int i, .int j] => some (.int (if j > i then j else i))
  | _ => none
def min2B : List D → Option D
  | [.int i, .int j] => some (.int (if j < i then j else i))
  | _ => none
def allB : List D → Option D
  | [.list xs] => (boolsOf xs).map fun bs => .bool (bs.all id)
  | _ => none
def anyB : List D → Option D
  | [.list xs] => (boolsOf xs).map fun bs => .bool (bs.any id)
  | _ => none
def absB : List D → Option D
  | [.int i] => some (.int (if i < 0 then -i else i))
  | _ => none
def intB : List D → Option D
  | [.int i] => some (.int i)
  | [.bool b] => some (.int (if b then 1 else 0))
  | _ => none
def tupleB : List D → Option D
  | [.list xs] => some (.tuple xs)
  | [.tuple xs] => some (.tuple xs)
  | _ => none
def listB : List D → Option D
  | [.list xs] => some (.list xs)
  | [.tuple xs] => some (.list xs)
  | _ => none
section
variable {X : Cx}
theorem CallR.of {f : Value} {r r' : List V → Hp → VK → Prop} (h : CallR X f r) (i : ∀ xs H Q, r' xs H Q → r xs H Q) : CallR X f r' :=
  fun pins s σ H xs us Q I r q => h pins s σ H xs us Q I r (i _ _ _ q)
theorem cb_len : CallR X (.builtin "len") (rB X.w X.K false lenB) :=
  CallR.of call_len_seq fun xs H Q ⟨F, ds, d, o, r, e, q⟩ => by
    unfold lenB at e
    split at e
    · cases e
      obtain ⟨v, rfl, r1⟩ := RepL.one r
      obtain ⟨p, ys, rfl, h, l⟩ := r1.list_inv
      refine ⟨p, ys, rfl, .inl (.inl (.inl h)), ?_⟩
      rw [l.length]
      exact q.here (.int _)
    · cases e
      obtain ⟨v, rfl, r1⟩ := RepL.one r
      obtain ⟨p, ys, rfl, n, h, l⟩ := r1.tuple_inv
      refine ⟨p, ys, rfl, .inr h.t, ?_⟩
      rw [l.length]
      exact q.here (.int _)
    · cases e
theorem cb_sum (hc : X.calm = true) : CallR X (.builtin "sum") (rB X.w X.K false sumB) :=
  CallR.of (cr_sum hc) fun xs H Q ⟨F, ds, d, o, r, e, q⟩ => by
    unfold sumB at e
    split at e
    · obtain ⟨ns, h1, rfl⟩ := Option.map_eq_some_iff.mp e
      obtain ⟨v, rfl, r1⟩ := RepL.one r
      obtain ⟨p, ys, rfl, h, l⟩ := r1.list_inv
      have e1 := intsOf_inv h1
      subst e1
      have e2 := l.ints_inv
      subst e2
      exact ⟨p, ns, rfl, .inl (.inl h), q.here (.int _)⟩
    · cases e
theorem cb_max (hc : X.calm = true) : CallR X (.builtin "max") (rB X.w X.K false maxB) :=
  CallR.of (CallR.or (cr_max hc) (call_max2 hc)) fun xs H Q ⟨F, ds, d, o, r, e, q⟩ => by
    unfold maxB at e
    split at e
    · split at e
      · cases e
        rename_i h1
        obtain ⟨v, rfl, r1⟩ := RepL.one r
        obtain ⟨p, ys, rfl, h, l⟩ := r1.list_inv
        have e1 := intsOf_inv h1
        rw [e1] at l
        have e2 := l.ints_inv
        subst e2
        refine .inl ⟨p, _, rfl, .inl (.inl h), by simp, fun m hm hl => ?_⟩
        have a1 := hl _ (maxI_mem _ _)
        have a2 := maxI_le _ _ m hm
        have a3 := Int.le_antisymm a1 a2
        rw [← a3]
        exact q.here (.int _)
      · cases e
    · cases e
      obtain ⟨v, u, rfl, r1, r2⟩ := RepL.two r
      exact .inr ⟨_, _, by rw [r1.int_inv, r2.int_inv], q.here (.int _)⟩
    · cases e
theorem cb_min2 (hc : X.calm = true) : CallR X (.builtin "min") (rB X.w X.K false min2B) :=
  CallR.of (call_min2 hc) fun xs H Q ⟨F, ds, d, o, r, e, q⟩ => by
    unfold min2B at e
    split at e
    · cases e
      obtain ⟨v, u, rfl, r1, r2⟩ := RepL.two r
      exact ⟨_, _, by rw [r1.int_inv, r2.int_inv], q.here (.int _)⟩
    · cases e
theorem cb_all (hc : X.calm = true) : CallR X (.builtin "all") (rB X.w X.K false allB) :=
  CallR.of (cr_all hc) fun xs H Q ⟨F, ds, d, o, r, e, q⟩ => by
    unfold allB at e
    split at e
    · obtain ⟨ns, h1, rfl⟩ := Option.map_eq_some_iff.mp e
      obtain ⟨v, rfl, r1⟩ := RepL.one r
      obtain ⟨p, ys, rfl, h, l⟩ := r1.list_inv
      have e1 := boolsOf_inv h1
      subst e1
      have e2 := l.bls_inv
      subst e2
      exact ⟨p, ns, rfl, .inl (.inl h), q.here (.bl _)⟩
    · cases e
theorem cb_any (hc : X.calm = true) : CallR X (.builtin "any") (rB X.w X.K false anyB) :=
  CallR.of (cr_any hc) fun xs H Q ⟨F, ds, d, o, r, e, q⟩ => by
    unfold anyB at e
    split at e
    · obtain ⟨ns, h1, rfl⟩ := Option.map_eq_some_iff.mp e
      obtain ⟨v, rfl, r1⟩ := RepL.one r
      obtain ⟨p, ys, rfl, h, l⟩ := r1.list_inv
      have e1 := boolsOf_inv h1
      subst e1
      have e2 := l.bls_inv
      subst e2
      exact ⟨p, ns, rfl, .inl (.inl h), q.here (.bl _)⟩
    · cases e
theorem cb_abs : CallR X (.builtin "abs") (rB X.w X.K false absB) :=
  CallR.of call_abs fun xs H Q ⟨F, ds, d, o, r, e, q⟩ => by
    unfold absB at e
    split at e
    · cases e
      obtain ⟨v, rfl, r1⟩ := RepL.one r
      exact ⟨_, by rw [r1.int_inv], q.here (.int _)⟩
    · cases e
theorem cb_int : CallR X (.type "int") (rB X.w X.K false intB) :=
  CallR.of call_int1 fun xs H Q ⟨F, ds, d, o, r, e, q⟩ => by
    unfold intB at e
    split at e
    · cases e
      obtain ⟨v, rfl, r1⟩ := RepL.one r
      exact .inl ⟨_, by rw [r1.int_inv], q.here (.int _)⟩
    · cases e
      obtain ⟨v, rfl, r1⟩ := RepL.one r
      exact .inr ⟨_, by rw [r1.bool_inv], q.here (.int _)⟩
    · cases e
/-- tuple(xs) -/
theorem call_tupleF : CallR X (.type "tuple") (fun xs H Q => ∃ p ys, xs = [.ref p] ∧ ((SqL X.K H p ys ∧ ∀ l (o : Obj), H l = none → o.dict = none → Q (.ref l) (upd H l (.frz o (.tup ys)))) ∨ (SqT X.K H p ys ∧ Q (.ref p) H))) := by
  intro pins s σ H xs us Q I r h
  obtain ⟨p, ys, rfl, h⟩ := h
  obtain ⟨u, rfl, rx⟩ := vals1 r
  cases rx
  rcases h with ⟨hq, q⟩ | ⟨hq, q⟩
  · obtain ⟨its, r1, pl, hz⟩ := I.list hq
    have hlen := r1.length
    refine call_tuple_list pl.isList (fun h' kp => ?_) (by simp only [List.size_toArray] <;> omega)
    have I1 : Inv X pins σ H { s with heap := h' } := I.kept (t' := s.toks) kp
    exact ⟨.ref h'.objs.size, _, laid_tup I1 r1 hz, rfl, q _ _ (I1.hok.fresh (Nat.le_refl _)) rfl⟩
  · obtain ⟨its, r1, pl, hz⟩ := I.tuple hq
    exact call_tuple_same pl ⟨.ref p, H, I, rfl, q⟩
theorem cb_tuple : CallR X (.type "tuple") (rB X.w X.K false tupleB) :=
  CallR.of call_tupleF fun xs H Q ⟨F, ds, d, o, r, e, q⟩ => by
    unfold tupleB at e
    split at e
    · cases e
      obtain ⟨v, rfl, r1⟩ := RepL.one r
      obtain ⟨p, ys, rfl, h, l⟩ := r1.list_inv
      exact ⟨p, ys, rfl, .inl ⟨.inl (.inl h), q.tuple o l⟩⟩
    · cases e
      obtain ⟨v, rfl, r1⟩ := RepL.one r
      obtain ⟨p, ys, rfl, n, h, l⟩ := r1.tuple_inv
      exact ⟨p, ys, rfl, .inr ⟨h.t, q.here (.tup n h l)⟩⟩
    · cases e
theorem cb_list : CallR X (.type "list") (rB X.w X.K true listB) :=
  CallR.of call_list_of fun xs H Q ⟨F, ds, d, o, r, e, q⟩ => by
    unfold listB at e
    split at e
    · cases e
      obtain ⟨v, rfl, r1⟩ := RepL.one r
      obtain ⟨p, ys, rfl, h, l⟩ := r1.list_inv
      exact ⟨p, ys, rfl, .inl (.inl (.inl h)), q.list o l⟩
    · cases e
      obtain ⟨v, rfl, r1⟩ := RepL.one r
      obtain ⟨p, ys, rfl, n, h, l⟩ := r1.tuple_inv
      exact ⟨p, ys, rfl, .inr h.t, q.list o l⟩
    · cases e
end

/-! ### dict(pairs) -/
def pairOf : D → Option (D × D)
  | .tuple [k, v] => some (k, v)
  | _ => none
def pairsOf : List D → Option (List (D × D))
  | [] => some []
  | d :: ds => match pairOf d, pairsOf ds with
    | some p, some ps => some (p :: ps)
    | _, _ => none
def putAll (kvs ps : List (D × D)) : List (D × D) := ps.foldl (fun acc p => putD p.1 p.2 acc) kvs
theorem pairOf_inv {d : D} {p : D × D} (h : pairOf d = some p) : d = .tuple [p.1, p.2] := by
  unfold pairOf at h
  split at h
  · cases h; rfl
  · cases h
def dictB : List D → Option D
  | [.list ds] => match pairsOf ds with
    | some ps => if tupKeys ps && fits ps.length then some (.dict (putAll [] ps)) else none
    | none => none
  | [.tuple ds] => match pairsOf ds with
    | some ps => if tupKeys ps && fits ps.length then some (.dict (putAll [] ps)) else none
    | none => none
  | _ => none
section
variable {X : Cx} {pins : List (Addr × Obj)} {σ : L2.St} {H : Hp} {s : Shared} {F : Fb}
def tAt (us : List Value) (j : Nat) : Addr := match us[j]? with
  | some (.ref a) => a
  | _ => 0
/-- the pairs of a list's items -/
theorem pairs_of (I : Inv X pins σ H s) : ∀ {ds : List D} {xs : List V} {us : List Value} {kvs : List (D × D)}, RepL X.w X.K F H xs ds → Vals xs us → pairsOf ds = some kvs → tupKeys kvs = true →
    ∃ (ks : List (NestedKey × Addr × Value)) (es : List (V × Int × V)), LK X.w X.K F H es kvs ks ∧ ks.length = us.length ∧ ∀ (j : Nat) (k : NestedKey) (b : Addr) (v : Value), ks[j]? = some (k, b, v) → ∃ T, us[j]? = some (.ref T) ∧ s.heap.IsTuple T #[.ref b, v]
  | [], _, _, kvs, r, rv, e, t => by
    cases r; cases rv
    simp only [pairsOf] at e
    cases e
    exact ⟨[], [], .nil, rfl, fun j k b v h => by simp at h⟩
  | d :: ds, _, _, kvs, r, rv, e, t => by
    cases r with
    | cons r1 r2 =>
      cases rv with
      | cons v1 v2 =>
        simp only [pairsOf] at e
        split at e
        · rename_i p ps e1 e2
          cases e
          have t2 : (isTup p.1 && isKey p.1) = true ∧ tupKeys ps = true := by
            unfold tupKeys at t
            rw [List.all_cons, Bool.and_eq_true] at t
            exact t
          obtain ⟨ks, es, l, hl, ih⟩ := pairs_of I r2 v2 e2 t2.2
          have e3 := pairOf_inv e1
          subst e3
          obtain ⟨T, ys, rfl, n, q, ll⟩ := r1.tuple_inv
          obtain ⟨kv, vv, rfl, rk, rvv⟩ := RepL.twoR ll
          cases v1
          obtain ⟨its, ri, ht, _⟩ := I.tuple q.t
          obtain ⟨u1, u2, rfl, q1, q2⟩ := vals2 ri
          rw [Bool.and_eq_true] at t2
          obtain ⟨dsk, hk⟩ := isTup_inv t2.1.1
          obtain ⟨nk, k1, k2⟩ := isKey_inv t2.1.2
          obtain ⟨pk, pv⟩ := p
          have hk : pk = .tuple dsk := hk
          subst hk
          obtain ⟨b, zs, rfl, _, _, _⟩ := id rk.tuple_inv
          cases q1
          refine ⟨(nk, b, u2) :: ks, _, .cons rk k1 k2 rvv q2 l, congrArg Nat.succ hl, fun j k b' v h => ?_⟩
          cases j with
          | zero =>
            rw [List.getElem?_cons_zero] at h
            cases h
            exact ⟨T, rfl, ht⟩
          | succ j =>
            rw [List.getElem?_cons_succ] at h
            obtain ⟨T', h1, h2⟩ := ih j k b' v h
            exact ⟨T', by rw [List.getElem?_cons_succ]; exact h1, h2⟩
        · cases e
theorem LK.putAll {w : World} {K : PySem.W.Frag} {H : Hp} : ∀ {ps : List (D × D)} {es2 : List (V × Int × V)} {ks : List (NestedKey × Addr × Value)}, LK w K F H es2 ps ks → ∀ {kvs : List (D × D)} {es : List (V × Int × V)} {xs : List (NestedKey × Addr × Value)}, LK w K F H es kvs xs →
    ∃ es', LK w K F H es' (putAll kvs ps) (storedAllH xs ks)
  | _, _, _, .nil, _, _, _, l => ⟨_, l⟩
  | _, _, _, .cons a b c d e t, _, _, _, l => by
    obtain ⟨es1, l1⟩ := l.put b c a d e
    obtain ⟨es2, l2⟩ := t.putAll l1
    exact ⟨es2, l2⟩
theorem putD_len (k v : D) (kvs : List (D × D)) : (putD k v kvs).length ≤ kvs.length + 1 := by
  unfold putD
  split
  · rw [List.length_map]; omega
  · rw [List.length_append]; simp
theorem putAll_len : ∀ (ps kvs : List (D × D)), (putAll kvs ps).length ≤ kvs.length + ps.length
  | [], kvs => by simp [putAll]
  | p :: ps, kvs => by
    have h1 := putAll_len ps (putD p.1 p.2 kvs)
    have h2 := putD_len p.1 p.2 kvs
    show (putAll (putD p.1 p.2 kvs) ps).length ≤ _
    rw [List.length_cons]
    omega
theorem keys_stay {a : Addr} {xs : List (NestedKey × Addr × Value)} (hx : ∀ x ∈ xs, (nestedKind X.prog X.w).is s.heap x.1 x.2.1) (hn : ∀ o vs n, s.heap.get? a = some o → o.data = .seq vs n → False) : KeysStay (nestedKind X.prog X.w) s.heap a [] xs := fun h' hk x hxm => by
  obtain ⟨z1, z2⟩ := hx x hxm
  exact ⟨NestedIs.at (fun b o vs n ho hd => hk b o (fun e => by rw [e] at ho; exact hn o vs n ho hd) (fun z => by cases z) ho) _ _ z1, z2⟩
/-- the dict made of a list's or tuple's items -/
theorem dict_made (hu : X.A.units + 100 < cLine) {a : Addr} {T : String} {ds : List D} {xs : List V} {ps : List (D × D)} {Q : VK} (I : Inv X pins σ H s) (o : FOk F H) (hc : X.calm = true) (r : RepL X.w X.K F H xs ds) (e : pairsOf ds = some ps) (t : tupKeys ps = true) (hf : fits ps.length = true)
    (hT : T = "list" ∨ T = "tuple") {its : List Value} (rv : Vals xs its) (hs : PlainSeq T s.heap a its.toArray) (q : Out X.w X.K true F H (.dict (DL.putAll [] ps)) Q) :
    wpAny (model X.prog X.w) X.A (call (.type "dict") [.ref a]) (EP X pins σ Q) X.xe s := by
  obtain ⟨ks, es, l, hl, hp⟩ := pairs_of I r rv e t
  have hkl := l.len
  have his := l.rel (P := X.prog) (h := s.heap) fun d b nk h k => Rep.nested I d _ _ _ h rfl k
  have PI : PairItems s.heap its.toArray (tAt its) (ks.map fun x => (.ref x.2.1, x.2.2)) := by
    refine ⟨by rw [List.size_toArray, List.length_map, hl], fun j k v h => ?_⟩
    rw [List.getElem?_map, Option.map_eq_some_iff] at h
    obtain ⟨⟨nk, b, w'⟩, h1, h2⟩ := h
    cases h2
    obtain ⟨T', h3, h4⟩ := hp j nk b _ h1
    refine ⟨?_, .inl ?_⟩
    · have : tAt its j = T' := by unfold tAt; rw [h3]
      rw [this]
      simpa using h3
    · have : tAt its j = T' := by unfold tAt; rw [h3]
      rw [this]
      exact h4
  have PH : PairsHaveH (nestedKind X.prog X.w) (ks.map fun x => (Value.ref x.2.1, x.2.2)).length (PairRel (ks.map fun x => (.ref x.2.1, x.2.2))) ks := by
    refine ⟨by rw [List.length_map], fun i key v h => ?_⟩
    have h : (ks.map fun x => (Value.ref x.2.1, x.2.2))[i]? = some (key, v) := h
    rw [List.getElem?_map, Option.map_eq_some_iff] at h
    obtain ⟨⟨nk, b, w'⟩, h1, h2⟩ := h
    cases h2
    exact ⟨nk, b, h1, rfl⟩
  have none0 : ∀ o vs n, s.heap.get? s.heap.objs.size = some o → o.data = .seq vs n → False := fun o vs n h _ => Nat.lt_irrefl _ (Heap.lt_size h)
  have hz : (ks.map fun x => (Value.ref x.2.1, x.2.2)).length ≤ sizeLine := by
    rw [List.length_map, hkl]
    exact fits_line hf
  have fin : ∀ h' tk, h'.DictOfH (nestedKind X.prog X.w) s.heap.objs.size (storedAllH [] ks) → (∀ b o, b ∉ ([] : List Addr) → s.heap.get? b = some o → h'.get? b = some o) → EP X pins σ Q (.ref s.heap.objs.size) { s with heap := h', toks := tk } := fun h' tk hd hk => by
    obtain ⟨es', l'⟩ := LK.putAll l LK.nil
    have hsz : (DL.putAll [] ps).length ≤ sizeLine := by
      have z := putAll_len ps []
      have z2 := fits_line hf
      rw [List.length_nil] at z
      omega
    have hsm : (s.heap.objs.size == sysModules) = false := by
      exact beq_eq_false_iff_ne.mpr (Nat.ne_of_gt I.big)
    obtain ⟨ep', da, nd, tk2⟩ := l'.dictAt hd hsm hsz
    have hn : H s.heap.objs.size = none := I.hok.fresh (Nat.le_refl _)
    have hk2 : ∀ b o, s.heap.get? b = some o → h'.get? b = some o := fun b o e => hk b o (fun z => by cases z) e
    have ex : Ext E0 H (upd H s.heap.objs.size (dictO s.heap.objs.size es' ep')) := Ext.new hn
    have re : RepE X.w X.K (fun q => F q ∨ q = s.heap.objs.size) (upd H s.heap.objs.size (dictO s.heap.objs.size es' ep')) es' (DL.putAll [] ps) := RepE.ext ex.e0 (fun _ z => z) _ _ (RepE.grow (grow_new hn) _ _ l'.repE)
    have fr : Fresh X.w X.K F H (.dict (DL.putAll [] ps)) (.ref s.heap.objs.size) (upd H s.heap.objs.size (dictO s.heap.objs.size es' ep')) := ⟨_, rfl, hn, .inr ⟨es', ep', _, rfl, upd_same, re, nd, tupKeys_nn tk2⟩⟩
    refine ⟨.ref s.heap.objs.size, upd H s.heap.objs.size (dictO s.heap.objs.size es' ep'), I.laid (t' := tk) hk2 (Nat.le_refl _) ?_, rfl, q _ _ ex (fr.rep o) fun _ => fr⟩
    obtain ⟨_, _, ob, _, hob, _⟩ := id da
    refine ⟨da, ⟨ob, hob⟩, fun h1 h2 z k => ?_⟩
    obtain ⟨z1, z2, ob', ens', z3, z4⟩ := z
    exact ⟨z1, z2, ob', ens', k _ z3, z4⟩
  rcases hT with rfl | rfl
  · exact call_dict_pairsH (knd := nestedKind X.prog X.w) (PairArg.list a its.toArray (tAt its) (ks.map fun x => (.ref x.2.1, x.2.2))) (I.ok.hd hc) (by show X.A.units + 1 + 1 + 8 < cLine; omega) ⟨hs, PI⟩ PH (keys_stay his none0) hz fin
  · exact call_dict_pairsH (knd := nestedKind X.prog X.w) (PairArg.tuple a its.toArray (tAt its) (ks.map fun x => (.ref x.2.1, x.2.2))) (I.ok.hd hc) (by show X.A.units + 1 + 1 + 8 < cLine; omega) ⟨hs, PI⟩ PH (keys_stay his none0) hz fin
end
end DL

end
section
set_option Elab.async false
set_option linter.all false
set_option maxRecDepth 100000
set_option maxHeartbeats 4000000
/-! own layer, part 6: dict(..), isinstance, sorted -/
namespace DL
open PySem PySem.Spec PyProof.Rows L2
section
variable {X : Cx}
theorem cb_dict (hc : X.calm = true) (hu : X.A.units + 100 < cLine) : CallR X (.type "dict") (rB X.w X.K true dictB) := by
  intro pins s σ H vs us Q I r h
  obtain ⟨F, ds, d, o, rl, e, q⟩ := h
  unfold dictB at e
  split at e
  · split at e
    · obtain ⟨h1, rfl⟩ := ite_some e
      rename_i ps hp
      rw [Bool.and_eq_true] at h1
      obtain ⟨v, rfl, r1⟩ := RepL.one rl
      obtain ⟨p, ys, rfl, eH, l⟩ := r1.list_inv
      rw [Vals.ref1 r]
      obtain ⟨z, its, m, rv, eo⟩ := I.hok p _ eH
      exact dict_made hu I o hc l hp h1.1 h1.2 (.inl rfl) rv ⟨_, m, eo, rfl, rfl, rfl⟩ q
    · cases e
  · split at e
    · obtain ⟨h1, rfl⟩ := ite_some e
      rename_i ps hp
      rw [Bool.and_eq_true] at h1
      obtain ⟨v, rfl, r1⟩ := RepL.one rl
      obtain ⟨p, ys, rfl, n, eT, l⟩ := r1.tuple_inv
      rw [Vals.ref1 r]
      obtain ⟨ob, hdn, eT⟩ := eT
      obtain ⟨e1, z, its, rv, o2, e2, e3, m, e4⟩ := I.hok p _ eT
      rw [e1] at e2
      cases e2
      exact dict_made hu I o hc l hp h1.1 h1.2 (.inr rfl) rv ⟨_, m, e1, e3, hdn, e4⟩ q
    · cases e
  · cases e
end

/-! ### isinstance -/
inductive Ty where
  | int | bool | str | list | tuple
  deriving DecidableEq
def Ty.nm : Ty → String
  | .int => "int"
  | .bool => "bool"
  | .str => "str"
  | .list => "list"
  | .tuple => "tuple"
inductive DTy where
  | non | int | bool | str | list | tuple
def DTy.nm : DTy → String
  | .non => "NoneType"
  | .int => "int"
  | .bool => "bool"
  | .str => "str"
  | .list => "list"
  | .tuple => "tuple"
def dty : D → Option DTy
  | .none => some .non
  | .int _ => some .int
  | .bool _ => some .bool
  | .str _ => some .str
  | .list _ => some .list
  | .tuple _ => some .tuple
  | .dict _ => none
def tyIs : DTy → Ty → Bool
  | .int, .int => true
  | .bool, .int => true
  | .bool, .bool => true
  | .str, .str => true
  | .list, .list => true
  | .tuple, .tuple => true
  | _, _ => false
theorem kit_tab (t : DTy) (c : Ty) : kitB t.nm c.nm = some (tyIs t c) := by
  cases t <;> cases c <;> decide +kernel
theorem kit_any {K : PySem.W.Frag} (t : DTy) : ∀ cs : List Ty, PySem.W.kitAny K (.type t.nm) (cs.map fun c => .type c.nm) = some (cs.any (tyIs t))
  | [] => kitAny_nil
  | c :: cs => by
    rw [List.map_cons, List.any_cons]
    refine kitAny_cons (b := tyIs t c) (kit_ty (kit_tab t c)) (fun h => ?_) fun h => ?_
    · rw [h, Bool.false_or]; exact kit_any t cs
    · rw [h, Bool.true_or]
theorem RepB.ty {w : World} {K : PySem.W.Frag} {F : Fb} {H : Hp} {v : V} {d : D} {t : DTy} (r : RepB w K F H v d) (h : dty d = some t) : TyX K H v (.type t.nm) := by
  cases d with
  | none => cases h; rw [r.none_inv]; exact .base .non
  | bool b => cases h; rw [r.bool_inv]; exact .base (.bl _)
  | int i => cases h; rw [r.int_inv]; exact .base (.int _)
  | str x => cases h; rw [r.str_inv]; exact .base (.str _)
  | list ds => cases h; obtain ⟨a, xs, rfl, e, _⟩ := r.list_inv; exact .base (.lst e)
  | tuple ds => cases h; obtain ⟨a, xs, rfl, _, ⟨o, _, e⟩, _⟩ := r.tuple_inv; exact .fTuple e
  | dict _ => cases h
def isiD (cs : List Ty) (d : D) : Option D := (dty d).map fun t => .bool (cs.any (tyIs t))
section
variable {X : Cx}
/-- isinstance(e, c) -/
theorem isi_one {F : Fb} {H : Hp} {v : V} {d d' : D} {c : Ty} {Q : VK} (r : RepB X.w X.K F H v d) (h : isiD [c] d = some d') (q : Out X.w X.K false F H d' Q) : rIsi X.K [v, .ty c.nm] H Q := by
  obtain ⟨t, h1, rfl⟩ := Option.map_eq_some_iff.mp h
  refine ⟨v, _, _, _, _, rfl, .ty _, r.ty h1, kit_ty (kit_tab t c), q.here ?_⟩
  rw [List.any_cons, List.any_nil, Bool.or_false]
  exact .bl _
/-- isinstance(e, (c1, c2, ..)) -/
theorem isi_any {F : Fb} {H : Hp} {v : V} {d d' : D} {cs : List Ty} {tp : Addr} {Q : VK} (r : RepB X.w X.K F H v d) (h : isiD cs d = some d') (hT : H tp = some (.tup (cs.map fun c => V.ty c.nm))) (q : Out X.w X.K false F H d' Q) : rIsiT X.K [v, .ref tp] H Q := by
  obtain ⟨t, h1, rfl⟩ := Option.map_eq_some_iff.mp h
  have hp : ∀ cs : List Ty, Paired ClsV (cs.map fun c => V.ty c.nm) (cs.map fun c => Value.type c.nm) := fun cs => by
    induction cs with
    | nil => exact .nil
    | cons c cs ih => exact .cons (.ty _) ih
  exact ⟨v, tp, _, _, _, _, rfl, hT, hp cs, r.ty h1, kit_any t cs, q.here (.bl _)⟩
end

/-! ### sorted -/
abbrev leD : D → D → Bool := PySem.W.dataLe false id
def sortOk (ds : List D) : Bool := alikeB ds && ds.all (dp 60) && (ds.all (fun d => match d with | .tuple (_ :: _) => true | _ => false) || ds.all (fun d => match d with | .none => false | .tuple _ => false | _ => true))
def sortB : List D → Option D
  | [.list ds] => if sortOk ds && fits ds.length then some (.list (ds.mergeSort leD)) else none
  | _ => none
theorem alikeB_all {ds : List D} (h : alikeB ds = true) : PySem.W.AllAlike ds := fun d hd e he => alikeB_inv h hd he
theorem sortOk_inv {ds : List D} (h : sortOk ds = true) : PySem.W.AllAlike ds ∧ (∀ d ∈ ds, dp 60 d = true) ∧ PySem.W.Sortable ds := by
  unfold sortOk at h
  simp only [Bool.and_eq_true, Bool.or_eq_true, List.all_eq_true] at h
  refine ⟨alikeB_all h.1.1, h.1.2, h.2.imp (fun z d hd => ?_) fun z d hd => ?_⟩
  · have := z d hd
    split at this
    · exact ⟨_, _, rfl⟩
    · cases this
  · have := z d hd
    split at this
    · cases this
    · cases this
    · rename_i n1 n2
      exact ⟨n1, n2⟩
section
variable {X : Cx} {pins : List (Addr × Obj)} {σ : L2.St} {H : Hp} {s : Shared} {F : Fb}
/-- an item's value, what it stands for -/
def ItR (w : World) (K : PySem.W.Frag) (F : Fb) (H : Hp) (u : Value) (d : D) : Prop := ∃ x, RelV x u ∧ Rep w K F H x d
theorem itR_of : ∀ {xs : List V} {us : List Value} {ds : List D}, Vals xs us → RepL X.w X.K F H xs ds → PySem.W.EachIs (ItR X.w X.K F H) us ds
  | _, _, _, .nil, .nil => .nil
  | _, _, _, .cons a t, .cons b u => .cons ⟨_, a, b⟩ (itR_of t u)
theorem itR_back : ∀ {us : List Value} {ds : List D}, PySem.W.EachIs (ItR X.w X.K F H) us ds → ∃ xs, Vals xs us ∧ RepL X.w X.K F H xs ds
  | _, _, .nil => ⟨[], .nil, .nil⟩
  | _, _, .cons ⟨x, a, b⟩ t => by
    obtain ⟨xs, h1, h2⟩ := itR_back t
    exact ⟨x :: xs, .cons a h1, .cons b h2⟩
theorem itR_mem {P : Value → D → Prop} : ∀ {us : List Value} {ds : List D}, PySem.W.EachIs (ItR X.w X.K F H) us ds → (∀ u d, d ∈ ds → ItR X.w X.K F H u d → P u d) → PySem.W.EachIs P us ds
  | _, _, .nil, _ => .nil
  | _, _, .cons a t, h => .cons (h _ _ List.mem_cons_self a) (itR_mem t fun u d hd r => h u d (List.mem_cons_of_mem _ hd) r)
theorem itR_reads (I : Inv X pins σ H s) {us : List Value} {ds : List D} (h : PySem.W.EachIs (ItR X.w X.K F H) us ds) (hd : ∀ d ∈ ds, dp 60 d = true) : PySem.W.EachIs (fun v b => ∃ as, Reads s.heap v (id b) as) us ds :=
  itR_mem h fun u d hm ⟨x, a, b⟩ => (Rep.dp_ d x 60 (hd d hm) b).reads I _ _ _ a
theorem cb_sorted (hc : X.calm = true) (hu : X.A.units + 100 < cLine) : CallR X (.builtin "sorted") (rB X.w X.K true sortB) := by
  intro pins s σ H vs us Q I r h
  obtain ⟨F, ds, d, o, rl, e, q⟩ := h
  unfold sortB at e
  split at e
  · rename_i ds
    obtain ⟨h1, rfl⟩ := ite_some e
    rw [Bool.and_eq_true] at h1
    obtain ⟨v, rfl, r1⟩ := RepL.one rl
    obtain ⟨p, ys, rfl, eH, l⟩ := r1.list_inv
    rw [Vals.ref1 r]
    obtain ⟨its, rv, pl, hz⟩ := I.list (.inl (.inl eH))
    obtain ⟨hal, hdp, hso⟩ := sortOk_inv h1.1
    have ei := itR_of rv l
    have hz2 := fits_line h1.2
    have map_id : ds.map id = ds := List.map_id ds
    refine PySem.W.sorted_data (enc := id) (vs := its) pl.isList ei (itR_reads I ei hdp) (by rw [map_id]; exact hal) (by rw [map_id]; exact hso) hz2 (fun b hb => ?_) fun out ho eo => ?_
    · have := (dp_shaped _ _ (hdp b hb)).2
      show X.A.units + 2 + b.depth < cLine
      omega
    · obtain ⟨xs, h2, h3⟩ := itR_back eo
      obtain ⟨ep, hg⟩ := sortedAll_at s.heap its (List.toArray out)
      have hn : H (s.heap.objs.size + 1) = none := I.hok.fresh (Nat.le_succ _)
      refine ⟨.ref (s.heap.objs.size + 1), upd H (s.heap.objs.size + 1) (.lst xs), I.laid (t' := s.toks) (fun b u e => sortedAll_old e) (Nat.le_succ _) ?_, rfl, q.list o h3 _ hn⟩
      refine ⟨?_, out, ep, h2, hg⟩
      rw [h2.length, ho]
      exact hz2
  · cases e
end
end DL

end
section
set_option Elab.async false
set_option linter.all false
set_option maxRecDepth 100000
set_option maxHeartbeats 4000000
/-! own layer, part 7: sorted(set(..)) -/
namespace DL
open PySem PySem.Spec PyProof.Rows L2

/-! ### a set, by its rows -/
def SetRaw (w : World) (h : Heap) (a : Addr) (us : List Value) : Prop :=
  ∃ o es ep t, h.get? a = some o ∧ o.ExactSet ∧ o.data = .set es ep t ∧ t.fits es.size = true ∧ es.size < scanBound ∧ Ris t.place.toList ∧ (w.params.followText "set-order" = true ∨ t.led = true) ∧ es.toList.map (·.2) = us
def setO (w : World) (a : Addr) (vs : List V) : HO := .ext fun h => ∃ us, SetRaw w h a us ∧ Vals vs us
theorem SetRaw.at {w : World} {h h' : Heap} {a : Addr} {us : List Value} (R : SetRaw w h a us) (k : ∀ o, h.get? a = some o → h'.get? a = some o) : SetRaw w h' a us := by
  obtain ⟨o, es, ep, t, ho, r⟩ := R
  exact ⟨o, es, ep, t, k o ho, r⟩
theorem setO_ok {P : Program} {w : World} {H : Hp} {h : Heap} {a : Addr} {vs : List V} {us : List Value} (R : SetRaw w h a us) (r : Vals vs us) : ObjOk P w H h a (setO w a vs) := by
  obtain ⟨o, es, ep, t, ho, r'⟩ := id R
  refine ⟨⟨us, R, r⟩, ⟨o, ho⟩, fun h1 h2 ⟨us', R', q⟩ k => ⟨us', R'.at k, q⟩⟩

/-! ### set(xs): the frame around its loop -/
section
variable {P : Program} {w : World} {A : Around} {E : Value → Shared → Prop} {s : Shared}
abbrev set0 (w : World) : Obj := { cls := .type "set", dict := none, data := .set #[] 0 (.fresh 0 0 (!w.params.followText "set-order")) }
/-- what the loop that fills the set is to do -/
def Fills (P : Program) (w : World) (A : Around) (s : Shared) (items : Array Value) (Φ : Heap → Prop) : Prop :=
  ∀ (A' : Around) (R : Result → Shared → Prop) (I : Addr) (fp : List Addr) (G : Array GenState → Array GenState → Prop) (Pv : Nat → Value → Prop) (St : Nat → Shared → Prop) (s1 : Shared), WalksS P w A'.in1 I fp [I] G items.size Pv St → (∀ i v, Pv i v → items[i]? = some v) → s.heap.objs.size ∉ fp → s.heap.get? I = none → A'.units ≤ A.units + 3 →
    St 0 s1 → (∀ b o, s.heap.get? b = some o → s1.heap.get? b = some o) → s1.heap.get? s.heap.objs.size = some (set0 w) →
    (∀ s', Moved [s.heap.objs.size, I] G s1 s' → Φ s'.heap → (∀ b o, s.heap.get? b = some o → s'.heap.get? b = some o) → R (.ok (.ret .none)) s') →
    codeAny (model P w) A' (.builtin "set.update.loop" ⟨[.ref s.heap.objs.size, .ref I], []⟩) R s1
theorem none_of {b : Addr} (hb : s.heap.objs.size ≤ b) : s.heap.get? b = none := by
  cases q : s.heap.get? b with
  | none => rfl
  | some o => exact absurd (Nat.lt_of_lt_of_le (Heap.lt_size q) hb) (Nat.lt_irrefl _)
set_option maxRecDepth 100000 in
set_option maxHeartbeats 3200000 in
theorem call_set_seq {T : String} (hT : T = "list" ∨ T = "tuple") {l : Addr} {items : Array Value} {Φ : Heap → Prop} {Q : Value → Shared → Prop} (hh : A.handled = none) (hl : PlainSeq T s.heap l items) (hf : Fills P w A s items Φ)
    (h : ∀ (h' : Heap) (tk : Nat), Φ h' → (∀ b o, s.heap.get? b = some o → h'.get? b = some o) → Q (.ref s.heap.objs.size) { s with heap := h', toks := tk }) :
    wpAny (model P w) A (call (.type "set") [.ref l]) Q E s := by
  obtain ⟨c, tl, hmro⟩ := F.called_set.mro
  have hmade := F.called_set.made
  have hsub := F.called_set.sub
  refine wpAny_call (codeAny_of_tree ?_)
  show wpAny _ _ (callAny (.type "set") _) _ _ _
  refine wpAny_pure ⟨Code.quiet_builtin _ (by decide +kernel), codeAny_builtin F.entry_type_call ?_⟩
  rw [Around.under_plain (weight_type_call_type "set" [.ref l] []) rfl]
  have h1 := F.called_set.notType
  have h2 := F.called_set.canCreate
  have hct := F.typeCall_set_1 (.ref l)
  repeat (any_goals (first | assumption | wp_step))
  refine codeAny_mono (code_set_led1 (.ref l) (E := E) (Q₁ := fun obj s₁ => obj = .ref s.heap.objs.size ∧ s₁ = { s with heap := s.heap.push (set0 w) }) ⟨rfl, rfl⟩) fun r s₁ hr => ?_
  cases r with
  | error e => exact hr
  | ok fl =>
    cases fl with
    | ret obj =>
      obtain ⟨rfl, rfl⟩ := hr
      have hS : (s.heap.push (set0 w)).get? s.heap.objs.size = some (set0 w) := Heap.get?_push_size _ rfl
      have hTy : Shared.TypeIs { s with heap := s.heap.push (set0 w) } (.ref s.heap.objs.size) "set" := ⟨_, hS, rfl⟩
      have hli := F.called_set.init.lookup
      have hbi := F.called_set.init.bind (.ref s.heap.objs.size)
      repeat (any_goals (first | assumption | wp_step))
      refine codeAny_mono (codeAny_call_builtin (R := wants (fun r s₂ => r = .none ∧ ∃ h' tk, s₂ = { s with heap := h', toks := tk } ∧ Φ h' ∧ ∀ b o, s.heap.get? b = some o → h'.get? b = some o) E) F.called_set.init.plain F.entry_set_init (check_set_init_1 hTy ?_)) fun r₂ s₂ hr₂ => ?_
      · obtain ⟨ol, nl, hol, hcl, hdn, hdl⟩ := hl
        obtain ⟨ocls, odict, odata, oslots⟩ := ol
        simp only at hcl hdl hdn
        subst hcl; subst hdl; subst hdn
        have hlS : l < s.heap.objs.size := Heap.lt_size hol
        have hh3 : A.in1.in1.in1.handled = none := by simp [hh]
        have hneI : l ≠ (s.heap.push (set0 w)).objs.size := by
          rw [Heap.size_push]; exact Nat.ne_of_lt (Nat.lt_succ_of_lt hlS)
        have hSf : s.heap.objs.size ∉ [(s.heap.push (set0 w)).objs.size, l] := by
          rw [Heap.size_push]; simp only [List.mem_cons, List.mem_singleton, List.not_mem_nil, or_false, not_or]
          exact ⟨Nat.ne_of_lt (Nat.lt_succ_self _), Nat.ne_of_gt hlS⟩
        have hIn : s.heap.get? (s.heap.push (set0 w)).objs.size = none := none_of (by rw [Heap.size_push]; exact Nat.le_succ _)
        have fin : ∀ (G : Array GenState → Array GenState → Prop) (o1 : Obj), (∀ a b, G a b → a = b) → ∀ s', Moved [s.heap.objs.size, (s.heap.push (set0 w)).objs.size] G ({ s with heap := (s.heap.push (set0 w)).push o1 } : Shared) s' → Φ s'.heap → (∀ b o, s.heap.get? b = some o → s'.heap.get? b = some o) →
            ∃ h' tk, s' = { s with heap := h', toks := tk } ∧ Φ h' ∧ ∀ b o, s.heap.get? b = some o → h'.get? b = some o := fun G o1 hG s' hm p k => by
          obtain ⟨h', g2, d', tk', os'⟩ := s'
          have eg : g2 = s.gens := (hG _ _ hm.gens).symm
          have ed : d' = s.drawn := hm.drawn
          have eo : os' = s.os := hm.os
          subst eg; subst ed; subst eo
          exact ⟨h', tk', rfl, p, k⟩
        rcases hT with rfl | rfl
        · have hol' : (s.heap.push (set0 w)).get? l = some { cls := .type "list", dict := none, data := .seq items nl, slots := oslots } := Heap.get?_push_of_some _ hol
          have hsls := F.sub_list_set
          have hslf := F.sub_list_frozenset
          have hne : (Value.type "list" == Value.type "dict") = false := by decide
          have hl1 : (s.heap.push (set0 w)).IsList l items := ⟨_, hol', rfl, nl, rfl⟩
          unfold Builtin.«set.__init__» noKeywords Builtin.Frozenset.updateFrom
          generalize hPI : pyIter = PI
          wp_walk
          subst hPI
          refine wpAny_pyIter_list hl1 ?_
          refine wpAny_bind (wpAny_runValue ?_)
          refine hf _ _ _ _ _ _ _ _ ((Walks.list hh3 _ l hneI items).toS) (fun _ _ z => z) hSf hIn (by show A.units + 1 + 1 ≤ A.units + 3; omega) ⟨⟨_, Heap.get?_push_size _ rfl, rfl, rfl⟩, (hl1.push _)⟩ (fun b o e => Heap.get?_push_of_some _ (Heap.get?_push_of_some _ e)) (Heap.get?_push_of_some _ hS) fun s' hm p k => ?_
          obtain ⟨h', tk', rfl, p, k⟩ := fin _ _ (fun a b z => z.symm) s' hm p k
          show wpAny _ _ _ _ _ _
          refine wpAny_pure ?_
          show wpAny _ _ (ret Value.none) _ _ _
          exact wpAny_pure ⟨rfl, h', tk', rfl, p, k⟩
        · have hol' : (s.heap.push (set0 w)).get? l = some { cls := .type "tuple", dict := none, data := .seq items nl, slots := oslots } := Heap.get?_push_of_some _ hol
          have hsls := F.sub_tuple_set
          have hslf := F.sub_tuple_frozenset
          have hne : (Value.type "tuple" == Value.type "dict") = false := by decide
          have hl1 : (s.heap.push (set0 w)).IsTuple l items := ⟨_, hol', rfl, nl, rfl⟩
          unfold Builtin.«set.__init__» noKeywords Builtin.Frozenset.updateFrom
          generalize hPI : pyIter = PI
          wp_walk
          subst hPI
          refine wpAny_pyIter_tuple hl1 ?_
          refine wpAny_bind (wpAny_runValue ?_)
          refine hf _ _ _ _ _ _ _ _ ((Walks.tuple hh3 _ l hneI items).toS) (fun _ _ z => z) hSf hIn (by show A.units + 1 + 1 ≤ A.units + 3; omega) ⟨⟨_, Heap.get?_push_size _ rfl, rfl, rfl⟩, (hl1.push _)⟩ (fun b o e => Heap.get?_push_of_some _ (Heap.get?_push_of_some _ e)) (Heap.get?_push_of_some _ hS) fun s' hm p k => ?_
          obtain ⟨h', tk', rfl, p, k⟩ := fin _ _ (fun a b z => z.symm) s' hm p k
          show wpAny _ _ _ _ _ _
          refine wpAny_pure ?_
          show wpAny _ _ (ret Value.none) _ _ _
          exact wpAny_pure ⟨rfl, h', tk', rfl, p, k⟩
      · cases r₂ with
        | error e => exact hr₂
        | ok fl₂ =>
          cases fl₂ with
          | ret r =>
            obtain ⟨rfl, h', tk, rfl, hS', hk'⟩ := hr₂
            repeat (any_goals (first | assumption | wp_step))
            exact h _ _ hS' hk'
          | _ => exact hr₂.elim
    | _ => exact hr.elim
end
end DL

end
section
set_option Elab.async false
set_option linter.all false
set_option maxRecDepth 100000
set_option maxHeartbeats 4000000
/-! own layer, part 8: the order of alike data; sorted(set(..)) -/
namespace DL
open PySem PySem.Spec PyProof.Rows L2 PySem.W

/-! ### alike data that are equal by the order are equal -/
theorem eqv_of_toks {x y : D} (h : alike x y = true) {l m : List (Int ⊕ List Nat)} (e : keyToks x ++ l = keyToks y ++ m) : PyData.eqv x y = true := by
  cases q : PyData.eqv x y with
  | true => rfl
  | false =>
    have f := (toks_eqv x y h).2 q
    have f1 := f l m
    rw [e, lex_irrefl] at f1
    have f2 := f l (m ++ [Sum.inl 0])
    rw [e, ← List.append_assoc, ← f1] at f2
    have f3 := lex_pre (keyToks y ++ m) [] [Sum.inl 0]
    rw [List.append_nil] at f3
    rw [f3] at f2
    exact absurd f2 (by decide)
mutual
theorem eqv_eq : ∀ x y : D, alike x y = true → PyData.eqv x y = true → x = y
  | .none, y, h, e => by cases y <;> first | rfl | cases h
  | .bool a, y, h, e => by
    cases y <;> first | cases h; done | skip
    simp only [PyData.eqv, beq_iff_eq] at e; rw [e]
  | .int a, y, h, e => by
    cases y <;> first | cases h; done | skip
    simp only [PyData.eqv, beq_iff_eq] at e; rw [e]
  | .str a, y, h, e => by
    cases y <;> first | cases h; done | skip
    simp only [PyData.eqv, beq_iff_eq] at e; rw [e]
  | .list xs, y, h, e => by
    cases y <;> first | cases h; done | skip
    simp only [alike] at h
    simp only [PyData.eqv] at e
    rw [eqvAll_eq xs _ h e]
  | .tuple xs, y, h, e => by
    cases y <;> first | cases h; done | skip
    simp only [alike] at h
    simp only [PyData.eqv] at e
    rw [eqvAll_eq xs _ h e]
  | .dict xs, y, h, e => by cases y <;> cases h
theorem eqvAll_eq : ∀ xs ys : List D, alikeAll xs ys = true → PyData.eqvAll xs ys = true → xs = ys
  | [], ys, h, e => by cases ys <;> first | rfl | simp [PyData.eqvAll] at e
  | x :: xs, ys, h, e => by
    cases ys with
    | nil => simp [PyData.eqvAll] at e
    | cons y ys =>
      simp only [alikeAll, Bool.and_eq_true] at h
      simp only [PyData.eqvAll, Bool.and_eq_true] at e
      rw [eqv_eq x y h.1 e.1, eqvAll_eq xs ys h.2 e.2]
end
theorem leD_iff (a b : D) : leD a b = !PySem.W.dataLt b a := rfl
theorem leD_total : TotalLe leD := sortLe_total _ _ _
theorem leD_anti {a b : D} (h : alike a b = true) (h1 : leD a b = true) (h2 : leD b a = true) : a = b := by
  rw [leD_iff, Bool.not_eq_true'] at h1 h2
  have e : keyToks a = keyToks b := lex_total _ _ h2 h1
  refine eqv_eq a b h (eqv_of_toks h (l := []) (m := []) ?_)
  rw [e]
theorem sorted_one {α : Type} {le : α → α → Bool} : ∀ {l m : List α}, l.Perm m → (∀ a ∈ l, ∀ b ∈ l, le a b = true → le b a = true → a = b) → l.Pairwise (fun a b => le a b = true) → m.Pairwise (fun a b => le a b = true) → l = m
  | [], m, p, _, _, _ => by rw [List.nil_perm.mp p]
  | a :: l, [], p, _, _, _ => absurd p.symm (by simp)
  | a :: l, b :: m, p, an, h1, h2 => by
    obtain ⟨h3, h4⟩ := List.pairwise_cons.mp h1
    obtain ⟨h5, h6⟩ := List.pairwise_cons.mp h2
    have e : a = b := by
      have ha : a ∈ b :: m := p.mem_iff.mp List.mem_cons_self
      have hb : b ∈ a :: l := p.mem_iff.mpr List.mem_cons_self
      rcases List.mem_cons.mp ha with e | ha
      · exact e
      · rcases List.mem_cons.mp hb with e | hb
        · exact e.symm
        · exact an a List.mem_cons_self b (List.mem_cons_of_mem _ hb) (h3 b hb) (h5 a ha)
    subst e
    rw [sorted_one (p.cons_inv) (fun x hx y hy => an x (List.mem_cons_of_mem _ hx) y (List.mem_cons_of_mem _ hy)) h4 h6]
theorem nodup_perm {α : Type} {l m : List α} (h1 : l.Nodup) (h2 : m.Nodup) (h : ∀ x, x ∈ l ↔ x ∈ m) : l.Perm m := (List.perm_ext_iff_of_nodup h1 h2).mpr h
/-- the sorted list of the members is one -/
theorem sort_same {l m : List D} (hl : l.Nodup) (hm : m.Nodup) (h : ∀ x, x ∈ l ↔ x ∈ m) (al : ∀ a ∈ l, ∀ b ∈ l, alike a b = true) : l.mergeSort leD = m.mergeSort leD := by
  refine sorted_one (((List.mergeSort_perm l leD).trans (nodup_perm hl hm h)).trans (List.mergeSort_perm m leD).symm) (fun a ha b hb => ?_) (sort_pairwise leD_total l) (sort_pairwise leD_total m)
  exact leD_anti (al a ((List.mergeSort_perm l leD).mem_iff.mp ha) b ((List.mergeSort_perm l leD).mem_iff.mp hb))
open Classical in
/-- each member once -/
noncomputable def nub : List D → List D
  | [] => []
  | d :: ds => if d ∈ ds then nub ds else d :: nub ds
theorem mem_nub (x : D) : ∀ ds : List D, x ∈ nub ds ↔ x ∈ ds
  | [] => Iff.rfl
  | d :: ds => by
    unfold nub
    split
    · rename_i h
      rw [mem_nub x ds, List.mem_cons]
      exact ⟨.inr, fun z => z.elim (fun e => by rw [e]; exact h) id⟩
    · rw [List.mem_cons, List.mem_cons, mem_nub x ds]
theorem nub_nodup : ∀ ds : List D, (nub ds).Nodup
  | [] => List.nodup_nil
  | d :: ds => by
    unfold nub
    split
    · exact nub_nodup ds
    · rename_i h
      exact List.nodup_cons.mpr ⟨fun z => h ((mem_nub d ds).mp z), nub_nodup ds⟩
/-- sorted(set(ds)) -/
noncomputable def ssD (ds : List D) : List D := (nub ds).mergeSort leD
theorem mem_ssD {ds : List D} {x : D} : x ∈ ssD ds ↔ x ∈ ds := ((List.mergeSort_perm _ _).mem_iff).trans (mem_nub x ds)
theorem ssD_of {ds l : List D} (hl : l.Nodup) (h : ∀ x, x ∈ l ↔ x ∈ ds) (al : ∀ a ∈ ds, ∀ b ∈ ds, alike a b = true) : l.mergeSort leD = ssD ds :=
  sort_same hl (nub_nodup ds) (fun x => (h x).trans (mem_nub x ds).symm) fun a ha b hb => al a ((h a).mp ha) b ((h b).mp hb)
theorem ssD_pairwise {ds : List D} : (ssD ds).Pairwise (fun a b => leD a b = true) := sort_pairwise leD_total _
theorem ssD_nodup {ds : List D} : (ssD ds).Nodup := (List.mergeSort_perm _ _).nodup_iff.mpr (nub_nodup ds)
/-- a list that is sorted and has the members is the one -/
theorem ssD_eq {ds l : List D} (al : ∀ a ∈ ds, ∀ b ∈ ds, alike a b = true) (hl : l.Nodup) (h : ∀ x, x ∈ l ↔ x ∈ ds) (hp : l.Pairwise (fun a b => leD a b = true)) : ssD ds = l := by
  rw [← ssD_of hl h al]
  refine sorted_one (List.mergeSort_perm l leD) (fun a ha b hb => ?_) (sort_pairwise leD_total l) hp
  have ha := (h a).mp ((List.mergeSort_perm l leD).mem_iff.mp ha)
  have hb := (h b).mp ((List.mergeSort_perm l leD).mem_iff.mp hb)
  exact leD_anti (al a ha b hb)

/-! ### sorted of a set -/
mutual
theorem reads_imm {h : Heap} : ∀ (d : D) (v : Value) (as : List Addr), imm d = true → Reads h v d as → as = []
  | .none, _, _, _, r => by cases r; rfl
  | .bool _, _, _, _, r => by cases r; rfl
  | .int _, _, _, _, r => by cases r; rfl
  | .str _, _, _, _, r => by cases r; rfl
  | .list ds, _, _, i, r => by simp [imm] at i
  | .tuple ds, _, _, i, r => by
    cases r with
    | tuple _ _ _ r => exact reads_immL ds _ _ (by simpa [imm] using i) r
  | .dict _, _, _, i, r => by simp [imm] at i
theorem reads_immL {h : Heap} : ∀ (ds : List D) (vs : List Value) (as : List Addr), immL ds = true → ReadsAll h vs ds as → as = []
  | [], _, _, _, r => by cases r; rfl
  | d :: ds, _, _, i, r => by
    simp only [immL, Bool.and_eq_true] at i
    cases r with
    | cons a b => rw [reads_imm d _ _ i.1 a, reads_immL ds _ _ i.2 b]; rfl
end
theorem immL_all : ∀ ds : List D, immL ds = ds.all imm
  | [] => by simp [immL]
  | d :: ds => by simp [immL, immL_all ds]
/-- values in another order -/
theorem perm_rel {α β : Type} {R : α → β → Prop} {l l' : List α} (p : l'.Perm l) : ∀ {m : List β}, EachIs R l m → ∃ m', m'.Perm m ∧ EachIs R l' m' := by
  induction p with
  | nil => intro m h; cases h; exact ⟨[], .refl _, .nil⟩
  | @cons x l1 l2 p ih =>
    intro m h
    cases h with
    | cons a t =>
      obtain ⟨m', q1, q2⟩ := ih t
      exact ⟨_ :: m', q1.cons _, .cons a q2⟩
  | @swap x y l =>
    intro m h
    cases h with
    | cons a t =>
      cases t with
      | cons b t => exact ⟨_, List.Perm.swap _ _ _, .cons b (.cons a t)⟩
  | @trans l1 l2 l3 p1 p2 ih1 ih2 =>
    intro m h
    obtain ⟨m1, q1, q2⟩ := ih2 h
    obtain ⟨m2, q3, q4⟩ := ih1 q2
    exact ⟨m2, q3.trans q1, q4⟩
section
variable {X : Cx}
/-- sorted(set) -/
def rSS (w : World) (K : PySem.W.Frag) : List V → Hp → VK → Prop := fun vs H Q => ∃ F ds a ws l, FOk F H ∧ vs = [.ref a] ∧ H a = some (setO w a ws) ∧ RepL w K F H ws l ∧ l.Nodup ∧ (∀ x, x ∈ l ↔ x ∈ ds) ∧ sortOk ds = true ∧ ds.all imm = true ∧ fits ds.length = true ∧ l.length ≤ ds.length ∧ Out w K true F H (.list (ssD ds)) Q
theorem sortOk_sub {ds l : List D} (h : sortOk ds = true) (hs : ∀ x ∈ l, x ∈ ds) : PySem.W.AllAlike l ∧ (∀ d ∈ l, dp 60 d = true) ∧ PySem.W.Sortable l := by
  obtain ⟨h1, h2, h3⟩ := sortOk_inv h
  exact ⟨fun d hd e he => h1 d (hs d hd) e (hs e he), fun d hd => h2 d (hs d hd), h3.imp (fun z d hd => z d (hs d hd)) fun z d hd => z d (hs d hd)⟩
theorem cr_ss (hc : X.calm = true) (hu : X.A.units + 100 < cLine) : CallR X (.builtin "sorted") (rSS X.w X.K) := by
  intro pins s σ H vs us Q I r h
  obtain ⟨F, ds, a, ws, l, o, rfl, ha, rl, nd, hm, hso, him, hfit, hlen, q⟩ := h
  rw [Vals.ref1 r]
  obtain ⟨⟨us2, R, rv⟩, _, _⟩ := (show ObjOk X.prog X.w H s.heap a (setO X.w a ws) from I.hok a _ ha)
  obtain ⟨ob, es, ep, t, ho, hex, hd, hft, hsb, hri, hled, hus⟩ := R
  refine Calls.call_function_entry kind_sorted plain_sorted entry_sorted (args_sorted1 _) ?_
  unfold Builtin.«sorted»
  refine wpAny_bind (m := checkCount "sorted" 1 1 _) (wpAny_pure ?_)
  refine wpAny_bind (collect_set (A := X.A.in1) (by simpa using I.ok.hd hc) ⟨ob, ho, hex.1, hd⟩ hft hsb hri hled fun s1 vs' k1 hz g1 o1 pm => ?_)
  rw [hus] at pm
  have ei := itR_of rv rl
  obtain ⟨l', pl, ei'⟩ := perm_rel pm ei
  have hl' : ∀ x ∈ l', x ∈ ds := fun x hx => (hm x).mp (pl.mem_iff.mp hx)
  obtain ⟨hal, hdp, hsr⟩ := sortOk_sub hso hl'
  have hvl : vs'.length = l'.length := ei'.length
  have hl2 : l'.length ≤ sizeLine := by rw [pl.length_eq]; exact Nat.le_trans hlen (fits_line hfit)
  refine wpAny_bind (wpAny_newList ?_ (by rw [hvl]; exact hl2))
  have hoL : (s1.heap.push (seqObj "list" vs'.toArray 0)).get? s1.heap.objs.size = some (seqObj "list" vs'.toArray 0) := Heap.get?_push_size _ rfl
  have kp : ∀ b u, s.heap.get? b = some u → (s1.heap.push (seqObj "list" vs'.toArray 0)).get? b = some u := fun b u e => Heap.get?_push_of_some _ (k1 b u e)
  have I1 : Inv X pins σ H { s with heap := s1.heap.push (seqObj "list" vs'.toArray 0), toks := s1.toks } := I.kept (t' := s1.toks) kp
  have er : EachIs (fun v b => ∃ as, Reads (s1.heap.push (seqObj "list" vs'.toArray 0)) v (id b) as ∧ s1.heap.objs.size ∉ as) vs' l' := itR_mem ei' fun u d hd ⟨x, r1, r2⟩ => by
    obtain ⟨as, q1⟩ := (Rep.dp_ d x 60 (hdp d hd) r2).reads I1 _ _ _ r1
    have e : as = [] := reads_imm d _ _ (List.all_eq_true.mp him d (hl' d hd)) q1
    refine ⟨as, q1, ?_⟩
    rw [e]
    simp
  have map_id : l'.map id = l' := List.map_id l'
  refine wpAny_bind (wpAny_holding (list_sort_data (A := X.A.in1) (s := { s1 with heap := s1.heap.push (seqObj "list" vs'.toArray 0) }) (enc := id) hoL ei' er (by rw [map_id]; exact hal) (by rw [map_id]; exact hsr) hl2 (fun b hb => ?_) fun out a1 a2 => ?_))
  · have := (dp_shaped _ _ (hdp b hb)).2
    show X.A.units + 1 + 1 + b.depth < cLine
    omega
  obtain ⟨c, hcg⟩ := sortedHeap_at (vs := vs') (out := List.toArray out) hoL
  obtain ⟨xs, h2, h3⟩ := itR_back a2
  have e1 : l'.mergeSort leD = ssD ds := ssD_of (pl.nodup_iff.mpr nd) (fun x => (pl.mem_iff).trans (hm x)) (sortOk_inv hso).1
  have h3 : RepL X.w X.K F H xs (ssD ds) := by rw [← e1]; exact h3
  have hn : H s1.heap.objs.size = none := I.hok.fresh hz
  have kp2 : ∀ b u, s.heap.get? b = some u → (sortedHeap (s1.heap.push (seqObj "list" vs'.toArray 0)) s1.heap.objs.size vs' (List.toArray out)).get? b = some u := fun b u e => by
    have hlt := Heap.lt_size (k1 b u e)
    rw [sortedHeap_old (Nat.ne_of_lt hlt) (by rw [size_push']; exact Nat.lt_succ_of_lt hlt)]
    exact kp b u e
  refine wpAny_pure ⟨_, rfl, .ref s1.heap.objs.size, upd H s1.heap.objs.size (.lst xs), ?_, rfl, q.list o h3 _ hn⟩
  have J : Inv X pins σ (upd H s1.heap.objs.size (.lst xs)) { s with heap := sortedHeap (s1.heap.push (seqObj "list" vs'.toArray 0)) s1.heap.objs.size vs' (List.toArray out), gens := s1.gens, drawn := s1.drawn, toks := s1.toks } :=
    I.call (ch := []) (Un.laid kp2 hz hn) (I.hok.laid kp2 hz ⟨by rw [h2.length, a1]; exact hl2, out, c, h2, hcg⟩) (by rw [g1]; exact I.bare) (fun _ z => nomatch z)
  have e : ({ s1 with heap := sortedHeap (s1.heap.push (seqObj "list" vs'.toArray 0)) s1.heap.objs.size vs' (List.toArray out) } : Shared) = { s with heap := sortedHeap (s1.heap.push (seqObj "list" vs'.toArray 0)) s1.heap.objs.size vs' (List.toArray out), gens := s1.gens, drawn := s1.drawn, toks := s1.toks } := by
    cases s1
    cases s
    cases o1
    rfl
  rw [← e] at J
  exact J
end
end DL

end
section
set_option Elab.async false
set_option linter.all false
set_option maxRecDepth 100000
set_option maxHeartbeats 4000000
/-! own layer, part 9: set(..) of ints, of tuples of ints -/
namespace DL
open PySem PySem.Spec PyProof.Rows L2 PySem.W

theorem Out.later {w : World} {K : PySem.W.Frag} {fr : Bool} {F : Fb} {H H' : Hp} {d : D} {Q : VK} (h : Out w K fr F H d Q) (e : Ext E0 H H') : Out w K fr F H' d Q := fun v H2 e2 r f =>
  h v H2 (e.trans e2) r fun z => by
    obtain ⟨p, hp, n, q⟩ := f z
    refine ⟨p, hp, ?_, q⟩
    cases hn : H p with
    | none => rfl
    | some o => rw [e p o hn (fun z => z)] at n; cases n
def tupsOf : List D → Option (List (List Int))
  | [] => some []
  | .tuple xs :: r => match intsOf xs, tupsOf r with
    | some ns, some k => some (ns :: k)
    | _, _ => none
  | _ :: _ => none
theorem tupsOf_inv : ∀ {ds : List D} {ks : List (List Int)}, tupsOf ds = some ks → ds = ks.map fun k => .tuple (k.map .int)
  | [], ks, h => by cases h; rfl
  | .tuple xs :: r, ks, h => by
    simp only [tupsOf] at h
    split at h
    · rename_i ns k e1 e2
      cases h
      rw [intsOf_inv e1, tupsOf_inv e2]
      rfl
    · cases h
  | .none :: _, _, h => by cases h
  | .bool _ :: _, _, h => by cases h
  | .int _ :: _, _, h => by cases h
  | .str _ :: _, _, h => by cases h
  | .list _ :: _, _, h => by cases h
  | .dict _ :: _, _, h => by cases h
theorem tupsOf_map : ∀ ks : List (List Int), tupsOf (ks.map fun k => .tuple (k.map .int)) = some ks
  | [] => rfl
  | k :: ks => by
    rw [List.map_cons]
    simp only [tupsOf, intsOf_map, tupsOf_map ks]
/-- what sets are made of here: fewer than 64 ints or tuples of ints -/
def setOk (ds : List D) : Bool := ((intsOf ds).isSome || (tupsOf ds).isSome) && decide (ds.length < 64) && sortOk ds
def itemsD : D → Option (List D)
  | .list ds => some ds
  | .tuple ds => some ds
  | _ => none
noncomputable def ssetD (d : D) : Option D := match itemsD d with
  | some ds => if setOk ds then some (.list (ssD ds)) else none
  | none => none
section
variable {P : Program} {w : World} {A : Around} {E : Value → Shared → Prop} {s : Shared}
theorem good_ints : ∀ {l : List (Int × Value)}, (∀ e ∈ l, L2.GoodE e) → IntsAre (l.map (·.2)) (l.map L2.keyOf)
  | [], _ => .nil
  | e :: l, h => by
    obtain ⟨k, tk, h1, _⟩ := h e List.mem_cons_self
    have z := good_ints fun x hx => h x (List.mem_cons_of_mem _ hx)
    rw [List.map_cons, List.map_cons, h1]
    have e2 : L2.keyOf e = k := by unfold L2.keyOf; rw [h1]
    rw [e2]
    exact .cons k tk z
def ΦI (w : World) (S : Addr) (ns : List Int) (h : Heap) : Prop := ∃ us ms, SetRaw w h S us ∧ IntsAre us ms ∧ ms.Nodup ∧ (∀ k, k ∈ ms ↔ k ∈ ns) ∧ ms.length ≤ ns.length
theorem fills_ints {items : Array Value} {ns : List Int} (hi : IntsAre items.toList ns) (hb : ns.length + 1 < scanBound) : Fills P w A s items (ΦI w s.heap.objs.size ns) := by
  intro A' R I fp G Pv St s1 W hv hSf hI hu h0 hk hS hR
  have hisz : items.size = ns.length := by
    have q := IntsAre.length hi
    rw [Array.length_toList] at q
    exact q
  have hval : ∀ (i : Nat) (v : Value), Pv i v → ∃ k t, ns[i]? = some k ∧ v = .int k t := fun i v hp => by
    have hv := hv i v hp
    have hi2 : i < ns.length := by rw [← hisz]; exact (Array.getElem?_eq_some_iff.mp hv).1
    obtain ⟨t, e⟩ := IntsAre.int_at hi i v (by rw [Array.getElem?_toList]; exact hv)
    refine ⟨ns[i], t, List.getElem?_eq_getElem hi2, ?_⟩
    rw [e, List.getD_eq_getElem?_getD, List.getElem?_eq_getElem hi2] <;> rfl
  refine set_update_ints W s.heap.objs.size hSf ns hisz hb hval (items.size - 0) 0 s1 (by omega) (Nat.zero_le _) h0 ⟨0, Nat.le_refl 0, setR_new_at hS⟩ fun s' c hm hc hR' => ?_
  obtain ⟨o, es, ep, t, ho, hex, hd, hg, nd, hmem, hsb, hft, hn, hri, hled⟩ := hR'
  refine hR s' hm ⟨es.toList.map (·.2), es.toList.map L2.keyOf, ⟨o, es, ep, t, ho, hex, hd, hft, hsb, hri, hled, rfl⟩, good_ints hg, nd, fun k => ?_, ?_⟩ fun b u e => ?_
  · rw [← hmem k]; simp
  · rw [List.length_map, Array.length_toList, hn, ← hisz]; exact hc
  · exact hm.heap b u (fun z => by
      rcases List.mem_cons.mp z with z | z
      · rw [z] at e; exact Nat.lt_irrefl _ (Heap.lt_size e)
      · rw [List.mem_singleton.mp z, hI] at e; cases e) (hk b u e)
def ΦT (w : World) (S : Addr) (ks : List (Addr × List Int)) (h : Heap) : Prop := ∃ L : List (Addr × List Int), SetRaw w h S (L.map fun p => Value.ref p.1) ∧ (∀ p ∈ L, p ∈ ks) ∧ (∀ p ∈ ks, p.2 ∈ L.map (·.2)) ∧ (L.map (·.2)).Nodup ∧ L.length ≤ ks.length
theorem fills_tups {items : Array Value} {ks : List (Addr × List Int)} (hi : items.toList = ks.map fun p => Value.ref p.1) (hk : ∀ p ∈ ks, IsT P w s.heap p.2 p.1) (hfew : ks.length < 64) (hu : A.units + 5 < cLine) : Fills P w A s items (ΦT w s.heap.objs.size ks) := by
  intro A' R I fp G Pv St s1 W hv hSf hI hun h0 hkp hS hR
  have hisz : items.size = ks.length := by
    have q := congrArg List.length hi
    rw [Array.length_toList, List.length_map] at q
    exact q
  have hval : ∀ (i : Nat) (v : Value), Pv i v → ∃ p, ks[i]? = some p ∧ v = .ref p.1 := fun i v hp => by
    have hv := hv i v hp
    have q : items.toList[i]? = some v := by rw [Array.getElem?_toList]; exact hv
    rw [hi, List.getElem?_map] at q
    cases hq : ks[i]? with
    | none => rw [hq] at q; cases q
    | some p =>
      rw [hq] at q
      exact ⟨p, rfl, (Option.some.inj q).symm⟩
  refine set_update_tups W s.heap.objs.size hSf ks hisz hfew hval s.heap hk (none_of (Nat.le_refl _)) (fun b hb => by rw [List.mem_singleton.mp hb]; exact hI) (by show A'.units + 1 < cLine; omega) (items.size - 0) 0 s1 (by omega) (Nat.zero_le _) h0 hkp ⟨[], #[], 0, _, setTR_fresh hS, Got.zero ks⟩ fun s' L es ep t hm hT g hkp' => ?_
  rw [hisz] at g
  obtain ⟨o, ho, hex, hd⟩ := hT.ob
  have hsz := hT.size
  have hf2 := hT.few
  refine hR s' hm ⟨L, ⟨o, es, ep, t, ho, hex, hd, hT.fits, by unfold scanBound; omega, hT.tab.ris, hT.led, ?_⟩, fun p hp => List.mem_of_mem_take (g.sub p hp), fun p hp => g.all p (by rw [List.take_length]; exact hp), hT.nd, g.len⟩ hkp'
  rw [hT.rows]
  unfold L2.rowsOf
  rw [List.map_map]
  rfl
end
section
variable {X : Cx}
/-- set(xs) -/
def rSet (w : World) (K : PySem.W.Frag) : List V → Hp → VK → Prop := fun vs H Q => ∃ F d ds v, FOk F H ∧ vs = [v] ∧ RepB w K F H v d ∧ itemsD d = some ds ∧ setOk ds = true ∧
  ∀ a ws l, H a = none → RepL w K F H ws l → l.Nodup → (∀ x, x ∈ l ↔ x ∈ ds) → l.length ≤ ds.length → Q (.ref a) (upd H a (setO w a ws))
theorem RepB.items {w : World} {K : PySem.W.Frag} {F : Fb} {H : Hp} {v : V} {d : D} {ds : List D} (r : RepB w K F H v d) (e : itemsD d = some ds) : ∃ p ys, v = .ref p ∧ RepL w K F H ys ds ∧ (H p = some (.lst ys) ∨ SqF H p ys) := by
  unfold itemsD at e
  split at e
  · cases e
    obtain ⟨p, ys, rfl, h, l⟩ := r.list_inv
    exact ⟨p, ys, rfl, l, .inl h⟩
  · cases e
    obtain ⟨p, ys, rfl, _, h, l⟩ := r.tuple_inv
    exact ⟨p, ys, rfl, l, .inr h⟩
  · cases e
theorem plain_of {pins : List (Addr × Obj)} {σ : L2.St} {H : Hp} {s : Shared} {p : Addr} {ys : List V} (I : Inv X pins σ H s) (h : H p = some (.lst ys) ∨ SqF H p ys) : ∃ T its, (T = "list" ∨ T = "tuple") ∧ Vals ys its ∧ PlainSeq T s.heap p its.toArray := by
  rcases h with h | ⟨o, hd, h⟩
  · obtain ⟨z, its, m, rv, eo⟩ := I.hok p _ h
    exact ⟨_, its, .inl rfl, rv, _, m, eo, rfl, rfl, rfl⟩
  · obtain ⟨e1, z, its, rv, o2, e2, e3, m, e4⟩ := I.hok p _ h
    rw [e1] at e2
    cases e2
    exact ⟨_, its, .inr rfl, rv, _, m, e1, e3, hd, e4⟩
theorem vals_intsAre : ∀ {ns : List Int} {us : List Value}, Vals (ns.map V.int) us → IntsAre us ns
  | [], _, .nil => .nil
  | n :: ns, _, .cons r t => by
    obtain ⟨tk, rfl⟩ := r
    exact .cons n tk (vals_intsAre t)
theorem tups_split {w : World} {K : PySem.W.Frag} {F : Fb} {H : Hp} : ∀ {kss : List (List Int)} {ys : List V}, RepL w K F H ys (kss.map fun k => .tuple (k.map .int)) →
    ∃ ks : List (Addr × List Int), ys = ks.map (fun p => V.ref p.1) ∧ ks.map (·.2) = kss ∧ ∀ p ∈ ks, ¬ F p.1 ∧ SqF H p.1 (p.2.map V.int)
  | [], _, .nil => ⟨[], rfl, rfl, fun p hp => by cases hp⟩
  | k :: kss, _, .cons a t => by
    obtain ⟨ks, e1, e2, h⟩ := tups_split t
    obtain ⟨p, xs, rfl, n, q, l⟩ := a.tuple_inv
    have e3 := l.ints_inv
    subst e3
    refine ⟨(p, k) :: ks, by rw [e1]; rfl, by rw [List.map_cons, e2], fun x hx => ?_⟩
    rcases List.mem_cons.mp hx with e | hx
    · rw [e]; exact ⟨n, q⟩
    · exact h x hx
theorem ints_inj : ∀ {a b : List Int}, a.map PyData.int = b.map PyData.int → a = b
  | [], [], _ => rfl
  | [], _ :: _, h => by simp at h
  | _ :: _, [], h => by simp at h
  | x :: a, y :: b, h => by
    simp only [List.map_cons, List.cons.injEq, PyData.int.injEq] at h
    rw [h.1, ints_inj h.2]
theorem cr_set (hc : X.calm = true) (hu : X.A.units + 100 < cLine) : CallR X (.type "set") (rSet X.w X.K) := by
  intro pins s σ H vs us Q I r h
  obtain ⟨F, d, ds, v, o, rfl, rb, ei, hok, q⟩ := h
  obtain ⟨p, ys, rfl, l, hp⟩ := rb.items ei
  rw [Vals.ref1 r]
  obtain ⟨T, its, hT, rv, ps⟩ := plain_of I hp
  have hn : H s.heap.objs.size = none := I.hok.fresh (Nat.le_refl _)
  unfold setOk at hok
  rw [Bool.and_eq_true, Bool.and_eq_true, Bool.or_eq_true, decide_eq_true_eq] at hok
  obtain ⟨⟨hkind, hfew⟩, hso⟩ := hok
  rcases hkind with hk | hk
  · obtain ⟨ns, hns⟩ := Option.isSome_iff_exists.mp hk
    have e := intsOf_inv hns
    subst e
    have e2 := l.ints_inv
    subst e2
    have hia : IntsAre its ns := vals_intsAre rv
    rw [List.length_map] at hfew
    refine call_set_seq (Φ := ΦI X.w s.heap.objs.size ns) hT (I.ok.hd hc) ps (fills_ints (by simpa using hia) (by unfold scanBound; omega)) fun h' tk hΦ k => ?_
    obtain ⟨us2, ms, R, hms, nd, hm, hlen⟩ := hΦ
    refine ⟨.ref s.heap.objs.size, upd H s.heap.objs.size (setO X.w s.heap.objs.size (ms.map V.int)), I.laid (t' := tk) k (Nat.le_refl _) (setO_ok R (vals_ints hms)), rfl, q _ _ (ms.map .int) hn (RepL.ints ms) ?_ (fun x => ?_) ?_⟩
    · exact List.Pairwise.map _ (fun a b hne e => hne (by injection e)) nd
    · rw [List.mem_map, List.mem_map]
      constructor
      · rintro ⟨a, ha, rfl⟩; exact ⟨a, (hm a).mp ha, rfl⟩
      · rintro ⟨a, ha, rfl⟩; exact ⟨a, (hm a).mpr ha, rfl⟩
    · rw [List.length_map, List.length_map]; exact hlen
  · obtain ⟨kss, hns⟩ := Option.isSome_iff_exists.mp hk
    have e := tupsOf_inv hns
    subst e
    obtain ⟨ks, e1, e2, hks⟩ := tups_split l
    subst e1
    subst e2
    rw [List.length_map, List.length_map] at hfew
    refine call_set_seq (Φ := ΦT X.w s.heap.objs.size ks) hT (I.ok.hd hc) ps (fills_tups (P := X.prog) (by simpa using refs_of_vals rv) (fun p hp => I.isT (hks p hp).2.t) hfew (by omega)) fun h' tk hΦ k => ?_
    obtain ⟨L, R, hs, ha, nd, hlen⟩ := hΦ
    refine ⟨.ref s.heap.objs.size, upd H s.heap.objs.size (setO X.w s.heap.objs.size (L.map fun p => V.ref p.1)), I.laid (t' := tk) k (Nat.le_refl _) (setO_ok R (vals_of_refs L)), rfl, q _ _ (L.map fun p => .tuple (p.2.map .int)) hn ?_ ?_ (fun x => ?_) ?_⟩
    · have go : ∀ L : List (Addr × List Int), (∀ p ∈ L, p ∈ ks) → RepL X.w X.K F H (L.map fun p => V.ref p.1) (L.map fun p => .tuple (p.2.map .int)) := by
        intro L
        induction L with
        | nil => intro _; exact .nil
        | cons p L ih =>
          intro hs
          obtain ⟨n, q⟩ := hks p (hs p List.mem_cons_self)
          exact .cons (.tup n q (RepL.ints p.2)) (ih fun x hx => hs x (List.mem_cons_of_mem _ hx))
      exact go L hs
    · have z : (L.map fun p => PyData.tuple (p.2.map .int)) = (L.map (·.2)).map fun k => PyData.tuple (k.map .int) := by rw [List.map_map]; rfl
      rw [z]
      exact List.Pairwise.map _ (fun a b hne e => hne (ints_inj (by injection e))) nd
    · rw [List.mem_map, List.map_map, List.mem_map]
      constructor
      · rintro ⟨a, hm, rfl⟩; exact ⟨a, hs a hm, rfl⟩
      · rintro ⟨a, hm, rfl⟩
        obtain ⟨b, hb, e⟩ := List.mem_map.mp (ha a hm)
        exact ⟨b, hb, by show PyData.tuple (b.2.map .int) = PyData.tuple (a.2.map .int); rw [e]⟩
    · rw [List.length_map, List.length_map, List.length_map]; exact hlen
theorem setOk_imm {ds : List D} (h : setOk ds = true) : ds.all imm = true := by
  unfold setOk at h
  rw [Bool.and_eq_true, Bool.and_eq_true, Bool.or_eq_true] at h
  rcases h.1.1 with hk | hk
  · obtain ⟨ns, hns⟩ := Option.isSome_iff_exists.mp hk
    rw [intsOf_inv hns, List.all_eq_true]
    intro x hx
    obtain ⟨a, _, rfl⟩ := List.mem_map.mp hx
    rfl
  · obtain ⟨kss, hns⟩ := Option.isSome_iff_exists.mp hk
    rw [tupsOf_inv hns, List.all_eq_true]
    intro x hx
    obtain ⟨a, _, rfl⟩ := List.mem_map.mp hx
    show immL (a.map .int) = true
    rw [immL_all, List.all_eq_true]
    intro y hy
    obtain ⟨b, _, rfl⟩ := List.mem_map.mp hy
    rfl
/-- sorted(set(v)) -/
theorem sset_out {w : World} {K : PySem.W.Frag} {F : Fb} {H : Hp} {v : V} {d d' : D} {Q : VK} (o : FOk F H) (r : RepB w K F H v d) (e : ssetD d = some d') (q : Out w K true F H d' Q) : rSet w K [v] H fun x H1 => rSS w K [x] H1 Q := by
  unfold ssetD at e
  split at e
  · rename_i ds hi
    obtain ⟨h1, rfl⟩ := ite_some e
    refine ⟨F, d, ds, v, o, rfl, r, hi, h1, fun a ws l hn rl nd hm hlen => ?_⟩
    have ex : Ext E0 H (upd H a (setO w a ws)) := Ext.new hn
    have hso : sortOk ds = true ∧ ds.length < 64 := by
      unfold setOk at h1
      rw [Bool.and_eq_true, Bool.and_eq_true, decide_eq_true_eq] at h1
      exact ⟨h1.2, h1.1.2⟩
    exact ⟨F, ds, a, ws, l, o.e0 ex, rfl, upd_same, RepL.ext ex.e0 (fun _ z => z) _ _ rl, nd, hm, hso.1, setOk_imm h1, by unfold fits; exact decide_eq_true (by omega), hlen, q.later ex⟩
  · cases e
end
end DL

end
section
set_option Elab.async false
set_option linter.all false
set_option maxRecDepth 100000
set_option maxHeartbeats 4000000
/-! own layer, part 10: displays, slices, truth -/
namespace DL
open PySem PySem.Spec PyProof.Rows L2

/-! ### (a, b, ..) -/
def tTupF (t : TA) : TE := fun σ H Q => t σ H fun xs H1 => xs.length ≤ sizeLine ∧ ∀ p (o : Obj), H1 p = none → o.dict = none → Q (.ref p) (upd H1 p (.frz o (.tup xs)))
section
variable {X : Cx} {es : List Expr} {t : TA} {pos : Pos}
theorem pe_tupF {x1} (h : PA X es t) : PE X (.Tuple es x1 pos) (tTupF t) := by
  refine ⟨fun pins s σ H Q I hq => ?_⟩
  refine wpAny_Tuple_spliced (thn (h.run pos pins s σ H _ I hq) fun us s1 ⟨xs, H1, I1, r, z, q⟩ => ⟨by rw [← r.length]; exact z, ?_⟩)
  exact ⟨.ref s1.heap.objs.size, _, laid_tup I1 r z, rfl, q _ _ (I1.hok.fresh (Nat.le_refl _)) rfl⟩
end

/-! ### t[lo:hi] of a tuple -/
def rSlF (K : PySem.W.Frag) : V → Option Int → Option Int → Hp → VK → Prop := fun x lo hi H Q => ∃ a xs, x = .ref a ∧ SqT K H a xs ∧ (cutV xs lo hi = xs → Q (.ref a) H) ∧ ∀ p (o : Obj), H p = none → o.dict = none → Q (.ref p) (upd H p (.frz o (.tup (cutV xs lo hi))))
section
variable {X : Cx}
theorem sl_tupF : SlR X (rSlF X.K) := by
  intro pins s σ H x v vl vu lo hi sl Q I rx hs pl pu h
  obtain ⟨a, xs, rfl, hx, q1, q2⟩ := h
  cases rx
  obtain ⟨its, r, ht, hz⟩ := I.tuple hx
  have hlen : its.toArray.size = xs.length := by rw [List.size_toArray]; exact r.length.symm
  refine ⟨"tuple", _, PyProof.Rows.slot_tuple_getitem.lookup, ht.typeIs, ?_⟩
  by_cases hw : HT.sIx xs.length 0 lo = 0 ∧ HT.sIx xs.length xs.length hi = xs.length
  · refine getItem_tuple_whole ht hs pl pu (by rw [hlen]; exact hw) ⟨.ref a, H, I, rfl, q1 ?_⟩
    unfold cutV
    rw [hw.1, hw.2, List.drop_zero, Nat.sub_zero, List.take_length]
  · refine HT.getItem_tuple_cut ht hs pl pu (by rw [hlen]; exact hw) ?_ (by rw [hlen]; exact hz)
    rw [hlen]
    exact ⟨.ref s.heap.objs.size, _, laid_tup I ((r.drop (HT.sIx xs.length 0 lo)).take (HT.sIx xs.length xs.length hi - HT.sIx xs.length 0 lo)) (Nat.le_trans (cutV_length xs lo hi) hz), rfl, q2 _ _ (I.hok.fresh (Nat.le_refl _)) rfl⟩
end
def cutD (xs : List D) (lo hi : Option Int) : List D := (xs.drop (HT.sIx xs.length 0 lo)).take (HT.sIx xs.length xs.length hi - HT.sIx xs.length 0 lo)
def sliceD (lo hi : Option Int) : D → Option D
  | .list xs => some (.list (cutD xs lo hi))
  | .tuple xs => some (.tuple (cutD xs lo hi))
  | .dict [(.none, .list xs)] => if (intsOf xs).isSome then some (.list (cutD xs lo hi)) else none
  | _ => none

/-! ### t[::-1] of a tuple -/
section
variable {prog : Program} {w : World} {A : Around} {E : Value → Shared → Prop} {s : Shared}
theorem rev_pick (xs : Array Value) : ((List.range xs.size).filterMap fun (k : Nat) => xs[(((xs.size : Int) - 1) + (k : Int) * (-1)).toNat]?).toArray = xs.toList.reverse.toArray := by
  have e : ∀ k ∈ List.range xs.size, xs[(((xs.size : Int) - 1) + (k : Int) * (-1)).toNat]? = xs[xs.size - 1 - k]? := fun k hk => by
    have := List.mem_range.mp hk
    have z : (((xs.size : Int) - 1) + (k : Int) * (-1)).toNat = xs.size - 1 - k := by omega
    rw [z]
  have e3 : (List.range xs.size).filterMap (fun (k : Nat) => xs[(((xs.size : Int) - 1) + (k : Int) * (-1)).toNat]?) = (List.range xs.size).filterMap (fun k => xs[xs.size - 1 - k]?) := by
    have go : ∀ (l : List Nat) (f g : Nat → Option Value), (∀ k ∈ l, f k = g k) → l.filterMap f = l.filterMap g := by
      intro l f g
      induction l with
      | nil => intro _; rfl
      | cons a l ih =>
        intro h
        rw [List.filterMap_cons, List.filterMap_cons, h a List.mem_cons_self, ih fun k hk => h k (List.mem_cons_of_mem _ hk)]
    exact go _ _ _ e
  rw [e3]
  have z : (List.range xs.size).filterMap (fun k => xs[xs.size - 1 - k]?) = ((List.range xs.size).map fun k => xs.size - 1 - k).filterMap (xs[·]?) := by rw [List.filterMap_map]; rfl
  rw [z, PySem.W.krv_range, List.filterMap_reverse, PySem.W.krv_all]
theorem places_rev (n : Nat) : Builtin.Slice.slicePlaces ((n : Int) - 1) (-1) (-1) = n := by
  unfold Builtin.Slice.slicePlaces
  have h1 : ¬ ((-1 : Int) > 0) := by decide
  rw [if_neg h1]
  by_cases h : (n : Int) - 1 > -1
  · rw [if_pos h]
    have e : ((n : Int) - 1 - -1 - 1) / (- -1) + 1 = n := by
      rw [show (- -1 : Int) = 1 by decide, Int.ediv_one]
      omega
    rw [e]
    omega
  · rw [if_neg h]
    omega
theorem getItem_tuple_rev {t sl : Addr} {items : Array Value} {vl vu vs : Value} {Q : Value → Shared → Prop} (ht : IsTup s.heap t items) (hs : s.heap.IsSliceOf sl vl vu vs) (pl : IsPart vl none) (pu : IsPart vu none) (ps : IsPart vs (some (-1)))
    (hz : items.size ≤ sizeLine) (h : Q (.ref s.heap.objs.size) { s with heap := s.heap.push { cls := .type "tuple", data := .seq items.toList.reverse.toArray } }) : wpAny (model prog w) A (getItem (.ref t) (.ref sl)) Q E s := by
  obtain ⟨os, hos, hcs, hds⟩ := id hs
  have hTs : s.TypeIs (.ref sl) "slice" := ⟨os, hos, hcs⟩
  unfold getItem
  try with_reducible refine wpAny_holding ?_
  first | refine wpAny_bind (wpAny_pure ?_) | skip
  refine wpAny_bind (wpAny_sequenceKey ht.typeIs (by decide) ?_)
  refine wpAny_bind (wpAny_callSpecial?_slot (name := Str.ofString "__getitem__") ht.typeIs PyProof.Rows.slot_tuple_getitem
    (wpAny_call_entry PyProof.Rows.slot_tuple_getitem ht.typeIs entry_tuple_getitem ?_ (args_tuple_getitem _ _)))
  show wpAny _ _ (Builtin.Tuple.tupleItemsOf (.ref t) >>= _) _ _ s
  refine wpAny_bind (tupleItemsOf_ ht ?_)
  refine wpAny_bind (wpAny_typeOf hTs ?_)
  rw [if_pos (by decide)]
  have sa : ∀ {Q' : Int × Int × Nat → Shared → Prop}, Q' ((items.size : Int) - 1, -1, items.size) s → wpAny (model prog w) A.in1 (Builtin.Slice.sliceApplied (.ref sl) (pure (items.size : Int))) Q' E s := fun {Q'} q => by
    unfold Builtin.Slice.sliceApplied Builtin.Slice.sliceFields
    refine wpAny_bind (wpAny_bind (wpAny_field hos hds (x := vl) rfl (wpAny_bind (wpAny_field hos hds (x := vu) rfl (wpAny_bind (wpAny_field hos hds (x := vs) rfl (wpAny_pure ?_)))))))
    refine wpAny_bind (HT.slicePart_ ps ?_)
    show wpAny _ _ (if ((-1 : Int) == 0) = true then _ else _) _ _ s
    rw [if_neg (by decide)]
    refine wpAny_bind (HT.slicePart_ pl (wpAny_bind (HT.slicePart_ pu (wpAny_bind (wpAny_pure ?_)))))
    show wpAny _ _ (pure ((items.size : Int) - 1, (-1 : Int), Builtin.Slice.slicePlaces ((items.size : Int) - 1) (-1) (-1))) _ _ s
    rw [places_rev]
    exact wpAny_pure q
  refine wpAny_bind (sa ?_)
  have hno : ¬ (((items.size : Int) - 1 == 0 && (-1 : Int) == 1 && items.size == items.size) = true) := by
    intro q
    rw [Bool.and_eq_true, Bool.and_eq_true] at q
    exact absurd q.1.2 (by decide)
  show wpAny _ _ (if ((items.size : Int) - 1 == 0 && (-1 : Int) == 1 && items.size == items.size) = true then _ else _) _ _ s
  rw [if_neg hno, rev_pick]
  have hz2 : sizeOk (.seq items.toList.reverse.toArray) := by
    show items.toList.reverse.toArray.size ≤ sizeLine
    rw [List.size_toArray, List.length_reverse, Array.length_toList]
    exact hz
  first
    | exact wpAny_bind (m := Builtin.Tuple.tupleExact _) (wpAny_newObj_type (wpAny_pure ⟨_, rfl, wpAny_pure h⟩) hz2)
    | exact wpAny_bind (m := Builtin.Tuple.tupleExact _) (wpAny_newObj_type (wpAny_bind (wpAny_pure (wpAny_pure ⟨_, rfl, wpAny_pure h⟩))) hz2)
    | exact wpAny_bind (wpAny_bind (m := Builtin.Tuple.tupleExact _) (wpAny_newObj_type (wpAny_pure (wpAny_pure ⟨_, rfl, wpAny_pure h⟩)) hz2))
    | exact wpAny_bind (wpAny_bind (m := Builtin.Tuple.tupleExact _) (wpAny_newObj_type (wpAny_pure ⟨_, rfl, wpAny_pure h⟩) hz2))
end
/-- x[::-1], x a list or a tuple -/
def tRev (K : PySem.W.Frag) (te : TE) : TE := fun σ H Q => te σ H fun x H1 => ∃ a xs, x = .ref a ∧ ((SqL K H1 a xs ∧ ∀ p, H1 p = none → Q (.ref p) (upd H1 p (.lst xs.reverse))) ∨ (SqT K H1 a xs ∧ ∀ p (o : Obj), H1 p = none → o.dict = none → Q (.ref p) (upd H1 p (.frz o (.tup xs.reverse)))))
section
variable {X : Cx}
theorem pe_rev {e : Expr} {te : TE} {k : Nat} {p1 p2 p3 pos : Pos} (he : PE X e te) : PE X (.Subscript e (.Slice none none (some (.UnaryOp .USub (.Constant (.int 1) k p1) p2)) p3) pos) (tRev X.K te) := by
  refine ⟨fun pins s σ H Q I h => ?_⟩
  refine Subscript_ (thn (he.run pins s σ H _ I h) fun v s1 ⟨x, H1, I1, r1, q1⟩ => ?_)
  obtain ⟨a, xs, rfl, q1⟩ := q1
  cases r1
  have hst : PO X (some (.UnaryOp .USub (.Constant (.int 1) k p1) p2)) (tPart (tUn (rU fun i => .int (-i)) (tC (.int 1)))) := po_some (pe_un un_neg pe_int)
  refine wpAny_Slice (thn (po_none.run pins s1 σ H1 (fun o H2 => o = none ∧ H2 = H1) I1 ⟨rfl, rfl⟩) fun vl s2 ⟨l, H2, I2, pl, el, e2⟩ => ?_)
  subst el e2
  refine thn (po_none.run pins s2 σ H2 (fun o H3 => o = none ∧ H3 = H2) I2 ⟨rfl, rfl⟩) fun vu s3 ⟨u, H3, I3, pu, eu, e3⟩ => ?_
  subst eu e3
  refine thn (hst.run pins s3 σ H3 (fun o H4 => o = some (-1) ∧ H4 = H3) I3 ⟨1, rfl, -1, rfl, rfl, rfl⟩) fun vs s4 ⟨o, H4, I4, ps, eo, e4⟩ => ?_
  subst eo e4
  have I5 : Inv X pins σ H4 { s4 with heap := s4.heap.push { cls := .type "slice", data := .fields #[vl, vu, vs] } } := I4.kept (t' := s4.toks) fun b ob q => Heap.get?_push_of_some _ q
  show wpAny (model X.prog X.w) X.A (subscriptTail e (.Slice none none (some (.UnaryOp .USub (.Constant (.int 1) k p1) p2)) p3) (.ref a) (.ref s4.heap.objs.size)) (EP X pins σ Q) X.xe { s4 with heap := s4.heap.push { cls := .type "slice", data := .fields #[vl, vu, vs] } }
  rcases q1 with ⟨hx, q⟩ | ⟨hx, q⟩
  · obtain ⟨its, r, ht, hz⟩ := I5.list hx
    have hlen := r.length
    refine tail_any (ops := [.ref a, .ref s4.heap.objs.size]) ht.isList.typeIs (PySem.slot_list_getitem.lookup) ?_ (by with_unfolding_all rfl)
    refine wpAny_getItem_list_slice ht.isList (Heap.IsSliceOf.new _ vl vu vs) pl pu ps (by decide) ?_ (by rw [List.size_toArray]; omega)
    rw [PySem.W.krv_pick]
    refine ⟨.ref _, _, I5.laid (t' := s4.toks) (o := .lst xs.reverse) (fun b ob q => Heap.get?_push_of_some _ q) (Nat.le_refl _) ?_, rfl, q _ (I5.hok.fresh (Nat.le_refl _))⟩
    exact ⟨by rw [List.length_reverse]; exact hz, _, 0, r.reverse, Heap.get?_push_size _ rfl⟩
  · obtain ⟨its, r, ht, hz⟩ := I5.tuple hx
    have hlen := r.length
    refine tail_any (ops := [.ref a, .ref s4.heap.objs.size]) ht.typeIs (PyProof.Rows.slot_tuple_getitem.lookup) ?_ (by with_unfolding_all rfl)
    refine getItem_tuple_rev ht (Heap.IsSliceOf.new _ vl vu vs) pl pu ps (by rw [List.size_toArray]; omega) ?_
    exact ⟨.ref _, _, laid_tup I5 r.reverse (by rw [List.length_reverse]; exact hz), rfl, q _ _ (I5.hok.fresh (Nat.le_refl _)) rfl⟩
end
def revD : D → Option D
  | .list xs => some (.list xs.reverse)
  | .tuple xs => some (.tuple xs.reverse)
  | _ => none

/-! ### by data -/
theorem cut_rep {w : World} {K : PySem.W.Frag} {F : Fb} {H : Hp} {ys : List V} {ds : List D} (l : RepL w K F H ys ds) (lo hi : Option Int) : RepL w K F H (cutV ys lo hi) (cutD ds lo hi) := by
  unfold cutV cutD
  rw [l.length]
  exact (l.drop _).take _
theorem Out.listF {w : World} {K : PySem.W.Frag} {F : Fb} {H : Hp} {Q : VK} {ds : List D} {xs : List V} (h : Out w K false F H (.list ds) Q) (o : FOk F H) (r : RepL w K F H xs ds) (p : Addr) (n : H p = none) : Q (.ref p) (upd H p (.lst xs)) := h.list o r p n
/-- x[lo:hi] -/
theorem slice_out {X : Cx} {F : Fb} {H : Hp} {x : V} {d d' : D} {lo hi : Option Int} {Q : VK} (o : FOk F H) (r : RepB X.w X.K F H x d) (e : sliceD lo hi d = some d') (q : Out X.w X.K false F H d' Q) : rSlL X.K x lo hi H Q ∨ rSlF X.K x lo hi H Q := by
  unfold sliceD at e
  split at e
  · cases e
    obtain ⟨p, ys, rfl, h, l⟩ := r.list_inv
    exact .inl ⟨p, ys, rfl, .inl (.inl h), q.list o (cut_rep l lo hi)⟩
  · cases e
    obtain ⟨p, ys, rfl, n, h, l⟩ := r.tuple_inv
    refine .inr ⟨p, ys, rfl, h.t, fun z => ?_, q.tuple o (cut_rep l lo hi)⟩
    have l2 := cut_rep l lo hi
    rw [z] at l2
    exact q.here (.tup n h l2)
  · obtain ⟨h1, rfl⟩ := ite_some e
    obtain ⟨ns, hns⟩ := Option.isSome_iff_exists.mp h1
    have e2 := intsOf_inv hns
    subst e2
    obtain ⟨p, rfl, h⟩ := RepB.scr_inv (ns := ns) r
    exact .inl ⟨p, _, rfl, h, q.list o (cut_rep (RepL.ints ns) lo hi)⟩
  · cases e
theorem rev_out {X : Cx} {F : Fb} {H : Hp} {x : V} {d d' : D} {Q : VK} (o : FOk F H) (r : RepB X.w X.K F H x d) (e : revD d = some d') (q : Out X.w X.K false F H d' Q) :
    ∃ a xs, x = .ref a ∧ ((SqL X.K H a xs ∧ ∀ p, H p = none → Q (.ref p) (upd H p (.lst xs.reverse))) ∨ (SqT X.K H a xs ∧ ∀ p (o : Obj), H p = none → o.dict = none → Q (.ref p) (upd H p (.frz o (.tup xs.reverse))))) := by
  unfold revD at e
  split at e
  · cases e
    obtain ⟨p, ys, rfl, h, l⟩ := r.list_inv
    exact ⟨p, ys, rfl, .inl ⟨.inl (.inl h), q.list o l.reverse⟩⟩
  · cases e
    obtain ⟨p, ys, rfl, n, h, l⟩ := r.tuple_inv
    exact ⟨p, ys, rfl, .inr ⟨h.t, q.tuple o l.reverse⟩⟩
  · cases e
def truD : D → Option Bool
  | .none => some false
  | .bool b => some b
  | .int i => some (i != 0)
  | .list xs => some (!xs.isEmpty)
  | .tuple xs => some (!xs.isEmpty)
  | _ => none
theorem tru_of {w : World} {K : PySem.W.Frag} {F : Fb} {H : Hp} {x : V} {d : D} {k : Bool} (r : RepB w K F H x d) (e : truD d = some k) : TruV K x H k := by
  cases d with
  | none => cases e; rw [r.none_inv]; rfl
  | bool b => cases e; rw [r.bool_inv]; rfl
  | int i => cases e; rw [r.int_inv]; rfl
  | list ds =>
    cases e
    obtain ⟨p, ys, rfl, h, l⟩ := r.list_inv
    refine .inl ⟨ys, .inl (.inl h), ?_⟩
    cases l <;> rfl
  | tuple ds =>
    cases e
    obtain ⟨p, ys, rfl, n, h, l⟩ := r.tuple_inv
    refine .inr (.inl ⟨ys, h.t, ?_⟩)
    cases l <;> rfl
  | _ => cases e
end DL

end
section
set_option Elab.async false
set_option linter.all false
set_option autoImplicit false
set_option maxRecDepth 100000
set_option maxHeartbeats 4000000
/-! own layer: dicts that are changed -/
namespace DL
open PySem PySem.Spec PyProof.Rows L2
section
variable {X : Cx}
theorem dict_wrote {pins : List (Addr × Obj)} {σ : L2.St} {H : Hp} {s : Shared} {F : Fb} {a : Addr} {es es' : List (V × Int × V)} {ep : Nat} {kvs : List (D × D)} {xs : List (NestedKey × Addr × Value)} {h' : Heap} (I : Inv X pins σ H s) (hd : H a = some (dictO a es ep)) (hF : F a) (hs : (a == sysModules) = false)
    (l : LK X.w X.K F H es' kvs xs) (hm : h'.DictOfH (nestedKind X.prog X.w) a xs) (hl : kvs.length ≤ sizeLine) (keep : ∀ b o, b ≠ a → s.heap.get? b = some o → h'.get? b = some o) (t : Nat) :
    ∃ ep', Inv X pins σ (upd H a (dictO a es' ep')) { s with heap := h', toks := t } ∧ OwnAt X.w X.K F (upd H a (dictO a es' ep')) a (.dict kvs) := by
  obtain ⟨ep', da, nd, tk⟩ := l.dictAt hm hs hl
  obtain ⟨_, _, ob, ens, hob, _⟩ := id da
  refine ⟨ep', I.write (x := a) (e := a) (by rw [hd]; exact trivial) (.inl rfl) keep ⟨_, hob⟩ ⟨da, ⟨ob, hob⟩, fun h1 h2 z k => ?_⟩, .inr ⟨es', ep', _, rfl, upd_same, RepE.ext (Ext.upd hF) (fun _ z => z) _ _ l.repE, nd, tupKeys_nn tk⟩⟩
  obtain ⟨z1, z2, ob', ens', z3, z4⟩ := z
  exact ⟨z1, z2, ob', ens', k _ z3, z4⟩
/-- d[k] = v -/
def rSetD (w : World) (K : PySem.W.Frag) : TSet := fun o i v H Q => ∃ (F : Fb) (a : Addr) (es : List (V × Int × V)) (ep : Nat) (kvs : List (D × D)) (k d : D), o = .ref a ∧ H a = some (dictO a es ep) ∧ F a ∧ RepE w K F H es kvs ∧ ndK kvs ∧ Rep w K F H i k ∧ goodKey k kvs = true ∧ Rep w K F H v d ∧ fits (kvs.length + 1) = true ∧
  ∀ es' ep', OwnAt w K F (upd H a (dictO a es' ep')) a (.dict (putD k d kvs)) → Q (upd H a (dictO a es' ep'))
theorem set_dict (hu : X.A.units + 100 < cLine) : PSet X (rSetD X.w X.K) := by
  intro pins s σ H o i v ov iv u Q I ro ri rv h
  obtain ⟨F, a, es, ep, kvs, k, d, rfl, hd, hF, re, nd, rk, gk, rd, hf, q⟩ := h
  cases ro
  obtain ⟨g1, g2, g3⟩ := goodKey_inv gk
  obtain ⟨xs, l, hm, hs, hl⟩ := dict_at I hd re nd g3
  obtain ⟨ds, rfl⟩ := isTup_inv g1
  obtain ⟨nk, k1, k2⟩ := isKey_inv g2
  obtain ⟨b, ys, rfl, n, _, _⟩ := id rk.tuple_inv
  cases ri
  refine wpAny_setItem_heap (room8 hu) ⟨Rep.nested I _ _ _ _ rk rfl k1, k2⟩ hm (fun h' hd' sb => ?_) hl
  obtain ⟨es', l'⟩ := l.put k1 k2 rk rd rv
  obtain ⟨ep', I', ho⟩ := dict_wrote (t := _) I hd hF hs l' hd' (by have z := putD_len (.tuple ds) d kvs; have z2 := fits_line hf; omega) (fun b o hb e => (sb.2 b hb).trans e) 
  exact ⟨_, I', q es' ep' ho⟩
/-- d.update(pairs) -/
def rUpd (w : World) (K : PySem.W.Frag) : V → List V → Hp → VK → Prop := fun x vs H Q => ∃ (F : Fb) (a : Addr) (es : List (V × Int × V)) (ep : Nat) (kvs : List (D × D)) (b : Addr) (xs : List V) (ds : List D) (ps : List (D × D)), x = .ref a ∧ vs = [.ref b] ∧ H a = some (dictO a es ep) ∧ F a ∧ RepE w K F H es kvs ∧ ndK kvs ∧ tupKeys kvs = true ∧
  H b = some (.lst xs) ∧ RepL w K F H xs ds ∧ pairsOf ds = some ps ∧ tupKeys ps = true ∧ fits (kvs.length + ps.length) = true ∧
  ∀ es' ep', OwnAt w K F (upd H a (dictO a es' ep')) a (.dict (putAll kvs ps)) → Q .non (upd H a (dictO a es' ep'))
theorem mt_update (hu : X.A.units + 100 < cLine) (hc : X.calm = true) : MtM X "dict.update" (rUpd X.w X.K) := by
  intro pins s σ H x vs v us Q I rx rv h
  obtain ⟨F, a, es, ep, kvs, b, xs, ds, ps, rfl, rfl, hd, hF, re, nd, tk, hb, r, e, t, hf, q⟩ := h
  cases rx
  obtain ⟨u, rfl, ru⟩ := rv.one
  cases ru
  obtain ⟨zs, l0, hm, hs, hl⟩ := dict_at I hd re nd tk
  obtain ⟨its, n, rvs, hbo, hz⟩ := I.lst hb
  obtain ⟨ks, es2, l, hkl, hp⟩ := pairs_of I r rvs e t
  have hkl2 := l.len
  have his := l.rel (P := X.prog) (h := s.heap) fun d b nk h k => Rep.nested I d _ _ _ h rfl k
  have hisx := l0.rel (P := X.prog) (h := s.heap) fun d b nk h k => Rep.nested I d _ _ _ h rfl k
  have PI : PairItems s.heap its.toArray (tAt its) (ks.map fun x => (.ref x.2.1, x.2.2)) := by
    refine ⟨by rw [List.size_toArray, List.length_map, hkl], fun j k v h => ?_⟩
    rw [List.getElem?_map, Option.map_eq_some_iff] at h
    obtain ⟨⟨nk, b', w'⟩, h1, h2⟩ := h
    cases h2
    obtain ⟨T', h3, h4⟩ := hp j nk b' _ h1
    refine ⟨?_, .inl ?_⟩
    · have : tAt its j = T' := by unfold tAt; rw [h3]
      rw [this]
      simpa using h3
    · have : tAt its j = T' := by unfold tAt; rw [h3]
      rw [this]
      exact h4
  have PH : PairsHaveH (nestedKind X.prog X.w) (ks.map fun x => (Value.ref x.2.1, x.2.2)).length (PairRel (ks.map fun x => (.ref x.2.1, x.2.2))) ks := by
    refine ⟨by rw [List.length_map], fun i key v h => ?_⟩
    have h : (ks.map fun x => (Value.ref x.2.1, x.2.2))[i]? = some (key, v) := h
    rw [List.getElem?_map, Option.map_eq_some_iff] at h
    obtain ⟨⟨nk, b', w'⟩, h1, h2⟩ := h
    cases h2
    exact ⟨nk, b', h1, rfl⟩
  have nab : a ≠ b := fun z => by rw [z, hb] at hd; cases hd
  obtain ⟨ob, ens, ep, hob, _, hdt, _⟩ := id hm
  have noneA : ∀ o vs n, s.heap.get? a = some o → o.data = .seq vs n → False := fun o vs n h z => by
    rw [hob] at h
    cases h
    rw [hdt] at z
    cases z
  refine call_update_pairsH (knd := nestedKind X.prog X.w) (acc := zs) (PairArg.list b its.toArray (tAt its) (ks.map fun x => (.ref x.2.1, x.2.2))) (I.ok.hd hc) (room8 hu) ⟨⟨_, n, hbo, rfl, rfl, rfl⟩, PI⟩ ?_ PH (keys_stay (fun x hx => ?_) noneA) hm ?_ fun h' tk' hd' hk => ?_
  · intro z
    rcases List.mem_cons.mp z with z | z
    · exact nab z
    · obtain ⟨j, hj, hT⟩ := List.mem_map.mp z
      rw [List.mem_range, List.length_map] at hj
      obtain ⟨T', h3, h4⟩ := hp j _ _ _ (List.getElem?_eq_getElem hj)
      have e2 : tAt its j = T' := by unfold tAt; rw [h3]
      rw [e2] at hT
      subst hT
      obtain ⟨o2, ho2, _, ⟨n2, hd2⟩⟩ := h4
      rw [hob] at ho2
      cases ho2
      rw [hdt] at hd2
      cases hd2
  · rcases List.mem_append.mp hx with z | z
    · exact hisx x z
    · exact his x z
  · rw [List.length_map]
    have z := fits_line hf
    have z1 := l0.len
    omega
  · obtain ⟨es', l'⟩ := LK.putAll l l0
    obtain ⟨ep', I', ho⟩ := dict_wrote (t := tk') I hd hF hs l' hd' (by have z := putAll_len ps kvs; have z2 := fits_line hf; omega) (fun b o hb e => hk b o hb (fun z => by cases z) e)
    exact ⟨.non, _, I', rfl, q es' ep' ho⟩
end
end DL

end
section
set_option Elab.async false
set_option linter.all false
set_option maxRecDepth 100000
set_option maxHeartbeats 4000000
/-! own layer: the small syntax and what it computes -/
namespace DL
open PySem PySem.Spec PyProof.Rows L2

/-! ### what runs: data, and one list of ints that is threaded -/
abbrev Env := List (Option D)
abbrev M (α : Type) := List Int → Option (α × List Int)
def rt {α : Type} (a : α) : M α := fun u => some (a, u)
def bd {α β : Type} (m : M α) (f : α → M β) : M β := fun u => match m u with
  | some (a, u1) => f a u1
  | none => none
def fl {α : Type} : M α := fun _ => none
def lf {α : Type} (o : Option α) : M α := match o with
  | some a => rt a
  | none => fl
theorem bd_some {α β : Type} {m : M α} {f : α → M β} {u : List Int} {r : β × List Int} (h : bd m f u = some r) : ∃ a u1, m u = some (a, u1) ∧ f a u1 = some r := by
  unfold bd at h
  split at h
  · rename_i a u1 e
    exact ⟨a, u1, e, h⟩
  · cases h
theorem lf_some {α : Type} {o : Option α} {u : List Int} {r : α × List Int} (h : lf o u = some r) : o = some r.1 ∧ r.2 = u := by
  cases o with
  | none => cases h
  | some a => cases h; exact ⟨rfl, rfl⟩
theorem rt_some {α : Type} {a : α} {u : List Int} {r : α × List Int} (h : rt a u = some r) : r = (a, u) := (Option.some.inj h).symm

/-! ### targets -/
inductive Tg where
  | nm (i : Nat) | nil | cons (a r : Tg)
  deriving DecidableEq
def Tg.isNm : Tg → Bool
  | .nm _ => true
  | _ => false
def seqD : D → Option (List D)
  | .list ds => some ds
  | .tuple ds => some ds
  | _ => none
def bindT : Tg → List D → Env → Option Env
  | .nm i, [d], ρ => some (ρ.set i (some d))
  | .nil, [], ρ => some ρ
  | .cons a r, x :: xs, ρ =>
    if a.isNm then (bindT a [x] ρ).bind fun ρ1 => bindT r xs ρ1
    else (seqD x).bind fun ys => (bindT a ys ρ).bind fun ρ1 => bindT r xs ρ1
  | _, _, _ => none
def bindD (t : Tg) (d : D) (ρ : Env) : Option Env := if t.isNm then bindT t [d] ρ else (seqD d).bind fun ys => bindT t ys ρ
def Tg.slots : Tg → List Nat
  | .nm i => [i]
  | .nil => []
  | .cons a r => a.slots ++ r.slots
def wipeD (ρ : Env) : List Nat → Env
  | [] => ρ
  | v :: vs => (wipeD ρ vs).set v none

/-! ### expressions -/
inductive Src where
  | seq | rng1 | rng2 | rng3 | zip | enum | items | keys
  deriving DecidableEq
inductive CM where
  | pure | urn | bor
  deriving DecidableEq
inductive Blt where
  | len | sum | max | min | min2 | all | any | abs | int | tuple | list | dict | sorted
  deriving DecidableEq
inductive E where
  | var (i : Nat) | own (i : Nat)
  | int (n : Int) | bl (b : Bool) | non | str (x : Str)
  | op (o : O2) (a b : E) | chain (o p : O2) (a b c : E)
  | not (a : E) | neg (a : E) | and (a b : E) | or (a b : E) | ifx (c a b : E)
  | tup (es : E) | lst (es : E) | nil | cons (a r : E) | star (a r : E)
  | call (f : Nat) (m : CM) (es : E) | blt (b : Blt) (es : E) | isi (cs : List Ty) (a : E) | sset (a : E) | sitems (a : E)
  | ix (a b : E) | sl (a lo hi : E) | no | rev (a : E) | urn (j : Nat) | dict0
  | cl (vs : List Nat) (k : Src) (s : E) (t : Tg) (ifs rest : E) | em (elt : E)
def Blt.fn : Blt → List D → Option D
  | .len => lenB
  | .sum => sumB
  | .max => maxB
  | .min => minB
  | .min2 => min2B
  | .all => allB
  | .any => anyB
  | .abs => absB
  | .int => intB
  | .tuple => tupleB
  | .list => listB
  | .dict => dictB
  | .sorted => sortB
def Blt.fr : Blt → Bool
  | .list => true
  | .dict => true
  | .sorted => true
  | _ => false
def small (i : Int) : Bool := decide (-4611686018427387904 ≤ i ∧ i < 4611686018427387904)
def rng1D : List D → Option (List D)
  | [.int j] => if small j then some ((List.range j.toNat).map fun (i : Nat) => .int (0 + (i : Int))) else none
  | _ => none
def rng2D : List D → Option (List D)
  | [.int i, .int j] => if small i && small j then some ((List.range (j - i).toNat).map fun (k : Nat) => .int (i + (k : Int))) else none
  | _ => none
def rng3D : List D → Option (List D)
  | [.int i, .int j, .int c] => if decide (c = -1) && small i && small j then some ((List.range (i - j).toNat).map fun (k : Nat) => .int (i + (k : Int) * -1)) else none
  | _ => none
def enumFrom (i : Nat) : List D → List D
  | [] => []
  | d :: ds => .tuple [.int (i : Int), d] :: enumFrom (i + 1) ds
/-- both lists, or both tuples -/
def zipD : List D → Option (List D)
  | [.list xs, .list ys] => some (List.zipWith (fun x y => .tuple [x, y]) xs ys)
  | [.tuple xs, .tuple ys] => some (List.zipWith (fun x y => .tuple [x, y]) xs ys)
  | _ => none
def srcD : Src → D → Option (List D)
  | .seq, d => seqD d
  | .rng1, .list ds => rng1D ds
  | .rng2, .list ds => rng2D ds
  | .rng3, .list ds => rng3D ds
  | .zip, .list ds => zipD ds
  | .enum, .list [d] => (seqD d).map (enumFrom 0)
  | .items, .list [.dict kvs] => if kvs.all (fun p => notNone p.1) then some (kvs.map fun p => .tuple [p.1, p.2]) else none
  | .keys, .dict kvs => if kvs.all (fun p => notNone p.1) then some (kvs.map (·.1)) else none
  | _, _ => none
def Src.pair : Src → Bool
  | .zip => true
  | .enum => true
  | .items => true
  | _ => false
def goC (f : D → M (List D)) : List D → M (List D)
  | [] => rt []
  | d :: ds => bd (f d) fun xs => bd (goC f ds) fun ys => rt (xs ++ ys)
def unl : D → M (List D)
  | .list xs => rt xs
  | _ => fl
def truM (d : D) : M Bool := lf (truD d)
def E.isNo : E → Bool
  | .no => true
  | _ => false
def partD (e : E) (d : D) : Option (Option Int) := if e.isNo then some none else match d with
  | .int i => some (some i)
  | _ => none
def pairsD (kvs : List (D × D)) : List D := kvs.map fun p => .tuple [p.1, p.2]
/-- sorted(d.items()) -/
noncomputable def sitemsD : D → Option D
  | .dict kvs => if kvs.all (fun p => notNone p.1) && sortOk (pairsD kvs) && (pairsD kvs).all imm && fits kvs.length then some (.list ((pairsD kvs).mergeSort leD)) else none
  | _ => none
noncomputable def ev (fe : Nat → List D → M D) : E → Env → M D
  | .var i, ρ => lf (ρ[i]?.bind id)
  | .own i, ρ => lf (ρ[i]?.bind id)
  | .int n, _ => rt (.int n)
  | .bl b, _ => rt (.bool b)
  | .non, _ => rt .none
  | .str x, _ => rt (.str x)
  | .op o a b, ρ => bd (ev fe a ρ) fun x => bd (ev fe b ρ) fun y => lf (o2 o x y)
  | .chain o p a b c, ρ => bd (ev fe a ρ) fun x => bd (ev fe b ρ) fun y => bd (lf (o2 o x y)) fun z => match z with
    | .bool true => bd (ev fe c ρ) fun w => bd (lf (o2 p y w)) fun v => match v with
      | .bool k => rt (.bool k)
      | _ => fl
    | .bool false => rt (.bool false)
    | _ => fl
  | .not a, ρ => bd (ev fe a ρ) fun x => bd (truM x) fun t => rt (.bool (!t))
  | .neg a, ρ => bd (ev fe a ρ) fun x => match x with
    | .int i => rt (.int (-i))
    | _ => fl
  | .and a b, ρ => bd (ev fe a ρ) fun x => bd (truM x) fun t => if t then ev fe b ρ else rt x
  | .or a b, ρ => bd (ev fe a ρ) fun x => bd (truM x) fun t => if t then rt x else ev fe b ρ
  | .ifx c a b, ρ => bd (ev fe c ρ) fun x => bd (truM x) fun t => if t then ev fe a ρ else ev fe b ρ
  | .tup es, ρ => bd (ev fe es ρ) fun x => bd (unl x) fun ds => if fits ds.length then rt (.tuple ds) else fl
  | .lst es, ρ => bd (ev fe es ρ) fun x => bd (unl x) fun ds => if fits ds.length then rt (.list ds) else fl
  | .nil, _ => rt (.list [])
  | .cons a r, ρ => bd (ev fe a ρ) fun x => bd (ev fe r ρ) fun y => bd (unl y) fun ds => rt (.list (x :: ds))
  | .star a r, ρ => bd (ev fe a ρ) fun x => bd (lf (seqD x)) fun xs => bd (ev fe r ρ) fun y => bd (unl y) fun ds => rt (.list (xs ++ ds))
  | .call f m es, ρ => bd (ev fe es ρ) fun x => bd (unl x) fun ds => bd (fe f ds) fun d => if m = .bor then (if imm d then rt d else fl) else rt d
  | .blt b es, ρ => bd (ev fe es ρ) fun x => bd (unl x) fun ds => lf (b.fn ds)
  | .isi cs a, ρ => bd (ev fe a ρ) fun x => lf (isiD cs x)
  | .sset a, ρ => bd (ev fe a ρ) fun x => lf (ssetD x)
  | .sitems a, ρ => bd (ev fe a ρ) fun x => lf (sitemsD x)
  | .ix a b, ρ => bd (ev fe a ρ) fun x => bd (ev fe b ρ) fun y => lf (subD x y)
  | .sl a lo hi, ρ => bd (ev fe a ρ) fun x => bd (ev fe lo ρ) fun l => bd (ev fe hi ρ) fun h => lf ((partD lo l).bind fun l => (partD hi h).bind fun h => sliceD l h x)
  | .no, _ => rt .none
  | .rev a, ρ => bd (ev fe a ρ) fun x => lf (revD x)
  | .urn j, _ => fun u => match u[j]? with
    | some i => some (.int i, u)
    | none => none
  | .dict0, _ => rt (.dict [])
  | .cl vs k s t ifs rest, ρ => bd (ev fe s ρ) fun x => bd (lf (srcD k x)) fun ds =>
    bd (goC (fun d => bd (lf (bindD t d (wipeD ρ vs))) fun ρ1 => bd (ev fe ifs ρ1) fun y => bd (unl y) fun bs => match bs with
      | [] => bd (ev fe rest ρ1) unl
      | b :: _ => bd (truM b) fun k => if k then bd (ev fe rest ρ1) unl else rt []) ds) fun xs => if fits xs.length then rt (.list xs) else fl
  | .em e, ρ => bd (ev fe e ρ) fun d => rt (.list [d])
end DL

end
section
set_option Elab.async false
set_option linter.all false
set_option maxRecDepth 100000
set_option maxHeartbeats 4000000
/-! own layer: list comprehensions of any number of clauses -/
namespace DL
open PySem PySem.Spec PyProof.Rows L2

theorem compTurn_mid (elt : Expr) (gens : List Comprehension) (scope : Scope) (pos : Pos) (i : Nat) (it acc : Value) (env : PySem.Env) (t0 i0 t1 i1 : Expr) (ifs0 ifs1 : List Expr) (h : gens[i]? = some ⟨t0, i0, ifs0, 0⟩) (h2 : gens[i + 1]? = some ⟨t1, i1, ifs1, 0⟩) :
    compTurn (.ListComp elt gens scope pos) i it acc env = (do
      standAt i0.pos
      match ← pyNext it with
      | none => pure (.done .next)
      | some v =>
        letOwnedTupleGo t0 it v
        assign t0 env v
        let mut ok := true
        for c in ifs0 do
          if ok then ok ← isTrue c env (eval c env)
        if ok then
          let x ← eval i1 env
          standAt i1.pos
          let x ← foldedSetIterable i1 env x
          let _ ← runOwn (.compStart (.ListComp elt gens scope pos) (i + 1) (← holding [x] (pyIter x)) acc env) env
        again (.compLoop (.ListComp elt gens scope pos) i it acc env)) := by
  unfold compTurn
  simp only [h, h2]
  rfl
theorem compTurn_last (elt : Expr) (gens : List Comprehension) (scope : Scope) (pos : Pos) (i : Nat) (it acc : Value) (env : PySem.Env) (t0 i0 : Expr) (ifs0 : List Expr) (h : gens[i]? = some ⟨t0, i0, ifs0, 0⟩) (h2 : gens[i + 1]? = none) :
    compTurn (.ListComp elt gens scope pos) i it acc env = (do
      standAt i0.pos
      match ← pyNext it with
      | none => pure (.done .next)
      | some v =>
        letOwnedTupleGo t0 it v
        assign t0 env v
        let mut ok := true
        for c in ifs0 do
          if ok then ok ← isTrue c env (eval c env)
        if ok then
          (do let _ ← call (.builtin "list.append") [acc, ← eval elt env])
        again (.compLoop (.ListComp elt gens scope pos) i it acc env)) := by
  unfold compTurn
  simp only [h, h2]
  rfl
abbrev ifLoop (env : PySem.Env) (ifs : List Expr) : Sem Bool := forIn ifs true fun c r => if r = true then do let ok ← isTrue c env (eval c env); pure (ForInStep.yield ok) else pure (ForInStep.yield r)
section
variable {prog : Program} {w : World} {A : Around} {R : Result → Shared → Prop} {s : Shared} {elt : Expr} {gens : List Comprehension} {scope : Scope} {pos : Pos} {it acc : Value} {env : PySem.Env}
/-- what stands behind a clause's tests -/
def Behind (prog : Program) (w : World) (A : Around) (elt : Expr) (gens : List Comprehension) (scope : Scope) (pos : Pos) (acc : Value) (env : PySem.Env) (j : Nat) (E : Value → Shared → Prop) (Q : Shared → Prop) (s : Shared) : Prop :=
  match gens[j]? with
  | some ⟨_, i1, _, _⟩ => wpAny (model prog w) A (eval i1 env) (fun x s₄ => wpAny (model prog w) A (pyIter x) (fun it1 s₅ =>
      codeAny (model prog w) A (.compStart (.ListComp elt gens scope pos) j it1 acc env) (fun r s' => match r with
        | .ok _ => Q s'
        | .error _ => False) s₅) E s₄) E s
  | none => wpAny (model prog w) A (eval elt env) (fun x s₄ => wpAny (model prog w) A (call (.builtin "list.append") [acc, x]) (fun _ s₅ => Q s₅) E s₄) E s
/-- a clause's loop -/
theorem compLoop_gen (hz : ∀ g ∈ gens, g.is_async = 0) (hs : ∀ g ∈ gens, ∀ env x, foldedSetIterable g.iter env x = pure x) {i : Nat} {t0 i0 : Expr} {ifs0 : List Expr} {z0 : Int} (hg : gens[i]? = some ⟨t0, i0, ifs0, z0⟩) (I : Nat → Shared → Prop)
    (turn : ∀ n s, I n s → wpAny (model prog w) A (pyNext it) (fun r s₁ => match r with
      | none => R (.ok .next) s₁
      | some v => wpAny (model prog w) A (letOwnedTupleGo t0 it v) (fun _ s₁' => wpAny (model prog w) A (assign t0 env v) (fun _ s₂ =>
          wpAny (model prog w) A (ifLoop env ifs0) (fun ok s₃ =>
            if ok = true then Behind prog w A elt gens scope pos acc env (i + 1) (notedBy (model prog w) A env fun e s' => R (.error e) s') (fun s' => ∃ m, m < n ∧ I m s') s₃
            else ∃ m, m < n ∧ I m s₃) (notedBy (model prog w) A env fun e s' => R (.error e) s') s₂) (notedBy (model prog w) A env fun e s' => R (.error e) s') s₁') (notedBy (model prog w) A env fun e s' => R (.error e) s') s₁) (notedBy (model prog w) A env fun e s' => R (.error e) s') s)
    (n : Nat) (h : I n s) : codeAny (model prog w) A (.compLoop (.ListComp elt gens scope pos) i it acc env) R s := by
  have hz0 : z0 = 0 := hz _ (List.mem_of_getElem? hg)
  subst hz0
  refine codeAny_loop rfl I (fun n s hI => ?_) n h
  show wpAny _ A ((compTurn (.ListComp elt gens scope pos) i it acc env).onRaise (fun x => do noteFrame x env; theTreesLotGoes x)) _ _ s
  refine wpAny_noted ?_
  cases h2 : gens[i + 1]? with
  | none =>
    rw [compTurn_last elt gens scope pos i it acc env t0 i0 ifs0 hg h2]
    refine wpAny_bind (wpAny_standAt (wpAny_bind (wpAny_mono (turn n s hI) (fun r s₁ h₁ => ?_) fun _ _ h' => h')))
    cases r with
    | none => exact wpAny_pure h₁
    | some v =>
      refine wpAny_bind (wpAny_mono h₁ (fun _ s₁' h₁' => ?_) fun _ _ h' => h')
      refine wpAny_bind (wpAny_mono h₁' (fun _ s₂ h₂ => wpAny_bind (wpAny_mono h₂ (fun ok s₃ h₃ => ?_) fun _ _ h' => h')) fun _ _ h' => h')
      cases ok with
      | false => exact wpAny_pure ⟨rfl, h₃⟩
      | true =>
        have h₃ : Behind prog w A elt gens scope pos acc env (i + 1) (notedBy (model prog w) A env fun e s' => R (.error e) s') (fun s' => ∃ m, m < n ∧ I m s') s₃ := h₃
        unfold Behind at h₃
        rw [h2] at h₃
        exact wpAny_bind (wpAny_bind (wpAny_mono h₃ (fun x s₄ h₄ => wpAny_bind (wpAny_mono h₄ (fun _ s₅ h₅ => wpAny_pure (wpAny_pure ⟨rfl, h₅⟩)) fun _ _ h' => h')) fun _ _ h' => h'))
  | some g' =>
    obtain ⟨t1, i1, ifs1, z1⟩ := g'
    have hz1 : z1 = 0 := hz _ (List.mem_of_getElem? h2)
    subst hz1
    rw [compTurn_mid elt gens scope pos i it acc env t0 i0 t1 i1 ifs0 ifs1 hg h2]
    refine wpAny_bind (wpAny_standAt (wpAny_bind (wpAny_mono (turn n s hI) (fun r s₁ h₁ => ?_) fun _ _ h' => h')))
    cases r with
    | none => exact wpAny_pure h₁
    | some v =>
      refine wpAny_bind (wpAny_mono h₁ (fun _ s₁' h₁' => ?_) fun _ _ h' => h')
      refine wpAny_bind (wpAny_mono h₁' (fun _ s₂ h₂ => wpAny_bind (wpAny_mono h₂ (fun ok s₃ h₃ => ?_) fun _ _ h' => h')) fun _ _ h' => h')
      cases ok with
      | false => exact wpAny_pure ⟨rfl, h₃⟩
      | true =>
        have h₃ : Behind prog w A elt gens scope pos acc env (i + 1) (notedBy (model prog w) A env fun e s' => R (.error e) s') (fun s' => ∃ m, m < n ∧ I m s') s₃ := h₃
        unfold Behind at h₃
        rw [h2] at h₃
        refine wpAny_bind (wpAny_mono h₃ (fun x s₄ h₄ => ?_) fun _ _ h' => h')
        refine wpAny_bind (wpAny_standAt (wpAny_bind (wpAny_of_eq (hs _ (List.mem_of_getElem? h2) env x) (wpAny_bind (wpAny_holding (wpAny_mono h₄ (fun it1 s₅ h₅ => ?_) fun _ _ h' => h'))))))
        refine wpAny_bind (wpAny_runOwn ?_)
        rw [Around.mark_none]
        refine codeAny_mono h₅ fun r s' hr => ?_
        cases r with
        | ok f =>
          first
            | exact wpAny_pure ⟨rfl, hr⟩
            | exact wpAny_bind (wpAny_pure (wpAny_pure ⟨rfl, hr⟩))
        | error e => exact hr.elim
/-- a clause's start -/
theorem compStart_gen {i : Nat} {t0 i0 : Expr} {ifs0 : List Expr} (hg : gens[i]? = some ⟨t0, i0, ifs0, 0⟩) (h0 : codeAny (model prog w) A (.compLoop (.ListComp elt gens scope pos) i it acc env) R s)
    (h : wpAny (model prog w) A (pyIter it) (fun it' s' => codeAny (model prog w) A (.compLoop (.ListComp elt gens scope pos) i it' acc env) R s') (notedBy (model prog w) A env fun x s' => R (.error x) s') s) :
    codeAny (model prog w) A (.compStart (.ListComp elt gens scope pos) i it acc env) R s := by
  refine codeAny_of_tree ?_
  show wpAny _ _ ((compStart (.ListComp elt gens scope pos) i it acc env).onRaise (fun x => do noteFrame x env; standAt theWindowsPlace)) _ _ s
  refine wpAny_notedAt ?_
  have hc : (clausesOf (.ListComp elt gens scope pos))[i]? = some ⟨t0, i0, ifs0, 0⟩ := hg
  unfold compStart
  rw [hc]
  show wpAny _ _ (ask >>= _) _ _ s
  refine wpAny_bind (wpAny_askSetting (wpAny_ite ?_))
  split
  · first
      | exact wpAny_bind (wpAny_pure (wpAny_pure (And.intro rfl h0)))
      | exact wpAny_pure (And.intro rfl h0)
  · first
      | exact wpAny_bind (wpAny_rule (wpAny_bind (wpAny_standAt (wpAny_bind (wpAny_mono h (fun it' s' h' => wpAny_pure (And.intro rfl h')) fun _ _ x => x)))))
      | (refine wpAny_bind (wpAny_rule ?_); show wpAny _ _ (standAt i0.pos >>= _) _ _ s; exact wpAny_bind (wpAny_standAt (wpAny_bind (wpAny_mono h (fun it' s' h' => wpAny_pure (And.intro rfl h')) fun _ _ x => x))))
end

/-! ### readings -/
structure ClR where
  wi : TI
  g : TG
  tt : TT
  vs : List Nat
def tLoop (c : ClR) (next : L2.St → Hp → (Hp → Prop) → Prop) (σ : L2.St) (J : It) (H1 : Hp) (Kx : Hp → Prop) : Prop :=
  ∃ W : Nat → Nat → Hp → Prop, (∃ m, W 0 m H1) ∧ ∀ i m H, W i m H → (J.stop i H ∧ Kx H) ∨ (J.go i H ∧ ∃ Nx : Hp → Prop, (∀ H', Nx H' → ∃ m', m' < m ∧ W (i + 1) m' H') ∧
    ∀ x H', J.yld i H x H' → c.g x (wipe σ c.vs) H' fun σ2 H2 => wipe σ2 c.vs = wipe σ c.vs ∧ c.tt σ2 H2 fun b H3 => if b = true then next σ2 H3 Nx else Nx H3)
def tGo (te : TE) (D : Addr) : List ClR → L2.St → Hp → (Hp → Prop) → Prop
  | [] => fun σ H Kx => te σ H fun y H4 => ∃ acc, H4 D = some (.lst acc) ∧ acc.length < sizeLine ∧ Kx (upd H4 D (.lst (acc ++ [y])))
  | c :: cs => fun σ H Kx => c.wi σ H fun J H1 => tLoop c (tGo te D cs) σ J H1 Kx
structure ClB (Xb : Cx) (g : Comprehension) (c : ClR) : Prop where
  pg : PG Xb g.target c.g
  pt : PTs Xb g.ifs c.tt
structure ClI (Xb : Cx) (g : Comprehension) (c : ClR) : Prop where
  b : ClB Xb g c
  pi : PI Xb g.target g.iter c.wi
def Nest (cs : List ClR) : Prop := cs.Pairwise fun c c' => ∀ i ∈ c'.vs, i ∈ c.vs
section
variable {X : Cx} {s0 : Shared} {H0 : Hp} {scope : Scope} {cenv : PySem.Env} {fp0 : List Addr} {elt : Expr} {gens : List Comprehension} {pos : Pos} {te : TE} {D : Addr}
theorem weak_wipe {Xb : Cx} {pins : List (Addr × Obj)} {σ : L2.St} {H : Hp} {s : Shared} {vs ws : List Nat} (I : Inv Xb pins (wipe σ vs) H s) (h : ∀ i ∈ vs, i ∈ ws) : Inv Xb pins (wipe σ ws) H s :=
  I.weak (by rw [wipe_length, wipe_length]) fun i v e => by
    obtain ⟨e1, e2⟩ := wipe_some e
    rw [wipe_out fun z => e2 (h i z)]
    exact e1
theorem behind_ok (hc : X.calm = true) (hz : ∀ g ∈ gens, g.is_async = 0) (hs : ∀ g ∈ gens, ∀ env x, foldedSetIterable g.iter env x = pure x) (he : PE (X.blk s0 H0 scope cenv fp0) elt te) :
    ∀ (cs : List ClR) (gs : List Comprehension) (j : Nat), gens.drop j = gs → Paired (ClI (X.blk s0 H0 scope cenv fp0)) gs cs → Nest cs → ∀ (pins : List (Addr × Obj)) (s : Shared) (σ : L2.St) (H : Hp) (vs : List Nat) (Kx : Hp → Prop) (E : Value → Shared → Prop),
      Inv (X.blk s0 H0 scope cenv fp0) pins σ H s → (∀ c ∈ cs, ∀ i ∈ c.vs, i ∈ vs) → tGo te D cs σ H Kx →
      Behind X.prog X.w X.A elt gens scope pos (.ref D) cenv j E (fun s' => ∃ H', Inv (X.blk s0 H0 scope cenv fp0) pins (wipe σ vs) H' s' ∧ Kx H') s
  | [], gs, j, hd, hp, hn, pins, s, σ, H, vs, Kx, E, I, hv, h => by
    cases hp
    have hj : gens[j]? = none := by
      have := congrArg List.length hd
      rw [List.length_drop, List.length_nil] at this
      exact List.getElem?_eq_none (by omega)
    unfold Behind
    rw [hj]
    have h : te σ H fun y H4 => ∃ acc, H4 D = some (.lst acc) ∧ acc.length < sizeLine ∧ Kx (upd H4 D (.lst (acc ++ [y]))) := h
    refine thnF (he.run pins s σ H _ I h) fun z s1 ⟨yv, H1, I1, r1, acc, hD, hzl, kx⟩ => ?_
    exact app_ok (X := X.blk s0 H0 scope cenv fp0) I1 hD hzl r1 fun s2 I2 => ⟨_, I2.weak (wipe_length _ _) (fun i v e => (wipe_some e).1), kx⟩
  | c :: cs, gs, j, hd, hp, hn, pins, s, σ, H, vs, Kx, E, I, hv, h => by
    cases hp with
    | @cons g _ gs _ p1 p2 =>
    obtain ⟨hn1, hn2⟩ := List.pairwise_cons.mp hn
    obtain ⟨t0, i0, ifs0, z0⟩ := g
    have hj : gens[j]? = some ⟨t0, i0, ifs0, z0⟩ := by
      have e := congrArg (fun l : List Comprehension => l[0]?) hd
      simp only [List.getElem?_drop, Nat.add_zero, List.getElem?_cons_zero] at e
      exact e
    have hz0 : z0 = 0 := hz _ (List.mem_of_getElem? hj)
    subst hz0
    have hd2 : gens.drop (j + 1) = gs := by
      rw [← List.drop_drop, hd]
      rfl
    unfold Behind
    rw [hj]
    have h : c.wi σ H fun J H1 => tLoop c (tGo te D cs) σ J H1 Kx := h
    refine thnF (p1.pi.run pins s σ H _ I h) fun xv s1 hx => thnF hx fun itv s2 h2 => ?_
    obtain ⟨it, fp, tn, J, H2, e, I2, T, st2, f2, W, ⟨m0, w0⟩, turn⟩ := h2
    subst e
    have stat : ∀ {H' : Hp}, (∀ b ∈ fp, H' b = none) → ∀ b ∈ fp, FpOk (X.blk s0 H0 scope cenv fp0) pins H' b := fun hn b hb => ⟨hn b hb, (f2 b hb).2⟩
    have loop : codeAny (model X.prog X.w) X.A (.compLoop (.ListComp elt gens scope pos) j (.ref it) (.ref D) cenv)
        (fun r s' => match r with
          | .ok _ => ∃ H', Inv (X.blk s0 H0 scope cenv fp0) pins (wipe σ vs) H' s' ∧ Kx H'
          | .error _ => False) s2 := by
      refine compLoop_gen hz hs hj (fun n s' => ∃ i H', Inv (X.blk s0 H0 scope cenv fp0) pins (wipe σ c.vs) H' s' ∧ tn i s'.heap ∧ (∀ b ∈ fp, H' b = none) ∧ W i n H') ?_ m0 ⟨0, H2, I2.weak (wipe_length _ _) (fun j v e => (wipe_some e).1), st2, fun b hb => (f2 b hb).1, w0⟩
      rintro n s5 ⟨i, H5, I5, st5, n5, w5⟩
      rcases turn i n H5 w5 with ⟨stop, qq⟩ | ⟨go, Nx, hNx, step⟩
      · refine thnF (T.done (X.blk s0 H0 scope cenv fp0) rfl rfl rfl hc i pins s5 _ H5 (fun _ _ => False) I5 (stat n5) st5 stop) fun r s6 ⟨hr, I6⟩ => ?_
        subst hr
        exact ⟨H5, weak_wipe I6 (hv c List.mem_cons_self), qq⟩
      · refine thnF (T.item (X.blk s0 H0 scope cenv fp0) rfl rfl rfl hc i pins s5 _ H5 (fun _ _ => False) I5 (stat n5) st5 go) fun r s6 ⟨u, hr, h6⟩ => ?_
        subst hr
        refine thnF h6 fun _ s7 ⟨x, H7, I7, r7, y7, st7, n7⟩ => ?_
        have I7' := I7.pinned (stat n7) (T.obj _ _ st7)
        refine thnF (p1.b.pg.run _ s7 _ H7 x u _ I7' r7 (step x H7 y7)) fun _ s8 ⟨σ8, H8, I8, hw8, q8⟩ => ?_
        refine thnF (p1.b.pt.run _ s8 σ8 H8 _ I8 q8) fun b s9 ⟨H9, I9, q9⟩ => ?_
        have fin : ∀ {s' : Shared} {H' : Hp}, Inv (X.blk s0 H0 scope cenv fp0) (pins ++ pinsAt fp s7.heap) (wipe σ c.vs) H' s' → Nx H' → ∃ m, m < n ∧ ∃ i H', Inv (X.blk s0 H0 scope cenv fp0) pins (wipe σ c.vs) H' s' ∧ tn i s'.heap ∧ (∀ b ∈ fp, H' b = none) ∧ W i m H' := fun {s' H'} I' nx => by
          obtain ⟨m', hm, w'⟩ := hNx H' nx
          have pin' : ∀ b ∈ fp, ∀ o, s7.heap.get? b = some o → s'.heap.get? b = some o ∧ H' b = none := fun b hb o e =>
            let z := I'.pin (b, o) (List.mem_append_right _ (List.mem_append_right _ (mem_pinsAt hb e)))
            ⟨z.1, z.2.1⟩
          refine ⟨m', hm, i + 1, H', I'.unpinned, T.keep _ _ _ st7 fun b hb o e => (pin' b hb o e).1, fun b hb => ?_, w'⟩
          obtain ⟨o, e, _⟩ := T.obj _ _ st7 b hb
          exact (pin' b hb o e).2
        cases b with
        | false =>
          simp only [Bool.false_eq_true, if_false] at q9 ⊢
          refine fin (I9.weak (by rw [← hw8, wipe_length]) fun j v e => ?_) q9
          rw [← hw8] at e
          exact (wipe_some e).1
        | true =>
          simp only [if_true] at q9 ⊢
          have ih := behind_ok hc hz hs he cs gs (j + 1) hd2 p2 hn2 _ s9 σ8 H9 c.vs Nx (notedBy (model X.prog X.w) X.A cenv fun e s' => False) I9 hn1 q9
          have imp : ∀ {Q Q' : Shared → Prop} {E E' : Value → Shared → Prop}, (∀ s, Q s → Q' s) → (∀ v s, E v s → E' v s) → ∀ {j : Nat} {s : Shared}, Behind X.prog X.w X.A elt gens scope pos (.ref D) cenv j E Q s → Behind X.prog X.w X.A elt gens scope pos (.ref D) cenv j E' Q' s := by
            intro Q Q' E E' hQ hE j s hb
            unfold Behind at hb ⊢
            split at hb
            · exact wpAny_mono hb (fun x s4 h4 => wpAny_mono h4 (fun it1 s5 h5 => codeAny_mono h5 fun r s' hr => by
                cases r with
                | ok f => exact hQ _ hr
                | error e => exact hr) fun v s e => hE v s e) fun v s e => hE v s e
            · exact wpAny_mono hb (fun x s4 h4 => wpAny_mono h4 (fun it1 s5 h5 => hQ _ h5) fun v s e => hE v s e) fun v s e => hE v s e
          refine imp (fun s' ⟨H', I', nx⟩ => ?_) (fun _ _ z => z) ih
          rw [hw8] at I'
          exact fin I' nx
    exact compStart_gen hj loop (T.self X.A 0 _ _ _ st2 loop)
end
end DL

end
section
set_option Elab.async false
set_option linter.all false
set_option maxRecDepth 100000
set_option maxHeartbeats 4000000
/-! own layer: the whole comprehension -/
namespace DL
open PySem PySem.Spec PyProof.Rows L2
section
variable {X : Cx}
/-- [elt for .. for ..] -/
def tLcN (te : TE) (c : ClR) (cs : List ClR) : TE := fun σ H Q => c.wi σ H fun J H1 => ∀ D, H1 D = none → tLoop c (tGo te D cs) σ J (upd H1 D (.lst [])) (fun H' => Q (.ref D) H')
/-- the facts of the clauses within the block -/
structure BlkCl (X : Cx) (elt : Expr) (gens : List Comprehension) (scope : Scope) (te : TE) (c : ClR) (cs : List ClR) : Prop where
  he : ∀ (s : Shared) (H : Hp) (C : Addr) (cl : List (Str × Addr)) (fp : List Addr), PE (X.blk s H scope (compEnvC scope cl C X.env) fp) elt te
  h1 : ∀ (s : Shared) (H : Hp) (C : Addr) (cl : List (Str × Addr)) (fp : List Addr), ∀ g gs, gens = g :: gs → ClB (X.blk s H scope (compEnvC scope cl C X.env) fp) g c ∧ Paired (ClI (X.blk s H scope (compEnvC scope cl C X.env) fp)) gs cs
theorem lcN_core {pins : List (Addr × Obj)} {s : Shared} {σ : L2.St} {H : Hp} {Q : VK} {elt tg iter : Expr} {ifs : List Expr} {gs : List Comprehension} {scope : Scope} {own : List (Str × Nat)} {pos pos' : Pos} {te : TE} {c : ClR} {cs : List ClR} {use : Option (Value → Sem Unit)} {Qf : Value → Shared → Prop}
    (hc : X.calm = true) (hN : X.N.Nodup) (I : Inv X pins σ H s) (hi : PI X tg iter c.wi) (ok : BlkOk X.N X.env.scope scope own) (hvs : c.vs = own.map (·.2)) (hn : Nest (c :: cs))
    (hz : ∀ g ∈ gs, g.is_async = 0) (hs : ∀ g ∈ (⟨tg, iter, ifs, 0⟩ : Comprehension) :: gs, ∀ env x, foldedSetIterable g.iter env x = pure x) (hB : BlkCl X elt (⟨tg, iter, ifs, 0⟩ :: gs) scope te c cs)
    (h : tLcN te c cs σ H Q)
    (hRR : ∀ D C s' m H', Inv X pins σ H' s' → Q (.ref D) H' → s'.heap.Ns C m → FpOk X pins H' C → compPost (model X.prog X.w) X.A X.xe use Qf (.ref D) C (.ok .next) s') :
    wpAny (model X.prog X.w) X.A (comprehension (.ListComp elt (⟨tg, iter, ifs, 0⟩ :: gs) scope pos) scope X.env pos' (newList []) false (eval iter X.env) use) Qf X.xe s := by
  have hfree : ∀ y ∈ scope.names, y.2 = .free → ∃ c, X.env.cells.lookup y.1 = some c := fun y hy e => by
    rcases ok.free y hy e with k | k
    · exact I.ok.has _ (.inl k)
    · exact I.ok.has _ (.inr k)
  have hz' : ∀ g ∈ (⟨tg, iter, ifs, 0⟩ : Comprehension) :: gs, g.is_async = 0 := fun g hg => by
    rcases List.mem_cons.mp hg with e | hg
    · rw [e]
    · exact hz g hg
  refine wpAny_comprehension_free (use := use) rfl (fun x => hs _ List.mem_cons_self _ x) (closure_ok hfree) ok.kind (fun y hy e => by rw [ok.uniq y hy, e])
    (thn (hi.run pins s σ H _ I h) fun xv s1 hx => thn hx fun itv s2 h2 => ?_)
  obtain ⟨it, fp, tn, J, H2, e, I2, T, st2, f2, q⟩ := h2
  subst e
  refine wpAny_newObj_type (newEnv_comp ?_) (by show 0 ≤ sizeLine; decide)
  generalize hD : s2.heap.objs.size = D
  have hDn : H2 D = none := I2.hok.fresh (Nat.le_of_eq hD)
  obtain ⟨W, ⟨m0, w0⟩, turn⟩ := q D hDn
  generalize hs3 : ({ s2 with heap := s2.heap.push { cls := .type "list", data := .seq ([] : List Value).toArray } } : Shared) = s3
  have I3 : Inv X pins σ (upd H2 D (.lst [])) s3 := by
    rw [← hs3]
    refine I2.laid (t' := s2.toks) (fun b o e => Heap.get?_push_of_some _ e) (Nat.le_of_eq hD) ⟨Nat.zero_le _, [], 0, .nil, ?_⟩
    rw [← hD]
    exact Heap.get?_push_size _ rfl
  have h3 : s3.heap = s2.heap.push { cls := .type "list", data := .seq ([] : List Value).toArray } := by rw [← hs3]
  have sz : ∀ b ∈ fp, b < s2.heap.objs.size := fun b hb => by
    obtain ⟨o, e, _⟩ := T.obj _ _ st2 b hb
    exact Heap.lt_size e
  have f3 : ∀ b ∈ fp, FpOk X pins (upd H2 D (.lst [])) b ∧ b < s3.heap.objs.size := fun b hb => by
    have hlt := sz b hb
    refine ⟨⟨?_, (f2 b hb).2⟩, by rw [h3, Heap.size_push]; exact Nat.lt_succ_of_lt hlt⟩
    rw [upd_ne (by rw [← hD]; exact Nat.ne_of_lt hlt)]
    exact (f2 b hb).1
  have st3 : tn 0 s3.heap := T.keep _ _ _ st2 fun b _ o e => by rw [h3]; exact Heap.get?_push_of_some _ e
  have I4 := block_start I3 ok hN f3
  rw [← hvs] at I4
  have pe := hB.he s3 (upd H2 D (.lst [])) s3.heap.objs.size (cellsFrom (s3.heap.objs.size + 1) scope.names (cloFrom X.env.cells scope.names [])) fp
  have pb := hB.h1 s3 (upd H2 D (.lst [])) s3.heap.objs.size (cellsFrom (s3.heap.objs.size + 1) scope.names (cloFrom X.env.cells scope.names [])) fp _ _ rfl
  show codeAny _ _ (.compStart (.ListComp elt (⟨tg, iter, ifs, 0⟩ :: gs) scope pos) 0 (.ref it) (.ref D) (compEnvC scope (cellsFrom (s3.heap.objs.size + 1) scope.names (cloFrom X.env.cells scope.names [])) s3.heap.objs.size X.env)) (compPost (model X.prog X.w) X.A X.xe use Qf (.ref D) s3.heap.objs.size) { s3 with heap := pushCells (s3.heap.push { cls := .type "dict", data := .dict #[] }) scope.names }
  have nfp : ∀ b ∈ fp, (upd H2 D (.lst [])) b = none := fun b hb => (f3 b hb).1.1
  generalize hce : compEnvC scope (cellsFrom (s3.heap.objs.size + 1) scope.names (cloFrom X.env.cells scope.names [])) s3.heap.objs.size X.env = ce at I4 pe pb ⊢
  have cL : ce.locals = s3.heap.objs.size := by subst hce; rfl
  generalize hH3 : upd H2 D (.lst []) = H3 at I3 I4 pe pb w0 nfp f3
  generalize hs4 : ({ s3 with heap := pushCells (s3.heap.push { cls := .type "dict", data := .dict #[] }) scope.names } : Shared) = s4 at I4 ⊢
  have st4 : tn 0 s4.heap := T.keep _ _ _ st3 fun b _ o e => by rw [← hs4]; exact pushCells_keeps _ _ _ _ (Heap.get?_push_of_some _ e)
  have stat : ∀ {σ' : L2.St} {H' : Hp} {s' : Shared}, Inv (X.blk s3 H3 scope ce fp) [] σ' H' s' → (∀ b ∈ fp, H' b = none) → ∀ b ∈ fp, FpOk (X.blk s3 H3 scope ce fp) [] H' b := fun {σ' H' s'} I' hn b hb =>
    ⟨hn b hb, (I'.ok.exf b hb).1, I'.ok.exfs b hb, .inl hb, fun x c e => (I'.ok.exf b hb).2 x c e, fun p hp => absurd (show p ∈ ([] : List (Addr × Obj)) ++ [] from hp) (by simp)⟩
  obtain ⟨pb1, pb2⟩ := pb
  obtain ⟨hn1, hn2⟩ := List.pairwise_cons.mp hn
  have loop : codeAny (model X.prog X.w) X.A (.compLoop (.ListComp elt (⟨tg, iter, ifs, 0⟩ :: gs) scope pos) 0 (.ref it) (.ref D) ce) (compPost (model X.prog X.w) X.A X.xe use Qf (.ref D) s3.heap.objs.size) s4 := by
    refine compLoop_gen hz' hs (i := 0) (t0 := tg) (i0 := iter) (ifs0 := ifs) (z0 := 0) rfl (fun n s' => ∃ i H', Inv (X.blk s3 H3 scope ce fp) [] (wipe σ c.vs) H' s' ∧ tn i s'.heap ∧ (∀ b ∈ fp, H' b = none) ∧ W i n H') ?_ m0 ⟨0, H3, I4, st4, nfp, w0⟩
    rintro n s5 ⟨i, H5, I5, st5, n5, w5⟩
    rcases turn i n H5 w5 with ⟨stop, qq⟩ | ⟨go, Nx, hNx, step⟩
    · refine thnF (T.done (X.blk s3 H3 scope ce fp) rfl rfl rfl hc i [] s5 _ H5 (fun _ _ => False) I5 (stat I5 n5) st5 stop) fun r s6 ⟨hr, I6⟩ => ?_
      subst hr
      have I7 : Inv X pins σ H5 s6 := I3.call' (ch := fp) I6.os I6.base I6.hok I6.bare fun b hb => ⟨(f3 b hb).1.2.2.2.1, (f3 b hb).1.2.1, (f3 b hb).1.2.2.2.2.1, (f3 b hb).1.2.2.2.2.2⟩
      have nC : H5 s3.heap.objs.size = none := by
        have z : H5 ce.locals = none := I6.free
        rw [cL] at z
        exact z
      obtain ⟨m, hns, _⟩ := I6.loc
      have hns : s6.heap.Ns ce.locals m := hns
      rw [cL] at hns
      exact hRR D s3.heap.objs.size s6 m H5 I7 qq hns (I3.fpOk (Nat.le_refl _) nC)
    · refine thnF (T.item (X.blk s3 H3 scope ce fp) rfl rfl rfl hc i [] s5 _ H5 (fun _ _ => False) I5 (stat I5 n5) st5 go) fun r s6 ⟨u, hr, h6⟩ => ?_
      subst hr
      refine thnF h6 fun _ s7 ⟨x, H7, I7, r7, y7, st7, n7⟩ => ?_
      have I7' := I7.pinned (stat I7 n7) (T.obj _ _ st7)
      refine thnF (pb1.pg.run _ s7 _ H7 x u _ I7' r7 (step x H7 y7)) fun _ s8 ⟨σ8, H8, I8, hw8, q8⟩ => ?_
      refine thnF (pb1.pt.run _ s8 σ8 H8 _ I8 q8) fun b s9 ⟨H9, I9, q9⟩ => ?_
      have fin : ∀ {s' : Shared} {H' : Hp}, Inv (X.blk s3 H3 scope ce fp) ([] ++ pinsAt fp s7.heap) (wipe σ c.vs) H' s' → Nx H' → ∃ m, m < n ∧ ∃ i H', Inv (X.blk s3 H3 scope ce fp) [] (wipe σ c.vs) H' s' ∧ tn i s'.heap ∧ (∀ b ∈ fp, H' b = none) ∧ W i m H' := fun {s' H'} I' nx => by
        obtain ⟨m', hm, w'⟩ := hNx H' nx
        have pin' : ∀ b ∈ fp, ∀ o, s7.heap.get? b = some o → s'.heap.get? b = some o ∧ H' b = none := fun b hb o e =>
          let z := I'.pin (b, o) (List.mem_append_right _ (List.mem_append_right _ (mem_pinsAt hb e)))
          ⟨z.1, z.2.1⟩
        refine ⟨m', hm, i + 1, H', I'.unpinned (pins := []), T.keep _ _ _ st7 fun b hb o e => (pin' b hb o e).1, fun b hb => ?_, w'⟩
        obtain ⟨o, e, _⟩ := T.obj _ _ st7 b hb
        exact (pin' b hb o e).2
      cases b with
      | false =>
        simp only [Bool.false_eq_true, if_false] at q9 ⊢
        refine fin (I9.weak (by rw [← hw8, wipe_length]) fun j v e => ?_) q9
        rw [← hw8] at e
        exact (wipe_some e).1
      | true =>
        simp only [if_true] at q9 ⊢
        have ih := behind_ok (gens := ⟨tg, iter, ifs, 0⟩ :: gs) (pos := pos) hc hz' hs pe cs gs 1 rfl pb2 hn2 _ s9 σ8 H9 c.vs Nx (notedBy (model X.prog X.w) X.A ce fun e s' => compPost (model X.prog X.w) X.A X.xe use Qf (.ref D) s3.heap.objs.size (.error e) s') I9 hn1 q9
        have imp : ∀ {Q Q' : Shared → Prop} {E : Value → Shared → Prop}, (∀ s, Q s → Q' s) → ∀ {j : Nat} {s : Shared}, Behind X.prog X.w X.A elt (⟨tg, iter, ifs, 0⟩ :: gs) scope pos (.ref D) ce j E Q s → Behind X.prog X.w X.A elt (⟨tg, iter, ifs, 0⟩ :: gs) scope pos (.ref D) ce j E Q' s := by
          intro Q Q' E hQ j s hb
          unfold Behind at hb ⊢
          split at hb
          · exact wpAny_mono hb (fun x s4 h4 => wpAny_mono h4 (fun it1 s5 h5 => codeAny_mono h5 fun r s' hr => by
              cases r with
              | ok f => exact hQ _ hr
              | error e => exact hr) fun v s e => e) fun v s e => e
          · exact wpAny_mono hb (fun x s4 h4 => wpAny_mono h4 (fun it1 s5 h5 => hQ _ h5) fun v s e => e) fun v s e => e
        refine imp (fun s' ⟨H', I', nx⟩ => ?_) ih
        rw [hw8] at I'
        exact fin I' nx
  exact codeAny_compStart_list loop (T.self X.A 0 _ _ _ st4 loop)
/-- as a value -/
theorem pe_lcN {elt tg iter : Expr} {ifs : List Expr} {gs : List Comprehension} {scope : Scope} {own : List (Str × Nat)} {pos : Pos} {te : TE} {c : ClR} {cs : List ClR} (hc : X.calm = true) (hN : X.N.Nodup) (hi : PI X tg iter c.wi) (ok : BlkOk X.N X.env.scope scope own) (hvs : c.vs = own.map (·.2)) (hn : Nest (c :: cs))
    (hz : ∀ g ∈ gs, g.is_async = 0) (hs : ∀ g ∈ (⟨tg, iter, ifs, 0⟩ : Comprehension) :: gs, ∀ env x, foldedSetIterable g.iter env x = pure x) (hB : BlkCl X elt (⟨tg, iter, ifs, 0⟩ :: gs) scope te c cs) :
    PE X (.ListComp elt (⟨tg, iter, ifs, 0⟩ :: gs) scope pos) (tLcN te c cs) := by
  refine ⟨fun pins s σ H Q I h => ?_⟩
  rw [eval_ListComp]
  refine lcN_core hc hN I hi ok hvs hn hz hs hB h fun D C s' m H' I' q hns f => ⟨m, hns, fun h'' sb => ?_⟩
  obtain ⟨f0, f1, f2, f3, f4, f5⟩ := f
  exact ⟨.ref D, H', I'.turned (t' := s'.toks) (fun b o hb e => (sb.2 b hb).trans e) f0 f1 f3 f4 f5, rfl, q⟩
/-- name = [..] on one line, the name a local -/
theorem ps_setLcN {i : Nat} {y : Str} {py : Pos} {elt tg iter : Expr} {ifs : List Expr} {gs : List Comprehension} {scope : Scope} {own : List (Str × Nat)} {pos spos : Pos} {te : TE} {c : ClR} {cs : List ClR} (hc : X.calm = true) (hN : X.N.Nodup) (hy : X.N[i]? = some y) (hyl : X.env.scope.names.lookup y = some .local)
    (hsw : swapsWith (.ListComp elt (⟨tg, iter, ifs, 0⟩ :: gs) scope pos) (some (.Name y py)) spos.line X.env = pure true) (hi : PI X tg iter c.wi) (ok : BlkOk X.N X.env.scope scope own) (hvs : c.vs = own.map (·.2)) (hn : Nest (c :: cs))
    (hz : ∀ g ∈ gs, g.is_async = 0) (hs : ∀ g ∈ (⟨tg, iter, ifs, 0⟩ : Comprehension) :: gs, ∀ env x, foldedSetIterable g.iter env x = pure x) (hB : BlkCl X elt (⟨tg, iter, ifs, 0⟩ :: gs) scope te c cs) :
    PS X (.Assign [.Name y py] (.ListComp elt (⟨tg, iter, ifs, 0⟩ :: gs) scope pos) spos) (tAsg (tLcN te c cs) (gName i)) := by
  refine ⟨fun pins s σ H D I h => ?_⟩
  rw [exec_Assign_Name_used _ _ _ _ hsw]
  refine wpAny_bind (wpAny_standAt (wpAny_bind ?_))
  show wpAny _ X.A (do let _ ← comprehension (.ListComp elt (⟨tg, iter, ifs, 0⟩ :: gs) scope pos) scope X.env (firstIterPos (⟨tg, iter, ifs, 0⟩ :: gs) pos) (newList []) false (eval iter X.env) (some (assign (.Name y py) X.env))) _ _ s
  have h : tLcN te c cs σ H (fun x H1 => gName i x σ H1 D.nx) := h
  refine wpAny_bind (thn (lcN_core (Qf := fun _ s' => SP X pins D .next s') hc hN I hi ok hvs hn hz hs hB h fun L C s' m H' I' q hns f => ?_) fun _ s' hq => wpAny_pure (wpAny_pure hq))
  show wpAny _ _ (assign (.Name y py) X.env (.ref L)) _ _ _
  refine wpAny_assign_Name (store_ok2 (v := V.ref L) I' hN hy (.inl hyl) rfl (fun s2 I2 ⟨a, sb, ha⟩ => ?_) (.inr hyl))
  obtain ⟨f0, f1, f2, f3, f4, f5⟩ := f
  have haC : C ≠ a := by
    rcases ha with z | z
    · rw [z]; exact f1
    · exact fun e => f4 y a z e.symm
  refine ⟨m, hns.sameBut sb haC, fun h3 sb3 => ?_⟩
  exact ⟨_, H', I2.turned (t' := s2.toks) (fun b o hb e => (sb3.2 b hb).trans e) f0 f1 f3 f4 f5, q⟩
end
end DL

end
section
set_option Elab.async false
set_option linter.all false
set_option maxRecDepth 100000
set_option maxHeartbeats 4000000
/-! own layer: whether an expression of the program is the one of the small syntax -/
namespace DL
open PySem PySem.Spec PyProof.Rows L2

/-! ### statements -/
inductive S where
  | nil | seq (s r : S)
  | set (i : Nat) (e : E) | own (i : Nat) (e : E) | box (i : Nat) (e : E)
  | bind (t : Tg) (e : E) | par (is : List (Nat × Bool)) (es : E)
  | free (i : Nat)
  | app (i : Nat) (e : E) | ext (i : Nat) (e : E) | put (i : Nat) (a e : E) | upd (i : Nat) (e : E)
  | urnS (j : Nat) (e : E) | aug (i : Nat) (o : O2) (e : E)
  | ifs (c : E) (a b : S) | fr (k : Src) (s : E) (t : Tg) (b : S) | whl (c : E) (b : S)
  | ret (e : E) | retO (i : Nat) | retN | brk | cont | raise
  deriving Inhabited
inductive Kd where
  | d | own | urn
  deriving DecidableEq, Inhabited
structure FnD where
  name : Str
  ps : List Str
  urn : Bool
  fresh : Bool
  N : List Str
  body : S
  deriving Inhabited
/-- what a check needs -/
structure CC where
  fns : List FnD
  free : List Str
  N : List Str
  sc : Scope
  bs : Option Scope
  urn : Bool := false
inductive Nd where
  | e (a : Expr) | t (a : Expr) | es (as : List Expr) | cs (gs : List Comprehension) (elt : Expr) (vs : List Nat)
def Nd.ex : Nd → Option Expr
  | .e a => some a
  | .t a => some a
  | _ => none
def Nd.isT : Nd → Bool
  | .t _ => true
  | _ => false
def Nd.of (t : Bool) (a : Expr) : Nd := if t then .t a else .e a
def nm (a b : Str) : Bool := decide (a = b)
def vis (sc : Scope) (x : Str) : Bool := match sc.names.lookup x with
  | some .local => true
  | some .cell => true
  | some .free => true
  | _ => false
def isGl (sc : Scope) (x : Str) : Bool := match sc.names.lookup x with
  | some .globalImplicit => true
  | _ => false
def odd (x : Str) : Bool := (x == ("__debug__" : Str)) || (x == ("__classdict__" : Str)) || (x == ("__name__" : Str))
def CC.isVar (c : CC) (i : Nat) (x : Str) : Bool := decide (c.N[i]? = some x) && vis c.sc x && !odd x
def CC.isB (c : CC) (x : Str) : Bool := isGl c.sc x && c.free.contains x && !odd x
def CC.canPut (c : CC) (i : Nat) (x : Str) : Bool := decide (c.N[i]? = some x) && (match c.sc.names.lookup x with
  | some .local => true
  | some .cell => (match c.bs with
    | none => true
    | some s => decide (s.names.lookup x = some .cell))
  | _ => false)
def notStar : Expr → Bool
  | .Starred _ _ => false
  | _ => true
def notSet : Expr → Bool
  | .Set _ _ _ => false
  | _ => true
def notSlice : Expr → Bool
  | .Slice _ _ _ _ => false
  | _ => true
def opOk (o : O2) : Expr → Expr → Expr → Bool := fun _ _ _ => true
def kdAt (κ : List Kd) (i : Nat) (k : Kd) : Bool := decide (κ[i]? = some k)
def urnOf (κ : List Kd) : Option Nat := κ.findIdx? fun k => decide (k = Kd.urn)
def chkT (c : CC) : Tg → List Expr → Bool
  | .nm i, [.Name x _] => c.canPut i x
  | .nil, [] => true
  | .cons a r, e :: es => !r.isNm && (if a.isNm then chkT c a [e] else match e with
    | .Tuple es' _ _ => chkT c a es'
    | _ => false) && chkT c r es
  | _, _ => false
def chkTop (c : CC) (t : Tg) (e : Expr) : Bool := if t.isNm then chkT c t [e] else match e with
  | .Tuple es _ _ => chkT c t es
  | _ => false
def isTup_ : Expr → Bool
  | .Tuple _ _ _ => true
  | _ => false
def Blt.nm : Blt → Str
  | .len => "len"
  | .sum => "sum"
  | .max => "max"
  | .min => "min"
  | .min2 => "min"
  | .all => "all"
  | .any => "any"
  | .abs => "abs"
  | .int => "int"
  | .tuple => "tuple"
  | .list => "list"
  | .dict => "dict"
  | .sorted => "sorted"
/-- a list or dict that is new -/
def frE (fns : List FnD) : E → Bool
  | .lst _ => true
  | .cl _ _ _ _ _ _ => true
  | .blt b _ => b.fr
  | .sset _ => true
  | .sitems _ => true
  | .dict0 => true
  | .op o _ _ => o.fr
  | .or x y => frE fns x && frE fns y
  | .ifx _ x y => frE fns x && frE fns y
  | .call f m _ => match fns[f]? with
    | some g => g.fresh && decide (m ≠ .bor)
    | none => false
  | _ => false
def tyNm (t : Ty) (a : Expr) (c : CC) : Bool := match a with
  | .Name x _ => decide (x = (Str.ofString t.nm)) && c.isB x
  | _ => false
def tyNms (c : CC) : List Ty → List Expr → Bool
  | [], [] => true
  | t :: ts, a :: as => tyNm t a c && tyNms c ts as
  | _, _ => false
def wipeK (κ : List Kd) : List Nat → List Kd
  | [] => κ
  | v :: vs => (wipeK κ vs).set v .d
def CC.blk (c : CC) (scope : Scope) : CC := { c with sc := relS scope c.sc, bs := some scope }
def ownOf (N : List Str) (vs : List Nat) : List (Str × Nat) := vs.map fun i => (N.getD i "", i)
def tailOp (op : BoolOp) (y : Expr) (rest : List Expr) (p : Pos) : Expr := if rest.isEmpty then y else .BoolOp op (y :: rest) p
def srcAst (k : Src) (s : E) (iter tg : Expr) (c : CC) : Option (Bool × Nd) := match k with
  | .seq => if notSet iter then some (true, .e iter) else none
  | .keys => if notSet iter then some (true, .e iter) else none
  | .rng1 => (match iter with
    | .Call (.Name x _) as [] _ => if nm x "range" && c.isB x && as.all notStar && as.length == 1 then some (false, .es as) else none
    | _ => none)
  | .rng2 => (match iter with
    | .Call (.Name x _) as [] _ => if nm x "range" && c.isB x && as.all notStar && as.length == 2 then some (false, .es as) else none
    | _ => none)
  | .rng3 => (match iter with
    | .Call (.Name x _) as [] _ => if nm x "range" && c.isB x && as.all notStar && as.length == 3 then some (false, .es as) else none
    | _ => none)
  | .zip => (match iter with
    | .Call (.Name x _) as [] _ => if nm x "zip" && c.isB x && as.all notStar && as.length == 2 && isTup_ tg then some (false, .es as) else none
    | _ => none)
  | .enum => (match iter with
    | .Call (.Name x _) as [] _ => if nm x "enumerate" && c.isB x && as.all notStar && as.length == 1 && isTup_ tg then some (false, .es as) else none
    | _ => none)
  | _ => none
/-- b: what is owned may be read -/
def chk : CC → List Kd → Bool → E → Nd → Bool
  | c, κ, b, .var i, nd => match nd.ex with
    | some (.Name x _) => c.isVar i x && kdAt κ i .d
    | _ => false
  | c, κ, b, .own i, nd => match nd.ex with
    | some (.Name x _) => b && c.isVar i x && kdAt κ i .own
    | _ => false
  | c, κ, b, .int n, nd => match nd.ex with
    | some (.Constant (.int m) _ _) => decide (n = m)
    | _ => false
  | c, κ, b, .bl n, nd => match nd.ex with
    | some (.Constant (.bool m) _ _) => decide (n = m)
    | _ => false
  | c, κ, b, .non, nd => match nd.ex with
    | some (.Constant .none _ _) => true
    | _ => false
  | c, κ, b, .str x, nd => match nd.ex with
    | some (.Constant (.str y) _ _) => decide (x = y)
    | _ => false
  | c, κ, b, .op o x y, nd => match nd.ex with
    | some (.BinOp l op r _) => decide (o.bin = some op) && chk c κ true x (.e l) && chk c κ true y (.e r)
    | some (.Compare l [op] [r] _) => decide (o.cmp = some op) && notSet r && chk c κ true x (.e l) && chk c κ true y (.e r)
    | _ => false
  | c, κ, b, .chain o p x y z, nd => match nd.ex with
    | some (.Compare l [op, op2] [r, q] _) => decide (o.cmp = some op) && decide (p.cmp = some op2) && notSet r && notSet q && chk c κ true x (.e l) && chk c κ true y (.e r) && chk c κ true z (.e q)
    | _ => false
  | c, κ, b, .not x, nd => match nd.ex with
    | some (.UnaryOp .Not l _) => chk c κ true x (Nd.of nd.isT l)
    | _ => false
  | c, κ, b, .neg x, nd => match nd.ex with
    | some (.UnaryOp .USub l _) => chk c κ true x (.e l)
    | _ => false
  | c, κ, b, .and x y, nd => match nd.ex with
    | some (.BoolOp .And (l :: r :: rest) p) => chk c κ b x (Nd.of nd.isT l) && chk c κ b y (Nd.of nd.isT (tailOp .And r rest p))
    | _ => false
  | c, κ, b, .or x y, nd => match nd.ex with
    | some (.BoolOp .Or (l :: r :: rest) p) => chk c κ b x (Nd.of nd.isT l) && chk c κ b y (Nd.of nd.isT (tailOp .Or r rest p))
    | _ => false
  | c, κ, b, .ifx t x y, nd => match nd with
    | .e (.IfExp q l r _) => chk c κ true t (.t q) && chk c κ b x (.e l) && chk c κ b y (.e r)
    | _ => false
  | c, κ, b, .tup es, nd => match nd.ex with
    | some (.Tuple as _ _) => chk c κ false es (.es as)
    | _ => false
  | c, κ, b, .lst es, nd => match nd.ex with
    | some (.List as _) => chk c κ false es (.es as)
    | _ => false
  | c, κ, b, .nil, nd => match nd with
    | .es [] => true
    | _ => false
  | c, κ, b, .cons a r, nd => match nd with
    | .es (x :: xs) => notStar x && chk c κ b a (.e x) && chk c κ b r (.es xs)
    | _ => false
  | c, κ, b, .star a r, nd => match nd with
    | .es (.Starred x _ :: xs) => chk c κ true a (.e x) && chk c κ b r (.es xs)
    | _ => false
  | c, κ, b, .call f m es, nd => match nd.ex, c.fns[f]? with
    | some (.Call (.Name x _) as [] _), some g => decide (x = g.name) && isGl c.sc x && !odd x && as.all notStar && decide (as.length = g.ps.length) && (match m with
      | .pure => !g.urn && !as.isEmpty && chk c κ false es (.es as)
      | .bor => !g.urn && !as.isEmpty && chk c κ true es (.es as)
      | .urn => g.urn && (match as, urnOf κ with
        | .Name y _ :: as, some i => c.isVar i y && chk c κ false es (.es as)
        | _, _ => false))
    | _, _ => false
  | c, κ, b, .blt bt es, nd => match nd.ex with
    | some (.Call (.Name x _) as [] _) => decide (x = bt.nm) && c.isB x && as.all notStar && !as.isEmpty && chk c κ true es (.es as)
    | _ => false
  | c, κ, b, .isi ts x, nd => match nd.ex with
    | some (.Call (.Name f _) [l, t] [] _) => nm f "isinstance" && c.isB f && notStar l && chk c κ true x (.e l) && (match ts, t with
      | [t1], .Name y p => tyNm t1 (.Name y p) c
      | ts, .Tuple as _ _ => tyNms c ts as && decide (ts.length ≤ 9)
      | _, _ => false)
    | _ => false
  | c, κ, b, .sset x, nd => match nd.ex with
    | some (.Call (.Name f _) [.Call (.Name g _) [l] [] _] [] _) => nm f "sorted" && c.isB f && nm g "set" && c.isB g && notStar l && chk c κ true x (.e l)
    | _ => false
  | c, κ, b, .sitems x, nd => match nd.ex with
    | some (.Call (.Name f _) [.Call (.Attribute (.Name y yp) m ap) [] [] cp] [] _) => nm f "sorted" && c.isB f && nm m "items" && (ap.endLine == cp.line) && chk c κ true x (.e (.Name y yp))
    | _ => false
  | c, κ, b, .ix x y, nd => match nd.ex with
    | some (.Subscript l r _) => notSlice r && chk c κ true x (.e l) && chk c κ true y (.e r)
    | _ => false
  | c, κ, b, .sl x lo hi, nd => match nd.ex with
    | some (.Subscript l (.Slice p q none _) _) => chk c κ true x (.e l) && (match p with
      | none => lo.isNo
      | some p => chk c κ true lo (.e p)) && (match q with
      | none => hi.isNo
      | some q => chk c κ true hi (.e q))
    | _ => false
  | c, κ, b, .no, nd => false
  | c, κ, b, .rev x, nd => match nd.ex with
    | some (.Subscript l (.Slice none none (some (.UnaryOp .USub (.Constant (.int 1) _ _) _)) _) _) => chk c κ true x (.e l)
    | _ => false
  | c, κ, b, .urn j, nd => match nd.ex, urnOf κ with
    | some (.Subscript (.Name x _) (.Constant (.int m) _ _) _), some i => c.isVar i x && decide (m = (j : Int))
    | _, _ => false
  | c, κ, b, .dict0, nd => match nd.ex with
    | some (.Dict [] [] _) => true
    | _ => false
  | c, κ, b, .cl vs k s t ifs rest, nd => match nd with
    | .e (.ListComp elt (g :: gs) scope _) => decide (g.is_async = 0) && blkC c.N c.sc scope (ownOf c.N vs) && (match srcAst k s g.iter g.target c with
      | some (bb, n) => chk c κ bb s n
      | none => false) && notSet g.iter && chkTop (c.blk scope) t g.target && (match ifs, g.ifs with
      | .nil, [] => true
      | .cons a .nil, [x] => chk (c.blk scope) (wipeK κ vs) true a (.t x)
      | _, _ => false) && t.slots.all (fun i => vs.contains i && kdAt (wipeK κ vs) i .d) && chk (c.blk scope) (wipeK κ vs) false rest (.cs gs elt vs)
    | .cs (g :: gs) elt vs0 => decide (g.is_async = 0) && vs.all (fun i => vs0.contains i) && (match srcAst k s g.iter g.target c with
      | some (bb, n) => chk c κ bb s n
      | none => false) && notSet g.iter && chkTop c t g.target && (match ifs, g.ifs with
      | .nil, [] => true
      | .cons a .nil, [x] => chk c (wipeK κ vs) true a (.t x)
      | _, _ => false) && t.slots.all (fun i => vs.contains i && kdAt (wipeK κ vs) i .d) && chk c (wipeK κ vs) false rest (.cs gs elt vs)
    | _ => false
  | c, κ, b, .em e, nd => match nd with
    | .cs [] elt _ => chk c κ false e (.e elt)
    | _ => false
end DL

end
section
set_option Elab.async false
set_option linter.all false
set_option autoImplicit false
set_option maxRecDepth 100000
set_option maxHeartbeats 4000000
/-! own layer: the state that stands for an environment; readings -/
namespace DL
open PySem PySem.Spec PyProof.Rows L2

def Au (au : Option Addr) : Fb := fun p => au = some p
def UAt (au : Option Addr) (u : List Int) (H : Hp) : Prop := ∀ a, au = some a → H a = some (.lst (u.map V.int))
/-- the urn, and what else may change within a block -/
structure UB where
  a : Option Addr
  b : Fb
def Ub (ub : UB) : Fb := fun p => ub.a = some p ∨ ub.b p
def NF (F : Fb) (H : Hp) : Prop := ∀ p, F p → ∀ o u, H p ≠ some (.frz o u)
inductive RepU (w : World) (K : PySem.W.Frag) (U F : Fb) (H : Hp) (v : V) (d : D) : Prop
  | rep (h : Rep w K F H v d)
  | own (a : Addr) (e : v = .ref a) (n : ¬ U a) (h : OwnAt w K F H a d)
def RepM (b : Bool) (w : World) (K : PySem.W.Frag) (U F : Fb) (H : Hp) (v : V) (d : D) : Prop := match b with
  | true => RepU w K U F H v d
  | false => Rep w K F H v d
abbrev RepML (b : Bool) (w : World) (K : PySem.W.Frag) (U F : Fb) (H : Hp) : List V → List D → Prop := Paired (RepM b w K U F H)
section
variable {w : World} {K : PySem.W.Frag} {U F F' : Fb} {H H' : Hp} {v : V} {d : D} {b : Bool}
theorem RepU.toB (h : RepU w K U F H v d) : RepB w K F H v d := by
  cases h with
  | rep h => exact .rep h
  | own a e n h => exact .own a e h
theorem OwnAt.there {a : Addr} (h : OwnAt w K F H a d) : ∃ o, H a = some o ∧ ∀ x u, o ≠ .frz x u := by
  rcases h with ⟨xs, ds, _, h, _⟩ | ⟨es, ep, kvs, _, h, _⟩
  · exact ⟨_, h, fun _ _ z => nomatch z⟩
  · exact ⟨_, h, fun _ _ z => nomatch z⟩
theorem OwnAt.stay {a : Addr} (e : Ext U H H') (hU : ∀ p, U p → F p) (n : ¬ U a) (h : OwnAt w K F H a d) : OwnAt w K F H' a d := by
  obtain ⟨o, ho, _⟩ := h.there
  exact h.ext (e.mono hU) (fun _ z => z) ((e a o ho n).trans ho.symm)
theorem RepU.ext {W : Fb} (e : Ext W H H') (hU : ∀ p, W p → F p) (hs : ∀ p, W p → U p) (h : RepU w K U F H v d) : RepU w K U F H' v d := by
  cases h with
  | rep h => exact .rep (Rep.ext (e.mono hU) (fun _ z => z) _ _ h)
  | own a ea n h => exact .own a ea n (h.stay e hU fun z => n (hs a z))
theorem RepM.extW {W : Fb} (e : Ext W H H') (hU : ∀ p, W p → F p) (hs : ∀ p, W p → U p) (h : RepM b w K U F H v d) : RepM b w K U F H' v d := by
  cases b with
  | true => exact RepU.ext e hU hs h
  | false => exact Rep.ext (e.mono hU) (fun _ z => z) _ _ h
theorem RepM.ext {au : UB} (e : Ext (Au au.a) H H') (hU : ∀ p, Au au.a p → F p) (h : RepM b w K (Ub au) F H v d) : RepM b w K (Ub au) F H' v d := RepM.extW e hU (fun _ z => .inl z) h
theorem RepM.toB (h : RepM b w K U F H v d) : RepB w K F H v d := by
  cases b with
  | true => exact RepU.toB h
  | false => exact .rep h
theorem RepM.of (h : Rep w K F H v d) : RepM b w K U F H v d := by
  cases b with
  | true => exact .rep h
  | false => exact h
theorem RepM.u (h : RepM b w K U F H v d) : RepU w K U F H v d := by
  cases b with
  | true => exact h
  | false => exact .rep h
theorem RepML.toB : ∀ {vs : List V} {ds : List D}, RepML b w K U F H vs ds → RepBL w K F H vs ds
  | _, _, .nil => .nil
  | _, _, .cons a t => .cons (RepM.toB a) (RepML.toB t)
theorem RepML.l : ∀ {vs : List V} {ds : List D}, RepML false w K U F H vs ds → RepL w K F H vs ds
  | _, _, .nil => .nil
  | _, _, .cons a t => .cons a (RepML.l t)
theorem RepML.ofL : ∀ {vs : List V} {ds : List D}, RepL w K F H vs ds → RepML b w K U F H vs ds
  | _, _, .nil => .nil
  | _, _, .cons a t => .cons (RepM.of a) (RepML.ofL t)
theorem RepML.append : ∀ {vs ws : List V} {ds es : List D}, RepML b w K U F H vs ds → RepML b w K U F H ws es → RepML b w K U F H (vs ++ ws) (ds ++ es)
  | _, _, _, _, .nil, s => s
  | _, _, _, _, .cons a t, s => .cons a (RepML.append t s)
theorem RepML.ext {au : UB} (e : Ext (Au au.a) H H') (hU : ∀ p, Au au.a p → F p) : ∀ {vs : List V} {ds : List D}, RepML b w K (Ub au) F H vs ds → RepML b w K (Ub au) F H' vs ds
  | _, _, .nil => .nil
  | _, _, .cons a t => .cons (RepM.ext e hU a) (RepML.ext e hU t)
end

/-- what stands for an environment -/
structure Sim (w : World) (K : PySem.W.Frag) (κ : List Kd) (A : Fb) (H0 : Hp) (F : Fb) (au : UB) (ρ : Env) (u : List Int) (σ : L2.St) (H : Hp) : Prop where
  len : σ.length = ρ.length
  fok : FOk F H
  nf : NF F H
  ext : Ext A H0 H
  urn : ∀ a, au.a = some a → F a ∧ (A a ∨ H0 a = none)
  blk : ∀ p, au.b p → F p
  uat : UAt au.a u H
  d : ∀ (i : Nat) x, κ[i]? = some .d → ρ[i]? = some (some x) → ∃ v, σ[i]? = some (some v) ∧ Rep w K F H v x
  own : ∀ (i : Nat) x, κ[i]? = some .own → ρ[i]? = some (some x) → ∃ a, σ[i]? = some (some (.ref a)) ∧ F a ∧ ¬ A a ∧ H0 a = none ∧ ¬ Ub au a ∧ OwnAt w K F H a x
  dist : ∀ (i j : Nat) (a : Addr), i ≠ j → κ[i]? = some .own → κ[j]? = some .own → (ρ[i]?.bind id).isSome → (ρ[j]?.bind id).isSome → σ[i]? = some (some (.ref a)) → σ[j]? ≠ some (some (.ref a))
  ur : ∀ (i : Nat), κ[i]? = some .urn → ∃ a, au.a = some a ∧ σ[i]? = some (some (.ref a))
section
variable {w : World} {K : PySem.W.Frag} {κ : List Kd} {A : Fb} {H0 : Hp} {F : Fb} {au : UB} {ρ : Env} {u u' : List Int} {σ : L2.St} {H H' : Hp}
theorem Sim.auF (S : Sim w K κ A H0 F au ρ u σ H) : ∀ p, Au au.a p → F p := fun p h => (S.urn p h).1
/-- an expression was evaluated -/
theorem Sim.step (S : Sim w K κ A H0 F au ρ u σ H) (e : Ext (Au au.a) H H') (hu : UAt au.a u' H') : Sim w K κ A H0 F au ρ u' σ H' where
  len := S.len
  fok := S.fok.ext e fun p hp _ n => by rw [hu p hp] at n; cases n
  nf := fun p hp o x z => by
    by_cases h : au.a = some p
    · rw [hu p h] at z; cases z
    · cases q : H p with
      | none => exact S.fok p hp q
      | some y =>
        rw [e p y q h] at z
        cases z
        exact S.nf p hp o x q
  ext := fun p o h n => by
    have h1 := S.ext p o h n
    by_cases q : au.a = some p
    · rcases (S.urn p q).2 with z | z
      · exact absurd z n
      · rw [h] at z; cases z
    · exact e p o h1 q
  urn := S.urn
  blk := S.blk
  uat := hu
  d := fun i x k r => by
    obtain ⟨v, h1, h2⟩ := S.d i x k r
    exact ⟨v, h1, Rep.ext (e.mono S.auF) (fun _ z => z) _ _ h2⟩
  own := fun i x k r => by
    obtain ⟨a, h1, h2, h3, h4, h5, h6⟩ := S.own i x k r
    exact ⟨a, h1, h2, h3, h4, h5, h6.stay e S.auF fun z => h5 (.inl z)⟩
  dist := S.dist
  ur := S.ur
end

/-! ### readings -/
section
variable (w : World) (K : PySem.W.Frag) (fns : List FnD) (fe : Nat → List D → M D) (A : Fb) (H0 : Hp) (κ : List Kd)
def tD (b : Bool) (e : E) : TE := fun σ H Q => ∃ F au ρ u d u', Sim w K κ A H0 F au ρ u σ H ∧ ev fe e ρ u = some (d, u') ∧ ∀ v H', Ext (Au au.a) H H' → UAt au.a u' H' → RepM b w K (Ub au) F H' v d → (frE fns e = true → Fresh w K F H d v H') → Q v H'
def tT (e : E) : TT := fun σ H Q => ∃ F au ρ u k u', Sim w K κ A H0 F au ρ u σ H ∧ bd (ev fe e ρ) truM u = some (k, u') ∧ ∀ H', Ext (Au au.a) H H' → UAt au.a u' H' → Q k H'
def tA (b : Bool) (e : E) : TA := fun σ H Q => ∃ F au ρ u ds u', Sim w K κ A H0 F au ρ u σ H ∧ ev fe e ρ u = some (.list ds, u') ∧ ∀ vs H', Ext (Au au.a) H H' → UAt au.a u' H' → RepML b w K (Ub au) F H' vs ds → Q vs H'
end
/-- what a def promises -/
def spE (w : World) (K : PySem.W.Frag) (f : List D → M D) (urn fresh : Bool) (np : Nat) : Sp := fun vs H Q _ => vs.length = np ∧ ∃ F au vs' ds u d u', FOk F H ∧ NF F H ∧ UAt au u H ∧
  (if urn = true then ∃ a, au = some a ∧ F a ∧ vs = .ref a :: vs' else au = none ∧ vs = vs') ∧ RepL w K F H vs' ds ∧ f ds u = some (d, u') ∧
  ∀ v H', Ext (Au au) H H' → UAt au u' H' → Rep w K F H' v d → (fresh = true → Fresh w K F H d v H') → Q v H'
/-- the context is the one of the check -/
structure Fits (X : Cx) (c : CC) (fe : Nat → List D → M D) (k : Nat) : Prop where
  hN : X.N = c.N
  nd : X.N.Nodup
  sc : X.env.scope = c.sc
  bs : ∀ x, X.fn x = (match c.bs with
    | none => true
    | some s => decide (s.names.lookup x = some .cell))
  calm : X.calm = true
  room : Room k X.A
  free : ∀ x, c.free.contains x = true → X.mg x = none
  fns : ∀ (f : Nat) (g : FnD), c.fns[f]? = some g → (∃ a fd, X.mg g.name = some (.ref a) ∧ PySem.W.keepIn X.K (.ref a) = true ∧ Binds X.K fd g.ps [] ∧ FnOk X.prog X.w X.K X.mg X.base CX0 k a fd g.ps (spE X.w X.K (fe f) g.urn g.fresh g.ps.length)) ∧
    (g.urn = false → ∀ ds u r, fe f ds u = some r → r.2 = u) ∧ ∀ ds u r, fe f ds u = some r → ds.length + (if g.urn = true then 1 else 0) = g.ps.length
theorem PE.imp {X : Cx} {e : Expr} {t t' : TE} (h : PE X e t) (i : ∀ σ H Q, t' σ H Q → t σ H Q) : PE X e t' := ⟨fun pins s σ H Q I q => h.run pins s σ H Q I (i σ H Q q)⟩
theorem PT.imp {X : Cx} {e : Expr} {t t' : TT} (h : PT X e t) (i : ∀ σ H Q, t' σ H Q → t σ H Q) : PT X e t' := ⟨fun pins s σ H Q I q => h.run pins s σ H Q I (i σ H Q q)⟩
theorem PA.imp {X : Cx} {e : List Expr} {t t' : TA} (h : PA X e t) (i : ∀ σ H Q, t' σ H Q → t σ H Q) : PA X e t' := ⟨fun pos pins s σ H Q I q => h.run pos pins s σ H Q I (i σ H Q q)⟩
section
variable {X : Cx} {c : CC} {fe : Nat → List D → M D} {k : Nat}
theorem Fits.hu (f : Fits X c fe k) : X.A.units + 100 < cLine := by have := f.room.un; omega
theorem Fits.blk (f : Fits X c fe k) (s : Shared) (H : Hp) (scope : Scope) (C : Addr) (cl : List (Str × Addr)) (fp : List Addr) : Fits (X.blk s H scope (compEnvC scope cl C X.env) fp) (c.blk scope) fe k where
  hN := f.hN
  nd := f.nd
  sc := by
    show relS scope X.env.scope = relS scope c.sc
    rw [f.sc]
  bs := fun x => by
    show (scope.names.lookup x == some NameKind.cell) = decide (scope.names.lookup x = some .cell)
    by_cases h : scope.names.lookup x = some NameKind.cell
    · rw [h]; rfl
    · rw [decide_eq_false h]; exact beq_eq_false_iff_ne.mpr h
  calm := f.calm
  room := f.room
  free := f.free
  fns := f.fns
theorem odd_inv {x : Str} (h : (!odd x) = true) : (x == ("__debug__" : Str)) = false ∧ (x == ("__classdict__" : Str)) = false ∧ x ≠ "__name__" := by
  unfold odd at h
  simp only [Bool.not_eq_true', Bool.or_eq_false_iff] at h
  exact ⟨h.1.1, h.1.2, fun e => by have z := h.2; rw [e] at z; simp at z⟩
theorem vis_inv {sc : Scope} {x : Str} (h : vis sc x = true) : Vis sc x := by
  unfold vis at h
  split at h
  · exact .inl (by assumption)
  · exact .inr (.inl (by assumption))
  · exact .inr (.inr (by assumption))
  · cases h
theorem Fits.var (f : Fits X c fe k) {i : Nat} {x : Str} (h : c.isVar i x = true) {pos : Pos} : PE X (.Name x pos) (tVar i) := by
  unfold CC.isVar at h
  rw [Bool.and_eq_true, Bool.and_eq_true, decide_eq_true_eq] at h
  obtain ⟨⟨h1, h2⟩, h3⟩ := h
  obtain ⟨z1, z2, _⟩ := odd_inv h3
  exact pe_var (by rw [f.hN]; exact h1) (by rw [f.sc]; exact vis_inv h2) z1 z2
theorem isGl_inv (f : Fits X c fe k) {x : Str} (h : isGl c.sc x = true) : Gl X x := by
  unfold isGl at h
  split at h
  · show X.env.scope.names.lookup x = some .globalImplicit
    rw [f.sc]
    assumption
  · cases h
theorem Fits.blt (f : Fits X c fe k) {x : Str} (h : c.isB x = true) : Gl X x ∧ X.mg x = none ∧ x ≠ "__name__" ∧ (x == ("__debug__" : Str)) = false := by
  unfold CC.isB at h
  rw [Bool.and_eq_true, Bool.and_eq_true] at h
  obtain ⟨⟨h1, h2⟩, h3⟩ := h
  obtain ⟨z1, z2, z3⟩ := odd_inv h3
  exact ⟨isGl_inv f h1, f.free x h2, z3, z1⟩
end
end DL

end
section
set_option Elab.async false
set_option linter.all false
set_option autoImplicit false
set_option maxRecDepth 100000
set_option maxHeartbeats 4000000
/-! own layer: each kind of expression keeps what it computes -/
namespace DL
open PySem PySem.Spec PyProof.Rows L2

section
variable {w : World} {K : PySem.W.Frag} {κ : List Kd} {A : Fb} {H0 : Hp} {F : Fb} {au : UB} {ρ : Env} {u u' : List Int} {σ : L2.St} {H H1 : Hp} {d : D} {Q : VK} {fr b : Bool}
theorem UAt.e0 {au : Option Addr} {H2 : Hp} (h : UAt au u H1) (e : Ext E0 H1 H2) : UAt au u H2 := fun a ha => e a _ (h a ha) fun z => z
theorem mkOut (e1 : Ext (Au au.a) H H1) (u1 : UAt au.a u' H1) (k : ∀ v H', Ext (Au au.a) H H' → UAt au.a u' H' → RepM b w K (Ub au) F H' v d → (fr = true → Fresh w K F H d v H') → Q v H') : Out w K fr F H1 d Q := fun v H' e r f =>
  k v H' (e1.trans e.e0) (u1.e0 e) (RepM.of r) fun z => by
    obtain ⟨p, hp, n, q⟩ := f z
    refine ⟨p, hp, ?_, q⟩
    cases hn : H p with
    | none => rfl
    | some o =>
      by_cases q2 : au.a = some p
      · rw [u1 p q2] at n; cases n
      · rw [e1 p o hn q2] at n; cases n
end
section
variable {X : Cx} {c : CC} {fe : Nat → List D → M D} {k : Nat} {A : Fb} {H0 : Hp} {κ : List Kd} {b : Bool}
abbrev RD (X : Cx) (c : CC) (fe : Nat → List D → M D) (A : Fb) (H0 : Hp) (κ : List Kd) (b : Bool) (e : E) : TE := tD X.w X.K c.fns fe A H0 κ b e
abbrev RT (X : Cx) (fe : Nat → List D → M D) (A : Fb) (H0 : Hp) (κ : List Kd) (e : E) : TT := tT X.w X.K fe A H0 κ e
abbrev RA (X : Cx) (fe : Nat → List D → M D) (A : Fb) (H0 : Hp) (κ : List Kd) (b : Bool) (e : E) : TA := tA X.w X.K fe A H0 κ b e

theorem slotD {ρ : Env} {i : Nat} {u : List Int} {r : D × List Int} (h : lf (ρ[i]?.bind id) u = some r) : ρ[i]? = some (some r.1) ∧ r.2 = u := by
  obtain ⟨h1, h2⟩ := lf_some h
  refine ⟨?_, h2⟩
  cases q : ρ[i]? with
  | none => rw [q] at h1; cases h1
  | some o => rw [q] at h1; rw [show o = some r.1 from h1]
theorem s_var (f : Fits X c fe k) {i : Nat} {x : Str} {pos : Pos} (h : c.isVar i x = true) (hk : kdAt κ i .d = true) : PE X (.Name x pos) (RD X c fe A H0 κ b (.var i)) :=
  PE.imp (f.var h) fun σ H Q ⟨F, au, ρ, u, d, u', S, e, q⟩ => by
    obtain ⟨h1, h2⟩ := slotD (r := (d, u')) e
    obtain ⟨v, h3, h4⟩ := S.d i d (of_decide_eq_true hk) h1
    exact ⟨v, h3, q v H .refl (by rw [show u' = u from h2]; exact S.uat) (RepM.of h4) (fun z => nomatch z)⟩
theorem s_own (f : Fits X c fe k) {i : Nat} {x : Str} {pos : Pos} (h : c.isVar i x = true) (hk : kdAt κ i .own = true) : PE X (.Name x pos) (RD X c fe A H0 κ true (.own i)) :=
  PE.imp (f.var h) fun σ H Q ⟨F, au, ρ, u, d, u', S, e, q⟩ => by
    obtain ⟨h1, h2⟩ := slotD (r := (d, u')) e
    obtain ⟨a, h3, h4, h5, h6, h7, h8⟩ := S.own i d (of_decide_eq_true hk) h1
    exact ⟨.ref a, h3, q _ H .refl (by rw [show u' = u from h2]; exact S.uat) (.own a rfl h7 h8) (fun z => nomatch z)⟩
theorem s_const {v : V} {d : D} {e : E} {a : Expr} (hp : PE X a (tC v)) (hev : ∀ ρ, ev fe e ρ = rt d) (hr : ∀ F H, Rep X.w X.K F H v d) (hf : frE c.fns e = false) : PE X a (RD X c fe A H0 κ b e) :=
  PE.imp hp fun σ H Q ⟨F, au, ρ, u, d', u', S, e', q⟩ => by
    rw [hev] at e'
    cases e'
    exact q v H .refl S.uat (RepM.of (hr _ _)) (fun z => by rw [hf] at z; cases z)

/-! ### operators -/
theorem ok_bin (hu : X.A.units + 100 < cLine) {o : O2} {op : Operator} (h : o.bin = some op) : OpR X (binaryOp op) (r2 X.w X.K o.fr (o2 o)) := by
  cases o <;> cases h
  · exact ok_add
  · exact ok_addL
  · exact ok_sub
  · exact ok_mul
  · exact ok_mod
  · exact ok_fdiv
  · exact ok_pow
theorem ok_cmp (hu : X.A.units + 100 < cLine) {o : O2} {op : CmpOp} (h : o.cmp = some op) : OpR X (compareOp op) (r2 X.w X.K o.fr (o2 o)) := by
  cases o <;> cases h
  · exact ok_eq (by omega)
  · exact ok_ne (by omega)
  · exact ok_lt (by omega)
  · exact ok_le
  · exact ok_gt
  · exact ok_ge
  · exact ok_is
  · exact ok_isnot
  · exact ok_inn hu
  · exact ok_notin hu
theorem r_op {x y : E} {o : O2} {σ : L2.St} {H : Hp} {Q : VK} (h : RD X c fe A H0 κ b (.op o x y) σ H Q) : tOp (r2 X.w X.K o.fr (o2 o)) (RD X c fe A H0 κ true x) (RD X c fe A H0 κ true y) σ H Q := by
  obtain ⟨F, au, ρ, u, d, u', S, e, q⟩ := h
  obtain ⟨dx, u1, e1, g1⟩ := bd_some e
  obtain ⟨dy, u2, e2, g2⟩ := bd_some g1
  obtain ⟨e3, e4⟩ := lf_some g2
  have e4 : u' = u2 := e4
  subst e4
  refine ⟨F, au, ρ, u, dx, u1, S, e1, fun v H1 x1 a1 r1 _ => ?_⟩
  have S1 := S.step x1 a1
  refine ⟨F, au, ρ, u1, dy, u', S1, e2, fun v2 H2 x2 a2 r2 _ => ?_⟩
  have S2 := S1.step x2 a2
  exact ⟨F, dx, dy, d, S2.fok, RepM.toB (RepM.ext x2 S.auF r1), RepM.toB r2, e3, mkOut (x1.trans x2) a2 q⟩
theorem nobeh {op : CmpOp} {r : Expr} (h : notSet r = true) : behindInMarks op r = false := by
  cases r <;> first | rfl | cases h
theorem s_bin (f : Fits X c fe k) {x y : E} {l r : Expr} {o : O2} {op : Operator} {pos : Pos} (ho : o.bin = some op) (h1 : PE X l (RD X c fe A H0 κ true x)) (h2 : PE X r (RD X c fe A H0 κ true y)) : PE X (.BinOp l op r pos) (RD X c fe A H0 κ b (.op o x y)) :=
  PE.imp (pe_op (ok_bin f.hu ho) h1 h2) fun σ H Q h => r_op h
theorem s_cmp (f : Fits X c fe k) {x y : E} {l r : Expr} {o : O2} {op : CmpOp} {pos : Pos} (ho : o.cmp = some op) (hn : notSet r = true) (h1 : PE X l (RD X c fe A H0 κ true x)) (h2 : PE X r (RD X c fe A H0 κ true y)) : PE X (.Compare l [op] [r] pos) (RD X c fe A H0 κ b (.op o x y)) :=
  PE.imp (pe_cmpR (ok_cmp f.hu ho) h1 h2 (nobeh hn)) fun σ H Q h => r_op h

/-! ### tests -/
theorem truM_some {d : D} {u : List Int} {r : Bool × List Int} (h : truM d u = some r) : truD d = some r.1 ∧ r.2 = u := lf_some h
def plainX : Expr → Bool
  | .UnaryOp .Not _ _ => false
  | .BoolOp _ _ _ => false
  | .IfExp _ _ _ _ => false
  | .Compare _ _ _ _ => false
  | _ => true
theorem plain_is {a : Expr} (h : plainX a = true) (env : PySem.Env) (whole : Sem Value) : isTrue a env whole = (do let v ← whole; standAt a.pos; holding [v] (truthy v)) := by
  cases a with
  | UnaryOp op x p => cases op <;> first | rfl | cases h
  | BoolOp => cases h
  | IfExp => cases h
  | Compare => cases h
  | _ => rfl
theorem s_truth {e : E} {a : Expr} (hp : plainX a = true) (h : PE X a (RD X c fe A H0 κ true e)) : PT X a (RT X fe A H0 κ e) :=
  PT.imp (pt_truth h fun whole => plain_is hp X.env whole) fun σ H Q ⟨F, au, ρ, u, k, u', S, e, q⟩ => by
    obtain ⟨d, u1, e1, e2⟩ := bd_some e
    obtain ⟨e3, e4⟩ := truM_some e2
    have e4 : u' = u1 := e4
    subst e4
    exact ⟨F, au, ρ, u, d, u', S, e1, fun v H1 x1 a1 r1 _ => ⟨k, tru_of (RepM.toB r1) e3, q H1 x1 a1⟩⟩
theorem rep_bool {w : World} {K : PySem.W.Frag} {F : Fb} {H : Hp} {v : V} {d : D} {k : Bool} (hb : ∃ j, v = V.bl j) (r : RepB w K F H v d) (e : truD d = some k) : v = .bl k := by
  obtain ⟨j, rfl⟩ := hb
  cases r with
  | rep h => cases h; cases e; rfl
  | own a e h => cases e
theorem s_cmpT (f : Fits X c fe k) {x y : E} {l r : Expr} {o : O2} {op : CmpOp} {pos : Pos} (ho : o.cmp = some op) (hn : notSet r = true) (h1 : PE X l (RD X c fe A H0 κ true x)) (h2 : PE X r (RD X c fe A H0 κ true y)) : PT X (.Compare l [op] [r] pos) (RT X fe A H0 κ (.op o x y)) :=
  PT.imp (pt_cmpR (ok_cmp f.hu ho) h1 h2 (nobeh hn)) fun σ H Q ⟨F, au, ρ, u, k, u', S, e, q⟩ => by
    obtain ⟨d, u1, e1, e2⟩ := bd_some e
    obtain ⟨e3, e4⟩ := truM_some e2
    have e4 : u' = u1 := e4
    subst e4
    refine r_op (c := c) (b := true) ⟨F, au, ρ, u, d, u', S, e1, fun v H1 x1 a1 r1 _ => ?_⟩
    have hb : ∃ j, d = .bool j := by
      obtain ⟨dx, u1, e1, g1⟩ := bd_some e1
      obtain ⟨dy, u2, e2, g2⟩ := bd_some g1
      obtain ⟨e5, _⟩ := lf_some g2
      have e5 : o2 o dx dy = some d := e5
      cases o <;> cases ho <;> simp only [o2] at e5
      · obtain ⟨_, rfl⟩ := ite_some (show (if _ then _ else _) = _ from e5); exact ⟨_, rfl⟩
      · obtain ⟨_, rfl⟩ := ite_some (show (if _ then _ else _) = _ from e5); exact ⟨_, rfl⟩
      · unfold ltD at e5
        split at e5
        · cases e5; exact ⟨_, rfl⟩
        · obtain ⟨_, rfl⟩ := ite_some e5; exact ⟨_, rfl⟩
        · cases e5
      · obtain ⟨_, _, _, _, _, rfl⟩ := intD_inv e5; exact ⟨_, rfl⟩
      · obtain ⟨_, _, _, _, _, rfl⟩ := intD_inv e5; exact ⟨_, rfl⟩
      · obtain ⟨_, _, _, _, _, rfl⟩ := intD_inv e5; exact ⟨_, rfl⟩
      · unfold isD at e5
        split at e5
        · cases e5; exact ⟨_, rfl⟩
        · cases e5
      · unfold isD at e5
        split at e5
        · cases e5; exact ⟨_, rfl⟩
        · cases e5
      · unfold inD at e5
        split at e5
        · obtain ⟨_, rfl⟩ := ite_some e5; exact ⟨_, rfl⟩
        · obtain ⟨_, rfl⟩ := ite_some e5; exact ⟨_, rfl⟩
        · obtain ⟨_, rfl⟩ := ite_some e5; exact ⟨_, rfl⟩
        · cases e5
      · unfold inD at e5
        split at e5
        · obtain ⟨_, rfl⟩ := ite_some e5; exact ⟨_, rfl⟩
        · obtain ⟨_, rfl⟩ := ite_some e5; exact ⟨_, rfl⟩
        · obtain ⟨_, rfl⟩ := ite_some e5; exact ⟨_, rfl⟩
        · cases e5
    obtain ⟨j, rfl⟩ := hb
    cases e3
    exact ⟨_, (RepM.toB r1).bool_inv, q H1 x1 a1⟩
theorem r_chain {x y z : E} {o p : O2} {σ : L2.St} {H : Hp} {Q : VK} (ho : o.fr = false) (hp : p.fr = false) (h : RD X c fe A H0 κ b (.chain o p x y z) σ H Q) : tChain (r2 X.w X.K o.fr (o2 o)) (r2 X.w X.K p.fr (o2 p)) (RD X c fe A H0 κ true x) (RD X c fe A H0 κ true y) (RD X c fe A H0 κ true z) σ H Q := by
  obtain ⟨F, au, ρ, u, d, u', S, e, q⟩ := h
  obtain ⟨dx, u1, e1, g1⟩ := bd_some e
  obtain ⟨dy, u2, e2, g2⟩ := bd_some g1
  obtain ⟨dz, u3, e3, g3⟩ := bd_some g2
  obtain ⟨e5, e6⟩ := lf_some e3
  have e6 : u3 = u2 := e6
  have e5 : o2 o dx dy = some dz := e5
  subst e6
  refine ⟨F, au, ρ, u, dx, u1, S, e1, fun v H1 x1 a1 r1 _ => ?_⟩
  have S1 := S.step x1 a1
  refine ⟨F, au, ρ, u1, dy, u3, S1, e2, fun v2 H2 x2 a2 r2 _ => ?_⟩
  have S2 := S1.step x2 a2
  refine ⟨F, dx, dy, dz, S2.fok, RepM.toB (RepM.ext x2 S.auF r1), RepM.toB r2, e5, fun v3 H3 x3 r3 _ => ?_⟩
  have a3 := a2.e0 x3
  have S3 := S2.step x3.e0 a3
  split at g3
  · refine ⟨true, (RepB.rep r3).bool_inv, ?_⟩
    rw [if_pos rfl]
    obtain ⟨dw, u4, e7, g4⟩ := bd_some g3
    obtain ⟨dv, u5, e8, g5⟩ := bd_some g4
    obtain ⟨e9, e10⟩ := lf_some e8
    have e10 : u5 = u4 := e10
    have e9 : o2 p dy dw = some dv := e9
    subst e10
    refine ⟨F, au, ρ, u3, dw, u5, S3, e7, fun v4 H4 x4 a4 r4 _ => ?_⟩
    have S4 := S3.step x4 a4
    refine ⟨F, dy, dw, dv, S4.fok, RepM.toB (RepM.ext x4 S.auF (RepM.ext x3.e0 S.auF r2)), RepM.toB r4, e9, ?_⟩
    rw [hp]
    split at g5
    · cases g5
      refine mkOut (H := H) ((x1.trans x2).trans (x3.e0.trans x4)) a4 fun v5 H5 x5 a5 r5 _ => q v5 H5 x5 a5 r5 (fun z => nomatch z)
    · cases g5
  · refine ⟨false, (RepB.rep r3).bool_inv, ?_⟩
    rw [if_neg Bool.false_ne_true]
    cases g3
    exact q _ _ ((x1.trans x2).trans x3.e0) a3 (RepM.of (.bl _)) (fun z => nomatch z)
  · cases g3
theorem cmp_fr {o : O2} {op : CmpOp} (h : o.cmp = some op) : o.fr = false := by cases o <;> first | rfl | cases h
theorem marks2 {op op2 : CmpOp} {r q : Expr} (h : notSet q = true) : lastMarks [op, op2] [r, q] = false := by
  show behindInMarks op2 q = false
  exact nobeh h
theorem s_chain (f : Fits X c fe k) {x y z : E} {l r s : Expr} {o p : O2} {op op2 : CmpOp} {pos : Pos} (ho : o.cmp = some op) (hp : p.cmp = some op2) (hn : notSet s = true) (h1 : PE X l (RD X c fe A H0 κ true x)) (h2 : PE X r (RD X c fe A H0 κ true y)) (h3 : PE X s (RD X c fe A H0 κ true z)) :
    PE X (.Compare l [op, op2] [r, s] pos) (RD X c fe A H0 κ b (.chain o p x y z)) :=
  PE.imp (pe_chain (ok_cmp f.hu ho) (ok_cmp f.hu hp) h1 h2 h3 (marks2 hn)) fun σ H Q h => r_chain (cmp_fr ho) (cmp_fr hp) h
theorem s_chainT (f : Fits X c fe k) {x y z : E} {l r s : Expr} {o p : O2} {op op2 : CmpOp} {pos : Pos} (ho : o.cmp = some op) (hp : p.cmp = some op2) (hn : notSet s = true) (h1 : PE X l (RD X c fe A H0 κ true x)) (h2 : PE X r (RD X c fe A H0 κ true y)) (h3 : PE X s (RD X c fe A H0 κ true z)) :
    PT X (.Compare l [op, op2] [r, s] pos) (RT X fe A H0 κ (.chain o p x y z)) :=
  PT.imp (pt_chain (ok_cmp f.hu ho) (ok_cmp f.hu hp) h1 h2 h3 (marks2 hn)) fun σ H Q ⟨F, au, ρ, u, k, u', S, e, q⟩ => by
    obtain ⟨d, u1, e1, e2⟩ := bd_some e
    obtain ⟨e3, e4⟩ := truM_some e2
    have e4 : u' = u1 := e4
    subst e4
    refine r_chain (c := c) (b := true) (cmp_fr ho) (cmp_fr hp) ⟨F, au, ρ, u, d, u', S, e1, fun v H1 x1 a1 r1 _ => ?_⟩
    have hb : ∃ j, d = .bool j := by
      obtain ⟨dx, v1, e1, g1⟩ := bd_some e1
      obtain ⟨dy, v2, e2, g2⟩ := bd_some g1
      obtain ⟨dz, v3, e5, g3⟩ := bd_some g2
      split at g3
      · obtain ⟨dw, v4, e7, g4⟩ := bd_some g3
        obtain ⟨dv, v5, e8, g5⟩ := bd_some g4
        split at g5
        · cases g5; exact ⟨_, rfl⟩
        · cases g5
      · cases g3; exact ⟨_, rfl⟩
      · cases g3
    obtain ⟨j, rfl⟩ := hb
    cases e3
    exact ⟨_, (RepM.toB r1).bool_inv, q H1 x1 a1⟩

/-! ### not, and, or, if -/
theorem s_not {x : E} {l : Expr} {pos : Pos} (h : PE X l (RD X c fe A H0 κ true x)) : PE X (.UnaryOp .Not l pos) (RD X c fe A H0 κ b (.not x)) :=
  PE.imp (pe_notT h) fun σ H Q ⟨F, au, ρ, u, d, u', S, e, q⟩ => by
    obtain ⟨dx, u1, e1, g1⟩ := bd_some e
    obtain ⟨t, u2, e2, g2⟩ := bd_some g1
    obtain ⟨e3, e4⟩ := truM_some e2
    have e4 : u2 = u1 := e4
    subst e4
    cases rt_some g2
    exact ⟨F, au, ρ, u, dx, _, S, e1, fun v H1 x1 a1 r1 _ => ⟨t, tru_of (RepM.toB r1) e3, q _ H1 x1 a1 (RepM.of (.bl _)) (fun z => nomatch z)⟩⟩
theorem s_notT {x : E} {l : Expr} {pos : Pos} (h : PT X l (RT X fe A H0 κ x)) : PT X (.UnaryOp .Not l pos) (RT X fe A H0 κ (.not x)) :=
  PT.imp (pt_not h) fun σ H Q ⟨F, au, ρ, u, k, u', S, e, q⟩ => by
    obtain ⟨d, u1, e1, e2⟩ := bd_some e
    obtain ⟨e3, e4⟩ := truM_some e2
    have e4 : u' = u1 := e4
    subst e4
    obtain ⟨dx, u2, e5, g1⟩ := bd_some e1
    obtain ⟨t, u3, e6, g2⟩ := bd_some g1
    cases rt_some g2
    cases e3
    exact ⟨F, au, ρ, u, t, _, S, by unfold bd; rw [e5]; exact e6, by cases t <;> exact q⟩
theorem s_neg {x : E} {l : Expr} {pos : Pos} (h : PE X l (RD X c fe A H0 κ true x)) : PE X (.UnaryOp .USub l pos) (RD X c fe A H0 κ b (.neg x)) :=
  PE.imp (pe_un un_neg h) fun σ H Q ⟨F, au, ρ, u, d, u', S, e, q⟩ => by
    obtain ⟨dx, u1, e1, g1⟩ := bd_some e
    split at g1
    · cases g1
      exact ⟨F, au, ρ, u, _, _, S, e1, fun v H1 x1 a1 r1 _ => ⟨_, (RepM.toB r1).int_inv, q _ H1 x1 a1 (RepM.of (.int _)) (fun z => nomatch z)⟩⟩
    · cases g1
theorem s_and {x y : E} {l r : Expr} {rest : List Expr} {pos : Pos} (h1 : PE X l (RD X c fe A H0 κ b x)) (h2 : PE X (.BoolOp .And (r :: rest) pos) (RD X c fe A H0 κ b y)) : PE X (.BoolOp .And (l :: r :: rest) pos) (RD X c fe A H0 κ b (.and x y)) :=
  PE.imp (pe_andT h1 h2) fun σ H Q ⟨F, au, ρ, u, d, u', S, e, q⟩ => by
    obtain ⟨dx, u1, e1, g1⟩ := bd_some e
    obtain ⟨t, u2, e2, g2⟩ := bd_some g1
    obtain ⟨e3, e4⟩ := truM_some e2
    have e4 : u2 = u1 := e4
    subst e4
    refine ⟨F, au, ρ, u, dx, u2, S, e1, fun v H1 x1 a1 r1 _ => ⟨t, tru_of (RepM.toB r1) e3, ?_⟩⟩
    cases t with
    | true =>
      rw [if_pos rfl] at g2 ⊢
      exact ⟨F, au, ρ, u2, d, u', S.step x1 a1, g2, fun v2 H2 x2 a2 r2 _ => q v2 H2 (x1.trans x2) a2 r2 (fun z => nomatch z)⟩
    | false =>
      rw [if_neg Bool.false_ne_true] at g2 ⊢
      cases g2
      exact q v H1 x1 a1 r1 (fun z => nomatch z)
theorem Fresh.back {w : World} {K : PySem.W.Frag} {F : Fb} {au : Option Addr} {u : List Int} {H H1 H2 : Hp} {d : D} {v : V} (e1 : Ext (Au au) H H1) (u1 : UAt au u H1) (f : Fresh w K F H1 d v H2) : Fresh w K F H d v H2 := by
  obtain ⟨p, hp, n, q⟩ := f
  refine ⟨p, hp, ?_, q⟩
  cases hn : H p with
  | none => rfl
  | some o =>
    by_cases q2 : au = some p
    · rw [u1 p q2] at n; cases n
    · rw [e1 p o hn q2] at n; cases n
theorem s_or {x y : E} {l r : Expr} {rest : List Expr} {pos : Pos} (h1 : PE X l (RD X c fe A H0 κ b x)) (h2 : PE X (.BoolOp .Or (r :: rest) pos) (RD X c fe A H0 κ b y)) : PE X (.BoolOp .Or (l :: r :: rest) pos) (RD X c fe A H0 κ b (.or x y)) :=
  PE.imp (pe_orT h1 h2) fun σ H Q ⟨F, au, ρ, u, d, u', S, e, q⟩ => by
    obtain ⟨dx, u1, e1, g1⟩ := bd_some e
    obtain ⟨t, u2, e2, g2⟩ := bd_some g1
    obtain ⟨e3, e4⟩ := truM_some e2
    have e4 : u2 = u1 := e4
    subst e4
    refine ⟨F, au, ρ, u, dx, u2, S, e1, fun v H1 x1 a1 r1 f1 => ⟨t, tru_of (RepM.toB r1) e3, ?_⟩⟩
    cases t with
    | true =>
      rw [if_pos rfl] at g2 ⊢
      cases g2
      exact q v H1 x1 a1 r1 (fun z => f1 (Bool.and_eq_true_iff.mp z).1)
    | false =>
      rw [if_neg Bool.false_ne_true] at g2 ⊢
      exact ⟨F, au, ρ, u2, d, u', S.step x1 a1, g2, fun v2 H2 x2 a2 r2 f2 => q v2 H2 (x1.trans x2) a2 r2 (fun z => (f2 (Bool.and_eq_true_iff.mp z).2).back x1 a1)⟩
theorem pw_bool {op : BoolOp} {es : List Expr} {pos : Pos} {t : TT} (h : PT X (.BoolOp op es pos) t) : PW X (.BoolOp op es pos) t := ⟨fun whole pins s σ H Q I q => h.run pins s σ H Q I q⟩
theorem s_andT {x y : E} {l r : Expr} {rest : List Expr} {pos : Pos} (h1 : PT X l (RT X fe A H0 κ x)) (h2 : PW X (.BoolOp .And (r :: rest) pos) (RT X fe A H0 κ y)) : PT X (.BoolOp .And (l :: r :: rest) pos) (RT X fe A H0 κ (.and x y)) :=
  PT.imp (pw_and h1 h2).pt fun σ H Q ⟨F, au, ρ, u, k, u', S, e, q⟩ => by
    obtain ⟨d, u1, e1, e2⟩ := bd_some e
    obtain ⟨dx, v1, e3, e4⟩ := bd_some e1
    obtain ⟨t, v2, e5, e6⟩ := bd_some e4
    refine ⟨F, au, ρ, u, t, v2, S, by unfold bd; rw [e3]; exact e5, fun H1 x1 a1 => ?_⟩
    cases t with
    | true =>
      rw [if_pos rfl] at e6 ⊢
      exact ⟨F, au, ρ, v2, k, u', S.step x1 a1, by unfold bd; rw [e6]; exact e2, fun H2 x2 a2 => q H2 (x1.trans x2) a2⟩
    | false =>
      rw [if_neg Bool.false_ne_true] at e6 ⊢
      cases e6
      obtain ⟨e7, e8⟩ := truM_some e2
      obtain ⟨e9, e10⟩ := truM_some e5
      dsimp only at e8
      subst e8
      have e11 := e9.symm.trans e7
      have e11 : some false = some k := e11
      cases e11
      exact q H1 x1 a1
theorem s_orT {x y : E} {l r : Expr} {rest : List Expr} {pos : Pos} (h1 : PT X l (RT X fe A H0 κ x)) (h2 : PW X (.BoolOp .Or (r :: rest) pos) (RT X fe A H0 κ y)) : PT X (.BoolOp .Or (l :: r :: rest) pos) (RT X fe A H0 κ (.or x y)) :=
  PT.imp (pw_or h1 h2).pt fun σ H Q ⟨F, au, ρ, u, k, u', S, e, q⟩ => by
    obtain ⟨d, u1, e1, e2⟩ := bd_some e
    obtain ⟨dx, v1, e3, e4⟩ := bd_some e1
    obtain ⟨t, v2, e5, e6⟩ := bd_some e4
    refine ⟨F, au, ρ, u, t, v2, S, by unfold bd; rw [e3]; exact e5, fun H1 x1 a1 => ?_⟩
    cases t with
    | true =>
      rw [if_pos rfl] at e6 ⊢
      cases e6
      obtain ⟨e7, e8⟩ := truM_some e2
      obtain ⟨e9, e10⟩ := truM_some e5
      dsimp only at e8
      subst e8
      have e11 := e9.symm.trans e7
      have e11 : some true = some k := e11
      cases e11
      exact q H1 x1 a1
    | false =>
      rw [if_neg Bool.false_ne_true] at e6 ⊢
      exact ⟨F, au, ρ, v2, k, u', S.step x1 a1, by unfold bd; rw [e6]; exact e2, fun H2 x2 a2 => q H2 (x1.trans x2) a2⟩
theorem s_ifx {t x y : E} {q l r : Expr} {pos : Pos} (h0 : PT X q (RT X fe A H0 κ t)) (h1 : PE X l (RD X c fe A H0 κ b x)) (h2 : PE X r (RD X c fe A H0 κ b y)) : PE X (.IfExp q l r pos) (RD X c fe A H0 κ b (.ifx t x y)) :=
  PE.imp (pe_ifExp h0 h1 h2) fun σ H Q ⟨F, au, ρ, u, d, u', S, e, q⟩ => by
    obtain ⟨dt, u1, e1, g1⟩ := bd_some e
    obtain ⟨t, u2, e2, g2⟩ := bd_some g1
    refine ⟨F, au, ρ, u, t, u2, S, by unfold bd; rw [e1]; exact e2, fun H1 x1 a1 => ?_⟩
    cases t with
    | true =>
      rw [if_pos rfl] at g2 ⊢
      exact ⟨F, au, ρ, u2, d, u', S.step x1 a1, g2, fun v2 H2 x2 a2 r2 f2 => q v2 H2 (x1.trans x2) a2 r2 (fun z => (f2 (Bool.and_eq_true_iff.mp z).1).back x1 a1)⟩
    | false =>
      rw [if_neg Bool.false_ne_true] at g2 ⊢
      exact ⟨F, au, ρ, u2, d, u', S.step x1 a1, g2, fun v2 H2 x2 a2 r2 f2 => q v2 H2 (x1.trans x2) a2 r2 (fun z => (f2 (Bool.and_eq_true_iff.mp z).2).back x1 a1)⟩
end
end DL

end
section
set_option Elab.async false
set_option linter.all false
set_option autoImplicit false
set_option maxRecDepth 100000
set_option maxHeartbeats 4000000
/-! own layer: displays, calls, subscripts -/
namespace DL
open PySem PySem.Spec PyProof.Rows L2
section
variable {X : Cx} {c : CC} {fe : Nat → List D → M D} {k : Nat} {A : Fb} {H0 : Hp} {κ : List Kd} {b : Bool}

/-! ### argument lists -/
theorem notStar_each {e : Expr} (h : notStar e = true) (es : List Expr) (env : PySem.Env) : starEach (e :: es) env = (false, eval e env) :: starEach es env := by
  cases e <;> first | rfl | cases h
theorem notStar_any {pos : Pos} {env : PySem.Env} : ∀ {es : List Expr}, es.all notStar = true → (backTo pos (starEach es env)).any (·.1) = false
  | [], _ => rfl
  | e :: es, h => by
    rw [List.all_cons, Bool.and_eq_true] at h
    rw [notStar_each h.1]
    show (false || (backTo pos (starEach es env)).any (·.1)) = false
    rw [notStar_any h.2]
    rfl
theorem unl_some {d : D} {u : List Int} {r : List D × List Int} (h : unl d u = some r) : d = .list r.1 ∧ r.2 = u := by
  unfold unl at h
  split at h
  · cases rt_some h; exact ⟨rfl, rfl⟩
  · cases h
theorem s_nil : PA X [] (RA X fe A H0 κ b .nil) :=
  PA.imp pa_nil fun σ H Q ⟨F, au, ρ, u, ds, u', S, e, q⟩ => by
    cases rt_some e
    exact q [] H .refl S.uat .nil
theorem s_cons {a r : E} {x : Expr} {xs : List Expr} (hn : notStar x = true) (h1 : PE X x (RD X c fe A H0 κ b a)) (h2 : PA X xs (RA X fe A H0 κ b r)) : PA X (x :: xs) (RA X fe A H0 κ b (.cons a r)) :=
  PA.imp (pa_cons h1 h2 (notStar_each hn xs X.env)) fun σ H Q ⟨F, au, ρ, u, ds, u', S, e, q⟩ => by
    obtain ⟨dx, u1, e1, g1⟩ := bd_some e
    obtain ⟨dy, u2, e2, g2⟩ := bd_some g1
    obtain ⟨dl, u3, e3, g3⟩ := bd_some g2
    obtain ⟨e4, e5⟩ := unl_some e3
    dsimp only at e4 e5
    subst e4 e5
    cases rt_some g3
    refine ⟨F, au, ρ, u, dx, u1, S, e1, fun v H1 x1 a1 r1 _ => ⟨F, au, ρ, u1, dl, _, S.step x1 a1, e2, fun vs H2 x2 a2 r2 => ?_⟩⟩
    exact q (v :: vs) H2 (x1.trans x2) a2 (.cons (RepM.ext x2 S.auF r1) r2)
/-- *x among the items of a display -/
def tStar (K : PySem.W.Frag) (te : TE) (tr : TA) : TA := fun σ H Q => te σ H fun x H1 => ∃ p ys, x = .ref p ∧ (H1 p = some (.lst ys) ∨ SqF H1 p ys) ∧ tr σ H1 fun xs H2 => Q (ys ++ xs) H2
theorem pa_star {x : Expr} {p : Pos} {xs : List Expr} {te : TE} {tr : TA} (h1 : PE X x te) (h2 : PA X xs tr) : PA X (.Starred x p :: xs) (tStar X.K te tr) := by
  refine ⟨fun pos pins s σ H Q I h => ?_⟩
  refine PySem.W.items_star (thn (h1.run pins s σ H _ I h) fun v s1 ⟨xv, H1, I1, r1, a, ys, e1, hp, q1⟩ => ?_)
  subst e1
  cases r1
  have hz : ys.length ≤ sizeLine := by
    rcases hp with hp | ⟨o, _, hp⟩
    · exact (I1.hok a _ hp).1
    · exact (I1.hok a _ hp).2.1
  obtain ⟨T, its, hT, rv, ps⟩ := plain_of I1 hp
  obtain ⟨o, n, ho, hcl, hdn, hd⟩ := ps
  have hTy : s1.TypeIs (.ref a) T := ⟨o, ho, hcl⟩
  have z : ∀ {s2 : Shared}, s2 = s1 → wpAny (model X.prog X.w) X.A (collect (.ref a)) (fun here s3 => wpAny (model X.prog X.w) X.A (spliced (backTo pos (starEach xs X.env))) (fun vs s4 => AP X pins σ Q (here ++ vs) s4) X.xe s3) X.xe s2 := fun {s2} e => by
    rw [e]
    refine wpAny_collect_seq a hT ho hcl hd (fun h' hk => ?_) (by rw [List.size_toArray, ← rv.length]; exact hz)
    have I2 : Inv X pins σ H1 { s1 with heap := h' } := I1.kept (t' := s1.toks) hk
    refine thn (h2.run pos pins _ σ H1 _ I2 q1) fun vs s4 ⟨xs', H2, I3, r3, q3⟩ => ?_
    exact ⟨ys ++ xs', H2, I3, (by simpa using rv.append r3), q3⟩
  unfold PySem.W.StarOf notIterableAtAll
  rcases hT with rfl | rfl
  · exact wpAny_bind (wpAny_specialOf hTy PySem.F.slot_list_iter.lookup (wpAny_pure ⟨rfl, z rfl⟩))
  · exact wpAny_bind (wpAny_specialOf hTy PySem.F.slot_tuple_iter.lookup (wpAny_pure ⟨rfl, z rfl⟩))
theorem seq_items {d : D} {ds : List D} (h : seqD d = some ds) : itemsD d = some ds := h
theorem s_star {a r : E} {x : Expr} {p : Pos} {xs : List Expr} (h1 : PE X x (RD X c fe A H0 κ true a)) (h2 : PA X xs (RA X fe A H0 κ b r)) : PA X (.Starred x p :: xs) (RA X fe A H0 κ b (.star a r)) :=
  PA.imp (pa_star h1 h2) fun σ H Q ⟨F, au, ρ, u, ds, u', S, e, q⟩ => by
    obtain ⟨dx, u1, e1, g1⟩ := bd_some e
    obtain ⟨dl, u2, e2, g2⟩ := bd_some g1
    obtain ⟨dy, u3, e3, g3⟩ := bd_some g2
    obtain ⟨dm, u4, e4, g4⟩ := bd_some g3
    obtain ⟨e5, e6⟩ := lf_some e2
    obtain ⟨e7, e8⟩ := unl_some e4
    dsimp only at e5 e6 e7 e8
    subst e6 e7 e8
    cases rt_some g4
    refine ⟨F, au, ρ, u, dx, u2, S, e1, fun v H1 x1 a1 r1 _ => ?_⟩
    obtain ⟨pp, ys, rfl, l, hp⟩ := (RepM.toB r1).items (seq_items e5)
    refine ⟨pp, ys, rfl, hp, F, au, ρ, u2, dm, _, S.step x1 a1, e3, fun vs H2 x2 a2 r2 => ?_⟩
    exact q (ys ++ vs) H2 (x1.trans x2) a2 (RepML.append (RepML.ofL (RepL.ext (x2.mono S.auF) (fun _ z => z) _ _ l)) r2)
theorem RepML.length {b : Bool} {w : World} {K : PySem.W.Frag} {U F : Fb} {H : Hp} {vs : List V} {ds : List D} (r : RepML b w K U F H vs ds) : vs.length = ds.length := Paired.length r

/-! ### displays -/
theorem s_tup {es : E} {as : List Expr} {n : Nat} {pos : Pos} (h : PA X as (RA X fe A H0 κ false es)) : PE X (.Tuple as n pos) (RD X c fe A H0 κ b (.tup es)) :=
  PE.imp (pe_tupF h) fun σ H Q ⟨F, au, ρ, u, d, u', S, e, q⟩ => by
    obtain ⟨dx, u1, e1, g1⟩ := bd_some e
    obtain ⟨ds, u2, e2, g2⟩ := bd_some g1
    obtain ⟨e3, e4⟩ := unl_some e2
    dsimp only at e3 e4
    subst e3 e4
    split at g2
    · rename_i hf
      cases rt_some g2
      refine ⟨F, au, ρ, u, ds, _, S, e1, fun vs H1 x1 a1 r1 => ⟨by rw [RepML.length r1]; exact fits_line hf, fun p o hn hd => ?_⟩⟩
      exact Out.tuple (mkOut x1 a1 fun v H' x a r _ => q v H' x a r (fun z => nomatch z)) (S.step x1 a1).fok r1.l p o hn hd
    · cases g2
theorem s_lst {es : E} {as : List Expr} {pos : Pos} (h : PA X as (RA X fe A H0 κ false es)) : PE X (.List as pos) (RD X c fe A H0 κ b (.lst es)) :=
  PE.imp (pe_lst h) fun σ H Q ⟨F, au, ρ, u, d, u', S, e, q⟩ => by
    obtain ⟨dx, u1, e1, g1⟩ := bd_some e
    obtain ⟨ds, u2, e2, g2⟩ := bd_some g1
    obtain ⟨e3, e4⟩ := unl_some e2
    dsimp only at e3 e4
    subst e3 e4
    split at g2
    · rename_i hf
      cases rt_some g2
      refine ⟨F, au, ρ, u, ds, _, S, e1, fun vs H1 x1 a1 r1 => ⟨by rw [RepML.length r1]; exact fits_line hf, fun p hn => ?_⟩⟩
      exact Out.list (mkOut (fr := true) x1 a1 fun v H' x a r f => q v H' x a r fun _ => f rfl) (S.step x1 a1).fok r1.l p hn
    · cases g2
def tDict0 : TE := fun _ H Q => ∀ p, H p = none → Q (.ref p) (upd H p (dictO p [] 0))
theorem pe_dict0 {pos : Pos} : PE X (.Dict [] [] pos) tDict0 := ⟨fun pins s σ H Q I h =>
  wpAny_Dict_empty ⟨.ref s.heap.objs.size, _, I.laid (a := s.heap.objs.size) (o := dictO s.heap.objs.size [] 0) (t' := s.toks) (fun _ _ q => Heap.get?_push_of_some _ q) (Nat.le_refl _) (by
    have e : (s.heap.push { cls := .type "dict", data := .dict #[] }).get? s.heap.objs.size = some { cls := .type "dict", data := .dict #[] } := Heap.get?_push_size _ rfl
    refine ⟨⟨beq_eq_false_iff_ne.mpr (Ne.symm (Nat.ne_of_lt I.big)), Nat.zero_le _, _, #[], e, ⟨rfl, rfl, rfl⟩, rfl, .nil⟩, ⟨_, e⟩, fun h1 h2 ⟨z1, z2, ob', ens', z3, z4⟩ k => ⟨z1, z2, ob', ens', k _ z3, z4⟩⟩), rfl, h _ (I.hok.fresh (Nat.le_refl _))⟩⟩
theorem s_dict0 {pos : Pos} : PE X (.Dict [] [] pos) (RD X c fe A H0 κ b .dict0) :=
  PE.imp pe_dict0 fun σ H Q ⟨F, au, ρ, u, d, u', S, e, q⟩ => by
    cases rt_some e
    intro p hn
    have x : Ext E0 H (upd H p (dictO p [] 0)) := Ext.new hn
    have f : Fresh X.w X.K F H (.dict []) (.ref p) (upd H p (dictO p [] 0)) := ⟨p, rfl, hn, .inr ⟨[], 0, [], rfl, upd_same, .nil, List.Pairwise.nil, rfl⟩⟩
    exact q _ _ x.e0 (S.uat.e0 x) (RepM.of (f.rep S.fok)) fun _ => f

/-! ### built-in calls -/
def Blt.isTy : Blt → Bool
  | .int => true
  | .tuple => true
  | .list => true
  | .dict => true
  | _ => false
def Blt.id : Blt → String
  | .len => "len"
  | .sum => "sum"
  | .max => "max"
  | .min => "min"
  | .min2 => "min"
  | .all => "all"
  | .any => "any"
  | .abs => "abs"
  | .int => "int"
  | .tuple => "tuple"
  | .list => "list"
  | .dict => "dict"
  | .sorted => "sorted"
def Blt.val (b : Blt) : Value := if b.isTy then .type b.id else .builtin b.id
theorem Blt.boot (b : Blt) : bootBuiltins b.nm = some b.val := by
  cases b <;> decide +kernel
theorem Blt.ok (hc : X.calm = true) (hu : X.A.units + 100 < cLine) (b : Blt) : CallR X b.val (rB X.w X.K b.fr b.fn) := by
  cases b with
  | len => exact cb_len
  | sum => exact cb_sum hc
  | max => exact cb_max hc
  | min => exact cb_min hc hu
  | min2 => exact cb_min2 hc
  | all => exact cb_all hc
  | any => exact cb_any hc
  | abs => exact cb_abs
  | int => exact cb_int
  | tuple => exact cb_tuple
  | list => exact cb_list
  | dict => exact cb_dict hc hu
  | sorted => exact cb_sorted hc hu
theorem nonempty {as : List Expr} (h : (!as.isEmpty) = true) : ∃ a r, as = a :: r := by
  cases as with
  | nil => cases h
  | cons a r => exact ⟨a, r, rfl⟩
theorem r_blt {bt : Blt} {es : E} {σ : L2.St} {H : Hp} {Q : VK} (h : RD X c fe A H0 κ b (.blt bt es) σ H Q) : tCB (rB X.w X.K bt.fr bt.fn) (RA X fe A H0 κ true es) σ H Q := by
  obtain ⟨F, au, ρ, u, d, u', S, e, q⟩ := h
  obtain ⟨dx, u1, e1, g1⟩ := bd_some e
  obtain ⟨ds, u2, e2, g2⟩ := bd_some g1
  obtain ⟨e3, e4⟩ := unl_some e2
  dsimp only at e3 e4
  subst e3 e4
  obtain ⟨e5, e6⟩ := lf_some g2
  dsimp only at e5 e6
  subst e6
  exact ⟨F, au, ρ, u, ds, _, S, e1, fun vs H1 x1 a1 r1 => ⟨F, ds, d, (S.step x1 a1).fok, RepML.toB r1, e5, mkOut x1 a1 q⟩⟩
theorem s_blt (f : Fits X c fe k) {bt : Blt} {es : E} {as : List Expr} {p pos : Pos} (hx : c.isB bt.nm = true) (hs : as.all notStar = true) (hne : (!as.isEmpty) = true) (h : PA X as (RA X fe A H0 κ true es)) : PE X (.Call (.Name bt.nm p) as [] pos) (RD X c fe A H0 κ b (.blt bt es)) := by
  obtain ⟨a, r, rfl⟩ := nonempty hne
  obtain ⟨hg, hm, hn, hd⟩ := f.blt hx
  rw [List.all_cons, Bool.and_eq_true] at hs
  have hv := bt.boot
  have ok := bt.ok f.calm f.hu
  unfold Blt.val at hv ok
  refine PE.imp (t := tCB (rB X.w X.K bt.fr bt.fn) (RA X fe A H0 κ true es)) ?_ fun σ H Q h => r_blt h
  by_cases ht : bt.isTy = true
  · rw [if_pos ht] at hv ok
    exact pe_callTy ok hg hm hv h hn hd (notStar_each hs.1 r X.env) (notStar_any hs.2)
  · rw [if_neg ht] at hv ok
    exact pe_callB ok hg hm hv h hn hd (notStar_each hs.1 r X.env) (notStar_any hs.2)

/-! ### isinstance -/
theorem boot_ty (t : Ty) : bootBuiltins (Str.ofString t.nm) = some (.type t.nm) := by cases t <;> decide +kernel
theorem boot_isi : bootBuiltins "isinstance" = some (.builtin "isinstance") := by decide +kernel
theorem tyNm_ok (f : Fits X c fe k) {t : Ty} {a : Expr} (h : tyNm t a c = true) : PE X a (tC (.ty t.nm)) ∧ notStar a = true := by
  unfold tyNm at h
  split at h
  · rw [Bool.and_eq_true, decide_eq_true_eq] at h
    obtain ⟨rfl, h2⟩ := h
    obtain ⟨hg, hm, hn, hd⟩ := f.blt h2
    exact ⟨pe_bltn hg hm (boot_ty t) rfl hn hd, rfl⟩
  · cases h
def tTys (ts : List Ty) : TA := fun _ H Q => Q (ts.map fun t => V.ty t.nm) H
theorem tyNms_ok (f : Fits X c fe k) : ∀ {ts : List Ty} {as : List Expr}, tyNms c ts as = true → PA X as (tTys ts)
  | [], [], _ => PA.imp pa_nil fun σ H Q h => h
  | t :: ts, a :: as, h => by
    unfold tyNms at h
    rw [Bool.and_eq_true] at h
    obtain ⟨h1, h2⟩ := tyNm_ok f h.1
    exact PA.imp (pa_cons h1 (tyNms_ok f h.2) (notStar_each h2 as X.env)) fun σ H Q h => h
  | [], _ :: _, h => by cases h
  | _ :: _, [], h => by cases h
theorem s_isi1 (f : Fits X c fe k) {t : Ty} {x : E} {l a : Expr} {p pos : Pos} (hx : c.isB "isinstance" = true) (hl : notStar l = true) (ht : tyNm t a c = true) (h : PE X l (RD X c fe A H0 κ true x)) : PE X (.Call (.Name "isinstance" p) [l, a] [] pos) (RD X c fe A H0 κ b (.isi [t] x)) := by
  obtain ⟨hg, hm, hn, hd⟩ := f.blt hx
  obtain ⟨h1, h2⟩ := tyNm_ok f ht
  have hA : PA X [l, a] (tCons (RD X c fe A H0 κ true x) (tCons (tC (.ty t.nm)) tNil)) := pa_cons h (pa_cons h1 pa_nil (notStar_each h2 [] X.env)) (notStar_each hl [a] X.env)
  refine PE.imp (pe_callB call_isi hg hm boot_isi hA hn hd (notStar_each hl [a] X.env) (notStar_any (by simp [h2]))) fun σ H Q ⟨F, au, ρ, u, d, u', S, e, q⟩ => ?_
  obtain ⟨dx, u1, e1, g1⟩ := bd_some e
  obtain ⟨e5, e6⟩ := lf_some g1
  dsimp only at e5 e6
  subst e6
  exact ⟨F, au, ρ, u, dx, _, S, e1, fun v H1 x1 a1 r1 _ => isi_one (RepM.toB r1) e5 (mkOut x1 a1 fun v H' x a r _ => q v H' x a r (fun z => nomatch z))⟩
theorem s_isiT (f : Fits X c fe k) {ts : List Ty} {x : E} {l : Expr} {as : List Expr} {n : Nat} {p pos p2 : Pos} (hx : c.isB "isinstance" = true) (hl : notStar l = true) (ht : tyNms c ts as = true) (hz : ts.length ≤ 9) (h : PE X l (RD X c fe A H0 κ true x)) : PE X (.Call (.Name "isinstance" p) [l, .Tuple as n p2] [] pos) (RD X c fe A H0 κ b (.isi ts x)) := by
  obtain ⟨hg, hm, hn, hd⟩ := f.blt hx
  have hA : PA X [l, .Tuple as n p2] (tCons (RD X c fe A H0 κ true x) (tCons (tTup (tTys ts)) tNil)) := pa_cons h (pa_cons (pe_tup (tyNms_ok f ht)) pa_nil (notStar_each rfl [] X.env)) (notStar_each hl _ X.env)
  refine PE.imp (pe_callB call_isiT hg hm boot_isi hA hn hd (notStar_each hl _ X.env) (notStar_any rfl)) fun σ H Q ⟨F, au, ρ, u, d, u', S, e, q⟩ => ?_
  obtain ⟨dx, u1, e1, g1⟩ := bd_some e
  obtain ⟨e5, e6⟩ := lf_some g1
  dsimp only at e5 e6
  subst e6
  refine ⟨F, au, ρ, u, dx, _, S, e1, fun v H1 x1 a1 r1 _ => ?_⟩
  have hlen : ts.length ≤ sizeLine := by rw [sizeLine_eq]; omega
  refine ⟨by rw [List.length_map]; exact hlen, fun p hp => ?_⟩
  have x2 : Ext E0 H1 (upd H1 p (.tup (ts.map fun t => V.ty t.nm))) := Ext.new hp
  exact isi_any (RepB.ext x2 (RepM.toB r1)) e5 upd_same (mkOut (x1.trans x2.e0) (a1.e0 x2) fun v H' x a r _ => q v H' x a r (fun z => nomatch z))

/-! ### sorted(set(..)) -/
theorem boot_sorted : bootBuiltins "sorted" = some (.builtin "sorted") := by decide +kernel
theorem boot_set : bootBuiltins "set" = some (.type "set") := by decide +kernel
theorem s_sset (f : Fits X c fe k) {x : E} {l : Expr} {p pos p2 pos2 : Pos} (h1 : c.isB "sorted" = true) (h2 : c.isB "set" = true) (hl : notStar l = true) (h : PE X l (RD X c fe A H0 κ true x)) :
    PE X (.Call (.Name "sorted" p) [.Call (.Name "set" p2) [l] [] pos2] [] pos) (RD X c fe A H0 κ b (.sset x)) := by
  obtain ⟨hg, hm, hn, hd⟩ := f.blt h1
  obtain ⟨hg2, hm2, hn2, hd2⟩ := f.blt h2
  have hA : PA X [l] (tCons (RD X c fe A H0 κ true x) tNil) := pa_cons h pa_nil (notStar_each hl [] X.env)
  have hS := pe_callTy (p := p2) (pos := pos2) (cr_set f.calm f.hu) hg2 hm2 boot_set hA hn2 hd2 (notStar_each hl [] X.env) (notStar_any rfl)
  have hB : PA X [.Call (.Name "set" p2) [l] [] pos2] (tCons _ tNil) := pa_cons hS pa_nil (notStar_each rfl [] X.env)
  refine PE.imp (pe_callB (cr_ss f.calm f.hu) hg hm boot_sorted hB hn hd (notStar_each rfl [] X.env) (notStar_any rfl)) fun σ H Q ⟨F, au, ρ, u, d, u', S, e, q⟩ => ?_
  obtain ⟨dx, u1, e1, g1⟩ := bd_some e
  obtain ⟨e5, e6⟩ := lf_some g1
  dsimp only at e5 e6
  subst e6
  exact ⟨F, au, ρ, u, dx, _, S, e1, fun v H1 x1 a1 r1 _ => sset_out (S.step x1 a1).fok (RepM.toB r1) e5 (mkOut (fr := true) x1 a1 fun v H' x a r f => q v H' x a r fun _ => f rfl)⟩

/-! ### subscripts -/
theorem notSlice_plain {r : Expr} (h : notSlice r = true) : PlainIx r := by
  intro o i
  cases r <;> first | rfl | cases h
theorem s_ix (f : Fits X c fe k) {x y : E} {l r : Expr} {pos : Pos} (hn : notSlice r = true) (h1 : PE X l (RD X c fe A H0 κ true x)) (h2 : PE X r (RD X c fe A H0 κ true y)) : PE X (.Subscript l r pos) (RD X c fe A H0 κ b (.ix x y)) :=
  PE.imp (pe_ix (ok_sub_ix f.hu) h1 h2 (notSlice_plain hn)) fun σ H Q ⟨F, au, ρ, u, d, u', S, e, q⟩ => by
    obtain ⟨dx, u1, e1, g1⟩ := bd_some e
    obtain ⟨dy, u2, e2, g2⟩ := bd_some g1
    obtain ⟨e3, e4⟩ := lf_some g2
    dsimp only at e3 e4
    subst e4
    refine ⟨F, au, ρ, u, dx, u1, S, e1, fun v H1 x1 a1 r1 _ => ?_⟩
    have S1 := S.step x1 a1
    refine ⟨F, au, ρ, u1, dy, _, S1, e2, fun v2 H2 x2 a2 r2 _ => ?_⟩
    exact ⟨F, dx, dy, d, (S1.step x2 a2).fok, RepM.toB (RepM.ext x2 S.auF r1), RepM.toB r2, e3, mkOut (x1.trans x2) a2 fun v H' x a r _ => q v H' x a r (fun z => nomatch z)⟩
theorem s_urn (f : Fits X c fe k) {i j : Nat} {x : Str} {n : Nat} {p p2 pos : Pos} (hi : c.isVar i x = true) (hk : κ[i]? = some .urn) : PE X (.Subscript (.Name x p) (.Constant (.int (j : Int)) n p2) pos) (RD X c fe A H0 κ b (.urn j)) :=
  PE.imp (pe_ix ix_list (f.var hi) pe_int (fun _ _ => rfl)) fun σ H Q ⟨F, au, ρ, u, d, u', S, e, q⟩ => by
    obtain ⟨a, h1, h2⟩ := S.ur i hk
    have hh := S.uat a h1
    have e : (match u[j]? with
      | some i => some (PyData.int i, u)
      | none => none) = some (d, u') := e
    split at e
    · rename_i m hm
      cases e
      refine ⟨.ref a, h2, a, u.map V.int, j, .int m, rfl, rfl, .inl (.inl hh), ?_, q _ H .refl S.uat (RepM.of (.int _)) (fun z => nomatch z)⟩
      obtain ⟨hlt, hm2⟩ := List.getElem?_eq_some_iff.mp hm
      unfold atI ixN
      rw [if_pos (Int.natCast_nonneg j), List.length_map, if_pos (by omega)]
      show (u.map V.int)[(j : Int).toNat]? = some (.int m)
      rw [Int.toNat_natCast, List.getElem?_map, hm]
      rfl
    · cases e
/-- a slice's part -/
def tP (w : World) (K : PySem.W.Frag) (fe : Nat → List D → M D) (A : Fb) (H0 : Hp) (κ : List Kd) (e : E) : TO := fun σ H Q => ∃ F au ρ u d u' o, Sim w K κ A H0 F au ρ u σ H ∧ ev fe e ρ u = some (d, u') ∧ partD e d = some o ∧ ∀ H', Ext (Au au.a) H H' → UAt au.a u' H' → Q o H'
theorem PO.imp {e : Option Expr} {t t' : TO} (h : PO X e t) (i : ∀ σ H Q, t' σ H Q → t σ H Q) : PO X e t' := ⟨fun pins s σ H Q I q => h.run pins s σ H Q I (i σ H Q q)⟩
theorem po_ok {lo : E} {p : Option Expr} (h : (lo.isNo = true ∧ p = none) ∨ (lo.isNo = false ∧ ∃ a, p = some a ∧ PE X a (RD X c fe A H0 κ true lo))) : PO X p (tP X.w X.K fe A H0 κ lo) := by
  rcases h with ⟨h1, rfl⟩ | ⟨h1, a, rfl, h⟩
  · refine PO.imp po_none fun σ H Q ⟨F, au, ρ, u, d, u', o, S, e, hp, q⟩ => ?_
    cases lo <;> first | (cases h1; done) | skip
    cases rt_some e
    cases hp
    exact q H .refl S.uat
  · refine PO.imp (po_some h) fun σ H Q ⟨F, au, ρ, u, d, u', o, S, e, hp, q⟩ => ?_
    unfold partD at hp
    rw [h1, if_neg Bool.false_ne_true] at hp
    split at hp
    · cases hp
      exact ⟨F, au, ρ, u, _, u', S, e, fun v H1 x1 a1 r1 _ => ⟨_, (RepM.toB r1).int_inv, q H1 x1 a1⟩⟩
    · cases hp
theorem s_sl {x lo hi : E} {l : Expr} {p q : Option Expr} {p2 pos : Pos} (h1 : PE X l (RD X c fe A H0 κ true x)) (hlo : (lo.isNo = true ∧ p = none) ∨ (lo.isNo = false ∧ ∃ a, p = some a ∧ PE X a (RD X c fe A H0 κ true lo))) (hhi : (hi.isNo = true ∧ q = none) ∨ (hi.isNo = false ∧ ∃ a, q = some a ∧ PE X a (RD X c fe A H0 κ true hi))) :
    PE X (.Subscript l (.Slice p q none p2) pos) (RD X c fe A H0 κ b (.sl x lo hi)) :=
  PE.imp (pe_slice (SlR.or sl_list sl_tupF) h1 (po_ok hlo) (po_ok hhi)) fun σ H Q ⟨F, au, ρ, u, d, u', S, e, qq⟩ => by
    obtain ⟨dx, u1, e1, g1⟩ := bd_some e
    obtain ⟨dl, u2, e2, g2⟩ := bd_some g1
    obtain ⟨dh, u3, e3, g3⟩ := bd_some g2
    obtain ⟨e4, e5⟩ := lf_some g3
    dsimp only at e4 e5
    subst e5
    obtain ⟨ol, e6, e7⟩ := Option.bind_eq_some_iff.mp e4
    obtain ⟨oh, e8, e9⟩ := Option.bind_eq_some_iff.mp e7
    refine ⟨F, au, ρ, u, dx, u1, S, e1, fun v H1 x1 a1 r1 _ => ?_⟩
    have S1 := S.step x1 a1
    refine ⟨F, au, ρ, u1, dl, u2, ol, S1, e2, e6, fun H2 x2 a2 => ?_⟩
    have S2 := S1.step x2 a2
    refine ⟨F, au, ρ, u2, dh, _, oh, S2, e3, e8, fun H3 x3 a3 => ?_⟩
    exact slice_out (S2.step x3 a3).fok (RepM.toB (RepM.ext x3 S.auF (RepM.ext x2 S.auF r1))) e9 (mkOut (x1.trans (x2.trans x3)) a3 fun v H' x a r _ => qq v H' x a r (fun z => nomatch z))
theorem s_rev {x : E} {l : Expr} {n : Nat} {p1 p2 p3 pos : Pos} (h : PE X l (RD X c fe A H0 κ true x)) : PE X (.Subscript l (.Slice none none (some (.UnaryOp .USub (.Constant (.int 1) n p1) p2)) p3) pos) (RD X c fe A H0 κ b (.rev x)) :=
  PE.imp (pe_rev h) fun σ H Q ⟨F, au, ρ, u, d, u', S, e, q⟩ => by
    obtain ⟨dx, u1, e1, g1⟩ := bd_some e
    obtain ⟨e5, e6⟩ := lf_some g1
    dsimp only at e5 e6
    subst e6
    exact ⟨F, au, ρ, u, dx, _, S, e1, fun v H1 x1 a1 r1 _ => rev_out (S.step x1 a1).fok (RepM.toB r1) e5 (mkOut x1 a1 fun v H' x a r _ => q v H' x a r (fun z => nomatch z))⟩

/-! ### calls of defs -/
theorem repE0 {w : World} {K : PySem.W.Frag} {U F : Fb} {H : Hp} : ∀ {vs : List V} {ds : List D}, RepML true w K U F H vs ds → RepL w K E0 H vs ds
  | _, _, .nil => .nil
  | _, _, .cons a t => by
    refine .cons ?_ (repE0 t)
    have a : RepU w K U F H _ _ := a
    cases a with
    | rep h => exact Rep.ext Ext.refl (fun _ z => z.elim) _ _ h
    | own p e n h =>
      subst e
      exact OwnAt.rep (fun z => z) (h.ext (F' := E0) Ext.refl (fun _ z => z.elim) rfl)
theorem fr_call {fns : List FnD} {fi : Nat} {g : FnD} {m : CM} {es : E} (hg : fns[fi]? = some g) : frE fns (.call fi m es) = (g.fresh && decide (m ≠ CM.bor)) := by
  show (match fns[fi]? with
    | some g => g.fresh && decide (m ≠ CM.bor)
    | none => false) = _
  rw [hg]
theorem NF.none {H : Hp} : NF E0 H := fun _ z => z.elim
theorem s_call (f : Fits X c fe k) {g : FnD} {fi : Nat} {es : E} {as : List Expr} {p pos : Pos} (hg : c.fns[fi]? = some g) (hgl : isGl c.sc g.name = true) (hod : (!odd g.name) = true) (hs : as.all notStar = true) (hne : (!as.isEmpty) = true) (hu : g.urn = false) (h : PA X as (RA X fe A H0 κ false es)) :
    PE X (.Call (.Name g.name p) as [] pos) (RD X c fe A H0 κ b (.call fi .pure es)) := by
  obtain ⟨⟨a, fd, hm, hk, hb, hF⟩, hpu, hln⟩ := f.fns fi g hg
  obtain ⟨x, r, rfl⟩ := nonempty hne
  rw [List.all_cons, Bool.and_eq_true] at hs
  refine PE.imp (pe_call (ds := []) (dvs := []) (E := fun _ _ _ => False) hF f.room (isGl_inv f hgl) hm hk hb .nil pass0 h (odd_inv hod).1 (notStar_each hs.1 r X.env) (notStar_any hs.2)) fun σ H Q ⟨F, au, ρ, u, d, u', S, e, q⟩ => ?_
  obtain ⟨dx, u1, e1, g1⟩ := bd_some e
  obtain ⟨ds, u2, e2, g2⟩ := bd_some g1
  obtain ⟨e3, e4⟩ := unl_some e2
  dsimp only at e3 e4
  subst e3 e4
  obtain ⟨d2, u3, e5, g3⟩ := bd_some g2
  rw [if_neg (by decide)] at g3
  cases rt_some g3
  refine ⟨F, au, ρ, u, ds, _, S, e1, fun vs H1 x1 a1 r1 => ?_⟩
  have S1 := S.step x1 a1
  have hu' := hpu hu _ _ _ e5
  have hl := hln _ _ _ e5
  dsimp only at hu'
  subst hu'
  show spE X.w X.K (fe fi) g.urn g.fresh g.ps.length (vs ++ []) H1 Q _
  rw [List.append_nil]
  rw [hu, if_neg Bool.false_ne_true, Nat.add_zero] at hl
  refine ⟨by rw [RepML.length r1]; exact hl, F, none, vs, ds, _, d, _, S1.fok, S1.nf, (fun a ha => nomatch ha), by rw [hu, if_neg Bool.false_ne_true]; exact ⟨rfl, rfl⟩, r1.l, e5, fun v H' x2 _ r2 f2 => ?_⟩
  have x2' : Ext E0 H1 H' := fun p o e n => x2 p o e (fun z => nomatch z)
  have a2 := a1.e0 x2'
  refine q v H' (x1.trans x2'.e0) a2 (RepM.of r2) fun z => ?_
  rw [fr_call hg, Bool.and_eq_true] at z
  obtain ⟨pp, h1, h2, h3⟩ := f2 z.1
  refine ⟨pp, h1, ?_, h3⟩
  cases hn : H pp with
  | none => rfl
  | some o =>
    by_cases q2 : au.a = some pp
    · rw [a1 pp q2] at h2; cases h2
    · rw [x1 pp o hn q2] at h2; cases h2
theorem s_callB (f : Fits X c fe k) {g : FnD} {fi : Nat} {es : E} {as : List Expr} {p pos : Pos} (hg : c.fns[fi]? = some g) (hgl : isGl c.sc g.name = true) (hod : (!odd g.name) = true) (hs : as.all notStar = true) (hne : (!as.isEmpty) = true) (hu : g.urn = false) (h : PA X as (RA X fe A H0 κ true es)) :
    PE X (.Call (.Name g.name p) as [] pos) (RD X c fe A H0 κ b (.call fi .bor es)) := by
  obtain ⟨⟨a, fd, hm, hk, hb, hF⟩, hpu, hln⟩ := f.fns fi g hg
  obtain ⟨x, r, rfl⟩ := nonempty hne
  rw [List.all_cons, Bool.and_eq_true] at hs
  refine PE.imp (pe_call (ds := []) (dvs := []) (E := fun _ _ _ => False) hF f.room (isGl_inv f hgl) hm hk hb .nil pass0 h (odd_inv hod).1 (notStar_each hs.1 r X.env) (notStar_any hs.2)) fun σ H Q ⟨F, au, ρ, u, d, u', S, e, q⟩ => ?_
  obtain ⟨dx, u1, e1, g1⟩ := bd_some e
  obtain ⟨ds, u2, e2, g2⟩ := bd_some g1
  obtain ⟨e3, e4⟩ := unl_some e2
  dsimp only at e3 e4
  subst e3 e4
  obtain ⟨d2, u3, e5, g3⟩ := bd_some g2
  rw [if_pos rfl] at g3
  split at g3
  · rename_i him
    cases rt_some g3
    refine ⟨F, au, ρ, u, ds, _, S, e1, fun vs H1 x1 a1 r1 => ?_⟩
    have S1 := S.step x1 a1
    have hu' := hpu hu _ _ _ e5
    have hl := hln _ _ _ e5
    dsimp only at hu'
    subst hu'
    show spE X.w X.K (fe fi) g.urn g.fresh g.ps.length (vs ++ []) H1 Q _
    rw [List.append_nil]
    rw [hu, if_neg Bool.false_ne_true, Nat.add_zero] at hl
    refine ⟨by rw [RepML.length r1]; exact hl, E0, none, vs, ds, _, d, _, fun _ z => z.elim, NF.none, (fun a ha => nomatch ha), by rw [hu, if_neg Bool.false_ne_true]; exact ⟨rfl, rfl⟩, repE0 r1, e5, fun v H' x2 _ r2 _ => ?_⟩
    have x2' : Ext E0 H1 H' := fun p o e n => x2 p o e (fun z => nomatch z)
    have a2 := a1.e0 x2'
    have S2 := S1.step x2'.e0 a2
    refine q v H' (x1.trans x2'.e0) a2 (RepM.of (Rep.imm (fun p hp => .inr fun xs hx => ?_) d v him r2)) fun z => ?_
    · obtain ⟨o, _, hx⟩ := hx
      exact S2.nf p hp _ _ hx
    · rw [fr_call hg, Bool.and_eq_true] at z
      exact absurd rfl (of_decide_eq_true z.2)
  · cases g3
theorem s_callU (f : Fits X c fe k) {g : FnD} {fi : Nat} {es : E} {as : List Expr} {y : Str} {i : Nat} {p p2 pos : Pos} (hg : c.fns[fi]? = some g) (hgl : isGl c.sc g.name = true) (hod : (!odd g.name) = true) (hs : as.all notStar = true) (hu : g.urn = true) (hi : c.isVar i y = true) (hk : κ[i]? = some .urn) (h : PA X as (RA X fe A H0 κ false es)) :
    PE X (.Call (.Name g.name p) (.Name y p2 :: as) [] pos) (RD X c fe A H0 κ b (.call fi .urn es)) := by
  obtain ⟨⟨a, fd, hm, hk2, hb, hF⟩, hpu, hln⟩ := f.fns fi g hg
  have hA : PA X (.Name y p2 :: as) (tCons (tVar i) (RA X fe A H0 κ false es)) := pa_cons (f.var hi) h (notStar_each rfl as X.env)
  refine PE.imp (pe_call (ds := []) (dvs := []) (E := fun _ _ _ => False) hF f.room (isGl_inv f hgl) hm hk2 hb .nil pass0 hA (odd_inv hod).1 (notStar_each rfl as X.env) (notStar_any hs)) fun σ H Q ⟨F, au, ρ, u, d, u', S, e, q⟩ => ?_
  obtain ⟨dx, u1, e1, g1⟩ := bd_some e
  obtain ⟨ds, u2, e2, g2⟩ := bd_some g1
  obtain ⟨e3, e4⟩ := unl_some e2
  dsimp only at e3 e4
  subst e3 e4
  obtain ⟨d2, u3, e5, g3⟩ := bd_some g2
  rw [if_neg (by decide)] at g3
  cases rt_some g3
  obtain ⟨ua, h1, h2⟩ := S.ur i hk
  refine ⟨.ref ua, h2, F, au, ρ, u, ds, _, S, e1, fun vs H1 x1 a1 r1 => ?_⟩
  have S1 := S.step x1 a1
  have hl := hln _ _ _ e5
  show spE X.w X.K (fe fi) g.urn g.fresh g.ps.length ((.ref ua :: vs) ++ []) H1 Q _
  rw [List.append_nil]
  rw [hu, if_pos rfl] at hl
  refine ⟨by rw [List.length_cons, RepML.length r1]; exact hl, F, au.a, vs, ds, _, d, _, S1.fok, S1.nf, a1, by rw [hu, if_pos rfl]; exact ⟨ua, h1, (S.urn ua h1).1, rfl⟩, r1.l, e5, fun v H' x2 a2 r2 f2 => ?_⟩
  refine q v H' (x1.trans x2) a2 (RepM.of r2) fun z => ?_
  rw [fr_call hg, Bool.and_eq_true] at z
  obtain ⟨pp, h3, h4, h5⟩ := f2 z.1
  refine ⟨pp, h3, ?_, h5⟩
  cases hn : H pp with
  | none => rfl
  | some o =>
    by_cases q2 : au.a = some pp
    · rw [a1 pp q2] at h4; cases h4
    · rw [x1 pp o hn q2] at h4; cases h4
end
end DL

end
section
set_option Elab.async false
set_option linter.all false
set_option autoImplicit false
set_option maxRecDepth 100000
set_option maxHeartbeats 4000000
/-! own layer: targets, sources, the turns of a comprehension -/
namespace DL
open PySem PySem.Spec PyProof.Rows L2

/-! ### targets -/
/-- a pair that was made on the way is no datum of the heap, but its items are -/
inductive RepP (w : World) (K : PySem.W.Frag) (F : Fb) (H : Hp) (v : V) (d : D) : Prop
  | rep (h : Rep w K F H v d)
  | tup (T : Addr) (xs : List V) (ds : List D) (ev : v = .ref T) (ed : d = .tuple ds) (h : H T = some (.tup xs)) (r : RepL w K F H xs ds)
theorem set_get {α : Type} {l : List (Option α)} {i j : Nat} {o : Option α} {x : α} (h : (l.set i o)[j]? = some (some x)) : (j = i ∧ o = some x) ∨ (j ≠ i ∧ l[j]? = some (some x)) := by
  by_cases e : j = i
  · subst e
    by_cases hl : j < l.length
    · rw [List.getElem?_set_self hl] at h
      exact .inl ⟨rfl, Option.some.inj h⟩
    · rw [List.getElem?_eq_none (by simpa using hl)] at h
      cases h
  · rw [List.getElem?_set_ne (Ne.symm e)] at h
    exact .inr ⟨e, h⟩
section
variable {w : World} {K : PySem.W.Frag} {κ : List Kd} {A : Fb} {H0 : Hp} {F : Fb} {au : UB} {ρ : Env} {u u' : List Int} {σ : L2.St} {H H' : Hp}
theorem Sim.set (S : Sim w K κ A H0 F au ρ u σ H) {i : Nat} (hk : κ[i]? = some .d) {v : V} {d : D} (r : Rep w K F H v d) : Sim w K κ A H0 F au (ρ.set i (some d)) u (σ.set i (some v)) H where
  len := by rw [List.length_set, List.length_set]; exact S.len
  fok := S.fok
  nf := S.nf
  ext := S.ext
  urn := S.urn
  blk := S.blk
  uat := S.uat
  d := fun j x hj hr => by
    rcases set_get hr with ⟨e, q⟩ | ⟨e, q⟩
    · subst e
      cases q
      have hl : j < σ.length := by
        have z := (List.getElem?_eq_some_iff.mp hr).1
        rw [List.length_set] at z
        rw [S.len]; exact z
      exact ⟨v, List.getElem?_set_self hl, r⟩
    · obtain ⟨v', h1, h2⟩ := S.d j x hj q
      exact ⟨v', by rw [List.getElem?_set_ne (Ne.symm e)]; exact h1, h2⟩
  own := fun j x hj hr => by
    have hne : j ≠ i := fun e => by rw [e, hk] at hj; cases hj
    rw [List.getElem?_set_ne (Ne.symm hne)] at hr
    obtain ⟨a, h1, h2⟩ := S.own j x hj hr
    exact ⟨a, by rw [List.getElem?_set_ne (Ne.symm hne)]; exact h1, h2⟩
  dist := fun j l a hjl hj hl r1 r2 h1 h2 => by
    have n1 : j ≠ i := fun e => by rw [e, hk] at hj; cases hj
    have n2 : l ≠ i := fun e => by rw [e, hk] at hl; cases hl
    rw [List.getElem?_set_ne (Ne.symm n1)] at r1 h1
    rw [List.getElem?_set_ne (Ne.symm n2)] at r2 h2
    exact S.dist j l a hjl hj hl r1 r2 h1 h2
  ur := fun j hj => by
    have n1 : j ≠ i := fun e => by rw [e, hk] at hj; cases hj
    obtain ⟨a, h1, h2⟩ := S.ur j hj
    exact ⟨a, h1, by rw [List.getElem?_set_ne (Ne.symm n1)]; exact h2⟩
end
/-- only these slots were set -/
def Only (vs : List Nat) (σ σ' : L2.St) : Prop := σ'.length = σ.length ∧ ∀ i, i ∉ vs → σ'[i]? = σ[i]?
theorem Only.refl (vs : List Nat) (σ : L2.St) : Only vs σ σ := ⟨rfl, fun _ _ => rfl⟩
theorem Only.trans {vs ws : List Nat} {a b c : L2.St} (h : Only vs a b) (h' : Only ws b c) : Only (vs ++ ws) a c := ⟨h'.1.trans h.1, fun i hi => by
  rw [List.mem_append, not_or] at hi
  exact (h'.2 i hi.2).trans (h.2 i hi.1)⟩
theorem Only.wipe {vs ws : List Nat} {a b : L2.St} (h : Only vs a b) (hs : ∀ i ∈ vs, i ∈ ws) : wipe b ws = wipe a ws := by
  apply List.ext_getElem?
  intro i
  by_cases hi : i ∈ ws
  · have go : ∀ (ws : List Nat) (σ : L2.St), i ∈ ws → (L2.wipe σ ws)[i]? = if i < σ.length then some none else none := by
      intro ws
      induction ws with
      | nil => intro σ h; cases h
      | cons v ws ih =>
        intro σ hi
        unfold L2.wipe
        by_cases e : v = i
        · subst e
          by_cases hl : v < σ.length
          · rw [if_pos hl, List.getElem?_set_self (by rw [wipe_length]; exact hl)]
          · rw [if_neg hl, List.getElem?_eq_none (by rw [List.length_set, wipe_length]; omega)]
        · rw [List.getElem?_set_ne e]
          exact ih σ ((List.mem_cons.mp hi).resolve_left fun z => e z.symm)
    rw [go ws b hi, go ws a hi, h.1]
  · rw [wipe_out hi, wipe_out hi]
    exact h.2 i fun z => hi (hs i z)
section
variable (w : World) (K : PySem.W.Frag) (A : Fb) (H0 : Hp) (κ : List Kd)
def gV (pr : Bool) (t : Tg) : TG := fun v σ H Q => ∃ F au ρ u d ρ', Sim w K κ A H0 F au ρ u σ H ∧ (if pr = true then RepP w K F H v d else Rep w K F H v d) ∧ bindD t d ρ = some ρ' ∧ ∀ σ', Sim w K κ A H0 F au ρ' u σ' H → Only t.slots σ σ' → Q σ' H
def gLs (t : Tg) : TGs := fun vs σ H Q => ∃ F au ρ u ds ρ', Sim w K κ A H0 F au ρ u σ H ∧ RepL w K F H vs ds ∧ bindT t ds ρ = some ρ' ∧ ∀ σ', Sim w K κ A H0 F au ρ' u σ' H → Only t.slots σ σ' → Q σ' H
end
theorem PG.imp {X : Cx} {e : Expr} {t t' : TG} (h : PG X e t) (i : ∀ v σ H Q, t' v σ H Q → t v σ H Q) : PG X e t' := ⟨fun pins s σ H v u Q I r q => h.run pins s σ H v u Q I r (i v σ H Q q)⟩
theorem PGs.imp {X : Cx} {e : List Expr} {t t' : TGs} (h : PGs X e t) (i : ∀ v σ H Q, t' v σ H Q → t v σ H Q) : PGs X e t' := ⟨fun pins s σ H v u Q I r q => h.run pins s σ H v u Q I r (i v σ H Q q)⟩
theorem PG.or {X : Cx} {e : Expr} {t t' : TG} (h : PG X e t) (h' : PG X e t') : PG X e (fun v σ H Q => t v σ H Q ∨ t' v σ H Q) := ⟨fun pins s σ H v u Q I r q => q.elim (h.run pins s σ H v u Q I r) (h'.run pins s σ H v u Q I r)⟩
def isTgt : Expr → Bool
  | .Name _ _ => true
  | .Tuple _ _ _ => true
  | _ => false
def tgIn (c : CC) (a : Tg) (e : Expr) : Bool := if a.isNm = true then chkT c a [e] else match e with
    | .Tuple es' _ _ => chkT c a es'
    | _ => false
theorem chkT_cons {c : CC} {a r : Tg} {e : Expr} {es : List Expr} (h : chkT c (.cons a r) (e :: es) = true) : r.isNm = false ∧ tgIn c a e = true ∧ chkT c r es = true := by
  have h : (!r.isNm && tgIn c a e && chkT c r es) = true := h
  rw [Bool.and_eq_true, Bool.and_eq_true, Bool.not_eq_true'] at h
  exact ⟨h.1.1, h.1.2, h.2⟩
theorem chkT_tgt {c : CC} : ∀ {t : Tg} {es : List Expr}, t.isNm = false → chkT c t es = true → es.all isTgt = true
  | .nm _, _, h, _ => by cases h
  | .nil, [], _, _ => rfl
  | .nil, _ :: _, _, h => by cases h
  | .cons a r, [], _, h => by cases h
  | .cons a r, e :: es, _, h => by
    obtain ⟨hr, h1, h2⟩ := chkT_cons h
    have h1 : isTgt e = true := by
      unfold tgIn at h1
      split at h1
      · cases a with
        | nm i =>
          cases e <;> first | rfl | (simp [chkT] at h1)
        | _ => rename_i q; cases q
      · split at h1
        · rfl
        · cases h1
    rw [List.all_cons, h1, chkT_tgt hr h2]
    rfl
theorem tgt_each {e : Expr} (h : isTgt e = true) (es : List Expr) (env : PySem.Env) : assignEach (e :: es) env = (false, assign e env) :: assignEach es env := by
  cases e <;> first | rfl | cases h
theorem tgt_len {env : PySem.Env} : ∀ {es : List Expr}, es.all isTgt = true → (assignEach es env).length = es.length ∧ (assignEach es env).findIdx? (·.1) = none
  | [], _ => ⟨rfl, rfl⟩
  | e :: es, h => by
    rw [List.all_cons, Bool.and_eq_true] at h
    obtain ⟨h1, h2⟩ := tgt_len (env := env) h.2
    rw [tgt_each h.1]
    refine ⟨by rw [List.length_cons, List.length_cons, h1], ?_⟩
    rw [List.findIdx?_cons, if_neg (fun z => by cases z), h2]
    rfl
section
variable {X : Cx} {c : CC} {fe : Nat → List D → M D} {k : Nat} {A : Fb} {H0 : Hp} {κ : List Kd}
theorem bindT_len : ∀ {t : Tg} {ds : List D} {ρ ρ' : Env} {es : List Expr} {c : CC}, t.isNm = false → chkT c t es = true → bindT t ds ρ = some ρ' → ds.length = es.length
  | .nm _, _, _, _, _, _, h, _, _ => by cases h
  | .nil, [], _, _, [], _, _, _, _ => rfl
  | .nil, _ :: _, _, _, _, _, _, _, h => by cases h
  | .nil, [], _, _, _ :: _, _, _, h, _ => by cases h
  | .cons a r, [], _, _, _, _, _, _, h => by cases h
  | .cons a r, _ :: _, _, _, [], _, _, h, _ => by cases h
  | .cons a r, x :: xs, ρ, ρ', e :: es, c, _, hc, hb => by
    obtain ⟨hr, _, h2⟩ := chkT_cons hc
    have hb2 : ∃ ρ1, bindT r xs ρ1 = some ρ' := by
      unfold bindT at hb
      split at hb
      · obtain ⟨ρ1, _, h2⟩ := Option.bind_eq_some_iff.mp hb
        exact ⟨ρ1, h2⟩
      · obtain ⟨ys, _, h2⟩ := Option.bind_eq_some_iff.mp hb
        obtain ⟨ρ1, _, h3⟩ := Option.bind_eq_some_iff.mp h2
        exact ⟨ρ1, h3⟩
    obtain ⟨ρ1, hb2⟩ := hb2
    rw [List.length_cons, List.length_cons, bindT_len hr h2 hb2]
theorem g_name (f : Fits X c fe k) {pr : Bool} {i : Nat} {x : Str} {pos : Pos} (h : c.canPut i x = true) (hk : κ[i]? = some .d) (hp : pr = false) : PG X (.Name x pos) (gV X.w X.K A H0 κ pr (.nm i)) := by
  subst hp
  unfold CC.canPut at h
  rw [Bool.and_eq_true, decide_eq_true_eq] at h
  obtain ⟨h1, h2⟩ := h
  have hx : Loc X.env.scope x ∧ (X.fn x = true ∨ X.env.scope.names.lookup x = some .local) := by
    rw [f.sc, f.bs]
    split at h2
    · rename_i e
      exact ⟨.inl e, .inr e⟩
    · rename_i e
      refine ⟨.inr e, .inl ?_⟩
      split at h2
      · rename_i e2; first | rfl | rw [e2]
      · rename_i e2; first | exact h2 | (rw [e2]; exact h2)
    · cases h2
  refine PG.imp (pg_name f.nd (by rw [f.hN]; exact h1) hx.1 hx.2) fun v σ H Q ⟨F, au, ρ, u, d, ρ', S, r, e, q⟩ => ?_
  cases e
  rw [if_neg Bool.false_ne_true] at r
  refine q _ (S.set hk r) ⟨by rw [List.length_set], fun j hj => ?_⟩
  rw [List.getElem?_set_ne (fun z => hj (by rw [z]; exact List.mem_singleton.mpr rfl))]
theorem tg_ok (f : Fits X c fe k) : ∀ (t : Tg) (es : List Expr), chkT c t es = true → (∀ i ∈ t.slots, κ[i]? = some .d) → (t.isNm = false → PGs X es (gLs X.w X.K A H0 κ t)) ∧ (t.isNm = true → ∀ e, es = [e] → PG X e (gV X.w X.K A H0 κ false t))
  | .nm i, es, h, hk => by
    refine ⟨fun z => (by cases z), fun _ e he => ?_⟩
    subst he
    cases e <;> first | (simp [chkT] at h; done) | skip
    exact g_name f (by simpa [chkT] using h) (hk i (List.mem_singleton.mpr rfl)) rfl
  | .nil, es, h, hk => by
    refine ⟨fun _ => ?_, fun z => by cases z⟩
    cases es with
    | cons e es => cases h
    | nil =>
      refine PGs.imp pgs_nil fun vs σ H Q ⟨F, au, ρ, u, ds, ρ', S, r, e, q⟩ => ?_
      cases ds with
      | cons d ds => cases e
      | nil =>
        cases r
        cases e
        exact ⟨rfl, q σ S (Only.refl _ _)⟩
  | .cons a r, es, h, hk => by
    refine ⟨fun _ => ?_, fun z => by cases z⟩
    cases es with
    | nil => cases h
    | cons e es =>
      have htg := chkT_tgt (t := .cons a r) rfl h
      rw [List.all_cons, Bool.and_eq_true] at htg
      obtain ⟨hr, hz, hz2⟩ := chkT_cons h
      have hka : ∀ i ∈ a.slots, κ[i]? = some .d := fun i hi => hk i (List.mem_append_left _ hi)
      have hkr : ∀ i ∈ r.slots, κ[i]? = some .d := fun i hi => hk i (List.mem_append_right _ hi)
      have pa : PG X e (gV X.w X.K A H0 κ false a) := by
        have z := hz
        unfold tgIn at z
        split at z
        · rename_i hn
          exact (tg_ok f a [e] z hka).2 hn e rfl
        · rename_i hn
          have hn : a.isNm = false := by simpa using hn
          split at z
          · rename_i es' _ _
            have ps := (tg_ok f a es' z hka).1 hn
            obtain ⟨l1, l2⟩ := tgt_len (env := X.env) (chkT_tgt hn z)
            refine PG.imp (PG.or (pg_tup f.calm ps l1 l2) (pg_unl f.calm ps l1 l2)) fun v σ H Q ⟨F, au, ρ, u, d, ρ', S, rr, e, q⟩ => ?_
            rw [if_neg Bool.false_ne_true] at rr
            unfold bindD at e
            rw [hn, if_neg Bool.false_ne_true] at e
            obtain ⟨ys, e1, e2⟩ := Option.bind_eq_some_iff.mp e
            have hl := bindT_len hn z e2
            obtain ⟨p, xs, rfl, l, hp⟩ := (RepB.rep rr).items (seq_items e1)
            rcases hp with hp | hp
            · exact .inr ⟨p, xs, rfl, .inl (.inl hp), by rw [l.length, hl], F, au, ρ, u, ys, ρ', S, l, e2, q⟩
            · exact .inl ⟨p, xs, rfl, hp.t, by rw [l.length, hl], F, au, ρ, u, ys, ρ', S, l, e2, q⟩
          · cases z
      have pr := (tg_ok f r es hz2 hkr).1 hr
      refine PGs.imp (pgs_cons pa pr (by rw [tgt_each htg.1]; rfl)) fun vs σ H Q ⟨F, au, ρ, u, ds, ρ', S, l, e, q⟩ => ?_
      cases ds with
      | nil => cases e
      | cons d ds =>
        cases l with
        | @cons v vs _ _ r1 l =>
          have hb : ∃ ρ1, bindD a d ρ = some ρ1 ∧ bindT r ds ρ1 = some ρ' := by
            unfold bindT at e
            unfold bindD
            split at e
            · rename_i hn
              obtain ⟨ρ1, h1, h2⟩ := Option.bind_eq_some_iff.mp e
              exact ⟨ρ1, by rw [if_pos hn]; exact h1, h2⟩
            · rename_i hn
              obtain ⟨ys, h1, h2⟩ := Option.bind_eq_some_iff.mp e
              obtain ⟨ρ1, h3, h4⟩ := Option.bind_eq_some_iff.mp h2
              exact ⟨ρ1, by rw [if_neg hn, h1]; exact h3, h4⟩
          obtain ⟨ρ1, b1, b2⟩ := hb
          refine ⟨v, vs, rfl, F, au, ρ, u, d, ρ1, S, by rw [if_neg Bool.false_ne_true]; exact r1, b1, fun σ' S' o1 => ?_⟩
          exact ⟨F, au, ρ1, u, ds, ρ', S', l, b2, fun σ2 S2 o2 => q σ2 S2 (o1.trans o2)⟩
end
end DL

end
section
set_option Elab.async false
set_option linter.all false
set_option autoImplicit false
set_option maxRecDepth 100000
set_option maxHeartbeats 4000000
/-! own layer: sources and turns -/
namespace DL
open PySem PySem.Spec PyProof.Rows L2
section
variable {X : Cx} {c : CC} {fe : Nat → List D → M D} {k : Nat} {A : Fb} {H0 : Hp} {κ : List Kd}
theorem tg_top (f : Fits X c fe k) {pr : Bool} {t : Tg} {e : Expr} (h : chkTop c t e = true) (hk : ∀ i ∈ t.slots, κ[i]? = some .d) (hp : pr = true → t.isNm = false) : PG X e (gV X.w X.K A H0 κ pr t) := by
  unfold chkTop at h
  split at h
  · rename_i hn
    have e0 : pr = false := by
      cases pr with
      | false => rfl
      | true => rw [hp rfl] at hn; cases hn
    subst e0
    exact (tg_ok f t [e] h hk).2 hn e rfl
  · rename_i hn
    have hn : t.isNm = false := by simpa using hn
    split at h
    · rename_i es _ _
      have ps := (tg_ok (A := A) (H0 := H0) f t es h hk).1 hn
      obtain ⟨l1, l2⟩ := tgt_len (env := X.env) (chkT_tgt hn h)
      refine PG.imp (PG.or (pg_tup f.calm ps l1 l2) (pg_unl f.calm ps l1 l2)) fun v σ H Q ⟨F, au, ρ, u, d, ρ', S, rr, e, q⟩ => ?_
      unfold bindD at e
      rw [hn, if_neg Bool.false_ne_true] at e
      obtain ⟨ys, e1, e2⟩ := Option.bind_eq_some_iff.mp e
      have hl := bindT_len hn h e2
      have rr : RepP X.w X.K F H v d := by
        split at rr
        · exact rr
        · exact .rep rr
      cases rr with
      | rep rr =>
        obtain ⟨p, xs, rfl, l, hp⟩ := (RepB.rep rr).items (seq_items e1)
        rcases hp with hp | hp
        · exact .inr ⟨p, xs, rfl, .inl (.inl hp), by rw [l.length, hl], F, au, ρ, u, ys, ρ', S, l, e2, q⟩
        · exact .inl ⟨p, xs, rfl, hp.t, by rw [l.length, hl], F, au, ρ, u, ys, ρ', S, l, e2, q⟩
      | tup T xs ds e3 e4 hT l =>
        subst e3 e4
        cases e1
        exact .inl ⟨T, xs, rfl, .inl (.inl hT), by rw [l.length, hl], F, au, ρ, u, ys, ρ', S, l, e2, q⟩
    · cases h
end

/-! ### what a loop walks -/
/-- the items of the walk J, whatever W changes behind H1 -/
def WalkD (w : World) (K : PySem.W.Frag) (b pr : Bool) (U F : Fb) (J : It) (H1 : Hp) (ds : List D) : Prop :=
  ∃ G Y, Walk J ds.length G Y ∧ ∀ (W' F' : Fb) (H' : Hp), (b = true → ∀ p, W' p → U p ∨ H1 p = none) → (∀ p, W' p → F' p) → (∀ p, F' p → F p ∨ H1 p = none) → Ext W' H1 H' →
    G H' ∧ ∀ i x H'', i < ds.length → Y i H' x H'' → Ext E0 H' H'' ∧ ∃ d, ds[i]? = some d ∧ (if pr = true then RepP w K F' H'' x d else Rep w K F' H'' x d)
def iS (w : World) (K : PySem.W.Frag) (fe : Nat → List D → M D) (A : Fb) (H0 : Hp) (κ : List Kd) (b : Bool) (k : Src) (s : E) : TI := fun σ H R => ∃ F au ρ u d u' ds, Sim w K κ A H0 F au ρ u σ H ∧ ev fe s ρ u = some (d, u') ∧ srcD k d = some ds ∧
  ∀ J H1, Ext (Au au.a) H H1 → UAt au.a u' H1 → WalkD w K b k.pair (Ub au) F J H1 ds → R J H1
theorem PI.imp {X : Cx} {tg e : Expr} {t t' : TI} (h : PI X tg e t) (i : ∀ σ H R, t' σ H R → t σ H R) : PI X tg e t' := ⟨fun pins s σ H R I q => h.run pins s σ H R I (i σ H R q)⟩
theorem PI.or {X : Cx} {tg e : Expr} {t t' : TI} (h : PI X tg e t) (h' : PI X tg e t') : PI X tg e (fun σ H R => t σ H R ∨ t' σ H R) := ⟨fun pins s σ H R I q => q.elim (h.run pins s σ H R I) (h'.run pins s σ H R I)⟩
section
variable {w : World} {K : PySem.W.Frag} {b : Bool} {U F : Fb} {H1 : Hp}
theorem walk_lst {a : Addr} {xs : List V} {ds : List D} (n : b = true ∧ ¬ U a ∨ ¬ F a) (h : H1 a = some (.lst xs)) (l : RepL w K F H1 xs ds) : WalkD w K b false U F (Itl K a) H1 ds := by
  refine ⟨fun H => SqL K H a xs, YAt xs, by rw [← l.length]; exact walk_list, fun W' F' H' h1 h2 h3 e => ?_⟩
  have na : ¬ W' a := fun z => by
    rcases n with ⟨hb, n⟩ | n
    · exact (h1 hb a z).elim n fun m => by rw [h] at m; cases m
    · exact (h3 a (h2 a z)).elim n fun m => by rw [h] at m; cases m
  have l' : RepL w K F' H' xs ds := RepL.ext (e.mono h2) (fun _ z => z) _ _ (RepL.grow h3 _ _ l)
  refine ⟨.inl (.inl (e a _ h na)), fun i x H'' hi y => ?_⟩
  obtain ⟨rfl, y⟩ := y
  obtain ⟨d, h4, h5⟩ := l'.getV y
  exact ⟨.refl, d, h4, h5⟩
theorem walk_tpl {a : Addr} {xs : List V} {ds : List D} (n : ¬ F a) (h : SqF H1 a xs) (l : RepL w K F H1 xs ds) : WalkD w K b false U F (Itt K a) H1 ds := by
  refine ⟨fun H => SqT K H a xs, YAt xs, by rw [← l.length]; exact walk_tup, fun W' F' H' h1 h2 h3 e => ?_⟩
  have na : ¬ W' a := fun z => (h3 a (h2 a z)).elim n fun m => by
    obtain ⟨o, _, h⟩ := h
    rw [h] at m; cases m
  have l' : RepL w K F' H' xs ds := RepL.ext (e.mono h2) (fun _ z => z) _ _ (RepL.grow h3 _ _ l)
  refine ⟨(h.ext e na).t, fun i x H'' hi y => ?_⟩
  obtain ⟨rfl, y⟩ := y
  obtain ⟨d, h4, h5⟩ := l'.getV y
  exact ⟨.refl, d, h4, h5⟩
theorem walk_fn {J : It} {n : Nat} {f : Nat → Int} (wk : Walk J n (fun _ => True) (YFn fun i => .int (f i))) : WalkD w K b false U F J H1 ((List.range n).map fun i => .int (f i)) := by
  refine ⟨fun _ => True, YFn fun i => .int (f i), by rw [List.length_map, List.length_range]; exact wk, fun W' F' H' h1 h2 h3 e => ⟨trivial, fun i x H'' hi y => ?_⟩⟩
  obtain ⟨rfl, rfl⟩ := y
  rw [List.length_map, List.length_range] at hi
  refine ⟨.refl, .int (f i), ?_, .int _⟩
  rw [List.getElem?_map, List.getElem?_range hi]
  rfl
/-- pairs made on the way -/
theorem pair_rep {F' : Fb} {H' H'' : Hp} {x y v : V} {dx dy : D} (h : ∃ T, v = .ref T ∧ H' T = none ∧ H'' = upd H' T (.tup [x, y])) (r1 : Rep w K F' H' x dx) (r2 : Rep w K F' H' y dy) : Ext E0 H' H'' ∧ RepP w K F' H'' v (.tuple [dx, dy]) := by
  obtain ⟨T, rfl, hn, rfl⟩ := h
  have e : Ext E0 H' (upd H' T (.tup [x, y])) := Ext.new hn
  exact ⟨e, .tup T [x, y] _ rfl rfl upd_same (.cons (Rep.ext e.e0 (fun _ z => z) _ _ r1) (.cons (Rep.ext e.e0 (fun _ z => z) _ _ r2) .nil))⟩
theorem zip_at {xs ys : List D} {i : Nat} {dx dy : D} (h1 : xs[i]? = some dx) (h2 : ys[i]? = some dy) : (List.zipWith (fun x y => PyData.tuple [x, y]) xs ys)[i]? = some (.tuple [dx, dy]) := by
  rw [List.getElem?_zipWith, h1, h2]
theorem walk_zip_ll {a b' : Addr} {xs ys : List V} {dx dy : List D} (n1 : ¬ F a) (n2 : ¬ F b') (h1 : H1 a = some (.lst xs)) (h2 : H1 b' = some (.lst ys)) (l1 : RepL w K F H1 xs dx) (l2 : RepL w K F H1 ys dy) : WalkD w K b true U F (Itz K a b') H1 (List.zipWith (fun x y => .tuple [x, y]) dx dy) := by
  refine ⟨_, _, walk_zip (xs := xs) (ys := ys) (by rw [List.length_zipWith, l1.length, l2.length]), fun W' F' H' g1 g2 g3 e => ?_⟩
  have na : ¬ W' a := fun z => (g3 a (g2 a z)).elim n1 fun m => by rw [h1] at m; cases m
  have nb : ¬ W' b' := fun z => (g3 b' (g2 b' z)).elim n2 fun m => by rw [h2] at m; cases m
  have l1' : RepL w K F' H' xs dx := RepL.ext (e.mono g2) (fun _ z => z) _ _ (RepL.grow g3 _ _ l1)
  have l2' : RepL w K F' H' ys dy := RepL.ext (e.mono g2) (fun _ z => z) _ _ (RepL.grow g3 _ _ l2)
  refine ⟨⟨.inl (.inl (e a _ h1 na)), .inl (.inl (e b' _ h2 nb))⟩, fun i v H'' hi y => ?_⟩
  obtain ⟨T, x, z, rfl, hn, rfl, e1, e2⟩ := y
  obtain ⟨d1, q1, r1⟩ := l1'.getV e1
  obtain ⟨d2, q2, r2⟩ := l2'.getV e2
  obtain ⟨x1, x2⟩ := pair_rep ⟨T, rfl, hn, rfl⟩ r1 r2
  exact ⟨x1, _, zip_at q1 q2, x2⟩
theorem walk_zipT {K : PySem.W.Frag} {a b : Addr} {xs ys : List V} {n : Nat} (hn : n = min xs.length ys.length) : Walk (RZ.ItzT K a b) n (fun H => SqT K H a xs ∧ SqT K H b ys) (YPair (fun i => xs[i]?) (fun i => ys[i]?)) := by
  subst hn
  refine ⟨fun i _ hi q => ?_, fun _ q => ⟨xs, ys, q.1, q.2, by omega⟩, fun i H v H' _ q y => ?_⟩
  · have h1 : i < xs.length := by omega
    have h2 : i < ys.length := by omega
    exact ⟨xs, ys, xs[i], ys[i], q.1, q.2, by simp [h1], by simp [h2]⟩
  · obtain ⟨T, x, z, h1, h2, h3, h4, h5⟩ := y
    exact ⟨T, x, z, h1, h2, h3, h4 xs q.1, h5 ys q.2⟩
theorem walk_zip_tt {a b' : Addr} {xs ys : List V} {dx dy : List D} (n1 : ¬ F a) (n2 : ¬ F b') (h1 : SqF H1 a xs) (h2 : SqF H1 b' ys) (l1 : RepL w K F H1 xs dx) (l2 : RepL w K F H1 ys dy) : WalkD w K b true U F (RZ.ItzT K a b') H1 (List.zipWith (fun x y => .tuple [x, y]) dx dy) := by
  refine ⟨_, _, walk_zipT (xs := xs) (ys := ys) (by rw [List.length_zipWith, l1.length, l2.length]), fun W' F' H' g1 g2 g3 e => ?_⟩
  have na : ¬ W' a := fun z => (g3 a (g2 a z)).elim n1 fun m => by obtain ⟨o, _, h1⟩ := h1; rw [h1] at m; cases m
  have nb : ¬ W' b' := fun z => (g3 b' (g2 b' z)).elim n2 fun m => by obtain ⟨o, _, h2⟩ := h2; rw [h2] at m; cases m
  have l1' : RepL w K F' H' xs dx := RepL.ext (e.mono g2) (fun _ z => z) _ _ (RepL.grow g3 _ _ l1)
  have l2' : RepL w K F' H' ys dy := RepL.ext (e.mono g2) (fun _ z => z) _ _ (RepL.grow g3 _ _ l2)
  refine ⟨⟨(h1.ext e na).t, (h2.ext e nb).t⟩, fun i v H'' hi y => ?_⟩
  obtain ⟨T, x, z, rfl, hn, rfl, e1, e2⟩ := y
  obtain ⟨d1, q1, r1⟩ := l1'.getV e1
  obtain ⟨d2, q2, r2⟩ := l2'.getV e2
  obtain ⟨x1, x2⟩ := pair_rep ⟨T, rfl, hn, rfl⟩ r1 r2
  exact ⟨x1, _, zip_at q1 q2, x2⟩
theorem enum_len : ∀ (ds : List D) (i : Nat), (enumFrom i ds).length = ds.length
  | [], _ => rfl
  | d :: ds, i => by
    unfold enumFrom
    rw [List.length_cons, List.length_cons, enum_len ds (i + 1)]
theorem enum_at : ∀ (ds : List D) (i j : Nat) (d : D), ds[j]? = some d → (enumFrom i ds)[j]? = some (.tuple [.int ((i + j : Nat) : Int), d])
  | [], _, _, _, h => by simp at h
  | d :: ds, i, 0, x, h => by
    rw [List.getElem?_cons_zero] at h
    cases h
    rfl
  | d :: ds, i, j + 1, x, h => by
    rw [List.getElem?_cons_succ] at h
    unfold enumFrom
    rw [List.getElem?_cons_succ, enum_at ds (i + 1) j x h]
    have e : i + 1 + j = i + (j + 1) := by omega
    rw [e]
theorem walk_enum_l {a : Addr} {xs : List V} {dx : List D} (n1 : ¬ F a) (h1 : H1 a = some (.lst xs)) (l1 : RepL w K F H1 xs dx) : WalkD w K b true U F (Ite K a) H1 (enumFrom 0 dx) := by
  refine ⟨_, _, by rw [enum_len, ← l1.length]; exact walk_enum (xs := xs), fun W' F' H' g1 g2 g3 e => ?_⟩
  have na : ¬ W' a := fun z => (g3 a (g2 a z)).elim n1 fun m => by rw [h1] at m; cases m
  have l1' : RepL w K F' H' xs dx := RepL.ext (e.mono g2) (fun _ z => z) _ _ (RepL.grow g3 _ _ l1)
  refine ⟨.inl (.inl (e a _ h1 na)), fun i v H'' hi y => ?_⟩
  obtain ⟨T, x, z, rfl, hn, rfl, e1, e2⟩ := y
  cases e1
  obtain ⟨d2, q2, r2⟩ := l1'.getV e2
  obtain ⟨x1, x2⟩ := pair_rep ⟨T, rfl, hn, rfl⟩ (.int (i : Nat)) r2
  refine ⟨x1, _, ?_, x2⟩
  rw [enum_at dx 0 i d2 q2, Nat.zero_add]
end
section
variable {X : Cx} {c : CC} {fe : Nat → List D → M D} {k : Nat} {A : Fb} {H0 : Hp} {κ : List Kd}
theorem own_seq {w : World} {K : PySem.W.Frag} {H : Hp} {a : Addr} {F : Fb} {d : D} {ds : List D} (h : OwnAt w K F H a d) (e : seqD d = some ds) : d = .list ds ∧ ∃ xs, H a = some (.lst xs) ∧ RepL w K F H xs ds := by
  rcases h with ⟨xs, es, rfl, h1, h2⟩ | ⟨es, ep, kvs, rfl, _⟩
  · cases e; exact ⟨rfl, xs, h1, h2⟩
  · cases e
theorem src_seq {b : Bool} {s : E} {iter tg : Expr} (h : PE X iter (RD X c fe A H0 κ b s)) : PI X tg iter (iS X.w X.K fe A H0 κ b .seq s) :=
  PI.imp (PI.or (pi_list h) (pi_tup h)) fun σ H R ⟨F, au, ρ, u, d, u', ds, S, e, hs, q⟩ => by
    have hs : seqD d = some ds := hs
    cases d <;> first | (cases hs; done) | skip
    · cases hs
      refine .inl ⟨F, au, ρ, u, _, u', S, e, fun v H1 x1 a1 r1 _ => ?_⟩
      cases b with
      | true =>
        have r1 : RepU X.w X.K (Ub au) F H1 v _ := r1
        cases r1 with
        | rep h =>
          obtain ⟨a, xs, rfl, n, h1, l⟩ := h.list_inv0
          exact ⟨a, rfl, ⟨xs, .inl (.inl h1)⟩, q _ H1 x1 a1 (walk_lst (.inr n) h1 l)⟩
        | own a ea n h =>
          subst ea
          obtain ⟨_, xs, h1, l⟩ := own_seq h rfl
          exact ⟨a, rfl, ⟨xs, .inl (.inl h1)⟩, q _ H1 x1 a1 (walk_lst (.inl ⟨rfl, n⟩) h1 l)⟩
      | false =>
        obtain ⟨a, xs, rfl, n, h1, l⟩ := Rep.list_inv0 r1
        exact ⟨a, rfl, ⟨xs, .inl (.inl h1)⟩, q _ H1 x1 a1 (walk_lst (.inr n) h1 l)⟩
    · cases hs
      refine .inr ⟨F, au, ρ, u, _, u', S, e, fun v H1 x1 a1 r1 _ => ?_⟩
      obtain ⟨a, xs, rfl, n, h1, l⟩ := (RepM.toB r1).tuple_inv
      exact ⟨a, rfl, ⟨xs, h1.t⟩, q _ H1 x1 a1 (walk_tpl n h1 l)⟩
theorem boot_zip : bootBuiltins "zip" = some (.type "zip") := by decide +kernel
theorem small_inv {i : Int} (h : small i = true) : -(2 ^ 62) ≤ i ∧ i < 2 ^ 62 := by
  have h : -4611686018427387904 ≤ i ∧ i < 4611686018427387904 := of_decide_eq_true h
  have e : (2 : Int) ^ 62 = 4611686018427387904 := by decide
  rw [e]
  exact h
theorem src_rng1 (f : Fits X c fe k) {b : Bool} {s : E} {a tg : Expr} {p pos : Pos} (hx : c.isB "range" = true) (hn : [a].all notStar = true) (h : PA X [a] (RA X fe A H0 κ false s)) : PI X tg (.Call (.Name "range" p) [a] [] pos) (iS X.w X.K fe A H0 κ b .rng1 s) := by
  obtain ⟨hg, hm, _, _⟩ := f.blt hx
  simp only [List.all_cons, List.all_nil, Bool.and_true] at hn
  refine PI.imp (pi_range1 hg hm h (by rw [notStar_each hn]; rfl)) fun σ H R ⟨F, au, ρ, u, d, u', ds, S, e, hs, q⟩ => ?_
  cases d <;> first | (cases hs; done) | skip
  rename_i dl
  refine ⟨F, au, ρ, u, dl, u', S, e, fun vs H1 x1 a1 r1 => ?_⟩
  have hs : rng1D dl = some ds := hs
  unfold rng1D at hs
  split at hs
  · obtain ⟨h1, rfl⟩ := ite_some hs
    obtain ⟨z1, z2⟩ := small_inv h1
    cases r1 with
    | cons r2 r3 =>
      cases r3
      exact ⟨_, by rw [(RepM.toB r2).int_inv], z1, z2, q _ H1 x1 a1 (walk_fn walk_range)⟩
  · cases hs
theorem src_rng2 (f : Fits X c fe k) {b : Bool} {s : E} {a a2 tg : Expr} {p pos : Pos} (hx : c.isB "range" = true) (hn : [a, a2].all notStar = true) (h : PA X [a, a2] (RA X fe A H0 κ false s)) : PI X tg (.Call (.Name "range" p) [a, a2] [] pos) (iS X.w X.K fe A H0 κ b .rng2 s) := by
  obtain ⟨hg, hm, _, _⟩ := f.blt hx
  simp only [List.all_cons, List.all_nil, Bool.and_true, Bool.and_eq_true] at hn
  refine PI.imp (pi_range2 hg hm h (by rw [notStar_each hn.1, notStar_each hn.2]; rfl) (by rw [notStar_each hn.2]; rfl)) fun σ H R ⟨F, au, ρ, u, d, u', ds, S, e, hs, q⟩ => ?_
  cases d <;> first | (cases hs; done) | skip
  rename_i dl
  refine ⟨F, au, ρ, u, dl, u', S, e, fun vs H1 x1 a1 r1 => ?_⟩
  have hs : rng2D dl = some ds := hs
  unfold rng2D at hs
  split at hs
  · obtain ⟨h1, rfl⟩ := ite_some hs
    rw [Bool.and_eq_true] at h1
    obtain ⟨z1, z2⟩ := small_inv h1.1
    obtain ⟨z3, z4⟩ := small_inv h1.2
    cases r1 with
    | cons r2 r3 =>
      cases r3 with
      | cons r4 r5 =>
        cases r5
        exact ⟨_, _, by rw [(RepM.toB r2).int_inv, (RepM.toB r4).int_inv], ⟨z1, z2, z3, z4⟩, q _ H1 x1 a1 (walk_fn walk_range)⟩
  · cases hs
theorem src_rng3 (f : Fits X c fe k) {b : Bool} {s : E} {a a2 a3 tg : Expr} {p pos : Pos} (hx : c.isB "range" = true) (hn : [a, a2, a3].all notStar = true) (h : PA X [a, a2, a3] (RA X fe A H0 κ false s)) : PI X tg (.Call (.Name "range" p) [a, a2, a3] [] pos) (iS X.w X.K fe A H0 κ b .rng3 s) := by
  obtain ⟨hg, hm, _, _⟩ := f.blt hx
  simp only [List.all_cons, List.all_nil, Bool.and_true, Bool.and_eq_true] at hn
  refine PI.imp (pi_range3 hg hm h (notStar_each hn.1 _ _) (notStar_any (by simp [hn.2.1, hn.2.2]))) fun σ H R ⟨F, au, ρ, u, d, u', ds, S, e, hs, q⟩ => ?_
  cases d <;> first | (cases hs; done) | skip
  rename_i dl
  refine ⟨F, au, ρ, u, dl, u', S, e, fun vs H1 x1 a1 r1 => ?_⟩
  have hs : rng3D dl = some ds := hs
  unfold rng3D at hs
  split at hs
  · obtain ⟨h1, rfl⟩ := ite_some hs
    rw [Bool.and_eq_true, Bool.and_eq_true, decide_eq_true_eq] at h1
    obtain ⟨⟨rfl, h2⟩, h3⟩ := h1
    obtain ⟨z1, z2⟩ := small_inv h2
    obtain ⟨z3, z4⟩ := small_inv h3
    cases r1 with
    | cons r2 r3 =>
      cases r3 with
      | cons r4 r5 =>
        cases r5 with
        | cons r6 r7 =>
          cases r7
          exact ⟨_, _, -1, _, by rw [(RepM.toB r2).int_inv, (RepM.toB r4).int_inv, (RepM.toB r6).int_inv], RgC.neg z1 z2 z3 z4, q _ H1 x1 a1 (walk_fn walk_rangeC)⟩
  · cases hs
theorem src_zip (f : Fits X c fe k) {b : Bool} {s : E} {a a2 : Expr} {elts : List Expr} {n : Nat} {p pos tpos : Pos} (hx : c.isB "zip" = true) (hn : [a, a2].all notStar = true) (h : PA X [a, a2] (RA X fe A H0 κ false s)) : PI X (.Tuple elts n tpos) (.Call (.Name "zip" p) [a, a2] [] pos) (iS X.w X.K fe A H0 κ b .zip s) := by
  obtain ⟨hg, hm, _, _⟩ := f.blt hx
  simp only [List.all_cons, List.all_nil, Bool.and_true, Bool.and_eq_true] at hn
  refine PI.imp (RZ.pi_zipA hg hm h (notStar_each hn.1 _ _) (notStar_any (by simp [hn.2]))) fun σ H R ⟨F, au, ρ, u, d, u', ds, S, e, hs, q⟩ => ?_
  cases d <;> first | (cases hs; done) | skip
  rename_i dl
  refine ⟨F, au, ρ, u, dl, u', S, e, fun vs H1 x1 a1 r1 => ?_⟩
  have hs : zipD dl = some ds := hs
  unfold zipD at hs
  split at hs
  · cases hs
    obtain ⟨v, v2, rfl, r2, r3⟩ := RepL.twoR r1.l
    obtain ⟨a, xs, rfl, n1, h1, l1⟩ := r2.list_inv0
    obtain ⟨a2, ys, rfl, n2, h2, l2⟩ := r3.list_inv0
    exact ⟨a, a2, xs, ys, rfl, .inl ⟨.inl (.inl h1), .inl (.inl h2), q _ H1 x1 a1 (walk_zip_ll n1 n2 h1 h2 l1 l2)⟩⟩
  · cases hs
    obtain ⟨v, v2, rfl, r2, r3⟩ := RepL.twoR r1.l
    obtain ⟨a, xs, rfl, n1, h1, l1⟩ := r2.tuple_inv
    obtain ⟨a2, ys, rfl, n2, h2, l2⟩ := r3.tuple_inv
    exact ⟨a, a2, xs, ys, rfl, .inr ⟨h1.t, h2.t, q _ H1 x1 a1 (walk_zip_tt n1 n2 h1 h2 l1 l2)⟩⟩
  · cases hs
end
end DL

end
section
set_option Elab.async false
set_option linter.all false
set_option maxRecDepth 100000
set_option maxHeartbeats 4000000
/-! own layer: enumerate(tuple) -/
namespace PySem
open PySem PySem.Spec PyProof.Rows
set_option maxHeartbeats 4000000 in
theorem dl_enum_newT (l : Addr) (items : Array Value) (n : Nat) (sl : Array (Option Value)) :
    Meets (Builtin.«enumerate.__new__» ⟨[.type "enumerate", .ref l], []⟩) (fun _ R s => s.heap.get? l = some { cls := .type "tuple", dict := none, data := .seq items n, slots := sl } ∧
      R (.ok (.ret (.ref (s.heap.push { cls := .type "tuple_iterator", data := .fields #[.ref l, .int 0 0] }).objs.size)))
        { s with heap := (s.heap.push { cls := .type "tuple_iterator", data := .fields #[.ref l, .int 0 0] }).push { cls := .type "enumerate", data := .fields #[.none, .bool false, .ref s.heap.objs.size, rawInt 0, .none, .none] } }) :=
  .of_wp fun prog w A R s h => by
    obtain ⟨hp, g, d, tk, os⟩ := s; obtain ⟨hl, h⟩ := h
    have hsub := sub_enumerate
    have hL : Heap.IsTuple (Shared.heap ⟨hp, g, d, tk, os⟩) l items := ⟨_, hl, rfl, n, rfl⟩
    wp_walk using wpAny_loadPart' hl
    refine wpAny_stack_any fun st => wpAny_pure ?_
    split
    · rename_i c _ _ _ _ _
      cases (c == Value.type "enumerate")
      · wp_walk using wpAny_loadPart' hl, wpAny_pyIter_tuple hL
        exact ⟨_, rfl, h⟩
      · wp_walk using wpAny_loadPart' hl, wpAny_pyIter_tuple hL
        exact ⟨_, rfl, h⟩
    · wp_walk using wpAny_loadPart' hl, wpAny_pyIter_tuple hL
      exact ⟨_, rfl, h⟩
end PySem
namespace DL
open PySem PySem.Spec PyProof.Rows L2
section
variable {prog : Program} {w : World} {A : Around} {E : Value → Shared → Prop} {s : Shared}
theorem call_enumT {l : Addr} {items : Array Value} {Q : Value → Shared → Prop} (hL : PlainSeq "tuple" s.heap l items)
    (h : ∀ h', IsEnum h' (s.heap.objs.size + 1) s.heap.objs.size 0 .none → h'.IsTupleIter s.heap.objs.size l 0 → (∀ b o, s.heap.get? b = some o → h'.get? b = some o) → Q (.ref (s.heap.objs.size + 1)) { s with heap := h' }) :
    wpAny (model prog w) A (call (.type "enumerate") [.ref l]) Q E s := by
  obtain ⟨⟨c, dct, dt, sl⟩, n, hl, hc, hdn, hd⟩ := hL
  replace hc : c = .type "tuple" := hc
  replace hd : dt = .seq items n := hd
  replace hdn : dct = none := hdn
  subst hc hd hdn
  refine callType_new F.called_enumerate (by decide) (F.typeCall_enumerate_1 _) (F.newCall_enumerate_1 _) (fun obj => F.args_object_init_2 obj _) F.entry_enumerate_new (dl_enum_newT l items n sl) ⟨hl, ?_⟩
  have hz : (s.heap.push { cls := .type "tuple_iterator", data := .fields #[.ref l, .int 0 0] }).objs.size = s.heap.objs.size + 1 := Heap.size_push ..
  show _ ∧ _
  rw [hz]
  have he : IsEnum ((s.heap.push { cls := .type "tuple_iterator", data := .fields #[.ref l, .int 0 0] }).push { cls := .type "enumerate", data := .fields #[.none, .bool false, .ref s.heap.objs.size, rawInt 0, .none, .none] }) (s.heap.objs.size + 1) s.heap.objs.size 0 .none := by
    have := Heap.get?_push_size (s.heap.push { cls := .type "tuple_iterator", data := .fields #[.ref l, .int 0 0] }) (o := { cls := .type "enumerate", data := .fields #[.none, .bool false, .ref s.heap.objs.size, rawInt 0, .none, .none] }) rfl
    rw [hz] at this; exact this
  exact ⟨⟨_, he, rfl⟩, h _ he ⟨_, Heap.get?_push_of_some _ (Heap.get?_push_size _ rfl), rfl, rfl⟩ fun b o x => Heap.get?_push_of_some _ (Heap.get?_push_of_some _ x)⟩
end
theorem draws_tuple {prog : Program} {w : World} {A : Around} (hh : A.handled = none) (it l : Addr) (hne : l ≠ it) (items : Array Value) :
    Draws prog w A it [it, l] items.size (fun i v => items[i]? = some v) (fun i h => h.IsTupleIter it l i ∧ h.IsTuple l items) where
  live := fun _ _ st => let ⟨o, ho, _⟩ := st.1; ⟨o, ho⟩
  frame := fun _ _ _ st hk => ⟨st.1.at fun o e => hk it (by simp) o e, st.2.at fun o e => hk l (by simp) o e⟩
  item := fun i s Q E hi st hQ => by
    refine RZ.nextOf_tuple_item st.1 st.2 (x := items[i]) (by simp [hi]) fun h' hit' hs' => ?_
    exact hQ _ h' s.toks (by simp [hi]) ⟨hit', st.2.extBut hs'.extBut hne⟩ hs'
  done := fun s Q E st hE => RZ.nextOf_tuple_end hh st.1 st.2 (by simp) hE
/-- the tuple at a, each item in a new pair -/
def IteT (K : PySem.W.Frag) (a : Addr) : It :=
  ⟨fun i H => ∃ (xs : List V) (x : V), SqT K H a xs ∧ xs[i]? = some x, fun i H v H' => ∃ T x, v = .ref T ∧ H T = none ∧ H' = upd H T (.tup [.int (i : Nat), x]) ∧ ∀ xs, SqT K H a xs → xs[i]? = some x, fun i H => ∃ xs : List V, SqT K H a xs ∧ xs.length = i⟩
theorem turn_enumT {P : Program} {w : World} {K : PySem.W.Frag} {elts : List Expr} {kk : Nat} {tpos : Pos} (a e it : Addr) (hae : a ≠ e) (hai : a ≠ it) :
    Turn P w K (.Tuple elts kk tpos) (IteT K a) [e, it] e (fun i h => (∃ old, IsEnum h e it ((i : Nat) : Int) old) ∧ h.IsTupleIter it a i ∧ e ≠ it) where
  mem := by simp
  obj := fun i h st b hb => by
    obtain ⟨⟨old, he⟩, ⟨o, ho, hc, hd⟩, _⟩ := st
    have e' : b = e ∨ b = it := by simpa using hb
    rcases e' with z | z
    · rw [z]; exact ⟨_, he, fun v q => nomatch q⟩
    · rw [z]; exact ⟨o, ho, fun v q => by rw [hd] at q; cases q⟩
  keep := fun i h h' st k => let ⟨⟨old, he⟩, hi, hne⟩ := st; ⟨⟨old, k e (by simp) _ he⟩, hi.at fun o q => k it (by simp) o q, hne⟩
  item := by
    intro X hP hw hK hc i pins s σ H E I hf st hg
    subst hP hw hK
    obtain ⟨⟨old, he⟩, hit, hne⟩ := st
    obtain ⟨xs, x, hq, hx⟩ := hg
    obtain ⟨its, rv, p, hz⟩ := I.tuple hq
    obtain ⟨u, hu, ru⟩ := rv.get hx
    have hel : e < s.heap.objs.size := Heap.lt_size he
    have hil : it < s.heap.objs.size := by obtain ⟨_, q, _⟩ := hit; exact Heap.lt_size q
    have hlt : i < its.toArray.size := by
      have z : its[i]? = some u := hu
      obtain ⟨h1, _⟩ := List.getElem?_eq_some_iff.mp z
      simpa using h1
    refine wpAny_pyNext_enum_itemD (draws_tuple (A := X.A.in1) (by simpa using I.ok.hd hc) it a hai its.toArray) he ⟨hit, p⟩ hlt hne (by simp only [List.mem_cons, List.not_mem_nil, or_false, not_or]; exact ⟨hne, Ne.symm hae⟩) fun x' h' tk hP ho st' hT hsz hk => ?_
    have ex : x' = u := by
      have hP : its.toArray[i]? = some x' := hP
      have z : its[i]? = some x' := by simpa using hP
      rw [hu] at z
      exact (Option.some.inj z).symm
    subst ex
    refine ⟨_, rfl, wpAny_letOwnedTupleGo_enum (s := { s with heap := h', toks := tk + 1 }) ho fun h'' he' sb => ?_⟩
    have hT2 : h''.get? s.heap.objs.size = some { cls := .type "tuple", data := .seq #[.int i tk, x'] } := (sb.2 _ (Nat.ne_of_gt hel)).trans hT
    have new : ObjOk X.prog X.w (upd H s.heap.objs.size (.tup [.int (i : Nat), x])) h'' s.heap.objs.size (.tup [.int (i : Nat), x]) :=
      ⟨by show 2 ≤ sizeLine; decide, [.int i tk, x'], .cons ⟨_, rfl⟩ (.cons ru .nil), ⟨_, hT2, rfl, _, rfl⟩⟩
    have I1 : Inv X pins σ (upd H s.heap.objs.size (.tup [.int (i : Nat), x])) { s with heap := h'', toks := tk + 1 } :=
      I.turnedNew (ch := [e, it]) (fun b ob hb q => (sb.2 b (fun z => hb (by simp [z]))).trans (hk b ob (fun z => hb (by simp [z])) (fun z => hb (by simp [z])) q)) hf (Nat.le_refl _) new
    refine ⟨.ref s.heap.objs.size, _, I1, rfl, ⟨_, x, rfl, I.hok.fresh (Nat.le_refl _), rfl, fun ys hy => by rw [I.tuple_inj hy hq]; exact hx⟩, ⟨⟨x', ?_⟩, st'.1.at fun o q => (sb.2 it (Ne.symm hne)).trans q, hne⟩, fun b hb => ?_⟩
    · have e1 : ((i + 1 : Nat) : Int) = (i : Int) + 1 := by omega
      rw [e1]; exact he'
    · have hb' : b < s.heap.objs.size := by
        have e' : b = e ∨ b = it := by simpa using hb
        rcases e' with z | z
        · rw [z]; exact hel
        · rw [z]; exact hil
      rw [upd_ne (Nat.ne_of_lt hb')]
      exact (hf b hb).1
  done := by
    intro X hP hw hK hc i pins s σ H E I hf st hg
    subst hP hw hK
    obtain ⟨⟨old, he⟩, hit, hne⟩ := st
    obtain ⟨xs, hq, hx⟩ := hg
    obtain ⟨its, rv, p, hz⟩ := I.tuple hq
    obtain ⟨f0, f1, f2, f3, f4, f5⟩ := hf it (by simp)
    have hl := rv.length
    have hsz : i = its.toArray.size := by simp; omega
    subst hsz
    exact wpAny_pyNext_enum_endD (draws_tuple (A := X.A.in1) (by simpa using I.ok.hd hc) it a hai its.toArray) he ⟨hit, p⟩ fun h' eb => ⟨rfl, I.turned (t' := s.toks) (fun b o hb q => eb b o hb q) f0 f1 f3 f4 f5⟩
  self := fun A i s Q E st h => let ⟨⟨_, he⟩, _⟩ := st; wpAny_pyIter_enum he h
theorem walk_enumT {K : PySem.W.Frag} {a : Addr} {xs : List V} : Walk (IteT K a) xs.length (fun H => SqT K H a xs) (YPair (fun i => some (.int (i : Nat))) (fun i => xs[i]?)) := by
  refine ⟨fun i _ hi q => ⟨xs, xs[i], q, by simp [hi]⟩, fun _ q => ⟨xs, q, rfl⟩, fun i H v H' _ q y => ?_⟩
  obtain ⟨T, x, h1, h2, h3, h4⟩ := y
  exact ⟨T, .int (i : Nat), x, h1, h2, h3, rfl, h4 xs q⟩
def iEnumA (K : PySem.W.Frag) (ta : TA) : TI := fun σ H R => ta σ H fun vs H1 => ∃ a xs, vs = [.ref a] ∧ ((H1 a = some (.lst xs) ∧ R (Ite K a) H1) ∨ (SqF H1 a xs ∧ R (IteT K a) H1))
theorem pi_enumA {X : Cx} {e : Expr} {ta : TA} {p pos tpos : Pos} {elts : List Expr} {kk : Nat} (hg : Gl X "enumerate") (hm : X.mg "enumerate" = none) (ha : PA X [e] ta) (hs : starEach [e] X.env = [(false, eval e X.env)]) :
    PI X (.Tuple elts kk tpos) (.Call (.Name "enumerate" p) [e] [] pos) (iEnumA X.K ta) := by
  refine ⟨fun pins s σ H R I h => ?_⟩
  refine Call_ (ld_blt I hg hm boot_enumerate (PyProof.Rows.callWith_type1 (thn (ha.run pos pins s σ H _ I h) fun us s1 ⟨vs, H1, I1, r1, q1⟩ => ?_) hs rfl))
  obtain ⟨a, xs, ex, q1⟩ := q1
  subst ex
  cases r1 with
  | cons r rr =>
    cases rr
    cases r
    have fr : ∀ b ∈ [s1.heap.objs.size + 1, s1.heap.objs.size], FpOk X pins H1 b := fun b hb => by
      have e' : b = s1.heap.objs.size + 1 ∨ b = s1.heap.objs.size := by simpa using hb
      have hle : s1.heap.objs.size ≤ b := by
        rcases e' with z | z
        · rw [z]; exact Nat.le_add_right _ _
        · rw [z]; exact Nat.le_refl _
      exact I1.fpOk hle (I1.hok.fresh hle)
    rcases q1 with ⟨hq, q⟩ | ⟨hq, q⟩
    · obtain ⟨its, rv, p', hz⟩ := I1.list (.inl (.inl hq))
      refine call_enumerate_list p'.isList fun h' he hit hsz hk => wpAny_pyIter_enum he ?_
      have I2 : Inv X pins σ H1 { s1 with heap := h' } := I1.kept (t' := s1.toks) hk
      exact ⟨s1.heap.objs.size + 1, [s1.heap.objs.size + 1, s1.heap.objs.size], _, _, H1, rfl, I2, turn_enum a (s1.heap.objs.size + 1) s1.heap.objs.size, ⟨⟨.none, he⟩, hit, Nat.succ_ne_self _⟩, fr, q⟩
    · obtain ⟨o, hd, hq⟩ := hq
      obtain ⟨e1, z, its, rv, o2, e2, e3, m, e4⟩ := I1.hok a _ hq
      rw [e1] at e2
      cases e2
      have hal : a < s1.heap.objs.size := Heap.lt_size e1
      refine call_enumT ⟨_, m, e1, e3, hd, e4⟩ fun h' he hit hk => wpAny_pyIter_enum he ?_
      have I2 : Inv X pins σ H1 { s1 with heap := h' } := I1.kept (t' := s1.toks) hk
      exact ⟨s1.heap.objs.size + 1, [s1.heap.objs.size + 1, s1.heap.objs.size], _, _, H1, rfl, I2, turn_enumT a (s1.heap.objs.size + 1) s1.heap.objs.size (Nat.ne_of_lt (Nat.lt_succ_of_lt hal)) (Nat.ne_of_lt hal), ⟨⟨.none, he⟩, hit, Nat.succ_ne_self _⟩, fr, q⟩
section
variable {w : World} {K : PySem.W.Frag} {b : Bool} {U F : Fb} {H1 : Hp}
theorem walk_enum_t {a : Addr} {xs : List V} {dx : List D} (n1 : ¬ F a) (h1 : SqF H1 a xs) (l1 : RepL w K F H1 xs dx) : WalkD w K b true U F (IteT K a) H1 (enumFrom 0 dx) := by
  refine ⟨_, _, by rw [enum_len, ← l1.length]; exact walk_enumT (xs := xs), fun W' F' H' g1 g2 g3 e => ?_⟩
  have na : ¬ W' a := fun z => (g3 a (g2 a z)).elim n1 fun m => by obtain ⟨o, _, h1⟩ := h1; rw [h1] at m; cases m
  have l1' : RepL w K F' H' xs dx := RepL.ext (e.mono g2) (fun _ z => z) _ _ (RepL.grow g3 _ _ l1)
  refine ⟨(h1.ext e na).t, fun i v H'' hi y => ?_⟩
  obtain ⟨T, x, z, rfl, hn, rfl, e1, e2⟩ := y
  cases e1
  obtain ⟨d2, q2, r2⟩ := l1'.getV e2
  obtain ⟨x1, x2⟩ := pair_rep ⟨T, rfl, hn, rfl⟩ (.int (i : Nat)) r2
  refine ⟨x1, _, ?_, x2⟩
  rw [enum_at dx 0 i d2 q2, Nat.zero_add]
end
theorem src_enum {X : Cx} {c : CC} {fe : Nat → List D → M D} {k : Nat} {A : Fb} {H0 : Hp} {κ : List Kd} (f : Fits X c fe k) {b : Bool} {s : E} {a : Expr} {elts : List Expr} {n : Nat} {p pos tpos : Pos} (hx : c.isB "enumerate" = true) (hn : [a].all notStar = true) (h : PA X [a] (RA X fe A H0 κ false s)) :
    PI X (.Tuple elts n tpos) (.Call (.Name "enumerate" p) [a] [] pos) (iS X.w X.K fe A H0 κ b .enum s) := by
  obtain ⟨hg, hm, _, _⟩ := f.blt hx
  simp only [List.all_cons, List.all_nil, Bool.and_true] at hn
  refine PI.imp (pi_enumA hg hm h (by rw [notStar_each hn]; rfl)) fun σ H R ⟨F, au, ρ, u, d, u', ds, S, e, hs, q⟩ => ?_
  cases d <;> first | (cases hs; done) | skip
  rename_i dl
  refine ⟨F, au, ρ, u, dl, u', S, e, fun vs H1 x1 a1 r1 => ?_⟩
  cases dl with
  | nil => cases hs
  | cons d0 dl =>
    cases dl with
    | cons _ _ => cases hs
    | nil =>
      obtain ⟨es, hq0, rfl⟩ := Option.map_eq_some_iff.mp (show (seqD d0).map (enumFrom 0) = some ds from hs)
      cases r1 with
      | cons r2 r3 =>
        cases r3
        cases d0 <;> first | (cases hq0; done) | skip
        · cases hq0
          obtain ⟨a, xs, e9, n1, h1, l⟩ := Rep.list_inv0 r2
          subst e9
          exact ⟨a, xs, rfl, .inl ⟨h1, q _ H1 x1 a1 (walk_enum_l n1 h1 l)⟩⟩
        · cases hq0
          obtain ⟨a, xs, e9, n1, h1, l⟩ := Rep.tuple_inv r2
          subst e9
          exact ⟨a, xs, rfl, .inr ⟨h1, q _ H1 x1 a1 (walk_enum_t n1 h1 l)⟩⟩
end DL

end
section
set_option Elab.async false
set_option linter.all false
set_option maxRecDepth 100000
set_option maxHeartbeats 4000000
/-! own layer: the walk over a dict's keys -/
namespace DL
open PySem PySem.Spec PyProof.Rows L2
theorem dict_raw {X : Cx} {pins : List (Addr × Obj)} {σ : L2.St} {H : Hp} {s : Shared} {a : Addr} {es : List (V × Int × V)} {ep : Nat} (I : Inv X pins σ H s) (hd : H a = some (dictO a es ep)) :
    ∃ ens, s.heap.DictRaw a ens ep ∧ (a == sysModules) = false ∧ ens.size = es.length ∧ ∀ (i : Nat) e, es[i]? = some e → ∃ n, ens[i]? = some n ∧ L2.RelV e.1 n.key ∧ L2.RelV e.2.2 n.val := by
  obtain ⟨hs, hl, o, ens, ho, hex, hdt, hp⟩ := (I.hok a _ hd).1
  refine ⟨ens, ⟨o, ho, hex, hdt⟩, hs, ?_, fun i e he => ?_⟩
  · have z := Paired.length hp
    simpa using z.symm
  · obtain ⟨n, h1, h2, _, h3⟩ := paired_get hp he
    exact ⟨n, by simpa using h1, h2, h3⟩
/-- the keys of the dict at a -/
def ItK (a : Addr) (es : List (V × Int × V)) (ep : Nat) : It :=
  ⟨fun i H => H a = some (dictO a es ep) ∧ i < es.length, fun i H x H' => H' = H ∧ ∃ e, es[i]? = some e ∧ x = e.1, fun i H => H a = some (dictO a es ep) ∧ es.length ≤ i⟩
theorem turn_keysD {P : Program} {w : World} {K : PySem.W.Frag} {tg : Expr} {a : Addr} {es : List (V × Int × V)} {ep : Nat} (it : Addr) : Turn P w K tg (ItK a es ep) [it] it (fun i h => h.IsKeyIter it a i es.length ep) where
  mem := by simp
  obj := fun i h st b hb => by
    have e : b = it := by simpa using hb
    subst e
    obtain ⟨oi, e, c, dd⟩ := st
    exact ⟨oi, e, fun v z => by rw [dd] at z; cases z⟩
  keep := fun i h h' st k => st.at fun oi e => k it (by simp) oi e
  item := by
    intro X hP hw hK hc i pins s σ H E I hf st hg
    subst hP hw hK
    obtain ⟨hd, hi⟩ := hg
    obtain ⟨f0, f1, f2, f3, f4, f5⟩ := hf it (by simp)
    obtain ⟨ens, raw, hs, hsz, ent⟩ := dict_raw I hd
    obtain ⟨n, h1, h2, h3⟩ := ent i es[i] (List.getElem?_eq_getElem hi)
    have hlt : i < ens.size := by rw [hsz]; exact hi
    rw [← hsz] at st
    refine wpAny_pyNext_keys_item_raw st raw hlt fun h' st' sb => ?_
    have I1 : Inv X pins σ H { s with heap := h' } := I.turned (t' := s.toks) (fun b ob hb e => (sb.2 b hb).trans e) f0 f1 f3 f4 f5
    obtain ⟨oi, e, c, dd⟩ := id st'
    have hk : ens[i] = n := by
      rw [Array.getElem?_eq_getElem hlt] at h1
      exact Option.some.inj h1
    refine ⟨ens[i].key, rfl, go_of (s := { s with heap := h' }) e c dd (by decide) ⟨es[i].1, H, I1, by rw [hk]; exact h2, ⟨rfl, es[i], List.getElem?_eq_getElem hi, rfl⟩, ?_, fun b hb => (hf b hb).1⟩⟩
    rw [← hsz]
    exact st'
  done := by
    intro X hP hw hK hc i pins s σ H E I hf st hg
    subst hP hw hK
    obtain ⟨hd, hi⟩ := hg
    obtain ⟨f0, f1, f2, f3, f4, f5⟩ := hf it (by simp)
    obtain ⟨ens, raw, hs, hsz, ent⟩ := dict_raw I hd
    rw [← hsz] at st
    exact wpAny_pyNext_keys_end_raw (I.ok.hd hc) st raw (by rw [hsz]; exact hi) fun h' eb => ⟨rfl, I.turned (t' := s.toks) (fun b o hb e => eb b o hb e) f0 f1 f3 f4 f5⟩
  self := fun A i s Q E st h => wpAny_pyIter_keyiter st h
theorem walk_keysD {a : Addr} {es : List (V × Int × V)} {ep : Nat} : Walk (ItK a es ep) es.length (fun H => H a = some (dictO a es ep)) (YAt (es.map (·.1))) := by
  refine ⟨fun i _ hi q => ⟨q, hi⟩, fun _ q => ⟨q, Nat.le_refl _⟩, fun i H x H' _ q y => ?_⟩
  obtain ⟨h1, e, h2, rfl⟩ := y
  exact ⟨h1, by rw [List.getElem?_map, h2]; rfl⟩
def iKeysD (td : TE) : TI := fun σ H R => td σ H fun x H1 => ∃ a es ep, x = .ref a ∧ H1 a = some (dictO a es ep) ∧ R (ItK a es ep) H1
theorem pi_keysD {X : Cx} {tg e : Expr} {td : TE} (he : PE X e td) : PI X tg e (iKeysD td) := by
  refine ⟨fun pins s σ H R I h => ?_⟩
  refine thn (he.run pins s σ H _ I h) fun u s1 ⟨x, H1, I1, rx, a, es, ep, ex, hd, q⟩ => ?_
  subst ex
  obtain rfl : u = Value.ref a := rx
  obtain ⟨ens, raw, hs, hsz, ent⟩ := dict_raw I1 hd
  refine wpAny_pyIter_dict_raw hs raw (pi_one (tk := s1.toks) I1 _ (turn_keysD _) ⟨_, Heap.get?_push_size _ rfl, rfl, ?_⟩ q)
  rw [hsz] <;> rfl
section
variable {w : World} {K : PySem.W.Frag} {b : Bool} {U F : Fb} {H1 : Hp}
theorem RepE.keys : ∀ {es : List (V × Int × V)} {kvs : List (D × D)}, RepE w K F H1 es kvs → RepL w K F H1 (es.map (·.1)) (kvs.map (·.1))
  | _, _, .nil => .nil
  | _, _, .cons a _ _ _ t => .cons a (RepE.keys t)
theorem walk_dkeys {a : Addr} {es : List (V × Int × V)} {ep : Nat} {kvs : List (D × D)} (n : b = true ∧ ¬ U a ∨ ¬ F a) (h : H1 a = some (dictO a es ep)) (l : RepE w K F H1 es kvs) : WalkD w K b false U F (ItK a es ep) H1 (kvs.map (·.1)) := by
  have l0 := RepE.keys l
  refine ⟨_, _, by rw [← l0.length, List.length_map]; exact walk_keysD, fun W' F' H' h1 h2 h3 e => ?_⟩
  have na : ¬ W' a := fun z => by
    rcases n with ⟨hb, n⟩ | n
    · exact (h1 hb a z).elim n fun m => by rw [h] at m; cases m
    · exact (h3 a (h2 a z)).elim n fun m => by rw [h] at m; cases m
  have l' : RepL w K F' H' (es.map (·.1)) (kvs.map (·.1)) := RepL.ext (e.mono h2) (fun _ z => z) _ _ (RepL.grow h3 _ _ l0)
  refine ⟨e a _ h na, fun i x H'' hi y => ?_⟩
  obtain ⟨rfl, y⟩ := y
  obtain ⟨d, h4, h5⟩ := l'.getV y
  exact ⟨.refl, d, h4, h5⟩
end
theorem src_keys {X : Cx} {c : CC} {fe : Nat → List D → M D} {A : Fb} {H0 : Hp} {κ : List Kd} {b : Bool} {s : E} {iter tg : Expr} (h : PE X iter (RD X c fe A H0 κ b s)) : PI X tg iter (iS X.w X.K fe A H0 κ b .keys s) :=
  PI.imp (pi_keysD h) fun σ H R ⟨F, au, ρ, u, d, u', ds, S, e, hs, q⟩ => by
    unfold srcD at hs
    split at hs <;> first | (cases hs; done) | skip
    all_goals try (rename_i hq; cases hq; done)
    rename_i kvs
    split at hs
    · rename_i hn
      cases hs
      refine ⟨F, au, ρ, u, _, u', S, e, fun v H1 x1 a1 r1 _ => ?_⟩
      cases b with
      | true =>
        have r1 : RepU X.w X.K (Ub au) F H1 v _ := r1
        cases r1 with
        | rep h =>
          obtain ⟨a, es, ep, rfl, n, h1, l, _⟩ := h.dict_inv0 hn
          exact ⟨a, es, ep, rfl, h1, q _ H1 x1 a1 (walk_dkeys (.inr n) h1 l)⟩
        | own a ea n h =>
          subst ea
          obtain ⟨a', es, ep, ea, h1, l, _⟩ := (RepB.own (w := X.w) (K := X.K) (F := F) (H := H1) a rfl h).dict_inv hn
          cases ea
          exact ⟨a, es, ep, rfl, h1, q _ H1 x1 a1 (walk_dkeys (.inl ⟨rfl, n⟩) h1 l)⟩
      | false =>
        obtain ⟨a, es, ep, rfl, n, h1, l, _⟩ := Rep.dict_inv0 r1 hn
        exact ⟨a, es, ep, rfl, h1, q _ H1 x1 a1 (walk_dkeys (.inr n) h1 l)⟩
    · cases hs
end DL

end
section
set_option Elab.async false
set_option linter.all false
set_option maxRecDepth 100000
set_option maxHeartbeats 4000000
/-! own layer: sorted(d.items()) -/
namespace DL
open PySem PySem.Spec PyProof.Rows L2 PySem.W
def pairO (k v : Value) : Obj := { cls := .type "tuple", data := .seq #[k, v] }
/-- the new tuples, each as it stands -/
def putF (h' : Heap) : Hp → List Addr → List (V × Int × V) → Hp
  | H, a :: as, e :: es => putF h' (upd H a (.frz ((h'.get? a).getD default) (.tup [e.1, e.2.2]))) as es
  | H, _, _ => H
theorem putF_off {h' : Heap} {b : Addr} : ∀ (as : List Addr) (es : List (V × Int × V)) (H : Hp), b ∉ as → putF h' H as es b = H b
  | [], _, _, _ => rfl
  | _ :: _, [], _, _ => rfl
  | a :: as, e :: es, H, h => by
    show putF h' (upd H a _) as es b = H b
    rw [putF_off as es _ (fun z => h (List.mem_cons_of_mem _ z)), upd_ne (fun z => h (by rw [z]; exact List.mem_cons_self))]
theorem putF_at {h' : Heap} : ∀ (as : List Addr) (es : List (V × Int × V)) (H : Hp), as.length = es.length → as.Nodup → Paired (fun (t : Addr) (e : V × Int × V) => putF h' H as es t = some (.frz ((h'.get? t).getD default) (.tup [e.1, e.2.2]))) as es
  | [], [], _, _, _ => .nil
  | [], _ :: _, _, h, _ => by cases h
  | _ :: _, [], _, h, _ => by cases h
  | a :: as, e :: es, H, h, hn => by
    have hn' := List.nodup_cons.mp hn
    refine .cons ?_ (putF_at as es _ (Nat.succ.inj h) hn'.2)
    show putF h' (upd H a _) as es a = _
    rw [putF_off as es _ hn'.1, upd_same]
theorem pairs_laid {X : Cx} {pins : List (Addr × Obj)} {σ : L2.St} {H : Hp} {s : Shared} {h' : Heap} {tk : Nat} {ens : Array DictEntry} {es : List (V × Int × V)} {as : List Addr} (I : Inv X pins σ H s)
    (hk : ∀ b o, s.heap.get? b = some o → h'.get? b = some o) (hl : as.length = ens.size) (hG : DilG ens s.heap.objs.size h' as) (hsz : ens.size = es.length) (hent : ∀ (i : Nat) e, es[i]? = some e → ∃ n, ens[i]? = some n ∧ L2.RelV e.1 n.key ∧ L2.RelV e.2.2 n.val) :
    ∃ H1 : Hp, Ext E0 H H1 ∧ (∀ t ∈ as, H t = none) ∧ Paired (fun (t : Addr) (e : V × Int × V) => ∃ o : Obj, o.dict = none ∧ H1 t = some (.frz o (.tup [e.1, e.2.2]))) as es ∧ Inv X pins σ H1 { s with heap := h', toks := tk } := by
  have nd : as.Nodup := List.Pairwise.imp (fun {a b} (h : a < b) => Nat.ne_of_lt h) hG.rise
  have new : ∀ t ∈ as, H t = none := fun t ht => I.hok.fresh (Nat.le_of_lt (hG.above t ht))
  have atP := putF_at (h' := h') as es H (by omega) nd
  have off : ∀ b, b ∉ as → putF h' H as es b = H b := fun b h1 => putF_off as es _ h1
  have low : ∀ b o, s.heap.get? b = some o → b ∉ as := fun b o e z => absurd (Heap.lt_size e) (Nat.not_lt.mpr (Nat.le_of_lt (hG.above b z)))
  have kp : ∀ b u, H b = some u → putF h' H as es b = some u := fun b u e => by
    rw [off b (fun z => by rw [new b z] at e; cases e)]
    exact e
  have ob : ∀ (j : Nat) t, as[j]? = some t → ∃ hj : j < ens.size, h'.get? t = some (pairO ens[j].key ens[j].val) := fun j t e => hG.pairs j t e
  refine ⟨putF h' H as es, fun b o e _ => kp b o e, new, ?_, ?_⟩
  · have go : ∀ {xs : List Addr} {ys : List (V × Int × V)}, Paired (fun (t : Addr) (e : V × Int × V) => putF h' H as es t = some (.frz ((h'.get? t).getD default) (.tup [e.1, e.2.2]))) xs ys → (∀ t ∈ xs, t ∈ as) → Paired (fun (t : Addr) (e : V × Int × V) => ∃ o : Obj, o.dict = none ∧ putF h' H as es t = some (.frz o (.tup [e.1, e.2.2]))) xs ys := by
      intro xs ys p
      induction p with
      | nil => intro _; exact .nil
      | @cons t e xs ys r _ ih =>
        intro hm
        refine .cons ⟨_, ?_, r⟩ (ih fun t ht => hm t (List.mem_cons_of_mem _ ht))
        obtain ⟨j, hj⟩ := List.mem_iff_getElem?.mp (hm t List.mem_cons_self)
        obtain ⟨_, e2⟩ := ob j t hj
        rw [e2]
        rfl
    exact go atP fun _ z => z
  · refine I.call' (ch := []) rfl ⟨fun b o q _ _ _ => hk b o q, fun b o q _ _ _ => ⟨o.slots, hk b o q⟩, fun b o q n _ => ?_, fun b o q _ => ⟨o, hk b o q⟩, fun b xs q => kp b _ q, fun b o u q => kp b _ q, fun b ps q => ⟨#[], by rw [kp b _ q]; simp⟩⟩ (fun b u q => ?_) I.bare fun b z => by simp at z
    · rw [off b (low b o q)]
      exact n
    · by_cases hb : b ∈ as
      · obtain ⟨j, e, e1, e2, e3⟩ := LiI.paired_ix atP hb
        rw [e3] at q
        cases q
        obtain ⟨hj, f1⟩ := ob j b e1
        obtain ⟨n, g1, g2, g3⟩ := hent j e e2
        have hn : ens[j] = n := by
          rw [Array.getElem?_eq_getElem hj] at g1
          exact Option.some.inj g1
        rw [f1]
        exact ⟨f1, by show 2 ≤ sizeLine; decide, [ens[j].key, ens[j].val], .cons (by rw [hn]; exact g2) (.cons (by rw [hn]; exact g3) .nil), ⟨_, f1, rfl, _, rfl⟩⟩
      · rw [off b hb] at q
        exact (I.hok b u q).stay (fun d v _ y => hk d v y) (fun d y => kp d _ y) fun d xs y => kp d _ y
theorem pairs_rep {w : World} {K : PySem.W.Frag} {F : Fb} {H H1 : Hp} (o : FOk F H) (ex : Ext E0 H H1) : ∀ {as : List Addr} {es : List (V × Int × V)} {kvs : List (D × D)}, (∀ t ∈ as, H t = none) → Paired (fun (t : Addr) (e : V × Int × V) => ∃ o : Obj, o.dict = none ∧ H1 t = some (.frz o (.tup [e.1, e.2.2]))) as es → RepE w K F H es kvs → RepL w K F H1 (as.map V.ref) (pairsD kvs)
  | _, _, _, _, .nil, .nil => .nil
  | t :: as, _ :: es, _ :: kvs, hn, .cons ⟨ob, hd, ha⟩ p, .cons a _ _ b r => .cons (.tup (fun z => o t z (hn t List.mem_cons_self)) ⟨ob, hd, ha⟩ (.cons (Rep.ext ex.e0 (fun _ z => z) _ _ a) (.cons (Rep.ext ex.e0 (fun _ z => z) _ _ b) .nil))) (pairs_rep o ex (fun x hx => hn x (List.mem_cons_of_mem _ hx)) p r)
def viewO (r a : Addr) : HO := .ext fun h => h.IsItemsView r a
/-- d.items() -/
def rItemsV : V → List V → Hp → VK → Prop := fun x vs H Q => ∃ a es ep, x = .ref a ∧ vs = [] ∧ H a = some (dictO a es ep) ∧ ∀ r, H r = none → Q (.ref r) (upd H r (viewO r a))
section
variable {X : Cx}
theorem mt_itemsV : MtM X "dict.items" rItemsV := by
  intro pins s σ H x vs v us Q I rx rv h
  obtain ⟨a, es, ep, rfl, rfl, hd, q⟩ := h
  cases rx
  have hus := rv.zero
  subst hus
  obtain ⟨ens, raw, hs, hsz, ent⟩ := dict_raw I hd
  refine call_meetsIn F.slot_dict_items raw.typeIs F.entry_dict_items (F.args_dict_items_1 _) (meets_dict_items_raw (prog := X.prog) (w := X.w) a hs) ⟨⟨ens, ep, raw⟩, ?_⟩
  have hv : (s.heap.push { cls := .type "dict_items", data := .fields #[.ref a] }).IsItemsView s.heap.objs.size a := ⟨_, Heap.get?_push_size _ rfl, rfl, rfl⟩
  refine ⟨.ref s.heap.objs.size, _, I.laid (a := s.heap.objs.size) (o := viewO s.heap.objs.size a) (t' := s.toks) (fun b o e => Heap.get?_push_of_some _ e) (Nat.le_refl _) ⟨hv, ⟨_, Heap.get?_push_size _ rfl⟩, fun h1 h2 z k => ?_⟩, rfl, q _ (I.hok.fresh (Nat.le_refl _))⟩
  obtain ⟨o, ho, r⟩ := z
  exact ⟨o, k _ ho, r⟩
def tBMD0 (r : V → List V → Hp → VK → Prop) (to : TE) : TE := fun σ H Q => to σ H fun x H1 => (∃ a es ep, x = .ref a ∧ H1 a = some (dictO a es ep)) ∧ r x [] H1 Q
theorem pe_bmD0 {o : Expr} {to : TE} {name : Str} {apos cpos : Pos} {id : String} {r : V → List V → Hp → VK → Prop} (slot : Slot "dict" name id) (hty : typeOf (.builtin id) = pure (.type "method_descriptor")) (hm : MtR X id r) (ho : PE X o to)
    (hbase : attributeBase o name X.env (eval o X.env) = eval o X.env) (hline : (apos.endLine == cpos.line) = true) : PE X (.Call (.Attribute o name apos) [] [] cpos) (tBMD0 r to) := by
  refine ⟨fun pins s σ H Q I h => ?_⟩
  refine wpAny_Call_method0_late hbase hline (thn (ho.run pins s σ H _ I h) fun v s1 ⟨x, H1, I1, r1, ty, q1⟩ => ?_)
  obtain ⟨a, es', ep', rfl, hd⟩ := ty
  cases r1
  obtain ⟨⟨_, _, o, ens, hob, ex, _⟩, _⟩ := I1.hok a _ hd
  exact ⟨"dict", id, PySem.F.plainAttrs_dict, slot, hty, ⟨o, hob, ex.1⟩, fun b e2 => by cases e2; exact ⟨o, hob, ex.2.1⟩, Calls.callWith_builtin rfl (PySem.evalArgs_none (hm pins s1 σ H1 (.ref a) [] (.ref a) [] Q I1 rfl .nil q1))⟩
/-- sorted(d.items()) -/
def rSI (w : World) (K : PySem.W.Frag) : List V → Hp → VK → Prop := fun vs H Q => ∃ (F : Fb) (a : Addr) (es : List (V × Int × V)) (ep : Nat) (kvs : List (D × D)) (r : Addr), FOk F H ∧ vs = [.ref r] ∧ H r = some (viewO r a) ∧ H a = some (dictO a es ep) ∧ RepE w K F H es kvs ∧ sortOk (pairsD kvs) = true ∧ (pairsD kvs).all imm = true ∧ fits kvs.length = true ∧ Out w K true F H (.list ((pairsD kvs).mergeSort leD)) Q
theorem cr_items (hc : X.calm = true) (hu : X.A.units + 100 < cLine) : CallR X (.builtin "sorted") (rSI X.w X.K) := by
  intro pins s σ H vs us Q I r h
  obtain ⟨F, a, es, ep, kvs, rv, o, rfl, hv, hd, re, hso, him, hfit, q⟩ := h
  rw [Vals.ref1 r]
  obtain ⟨ens, raw, hs, hsz, ent⟩ := dict_raw I hd
  have hview : s.heap.IsItemsView rv a := (I.hok rv _ hv).1
  have hlen : es.length = kvs.length := re.length
  have hfl := fits_line hfit
  refine Calls.call_function_entry kind_sorted plain_sorted entry_sorted (args_sorted1 _) ?_
  unfold Builtin.«sorted»
  refine wpAny_bind (m := checkCount "sorted" 1 1 _) (wpAny_pure ?_)
  refine wpAny_bind (dil_collect (A := X.A.in1) (by simpa using I.ok.hd hc) hview raw (by omega) fun h1 tk as k1 hl hG => ?_)
  obtain ⟨H1, ex, hnew, hp, I0⟩ := pairs_laid (tk := tk) I k1 hl hG hsz ent
  have rl : RepL X.w X.K F H1 (as.map V.ref) (pairsD kvs) := pairs_rep o ex hnew hp re
  have rvs : Vals (as.map V.ref) (as.map Value.ref) := LiI.vals_refs as
  generalize hvs : as.map Value.ref = vs' at rvs ⊢
  have o1 : FOk F H1 := o.e0 ex
  have q1 : Out X.w X.K true F H1 (.list ((pairsD kvs).mergeSort leD)) Q := q.later ex
  have ei := itR_of rvs rl
  obtain ⟨hal, hdp, hsr⟩ := sortOk_inv hso
  have hvl : vs'.length = (pairsD kvs).length := ei.length
  have hpl : (pairsD kvs).length = kvs.length := List.length_map _
  have hl2 : (pairsD kvs).length ≤ sizeLine := by omega
  refine wpAny_bind (wpAny_newList ?_ (by rw [hvl]; exact hl2))
  have hoL : (h1.push (seqObj "list" vs'.toArray 0)).get? h1.objs.size = some (seqObj "list" vs'.toArray 0) := Heap.get?_push_size _ rfl
  have kp : ∀ b u, h1.get? b = some u → (h1.push (seqObj "list" vs'.toArray 0)).get? b = some u := fun b u e => Heap.get?_push_of_some _ e
  have I1 : Inv X pins σ H1 { s with heap := h1.push (seqObj "list" vs'.toArray 0), toks := tk } := I0.kept (t' := tk) kp
  have er : EachIs (fun v b => ∃ as, Reads (h1.push (seqObj "list" vs'.toArray 0)) v (id b) as ∧ h1.objs.size ∉ as) vs' (pairsD kvs) := itR_mem ei fun u d hd ⟨x, r1, r2⟩ => by
    obtain ⟨as, q1⟩ := (Rep.dp_ d x 60 (hdp d hd) r2).reads I1 _ _ _ r1
    have e : as = [] := reads_imm d _ _ (List.all_eq_true.mp him d hd) q1
    refine ⟨as, q1, ?_⟩
    rw [e]
    simp
  have map_id : (pairsD kvs).map id = pairsD kvs := List.map_id _
  refine wpAny_bind (wpAny_holding (list_sort_data (A := X.A.in1) (s := { s with heap := h1.push (seqObj "list" vs'.toArray 0), toks := tk }) (enc := id) hoL ei er (by rw [map_id]; exact hal) (by rw [map_id]; exact hsr) hl2 (fun b hb => ?_) fun out a1 a2 => ?_))
  · have := (dp_shaped _ _ (hdp b hb)).2
    show X.A.units + 1 + 1 + b.depth < cLine
    omega
  obtain ⟨c, hcg⟩ := sortedHeap_at (vs := vs') (out := List.toArray out) hoL
  obtain ⟨xs, h2, h3⟩ := itR_back a2
  have hn : H1 h1.objs.size = none := I0.hok.fresh (Nat.le_refl _)
  have kp2 : ∀ b u, h1.get? b = some u → (sortedHeap (h1.push (seqObj "list" vs'.toArray 0)) h1.objs.size vs' (List.toArray out)).get? b = some u := fun b u e => by
    have hlt := Heap.lt_size e
    rw [sortedHeap_old (Nat.ne_of_lt hlt) (by rw [size_push']; exact Nat.lt_succ_of_lt hlt)]
    exact kp b u e
  refine wpAny_pure ⟨_, rfl, .ref h1.objs.size, upd H1 h1.objs.size (.lst xs), ?_, rfl, q1.list o1 h3 _ hn⟩
  exact I0.laid (t' := tk) kp2 (Nat.le_refl _) ⟨by rw [h2.length, a1]; exact hl2, out, c, h2, hcg⟩
end
theorem s_sitems {X : Cx} {c : CC} {fe : Nat → List D → M D} {k : Nat} {A : Fb} {H0 : Hp} {κ : List Kd} {b : Bool} (f : Fits X c fe k) {x : E} {y : Str} {p pos yp ap cp : Pos} (h1 : c.isB "sorted" = true) (hl : (ap.endLine == cp.line) = true) (h : PE X (.Name y yp) (RD X c fe A H0 κ true x)) :
    PE X (.Call (.Name "sorted" p) [.Call (.Attribute (.Name y yp) "items" ap) [] [] cp] [] pos) (RD X c fe A H0 κ b (.sitems x)) := by
  obtain ⟨hg, hm, hn, hd⟩ := f.blt h1
  have hS := pe_bmD0 F.slot_dict_items F.type_dict_items mt_itemsV h rfl hl
  have hB : PA X [.Call (.Attribute (.Name y yp) "items" ap) [] [] cp] (tCons _ tNil) := pa_cons hS pa_nil (notStar_each rfl [] X.env)
  refine PE.imp (pe_callB (cr_items f.calm f.hu) hg hm boot_sorted hB hn hd (notStar_each rfl [] X.env) (notStar_any rfl)) fun σ H Q ⟨F, au, ρ, u, d, u', S, e, q⟩ => ?_
  obtain ⟨dx, u1, e1, g1⟩ := bd_some e
  obtain ⟨e5, e6⟩ := lf_some g1
  dsimp only at e5 e6
  subst e6
  unfold sitemsD at e5
  split at e5
  · rename_i kvs
    obtain ⟨h2, rfl⟩ := ite_some e5
    simp only [Bool.and_eq_true] at h2
    obtain ⟨⟨⟨h2, h3⟩, h4⟩, h5⟩ := h2
    refine ⟨F, au, ρ, u, _, _, S, e1, fun v H1 x1 a1 r1 _ => ?_⟩
    obtain ⟨a, es, ep, rfl, hda, re, nd⟩ := (RepM.toB r1).dict_inv h2
    refine ⟨⟨a, es, ep, rfl, hda⟩, a, es, ep, rfl, rfl, hda, fun r hr => ?_⟩
    have ex : Ext E0 H1 (upd H1 r (viewO r a)) := Ext.new hr
    have ne : a ≠ r := fun z => by rw [z, hr] at hda; cases hda
    refine ⟨F, a, es, ep, kvs, r, (S.step x1 a1).fok.e0 ex, rfl, upd_same, by rw [upd_ne ne]; exact hda, RepE.ext ex.e0 (fun _ z => z) _ _ re, h3, h4, h5, ?_⟩
    exact (mkOut (fr := true) x1 a1 fun v H' x a r f => q v H' x a r fun _ => f rfl).later ex
  · cases e5
end DL

end
section
set_option Elab.async false
set_option linter.all false
set_option autoImplicit false
set_option maxRecDepth 100000
set_option maxHeartbeats 4000000
/-! own layer: the turns of a comprehension -/
namespace DL
open PySem PySem.Spec PyProof.Rows L2

theorem wipe_idem (σ : L2.St) (vs : List Nat) : wipe (wipe σ vs) vs = wipe σ vs := by
  apply List.ext_getElem?
  intro i
  by_cases hi : i ∈ vs
  · have go : ∀ (ws : List Nat) (σ : L2.St), i ∈ ws → (L2.wipe σ ws)[i]? = if i < σ.length then some none else none := by
      intro ws
      induction ws with
      | nil => intro σ h; cases h
      | cons v ws ih =>
        intro σ hi
        unfold L2.wipe
        by_cases e : v = i
        · subst e
          by_cases hl : v < σ.length
          · rw [if_pos hl, List.getElem?_set_self (by rw [wipe_length]; exact hl)]
          · rw [if_neg hl, List.getElem?_eq_none (by rw [List.length_set, wipe_length]; omega)]
        · rw [List.getElem?_set_ne e]
          exact ih σ ((List.mem_cons.mp hi).resolve_left fun z => e z.symm)
    rw [go vs _ hi, go vs _ hi, wipe_length]
  · rw [wipe_out hi]
theorem wipeD_len (ρ : Env) : ∀ vs : List Nat, (wipeD ρ vs).length = ρ.length
  | [] => rfl
  | v :: vs => by unfold wipeD; rw [List.length_set, wipeD_len ρ vs]
theorem wipeD_some {ρ : Env} {i : Nat} {x : D} : ∀ {vs : List Nat}, (wipeD ρ vs)[i]? = some (some x) → ρ[i]? = some (some x) ∧ i ∉ vs
  | [], h => ⟨h, by simp⟩
  | v :: vs, h => by
    unfold wipeD at h
    rcases set_get h with ⟨_, q⟩ | ⟨e, q⟩
    · cases q
    · obtain ⟨h1, h2⟩ := wipeD_some q
      exact ⟨h1, by simp only [List.mem_cons, not_or]; exact ⟨e, h2⟩⟩
theorem wipeK_out {κ : List Kd} {i : Nat} : ∀ {vs : List Nat}, i ∉ vs → (wipeK κ vs)[i]? = κ[i]?
  | [], _ => rfl
  | v :: vs, h => by
    have h1 : v ≠ i := fun e => h (by rw [e]; exact List.mem_cons_self)
    have h2 : i ∉ vs := fun m => h (List.mem_cons_of_mem _ m)
    unfold wipeK
    rw [List.getElem?_set_ne h1]
    exact wipeK_out h2
theorem wipeK_in {κ : List Kd} {i : Nat} : ∀ {vs : List Nat}, i ∈ vs → (wipeK κ vs)[i]? = some .d ∨ (wipeK κ vs)[i]? = none
  | [], h => by cases h
  | v :: vs, h => by
    unfold wipeK
    by_cases e : v = i
    · subst e
      by_cases hl : v < (wipeK κ vs).length
      · exact .inl (List.getElem?_set_self hl)
      · exact .inr (List.getElem?_eq_none (by rw [List.length_set]; omega))
    · rw [List.getElem?_set_ne e]
      exact wipeK_in ((List.mem_cons.mp h).resolve_left fun z => e z.symm)
section
variable {w : World} {K : PySem.W.Frag} {κ : List Kd} {A : Fb} {H0 : Hp} {F : Fb} {au : UB} {ρ : Env} {u u' : List Int} {σ : L2.St} {H H' : Hp}
theorem Sim.wipe (S : Sim w K κ A H0 F au ρ u σ H) (vs : List Nat) : Sim w K (wipeK κ vs) A H0 F au (wipeD ρ vs) u (L2.wipe σ vs) H where
  len := by rw [wipe_length, wipeD_len]; exact S.len
  fok := S.fok
  nf := S.nf
  ext := S.ext
  urn := S.urn
  blk := S.blk
  uat := S.uat
  d := fun i x hk hr => by
    obtain ⟨h1, h2⟩ := wipeD_some hr
    rw [wipeK_out h2] at hk
    obtain ⟨v, h3, h4⟩ := S.d i x hk h1
    exact ⟨v, by rw [wipe_out h2]; exact h3, h4⟩
  own := fun i x hk hr => by
    obtain ⟨h1, h2⟩ := wipeD_some hr
    rw [wipeK_out h2] at hk
    obtain ⟨a, h3, h4⟩ := S.own i x hk h1
    exact ⟨a, by rw [wipe_out h2]; exact h3, h4⟩
  dist := fun i j a hij hi hj r1 r2 h1 h2 => by
    have n1 : i ∉ vs := fun z => by rcases wipeK_in (κ := κ) z with q | q <;> rw [q] at hi <;> cases hi
    have n2 : j ∉ vs := fun z => by rcases wipeK_in (κ := κ) z with q | q <;> rw [q] at hj <;> cases hj
    rw [wipeK_out n1] at hi
    rw [wipeK_out n2] at hj
    rw [wipe_out n1] at h1
    rw [wipe_out n2] at h2
    have g : ∀ {i : Nat}, ((wipeD ρ vs)[i]?.bind id).isSome = true → (ρ[i]?.bind id).isSome = true := fun {i} h => by
      cases q : (wipeD ρ vs)[i]? with
      | none => rw [q] at h; cases h
      | some o =>
        cases o with
        | none => rw [q] at h; cases h
        | some x =>
          rw [(wipeD_some q).1]
          rfl
    exact S.dist i j a hij hi hj (g r1) (g r2) h1 h2
  ur := fun i hk => by
    have n1 : i ∉ vs := fun z => by rcases wipeK_in (κ := κ) z with q | q <;> rw [q] at hk <;> cases hk
    rw [wipeK_out n1] at hk
    obtain ⟨a, h1, h2⟩ := S.ur i hk
    exact ⟨a, h1, by rw [wipe_out n1]; exact h2⟩
def UD (au : UB) (Dl : Addr) : Fb := fun p => au.a = some p ∨ p = Dl
/-- the new list at Dl has changed too -/
theorem Sim.stepD {Dl : Addr} (S : Sim w K κ A H0 F au ρ u σ H) (e : Ext (UD au Dl) H H') (hu : UAt au.a u' H') (hb : au.b Dl) (hD : ∃ zs, H' Dl = some (.lst zs)) (hx : A Dl ∨ H0 Dl = none) : Sim w K κ A H0 F au ρ u' σ H' where
  len := S.len
  fok := S.fok.ext e fun p hp _ n => by
    rcases hp with hp | rfl
    · rw [hu p hp] at n; cases n
    · obtain ⟨zs, h⟩ := hD
      rw [h] at n; cases n
  nf := fun p hp o x z => by
    by_cases h : UD au Dl p
    · rcases h with h | rfl
      · rw [hu p h] at z; cases z
      · obtain ⟨zs, h⟩ := hD
        rw [h] at z; cases z
    · cases q : H p with
      | none => exact S.fok p hp q
      | some y =>
        rw [e p y q h] at z
        cases z
        exact S.nf p hp o x q
  ext := fun p o h n => by
    have h1 := S.ext p o h n
    by_cases q : UD au Dl p
    · rcases q with q | rfl
      · rcases (S.urn p q).2 with z | z
        · exact absurd z n
        · rw [h] at z; cases z
      · rcases hx with z | z
        · exact absurd z n
        · rw [h] at z; cases z
    · exact e p o h1 q
  urn := S.urn
  blk := S.blk
  uat := hu
  d := fun i x k r => by
    obtain ⟨v, h1, h2⟩ := S.d i x k r
    exact ⟨v, h1, Rep.ext (e.mono fun p hp => hp.elim (S.auF p) fun z => by rw [z]; exact S.blk _ hb) (fun _ z => z) _ _ h2⟩
  own := fun i x k r => by
    obtain ⟨a, h1, h2, h3, h4, h5, h6⟩ := S.own i x k r
    exact ⟨a, h1, h2, h3, h4, h5, h6.stay e (fun p hp => hp.elim (S.auF p) fun z => by rw [z]; exact S.blk _ hb) fun z => h5 (z.imp id fun z => by rw [z]; exact hb)⟩
  dist := S.dist
  ur := S.ur
end

/-! ### readings of the clauses -/
section
variable (w : World) (K : PySem.W.Frag) (fns : List FnD) (fe : Nat → List D → M D) (A : Fb) (H0 : Hp)
def bOf : Src → Bool
  | .seq => true
  | .keys => true
  | _ => false
def tIfs (κ : List Kd) : E → TT
  | .nil => tYes
  | .cons a _ => tT w K fe A H0 κ a
  | _ => fun _ _ _ => False
def clsOf : List Kd → E → List ClR
  | κ, .cl vs k s t ifs rest => ⟨iS w K fe A H0 κ (bOf k) k s, gV w K A H0 (wipeK κ vs) k.pair t, tIfs w K fe A H0 (wipeK κ vs) ifs, vs⟩ :: clsOf (wipeK κ vs) rest
  | _, _ => []
def teOf : List Kd → E → TE
  | κ, .cl vs _ _ _ _ rest => teOf (wipeK κ vs) rest
  | κ, .em e => tD w K fns fe A H0 κ false e
  | _, _ => fun _ _ _ => False
def GoR (κ : List Kd) (e : E) (Dl : Addr) (σ : L2.St) (H : Hp) (Kx : Hp → Prop) : Prop := ∃ F au ρ u xs u' acc, Sim w K κ A H0 F au ρ u σ H ∧ au.b Dl ∧ au.a ≠ some Dl ∧ (A Dl ∨ H0 Dl = none) ∧ ev fe e ρ u = some (.list xs, u') ∧ H Dl = some (.lst acc) ∧ acc.length + xs.length ≤ sizeLine ∧
  ∀ H' ys, Ext (UD au Dl) H H' → UAt au.a u' H' → H' Dl = some (.lst (acc ++ ys)) → RepL w K F H' ys xs → Kx H'
end
theorem tLoop_by {J : It} {n : Nat} {G : Hp → Prop} {Y : Nat → Hp → V → Hp → Prop} (wk : Walk J n G Y) {c : ClR} {next : L2.St → Hp → (Hp → Prop) → Prop} {σ : L2.St} {H1 : Hp} {Kx : Hp → Prop} (Pv : Nat → Hp → Prop) (h0 : Pv 0 H1) (hG : ∀ i H, i ≤ n → Pv i H → G H)
    (hs : ∀ i x H H', i < n → Pv i H → Y i H x H' → c.g x (wipe σ c.vs) H' fun σ2 H2 => wipe σ2 c.vs = wipe σ c.vs ∧ c.tt σ2 H2 fun b H3 => if b = true then next σ2 H3 (Pv (i + 1)) else Pv (i + 1) H3) (hd : ∀ H, Pv n H → Kx H) : tLoop c next σ J H1 Kx := by
  refine ⟨fun i m H => m = n - i ∧ i ≤ n ∧ Pv i H, ⟨n, by simp, Nat.zero_le _, h0⟩, ?_⟩
  rintro i m H ⟨rfl, hi, p⟩
  have q := hG i H hi p
  by_cases hlt : i < n
  · exact .inr ⟨wk.goes i H hlt q, Pv (i + 1), fun H' p' => ⟨n - (i + 1), by omega, rfl, hlt, p'⟩, fun x H' y => hs i x H H' hlt p (wk.yields i H x H' hlt q y)⟩
  · have e : i = n := by omega
    subst e
    exact .inl ⟨wk.stops H q, hd H p⟩
section
variable {w : World} {K : PySem.W.Frag} {fns : List FnD} {fe : Nat → List D → M D} {A : Fb} {H0 : Hp}
/-- one turn's evaluation -/
noncomputable def turnF (fe : Nat → List D → M D) (vs : List Nat) (t : Tg) (ifs rest : E) (ρ : Env) (d : D) : M (List D) := bd (lf (bindD t d (wipeD ρ vs))) fun ρ1 => bd (ev fe ifs ρ1) fun y => bd (unl y) fun bs => match bs with
      | [] => bd (ev fe rest ρ1) unl
      | b :: _ => bd (truM b) fun k => if k then bd (ev fe rest ρ1) unl else rt []
theorem loop_ok {κ : List Kd} {vs : List Nat} {k : Src} {s : E} {t : Tg} {ifs rest : E} {Dl : Addr} {σ : L2.St} {H1 : Hp} {Kx : Hp → Prop} {J : It} {ds : List D} {F : Fb} {au : UB} {ρ : Env} {u u' : List Int} {xs : List D} {acc : List V}
    (hts : ∀ i ∈ t.slots, i ∈ vs) (hifs : ifs = .nil ∨ ∃ a, ifs = .cons a .nil)
    (ih : ∀ (σ : L2.St) (H : Hp) (Kx : Hp → Prop), GoR w K fe A H0 (wipeK κ vs) rest Dl σ H Kx → tGo (teOf w K fns fe A H0 (wipeK κ vs) rest) Dl (clsOf w K fe A H0 (wipeK κ vs) rest) σ H Kx)
    (S : Sim w K κ A H0 F au ρ u σ H1) (hb : au.b Dl) (hu : au.a ≠ some Dl) (hx : A Dl ∨ H0 Dl = none) (hg : goC (turnF fe vs t ifs rest ρ) ds u = some (xs, u')) (hD : H1 Dl = some (.lst acc)) (hz : acc.length + xs.length ≤ sizeLine)
    (hw : ∃ G Y, Walk J ds.length G Y ∧ ∀ H', Ext (UD au Dl) H1 H' → G H' ∧ ∀ i x H'', i < ds.length → Y i H' x H'' → Ext E0 H' H'' ∧ ∃ d, ds[i]? = some d ∧ (if k.pair = true then RepP w K F H'' x d else Rep w K F H'' x d))
    (hk : ∀ H' ys, Ext (UD au Dl) H1 H' → UAt au.a u' H' → H' Dl = some (.lst (acc ++ ys)) → RepL w K F H' ys xs → Kx H') :
    tLoop ⟨iS w K fe A H0 κ (bOf k) k s, gV w K A H0 (wipeK κ vs) k.pair t, tIfs w K fe A H0 (wipeK κ vs) ifs, vs⟩ (tGo (teOf w K fns fe A H0 (wipeK κ vs) rest) Dl (clsOf w K fe A H0 (wipeK κ vs) rest)) σ J H1 Kx := by
  obtain ⟨G, Y, wk, hw⟩ := hw
  refine tLoop_by wk (fun i H => ∃ ui ys1 xs1 xs2, goC (turnF fe vs t ifs rest ρ) (ds.drop i) ui = some (xs2, u') ∧ xs = xs1 ++ xs2 ∧ Ext (UD au Dl) H1 H ∧ UAt au.a ui H ∧ H Dl = some (.lst (acc ++ ys1)) ∧ RepL w K F H ys1 xs1) ?_ ?_ ?_ ?_
  · exact ⟨u, [], [], xs, by rw [List.drop_zero]; exact hg, rfl, .refl, S.uat, by rw [List.append_nil]; exact hD, .nil⟩
  · rintro i H hi ⟨ui, ys1, xs1, xs2, _, _, e, _⟩
    exact (hw H e).1
  · rintro i x H H' hi ⟨ui, ys1, xs1, xs2, hgo, hxs, e, ha, hDl, hr⟩ hy
    obtain ⟨e2, d, hd, hrep⟩ := (hw H e).2 i x H' hi hy
    have hdrop : ds.drop i = d :: ds.drop (i + 1) := by
      obtain ⟨hlt, hd2⟩ := List.getElem?_eq_some_iff.mp hd
      rw [List.drop_eq_getElem_cons hlt, hd2]
    rw [hdrop] at hgo
    obtain ⟨xd, uj, g1, g2⟩ := bd_some hgo
    obtain ⟨xs3, uk, g3, g4⟩ := bd_some g2
    cases rt_some g4
    obtain ⟨ρ1, v1, b1, b2⟩ := bd_some g1
    obtain ⟨b3, b4⟩ := lf_some b1
    dsimp only at b3 b4
    subst b4
    have hD' : H' Dl = some (.lst (acc ++ ys1)) := e2 Dl _ hDl fun z => z
    have e' : Ext (UD au Dl) H1 H' := e.trans e2.e0
    have a' : UAt au.a v1 H' := ha.e0 e2
    have S' := (S.stepD e' a' hb ⟨_, hD'⟩ hx).wipe vs
    have hr' : RepL w K F H' ys1 xs1 := RepL.ext e2.e0 (fun _ z => z) _ _ hr
    refine ⟨F, au, wipeD ρ vs, v1, d, ρ1, S', hrep, b3, fun σ' S2 only => ⟨?_, ?_⟩⟩
    · rw [only.wipe hts, wipe_idem]
    · obtain ⟨dy, v2, b5, b6⟩ := bd_some b2
      obtain ⟨bs, v3, b7, b8⟩ := bd_some b6
      obtain ⟨b9, b10⟩ := unl_some b7
      dsimp only at b9 b10
      subst b9 b10
      -- the rest, from a state
      have go : ∀ (H3 : Hp) (v : List Int), Ext (Au au.a) H' H3 → UAt au.a v H3 → bd (ev fe rest ρ1) unl v = some (xd, uj) → tGo (teOf w K fns fe A H0 (wipeK κ vs) rest) Dl (clsOf w K fe A H0 (wipeK κ vs) rest) σ' H3 (fun H => ∃ ui ys1 xs1 xs2, goC (turnF fe vs t ifs rest ρ) (ds.drop (i + 1)) ui = some (xs2, u') ∧ xs = xs1 ++ xs2 ∧ Ext (UD au Dl) H1 H ∧ UAt au.a ui H ∧ H Dl = some (.lst (acc ++ ys1)) ∧ RepL w K F H ys1 xs1) := fun H3 v x3 a3 hv => by
        obtain ⟨dr, v4, c1, c2⟩ := bd_some hv
        obtain ⟨c3, c4⟩ := unl_some c2
        dsimp only at c3 c4
        subst c3 c4
        have hD3 : H3 Dl = some (.lst (acc ++ ys1)) := x3 Dl _ hD' hu
        have hF : ∀ p, UD au Dl p → F p := fun p hp => hp.elim (S.auF p) fun z => by rw [z]; exact S.blk _ hb
        refine ih σ' H3 _ ⟨F, au, ρ1, v, xd, uj, acc ++ ys1, S2.step x3 a3, hb, hu, hx, c1, hD3, ?_, fun H4 ys2 x4 a4 hD4 r4 => ?_⟩
        · have hl := hr.length
          rw [hxs, List.length_append, List.length_append] at hz
          rw [List.length_append]
          omega
        · refine ⟨uj, ys1 ++ ys2, xs1 ++ xd, xs3, g3, by rw [hxs, List.append_assoc], (e'.trans (x3.mono fun p hp => .inl hp)).trans x4, a4, by rw [← List.append_assoc]; exact hD4, RepL.append (RepL.ext ((x3.mono fun p hp => (.inl hp : UD au Dl p)).trans x4 |>.mono hF) (fun _ z => z) _ _ hr') r4⟩
      rcases hifs with rfl | ⟨a, rfl⟩
      · cases rt_some b5
        exact go H' _ .refl a' b8
      · obtain ⟨da, v5, c1, c2⟩ := bd_some b5
        obtain ⟨dn, v6, c3, c4⟩ := bd_some c2
        cases rt_some c3
        obtain ⟨dl, v7, c5, c6⟩ := bd_some c4
        cases rt_some c5
        cases rt_some c6
        obtain ⟨k0, v8, c7, c8⟩ := bd_some b8
        obtain ⟨c9, c10⟩ := truM_some c7
        refine ⟨F, au, ρ1, v1, k0, v8, S2, by unfold bd; rw [c1]; exact c7, fun H3 x3 a3 => ?_⟩
        cases k0 with
        | true =>
          rw [if_pos rfl] at c8 ⊢
          exact go H3 v8 x3 a3 c8
        | false =>
          rw [if_neg Bool.false_ne_true] at c8 ⊢
          cases rt_some c8
          have hF : ∀ p, Au au.a p → F p := S.auF
          exact ⟨_, ys1, xs1, xs3, g3, by rw [hxs]; rfl, e'.trans (x3.mono fun p hp => .inl hp), a3, x3 Dl _ hD' hu, RepL.ext (x3.mono hF) (fun _ z => z) _ _ hr'⟩
  · rintro H ⟨ui, ys1, xs1, xs2, hgo, hxs, e, ha, hDl, hr⟩
    rw [List.drop_length] at hgo
    cases rt_some hgo
    rw [List.append_nil] at hxs
    subst hxs
    exact hk H ys1 e ha hDl hr
/-- the form of a clause list -/
def clWf : E → Bool
  | .cl vs _ _ t ifs rest => t.slots.all (fun i => vs.contains i) && (match ifs with
    | .nil => true
    | .cons _ .nil => true
    | _ => false) && clWf rest
  | .em _ => true
  | _ => false
theorem clWf_inv {vs : List Nat} {k : Src} {s : E} {t : Tg} {ifs rest : E} (h : clWf (.cl vs k s t ifs rest) = true) : (∀ i ∈ t.slots, i ∈ vs) ∧ (ifs = .nil ∨ ∃ a, ifs = .cons a .nil) ∧ clWf rest = true := by
  unfold clWf at h
  rw [Bool.and_eq_true, Bool.and_eq_true, List.all_eq_true] at h
  refine ⟨fun i hi => by simpa using h.1.1 i hi, ?_, h.2⟩
  have z := h.1.2
  split at z
  · exact .inl rfl
  · exact .inr ⟨_, rfl⟩
  · cases z
theorem walk_use {b pr : Bool} {F : Fb} {au : UB} {J : It} {H1 : Hp} {ds : List D} {Dl : Addr} (h : WalkD w K b pr (Ub au) F J H1 ds) (hb : au.b Dl) (hF : ∀ p, UD au Dl p → F p) : ∃ G Y, Walk J ds.length G Y ∧ ∀ H', Ext (UD au Dl) H1 H' → G H' ∧ ∀ i x H'', i < ds.length → Y i H' x H'' → Ext E0 H' H'' ∧ ∃ d, ds[i]? = some d ∧ (if pr = true then RepP w K F H'' x d else Rep w K F H'' x d) := by
  obtain ⟨G, Y, wk, q⟩ := h
  exact ⟨G, Y, wk, fun H' e => q (UD au Dl) F H' (fun _ p hp => .inl (hp.imp id fun z => by rw [z]; exact hb)) hF (fun p hp => .inl hp) e⟩
theorem go_ok : ∀ (e : E) (κ : List Kd) (Dl : Addr) (σ : L2.St) (H : Hp) (Kx : Hp → Prop), clWf e = true → GoR w K fe A H0 κ e Dl σ H Kx → tGo (teOf w K fns fe A H0 κ e) Dl (clsOf w K fe A H0 κ e) σ H Kx
  | .em e, κ, Dl, σ, H, Kx, _, ⟨F, au, ρ, u, xs, u', acc, S, hb, hu, hx, he, hD, hz, hk⟩ => by
    obtain ⟨d, u1, e1, e2⟩ := bd_some he
    cases rt_some e2
    refine ⟨F, au, ρ, u, d, _, S, e1, fun v H' x1 a1 r1 _ => ?_⟩
    have hD' := x1 Dl _ hD hu
    have hF : F Dl := S.blk _ hb
    have x2 : Ext (UD au Dl) H' (upd H' Dl (.lst (acc ++ [v]))) := Ext.upd (.inr rfl)
    refine ⟨acc, hD', ?_, hk _ [v] ((x1.mono fun p hp => .inl hp).trans x2) (fun a ha => ?_) upd_same (.cons (Rep.ext (Ext.upd hF) (fun _ z => z) _ _ r1) .nil)⟩
    · rw [List.length_singleton] at hz; omega
    · rw [upd_ne (fun z => hu (by rw [← z]; exact ha))]
      exact a1 a ha
  | .cl vs k s t ifs rest, κ, Dl, σ, H, Kx, hwf, ⟨F, au, ρ, u, xs, u', acc, S, hb, hu, hx, he, hD, hz, hk⟩ => by
    obtain ⟨h1, h2, h3⟩ := clWf_inv hwf
    obtain ⟨dx, u1, e1, e2⟩ := bd_some he
    obtain ⟨ds, u2, e3, e4⟩ := bd_some e2
    obtain ⟨e5, e6⟩ := lf_some e3
    dsimp only at e5 e6
    subst e6
    obtain ⟨xs', u3, e7, e8⟩ := bd_some e4
    have e9 : xs' = xs ∧ u3 = u' := by
      split at e8
      · cases rt_some e8; exact ⟨rfl, rfl⟩
      · cases e8
    obtain ⟨rfl, rfl⟩ := e9
    have hF : ∀ p, UD au Dl p → F p := fun p hp => hp.elim (S.auF p) fun z => by rw [z]; exact S.blk _ hb
    refine ⟨F, au, ρ, u, dx, u2, ds, S, e1, e5, fun J H1 x1 a1 wk => ?_⟩
    refine loop_ok h1 h2 (fun σ H Kx g => go_ok rest (wipeK κ vs) Dl σ H Kx h3 g) (S.step x1 a1) hb hu hx e7 (x1 Dl _ hD hu) hz (walk_use wk hb hF) fun H' ys x2 a2 hD2 r2 => ?_
    exact hk H' ys ((x1.mono fun p hp => .inl hp).trans x2) a2 hD2 r2
  | .var _, _, _, _, _, _, h, _ => by cases h
  | .own _, _, _, _, _, _, h, _ => by cases h
  | .int _, _, _, _, _, _, h, _ => by cases h
  | .bl _, _, _, _, _, _, h, _ => by cases h
  | .non, _, _, _, _, _, h, _ => by cases h
  | .str _, _, _, _, _, _, h, _ => by cases h
  | .op _ _ _, _, _, _, _, _, h, _ => by cases h
  | .chain _ _ _ _ _, _, _, _, _, _, h, _ => by cases h
  | .not _, _, _, _, _, _, h, _ => by cases h
  | .neg _, _, _, _, _, _, h, _ => by cases h
  | .and _ _, _, _, _, _, _, h, _ => by cases h
  | .or _ _, _, _, _, _, _, h, _ => by cases h
  | .ifx _ _ _, _, _, _, _, _, h, _ => by cases h
  | .tup _, _, _, _, _, _, h, _ => by cases h
  | .lst _, _, _, _, _, _, h, _ => by cases h
  | .nil, _, _, _, _, _, h, _ => by cases h
  | .cons _ _, _, _, _, _, _, h, _ => by cases h
  | .star _ _, _, _, _, _, _, h, _ => by cases h
  | .call _ _ _, _, _, _, _, _, h, _ => by cases h
  | .blt _ _, _, _, _, _, _, h, _ => by cases h
  | .isi _ _, _, _, _, _, _, h, _ => by cases h
  | .sset _, _, _, _, _, _, h, _ => by cases h
  | .ix _ _, _, _, _, _, _, h, _ => by cases h
  | .sl _ _ _, _, _, _, _, _, h, _ => by cases h
  | .no, _, _, _, _, _, h, _ => by cases h
  | .rev _, _, _, _, _, _, h, _ => by cases h
  | .urn _, _, _, _, _, _, h, _ => by cases h
  | .dict0, _, _, _, _, _, h, _ => by cases h
end
end DL

end
section
set_option Elab.async false
set_option linter.all false
set_option autoImplicit false
set_option maxRecDepth 100000
set_option maxHeartbeats 4000000
/-! own layer: an expression that passes the check computes what it says -/
namespace DL
open PySem PySem.Spec PyProof.Rows L2
section
variable {fe : Nat → List D → M D} {k : Nat} {A : Fb} {H0 : Hp}
def Good (X : Cx) (c : CC) (fe : Nat → List D → M D) (A : Fb) (H0 : Hp) (κ : List Kd) (b : Bool) (e : E) : Nd → Prop
  | .e a => PE X a (RD X c fe A H0 κ b e)
  | .t a => PT X a (RT X fe A H0 κ e)
  | .es as => PA X as (RA X fe A H0 κ b e)
  | .cs gs elt vs0 => clWf e = true ∧ PE X elt (teOf X.w X.K c.fns fe A H0 κ e) ∧ Paired (ClI X) gs (clsOf X.w X.K fe A H0 κ e) ∧ Nest (clsOf X.w X.K fe A H0 κ e) ∧ (∀ q ∈ clsOf X.w X.K fe A H0 κ e, ∀ i ∈ q.vs, i ∈ vs0) ∧ (∀ g ∈ gs, g.is_async = 0) ∧ ∀ g ∈ gs, ∀ env x, foldedSetIterable g.iter env x = pure x
theorem folded_of {e : Expr} (h : notSet e = true) (env : PySem.Env) (x : Value) : foldedSetIterable e env x = pure x := by
  cases e <;> first | rfl | cases h
/-- plain nodes: value and test alike -/
theorem good_plain {X : Cx} {c : CC} {κ : List Kd} {b : Bool} {e : E} {nd : Nd} {a : Expr} (hn : nd.ex = some a) (hp : plainX a = true) (h : ∀ b, b = true ∨ True → PE X a (RD X c fe A H0 κ true e)) (h2 : PE X a (RD X c fe A H0 κ b e)) : Good X c fe A H0 κ b e nd := by
  cases nd with
  | e a' => cases hn; exact h2
  | t a' => cases hn; exact s_truth hp (h true (.inr trivial))
  | es _ => cases hn
  | cs _ _ _ => cases hn
section
variable {w : World} {K : PySem.W.Frag} {κ : List Kd} {F : Fb} {au : UB} {ρ : Env} {u u' : List Int} {σ : L2.St} {H H' : Hp}
/-- a new list that is being filled -/
theorem Sim.newD {Dl : Addr} (S : Sim w K κ A H0 F au ρ u σ H) (hn : H Dl = none) : Sim w K κ A H0 (fun p => F p ∨ p = Dl) ⟨au.a, fun p => au.b p ∨ p = Dl⟩ ρ u σ (upd H Dl (.lst [])) where
  len := S.len
  fok := fun p hp n => by
    by_cases e : p = Dl
    · subst e; rw [upd_same] at n; cases n
    · rw [upd_ne e] at n
      exact S.fok p (hp.resolve_right e) n
  nf := fun p hp o x z => by
    by_cases e : p = Dl
    · subst e; rw [upd_same] at z; cases z
    · rw [upd_ne e] at z
      exact S.nf p (hp.resolve_right e) o x z
  ext := S.ext.trans (Ext.new hn)
  urn := fun a ha => ⟨.inl (S.urn a ha).1, (S.urn a ha).2⟩
  blk := fun p hp => hp.imp (S.blk p) id
  uat := S.uat.e0 (Ext.new hn)
  d := fun i x k r => by
    obtain ⟨v, h1, h2⟩ := S.d i x k r
    exact ⟨v, h1, Rep.ext (Ext.new hn) (fun _ z => z) _ _ (Rep.grow (grow_new hn) _ _ h2)⟩
  own := fun i x k r => by
    obtain ⟨a, h1, h2, h3, h4, h5, h6⟩ := S.own i x k r
    have ne : a ≠ Dl := fun e => by
      obtain ⟨o, ho, _⟩ := h6.there
      rw [e, hn] at ho; cases ho
    refine ⟨a, h1, .inl h2, h3, h4, fun z => h5 ?_, (h6.grow (grow_new hn)).ext (Ext.new hn) (fun _ z => z) (by rw [upd_ne ne])⟩
    rcases z with z | z | z
    · exact .inl z
    · exact .inr z
    · exact absurd z ne
  dist := S.dist
  ur := S.ur
end
theorem pair_not {c : CC} {k : Src} {s : E} {iter tg : Expr} {bb : Bool} {n : Nd} {t : Tg} {c' : CC} (h : srcAst k s iter tg c = some (bb, n)) (hk : k.pair = true) (ht : chkTop c' t tg = true) : t.isNm = false := by
  have hT : isTup_ tg = true := by
    cases k with
    | zip =>
      unfold srcAst at h
      dsimp only at h
      split at h
      · split at h
        · rename_i h1
          simp only [Bool.and_eq_true] at h1
          exact h1.2
        · cases h
      · cases h
    | enum =>
      unfold srcAst at h
      dsimp only at h
      split at h
      · split at h
        · rename_i h1
          simp only [Bool.and_eq_true] at h1
          exact h1.2
        · cases h
      · cases h
    | items => cases h
    | seq => cases hk
    | rng1 => cases hk
    | rng2 => cases hk
    | rng3 => cases hk
    | keys => cases hk
  cases t with
  | nm i =>
    exfalso
    unfold chkTop at ht
    cases tg <;> first | (cases hT; done) | skip
    simp [Tg.isNm, chkT] at ht
  | _ => rfl
theorem bOf_src {c : CC} {k : Src} {s : E} {iter tg : Expr} {bb : Bool} {n : Nd} (h : srcAst k s iter tg c = some (bb, n)) : bb = bOf k := by
  cases k with
  | seq =>
    unfold srcAst at h
    dsimp only at h
    split at h
    · cases h; rfl
    · cases h
  | rng1 =>
    unfold srcAst at h
    dsimp only at h
    split at h
    · split at h
      · cases h; rfl
      · cases h
    · cases h
  | rng2 =>
    unfold srcAst at h
    dsimp only at h
    split at h
    · split at h
      · cases h; rfl
      · cases h
    · cases h
  | rng3 =>
    unfold srcAst at h
    dsimp only at h
    split at h
    · split at h
      · cases h; rfl
      · cases h
    · cases h
  | zip =>
    unfold srcAst at h
    dsimp only at h
    split at h
    · split at h
      · cases h; rfl
      · cases h
    · cases h
  | enum =>
    unfold srcAst at h
    dsimp only at h
    split at h
    · split at h
      · cases h; rfl
      · cases h
    · cases h
  | items => cases h
  | keys =>
    unfold srcAst at h
    dsimp only at h
    split at h
    · cases h; rfl
    · cases h
theorem len1 {as : List Expr} (h : (as.length == 1) = true) : ∃ a, as = [a] := by
  match as, h with
  | [a], _ => exact ⟨a, rfl⟩
theorem len2 {as : List Expr} (h : (as.length == 2) = true) : ∃ a b, as = [a, b] := by
  match as, h with
  | [a, b], _ => exact ⟨a, b, rfl⟩
theorem len3 {as : List Expr} (h : (as.length == 3) = true) : ∃ a b c, as = [a, b, c] := by
  match as, h with
  | [a, b, c], _ => exact ⟨a, b, c, rfl⟩
theorem src_ok {X : Cx} {c : CC} (f : Fits X c fe k) {κ : List Kd} {kk : Src} {s : E} {iter tg : Expr} {bb : Bool} {n : Nd} (h : srcAst kk s iter tg c = some (bb, n)) (g : Good X c fe A H0 κ bb s n) : PI X tg iter (iS X.w X.K fe A H0 κ (bOf kk) kk s) := by
  have hbb := bOf_src h
  subst hbb
  cases kk with
  | seq =>
    unfold srcAst at h
    dsimp only at h
    split at h
    · cases h; exact src_seq g
    · cases h
  | rng1 =>
    unfold srcAst at h
    dsimp only at h
    split at h
    · split at h
      · rename_i h1
        cases h
        simp only [Bool.and_eq_true] at h1
        obtain ⟨⟨⟨h2, h3⟩, h4⟩, h5⟩ := h1
        have e := of_decide_eq_true h2
        subst e
        obtain ⟨a, rfl⟩ := len1 h5
        exact src_rng1 f h3 h4 g
      · cases h
    · cases h
  | rng2 =>
    unfold srcAst at h
    dsimp only at h
    split at h
    · split at h
      · rename_i h1
        cases h
        simp only [Bool.and_eq_true] at h1
        obtain ⟨⟨⟨h2, h3⟩, h4⟩, h5⟩ := h1
        have e := of_decide_eq_true h2
        subst e
        obtain ⟨a, a2, rfl⟩ := len2 h5
        exact src_rng2 f h3 h4 g
      · cases h
    · cases h
  | rng3 =>
    unfold srcAst at h
    dsimp only at h
    split at h
    · split at h
      · rename_i h1
        cases h
        simp only [Bool.and_eq_true] at h1
        obtain ⟨⟨⟨h2, h3⟩, h4⟩, h5⟩ := h1
        have e := of_decide_eq_true h2
        subst e
        obtain ⟨a, a2, a3, rfl⟩ := len3 h5
        exact src_rng3 f h3 h4 g
      · cases h
    · cases h
  | zip =>
    unfold srcAst at h
    dsimp only at h
    split at h
    · split at h
      · rename_i h1
        cases h
        simp only [Bool.and_eq_true] at h1
        obtain ⟨⟨⟨⟨h2, h3⟩, h4⟩, h5⟩, h6⟩ := h1
        have e := of_decide_eq_true h2
        subst e
        obtain ⟨a, a2, rfl⟩ := len2 h5
        cases tg <;> first | (cases h6; done) | skip
        exact src_zip f h3 h4 g
      · cases h
    · cases h
  | enum =>
    unfold srcAst at h
    dsimp only at h
    split at h
    · split at h
      · rename_i h1
        cases h
        simp only [Bool.and_eq_true] at h1
        obtain ⟨⟨⟨⟨h2, h3⟩, h4⟩, h5⟩, h6⟩ := h1
        have e := of_decide_eq_true h2
        subst e
        obtain ⟨a, rfl⟩ := len1 h5
        cases tg <;> first | (cases h6; done) | skip
        exact src_enum f h3 h4 g
      · cases h
    · cases h
  | items => cases h
  | keys =>
    unfold srcAst at h
    dsimp only at h
    split at h
    · cases h; exact src_keys g
    · cases h
theorem slots_kd {κ : List Kd} {vs : List Nat} {t : Tg} (h : t.slots.all (fun i => vs.contains i && kdAt (wipeK κ vs) i .d) = true) : (∀ i ∈ t.slots, i ∈ vs) ∧ ∀ i ∈ t.slots, (wipeK κ vs)[i]? = some .d := by
  rw [List.all_eq_true] at h
  refine ⟨fun i hi => ?_, fun i hi => ?_⟩
  · have z := h i hi
    rw [Bool.and_eq_true] at z
    simpa using z.1
  · have z := h i hi
    rw [Bool.and_eq_true] at z
    exact of_decide_eq_true z.2
theorem ownOf_snd (N : List Str) (vs : List Nat) : (ownOf N vs).map (·.2) = vs := by
  unfold ownOf
  rw [List.map_map]
  exact List.map_id vs
/-- what the rules of a comprehension ask for -/
def CompF (X : Cx) (elt tg iter : Expr) (gifs : List Expr) (gs : List Comprehension) (scope : Scope) (t : TE) : Prop := ∃ (te : TE) (cR : ClR) (cs : List ClR) (own : List (Str × Nat)), PI X tg iter cR.wi ∧ BlkOk X.N X.env.scope scope own ∧ cR.vs = own.map (·.2) ∧ Nest (cR :: cs) ∧ (∀ g ∈ gs, g.is_async = 0) ∧ (∀ g ∈ (⟨tg, iter, gifs, 0⟩ : Comprehension) :: gs, ∀ env x, foldedSetIterable g.iter env x = pure x) ∧ BlkCl X elt (⟨tg, iter, gifs, 0⟩ :: gs) scope te cR cs ∧ ∀ σ H Q, t σ H Q → tLcN te cR cs σ H Q
theorem CompF.pe {X : Cx} {elt tg iter : Expr} {gifs : List Expr} {gs : List Comprehension} {scope : Scope} {pos : Pos} {t : TE} (hc : X.calm = true) (hN : X.N.Nodup) (h : CompF X elt tg iter gifs gs scope t) : PE X (.ListComp elt (⟨tg, iter, gifs, 0⟩ :: gs) scope pos) t := by
  obtain ⟨te, cR, cs, own, h1, h2, h3, h4, h5, h6, h7, h8⟩ := h
  exact PE.imp (pe_lcN hc hN h1 h2 h3 h4 h5 h6 h7) h8
theorem CompF.ps {X : Cx} {elt tg iter : Expr} {gifs : List Expr} {gs : List Comprehension} {scope : Scope} {pos spos : Pos} {t : TE} {i : Nat} {y : Str} {py : Pos} (hc : X.calm = true) (hN : X.N.Nodup) (h : CompF X elt tg iter gifs gs scope t) (hy : X.N[i]? = some y) (hyl : X.env.scope.names.lookup y = some .local)
    (hsw : swapsWith (.ListComp elt (⟨tg, iter, gifs, 0⟩ :: gs) scope pos) (some (.Name y py)) spos.line X.env = pure true) : PS X (.Assign [.Name y py] (.ListComp elt (⟨tg, iter, gifs, 0⟩ :: gs) scope pos) spos) (tAsg t (gName i)) := by
  obtain ⟨te, cR, cs, own, h1, h2, h3, h4, h5, h6, h7, h8⟩ := h
  have z := ps_setLcN hc hN hy hyl hsw h1 h2 h3 h4 h5 h6 h7
  exact ⟨fun pins s σ H D I q => z.run pins s σ H D I (h8 σ H _ q)⟩
/-- a whole comprehension -/
theorem s_comp {X : Cx} {c : CC} (f : Fits X c fe k) {κ : List Kd} {b : Bool} {vs : List Nat} {kk : Src} {s : E} {t : Tg} {ifs rest : E} {elt tg iter : Expr} {gifs : List Expr} {gs : List Comprehension} {scope : Scope} (hB : blkC c.N c.sc scope (ownOf c.N vs) = true)
    (hts : ∀ i ∈ t.slots, i ∈ vs) (hifs : ifs = .nil ∨ ∃ a, ifs = .cons a .nil) (hns : notSet iter = true) (hpi : PI X tg iter (iS X.w X.K fe A H0 κ (bOf kk) kk s))
    (hblk : ∀ (s1 : Shared) (H : Hp) (C : Addr) (cl : List (Str × Addr)) (fp : List Addr), ClB (X.blk s1 H scope (compEnvC scope cl C X.env) fp) ⟨tg, iter, gifs, 0⟩ ⟨iS X.w X.K fe A H0 κ (bOf kk) kk s, gV X.w X.K A H0 (wipeK κ vs) kk.pair t, tIfs X.w X.K fe A H0 (wipeK κ vs) ifs, vs⟩ ∧ Good (X.blk s1 H scope (compEnvC scope cl C X.env) fp) (c.blk scope) fe A H0 (wipeK κ vs) false rest (.cs gs elt vs))
    (hg0 : Good (X.blk X.s_0 X.H_0 scope (compEnvC scope [] 0 X.env) []) (c.blk scope) fe A H0 (wipeK κ vs) false rest (.cs gs elt vs)) :
    CompF X elt tg iter gifs gs scope (RD X c fe A H0 κ b (.cl vs kk s t ifs rest)) := by
  obtain ⟨hwf, _, _, hnest, hin, hz, hfs⟩ := hg0
  refine ⟨teOf X.w X.K c.fns fe A H0 (wipeK κ vs) rest, ⟨iS X.w X.K fe A H0 κ (bOf kk) kk s, gV X.w X.K A H0 (wipeK κ vs) kk.pair t, tIfs X.w X.K fe A H0 (wipeK κ vs) ifs, vs⟩, clsOf X.w X.K fe A H0 (wipeK κ vs) rest, ownOf c.N vs, hpi, blkOk_by (by rw [f.hN, f.sc]; exact hB), (ownOf_snd c.N vs).symm, List.pairwise_cons.mpr ⟨fun q hq => hin q hq, hnest⟩, hz, fun g hg => ?_, ⟨fun s1 H C cl fp => (hblk s1 H C cl fp).2.2.1, fun s1 H C cl fp g gs' e => ?_⟩, fun σ H Q ⟨F, au, ρ, u, d, u', S, e, q⟩ => ?_⟩
  · rcases List.mem_cons.mp hg with e | hg
    · rw [e]; exact folded_of hns
    · exact hfs g hg
  · cases e
    exact ⟨(hblk s1 H C cl fp).1, (hblk s1 H C cl fp).2.2.2.1⟩
  · obtain ⟨dx, u1, e1, e2⟩ := bd_some e
    obtain ⟨ds, u2, e3, e4⟩ := bd_some e2
    obtain ⟨e5, e6⟩ := lf_some e3
    dsimp only at e5 e6
    subst e6
    obtain ⟨xs, u3, e7, e8⟩ := bd_some e4
    have e9 : d = .list xs ∧ u3 = u' ∧ fits xs.length = true := by
      split at e8
      · rename_i hf
        cases rt_some e8; exact ⟨rfl, rfl, hf⟩
      · cases e8
    obtain ⟨rfl, rfl, hf⟩ := e9
    refine ⟨F, au, ρ, u, dx, u2, ds, S, e1, e5, fun J H1 x1 a1 wk Dl hn => ?_⟩
    have S1 := S.step x1 a1
    have S2 := S1.newD hn
    have hx : A Dl ∨ H0 Dl = none := by
      cases hh : H0 Dl with
      | none => exact .inr rfl
      | some o =>
        by_cases ha : A Dl
        · exact .inl ha
        · have z := S1.ext Dl o hh ha
          rw [hn] at z; cases z
    have hu : au.a ≠ some Dl := fun z => by
      have z2 := a1 Dl z
      rw [hn] at z2; cases z2
    have hHn : H Dl = none := by
      cases hh : H Dl with
      | none => rfl
      | some o =>
        have z := x1 Dl o hh hu
        rw [hn] at z; cases z
    have hw : ∃ G Y, Walk J ds.length G Y ∧ ∀ H', Ext (UD ⟨au.a, fun p => au.b p ∨ p = Dl⟩ Dl) (upd H1 Dl (.lst [])) H' → G H' ∧ ∀ i x H'', i < ds.length → Y i H' x H'' → Ext E0 H' H'' ∧ ∃ d, ds[i]? = some d ∧ (if kk.pair = true then RepP X.w X.K (fun p => F p ∨ p = Dl) H'' x d else Rep X.w X.K (fun p => F p ∨ p = Dl) H'' x d) := by
      obtain ⟨G, Y, wk1, wk2⟩ := wk
      refine ⟨G, Y, wk1, fun H' e => wk2 (UD au Dl) _ H' (fun _ p hp => ?_) (fun p hp => ?_) (grow_new hn) ((Ext.new hn).trans e)⟩
      · rcases hp with hp | rfl
        · exact .inl (.inl hp)
        · exact .inr hn
      · rcases hp with hp | rfl
        · exact .inl (S.auF p hp)
        · exact .inr rfl
    refine loop_ok (au := ⟨au.a, fun p => au.b p ∨ p = Dl⟩) hts hifs (fun σ H Kx g => go_ok rest (wipeK κ vs) Dl σ H Kx hwf g) S2 (.inr rfl) hu hx e7 upd_same (by rw [List.length_nil, Nat.zero_add]; exact fits_line hf) hw fun H' ys x2 a2 hD2 r2 => ?_
    rw [List.nil_append] at hD2
    have fr : Fresh X.w X.K F H (.list xs) (.ref Dl) H' := ⟨Dl, rfl, hHn, .inl ⟨ys, xs, rfl, hD2, r2⟩⟩
    refine q _ H' (fun p o h n => ?_) a2 (RepM.of (fr.rep S.fok)) fun _ => fr
    have z := x1 p o h n
    have ne : p ≠ Dl := fun e => by rw [e, hn] at z; cases z
    refine x2 p o (by rw [upd_ne ne]; exact z) fun hp => ?_
    rcases hp with hp | hp
    · exact n hp
    · exact ne hp
end
end DL

end
section
set_option Elab.async false
set_option linter.all false
set_option autoImplicit false
set_option maxRecDepth 100000
set_option maxHeartbeats 4000000
/-! own layer: soundness of the check for expressions -/
namespace DL
open PySem PySem.Spec PyProof.Rows L2
section
variable {fe : Nat → List D → M D} {k : Nat}
theorem plainG {X : Cx} {c : CC} {A : Fb} {H0 : Hp} {κ : List Kd} {b : Bool} {e : E} {nd : Nd} {a : Expr} (hn : nd.ex = some a) (hp : plainX a = true) (h : ∀ b, PE X a (RD X c fe A H0 κ b e)) : Good X c fe A H0 κ b e nd := good_plain hn hp (fun _ _ => h true) (h b)
theorem const_g {X : Cx} {c : CC} {A : Fb} {H0 : Hp} {κ : List Kd} {b : Bool} {e : E} {nd : Nd} {a : Expr} {v : V} {d : D} (hn : nd.ex = some a) (hp : plainX a = true) (h : PE X a (tC v)) (hev : ∀ ρ, ev fe e ρ = rt d) (hr : ∀ F H, Rep X.w X.K F H v d) (hf : frE c.fns e = false) : Good X c fe A H0 κ b e nd :=
  plainG hn hp fun b => s_const h hev hr hf
theorem nd_of {X : Cx} {c : CC} {A : Fb} {H0 : Hp} {κ : List Kd} {b : Bool} {e : E} {t : Bool} {a : Expr} (h : Good X c fe A H0 κ b e (Nd.of t a)) : (t = false → PE X a (RD X c fe A H0 κ b e)) ∧ (t = true → PT X a (RT X fe A H0 κ e)) := by
  cases t
  · exact ⟨fun _ => h, fun z => by cases z⟩
  · exact ⟨fun z => (by cases z), fun _ => h⟩
theorem isT_ex {nd : Nd} {a : Expr} (h : nd.ex = some a) : (nd.isT = false ∧ nd = .e a) ∨ (nd.isT = true ∧ nd = .t a) := by
  cases nd with
  | e a' => cases h; exact .inl ⟨rfl, rfl⟩
  | t a' => cases h; exact .inr ⟨rfl, rfl⟩
  | es _ => cases h
  | cs _ _ _ => cases h
theorem urnOf_inv {κ : List Kd} {i : Nat} (h : urnOf κ = some i) : κ[i]? = some .urn := by
  unfold urnOf at h
  obtain ⟨h1, h2, _⟩ := List.findIdx?_eq_some_iff_getElem.mp h
  rw [List.getElem?_eq_getElem h1]
  exact congrArg some (of_decide_eq_true h2)
def ifsChk (p : E → Expr → Bool) (ifs : E) (g : List Expr) : Bool := match ifs, g with
  | .nil, [] => true
  | .cons a .nil, [x] => p a x
  | _, _ => false
theorem ifs_ok {X : Cx} {c : CC} {A : Fb} {H0 : Hp} {κ : List Kd} {ifs : E} {gifs : List Expr} (ih : ∀ a x, ifs = .cons a .nil → chk c κ true a (.t x) = true → Good X c fe A H0 κ true a (.t x)) (h : ifsChk (fun a x => chk c κ true a (.t x)) ifs gifs = true) :
    PTs X gifs (tIfs X.w X.K fe A H0 κ ifs) ∧ (ifs = .nil ∨ ∃ a, ifs = .cons a .nil) := by
  unfold ifsChk at h
  split at h
  · exact ⟨pts_nil, .inl rfl⟩
  · exact ⟨pts_one (ih _ _ rfl h), .inr ⟨_, rfl⟩⟩
  · cases h
theorem sound : ∀ (e : E) (X : Cx) (c : CC) (A : Fb) (H0 : Hp) (κ : List Kd) (b : Bool) (nd : Nd), Fits X c fe k → chk c κ b e nd = true → Good X c fe A H0 κ b e nd
  | .var i, X, c, A, H0, κ, b, nd, f, h => by
    unfold chk at h
    split at h
    · rename_i hn
      rw [Bool.and_eq_true] at h
      exact plainG hn rfl fun b => s_var f h.1 h.2
    · cases h
  | .own i, X, c, A, H0, κ, b, nd, f, h => by
    unfold chk at h
    split at h
    · rename_i hn
      rw [Bool.and_eq_true, Bool.and_eq_true] at h
      obtain ⟨⟨hb, h1⟩, h2⟩ := h
      subst hb
      exact good_plain hn rfl (fun _ _ => s_own f h1 h2) (s_own f h1 h2)
    · cases h
  | .int n, X, c, A, H0, κ, b, nd, f, h => by
    unfold chk at h
    split at h
    · rename_i hn
      have e := of_decide_eq_true h
      subst e
      exact const_g hn rfl pe_int (fun _ => rfl) (fun _ _ => .int _) rfl
    · cases h
  | .bl n, X, c, A, H0, κ, b, nd, f, h => by
    unfold chk at h
    split at h
    · rename_i hn
      have e := of_decide_eq_true h
      subst e
      exact const_g hn rfl pe_bl (fun _ => rfl) (fun _ _ => .bl _) rfl
    · cases h
  | .non, X, c, A, H0, κ, b, nd, f, h => by
    unfold chk at h
    split at h
    · rename_i hn
      exact const_g hn rfl pe_non (fun _ => rfl) (fun _ _ => .non) rfl
    · cases h
  | .str n, X, c, A, H0, κ, b, nd, f, h => by
    unfold chk at h
    split at h
    · rename_i hn
      have e := of_decide_eq_true h
      subst e
      exact const_g hn rfl pe_str (fun _ => rfl) (fun _ _ => .str _) rfl
    · cases h
  | .op o x y, X, c, A, H0, κ, b, nd, f, h => by
    unfold chk at h
    split at h
    · rename_i hn
      rw [Bool.and_eq_true, Bool.and_eq_true, decide_eq_true_eq] at h
      exact plainG hn rfl fun b => s_bin f h.1.1 (sound x X c A H0 κ true _ f h.1.2) (sound y X c A H0 κ true _ f h.2)
    · rename_i hn
      rw [Bool.and_eq_true, Bool.and_eq_true, Bool.and_eq_true, decide_eq_true_eq] at h
      have h1 : PE X _ _ := sound x X c A H0 κ true _ f h.1.2
      have h2 : PE X _ _ := sound y X c A H0 κ true _ f h.2
      rcases isT_ex hn with ⟨_, rfl⟩ | ⟨_, rfl⟩
      · exact s_cmp f h.1.1.1 h.1.1.2 h1 h2
      · exact s_cmpT f h.1.1.1 h.1.1.2 h1 h2
    · cases h
  | .chain o p x y z, X, c, A, H0, κ, b, nd, f, h => by
    unfold chk at h
    split at h
    · rename_i hn
      simp only [Bool.and_eq_true, decide_eq_true_eq] at h
      obtain ⟨⟨⟨⟨⟨⟨ho, hp⟩, hn1⟩, hn2⟩, hx⟩, hy⟩, hz⟩ := h
      have h1 : PE X _ _ := sound x X c A H0 κ true _ f hx
      have h2 : PE X _ _ := sound y X c A H0 κ true _ f hy
      have h3 : PE X _ _ := sound z X c A H0 κ true _ f hz
      rcases isT_ex hn with ⟨_, rfl⟩ | ⟨_, rfl⟩
      · exact s_chain f ho hp hn2 h1 h2 h3
      · exact s_chainT f ho hp hn2 h1 h2 h3
    · cases h
  | .not x, X, c, A, H0, κ, b, nd, f, h => by
    unfold chk at h
    split at h
    · rename_i hn
      have g := nd_of (sound x X c A H0 κ true _ f h)
      rcases isT_ex hn with ⟨ht, rfl⟩ | ⟨ht, rfl⟩
      · exact s_not (g.1 rfl)
      · exact s_notT (g.2 rfl)
    · cases h
  | .neg x, X, c, A, H0, κ, b, nd, f, h => by
    unfold chk at h
    split at h
    · rename_i hn
      exact plainG hn rfl fun b => s_neg (sound x X c A H0 κ true _ f h)
    · cases h
  | .and x y, X, c, A, H0, κ, b, nd, f, h => by
    unfold chk at h
    split at h
    · rename_i rest p hn
      rw [Bool.and_eq_true] at h
      have g1 := nd_of (sound x X c A H0 κ b _ f h.1)
      have g2 := nd_of (sound y X c A H0 κ b _ f h.2)
      unfold tailOp at g2
      rcases isT_ex hn with ⟨ht, rfl⟩ | ⟨ht, rfl⟩
      · have h2 := g2.1 rfl
        refine s_and (g1.1 rfl) ?_
        cases rest with
        | nil => exact pe_one h2
        | cons _ _ => exact h2
      · have h2 := g2.2 rfl
        refine s_andT (g1.2 rfl) ?_
        cases rest with
        | nil => exact pw_and1 h2
        | cons _ _ => exact pw_bool h2
    · cases h
  | .or x y, X, c, A, H0, κ, b, nd, f, h => by
    unfold chk at h
    split at h
    · rename_i rest p hn
      rw [Bool.and_eq_true] at h
      have g1 := nd_of (sound x X c A H0 κ b _ f h.1)
      have g2 := nd_of (sound y X c A H0 κ b _ f h.2)
      unfold tailOp at g2
      rcases isT_ex hn with ⟨ht, rfl⟩ | ⟨ht, rfl⟩
      · have h2 := g2.1 rfl
        refine s_or (g1.1 rfl) ?_
        cases rest with
        | nil => exact pe_one h2
        | cons _ _ => exact h2
      · have h2 := g2.2 rfl
        refine s_orT (g1.2 rfl) ?_
        cases rest with
        | nil => exact pw_or1 h2
        | cons _ _ => exact pw_bool h2
    · cases h
  | .ifx t x y, X, c, A, H0, κ, b, nd, f, h => by
    unfold chk at h
    split at h
    · rw [Bool.and_eq_true, Bool.and_eq_true] at h
      exact s_ifx (sound t X c A H0 κ true _ f h.1.1) (sound x X c A H0 κ b _ f h.1.2) (sound y X c A H0 κ b _ f h.2)
    · cases h
  | .tup es, X, c, A, H0, κ, b, nd, f, h => by
    unfold chk at h
    split at h
    · rename_i hn
      exact plainG hn rfl fun b => s_tup (sound es X c A H0 κ false _ f h)
    · cases h
  | .lst es, X, c, A, H0, κ, b, nd, f, h => by
    unfold chk at h
    split at h
    · rename_i hn
      exact plainG hn rfl fun b => s_lst (sound es X c A H0 κ false _ f h)
    · cases h
  | .nil, X, c, A, H0, κ, b, nd, f, h => by
    unfold chk at h
    split at h
    · exact s_nil
    · cases h
  | .cons a r, X, c, A, H0, κ, b, nd, f, h => by
    unfold chk at h
    split at h
    · rw [Bool.and_eq_true, Bool.and_eq_true] at h
      exact s_cons h.1.1 (sound a X c A H0 κ b _ f h.1.2) (sound r X c A H0 κ b _ f h.2)
    · cases h
  | .star a r, X, c, A, H0, κ, b, nd, f, h => by
    unfold chk at h
    split at h
    · rw [Bool.and_eq_true] at h
      exact s_star (sound a X c A H0 κ true _ f h.1) (sound r X c A H0 κ b _ f h.2)
    · cases h
  | .call fi m es, X, c, A, H0, κ, b, nd, f, h => by
    unfold chk at h
    split at h
    · rename_i x p as pos g hn hg
      simp only [Bool.and_eq_true, decide_eq_true_eq] at h
      obtain ⟨⟨⟨⟨⟨hx, hgl⟩, hod⟩, hs⟩, hl⟩, hm⟩ := h
      subst hx
      cases m with
      | pure =>
        simp only [Bool.and_eq_true, Bool.not_eq_true'] at hm
        exact plainG hn rfl fun b => s_call f hg hgl (by simpa using hod) hs (by simpa using hm.1.2) hm.1.1 (sound es X c A H0 κ false _ f hm.2)
      | bor =>
        simp only [Bool.and_eq_true, Bool.not_eq_true'] at hm
        exact plainG hn rfl fun b => s_callB f hg hgl (by simpa using hod) hs (by simpa using hm.1.2) hm.1.1 (sound es X c A H0 κ true _ f hm.2)
      | urn =>
        simp only [Bool.and_eq_true] at hm
        obtain ⟨hu, hm⟩ := hm
        split at hm
        · rename_i hi
          rw [Bool.and_eq_true] at hm
          rw [List.all_cons, Bool.and_eq_true] at hs
          exact plainG hn rfl fun b => s_callU f hg hgl (by simpa using hod) hs.2 hu hm.1 (urnOf_inv hi) (sound es X c A H0 κ false _ f hm.2)
        · cases hm
    · cases h
  | .blt bt es, X, c, A, H0, κ, b, nd, f, h => by
    unfold chk at h
    split at h
    · rename_i hn
      simp only [Bool.and_eq_true, decide_eq_true_eq] at h
      obtain ⟨⟨⟨⟨hx, h1⟩, h2⟩, h3⟩, h4⟩ := h
      subst hx
      exact plainG hn rfl fun b => s_blt f h1 h2 h3 (sound es X c A H0 κ true _ f h4)
    · cases h
  | .isi ts x, X, c, A, H0, κ, b, nd, f, h => by
    unfold chk at h
    split at h
    · rename_i hn
      simp only [Bool.and_eq_true] at h
      obtain ⟨⟨⟨⟨h1, h2⟩, h3⟩, h4⟩, h5⟩ := h
      have e := of_decide_eq_true h1
      subst e
      have hx : PE X _ _ := sound x X c A H0 κ true _ f h4
      split at h5
      · exact plainG hn rfl fun b => s_isi1 f h2 h3 h5 hx
      · rw [Bool.and_eq_true, decide_eq_true_eq] at h5
        exact plainG hn rfl fun b => s_isiT f h2 h3 h5.1 h5.2 hx
      · cases h5
    · cases h
  | .sset x, X, c, A, H0, κ, b, nd, f, h => by
    unfold chk at h
    split at h
    · rename_i hn
      simp only [Bool.and_eq_true] at h
      obtain ⟨⟨⟨⟨⟨h1, h2⟩, h3⟩, h4⟩, h5⟩, h6⟩ := h
      have e := of_decide_eq_true h1
      have e2 := of_decide_eq_true h3
      subst e e2
      exact plainG hn rfl fun b => s_sset f h2 h4 h5 (sound x X c A H0 κ true _ f h6)
    · cases h
  | .ix x y, X, c, A, H0, κ, b, nd, f, h => by
    unfold chk at h
    split at h
    · rename_i hn
      rw [Bool.and_eq_true, Bool.and_eq_true] at h
      exact plainG hn rfl fun b => s_ix f h.1.1 (sound x X c A H0 κ true _ f h.1.2) (sound y X c A H0 κ true _ f h.2)
    · cases h
  | .sl x lo hi, X, c, A, H0, κ, b, nd, f, h => by
    unfold chk at h
    split at h
    · rename_i l p q p2 pos hn
      simp only [Bool.and_eq_true] at h
      obtain ⟨⟨h1, h2⟩, h3⟩ := h
      have hx : PE X _ _ := sound x X c A H0 κ true _ f h1
      have no : ∀ {e : E} {nd : Nd}, chk c κ true e nd = true → e.isNo = false := fun {e nd} z => by
        cases e <;> first | rfl | (unfold chk at z; cases z)
      refine plainG hn rfl fun b => s_sl hx ?_ ?_
      · cases p with
        | none => exact .inl ⟨h2, rfl⟩
        | some a => exact .inr ⟨no h2, a, rfl, sound lo X c A H0 κ true _ f h2⟩
      · cases q with
        | none => exact .inl ⟨h3, rfl⟩
        | some a => exact .inr ⟨no h3, a, rfl, sound hi X c A H0 κ true _ f h3⟩
    · cases h
  | .no, X, c, A, H0, κ, b, nd, f, h => by
    unfold chk at h
    cases h
  | .sitems x, X, c, A, H0, κ, b, nd, f, h => by
    unfold chk at h
    split at h
    · rename_i hn
      simp only [Bool.and_eq_true] at h
      obtain ⟨⟨⟨⟨h1, h2⟩, h3⟩, h4⟩, h5⟩ := h
      have e1 := of_decide_eq_true h1
      subst e1
      have e2 := of_decide_eq_true h3
      subst e2
      exact plainG hn rfl fun b => s_sitems f h2 h4 (sound x X c A H0 κ true _ f h5)
    · cases h
  | .rev x, X, c, A, H0, κ, b, nd, f, h => by
    unfold chk at h
    split at h
    · rename_i hn
      exact plainG hn rfl fun b => s_rev (sound x X c A H0 κ true _ f h)
    · cases h
  | .urn j, X, c, A, H0, κ, b, nd, f, h => by
    unfold chk at h
    split at h
    · rename_i hn hi
      rw [Bool.and_eq_true, decide_eq_true_eq] at h
      obtain ⟨h1, h2⟩ := h
      subst h2
      exact plainG hn rfl fun b => s_urn f h1 (urnOf_inv hi)
    · cases h
  | .dict0, X, c, A, H0, κ, b, nd, f, h => by
    unfold chk at h
    split at h
    · rename_i hn
      exact plainG hn rfl fun b => s_dict0
    · cases h
  | .em e, X, c, A, H0, κ, b, nd, f, h => by
    unfold chk at h
    split at h
    · exact ⟨rfl, sound e X c A H0 κ false _ f h, .nil, List.Pairwise.nil, (fun q hq => by cases hq), (fun g hg => by cases hg), fun g hg => by cases hg⟩
    · cases h
  | .cl vs kk s t ifs rest, X, c, A, H0, κ, b, nd, f, h => by
    unfold chk at h
    have tests : ∀ {X : Cx} {c : CC} {gifs : List Expr}, Fits X c fe k → ifsChk (fun a x => chk c (wipeK κ vs) true a (.t x)) ifs gifs = true → PTs X gifs (tIfs X.w X.K fe A H0 (wipeK κ vs) ifs) ∧ (ifs = .nil ∨ ∃ a, ifs = .cons a .nil) := fun {X c gifs} f h =>
      ifs_ok (fun a x e h => sound a X c A H0 (wipeK κ vs) true _ f h) h
    split at h
    · rename_i elt g gs scope pos
      obtain ⟨tg, iter, gifs, z⟩ := g
      simp only [Bool.and_eq_true, decide_eq_true_eq] at h
      obtain ⟨⟨⟨⟨⟨⟨⟨hz, hB⟩, hsrc⟩, hns⟩, htg⟩, hif⟩, hsl⟩, hrest⟩ := h
      subst hz
      obtain ⟨k1, k2⟩ := slots_kd hsl
      split at hsrc
      · rename_i bb n hsa
        have hpi := src_ok f hsa (sound s X c A H0 κ bb n f hsrc)
        have blk : ∀ (s1 : Shared) (H : Hp) (C : Addr) (cl : List (Str × Addr)) (fp : List Addr), ClB (X.blk s1 H scope (compEnvC scope cl C X.env) fp) ⟨tg, iter, gifs, 0⟩ ⟨iS X.w X.K fe A H0 κ (bOf kk) kk s, gV X.w X.K A H0 (wipeK κ vs) kk.pair t, tIfs X.w X.K fe A H0 (wipeK κ vs) ifs, vs⟩ ∧ Good (X.blk s1 H scope (compEnvC scope cl C X.env) fp) (c.blk scope) fe A H0 (wipeK κ vs) false rest (.cs gs elt vs) := fun s1 H C cl fp => by
          have fb := f.blk s1 H scope C cl fp
          exact ⟨⟨tg_top fb htg k2 fun hk => pair_not hsa hk htg, (tests fb hif).1⟩, sound rest _ (c.blk scope) A H0 (wipeK κ vs) false _ fb hrest⟩
        exact (s_comp f hB k1 (tests (f.blk X.s_0 X.H_0 scope 0 [] []) hif).2 hns hpi blk (blk X.s_0 X.H_0 0 [] []).2).pe f.calm f.nd
      · cases hsrc
    · rename_i g gs elt vs0
      obtain ⟨tg, iter, gifs, z⟩ := g
      simp only [Bool.and_eq_true, decide_eq_true_eq] at h
      obtain ⟨⟨⟨⟨⟨⟨⟨hz, hsub⟩, hsrc⟩, hns⟩, htg⟩, hif⟩, hsl⟩, hrest⟩ := h
      subst hz
      obtain ⟨k1, k2⟩ := slots_kd hsl
      split at hsrc
      · rename_i bb n hsa
        have hpi := src_ok f hsa (sound s X c A H0 κ bb n f hsrc)
        have hg := sound rest X c A H0 (wipeK κ vs) false _ f hrest
        obtain ⟨g1, g2, g3, g4, g5, g6, g7⟩ := hg
        obtain ⟨ht, hifs⟩ := tests f hif
        have hvs : ∀ i ∈ vs, i ∈ vs0 := fun i hi => by
          have z := List.all_eq_true.mp hsub i hi
          simpa using z
        refine ⟨?_, g2, .cons ⟨⟨tg_top f htg k2 fun hk => pair_not hsa hk htg, ht⟩, hpi⟩ g3, List.pairwise_cons.mpr ⟨fun q hq => g5 q hq, g4⟩, fun q hq i hi => ?_, fun g hg => ?_, fun g hg => ?_⟩
        · unfold clWf
          rw [g1, Bool.and_true, Bool.and_eq_true, List.all_eq_true]
          refine ⟨fun i hi => by simpa using k1 i hi, ?_⟩
          rcases hifs with rfl | ⟨a, rfl⟩ <;> rfl
        · rcases List.mem_cons.mp hq with e | hq
          · rw [e] at hi; exact hvs i hi
          · exact hvs i (g5 q hq i hi)
        · rcases List.mem_cons.mp hg with e | hg
          · rw [e]
          · exact g6 g hg
        · rcases List.mem_cons.mp hg with e | hg
          · rw [e]; exact folded_of hns
          · exact g7 g hg
      · cases hsrc
    · cases h
termination_by e => sizeOf e
decreasing_by all_goals first | (simp_wf; omega) | (simp_wf; done) | (rename_i e _; have z := congrArg sizeOf e; simp at z; simp_wf; omega)
/-- a checked comprehension is one of clauses -/
theorem sound_cl {X : Cx} {c : CC} {A : Fb} {H0 : Hp} {κ : List Kd} {b : Bool} {e : E} {elt : Expr} {gens : List Comprehension} {scope : Scope} {pos : Pos} (f : Fits X c fe k) (h : chk c κ b e (.e (.ListComp elt gens scope pos)) = true) :
    ∃ tg iter gifs gs, gens = ⟨tg, iter, gifs, 0⟩ :: gs ∧ CompF X elt tg iter gifs gs scope (RD X c fe A H0 κ b e) := by
  cases e <;> first | (exfalso; revert h; unfold chk; simp [Nd.ex]; done) | skip
  rename_i vs kk s t ifs rest
  unfold chk at h
  have tests : ∀ {X : Cx} {c : CC} {gifs : List Expr}, Fits X c fe k → ifsChk (fun a x => chk c (wipeK κ vs) true a (.t x)) ifs gifs = true → PTs X gifs (tIfs X.w X.K fe A H0 (wipeK κ vs) ifs) ∧ (ifs = .nil ∨ ∃ a, ifs = .cons a .nil) := fun {X c gifs} f h =>
    ifs_ok (fun a x e h => sound a X c A H0 (wipeK κ vs) true _ f h) h
  split at h
  · rename_i elt g gs scope pos he
    cases he
    obtain ⟨tg, iter, gifs, z⟩ := g
    simp only [Bool.and_eq_true, decide_eq_true_eq] at h
    obtain ⟨⟨⟨⟨⟨⟨⟨hz, hB⟩, hsrc⟩, hns⟩, htg⟩, hif⟩, hsl⟩, hrest⟩ := h
    subst hz
    obtain ⟨k1, k2⟩ := slots_kd hsl
    split at hsrc
    · rename_i bb n hsa
      have hpi := src_ok f hsa (sound s X c A H0 κ bb n f hsrc)
      have blk : ∀ (s1 : Shared) (H : Hp) (C : Addr) (cl : List (Str × Addr)) (fp : List Addr), ClB (X.blk s1 H scope (compEnvC scope cl C X.env) fp) ⟨tg, iter, gifs, 0⟩ ⟨iS X.w X.K fe A H0 κ (bOf kk) kk s, gV X.w X.K A H0 (wipeK κ vs) kk.pair t, tIfs X.w X.K fe A H0 (wipeK κ vs) ifs, vs⟩ ∧ Good (X.blk s1 H scope (compEnvC scope cl C X.env) fp) (c.blk scope) fe A H0 (wipeK κ vs) false rest (.cs gs elt vs) := fun s1 H C cl fp => by
        have fb := f.blk s1 H scope C cl fp
        exact ⟨⟨tg_top fb htg k2 fun hk => pair_not hsa hk htg, (tests fb hif).1⟩, sound rest _ (c.blk scope) A H0 (wipeK κ vs) false _ fb hrest⟩
      exact ⟨_, _, _, _, rfl, s_comp f hB k1 (tests (f.blk X.s_0 X.H_0 scope 0 [] []) hif).2 hns hpi blk (blk X.s_0 X.H_0 0 [] []).2⟩
    · cases hsrc
  · rename_i he
    cases he
  · cases h
end
end DL

end
section
set_option Elab.async false
set_option linter.all false
set_option autoImplicit false
set_option maxRecDepth 100000
set_option maxHeartbeats 4000000
/-! own layer: statements: what they compute, the check -/
namespace DL
open PySem PySem.Spec PyProof.Rows L2

inductive R where
  | nx (ρ : Env) | rt (d : D) | bk (ρ : Env) | ct (ρ : Env)
def intsL : D → Option (List Int)
  | .list ds => intsOf ds
  | _ => none
def setAll : List Nat → List D → Env → Option Env
  | [], [], ρ => some ρ
  | i :: is, d :: ds, ρ => setAll is ds (ρ.set i (some d))
  | _, _, _ => none
def goS (f : D → Env → M R) : List D → Env → M R
  | [], ρ => rt (.nx ρ)
  | d :: ds, ρ => bd (f d ρ) fun x => match x with
    | .nx ρ' => goS f ds ρ'
    | .ct ρ' => goS f ds ρ'
    | .bk ρ' => rt (.nx ρ')
    | .rt d => rt (.rt d)
def whS (t : Env → M Bool) (b : Env → M R) : Nat → Env → M R
  | 0, _ => fl
  | n + 1, ρ => bd (t ρ) fun k => if k then bd (b ρ) fun x => match x with
    | .nx ρ' => whS t b n ρ'
    | .ct ρ' => whS t b n ρ'
    | .bk ρ' => rt (.nx ρ')
    | .rt d => rt (.rt d)
    else rt (.nx ρ)
def slot (ρ : Env) (i : Nat) : M D := lf (ρ[i]?.bind id)
def putO (l a d : D) : Option D := match l, a with
  | .list xs, .int i => (ixN xs.length i).map fun j => .list (xs.set j d)
  | .dict kvs, k => if goodKey k kvs && fits (kvs.length + 1) then some (.dict (putD k d kvs)) else none
  | _, _ => none
def updO (l d : D) : Option D := match l, d with
  | .dict kvs, .list ds => match pairsOf ds with
    | some ps => if tupKeys kvs && tupKeys ps && fits (kvs.length + ps.length) then some (.dict (putAll kvs ps)) else none
    | none => none
  | _, _ => none
def appO (l d : D) : Option D := match l with
  | .list xs => if fits (xs.length + 1) then some (.list (xs ++ [d])) else none
  | _ => none
def extO (l d : D) : Option D := match l, d with
  | .list xs, .list ys => if fits (xs.length + ys.length) then some (.list (xs ++ ys)) else none
  | _, _ => none
def augO (o : O2) (x y : D) : Option D := match x, y with
  | .int i, .int j => match o with
    | .add => some (.int (i + j))
    | .sub => some (.int (i - j))
    | _ => none
  | _, _ => none
noncomputable def evS (fe : Nat → List D → M D) (N : Nat) : S → Env → M R
  | .nil, ρ => rt (.nx ρ)
  | .seq s r, ρ => bd (evS fe N s ρ) fun x => match x with
    | .nx ρ' => evS fe N r ρ'
    | o => rt o
  | .set i e, ρ => bd (ev fe e ρ) fun d => rt (.nx (ρ.set i (some d)))
  | .own i e, ρ => bd (ev fe e ρ) fun d => rt (.nx (ρ.set i (some d)))
  | .box i e, ρ => bd (ev fe e ρ) fun d => bd (lf (intsL d)) fun v => fun _ => some (.nx (ρ.set i none), v)
  | .bind t e, ρ => bd (ev fe e ρ) fun d => bd (lf (bindD t d ρ)) fun ρ' => rt (.nx ρ')
  | .par is es, ρ => bd (ev fe es ρ) fun x => bd (unl x) fun ds => bd (lf (setAll (is.map (·.1)) ds ρ)) fun ρ' => rt (.nx ρ')
  | .free _, ρ => rt (.nx ρ)
  | .app i e, ρ => bd (ev fe e ρ) fun d => bd (slot ρ i) fun l => bd (lf (appO l d)) fun z => rt (.nx (ρ.set i (some z)))
  | .ext i e, ρ => bd (ev fe e ρ) fun d => bd (slot ρ i) fun l => bd (lf (extO l d)) fun z => rt (.nx (ρ.set i (some z)))
  | .put i a e, ρ => bd (ev fe e ρ) fun d => bd (ev fe a ρ) fun k => bd (slot ρ i) fun l => bd (lf (putO l k d)) fun z => rt (.nx (ρ.set i (some z)))
  | .upd i e, ρ => bd (ev fe e ρ) fun d => bd (slot ρ i) fun l => bd (lf (updO l d)) fun z => rt (.nx (ρ.set i (some z)))
  | .urnS j e, ρ => bd (ev fe e ρ) fun d => match d with
    | .int n => fun u => if j < u.length then some (.nx ρ, u.set j n) else none
    | _ => fl
  | .aug i o e, ρ => bd (slot ρ i) fun x => bd (ev fe e ρ) fun y => bd (lf (augO o x y)) fun z => rt (.nx (ρ.set i (some z)))
  | .ifs c a b, ρ => bd (ev fe c ρ) fun x => bd (truM x) fun t => if t then evS fe N a ρ else evS fe N b ρ
  | .fr k s t b, ρ => bd (ev fe s ρ) fun x => bd (lf (srcD k x)) fun ds => goS (fun d ρ => bd (lf (bindD t d ρ)) fun ρ1 => evS fe N b ρ1) ds ρ
  | .whl c b, ρ => whS (fun ρ => bd (ev fe c ρ) truM) (fun ρ => evS fe N b ρ) N ρ
  | .ret e, ρ => bd (ev fe e ρ) fun d => rt (.rt d)
  | .retO i, ρ => bd (slot ρ i) fun d => rt (.rt d)
  | .retN, _ => rt (.rt .none)
  | .brk, ρ => rt (.bk ρ)
  | .cont, ρ => rt (.ct ρ)
  | .raise, _ => fl

/-! ### the check -/
inductive Ns where
  | one (s : Stmt) | many (s : List Stmt)
/-- name = [..] on one line -/
def swapB (sc : Scope) (x : Str) (py : Pos) (v : Expr) : Bool := match v with
  | .ListComp _ _ scope pos => decide (sc.names.lookup x = some .local) && (py.line == pos.line) && !(scope.names.any fun (n, k) => n == x && (k == .local || k == .cell))
  | _ => false
def notSC : Expr → Bool
  | .SetComp _ _ _ _ => false
  | .DictComp _ _ _ _ _ => false
  | _ => true
/-- what a, b = x, y does: 0 a tuple is made and unpacked, 1 the stores are swapped, 2 no rule -/
def parNames (sc : Scope) (line : Nat) (ts : List Expr) : List Str := ts.filterMap fun
  | .Name id pos => if decide (sc.names.lookup id = some .local) && pos.line == line then some id else none
  | _ => none
def isStarred : Expr → Bool
  | .Starred _ _ => true
  | _ => false
def swDec (sc : Scope) (ts vs : List Expr) : Nat :=
  if !(ts.length == 2 || ts.length == 3) || vs.length != ts.length then 0
  else if vs.any isStarred then 0
  else
    let names := parNames sc ((ts.head?.map (·.pos.line)).getD 0) ts
    if names.length != ts.length || names.eraseDups.length != names.length then 0
    else if vs.all (foldedForSure 8) then 0
    else if vs.all (constantsAlone 8) then 2
    else 1
def tupOf : Expr → Option (List Expr)
  | .Tuple vs _ _ => some vs
  | _ => none
def parSlots (c : CC) (κ : List Kd) (loc : Bool) : List (Nat × Bool) → List Expr → Bool
  | [], [] => true
  | i :: is, .Name x _ :: es => c.canPut i.1 x && (!loc || decide (c.sc.names.lookup x = some .local)) && (kdAt κ i.1 .d || (i.2 && kdAt κ i.1 .own)) && parSlots c κ loc is es
  | _, _ => false
/-- at most one of the values is to be owned -/
def parVals (c : CC) (κ : List Kd) : List (Nat × Bool) → E → List Expr → Bool
  | [], .nil, [] => true
  | i :: is, .cons e r, a :: as => notStar a && chk c κ false e (.e a) && (if i.2 = true then frE c.fns e && chk c κ false r (.es as) && is.all (fun j => !j.2) else parVals c κ is r as)
  | _, _, _ => false
def putK (κ : List Kd) : List (Nat × Bool) → List Kd
  | [] => κ
  | i :: is => putK (if i.2 = true then κ.set i.1 .own else κ) is
def joinK (a b : Option (Option (List Kd))) : Option (Option (List Kd)) := match a, b with
  | some (some x), some (some y) => if x = y then some (some x) else none
  | some (some x), some none => some (some x)
  | some none, some (some y) => some (some y)
  | some none, some none => some none
  | _, _ => none
def S.freeOf : S → Option Nat
  | .free i => some i
  | _ => none
def S.isNil : S → Bool
  | .nil => true
  | _ => false
/-- fr: the answers are to be new; lp: the kinds that a turn of the loop around is to end with -/
def chkS (c : CC) (fr : Bool) : Option (List Kd) → List Kd → S → Ns → Option (Option (List Kd))
  | lp, κ, .nil, ns => match ns with
    | .many [] => some (some κ)
    | _ => none
  | lp, κ, .seq s r, ns => match ns with
    | .many sts0 => (match s.freeOf with
      | some i => if kdAt κ i .own then chkS c fr lp (κ.set i .d) r (.many sts0) else none
      | none => (match sts0 with
        | st :: sts => (match chkS c fr lp κ s (.one st) with
          | some (some κ') => chkS c fr lp κ' r (.many sts)
          | some none => if r.isNil && sts.isEmpty then some none else none
          | none => none)
        | [] => none))
    | _ => none
  | lp, κ, .set i e, ns => match ns with
    | .one (.Assign [.Name x py] v pos) => if chk c κ false e (.e v) && notSC v && c.canPut i x && kdAt κ i .d then some (some κ) else none
    | _ => none
  | lp, κ, .own i e, ns => match ns with
    | .one (.Assign [.Name x py] v pos) => if chk c κ false e (.e v) && notSC v && c.canPut i x && (kdAt κ i .d || kdAt κ i .own) && frE c.fns e then some (some (κ.set i .own)) else none
    | _ => none
  | lp, κ, .box i e, ns => match ns with
    | .one (.Assign [.Name x py] v pos) => if chk c κ false e (.e v) && notSC v && c.canPut i x && kdAt κ i .d && frE c.fns e && !c.urn && (urnOf κ).isNone && lp.isNone then some (some (κ.set i .urn)) else none
    | _ => none
  | lp, κ, .bind t e, ns => match ns with
    | .one (.Assign [tg] v pos) => if chk c κ false e (.e v) && isTup_ tg && chkTop c t tg && t.slots.all (fun i => kdAt κ i .d) && (match tupOf tg, tupOf v with
          | some ts, some vs => decide (swDec c.sc ts vs = 0)
          | _, _ => true) then some (some κ) else none
    | _ => none
  | lp, κ, .par is es, ns => match ns with
    | .one (.Assign [.Tuple ts _ _] (.Tuple vs _ _) pos) => if decide (swDec c.sc ts vs ≤ 1) && parVals c κ is es vs && parSlots c κ (decide (swDec c.sc ts vs = 1)) is ts && decide (is.map (·.1)).Nodup && decide (is.length ≤ 1000) then some (some (putK κ is)) else none
    | _ => none
  | lp, κ, .app i e, ns => match ns with
    | .one (.Expr (.Call (.Attribute (.Name x _) m ap) [a] [] cp) _) => if nm m "append" && (ap.endLine == cp.line) && c.isVar i x && kdAt κ i .own && notStar a && chk c κ false e (.e a) then some (some κ) else none
    | _ => none
  | lp, κ, .ext i e, ns => match ns with
    | .one (.Expr (.Call (.Attribute (.Name x _) m ap) [a] [] cp) _) => if nm m "extend" && (ap.endLine == cp.line) && c.isVar i x && kdAt κ i .own && notStar a && chk c κ false e (.e a) then some (some κ) else none
    | _ => none
  | lp, κ, .put i k e, ns => match ns with
    | .one (.Assign [.Subscript (.Name x _) a _] v pos) => if c.isVar i x && kdAt κ i .own && notSlice a && chk c κ false e (.e v) && chk c κ false k (.e a) then some (some κ) else none
    | _ => none
  | lp, κ, .upd i e, ns => match ns with
    | .one (.Expr (.Call (.Attribute (.Name x _) m ap) [a] [] cp) _) => if nm m "update" && (ap.endLine == cp.line) && c.isVar i x && kdAt κ i .own && notStar a && chk c κ false e (.e a) then some (some κ) else none
    | _ => none
  | lp, κ, .urnS j e, ns => match ns with
    | .one (.Assign [.Subscript (.Name x _) (.Constant (.int n) _ _) _] v pos) => match urnOf κ with
        | some i => if c.isVar i x && decide (n = (j : Int)) && chk c κ false e (.e v) then some (some κ) else none
        | none => none
    | _ => none
  | lp, κ, .aug i o e, ns => match ns with
    | .one (.AugAssign (.Name x _) op v pos) => if c.isVar i x && c.canPut i x && kdAt κ i .d && decide (o.bin = some op) && chk c κ true e (.e v) then some (some κ) else none
    | _ => none
  | lp, κ, .ifs t a b, ns => match ns with
    | .one (.If q x y _) => if chk c κ true t (.t q) then joinK (chkS c fr lp κ a (.many x)) (chkS c fr lp κ b (.many y)) else none
    | _ => none
  | lp, κ, .fr k s t b, ns => match ns with
    | .one (.For tg iter body [] _) => match srcAst k s iter tg c with
        | some (_, n) => if chk c κ false s n && notSet iter && chkTop c t tg && t.slots.all (fun i => kdAt κ i .d) then (match chkS c fr (some κ) κ b (.many body) with
          | some (some κ') => if κ' = κ then some (some κ) else none
          | some none => some (some κ)
          | none => none) else none
        | none => none
    | _ => none
  | lp, κ, .whl t b, ns => match ns with
    | .one (.While q body [] _) => if chk c κ true t (.t q) then (match chkS c fr (some κ) κ b (.many body) with
          | some (some κ') => if κ' = κ then some (some κ) else none
          | some none => some (some κ)
          | none => none) else none
    | _ => none
  | lp, κ, .ret e, ns => match ns with
    | .one (.Return (some v) _) => if chk c κ false e (.e v) && (!fr || frE c.fns e) then some none else none
    | _ => none
  | lp, κ, .retO i, ns => match ns with
    | .one (.Return (some (.Name x _)) _) => if c.isVar i x && kdAt κ i .own then some none else none
    | _ => none
  | lp, κ, .retN, ns => match ns with
    | .one (.Return none _) => if fr then none else some none
    | _ => none
  | lp, κ, .brk, ns => match ns with
    | .one (.Break _) => if lp = some κ then some none else none
    | _ => none
  | lp, κ, .cont, ns => match ns with
    | .one (.Continue _) => if lp = some κ then some none else none
    | _ => none
  | lp, κ, .raise, ns => some none
  | lp, κ, .free _, ns => none
end DL

end
section
set_option Elab.async false
set_option linter.all false
set_option autoImplicit false
set_option maxRecDepth 100000
set_option maxHeartbeats 4000000
/-! own layer: how statements change the state -/
namespace DL
open PySem PySem.Spec PyProof.Rows L2

/-- from (F, H) on: only what F held, or what is new, was changed; F grew by what is new -/
structure Grow (F : Fb) (H : Hp) (F' : Fb) (H' : Hp) : Prop where
  sub : ∀ p, F' p → F p ∨ H p = none
  ext : Ext F H H'
theorem Grow.refl {F : Fb} {H : Hp} : Grow F H F H := ⟨fun _ h => .inl h, .refl⟩
theorem Grow.trans {F F1 F2 : Fb} {H H1 H2 : Hp} (a : Grow F H F1 H1) (b : Grow F1 H1 F2 H2) : Grow F H F2 H2 where
  sub := fun p h => by
    rcases b.sub p h with h | h
    · exact a.sub p h
    · by_cases f : F p
      · exact .inl f
      · right
        cases q : H p with
        | none => rfl
        | some o => rw [a.ext p o q f] at h; cases h
  ext := fun p o h n => b.ext p o (a.ext p o h n) fun f => (a.sub p f).elim n fun z => by rw [h] at z; cases z
/-- the state at a def's statement -/
structure SimS (w : World) (K : PySem.W.Frag) (au0 : Option Addr) (H0 : Hp) (F0 : Fb) (κ : List Kd) (F : Fb) (au : UB) (ρ : Env) (u : List Int) (σ : L2.St) (H : Hp) : Prop where
  s : Sim w K κ (Au au0) H0 F au ρ u σ H
  f0 : ∀ p, F0 p → F p
  a0 : ∀ a, au0 = some a → au.a = some a
section
variable {w : World} {K : PySem.W.Frag} {au0 : Option Addr} {H0 : Hp} {F0 : Fb} {κ : List Kd} {F : Fb} {au : UB} {ρ : Env} {u u' : List Int} {σ : L2.St} {H H' : Hp}
theorem SimS.step (S : SimS w K au0 H0 F0 κ F au ρ u σ H) (e : Ext (Au au.a) H H') (hu : UAt au.a u' H') : SimS w K au0 H0 F0 κ F au ρ u' σ H' := ⟨S.s.step e hu, S.f0, S.a0⟩
theorem SimS.grow (S : SimS w K au0 H0 F0 κ F au ρ u σ H) (e : Ext (Au au.a) H H') : Grow F H F H' := ⟨fun _ h => .inl h, e.mono S.s.auF⟩
theorem SimS.set (S : SimS w K au0 H0 F0 κ F au ρ u σ H) {i : Nat} (hk : κ[i]? = some .d) {v : V} {d : D} (r : Rep w K F H v d) : SimS w K au0 H0 F0 κ F au (ρ.set i (some d)) u (σ.set i (some v)) H := ⟨S.s.set hk r, S.f0, S.a0⟩
theorem set_kd {κ : List Kd} {i j : Nat} {k l : Kd} (h : (κ.set i k)[j]? = some l) : (j = i ∧ k = l) ∨ (j ≠ i ∧ κ[j]? = some l) := by
  by_cases e : j = i
  · subst e
    by_cases hl : j < κ.length
    · rw [List.getElem?_set_self hl] at h
      exact .inl ⟨rfl, Option.some.inj h⟩
    · rw [List.getElem?_eq_none (by simpa using hl)] at h
      cases h
  · rw [List.getElem?_set_ne (Ne.symm e)] at h
    exact .inr ⟨e, h⟩
/-- a new address stands off all that is there -/
theorem SimS.off (S : SimS w K au0 H0 F0 κ F au ρ u σ H) {p : Addr} (n : H p = none) : ¬ Au au0 p ∧ H0 p = none ∧ ¬ Ub au p := by
  have h1 : ¬ Au au0 p := fun z => by
    have := S.s.uat p (S.a0 p z)
    rw [n] at this; cases this
  refine ⟨h1, ?_, fun z => ?_⟩
  · cases q : H0 p with
    | none => rfl
    | some o =>
      have := S.s.ext p o q h1
      rw [n] at this; cases this
  · rcases z with z | z
    · have := S.s.uat p z
      rw [n] at this; cases this
    · exact S.s.fok p (S.s.blk p z) n
/-- a new object that no name holds yet -/
structure Held (w : World) (K : PySem.W.Frag) (au0 : Option Addr) (H0 : Hp) (κ : List Kd) (F : Fb) (au : UB) (ρ : Env) (σ : L2.St) (H : Hp) (p : Addr) (d : D) : Prop where
  f : F p
  a : ¬ Au au0 p
  n : H0 p = none
  u : ¬ Ub au p
  o : OwnAt w K F H p d
  ne : ∀ (j : Nat) x b, κ[j]? = some .own → ρ[j]? = some (some x) → σ[j]? = some (some (.ref b)) → b ≠ p
theorem Held.step {p : Addr} {d : D} (h : Held w K au0 H0 κ F au ρ σ H p d) (S : SimS w K au0 H0 F0 κ F au ρ u σ H) (e : Ext (Au au.a) H H') : Held w K au0 H0 κ F au ρ σ H' p d := ⟨h.f, h.a, h.n, h.u, h.o.stay e S.s.auF fun z => h.u (.inl z), h.ne⟩
theorem SimS.hold (S : SimS w K au0 H0 F0 κ F au ρ u σ H) (e : Ext (Au au.a) H H') (hu : UAt au.a u' H') {v : V} {d : D} (f : Fresh w K F H d v H') :
    ∃ p, v = .ref p ∧ H p = none ∧ SimS w K au0 H0 F0 κ (fun q => F q ∨ q = p) au ρ u' σ H' ∧ Grow F H (fun q => F q ∨ q = p) H' ∧ Held w K au0 H0 κ (fun q => F q ∨ q = p) au ρ σ H' p d := by
  obtain ⟨p, rfl, n, ho⟩ := f
  have S1 := S.step e hu
  obtain ⟨n1, n2, n3⟩ := S.off n
  have hg := grow_new (F := F) n
  obtain ⟨o, hp, hnf⟩ := ho.there
  refine ⟨p, rfl, n, ⟨⟨S.s.len, fun q hq hn => ?_, fun q hq o' x z => ?_, S1.s.ext, fun a ha => ⟨.inl (S1.s.urn a ha).1, (S1.s.urn a ha).2⟩, fun q hq => .inl (S1.s.blk q hq), hu, fun j x hj hr => ?_, fun j x hj hr => ?_, S.s.dist, S.s.ur⟩, fun q hq => .inl (S.f0 q hq), S.a0⟩, ⟨hg, e.mono S.s.auF⟩, ⟨.inr rfl, n1, n2, n3, ho, fun j x b hj hr hs => ?_⟩⟩
  · rcases hq with hq | rfl
    · exact S1.s.fok q hq hn
    · rw [hp] at hn; cases hn
  · rcases hq with hq | rfl
    · exact S1.s.nf q hq o' x z
    · rw [hp] at z; cases z; exact hnf _ _ rfl
  · obtain ⟨v', h1, h2⟩ := S.s.d j x hj hr
    exact ⟨v', h1, Rep.ext (e.mono fun q hq => .inl (S.s.auF q hq)) (fun _ z => z) _ _ (Rep.grow hg _ _ h2)⟩
  · obtain ⟨a, h1, h2, h3, h4, h5, h6⟩ := S.s.own j x hj hr
    exact ⟨a, h1, .inl h2, h3, h4, h5, (h6.grow hg).stay e (fun q hq => .inl (S.s.auF q hq)) fun z => h5 (.inl z)⟩
  · obtain ⟨a, h1, h2, _⟩ := S.s.own j x hj hr
    rw [hs] at h1
    cases h1
    exact fun z => S.s.fok _ h2 (by rw [z]; exact n)
theorem SimS.take (S : SimS w K au0 H0 F0 κ F au ρ u σ H) {p : Addr} {d : D} (h : Held w K au0 H0 κ F au ρ σ H p d) {i : Nat} (hκ : κ[i]? = some .d ∨ κ[i]? = some .own) :
    SimS w K au0 H0 F0 (κ.set i .own) F au (ρ.set i (some d)) u (σ.set i (some (.ref p))) H := by
  have nur : κ[i]? ≠ some .urn := fun z => by rcases hκ with q | q <;> rw [z] at q <;> cases q
  have live : ∀ {m : Nat}, (ρ[m]?.bind id).isSome = true → ∃ x, ρ[m]? = some (some x) := fun {m} hr => by
    obtain ⟨x, hx⟩ := Option.isSome_iff_exists.mp hr
    refine ⟨x, ?_⟩
    cases q : ρ[m]? with
    | none => rw [q] at hx; cases hx
    | some y => rw [q] at hx; rw [show y = some x from hx]
  refine ⟨⟨?_, S.s.fok, S.s.nf, S.s.ext, S.s.urn, S.s.blk, S.s.uat, fun j x hj hr => ?_, fun j x hj hr => ?_, fun j l a hjl hj hl r1 r2 h1 h2 => ?_, fun j hj => ?_⟩, S.f0, S.a0⟩
  · rw [List.length_set, List.length_set]; exact S.s.len
  · rcases set_kd hj with ⟨_, z⟩ | ⟨ne, hj⟩
    · cases z
    · rw [List.getElem?_set_ne (Ne.symm ne)] at hr
      obtain ⟨v', h1, h2⟩ := S.s.d j x hj hr
      exact ⟨v', by rw [List.getElem?_set_ne (Ne.symm ne)]; exact h1, h2⟩
  · rcases set_kd hj with ⟨rfl, _⟩ | ⟨ne, hj⟩
    · rcases set_get hr with ⟨_, z⟩ | ⟨z, _⟩
      · cases z
        have hl : j < σ.length := by
          have z := (List.getElem?_eq_some_iff.mp hr).1
          rw [List.length_set] at z
          rw [S.s.len]; exact z
        exact ⟨p, List.getElem?_set_self hl, h.f, h.a, h.n, h.u, h.o⟩
      · exact absurd rfl z
    · rw [List.getElem?_set_ne (Ne.symm ne)] at hr
      obtain ⟨a, h1, h2⟩ := S.s.own j x hj hr
      exact ⟨a, by rw [List.getElem?_set_ne (Ne.symm ne)]; exact h1, h2⟩
  · have own_ne : ∀ (m : Nat), κ[m]? = some .own → (ρ[m]?.bind id).isSome = true → σ[m]? ≠ some (some (.ref p)) := fun m hk hr hs => by
      obtain ⟨x, hx⟩ := live hr
      exact h.ne m x p hk hx hs rfl
    rcases set_kd hj with ⟨ej, _⟩ | ⟨ne, hj⟩
    · rcases set_kd hl with ⟨el, _⟩ | ⟨ne2, hl⟩
      · exact hjl (ej.trans el.symm)
      · rw [List.getElem?_set_ne (Ne.symm ne2)] at r2 h2
        rcases set_get h1 with ⟨_, z⟩ | ⟨z, _⟩
        · cases z; exact own_ne l hl r2 h2
        · exact absurd ej z
    · rw [List.getElem?_set_ne (Ne.symm ne)] at r1 h1
      rcases set_kd hl with ⟨el, _⟩ | ⟨ne2, hl⟩
      · rcases set_get h2 with ⟨_, z⟩ | ⟨z, _⟩
        · cases z; exact own_ne j hj r1 h1
        · exact absurd el z
      · rw [List.getElem?_set_ne (Ne.symm ne2)] at r2 h2
        exact S.s.dist j l a hjl hj hl r1 r2 h1 h2
  · rcases set_kd hj with ⟨_, z⟩ | ⟨ne, hj⟩
    · cases z
    · obtain ⟨a, h1, h2⟩ := S.s.ur j hj
      exact ⟨a, h1, by rw [List.getElem?_set_ne (Ne.symm ne)]; exact h2⟩
theorem Held.set {p : Addr} {d x : D} {v : V} {i : Nat} (h : Held w K au0 H0 κ F au ρ σ H p d) (hκ : κ[i]? = some .d) : Held w K au0 H0 κ F au (ρ.set i (some x)) (σ.set i (some v)) H p d :=
  ⟨h.f, h.a, h.n, h.u, h.o, fun j y b hj hr hs => by
    have ne : j ≠ i := fun z => by rw [z, hκ] at hj; cases hj
    rw [List.getElem?_set_ne (Ne.symm ne)] at hr hs
    exact h.ne j y b hj hr hs⟩
/-- name = a new list or dict that is owned from now on -/
theorem SimS.adopt (S : SimS w K au0 H0 F0 κ F au ρ u σ H) (e : Ext (Au au.a) H H') (hu : UAt au.a u' H') {i : Nat} {v : V} {d : D} (f : Fresh w K F H d v H') (hκ : κ[i]? = some .d ∨ κ[i]? = some .own) :
    ∃ F', SimS w K au0 H0 F0 (κ.set i .own) F' au (ρ.set i (some d)) u' (σ.set i (some v)) H' ∧ Grow F H F' H' := by
  obtain ⟨p, rfl, n, S1, g, h⟩ := S.hold e hu f
  exact ⟨_, S1.take h hκ, g⟩
/-- name = a new list of ints, the urn from now on -/
theorem SimS.box (S : SimS w K none H0 F0 κ F au ρ u σ H) (e : Ext (Au au.a) H H') (hu : UAt au.a u' H') {i : Nat} {v : V} {d : D} {m : List Int} (f : Fresh w K F H d v H') (hm : intsL d = some m) (hκ : κ[i]? = some .d) (hno : ∀ (j : Nat), κ[j]? ≠ some Kd.urn) (hi : i < σ.length) :
    ∃ F' au', SimS w K none H0 F0 (κ.set i .urn) F' au' (ρ.set i none) m (σ.set i (some v)) H' ∧ Grow F H F' H' := by
  obtain ⟨p, rfl, n, ho⟩ := f
  have S1 := S.step e hu
  obtain ⟨n1, n2, n3⟩ := S.off n
  have hg := grow_new (F := F) n
  have hp : H' p = some (.lst (m.map V.int)) := by
    rcases ho with ⟨xs, ds, rfl, h1, h2⟩ | ⟨es, ep, kvs, rfl, _⟩
    · have z : ds = m.map .int := intsOf_inv hm
      subst z
      rw [h1, h2.ints_inv]
    · cases hm
  refine ⟨fun q => F q ∨ q = p, ⟨some p, au.b⟩, ⟨⟨?_, fun q hq hn => ?_, fun q hq o' x z => ?_, S1.s.ext, fun a ha => ?_, fun q hq => .inl (S1.s.blk q hq), fun a ha => ?_, fun j x hj hr => ?_, fun j x hj hr => ?_, fun j l a hjl hj hl r1 r2 h1 h2 => ?_, fun j hj => ?_⟩, fun q hq => .inl (S.f0 q hq), fun a ha => nomatch ha⟩, ⟨hg, e.mono S.s.auF⟩⟩
  · rw [List.length_set, List.length_set]; exact S.s.len
  · rcases hq with hq | rfl
    · exact S1.s.fok q hq hn
    · rw [hp] at hn; cases hn
  · rcases hq with hq | rfl
    · exact S1.s.nf q hq o' x z
    · rw [hp] at z; cases z
  · cases ha; exact ⟨.inr rfl, .inr n2⟩
  · cases ha; exact hp
  · rcases set_kd hj with ⟨_, z⟩ | ⟨ne, hj⟩
    · cases z
    · rw [List.getElem?_set_ne (Ne.symm ne)] at hr
      obtain ⟨v', h1, h2⟩ := S.s.d j x hj hr
      exact ⟨v', by rw [List.getElem?_set_ne (Ne.symm ne)]; exact h1, Rep.ext (e.mono fun q hq => .inl (S.s.auF q hq)) (fun _ z => z) _ _ (Rep.grow hg _ _ h2)⟩
  · rcases set_kd hj with ⟨_, z⟩ | ⟨ne, hj⟩
    · cases z
    · rw [List.getElem?_set_ne (Ne.symm ne)] at hr
      obtain ⟨a, h1, h2, h3, h4, h5, h6⟩ := S.s.own j x hj hr
      refine ⟨a, by rw [List.getElem?_set_ne (Ne.symm ne)]; exact h1, .inl h2, h3, h4, fun z => ?_, (h6.grow hg).stay e (fun q hq => .inl (S.s.auF q hq)) fun z => h5 (.inl z)⟩
      rcases z with z | z
      · cases z; exact S.s.fok _ h2 n
      · exact h5 (.inr z)
  · rcases set_kd hj with ⟨_, z⟩ | ⟨ne, hj⟩
    · cases z
    · rcases set_kd hl with ⟨_, z⟩ | ⟨ne2, hl⟩
      · cases z
      · rw [List.getElem?_set_ne (Ne.symm ne)] at r1 h1
        rw [List.getElem?_set_ne (Ne.symm ne2)] at r2 h2
        exact S.s.dist j l a hjl hj hl r1 r2 h1 h2
  · rcases set_kd hj with ⟨rfl, _⟩ | ⟨ne, hj⟩
    · exact ⟨p, rfl, List.getElem?_set_self hi⟩
    · exact absurd hj (hno j)
/-- what was owned is a datum from now on -/
theorem SimS.free (S : SimS w K au0 H0 F0 κ F au ρ u σ H) {i : Nat} (hκ : κ[i]? = some .own) (hF0 : ∀ p, F0 p → H0 p ≠ none) : ∃ F', SimS w K au0 H0 F0 (κ.set i .d) F' au ρ u σ H ∧ Grow F H F' H := by
  by_cases hx : ∃ x, ρ[i]? = some (some x)
  · obtain ⟨x, hx⟩ := hx
    obtain ⟨a, h1, h2, h3, h4, h5, h6⟩ := S.s.own i x hκ hx
    have sub : ∀ p, (F p ∧ p ≠ a) → F p := fun p h => h.1
    refine ⟨fun p => F p ∧ p ≠ a, ⟨⟨S.s.len, fun q hq => S.s.fok q hq.1, fun q hq => S.s.nf q hq.1, S.s.ext, fun b hb => ⟨⟨(S.s.urn b hb).1, fun z => h5 (.inl (by rw [← z]; exact hb))⟩, (S.s.urn b hb).2⟩, fun q hq => ⟨S.s.blk q hq, fun z => h5 (.inr (by rw [← z]; exact hq))⟩, S.s.uat, fun j y hj hr => ?_, fun j y hj hr => ?_, fun j l b hjl hj hl r1 r2 q1 q2 => ?_, fun j hj => ?_⟩, fun q hq => ⟨S.f0 q hq, fun z => hF0 q hq (by rw [z]; exact h4)⟩, S.a0⟩, ⟨fun p h => .inl h.1, .refl⟩⟩
    · rcases set_kd hj with ⟨rfl, _⟩ | ⟨ne, hj⟩
      · rw [hx] at hr
        cases hr
        exact ⟨.ref a, h1, OwnAt.rep (fun z => z.2 rfl) (h6.ext (F' := fun p => F p ∧ p ≠ a) .refl sub rfl)⟩
      · obtain ⟨v, q1, q2⟩ := S.s.d j y hj hr
        exact ⟨v, q1, Rep.ext .refl sub _ _ q2⟩
    · rcases set_kd hj with ⟨_, z⟩ | ⟨ne, hj⟩
      · cases z
      · obtain ⟨b, q1, q2, q3, q4, q5, q6⟩ := S.s.own j y hj hr
        refine ⟨b, q1, ⟨q2, fun z => ?_⟩, q3, q4, q5, q6.ext .refl sub rfl⟩
        subst z
        exact S.s.dist j i b ne hj hκ (by rw [hr]; rfl) (by rw [hx]; rfl) q1 h1
    · rcases set_kd hj with ⟨_, z⟩ | ⟨ne, hj⟩
      · cases z
      · rcases set_kd hl with ⟨_, z⟩ | ⟨ne2, hl⟩
        · cases z
        · exact S.s.dist j l b hjl hj hl r1 r2 q1 q2
    · rcases set_kd hj with ⟨_, z⟩ | ⟨ne, hj⟩
      · cases z
      · exact S.s.ur j hj
  · refine ⟨F, ⟨⟨S.s.len, S.s.fok, S.s.nf, S.s.ext, S.s.urn, S.s.blk, S.s.uat, fun j y hj hr => ?_, fun j y hj hr => ?_, fun j l b hjl hj hl r1 r2 q1 q2 => ?_, fun j hj => ?_⟩, S.f0, S.a0⟩, .refl⟩
    · rcases set_kd hj with ⟨rfl, _⟩ | ⟨ne, hj⟩
      · exact absurd ⟨y, hr⟩ hx
      · exact S.s.d j y hj hr
    · rcases set_kd hj with ⟨_, z⟩ | ⟨ne, hj⟩
      · cases z
      · exact S.s.own j y hj hr
    · rcases set_kd hj with ⟨_, z⟩ | ⟨ne, hj⟩
      · cases z
      · rcases set_kd hl with ⟨_, z⟩ | ⟨ne2, hl⟩
        · cases z
        · exact S.s.dist j l b hjl hj hl r1 r2 q1 q2
    · rcases set_kd hj with ⟨_, z⟩ | ⟨ne, hj⟩
      · cases z
      · exact S.s.ur j hj
/-- what is owned was changed -/
theorem SimS.poke (S : SimS w K au0 H0 F0 κ F au ρ u σ H) {i : Nat} {a : Addr} {x d : D} {o : HO} (hκ : κ[i]? = some .own) (hr : ρ[i]? = some (some x)) (hσ : σ[i]? = some (some (.ref a))) (hn : ∀ y z, o ≠ .frz y z) (ho : OwnAt w K F (upd H a o) a d) :
    SimS w K au0 H0 F0 κ F au (ρ.set i (some d)) u σ (upd H a o) ∧ Grow F H F (upd H a o) := by
  obtain ⟨b, h1, h2, h3, h4, h5, h6⟩ := S.s.own i x hκ hr
  rw [hσ] at h1
  cases h1
  have e : Ext F H (upd H a o) := Ext.upd h2
  have hau : au.a ≠ some a := fun z => h5 (.inl z)
  refine ⟨⟨⟨by rw [List.length_set]; exact S.s.len, fun q hq hn' => ?_, fun q hq o' y z => ?_, fun q o' hq n => ?_, S.s.urn, S.s.blk, fun b hb => ?_, fun j y hj hr' => ?_, fun j y hj hr' => ?_, fun j l b hjl hj hl r1 r2 q1 q2 => ?_, S.s.ur⟩, S.f0, S.a0⟩, ⟨fun p h => .inl h, e⟩⟩
  · by_cases z : q = a
    · subst z; rw [upd_same] at hn'; cases hn'
    · rw [upd_ne z] at hn'; exact S.s.fok q hq hn'
  · by_cases z2 : q = a
    · subst z2; rw [upd_same] at z; cases z; exact hn _ _ rfl
    · rw [upd_ne z2] at z; exact S.s.nf q hq o' y z
  · have ne : q ≠ a := fun z => by rw [z, h4] at hq; cases hq
    rw [upd_ne ne]
    exact S.s.ext q o' hq n
  · rw [upd_ne (fun z => hau (by rw [← z]; exact hb))]
    exact S.s.uat b hb
  · have ne : j ≠ i := fun z => by rw [z, hκ] at hj; cases hj
    rw [List.getElem?_set_ne (Ne.symm ne)] at hr'
    obtain ⟨v, q1, q2⟩ := S.s.d j y hj hr'
    exact ⟨v, q1, Rep.ext e (fun _ z => z) _ _ q2⟩
  · rcases set_get hr' with ⟨rfl, z⟩ | ⟨ne, hr'⟩
    · cases z
      exact ⟨a, hσ, h2, h3, h4, h5, ho⟩
    · obtain ⟨b, q1, q2, q3, q4, q5, q6⟩ := S.s.own j y hj hr'
      have nb : b ≠ a := fun z => by
        subst z
        exact S.s.dist j i b ne hj hκ (by rw [hr']; rfl) (by rw [hr]; rfl) q1 hσ
      exact ⟨b, q1, q2, q3, q4, q5, q6.ext e (fun _ z => z) (upd_ne nb)⟩
  · have g : ∀ {m : Nat}, ((ρ.set i (some d))[m]?.bind id).isSome = true → (ρ[m]?.bind id).isSome = true := fun {m} h => by
      by_cases e : m = i
      · rw [e, hr]; rfl
      · rw [List.getElem?_set_ne (Ne.symm e)] at h; exact h
    exact S.s.dist j l b hjl hj hl (g r1) (g r2) q1 q2
/-- an item of the urn was set -/
theorem SimS.urnSet (S : SimS w K au0 H0 F0 κ F au ρ u σ H) {a : Addr} {j : Nat} {n : Int} (ha : au.a = some a) : SimS w K au0 H0 F0 κ F au ρ (u.set j n) σ (upd H a (.lst ((u.map V.int).set j (.int n)))) ∧ Grow F H F (upd H a (.lst ((u.map V.int).set j (.int n)))) := by
  have hF := (S.s.urn a ha).1
  have e : Ext (Au au.a) H (upd H a (.lst ((u.map V.int).set j (.int n)))) := Ext.upd ha
  have S1 := S.step (u' := u.set j n) e fun b hb => by
    rw [ha] at hb
    cases hb
    rw [upd_same, List.map_set]
  exact ⟨S1, S.grow e⟩
end
end DL

end
section
set_option Elab.async false
set_option linter.all false
set_option autoImplicit false
set_option maxRecDepth 100000
set_option maxHeartbeats 4000000
/-! own layer: rules of statements, part 1 -/
namespace DL
open PySem PySem.Spec PyProof.Rows L2

section
variable (w : World) (K : PySem.W.Frag) (fe : Nat → List D → M D) (N : Nat) (au0 : Option Addr) (H0 : Hp) (F0 : Fb) (fr : Bool)
/-- what is wanted behind a return -/
def RetR (Dn : Ends) (d : D) (u' : List Int) : Prop := ∀ v H', Ext (Au au0) H0 H' → UAt au0 u' H' → Rep w K F0 H' v d → (fr = true → Fresh w K F0 H0 d v H') → Dn.rt v H'
/-- what is wanted behind a state of the kinds κ -/
def NxR (κ : List Kd) (F : Fb) (H : Hp) (ρ' : Env) (u' : List Int) (Q : L2.St → Hp → Prop) : Prop := ∀ F' au' σ' H', SimS w K au0 H0 F0 κ F' au' ρ' u' σ' H' → Grow F H F' H' → Q σ' H'
def BehR (lp κo : Option (List Kd)) (F : Fb) (H : Hp) (Dn : Ends) (u' : List Int) : R → Prop
  | .nx ρ' => ∃ κ1, κo = some κ1 ∧ NxR w K au0 H0 F0 κ1 F H ρ' u' Dn.nx
  | .rt d => RetR w K au0 H0 F0 fr Dn d u'
  | .bk ρ' => ∃ κ1, lp = some κ1 ∧ NxR w K au0 H0 F0 κ1 F H ρ' u' Dn.bk
  | .ct ρ' => ∃ κ1, lp = some κ1 ∧ NxR w K au0 H0 F0 κ1 F H ρ' u' Dn.ct
def tS (lp : Option (List Kd)) (κ : List Kd) (s : S) (κo : Option (List Kd)) : TS := fun Dn σ H => ∃ F au ρ u r u', SimS w K au0 H0 F0 κ F au ρ u σ H ∧ evS fe N s ρ u = some (r, u') ∧ BehR w K au0 H0 F0 fr lp κo F H Dn u' r
end
theorem PS.imp {X : Cx} {e : Stmt} {t t' : TS} (h : PS X e t) (i : ∀ D σ H, t' D σ H → t D σ H) : PS X e t' := ⟨fun pins s σ H D I q => h.run pins s σ H D I (i D σ H q)⟩
theorem PSs.imp {X : Cx} {e : List Stmt} {t t' : TS} (h : PSs X e t) (i : ∀ D σ H, t' D σ H → t D σ H) : PSs X e t' := ⟨fun pins s σ H D I q => h.run pins s σ H D I (i D σ H q)⟩
section
variable {w : World} {K : PySem.W.Frag} {au0 : Option Addr} {H0 : Hp} {F0 : Fb} {fr : Bool} {lp κo : Option (List Kd)} {F F1 : Fb} {H H1 : Hp} {Dn : Ends} {u' : List Int}
theorem NxR.grow {κ : List Kd} {ρ' : Env} {Q : L2.St → Hp → Prop} (h : NxR w K au0 H0 F0 κ F H ρ' u' Q) (g : Grow F H F1 H1) : NxR w K au0 H0 F0 κ F1 H1 ρ' u' Q := fun F' au' σ' H' S G => h F' au' σ' H' S (g.trans G)
theorem BehR.grow {r : R} (h : BehR w K au0 H0 F0 fr lp κo F H Dn u' r) (g : Grow F H F1 H1) : BehR w K au0 H0 F0 fr lp κo F1 H1 Dn u' r := by
  cases r with
  | nx ρ => obtain ⟨κ1, e, h⟩ := h; exact ⟨κ1, e, h.grow g⟩
  | rt d => exact h
  | bk ρ => obtain ⟨κ1, e, h⟩ := h; exact ⟨κ1, e, h.grow g⟩
  | ct ρ => obtain ⟨κ1, e, h⟩ := h; exact ⟨κ1, e, h.grow g⟩
end
section
variable {X : Cx} {c : CC} {fe : Nat → List D → M D} {k N : Nat} {au0 : Option Addr} {H0 : Hp} {F0 : Fb} {fr : Bool} {lp κo : Option (List Kd)} {κ : List Kd}
abbrev RS (X : Cx) (fe : Nat → List D → M D) (N : Nat) (au0 : Option Addr) (H0 : Hp) (F0 : Fb) (fr : Bool) (lp : Option (List Kd)) (κ : List Kd) (s : S) (κo : Option (List Kd)) : TS := tS X.w X.K fe N au0 H0 F0 fr lp κ s κo
abbrev RD0 (X : Cx) (c : CC) (fe : Nat → List D → M D) (au0 : Option Addr) (H0 : Hp) (κ : List Kd) (b : Bool) (e : E) : TE := RD X c fe (Au au0) H0 κ b e

theorem r_nil : PSs X [] (RS X fe N au0 H0 F0 fr lp κ .nil (some κ)) := PSs.imp pss_nil fun D σ H ⟨F, au, ρ, u, r, u', S, e, B⟩ => by
  cases rt_some e
  obtain ⟨κ1, e1, B⟩ := B
  cases e1
  exact B F au σ H S .refl
theorem r_seq {κ' : List Kd} {s r : S} {st : Stmt} {sts : List Stmt} (h1 : PS X st (RS X fe N au0 H0 F0 fr lp κ s (some κ'))) (h2 : PSs X sts (RS X fe N au0 H0 F0 fr lp κ' r κo)) : PSs X (st :: sts) (RS X fe N au0 H0 F0 fr lp κ (.seq s r) κo) :=
  PSs.imp (pss_cons h1 h2) fun D σ H ⟨F, au, ρ, u, r0, u', S, e, B⟩ => by
    obtain ⟨x, u1, e1, e2⟩ := bd_some e
    refine ⟨F, au, ρ, u, x, u1, S, e1, ?_⟩
    cases x with
    | nx ρ' => exact ⟨κ', rfl, fun F' au' σ' H' S' G => ⟨F', au', ρ', u1, r0, u', S', e2, B.grow G⟩⟩
    | rt d => cases rt_some e2; exact B
    | bk ρ' => cases rt_some e2; exact B
    | ct ρ' => cases rt_some e2; exact B
theorem r_dead {s : S} {st : Stmt} (h1 : PS X st (RS X fe N au0 H0 F0 fr lp κ s none)) : PSs X [st] (RS X fe N au0 H0 F0 fr lp κ (.seq s .nil) none) :=
  PSs.imp (pss_one h1) fun D σ H ⟨F, au, ρ, u, r0, u', S, e, B⟩ => by
    obtain ⟨x, u1, e1, e2⟩ := bd_some e
    refine ⟨F, au, ρ, u, x, u1, S, e1, ?_⟩
    cases x with
    | nx ρ' =>
      cases rt_some e2
      exact B
    | rt d => cases rt_some e2; exact B
    | bk ρ' => cases rt_some e2; exact B
    | ct ρ' => cases rt_some e2; exact B
theorem r_free {i : Nat} {r : S} {sts : List Stmt} (hF0 : ∀ p, F0 p → H0 p ≠ none) (hk : kdAt κ i .own = true) (h2 : PSs X sts (RS X fe N au0 H0 F0 fr lp (κ.set i .d) r κo)) : PSs X sts (RS X fe N au0 H0 F0 fr lp κ (.seq (.free i) r) κo) :=
  PSs.imp h2 fun D σ H ⟨F, au, ρ, u, r0, u', S, e, B⟩ => by
    obtain ⟨F', S', g⟩ := S.free (of_decide_eq_true hk) hF0
    exact ⟨F', au, ρ, u, r0, u', S', e, B.grow g⟩

/-! ### name = value -/
theorem put_loc (f : Fits X c fe k) {i : Nat} {x : Str} (h : c.canPut i x = true) : X.N[i]? = some x ∧ Loc X.env.scope x ∧ (X.fn x = true ∨ X.env.scope.names.lookup x = some .local) := by
  unfold CC.canPut at h
  rw [Bool.and_eq_true, decide_eq_true_eq] at h
  obtain ⟨h1, h2⟩ := h
  refine ⟨by rw [f.hN]; exact h1, ?_⟩
  rw [f.sc, f.bs]
  split at h2
  · rename_i e
    exact ⟨.inl e, .inr e⟩
  · rename_i e
    refine ⟨.inr e, .inl ?_⟩
    split at h2
    · rename_i e2; first | rfl | rw [e2]
    · rename_i e2; first | exact h2 | (rw [e2]; exact h2)
  · cases h2
theorem swap_is {env : PySem.Env} {x : Str} {py : Pos} {v : Expr} {l : Nat} (hk0 : env.scope.kind = .function) (hv : notSC v = true) : swapsWith v (some (.Name x py)) l env = pure (swapB env.scope x py v) := by
  have hk : env.blockKind = .function := by unfold PySem.Env.blockKind; rw [hk0]; rfl
  unfold swapsWith swapB
  cases v <;> first | rfl | (cases hv; done) | skip
  rename_i elt gens scope pos
  show pure _ = pure _
  congr 1
  rw [hk]
  show (true && _ && _ && _) = _
  rw [Bool.true_and]
  congr 1
  congr 1
  show (env.scope.names.lookup x == some NameKind.local) = decide (env.scope.names.lookup x = some NameKind.local)
  by_cases h : env.scope.names.lookup x = some NameKind.local
  · rw [h]; rfl
  · rw [decide_eq_false h]; exact beq_eq_false_iff_ne.mpr h
theorem asg_name (f : Fits X c fe k) {i : Nat} {x : Str} {py pos : Pos} {e : E} {v : Expr} {A : Fb} (hp : c.canPut i x = true) (hv : notSC v = true) (h : chk c κ false e (.e v) = true) : PS X (.Assign [.Name x py] v pos) (tAsg (RD X c fe A H0 κ false e) (gName i)) := by
  obtain ⟨h1, h2, h3⟩ := put_loc f hp
  refine ⟨fun pins s σ H D I q => ?_⟩
  have sw := swap_is (env := X.env) (x := x) (py := py) (l := pos.line) I.ok.kind hv
  cases hb : swapB X.env.scope x py v with
  | false =>
    rw [hb] at sw
    exact (ps_set f.nd h1 h2 (show PE X v _ from sound e X c A H0 κ false _ f h) sw h3).run pins s σ H D I q
  | true =>
    rw [hb] at sw
    cases v <;> first | (cases hb; done) | skip
    rename_i elt gens scope pos2
    obtain ⟨tg, iter, gifs, gs, rfl, z⟩ := sound_cl f h
    unfold swapB at hb
    simp only [Bool.and_eq_true, decide_eq_true_eq] at hb
    exact (z.ps f.calm f.nd h1 hb.1.1 sw).run pins s σ H D I q
theorem r_set (f : Fits X c fe k) {i : Nat} {x : Str} {py pos : Pos} {e : E} {v : Expr} (hp : c.canPut i x = true) (hv : notSC v = true) (h : chk c κ false e (.e v) = true) (hk : kdAt κ i .d = true) : PS X (.Assign [.Name x py] v pos) (RS X fe N au0 H0 F0 fr lp κ (.set i e) (some κ)) :=
  PS.imp (asg_name (A := Au au0) (H0 := H0) f hp hv h) fun D σ H ⟨F, au, ρ, u, r0, u', S, e, B⟩ => by
    obtain ⟨d, u1, e1, e2⟩ := bd_some e
    cases rt_some e2
    obtain ⟨κ1, z, B⟩ := B
    cases z
    refine ⟨F, au, ρ, u, d, u', S.s, e1, fun v H' x1 a1 r1 _ => ?_⟩
    exact B F au _ H' ((S.step x1 a1).set (of_decide_eq_true hk) r1) (S.grow x1)
theorem r_own (f : Fits X c fe k) {i : Nat} {x : Str} {py pos : Pos} {e : E} {v : Expr} (hp : c.canPut i x = true) (hv : notSC v = true) (h : chk c κ false e (.e v) = true) (hk : (kdAt κ i .d || kdAt κ i .own) = true) (hf : frE c.fns e = true) : PS X (.Assign [.Name x py] v pos) (RS X fe N au0 H0 F0 fr lp κ (.own i e) (some (κ.set i .own))) :=
  PS.imp (asg_name (A := Au au0) (H0 := H0) f hp hv h) fun D σ H ⟨F, au, ρ, u, r0, u', S, e, B⟩ => by
    obtain ⟨d, u1, e1, e2⟩ := bd_some e
    cases rt_some e2
    obtain ⟨κ1, z, B⟩ := B
    cases z
    refine ⟨F, au, ρ, u, d, u', S.s, e1, fun v H' x1 a1 r1 fr1 => ?_⟩
    obtain ⟨F', S', g⟩ := S.adopt x1 a1 (i := i) (fr1 hf) (by
      rw [Bool.or_eq_true] at hk
      exact hk.imp of_decide_eq_true of_decide_eq_true)
    exact B F' au _ H' S' g
theorem r_box (f : Fits X c fe k) {i : Nat} {x : Str} {py pos : Pos} {e : E} {v : Expr} (hau : au0 = none) (hp : c.canPut i x = true) (hv : notSC v = true) (h : chk c κ false e (.e v) = true) (hk : kdAt κ i .d = true) (hf : frE c.fns e = true) (hno : urnOf κ = none) : PS X (.Assign [.Name x py] v pos) (RS X fe N au0 H0 F0 fr lp κ (.box i e) (some (κ.set i .urn))) := by
  subst hau
  refine ⟨fun pins s σ H D I ⟨F, au, ρ, u, r0, u', S, e, B⟩ => (asg_name (A := Au none) (H0 := H0) f hp hv h).run pins s σ H D I ?_⟩
  obtain ⟨d, u1, e1, e2⟩ := bd_some e
  obtain ⟨m, u2, e3, e4⟩ := bd_some e2
  obtain ⟨e5, e6⟩ := lf_some e3
  dsimp only at e5 e6
  cases e4
  obtain ⟨κ1, z, B⟩ := B
  cases z
  refine ⟨F, au, ρ, u, d, u1, S.s, e1, fun v H' x1 a1 r1 fr1 => ?_⟩
  have hi : i < σ.length := by
    rw [I.len]
    exact (List.getElem?_eq_some_iff.mp (put_loc f hp).1).1
  obtain ⟨F', au', S', g⟩ := S.box x1 a1 (i := i) (fr1 hf) e5 (of_decide_eq_true hk) (fun j z => by
    unfold urnOf at hno
    have z2 := List.findIdx?_eq_none_iff.mp hno .urn (List.mem_of_getElem? z)
    simp at z2) hi
  exact B F' au' _ H' S' g
end
end DL

end
section
set_option Elab.async false
set_option linter.all false
set_option autoImplicit false
set_option maxRecDepth 100000
set_option maxHeartbeats 4000000
/-! own layer: rules of statements, part 2 -/
namespace DL
open PySem PySem.Spec PyProof.Rows L2
section
variable {X : Cx} {c : CC} {fe : Nat → List D → M D} {k N : Nat} {au0 : Option Addr} {H0 : Hp} {F0 : Fb} {fr : Bool} {lp κo : Option (List Kd)} {κ : List Kd}

/-! ### a, b = .. -/
theorem any_star (vs : List Expr) (g : Expr → Bool) (h : ∀ x, g x = isStarred x) : vs.any g = vs.any isStarred := by
  have e : g = isStarred := funext h
  rw [e]
theorem par_names (sc : Scope) (line : Nat) (ts : List Expr) (g : Expr → Option Str) (h : ∀ x, g x = (match x with
    | .Name id pos => if decide (sc.names.lookup id = some .local) && pos.line == line then some id else none
    | _ => none)) : ts.filterMap g = parNames sc line ts := by
  have e := funext h
  rw [e]
  rfl
theorem sw_eq {env : PySem.Env} {ts vs : List Expr} {a b p q} (hk0 : env.scope.kind = .function) : (swDec env.scope ts vs = 0 → swappedStores [.Tuple ts a p] (.Tuple vs b q) env = pure none) ∧ (swDec env.scope ts vs = 1 → swappedStores [.Tuple ts a p] (.Tuple vs b q) env = pure (some (parNames env.scope ((ts.head?.map (·.pos.line)).getD 0) ts))) := by
  have hk : env.blockKind = .function := by unfold PySem.Env.blockKind; rw [hk0]; rfl
  unfold swappedStores
  dsimp only
  rw [hk, any_star vs _ (fun x => by cases x <;> rfl), par_names env.scope ((ts.head?.map (·.pos.line)).getD 0) ts _ (fun x => by
    cases x <;> try rfl
    rename_i id pos
    show (if (env.scope.names.lookup id == some NameKind.local && _) = true then _ else _) = _
    have e : (env.scope.names.lookup id == some NameKind.local) = decide (env.scope.names.lookup id = some NameKind.local) := by
      by_cases h : env.scope.names.lookup id = some NameKind.local
      · rw [h]; rfl
      · rw [decide_eq_false h]; exact beq_eq_false_iff_ne.mpr h
    rw [e])]
  unfold swDec
  dsimp only
  have e0 : (ScopeKind.function != ScopeKind.function) = false := rfl
  rw [e0, Bool.or_false]
  generalize parNames env.scope _ ts = names
  by_cases h1 : (!(ts.length == 2 || ts.length == 3) || vs.length != ts.length) = true
  · rw [if_pos h1, if_pos h1]; exact ⟨fun _ => rfl, fun z => nomatch z⟩
  · rw [if_neg h1, if_neg h1]
    by_cases h2 : vs.any isStarred = true
    · rw [if_pos h2, if_pos h2]; exact ⟨fun _ => rfl, fun z => nomatch z⟩
    · rw [if_neg h2, if_neg h2]
      by_cases h3 : (names.length != ts.length || names.eraseDups.length != names.length) = true
      · rw [if_pos h3, if_pos h3]; exact ⟨fun _ => rfl, fun z => nomatch z⟩
      · rw [if_neg h3, if_neg h3]
        by_cases h4 : vs.all (foldedForSure 8) = true
        · rw [if_pos h4, if_pos h4]; exact ⟨fun _ => rfl, fun z => nomatch z⟩
        · rw [if_neg h4, if_neg h4]
          by_cases h5 : vs.all (constantsAlone 8) = true
          · rw [if_pos h5, if_pos h5]; exact ⟨(fun z => nomatch z), (fun z => nomatch z)⟩
          · rw [if_neg h5, if_neg h5]; exact ⟨(fun z => nomatch z), fun _ => rfl⟩
theorem noSwap {tg v : Expr} {l : Nat} {env : PySem.Env} (h : isTup_ tg = true) : swapsWithSole [tg] v l env = pure false := by
  cases tg <;> first | (cases h; done) | skip
  rename_i a b p
  show swapsWith v (some (.Tuple a b p)) l env = pure false
  unfold swapsWith
  cases v <;> rfl
theorem r_bind (f : Fits X c fe k) {t : Tg} {tg v : Expr} {pos : Pos} {e : E} (h : chk c κ false e (.e v) = true) (ht : isTup_ tg = true) (htg : chkTop c t tg = true) (hk : ∀ i ∈ t.slots, κ[i]? = some .d) (hw : ∀ ts a p vs b q, tg = .Tuple ts a p → v = .Tuple vs b q → swDec c.sc ts vs = 0) :
    PS X (.Assign [tg] v pos) (RS X fe N au0 H0 F0 fr lp κ (.bind t e) (some κ)) := by
  refine ⟨fun pins s σ H D I ⟨F, au, ρ, u, r0, u', S, e0, B⟩ => ?_⟩
  have hsw : swappedStores [tg] v X.env = pure none := by
    cases tg <;> first | (cases ht; done) | skip
    cases v <;> try rfl
    rename_i ts a p vs b q
    exact (sw_eq I.ok.kind).1 (by rw [f.sc]; exact hw ts a p vs b q rfl rfl)
  refine (ps_asg (show PE X v _ from sound e X c (Au au0) H0 κ false _ f h) (tg_top (A := Au au0) (H0 := H0) (pr := false) f htg hk (fun z => by cases z)) (noSwap ht) hsw (by cases tg <;> first | rfl | (cases ht; done))).run pins s σ H D I ?_
  obtain ⟨d, u1, e1, e2⟩ := bd_some e0
  obtain ⟨ρ1, u2, e3, e4⟩ := bd_some e2
  obtain ⟨e5, e6⟩ := lf_some e3
  dsimp only at e5 e6
  subst e6
  cases rt_some e4
  obtain ⟨κ1, z, B⟩ := B
  cases z
  refine ⟨F, au, ρ, u, d, _, S.s, e1, fun v H' x1 a1 r1 _ => ?_⟩
  have S1 := S.step x1 a1
  refine ⟨F, au, ρ, _, d, ρ1, S1.s, by rw [if_neg Bool.false_ne_true]; exact r1, e5, fun σ' S2 _ => ?_⟩
  exact B F au σ' H' ⟨S2, S.f0, S.a0⟩ (S.grow x1)
theorem eraseDups_ne {x y : Str} (h : [x, y].eraseDups.length = 2) : x ≠ y := by
  intro e
  subst e
  simp [List.eraseDups_cons] at h
/-- what the values of a, b, .. = x, y, .. stand for: one may be new -/
inductive HL (w : World) (K : PySem.W.Frag) (au0 : Option Addr) (H0 : Hp) (κ : List Kd) (F : Fb) (au : UB) (ρ : Env) (σ : L2.St) (H : Hp) : List (Nat × Bool) → List V → List D → Prop
  | nil : HL w K au0 H0 κ F au ρ σ H [] [] []
  | rep {i : Nat} {is : List (Nat × Bool)} {v : V} {vs : List V} {d : D} {ds : List D} : Rep w K F H v d → HL w K au0 H0 κ F au ρ σ H is vs ds → HL w K au0 H0 κ F au ρ σ H ((i, false) :: is) (v :: vs) (d :: ds)
  | own {i : Nat} {is : List (Nat × Bool)} {p : Addr} {vs : List V} {d : D} {ds : List D} : Held w K au0 H0 κ F au ρ σ H p d → is.all (fun j => !j.2) = true → RepL w K F H vs ds → HL w K au0 H0 κ F au ρ σ H ((i, true) :: is) (.ref p :: vs) (d :: ds)
def tParD (w : World) (K : PySem.W.Frag) (fe : Nat → List D → M D) (au0 : Option Addr) (H0 : Hp) (F0 : Fb) (κ : List Kd) (is : List (Nat × Bool)) (es : E) : TA := fun σ H Q => ∃ F au ρ u ds u', SimS w K au0 H0 F0 κ F au ρ u σ H ∧ ev fe es ρ u = some (.list ds, u') ∧
  ∀ vs F' H', SimS w K au0 H0 F0 κ F' au ρ u' σ H' → Grow F H F' H' → HL w K au0 H0 κ F' au ρ σ H' is vs ds → Q vs H'
theorem ev_cons {e r : E} {ρ : Env} {u u' : List Int} {ds : List D} (h : ev fe (.cons e r) ρ u = some (.list ds, u')) : ∃ d u1 ds', ev fe e ρ u = some (d, u1) ∧ ev fe r ρ u1 = some (.list ds', u') ∧ ds = d :: ds' := by
  obtain ⟨d, u1, e1, e2⟩ := bd_some h
  obtain ⟨y, u2, e3, e4⟩ := bd_some e2
  obtain ⟨z, u3, e5, e6⟩ := bd_some e4
  cases y <;> first | (cases e5; done) | skip
  cases e5
  cases e6
  exact ⟨d, u1, _, e1, e3, rfl⟩
theorem par_vals (f : Fits X c fe k) : ∀ (is : List (Nat × Bool)) (es : E) (as : List Expr), parVals c κ is es as = true → PA X as (tParD X.w X.K fe au0 H0 F0 κ is es)
  | [], es, as, h => by
    unfold parVals at h
    split at h
    · refine PA.imp pa_nil fun σ H Q ⟨F, au, ρ, u, ds, u', S, e, q⟩ => ?_
      cases e
      exact q [] F H S .refl .nil
    · rename_i z; cases z
    · cases h
  | i :: is, es, as, h => by
    unfold parVals at h
    split at h
    · rename_i z; cases z
    · rename_i i1 is1 e r a as z
      cases z
      rw [Bool.and_eq_true, Bool.and_eq_true] at h
      obtain ⟨⟨h1, h2⟩, h3⟩ := h
      have pe : PE X a (RD0 X c fe au0 H0 κ false e) := sound e X c (Au au0) H0 κ false _ f h2
      obtain ⟨i, fl⟩ := i
      cases fl with
      | false =>
        rw [if_neg (show ¬ ((i, false) : Nat × Bool).2 = true from Bool.false_ne_true)] at h3
        have ih := par_vals f is r as h3
        refine PA.imp (pa_cons pe ih (notStar_each h1 _ _)) fun σ H Q ⟨F, au, ρ, u, ds, u', S, e0, q⟩ => ?_
        obtain ⟨d, u1, ds', e1, e2, rfl⟩ := ev_cons e0
        refine ⟨F, au, ρ, u, d, u1, S.s, e1, fun v H1 x1 a1 r1 _ => ?_⟩
        have r1 : Rep X.w X.K F H1 v d := r1
        refine ⟨F, au, ρ, u1, ds', u', S.step x1 a1, e2, fun vs F' H' S' g hl => ?_⟩
        refine q (v :: vs) F' H' S' ((S.grow x1).trans g) (.rep ?_ hl)
        have z1 : Rep X.w X.K (fun p => F p ∨ F' p) H1 v d := Rep.grow (fun p hp => hp.elim .inl (g.sub p)) _ _ r1
        exact Rep.ext (g.ext.mono fun _ z => .inl z) (fun _ z => .inr z) _ _ z1
      | true =>
        rw [if_pos rfl, Bool.and_eq_true, Bool.and_eq_true] at h3
        obtain ⟨⟨h3, h4⟩, h5⟩ := h3
        have ih : PA X as (RA X fe (Au au0) H0 κ false r) := sound r X c (Au au0) H0 κ false (.es as) f h4
        refine PA.imp (pa_cons pe ih (notStar_each h1 _ _)) fun σ H Q ⟨F, au, ρ, u, ds, u', S, e0, q⟩ => ?_
        obtain ⟨d, u1, ds', e1, e2, rfl⟩ := ev_cons e0
        refine ⟨F, au, ρ, u, d, u1, S.s, e1, fun v H1 x1 a1 r1 f1 => ?_⟩
        obtain ⟨p, rfl, n, S1, g1, hh⟩ := S.hold x1 a1 (f1 h3)
        refine ⟨_, au, ρ, u1, ds', u', S1.s, e2, fun vs H2 x2 a2 r2 => ?_⟩
        exact q (.ref p :: vs) _ H2 (S1.step x2 a2) (g1.trans (S1.grow x2)) (.own (hh.step S1 x2) h5 r2.l)
    · cases h
def setV : List Nat → List V → L2.St → L2.St
  | i :: is, v :: vs, σ => setV is vs (σ.set i (some v))
  | _, _, σ => σ
theorem putK_d : ∀ {is : List (Nat × Bool)} {κ : List Kd}, is.all (fun j => !j.2) = true → putK κ is = κ
  | [], κ, _ => rfl
  | (i, b) :: is, κ, h => by
    rw [List.all_cons, Bool.and_eq_true] at h
    have hb : b = false := by simpa using h.1
    subst hb
    show putK κ is = κ
    exact putK_d (is := is) h.2
theorem put_reps {w : World} {K : PySem.W.Frag} {F : Fb} {au : UB} {u : List Int} {H : Hp} : ∀ {is : List (Nat × Bool)} {vs : List V} {ds : List D} {ρ ρ' : Env} {σ : L2.St}, SimS w K au0 H0 F0 κ F au ρ u σ H → RepL w K F H vs ds → (∀ i ∈ is, κ[i.1]? = some .d) → setAll (is.map (·.1)) ds ρ = some ρ' → SimS w K au0 H0 F0 κ F au ρ' u (setV (is.map (·.1)) vs σ) H
  | [], [], [], ρ, ρ', σ, S, _, _, e => by cases e; exact S
  | i :: is, v :: vs, d :: ds, ρ, ρ', σ, S, .cons r rs, hk, e => put_reps (is := is) (vs := vs) (ds := ds) (S.set (hk i List.mem_cons_self) r) rs (fun j hj => hk j (List.mem_cons_of_mem _ hj)) e
  | [], _ :: _, _ :: _, ρ, ρ', σ, S, _, _, e => by cases e
  | _ :: _, [], [], ρ, ρ', σ, S, _, _, e => by cases e
theorem HL.set {w : World} {K : PySem.W.Frag} {F : Fb} {au : UB} {ρ : Env} {σ : L2.St} {H : Hp} {i : Nat} {v : V} {d : D} (hk : κ[i]? = some .d) : ∀ {is : List (Nat × Bool)} {vs : List V} {ds : List D}, HL w K au0 H0 κ F au ρ σ H is vs ds → HL w K au0 H0 κ F au (ρ.set i (some d)) (σ.set i (some v)) H is vs ds
  | _, _, _, .nil => .nil
  | _, _, _, .rep a t => .rep a (HL.set hk t)
  | _, _, _, .own a b c => .own (a.set hk) b c
theorem put_go {w : World} {K : PySem.W.Frag} {F : Fb} {au : UB} {u : List Int} {H : Hp} : ∀ {is : List (Nat × Bool)} {vs : List V} {ds : List D} {ρ ρ' : Env} {σ : L2.St}, SimS w K au0 H0 F0 κ F au ρ u σ H → HL w K au0 H0 κ F au ρ σ H is vs ds → (∀ i ∈ is, κ[i.1]? = some .d ∨ (i.2 = true ∧ κ[i.1]? = some .own)) → (is.map (·.1)).Nodup → setAll (is.map (·.1)) ds ρ = some ρ' → SimS w K au0 H0 F0 (putK κ is) F au ρ' u (setV (is.map (·.1)) vs σ) H
  | _, _, _, ρ, ρ', σ, S, .nil, _, _, e => by cases e; exact S
  | (i, _) :: is', v :: vs, d :: ds, ρ, ρ', σ, S, .rep r t, hk, hn, e => by
    have hi : κ[i]? = some .d := (hk _ List.mem_cons_self).elim id fun z => nomatch z.1
    exact put_go (is := is') (vs := vs) (ds := ds) (S.set hi r) (t.set hi) (fun j hj => hk j (List.mem_cons_of_mem _ hj)) (List.nodup_cons.mp hn).2 e
  | (i, _) :: is', _ :: vs, d :: ds, ρ, ρ', σ, S, .own h b r, hk, hn, e => by
    have hi : κ[i]? = some .d ∨ κ[i]? = some .own := (hk _ List.mem_cons_self).imp id fun z => z.2
    have S1 := S.take h hi
    have e1 : putK κ ((i, true) :: is') = κ.set i .own := putK_d b
    rw [e1]
    refine put_reps (is := is') (vs := vs) (ds := ds) S1 r (fun j hj => ?_) e
    have hj1 : κ[j.1]? = some .d := (hk j (List.mem_cons_of_mem _ hj)).elim id fun z => by
      have z2 := List.all_eq_true.mp b j hj
      rw [z.1] at z2
      cases z2
    have ne : i ≠ j.1 := fun z => (List.nodup_cons.mp hn).1 (by rw [z]; exact List.mem_map.mpr ⟨j, hj, rfl⟩)
    rw [List.getElem?_set_ne ne]
    exact hj1
theorem HL.len {w : World} {K : PySem.W.Frag} {F : Fb} {au : UB} {ρ : Env} {σ : L2.St} {H : Hp} : ∀ {is : List (Nat × Bool)} {vs : List V} {ds : List D}, HL w K au0 H0 κ F au ρ σ H is vs ds → vs.length = ds.length
  | _, _, _, .nil => rfl
  | _, _, _, .rep a t => by rw [List.length_cons, List.length_cons, HL.len t]
  | _, _, _, .own a b c => by rw [List.length_cons, List.length_cons, c.length]
theorem setAll_len : ∀ {is : List Nat} {ds : List D} {ρ ρ' : Env}, setAll is ds ρ = some ρ' → ds.length = is.length
  | [], [], _, _, _ => rfl
  | _ :: is, _ :: ds, _, _, h => by rw [List.length_cons, List.length_cons, setAll_len (is := is) (ds := ds) h]
  | [], _ :: _, _, _, h => by cases h
  | _ :: _, [], _, _, h => by cases h
def idsOf (ts : List Expr) : List Str := ts.filterMap fun
  | .Name id _ => some id
  | _ => none
theorem parNames_le (sc : Scope) (l : Nat) : ∀ ts : List Expr, (parNames sc l ts).length ≤ ts.length := fun ts => List.length_filterMap_le _ _
theorem parNames_ids (sc : Scope) (l : Nat) : ∀ ts : List Expr, (parNames sc l ts).length = ts.length → parNames sc l ts = idsOf ts
  | [], _ => rfl
  | t :: ts, h => by
    have le := parNames_le sc l ts
    have go : parNames sc l (t :: ts) = parNames sc l ts ∨ ∃ id pos, t = .Name id pos ∧ parNames sc l (t :: ts) = id :: parNames sc l ts := by
      unfold parNames
      rw [List.filterMap_cons]
      cases t <;> try exact .inl rfl
      rename_i id pos
      dsimp only
      by_cases hb : (decide (sc.names.lookup id = some .local) && pos.line == l) = true
      · rw [if_pos hb]; exact .inr ⟨id, pos, rfl, rfl⟩
      · rw [if_neg hb]; exact .inl rfl
    rcases go with e | ⟨id, pos, rfl, e⟩
    · rw [e, List.length_cons] at h
      omega
    · rw [e, List.length_cons, List.length_cons] at h
      rw [e, parNames_ids sc l ts (by omega)]
      rfl
theorem sw_one {sc : Scope} {ts vs : List Expr} (h : swDec sc ts vs = 1) : (ts.length = 2 ∨ ts.length = 3) ∧ vs.length = ts.length ∧ parNames sc ((ts.head?.map (·.pos.line)).getD 0) ts = idsOf ts := by
  unfold swDec at h
  split at h; · cases h
  rename_i h1
  simp only [Bool.or_eq_true, Bool.not_eq_true', not_or, bne_iff_ne, ne_eq, Decidable.not_not, Bool.or_eq_false_iff, beq_eq_false_iff_ne, not_and] at h1
  split at h; · cases h
  dsimp only at h
  split at h; · cases h
  rename_i h3
  simp only [Bool.or_eq_true, not_or, bne_iff_ne, ne_eq, Decidable.not_not] at h3
  refine ⟨?_, h1.2, parNames_ids _ _ _ h3.1⟩
  by_cases z : ts.length = 2
  · exact .inl z
  · exact .inr (h1.1 z)
theorem slots_cons {i : Nat × Bool} {is : List (Nat × Bool)} {ts : List Expr} {loc : Bool} (h : parSlots c κ loc (i :: is) ts = true) : ∃ x px ts', ts = .Name x px :: ts' ∧ c.canPut i.1 x = true ∧ (loc = true → c.sc.names.lookup x = some .local) ∧ (κ[i.1]? = some .d ∨ (i.2 = true ∧ κ[i.1]? = some .own)) ∧ parSlots c κ loc is ts' = true := by
  unfold parSlots at h
  split at h <;> first | (cases h; done) | skip
  · rename_i z; cases z
  · rename_i e
    cases e
    simp only [Bool.and_eq_true, Bool.or_eq_true, decide_eq_true_eq, kdAt, Bool.not_eq_true'] at h
    obtain ⟨⟨⟨a1, a2⟩, a3⟩, h⟩ := h
    exact ⟨_, _, _, rfl, a1, fun z => a2.elim (fun y => by rw [y] at z; cases z) id, a3, h⟩
theorem slots_nil {ts : List Expr} {loc : Bool} (h : parSlots c κ loc [] ts = true) : ts = [] := by
  unfold parSlots at h
  split at h <;> first | (cases h; done) | rfl | skip
  rename_i e; cases e
theorem slots_all : ∀ {is : List (Nat × Bool)} {ts : List Expr} {loc : Bool}, parSlots c κ loc is ts = true → ∀ i ∈ is, κ[i.1]? = some .d ∨ (i.2 = true ∧ κ[i.1]? = some .own)
  | [], _, _, _, i, hi => by cases hi
  | j :: is, ts, _, h, i, hi => by
    obtain ⟨x, px, ts', e, h1, h2, h3, h4⟩ := slots_cons h
    rcases List.mem_cons.mp hi with rfl | hi
    · exact h3
    · exact slots_all h4 i hi
theorem slots_len : ∀ {is : List (Nat × Bool)} {ts : List Expr} {loc : Bool}, parSlots c κ loc is ts = true → ts.length = is.length
  | [], _, _, h => by rw [slots_nil h]; rfl
  | j :: is, ts, _, h => by
    obtain ⟨x, px, ts', rfl, h1, h2, h3, h4⟩ := slots_cons h
    rw [List.length_cons, List.length_cons, slots_len h4]
theorem r_par (f : Fits X c fe k) {is : List (Nat × Bool)} {es : E} {ts vs : List Expr} {kt k2 : Nat} {pt pt2 pos : Pos} (hs : swDec c.sc ts vs = 1) (hv : parVals c κ is es vs = true) (hp : parSlots c κ true is ts = true) (hn : (is.map (·.1)).Nodup) :
    PS X (.Assign [.Tuple ts kt pt] (.Tuple vs k2 pt2) pos) (RS X fe N au0 H0 F0 fr lp κ (.par is es) (some (putK κ is))) := by
  refine ⟨fun pins s σ H D I ⟨F, au, ρ, u, r0, u', S, e0, B⟩ => ?_⟩
  obtain ⟨w1, w2, w3⟩ := sw_one hs
  have hsw := (sw_eq (a := kt) (b := k2) (p := pt) (q := pt2) (ts := ts) (vs := vs) I.ok.kind).2 (by rw [f.sc]; exact hs)
  rw [f.sc, w3] at hsw
  have ha : PA X vs (tParD X.w X.K fe au0 H0 F0 κ is es) := par_vals f is es vs hv
  have hall := slots_all hp
  have hlen := slots_len hp
  obtain ⟨d, u1, e1, e2⟩ := bd_some e0
  obtain ⟨ds, u2, e3, e4⟩ := bd_some e2
  obtain ⟨ρ1, u3, e5, e6⟩ := bd_some e4
  obtain ⟨e7, e8⟩ := lf_some e5
  dsimp only at e7 e8
  subst e8
  cases rt_some e6
  obtain ⟨κ1, z, B⟩ := B
  cases z
  cases d <;> first | (cases e3; done) | skip
  cases e3
  match is, w1, hlen with
  | [], w1, hl => rw [hl] at w1; rcases w1 with z | z <;> cases z
  | [_], w1, hl => rw [hl] at w1; rcases w1 with z | z <;> cases z
  | [i, j], w1, hl =>
    obtain ⟨x, px, ts1, rfl, a1, a2, a3, h1⟩ := slots_cons hp
    obtain ⟨y, py, ts2, rfl, b1, b2, b3, h2⟩ := slots_cons h1
    have := slots_nil h2
    subst this
    obtain ⟨a, b, rfl⟩ : ∃ a b, vs = [a, b] := len2 (by rw [w2]; rfl)
    have hij : i.1 ≠ j.1 := by simpa using hn
    refine (ps_par f.calm f.nd (put_loc f a1).1 (put_loc f b1).1 hij (by rw [f.sc]; exact a2 rfl) (by rw [f.sc]; exact b2 rfl) ha hsw (noSwap rfl)).run pins s σ H D I ?_
    refine ⟨F, au, ρ, u, _, _, S, e1, fun ws F' H' S' g hl' => ?_⟩
    have S2 := put_go S' hl' hall hn e7
    have hwl := (HL.len hl').trans (setAll_len e7)
    match ws, hwl with
    | [v, w], _ => exact ⟨v, w, rfl, B F' au _ H' S2 g⟩
  | [i, j, l], w1, hl =>
    obtain ⟨x, px, ts1, rfl, a1, a2, a3, h1⟩ := slots_cons hp
    obtain ⟨y, py, ts2, rfl, b1, b2, b3, h2⟩ := slots_cons h1
    obtain ⟨z, pz, ts3, rfl, c1, c2, c3, h3⟩ := slots_cons h2
    have := slots_nil h3
    subst this
    obtain ⟨a, b, c, rfl⟩ : ∃ a b c, vs = [a, b, c] := len3 (by rw [w2]; rfl)
    have hij : i.1 ≠ j.1 ∧ i.1 ≠ l.1 ∧ j.1 ≠ l.1 := by simpa [and_assoc] using hn
    refine (ps_par3 f.calm f.nd (put_loc f a1).1 (put_loc f b1).1 (put_loc f c1).1 hij.1 hij.2.1 hij.2.2 (by rw [f.sc]; exact a2 rfl) (by rw [f.sc]; exact b2 rfl) (by rw [f.sc]; exact c2 rfl) ha hsw (noSwap rfl)).run pins s σ H D I ?_
    refine ⟨F, au, ρ, u, _, _, S, e1, fun ws F' H' S' g hl' => ?_⟩
    have S2 := put_go S' hl' hall hn e7
    have hwl := (HL.len hl').trans (setAll_len e7)
    match ws, hwl with
    | [v, w, t], _ => exact ⟨v, w, t, rfl, B F' au _ H' S2 g⟩
  | _ :: _ :: _ :: _ :: _, w1, hl => rw [hl] at w1; rcases w1 with z | z <;> simp at z
/-! the tuple is made and unpacked -/
def gNs (is : List Nat) : TGs := fun vs σ H Q => vs.length = is.length ∧ Q (setV is vs σ) H
theorem pgs_names (f : Fits X c fe k) {loc : Bool} : ∀ (is : List (Nat × Bool)) (ts : List Expr), parSlots c κ loc is ts = true → PGs X ts (gNs (is.map (·.1))) ∧ ts.all isTgt = true
  | [], ts, h => by
    rw [slots_nil h]
    refine ⟨PGs.imp pgs_nil fun vs σ H Q ⟨e, q⟩ => ?_, rfl⟩
    have e : vs = [] := List.length_eq_zero_iff.mp e
    subst e
    exact ⟨rfl, q⟩
  | i :: is, ts, h => by
    obtain ⟨x, px, ts', rfl, h1, h2, h3, h4⟩ := slots_cons h
    obtain ⟨p1, p2⟩ := pgs_names f is ts' h4
    obtain ⟨q1, q2, q3⟩ := put_loc f h1
    refine ⟨PGs.imp (pgs_cons (pg_name f.nd q1 q2 q3) p1) fun vs σ H Q ⟨e, q⟩ => ?_, by rw [List.all_cons, p2]; rfl⟩
    cases vs with
    | nil => cases e
    | cons v vs => exact ⟨v, vs, rfl, Nat.succ.inj e, q⟩
theorem HL.step {w : World} {K : PySem.W.Frag} {F : Fb} {au : UB} {ρ : Env} {u : List Int} {σ : L2.St} {H H' : Hp} (S : SimS w K au0 H0 F0 κ F au ρ u σ H) (e : Ext (Au au.a) H H') : ∀ {is : List (Nat × Bool)} {vs : List V} {ds : List D}, HL w K au0 H0 κ F au ρ σ H is vs ds → HL w K au0 H0 κ F au ρ σ H' is vs ds
  | _, _, _, .nil => .nil
  | _, _, _, .rep a t => .rep (Rep.ext (e.mono S.s.auF) (fun _ z => z) _ _ a) (HL.step S e t)
  | _, _, _, .own a b r => .own (a.step S e) b (RepL.ext (e.mono S.s.auF) (fun _ z => z) _ _ r)
theorem r_par0 (f : Fits X c fe k) {is : List (Nat × Bool)} {es : E} {ts vs : List Expr} {kt k2 : Nat} {pt pt2 pos : Pos} {loc : Bool} (hs : swDec c.sc ts vs = 0) (hv : parVals c κ is es vs = true) (hp : parSlots c κ loc is ts = true) (hn : (is.map (·.1)).Nodup) (hle : is.length ≤ 1000) :
    PS X (.Assign [.Tuple ts kt pt] (.Tuple vs k2 pt2) pos) (RS X fe N au0 H0 F0 fr lp κ (.par is es) (some (putK κ is))) := by
  refine ⟨fun pins s σ H D I ⟨F, au, ρ, u, r0, u', S, e0, B⟩ => ?_⟩
  have hsw := (sw_eq (a := kt) (b := k2) (p := pt) (q := pt2) (ts := ts) (vs := vs) I.ok.kind).1 (by rw [f.sc]; exact hs)
  have ha : PA X vs (tParD X.w X.K fe au0 H0 F0 κ is es) := par_vals f is es vs hv
  have hall := slots_all hp
  have hlen := slots_len hp
  obtain ⟨d, u1, e1, e2⟩ := bd_some e0
  obtain ⟨ds, u2, e3, e4⟩ := bd_some e2
  obtain ⟨ρ1, u3, e5, e6⟩ := bd_some e4
  obtain ⟨e7, e8⟩ := lf_some e5
  dsimp only at e7 e8
  subst e8
  cases rt_some e6
  obtain ⟨κ1, z, B⟩ := B
  cases z
  cases d <;> first | (cases e3; done) | skip
  cases e3
  obtain ⟨p1, p2⟩ := pgs_names f is ts hp
  obtain ⟨l1, l2⟩ := tgt_len (env := X.env) p2
  refine (ps_asg (pe_tupF ha) (pg_tup f.calm p1 l1 l2) (noSwap rfl) hsw rfl).run pins s σ H D I ?_
  refine ⟨F, au, ρ, u, _, _, S, e1, fun ws F' H' S' g hl' => ?_⟩
  have hwl := (HL.len hl').trans (setAll_len e7)
  rw [List.length_map] at hwl
  refine ⟨by rw [hwl]; have : (1000 : Nat) ≤ sizeLine := by decide
             omega, fun p o hpn hod => ?_⟩
  have ex : Ext E0 H' (upd H' p (.frz o (.tup ws))) := Ext.new hpn
  have S2 := S'.step ex.e0 (S'.s.uat.e0 ex)
  have S3 := put_go S2 (hl'.step S' ex.e0) hall hn e7
  refine ⟨p, ws, rfl, SqF.t ⟨o, hod, upd_same⟩, by rw [hwl, hlen], by rw [hwl, List.length_map], ?_⟩
  exact B F' au _ _ S3 (g.trans (S'.grow ex.e0))
end
end DL

end
section
set_option Elab.async false
set_option linter.all false
set_option autoImplicit false
set_option maxRecDepth 100000
set_option maxHeartbeats 4000000
/-! own layer: rules of statements, part 3 -/
namespace DL
open PySem PySem.Spec PyProof.Rows L2
section
variable {X : Cx} {c : CC} {fe : Nat → List D → M D} {k N : Nat} {au0 : Option Addr} {H0 : Hp} {F0 : Fb} {fr : Bool} {lp κo : Option (List Kd)} {κ : List Kd}
theorem one_es {b : Bool} {e : E} {a : Expr} (hn : notStar a = true) (h : chk c κ b e (.e a) = true) : chk c κ b (.cons e .nil) (.es [a]) = true := by
  unfold chk
  show (notStar a && chk c κ b e (.e a) && chk c κ b .nil (.es [])) = true
  rw [hn, h]
  unfold chk
  rfl
theorem ev_one {e : E} {ρ : Env} {u u1 : List Int} {d : D} (h : ev fe e ρ u = some (d, u1)) : ev fe (.cons e .nil) ρ u = some (.list [d], u1) := by
  unfold ev
  unfold bd
  rw [h]
  rfl
/-- o.m(e) as a statement -/
theorem meth1 {b : Bool} (f : Fits X c fe k) {i : Nat} {x m : Str} {px ap cp pos : Pos} {a : Expr} {e : E} {T id : String} {r : V → List V → Hp → VK → Prop} {A : Fb} {H0 : Hp} (pa : PlainAttrs T) (slot : Slot T m id) (hty : typeOf (.builtin id) = pure (.type "method_descriptor")) (hm : MtR X id r) (hv : c.isVar i x = true) (hl : (ap.endLine == cp.line) = true) (hn : notStar a = true) (h : chk c κ b e (.e a) = true) :
    PS X (.Expr (.Call (.Attribute (.Name x px) m ap) [a] [] cp) pos) (tDrop (tBM X.K T r (tVar i) (RA X fe A H0 κ b (.cons e .nil)))) := by
  have ha : PA X [a] (RA X fe A H0 κ b (.cons e .nil)) := sound (.cons e .nil) X c A H0 κ b (.es [a]) f (one_es hn h)
  exact ps_expr (pe_bm pa slot hty hm (f.var hv) ha rfl (by rw [notStar_each hn]; rfl) hl (notStar_each hn _ _) rfl) rfl
theorem own_of {F : Fb} {au : UB} {ρ : Env} {u : List Int} {σ : L2.St} {H : Hp} {w : World} {K : PySem.W.Frag} {i : Nat} {l : D} (S : SimS w K au0 H0 F0 κ F au ρ u σ H) (hk : kdAt κ i .own = true) (hr : ρ[i]? = some (some l)) : ∃ a, σ[i]? = some (some (.ref a)) ∧ F a ∧ au.a ≠ some a ∧ OwnAt w K F H a l := by
  obtain ⟨a, h1, h2, h3, h4, h5, h6⟩ := S.s.own i l (of_decide_eq_true hk) hr
  exact ⟨a, h1, h2, fun z => h5 (.inl z), h6⟩
theorem OwnAt.list_inv {w : World} {K : PySem.W.Frag} {F : Fb} {H : Hp} {a : Addr} {ds : List D} (h : OwnAt w K F H a (.list ds)) : ∃ xs, H a = some (.lst xs) ∧ RepL w K F H xs ds := by
  rcases h with ⟨xs, es, e, h1, h2⟩ | ⟨es, ep, kvs, e, _⟩
  · cases e; exact ⟨xs, h1, h2⟩
  · cases e
theorem OwnAt.dict_inv {w : World} {K : PySem.W.Frag} {F : Fb} {H : Hp} {a : Addr} {kvs : List (D × D)} (h : OwnAt w K F H a (.dict kvs)) : ∃ es ep, H a = some (dictO a es ep) ∧ RepE w K F H es kvs ∧ ndK kvs := by
  rcases h with ⟨xs, es, e, h1, h2⟩ | ⟨es, ep, kvs', e, h1, h2, h3, _⟩
  · cases e
  · cases e; exact ⟨es, ep, h1, h2, h3⟩
theorem r_app (f : Fits X c fe k) {i : Nat} {x : Str} {px ap cp pos : Pos} {a : Expr} {e : E} (hv : c.isVar i x = true) (hk : kdAt κ i .own = true) (hl : (ap.endLine == cp.line) = true) (hn : notStar a = true) (h : chk c κ false e (.e a) = true) :
    PS X (.Expr (.Call (.Attribute (.Name x px) "append" ap) [a] [] cp) pos) (RS X fe N au0 H0 F0 fr lp κ (.app i e) (some κ)) :=
  PS.imp (meth1 (A := Au au0) (H0 := H0) f PySem.F.plainAttrs_list PySem.F.slot_list_append PySem.F.type_list_append mt_append hv hl hn h) fun D σ H ⟨F, au, ρ, u, r0, u', S, e0, B⟩ => by
    obtain ⟨d, u1, e1, e2⟩ := bd_some e0
    obtain ⟨l, u2, e3, e4⟩ := bd_some e2
    obtain ⟨z, u3, e5, e6⟩ := bd_some e4
    obtain ⟨hr, q1⟩ := slotD e3
    obtain ⟨e7, q2⟩ := lf_some e5
    dsimp only at hr q1 e7 q2
    subst q1
    subst q2
    cases rt_some e6
    obtain ⟨κ1, zz, B⟩ := B
    cases zz
    unfold appO at e7
    split at e7
    · rename_i ys
      split at e7
      · rename_i hf
        cases e7
        obtain ⟨p, h1, h2, h3, h4⟩ := own_of S hk hr
        obtain ⟨xs, h5, h6⟩ := h4.list_inv
        refine ⟨.ref p, h1, .inl ⟨rfl, xs, .inl (.inl h5)⟩, F, au, ρ, u, [d], _, S.s, ev_one e1, fun vs H' x1 a1 r1 => ?_⟩
        cases r1 with
        | cons r1 r2 =>
          cases r2
          have S1 := S.step x1 a1
          have h7 : H' p = some (.lst xs) := x1 p _ h5 h3
          have h8 : RepL X.w X.K F H' xs ys := RepL.ext (x1.mono S.s.auF) (fun _ z => z) _ _ h6
          have hlen := h6.length
          have hfl := fits_line hf
          refine ⟨p, xs, _, rfl, rfl, h7, by omega, ?_⟩
          obtain ⟨S2, g⟩ := S1.poke (d := .list (ys ++ [d])) (o := .lst (xs ++ [_])) (of_decide_eq_true hk) hr h1 (fun _ _ z => nomatch z) (.inl ⟨_, _, rfl, upd_same, RepL.ext (Ext.upd h2) (fun _ z => z) _ _ (RepL.append h8 (.cons r1 .nil))⟩)
          exact B F au σ _ S2 ((S.grow x1).trans g)
      · cases e7
    · cases e7
theorem r_ext (f : Fits X c fe k) {i : Nat} {x : Str} {px ap cp pos : Pos} {a : Expr} {e : E} (hv : c.isVar i x = true) (hk : kdAt κ i .own = true) (hl : (ap.endLine == cp.line) = true) (hn : notStar a = true) (h : chk c κ false e (.e a) = true) :
    PS X (.Expr (.Call (.Attribute (.Name x px) "extend" ap) [a] [] cp) pos) (RS X fe N au0 H0 F0 fr lp κ (.ext i e) (some κ)) :=
  PS.imp (meth1 (A := Au au0) (H0 := H0) f PySem.F.plainAttrs_list PySem.F.slot_list_extend PySem.F.type_list_extend mt_extend hv hl hn h) fun D σ H ⟨F, au, ρ, u, r0, u', S, e0, B⟩ => by
    obtain ⟨d, u1, e1, e2⟩ := bd_some e0
    obtain ⟨l, u2, e3, e4⟩ := bd_some e2
    obtain ⟨z, u3, e5, e6⟩ := bd_some e4
    obtain ⟨hr, q1⟩ := slotD e3
    obtain ⟨e7, q2⟩ := lf_some e5
    dsimp only at hr q1 e7 q2
    subst q1
    subst q2
    cases rt_some e6
    obtain ⟨κ1, zz, B⟩ := B
    cases zz
    unfold extO at e7
    split at e7
    · rename_i ys zs
      split at e7
      · rename_i hf
        cases e7
        obtain ⟨p, h1, h2, h3, h4⟩ := own_of S hk hr
        obtain ⟨xs, h5, h6⟩ := h4.list_inv
        refine ⟨.ref p, h1, .inl ⟨rfl, xs, .inl (.inl h5)⟩, F, au, ρ, u, [.list zs], _, S.s, ev_one e1, fun vs H' x1 a1 r1 => ?_⟩
        cases r1 with
        | cons r1 r2 =>
          cases r2
          obtain ⟨b, ws, rfl, hb1, hb2, hb3⟩ := Rep.list_inv0 r1
          have S1 := S.step x1 a1
          have h7 : H' p = some (.lst xs) := x1 p _ h5 h3
          have h8 : RepL X.w X.K F H' xs ys := RepL.ext (x1.mono S.s.auF) (fun _ z => z) _ _ h6
          have hlen := h6.length
          have hlen2 := hb3.length
          have hfl := fits_line hf
          refine ⟨p, b, xs, ws, rfl, rfl, h7, hb2, by omega, ?_⟩
          obtain ⟨S2, g⟩ := S1.poke (d := .list (ys ++ zs)) (o := .lst (xs ++ ws)) (of_decide_eq_true hk) hr h1 (fun _ _ z => nomatch z) (.inl ⟨_, _, rfl, upd_same, RepL.ext (Ext.upd h2) (fun _ z => z) _ _ (RepL.append h8 hb3)⟩)
          exact B F au σ _ S2 ((S.grow x1).trans g)
      · cases e7
    · cases e7
/-- the same, of a dict of ours -/
def tBMD (r : V → List V → Hp → VK → Prop) (to : TE) (t : TA) : TE := fun σ H Q => to σ H fun x H1 => (∃ a es ep, x = .ref a ∧ H1 a = some (dictO a es ep)) ∧ t σ H1 fun xs H2 => r x xs H2 Q
theorem pe_bmD {o e : Expr} {es : List Expr} {to : TE} {t : TA} {name : Str} {apos cpos : Pos} {id : String} {r : V → List V → Hp → VK → Prop} (slot : Slot "dict" name id) (hty : typeOf (.builtin id) = pure (.type "method_descriptor")) (hm : MtR X id r) (ho : PE X o to) (ha : PA X (e :: es) t)
    (hbase : attributeBase o name X.env (eval o X.env) = eval o X.env)
    (hfew : ((backTo cpos (starEach (e :: es) X.env)).all (fun x => !x.1) && (backToKw cpos (keywordEach [] X.env)).all (fun x => x.1.isSome)
      && decide ((e :: es).length + ([] : List Keyword).length + (if ([] : List Keyword).isEmpty then 0 else 1) < 30)) = true)
    (hline : (apos.endLine == cpos.line) = true) (hs : starEach (e :: es) X.env = (false, eval e X.env) :: starEach es X.env) (hplain : (backTo cpos (starEach es X.env)).any (·.1) = false) :
    PE X (.Call (.Attribute o name apos) (e :: es) [] cpos) (tBMD r to t) := by
  refine ⟨fun pins s σ H Q I h => ?_⟩
  refine wpAny_Call_method_late hbase hfew hline rfl (thn (ho.run pins s σ H _ I h) fun v s1 ⟨x, H1, I1, r1, ty, q1⟩ => ?_)
  obtain ⟨a, es', ep', rfl, hd⟩ := ty
  cases r1
  obtain ⟨⟨_, _, o, ens, hob, ex, _⟩, _⟩ := I1.hok a _ hd
  refine ⟨"dict", id, PySem.F.plainAttrs_dict, slot, hty, ⟨o, hob, ex.1⟩, fun b e2 => by cases e2; exact ⟨o, hob, ex.2.1⟩, ?_⟩
  have hA := ha.run cpos pins s1 σ H1 _ I1 q1
  rw [hs] at hA ⊢
  refine Calls.callWith_builtin (by show (false || (backTo cpos (starEach es X.env)).any (·.1)) = false; rw [hplain] <;> rfl) (Calls.evalArgs_plain ?_)
  exact thn hA fun us s2 ⟨vs, H2, I2, r2, q2⟩ => hm pins s2 σ H2 (.ref a) vs (.ref a) us Q I2 rfl r2 q2
theorem methD {b : Bool} (f : Fits X c fe k) {i : Nat} {x m : Str} {px ap cp pos : Pos} {a : Expr} {e : E} {id : String} {r : V → List V → Hp → VK → Prop} {A : Fb} {H0 : Hp} (slot : Slot "dict" m id) (hty : typeOf (.builtin id) = pure (.type "method_descriptor")) (hm : MtR X id r) (hv : c.isVar i x = true) (hl : (ap.endLine == cp.line) = true) (hn : notStar a = true) (h : chk c κ b e (.e a) = true) :
    PS X (.Expr (.Call (.Attribute (.Name x px) m ap) [a] [] cp) pos) (tDrop (tBMD r (tVar i) (RA X fe A H0 κ b (.cons e .nil)))) := by
  have ha : PA X [a] (RA X fe A H0 κ b (.cons e .nil)) := sound (.cons e .nil) X c A H0 κ b (.es [a]) f (one_es hn h)
  exact ps_expr (pe_bmD slot hty hm (f.var hv) ha rfl (by rw [notStar_each hn]; rfl) hl (notStar_each hn _ _) rfl) rfl
theorem r_upd (f : Fits X c fe k) {i : Nat} {x : Str} {px ap cp pos : Pos} {a : Expr} {e : E} (hv : c.isVar i x = true) (hk : kdAt κ i .own = true) (hl : (ap.endLine == cp.line) = true) (hn : notStar a = true) (h : chk c κ false e (.e a) = true) :
    PS X (.Expr (.Call (.Attribute (.Name x px) "update" ap) [a] [] cp) pos) (RS X fe N au0 H0 F0 fr lp κ (.upd i e) (some κ)) :=
  PS.imp (methD (A := Au au0) (H0 := H0) f PySem.F.slot_dict_update PySem.F.type_dict_update (r := rUpd X.w X.K) (mt_update f.hu f.calm) hv hl hn h) fun D σ H ⟨F, au, ρ, u, r0, u', S, e0, B⟩ => by
    obtain ⟨d, u1, e1, e2⟩ := bd_some e0
    obtain ⟨l, u2, e3, e4⟩ := bd_some e2
    obtain ⟨z, u3, e5, e6⟩ := bd_some e4
    obtain ⟨hr, q1⟩ := slotD e3
    obtain ⟨e7, q2⟩ := lf_some e5
    dsimp only at hr q1 e7 q2
    subst q1
    subst q2
    cases rt_some e6
    obtain ⟨κ1, zz, B⟩ := B
    cases zz
    unfold updO at e7
    split at e7
    · rename_i kvs ds
      split at e7
      · rename_i ps hps
        split at e7
        · rename_i hf
          cases e7
          simp only [Bool.and_eq_true] at hf
          obtain ⟨p, h1, h2, h3, h4⟩ := own_of S hk hr
          obtain ⟨es, ep, h5, _, _⟩ := h4.dict_inv
          refine ⟨.ref p, h1, ⟨p, es, ep, rfl, h5⟩, F, au, ρ, u, [.list ds], _, S.s, ev_one e1, fun vs H' x1 a1 r1 => ?_⟩
          cases r1 with
          | cons r1 r2 =>
            cases r2
            obtain ⟨b, ws, rfl, hb1, hb2, hb3⟩ := Rep.list_inv0 r1
            have S1 := S.step x1 a1
            have h4' : OwnAt X.w X.K F H' p (.dict kvs) := h4.stay x1 S.s.auF h3
            obtain ⟨es, ep, h5, h6, h7⟩ := h4'.dict_inv
            refine ⟨F, p, es, ep, kvs, b, ws, ds, ps, rfl, rfl, h5, h2, h6, h7, hf.1.1, hb2, hb3, hps, hf.1.2, hf.2, fun es' ep' ho => ?_⟩
            obtain ⟨S2, g⟩ := S1.poke (d := .dict (putAll kvs ps)) (o := dictO p es' ep') (of_decide_eq_true hk) hr h1 (fun _ _ z => nomatch z) ho
            exact B F au σ _ S2 ((S.grow x1).trans g)
        · cases e7
      · cases e7
    · cases e7
/-! ### o[i] = v -/
theorem noSwapS {o a v : Expr} {p : Pos} {l : Nat} {env : PySem.Env} : swapsWithSole [.Subscript o a p] v l env = pure false := by
  show swapsWith v (some (.Subscript o a p)) l env = pure false
  unfold swapsWith
  cases v <;> rfl
theorem noStoreS {o a v : Expr} {p : Pos} {env : PySem.Env} : swappedStores [.Subscript o a p] v env = pure none := by
  cases v <;> rfl
theorem asg_sub (f : Fits X c fe k) {i : Nat} {x : Str} {px sp pos : Pos} {a v : Expr} {te ti : TE} {t : TSet} (hv : c.isVar i x = true) (hns : notSlice a = true) (he : PE X v te) (hi : PE X a ti) (ht : PSet X t) : PS X (.Assign [.Subscript (.Name x px) a sp] v pos) (tAsg te (gSub (tVar i) ti t)) :=
  ps_asg he (pg_sub (f.var hv) hi ht (by intro v; cases a <;> first | rfl | (cases hns; done))) noSwapS noStoreS rfl
theorem PSet.or {t t' : TSet} (h : PSet X t) (h' : PSet X t') : PSet X (fun o i v H Q => t o i v H Q ∨ t' o i v H Q) := fun pins s σ H o i v ov iv u Q I r1 r2 r3 q => q.elim (h pins s σ H o i v ov iv u Q I r1 r2 r3) (h' pins s σ H o i v ov iv u Q I r1 r2 r3)
theorem r_put (f : Fits X c fe k) {i : Nat} {x : Str} {px sp pos : Pos} {a v : Expr} {kk e : E} (hv : c.isVar i x = true) (hk : kdAt κ i .own = true) (hns : notSlice a = true) (h : chk c κ false e (.e v) = true) (hkk : chk c κ false kk (.e a) = true) :
    PS X (.Assign [.Subscript (.Name x px) a sp] v pos) (RS X fe N au0 H0 F0 fr lp κ (.put i kk e) (some κ)) :=
  PS.imp (asg_sub f hv hns (show PE X v _ from sound e X c (Au au0) H0 κ false _ f h) (show PE X a _ from sound kk X c (Au au0) H0 κ false _ f hkk) (PSet.or set_list (set_dict f.hu))) fun D σ H ⟨F, au, ρ, u, r0, u', S, e0, B⟩ => by
    obtain ⟨d, u1, e1, e2⟩ := bd_some e0
    obtain ⟨kd, u2, e3, e4⟩ := bd_some e2
    obtain ⟨l, u3, e5, e6⟩ := bd_some e4
    obtain ⟨z, u4, e7, e8⟩ := bd_some e6
    obtain ⟨hr, q1⟩ := slotD e5
    obtain ⟨e9, q2⟩ := lf_some e7
    dsimp only at hr q1 e9 q2
    subst q1
    subst q2
    cases rt_some e8
    obtain ⟨κ1, zz, B⟩ := B
    cases zz
    obtain ⟨p, h1, h2, h3, h4⟩ := own_of S hk hr
    refine ⟨F, au, ρ, u, d, u1, S.s, e1, fun v1 H1 x1 a1 r1 _ => ⟨.ref p, h1, ?_⟩⟩
    have S1 := S.step x1 a1
    refine ⟨F, au, ρ, u1, kd, _, S1.s, e3, fun v2 H2 x2 a2 r2 q9 => ?_⟩
    have S2 := S1.step x2 a2
    have x12 := x1.trans x2
    have r1' : Rep X.w X.K F H2 v1 d := Rep.ext (x2.mono S.s.auF) (fun _ z => z) _ _ r1
    have h4' : OwnAt X.w X.K F H2 p l := h4.stay x12 S.s.auF h3
    have hka := of_decide_eq_true hk
    unfold putO at e9
    split at e9
    · rename_i xs n
      cases r2
      obtain ⟨j, hj, rfl⟩ := Option.map_eq_some_iff.mp e9
      obtain ⟨ws, h5, h6⟩ := h4'.list_inv
      refine .inl ⟨p, ws, n, j, rfl, rfl, h5, by rw [h6.length]; exact hj, ?_⟩
      obtain ⟨S3, g⟩ := S2.poke (d := .list (xs.set j d)) (o := .lst (ws.set j v1)) hka hr h1 (fun _ _ z => nomatch z) (.inl ⟨_, _, rfl, upd_same, RepL.ext (Ext.upd h2) (fun _ z => z) _ _ (RepL.set r1' j h6)⟩)
      exact B F au σ _ S3 ((S.grow x12).trans g)
    · rename_i kvs
      split at e9
      · rename_i hg
        cases e9
        rw [Bool.and_eq_true] at hg
        obtain ⟨es, ep, h5, h6, h7⟩ := h4'.dict_inv
        refine .inr ⟨F, p, es, ep, kvs, kd, d, rfl, h5, h2, h6, h7, r2, hg.1, r1', hg.2, fun es' ep' ho => ?_⟩
        obtain ⟨S3, g⟩ := S2.poke (d := .dict (putD kd d kvs)) (o := dictO p es' ep') hka hr h1 (fun _ _ z => nomatch z) ho
        exact B F au σ _ S3 ((S.grow x12).trans g)
      · cases e9
    · cases e9
theorem r_urnS (f : Fits X c fe k) {i j : Nat} {x : Str} {n : Int} {px cp sp pos : Pos} {ki : Nat} {v : Expr} {e : E} (hi : urnOf κ = some i) (hv : c.isVar i x = true) (hn : n = (j : Int)) (h : chk c κ false e (.e v) = true) :
    PS X (.Assign [.Subscript (.Name x px) (.Constant (.int n) ki cp) sp] v pos) (RS X fe N au0 H0 F0 fr lp κ (.urnS j e) (some κ)) :=
  PS.imp (asg_sub f hv rfl (show PE X v _ from sound e X c (Au au0) H0 κ false _ f h) pe_int set_list) fun D σ H ⟨F, au, ρ, u, r0, u', S, e0, B⟩ => by
    obtain ⟨d, u1, e1, e2⟩ := bd_some e0
    cases d <;> first | (cases e2; done) | skip
    rename_i m
    dsimp only at e2
    split at e2
    · rename_i hj
      cases e2
      obtain ⟨κ1, zz, B⟩ := B
      cases zz
      obtain ⟨a, ha, hs⟩ := S.s.ur i (urnOf_inv hi)
      refine ⟨F, au, ρ, u, .int m, u1, S.s, e1, fun v1 H1 x1 a1 r1 _ => ⟨.ref a, hs, ?_⟩⟩
      cases r1
      have S1 := S.step x1 a1
      obtain ⟨S2, g⟩ := S1.urnSet (j := j) (n := m) ha
      refine ⟨a, u1.map V.int, n, j, rfl, rfl, a1 a ha, ?_, B F au σ _ S2 ((S.grow x1).trans g)⟩
      subst hn
      unfold ixN
      rw [if_pos (by omega), List.length_map, if_pos (by omega)]
      rfl
    · cases e2
end
end DL

end
section
set_option Elab.async false
set_option linter.all false
set_option autoImplicit false
set_option maxRecDepth 100000
set_option maxHeartbeats 4000000
/-! own layer: rules of statements, part 4 -/
namespace DL
open PySem PySem.Spec PyProof.Rows L2
section
variable {X : Cx} {c : CC} {fe : Nat → List D → M D} {k N : Nat} {au0 : Option Addr} {H0 : Hp} {F0 : Fb} {fr : Bool} {lp κo : Option (List Kd)} {κ : List Kd}
theorem r_aug (f : Fits X c fe k) {i : Nat} {x : Str} {px pos : Pos} {o : O2} {op : Operator} {v : Expr} {e : E} (hv : c.isVar i x = true) (hp : c.canPut i x = true) (hk : kdAt κ i .d = true) (ho : o.bin = some op) (h : chk c κ true e (.e v) = true) :
    PS X (.AugAssign (.Name x px) op v pos) (RS X fe N au0 H0 F0 fr lp κ (.aug i o e) (some κ)) := by
  obtain ⟨h1, h2, h3⟩ := put_loc f hp
  have he : PE X v _ := sound e X c (Au au0) H0 κ true _ f h
  have main : ∀ (g : Int → Int → Int), PIp X op (ipI g) → (∀ x y z, augO o x y = some z → ∃ a b, x = .int a ∧ y = .int b ∧ z = .int (g a b)) → PS X (.AugAssign (.Name x px) op v pos) (RS X fe N au0 H0 F0 fr lp κ (.aug i o e) (some κ)) := fun g hg hz =>
    PS.imp (ps_aug f.nd h1 h2 he hg h3) fun D σ H ⟨F, au, ρ, u, r0, u', S, e0, B⟩ => by
      obtain ⟨l, u1, e1, e2⟩ := bd_some e0
      obtain ⟨y, u2, e3, e4⟩ := bd_some e2
      obtain ⟨z, u3, e5, e6⟩ := bd_some e4
      obtain ⟨hr, q1⟩ := slotD e1
      obtain ⟨e7, q2⟩ := lf_some e5
      dsimp only at hr q1 e7 q2
      subst q1
      subst q2
      cases rt_some e6
      obtain ⟨κ1, zz, B⟩ := B
      cases zz
      obtain ⟨a, b, rfl, rfl, rfl⟩ := hz _ _ _ e7
      obtain ⟨v1, h4, h5⟩ := S.s.d i _ (of_decide_eq_true hk) hr
      cases h5
      refine ⟨_, h4, F, au, ρ, _, .int b, _, S.s, e3, fun v2 H' x1 a1 r1 _ => ?_⟩
      have e8 := (RepM.toB r1).int_inv
      subst e8
      refine ⟨a, b, rfl, rfl, ?_⟩
      exact B F au _ H' ((S.step x1 a1).set (of_decide_eq_true hk) (.int _)) (S.grow x1)
  cases o <;> first | (exfalso; cases ho; done) | skip
  all_goals first
    | (cases ho; refine main (fun i j => i + j) ip_add fun x y z hz => ?_; unfold augO at hz; split at hz <;> first | (cases hz; exact ⟨_, _, rfl, rfl, rfl⟩) | cases hz)
    | (cases ho; refine main (fun i j => i - j) ip_sub fun x y z hz => ?_; unfold augO at hz; split at hz <;> first | (cases hz; exact ⟨_, _, rfl, rfl, rfl⟩) | cases hz)
    | (refine PS.imp ps_never fun D σ H ⟨F, au, ρ, u, r0, u', S, e0, B⟩ => ?_
       obtain ⟨l, u1, e1, e2⟩ := bd_some e0
       obtain ⟨y, u2, e3, e4⟩ := bd_some e2
       obtain ⟨z, u3, e5, e6⟩ := bd_some e4
       obtain ⟨e7, q2⟩ := lf_some e5
       dsimp only at e7
       unfold augO at e7
       split at e7 <;> cases e7)
theorem r_ret (f : Fits X c fe k) {v : Expr} {pos : Pos} {e : E} (h : chk c κ false e (.e v) = true) (hf : fr = true → frE c.fns e = true) : PS X (.Return (some v) pos) (RS X fe N au0 H0 F0 fr lp κ (.ret e) none) :=
  PS.imp (ps_ret (show PE X v _ from sound e X c (Au au0) H0 κ false _ f h)) fun D σ H ⟨F, au, ρ, u, r0, u', S, e0, B⟩ => by
    obtain ⟨d, u1, e1, e2⟩ := bd_some e0
    cases rt_some e2
    refine ⟨F, au, ρ, u, d, _, S.s, e1, fun v1 H' x1 a1 r1 fr1 => ?_⟩
    have S1 := S.step x1 a1
    refine B v1 H' S1.s.ext (fun a ha => a1 a (S.a0 a ha)) (Rep.ext .refl S.f0 _ _ r1) fun hfr => ?_
    obtain ⟨p, e3, n, ho⟩ := fr1 (hf hfr)
    exact ⟨p, e3, (S.off n).2.1, ho.ext .refl (fun q hq => hq.imp (S.f0 q) id) rfl⟩
theorem r_retO (f : Fits X c fe k) {i : Nat} {x : Str} {px pos : Pos} (hF0 : ∀ p, F0 p → H0 p ≠ none) (hv : c.isVar i x = true) (hk : kdAt κ i .own = true) : PS X (.Return (some (.Name x px)) pos) (RS X fe N au0 H0 F0 fr lp κ (.retO i) none) :=
  PS.imp (ps_ret (f.var hv)) fun D σ H ⟨F, au, ρ, u, r0, u', S, e0, B⟩ => by
    obtain ⟨d, u1, e1, e2⟩ := bd_some e0
    cases rt_some e2
    obtain ⟨hr, q1⟩ := slotD e1
    dsimp only at hr q1
    subst q1
    obtain ⟨a, h1, h2, h3, h4, h5, h6⟩ := S.s.own i d (of_decide_eq_true hk) hr
    refine ⟨.ref a, h1, B _ H S.s.ext (fun b hb => S.s.uat b (S.a0 b hb)) ?_ fun _ => ⟨a, rfl, h4, h6.ext .refl (fun q hq => hq.elim (S.f0 q) fun z => by rw [z]; exact h2) rfl⟩⟩
    exact OwnAt.rep (fun z => hF0 a z h4) (h6.ext .refl S.f0 rfl)
theorem r_retN {pos : Pos} (hf : fr = false) : PS X (.Return none pos) (RS X fe N au0 H0 F0 fr lp κ .retN none) :=
  PS.imp ps_retN fun D σ H ⟨F, au, ρ, u, r0, u', S, e0, B⟩ => by
    cases rt_some e0
    exact B .non H S.s.ext (fun b hb => S.s.uat b (S.a0 b hb)) .non fun z => by rw [hf] at z; cases z
theorem r_brk {pos : Pos} (h : lp = some κ) : PS X (.Break pos) (RS X fe N au0 H0 F0 fr lp κ .brk none) :=
  PS.imp ps_break fun D σ H ⟨F, au, ρ, u, r0, u', S, e0, B⟩ => by
    cases rt_some e0
    obtain ⟨κ1, z, B⟩ := B
    rw [h] at z
    cases z
    exact B F au σ H S .refl
theorem r_cont {pos : Pos} (h : lp = some κ) : PS X (.Continue pos) (RS X fe N au0 H0 F0 fr lp κ .cont none) :=
  PS.imp ps_continue fun D σ H ⟨F, au, ρ, u, r0, u', S, e0, B⟩ => by
    cases rt_some e0
    obtain ⟨κ1, z, B⟩ := B
    rw [h] at z
    cases z
    exact B F au σ H S .refl
theorem r_raise {st : Stmt} : PS X st (RS X fe N au0 H0 F0 fr lp κ .raise κo) := PS.imp ps_never fun D σ H ⟨F, au, ρ, u, r0, u', S, e0, B⟩ => by cases e0
theorem r_raises {st : List Stmt} : PSs X st (RS X fe N au0 H0 F0 fr lp κ .raise κo) := PSs.imp pss_never fun D σ H ⟨F, au, ρ, u, r0, u', S, e0, B⟩ => by cases e0
/-- never on to the next statement -/
def Dead (fe : Nat → List D → M D) (N : Nat) (κo : Option (List Kd)) (s : S) : Prop := κo = none → ∀ ρ u ρ' u', evS fe N s ρ u ≠ some (.nx ρ', u')
theorem joinK_inv {a b : Option (Option (List Kd))} {κo : Option (List Kd)} (h : joinK a b = some κo) : ∃ x y, a = some x ∧ b = some y ∧ (x = κo ∨ x = none) ∧ (y = κo ∨ y = none) := by
  cases a with
  | none => cases h
  | some x =>
    cases b with
    | none => cases x <;> cases h
    | some y =>
      refine ⟨x, y, rfl, rfl, ?_⟩
      cases x <;> cases y
      · exact ⟨.inr rfl, .inr rfl⟩
      · cases h; exact ⟨.inr rfl, .inl rfl⟩
      · cases h; exact ⟨.inl rfl, .inr rfl⟩
      · rename_i p q
        have h : (if p = q then some (some p) else none) = some κo := h
        split at h
        · rename_i e
          cases h
          subst e
          exact ⟨.inl rfl, .inl rfl⟩
        · cases h
/-- the kinds behind a part that may be dead -/
theorem BehR.wide {w : World} {K : PySem.W.Frag} {x : Option (List Kd)} {F : Fb} {H : Hp} {Dn : Ends} {u' : List Int} {r : R} (h : BehR w K au0 H0 F0 fr lp κo F H Dn u' r) (hx : x = κo ∨ x = none) (hd : x = none → ∀ ρ', r ≠ .nx ρ') : BehR w K au0 H0 F0 fr lp x F H Dn u' r := by
  cases r with
  | nx ρ =>
    rcases hx with e | e
    · subst e; exact h
    · exact absurd rfl (hd e ρ)
  | rt d => exact h
  | bk ρ => exact h
  | ct ρ => exact h
theorem r_ifs {t : E} {a b : S} {q : Expr} {x y : List Stmt} {pos : Pos} {κa κb : Option (List Kd)} (f : Fits X c fe k) (h : chk c κ true t (.t q) = true) (h1 : PSs X x (RS X fe N au0 H0 F0 fr lp κ a κa)) (h2 : PSs X y (RS X fe N au0 H0 F0 fr lp κ b κb)) (d1 : Dead fe N κa a) (d2 : Dead fe N κb b) (j1 : κa = κo ∨ κa = none) (j2 : κb = κo ∨ κb = none) :
    PS X (.If q x y pos) (RS X fe N au0 H0 F0 fr lp κ (.ifs t a b) κo) :=
  PS.imp (ps_if (show PT X q _ from sound t X c (Au au0) H0 κ true _ f h) h1 h2) fun D σ H ⟨F, au, ρ, u, r0, u', S, e0, B⟩ => by
    obtain ⟨d, u1, e1, e2⟩ := bd_some e0
    obtain ⟨kb, u2, e3, e4⟩ := bd_some e2
    refine ⟨F, au, ρ, u, kb, u2, S.s, ?_, fun H' x1 a1 => ?_⟩
    · unfold bd
      rw [e1]
      exact e3
    · have S1 := S.step x1 a1
      have B1 := B.grow (S.grow x1)
      cases kb with
      | true =>
        rw [if_pos rfl] at e4
        dsimp only
        rw [if_pos rfl]
        exact ⟨F, au, ρ, u2, r0, u', S1, e4, B1.wide j1 fun z ρ' er => d1 z ρ u2 ρ' u' (by rw [e4, er])⟩
      | false =>
        rw [if_neg Bool.false_ne_true] at e4
        dsimp only
        rw [if_neg Bool.false_ne_true]
        exact ⟨F, au, ρ, u2, r0, u', S1, e4, B1.wide j2 fun z ρ' er => d2 z ρ u2 ρ' u' (by rw [e4, er])⟩
theorem r_whl {t : E} {b : S} {q : Expr} {body : List Stmt} {pos : Pos} {κb : Option (List Kd)} (f : Fits X c fe k) (hpo : PassesOwn (model X.prog X.w) X.A X.env X.xe) (h : chk c κ true t (.t q) = true) (h1 : PSs X body (RS X fe N au0 H0 F0 fr (some κ) κ b κb)) (d1 : Dead fe N κb b) (j1 : κb = some κ ∨ κb = none) :
    PS X (.While q body [] pos) (RS X fe N au0 H0 F0 fr lp κ (.whl t b) (some κ)) :=
  PS.imp (ps_while hpo (show PT X q _ from sound t X c (Au au0) H0 κ true _ f h) h1) fun D σ H ⟨F, au, ρ, u, r0, u', S, e0, B⟩ => by
    refine ⟨fun m σ' H' => ∃ F' au' ρ' u1, SimS X.w X.K au0 H0 F0 κ F' au' ρ' u1 σ' H' ∧ Grow F H F' H' ∧ whS (fun ρ => bd (ev fe t ρ) truM) (fun ρ => evS fe N b ρ) m ρ' u1 = some (r0, u'), ⟨N, F, au, ρ, u, S, .refl, e0⟩, ?_⟩
    rintro m σ1 H1 ⟨F1, au1, ρ1, u1, S1, g1, e1⟩
    cases m with
    | zero => cases e1
    | succ m =>
      unfold whS at e1
      obtain ⟨kb, u2, e2, e3⟩ := bd_some e1
      refine ⟨F1, au1, ρ1, u1, kb, u2, S1.s, e2, fun H2 x2 a2 => ?_⟩
      have S2 := S1.step x2 a2
      have g2 := g1.trans (S1.grow x2)
      cases kb with
      | false =>
        rw [if_neg Bool.false_ne_true] at e3
        dsimp only
        rw [if_neg Bool.false_ne_true]
        cases rt_some e3
        obtain ⟨κ1, z, B⟩ := B
        cases z
        exact B F1 au1 σ1 H2 S2 g2
      | true =>
        rw [if_pos rfl] at e3
        dsimp only
        rw [if_pos rfl]
        obtain ⟨x, u3, e4, e5⟩ := bd_some e3
        refine ⟨fun σ' H' => ∃ F' au' ρ' u1, SimS X.w X.K au0 H0 F0 κ F' au' ρ' u1 σ' H' ∧ Grow F H F' H' ∧ whS (fun ρ => bd (ev fe t ρ) truM) (fun ρ => evS fe N b ρ) m ρ' u1 = some (r0, u'), fun σ' H' n => ⟨m, Nat.lt_succ_self m, n⟩, F1, au1, ρ1, u2, x, u3, S2, e4, ?_⟩
        cases x with
        | nx ρ' =>
          rcases j1 with j | j
          · exact ⟨κ, j, fun F' au' σ' H' S' g' => ⟨F', au', ρ', u3, S', g2.trans g', e5⟩⟩
          · exact absurd e4 (d1 j _ _ _ _)
        | ct ρ' => exact ⟨κ, rfl, fun F' au' σ' H' S' g' => ⟨F', au', ρ', u3, S', g2.trans g', e5⟩⟩
        | bk ρ' =>
          cases rt_some e5
          obtain ⟨κ1, z, B⟩ := B
          cases z
          exact ⟨κ, rfl, fun F' au' σ' H' S' g' => B F' au' σ' H' S' (g2.trans g')⟩
        | rt d =>
          cases rt_some e5
          exact B
end
end DL

end
section
set_option Elab.async false
set_option linter.all false
set_option autoImplicit false
set_option maxRecDepth 100000
set_option maxHeartbeats 4000000
/-! own layer: rules of statements, part 5: for; soundness -/
namespace DL
open PySem PySem.Spec PyProof.Rows L2
section
variable {X : Cx} {c : CC} {fe : Nat → List D → M D} {k N : Nat} {au0 : Option Addr} {H0 : Hp} {F0 : Fb} {fr : Bool} {lp κo : Option (List Kd)} {κ : List Kd}
theorem src_okF {A : Fb} (f : Fits X c fe k) {kk : Src} {s : E} {iter tg : Expr} {bb : Bool} {n : Nd} (h : srcAst kk s iter tg c = some (bb, n)) (g : Good X c fe A H0 κ false s n) : PI X tg iter (iS X.w X.K fe A H0 κ false kk s) := by
  have hbb := bOf_src h
  cases kk with
  | seq =>
    unfold srcAst at h
    dsimp only at h
    split at h
    · cases h; exact src_seq g
    · cases h
  | keys =>
    unfold srcAst at h
    dsimp only at h
    split at h
    · cases h; exact src_keys g
    · cases h
  | _ =>
    subst hbb
    exact src_ok f h g
theorem RepP.less {w : World} {K : PySem.W.Frag} {F F' : Fb} {H : Hp} {v : V} {d : D} (hF : ∀ p, F' p → F p) (h : RepP w K F H v d) : RepP w K F' H v d := by
  cases h with
  | rep h => exact .rep (Rep.ext .refl hF _ _ h)
  | tup T xs ds ev ed h r => exact .tup T xs ds ev ed h (RepL.ext .refl hF _ _ r)
/-- the walk within a loop that may change what is owned -/
theorem walk_in {w : World} {K : PySem.W.Frag} {pr : Bool} {U F : Fb} {J : It} {H1 : Hp} {ds : List D} (h : WalkD w K false pr U F J H1 ds) : ∃ G Y, Walk J ds.length G Y ∧ ∀ F' H', Grow F H1 F' H' →
    G H' ∧ ∀ i x H'', i < ds.length → Y i H' x H'' → Ext E0 H' H'' ∧ ∃ d, ds[i]? = some d ∧ (if pr = true then RepP w K F' H'' x d else Rep w K F' H'' x d) := by
  obtain ⟨G, Y, wk, h⟩ := h
  refine ⟨G, Y, wk, fun F' H' g => ?_⟩
  obtain ⟨h1, h2⟩ := h (fun p => F p ∨ F' p) (fun p => F p ∨ F' p) H' (fun z => by cases z) (fun _ z => z) (fun p z => z.elim .inl (g.sub p)) (g.ext.mono fun _ z => .inl z)
  refine ⟨h1, fun i x H'' hi y => ?_⟩
  obtain ⟨x1, d, h3, h4⟩ := h2 i x H'' hi y
  refine ⟨x1, d, h3, ?_⟩
  cases pr with
  | true =>
    rw [if_pos rfl] at h4 ⊢
    exact h4.less fun _ z => .inr z
  | false =>
    rw [if_neg Bool.false_ne_true] at h4 ⊢
    exact Rep.ext .refl (fun _ z => .inr z) _ _ h4
theorem r_fr {kk : Src} {s : E} {t : Tg} {b : S} {tg iter : Expr} {body : List Stmt} {pos : Pos} {κb : Option (List Kd)} {bb : Bool} {n : Nd} (f : Fits X c fe k) (hpo : PassesOwn (model X.prog X.w) X.A X.env X.xe) (hs : srcAst kk s iter tg c = some (bb, n)) (h : chk c κ false s n = true) (hns : notSet iter = true)
    (htg : chkTop c t tg = true) (hk : ∀ i ∈ t.slots, κ[i]? = some .d) (h1 : PSs X body (RS X fe N au0 H0 F0 fr (some κ) κ b κb)) (d1 : Dead fe N κb b) (j1 : κb = some κ ∨ κb = none) :
    PS X (.For tg iter body [] pos) (RS X fe N au0 H0 F0 fr lp κ (.fr kk s t b) (some κ)) :=
  PS.imp (ps_for hpo f.calm (src_okF (A := Au au0) (H0 := H0) f hs (sound s X c (Au au0) H0 κ false n f h)) (tg_top (A := Au au0) (H0 := H0) (pr := kk.pair) f htg hk fun z => pair_not hs z htg) h1 (fun x => folded_of hns X.env x)) fun D σ H ⟨F, au, ρ, u, r0, u', S, e0, B⟩ => by
    obtain ⟨dx, u1, e1, e2⟩ := bd_some e0
    obtain ⟨ds, u2, e3, e4⟩ := bd_some e2
    obtain ⟨e5, e6⟩ := lf_some e3
    dsimp only at e5 e6
    subst e6
    refine ⟨F, au, ρ, u, dx, _, ds, S.s, e1, e5, fun J H1 x1 a1 wk => ?_⟩
    obtain ⟨G, Y, wk, hw⟩ := walk_in wk
    have S1 := S.step x1 a1
    have g1 := S.grow x1
    refine for_it wk (fun i σ' H' => ∃ F' au' ρ' u3, SimS X.w X.K au0 H0 F0 κ F' au' ρ' u3 σ' H' ∧ Grow F H1 F' H' ∧ goS (fun d ρ => bd (lf (bindD t d ρ)) fun ρ1 => evS fe N b ρ1) (ds.drop i) ρ' u3 = some (r0, u')) ⟨F, au, ρ, _, S1, .refl, e4⟩ (fun i σ' H' _ ⟨F', au', ρ', u3, S', g', e'⟩ => (hw F' H' g').1) ?_ ?_
    · rintro i x σ' H' H'' hi ⟨F', au', ρ', u3, S', g', e'⟩ y
      obtain ⟨x2, d, hd, r2⟩ := (hw F' H' g').2 i x H'' hi y
      have S2 : SimS X.w X.K au0 H0 F0 κ F' au' ρ' u3 σ' H'' := S'.step x2.e0 (S'.s.uat.e0 x2)
      have g2 : Grow F H1 F' H'' := g'.trans (S'.grow x2.e0)
      have hdrop : ds.drop i = d :: ds.drop (i + 1) := by
        rw [List.drop_eq_getElem_cons hi]
        rw [List.getElem?_eq_getElem hi] at hd
        rw [Option.some.inj hd]
      rw [hdrop] at e'
      unfold goS at e'
      obtain ⟨r1, u4, e6, e7⟩ := bd_some e'
      obtain ⟨ρ1, u5, e8, e9⟩ := bd_some e6
      obtain ⟨q1, q2⟩ := lf_some e8
      dsimp only at q1 q2
      subst q2
      have r2' : (if kk.pair = true then RepP X.w X.K F' H'' x d else Rep X.w X.K F' H'' x d) := r2
      refine ⟨F', au', ρ', _, d, ρ1, S2.s, r2', q1, fun σ2 S3 _ => ?_⟩
      have S3 : SimS X.w X.K au0 H0 F0 κ F' au' ρ1 _ σ2 H'' := ⟨S3, S2.f0, S2.a0⟩
      refine ⟨F', au', ρ1, _, r1, u4, S3, e9, ?_⟩
      cases r1 with
      | nx ρ2 =>
        rcases j1 with j | j
        · exact ⟨κ, j, fun F3 au3 σ3 H3 S4 g4 => ⟨F3, au3, ρ2, u4, S4, g2.trans g4, e7⟩⟩
        · exact absurd e9 (d1 j _ _ _ _)
      | ct ρ2 => exact ⟨κ, rfl, fun F3 au3 σ3 H3 S4 g4 => ⟨F3, au3, ρ2, u4, S4, g2.trans g4, e7⟩⟩
      | bk ρ2 =>
        cases rt_some e7
        obtain ⟨κ1, z, B⟩ := B
        cases z
        exact ⟨κ, rfl, fun F3 au3 σ3 H3 S4 g4 => B F3 au3 σ3 H3 S4 (g1.trans (g2.trans g4))⟩
      | rt d =>
        cases rt_some e7
        exact B
    · rintro σ' H' ⟨F', au', ρ', u3, S', g', e'⟩
      rw [List.drop_eq_nil_of_le (Nat.le_refl _)] at e'
      cases rt_some e'
      obtain ⟨κ1, z, B⟩ := B
      cases z
      exact B F' au' σ' H' S' (g1.trans g')
end
end DL

end
section
set_option Elab.async false
set_option linter.all false
set_option autoImplicit false
set_option maxRecDepth 100000
set_option maxHeartbeats 4000000
/-! own layer: soundness of the check for statements -/
namespace DL
open PySem PySem.Spec PyProof.Rows L2
section
variable {fe : Nat → List D → M D} {k N : Nat} {c : CC} {fr : Bool}
theorem ite_some2 {α : Type} {b : Bool} {x y : Option α} (h : (if b = true then some x else none) = some y) : b = true ∧ x = y := by
  cases b with
  | true => exact ⟨rfl, Option.some.inj h⟩
  | false => cases h
theorem freeOf_inv {s : S} {i : Nat} (h : s.freeOf = some i) : s = .free i := by
  cases s <;> first | (cases h; done) | skip
  cases h
  rfl
theorem isNil_inv {s : S} (h : s.isNil = true) : s = .nil := by
  cases s <;> first | rfl | (cases h; done)
theorem loop_some {x : Option (Option (List Kd))} {κ : List Kd} {κo : Option (List Kd)} (h : (match x with
    | some (some κ') => if κ' = κ then some (some κ) else none
    | some none => some (some κ)
    | none => none) = some κo) : κo = some κ ∧ ∃ κb, x = some κb ∧ (κb = some κ ∨ κb = none) := by
  split at h
  · rename_i κ'
    by_cases e : κ' = κ
    · rw [if_pos e] at h
      cases h
      exact ⟨rfl, _, rfl, .inl (by rw [e])⟩
    · rw [if_neg e] at h
      cases h
  · cases h
    exact ⟨rfl, _, rfl, .inr rfl⟩
  · cases h
theorem dead : ∀ (s : S) (lp : Option (List Kd)) (κ : List Kd) (ns : Ns) (κo : Option (List Kd)), chkS c fr lp κ s ns = some κo → Dead fe N κo s
  | .nil, lp, κ, ns, κo, h => fun z ρ u ρ' u' e => by
    unfold chkS at h
    split at h
    · subst z; cases h
    · cases h
  | .seq s r, lp, κ, ns, κo, h => fun z ρ u ρ' u' e => by
    obtain ⟨x, u1, e1, e2⟩ := bd_some e
    unfold chkS at h
    split at h
    · split at h
      · rename_i i hi
        have hi := freeOf_inv hi
        subst hi
        cases rt_some e1
        split at h
        · exact dead r _ _ _ _ h z _ _ _ _ e2
        · cases h
      · split at h
        · split at h
          · cases x with
            | nx ρ1 => exact dead r _ _ _ _ h z _ _ _ _ e2
            | rt d => cases rt_some e2
            | bk d => cases rt_some e2
            | ct d => cases rt_some e2
          · rename_i hh
            cases x with
            | nx ρ1 => exact dead s _ _ _ _ hh rfl _ _ _ _ e1
            | rt d => cases rt_some e2
            | bk d => cases rt_some e2
            | ct d => cases rt_some e2
          · cases h
        · cases h
    · cases h
  | .ifs t a b, lp, κ, ns, κo, h => fun z ρ u ρ' u' e => by
    subst z
    obtain ⟨x, u1, e1, e2⟩ := bd_some e
    obtain ⟨kb, u2, e3, e4⟩ := bd_some e2
    unfold chkS at h
    split at h
    · split at h
      · obtain ⟨p, q, h1, h2, j1, j2⟩ := joinK_inv h
        have j1 : p = none := j1.elim id id
        have j2 : q = none := j2.elim id id
        split at e4
        · exact dead a _ _ _ _ h1 j1 _ _ _ _ e4
        · exact dead b _ _ _ _ h2 j2 _ _ _ _ e4
      · cases h
    · cases h
  | .ret e0, lp, κ, ns, κo, h => fun z ρ u ρ' u' e => by
    obtain ⟨x, u1, e1, e2⟩ := bd_some e
    cases rt_some e2
  | .retO i, lp, κ, ns, κo, h => fun z ρ u ρ' u' e => by
    obtain ⟨x, u1, e1, e2⟩ := bd_some e
    cases rt_some e2
  | .retN, lp, κ, ns, κo, h => fun z ρ u ρ' u' e => by cases rt_some e
  | .brk, lp, κ, ns, κo, h => fun z ρ u ρ' u' e => by cases rt_some e
  | .cont, lp, κ, ns, κo, h => fun z ρ u ρ' u' e => by cases rt_some e
  | .raise, lp, κ, ns, κo, h => fun z ρ u ρ' u' e => by cases e
  | .fr kk s t b, lp, κ, ns, κo, h => fun z ρ u ρ' u' e => by
    subst z
    unfold chkS at h
    split at h
    · split at h
      · split at h
        · cases (loop_some h).1
        · cases h
      · cases h
    · cases h
  | .whl t b, lp, κ, ns, κo, h => fun z ρ u ρ' u' e => by
    subst z
    unfold chkS at h
    split at h
    · split at h
      · cases (loop_some h).1
      · cases h
    · cases h
  | .urnS j e0, lp, κ, ns, κo, h => fun z ρ u ρ' u' e => by
    subst z
    unfold chkS at h
    split at h
    · split at h
      · cases (ite_some2 h).2
      · cases h
    · cases h
  | .free i, lp, κ, ns, κo, h => fun z ρ u ρ' u' e => by
    unfold chkS at h; cases h
  | .set i e0, lp, κ, ns, κo, h => fun z ρ u ρ' u' e => by
    subst z; unfold chkS at h; split at h
    · cases (ite_some2 h).2
    · cases h
  | .own i e0, lp, κ, ns, κo, h => fun z ρ u ρ' u' e => by
    subst z; unfold chkS at h; split at h
    · cases (ite_some2 h).2
    · cases h
  | .box i e0, lp, κ, ns, κo, h => fun z ρ u ρ' u' e => by
    subst z; unfold chkS at h; split at h
    · cases (ite_some2 h).2
    · cases h
  | .bind i e0, lp, κ, ns, κo, h => fun z ρ u ρ' u' e => by
    subst z; unfold chkS at h; split at h
    · cases (ite_some2 h).2
    · cases h
  | .par i e0, lp, κ, ns, κo, h => fun z ρ u ρ' u' e => by
    subst z; unfold chkS at h; split at h
    · cases (ite_some2 h).2
    · cases h
  | .app i e0, lp, κ, ns, κo, h => fun z ρ u ρ' u' e => by
    subst z; unfold chkS at h; split at h
    · cases (ite_some2 h).2
    · cases h
  | .ext i e0, lp, κ, ns, κo, h => fun z ρ u ρ' u' e => by
    subst z; unfold chkS at h; split at h
    · cases (ite_some2 h).2
    · cases h
  | .put i a e0, lp, κ, ns, κo, h => fun z ρ u ρ' u' e => by
    subst z; unfold chkS at h; split at h
    · cases (ite_some2 h).2
    · cases h
  | .upd i e0, lp, κ, ns, κo, h => fun z ρ u ρ' u' e => by
    subst z; unfold chkS at h; split at h
    · cases (ite_some2 h).2
    · cases h
  | .aug i o e0, lp, κ, ns, κo, h => fun z ρ u ρ' u' e => by
    subst z; unfold chkS at h; split at h
    · cases (ite_some2 h).2
    · cases h
/-- what a checked part keeps -/
def GoodS (X : Cx) (fe : Nat → List D → M D) (N : Nat) (au0 : Option Addr) (H0 : Hp) (F0 : Fb) (fr : Bool) (lp : Option (List Kd)) (κ : List Kd) (s : S) (κo : Option (List Kd)) : Ns → Prop
  | .one st => PS X st (RS X fe N au0 H0 F0 fr lp κ s κo)
  | .many sts => PSs X sts (RS X fe N au0 H0 F0 fr lp κ s κo)
theorem all_kd {κ : List Kd} {t : Tg} (h : t.slots.all (fun i => kdAt κ i .d) = true) : ∀ i ∈ t.slots, κ[i]? = some .d := fun i hi => of_decide_eq_true (List.all_eq_true.mp h i hi)
theorem nm_inv {x : Str} {y : String} (h : nm x y = true) : x = Str.ofString y := of_decide_eq_true h
variable {X : Cx} {au0 : Option Addr} {H0 : Hp} {F0 : Fb}
theorem soundS (f : Fits X c fe k) (hpo : PassesOwn (model X.prog X.w) X.A X.env X.xe) (hF0 : ∀ p, F0 p → H0 p ≠ none) (hau : c.urn = false → au0 = none) : ∀ (s : S) (lp : Option (List Kd)) (κ : List Kd) (ns : Ns) (κo : Option (List Kd)), chkS c fr lp κ s ns = some κo → GoodS X fe N au0 H0 F0 fr lp κ s κo ns
  | .nil, lp, κ, ns, κo, h => by
    unfold chkS at h
    split at h
    · cases h; exact r_nil
    · cases h
  | .seq s r, lp, κ, ns, κo, h => by
    unfold chkS at h
    split at h
    · split at h
      · rename_i i hi
        have hi := freeOf_inv hi
        subst hi
        split at h
        · rename_i hk
          exact r_free hF0 hk (soundS f hpo hF0 hau r _ _ _ _ h)
        · cases h
      · split at h
        · split at h
          · rename_i hh
            exact r_seq (soundS f hpo hF0 hau s _ _ _ _ hh) (soundS f hpo hF0 hau r _ _ _ _ h)
          · rename_i st sts _ hh
            have h1 := soundS f hpo hF0 hau s _ _ _ _ hh
            split at h
            · rename_i hc
              rw [Bool.and_eq_true] at hc
              cases h
              have hr := isNil_inv hc.1
              subst hr
              have hs : sts = [] := List.isEmpty_iff.mp hc.2
              subst hs
              exact r_dead h1
            · cases h
          · cases h
        · cases h
    · cases h
  | .set i e0, lp, κ, ns, κo, h => by
    unfold chkS at h
    split at h
    · obtain ⟨h1, rfl⟩ := ite_some2 h
      simp only [Bool.and_eq_true] at h1
      exact r_set f h1.1.2 h1.1.1.2 h1.1.1.1 h1.2
    · cases h
  | .own i e0, lp, κ, ns, κo, h => by
    unfold chkS at h
    split at h
    · obtain ⟨h1, rfl⟩ := ite_some2 h
      rw [Bool.and_eq_true, Bool.and_eq_true, Bool.and_eq_true, Bool.and_eq_true] at h1
      exact r_own f h1.1.1.2 h1.1.1.1.2 h1.1.1.1.1 h1.1.2 h1.2
    · cases h
  | .box i e0, lp, κ, ns, κo, h => by
    unfold chkS at h
    split at h
    · obtain ⟨h1, rfl⟩ := ite_some2 h
      simp only [Bool.and_eq_true, Bool.not_eq_true', Option.isNone_iff_eq_none] at h1
      obtain ⟨⟨⟨⟨⟨⟨⟨h1, h2⟩, h3⟩, h4⟩, h5⟩, h6⟩, h7⟩, h8⟩ := h1
      exact r_box f (hau h6) h3 h2 h1 h4 h5 h7
    · cases h
  | .bind t e0, lp, κ, ns, κo, h => by
    unfold chkS at h
    split at h
    · obtain ⟨h1, rfl⟩ := ite_some2 h
      rw [Bool.and_eq_true, Bool.and_eq_true, Bool.and_eq_true, Bool.and_eq_true] at h1
      obtain ⟨⟨⟨⟨h1, h2⟩, h3⟩, h4⟩, h5⟩ := h1
      refine r_bind f h1 h2 h3 (all_kd h4) fun ts a p vs b q e1 e2 => ?_
      subst e1 e2
      exact of_decide_eq_true h5
    · cases h
  | .par is es, lp, κ, ns, κo, h => by
    unfold chkS at h
    split at h
    · obtain ⟨h1, rfl⟩ := ite_some2 h
      simp only [Bool.and_eq_true, decide_eq_true_eq] at h1
      obtain ⟨⟨⟨⟨h1, h2⟩, h3⟩, h4⟩, h5⟩ := h1
      rename_i ts _ _ vs _ _ _
      by_cases z : swDec c.sc ts vs = 1
      · rw [decide_eq_true z] at h3
        exact r_par f z h2 h3 h4
      · exact r_par0 f (by omega) h2 h3 h4 h5
    · cases h
  | .app i e0, lp, κ, ns, κo, h => by
    unfold chkS at h
    split at h
    · obtain ⟨h1, rfl⟩ := ite_some2 h
      simp only [Bool.and_eq_true] at h1
      obtain ⟨⟨⟨⟨⟨h1, h2⟩, h3⟩, h4⟩, h5⟩, h6⟩ := h1
      have e := nm_inv h1
      subst e
      exact r_app f h3 h4 h2 h5 h6
    · cases h
  | .ext i e0, lp, κ, ns, κo, h => by
    unfold chkS at h
    split at h
    · obtain ⟨h1, rfl⟩ := ite_some2 h
      simp only [Bool.and_eq_true] at h1
      obtain ⟨⟨⟨⟨⟨h1, h2⟩, h3⟩, h4⟩, h5⟩, h6⟩ := h1
      have e := nm_inv h1
      subst e
      exact r_ext f h3 h4 h2 h5 h6
    · cases h
  | .upd i e0, lp, κ, ns, κo, h => by
    unfold chkS at h
    split at h
    · obtain ⟨h1, rfl⟩ := ite_some2 h
      simp only [Bool.and_eq_true] at h1
      obtain ⟨⟨⟨⟨⟨h1, h2⟩, h3⟩, h4⟩, h5⟩, h6⟩ := h1
      have e := nm_inv h1
      subst e
      exact r_upd f h3 h4 h2 h5 h6
    · cases h
  | .put i a e0, lp, κ, ns, κo, h => by
    unfold chkS at h
    split at h
    · obtain ⟨h1, rfl⟩ := ite_some2 h
      simp only [Bool.and_eq_true] at h1
      obtain ⟨⟨⟨⟨h1, h2⟩, h3⟩, h4⟩, h5⟩ := h1
      exact r_put f h1 h2 h3 h4 h5
    · cases h
  | .urnS j e0, lp, κ, ns, κo, h => by
    unfold chkS at h
    split at h
    · split at h
      · rename_i hi
        obtain ⟨h1, rfl⟩ := ite_some2 h
        simp only [Bool.and_eq_true, decide_eq_true_eq] at h1
        exact r_urnS f hi h1.1.1 h1.1.2 h1.2
      · cases h
    · cases h
  | .aug i o e0, lp, κ, ns, κo, h => by
    unfold chkS at h
    split at h
    · obtain ⟨h1, rfl⟩ := ite_some2 h
      simp only [Bool.and_eq_true, decide_eq_true_eq] at h1
      obtain ⟨⟨⟨⟨h1, h2⟩, h3⟩, h4⟩, h5⟩ := h1
      exact r_aug f h1 h2 h3 h4 h5
    · cases h
  | .ifs t a b, lp, κ, ns, κo, h => by
    unfold chkS at h
    split at h
    · split at h
      · rename_i ht
        obtain ⟨p, q, h1, h2, j1, j2⟩ := joinK_inv h
        exact r_ifs f ht (soundS f hpo hF0 hau a _ _ _ _ h1) (soundS f hpo hF0 hau b _ _ _ _ h2) (dead a _ _ _ _ h1) (dead b _ _ _ _ h2) j1 j2
      · cases h
    · cases h
  | .fr kk s t b, lp, κ, ns, κo, h => by
    unfold chkS at h
    split at h
    · split at h
      · rename_i hsa
        split at h
        · rename_i hc
          obtain ⟨rfl, κb, hb, j⟩ := loop_some h
          rw [Bool.and_eq_true, Bool.and_eq_true, Bool.and_eq_true] at hc
          obtain ⟨⟨⟨h1, h2⟩, h3⟩, h4⟩ := hc
          exact r_fr f hpo hsa h1 h2 h3 (all_kd h4) (soundS f hpo hF0 hau b _ _ _ _ hb) (dead b _ _ _ _ hb) j
        · cases h
      · cases h
    · cases h
  | .whl t b, lp, κ, ns, κo, h => by
    unfold chkS at h
    split at h
    · split at h
      · rename_i hc
        obtain ⟨rfl, κb, hb, j⟩ := loop_some h
        exact r_whl f hpo hc (soundS f hpo hF0 hau b _ _ _ _ hb) (dead b _ _ _ _ hb) j
      · cases h
    · cases h
  | .ret e0, lp, κ, ns, κo, h => by
    unfold chkS at h
    split at h
    · obtain ⟨h1, rfl⟩ := ite_some2 h
      rw [Bool.and_eq_true] at h1
      refine r_ret f h1.1 fun z => ?_
      subst z
      exact h1.2
    · cases h
  | .retO i, lp, κ, ns, κo, h => by
    unfold chkS at h
    split at h
    · obtain ⟨h1, rfl⟩ := ite_some2 h
      rw [Bool.and_eq_true] at h1
      exact r_retO f hF0 h1.1 h1.2
    · cases h
  | .retN, lp, κ, ns, κo, h => by
    unfold chkS at h
    split at h
    · split at h
      · cases h
      · rename_i hf
        cases h
        exact r_retN (by simpa using hf)
    · cases h
  | .brk, lp, κ, ns, κo, h => by
    unfold chkS at h
    split at h
    · split at h
      · rename_i hl
        cases h
        exact r_brk hl
      · cases h
    · cases h
  | .cont, lp, κ, ns, κo, h => by
    unfold chkS at h
    split at h
    · split at h
      · rename_i hl
        cases h
        exact r_cont hl
      · cases h
    · cases h
  | .raise, lp, κ, ns, κo, h => by
    cases ns with
    | one st => exact r_raise
    | many st => exact r_raises
  | .free i, lp, κ, ns, κo, h => by
    unfold chkS at h; cases h
end
end DL

end
section
set_option Elab.async false
set_option linter.all false
set_option autoImplicit false
set_option maxRecDepth 100000
set_option maxHeartbeats 4000000
/-! own layer: whole programs -/
namespace DL
open PySem PySem.Spec PyProof.Rows L2

def startE (g : FnD) (ds : List D) : Env := (if g.urn = true then [none] else []) ++ (ds.map some ++ List.replicate (g.N.length - g.ps.length) none)
def startK (g : FnD) : List Kd := (if g.urn = true then [Kd.urn] else []) ++ List.replicate (g.N.length - (if g.urn = true then 1 else 0)) Kd.d
noncomputable def runFn (fe : Nat → List D → M D) (N : Nat) (g : FnD) (ds : List D) : M D := fun u =>
  if ds.length + (if g.urn = true then 1 else 0) = g.ps.length then
    match evS fe N g.body (startE g ds) (if g.urn = true then u else []) with
    | some (.rt d, u') => some (d, if g.urn = true then u' else u)
    | some (.nx _, u') => some (.none, if g.urn = true then u' else u)
    | _ => none
  else none
noncomputable def feN (fns : List FnD) (N : Nat) : Nat → Nat → List D → M D
  | 0, _ => fun _ => fl
  | k + 1, f => match fns[f]? with
    | some g => runFn (feN fns N k) N g
    | none => fun _ => fl
def chkFn (fns : List FnD) (free : List Str) (g : FnD) (body : List Stmt) (sc : Scope) : Bool :=
  match chkS ⟨fns, free, g.N, sc, none, g.urn⟩ g.fresh none (startK g) g.body (.many body) with
  | some none => true
  | some (some _) => !g.fresh
  | none => false
/-- the defs of a program as they stand -/
structure DefOk (K : PySem.W.Frag) (mg : Str → Option Value) (fns : List FnD) (free : List Str) (g : FnD) : Prop where
  ex : ∃ (a : Addr) (fd : FuncData) (qual : Str) (params : Arguments) (body : List Stmt) (scope : Scope), mg g.name = some (.ref a) ∧ FunD K g.name qual params body scope [] [] a fd ∧ FnScope g.N g.ps scope ∧ Binds K fd g.ps [] ∧ chkFn fns free g body scope = true
theorem runFn_keeps {fe : Nat → List D → M D} {N : Nat} {g : FnD} {ds : List D} {u : List Int} {r : D × List Int} (hu : g.urn = false) (h : runFn fe N g ds u = some r) : r.2 = u := by
  unfold runFn at h
  by_cases e : ds.length + (if g.urn = true then 1 else 0) = g.ps.length
  · rw [if_pos e] at h
    simp only [hu, Bool.false_eq_true, if_false] at h
    split at h
    · cases h; rfl
    · cases h; rfl
    · cases h
  · rw [if_neg e] at h
    cases h
theorem runFn_len {fe : Nat → List D → M D} {N : Nat} {g : FnD} {ds : List D} {u : List Int} {r : D × List Int} (h : runFn fe N g ds u = some r) : ds.length + (if g.urn = true then 1 else 0) = g.ps.length := by
  unfold runFn at h
  by_cases e : ds.length + (if g.urn = true then 1 else 0) = g.ps.length
  · exact e
  · rw [if_neg e] at h
    cases h
theorem feN_some {fns : List FnD} {N k f : Nat} {g : FnD} (hg : fns[f]? = some g) : feN fns N (k + 1) f = runFn (feN fns N k) N g := by
  show (match fns[f]? with
    | some g => runFn (feN fns N k) N g
    | none => fun _ => fl) = _
  rw [hg]
theorem startK_d {g : FnD} {i : Nat} (h : (startK g)[i]? = some .urn) : g.urn = true ∧ i = 0 := by
  unfold startK at h
  by_cases hu : g.urn = true
  · rw [if_pos hu] at h
    refine ⟨hu, ?_⟩
    cases i with
    | zero => rfl
    | succ i =>
      rw [List.cons_append, List.getElem?_cons_succ, List.nil_append] at h
      have z := List.mem_of_getElem? h
      rw [List.mem_replicate] at z
      cases z.2
  · rw [if_neg hu] at h
    have z := List.mem_of_getElem? h
    rw [List.nil_append, List.mem_replicate] at z
    cases z.2
theorem startK_own {g : FnD} {i : Nat} (h : (startK g)[i]? = some .own) : False := by
  have z := List.mem_of_getElem? h
  unfold startK at z
  rcases List.mem_append.mp z with z | z
  · split at z
    · rw [List.mem_singleton] at z; cases z
    · cases z
  · rw [List.mem_replicate] at z
    cases z.2
theorem rep_start {w : World} {K : PySem.W.Frag} {F : Fb} {H : Hp} {n : Nat} : ∀ {vs : List V} {ds : List D}, RepL w K F H vs ds → ∀ {i : Nat} {x : D}, (ds.map some ++ List.replicate n none)[i]? = some (some x) → ∃ v, (vs.map some ++ List.replicate n none)[i]? = some (some v) ∧ Rep w K F H v x
  | [], [], .nil, i, x, h => by
    have z := List.mem_of_getElem? h
    rw [List.map_nil, List.nil_append, List.mem_replicate] at z
    cases z.2
  | v :: vs, d :: ds, .cons a r, 0, x, h => by
    cases h
    exact ⟨v, rfl, a⟩
  | v :: vs, d :: ds, .cons a r, i + 1, x, h => by
    rw [List.map_cons, List.cons_append, List.getElem?_cons_succ] at h ⊢
    exact rep_start r h
section
variable {P : Program} {w : World} {K : PySem.W.Frag} {mg : Str → Option Value} {base : Heap} {fns : List FnD} {free : List Str} {N : Nat}
/-- every def keeps its promise -/
theorem prog_ok (hf : ∀ x, free.contains x = true → mg x = none) (hd : ∀ g ∈ fns, DefOk K mg fns free g) : ∀ (k f : Nat) (g : FnD), fns[f]? = some g →
    ∃ a fd, mg g.name = some (.ref a) ∧ PySem.W.keepIn K (.ref a) = true ∧ Binds K fd g.ps [] ∧ FnOk P w K mg base CX0 k a fd g.ps (spE w K (feN fns N k f) g.urn g.fresh g.ps.length) ∧ ∃ qual params body scope, FunD K g.name qual params body scope [] [] a fd
  | 0, f, g, hg => by
    obtain ⟨a, fd, qual, params, body, scope, h1, h2, h3, h4, h5⟩ := (hd g (List.mem_of_getElem? hg)).ex
    refine ⟨a, fd, h1, h2.kp, h4, ⟨fun vs H Q E h => h.1, fun A outer s H args us vs Q E _ _ _ _ h => ?_⟩, _, _, _, _, h2⟩
    obtain ⟨_, F, au, vs', ds, u, d, u', _, _, _, _, _, e, _⟩ := h
    cases e
  | k + 1, f, g, hg => by
    obtain ⟨a, fd, qual, params, body, scope, h1, h2, h3, h4, h5⟩ := (hd g (List.mem_of_getElem? hg)).ex
    refine ⟨a, fd, h1, h2.kp, h4, ?_, _, _, _, _, h2⟩
    refine h2.ok h3 (fun vs H Q E h => h.1) fun cdv A outer s H vs Q E hr h => ?_
    obtain ⟨hlen, F, au, vs', ds, u, d, u', fo, nf, ua, hu, rl, e, q⟩ := h
    rw [feN_some hg] at e
    unfold chkFn at h5
    generalize hc : (⟨fns, free, g.N, scope, none, g.urn⟩ : CC) = c at h5
    have c1 : c.fns = fns := by rw [← hc]
    have c2 : c.free = free := by rw [← hc]
    have c3 : c.N = g.N := by rw [← hc]
    have c4 : c.sc = scope := by rw [← hc]
    have c5 : c.bs = none := by rw [← hc]
    have c6 : c.urn = g.urn := by rw [← hc]
    have ft : Fits (cxOf CX0 P w K mg base g.N qual scope a cdv A outer s H E).nox c (feN fns N k) k := by
      refine ⟨c3.symm, h3.nd, c4.symm, fun x => by rw [c5]; rfl, rfl, hr, fun x hx => hf x (by rw [← c2]; exact hx), fun f' g' hg' => ?_⟩
      rw [c1] at hg'
      refine ⟨?_, ?_⟩
      · obtain ⟨a', fd', q1, q2, q3, q4, _⟩ := prog_ok hf hd k f' g' hg'
        exact ⟨a', fd', q1, q2, q3, q4⟩
      · cases k with
        | zero => exact ⟨fun _ ds u r z => (nomatch (show none = some r from z)), fun ds u r z => (nomatch (show none = some r from z))⟩
        | succ k =>
          rw [feN_some hg']
          exact ⟨fun hz ds u r z => runFn_keeps hz z, fun ds u r z => runFn_len z⟩
    have hau : c.urn = false → au = none := fun z => by
      rw [c6] at z
      rw [z, if_neg Bool.false_ne_true] at hu
      exact hu.1
    -- the state at the entry
    have el : ds.length + (if g.urn = true then 1 else 0) = g.ps.length := runFn_len e
    have hvl := rl.length
    have hNl : g.ps.length ≤ g.N.length := by have := congrArg List.length h3.pre; rw [List.length_take] at this; omega
    have S : ∀ u0, UAt au u0 H → SimS w K au H F (startK g) F ⟨au, fun _ => False⟩ (startE g ds) u0 (L2.start g.N vs) H := fun u0 ua => by
      refine ⟨⟨?_, fo, nf, fun p o hp _ => hp, fun b hb => ⟨?_, .inl hb⟩, fun p hp => hp.elim, ua, fun i x hi hx => ?_, fun i x hi _ => (startK_own hi).elim, fun i j b _ hi => (startK_own hi).elim, fun i hi => ?_⟩, fun p hp => hp, fun b hb => hb⟩
      · unfold startE L2.start
        rw [List.length_append, List.length_append, List.length_append, List.length_map, List.length_map, List.length_replicate, List.length_replicate, hlen]
        split <;> rename_i z
        · rw [if_pos z] at el
          rw [List.length_singleton]; omega
        · rw [if_neg z] at el
          rw [List.length_nil]; omega
      · by_cases z : g.urn = true
        · rw [if_pos z] at hu
          obtain ⟨a', h6, h7, _⟩ := hu
          have hb : au = some b := hb
          rw [h6] at hb; cases hb; exact h7
        · rw [if_neg z] at hu
          have hb : au = some b := hb
          rw [hu.1] at hb; cases hb
      · unfold startE at hx
        unfold L2.start
        rw [hlen]
        by_cases z : g.urn = true
        · rw [if_pos z] at hu hx
          obtain ⟨a', h6, h7, rfl⟩ := hu
          cases i with
          | zero => cases hx
          | succ i =>
            rw [List.cons_append, List.getElem?_cons_succ, List.nil_append] at hx
            rw [List.map_cons, List.cons_append, List.getElem?_cons_succ]
            exact rep_start rl hx
        · rw [if_neg z] at hu hx
          obtain ⟨_, rfl⟩ := hu
          rw [List.nil_append] at hx
          exact rep_start rl hx
      · obtain ⟨z, rfl⟩ := startK_d hi
        rw [if_pos z] at hu
        obtain ⟨a', h6, h7, rfl⟩ := hu
        exact ⟨a', h6, rfl⟩
    cases hch : chkS c g.fresh none (startK g) g.body (.many body) with
    | none => rw [hch] at h5; cases h5
    | some κo =>
      have hx : ∀ p, F p → H p ≠ none := fo
      have sd : PSs _ body _ := soundS (N := N) (au0 := au) (H0 := H) (F0 := F) ft PassesOwn.never hx hau g.body none (startK g) (.many body) κo hch
      refine ⟨_, PSs.nox sd, ?_⟩
      have hdead := dead (fe := feN fns N k) (N := N) g.body none (startK g) (.many body) κo hch
      have hfr : κo ≠ none → g.fresh = false := fun z => by
        rw [hch] at h5
        cases κo with
        | none => exact absurd rfl z
        | some κ1 => simpa using h5
      unfold runFn at e
      rw [if_pos el] at e
      have ua' : UAt au (if g.urn = true then u else []) H := by
        by_cases z : g.urn = true
        · rw [if_pos z]; exact ua
        · rw [if_neg z] at hu
          rw [hu.1]
          exact fun a ha => nomatch ha
      have upd : ∀ {u1 : List Int} {H' : Hp}, UAt au u1 H' → UAt au (if g.urn = true then u1 else u) H' := fun {u1 H'} h => by
        by_cases z : g.urn = true
        · rw [if_pos z]; exact h
        · rw [if_neg z] at hu
          rw [hu.1]
          exact fun a ha => nomatch ha
      cases hev : evS (feN fns N k) N g.body (startE g ds) (if g.urn = true then u else []) with
      | none => rw [hev] at e; cases e
      | some r =>
        obtain ⟨r, u1⟩ := r
        rw [hev] at e
        refine ⟨F, ⟨au, fun _ => False⟩, startE g ds, _, r, u1, S _ ua', hev, ?_⟩
        cases r with
        | bk ρ => cases e
        | ct ρ => cases e
        | rt d1 =>
          cases e
          exact fun v H' x a1 r1 f1 => q v H' x (upd a1) r1 f1
        | nx ρ =>
          cases e
          cases κo with
          | none => exact absurd hev (hdead rfl _ _ _ _)
          | some κ1 =>
            refine ⟨κ1, rfl, fun F' au' σ' H' S' g' => ?_⟩
            refine q .non H' S'.s.ext (upd fun b hb => S'.s.uat b (S'.a0 b hb)) .non fun z => ?_
            rw [hfr (fun z => nomatch z)] at z
            cases z
end
end DL

end
section
set_option Elab.async false
set_option linter.all false
set_option maxRecDepth 100000
set_option maxHeartbeats 0
namespace Hd
open PySem PySem.Spec PyProof.Rows L2
def top (i : Nat) : Stmt := PySem.Challenge.pw_walkedbands_k53_main_ways_led_past_each.main.body.getD i (.Pass ⟨0, 0, 0, 0⟩)
def mkD (x : Str) (i : Nat) : He.DefD := ⟨(x, none), x, x, defArgs (top i), defBody (top i), defScope (top i), [], []⟩

def fn0 : List He.DefD := [mkD "tupled" 1, mkD "is_number" 2, mkD "is_from" 3, mkD "is_below" 4, mkD "is_tuple_of" 5, mkD "is_rising" 6, mkD "set_of" 7, mkD "goes" 11, mkD "goes_on" 13, mkD "is_route" 14, mkD "lots_held" 16, mkD "held" 17]
def fn1 : List He.DefD := [mkD "is_past" 18, mkD "meets" 19, mkD "ways_past" 20, mkD "least_past" 21, mkD "a_route_past" 22, mkD "is_standing" 24, mkD "begun" 25, mkD "all_standings" 26, mkD "behind" 27, mkD "best_move" 28, mkD "won_from" 29, mkD "a_way" 30]
def fn2 : List He.DefD := [mkD "is_row" 31, mkD "goes_down" 32, mkD "is_way" 33, mkD "a_hold" 34, mkD "is_kept" 35, mkD "is_hold" 36, mkD "seen_ticks" 37, mkD "led" 38, mkD "_law_box" 40, mkD "_law_take" 41, mkD "_law_cells" 42, mkD "_law_mixed" 43]
def fn3 : List He.DefD := [mkD "_law_same" 44, mkD "_law_of" 45, mkD "_law_net" 46, mkD "_law_guard" 47, mkD "_law_goes" 48, mkD "_law_steps" 49, mkD "_law_walks" 50, mkD "_law_way" 51, mkD "_law_hold" 52, mkD "law" 53]
def fn : List He.DefD := fn0 ++ fn1 ++ fn2 ++ fn3
def fa0 : List He.Fa := [.glo "tupled", .glo "is_number", .glo "is_from", .glo "is_below", .glo "is_tuple_of", .glo "is_rising", .glo "set_of", .glo "goes", .glo "goes_on", .glo "is_route", .glo "lots_held", .glo "held"]
def fa1 : List He.Fa := [.glo "is_past", .glo "meets", .glo "ways_past", .glo "least_past", .glo "a_route_past", .glo "is_standing", .glo "begun", .glo "all_standings", .glo "behind", .glo "best_move", .glo "won_from", .glo "a_way"]
def fa2 : List He.Fa := [.glo "is_row", .glo "goes_down", .glo "is_way", .glo "a_hold", .glo "is_kept", .glo "is_hold", .glo "seen_ticks", .glo "led", .glo "_law_box", .glo "_law_take", .glo "_law_cells", .glo "_law_mixed"]
def fa3 : List He.Fa := [.glo "_law_same", .glo "_law_of", .glo "_law_net", .glo "_law_guard", .glo "_law_goes", .glo "_law_steps", .glo "_law_walks", .glo "_law_way", .glo "_law_hold", .glo "law", .free "len", .free "range"]
def fa4 : List He.Fa := [.free "tuple", .free "list", .free "sorted", .free "set", .free "sum", .free "all", .free "any", .free "max", .free "min", .free "abs", .free "int", .free "isinstance"]
def fa5 : List He.Fa := [.free "zip", .free "enumerate", .free "dict", .free "bool", .free "str"]
def fa : List He.Fa := fa0 ++ fa1 ++ fa2 ++ fa3 ++ fa4 ++ fa5
def lo0 : List Str := ["tupled", "is_number", "is_from", "is_below", "is_tuple_of", "is_rising", "set_of", "Unfit", "goes", "goes_on", "is_route", "lots_held"]
def lo1 : List Str := ["held", "is_past", "meets", "ways_past", "least_past", "a_route_past", "is_standing", "begun", "all_standings", "behind", "best_move", "won_from"]
def lo2 : List Str := ["a_way", "is_row", "goes_down", "is_way", "a_hold", "is_kept", "is_hold", "seen_ticks", "led", "_law_box", "_law_take", "_law_cells"]
def lo3 : List Str := ["_law_mixed", "_law_same", "_law_of", "_law_net", "_law_guard", "_law_goes", "_law_steps", "_law_walks", "_law_way", "_law_hold"]
def lo : List Str := lo0 ++ lo1 ++ lo2 ++ lo3
abbrev R : PySem.W.OpenRow := PySem.W.OpenLaw.row PySem.Challenge.rw_walkedbands_k53_main_ways_led_past_each
abbrev hk : PySem.W.Hook := He.hookD 4 fa fn
def ob (s : PySem.W.SharedT) : He.AlD := He.obsDG 4 fa fn (HandSHeadRun.getT s)
theorem ob_eq (s : PySem.W.SharedT) : ob s = hk.obs s.abs := He.obsDG_eq (HandSHeadRun.getT_eq s)
theorem run (w : World) : HandSHeadRun.RunEq R (PySem.W.view R.prog [53]) hk ob 3000 lo w := by
  intro os
  kernel_rfl
end Hd

end
section
set_option Elab.async false
set_option linter.all false
set_option autoImplicit false
set_option maxRecDepth 100000
set_option maxHeartbeats 0
namespace Pg
open PySem PySem.Spec PyProof.Rows L2 DL
def f_tupled : FnD := ⟨"tupled", ["thing"], false, false, ["thing", "part"],
  (.seq (.ifs (.isi [.list, .tuple] (.var 0)) (.seq (.ret (.blt .tuple (.cons (.cl [1] .seq (.var 0) (.nm 1) .nil (.em (.call 0 .pure (.cons (.var 1) .nil)))) .nil))) .nil) .nil) (.seq (.ret (.var 0)) .nil))⟩
def f_is_number : FnD := ⟨"is_number", ["thing"], false, false, ["thing"],
  (.seq (.ret (.and (.isi [.int] (.var 0)) (.not (.isi [.bool] (.var 0))))) .nil)⟩
def f_is_from : FnD := ⟨"is_from", ["thing", "least"], false, false, ["thing", "least"],
  (.seq (.ret (.and (.call 1 .pure (.cons (.var 0) .nil)) (.op .ge (.var 0) (.var 1)))) .nil)⟩
def f_is_below : FnD := ⟨"is_below", ["thing", "many"], false, false, ["thing", "many"],
  (.seq (.ret (.and (.call 1 .pure (.cons (.var 0) .nil)) (.chain .le .lt (.int 0) (.var 0) (.var 1)))) .nil)⟩
def f_is_tuple_of : FnD := ⟨"is_tuple_of", ["thing", "many"], false, false, ["thing", "many"],
  (.seq (.ret (.and (.isi [.tuple] (.var 0)) (.op .eq (.blt .len (.cons (.var 0) .nil)) (.var 1)))) .nil)⟩
def f_is_rising : FnD := ⟨"is_rising", ["things"], false, false, ["things", "one", "other"],
  (.seq (.ret (.blt .all (.cons (.cl [1, 2] .zip (.cons (.var 0) (.cons (.sl (.var 0) (.int 1) .no) .nil)) (.cons (.nm 1) (.cons (.nm 2) .nil)) .nil (.em (.op .lt (.var 1) (.var 2)))) .nil))) .nil)⟩
def f_set_of : FnD := ⟨"set_of", ["things"], false, false, ["things"],
  (.seq (.ret (.blt .tuple (.cons (.sset (.var 0)) .nil))) .nil)⟩
def f_goes : FnD := ⟨"goes", ["guard", "place"], false, false, ["guard", "place", "near", "far"],
  (.seq (.ret (.blt .tuple (.cons (.cl [2, 3] .seq (.ix (.var 0) (.int 2)) (.cons (.nm 2) (.cons (.nm 3) .nil)) (.cons (.op .eq (.var 2) (.var 1)) .nil) (.em (.var 3))) .nil))) .nil)⟩
def f_goes_on : FnD := ⟨"goes_on", ["net", "tick", "house"], false, false, ["net", "tick", "house", "one", "other", "rest"],
  (.seq (.ret (.call 6 .pure (.cons (.op .addL (.lst (.cons (.var 2) .nil)) (.cl [3, 4, 5] .seq (.ix (.var 0) (.int 2)) (.cons (.nm 3) (.cons (.nm 4) (.cons (.nm 5) .nil))) (.cons (.and (.op .eq (.var 3) (.var 2)) (.op .eq (.op .mod (.var 1) (.ix (.var 0) (.int 1))) (.var 5))) .nil) (.em (.var 4)))) .nil))) .nil)⟩
def f_is_route : FnD := ⟨"is_route", ["net", "ticks", "thing"], false, false, ["net", "ticks", "thing", "tick", "own"],
  (.seq (.ifs (.or (.not (.call 4 .pure (.cons (.var 2) (.cons (.op .add (.var 1) (.int 1)) .nil)))) (.not (.blt .all (.cons (.cl [4] .seq (.var 2) (.nm 4) .nil (.em (.call 3 .pure (.cons (.var 4) (.cons (.ix (.var 0) (.int 0)) .nil))))) .nil)))) (.seq (.ret (.bl false)) .nil) .nil) (.seq (.ifs (.or (.op .ne (.ix (.var 2) (.int 0)) (.int 0)) (.op .ne (.ix (.var 2) (.neg (.int 1))) (.op .sub (.ix (.var 0) (.int 0)) (.int 1)))) (.seq (.ret (.bl false)) .nil) .nil) (.seq (.ret (.blt .all (.cons (.cl [3] .rng1 (.cons (.var 1) .nil) (.nm 3) .nil (.em (.op .inn (.ix (.var 2) (.op .add (.var 3) (.int 1))) (.call 8 .pure (.cons (.var 0) (.cons (.var 3) (.cons (.ix (.var 2) (.var 3)) .nil))))))) .nil))) .nil)))⟩
def f_lots_held : FnD := ⟨"lots_held", ["guard", "walks"], false, false, ["guard", "walks", "lots", "ticks", "tick", "walk", "house"],
  (.seq (.par [(2, false), (3, false)] (.cons (.ix (.call 0 .pure (.cons (.var 0) .nil)) (.int 0)) (.cons (.blt .len (.cons (.ix (.var 1) (.int 0)) .nil)) .nil))) (.seq (.ret (.blt .tuple (.cons (.cl [4] .rng1 (.cons (.var 3) .nil) (.nm 4) .nil (.em (.call 6 .pure (.cons (.cl [5, 6] .seq (.var 1) (.nm 5) .nil (.cl [6] .seq (.ix (.var 2) (.ix (.var 5) (.var 4))) (.nm 6) .nil (.em (.var 6)))) .nil)))) .nil))) .nil))⟩
def f_held : FnD := ⟨"held", ["guard", "walks"], false, false, ["guard", "walks", "walk"],
  (.seq (.ifs (.blt .any (.cons (.cl [2] .seq (.var 1) (.nm 2) .nil (.em (.op .ne (.blt .len (.cons (.var 2) .nil)) (.blt .len (.cons (.ix (.var 1) (.int 0)) .nil))))) .nil)) (.seq .raise .nil) .nil) (.seq (.ret (.call 10 .pure (.cons (.var 0) (.cons (.var 1) .nil)))) .nil))⟩
def f_is_past : FnD := ⟨"is_past", ["lots", "route"], false, false, ["lots", "route", "lot", "house"],
  (.seq (.ret (.not (.blt .any (.cons (.cl [2, 3] .zip (.cons (.var 0) (.cons (.var 1) .nil)) (.cons (.nm 2) (.cons (.nm 3) .nil)) .nil (.em (.op .inn (.var 3) (.var 2)))) .nil)))) .nil)⟩
def f_meets : FnD := ⟨"meets", ["guard", "walk", "route"], false, false, ["guard", "walk", "route"],
  (.seq (.ret (.not (.call 12 .pure (.cons (.call 10 .pure (.cons (.var 0) (.cons (.tup (.cons (.var 1) .nil)) .nil))) (.cons (.var 2) .nil))))) .nil)⟩
def f_ways_past : FnD := ⟨"ways_past", ["net", "lots"], false, false, ["net", "lots", "ticks", "found", "tick", "ahead", "house", "far"],
  (.seq (.set 2 (.op .sub (.blt .len (.cons (.var 1) .nil)) (.int 1))) (.seq (.own 3 (.lst (.cons (.cl [6] .rng1 (.cons (.ix (.var 0) (.int 0)) .nil) (.nm 6) .nil (.em (.blt .int (.cons (.and (.op .eq (.var 6) (.op .sub (.ix (.var 0) (.int 0)) (.int 1))) (.op .notin (.var 6) (.ix (.var 1) (.var 2)))) .nil)))) .nil))) (.seq (.fr .rng3 (.cons (.op .sub (.var 2) (.int 1)) (.cons (.neg (.int 1)) (.cons (.neg (.int 1)) .nil))) (.nm 4) (.seq (.set 5 (.ix (.own 3) (.neg (.int 1)))) (.seq (.app 3 (.cl [6] .rng1 (.cons (.ix (.var 0) (.int 0)) .nil) (.nm 6) .nil (.em (.ifx (.op .inn (.var 6) (.ix (.var 1) (.var 4))) (.int 0) (.blt .sum (.cons (.cl [7] .seq (.call 8 .pure (.cons (.var 0) (.cons (.var 4) (.cons (.var 6) .nil)))) (.nm 7) .nil (.em (.ix (.var 5) (.var 7)))) .nil)))))) .nil))) (.seq (.ret (.rev (.own 3))) .nil))))⟩
def f_least_past : FnD := ⟨"least_past", ["net", "lots"], false, false, ["net", "lots", "left", "found", "tick", "house"],
  (.seq (.set 2 (.call 14 .pure (.cons (.var 0) (.cons (.var 1) .nil)))) (.seq (.ifs (.op .eq (.ix (.ix (.var 2) (.int 0)) (.int 0)) (.int 0)) (.seq (.ret .non) .nil) .nil) (.seq (.set 3 (.tup (.cons (.int 0) .nil))) (.seq (.fr .rng1 (.cons (.op .sub (.blt .len (.cons (.var 1) .nil)) (.int 1)) .nil) (.nm 4) (.seq (.set 3 (.tup (.star (.var 3) (.cons (.ix (.cl [5] .seq (.call 8 .pure (.cons (.var 0) (.cons (.var 4) (.cons (.ix (.var 3) (.neg (.int 1))) .nil)))) (.nm 5) (.cons (.op .gt (.ix (.ix (.var 2) (.op .add (.var 4) (.int 1))) (.var 5)) (.int 0)) .nil) (.em (.var 5))) (.int 0)) .nil)))) .nil)) (.seq (.ret (.var 3)) .nil)))))⟩
def f_a_route_past : FnD := ⟨"a_route_past", ["net", "guard", "walks"], false, false, ["net", "guard", "walks"],
  (.seq (.ret (.call 15 .pure (.cons (.var 0) (.cons (.call 11 .pure (.cons (.var 1) (.cons (.var 2) .nil))) .nil)))) .nil)⟩
def f_is_standing : FnD := ⟨"is_standing", ["net", "guard", "thing"], false, false, ["net", "guard", "thing"],
  (.seq (.ifs (.or (.not (.call 4 .pure (.cons (.var 2) (.cons (.int 3) .nil)))) (.or (.not (.call 3 .pure (.cons (.ix (.var 2) (.int 0)) (.cons (.ix (.var 0) (.int 1)) .nil)))) (.not (.call 3 .pure (.cons (.ix (.var 2) (.int 1)) (.cons (.op .sub (.ix (.var 0) (.int 0)) (.int 1)) .nil)))))) (.seq (.ret (.bl false)) .nil) .nil) (.seq (.ret (.and (.call 3 .pure (.cons (.ix (.var 2) (.int 2)) (.cons (.blt .len (.cons (.ix (.var 1) (.int 0)) .nil)) .nil))) (.op .notin (.ix (.var 2) (.int 1)) (.ix (.ix (.var 1) (.int 0)) (.ix (.var 2) (.int 2)))))) .nil))⟩
def f_begun : FnD := ⟨"begun", ["guard"], false, true, ["guard", "place"],
  (.seq (.ret (.cl [1] .seq (.ix (.var 0) (.int 1)) (.nm 1) .nil (.em (.tup (.cons (.int 0) (.cons (.int 0) (.cons (.var 1) .nil))))))) .nil)⟩
def f_all_standings : FnD := ⟨"all_standings", ["net", "guard"], false, true, ["net", "guard", "rows", "rest", "house", "place", "own"],
  (.seq (.set 2 (.cl [3, 4, 5] .rng1 (.cons (.ix (.var 0) (.int 1)) .nil) (.nm 3) .nil (.cl [4, 5] .rng1 (.cons (.op .sub (.ix (.var 0) (.int 0)) (.int 1)) .nil) (.nm 4) .nil (.cl [5] .rng1 (.cons (.blt .len (.cons (.ix (.var 1) (.int 0)) .nil)) .nil) (.nm 5) .nil (.em (.tup (.cons (.var 3) (.cons (.var 4) (.cons (.var 5) .nil))))))))) (.seq (.ret (.cl [6] .seq (.var 2) (.nm 6) (.cons (.op .notin (.ix (.var 6) (.int 1)) (.ix (.ix (.var 1) (.int 0)) (.ix (.var 6) (.int 2)))) .nil) (.em (.var 6)))) .nil))⟩
def f_behind : FnD := ⟨"behind", ["net", "guard", "standing", "to"], false, true, ["net", "guard", "standing", "to", "rest", "place"],
  (.seq (.set 4 (.op .mod (.op .add (.ix (.var 2) (.int 0)) (.int 1)) (.ix (.var 0) (.int 1)))) (.seq (.ret (.cl [5] .seq (.call 7 .pure (.cons (.var 1) (.cons (.ix (.var 2) (.int 2)) .nil))) (.nm 5) .nil (.em (.ifx (.op .inn (.var 3) (.ix (.ix (.var 1) (.int 0)) (.var 5))) .non (.tup (.cons (.var 4) (.cons (.var 3) (.cons (.var 5) .nil)))))))) .nil))⟩
def f_best_move : FnD := ⟨"best_move", ["net", "guard", "won", "standing"], false, false, ["net", "guard", "won", "standing", "found", "to", "rows", "far", "own"],
  (.seq (.own 4 (.lst .nil)) (.seq (.fr .seq (.call 8 .pure (.cons (.var 0) (.cons (.ix (.var 3) (.int 0)) (.cons (.ix (.var 3) (.int 1)) .nil)))) (.nm 5) (.seq (.set 6 (.call 20 .pure (.cons (.var 0) (.cons (.var 1) (.cons (.var 3) (.cons (.var 5) .nil)))))) (.seq (.ifs (.and (.op .notin .non (.var 6)) (.or (.op .eq (.var 5) (.op .sub (.ix (.var 0) (.int 0)) (.int 1))) (.blt .all (.cons (.cl [8] .seq (.var 6) (.nm 8) .nil (.em (.op .inn (.var 8) (.var 2)))) .nil)))) (.seq (.set 7 (.ifx (.op .eq (.var 5) (.op .sub (.ix (.var 0) (.int 0)) (.int 1))) (.int 0) (.blt .max (.cons (.cl [8] .seq (.var 6) (.nm 8) .nil (.em (.ix (.ix (.var 2) (.var 8)) (.int 1)))) .nil)))) (.seq (.app 4 (.tup (.cons (.op .add (.var 7) (.int 1)) (.cons (.var 5) .nil)))) .nil)) .nil) .nil))) (.seq (.ret (.ifx (.op .ne (.own 4) (.lst .nil)) (.blt .min (.cons (.own 4) .nil)) .non)) .nil)))⟩
def f_won_from : FnD := ⟨"won_from", ["net", "guard"], false, true, ["net", "guard", "won", "fresh", "left", "moves", "rows", "own", "move"],
  (.seq (.par [(2, true), (3, false), (4, false)] (.cons .dict0 (.cons (.bl true) (.cons (.call 19 .pure (.cons (.var 0) (.cons (.var 1) .nil))) .nil)))) (.seq (.whl (.var 3) (.seq (.set 5 (.cl [7] .seq (.var 4) (.nm 7) (.cons (.op .notin (.var 7) (.own 2)) .nil) (.em (.tup (.cons (.var 7) (.cons (.call 21 .bor (.cons (.var 0) (.cons (.var 1) (.cons (.own 2) (.cons (.var 7) .nil))))) .nil)))))) (.seq (.set 6 (.cl [7, 8] .seq (.var 5) (.cons (.nm 7) (.cons (.nm 8) .nil)) (.cons (.op .isnot (.var 8) .non) .nil) (.em (.tup (.cons (.var 7) (.cons (.tup (.cons (.ix (.var 8) (.int 1)) (.cons (.ix (.var 8) (.int 0)) .nil))) .nil)))))) (.seq (.set 3 (.op .ne (.var 6) (.lst .nil))) (.seq (.upd 2 (.var 6)) .nil))))) (.seq (.retO 2) .nil)))⟩
def f_a_way : FnD := ⟨"a_way", ["net", "guard"], false, false, ["net", "guard", "won", "own"],
  (.seq (.set 2 (.call 22 .pure (.cons (.var 0) (.cons (.var 1) .nil)))) (.seq (.ret (.ifx (.blt .all (.cons (.cl [3] .seq (.call 18 .pure (.cons (.var 1) .nil)) (.nm 3) .nil (.em (.op .inn (.var 3) (.var 2)))) .nil)) (.blt .tuple (.cons (.sitems (.var 2)) .nil)) .non)) .nil))⟩
def f_is_row : FnD := ⟨"is_row", ["net", "guard", "thing"], false, false, ["net", "guard", "thing"],
  (.seq (.ifs (.or (.not (.call 4 .pure (.cons (.var 2) (.cons (.int 2) .nil)))) (.or (.not (.call 17 .pure (.cons (.var 0) (.cons (.var 1) (.cons (.ix (.var 2) (.int 0)) .nil))))) (.not (.call 4 .pure (.cons (.ix (.var 2) (.int 1)) (.cons (.int 2) .nil)))))) (.seq (.ret (.bl false)) .nil) .nil) (.seq (.ret (.and (.call 3 .pure (.cons (.ix (.ix (.var 2) (.int 1)) (.int 0)) (.cons (.ix (.var 0) (.int 0)) .nil))) (.call 2 .pure (.cons (.ix (.ix (.var 2) (.int 1)) (.int 1)) (.cons (.int 1) .nil))))) .nil))⟩
def f_goes_down : FnD := ⟨"goes_down", ["net", "guard", "table", "standing"], false, false, ["net", "guard", "table", "standing", "rows", "to", "number", "own"],
  (.seq (.bind (.cons (.nm 5) (.cons (.nm 6) .nil)) (.ix (.var 2) (.var 3))) (.seq (.set 4 (.call 20 .pure (.cons (.var 0) (.cons (.var 1) (.cons (.var 3) (.cons (.var 5) .nil)))))) (.seq (.ifs (.or (.op .notin (.var 5) (.call 8 .pure (.cons (.var 0) (.cons (.ix (.var 3) (.int 0)) (.cons (.ix (.var 3) (.int 1)) .nil))))) (.op .inn .non (.var 4))) (.seq (.ret (.bl false)) .nil) .nil) (.seq (.ret (.or (.op .eq (.var 5) (.op .sub (.ix (.var 0) (.int 0)) (.int 1))) (.blt .all (.cons (.cl [7] .seq (.var 4) (.nm 7) .nil (.em (.and (.op .inn (.var 7) (.var 2)) (.op .lt (.ix (.ix (.var 2) (.var 7)) (.int 1)) (.var 6))))) .nil)))) .nil))))⟩
def f_is_way : FnD := ⟨"is_way", ["net", "guard", "thing"], false, false, ["net", "guard", "thing", "table", "own"],
  (.seq (.ifs (.or (.not (.isi [.tuple] (.var 2))) (.not (.blt .all (.cons (.cl [4] .seq (.var 2) (.nm 4) .nil (.em (.call 24 .pure (.cons (.var 0) (.cons (.var 1) (.cons (.var 4) .nil)))))) .nil)))) (.seq (.ret (.bl false)) .nil) .nil) (.seq (.ifs (.not (.call 5 .pure (.cons (.cl [4] .seq (.var 2) (.nm 4) .nil (.em (.ix (.var 4) (.int 0)))) .nil))) (.seq (.ret (.bl false)) .nil) .nil) (.seq (.set 3 (.blt .dict (.cons (.var 2) .nil))) (.seq (.ifs (.not (.blt .all (.cons (.cl [4] .seq (.call 18 .pure (.cons (.var 1) .nil)) (.nm 4) .nil (.em (.op .inn (.var 4) (.var 3)))) .nil))) (.seq (.ret (.bl false)) .nil) .nil) (.seq (.ret (.blt .all (.cons (.cl [4] .keys (.var 3) (.nm 4) .nil (.em (.call 25 .pure (.cons (.var 0) (.cons (.var 1) (.cons (.var 3) (.cons (.var 4) .nil))))))) .nil))) .nil)))))⟩
def f_a_hold : FnD := ⟨"a_hold", ["net", "guard"], false, false, ["net", "guard", "won", "found", "own"],
  (.seq (.set 2 (.call 22 .pure (.cons (.var 0) (.cons (.var 1) .nil)))) (.seq (.set 3 (.blt .tuple (.cons (.cl [4] .seq (.call 19 .pure (.cons (.var 0) (.cons (.var 1) .nil))) (.nm 4) (.cons (.op .notin (.var 4) (.var 2)) .nil) (.em (.var 4))) .nil))) (.seq (.ret (.ifx (.blt .any (.cons (.cl [4] .seq (.call 18 .pure (.cons (.var 1) .nil)) (.nm 4) .nil (.em (.op .inn (.var 4) (.var 3)))) .nil)) (.var 3) .non)) .nil)))⟩
def f_is_kept : FnD := ⟨"is_kept", ["net", "guard", "table", "standing"], false, false, ["net", "guard", "table", "standing", "to", "own"],
  (.seq (.fr .seq (.call 8 .pure (.cons (.var 0) (.cons (.ix (.var 3) (.int 0)) (.cons (.ix (.var 3) (.int 1)) .nil)))) (.nm 4) (.seq (.ifs (.not (.blt .any (.cons (.cl [5] .seq (.call 20 .pure (.cons (.var 0) (.cons (.var 1) (.cons (.var 3) (.cons (.var 4) .nil))))) (.nm 5) .nil (.em (.or (.op .is (.var 5) .non) (.op .inn (.var 5) (.var 2))))) .nil))) (.seq (.ret (.bl false)) .nil) .nil) .nil)) (.seq (.ret (.bl true)) .nil))⟩
def f_is_hold : FnD := ⟨"is_hold", ["net", "guard", "thing"], false, false, ["net", "guard", "thing", "table", "own"],
  (.seq (.ifs (.or (.not (.isi [.tuple] (.var 2))) (.not (.blt .all (.cons (.cl [4] .seq (.var 2) (.nm 4) .nil (.em (.call 17 .pure (.cons (.var 0) (.cons (.var 1) (.cons (.var 4) .nil)))))) .nil)))) (.seq (.ret (.bl false)) .nil) .nil) (.seq (.ifs (.or (.not (.call 5 .pure (.cons (.var 2) .nil))) (.not (.blt .any (.cons (.cl [4] .seq (.call 18 .pure (.cons (.var 1) .nil)) (.nm 4) .nil (.em (.op .inn (.var 4) (.var 2)))) .nil)))) (.seq (.ret (.bl false)) .nil) .nil) (.seq (.set 3 (.blt .dict (.cons (.cl [4] .seq (.var 2) (.nm 4) .nil (.em (.tup (.cons (.var 4) (.cons (.bl true) .nil))))) .nil))) (.seq (.ret (.blt .all (.cons (.cl [4] .seq (.var 2) (.nm 4) .nil (.em (.call 28 .pure (.cons (.var 0) (.cons (.var 1) (.cons (.var 3) (.cons (.var 4) .nil))))))) .nil))) .nil))))⟩
def f_seen_ticks : FnD := ⟨"seen_ticks", ["net", "guard"], false, false, ["net", "guard", "won", "own"],
  (.seq (.set 2 (.call 22 .pure (.cons (.var 0) (.cons (.var 1) .nil)))) (.seq (.ifs (.not (.blt .all (.cons (.cl [3] .seq (.call 18 .pure (.cons (.var 1) .nil)) (.nm 3) .nil (.em (.op .inn (.var 3) (.var 2)))) .nil))) (.seq (.ret .non) .nil) .nil) (.seq (.ret (.blt .max (.cons (.cl [3] .seq (.call 18 .pure (.cons (.var 1) .nil)) (.nm 3) .nil (.em (.ix (.ix (.var 2) (.var 3)) (.int 1)))) .nil))) .nil)))⟩
def f_led : FnD := ⟨"led", ["net", "way", "walk"], false, false, ["net", "way", "walk", "tick", "table", "found"],
  (.seq (.par [(4, false), (5, false)] (.cons (.blt .dict (.cons (.call 0 .pure (.cons (.var 1) .nil)) .nil)) (.cons (.tup (.cons (.int 0) .nil)) .nil))) (.seq (.fr .rng1 (.cons (.op .sub (.blt .len (.cons (.var 2) .nil)) (.int 1)) .nil) (.nm 3) (.seq (.ifs (.op .ne (.ix (.var 5) (.neg (.int 1))) (.op .sub (.ix (.var 0) (.int 0)) (.int 1))) (.seq (.set 5 (.tup (.star (.var 5) (.cons (.ix (.ix (.var 4) (.tup (.cons (.op .mod (.var 3) (.ix (.var 0) (.int 1))) (.cons (.ix (.var 5) (.neg (.int 1))) (.cons (.ix (.var 2) (.var 3)) .nil))))) (.int 0)) .nil)))) .nil) .nil) .nil)) (.seq (.ret (.var 5)) .nil)))⟩
def f__law_box : FnD := ⟨"_law_box", ["script", "k"], false, true, ["script", "k", "cell"],
  (.seq (.set 2 (.ifx (.op .lt (.var 1) (.blt .len (.cons (.var 0) .nil))) (.ix (.var 0) (.var 1)) (.int 0))) (.seq (.ret (.lst (.cons (.op .mul (.blt .abs (.cons (.var 2) .nil)) (.blt .int (.cons (.op .ge (.blt .abs (.cons (.var 2) .nil)) (.op .pow (.int 10) (.int 18))) .nil))) (.cons (.op .add (.op .add (.op .mod (.blt .int (.cons (.var 2) .nil)) (.int 2305843009213693951)) (.op .mul (.int 39373) (.var 1))) (.int 2325001)) (.cons (.int 0) .nil))))) .nil))⟩
def f__law_take : FnD := ⟨"_law_take", ["urn", "below"], true, false, ["urn", "below", "once", "far", "twice", "own"],
  (.seq (.ifs (.op .gt (.urn 0) (.int 0)) (.seq (.set 5 (.op .mod (.blt .int (.cons (.urn 0) .nil)) (.var 1))) (.seq (.urnS 0 (.op .fdiv (.urn 0) (.var 1))) (.seq (.ret (.var 5)) .nil))) .nil) (.seq (.urnS 2 (.op .add (.urn 2) (.int 1))) (.seq (.set 2 (.op .mod (.blt .int (.cons (.op .mul (.op .add (.urn 1) (.op .mul (.int 48271) (.urn 2))) (.op .add (.int 39373) (.urn 2))) .nil)) (.int 2147483647))) (.seq (.set 3 (.op .add (.op .mod (.blt .int (.cons (.var 2) .nil)) (.int 40009)) (.int 7))) (.seq (.set 4 (.op .mod (.blt .int (.cons (.op .mul (.op .add (.op .add (.var 2) (.urn 2)) (.op .fdiv (.urn 1) (.int 1000003))) (.var 3)) .nil)) (.int 2147483629))) (.seq (.ret (.op .mod (.blt .int (.cons (.op .fdiv (.op .mod (.blt .int (.cons (.op .add (.op .mul (.var 4) (.int 48271)) (.var 2)) .nil)) (.int 2147483587)) (.int 64)) .nil)) (.var 1))) .nil))))))⟩
def f__law_cells : FnD := ⟨"_law_cells", ["script", "many"], false, true, ["script", "many", "cells", "k", "cell", "at"],
  (.seq (.own 2 (.or (.blt .list (.cons (.sl (.var 0) .no (.var 1)) .nil)) (.lst (.cons (.int 0) .nil)))) (.seq (.fr .enum (.cons (.sl (.var 0) (.var 1) (.int 63)) .nil) (.cons (.nm 3) (.cons (.nm 4) .nil)) (.seq (.set 5 (.op .mod (.blt .int (.cons (.var 3) .nil)) (.var 1))) (.seq (.put 2 (.var 5) (.op .add (.ix (.own 2) (.var 5)) (.op .mul (.var 4) (.op .add (.var 3) (.int 2))))) .nil))) (.seq (.retO 2) .nil)))⟩
def f__law_mixed : FnD := ⟨"_law_mixed", ["urn", "matter"], true, false, ["urn", "matter", "parts", "own"],
  (.seq (.ifs (.not (.isi [.list, .tuple] (.var 1))) (.seq (.ret (.var 1)) .nil) .nil) (.seq (.set 2 (.cl [3] .seq (.var 1) (.nm 3) .nil (.em (.call 35 .urn (.cons (.var 3) .nil))))) (.seq (.ret (.ifx (.op .eq (.call 33 .urn (.cons (.int 2) .nil)) (.int 0)) (.var 2) (.blt .tuple (.cons (.var 2) .nil)))) .nil)))⟩
def f__law_same : FnD := ⟨"_law_same", ["got", "due"], false, false, ["got", "due", "mine", "own"],
  (.seq (.ifs (.isi [.list, .tuple] (.var 1)) (.seq (.ifs (.or (.op .ne (.isi [.list] (.var 0)) (.isi [.list] (.var 1))) (.op .ne (.isi [.tuple] (.var 0)) (.isi [.tuple] (.var 1)))) (.seq (.ret (.bl false)) .nil) .nil) (.seq (.ret (.and (.op .eq (.blt .len (.cons (.var 0) .nil)) (.blt .len (.cons (.var 1) .nil))) (.blt .all (.cons (.cl [2, 3] .zip (.cons (.var 0) (.cons (.var 1) .nil)) (.cons (.nm 2) (.cons (.nm 3) .nil)) .nil (.em (.call 36 .pure (.cons (.var 2) (.cons (.var 3) .nil))))) .nil)))) .nil)) .nil) (.seq (.ifs (.or (.op .is (.var 1) .non) (.or (.op .is (.var 0) .non) (.or (.isi [.bool] (.var 1)) (.isi [.bool] (.var 0))))) (.seq (.ret (.and (.op .eq (.op .is (.var 1) .non) (.op .is (.var 0) .non)) (.and (.op .eq (.isi [.bool] (.var 0)) (.isi [.bool] (.var 1))) (.op .eq (.var 0) (.var 1))))) .nil) .nil) (.seq (.ifs (.isi [.str] (.var 1)) (.seq (.ret (.and (.isi [.str] (.var 0)) (.op .eq (.var 0) (.var 1)))) .nil) .nil) (.seq (.ret (.and (.isi [.int] (.var 0)) (.op .eq (.var 0) (.var 1)))) .nil))))⟩
def f__law_of : FnD := ⟨"_law_of", ["urn", "some"], true, false, ["urn", "some"],
  (.seq (.ret (.ix (.var 1) (.call 33 .urn (.cons (.blt .len (.cons (.var 1) .nil)) .nil)))) .nil)⟩
def f__law_net : FnD := ⟨"_law_net", ["urn", "most", "beats"], true, false, ["urn", "most", "beats", "one", "houses", "beat", "lines", "other", "house", "rest"],
  (.seq (.par [(4, false), (5, false), (6, true)] (.cons (.op .add (.int 3) (.call 33 .urn (.cons (.op .sub (.var 1) (.int 2)) .nil))) (.cons (.op .add (.int 1) (.call 33 .urn (.cons (.var 2) .nil))) (.cons (.lst .nil) .nil)))) (.seq (.fr .rng1 (.cons (.var 4) .nil) (.nm 3) (.seq (.fr .rng1 (.cons (.var 4) .nil) (.nm 7) (.seq (.fr .rng1 (.cons (.var 5) .nil) (.nm 9) (.seq (.ifs (.and (.op .ne (.var 3) (.var 7)) (.and (.op .ne (.var 7) (.int 0)) (.and (.op .ne (.var 3) (.op .sub (.var 4) (.int 1))) (.and (.op .lt (.blt .len (.cons (.own 6) .nil)) (.int 14)) (.op .eq (.call 33 .urn (.cons (.op .add (.int 3) (.op .fdiv (.var 5) (.int 2))) .nil)) (.int 0)))))) (.seq (.app 6 (.tup (.cons (.var 3) (.cons (.var 7) (.cons (.var 9) .nil))))) .nil) .nil) .nil)) .nil)) .nil)) (.seq (.ifs (.and (.op .gt (.call 33 .urn (.cons (.int 5) .nil)) (.int 0)) (.op .lt (.blt .len (.cons (.own 6) .nil)) (.int 13))) (.seq (.set 8 (.op .add (.int 1) (.call 33 .urn (.cons (.op .sub (.var 4) (.int 2)) .nil)))) (.seq (.own 6 (.op .addL (.own 6) (.lst (.cons (.tup (.cons (.int 0) (.cons (.var 8) (.cons (.call 33 .urn (.cons (.var 5) .nil)) .nil)))) (.cons (.tup (.cons (.var 8) (.cons (.op .sub (.var 4) (.int 1)) (.cons (.call 33 .urn (.cons (.var 5) .nil)) .nil)))) .nil))))) .nil)) .nil) (.seq (.ret (.tup (.cons (.var 4) (.cons (.var 5) (.cons (.blt .tuple (.cons (.sset (.own 6)) .nil)) .nil))))) .nil))))⟩
def f__law_guard : FnD := ⟨"_law_guard", ["urn", "houses", "most"], true, false, ["urn", "houses", "most", "lots", "begins", "near", "many", "steps", "goals", "place", "far", "house"],
  (.seq (.par [(6, false), (7, false)] (.cons (.op .add (.int 1) (.call 33 .urn (.cons (.var 2) .nil))) (.cons (.lst .nil) .nil))) (.seq (.set 3 (.blt .tuple (.cons (.cl [9] .rng1 (.cons (.var 6) .nil) (.nm 9) .nil (.em (.blt .tuple (.cons (.cl [11] .rng2 (.cons (.int 1) (.cons (.op .sub (.var 1) (.int 1)) .nil)) (.nm 11) (.cons (.op .lt (.call 33 .urn (.cons (.int 5) .nil)) (.int 2)) .nil) (.em (.var 11))) .nil)))) .nil))) (.seq (.set 4 (.or (.blt .tuple (.cons (.cl [9] .rng1 (.cons (.var 6) .nil) (.nm 9) (.cons (.op .eq (.call 33 .urn (.cons (.int 2) .nil)) (.int 0)) .nil) (.em (.var 9))) .nil)) (.tup (.cons (.call 33 .urn (.cons (.var 6) .nil)) .nil)))) (.seq (.fr .rng1 (.cons (.var 6) .nil) (.nm 5) (.seq (.set 8 (.or (.sl (.cl [10] .rng1 (.cons (.var 6) .nil) (.nm 10) (.cons (.op .eq (.call 33 .urn (.cons (.int 2) .nil)) (.int 0)) .nil) (.em (.var 10))) .no (.int 3)) (.lst (.cons (.call 33 .urn (.cons (.var 6) .nil)) .nil)))) (.seq (.set 7 (.op .addL (.var 7) (.cl [10] .seq (.var 8) (.nm 10) .nil (.em (.tup (.cons (.var 5) (.cons (.var 10) .nil))))))) .nil))) (.seq (.ret (.tup (.cons (.var 3) (.cons (.var 4) (.cons (.blt .tuple (.cons (.var 7) .nil)) .nil))))) .nil)))))⟩
def f__law_goes : FnD := ⟨"_law_goes", ["net", "tick", "house"], false, true, ["net", "tick", "house", "found", "one", "other", "rest"],
  (.seq (.set 3 (.op .addL (.lst (.cons (.var 2) .nil)) (.cl [4, 5, 6] .seq (.ix (.var 0) (.int 2)) (.cons (.nm 4) (.cons (.nm 5) (.cons (.nm 6) .nil))) (.cons (.and (.op .eq (.var 4) (.var 2)) (.op .eq (.op .mod (.blt .int (.cons (.var 1) .nil)) (.ix (.var 0) (.int 1))) (.var 6))) .nil) (.em (.var 5))))) (.seq (.ret (.sset (.var 3))) .nil))⟩
def f__law_steps : FnD := ⟨"_law_steps", ["guard", "place"], false, true, ["guard", "place", "near", "far"],
  (.seq (.ret (.cl [2, 3] .seq (.ix (.var 0) (.int 2)) (.cons (.nm 2) (.cons (.nm 3) .nil)) (.cons (.op .eq (.var 2) (.var 1)) .nil) (.em (.var 3)))) .nil)⟩
def f__law_walks : FnD := ⟨"_law_walks", ["guard", "ticks"], false, true, ["guard", "ticks", "found", "tick", "longer", "own", "place", "far"],
  (.seq (.set 2 (.cl [6] .seq (.ix (.var 0) (.int 1)) (.nm 6) .nil (.em (.tup (.cons (.var 6) .nil))))) (.seq (.fr .rng1 (.cons (.var 1) .nil) (.nm 3) (.seq (.set 4 (.lst .nil)) (.seq (.fr .seq (.var 2) (.nm 5) (.seq (.set 4 (.op .addL (.var 4) (.cl [7] .seq (.call 41 .pure (.cons (.var 0) (.cons (.ix (.var 5) (.neg (.int 1))) .nil))) (.nm 7) .nil (.em (.op .add (.var 5) (.tup (.cons (.var 7) .nil))))))) .nil)) (.seq (.set 2 (.var 4)) .nil)))) (.seq (.ret (.blt .sorted (.cons (.var 2) .nil))) .nil)))⟩
def f__law_way : FnD := ⟨"_law_way", ["net", "guard", "thing"], false, false, ["net", "guard", "thing", "keys", "table", "far", "rest", "house", "place", "to", "number", "later", "row"],
  (.seq (.par [(3, false), (4, false)] (.cons (.cl [12] .seq (.var 2) (.nm 12) .nil (.em (.ix (.var 12) (.int 0)))) (.cons (.blt .dict (.cons (.var 2) .nil)) .nil))) (.seq (.ifs (.or (.op .ne (.var 3) (.sset (.var 3))) (.op .ne (.cl [8] .seq (.ix (.var 1) (.int 1)) (.nm 8) (.cons (.op .notin (.tup (.cons (.int 0) (.cons (.int 0) (.cons (.var 8) .nil)))) (.var 4)) .nil) (.em (.int 1))) (.lst .nil))) (.seq (.ret (.bl false)) .nil) .nil) (.seq (.fr .seq (.var 2) (.cons (.cons (.nm 6) (.cons (.nm 7) (.cons (.nm 8) .nil))) (.cons (.cons (.nm 9) (.cons (.nm 10) .nil)) .nil)) (.seq (.ifs (.or (.not (.chain .le .lt (.int 0) (.var 6) (.ix (.var 0) (.int 1)))) (.or (.op .eq (.var 7) (.op .sub (.ix (.var 0) (.int 0)) (.int 1))) (.or (.op .inn (.var 7) (.ix (.ix (.var 1) (.int 0)) (.var 8))) (.or (.op .lt (.var 10) (.int 1)) (.op .notin (.var 9) (.call 40 .pure (.cons (.var 0) (.cons (.var 6) (.cons (.var 7) .nil))))))))) (.seq (.ret (.bl false)) .nil) .nil) (.seq (.fr .seq (.call 41 .pure (.cons (.var 1) (.cons (.var 8) .nil))) (.nm 5) (.seq (.set 11 (.tup (.cons (.op .mod (.blt .int (.cons (.op .add (.var 6) (.int 1)) .nil)) (.ix (.var 0) (.int 1))) (.cons (.var 9) (.cons (.var 5) .nil))))) (.seq (.ifs (.or (.op .inn (.var 9) (.ix (.ix (.var 1) (.int 0)) (.var 5))) (.and (.op .ne (.var 9) (.op .sub (.ix (.var 0) (.int 0)) (.int 1))) (.or (.op .notin (.var 11) (.var 4)) (.op .ge (.ix (.ix (.var 4) (.var 11)) (.int 1)) (.var 10))))) (.seq (.ret (.bl false)) .nil) .nil) .nil))) .nil))) (.seq (.ret (.bl true)) .nil))))⟩
def f__law_hold : FnD := ⟨"_law_hold", ["net", "guard", "thing"], false, false, ["net", "guard", "thing", "rest", "house", "place", "to", "far"],
  (.seq (.ifs (.or (.op .ne (.blt .list (.cons (.var 2) .nil)) (.sset (.var 2))) (.op .eq (.cl [5] .seq (.ix (.var 1) (.int 1)) (.nm 5) (.cons (.op .inn (.tup (.cons (.int 0) (.cons (.int 0) (.cons (.var 5) .nil)))) (.var 2)) .nil) (.em (.int 1))) (.lst .nil))) (.seq (.ret (.bl false)) .nil) .nil) (.seq (.fr .seq (.var 2) (.cons (.nm 3) (.cons (.nm 4) (.cons (.nm 5) .nil))) (.seq (.ifs (.or (.not (.chain .le .lt (.int 0) (.var 3) (.ix (.var 0) (.int 1)))) (.or (.op .eq (.var 4) (.op .sub (.ix (.var 0) (.int 0)) (.int 1))) (.op .inn (.var 4) (.ix (.ix (.var 1) (.int 0)) (.var 5))))) (.seq (.ret (.bl false)) .nil) .nil) (.seq (.fr .seq (.call 40 .pure (.cons (.var 0) (.cons (.var 3) (.cons (.var 4) .nil)))) (.nm 6) (.seq (.ifs (.op .eq (.cl [7] .seq (.call 41 .pure (.cons (.var 1) (.cons (.var 5) .nil))) (.nm 7) (.cons (.or (.op .inn (.var 6) (.ix (.ix (.var 1) (.int 0)) (.var 7))) (.op .inn (.tup (.cons (.op .mod (.blt .int (.cons (.op .add (.var 3) (.int 1)) .nil)) (.ix (.var 0) (.int 1))) (.cons (.var 6) (.cons (.var 7) .nil)))) (.var 2))) .nil) (.em (.int 1))) (.lst .nil)) (.seq (.ret (.bl false)) .nil) .nil) .nil)) .nil))) (.seq (.ret (.bl true)) .nil)))⟩
def f_law : FnD := ⟨"law", ["script"], false, false, ["script", "urn", "net", "guard", "at", "things", "walk", "web", "soft", "ticks", "way", "hold", "latest", "most", "tick", "rest", "house", "place", "to", "number", "told", "table", "row", "part", "thing", "own"],
  (.seq (.box 1 (.call 32 .pure (.cons (.call 34 .pure (.cons (.var 0) (.cons (.int 1) .nil))) (.cons (.int 0) .nil)))) (.seq (.set 2 (.call 38 .urn (.cons (.int 5) (.cons (.int 2) .nil)))) (.seq (.set 3 (.call 39 .urn (.cons (.ix (.var 2) (.int 0)) (.cons (.int 3) .nil)))) (.seq (.par [(7, false), (8, false), (9, false)] (.cons (.call 35 .urn (.cons (.var 2) .nil)) (.cons (.call 35 .urn (.cons (.var 3) .nil)) (.cons (.call 30 .pure (.cons (.var 2) (.cons (.var 3) .nil))) .nil)))) (.seq (.par [(10, false), (11, false)] (.cons (.call 23 .pure (.cons (.var 7) (.cons (.var 8) .nil))) (.cons (.call 27 .pure (.cons (.var 7) (.cons (.var 8) .nil))) .nil))) (.seq (.ifs (.not (.call 36 .pure (.cons (.lst (.cons (.op .is (.var 10) .non) (.cons (.op .is (.var 11) .non) .nil))) (.cons (.lst (.cons (.op .is (.var 9) .non) (.cons (.op .isnot (.var 9) .non) .nil))) .nil)))) (.seq (.ret (.bl false)) .nil) .nil) (.seq (.ifs (.op .is (.var 10) .non) (.seq (.set 4 (.call 33 .urn (.cons (.blt .len (.cons (.var 11) .nil)) .nil))) (.seq (.set 5 (.lst (.cons (.var 11) (.cons (.op .add (.sl (.var 11) .no (.var 4)) (.sl (.var 11) (.op .add (.var 4) (.int 1)) .no)) (.cons (.rev (.var 11)) (.cons (.op .add (.var 11) (.tup (.cons (.tup (.cons (.int 0) (.cons (.op .sub (.ix (.var 2) (.int 0)) (.int 1)) (.cons (.int 0) .nil)))) .nil))) .nil)))))) (.seq (.ret (.call 36 .pure (.cons (.op .addL (.cl [24] .seq (.var 5) (.nm 24) .nil (.em (.call 29 .pure (.cons (.var 7) (.cons (.var 8) (.cons (.var 24) .nil)))))) (.lst (.cons (.call 26 .pure (.cons (.var 7) (.cons (.var 8) (.cons (.tup .nil) .nil)))) (.cons (.call 29 .pure (.cons (.var 7) (.cons (.var 8) (.cons (.blt .list (.cons (.var 11) .nil)) .nil)))) .nil)))) (.cons (.op .addL (.cl [24] .seq (.var 5) (.nm 24) .nil (.em (.call 44 .pure (.cons (.var 2) (.cons (.var 3) (.cons (.var 24) .nil)))))) (.lst (.cons (.bl false) (.cons (.bl false) .nil)))) .nil)))) .nil))) .nil) (.seq (.set 4 (.call 33 .urn (.cons (.blt .len (.cons (.var 10) .nil)) .nil))) (.seq (.bind (.cons (.cons (.nm 15) (.cons (.nm 16) (.cons (.nm 17) .nil))) (.cons (.cons (.nm 18) (.cons (.nm 19) .nil)) .nil)) (.ix (.var 10) (.var 4))) (.seq (.set 5 (.lst (.cons (.var 10) (.cons (.op .add (.sl (.var 10) .no (.var 4)) (.sl (.var 10) (.op .add (.var 4) (.int 1)) .no)) (.cons (.op .add (.op .add (.sl (.var 10) .no (.var 4)) (.tup (.cons (.tup (.cons (.tup (.cons (.var 15) (.cons (.var 16) (.cons (.var 17) .nil)))) (.cons (.tup (.cons (.var 18) (.cons (.op .add (.var 19) (.int 1)) .nil))) .nil))) .nil))) (.sl (.var 10) (.op .add (.var 4) (.int 1)) .no)) (.cons (.op .add (.op .add (.sl (.var 10) .no (.var 4)) (.tup (.cons (.tup (.cons (.tup (.cons (.var 15) (.cons (.var 16) (.cons (.var 17) .nil)))) (.cons (.tup (.cons (.var 16) (.cons (.var 19) .nil))) .nil))) .nil))) (.sl (.var 10) (.op .add (.var 4) (.int 1)) .no)) (.cons (.op .add (.op .add (.sl (.var 10) .no (.var 4)) (.tup (.cons (.tup (.cons (.tup (.cons (.var 15) (.cons (.var 16) (.cons (.var 17) .nil)))) (.cons (.tup (.cons (.var 18) (.cons (.int 1) .nil))) .nil))) .nil))) (.sl (.var 10) (.op .add (.var 4) (.int 1)) .no)) (.cons (.rev (.var 10)) .nil)))))))) (.seq (.ifs (.not (.call 36 .pure (.cons (.op .addL (.cl [24] .seq (.var 5) (.nm 24) .nil (.em (.call 26 .pure (.cons (.var 7) (.cons (.var 8) (.cons (.var 24) .nil)))))) (.lst (.cons (.call 29 .pure (.cons (.var 7) (.cons (.var 8) (.cons (.tup .nil) .nil)))) (.cons (.call 26 .pure (.cons (.var 7) (.cons (.var 8) (.cons (.blt .list (.cons (.var 10) .nil)) .nil)))) .nil)))) (.cons (.op .addL (.cl [24] .seq (.var 5) (.nm 24) .nil (.em (.call 43 .pure (.cons (.var 2) (.cons (.var 3) (.cons (.var 24) .nil)))))) (.lst (.cons (.bl false) (.cons (.bl false) .nil)))) .nil)))) (.seq (.ret (.bl false)) .nil) .nil) (.seq (.par [(12, false), (13, false)] (.cons (.int 0) (.cons (.blt .min2 (.cons (.var 9) (.cons (.int 6) .nil))) .nil))) (.seq (.fr .seq (.sl (.call 42 .pure (.cons (.var 3) (.cons (.var 13) .nil))) .no (.int 200)) (.nm 6) (.seq (.par [(20, false), (21, false)] (.cons (.call 31 .pure (.cons (.var 7) (.cons (.call 35 .urn (.cons (.var 10) .nil)) (.cons (.call 35 .urn (.cons (.var 6) .nil)) .nil)))) (.cons (.blt .dict (.cons (.var 10) .nil)) .nil))) (.seq (.bind (.cons (.nm 16) (.cons (.nm 22) .nil)) (.tup (.cons (.int 0) (.cons (.tup (.cons (.int 0) .nil)) .nil)))) (.seq (.fr .rng1 (.cons (.var 13) .nil) (.nm 14) (.seq (.ifs (.op .ne (.var 16) (.op .sub (.ix (.var 2) (.int 0)) (.int 1))) (.seq (.set 16 (.ix (.ix (.var 21) (.tup (.cons (.op .mod (.blt .int (.cons (.var 14) .nil)) (.ix (.var 2) (.int 1))) (.cons (.var 16) (.cons (.ix (.var 6) (.var 14)) .nil))))) (.int 0))) (.seq (.set 22 (.op .add (.var 22) (.tup (.cons (.var 16) .nil)))) .nil)) .nil) .nil)) (.seq (.ifs (.or (.not (.call 36 .pure (.cons (.var 20) (.cons (.var 22) .nil)))) (.op .ne (.cl [14, 25] .enum (.cons (.var 22) .nil) (.cons (.nm 14) (.cons (.nm 25) .nil)) (.cons (.op .inn (.var 25) (.ix (.ix (.var 3) (.int 0)) (.ix (.var 6) (.var 14)))) .nil) (.em (.int 1))) (.lst .nil))) (.seq (.ret (.bl false)) .nil) .nil) (.seq (.ifs (.and (.op .le (.var 9) (.int 6)) (.op .ne (.ix (.var 22) (.neg (.int 1))) (.op .sub (.ix (.var 2) (.int 0)) (.int 1)))) (.seq (.ret (.bl false)) .nil) .nil) (.seq (.set 12 (.blt .max (.cons (.var 12) (.cons (.op .sub (.blt .len (.cons (.var 22) .nil)) (.int 1)) .nil)))) (.seq (.ifs (.op .eq (.ix (.var 22) (.neg (.int 1))) (.op .sub (.ix (.var 2) (.int 0)) (.int 1))) (.seq (.set 23 (.sl (.var 6) .no (.blt .len (.cons (.var 22) .nil)))) (.seq (.ifs (.not (.call 36 .pure (.cons (.lst (.cons (.call 9 .pure (.cons (.var 2) (.cons (.op .sub (.blt .len (.cons (.var 22) .nil)) (.int 1)) (.cons (.var 22) .nil)))) (.cons (.call 13 .pure (.cons (.var 8) (.cons (.var 23) (.cons (.var 22) .nil)))) (.cons (.op .isnot (.call 16 .pure (.cons (.var 7) (.cons (.var 8) (.cons (.tup (.cons (.var 23) .nil)) .nil)))) .non) .nil)))) (.cons (.lst (.cons (.bl true) (.cons (.bl false) (.cons (.bl true) .nil)))) .nil)))) (.seq (.ret (.bl false)) .nil) .nil) .nil)) .nil) .nil)))))))) (.seq (.set 6 (.call 37 .urn (.cons (.call 42 .pure (.cons (.var 3) (.cons (.int 1) .nil))) .nil))) (.seq (.ret (.and (.op .eq (.blt .len (.cons (.call 31 .pure (.cons (.var 7) (.cons (.var 10) (.cons (.var 6) .nil)))) .nil)) (.int 2)) (.and (.op .eq (.call 31 .pure (.cons (.var 7) (.cons (.var 10) (.cons (.sl (.var 6) .no (.int 1)) .nil)))) (.tup (.cons (.int 0) .nil))) (.or (.op .gt (.var 9) (.int 6)) (.or (.op .gt (.blt .len (.cons (.call 42 .pure (.cons (.var 3) (.cons (.var 13) .nil))) .nil)) (.int 200)) (.op .eq (.var 12) (.var 9))))))) .nil)))))))))))))))⟩
abbrev ix_tupled : Nat := 0
abbrev ix_is_number : Nat := 1
abbrev ix_is_from : Nat := 2
abbrev ix_is_below : Nat := 3
abbrev ix_is_tuple_of : Nat := 4
abbrev ix_is_rising : Nat := 5
abbrev ix_set_of : Nat := 6
abbrev ix_goes : Nat := 7
abbrev ix_goes_on : Nat := 8
abbrev ix_is_route : Nat := 9
abbrev ix_lots_held : Nat := 10
abbrev ix_held : Nat := 11
abbrev ix_is_past : Nat := 12
abbrev ix_meets : Nat := 13
abbrev ix_ways_past : Nat := 14
abbrev ix_least_past : Nat := 15
abbrev ix_a_route_past : Nat := 16
abbrev ix_is_standing : Nat := 17
abbrev ix_begun : Nat := 18
abbrev ix_all_standings : Nat := 19
abbrev ix_behind : Nat := 20
abbrev ix_best_move : Nat := 21
abbrev ix_won_from : Nat := 22
abbrev ix_a_way : Nat := 23
abbrev ix_is_row : Nat := 24
abbrev ix_goes_down : Nat := 25
abbrev ix_is_way : Nat := 26
abbrev ix_a_hold : Nat := 27
abbrev ix_is_kept : Nat := 28
abbrev ix_is_hold : Nat := 29
abbrev ix_seen_ticks : Nat := 30
abbrev ix_led : Nat := 31
abbrev ix__law_box : Nat := 32
abbrev ix__law_take : Nat := 33
abbrev ix__law_cells : Nat := 34
abbrev ix__law_mixed : Nat := 35
abbrev ix__law_same : Nat := 36
abbrev ix__law_of : Nat := 37
abbrev ix__law_net : Nat := 38
abbrev ix__law_guard : Nat := 39
abbrev ix__law_goes : Nat := 40
abbrev ix__law_steps : Nat := 41
abbrev ix__law_walks : Nat := 42
abbrev ix__law_way : Nat := 43
abbrev ix__law_hold : Nat := 44
abbrev ix_law : Nat := 45
def fns : List FnD := [f_tupled, f_is_number, f_is_from, f_is_below, f_is_tuple_of, f_is_rising, f_set_of, f_goes, f_goes_on, f_is_route, f_lots_held, f_held, f_is_past, f_meets, f_ways_past, f_least_past, f_a_route_past, f_is_standing, f_begun, f_all_standings, f_behind, f_best_move, f_won_from, f_a_way, f_is_row, f_goes_down, f_is_way, f_a_hold, f_is_kept, f_is_hold, f_seen_ticks, f_led, f__law_box, f__law_take, f__law_cells, f__law_mixed, f__law_same, f__law_of, f__law_net, f__law_guard, f__law_goes, f__law_steps, f__law_walks, f__law_way, f__law_hold, f_law]
def free : List Str := ["len", "range", "tuple", "list", "sorted", "set", "sum", "all", "any", "max", "min", "abs", "int", "isinstance", "zip", "enumerate", "dict", "bool", "str"]
theorem c_tupled : chkFn fns free f_tupled (defBody (Hd.top 1)) (defScope (Hd.top 1)) = true := by decide +kernel
theorem c_is_number : chkFn fns free f_is_number (defBody (Hd.top 2)) (defScope (Hd.top 2)) = true := by decide +kernel
theorem c_is_from : chkFn fns free f_is_from (defBody (Hd.top 3)) (defScope (Hd.top 3)) = true := by decide +kernel
theorem c_is_below : chkFn fns free f_is_below (defBody (Hd.top 4)) (defScope (Hd.top 4)) = true := by decide +kernel
theorem c_is_tuple_of : chkFn fns free f_is_tuple_of (defBody (Hd.top 5)) (defScope (Hd.top 5)) = true := by decide +kernel
theorem c_is_rising : chkFn fns free f_is_rising (defBody (Hd.top 6)) (defScope (Hd.top 6)) = true := by decide +kernel
theorem c_set_of : chkFn fns free f_set_of (defBody (Hd.top 7)) (defScope (Hd.top 7)) = true := by decide +kernel
theorem c_goes : chkFn fns free f_goes (defBody (Hd.top 11)) (defScope (Hd.top 11)) = true := by decide +kernel
theorem c_goes_on : chkFn fns free f_goes_on (defBody (Hd.top 13)) (defScope (Hd.top 13)) = true := by decide +kernel
theorem c_is_route : chkFn fns free f_is_route (defBody (Hd.top 14)) (defScope (Hd.top 14)) = true := by decide +kernel
theorem c_lots_held : chkFn fns free f_lots_held (defBody (Hd.top 16)) (defScope (Hd.top 16)) = true := by decide +kernel
theorem c_held : chkFn fns free f_held (defBody (Hd.top 17)) (defScope (Hd.top 17)) = true := by decide +kernel
theorem c_is_past : chkFn fns free f_is_past (defBody (Hd.top 18)) (defScope (Hd.top 18)) = true := by decide +kernel
theorem c_meets : chkFn fns free f_meets (defBody (Hd.top 19)) (defScope (Hd.top 19)) = true := by decide +kernel
theorem c_ways_past : chkFn fns free f_ways_past (defBody (Hd.top 20)) (defScope (Hd.top 20)) = true := by decide +kernel
theorem c_least_past : chkFn fns free f_least_past (defBody (Hd.top 21)) (defScope (Hd.top 21)) = true := by decide +kernel
theorem c_a_route_past : chkFn fns free f_a_route_past (defBody (Hd.top 22)) (defScope (Hd.top 22)) = true := by decide +kernel
theorem c_is_standing : chkFn fns free f_is_standing (defBody (Hd.top 24)) (defScope (Hd.top 24)) = true := by decide +kernel
theorem c_begun : chkFn fns free f_begun (defBody (Hd.top 25)) (defScope (Hd.top 25)) = true := by decide +kernel
theorem c_all_standings : chkFn fns free f_all_standings (defBody (Hd.top 26)) (defScope (Hd.top 26)) = true := by decide +kernel
theorem c_behind : chkFn fns free f_behind (defBody (Hd.top 27)) (defScope (Hd.top 27)) = true := by decide +kernel
theorem c_best_move : chkFn fns free f_best_move (defBody (Hd.top 28)) (defScope (Hd.top 28)) = true := by decide +kernel
theorem c_won_from : chkFn fns free f_won_from (defBody (Hd.top 29)) (defScope (Hd.top 29)) = true := by decide +kernel
theorem c_a_way : chkFn fns free f_a_way (defBody (Hd.top 30)) (defScope (Hd.top 30)) = true := by decide +kernel
theorem c_is_row : chkFn fns free f_is_row (defBody (Hd.top 31)) (defScope (Hd.top 31)) = true := by decide +kernel
theorem c_goes_down : chkFn fns free f_goes_down (defBody (Hd.top 32)) (defScope (Hd.top 32)) = true := by decide +kernel
theorem c_is_way : chkFn fns free f_is_way (defBody (Hd.top 33)) (defScope (Hd.top 33)) = true := by decide +kernel
theorem c_a_hold : chkFn fns free f_a_hold (defBody (Hd.top 34)) (defScope (Hd.top 34)) = true := by decide +kernel
theorem c_is_kept : chkFn fns free f_is_kept (defBody (Hd.top 35)) (defScope (Hd.top 35)) = true := by decide +kernel
theorem c_is_hold : chkFn fns free f_is_hold (defBody (Hd.top 36)) (defScope (Hd.top 36)) = true := by decide +kernel
theorem c_seen_ticks : chkFn fns free f_seen_ticks (defBody (Hd.top 37)) (defScope (Hd.top 37)) = true := by decide +kernel
theorem c_led : chkFn fns free f_led (defBody (Hd.top 38)) (defScope (Hd.top 38)) = true := by decide +kernel
theorem c__law_box : chkFn fns free f__law_box (defBody (Hd.top 40)) (defScope (Hd.top 40)) = true := by decide +kernel
theorem c__law_take : chkFn fns free f__law_take (defBody (Hd.top 41)) (defScope (Hd.top 41)) = true := by decide +kernel
theorem c__law_cells : chkFn fns free f__law_cells (defBody (Hd.top 42)) (defScope (Hd.top 42)) = true := by decide +kernel
theorem c__law_mixed : chkFn fns free f__law_mixed (defBody (Hd.top 43)) (defScope (Hd.top 43)) = true := by decide +kernel
theorem c__law_same : chkFn fns free f__law_same (defBody (Hd.top 44)) (defScope (Hd.top 44)) = true := by decide +kernel
theorem c__law_of : chkFn fns free f__law_of (defBody (Hd.top 45)) (defScope (Hd.top 45)) = true := by decide +kernel
theorem c__law_net : chkFn fns free f__law_net (defBody (Hd.top 46)) (defScope (Hd.top 46)) = true := by decide +kernel
theorem c__law_guard : chkFn fns free f__law_guard (defBody (Hd.top 47)) (defScope (Hd.top 47)) = true := by decide +kernel
theorem c__law_goes : chkFn fns free f__law_goes (defBody (Hd.top 48)) (defScope (Hd.top 48)) = true := by decide +kernel
theorem c__law_steps : chkFn fns free f__law_steps (defBody (Hd.top 49)) (defScope (Hd.top 49)) = true := by decide +kernel
theorem c__law_walks : chkFn fns free f__law_walks (defBody (Hd.top 50)) (defScope (Hd.top 50)) = true := by decide +kernel
theorem c__law_way : chkFn fns free f__law_way (defBody (Hd.top 51)) (defScope (Hd.top 51)) = true := by decide +kernel
theorem c__law_hold : chkFn fns free f__law_hold (defBody (Hd.top 52)) (defScope (Hd.top 52)) = true := by decide +kernel
theorem c_law : chkFn fns free f_law (defBody (Hd.top 53)) (defScope (Hd.top 53)) = true := by decide +kernel
end Pg

end
section
set_option Elab.async false
set_option linter.all false
set_option autoImplicit false
set_option maxRecDepth 100000
set_option maxHeartbeats 400000
/-! plain rules of the evaluator: one step each -/
namespace DN
open PySem L2 DL
variable {fe : Nat → List D → M D} {N : Nat} {ρ ρ1 ρ2 ρ' : DL.Env} {u u1 u2 u3 u' : List Int}
@[irreducible] def Ev (fe : Nat → List D → M D) (e : E) (ρ : DL.Env) (u : List Int) (d : D) (u' : List Int) : Prop := ev fe e ρ u = some (d, u')
def Sv (fe : Nat → List D → M D) (N : Nat) (s : S) (ρ : DL.Env) (u : List Int) (r : R) (u' : List Int) : Prop := evS fe N s ρ u = some (r, u')
theorem ev_out {e : E} {d : D} (h : Ev fe e ρ u d u') : ev fe e ρ u = some (d, u') := by unfold Ev at h; exact h
theorem ev_in {e : E} {d : D} (h : ev fe e ρ u = some (d, u')) : Ev fe e ρ u d u' := by unfold Ev; exact h
theorem bd_eq {α β : Type} {m : M α} {f : α → M β} {a : α} (h : m u = some (a, u1)) : bd m f u = f a u1 := by
  unfold bd; rw [h]
theorem lf_eq {α : Type} {o : Option α} {a : α} (h : o = some a) : lf o u = some (a, u) := by rw [h]; rfl
theorem bl_eq {α β : Type} {o : Option α} {f : α → M β} {a : α} (h : o = some a) : bd (lf o) f u = f a u := by rw [h]; rfl
theorem ev_var {i : Nat} {d : D} (h : (ρ[i]?.bind id) = some d) : Ev fe (.var i) ρ u d u := by unfold Ev; exact lf_eq h
theorem ev_own {i : Nat} {d : D} (h : (ρ[i]?.bind id) = some d) : Ev fe (.own i) ρ u d u := by unfold Ev; exact lf_eq h
theorem ev_int {n : Int} : Ev fe (.int n) ρ u (.int n) u := by unfold Ev; rfl
theorem ev_bl {n : Bool} : Ev fe (.bl n) ρ u (.bool n) u := by unfold Ev; rfl
theorem ev_non : Ev fe .non ρ u .none u := by unfold Ev; rfl
theorem ev_no : Ev fe .no ρ u .none u := by unfold Ev; rfl
theorem ev_str {x : Str} : Ev fe (.str x) ρ u (.str x) u := by unfold Ev; rfl
theorem ev_dict0 : Ev fe .dict0 ρ u (.dict []) u := by unfold Ev; rfl
theorem ev_op {o : O2} {a b : E} {x y z : D} (h1 : Ev fe a ρ u x u1) (h2 : Ev fe b ρ u1 y u2) (h3 : o2 o x y = some z) : Ev fe (.op o a b) ρ u z u2 := by
  unfold Ev at *; rw [ev, bd_eq h1, bd_eq h2, h3]; rfl
theorem ev_chain {o p : O2} {a b c : E} {x y w : D} {k l : Bool} (h1 : Ev fe a ρ u x u1) (h2 : Ev fe b ρ u1 y u2) (h3 : o2 o x y = some (.bool k)) (h4 : Ev fe c ρ u2 w u2) (h5 : o2 p y w = some (.bool l)) : Ev fe (.chain o p a b c) ρ u (.bool (k && l)) u2 := by
  unfold Ev at *; rw [ev, bd_eq h1, bd_eq h2, h3]
  cases k with
  | true => show bd (ev fe c ρ) _ u2 = _; rw [bd_eq h4, h5]; rfl
  | false => rfl
theorem ev_not {a : E} {x : D} {t : Bool} (h1 : Ev fe a ρ u x u1) (h2 : truD x = some t) : Ev fe (.not a) ρ u (.bool (!t)) u1 := by
  unfold Ev at *; rw [ev, bd_eq h1, truM, h2]; rfl
theorem ev_neg {a : E} {i : Int} (h1 : Ev fe a ρ u (.int i) u1) : Ev fe (.neg a) ρ u (.int (-i)) u1 := by
  unfold Ev at *; rw [ev, bd_eq h1]; rfl
/-- and: both truth values, the second draws nothing -/
theorem ev_and {a b : E} {p q : Bool} (h1 : Ev fe a ρ u (.bool p) u1) (h2 : p = true → Ev fe b ρ u1 (.bool q) u1) : Ev fe (.and a b) ρ u (.bool (p && q)) u1 := by
  unfold Ev at *; rw [ev, bd_eq h1]
  cases p with
  | true => exact h2 rfl
  | false => rfl
theorem ev_or {a b : E} {p q : Bool} (h1 : Ev fe a ρ u (.bool p) u1) (h2 : p = false → Ev fe b ρ u1 (.bool q) u1) : Ev fe (.or a b) ρ u (.bool (p || q)) u1 := by
  unfold Ev at *; rw [ev, bd_eq h1]
  cases p with
  | true => rfl
  | false => exact h2 rfl
theorem ev_and_t {a b : E} {x y : D} (h1 : Ev fe a ρ u x u1) (ht : truD x = some true) (h2 : Ev fe b ρ u1 y u2) : Ev fe (.and a b) ρ u y u2 := by
  unfold Ev at *; rw [ev, bd_eq h1, truM, ht]; exact h2
theorem ev_and_f {a b : E} {x : D} (h1 : Ev fe a ρ u x u1) (ht : truD x = some false) : Ev fe (.and a b) ρ u x u1 := by
  unfold Ev at *; rw [ev, bd_eq h1, truM, ht]; rfl
theorem ev_or_t {a b : E} {x : D} (h1 : Ev fe a ρ u x u1) (ht : truD x = some true) : Ev fe (.or a b) ρ u x u1 := by
  unfold Ev at *; rw [ev, bd_eq h1, truM, ht]; rfl
theorem ev_or_f {a b : E} {x y : D} (h1 : Ev fe a ρ u x u1) (ht : truD x = some false) (h2 : Ev fe b ρ u1 y u2) : Ev fe (.or a b) ρ u y u2 := by
  unfold Ev at *; rw [ev, bd_eq h1, truM, ht]; exact h2
theorem ev_ifx {c a b : E} {z x y : D} {p : Bool} (h1 : Ev fe c ρ u z u1) (ht : truD z = some p) (h2 : p = true → Ev fe a ρ u1 x u1) (h3 : p = false → Ev fe b ρ u1 y u1) : Ev fe (.ifx c a b) ρ u (if p = true then x else y) u1 := by
  unfold Ev at *; rw [ev, bd_eq h1, truM, ht]
  cases p with
  | true => exact h2 rfl
  | false => exact h3 rfl
theorem ev_ifx_t {c a b : E} {z x : D} (h1 : Ev fe c ρ u z u1) (ht : truD z = some true) (h2 : Ev fe a ρ u1 x u2) : Ev fe (.ifx c a b) ρ u x u2 := by
  unfold Ev at *; rw [ev, bd_eq h1, truM, ht]; exact h2
theorem ev_ifx_f {c a b : E} {z x : D} (h1 : Ev fe c ρ u z u1) (ht : truD z = some false) (h2 : Ev fe b ρ u1 x u2) : Ev fe (.ifx c a b) ρ u x u2 := by
  unfold Ev at *; rw [ev, bd_eq h1, truM, ht]; exact h2
theorem ev_nil : Ev fe .nil ρ u (.list []) u := by unfold Ev; rfl
theorem ev_cons {a r : E} {x : D} {ds : List D} (h1 : Ev fe a ρ u x u1) (h2 : Ev fe r ρ u1 (.list ds) u2) : Ev fe (.cons a r) ρ u (.list (x :: ds)) u2 := by
  unfold Ev at *; rw [ev, bd_eq h1, bd_eq h2]; rfl
theorem ev_star {a r : E} {x : D} {xs ds : List D} (h1 : Ev fe a ρ u x u1) (hx : seqD x = some xs) (h2 : Ev fe r ρ u1 (.list ds) u2) : Ev fe (.star a r) ρ u (.list (xs ++ ds)) u2 := by
  unfold Ev at *; rw [ev, bd_eq h1, hx]; show bd (ev fe r ρ) _ u1 = _; rw [bd_eq h2]; rfl
theorem ev_tup {es : E} {ds : List D} (h1 : Ev fe es ρ u (.list ds) u1) (hf : fits ds.length = true) : Ev fe (.tup es) ρ u (.tuple ds) u1 := by
  unfold Ev at *; rw [ev, bd_eq h1]; show (bd (rt ds) _ : M D) u1 = _
  show (if fits ds.length = true then rt (PyData.tuple ds) else fl) u1 = _
  rw [if_pos hf]; rfl
theorem ev_lst {es : E} {ds : List D} (h1 : Ev fe es ρ u (.list ds) u1) (hf : fits ds.length = true) : Ev fe (.lst es) ρ u (.list ds) u1 := by
  unfold Ev at *; rw [ev, bd_eq h1]; show (bd (rt ds) _ : M D) u1 = _
  show (if fits ds.length = true then rt (PyData.list ds) else fl) u1 = _
  rw [if_pos hf]; rfl
theorem ev_call {f : Nat} {es : E} {ds : List D} {d : D} (h1 : Ev fe es ρ u (.list ds) u1) (h2 : fe f ds = rt d) : Ev fe (.call f .pure es) ρ u d u1 := by
  unfold Ev at *; rw [ev, bd_eq h1]; show bd (fe f ds) _ u1 = _; rw [h2]; rfl
theorem ev_callB {f : Nat} {es : E} {ds : List D} {d : D} (h1 : Ev fe es ρ u (.list ds) u1) (h2 : fe f ds = rt d) (hi : imm d = true) : Ev fe (.call f .bor es) ρ u d u1 := by
  unfold Ev at *; rw [ev, bd_eq h1]; show bd (fe f ds) _ u1 = _; rw [h2]; show (if CM.bor = CM.bor then (if imm d = true then rt d else fl) else rt d) u1 = _; rw [if_pos rfl, if_pos hi]; rfl
theorem ev_callU {f : Nat} {es : E} {ds : List D} {d : D} {m : CM} (hm : m ≠ .bor) (h1 : Ev fe es ρ u (.list ds) u1) (h2 : fe f ds u1 = some (d, u2)) : Ev fe (.call f m es) ρ u d u2 := by
  unfold Ev at *; rw [ev, bd_eq h1]; show bd (fe f ds) _ u1 = _; rw [bd_eq h2, if_neg hm]; rfl
theorem ev_blt {b : Blt} {es : E} {ds : List D} {d : D} (h1 : Ev fe es ρ u (.list ds) u1) (h2 : b.fn ds = some d) : Ev fe (.blt b es) ρ u d u1 := by
  unfold Ev at *; rw [ev, bd_eq h1]; show lf (b.fn ds) u1 = _; rw [h2]; rfl
theorem ev_isi {cs : List Ty} {a : E} {x d : D} (h1 : Ev fe a ρ u x u1) (h2 : isiD cs x = some d) : Ev fe (.isi cs a) ρ u d u1 := by
  unfold Ev at *; rw [ev, bd_eq h1, h2]; rfl
theorem ev_sset {a : E} {x d : D} (h1 : Ev fe a ρ u x u1) (h2 : ssetD x = some d) : Ev fe (.sset a) ρ u d u1 := by
  unfold Ev at *; rw [ev, bd_eq h1, h2]; rfl
theorem ev_sitems {a : E} {x d : D} (h1 : Ev fe a ρ u x u1) (h2 : sitemsD x = some d) : Ev fe (.sitems a) ρ u d u1 := by
  unfold Ev at *; rw [ev, bd_eq h1, h2]; rfl
theorem ev_rev {a : E} {x d : D} (h1 : Ev fe a ρ u x u1) (h2 : revD x = some d) : Ev fe (.rev a) ρ u d u1 := by
  unfold Ev at *; rw [ev, bd_eq h1, h2]; rfl
theorem ev_ix {a b : E} {x y d : D} (h1 : Ev fe a ρ u x u1) (h2 : Ev fe b ρ u1 y u2) (h3 : subD x y = some d) : Ev fe (.ix a b) ρ u d u2 := by
  unfold Ev at *; rw [ev, bd_eq h1, bd_eq h2, h3]; rfl
theorem ev_sl {a lo hi : E} {x l h d : D} {l' h' : Option Int} (h1 : Ev fe a ρ u x u1) (h2 : Ev fe lo ρ u1 l u1) (h3 : Ev fe hi ρ u1 h u1) (e1 : partD lo l = some l') (e2 : partD hi h = some h') (h4 : sliceD l' h' x = some d) : Ev fe (.sl a lo hi) ρ u d u1 := by
  unfold Ev at *; rw [ev, bd_eq h1, bd_eq h2, bd_eq h3, e1]; show lf ((partD hi h).bind _) u1 = _; rw [e2]; show lf (sliceD l' h' x) u1 = _; rw [h4]; rfl
theorem ev_urn {j : Nat} {i : Int} (h : u[j]? = some i) : Ev fe (.urn j) ρ u (.int i) u := by
  unfold Ev; rw [ev]; show (match u[j]? with | some i => some (PyData.int i, u) | none => none) = _; rw [h]
theorem ev_em {e : E} {d : D} (h : Ev fe e ρ u d u1) : Ev fe (.em e) ρ u (.list [d]) u1 := by
  unfold Ev at *; rw [ev, bd_eq h]; rfl

/-! comprehensions -/
noncomputable def cbody (fe : Nat → List D → M D) (vs : List Nat) (t : Tg) (ifs rest : E) (ρ : DL.Env) (d : D) : M (List D) := bd (lf (bindD t d (wipeD ρ vs))) fun ρ1 => bd (ev fe ifs ρ1) fun y => bd (unl y) fun bs => match bs with
      | [] => bd (ev fe rest ρ1) unl
      | b :: _ => bd (truM b) fun k => if k then bd (ev fe rest ρ1) unl else rt []
theorem ev_cl_eq {vs : List Nat} {k : Src} {s : E} {t : Tg} {ifs rest : E} : ev fe (.cl vs k s t ifs rest) ρ = bd (ev fe s ρ) fun x => bd (lf (srcD k x)) fun ds => bd (goC (cbody fe vs t ifs rest ρ) ds) fun xs => if fits xs.length then rt (.list xs) else fl := by
  rw [ev]; rfl
def Cb (fe : Nat → List D → M D) (vs : List Nat) (t : Tg) (ifs rest : E) (ρ : DL.Env) (d : D) (u : List Int) (ys : List D) (u' : List Int) : Prop := cbody fe vs t ifs rest ρ d u = some (ys, u')
theorem cb_no {vs : List Nat} {t : Tg} {rest : E} {d : D} {ys : List D} (h1 : bindD t d (wipeD ρ vs) = some ρ1) (h2 : Ev fe rest ρ1 u (.list ys) u1) : Cb fe vs t .nil rest ρ d u ys u1 := by
  unfold Cb cbody; rw [bl_eq h1]; show bd (ev fe .nil ρ1) _ u = _; rw [ev]; show bd (ev fe rest ρ1) unl u = _; rw [bd_eq (ev_out h2)]; rfl
theorem cb_if {vs : List Nat} {t : Tg} {b rest : E} {d z : D} {ys : List D} {p : Bool} (h1 : bindD t d (wipeD ρ vs) = some ρ1) (h2 : Ev fe b ρ1 u z u) (h3 : truD z = some p) (h4 : p = true → Ev fe rest ρ1 u (.list ys) u) : Cb fe vs t (.cons b .nil) rest ρ d u (if p = true then ys else []) u := by
  have e := ev_cons h2 (ev_nil (fe := fe) (ρ := ρ1) (u := u))
  unfold Ev at e
  unfold Cb cbody; rw [bl_eq h1]; show bd (ev fe (.cons b .nil) ρ1) _ u = _; rw [bd_eq e]; show bd (lf (truD z)) _ u = _; rw [bl_eq h3]
  cases p with
  | true => show bd (ev fe rest ρ1) unl u = _; rw [bd_eq (ev_out (h4 rfl))]; rfl
  | false => rfl
theorem goC_pure {α : Type} {f : D → M (List D)} {enc : α → D} {g : α → List D} : ∀ {xs : List α}, (∀ x ∈ xs, f (enc x) u = some (g x, u)) → goC f (xs.map enc) u = some (xs.flatMap g, u)
  | [], _ => rfl
  | x :: xs, h => by
    rw [List.map_cons]
    unfold goC
    rw [bd_eq (h x List.mem_cons_self), bd_eq (goC_pure fun y hy => h y (List.mem_cons_of_mem _ hy))]
    rfl
theorem fits_of {n : Nat} (h : n ≤ 16777216) : fits n = true := decide_eq_true h
theorem ev_cl {α : Type} {enc : α → D} {xs : List α} {g : α → List D} {vs : List Nat} {k : Src} {s : E} {t : Tg} {ifs rest : E} {x : D} (hs : Ev fe s ρ u x u1) (hk : srcD k x = some (xs.map enc)) (hb : ∀ a ∈ xs, Cb fe vs t ifs rest ρ (enc a) u1 (g a) u1) (hf : (xs.flatMap g).length ≤ 16777216) : Ev fe (.cl vs k s t ifs rest) ρ u (.list (xs.flatMap g)) u1 := by
  unfold Ev; rw [ev_cl_eq, bd_eq (ev_out hs), hk]; show bd (goC _ _) _ u1 = _; rw [bd_eq (goC_pure hb)]
  show (if fits (xs.flatMap g).length = true then rt (PyData.list _) else fl) u1 = _
  rw [if_pos (fits_of hf)]; rfl
theorem fm_one {α β : Type} (f : α → β) (xs : List α) : xs.flatMap (fun x => [f x]) = xs.map f := by
  induction xs with
  | nil => rfl
  | cons x xs ih => rw [List.flatMap_cons, ih]; rfl
theorem fm_filter {α β : Type} (p : α → Bool) (f : α → β) (xs : List α) : xs.flatMap (fun x => if p x = true then [f x] else []) = (xs.filter p).map f := by
  induction xs with
  | nil => rfl
  | cons x xs ih =>
    rw [List.flatMap_cons, ih, List.filter_cons]
    split <;> rfl
/-- [e for t in s] -/
theorem ev_map {α : Type} {enc f : α → D} {xs : List α} {vs : List Nat} {k : Src} {s : E} {t : Tg} {e : E} {x : D} {ρ1 : α → DL.Env} (hs : Ev fe s ρ u x u1) (hk : srcD k x = some (xs.map enc)) (hf : xs.length ≤ 16777216) (hb : ∀ a ∈ xs, bindD t (enc a) (wipeD ρ vs) = some (ρ1 a) ∧ Ev fe e (ρ1 a) u1 (f a) u1) : Ev fe (.cl vs k s t .nil (.em e)) ρ u (.list (xs.map f)) u1 := by
  rw [← fm_one f]
  exact ev_cl hs hk (fun a ha => cb_no (hb a ha).1 (ev_em (hb a ha).2)) (by rw [fm_one, List.length_map]; exact hf)
/-- [e for t in s if b] -/
theorem ev_filter {α : Type} {enc f : α → D} {xs : List α} {p : α → Bool} {vs : List Nat} {k : Src} {s : E} {t : Tg} {b e : E} {x : D} {ρ1 : α → DL.Env} {z : α → D} (hs : Ev fe s ρ u x u1) (hk : srcD k x = some (xs.map enc)) (hf : xs.length ≤ 16777216) (hb : ∀ a ∈ xs, bindD t (enc a) (wipeD ρ vs) = some (ρ1 a) ∧ Ev fe b (ρ1 a) u1 (z a) u1 ∧ truD (z a) = some (p a) ∧ (p a = true → Ev fe e (ρ1 a) u1 (f a) u1)) : Ev fe (.cl vs k s t (.cons b .nil) (.em e)) ρ u (.list ((xs.filter p).map f)) u1 := by
  rw [← fm_filter p f]
  refine ev_cl hs hk (fun a ha => ?_) (by rw [fm_filter, List.length_map]; exact Nat.le_trans (List.length_filter_le _ _) hf)
  obtain ⟨h1, h2, h3, h4⟩ := hb a ha
  exact cb_if h1 h2 h3 fun h => ev_em (h4 h)

/-! statements -/
theorem sv_nil : Sv fe N .nil ρ u (.nx ρ) u := rfl
theorem sv_seq {s r : S} {o : R} (h1 : Sv fe N s ρ u (.nx ρ1) u1) (h2 : Sv fe N r ρ1 u1 o u2) : Sv fe N (.seq s r) ρ u o u2 := by
  unfold Sv at *; rw [evS, bd_eq h1]; exact h2
theorem sv_seq_rt {s r : S} {d : D} (h1 : Sv fe N s ρ u (.rt d) u1) : Sv fe N (.seq s r) ρ u (.rt d) u1 := by
  unfold Sv at *; rw [evS, bd_eq h1]; rfl
theorem sv_seq_ct {s r : S} (h1 : Sv fe N s ρ u (.ct ρ1) u1) : Sv fe N (.seq s r) ρ u (.ct ρ1) u1 := by
  unfold Sv at *; rw [evS, bd_eq h1]; rfl
theorem sv_seq_bk {s r : S} (h1 : Sv fe N s ρ u (.bk ρ1) u1) : Sv fe N (.seq s r) ρ u (.bk ρ1) u1 := by
  unfold Sv at *; rw [evS, bd_eq h1]; rfl
theorem sv_set {i : Nat} {e : E} {d : D} (h1 : Ev fe e ρ u d u1) : Sv fe N (.set i e) ρ u (.nx (ρ.set i (some d))) u1 := by
  unfold Sv Ev at *; rw [evS, bd_eq h1]; rfl
theorem sv_own {i : Nat} {e : E} {d : D} (h1 : Ev fe e ρ u d u1) : Sv fe N (.own i e) ρ u (.nx (ρ.set i (some d))) u1 := by
  unfold Sv Ev at *; rw [evS, bd_eq h1]; rfl
theorem sv_box {i : Nat} {e : E} {d : D} {v : List Int} (h1 : Ev fe e ρ u d u1) (h2 : intsL d = some v) : Sv fe N (.box i e) ρ u (.nx (ρ.set i none)) v := by
  unfold Sv Ev at *; rw [evS, bd_eq h1, h2]; rfl
theorem sv_bind {t : Tg} {e : E} {d : D} (h1 : Ev fe e ρ u d u1) (h2 : bindD t d ρ = some ρ1) : Sv fe N (.bind t e) ρ u (.nx ρ1) u1 := by
  unfold Sv Ev at *; rw [evS, bd_eq h1, h2]; rfl
theorem sv_par {is : List (Nat × Bool)} {es : E} {ds : List D} (h1 : Ev fe es ρ u (.list ds) u1) (h2 : setAll (is.map (·.1)) ds ρ = some ρ1) : Sv fe N (.par is es) ρ u (.nx ρ1) u1 := by
  unfold Sv Ev at *; rw [evS, bd_eq h1]; show bd (lf (setAll (is.map (·.1)) ds ρ)) _ u1 = _; rw [h2]; rfl
theorem sv_free {i : Nat} : Sv fe N (.free i) ρ u (.nx ρ) u := rfl
theorem sv_app {i : Nat} {e : E} {d l z : D} (h1 : Ev fe e ρ u d u1) (h2 : (ρ[i]?.bind id) = some l) (h3 : appO l d = some z) : Sv fe N (.app i e) ρ u (.nx (ρ.set i (some z))) u1 := by
  unfold Sv Ev at *; rw [evS, bd_eq h1, slot, h2]; show bd (lf (appO l d)) _ u1 = _; rw [h3]; rfl
theorem sv_ext {i : Nat} {e : E} {d l z : D} (h1 : Ev fe e ρ u d u1) (h2 : (ρ[i]?.bind id) = some l) (h3 : extO l d = some z) : Sv fe N (.ext i e) ρ u (.nx (ρ.set i (some z))) u1 := by
  unfold Sv Ev at *; rw [evS, bd_eq h1, slot, h2]; show bd (lf (extO l d)) _ u1 = _; rw [h3]; rfl
theorem sv_upd {i : Nat} {e : E} {d l z : D} (h1 : Ev fe e ρ u d u1) (h2 : (ρ[i]?.bind id) = some l) (h3 : updO l d = some z) : Sv fe N (.upd i e) ρ u (.nx (ρ.set i (some z))) u1 := by
  unfold Sv Ev at *; rw [evS, bd_eq h1, slot, h2]; show bd (lf (updO l d)) _ u1 = _; rw [h3]; rfl
theorem sv_put {i : Nat} {a e : E} {d k l z : D} (h1 : Ev fe e ρ u d u1) (h0 : Ev fe a ρ u1 k u2) (h2 : (ρ[i]?.bind id) = some l) (h3 : putO l k d = some z) : Sv fe N (.put i a e) ρ u (.nx (ρ.set i (some z))) u2 := by
  unfold Sv Ev at *; rw [evS, bd_eq h1, bd_eq h0, slot, h2]; show bd (lf (putO l k d)) _ u2 = _; rw [h3]; rfl
theorem sv_urnS {j : Nat} {e : E} {n : Int} (h1 : Ev fe e ρ u (.int n) u1) (h2 : j < u1.length) : Sv fe N (.urnS j e) ρ u (.nx ρ) (u1.set j n) := by
  unfold Sv Ev at *; rw [evS, bd_eq h1]; show (if j < u1.length then some (R.nx ρ, u1.set j n) else none) = _; rw [if_pos h2]
theorem sv_aug {i : Nat} {o : O2} {e : E} {x y z : D} (h0 : (ρ[i]?.bind id) = some x) (h1 : Ev fe e ρ u y u1) (h3 : augO o x y = some z) : Sv fe N (.aug i o e) ρ u (.nx (ρ.set i (some z))) u1 := by
  unfold Sv Ev at *; rw [evS, slot, h0]; show bd (ev fe e ρ) _ u = _; rw [bd_eq h1, h3]; rfl
theorem sv_ifs {c : E} {a b : S} {x : D} {p : Bool} {o : R} (h1 : Ev fe c ρ u x u1) (ht : truD x = some p) (h2 : Sv fe N (if p = true then a else b) ρ u1 o u2) : Sv fe N (.ifs c a b) ρ u o u2 := by
  unfold Sv Ev at *; rw [evS, bd_eq h1, truM, ht]
  cases p with
  | true => exact h2
  | false => exact h2
theorem sv_ifs_t {c : E} {a b : S} {x : D} {o : R} (h1 : Ev fe c ρ u x u1) (ht : truD x = some true) (h2 : Sv fe N a ρ u1 o u2) : Sv fe N (.ifs c a b) ρ u o u2 := sv_ifs h1 ht h2
theorem sv_ifs_f {c : E} {a b : S} {x : D} {o : R} (h1 : Ev fe c ρ u x u1) (ht : truD x = some false) (h2 : Sv fe N b ρ u1 o u2) : Sv fe N (.ifs c a b) ρ u o u2 := sv_ifs h1 ht h2
/-- if c: return e, and what follows returns too -/
theorem sv_ifret {c : E} {a r : S} {z x y : D} {p : Bool} (h1 : Ev fe c ρ u z u1) (ht : truD z = some p) (h2 : p = true → Sv fe N a ρ u1 (.rt x) u1) (h3 : p = false → Sv fe N r ρ u1 (.rt y) u1) : Sv fe N (.seq (.ifs c a .nil) r) ρ u (.rt (if p = true then x else y)) u1 := by
  cases p with
  | true => exact sv_seq_rt (sv_ifs_t h1 ht (h2 rfl))
  | false => exact sv_seq (sv_ifs_f h1 ht sv_nil) (h3 rfl)
theorem sv_ret {e : E} {d : D} (h1 : Ev fe e ρ u d u1) : Sv fe N (.ret e) ρ u (.rt d) u1 := by
  unfold Sv Ev at *; rw [evS, bd_eq h1]; rfl
theorem sv_ret1 {e : E} {r : S} {d : D} (h1 : Ev fe e ρ u d u1) : Sv fe N (.seq (.ret e) r) ρ u (.rt d) u1 := sv_seq_rt (sv_ret h1)
theorem sv_retO {i : Nat} {d : D} (h : (ρ[i]?.bind id) = some d) : Sv fe N (.retO i) ρ u (.rt d) u := by
  unfold Sv; rw [evS, slot, h]; rfl
theorem sv_retN : Sv fe N .retN ρ u (.rt .none) u := rfl
theorem sv_brk : Sv fe N .brk ρ u (.bk ρ) u := rfl
theorem sv_cont : Sv fe N .cont ρ u (.ct ρ) u := rfl
def fbody (fe : Nat → List D → M D) (N : Nat) (t : Tg) (b : S) (d : D) (ρ : DL.Env) (u : List Int) (r : R) (u' : List Int) : Prop := ∃ ρ1, bindD t d ρ = some ρ1 ∧ Sv fe N b ρ1 u r u'
/-- a loop by an invariant over the turns; a turn may leave -/
theorem goS_inv {α : Type} {f : D → DL.Env → M R} {enc : α → D} {Q : D → List Int → Prop} (P : List α → DL.Env → List Int → Prop) : ∀ {xs : List α} {ρ : DL.Env} {u : List Int}, P xs ρ u → (∀ x r ρ u, P (x :: r) ρ u → (∃ ρ' u', (f (enc x) ρ u = some (.nx ρ', u') ∨ f (enc x) ρ u = some (.ct ρ', u')) ∧ P r ρ' u') ∨ ∃ d u', f (enc x) ρ u = some (.rt d, u') ∧ Q d u') →
    (∃ ρ' u', goS f (xs.map enc) ρ u = some (.nx ρ', u') ∧ P [] ρ' u') ∨ ∃ d u', goS f (xs.map enc) ρ u = some (.rt d, u') ∧ Q d u'
  | [], ρ, u, h0, h => .inl ⟨ρ, u, rfl, h0⟩
  | x :: xs, ρ, u, h0, h => by
    rw [List.map_cons]
    unfold goS
    rcases h x xs ρ u h0 with ⟨ρ', u', e | e, h1⟩ | ⟨d, u', e, q⟩
    · rw [bd_eq e]; exact goS_inv P h1 h
    · rw [bd_eq e]; exact goS_inv P h1 h
    · right; refine ⟨d, u', ?_, q⟩; rw [bd_eq e]; rfl
theorem fbody_eq {t : Tg} {b : S} {d : D} {r : R} (h : fbody fe N t b d ρ u r u') : (bd (lf (bindD t d ρ)) fun ρ1 => evS fe N b ρ1) u = some (r, u') := by
  obtain ⟨ρ1, h1, h2⟩ := h
  rw [h1]; exact h2
theorem sv_fr {α : Type} {enc : α → D} {xs : List α} {k : Src} {s : E} {t : Tg} {b : S} {x : D} {Q : D → List Int → Prop} (P : List α → DL.Env → List Int → Prop) (hs : Ev fe s ρ u x u1) (hk : srcD k x = some (xs.map enc)) (h0 : P xs ρ u1)
    (h : ∀ a r ρ u, P (a :: r) ρ u → (∃ ρ' u', (fbody fe N t b (enc a) ρ u (.nx ρ') u' ∨ fbody fe N t b (enc a) ρ u (.ct ρ') u') ∧ P r ρ' u') ∨ ∃ d u', fbody fe N t b (enc a) ρ u (.rt d) u' ∧ Q d u') :
    (∃ ρ' u', Sv fe N (.fr k s t b) ρ u (.nx ρ') u' ∧ P [] ρ' u') ∨ ∃ d u', Sv fe N (.fr k s t b) ρ u (.rt d) u' ∧ Q d u' := by
  have e : ∀ r u', goS (fun d ρ => bd (lf (bindD t d ρ)) fun ρ1 => evS fe N b ρ1) (xs.map enc) ρ u1 = some (r, u') → Sv fe N (.fr k s t b) ρ u r u' := fun r u' e => by
    unfold Sv; rw [evS, bd_eq (ev_out hs), hk]; exact e
  rcases goS_inv (f := fun d ρ => bd (lf (bindD t d ρ)) fun ρ1 => evS fe N b ρ1) (enc := enc) (Q := Q) P h0 (fun a r ρ u hp => by
    rcases h a r ρ u hp with ⟨ρ', u', z | z, h1⟩ | ⟨d, u', z, q⟩
    · exact .inl ⟨ρ', u', .inl (fbody_eq z), h1⟩
    · exact .inl ⟨ρ', u', .inr (fbody_eq z), h1⟩
    · exact .inr ⟨d, u', fbody_eq z, q⟩) with ⟨ρ', u', z, h1⟩ | ⟨d, u', z, q⟩
  · exact .inl ⟨ρ', u', e _ _ z, h1⟩
  · exact .inr ⟨d, u', e _ _ z, q⟩
/-- a loop that never leaves -/
theorem sv_for {α : Type} {enc : α → D} {xs : List α} {k : Src} {s : E} {t : Tg} {b : S} {x : D} (P : List α → DL.Env → List Int → Prop) (hs : Ev fe s ρ u x u1) (hk : srcD k x = some (xs.map enc)) (h0 : P xs ρ u1)
    (h : ∀ a r ρ u, P (a :: r) ρ u → ∃ ρ' u', fbody fe N t b (enc a) ρ u (.nx ρ') u' ∧ P r ρ' u') :
    ∃ ρ' u', Sv fe N (.fr k s t b) ρ u (.nx ρ') u' ∧ P [] ρ' u' := by
  rcases sv_fr (Q := fun _ _ => False) P hs hk h0 (fun a r ρ u hp => by
    obtain ⟨ρ', u', z, h1⟩ := h a r ρ u hp
    exact .inl ⟨ρ', u', .inl z, h1⟩) with h | ⟨_, _, _, z⟩
  · exact h
  · exact z.elim
/-- a while by a measure -/
theorem whS_inv {f : DL.Env → M Bool} {g : DL.Env → M R} (P : Nat → DL.Env → List Int → Prop) : ∀ {n : Nat} {m : Nat} {ρ : DL.Env} {u : List Int}, m < n → P m ρ u → (∀ m ρ u, P m ρ u → (f ρ u = some (false, u)) ∨ f ρ u = some (true, u) ∧ ∃ m' ρ' u', g ρ u = some (.nx ρ', u') ∧ m' < m ∧ P m' ρ' u') →
    ∃ m' ρ' u', whS f g n ρ u = some (.nx ρ', u') ∧ P m' ρ' u' ∧ f ρ' u' = some (false, u')
  | 0, m, ρ, u, hm, _, _ => absurd hm (Nat.not_lt_zero _)
  | n + 1, m, ρ, u, hm, h0, h => by
    unfold whS
    rcases h m ρ u h0 with e | ⟨e, m', ρ', u', e2, hl, h1⟩
    · refine ⟨m, ρ, u, ?_, h0, e⟩
      rw [bd_eq e]; rfl
    · obtain ⟨m2, ρ2, u2, e3, h3, e4⟩ := whS_inv P (n := n) (by omega) h1 h
      refine ⟨m2, ρ2, u2, ?_, h3, e4⟩
      rw [bd_eq e]
      show bd (g ρ) _ u = _
      rw [bd_eq e2]
      exact e3
theorem sv_whl {c : E} {b : S} (P : Nat → DL.Env → List Int → Prop) {m : Nat} (hm : m < N) (h0 : P m ρ u) (h : ∀ m ρ u, P m ρ u → ∃ x k, Ev fe c ρ u x u ∧ truD x = some k ∧ (k = true → ∃ m' ρ' u', Sv fe N b ρ u (.nx ρ') u' ∧ m' < m ∧ P m' ρ' u')) :
    ∃ m' ρ' u' x, Sv fe N (.whl c b) ρ u (.nx ρ') u' ∧ P m' ρ' u' ∧ Ev fe c ρ' u' x u' ∧ truD x = some false := by
  obtain ⟨m', ρ', u', e1, e2, e3⟩ := whS_inv (f := fun ρ => bd (ev fe c ρ) truM) (g := fun ρ => evS fe N b ρ) P hm h0 (fun m ρ u hp => by
    obtain ⟨x, k, h1, h2, h3⟩ := h m ρ u hp
    have e : bd (ev fe c ρ) truM u = some (k, u) := by rw [bd_eq (ev_out h1), truM, h2]; rfl
    cases k with
    | false => exact .inl e
    | true => exact .inr ⟨e, h3 rfl⟩)
  obtain ⟨x, k, h1, h2, h3⟩ := h m' ρ' u' e2
  have e : bd (ev fe c ρ') truM u' = some (k, u') := by rw [bd_eq (ev_out h1), truM, h2]; rfl
  have e3 : bd (ev fe c ρ') truM u' = some (false, u') := e3
  rw [e] at e3
  cases e3
  exact ⟨m', ρ', u', x, by unfold Sv; rw [evS]; exact e1, e2, h1, h2⟩

/-! defs -/
theorem fn_pure {g : FnD} {ds : List D} {d : D} (hu : g.urn = false) (hl : ds.length = g.ps.length) (h : ∃ u', Sv fe N g.body (startE g ds) [] (.rt d) u') : runFn fe N g ds = rt d := by
  obtain ⟨u', h⟩ := h
  funext u
  unfold runFn
  unfold Sv at h
  simp only [hu, Bool.false_eq_true, if_false, Nat.add_zero, hl, if_true, h]
  rfl
theorem fn_urn {g : FnD} {ds : List D} {d : D} (hu : g.urn = true) (hl : ds.length + 1 = g.ps.length) (h : Sv fe N g.body (startE g ds) u (.rt d) u') : runFn fe N g ds u = some (d, u') := by
  unfold runFn
  unfold Sv at h
  simp only [hu, if_true, hl, h]
end DN

end
section
set_option Elab.async false
set_option linter.all false
set_option autoImplicit false
set_option maxRecDepth 100000
set_option maxHeartbeats 400000
/-! typed data -/
namespace DN
open PySem DL
open PySem.W (alike alikeAll dataLt)
structure T3 (α β γ : Type) where
  a : α
  b : β
  c : γ
  deriving DecidableEq
class Enc (α : Type) where
  enc : α → D
  dep : Nat
  dpo : ∀ a n, dep ≤ n → dp n (enc a) = true
  imo : ∀ a, imm (enc a) = true
  eqv : ∀ a b, PyData.eqv (enc a) (enc b) = true ↔ a = b
  ali : ∀ a b, alike (enc a) (enc b) = true
  key : ∀ a, ∃ nk, keyOf (enc a) = some nk ∧ nk.depth ≤ dep
  kinj : ∀ a b, keyOf (enc a) = keyOf (enc b) → a = b
end DN
end
open DN.Enc (enc)
section
set_option Elab.async false
set_option linter.all false
set_option autoImplicit false
set_option maxRecDepth 100000
set_option maxHeartbeats 400000
namespace DN
open PySem DL
open PySem.W (alike alikeAll dataLt)

theorem dp_tup {n : Nat} {ds : List D} (h : dpL n ds = true) : dp (n + 1) (.tuple ds) = true := by simpa [dp] using h
theorem dpL_map {α : Type} [Enc α] {n : Nat} (h : Enc.dep α ≤ n) : ∀ xs : List α, dpL n (xs.map enc) = true
  | [] => by simp [dpL]
  | x :: xs => by simp [dpL, Enc.dpo x n h, dpL_map h xs]
theorem immL_map {α : Type} [Enc α] : ∀ xs : List α, immL (xs.map enc) = true
  | [] => by simp [immL]
  | x :: xs => by simp [immL, Enc.imo x, immL_map xs]
theorem eqvAll_map {α : Type} [Enc α] : ∀ xs ys : List α, PyData.eqvAll (xs.map enc) (ys.map enc) = true ↔ xs = ys
  | [], [] => by simp [PyData.eqvAll]
  | [], y :: ys => by simp [PyData.eqvAll]
  | x :: xs, [] => by simp [PyData.eqvAll]
  | x :: xs, y :: ys => by simp [PyData.eqvAll, Enc.eqv, eqvAll_map xs ys]
theorem alikeAll_map {α : Type} [Enc α] : ∀ xs ys : List α, alikeAll (xs.map enc) (ys.map enc) = true
  | [], ys => by simp [alikeAll]
  | x :: xs, [] => by simp [alikeAll]
  | x :: xs, y :: ys => by simp [alikeAll, Enc.ali, alikeAll_map xs ys]
theorem keysOf_map {α : Type} [Enc α] : ∀ xs : List α, ∃ ks, keysOf (xs.map enc) = some ks ∧ NestedKey.depthAll ks ≤ Enc.dep α
  | [] => ⟨[], rfl, by simp [NestedKey.depthAll]⟩
  | x :: xs => by
    obtain ⟨ks, h1, h2⟩ := keysOf_map xs
    obtain ⟨k, h3, h4⟩ := Enc.key x
    exact ⟨k :: ks, by simp [keysOf, h1, h3], by simp only [NestedKey.depthAll]; omega⟩
theorem keysOf_inj {α : Type} [Enc α] : ∀ xs ys : List α, keysOf (xs.map enc) = keysOf (ys.map enc) → xs = ys
  | [], [], _ => rfl
  | [], y :: ys, h => by
    obtain ⟨ks, h1, _⟩ := keysOf_map ys
    obtain ⟨k, h3, _⟩ := Enc.key y
    simp [keysOf, h1, h3] at h
  | x :: xs, [], h => by
    obtain ⟨ks, h1, _⟩ := keysOf_map xs
    obtain ⟨k, h3, _⟩ := Enc.key x
    simp [keysOf, h1, h3] at h
  | x :: xs, y :: ys, h => by
    obtain ⟨ks, h1, _⟩ := keysOf_map xs
    obtain ⟨k, h3, _⟩ := Enc.key x
    obtain ⟨ks', h1', _⟩ := keysOf_map ys
    obtain ⟨k', h3', _⟩ := Enc.key y
    simp only [List.map_cons, keysOf, h1, h3, h1', h3', Option.some.injEq, List.cons.injEq] at h
    rw [Enc.kinj x y (by rw [h3, h3', h.1]), keysOf_inj xs ys (by rw [h1, h1', h.2])]
instance encInt : Enc Int where
  enc := .int
  dep := 0
  dpo a n _ := by cases n <;> simp [dp]
  imo a := rfl
  eqv a b := by simp [PyData.eqv]
  ali a b := by simp [alike]
  key a := ⟨.num a, rfl, Nat.le_refl _⟩
  kinj a b h := by simpa [keyOf] using h
instance encBool : Enc Bool where
  enc := .bool
  dep := 0
  dpo a n _ := by cases n <;> simp [dp]
  imo a := rfl
  eqv a b := by simp [PyData.eqv]
  ali a b := by simp [alike]
  key a := ⟨.num (if a = true then 1 else 0), rfl, Nat.le_refl _⟩
  kinj a b h := by cases a <;> cases b <;> simp [keyOf] at h <;> rfl
instance encList {α : Type} [Enc α] : Enc (List α) where
  enc xs := .tuple (xs.map enc)
  dep := Enc.dep α + 1
  dpo a n h := by
    obtain ⟨m, rfl⟩ : ∃ m, n = m + 1 := ⟨n - 1, by omega⟩
    exact dp_tup (dpL_map (by omega) a)
  imo a := by simpa [imm] using immL_map a
  eqv a b := by simpa [PyData.eqv] using eqvAll_map a b
  ali a b := by simpa [alike] using alikeAll_map a b
  key a := by
    obtain ⟨ks, h1, h2⟩ := keysOf_map a
    exact ⟨.tup ks, by simp [keyOf, h1], by simp only [NestedKey.depth]; omega⟩
  kinj a b h := by
    obtain ⟨ks, h1, h2⟩ := keysOf_map a
    obtain ⟨ks', h1', h2'⟩ := keysOf_map b
    refine keysOf_inj a b ?_
    simp only [keyOf, h1, h1', Option.map_some, Option.some.injEq, NestedKey.tup.injEq] at h
    rw [h1, h1', h]
instance encProd {α β : Type} [Enc α] [Enc β] : Enc (α × β) where
  enc x := .tuple [enc x.1, enc x.2]
  dep := max (Enc.dep α) (Enc.dep β) + 1
  dpo a n h := by
    obtain ⟨m, rfl⟩ : ∃ m, n = m + 1 := ⟨n - 1, by omega⟩
    exact dp_tup (by simp [dpL, Enc.dpo a.1 m (by omega), Enc.dpo a.2 m (by omega)])
  imo a := by simp [imm, immL, Enc.imo]
  eqv a b := by simp [PyData.eqv, PyData.eqvAll, Enc.eqv, Prod.ext_iff]
  ali a b := by simp [alike, alikeAll, Enc.ali]
  key a := by
    obtain ⟨k, h1, h2⟩ := Enc.key a.1
    obtain ⟨l, h3, h4⟩ := Enc.key a.2
    exact ⟨.tup [k, l], by simp [keyOf, keysOf, h1, h3], by simp only [NestedKey.depth, NestedKey.depthAll]; omega⟩
  kinj a b h := by
    obtain ⟨k, h1, h2⟩ := Enc.key a.1
    obtain ⟨l, h3, h4⟩ := Enc.key a.2
    obtain ⟨k', h1', h2'⟩ := Enc.key b.1
    obtain ⟨l', h3', h4'⟩ := Enc.key b.2
    simp [keyOf, keysOf, h1, h3, h1', h3'] at h
    exact Prod.ext (Enc.kinj _ _ (by rw [h1, h1', h.1])) (Enc.kinj _ _ (by rw [h3, h3', h.2]))
instance encT3 {α β γ : Type} [Enc α] [Enc β] [Enc γ] : Enc (T3 α β γ) where
  enc x := .tuple [enc x.a, enc x.b, enc x.c]
  dep := max (Enc.dep α) (max (Enc.dep β) (Enc.dep γ)) + 1
  dpo a n h := by
    obtain ⟨m, rfl⟩ : ∃ m, n = m + 1 := ⟨n - 1, by omega⟩
    exact dp_tup (by simp [dpL, Enc.dpo a.a m (by omega), Enc.dpo a.b m (by omega), Enc.dpo a.c m (by omega)])
  imo a := by simp [imm, immL, Enc.imo]
  eqv a b := by
    cases a; cases b
    simp [PyData.eqv, PyData.eqvAll, Enc.eqv]
  ali a b := by simp [alike, alikeAll, Enc.ali]
  key a := by
    obtain ⟨k, h1, h2⟩ := Enc.key a.a
    obtain ⟨l, h3, h4⟩ := Enc.key a.b
    obtain ⟨m, h5, h6⟩ := Enc.key a.c
    exact ⟨.tup [k, l, m], by simp [keyOf, keysOf, h1, h3, h5], by simp only [NestedKey.depth, NestedKey.depthAll]; omega⟩
  kinj a b h := by
    obtain ⟨k, h1, h2⟩ := Enc.key a.a
    obtain ⟨l, h3, h4⟩ := Enc.key a.b
    obtain ⟨m, h5, h6⟩ := Enc.key a.c
    obtain ⟨k', h1', h2'⟩ := Enc.key b.a
    obtain ⟨l', h3', h4'⟩ := Enc.key b.b
    obtain ⟨m', h5', h6'⟩ := Enc.key b.c
    simp [keyOf, keysOf, h1, h3, h1', h3', h5, h5'] at h
    cases a; cases b
    simp only [T3.mk.injEq]
    exact ⟨Enc.kinj _ _ (by rw [h1, h1', h.1]), Enc.kinj _ _ (by rw [h3, h3', h.2.1]), Enc.kinj _ _ (by rw [h5, h5', h.2.2])⟩
section
variable {α β κ υ : Type} [Enc α] [Enc β] [Enc κ] [Enc υ]
theorem enc_inj {a b : α} (h : enc a = enc b) : a = b := Enc.kinj a b (by rw [h])
theorem eqv_dec [DecidableEq α] (a b : α) : PyData.eqv (enc a) (enc b) = decide (a = b) := by
  rw [Bool.eq_iff_iff, decide_eq_true_iff]; exact Enc.eqv a b
theorem dpe (h : Enc.dep α ≤ 60) (a : α) : dp 60 (enc a) = true := Enc.dpo a 60 h
theorem dpl (h : Enc.dep α ≤ 59) (xs : List α) : dp 60 (.list (xs.map enc)) = true := by simpa [dp] using dpL_map h xs
theorem dpt (h : Enc.dep α ≤ 59) (xs : List α) : dp 60 (.tuple (xs.map enc)) = true := by simpa [dp] using dpL_map h xs

/-! equality -/
theorem o_eq [DecidableEq α] (a b : α) (h : Enc.dep α ≤ 60) : o2 .eq (enc a) (enc b) = some (.bool (decide (a = b))) := by
  show eqD false _ _ = _
  unfold eqD; rw [dpe h, dpe h, eqv_dec]; simp
theorem o_ne [DecidableEq α] (a b : α) (h : Enc.dep α ≤ 60) : o2 .ne (enc a) (enc b) = some (.bool (!decide (a = b))) := by
  show eqD true _ _ = _
  unfold eqD; rw [dpe h, dpe h, eqv_dec]; simp
theorem o_eqI (a b : Int) : o2 .eq (.int a) (.int b) = some (.bool (decide (a = b))) := o_eq a b (by decide)
theorem o_neI (a b : Int) : o2 .ne (.int a) (.int b) = some (.bool (!decide (a = b))) := o_ne a b (by decide)
theorem o_eqL [DecidableEq α] (a b : List α) (h : Enc.dep α ≤ 59) : o2 .eq (.list (a.map enc)) (.list (b.map enc)) = some (.bool (decide (a = b))) := by
  show eqD false _ _ = _
  unfold eqD; rw [dpl h, dpl h]
  have e : PyData.eqv (.list (a.map enc)) (.list (b.map enc)) = decide (a = b) := by
    rw [Bool.eq_iff_iff, decide_eq_true_iff, ← eqvAll_map]; simp [PyData.eqv]
  rw [e]; simp
theorem o_neL [DecidableEq α] (a b : List α) (h : Enc.dep α ≤ 59) : o2 .ne (.list (a.map enc)) (.list (b.map enc)) = some (.bool (!decide (a = b))) := by
  show eqD true _ _ = _
  unfold eqD; rw [dpl h, dpl h]
  have e : PyData.eqv (.list (a.map enc)) (.list (b.map enc)) = decide (a = b) := by
    rw [Bool.eq_iff_iff, decide_eq_true_iff, ← eqvAll_map]; simp [PyData.eqv]
  rw [e]; simp
theorem o_neL0 (a : List α) (h : Enc.dep α ≤ 59) : o2 .ne (.list (a.map enc)) (.list []) = some (.bool (!a.isEmpty)) := by
  show eqD true _ _ = _
  unfold eqD; rw [dpl h]
  cases a <;> simp [dp, dpL, PyData.eqv, PyData.eqvAll]
theorem o_eqL0 (a : List α) (h : Enc.dep α ≤ 59) : o2 .eq (.list (a.map enc)) (.list []) = some (.bool a.isEmpty) := by
  show eqD false _ _ = _
  unfold eqD; rw [dpl h]
  cases a <;> simp [dp, dpL, PyData.eqv, PyData.eqvAll]

/-! membership -/
theorem memD_map [DecidableEq α] (a : α) : ∀ xs : List α, memD (enc a) (xs.map enc) = decide (a ∈ xs)
  | [] => by simp [memD]
  | x :: xs => by
    have ih := memD_map a xs
    unfold memD at ih ⊢
    rw [List.map_cons, List.any_cons, ih, eqv_dec]
    rw [Bool.eq_iff_iff]
    simp only [Bool.or_eq_true, decide_eq_true_eq, List.mem_cons]
    exact ⟨fun z => z.imp Eq.symm id, fun z => z.imp Eq.symm id⟩
theorem o_inL [DecidableEq α] (a : α) (xs : List α) (h : Enc.dep α ≤ 59) : o2 .inn (enc a) (.list (xs.map enc)) = some (.bool (decide (a ∈ xs))) := by
  show (if (dp 60 (enc a) && dp 60 (.list (xs.map enc))) = true then some (PyData.bool (memD (enc a) (xs.map enc) != false)) else none) = _
  rw [dpe (by omega), dpl h, memD_map]; simp
theorem o_inT [DecidableEq α] (a : α) (xs : List α) (h : Enc.dep α ≤ 59) : o2 .inn (enc a) (.tuple (xs.map enc)) = some (.bool (decide (a ∈ xs))) := by
  show (if (dp 60 (enc a) && dp 60 (.tuple (xs.map enc))) = true then some (PyData.bool (memD (enc a) (xs.map enc) != false)) else none) = _
  rw [dpe (by omega), dpt h, memD_map]; simp
theorem o_niL [DecidableEq α] (a : α) (xs : List α) (h : Enc.dep α ≤ 59) : o2 .notin (enc a) (.list (xs.map enc)) = some (.bool (!decide (a ∈ xs))) := by
  show (if (dp 60 (enc a) && dp 60 (.list (xs.map enc))) = true then some (PyData.bool (memD (enc a) (xs.map enc) != true)) else none) = _
  rw [dpe (by omega), dpl h, memD_map]; simp
theorem o_niT [DecidableEq α] (a : α) (xs : List α) (h : Enc.dep α ≤ 59) : o2 .notin (enc a) (.tuple (xs.map enc)) = some (.bool (!decide (a ∈ xs))) := by
  show (if (dp 60 (enc a) && dp 60 (.tuple (xs.map enc))) = true then some (PyData.bool (memD (enc a) (xs.map enc) != true)) else none) = _
  rw [dpe (by omega), dpt h, memD_map]; simp

/-! order -/
def ltE (a b : α) : Bool := dataLt (enc a) (enc b)
theorem ltE_int (a b : Int) : ltE a b = decide (a < b) := PySem.W.dataLt_int a b
theorem ltE_irrefl (a : α) : ltE a a = false := PyProof.Rows.lex_irrefl _
theorem ltE_trans {a b c : α} (h1 : ltE a b = true) (h2 : ltE b c = true) : ltE a c = true := PyProof.Rows.lex_trans _ _ _ h1 h2
theorem ltE_tri {a b : α} (h1 : ltE a b = false) (h2 : ltE b a = false) : a = b := by
  refine enc_inj (leD_anti (Enc.ali a b) ?_ ?_)
  · show (!dataLt (enc b) (enc a)) = true; unfold ltE at h2; rw [h2]; rfl
  · show (!dataLt (enc a) (enc b)) = true; unfold ltE at h1; rw [h1]; rfl
theorem o_ltI (a b : Int) : o2 .lt (.int a) (.int b) = some (.bool (ltE a b)) := by rw [ltE_int]; rfl
def srt (xs : List α) : List α := xs.mergeSort (fun a b => leD (enc a) (enc b))
theorem map_srt (xs : List α) : (srt xs).map enc = (xs.map enc).mergeSort leD := by
  unfold srt
  exact List.map_mergeSort fun a _ b _ => rfl
theorem mem_srt {a : α} {xs : List α} : a ∈ srt xs ↔ a ∈ xs := (List.mergeSort_perm _ _).mem_iff
theorem srt_perm (xs : List α) : (srt xs).Perm xs := List.mergeSort_perm _ _
open Classical in
noncomputable def nubE {α : Type} : List α → List α
  | [] => []
  | x :: xs => if x ∈ xs then nubE xs else x :: nubE xs
theorem mem_nubE {α : Type} {a : α} : ∀ {xs : List α}, a ∈ nubE xs ↔ a ∈ xs
  | [] => Iff.rfl
  | x :: xs => by
    unfold nubE
    split
    · rw [mem_nubE, List.mem_cons]
      exact ⟨.inr, fun z => z.elim (fun e => by rw [e]; assumption) id⟩
    · rw [List.mem_cons, List.mem_cons, mem_nubE]
theorem nodup_nubE {α : Type} : ∀ xs : List α, (nubE xs).Nodup
  | [] => List.nodup_nil
  | x :: xs => by
    unfold nubE
    split
    · exact nodup_nubE xs
    · exact List.nodup_cons.mpr ⟨fun z => by rw [mem_nubE] at z; contradiction, nodup_nubE xs⟩
/-- sorted(set(xs)) -/
noncomputable def ss (xs : List α) : List α := srt (nubE xs)
theorem mem_ss {a : α} {xs : List α} : a ∈ ss xs ↔ a ∈ xs := mem_srt.trans mem_nubE
theorem nodup_ss (xs : List α) : (ss xs).Nodup := (srt_perm _).nodup_iff.mpr (nodup_nubE xs)
theorem alike_map (xs : List α) : ∀ a ∈ xs.map enc, ∀ b ∈ xs.map enc, alike a b = true := by
  intro a ha b hb
  obtain ⟨x, _, rfl⟩ := List.mem_map.mp ha
  obtain ⟨y, _, rfl⟩ := List.mem_map.mp hb
  exact Enc.ali x y
theorem nodup_map_enc {xs : List α} (h : xs.Nodup) : (xs.map enc).Nodup := by
  refine List.Pairwise.map _ (fun a b z q => z (enc_inj q)) h
theorem map_ss (xs : List α) : (ss xs).map enc = ssD (xs.map enc) := by
  refine (ssD_eq (alike_map xs) (nodup_map_enc (nodup_ss xs)) (fun x => ?_) ?_).symm
  · simp only [List.mem_map, mem_ss]
  · unfold ss; rw [map_srt]; exact PySem.W.sort_pairwise leD_total _
theorem leE_iff (a b : α) : leD (enc a) (enc b) = !ltE b a := rfl
theorem pairwise_srt (xs : List α) : (srt xs).Pairwise fun a b => ltE b a = false := by
  have h : ((srt xs).map enc).Pairwise fun a b => leD a b = true := by rw [map_srt]; exact PySem.W.sort_pairwise leD_total _
  rw [List.pairwise_map] at h
  exact h.imp fun {a b} z => by rw [leE_iff, Bool.not_eq_true'] at z; exact z
theorem pairwise_ss (xs : List α) : (ss xs).Pairwise fun a b => ltE a b = true := by
  refine ((pairwise_srt (nubE xs)).and (nodup_ss xs)).imp fun {a b} z => ?_
  cases h : ltE a b with
  | true => rfl
  | false => exact absurd (ltE_tri h z.1) z.2
theorem nodup_of_lt {xs : List α} (h : xs.Pairwise fun a b => ltE a b = true) : xs.Nodup := h.imp fun {a b} z e => by
  rw [e, ltE_irrefl] at z; cases z
theorem ss_eq {xs ys : List α} (h : ys.Pairwise fun a b => ltE a b = true) (hm : ∀ x, x ∈ ys ↔ x ∈ xs) : ss xs = ys := by
  have e : ssD (xs.map enc) = ys.map enc := by
    refine ssD_eq (alike_map xs) (nodup_map_enc (nodup_of_lt h)) (fun x => ?_) ?_
    · simp only [List.mem_map, hm]
    · rw [List.pairwise_map]
      refine h.imp fun {a b} z => ?_
      rw [leE_iff, Bool.not_eq_true']
      cases q : ltE b a with
      | false => rfl
      | true => have := ltE_trans z q; rw [ltE_irrefl] at this; cases this
  rw [← map_ss] at e
  exact List.map_inj_right (fun a b => enc_inj) |>.mp e
theorem ss_self {xs : List α} : ss xs = xs ↔ xs.Pairwise fun a b => ltE a b = true :=
  ⟨fun h => by rw [← h]; exact pairwise_ss xs, fun h => ss_eq h fun _ => Iff.rfl⟩
theorem ss_congr {xs ys : List α} (h : ∀ x, x ∈ xs ↔ x ∈ ys) : ss xs = ss ys := ss_eq (pairwise_ss ys) fun x => mem_ss.trans (h x).symm
theorem nubE_len {α : Type} : ∀ xs : List α, (nubE xs).length ≤ xs.length
  | [] => Nat.le_refl _
  | x :: xs => by
    unfold nubE
    have := nubE_len xs
    split <;> simp only [List.length_cons] <;> omega
theorem len_ss (xs : List α) : (ss xs).length ≤ xs.length := by
  rw [ss, (srt_perm _).length_eq]; exact nubE_len xs
/-- rising: each less than the next -/
def rising : List α → Bool
  | [] => true
  | x :: xs => (match xs with | [] => true | y :: _ => ltE x y) && rising xs
theorem rising_iff : ∀ {xs : List α}, rising xs = true ↔ xs.Pairwise fun a b => ltE a b = true
  | [] => by simp [rising]
  | [x] => by simp [rising]
  | x :: y :: ys => by
    have ih := rising_iff (xs := y :: ys)
    rw [rising, Bool.and_eq_true, ih, List.pairwise_cons (a := x)]
    refine ⟨fun ⟨h1, h2⟩ => ⟨fun a ha => ?_, h2⟩, fun ⟨h1, h2⟩ => ⟨h1 y List.mem_cons_self, h2⟩⟩
    rcases List.mem_cons.mp ha with rfl | ha
    · exact h1
    · exact ltE_trans h1 ((List.pairwise_cons.mp h2).1 a ha)
theorem rising_zip [DecidableEq α] : ∀ (xs : List α), (xs.zip xs.tail).all (fun p => ltE p.1 p.2) = rising xs
  | [] => rfl
  | [x] => rfl
  | x :: y :: ys => by
    have ih := rising_zip (y :: ys)
    rw [List.tail_cons] at ih ⊢
    rw [List.zip_cons_cons, List.all_cons, ih, rising]
theorem rising_ss {xs : List α} [DecidableEq α] : decide (xs = ss xs) = rising xs := by
  rw [Bool.eq_iff_iff, decide_eq_true_iff, rising_iff, ← ss_self]
  exact ⟨Eq.symm, Eq.symm⟩
/-- a sorted list without doubles is rising -/
theorem srt_rising {xs : List α} (h : xs.Nodup) : rising (srt xs) = true := by
  rw [rising_iff]
  refine ((pairwise_srt xs).and ((srt_perm xs).nodup_iff.mpr h)).imp fun {a b} z => ?_
  cases h : ltE a b with
  | true => rfl
  | false => exact absurd (ltE_tri h z.1) z.2

/-! sorting -/
theorem alikeB_map (xs : List α) : alikeB (xs.map enc) = true := by
  unfold alikeB
  rw [List.all_eq_true]
  intro a ha
  rw [List.all_eq_true]
  intro b hb
  exact alike_map xs a ha b hb
theorem all_dp (h : Enc.dep α ≤ 60) (xs : List α) : (xs.map enc).all (dp 60) = true := by
  rw [List.all_eq_true]
  intro a ha
  obtain ⟨x, _, rfl⟩ := List.mem_map.mp ha
  exact dpe h x
theorem all_imm (xs : List α) : (xs.map enc).all imm = true := by
  rw [List.all_eq_true]
  intro a ha
  obtain ⟨x, _, rfl⟩ := List.mem_map.mp ha
  exact Enc.imo x
end
/-- sortable kinds: ints, tuples that are not empty -/
class EncS (α : Type) [Enc α] where
  so : ∀ xs : List α, sortOk (xs.map enc) = true
theorem sortOk_t {α : Type} [Enc α] (hd : Enc.dep α ≤ 60) (h : ∀ a : α, ∃ d ds, enc a = .tuple (d :: ds)) (xs : List α) : sortOk (xs.map enc) = true := by
  unfold sortOk
  rw [alikeB_map, all_dp hd, Bool.true_and, Bool.true_and, Bool.or_eq_true]
  left
  rw [List.all_eq_true]
  intro a ha
  obtain ⟨x, _, rfl⟩ := List.mem_map.mp ha
  obtain ⟨d, ds, e⟩ := h x
  rw [e]
theorem sortOk_i (xs : List Int) : sortOk (xs.map enc) = true := by
  unfold sortOk
  rw [alikeB_map, all_dp (by decide), Bool.true_and, Bool.true_and, Bool.or_eq_true]
  right
  rw [List.all_eq_true]
  intro a ha
  obtain ⟨x, _, rfl⟩ := List.mem_map.mp ha
  rfl
instance : EncS Int := ⟨sortOk_i⟩
theorem setOk_of {α : Type} [Enc α] {xs : List α} (hs : sortOk (xs.map enc) = true) (h : (∃ f : α → List Int, ∀ x, enc x = .tuple ((f x).map .int)) ∨ ∃ f : α → Int, ∀ x, enc x = .int (f x)) (hl : xs.length < 64) : setOk (xs.map enc) = true := by
  unfold setOk
  rw [hs, Bool.and_true, Bool.and_eq_true, Bool.or_eq_true]
  refine ⟨?_, by simpa using hl⟩
  rcases h with ⟨f, h⟩ | ⟨f, h⟩
  · right
    have : xs.map enc = (xs.map f).map fun k => .tuple (k.map .int) := by rw [List.map_map]; exact List.map_congr_left fun x _ => h x
    rw [this, tupsOf_map]; rfl
  · left
    have : xs.map enc = (xs.map f).map .int := by rw [List.map_map]; exact List.map_congr_left fun x _ => h x
    rw [this, intsOf_map]; rfl
theorem sset_eq {α : Type} [Enc α] {xs : List α} (h : setOk (xs.map enc) = true) : ssetD (.list (xs.map enc)) = some (.list ((ss xs).map enc)) ∧ ssetD (.tuple (xs.map enc)) = some (.list ((ss xs).map enc)) := by
  constructor
  · show (if setOk (xs.map enc) then some (PyData.list (ssD (xs.map enc))) else none) = _
    rw [if_pos h, map_ss]
  · show (if setOk (xs.map enc) then some (PyData.list (ssD (xs.map enc))) else none) = _
    rw [if_pos h, map_ss]
theorem sset_int {xs : List Int} (hl : xs.length < 64) : ssetD (.list (xs.map enc)) = some (.list ((ss xs).map enc)) := (sset_eq (setOk_of (sortOk_i xs) (.inr ⟨id, fun _ => rfl⟩) hl)).1
theorem sset_pair {xs : List (Int × Int)} (hl : xs.length < 64) : ssetD (.list (xs.map enc)) = some (.list ((ss xs).map enc)) ∧ ssetD (.tuple (xs.map enc)) = some (.list ((ss xs).map enc)) := sset_eq (setOk_of (sortOk_t (by decide) (fun a => ⟨_, _, rfl⟩) xs) (.inl ⟨fun x => [x.1, x.2], fun _ => rfl⟩) hl)
theorem sset_t3 {xs : List (T3 Int Int Int)} (hl : xs.length < 64) : ssetD (.list (xs.map enc)) = some (.list ((ss xs).map enc)) ∧ ssetD (.tuple (xs.map enc)) = some (.list ((ss xs).map enc)) := sset_eq (setOk_of (sortOk_t (by decide) (fun a => ⟨_, _, rfl⟩) xs) (.inl ⟨fun x => [x.a, x.b, x.c], fun _ => rfl⟩) hl)
theorem sort_eq {α : Type} [Enc α] {xs : List α} (hs : sortOk (xs.map enc) = true) (hl : xs.length ≤ 16777216) : sortB [.list (xs.map enc)] = some (.list ((srt xs).map enc)) := by
  show (if sortOk (xs.map enc) && fits (xs.map enc).length then some (PyData.list ((xs.map enc).mergeSort leD)) else none) = _
  rw [hs, List.length_map, fits_of hl, map_srt]; rfl
theorem sort_rows {xs : List (List Int)} (h : ∀ x ∈ xs, x ≠ []) : sortOk (xs.map enc) = true := by
  unfold sortOk
  rw [alikeB_map, all_dp (by decide), Bool.true_and, Bool.true_and, Bool.or_eq_true]
  left
  rw [List.all_eq_true]
  intro a ha
  obtain ⟨x, hx, rfl⟩ := List.mem_map.mp ha
  cases x with
  | nil => exact absurd rfl (h _ hx)
  | cons y ys => rfl
end DN

end
section
set_option Elab.async false
set_option linter.all false
set_option autoImplicit false
set_option maxRecDepth 100000
set_option maxHeartbeats 400000
/-! typed data: dicts, subscripts, sources, built-in functions -/
namespace DN
open PySem DL
open PySem.W (alike alikeAll dataLt)
/-- keys are tuples -/
class EncT (α : Type) [Enc α] where
  tu : ∀ a : α, isTup (enc a) = true
  de : Enc.dep α ≤ 8
instance : EncT (T3 Int Int Int) := ⟨fun _ => rfl, by decide⟩
instance : EncT (Int × Int) := ⟨fun _ => rfl, by decide⟩
instance : EncT (List Int) := ⟨fun _ => rfl, by decide⟩
instance : EncT (T3 Int (List Int) (List Int)) := ⟨fun _ => rfl, by decide⟩
section
variable {α β κ υ : Type} [Enc α] [Enc β] [Enc κ] [Enc υ]
def dE (kvs : List (κ × υ)) : D := .dict (kvs.map fun p => (enc p.1, enc p.2))
theorem keyE [DecidableEq κ] (k l : κ) : decide (keyOf (enc k) = keyOf (enc l)) = decide (k = l) := by
  rw [Bool.eq_iff_iff, decide_eq_true_iff, decide_eq_true_iff]
  exact ⟨Enc.kinj k l, fun h => by rw [h]⟩
def look [DecidableEq κ] (k : κ) (kvs : List (κ × υ)) : Option υ := (kvs.find? fun p => decide (p.1 = k)).map (·.2)
theorem lookD_dE [DecidableEq κ] (k : κ) : ∀ kvs : List (κ × υ), lookD (enc k) (kvs.map fun p => (enc p.1, enc p.2)) = (look k kvs).map enc
  | [] => rfl
  | p :: kvs => by
    have ih := lookD_dE k kvs
    unfold lookD look at ih ⊢
    rw [List.map_cons, List.find?_cons, List.find?_cons, keyE]
    split
    · rfl
    · exact ih
theorem isKeyE [EncT κ] (k : κ) : isKey (enc k) = true := by
  obtain ⟨nk, h1, h2⟩ := Enc.key k
  unfold isKey
  rw [h1]
  have := EncT.de (α := κ)
  exact decide_eq_true (by omega)
theorem tupKeys_dE [EncT κ] (kvs : List (κ × υ)) : (kvs.map fun p => ((enc p.1 : D), (enc p.2 : D))).all (fun p => isTup p.1 && isKey p.1) = true := by
  rw [List.all_eq_true]
  intro p hp
  obtain ⟨q, _, rfl⟩ := List.mem_map.mp hp
  rw [EncT.tu, isKeyE]; rfl
theorem goodKey_dE [EncT κ] (k : κ) (kvs : List (κ × υ)) : goodKey (enc k) (kvs.map fun p => (enc p.1, enc p.2)) = true := by
  unfold goodKey
  rw [EncT.tu, isKeyE, tupKeys_dE]; rfl
theorem look_isSome [DecidableEq κ] (k : κ) (kvs : List (κ × υ)) : (look k kvs).isSome = decide (k ∈ kvs.map (·.1)) := by
  unfold look
  rw [Option.isSome_map, Bool.eq_iff_iff, List.find?_isSome, decide_eq_true_iff, List.mem_map]
  simp
theorem look_mem [DecidableEq κ] {k : κ} {v : υ} {kvs : List (κ × υ)} (h : look k kvs = some v) : (k, v) ∈ kvs := by
  unfold look at h
  obtain ⟨p, h1, rfl⟩ := Option.map_eq_some_iff.mp h
  have h2 := List.mem_of_find?_eq_some h1
  have h3 := List.find?_some h1
  simp only [decide_eq_true_eq] at h3
  rw [← h3]; exact h2
theorem look_of [DecidableEq κ] {k : κ} {v : υ} : ∀ {kvs : List (κ × υ)}, (kvs.map (·.1)).Nodup → (k, v) ∈ kvs → look k kvs = some v
  | [], _, h => by cases h
  | p :: kvs, nd, h => by
    rw [List.map_cons, List.nodup_cons] at nd
    rcases List.mem_cons.mp h with e | h
    · subst e
      unfold look
      rw [List.find?_cons]
      simp
    · have ih := look_of nd.2 h
      unfold look at ih ⊢
      rw [List.find?_cons]
      have hne : decide (p.1 = k) = false := decide_eq_false fun e => nd.1 (by rw [e]; exact List.mem_map.mpr ⟨_, h, rfl⟩)
      rw [hne]; exact ih
theorem look_none [DecidableEq κ] {k : κ} {kvs : List (κ × υ)} : look k kvs = none ↔ k ∉ kvs.map (·.1) := by
  have := look_isSome k kvs
  cases h : look k kvs with
  | none => rw [h] at this; simpa using this
  | some v => rw [h] at this; simpa using this
theorem o_inD [DecidableEq κ] [EncT κ] (k : κ) (kvs : List (κ × υ)) : o2 .inn (enc k) (dE kvs) = some (.bool (decide (k ∈ kvs.map (·.1)))) := by
  show (if goodKey (enc k) (kvs.map fun p => (enc p.1, enc p.2)) = true then some (PyData.bool ((lookD (enc k) (kvs.map fun p => (enc p.1, enc p.2))).isSome != false)) else none) = _
  rw [goodKey_dE, lookD_dE, Option.isSome_map, look_isSome]; simp
theorem o_niD [DecidableEq κ] [EncT κ] (k : κ) (kvs : List (κ × υ)) : o2 .notin (enc k) (dE kvs) = some (.bool (!decide (k ∈ kvs.map (·.1)))) := by
  show (if goodKey (enc k) (kvs.map fun p => (enc p.1, enc p.2)) = true then some (PyData.bool ((lookD (enc k) (kvs.map fun p => (enc p.1, enc p.2))).isSome != true)) else none) = _
  rw [goodKey_dE, lookD_dE, Option.isSome_map, look_isSome]; simp
theorem sub_tupK {kvs : List (D × D)} {ds : List D} : subD (.dict kvs) (.tuple ds) = if goodKey (.tuple ds) kvs then lookD (.tuple ds) kvs else none := rfl
theorem sub_dE [DecidableEq κ] [EncT κ] {k : κ} {v : υ} {kvs : List (κ × υ)} (h : look k kvs = some v) : subD (dE kvs) (enc k) = some (enc v) := by
  obtain ⟨ds, e⟩ := isTup_inv (EncT.tu k)
  have g := goodKey_dE k kvs
  have l := lookD_dE k kvs
  unfold dE
  rw [e] at g l ⊢
  rw [sub_tupK, g, l, h]; rfl
theorem putD_new {k v : D} {kvs : List (D × D)} (h : lookD k kvs = none) : putD k v kvs = kvs ++ [(k, v)] := by
  unfold putD; rw [h]; rfl
theorem putAll_dE [DecidableEq κ] : ∀ (ps kvs : List (κ × υ)), ((kvs ++ ps).map (·.1)).Nodup → putAll (kvs.map fun p => ((enc p.1 : D), (enc p.2 : D))) (ps.map fun p => (enc p.1, enc p.2)) = (kvs ++ ps).map fun p => (enc p.1, enc p.2)
  | [], kvs, _ => by simp [putAll]
  | p :: ps, kvs, nd => by
    have e : kvs ++ p :: ps = (kvs ++ [p]) ++ ps := by simp
    have ih := putAll_dE ps (kvs ++ [p]) (by rw [← e]; exact nd)
    have hn : look p.1 kvs = none := by
      rw [look_none]
      rw [List.map_append, List.nodup_append] at nd
      intro h
      exact nd.2.2 _ h _ (by simp) rfl
    have hl : lookD (enc p.1) (kvs.map fun p => ((enc p.1 : D), (enc p.2 : D))) = none := by rw [lookD_dE, hn]; rfl
    rw [e, ← ih]
    unfold putAll
    rw [List.map_cons, List.foldl_cons, putD_new hl, List.map_append]; rfl
theorem pairsOf_map : ∀ ps : List (κ × υ), pairsOf (ps.map enc) = some (ps.map fun p => (enc p.1, enc p.2))
  | [] => rfl
  | p :: ps => by
    have e : pairOf (enc p) = some (enc p.1, enc p.2) := rfl
    rw [List.map_cons]
    unfold pairsOf
    rw [e, pairsOf_map ps]; rfl
theorem upd_dE [DecidableEq κ] [EncT κ] {kvs ps : List (κ × υ)} (nd : ((kvs ++ ps).map (·.1)).Nodup) (hl : kvs.length + ps.length ≤ 16777216) : updO (dE kvs) (.list (ps.map enc)) = some (dE (kvs ++ ps)) := by
  have h := putAll_dE ps kvs nd
  unfold dE updO
  show (match pairsOf (ps.map enc) with
    | some qs => if tupKeys (kvs.map fun (p : κ × υ) => ((enc p.1 : D), (enc p.2 : D))) && tupKeys qs && fits ((kvs.map fun (p : κ × υ) => ((enc p.1 : D), (enc p.2 : D))).length + qs.length) then some (PyData.dict (putAll (kvs.map fun (p : κ × υ) => ((enc p.1 : D), (enc p.2 : D))) qs)) else none
    | none => none) = _
  rw [pairsOf_map]
  show (if tupKeys (kvs.map fun (p : κ × υ) => ((enc p.1 : D), (enc p.2 : D))) && tupKeys (ps.map fun (p : κ × υ) => ((enc p.1 : D), (enc p.2 : D))) && fits ((kvs.map fun (p : κ × υ) => ((enc p.1 : D), (enc p.2 : D))).length + (ps.map fun (p : κ × υ) => ((enc p.1 : D), (enc p.2 : D))).length) then some (PyData.dict (putAll (kvs.map fun (p : κ × υ) => ((enc p.1 : D), (enc p.2 : D))) (ps.map fun (p : κ × υ) => ((enc p.1 : D), (enc p.2 : D))))) else none) = _
  rw [tupKeys, tupKeys_dE, tupKeys, tupKeys_dE, List.length_map, List.length_map, fits_of hl, h]; rfl
theorem dict_dE [DecidableEq κ] [EncT κ] {ps : List (κ × υ)} (nd : (ps.map (·.1)).Nodup) (hl : ps.length ≤ 16777216) : dictB [.tuple (ps.map enc)] = some (dE ps) ∧ dictB [.list (ps.map enc)] = some (dE ps) := by
  have h := putAll_dE ps [] nd
  have e : (match pairsOf (ps.map enc) with
    | some ps => if tupKeys ps && fits ps.length then some (PyData.dict (putAll [] ps)) else none
    | none => none) = some (dE ps) := by
    rw [pairsOf_map]
    show (if tupKeys (ps.map fun p => ((enc p.1 : D), (enc p.2 : D))) && fits (ps.map fun p => ((enc p.1 : D), (enc p.2 : D))).length then some (PyData.dict (putAll [] (ps.map fun p => ((enc p.1 : D), (enc p.2 : D))))) else none) = _
    rw [tupKeys, tupKeys_dE, List.length_map, fits_of hl]
    have h : putAll [] (ps.map fun p => ((enc p.1 : D), (enc p.2 : D))) = _ := h
    rw [h]; rfl
  exact ⟨e, e⟩
theorem notNone_dE [EncT κ] (kvs : List (κ × υ)) : (kvs.map fun p => ((enc p.1 : D), (enc p.2 : D))).all (fun p => notNone p.1) = true := by
  rw [List.all_eq_true]
  intro p hp
  obtain ⟨q, _, rfl⟩ := List.mem_map.mp hp
  obtain ⟨ds, e⟩ := isTup_inv (EncT.tu q.1)
  show notNone (enc q.1) = true
  rw [e]; rfl
theorem pairsD_dE (kvs : List (κ × υ)) : pairsD (kvs.map fun p => ((enc p.1 : D), (enc p.2 : D))) = kvs.map enc := by
  unfold pairsD; rw [List.map_map]; rfl
theorem sitems_dE [EncT κ] {kvs : List (κ × υ)} (hs : sortOk (kvs.map enc) = true) (hl : kvs.length ≤ 16777216) : sitemsD (dE kvs) = some (.list ((srt kvs).map enc)) := by
  show (if (kvs.map fun p => ((enc p.1 : D), (enc p.2 : D))).all (fun p => notNone p.1) && sortOk (pairsD (kvs.map fun p => ((enc p.1 : D), (enc p.2 : D)))) && (pairsD (kvs.map fun p => ((enc p.1 : D), (enc p.2 : D)))).all imm && fits _ then some (PyData.list ((pairsD _).mergeSort leD)) else none) = _
  rw [pairsD_dE, notNone_dE, hs, all_imm, List.length_map, fits_of hl, map_srt]; rfl
theorem src_keys [EncT κ] (kvs : List (κ × υ)) : srcD .keys (dE kvs) = some ((kvs.map (·.1)).map enc) := by
  show (if (kvs.map fun p => ((enc p.1 : D), (enc p.2 : D))).all (fun p => notNone p.1) then some ((kvs.map fun p => ((enc p.1 : D), (enc p.2 : D))).map (·.1)) else none) = _
  rw [notNone_dE, List.map_map, List.map_map]; rfl
theorem src_items [EncT κ] (kvs : List (κ × υ)) : srcD .items (.list [dE kvs]) = some (kvs.map enc) := by
  show (if (kvs.map fun p => ((enc p.1 : D), (enc p.2 : D))).all (fun p => notNone p.1) then some ((kvs.map fun p => ((enc p.1 : D), (enc p.2 : D))).map fun p => PyData.tuple [p.1, p.2]) else none) = _
  rw [notNone_dE, List.map_map]; rfl

/-! subscripts -/
theorem atI_map {γ δ : Type} (f : γ → δ) (xs : List γ) (i : Int) : L2.atI (xs.map f) i = (L2.atI xs i).map f := by
  unfold L2.atI
  rw [List.length_map]
  cases L2.ixN xs.length i with
  | none => rfl
  | some j => show (xs.map f)[j]? = (xs[j]?).map f; rw [List.getElem?_map]
theorem atI_nn {γ : Type} {xs : List γ} {i : Int} (h0 : 0 ≤ i) (h : i < xs.length) : L2.atI xs i = xs[i.toNat]? := by
  unfold L2.atI L2.ixN
  rw [if_pos h0, if_pos h]; rfl
theorem atI_get {γ : Type} {xs : List γ} {i : Int} (h0 : 0 ≤ i) (h : i < xs.length) : ∃ x, L2.atI xs i = some x ∧ xs[i.toNat]? = some x := by
  have h1 : i.toNat < xs.length := by omega
  exact ⟨xs[i.toNat], by rw [atI_nn h0 h, List.getElem?_eq_getElem h1], List.getElem?_eq_getElem h1⟩
theorem atI_last {γ : Type} {xs : List γ} (h : xs ≠ []) : L2.atI xs (-1) = xs.getLast? := by
  unfold L2.atI L2.ixN
  have : 0 < xs.length := List.length_pos_iff.mpr h
  rw [if_neg (by omega), if_pos (by omega)]
  show xs[_]? = _
  rw [List.getLast?_eq_getElem?]
  congr 1
  omega
theorem subT {xs : List α} {i : Int} {x : α} (h : L2.atI xs i = some x) : subD (.tuple (xs.map enc)) (.int i) = some (enc x) := by
  show L2.atI (xs.map enc) i = _
  rw [atI_map, h]; rfl
theorem subL {xs : List α} {i : Int} {x : α} (h : L2.atI xs i = some x) : subD (.list (xs.map enc)) (.int i) = some (enc x) := by
  show L2.atI (xs.map enc) i = _
  rw [atI_map, h]; rfl

/-! sources -/
def rangeI (j : Int) : List Int := (List.range j.toNat).map fun (k : Nat) => (k : Int)
theorem mem_rangeI {i j : Int} : i ∈ rangeI j ↔ 0 ≤ i ∧ i < j := by
  unfold rangeI
  rw [List.mem_map]
  constructor
  · rintro ⟨k, h1, rfl⟩
    rw [List.mem_range] at h1
    omega
  · rintro ⟨h1, h2⟩
    exact ⟨i.toNat, List.mem_range.mpr (by omega), by omega⟩
theorem small_of {j : Int} (h0 : -4611686018427387904 ≤ j) (h1 : j < 4611686018427387904) : small j = true := decide_eq_true ⟨h0, h1⟩
theorem src_rng1 {j : Int} (h0 : -4611686018427387904 ≤ j) (h1 : j < 4611686018427387904) : srcD .rng1 (.list [.int j]) = some ((rangeI j).map enc) := by
  show (if small j then some ((List.range j.toNat).map fun (i : Nat) => PyData.int (0 + (i : Int))) else none) = _
  rw [small_of h0 h1, if_pos rfl]
  unfold rangeI
  rw [List.map_map]
  congr 1
  exact List.map_congr_left fun k _ => by show PyData.int (0 + (k : Int)) = PyData.int k; rw [Int.zero_add]
def rangeI2 (i j : Int) : List Int := (List.range (j - i).toNat).map fun (k : Nat) => i + (k : Int)
theorem mem_rangeI2 {a i j : Int} : a ∈ rangeI2 i j ↔ i ≤ a ∧ a < j := by
  unfold rangeI2
  rw [List.mem_map]
  constructor
  · rintro ⟨k, h1, rfl⟩
    rw [List.mem_range] at h1
    omega
  · rintro ⟨h1, h2⟩
    exact ⟨(a - i).toNat, List.mem_range.mpr (by omega), by omega⟩
theorem src_rng2 {i j : Int} (h0 : -4611686018427387904 ≤ i) (h1 : i < 4611686018427387904) (h2 : -4611686018427387904 ≤ j) (h3 : j < 4611686018427387904) : srcD .rng2 (.list [.int i, .int j]) = some ((rangeI2 i j).map enc) := by
  show (if small i && small j then some ((List.range (j - i).toNat).map fun (k : Nat) => PyData.int (i + (k : Int))) else none) = _
  rw [small_of h0 h1, small_of h2 h3]
  unfold rangeI2
  rw [List.map_map]; rfl
def rangeD (i j : Int) : List Int := (List.range (i - j).toNat).map fun (k : Nat) => i - (k : Int)
theorem src_rng3 {i j : Int} (h0 : -4611686018427387904 ≤ i) (h1 : i < 4611686018427387904) (h2 : -4611686018427387904 ≤ j) (h3 : j < 4611686018427387904) : srcD .rng3 (.list [.int i, .int j, .int (-1)]) = some ((rangeD i j).map enc) := by
  show (if decide ((-1 : Int) = -1) && small i && small j then some ((List.range (i - j).toNat).map fun (k : Nat) => PyData.int (i + (k : Int) * -1)) else none) = _
  rw [small_of h0 h1, small_of h2 h3]
  unfold rangeD
  rw [List.map_map]
  show some _ = some _
  congr 1
  exact List.map_congr_left fun k _ => by show PyData.int (i + (k : Int) * -1) = PyData.int (i - k); congr 1; omega
theorem src_tup (xs : List α) : srcD .seq (.tuple (xs.map enc)) = some (xs.map enc) := rfl
theorem src_lst (xs : List α) : srcD .seq (.list (xs.map enc)) = some (xs.map enc) := rfl
theorem zipWith_enc : ∀ (xs : List α) (ys : List β), List.zipWith (fun x y => PyData.tuple [x, y]) (xs.map enc) (ys.map enc) = (xs.zip ys).map enc
  | [], _ => by simp
  | _ :: _, [] => by simp
  | x :: xs, y :: ys => by rw [List.map_cons, List.map_cons, List.zipWith_cons_cons, zipWith_enc xs ys]; rfl
theorem src_zipT (xs : List α) (ys : List β) : srcD .zip (.list [.tuple (xs.map enc), .tuple (ys.map enc)]) = some ((xs.zip ys).map enc) := by
  rw [← zipWith_enc]; rfl
theorem src_zipL (xs : List α) (ys : List β) : srcD .zip (.list [.list (xs.map enc), .list (ys.map enc)]) = some ((xs.zip ys).map enc) := by
  rw [← zipWith_enc]; rfl
def enumI {γ : Type} (i : Nat) : List γ → List (Int × γ)
  | [] => []
  | x :: xs => ((i : Int), x) :: enumI (i + 1) xs
theorem enumFrom_enc : ∀ (i : Nat) (xs : List α), enumFrom i (xs.map enc) = (enumI i xs).map enc
  | _, [] => rfl
  | i, x :: xs => by rw [List.map_cons, enumFrom, enumFrom_enc (i + 1) xs]; rfl
theorem src_enumT (xs : List α) : srcD .enum (.list [.tuple (xs.map enc)]) = some ((enumI 0 xs).map enc) := by
  rw [← enumFrom_enc]; rfl
theorem src_enumL (xs : List α) : srcD .enum (.list [.list (xs.map enc)]) = some ((enumI 0 xs).map enc) := by
  rw [← enumFrom_enc]; rfl
theorem mem_enumI {γ : Type} {p : Int × γ} : ∀ {i : Nat} {xs : List γ}, p ∈ enumI i xs ↔ ∃ j : Nat, p.1 = ((i + j : Nat) : Int) ∧ xs[j]? = some p.2
  | i, [] => by simp [enumI]
  | i, x :: xs => by
    rw [enumI, List.mem_cons, mem_enumI]
    constructor
    · rintro (rfl | ⟨j, h1, h2⟩)
      · exact ⟨0, rfl, rfl⟩
      · exact ⟨j + 1, by rw [h1]; congr 1; omega, h2⟩
    · rintro ⟨j, h1, h2⟩
      cases j with
      | zero => left; obtain ⟨a, b⟩ := p; simp at h1 h2; simp [h1, h2]
      | succ j => right; exact ⟨j, by rw [h1]; congr 1; omega, h2⟩

/-! built-in functions -/
theorem b_len {γ : Type} (f : γ → D) (xs : List γ) : lenB [.list (xs.map f)] = some (.int xs.length) := by
  show some (PyData.int (xs.map f).length) = _; rw [List.length_map]
theorem b_lenT {γ : Type} (f : γ → D) (xs : List γ) : lenB [.tuple (xs.map f)] = some (.int xs.length) := by
  show some (PyData.int (xs.map f).length) = _; rw [List.length_map]
theorem boolsOf_f {γ : Type} (p : γ → Bool) (xs : List γ) : boolsOf (xs.map fun x => .bool (p x)) = some (xs.map p) := by
  rw [← boolsOf_map, List.map_map]; rfl
theorem b_all {γ : Type} (p : γ → Bool) (xs : List γ) : allB [.list (xs.map fun x => .bool (p x))] = some (.bool (xs.all p)) := by
  show (boolsOf (xs.map fun x => .bool (p x))).map (fun bs => PyData.bool (bs.all id)) = _
  rw [boolsOf_f]; show some (PyData.bool ((xs.map p).all id)) = _; rw [List.all_map]; rfl
theorem b_any {γ : Type} (p : γ → Bool) (xs : List γ) : anyB [.list (xs.map fun x => .bool (p x))] = some (.bool (xs.any p)) := by
  show (boolsOf (xs.map fun x => .bool (p x))).map (fun bs => PyData.bool (bs.any id)) = _
  rw [boolsOf_f]; show some (PyData.bool ((xs.map p).any id)) = _; rw [List.any_map]; rfl
theorem intsOf_f {γ : Type} (p : γ → Int) (xs : List γ) : intsOf (xs.map fun x => .int (p x)) = some (xs.map p) := by
  rw [← intsOf_map, List.map_map]; rfl
theorem b_sum {γ : Type} (p : γ → Int) (xs : List γ) : sumB [.list (xs.map fun x => .int (p x))] = some (.int (xs.map p).sum) := by
  show (intsOf (xs.map fun x => .int (p x))).map (fun bs => PyData.int bs.sum) = _
  rw [intsOf_f]; rfl
def mxI : List Int → Int
  | [] => 0
  | x :: xs => maxI x xs
theorem b_max {γ : Type} (p : γ → Int) {xs : List γ} (h : xs ≠ []) : maxB [.list (xs.map fun x => .int (p x))] = some (.int (mxI (xs.map p))) := by
  cases xs with
  | nil => exact absurd rfl h
  | cons x xs =>
    have e := intsOf_f p (x :: xs)
    show (match intsOf ((x :: xs).map fun x => .int (p x)) with
    | some (n :: ns) => some (PyData.int (maxI n ns))
    | _ => none) = _
    rw [e]; rfl
theorem mxI_mem {xs : List Int} (h : xs ≠ []) : mxI xs ∈ xs := by
  cases xs with
  | nil => exact absurd rfl h
  | cons x xs => exact maxI_mem x xs
theorem mxI_le {xs : List Int} {y : Int} (h : y ∈ xs) : y ≤ mxI xs := by
  cases xs with
  | nil => cases h
  | cons x xs => exact maxI_le x xs y h
def minE (x : α) (xs : List α) : α := xs.foldl (fun b y => if ltE y b then y else b) x
theorem minF_enc (x : α) : ∀ (xs : List α), minF (enc x) (xs.map enc) = enc (minE x xs) := by
  intro xs
  unfold minF minE
  induction xs generalizing x with
  | nil => rfl
  | cons y ys ih =>
    rw [List.map_cons, List.foldl_cons, List.foldl_cons]
    have e : (if dataLt (enc y) (enc x) = true then (enc y : D) else enc x) = enc (if ltE y x = true then y else x) := by
      unfold ltE; split <;> rfl
    rw [e]; exact ih _
theorem minE_mem (x : α) : ∀ xs : List α, minE x xs ∈ x :: xs := by
  intro xs
  unfold minE
  induction xs generalizing x with
  | nil => exact List.mem_cons_self
  | cons y ys ih =>
    rw [List.foldl_cons]
    rcases List.mem_cons.mp (ih (if ltE y x = true then y else x)) with h | h
    · rw [h]; split
      · exact List.mem_cons_of_mem _ List.mem_cons_self
      · exact List.mem_cons_self
    · exact List.mem_cons_of_mem _ (List.mem_cons_of_mem _ h)
theorem isN_enc [EncT α] (x : α) : isN (enc x) = false := by
  obtain ⟨ds, e⟩ := isTup_inv (EncT.tu x)
  rw [e]; rfl
theorem b_min [EncT α] (x : α) (xs : List α) : minB [.list ((x :: xs).map enc)] = some (enc (minE x xs)) := by
  show (if dp 60 (.list ((x :: xs).map enc)) && alikeB ((x :: xs).map enc) && !isN (enc x) then some (minF (enc x) (xs.map enc)) else none) = _
  have := EncT.de (α := α)
  rw [dpl (by omega), alikeB_map, isN_enc, minF_enc]; rfl

/-! slices -/
theorem sl_to (xs : List D) {k : Nat} : cutD xs none (some (k : Int)) = xs.take k := by
  unfold cutD HT.sIx
  simp only
  rw [if_neg (by omega)]
  show List.take (min ((k : Int)).toNat xs.length - 0) (List.drop 0 xs) = _
  rw [List.drop_zero, Nat.sub_zero, Int.toNat_natCast]
  by_cases h : k ≤ xs.length
  · rw [Nat.min_eq_left h]
  · rw [Nat.min_eq_right (by omega), List.take_of_length_le (Nat.le_refl _), List.take_of_length_le (by omega)]
theorem sl_from (xs : List D) {k : Nat} : cutD xs (some (k : Int)) none = xs.drop k := by
  unfold cutD HT.sIx
  simp only
  rw [if_neg (by omega)]
  show List.take (xs.length - min ((k : Int)).toNat xs.length) (List.drop (min ((k : Int)).toNat xs.length) xs) = _
  rw [Int.toNat_natCast]
  by_cases h : k ≤ xs.length
  · rw [Nat.min_eq_left h, List.take_of_length_le (by rw [List.length_drop]; omega)]
  · rw [Nat.min_eq_right (by omega), Nat.sub_self, List.drop_of_length_le (by omega : xs.length ≤ k)]; rfl
end
mutual
def tupD : D → D
  | .list ds => .tuple (tupDL ds)
  | .tuple ds => .tuple (tupDL ds)
  | d => d
def tupDL : List D → List D
  | [] => []
  | d :: ds => tupD d :: tupDL ds
end
theorem tupDL_map (ds : List D) : tupDL ds = ds.map tupD := by
  induction ds with
  | nil => rfl
  | cons d ds ih => rw [tupDL, ih]; rfl
mutual
theorem tupD_imm : ∀ d : D, imm d = true → tupD d = d
  | .none, _ => by simp [tupD]
  | .bool _, _ => by simp [tupD]
  | .int _, _ => by simp [tupD]
  | .str _, _ => by simp [tupD]
  | .tuple ds, h => by
    have : tupDL ds = ds := tupDL_imm ds (by simpa [imm] using h)
    simp [tupD, this]
  | .list _, h => by simp [imm] at h
  | .dict _, h => by simp [imm] at h
theorem tupDL_imm : ∀ ds : List D, immL ds = true → tupDL ds = ds
  | [], _ => by simp [tupDL]
  | d :: ds, h => by
    simp only [immL, Bool.and_eq_true] at h
    rw [tupDL, tupD_imm d h.1, tupDL_imm ds h.2]
end
theorem tupD_enc {α : Type} [Enc α] (x : α) : tupD (enc x) = enc x := tupD_imm _ (Enc.imo x)
end DN

end
section
set_option Elab.async false
set_option linter.all false
set_option autoImplicit false
set_option maxRecDepth 100000
set_option maxHeartbeats 400000
/-! steps by tactics -/
namespace DN
open PySem DL
theorem o_mod {a b : Int} (h : 0 < b) : o2 .mod (.int a) (.int b) = some (.int (a % b)) := by
  show (if decide (0 < b) = true then _ else _) = _; rw [if_pos (decide_eq_true h)]
theorem o_fdiv {a b : Int} (h : 0 < b) (h2 : b < 1073741824) : o2 .fdiv (.int a) (.int b) = some (.int (a / b)) := by
  show (if decide (0 < b ∧ b < 1073741824) = true then _ else _) = _; rw [if_pos (decide_eq_true ⟨h, h2⟩)]
theorem o_isN (d : D) : o2 .is d .none = some (.bool (isN d)) := by
  show some (PyData.bool (isN d != false)) = _; simp
theorem o_isnN (d : D) : o2 .isnot d .none = some (.bool (!isN d)) := by
  show some (PyData.bool (isN d != true)) = _; cases isN d <;> rfl
theorem o_ltI' (a b : Int) : o2 .lt (.int a) (.int b) = some (.bool (decide (a < b))) := rfl
theorem o_leI (a b : Int) : o2 .le (.int a) (.int b) = some (.bool (decide (a ≤ b))) := rfl
theorem o_gtI (a b : Int) : o2 .gt (.int a) (.int b) = some (.bool (decide (b < a))) := rfl
theorem o_geI (a b : Int) : o2 .ge (.int a) (.int b) = some (.bool (decide (b ≤ a))) := rfl
theorem o_addI (a b : Int) : o2 .add (.int a) (.int b) = some (.int (a + b)) := rfl
theorem o_subI (a b : Int) : o2 .sub (.int a) (.int b) = some (.int (a - b)) := rfl
theorem o_addT {xs ys : List D} (h : xs.length + ys.length ≤ 16777216) : o2 .add (.tuple xs) (.tuple ys) = some (.tuple (xs ++ ys)) := by
  show (if fits (xs.length + ys.length) = true then some (PyData.tuple (xs ++ ys)) else none) = _
  rw [if_pos (fits_of h)]
theorem o_addL {xs ys : List D} (h : xs.length + ys.length ≤ 16777216) : o2 .addL (.list xs) (.list ys) = some (.list (xs ++ ys)) := by
  show (if fits (xs.length + ys.length) = true then some (PyData.list (xs ++ ys)) else none) = _
  rw [if_pos (fits_of h)]
theorem o_mul {a b : Int} (h : b.natAbs < 18446744073709551616) : o2 .mul (.int a) (.int b) = some (.int (a * b)) := by
  show (if mulOk a b = true then _ else _) = _
  rw [if_pos (by unfold mulOk; rw [decide_eq_true h]; simp)]
theorem app_ok {xs : List D} {d : D} (h : xs.length + 1 ≤ 16777216) : appO (.list xs) d = some (.list (xs ++ [d])) := by
  show (if fits (xs.length + 1) = true then some (PyData.list (xs ++ [d])) else none) = _
  rw [if_pos (fits_of h)]
theorem ext_ok {xs ys : List D} (h : xs.length + ys.length ≤ 16777216) : extO (.list xs) (.list ys) = some (.list (xs ++ ys)) := by
  show (if fits (xs.length + ys.length) = true then some (PyData.list (xs ++ ys)) else none) = _
  rw [if_pos (fits_of h)]
theorem ev_to {fe : Nat → List D → M D} {e : E} {ρ : DL.Env} {u u' : List Int} {d d' : D} (h : Ev fe e ρ u d u') (he : d = d') : Ev fe e ρ u d' u' := he ▸ h
theorem sv_to {fe : Nat → List D → M D} {N : Nat} {e : S} {ρ : DL.Env} {u u' : List Int} {d d' : D} (h : Sv fe N e ρ u (.rt d) u') (he : d = d') : Sv fe N e ρ u (.rt d') u' := he ▸ h
theorem o_to {x y d d' : D} {o : O2} (h : o2 o x y = some d) (he : d = d') : o2 o x y = some d' := he ▸ h
theorem some_to {α : Type} {o : Option α} {d d' : α} (h : o = some d) (he : d = d') : o = some d' := he ▸ h
section
variable {fe : Nat → List D → M D} {ρ : DL.Env} {u u1 : List Int}
theorem ev_filterB {α : Type} {enc f : α → D} {xs : List α} {p : α → Bool} {vs : List Nat} {k : Src} {s : E} {t : Tg} {b e : E} {x : D} {ρ1 : α → DL.Env} (hs : Ev fe s ρ u x u1) (hk : srcD k x = some (xs.map enc)) (hf : xs.length ≤ 16777216) (hb : ∀ a ∈ xs, bindD t (enc a) (wipeD ρ vs) = some (ρ1 a) ∧ Ev fe b (ρ1 a) u1 (.bool (p a)) u1 ∧ (p a = true → Ev fe e (ρ1 a) u1 (f a) u1)) : Ev fe (.cl vs k s t (.cons b .nil) (.em e)) ρ u (.list ((xs.filter p).map f)) u1 :=
  ev_filter (z := fun a => .bool (p a)) hs hk hf fun a ha => ⟨(hb a ha).1, (hb a ha).2.1, rfl, (hb a ha).2.2⟩
end
theorem o_ltT {α : Type} [Enc α] [EncT α] (a b : α) : o2 .lt (enc a) (enc b) = some (.bool (ltE a b)) := by
  obtain ⟨x, e1⟩ := isTup_inv (EncT.tu a)
  obtain ⟨y, e2⟩ := isTup_inv (EncT.tu b)
  have h1 : dp 60 (enc a) = true := dpe (by have := EncT.de (α := α); omega) a
  have h2 : dp 60 (enc b) = true := dpe (by have := EncT.de (α := α); omega) b
  have h3 := Enc.ali a b
  unfold ltE
  rw [e1] at h1 h3 ⊢
  rw [e2] at h2 h3 ⊢
  show (if dp 60 (.tuple x) && dp 60 (.tuple y) && PySem.W.alike (.tuple x) (.tuple y) then some (PyData.bool (PySem.W.dataLt (.tuple x) (.tuple y))) else none) = _
  rw [h1, h2, h3]; rfl
theorem sl_t1 (xs : List D) : sliceD (some 1) none (.tuple xs) = some (.tuple (xs.drop 1)) := by
  show some (PyData.tuple (cutD xs (some ((1 : Nat) : Int)) none)) = _; rw [sl_from]
theorem sl_l1 (xs : List D) : sliceD (some 1) none (.list xs) = some (.list (xs.drop 1)) := by
  show some (PyData.list (cutD xs (some ((1 : Nat) : Int)) none)) = _; rw [sl_from]
theorem sl_tt (xs : List D) {i : Int} (h : 0 ≤ i) : sliceD none (some i) (.tuple xs) = some (.tuple (xs.take i.toNat)) := by
  obtain ⟨k, rfl⟩ : ∃ k : Nat, i = (k : Int) := ⟨i.toNat, by omega⟩
  show some (PyData.tuple (cutD xs none (some (k : Int)))) = _; rw [sl_to, Int.toNat_natCast]
theorem sl_lt (xs : List D) {i : Int} (h : 0 ≤ i) : sliceD none (some i) (.list xs) = some (.list (xs.take i.toNat)) := by
  obtain ⟨k, rfl⟩ : ∃ k : Nat, i = (k : Int) := ⟨i.toNat, by omega⟩
  show some (PyData.list (cutD xs none (some (k : Int)))) = _; rw [sl_to, Int.toNat_natCast]
theorem sl_tf (xs : List D) {i : Int} (h : 0 ≤ i) : sliceD (some i) none (.tuple xs) = some (.tuple (xs.drop i.toNat)) := by
  obtain ⟨k, rfl⟩ : ∃ k : Nat, i = (k : Int) := ⟨i.toNat, by omega⟩
  show some (PyData.tuple (cutD xs (some (k : Int)) none)) = _; rw [sl_from, Int.toNat_natCast]
theorem f_len {γ : Type} (f : γ → D) (xs : List γ) : Blt.fn .len [.list (xs.map f)] = some (.int xs.length) := b_len f xs
theorem f_lenT {γ : Type} (f : γ → D) (xs : List γ) : Blt.fn .len [.tuple (xs.map f)] = some (.int xs.length) := b_lenT f xs
theorem f_all {γ : Type} (p : γ → Bool) (xs : List γ) : Blt.fn .all [.list (xs.map fun x => .bool (p x))] = some (.bool (xs.all p)) := b_all p xs
theorem f_any {γ : Type} (p : γ → Bool) (xs : List γ) : Blt.fn .any [.list (xs.map fun x => .bool (p x))] = some (.bool (xs.any p)) := b_any p xs
theorem f_sum {γ : Type} (p : γ → Int) (xs : List γ) : Blt.fn .sum [.list (xs.map fun x => .int (p x))] = some (.int (xs.map p).sum) := b_sum p xs
theorem f_max {γ : Type} (p : γ → Int) {xs : List γ} (h : xs ≠ []) : Blt.fn .max [.list (xs.map fun x => .int (p x))] = some (.int (mxI (xs.map p))) := b_max p h
theorem f_tup {xs : List D} : Blt.fn .tuple [.list xs] = some (.tuple xs) := rfl
theorem f_tupT {xs : List D} : Blt.fn .tuple [.tuple xs] = some (.tuple xs) := rfl
/-- a statement ends in one of two ways: on to Qn, or by a return to Qr -/
structure Sp (fe : Nat → List D → M D) (N : Nat) (s : S) (ρ : DL.Env) (u : List Int) (Qn : DL.Env → List Int → Prop) (Qr : D → List Int → Prop) : Prop where
  ex : ∃ r u', evS fe N s ρ u = some (r, u') ∧ (match r with | .nx ρ' => Qn ρ' u' | .rt d => Qr d u' | _ => False)
section
variable {fe : Nat → List D → M D} {N : Nat} {ρ ρ1 : DL.Env} {u u1 u2 : List Int} {i : Nat} {e : E} {d : D} {r : S} {Qn : DL.Env → List Int → Prop} {Qr : D → List Int → Prop}
theorem sp_of_sv {s : S} {ρ' : DL.Env} (h1 : Sv fe N s ρ u (.nx ρ') u1) (h2 : Sp fe N r ρ' u1 Qn Qr) : Sp fe N (.seq s r) ρ u Qn Qr := by
  obtain ⟨x, u', h3, h4⟩ := h2
  exact ⟨x, u', by have := sv_seq h1 (r := r) (o := x) (u2 := u') h3; exact this, h4⟩
theorem sp_nil (h : Qn ρ u) : Sp fe N .nil ρ u Qn Qr := ⟨_, _, rfl, h⟩
theorem sp_set1 (h1 : Ev fe e ρ u d u1) (h2 : Sp fe N r (ρ.set i (some d)) u1 Qn Qr) : Sp fe N (.seq (.set i e) r) ρ u Qn Qr := sp_of_sv (sv_set h1) h2
theorem sp_own1 (h1 : Ev fe e ρ u d u1) (h2 : Sp fe N r (ρ.set i (some d)) u1 Qn Qr) : Sp fe N (.seq (.own i e) r) ρ u Qn Qr := sp_of_sv (sv_own h1) h2
theorem sp_bind1 {t : Tg} (h1 : Ev fe e ρ u d u1) (h3 : bindD t d ρ = some ρ1) (h2 : Sp fe N r ρ1 u1 Qn Qr) : Sp fe N (.seq (.bind t e) r) ρ u Qn Qr := sp_of_sv (sv_bind h1 h3) h2
theorem sp_par1 {is : List (Nat × Bool)} {ds : List D} (h1 : Ev fe e ρ u (.list ds) u1) (h3 : setAll (is.map (·.1)) ds ρ = some ρ1) (h2 : Sp fe N r ρ1 u1 Qn Qr) : Sp fe N (.seq (.par is e) r) ρ u Qn Qr := sp_of_sv (sv_par h1 h3) h2
theorem sp_app1 {l z : D} (h1 : Ev fe e ρ u d u1) (h2 : (ρ[i]?.bind id) = some l) (h3 : appO l d = some z) (h4 : Sp fe N r (ρ.set i (some z)) u1 Qn Qr) : Sp fe N (.seq (.app i e) r) ρ u Qn Qr := sp_of_sv (sv_app h1 h2 h3) h4
theorem sp_ext1 {l z : D} (h1 : Ev fe e ρ u d u1) (h2 : (ρ[i]?.bind id) = some l) (h3 : extO l d = some z) (h4 : Sp fe N r (ρ.set i (some z)) u1 Qn Qr) : Sp fe N (.seq (.ext i e) r) ρ u Qn Qr := sp_of_sv (sv_ext h1 h2 h3) h4
theorem sp_upd1 {l z : D} (h1 : Ev fe e ρ u d u1) (h2 : (ρ[i]?.bind id) = some l) (h3 : updO l d = some z) (h4 : Sp fe N r (ρ.set i (some z)) u1 Qn Qr) : Sp fe N (.seq (.upd i e) r) ρ u Qn Qr := sp_of_sv (sv_upd h1 h2 h3) h4
theorem sp_put1 {a : E} {k l z : D} (h1 : Ev fe e ρ u d u1) (h0 : Ev fe a ρ u1 k u2) (h2 : (ρ[i]?.bind id) = some l) (h3 : putO l k d = some z) (h4 : Sp fe N r (ρ.set i (some z)) u2 Qn Qr) : Sp fe N (.seq (.put i a e) r) ρ u Qn Qr := sp_of_sv (sv_put h1 h0 h2 h3) h4
theorem sp_urnS1 {j : Nat} {m : Int} (h1 : Ev fe e ρ u (.int m) u1) (h2 : j < u1.length) (h3 : Sp fe N r ρ (u1.set j m) Qn Qr) : Sp fe N (.seq (.urnS j e) r) ρ u Qn Qr := sp_of_sv (sv_urnS h1 h2) h3
theorem sp_box1 {v : List Int} (h1 : Ev fe e ρ u d u1) (h2 : intsL d = some v) (h3 : Sp fe N r (ρ.set i none) v Qn Qr) : Sp fe N (.seq (.box i e) r) ρ u Qn Qr := sp_of_sv (sv_box h1 h2) h3
theorem sp_aug1 {o : O2} {x y z : D} (h0 : (ρ[i]?.bind id) = some x) (h1 : Ev fe e ρ u y u1) (h3 : augO o x y = some z) (h4 : Sp fe N r (ρ.set i (some z)) u1 Qn Qr) : Sp fe N (.seq (.aug i o e) r) ρ u Qn Qr := sp_of_sv (sv_aug h0 h1 h3) h4
theorem sp_free1 (h : Sp fe N r ρ u Qn Qr) : Sp fe N (.seq (.free i) r) ρ u Qn Qr := sp_of_sv sv_free h
theorem sp_nil1 (h : Sp fe N r ρ u Qn Qr) : Sp fe N (.seq .nil r) ρ u Qn Qr := sp_of_sv sv_nil h
theorem sp_ret1 (h1 : Ev fe e ρ u d u1) (h2 : Qr d u1) : Sp fe N (.seq (.ret e) r) ρ u Qn Qr := ⟨_, _, sv_ret1 h1, h2⟩
theorem sp_retN1 (h2 : Qr .none u) : Sp fe N (.seq .retN r) ρ u Qn Qr := ⟨_, _, sv_seq_rt sv_retN, h2⟩
theorem sp_retO1 (h1 : (ρ[i]?.bind id) = some d) (h2 : Qr d u) : Sp fe N (.seq (.retO i) r) ρ u Qn Qr := ⟨_, _, sv_seq_rt (sv_retO h1), h2⟩
theorem sp_assoc {a b : S} (h : Sp fe N (.seq a (.seq b r)) ρ u Qn Qr) : Sp fe N (.seq (.seq a b) r) ρ u Qn Qr := by
  obtain ⟨x, u', h1, h2⟩ := h
  refine ⟨x, u', ?_, h2⟩
  rw [← h1, evS, evS, evS]
  unfold bd
  cases evS fe N a ρ u with
  | none => rfl
  | some p =>
    obtain ⟨x, u9⟩ := p
    cases x with
    | nx ρ' =>
      show _ = evS fe N (.seq b r) ρ' u9
      rw [evS]; rfl
    | _ => rfl
theorem sp_if1 {c : E} {a b : S} {z : D} {p : Bool} (h1 : Ev fe c ρ u z u1) (ht : truD z = some p) (h2 : p = true → Sp fe N (.seq a r) ρ u1 Qn Qr) (h3 : p = false → Sp fe N (.seq b r) ρ u1 Qn Qr) : Sp fe N (.seq (.ifs c a b) r) ρ u Qn Qr := by
  have go : ∀ s : S, evS fe N (.ifs c a b) ρ u = evS fe N s ρ u1 → Sp fe N (.seq s r) ρ u1 Qn Qr → Sp fe N (.seq (.ifs c a b) r) ρ u Qn Qr := fun s e ⟨x, u', k1, k2⟩ => by
    refine ⟨x, u', ?_, k2⟩
    rw [evS] at k1 ⊢
    unfold bd at k1 ⊢
    rw [e]; exact k1
  have e : evS fe N (.ifs c a b) ρ u = (if p = true then evS fe N a ρ u1 else evS fe N b ρ u1) := by
    rw [evS, bd_eq (ev_out h1), truM, ht]; cases p <;> rfl
  cases p with
  | true => exact go a e (h2 rfl)
  | false => exact go b e (h3 rfl)
theorem sp_mono {s : S} {Qn' : DL.Env → List Int → Prop} {Qr' : D → List Int → Prop} (h : Sp fe N s ρ u Qn' Qr') (h1 : ∀ ρ u, Qn' ρ u → Qn ρ u) (h2 : ∀ d u, Qr' d u → Qr d u) : Sp fe N s ρ u Qn Qr := by
  obtain ⟨x, u', k1, k2⟩ := h
  refine ⟨x, u', k1, ?_⟩
  cases x with
  | nx ρ' => exact h1 _ _ k2
  | rt d => exact h2 _ _ k2
  | bk ρ' => exact k2
  | ct ρ' => exact k2
/-- a loop and what follows -/
theorem sp_for1 {α : Type} {enc : α → D} {xs : List α} {k : Src} {s : E} {t : Tg} {b : S} {x : D} (P : List α → DL.Env → List Int → Prop) (hs : Ev fe s ρ u x u1) (hk : srcD k x = some (xs.map enc)) (h0 : P xs ρ u1)
    (h : ∀ a r ρ u, P (a :: r) ρ u → ∃ ρ1, bindD t (enc a) ρ = some ρ1 ∧ Sp fe N b ρ1 u (fun ρ' u' => P r ρ' u') Qr) (h2 : ∀ ρ' u', P [] ρ' u' → Sp fe N r ρ' u' Qn Qr) : Sp fe N (.seq (.fr k s t b) r) ρ u Qn Qr := by
  rcases sv_fr (Q := Qr) P hs hk h0 (fun a r ρ u hp => by
    obtain ⟨ρ1, h3, y, u', h4, h5⟩ := h a r ρ u hp
    cases y with
    | nx ρ' => exact .inl ⟨ρ', u', .inl ⟨ρ1, h3, h4⟩, h5⟩
    | rt d => exact .inr ⟨d, u', ⟨ρ1, h3, h4⟩, h5⟩
    | bk ρ' => exact h5.elim
    | ct ρ' => exact h5.elim) with ⟨ρ', u', e, hp⟩ | ⟨d', u', e, hq⟩
  · exact sp_of_sv e (h2 _ _ hp)
  · exact ⟨_, _, sv_seq_rt e, hq⟩
/-- a while that never leaves, and what follows -/
theorem sp_whl1 {c : E} {b : S} (P : Nat → DL.Env → List Int → Prop) (m : Nat) (hm : m < N) (h0 : P m ρ u) (h : ∀ m ρ u, P m ρ u → ∃ x k, Ev fe c ρ u x u ∧ truD x = some k ∧ (k = true → Sp fe N b ρ u (fun ρ' u' => ∃ m', m' < m ∧ P m' ρ' u') (fun _ _ => False)))
    (h2 : ∀ m' ρ' u' x, P m' ρ' u' → Ev fe c ρ' u' x u' → truD x = some false → Sp fe N r ρ' u' Qn Qr) : Sp fe N (.seq (.whl c b) r) ρ u Qn Qr := by
  obtain ⟨m', ρ', u', x, e, hp, hx, ht⟩ := sv_whl P hm h0 (fun m ρ u hp => by
    obtain ⟨x, k, k1, k2, k3⟩ := h m ρ u hp
    refine ⟨x, k, k1, k2, fun z => ?_⟩
    obtain ⟨y, u', h4, h5⟩ := k3 z
    cases y with
    | nx ρ' => obtain ⟨m', h6, h7⟩ := h5; exact ⟨m', ρ', u', h4, h6, h7⟩
    | rt d => exact h5.elim
    | bk ρ' => exact h5.elim
    | ct ρ' => exact h5.elim)
  exact sp_of_sv e (h2 _ _ _ _ hp hx ht)
theorem fn_sp {g : FnD} {ds : List D} {Q : D → Prop} (hu : g.urn = false) (hl : ds.length = g.ps.length) (h : Sp fe N g.body (startE g ds) [] (fun _ _ => Q .none) (fun d _ => Q d)) : ∃ d, runFn fe N g ds = rt d ∧ Q d := by
  obtain ⟨x, u', h1, h2⟩ := h
  cases x with
  | nx ρ' =>
    refine ⟨.none, ?_, h2⟩
    funext u
    unfold runFn
    simp only [hu, Bool.false_eq_true, if_false, Nat.add_zero, hl, if_true, h1]
    rfl
  | rt d =>
    refine ⟨d, ?_, h2⟩
    funext u
    unfold runFn
    simp only [hu, Bool.false_eq_true, if_false, Nat.add_zero, hl, if_true, h1]
    rfl
  | bk ρ' => exact h2.elim
  | ct ρ' => exact h2.elim
theorem fn_spU {g : FnD} {ds : List D} {Q : D → List Int → Prop} (hu : g.urn = true) (hl : ds.length + 1 = g.ps.length) (h : Sp fe N g.body (startE g ds) u (fun _ u' => Q .none u') Q) : ∃ d u', runFn fe N g ds u = some (d, u') ∧ Q d u' := by
  obtain ⟨x, u', h1, h2⟩ := h
  cases x with
  | nx ρ' => exact ⟨.none, u', by unfold runFn; simp only [hu, if_true, hl, h1], h2⟩
  | rt d => exact ⟨d, u', by unfold runFn; simp only [hu, if_true, hl, h1], h2⟩
  | bk ρ' => exact h2.elim
  | ct ρ' => exact h2.elim
end



mutual
def okD : Nat → D → Bool
  | 0, .list _ => false
  | 0, .tuple _ => false
  | n + 1, .list ds => decide (ds.length ≤ 16777216) && okDL n ds
  | n + 1, .tuple ds => decide (ds.length ≤ 16777216) && okDL n ds
  | _, .dict _ => false
  | _, _ => true
def okDL : Nat → List D → Bool
  | _, [] => true
  | n, d :: ds => okD n d && okDL n ds
end
theorem okDL_mem {n : Nat} : ∀ {ds : List D}, okDL n ds = true → ∀ d ∈ ds, okD n d = true
  | d :: ds, h, x, hx => by
    simp only [okDL, Bool.and_eq_true] at h
    rcases List.mem_cons.mp hx with rfl | hx
    · exact h.1
    · exact okDL_mem h.2 x hx
end DN

end
local macro_rules | `(tactic| and_intros) => `(tactic| repeat (first
  | (intro h0; exact absurd h0 (by decide))
  | intro _
  | (first
  | ((with_reducible apply DN.ev_var); exact rfl)
  | ((with_reducible apply DN.ev_own); exact rfl)
  | with_reducible exact DN.ev_int | with_reducible exact DN.ev_bl | with_reducible exact DN.ev_non | with_reducible exact DN.ev_no | with_reducible exact DN.ev_str | with_reducible exact DN.ev_dict0 | with_reducible exact DN.ev_nil
  | with_reducible apply DN.ev_cons
  | with_reducible apply DN.ev_star
  | with_reducible apply DN.sp_free1
  | with_reducible apply DN.ev_op
  | with_reducible apply DN.ev_ix
  | with_reducible apply DN.ev_blt
  | with_reducible apply DN.ev_not
  | with_reducible apply DN.ev_neg
  | with_reducible apply DN.ev_isi
  | with_reducible apply DN.ev_chain
  | with_reducible apply DN.ev_and
  | with_reducible apply DN.ev_or
  | with_reducible apply DN.ev_ifx
  | apply DN.ev_tup
  | with_reducible apply DN.ev_lst
  | with_reducible apply DN.ev_sset
  | with_reducible apply DN.ev_rev
  | with_reducible apply DN.ev_sl
  | with_reducible apply DN.ev_sitems
  | with_reducible apply DN.ev_call
  | with_reducible apply DN.ev_callB
  | with_reducible apply DN.sp_ret1
  | with_reducible apply DN.sp_set1
  | with_reducible apply DN.sp_own1
  | with_reducible apply DN.sp_par1
  | with_reducible apply DN.sp_bind1
  | with_reducible apply DN.sp_app1
  | with_reducible apply DN.sp_upd1
  | with_reducible apply DN.sp_ext1
  | with_reducible apply DN.sp_put1
  | with_reducible apply DN.sp_nil1
  | with_reducible apply DN.sp_retN1
  | ((with_reducible apply DN.sp_retO1); exact rfl)
  | with_reducible apply DN.sp_assoc
  | with_reducible apply DN.sp_if1
  | with_reducible apply DN.sp_nil)
  | (first
  | with_reducible_and_instances assumption
  | with_reducible exact DN.sl_t1 _ | with_reducible exact DN.sl_l1 _
  | with_reducible_and_instances exact DN.o_eqI _ _ | with_reducible_and_instances exact DN.o_neI _ _ | with_reducible_and_instances exact DN.o_ltI' _ _ | with_reducible_and_instances exact DN.o_leI _ _ | with_reducible_and_instances exact DN.o_gtI _ _ | with_reducible_and_instances exact DN.o_geI _ _ | with_reducible_and_instances exact DN.o_addI _ _ | with_reducible_and_instances exact DN.o_subI _ _
  | with_reducible exact DN.o_neL0 _ (by decide) | with_reducible exact DN.o_eqL0 _ (by decide)
  | with_reducible_and_instances exact DN.o_isN _ | with_reducible_and_instances exact DN.o_isnN _
  | ((with_reducible_and_instances apply DN.o_mod); first | assumption | omega) | ((with_reducible_and_instances apply DN.o_fdiv) <;> first | assumption | omega)
  | with_reducible_and_instances exact DN.o_inT (α := Int) _ _ (by decide) | with_reducible_and_instances exact DN.o_niT (α := Int) _ _ (by decide) | with_reducible_and_instances exact DN.o_inL (α := Int) _ _ (by decide) | with_reducible_and_instances exact DN.o_niL (α := Int) _ _ (by decide)
  | with_reducible exact DN.f_tup | with_reducible exact DN.f_tupT | with_reducible exact DN.f_lenT _ _ | with_reducible exact DN.f_len _ _
  | with_reducible exact DN.f_all _ _ | with_reducible exact DN.f_any _ _ | with_reducible exact DN.f_sum _ _
  | assumption
  | exact rfl)))
section
set_option Elab.async false
set_option linter.all false
set_option autoImplicit false
set_option maxRecDepth 100000
set_option maxHeartbeats 400000
/-! nets and guards: as they are, and as data of lists and tuples mixed -/
namespace DN
open PySem DL
abbrev I3 := T3 Int Int Int
structure Net where
  H : Int
  B : Int
  L : List I3
structure Guard where
  lots : List (List Int)
  begins : List Int
  steps : List (Int × Int)
def Net.d (n : Net) : D := enc (T3.mk n.H n.B n.L)
def Guard.d (g : Guard) : D := enc (T3.mk g.lots g.begins g.steps)
noncomputable def Net.go (n : Net) (t h : Int) : List Int := ss (h :: (n.L.filter fun l => decide (l.a = h) && decide (t % n.B = l.c)).map (·.b))
def Guard.go (g : Guard) (p : Int) : List Int := (g.steps.filter fun s => decide (s.1 = p)).map (·.2)
def Guard.lot (g : Guard) (p : Int) : List Int := (g.lots[p.toNat]?).getD []
/-- a sequence: a list or a tuple -/
def SeqI (e : D) (xs : List Int) : Prop := e = .list (xs.map enc) ∨ e = .tuple (xs.map enc)
structure NetM (w : D) (n : Net) : Prop where
  h0 : subD w (.int 0) = some (.int n.H)
  h1 : subD w (.int 1) = some (.int n.B)
  h2 : ∃ (d : D) (zs : List (D × I3)), subD w (.int 2) = some d ∧ srcD .seq d = some (zs.map Prod.fst) ∧ n.L = zs.map Prod.snd ∧ ∀ z ∈ zs, seqD z.1 = some [.int z.2.a, .int z.2.b, .int z.2.c]
  tup : tupD w = n.d
  ok : okD 4 w = true
structure GuardM (s : D) (g : Guard) : Prop where
  h0 : ∃ (d : D) (e : Int → D), subD s (.int 0) = some d ∧ Blt.fn .len [d] = some (.int g.lots.length) ∧ ∀ p : Int, 0 ≤ p → p < g.lots.length → subD d (.int p) = some (e p) ∧ SeqI (e p) (g.lot p)
  h1 : ∃ d : D, subD s (.int 1) = some d ∧ SeqI d g.begins
  h2 : ∃ (d : D) (zs : List (D × (Int × Int))), subD s (.int 2) = some d ∧ srcD .seq d = some (zs.map Prod.fst) ∧ g.steps = zs.map Prod.snd ∧ ∀ z ∈ zs, seqD z.1 = some [.int z.2.1, .int z.2.2]
  tup : tupD s = g.d
  ok : okD 4 s = true
/-- what is drawn -/
structure Net.Ok (n : Net) : Prop where
  H3 : 3 ≤ n.H
  H5 : n.H ≤ 5
  B1 : 1 ≤ n.B
  B3 : n.B ≤ 3
  L16 : n.L.length ≤ 16
  ln : ∀ l ∈ n.L, 0 ≤ l.a ∧ l.a < n.H - 1 ∧ 0 < l.b ∧ l.b < n.H ∧ l.a ≠ l.b ∧ 0 ≤ l.c ∧ l.c < n.B
  ris : rising n.L = true
structure Guard.Ok (g : Guard) (H : Int) : Prop where
  l1 : 1 ≤ g.lots.length
  l3 : g.lots.length ≤ 3
  lot : ∀ l ∈ g.lots, rising l = true ∧ l.length ≤ 8 ∧ ∀ h ∈ l, 1 ≤ h ∧ h < H - 1
  b1 : g.begins ≠ []
  b3 : g.begins.length ≤ 3
  br : rising g.begins = true
  bp : ∀ p ∈ g.begins, 0 ≤ p ∧ p < g.lots.length
  s9 : g.steps.length ≤ 9
  sr : rising g.steps = true
  sp : ∀ s ∈ g.steps, 0 ≤ s.1 ∧ s.1 < g.lots.length ∧ 0 ≤ s.2 ∧ s.2 < g.lots.length
  s1 : ∀ p : Int, 0 ≤ p → p < g.lots.length → g.go p ≠ []
theorem SeqI.src {e : D} {xs : List Int} (h : SeqI e xs) : srcD .seq e = some (xs.map enc) := by
  rcases h with rfl | rfl <;> rfl
theorem SeqI.inn {e : D} {xs : List Int} (h : SeqI e xs) (i : Int) : o2 .inn (.int i) e = some (.bool (decide (i ∈ xs))) := by
  rcases h with rfl | rfl
  · exact o_inL (α := Int) _ _ (by decide)
  · exact o_inT (α := Int) _ _ (by decide)
theorem SeqI.nin {e : D} {xs : List Int} (h : SeqI e xs) (i : Int) : o2 .notin (.int i) e = some (.bool (!decide (i ∈ xs))) := by
  rcases h with rfl | rfl
  · exact o_niL (α := Int) _ _ (by decide)
  · exact o_niT (α := Int) _ _ (by decide)
theorem bind_seq {t : Tg} {d : D} {ys : List D} {ρ ρ' : DL.Env} (h : seqD d = some ys) (ht : t.isNm = false) (hb : bindT t ys ρ = some ρ') : bindD t d ρ = some ρ' := by
  unfold bindD; rw [ht, if_neg Bool.false_ne_true, h]; exact hb
theorem Guard.mem_go {g : Guard} {p q : Int} : q ∈ g.go p ↔ (p, q) ∈ g.steps := by
  unfold Guard.go
  rw [List.mem_map]
  constructor
  · rintro ⟨s, h1, rfl⟩
    rw [List.mem_filter, decide_eq_true_iff] at h1
    obtain ⟨h1, rfl⟩ := h1
    exact h1
  · intro h
    exact ⟨_, List.mem_filter.mpr ⟨h, decide_eq_true rfl⟩, rfl⟩
theorem Guard.len_go {g : Guard} {p : Int} : (g.go p).length ≤ g.steps.length := by
  unfold Guard.go; rw [List.length_map]; exact List.length_filter_le _ _
theorem Net.mem_go {n : Net} {t h k : Int} : k ∈ n.go t h ↔ k = h ∨ ∃ l ∈ n.L, l.a = h ∧ t % n.B = l.c ∧ l.b = k := by
  unfold Net.go
  rw [mem_ss, List.mem_cons, List.mem_map]
  constructor
  · rintro (h | ⟨l, h1, h2⟩)
    · exact .inl h
    · rw [List.mem_filter, Bool.and_eq_true, decide_eq_true_iff, decide_eq_true_iff] at h1
      exact .inr ⟨l, h1.1, h1.2.1, h1.2.2, h2⟩
  · rintro (h | ⟨l, h1, h2, h3, h4⟩)
    · exact .inl h
    · exact .inr ⟨l, List.mem_filter.mpr ⟨h1, by rw [Bool.and_eq_true, decide_eq_true_iff, decide_eq_true_iff]; exact ⟨h2, h3⟩⟩, h4⟩
theorem Net.len_go {n : Net} {t h : Int} : (n.go t h).length ≤ n.L.length + 1 := by
  unfold Net.go
  refine Nat.le_trans (len_ss _) ?_
  rw [List.length_cons, List.length_map]
  exact Nat.succ_le_succ (List.length_filter_le _ _)
theorem Net.go_range {n : Net} (o : n.Ok) {t h k : Int} (hk : k ∈ n.go t h) (h0 : 0 ≤ h) (h1 : h < n.H) : 0 ≤ k ∧ k < n.H := by
  rcases Net.mem_go.mp hk with rfl | ⟨l, h2, _, _, rfl⟩
  · exact ⟨h0, h1⟩
  · have := o.ln l h2; omega
theorem Guard.lot_mem {g : Guard} {p : Int} (h0 : 0 ≤ p) (h1 : p < g.lots.length) : g.lot p ∈ g.lots := by
  unfold Guard.lot
  have : p.toNat < g.lots.length := by omega
  rw [List.getElem?_eq_getElem this]
  exact List.getElem_mem this
theorem Guard.lot_at {g : Guard} {p : Int} (h0 : 0 ≤ p) (h1 : p < g.lots.length) : L2.atI g.lots p = some (g.lot p) := by
  obtain ⟨x, e1, e2⟩ := atI_get h0 h1
  rw [e1]; unfold Guard.lot; rw [e2]; rfl
end DN

end
section
set_option Elab.async false
set_option linter.all false
set_option autoImplicit false
set_option maxRecDepth 100000
set_option maxHeartbeats 400000
/-! mixed data -/
namespace DN
open PySem DL
mutual
theorem okD_tup : ∀ (d : D) (k : Nat), okD k (tupD d) = okD k d
  | .none, k => by simp [tupD]
  | .bool _, k => by simp [tupD]
  | .int _, k => by simp [tupD]
  | .str _, k => by simp [tupD]
  | .dict _, k => by simp [tupD]
  | .list ds, 0 => by simp [tupD, okD]
  | .list ds, k + 1 => by
    have e := okDL_tup ds k
    rw [tupDL_map] at e
    simp only [tupD, okD, tupDL_map, List.length_map, e]
  | .tuple ds, 0 => by simp [tupD, okD]
  | .tuple ds, k + 1 => by
    have e := okDL_tup ds k
    rw [tupDL_map] at e
    simp only [tupD, okD, tupDL_map, List.length_map, e]
theorem okDL_tup : ∀ (ds : List D) (k : Nat), okDL k (tupDL ds) = okDL k ds
  | [], k => by simp [tupDL]
  | d :: ds, k => by simp only [tupDL, okDL, okD_tup d k, okDL_tup ds k]
end
theorem tup_int {d : D} {i : Int} (h : tupD d = .int i) : d = .int i := by
  cases d <;> simp [tupD] at h
  rw [h]
theorem tup_seq {d : D} {ds : List D} (h : tupD d = .tuple ds) : ∃ es, seqD d = some es ∧ es.map tupD = ds ∧ (d = .list es ∨ d = .tuple es) := by
  cases d with
  | list es => simp only [tupD, PyData.tuple.injEq] at h; exact ⟨es, rfl, by rw [← tupDL_map]; exact h, .inl rfl⟩
  | tuple es => simp only [tupD, PyData.tuple.injEq] at h; exact ⟨es, rfl, by rw [← tupDL_map]; exact h, .inr rfl⟩
  | _ => simp [tupD] at h
theorem map_eq2 {α β : Type} {f : α → β} {xs : List α} {a b : β} (h : xs.map f = [a, b]) : ∃ x y, xs = [x, y] ∧ f x = a ∧ f y = b := by
  match xs, h with
  | [x, y], h => simp at h; exact ⟨x, y, rfl, h.1, h.2⟩
theorem map_eq3 {α β : Type} {f : α → β} {xs : List α} {a b c : β} (h : xs.map f = [a, b, c]) : ∃ x y z, xs = [x, y, z] ∧ f x = a ∧ f y = b ∧ f z = c := by
  match xs, h with
  | [x, y, z], h => simp at h; exact ⟨x, y, z, rfl, h.1, h.2.1, h.2.2⟩
/-- the parts of mixed data beside what they stand for -/
theorem pair_up {α : Type} {f : α → D} {es : List D} {xs : List α} (h : es.map tupD = xs.map f) : ∃ zs : List (D × α), es = zs.map Prod.fst ∧ xs = zs.map Prod.snd ∧ ∀ z ∈ zs, tupD z.1 = f z.2 := by
  induction es generalizing xs with
  | nil =>
    cases xs with
    | nil => exact ⟨[], rfl, rfl, fun z h => by cases h⟩
    | cons x xs => simp at h
  | cons e es ih =>
    cases xs with
    | nil => simp at h
    | cons x xs =>
      simp only [List.map_cons, List.cons.injEq] at h
      obtain ⟨zs, h1, h2, h3⟩ := ih h.2
      refine ⟨(e, x) :: zs, by rw [h1]; rfl, by rw [h2]; rfl, fun z hz => ?_⟩
      rcases List.mem_cons.mp hz with rfl | hz
      · exact h.1
      · exact h3 z hz
theorem src_of_seq {d : D} {es : List D} (h : d = .list es ∨ d = .tuple es) : srcD .seq d = some es := by
  rcases h with rfl | rfl <;> rfl
theorem sub_of_seq {d : D} {es : List D} (h : d = .list es ∨ d = .tuple es) (i : Int) : subD d (.int i) = L2.atI es i := by
  rcases h with rfl | rfl <;> rfl
theorem seqI_of {d : D} {xs : List Int} (h : tupD d = enc xs) : SeqI d xs := by
  obtain ⟨es, h1, h2, h3⟩ := tup_seq h
  have e : es = xs.map enc := by
    clear h1 h3 h
    induction es generalizing xs with
    | nil => cases xs with
      | nil => rfl
      | cons x xs => simp at h2
    | cons e es ih => cases xs with
      | nil => simp at h2
      | cons x xs =>
        simp only [List.map_cons, List.cons.injEq] at h2
        rw [tup_int h2.1, ih h2.2]; rfl
  subst e
  exact h3
theorem netM_of {w : D} {n : Net} (h : tupD w = n.d) (ok : okD 4 w = true) : NetM w n := by
  obtain ⟨es, h1, h2, h3⟩ := tup_seq (ds := [enc n.H, enc n.B, enc n.L]) h
  obtain ⟨x, y, z, rfl, e1, e2, e3⟩ := map_eq3 h2
  have e1 := tup_int e1
  have e2 := tup_int e2
  subst e1 e2
  obtain ⟨es2, g1, g2, g3⟩ := tup_seq e3
  obtain ⟨zs, k1, k2, k3⟩ := pair_up g2
  refine ⟨by rw [sub_of_seq h3]; rfl, by rw [sub_of_seq h3]; rfl, ⟨z, zs, by rw [sub_of_seq h3]; rfl, by rw [src_of_seq g3, k1], k2, fun q hq => ?_⟩, h, ok⟩
  obtain ⟨es3, l1, l2, l3⟩ := tup_seq (ds := [enc q.2.a, enc q.2.b, enc q.2.c]) (k3 q hq)
  obtain ⟨a, b, c, rfl, m1, m2, m3⟩ := map_eq3 l2
  rw [tup_int m1, tup_int m2, tup_int m3] at l1
  exact l1
theorem guardM_of {w : D} {g : Guard} (h : tupD w = g.d) (ok : okD 4 w = true) : GuardM w g := by
  obtain ⟨es, h1, h2, h3⟩ := tup_seq (ds := [enc g.lots, enc g.begins, enc g.steps]) h
  obtain ⟨x, y, z, rfl, e1, e2, e3⟩ := map_eq3 h2
  obtain ⟨es1, f1, f2, f3⟩ := tup_seq e1
  obtain ⟨es2, g1, g2, g3⟩ := tup_seq e3
  obtain ⟨zs, k1, k2, k3⟩ := pair_up g2
  obtain ⟨zs1, l1, l2, l3⟩ := pair_up f2
  refine ⟨⟨x, fun p => (L2.atI es1 p).getD .none, by rw [sub_of_seq h3]; rfl, ?_, fun p p0 p1 => ?_⟩, ⟨y, by rw [sub_of_seq h3]; rfl, seqI_of e2⟩, ⟨z, zs, by rw [sub_of_seq h3]; rfl, by rw [src_of_seq g3, k1], k2, fun q hq => ?_⟩, h, ok⟩
  · have : es1.length = g.lots.length := by have := congrArg List.length f2; simpa using this
    rw [← this]
    rcases f3 with rfl | rfl <;> rfl
  · have hl : es1.length = g.lots.length := by have := congrArg List.length f2; simpa using this
    obtain ⟨e, a1, a2⟩ := atI_get (xs := es1) p0 (by omega)
    have ee : (L2.atI es1 p).getD PyData.none = e := by rw [a1]; rfl
    refine ⟨by rw [sub_of_seq f3, a1]; show some e = some ((L2.atI es1 p).getD PyData.none); rw [ee], seqI_of ?_⟩
    show tupD ((L2.atI es1 p).getD PyData.none) = _
    rw [ee]
    have q1 : (es1.map tupD)[p.toNat]? = some (tupD e) := by rw [List.getElem?_map, a2]; rfl
    rw [f2, List.getElem?_map] at q1
    unfold Guard.lot
    cases q : g.lots[p.toNat]? with
    | none => rw [q] at q1; cases q1
    | some l => rw [q] at q1; exact (Option.some.inj q1).symm
  · obtain ⟨es3, l1, l2, l3⟩ := tup_seq (ds := [enc q.2.1, enc q.2.2]) (k3 q hq)
    obtain ⟨a, b, rfl, m1, m2⟩ := map_eq2 l2
    rw [tup_int m1, tup_int m2] at l1
    exact l1
theorem okDL_map {α : Type} [Enc α] {k : Nat} {xs : List α} (h : ∀ x ∈ xs, okD k (enc x) = true) : okDL k (xs.map enc) = true := by
  induction xs with
  | nil => rfl
  | cons x xs ih =>
    rw [List.map_cons, okDL, h x List.mem_cons_self, ih fun y hy => h y (List.mem_cons_of_mem _ hy)]; rfl
theorem okD_seq {k : Nat} {ds : List D} (hl : ds.length ≤ 16777216) (h : okDL k ds = true) : okD (k + 1) (.tuple ds) = true := by
  rw [okD, decide_eq_true hl, h]; rfl
theorem okD_int (k : Nat) (i : Int) : okD k (.int i) = true := by cases k <;> rfl
theorem net_okD {n : Net} (o : n.L.length ≤ 16777216) : okD 4 n.d = true := by
  refine okD_seq (by simp) ?_
  rw [okDL, okDL, okDL, okDL]
  have e1 : okD 3 (enc n.H) = true := rfl
  have e2 : okD 3 (enc n.B) = true := rfl
  have e3 : okD 3 (enc n.L) = true := okD_seq (by rw [List.length_map]; exact o) (okDL_map fun x _ => rfl)
  rw [e1, e2, e3]; rfl
theorem guard_okD {g : Guard} (o1 : g.lots.length ≤ 16777216) (o2 : ∀ l ∈ g.lots, l.length ≤ 16777216) (o3 : g.begins.length ≤ 16777216) (o4 : g.steps.length ≤ 16777216) : okD 4 g.d = true := by
  refine okD_seq (by simp) ?_
  rw [okDL, okDL, okDL, okDL]
  have e1 : okD 3 (enc g.lots) = true := okD_seq (by rw [List.length_map]; exact o1) (okDL_map fun x hx => okD_seq (by rw [List.length_map]; exact o2 x hx) (okDL_map fun y _ => rfl))
  have e2 : okD 3 (enc g.begins) = true := okD_seq (by rw [List.length_map]; exact o3) (okDL_map fun x _ => rfl)
  have e3 : okD 3 (enc g.steps) = true := okD_seq (by rw [List.length_map]; exact o4) (okDL_map fun x _ => rfl)
  rw [e1, e2, e3]; rfl
theorem netM_self {n : Net} (o : n.Ok) : NetM n.d n := netM_of (tupD_enc (T3.mk n.H n.B n.L)) (net_okD (by have := o.L16; omega))
theorem guardM_self {g : Guard} {H : Int} (o : g.Ok H) : GuardM g.d g := guardM_of (tupD_enc (T3.mk g.lots g.begins g.steps)) (guard_okD (by have := o.l3; omega) (fun l hl => by have := (o.lot l hl).2.1; omega) (by have := o.b3; omega) (by have := o.s9; omega))
end DN

end
section
set_option Elab.async false
set_option linter.all false
set_option autoImplicit false
set_option maxRecDepth 100000
set_option maxHeartbeats 400000
/-! draws from the urn -/
namespace DN
open PySem DL
variable {fe : Nat → List D → M D} {N : Nat} {ρ ρ1 ρ2 ρ' : DL.Env} {u u1 u2 u3 u' : List Int}
theorem goC_inv {α : Type} {f : D → M (List D)} {enc : α → D} (P : List α → List D → List Int → Prop) : ∀ {xs : List α} {acc : List D} {u : List Int}, P xs acc u → (∀ a r acc u, P (a :: r) acc u → ∃ ys u', f (enc a) u = some (ys, u') ∧ P r (acc ++ ys) u') → ∃ ds u', goC f (xs.map enc) u = some (ds, u') ∧ P [] (acc ++ ds) u'
  | [], acc, u, h0, _ => ⟨[], u, rfl, by rw [List.append_nil]; exact h0⟩
  | x :: xs, acc, u, h0, h => by
    obtain ⟨ys, u1, e1, h1⟩ := h x xs acc u h0
    obtain ⟨ds, u2, e2, h2⟩ := goC_inv P h1 h
    refine ⟨ys ++ ds, u2, ?_, by rw [← List.append_assoc]; exact h2⟩
    rw [List.map_cons]
    unfold goC
    rw [bd_eq e1, bd_eq e2]; rfl
/-- a comprehension that draws, by an invariant -/
theorem ev_clU {α : Type} {enc : α → D} {xs : List α} {vs : List Nat} {k : Src} {s : E} {t : Tg} {ifs rest : E} {x : D} (P : List α → List D → List Int → Prop) (hs : Ev fe s ρ u x u1) (hk : srcD k x = some (xs.map enc)) (h0 : P xs [] u1) (h : ∀ a r acc u, P (a :: r) acc u → ∃ ys u', Cb fe vs t ifs rest ρ (enc a) u ys u' ∧ P r (acc ++ ys) u')
    (hf : ∀ ds u, P [] ds u → ds.length ≤ 16777216) : ∃ ds u', Ev fe (.cl vs k s t ifs rest) ρ u (.list ds) u' ∧ P [] ds u' := by
  obtain ⟨ds, u', e1, h1⟩ := goC_inv (f := cbody fe vs t ifs rest ρ) P h0 h
  rw [List.nil_append] at h1
  refine ⟨ds, u', ?_, h1⟩
  refine ev_in ?_
  rw [ev_cl_eq, bd_eq (ev_out hs), hk]
  show bd (goC _ _) _ u1 = _
  rw [bd_eq e1]
  show (if fits ds.length = true then rt (PyData.list _) else fl) u' = _
  rw [if_pos (fits_of (hf _ _ h1))]; rfl
theorem cb_ifU {vs : List Nat} {t : Tg} {b rest : E} {d z : D} {ys : List D} {p : Bool} (h1 : bindD t d (wipeD ρ vs) = some ρ1) (h2 : Ev fe b ρ1 u z u1) (h3 : truD z = some p) (h4 : p = true → Ev fe rest ρ1 u1 (.list ys) u1) : Cb fe vs t (.cons b .nil) rest ρ d u (if p = true then ys else []) u1 := by
  have e := ev_out (ev_cons h2 (ev_nil (fe := fe) (ρ := ρ1) (u := u1)))
  unfold Cb cbody; rw [bl_eq h1]; show bd (ev fe (.cons b .nil) ρ1) _ u = _; rw [bd_eq e]; show bd (lf (truD z)) _ u1 = _; rw [bl_eq h3]
  cases p with
  | true => show bd (ev fe rest ρ1) unl u1 = _; rw [bd_eq (ev_out (h4 rfl))]; rfl
  | false => rfl
theorem ev_callE {f : Nat} {m : CM} {es : E} {ds : List D} {Q : D → List Int → Prop} (hm : m ≠ .bor) (h1 : Ev fe es ρ u (.list ds) u1) (h2 : ∃ d u', fe f ds u1 = some (d, u') ∧ Q d u') : ∃ d u', Ev fe (.call f m es) ρ u d u' ∧ Q d u' := by
  obtain ⟨d, u', e, q⟩ := h2
  exact ⟨d, u', ev_callU hm h1 e, q⟩
theorem ev_callUu {f : Nat} {es : E} {ds : List D} {d : D} (h1 : Ev fe es ρ u (.list ds) u1) (h2 : fe f ds u1 = some (d, u2)) : Ev fe (.call f .urn es) ρ u d u2 := ev_callU (by decide) h1 h2
theorem ev_andX {a b : E} {p : Bool} {Q : Bool → List Int → Prop} (h1 : Ev fe a ρ u (.bool p) u1) (hf : p = false → Q false u1) (h2 : p = true → ∃ q u2, Ev fe b ρ u1 (.bool q) u2 ∧ Q q u2) : ∃ q u2, Ev fe (.and a b) ρ u (.bool q) u2 ∧ Q q u2 := by
  cases p with
  | true =>
    obtain ⟨q, u2, e, hq⟩ := h2 rfl
    exact ⟨q, u2, ev_and_t h1 rfl e, hq⟩
  | false => exact ⟨false, u1, ev_and_f h1 rfl, hf rfl⟩
/-- the urn: three numbers; at most k were drawn behind its front -/
def UOk (k : Int) (u : List Int) : Prop := ∃ a b c : Int, u = [a, b, c] ∧ 0 ≤ a ∧ 0 ≤ b ∧ b < 4611686018427387904 ∧ 0 ≤ c ∧ c ≤ k
theorem UOk.mono {k l : Int} {u : List Int} (h : UOk k u) (hl : k ≤ l) : UOk l u := by
  obtain ⟨a, b, c, e, h1, h2, h3, h4, h5⟩ := h
  exact ⟨a, b, c, e, h1, h2, h3, h4, by omega⟩

theorem toks2 (a b : Int) : PySem.W.keyToksAll [.int a, .int b] = [Sum.inl 1, Sum.inl a, Sum.inl 1, Sum.inl b, Sum.inl 0] := by
  simp [PySem.W.keyToksAll, PySem.W.keyToks]
theorem lt_pair1 {a b c d : Int} (h : a < c) : ltE (a, b) (c, d) = true := by
  show PySem.W.dataLt (.tuple [.int a, .int b]) (.tuple [.int c, .int d]) = _
  rw [PySem.W.dataLt_tuple, toks2, toks2, PyProof.Rows.lex_self, PyProof.Rows.lex_diff (by intro e; cases e; omega)]
  exact decide_eq_true h
theorem lt_pair2 {a b d : Int} (h : b < d) : ltE (a, b) (a, d) = true := by
  show PySem.W.dataLt (.tuple [.int a, .int b]) (.tuple [.int a, .int d]) = _
  rw [PySem.W.dataLt_tuple, toks2, toks2, PyProof.Rows.lex_self, PyProof.Rows.lex_self, PyProof.Rows.lex_self, PyProof.Rows.lex_diff (by intro e; cases e; omega)]
  exact decide_eq_true h
end DN

end
local macro_rules | `(tactic| ac_rfl) => `(tactic| repeat (first
  | (intro h0; exact absurd h0 (by decide))
  | intro _
  | ((with_reducible apply DN.ev_urn); exact rfl)
  | with_reducible apply DN.sp_urnS1
  | with_reducible apply DN.ev_callUu
  | (first
  | ((with_reducible apply DN.ev_var); exact rfl)
  | ((with_reducible apply DN.ev_own); exact rfl)
  | with_reducible exact DN.ev_int | with_reducible exact DN.ev_bl | with_reducible exact DN.ev_non | with_reducible exact DN.ev_no | with_reducible exact DN.ev_str | with_reducible exact DN.ev_dict0 | with_reducible exact DN.ev_nil
  | with_reducible apply DN.ev_cons
  | with_reducible apply DN.ev_star
  | with_reducible apply DN.sp_free1
  | with_reducible apply DN.ev_op
  | with_reducible apply DN.ev_ix
  | with_reducible apply DN.ev_blt
  | with_reducible apply DN.ev_not
  | with_reducible apply DN.ev_neg
  | with_reducible apply DN.ev_isi
  | with_reducible apply DN.ev_chain
  | with_reducible apply DN.ev_and
  | with_reducible apply DN.ev_or
  | with_reducible apply DN.ev_ifx
  | apply DN.ev_tup
  | with_reducible apply DN.ev_lst
  | with_reducible apply DN.ev_sset
  | with_reducible apply DN.ev_rev
  | with_reducible apply DN.ev_sl
  | with_reducible apply DN.ev_sitems
  | with_reducible apply DN.ev_call
  | with_reducible apply DN.ev_callB
  | with_reducible apply DN.sp_ret1
  | with_reducible apply DN.sp_set1
  | with_reducible apply DN.sp_own1
  | with_reducible apply DN.sp_par1
  | with_reducible apply DN.sp_bind1
  | with_reducible apply DN.sp_app1
  | with_reducible apply DN.sp_upd1
  | with_reducible apply DN.sp_ext1
  | with_reducible apply DN.sp_put1
  | with_reducible apply DN.sp_nil1
  | with_reducible apply DN.sp_retN1
  | ((with_reducible apply DN.sp_retO1); exact rfl)
  | with_reducible apply DN.sp_assoc
  | with_reducible apply DN.sp_if1
  | with_reducible apply DN.sp_nil)
  | ((with_reducible apply DN.o_mul); first | omega | decide)
  | (first
  | with_reducible_and_instances assumption
  | with_reducible exact DN.sl_t1 _ | with_reducible exact DN.sl_l1 _
  | with_reducible_and_instances exact DN.o_eqI _ _ | with_reducible_and_instances exact DN.o_neI _ _ | with_reducible_and_instances exact DN.o_ltI' _ _ | with_reducible_and_instances exact DN.o_leI _ _ | with_reducible_and_instances exact DN.o_gtI _ _ | with_reducible_and_instances exact DN.o_geI _ _ | with_reducible_and_instances exact DN.o_addI _ _ | with_reducible_and_instances exact DN.o_subI _ _
  | with_reducible exact DN.o_neL0 _ (by decide) | with_reducible exact DN.o_eqL0 _ (by decide)
  | with_reducible_and_instances exact DN.o_isN _ | with_reducible_and_instances exact DN.o_isnN _
  | ((with_reducible_and_instances apply DN.o_mod); first | assumption | omega) | ((with_reducible_and_instances apply DN.o_fdiv) <;> first | assumption | omega)
  | with_reducible_and_instances exact DN.o_inT (α := Int) _ _ (by decide) | with_reducible_and_instances exact DN.o_niT (α := Int) _ _ (by decide) | with_reducible_and_instances exact DN.o_inL (α := Int) _ _ (by decide) | with_reducible_and_instances exact DN.o_niL (α := Int) _ _ (by decide)
  | with_reducible exact DN.f_tup | with_reducible exact DN.f_tupT | with_reducible exact DN.f_lenT _ _ | with_reducible exact DN.f_len _ _
  | with_reducible exact DN.f_all _ _ | with_reducible exact DN.f_any _ _ | with_reducible exact DN.f_sum _ _
  | assumption
  | exact rfl)))
section
set_option Elab.async false
set_option linter.all false
set_option autoImplicit false
set_option maxRecDepth 100000
set_option maxHeartbeats 400000
namespace Pg
open PySem DL DN
def fuel : Nat := 1000000
@[irreducible] noncomputable def FE (n : Nat) : Nat → List D → M D := feN fns fuel n
theorem q_eq {n f : Nat} {g : FnD} (h : fns[f]? = some g) : FE (n + 1) f = runFn (FE n) fuel g := by unfold FE; exact feN_some h
theorem fn_ex {n f : Nat} {g : FnD} {a r : S} {ds : List D} {Q : D → Prop} (h : fns[f]? = some g) (hu : g.urn = false) (hl : ds.length = g.ps.length) (hb : g.body = .seq a r) (h1 : Sp (FE n) fuel (.seq a r) (startE g ds) [] (fun _ _ => Q .none) (fun d _ => Q d)) : ∃ d, FE (n + 1) f ds = rt d ∧ Q d := by
  rw [q_eq h]; exact fn_sp hu hl (hb ▸ h1)
theorem fn_of {n f : Nat} {g : FnD} {a r : S} {ds : List D} {d : D} (h : fns[f]? = some g) (hu : g.urn = false) (hl : ds.length = g.ps.length) (hb : g.body = .seq a r) (h1 : Sp (FE n) fuel (.seq a r) (startE g ds) [] (fun _ _ => .none = d) (fun x _ => x = d)) : FE (n + 1) f ds = rt d := by
  obtain ⟨x, e, rfl⟩ := fn_ex (Q := fun x => x = d) h hu hl hb h1
  exact e
theorem fn_u {n f : Nat} {g : FnD} {a r : S} {ds : List D} {u : List Int} {Q : D → List Int → Prop} (h : fns[f]? = some g) (hu : g.urn = true) (hl : ds.length + 1 = g.ps.length) (hb : g.body = .seq a r) (h1 : Sp (FE n) fuel (.seq a r) (startE g ds) u (fun _ u' => Q .none u') Q) : ∃ d u', FE (n + 1) f ds u = some (d, u') ∧ Q d u' := by
  rw [q_eq h]; exact fn_spU hu hl (hb ▸ h1)
set_option trace.profiler false
theorem q_tupled : ∀ (k : Nat) (d : D), okD k d = true → ∀ n, FE (n + k + 1) ix_tupled [d] = rt (tupD d) := by
  intro k
  induction k with
  | zero =>
    intro d h n
    refine fn_of rfl rfl rfl rfl ?_
    cases d <;> first | (simp [okD] at h; done) | skip
    all_goals
      and_intros
  | succ k ih =>
    intro d h n
    refine fn_of rfl rfl rfl rfl ?_
    have go : ∀ ds : List D, ds.length ≤ 16777216 → okDL k ds = true → ∀ {x : D}, srcD .seq x = some ds → Ev (FE (n + (k + 1))) (.cl [1] .seq (.var 0) (.nm 1) .nil (.em (.call 0 .pure (.cons (.var 1) .nil)))) [some x, none] [] (.list (ds.map tupD)) [] := fun ds h1 h2 x hx => by
      refine ev_map (enc := id) (xs := ds) (ev_var rfl) (by rw [List.map_id]; exact hx) h1 fun a ha => ⟨rfl, ?_⟩
      and_intros
      exact ih a (okDL_mem h2 a ha) n
    cases d with
    | list ds =>
      simp only [okD, Bool.and_eq_true, decide_eq_true_eq] at h
      and_intros
      exact go ds h.1 h.2 rfl
      and_intros
      simp [tupD, tupDL_map]
      and_intros
    | tuple ds =>
      simp only [okD, Bool.and_eq_true, decide_eq_true_eq] at h
      and_intros
      exact go ds h.1 h.2 rfl
      and_intros
      simp [tupD, tupDL_map]
      and_intros
    | dict kvs => simp [okD] at h
    | _ =>
      and_intros
variable {n : Nat}
theorem q_is_number {i : Int} : FE (n + 1) ix_is_number [.int i] = rt (.bool true) := by
  refine fn_of rfl rfl rfl rfl ?_
  and_intros
theorem q_is_from {i m : Int} : FE (n + 2) ix_is_from [.int i, .int m] = rt (.bool (decide (m ≤ i))) := by
  refine fn_of rfl rfl rfl rfl ?_
  and_intros
  exact q_is_number
  and_intros
theorem q_is_below {i m : Int} : FE (n + 2) ix_is_below [.int i, .int m] = rt (.bool (decide (0 ≤ i ∧ i < m))) := by
  refine fn_of rfl rfl rfl rfl ?_
  and_intros
  exact q_is_number
  and_intros
  simp
end Pg

end
section
set_option Elab.async false
set_option linter.all false
set_option autoImplicit false
set_option maxRecDepth 100000
set_option maxHeartbeats 400000
namespace Pg
open PySem DL DN
variable {n : Nat} {w s : D} {N : Net} {G : Guard}
theorem q_set_of {xs : List Int} {e : D} (he : SeqI e xs) (hl : xs.length < 64) : FE (n + 1) ix_set_of [e] = rt (.tuple ((ss xs).map enc)) := by
  refine fn_of rfl rfl rfl rfl ?_
  have h1 : ssetD e = some (.list ((ss xs).map enc)) := by
    rcases he with rfl | rfl
    · exact sset_int hl
    · exact (sset_eq (setOk_of (sortOk_i xs) (.inr ⟨id, fun _ => rfl⟩) hl)).2
  and_intros
theorem q_goes (hs : GuardM s G) {p : Int} (hl : G.steps.length ≤ 100) : FE (n + 1) ix_goes [s, .int p] = rt (.tuple ((G.go p).map enc)) := by
  obtain ⟨d, zs, h1, h2, h3, h4⟩ := hs.h2
  rw [h3, List.length_map] at hl
  refine fn_of rfl rfl rfl rfl ?_
  and_intros
  · apply ev_filterB (enc := Prod.fst) (xs := zs)
    · and_intros
    · exact h2
    · omega
    · intro z hz
      refine ⟨bind_seq (h4 z hz) rfl rfl, ?_, fun _ => ?_⟩
      · and_intros
      · and_intros
  and_intros
  unfold Guard.go
  rw [h3, List.filter_map, List.map_map, List.map_map]; rfl
theorem q_goes_on (hw : NetM w N) {t h : Int} (hB : 0 < N.B) (hl : N.L.length ≤ 60) : FE (n + 2) ix_goes_on [w, .int t, .int h] = rt (.tuple ((N.go t h).map enc)) := by
  obtain ⟨d, zs, h1, h2, h3, h4⟩ := hw.h2
  have h5 := hw.h1
  rw [h3, List.length_map] at hl
  have e : (h :: (N.L.filter fun l => decide (l.a = h) && decide (t % N.B = l.c)).map (·.b)).map enc = [.int h] ++ (zs.filter fun z => decide (z.2.a = h) && decide (t % N.B = z.2.c)).map fun z => .int z.2.b := by
    rw [h3, List.filter_map, List.map_cons, List.map_map, List.map_map]; rfl
  have hn : (h :: (N.L.filter fun l => decide (l.a = h) && decide (t % N.B = l.c)).map (·.b)).length < 64 := by
    rw [List.length_cons, List.length_map, h3]
    have := List.length_filter_le (fun l : I3 => decide (l.a = h) && decide (t % N.B = l.c)) (zs.map Prod.snd)
    rw [List.length_map] at this; omega
  refine fn_of rfl rfl rfl rfl ?_
  and_intros
  · apply ev_filterB (enc := Prod.fst) (xs := zs)
    · and_intros
    · exact h2
    · omega
    · intro z hz
      refine ⟨bind_seq (h4 z hz) rfl rfl, ?_, fun _ => ?_⟩
      · and_intros
      · and_intros
  · refine o_addL ?_
    have := List.length_filter_le (fun z : D × I3 => decide (z.2.a = h) && decide (t % N.B = z.2.c)) zs
    simp only [List.length_cons, List.length_nil, List.length_map]
    omega
  and_intros
  · rw [← e]
    exact q_set_of (.inl rfl) hn
  and_intros
theorem q_begun (hs : GuardM s G) (hl : G.begins.length ≤ 100) : FE (n + 1) ix_begun [s] = rt (.list ((G.begins.map fun p => (⟨0, 0, p⟩ : I3)).map enc)) := by
  obtain ⟨d, h1, h2⟩ := hs.h1
  refine fn_of rfl rfl rfl rfl ?_
  and_intros
  · apply ev_map (enc := enc) (xs := G.begins) (f := fun p => .tuple [.int 0, .int 0, .int p])
    · and_intros
    · exact h2.src
    · omega
    · intro p hp
      refine ⟨rfl, ?_⟩
      and_intros
  rw [List.map_map]; rfl
theorem q_behind (hw : NetM w N) (hs : GuardM s G) {r h p t : Int} (hB : 0 < N.B) (hl : G.steps.length ≤ 100) (hp : ∀ x ∈ G.steps, 0 ≤ x.2 ∧ x.2 < G.lots.length) : FE (n + 2) ix_behind [w, s, .tuple [.int r, .int h, .int p], .int t] = rt (.list ((G.go p).map fun q => if t ∈ G.lot q then .none else enc (⟨(r + 1) % N.B, t, q⟩ : I3))) := by
  have h5 := hw.h1
  obtain ⟨d, eL, g1, g2, g3⟩ := hs.h0
  refine fn_of rfl rfl rfl rfl ?_
  and_intros
  · apply ev_map (enc := enc) (xs := G.go p)
    · and_intros
      exact q_goes hs hl
    · rfl
    · have := G.len_go (p := p); omega
    · intro q hq
      obtain ⟨k1, k2⟩ := g3 q (hp _ (Guard.mem_go.mp hq)).1 (hp _ (Guard.mem_go.mp hq)).2
      refine ⟨rfl, ?_⟩
      and_intros
      exact k2.inn t
      and_intros
  congr 1
  refine List.map_congr_left fun q _ => ?_
  simp only [decide_eq_true_eq]; rfl
end Pg

end
section
set_option Elab.async false
set_option linter.all false
set_option autoImplicit false
set_option maxRecDepth 100000
set_option maxHeartbeats 400000
namespace DN
open PySem DL
abbrev Won := List (I3 × (Int × Int))
def stands (N : Net) (G : Guard) : List I3 := ((rangeI N.B).flatMap fun r => (rangeI (N.H - 1)).flatMap fun h => (rangeI G.lots.length).map fun p => (⟨r, h, p⟩ : I3)).filter fun x => !decide (x.b ∈ G.lot x.c)
def Net.up (N : Net) (r : Int) : Int := (r + 1) % N.B
/-- a move holds nowhere and leads to the last house, or to what is won -/
def okMove (N : Net) (G : Guard) (won : Won) (st : I3) (t : Int) : Bool := (!(G.go st.c).any fun q => decide (t ∈ G.lot q)) && (decide (t = N.H - 1) || (G.go st.c).all fun q => decide ((⟨N.up st.a, t, q⟩ : I3) ∈ won.map (·.1)))
def farOf (N : Net) (G : Guard) (won : Won) (st : I3) (t : Int) : Int := if t = N.H - 1 then 0 else mxI ((G.go st.c).map fun q => ((look (⟨N.up st.a, t, q⟩ : I3) won).getD (0, 0)).2)
noncomputable def bestL (N : Net) (G : Guard) (won : Won) (st : I3) : List (Int × Int) := ((N.go st.a st.b).filter (okMove N G won st)).map fun t => (farOf N G won st t + 1, t)
noncomputable def best (N : Net) (G : Guard) (won : Won) (st : I3) : Option (Int × Int) := match bestL N G won st with
  | [] => none
  | x :: xs => some (minE x xs)
noncomputable def rowsW (N : Net) (G : Guard) (won : Won) : Won := ((stands N G).filter fun o => !decide (o ∈ won.map (·.1))).filterMap fun o => (best N G won o).map fun m => (o, (m.2, m.1))
def optP (o : Option (Int × Int)) : D := match o with
  | none => .none
  | some p => enc p
theorem mem_stands {N : Net} {G : Guard} {x : I3} : x ∈ stands N G ↔ (0 ≤ x.a ∧ x.a < N.B) ∧ (0 ≤ x.b ∧ x.b < N.H - 1) ∧ (0 ≤ x.c ∧ x.c < G.lots.length) ∧ x.b ∉ G.lot x.c := by
  unfold stands
  rw [List.mem_filter, List.mem_flatMap]
  simp only [List.mem_flatMap, List.mem_map, mem_rangeI, Bool.not_eq_true', decide_eq_false_iff_not]
  constructor
  · rintro ⟨⟨r, h1, h, h2, p, h3, rfl⟩, h4⟩
    exact ⟨h1, h2, h3, h4⟩
  · rintro ⟨h1, h2, h3, h4⟩
    exact ⟨⟨_, h1, _, h2, _, h3, rfl⟩, h4⟩
end DN
namespace Pg
open PySem DL DN
variable {n : Nat} {w s : D} {N : Net} {G : Guard}
theorem len_flatMap_le {α β : Type} {f : α → List β} {c : Nat} : ∀ {xs : List α}, (∀ x ∈ xs, (f x).length ≤ c) → (xs.flatMap f).length ≤ xs.length * c
  | [], _ => by simp
  | x :: xs, h => by
    rw [List.flatMap_cons, List.length_append, List.length_cons, Nat.succ_mul]
    have := h x List.mem_cons_self
    have := len_flatMap_le (c := c) fun y hy => h y (List.mem_cons_of_mem x hy)
    omega
theorem len_rangeI (j : Int) : (rangeI j).length = j.toNat := by unfold rangeI; simp
theorem q_all_standings (hw : NetM w N) (hs : GuardM s G) (o : N.Ok) (g : G.Ok N.H) : FE (n + 1) ix_all_standings [w, s] = rt (.list ((stands N G).map enc)) := by
  have h0 := hw.h0
  have h5 := hw.h1
  obtain ⟨d, eL, g1, g2, g3⟩ := hs.h0
  have o1 := o.H5; have o2 := o.B3; have o3 := o.B1; have o4 := o.H3; have g4 := g.l3
  have l1 : ∀ r : Int, ∀ h : Int, ((rangeI (G.lots.length : Int)).map fun p => (enc (⟨r, h, p⟩ : I3) : D)).length ≤ 3 := fun r h => by
    rw [List.length_map, len_rangeI]; omega
  have l2 : ∀ r : Int, ((rangeI (N.H - 1)).flatMap fun h => (rangeI (G.lots.length : Int)).map fun p => (enc (⟨r, h, p⟩ : I3) : D)).length ≤ 12 := fun r => by
    have := len_flatMap_le (xs := rangeI (N.H - 1)) (f := fun h => (rangeI (G.lots.length : Int)).map fun p => (enc (⟨r, h, p⟩ : I3) : D)) (c := 3) fun h _ => l1 r h
    rw [len_rangeI] at this; omega
  have l3 : ((rangeI N.B).flatMap fun r => (rangeI (N.H - 1)).flatMap fun h => (rangeI (G.lots.length : Int)).map fun p => (enc (⟨r, h, p⟩ : I3) : D)).length ≤ 36 := by
    have := len_flatMap_le (xs := rangeI N.B) (f := fun r => (rangeI (N.H - 1)).flatMap fun h => (rangeI (G.lots.length : Int)).map fun p => (enc (⟨r, h, p⟩ : I3) : D)) (c := 12) fun h _ => l2 h
    rw [len_rangeI] at this; omega
  have e : ((rangeI N.B).flatMap fun r => (rangeI (N.H - 1)).flatMap fun h => (rangeI (G.lots.length : Int)).map fun p => (enc (⟨r, h, p⟩ : I3) : D)) = ((rangeI N.B).flatMap fun r => (rangeI (N.H - 1)).flatMap fun h => (rangeI (G.lots.length : Int)).map fun p => (⟨r, h, p⟩ : I3)).map enc := by
    simp only [List.map_flatMap, List.map_map]; rfl
  refine fn_of rfl rfl rfl rfl ?_
  and_intros
  · apply ev_cl (enc := enc) (xs := rangeI N.B)
    · and_intros
    · exact src_rng1 (by omega) (by omega)
    · intro r hr
      apply cb_no
      · exact rfl
      apply ev_cl (enc := enc) (xs := rangeI (N.H - 1))
      · and_intros
      · exact src_rng1 (by omega) (by omega)
      · intro h hh
        apply cb_no
        · exact rfl
        apply ev_map (enc := enc) (xs := rangeI (G.lots.length : Int)) (f := fun p => enc (⟨r, h, p⟩ : I3))
        · and_intros
        · exact src_rng1 (by omega) (by omega)
        · rw [len_rangeI]; omega
        · intro p hp
          refine ⟨rfl, ?_⟩
          and_intros
      · have := l2 r; omega
    · omega
  rw [e]
  and_intros
  · apply ev_filterB (α := I3) (enc := enc)
    · and_intros
    · exact rfl
    · rw [← List.length_map (f := (enc : I3 → D)), ← e]; omega
    · intro x hx
      have hc : 0 ≤ x.c ∧ x.c < G.lots.length := by
        rw [List.mem_flatMap] at hx
        simp only [List.mem_flatMap, List.mem_map, mem_rangeI] at hx
        obtain ⟨r, h1, h, h2, p, h3, rfl⟩ := hx
        exact h3
      obtain ⟨k1, k2⟩ := g3 x.c hc.1 hc.2
      refine ⟨rfl, ?_, fun _ => ?_⟩
      · and_intros
        exact k2.nin x.b
      · and_intros
  rfl
end Pg

end
section
set_option Elab.async false
set_option linter.all false
set_option autoImplicit false
set_option maxRecDepth 100000
set_option maxHeartbeats 400000
namespace Pg
open PySem DL DN
variable {n : Nat} {w s : D} {N : Net} {G : Guard}
/-- the standings behind a move, None where it is held -/
def behL (N : Net) (G : Guard) (st : I3) (t : Int) : List D := (G.go st.c).map fun q => if t ∈ G.lot q then .none else enc (⟨N.up st.a, t, q⟩ : I3)
theorem q_behind' (hw : NetM w N) (hs : GuardM s G) (o : N.Ok) (g : G.Ok N.H) {st : I3} {t : Int} : FE (n + 2) ix_behind [w, s, enc st, .int t] = rt (.list (behL N G st t)) :=
  q_behind hw hs (by have := o.B1; omega) (by have := g.s9; omega) fun x hx => ⟨(g.sp x hx).2.2.1, (g.sp x hx).2.2.2⟩
theorem dp_beh {N : Net} {G : Guard} {st : I3} {t : Int} : dp 60 (.list (behL N G st t)) = true := by
  show dpL 59 (behL N G st t) = true
  unfold behL
  generalize G.go st.c = l
  induction l with
  | nil => rfl
  | cons q l ih =>
    rw [List.map_cons, dpL, ih, Bool.and_true]
    split
    · rfl
    · exact Enc.dpo _ _ (by decide)
theorem none_beh {N : Net} {G : Guard} {st : I3} {t : Int} : memD .none (behL N G st t) = (G.go st.c).any fun q => decide (t ∈ G.lot q) := by
  unfold memD behL
  rw [List.any_map]
  congr 1
  funext q
  show PyData.eqv (if t ∈ G.lot q then PyData.none else enc (⟨N.up st.a, t, q⟩ : I3)) .none = _
  by_cases h : t ∈ G.lot q
  · rw [if_pos h]; simp [h, PyData.eqv]
  · rw [if_neg h, decide_eq_false h]; rfl
theorem ni_beh {N : Net} {G : Guard} {st : I3} {t : Int} : o2 .notin .none (.list (behL N G st t)) = some (.bool (!(G.go st.c).any fun q => decide (t ∈ G.lot q))) := by
  show (if (dp 60 .none && dp 60 (.list (behL N G st t))) = true then some (PyData.bool (memD .none (behL N G st t) != true)) else none) = _
  rw [dp_beh, none_beh]; simp [dp]
theorem in_beh {N : Net} {G : Guard} {st : I3} {t : Int} : o2 .inn .none (.list (behL N G st t)) = some (.bool ((G.go st.c).any fun q => decide (t ∈ G.lot q))) := by
  show (if (dp 60 .none && dp 60 (.list (behL N G st t))) = true then some (PyData.bool (memD .none (behL N G st t) != false)) else none) = _
  rw [dp_beh, none_beh]; simp [dp]
/-- what is behind a move that holds nowhere -/
theorem beh_free {N : Net} {G : Guard} {st : I3} {t : Int} (h : ((G.go st.c).any fun q => decide (t ∈ G.lot q)) = false) : behL N G st t = ((G.go st.c).map fun q => (⟨N.up st.a, t, q⟩ : I3)).map enc := by
  unfold behL
  rw [List.map_map]
  refine List.map_congr_left fun q hq => ?_
  rw [List.any_eq_false] at h
  have := h q hq
  rw [decide_eq_true_eq] at this
  rw [if_neg this]; rfl
theorem beh_len {N : Net} {G : Guard} {st : I3} {t : Int} : (behL N G st t).length = (G.go st.c).length := by unfold behL; rw [List.length_map]
theorem q_best_move (hw : NetM w N) (hs : GuardM s G) (o : N.Ok) (g : G.Ok N.H) {won : Won} {st : I3} (hc : 0 ≤ st.c ∧ st.c < G.lots.length) : FE (n + 3) ix_best_move [w, s, dE won, enc st] = rt (optP (best N G won st)) := by
  have h0 := hw.h0
  have hgo := G.len_go (p := st.c)
  have hne := g.s1 st.c hc.1 hc.2
  have h9 := g.s9
  refine fn_of rfl rfl rfl rfl ?_
  and_intros
  apply sp_for1 (enc := enc) (xs := N.go st.a st.b) (fun r ρ u => u = [] ∧ ∃ acc l j5 j6 j7 j8, ρ = [some w, some s, some (dE won), some (enc st), some (.list l), j5, j6, j7, j8] ∧ l = acc.map enc ∧ acc ++ (r.filter (okMove N G won st)).map (fun t => (farOf N G won st t + 1, t)) = bestL N G won st ∧ acc.length + r.length ≤ 100)
  · and_intros
    exact q_goes_on hw (by have := o.B1; omega) (by have := o.L16; omega)
  · exact rfl
  · exact ⟨rfl, [], [], none, none, none, none, rfl, rfl, rfl, by have := N.len_go (t := st.a) (h := st.b); have := o.L16; simp only [List.length_nil]; omega⟩
  · rintro t r ρ u ⟨rfl, acc, _, j5, j6, j7, j8, rfl, rfl, hacc, hlen⟩
    have hbeh := q_behind' (n := n) hw hs o g (st := st) (t := t)
    have c1 : Ev (FE (n + 2)) ((.and (.op .notin .non (.var 6)) (.or (.op .eq (.var 5) (.op .sub (.ix (.var 0) (.int 0)) (.int 1))) (.blt .all (.cons (.cl [8] .seq (.var 6) (.nm 8) .nil (.em (.op .inn (.var 8) (.var 2)))) .nil))))) [some w, some s, some (dE won), some (enc st), some (.list (acc.map enc)), some (.int t), some (.list (behL N G st t)), j7, j8] [] (.bool (okMove N G won st t)) [] := by
      apply ev_to
      · and_intros
        exact ni_beh
        and_intros
        rename_i hn _
        rw [Bool.not_eq_true'] at hn
        rw [beh_free hn]
        apply ev_map (α := I3) (enc := enc)
        · and_intros
        · exact rfl
        · rw [List.length_map]; omega
        · intro x hx
          refine ⟨rfl, ?_⟩
          and_intros
          exact o_inD x won
        and_intros
      · unfold okMove
        rw [List.all_map]; rfl
    refine ⟨_, rfl, ?_⟩
    refine sp_set1 (d := .list (behL N G st t)) (by and_intros) ?_
    apply sp_if1 c1 rfl
    · intro hk
      rw [List.filter_cons, if_pos hk] at hacc
      unfold okMove at hk
      rw [Bool.and_eq_true, Bool.or_eq_true, Bool.not_eq_true'] at hk
      and_intros
      · rename_i hq
        have hq : ¬ t = N.H - 1 := of_decide_eq_false hq
        have hall := hk.2.resolve_left fun z => hq (of_decide_eq_true z)
        rw [List.all_eq_true] at hall
        rw [beh_free hk.1]
        apply ev_map (α := I3) (enc := enc) (f := fun x : I3 => .int ((look x won).getD (0, 0)).2)
        · and_intros
        · exact rfl
        · rw [List.length_map]; omega
        · intro x hx
          have hx2 : decide (x ∈ won.map (·.1)) = true := by
            obtain ⟨q, hq, rfl⟩ := List.mem_map.mp hx
            exact hall q hq
          rw [← look_isSome] at hx2
          obtain ⟨v, hv⟩ := Option.isSome_iff_exists.mp hx2
          refine ⟨rfl, ?_⟩
          and_intros
          exact sub_dE hv
          and_intros
          rw [hv]; rfl
      and_intros
      · exact f_max (fun x : I3 => ((look x won).getD (0, 0)).2) (fun z => hne (List.map_eq_nil_iff.mp z))
      have e : (if decide (t = N.H - 1) = true then PyData.int 0 else .int (mxI (((G.go st.c).map fun q => (⟨N.up st.a, t, q⟩ : I3)).map fun x => ((look x won).getD (0, 0)).2))) = .int (farOf N G won st t) := by
        unfold farOf
        simp only [decide_eq_true_eq, List.map_map]
        split <;> rfl
      rw [e]
      and_intros
      · exact app_ok (by rw [List.length_map]; simp only [List.length_cons] at hlen; omega)
      and_intros
      refine ⟨rfl, acc ++ [(farOf N G won st t + 1, t)], _, _, _, _, _, rfl, by rw [List.map_append]; rfl, ?_, ?_⟩
      · rw [← hacc, List.append_assoc]; rfl
      · simp only [List.length_append, List.length_cons, List.length_nil] at hlen ⊢; omega
    · intro hk
      rw [List.filter_cons, if_neg (by rw [hk]; decide)] at hacc
      and_intros
      exact ⟨rfl, acc, _, _, _, _, _, rfl, rfl, hacc, by simp only [List.length_cons] at hlen; omega⟩
  · rintro ρ u ⟨rfl, acc, _, j5, j6, j7, j8, rfl, rfl, hacc, hlen⟩
    rw [List.filter_nil, List.map_nil, List.append_nil] at hacc
    unfold best
    rw [← hacc]
    cases acc with
    | nil =>
      and_intros
    | cons x xs =>
      and_intros
      · exact b_min x xs
      and_intros
end Pg

end
section
set_option Elab.async false
set_option linter.all false
set_option autoImplicit false
set_option maxRecDepth 100000
set_option maxHeartbeats 400000
namespace DN
open PySem DL
theorem nodup_len {α : Type} : ∀ {l m : List α}, l.Nodup → (∀ x ∈ l, x ∈ m) → l.length ≤ m.length
  | [], m, _, _ => Nat.zero_le _
  | x :: l, m, nd, h => by
    obtain ⟨a, b, rfl⟩ := List.append_of_mem (h x List.mem_cons_self)
    rw [List.nodup_cons] at nd
    have := nodup_len (m := a ++ b) nd.2 fun y hy => by
      have h1 := h y (List.mem_cons_of_mem _ hy)
      have h2 : y ≠ x := fun e => nd.1 (e ▸ hy)
      rw [List.mem_append, List.mem_cons] at h1
      rw [List.mem_append]
      rcases h1 with h1 | h1 | h1
      · exact .inl h1
      · exact absurd h1 h2
      · exact .inr h1
    simp only [List.length_append, List.length_cons] at this ⊢
    omega
theorem nodup_rangeI (j : Int) : (rangeI j).Nodup := by
  unfold rangeI
  refine List.Pairwise.map _ (fun a b h e => h ?_) List.nodup_range
  omega
theorem nodup_stands (N : Net) (G : Guard) : (stands N G).Nodup := by
  unfold stands
  refine List.Pairwise.filter _ ?_
  rw [List.pairwise_flatMap]
  refine ⟨fun r _ => ?_, (nodup_rangeI _).imp fun {a b} h x hx y hy e => ?_⟩
  · rw [List.pairwise_flatMap]
    refine ⟨fun h _ => ?_, (nodup_rangeI _).imp fun {a b} h x hx y hy e => ?_⟩
    · refine List.Pairwise.map _ (fun a b h e => h ?_) (nodup_rangeI _)
      exact (T3.mk.inj e).2.2
    · obtain ⟨_, _, rfl⟩ := List.mem_map.mp hx
      obtain ⟨_, _, rfl⟩ := List.mem_map.mp hy
      exact h (T3.mk.inj e).2.1
  · simp only [List.mem_flatMap, List.mem_map] at hx hy
    obtain ⟨_, _, _, _, rfl⟩ := hx
    obtain ⟨_, _, _, _, rfl⟩ := hy
    exact h (T3.mk.inj e).1
noncomputable def itW (N : Net) (G : Guard) : Nat → Won
  | 0 => []
  | k + 1 => itW N G k ++ rowsW N G (itW N G k)
theorem mem_rowsW {N : Net} {G : Guard} {won : Won} {o : I3} {t m : Int} : (o, (t, m)) ∈ rowsW N G won ↔ o ∈ stands N G ∧ o ∉ won.map (·.1) ∧ best N G won o = some (m, t) := by
  unfold rowsW
  rw [List.mem_filterMap]
  constructor
  · rintro ⟨x, h1, h2⟩
    rw [List.mem_filter, Bool.not_eq_true', decide_eq_false_iff_not] at h1
    obtain ⟨p, h3, h4⟩ := Option.map_eq_some_iff.mp h2
    obtain ⟨a, b⟩ := p
    simp only [Prod.mk.injEq] at h4
    obtain ⟨rfl, rfl, rfl⟩ := h4
    exact ⟨h1.1, h1.2, h3⟩
  · rintro ⟨h1, h2, h3⟩
    exact ⟨o, by rw [List.mem_filter, Bool.not_eq_true', decide_eq_false_iff_not]; exact ⟨h1, h2⟩, by rw [h3]; rfl⟩
theorem keys_rowsW {N : Net} {G : Guard} {won : Won} : (rowsW N G won).map (·.1) = ((stands N G).filter fun o => !decide (o ∈ won.map (·.1))).filter fun o => (best N G won o).isSome := by
  unfold rowsW
  generalize (stands N G).filter (fun o => !decide (o ∈ won.map (·.1))) = l
  induction l with
  | nil => rfl
  | cons x l ih =>
    rw [List.filterMap_cons, List.filter_cons]
    cases h : best N G won x with
    | none => simpa using ih
    | some m => simpa using ih
theorem itW_keys (N : Net) (G : Guard) : ∀ k, ((itW N G k).map (·.1)).Nodup ∧ ∀ x ∈ (itW N G k).map (·.1), x ∈ stands N G
  | 0 => ⟨List.nodup_nil, fun x h => by cases h⟩
  | k + 1 => by
    obtain ⟨h1, h2⟩ := itW_keys N G k
    unfold itW
    rw [List.map_append, keys_rowsW]
    refine ⟨List.nodup_append.mpr ⟨h1, List.Pairwise.filter _ (List.Pairwise.filter _ (nodup_stands N G)), fun a ha b hb e => ?_⟩, fun x hx => ?_⟩
    · rw [List.mem_filter, List.mem_filter, Bool.not_eq_true', decide_eq_false_iff_not] at hb
      exact hb.1.2 (e ▸ ha)
    · rcases List.mem_append.mp hx with h | h
      · exact h2 x h
      · exact (List.mem_filter.mp (List.mem_filter.mp h).1).1
theorem itW_len (N : Net) (G : Guard) (k : Nat) : (itW N G k).length ≤ (stands N G).length := by
  have := nodup_len (itW_keys N G k).1 (itW_keys N G k).2
  rwa [List.length_map] at this
theorem stands_len {N : Net} {G : Guard} (o : N.Ok) (g : G.Ok N.H) : (stands N G).length ≤ 36 := by
  have o1 := o.H5; have o2 := o.B3; have o3 := o.B1; have o4 := o.H3; have g4 := g.l3
  unfold stands
  refine Nat.le_trans (List.length_filter_le _ _) ?_
  refine Nat.le_trans (Pg.len_flatMap_le (c := 12) fun r _ => ?_) ?_
  · refine Nat.le_trans (Pg.len_flatMap_le (c := 3) fun h _ => ?_) ?_
    · rw [List.length_map, Pg.len_rangeI]; omega
    · rw [Pg.len_rangeI]; omega
  · rw [Pg.len_rangeI]; omega
end DN
namespace Pg
open PySem DL DN
variable {n : Nat} {w s : D} {N : Net} {G : Guard}
theorem q_won_from (hw : NetM w N) (hs : GuardM s G) (o : N.Ok) (g : G.Ok N.H) : ∃ k, FE (n + 4) ix_won_from [w, s] = rt (dE (itW N G k)) ∧ rowsW N G (itW N G k) = [] := by
  have hsl := stands_len o g
  have q : ∃ d, FE (n + 4) ix_won_from [w, s] = rt d ∧ ∃ k, d = dE (itW N G k) ∧ rowsW N G (itW N G k) = [] := by
    refine fn_ex rfl rfl rfl rfl ?_
    and_intros
    · exact q_all_standings hw hs o g
    and_intros
    apply sp_whl1 (fun m ρ u => u = [] ∧ ∃ k fr j5 j6 j7 j8, ρ = [some w, some s, some (dE (itW N G k)), some (.bool fr), some (.list ((stands N G).map enc)), j5, j6, j7, j8] ∧ (fr = false → rowsW N G (itW N G k) = []) ∧ m = (stands N G).length - (itW N G k).length + (if fr = true then 1 else 0)) ((stands N G).length + 1)
    · show _ < 1000000; omega
    · exact ⟨rfl, 0, true, none, none, none, none, rfl, fun h => (by cases h), rfl⟩
    · rintro m ρ u ⟨rfl, k, fr, j5, j6, j7, j8, rfl, hfr, rfl⟩
      refine ⟨.bool fr, fr, ev_var rfl, rfl, ?_⟩
      rintro rfl
      have ik := itW_keys N G (k + 1)
      have il := itW_len N G k
      have il2 := itW_len N G (k + 1)
      have el : (itW N G (k + 1)).length = (itW N G k).length + (rowsW N G (itW N G k)).length := by
        show (itW N G k ++ rowsW N G (itW N G k)).length = _
        rw [List.length_append]
      have e1 : Ev (FE (n + 3)) (.cl [7] .seq (.var 4) (.nm 7) (.cons (.op .notin (.var 7) (.own 2)) .nil) (.em (.tup (.cons (.var 7) (.cons (.call 21 .bor (.cons (.var 0) (.cons (.var 1) (.cons (.own 2) (.cons (.var 7) .nil))))) .nil))))) [some w, some s, some (dE (itW N G k)), some (.bool true), some (.list ((stands N G).map enc)), j5, j6, j7, j8] [] (.list (((stands N G).filter fun o => !decide (o ∈ (itW N G k).map (·.1))).map fun o => .tuple [enc o, optP (best N G (itW N G k) o)])) [] := by
        apply ev_filterB (α := I3) (enc := enc)
        · and_intros
        · exact rfl
        · omega
        · intro x hx
          refine ⟨rfl, ?_, fun _ => ?_⟩
          · and_intros
            exact o_niD x _
          · and_intros
            · exact q_best_move hw hs o g (mem_stands.mp hx).2.2.1
            · cases best N G (itW N G k) x with
              | none => rfl
              | some p => exact Enc.imo p
            and_intros
      have e2 : (((stands N G).filter fun o => !decide (o ∈ (itW N G k).map (·.1))).filter fun o => (best N G (itW N G k) o).isSome).map (fun o : I3 => PyData.tuple [enc o, .tuple [.int ((best N G (itW N G k) o).getD (0, 0)).2, .int ((best N G (itW N G k) o).getD (0, 0)).1]]) = (rowsW N G (itW N G k)).map enc := by
        unfold rowsW
        generalize (stands N G).filter (fun o => !decide (o ∈ (itW N G k).map (·.1))) = l
        induction l with
        | nil => rfl
        | cons x l ih =>
          rw [List.filterMap_cons, List.filter_cons]
          cases h : best N G (itW N G k) x with
          | none => simpa using ih
          | some m =>
            simp only [Option.isSome_some, if_true, List.map_cons, Option.map_some, ih, h]; rfl
      have e3 : Ev (FE (n + 3)) (.cl [7, 8] .seq (.var 5) (.cons (.nm 7) (.cons (.nm 8) .nil)) (.cons (.op .isnot (.var 8) .non) .nil) (.em (.tup (.cons (.var 7) (.cons (.tup (.cons (.ix (.var 8) (.int 1)) (.cons (.ix (.var 8) (.int 0)) .nil))) .nil))))) [some w, some s, some (dE (itW N G k)), some (.bool true), some (.list ((stands N G).map enc)), some (.list (((stands N G).filter fun o => !decide (o ∈ (itW N G k).map (·.1))).map fun o => .tuple [enc o, optP (best N G (itW N G k) o)])), j6, j7, j8] [] (.list ((rowsW N G (itW N G k)).map enc)) [] := by
        rw [← e2]
        apply ev_filterB (α := I3) (enc := fun o => .tuple [enc o, optP (best N G (itW N G k) o)])
        · and_intros
        · exact rfl
        · have := List.length_filter_le (fun o => !decide (o ∈ (itW N G k).map (·.1))) (stands N G); omega
        · intro x hx
          refine ⟨rfl, ?_, fun hp => ?_⟩
          · refine ev_op (ev_var rfl) ev_non ?_
            rw [o_isnN]
            cases best N G (itW N G k) x <;> rfl
          · obtain ⟨p, hp⟩ := Option.isSome_iff_exists.mp hp
            rw [hp]
            and_intros
      and_intros
      · exact upd_dE (by rw [← itW]; exact ik.1) (by omega)
      and_intros
      refine ⟨_, ?_, rfl, k + 1, !(rowsW N G (itW N G k)).isEmpty, _, _, _, _, rfl, fun h => ?_, rfl⟩
      · cases h : rowsW N G (itW N G k) with
        | nil => simp; rw [el, h]; simp
        | cons x xs =>
          rw [h, List.length_cons] at el
          simp; omega
      · have h : rowsW N G (itW N G k) = [] := by simpa using h
        show rowsW N G (itW N G k ++ rowsW N G (itW N G k)) = []
        rw [h, List.append_nil, h]
    · rintro m ρ u x ⟨rfl, k, fr, j5, j6, j7, j8, rfl, hfr, rfl⟩ hx ht
      have hx := ev_out hx
      have hy : ev (FE (n + 3)) (.var 3) [some w, some s, some (dE (itW N G k)), some (.bool fr), some (.list ((stands N G).map enc)), j5, j6, j7, j8] [] = some (.bool fr, []) := ev_out (ev_var rfl)
      rw [hy] at hx
      cases hx
      cases fr with
      | true => cases ht
      | false =>
        exact sp_retO1 rfl ⟨k, rfl, hfr rfl⟩
  obtain ⟨d, h1, k, rfl, h2⟩ := q
  exact ⟨k, h1, h2⟩
end Pg

end
section
set_option Elab.async false
set_option linter.all false
set_option autoImplicit false
set_option maxRecDepth 100000
set_option maxHeartbeats 400000
namespace DN
open PySem DL
def isStand (N : Net) (G : Guard) (x : I3) : Bool := decide (0 ≤ x.a ∧ x.a < N.B) && decide (0 ≤ x.b ∧ x.b < N.H - 1) && decide (0 ≤ x.c ∧ x.c < G.lots.length) && !decide (x.b ∈ G.lot x.c)
def isRow (N : Net) (G : Guard) (x : I3 × (Int × Int)) : Bool := isStand N G x.1 && decide (0 ≤ x.2.1 ∧ x.2.1 < N.H) && decide (1 ≤ x.2.2)
def beg (G : Guard) : List I3 := G.begins.map fun p => ⟨0, 0, p⟩
noncomputable def goesDown (N : Net) (G : Guard) (tab : Won) (st : I3) (to m : Int) : Bool := decide (to ∈ N.go st.a st.b) && !((G.go st.c).any fun q => decide (to ∈ G.lot q)) && (decide (to = N.H - 1) || (G.go st.c).all fun q => match look (⟨N.up st.a, to, q⟩ : I3) tab with | some v => decide (v.2 < m) | none => false)
noncomputable def isWay (N : Net) (G : Guard) (tab : Won) : Bool := tab.all (isRow N G) && rising (tab.map (·.1)) && ((beg G).all fun o => decide (o ∈ tab.map (·.1))) && tab.all fun r => goesDown N G tab r.1 r.2.1 r.2.2
noncomputable def isKept (N : Net) (G : Guard) (tab : List I3) (st : I3) : Bool := (N.go st.a st.b).all fun to => (G.go st.c).any fun q => decide (to ∈ G.lot q) || decide ((⟨N.up st.a, to, q⟩ : I3) ∈ tab)
noncomputable def isHold (N : Net) (G : Guard) (tab : List I3) : Bool := tab.all (isStand N G) && rising tab && ((beg G).any fun o => decide (o ∈ tab)) && tab.all (isKept N G tab)
end DN
namespace Pg
open PySem DL DN
variable {n : Nat} {w s : D} {N : Net} {G : Guard}
theorem q_is_tuple_of {ds : List D} {m : Int} : FE (n + 1) ix_is_tuple_of [.tuple ds, .int m] = rt (.bool (decide ((ds.length : Int) = m))) := by
  refine fn_of rfl rfl rfl rfl ?_
  and_intros
theorem q_rising {α : Type} [Enc α] [EncT α] [DecidableEq α] {xs : List α} (hl : xs.length ≤ 16777216) : FE (n + 1) ix_is_rising [.tuple (xs.map enc)] = rt (.bool (rising xs)) ∧ FE (n + 1) ix_is_rising [.list (xs.map enc)] = rt (.bool (rising xs)) := by
  constructor
  · refine fn_of rfl rfl rfl rfl ?_
    and_intros
    · apply ev_map (enc := enc) (xs := xs.zip xs.tail)
      · and_intros
      · rw [← List.map_drop, List.drop_one]; exact src_zipT _ _
      · rw [List.length_zip]; omega
      · intro p hp
        refine ⟨rfl, ?_⟩
        and_intros
        exact o_ltT p.1 p.2
    and_intros
    rw [← rising_zip]
  · refine fn_of rfl rfl rfl rfl ?_
    and_intros
    · apply ev_map (enc := enc) (xs := xs.zip xs.tail)
      · and_intros
      · rw [← List.map_drop, List.drop_one]; exact src_zipL _ _
      · rw [List.length_zip]; omega
      · intro p hp
        refine ⟨rfl, ?_⟩
        and_intros
        exact o_ltT p.1 p.2
    and_intros
    rw [← rising_zip]
theorem q_is_standing (hw : NetM w N) (hs : GuardM s G) {x : I3} : FE (n + 3) ix_is_standing [w, s, enc x] = rt (.bool (isStand N G x)) := by
  have h0 := hw.h0
  have h1 := hw.h1
  obtain ⟨d, eL, g1, g2, g3⟩ := hs.h0
  refine fn_of rfl rfl rfl rfl ?_
  and_intros
  · exact q_is_tuple_of
  and_intros
  · exact q_is_below
  and_intros
  · exact q_is_below
  and_intros
  · rename_i h
    unfold isStand
    simp at h
    symm
    by_cases c1 : 0 ≤ x.a ∧ x.a < N.B
    · by_cases c2 : 0 ≤ x.b ∧ x.b < N.H - 1
      · exfalso; omega
      · rw [decide_eq_false c2]; simp
    · rw [decide_eq_false c1]; simp
  and_intros
  · exact q_is_below
  and_intros
  · rename_i hc
    have hc := of_decide_eq_true hc
    exact (g3 x.c hc.1 hc.2).1
  and_intros
  · rename_i hc
    have hc := of_decide_eq_true hc
    exact (g3 x.c hc.1 hc.2).2.nin x.b
  and_intros
  rename_i h
  unfold isStand
  simp at h
  rw [decide_eq_true h.1, decide_eq_true h.2]; simp
theorem q_is_row (hw : NetM w N) (hs : GuardM s G) {x : I3 × (Int × Int)} : FE (n + 4) ix_is_row [w, s, enc x] = rt (.bool (isRow N G x)) := by
  have h0 := hw.h0
  refine fn_of rfl rfl rfl rfl ?_
  and_intros
  · exact q_is_tuple_of
  and_intros
  · exact q_is_standing hw hs
  and_intros
  · exact q_is_tuple_of
  and_intros
  · rename_i h
    unfold isRow
    simp at h
    rw [h]; simp
  and_intros
  · exact q_is_below
  and_intros
  · exact q_is_from
  and_intros
  rename_i h
  unfold isRow
  simp at h
  rw [h]; simp
theorem q_goes_down (hw : NetM w N) (hs : GuardM s G) (o : N.Ok) (g : G.Ok N.H) {tab : Won} {st : I3} {to m : Int} (hl : look st tab = some (to, m)) : FE (n + 3) ix_goes_down [w, s, dE tab, enc st] = rt (.bool (goesDown N G tab st to m)) := by
  have h0 := hw.h0
  have h9 := g.s9
  have hgo := G.len_go (p := st.c)
  have hgl := N.len_go (t := st.a) (h := st.b)
  refine fn_of rfl rfl rfl rfl ?_
  and_intros
  · exact sub_dE hl
  · exact rfl
  and_intros
  · exact q_behind' hw hs o g
  and_intros
  · exact q_goes_on hw (by have := o.B1; omega) (by have := o.L16; omega)
  and_intros
  · exact in_beh
  and_intros
  · rename_i h
    unfold goesDown
    rw [Bool.or_eq_true] at h
    rcases h with h | h
    · rw [Bool.not_eq_true'] at h; rw [h]; rfl
    · rw [h]; simp
  and_intros
  · rename_i h ht
    rw [Bool.or_eq_false_iff, Bool.not_eq_false'] at h
    rw [beh_free h.2]
    apply ev_map (α := I3) (enc := enc) (f := fun x => .bool (match look x tab with | some v => decide (v.2 < m) | none => false))
    · and_intros
    · exact rfl
    · rw [List.length_map]; omega
    · intro x hx
      refine ⟨rfl, ?_⟩
      apply ev_to
      · apply ev_and (q := match look x tab with | some v => decide (v.2 < m) | none => false)
        · refine ev_op (ev_var rfl) (ev_var rfl) (o_inD x tab)
        · intro hm
          rw [← look_isSome] at hm
          obtain ⟨v, hv⟩ := Option.isSome_iff_exists.mp hm
          have e := sub_dE hv
          have e2 : (PyData.bool (decide (v.2 < m))) = .bool (match look x tab with | some v => decide (v.2 < m) | none => false) := by rw [hv]
          refine ev_to (d := .bool (decide (v.2 < m))) ?_ e2
          and_intros
      · rw [← look_isSome]
        cases look x tab <;> rfl
  and_intros
  rename_i h
  rw [Bool.or_eq_false_iff, Bool.not_eq_false'] at h
  unfold goesDown
  rw [h.1, h.2, List.all_map]; rfl
theorem goL {N : Net} (o : N.Ok) {t h : Int} : (N.go t h).length ≤ 17 := by have := N.len_go (t := t) (h := h); have := o.L16; omega
theorem ety : tyIs DTy.tuple Ty.tuple = true := rfl
theorem q_is_way (hw : NetM w N) (hs : GuardM s G) (o : N.Ok) (g : G.Ok N.H) {tab : Won} (hl : tab.length ≤ 1000) : FE (n + 5) ix_is_way [w, s, .tuple (tab.map enc)] = rt (.bool (isWay N G tab)) := by
  have hb3 := g.b3
  refine fn_of rfl rfl rfl rfl ?_
  and_intros
  · apply ev_map (enc := enc) (xs := tab) (f := fun x => .bool (isRow N G x))
    · and_intros
    · exact rfl
    · omega
    · intro x hx
      refine ⟨rfl, ?_⟩
      and_intros
      exact q_is_row hw hs
  and_intros
  · rename_i h
    have h : tab.all (isRow N G) = false := by simpa [ety, -List.all_eq_false] using h
    unfold isWay
    rw [h]; rfl
  and_intros
  · apply ev_map (enc := enc) (xs := tab) (f := fun x => enc x.1)
    · and_intros
    · exact rfl
    · omega
    · intro x hx
      refine ⟨rfl, ?_⟩
      and_intros
  and_intros
  · have := (q_rising (n := n + 3) (xs := tab.map (·.1)) (by rw [List.length_map]; omega)).2
    rw [List.map_map] at this
    exact this
  and_intros
  · rename_i h
    have h : rising (tab.map (·.1)) = false := by simpa using h
    unfold isWay
    rw [h]; simp
  intro h2
  have h2 : rising (tab.map (·.1)) = true := by simpa using h2
  have nd := nodup_of_lt (rising_iff.mp h2)
  and_intros
  · exact (dict_dE nd (by omega)).1
  and_intros
  · apply ev_map (α := I3) (enc := enc) (xs := beg G) (f := fun x => .bool (decide (x ∈ tab.map (·.1))))
    · and_intros
      exact q_begun hs (by omega)
    · exact rfl
    · unfold beg; rw [List.length_map]; omega
    · intro x hx
      refine ⟨rfl, ?_⟩
      and_intros
      exact o_inD x tab
  and_intros
  · rename_i h
    have h : ((beg G).all fun o => decide (o ∈ tab.map (·.1))) = false := by rw [Bool.not_eq_true'] at h; exact h
    unfold isWay
    rw [h]; simp
  and_intros
  · apply ev_map (α := I3 × (Int × Int)) (enc := fun r => enc r.1) (xs := tab) (f := fun r => .bool (goesDown N G tab r.1 r.2.1 r.2.2))
    · and_intros
    · rw [DN.src_keys, List.map_map]; rfl
    · omega
    · intro x hx
      refine ⟨rfl, ?_⟩
      and_intros
      exact q_goes_down hw hs o g (look_of nd hx)
  and_intros
  rename_i h1 _ h3
  rw [Bool.not_eq_false'] at h3
  have h1 : tab.all (isRow N G) = true := by simpa [ety, -List.all_eq_true] using h1
  unfold isWay
  rw [h1, h2, h3]; rfl
theorem q_is_kept (hw : NetM w N) (hs : GuardM s G) (o : N.Ok) (g : G.Ok N.H) {tab : List I3} {st : I3} : FE (n + 3) ix_is_kept [w, s, dE (tab.map fun x => (x, true)), enc st] = rt (.bool (isKept N G tab st)) := by
  have h9 := g.s9
  have hgo := G.len_go (p := st.c)
  refine fn_of rfl rfl rfl rfl ?_
  apply sp_for1 (enc := enc) (xs := N.go st.a st.b) (fun r ρ u => u = [] ∧ ∃ j4 j5, ρ = [some w, some s, some (dE (tab.map fun x => (x, true))), some (enc st), j4, j5] ∧ isKept N G tab st = r.all fun to => (G.go st.c).any fun q => decide (to ∈ G.lot q) || decide ((⟨N.up st.a, to, q⟩ : I3) ∈ tab))
  · and_intros
    exact q_goes_on hw (by have := o.B1; omega) (by have := o.L16; omega)
  · exact rfl
  · exact ⟨rfl, none, none, rfl, rfl⟩
  · rintro t r ρ u ⟨rfl, j4, j5, rfl, e⟩
    refine ⟨_, rfl, ?_⟩
    have c : Ev (FE (n + 2)) (.cl [5] .seq (.call 20 .pure (.cons (.var 0) (.cons (.var 1) (.cons (.var 3) (.cons (.var 4) .nil))))) (.nm 5) .nil (.em (.or (.op .is (.var 5) .non) (.op .inn (.var 5) (.var 2))))) [some w, some s, some (dE (tab.map fun x => (x, true))), some (enc st), some (.int t), j5] [] (.list ((G.go st.c).map fun q => .bool (decide (t ∈ G.lot q) || decide ((⟨N.up st.a, t, q⟩ : I3) ∈ tab)))) [] := by
      apply ev_map (α := Int) (enc := fun q => if t ∈ G.lot q then .none else enc (⟨N.up st.a, t, q⟩ : I3))
      · and_intros
        exact q_behind' hw hs o g
      · exact rfl
      · omega
      · intro q hq
        refine ⟨rfl, ?_⟩
        by_cases h : t ∈ G.lot q
        · rw [if_pos h, decide_eq_true h]
          exact ev_or_t (x := .bool true) (ev_op (ev_var rfl) ev_non rfl) rfl
        · rw [if_neg h, decide_eq_false h]
          refine ev_or (p := false) (ev_op (ev_var rfl) ev_non rfl) fun _ => ev_op (ev_var rfl) (ev_var rfl) ?_
          refine o_to (o_inD (⟨N.up st.a, t, q⟩ : I3) (tab.map fun x => (x, true))) ?_
          rw [List.map_map]
          have e : ((fun x : I3 × Bool => x.1) ∘ fun x : I3 => (x, true)) = id := rfl
          rw [e, List.map_id]
    and_intros
    · rename_i h
      rw [Bool.not_eq_true'] at h
      rw [e, List.all_cons, h]; rfl
    intro h
    rw [Bool.not_eq_false'] at h
    and_intros
    refine ⟨rfl, _, _, rfl, ?_⟩
    rw [e, List.all_cons, h]; rfl
  · rintro ρ u ⟨rfl, j4, j5, rfl, e⟩
    and_intros
    rw [e]; rfl
theorem q_is_hold (hw : NetM w N) (hs : GuardM s G) (o : N.Ok) (g : G.Ok N.H) {tab : List I3} (hl : tab.length ≤ 1000) : FE (n + 5) ix_is_hold [w, s, .tuple (tab.map enc)] = rt (.bool (isHold N G tab)) := by
  have hb3 := g.b3
  refine fn_of rfl rfl rfl rfl ?_
  and_intros
  · apply ev_map (enc := enc) (xs := tab) (f := fun x => .bool (isStand N G x))
    · and_intros
    · exact rfl
    · omega
    · intro x hx
      refine ⟨rfl, ?_⟩
      and_intros
      exact q_is_standing hw hs
  and_intros
  · rename_i h
    have h : tab.all (isStand N G) = false := by simpa [ety, -List.all_eq_false] using h
    unfold isHold
    rw [h]; rfl
  and_intros
  · exact (q_rising (by omega)).1
  and_intros
  · apply ev_map (α := I3) (enc := enc) (xs := beg G) (f := fun x => .bool (decide (x ∈ tab)))
    · and_intros
      exact q_begun hs (by omega)
    · exact rfl
    · unfold beg; rw [List.length_map]; omega
    · intro x hx
      refine ⟨rfl, ?_⟩
      and_intros
      exact o_inT x tab (by decide)
  and_intros
  · rename_i h
    unfold isHold
    rw [Bool.or_eq_true, Bool.not_eq_true', Bool.not_eq_true'] at h
    rcases h with h | h
    · rw [h]; simp
    · rw [h]; simp
  intro h2
  rw [Bool.or_eq_false_iff, Bool.not_eq_false', Bool.not_eq_false'] at h2
  have nd := nodup_of_lt (rising_iff.mp h2.1)
  have nd2 : ((tab.map fun x => (x, true)).map (·.1)).Nodup := by
    rw [List.map_map]
    have e : ((fun x : I3 × Bool => x.1) ∘ fun x : I3 => (x, true)) = id := rfl
    rw [e, List.map_id]; exact nd
  and_intros
  · apply ev_map (α := I3) (enc := enc) (xs := tab) (f := fun x => enc (x, true))
    · and_intros
    · exact rfl
    · omega
    · intro x hx
      refine ⟨rfl, ?_⟩
      apply ev_to
      · and_intros
      · rfl
  and_intros
  · have := (dict_dE nd2 (by rw [List.length_map]; omega)).2
    rw [List.map_map] at this
    exact this
  and_intros
  · apply ev_map (enc := enc) (xs := tab) (f := fun x => .bool (isKept N G tab x))
    · and_intros
    · exact rfl
    · omega
    · intro x hx
      refine ⟨rfl, ?_⟩
      and_intros
      exact q_is_kept hw hs o g
  and_intros
  rename_i h1
  have h1 : tab.all (isStand N G) = true := by simpa [ety, -List.all_eq_true] using h1
  unfold isHold
  rw [h1, h2.1, h2.2]; rfl
theorem q_is_way_list {ds : List D} : FE (n + 5) ix_is_way [w, s, .list ds] = rt (.bool false) := by
  refine fn_of rfl rfl rfl rfl ?_
  refine sp_if1 (p := true) (z := .bool true) (u1 := []) ?_ rfl ?_ (fun h => by cases h)
  · exact ev_or_t (x := .bool true) (ev_to (ev_not (ev_isi (ev_var rfl) rfl) rfl) rfl) rfl
  · and_intros
theorem q_is_hold_list {ds : List D} : FE (n + 5) ix_is_hold [w, s, .list ds] = rt (.bool false) := by
  refine fn_of rfl rfl rfl rfl ?_
  refine sp_if1 (p := true) (z := .bool true) (u1 := []) ?_ rfl ?_ (fun h => by cases h)
  · exact ev_or_t (x := .bool true) (ev_to (ev_not (ev_isi (ev_var rfl) rfl) rfl) rfl) rfl
  · and_intros
end Pg

end
section
set_option Elab.async false
set_option linter.all false
set_option autoImplicit false
set_option maxRecDepth 100000
set_option maxHeartbeats 400000
namespace DN
open PySem DL
theorem itW_stab {N : Net} {G : Guard} {k : Nat} (h : rowsW N G (itW N G k) = []) : ∀ j, itW N G (k + j) = itW N G k
  | 0 => rfl
  | j + 1 => by
    show itW N G (k + j) ++ rowsW N G (itW N G (k + j)) = _
    rw [itW_stab h j, h, List.append_nil]
theorem itW_one {N : Net} {G : Guard} {k l : Nat} (h : rowsW N G (itW N G k) = []) (h2 : rowsW N G (itW N G l) = []) : itW N G k = itW N G l := by
  by_cases e : k ≤ l
  · obtain ⟨j, rfl⟩ := Nat.exists_eq_add_of_le e
    exact (itW_stab h j).symm
  · obtain ⟨j, rfl⟩ := Nat.exists_eq_add_of_le (by omega : l ≤ k)
    exact itW_stab h2 j
open Classical in
/-- all that is won -/
noncomputable def wonF (N : Net) (G : Guard) : Won := if h : ∃ k, rowsW N G (itW N G k) = [] then itW N G (choose h) else []
theorem wonF_eq {N : Net} {G : Guard} {k : Nat} (h : rowsW N G (itW N G k) = []) : itW N G k = wonF N G := by
  have e : ∃ k, rowsW N G (itW N G k) = [] := ⟨k, h⟩
  unfold wonF
  rw [dif_pos e]
  exact itW_one h (Classical.choose_spec e)
def allWon (N : Net) (G : Guard) (won : Won) : Bool := (beg G).all fun o => decide (o ∈ won.map (·.1))
noncomputable def wayL (N : Net) (G : Guard) : Won := srt (wonF N G)
noncomputable def holdL (N : Net) (G : Guard) : List I3 := (stands N G).filter fun o => !decide (o ∈ (wonF N G).map (·.1))
noncomputable def ticksI (N : Net) (G : Guard) : Int := mxI ((beg G).map fun o => ((look o (wonF N G)).getD (0, 0)).2)
instance : EncT (I3 × (Int × Int)) := ⟨fun _ => rfl, by decide⟩
end DN
namespace Pg
open PySem DL DN
variable {n : Nat} {w s : D} {N : Net} {G : Guard}
theorem q_won (hw : NetM w N) (hs : GuardM s G) (o : N.Ok) (g : G.Ok N.H) : FE (n + 4) ix_won_from [w, s] = rt (dE (wonF N G)) ∧ ∃ k, wonF N G = itW N G k ∧ rowsW N G (wonF N G) = [] := by
  obtain ⟨k, h1, h2⟩ := q_won_from (n := n) hw hs o g
  have e := wonF_eq h2
  rw [e] at h1
  exact ⟨h1, k, e.symm, by rw [← e]; exact h2⟩
/-- the fixed point, whatever runs -/
theorem wonF_ok (o : N.Ok) (g : G.Ok N.H) : ∃ k, wonF N G = itW N G k ∧ rowsW N G (wonF N G) = [] := (q_won (n := 0) (netM_self o) (guardM_self g) o g).2
theorem wonF_len (o : N.Ok) (g : G.Ok N.H) : (wonF N G).length ≤ 36 := by
  obtain ⟨k, e, _⟩ := wonF_ok o g
  rw [e]
  have := itW_len N G k
  have := stands_len o g
  omega
theorem beg_len (g : G.Ok N.H) : (beg G).length ≤ 3 := by unfold beg; rw [List.length_map]; exact g.b3
theorem sort_won (l : Won) : sortOk (l.map enc) = true := sortOk_t (by decide) (fun a => ⟨_, _, rfl⟩) l
theorem q_a_way (hw : NetM w N) (hs : GuardM s G) (o : N.Ok) (g : G.Ok N.H) : FE (n + 5) ix_a_way [w, s] = rt (if allWon N G (wonF N G) = true then .tuple ((wayL N G).map enc) else .none) := by
  have hb := beg_len g
  refine fn_of rfl rfl rfl rfl ?_
  and_intros
  · exact (q_won hw hs o g).1
  and_intros
  · apply ev_map (α := I3) (enc := enc) (xs := beg G) (f := fun x => .bool (decide (x ∈ (wonF N G).map (·.1))))
    · and_intros
      exact q_begun hs (by have := g.b3; omega)
    · exact rfl
    · omega
    · intro x hx
      refine ⟨rfl, ?_⟩
      and_intros
      exact o_inD x (wonF N G)
  and_intros
  · exact sitems_dE (sort_won _) (by have := wonF_len o g; omega)
  and_intros
theorem q_a_hold (hw : NetM w N) (hs : GuardM s G) (o : N.Ok) (g : G.Ok N.H) : FE (n + 5) ix_a_hold [w, s] = rt (if ((beg G).any fun x => decide (x ∈ holdL N G)) = true then .tuple ((holdL N G).map enc) else .none) := by
  have hb := beg_len g
  have hsl := stands_len o g
  refine fn_of rfl rfl rfl rfl ?_
  and_intros
  · exact (q_won hw hs o g).1
  and_intros
  · apply ev_filterB (α := I3) (enc := enc) (xs := stands N G)
    · and_intros
      exact q_all_standings hw hs o g
    · exact rfl
    · omega
    · intro x hx
      refine ⟨rfl, ?_, fun _ => ?_⟩
      · and_intros
        exact o_niD x (wonF N G)
      · and_intros
  and_intros
  · apply ev_map (α := I3) (enc := enc) (xs := beg G) (f := fun x => .bool (decide (x ∈ holdL N G)))
    · and_intros
      exact q_begun hs (by have := g.b3; omega)
    · exact rfl
    · omega
    · intro x hx
      refine ⟨rfl, ?_⟩
      and_intros
      exact o_inT x (holdL N G) (by decide)
  and_intros
theorem q_seen_ticks (hw : NetM w N) (hs : GuardM s G) (o : N.Ok) (g : G.Ok N.H) : FE (n + 5) ix_seen_ticks [w, s] = rt (if allWon N G (wonF N G) = true then .int (ticksI N G) else .none) := by
  have hb := beg_len g
  refine fn_of rfl rfl rfl rfl ?_
  and_intros
  · exact (q_won hw hs o g).1
  and_intros
  · apply ev_map (α := I3) (enc := enc) (xs := beg G) (f := fun x => .bool (decide (x ∈ (wonF N G).map (·.1))))
    · and_intros
      exact q_begun hs (by have := g.b3; omega)
    · exact rfl
    · omega
    · intro x hx
      refine ⟨rfl, ?_⟩
      and_intros
      exact o_inD x (wonF N G)
  and_intros
  · rename_i h
    rw [Bool.not_eq_true'] at h
    unfold allWon; rw [h]; rfl
  intro h
  rw [Bool.not_eq_false'] at h
  and_intros
  · apply ev_map (α := I3) (enc := enc) (xs := beg G) (f := fun x => .int ((look x (wonF N G)).getD (0, 0)).2)
    · and_intros
      exact q_begun hs (by have := g.b3; omega)
    · exact rfl
    · omega
    · intro x hx
      rw [List.all_eq_true] at h
      have hx2 := h x hx
      rw [← look_isSome] at hx2
      obtain ⟨v, hv⟩ := Option.isSome_iff_exists.mp hx2
      refine ⟨rfl, ?_⟩
      and_intros
      exact sub_dE hv
      and_intros
      rw [hv]; rfl
  and_intros
  · exact f_max (fun x : I3 => ((look x (wonF N G)).getD (0, 0)).2) (fun z => g.b1 (by unfold beg at z; exact List.map_eq_nil_iff.mp z))
  unfold allWon; rw [h]; rfl
end Pg

end
section
set_option Elab.async false
set_option linter.all false
set_option autoImplicit false
set_option maxRecDepth 100000
set_option maxHeartbeats 400000
namespace DN
open PySem DL
/-- the house of a letter led by a table past a walk, tick by tick -/
def hs (N : Net) (tab : Won) (walk : List Int) : Nat → Int
  | 0 => 0
  | t + 1 => if hs N tab walk t = N.H - 1 then hs N tab walk t else ((look (⟨(t : Int) % N.B, hs N tab walk t, (walk[t]?).getD 0⟩ : I3) tab).getD (0, 0)).1
theorem hs_stop {N : Net} {tab : Won} {walk : List Int} {t : Nat} (h : hs N tab walk t = N.H - 1) : hs N tab walk (t + 1) = hs N tab walk t := by
  show (if hs N tab walk t = N.H - 1 then hs N tab walk t else _) = _; rw [if_pos h]
theorem hs_go {N : Net} {tab : Won} {walk : List Int} {t : Nat} (h : hs N tab walk t ≠ N.H - 1) : hs N tab walk (t + 1) = ((look (⟨(t : Int) % N.B, hs N tab walk t, (walk[t]?).getD 0⟩ : I3) tab).getD (0, 0)).1 := by
  show (if hs N tab walk t = N.H - 1 then hs N tab walk t else _) = _; rw [if_neg h]
/-- .. and the row of them, as far as it goes -/
def ledR (N : Net) (tab : Won) (walk : List Int) : Nat → List Int
  | 0 => [0]
  | t + 1 => if hs N tab walk t = N.H - 1 then ledR N tab walk t else ledR N tab walk t ++ [hs N tab walk (t + 1)]
theorem ledR_stop {N : Net} {tab : Won} {walk : List Int} {t : Nat} (h : hs N tab walk t = N.H - 1) : ledR N tab walk (t + 1) = ledR N tab walk t := by
  rw [ledR, if_pos h]
theorem ledR_go {N : Net} {tab : Won} {walk : List Int} {t : Nat} (h : hs N tab walk t ≠ N.H - 1) : ledR N tab walk (t + 1) = ledR N tab walk t ++ [hs N tab walk (t + 1)] := by
  rw [ledR, if_neg h]
theorem ledR_last (N : Net) (tab : Won) (walk : List Int) : ∀ t, (ledR N tab walk t).getLast? = some (hs N tab walk t)
  | 0 => rfl
  | t + 1 => by
    unfold ledR
    split
    · rename_i h
      rw [ledR_last N tab walk t, hs_stop h]
    · rw [List.getLast?_append]; rfl
theorem ledR_len (N : Net) (tab : Won) (walk : List Int) : ∀ t, 1 ≤ (ledR N tab walk t).length ∧ (ledR N tab walk t).length ≤ t + 1
  | 0 => ⟨Nat.le_refl _, Nat.le_refl _⟩
  | t + 1 => by
    have := ledR_len N tab walk t
    unfold ledR
    split
    · omega
    · rw [List.length_append, List.length_cons, List.length_nil]; omega
theorem range_drop (m t : Nat) : t < m → (List.range m).drop t = t :: (List.range m).drop (t + 1) := by
  intro h
  rw [List.drop_eq_getElem_cons (by rw [List.length_range]; exact h), List.getElem_range]
theorem rangeI_drop {m : Int} {t : Nat} : (t : Int) < m → (rangeI m).drop t = (t : Int) :: (rangeI m).drop (t + 1) := by
  intro h
  unfold rangeI
  rw [← List.map_drop, ← List.map_drop, range_drop m.toNat t (by omega)]; rfl
theorem rangeI_turn {m a : Int} {t : Nat} {r : List Int} (h : a :: r = (rangeI m).drop t) : (t : Int) < m ∧ a = t ∧ r = (rangeI m).drop (t + 1) := by
  by_cases e : (t : Int) < m
  · rw [rangeI_drop e] at h
    cases h
    exact ⟨e, rfl, rfl⟩
  · rw [List.drop_eq_nil_of_le (by unfold rangeI; rw [List.length_map, List.length_range]; omega)] at h
    cases h
theorem rangeI_end {m : Int} {t : Nat} (h : [] = (rangeI m).drop t) : m ≤ t := by
  by_cases e : (t : Int) < m
  · rw [rangeI_drop e] at h; cases h
  · omega
theorem SeqI.at {e : D} {xs : List Int} (h : SeqI e xs) {i : Nat} (hi : i < xs.length) : subD e (.int (i : Int)) = some (.int ((xs[i]?).getD 0)) := by
  have e1 : L2.atI xs (i : Int) = some ((xs[i]?).getD 0) := by
    rw [atI_nn (by omega) (by omega), Int.toNat_natCast, List.getElem?_eq_getElem hi]; rfl
  rcases h with rfl | rfl
  · exact subL e1
  · exact subT e1
theorem SeqI.len {e : D} {xs : List Int} (h : SeqI e xs) : Blt.fn .len [e] = some (.int xs.length) := by
  rcases h with rfl | rfl
  · exact f_len _ _
  · exact f_lenT _ _
theorem SeqI.to {e : D} {xs : List Int} (h : SeqI e xs) {i : Int} (h0 : 0 ≤ i) : ∃ e', sliceD none (some i) e = some e' ∧ SeqI e' (xs.take i.toNat) := by
  rcases h with rfl | rfl
  · exact ⟨_, sl_lt _ h0, .inl (by rw [List.map_take])⟩
  · exact ⟨_, sl_tt _ h0, .inr (by rw [List.map_take])⟩
end DN
namespace Pg
open PySem DL DN
variable {n : Nat} {w s : D} {N : Net} {G : Guard}
theorem last_enc {xs : List Int} {x : Int} (h : xs.getLast? = some x) : subD (.tuple (xs.map enc)) (.int (-1)) = some (.int x) := by
  refine subT (x := x) ?_
  rw [atI_last (by intro e; rw [e] at h; cases h), h]
theorem q_led (hw : NetM w N) {y z : D} {tab : Won} {walk : List Int} (hy : tupD y = .tuple (tab.map enc)) (hok : okD 4 y = true) (hB : 0 < N.B) (nd : (tab.map (·.1)).Nodup) (hl : tab.length ≤ 1000) (hz : SeqI z walk) (h1 : 1 ≤ walk.length) (h2 : walk.length ≤ 1000)
    (hd : ∀ t, t + 1 < walk.length → hs N tab walk t ≠ N.H - 1 → (look (⟨(t : Int) % N.B, hs N tab walk t, (walk[t]?).getD 0⟩ : I3) tab).isSome = true) : FE (n + 6) ix_led [w, y, z] = rt (.tuple ((ledR N tab walk (walk.length - 1)).map enc)) := by
  have h0 := hw.h0
  have h5 := hw.h1
  have ht := q_tupled 4 y hok n
  rw [hy] at ht
  refine fn_of rfl rfl rfl rfl ?_
  and_intros
  · exact (dict_dE nd (by omega)).1
  and_intros
  apply sp_for1 (enc := enc) (xs := rangeI ((walk.length : Int) - 1)) (fun r ρ u => u = [] ∧ ∃ (t : Nat) (j5 : Option D) (l : List D), ρ = [some w, some y, some z, j5, some (dE tab), some (.tuple l)] ∧ r = (rangeI ((walk.length : Int) - 1)).drop t ∧ t ≤ walk.length - 1 ∧ l = (ledR N tab walk t).map enc)
  · and_intros
    exact hz.len
    and_intros
  · exact src_rng1 (by omega) (by omega)
  · exact ⟨rfl, 0, none, _, rfl, rfl, by omega, rfl⟩
  · rintro a r ρ u ⟨rfl, t, j5, l, rfl, hr, hle, rfl⟩
    obtain ⟨q1, rfl, rfl⟩ := rangeI_turn hr
    have ql := last_enc (ledR_last N tab walk t)
    have qw := hz.at (i := t) (by omega)
    have qn := ledR_len N tab walk t
    refine ⟨_, rfl, ?_⟩
    and_intros
    · rename_i h
      rw [Bool.not_eq_true', decide_eq_false_iff_not] at h
      have hv := hd t (by omega) h
      have e := sub_dE (Option.some_get hv).symm
      have e3 : (look (⟨(t : Int) % N.B, hs N tab walk t, (walk[t]?).getD 0⟩ : I3) tab).get hv = (look (⟨(t : Int) % N.B, hs N tab walk t, (walk[t]?).getD 0⟩ : I3) tab).getD (0, 0) := by
        rw [Option.get_eq_getD]
      rw [e3] at e
      exact e
    and_intros
    · refine fits_of ?_
      rw [List.length_append, List.length_map]; simp; omega
    and_intros
    · rename_i h
      rw [Bool.not_eq_true', decide_eq_false_iff_not] at h
      refine ⟨rfl, t + 1, _, _, rfl, rfl, by omega, ?_⟩
      rw [ledR_go h, hs_go h, List.map_append]; rfl
    and_intros
    · rename_i h
      rw [Bool.not_eq_false', decide_eq_true_iff] at h
      exact ⟨rfl, t + 1, _, _, rfl, rfl, by omega, by rw [ledR_stop h]⟩
  · rintro ρ u ⟨rfl, t, j5, l, rfl, hr, hle, rfl⟩
    have := rangeI_end hr
    have e : t = walk.length - 1 := by omega
    subst e
    and_intros
end Pg

end
section
set_option Elab.async false
set_option linter.all false
set_option autoImplicit false
set_option maxRecDepth 100000
set_option maxHeartbeats 400000
namespace DN
open PySem DL
theorem atI0 {α : Type} {x : α} {xs : List α} : L2.atI (x :: xs) 0 = some x := by
  rw [atI_nn (Int.le_refl 0) (by rw [List.length_cons]; omega)]; rfl
theorem sub0 {e d : D} {ds : List D} (h : e = .list (d :: ds) ∨ e = .tuple (d :: ds)) : subD e (.int 0) = some d := by
  rcases h with rfl | rfl <;> exact atI0
/-- walks: a sequence of sequences -/
def WalksM (e : D) (ws : List (List Int)) : Prop := ∃ zs : List (D × List Int), (e = .list (zs.map Prod.fst) ∨ e = .tuple (zs.map Prod.fst)) ∧ ws = zs.map Prod.snd ∧ ∀ z ∈ zs, SeqI z.1 z.2
theorem walksM_tup (ws : List (List Int)) : WalksM (.tuple (ws.map enc)) ws := by
  refine ⟨ws.map fun w => (enc w, w), .inr ?_, ?_, fun z hz => ?_⟩
  · rw [List.map_map]; rfl
  · rw [List.map_map]
    have e : (Prod.snd ∘ fun w : List Int => ((enc w : D), w)) = id := rfl
    rw [e, List.map_id]
  · obtain ⟨w, _, rfl⟩ := List.mem_map.mp hz
    exact .inr rfl
noncomputable def heldAt (G : Guard) (ws : List (List Int)) (t : Nat) : List Int := ss (ws.flatMap fun w => G.lot ((w[t]?).getD 0))
noncomputable def lotsHeld' (G : Guard) (ws : List (List Int)) (T : Nat) : List (List Int) := (List.range T).map (heldAt G ws)
def isPast (L : List (List Int)) (r : List Int) : Bool := !((L.zip r).any fun p => decide (p.2 ∈ p.1))
/-- in how many ways, k ticks before the end -/
noncomputable def wpRow (N : Net) (L : List (List Int)) : Nat → List Int
  | 0 => (rangeI N.H).map fun h => if h = N.H - 1 ∧ h ∉ (L[L.length - 1]?).getD [] then 1 else 0
  | k + 1 => (rangeI N.H).map fun h => if h ∈ (L[L.length - 1 - (k + 1)]?).getD [] then 0 else ((N.go ((L.length - 1 - (k + 1) : Nat) : Int) h).map fun far => ((wpRow N L k)[far.toNat]?).getD 0).sum
noncomputable def wpAt (N : Net) (L : List (List Int)) (k : Nat) (h : Int) : Int := ((wpRow N L k)[h.toNat]?).getD 0
theorem wpRow_len (N : Net) (L : List (List Int)) (k : Nat) : (wpRow N L k).length = N.H.toNat := by
  cases k <;> unfold wpRow <;> rw [List.length_map] <;> unfold rangeI <;> simp
theorem rangeI_get {H h : Int} (h0 : 0 ≤ h) (h1 : h < H) : (rangeI H)[h.toNat]? = some h := by
  unfold rangeI
  rw [List.getElem?_map, List.getElem?_range (by omega)]
  show some ((h.toNat : Nat) : Int) = _
  congr 1; omega
theorem wpAt_zero {N : Net} {L : List (List Int)} {h : Int} (h0 : 0 ≤ h) (h1 : h < N.H) : wpAt N L 0 h = if h = N.H - 1 ∧ h ∉ (L[L.length - 1]?).getD [] then 1 else 0 := by
  unfold wpAt wpRow
  rw [List.getElem?_map, rangeI_get h0 h1]; rfl
theorem wpAt_succ {N : Net} {L : List (List Int)} {k : Nat} {h : Int} (h0 : 0 ≤ h) (h1 : h < N.H) : wpAt N L (k + 1) h = if h ∈ (L[L.length - 1 - (k + 1)]?).getD [] then 0 else ((N.go ((L.length - 1 - (k + 1) : Nat) : Int) h).map fun far => wpAt N L k far).sum := by
  show ((wpRow N L (k + 1))[h.toNat]?).getD 0 = _
  rw [wpRow, List.getElem?_map, rangeI_get h0 h1]; rfl
theorem sum_nonneg {xs : List Int} (h : ∀ x ∈ xs, 0 ≤ x) : 0 ≤ xs.sum := by
  induction xs with
  | nil => simp
  | cons x xs ih =>
    rw [List.sum_cons]
    have := h x List.mem_cons_self
    have := ih fun y hy => h y (List.mem_cons_of_mem _ hy)
    omega
theorem sum_pos {xs : List Int} (h : ∀ x ∈ xs, 0 ≤ x) : 0 < xs.sum ↔ ∃ x ∈ xs, 0 < x := by
  induction xs with
  | nil => simp
  | cons x xs ih =>
    rw [List.sum_cons]
    have h1 := h x List.mem_cons_self
    have h2 := sum_nonneg fun y hy => h y (List.mem_cons_of_mem _ hy)
    have ih := ih fun y hy => h y (List.mem_cons_of_mem _ hy)
    constructor
    · intro h3
      by_cases h4 : 0 < x
      · exact ⟨x, List.mem_cons_self, h4⟩
      · obtain ⟨y, hy, hp⟩ := ih.mp (by omega)
        exact ⟨y, List.mem_cons_of_mem _ hy, hp⟩
    · rintro ⟨y, hy, hp⟩
      rcases List.mem_cons.mp hy with rfl | hy
      · omega
      · have := ih.mpr ⟨y, hy, hp⟩
        omega
theorem wpAt_nonneg {N : Net} {L : List (List Int)} (o : N.Ok) : ∀ (k : Nat) (h : Int), 0 ≤ h → h < N.H → 0 ≤ wpAt N L k h
  | 0, h, h0, h1 => by rw [wpAt_zero h0 h1]; split <;> omega
  | k + 1, h, h0, h1 => by
    rw [wpAt_succ h0 h1]
    split
    · omega
    · refine sum_nonneg fun x hx => ?_
      obtain ⟨f, hf, rfl⟩ := List.mem_map.mp hx
      have := Net.go_range o hf h0 h1
      exact wpAt_nonneg o k f this.1 this.2
theorem wpAt_pos {N : Net} {L : List (List Int)} (o : N.Ok) {k : Nat} {h : Int} (h0 : 0 ≤ h) (h1 : h < N.H) : 0 < wpAt N L (k + 1) h ↔ h ∉ (L[L.length - 1 - (k + 1)]?).getD [] ∧ ∃ f ∈ N.go ((L.length - 1 - (k + 1) : Nat) : Int) h, 0 < wpAt N L k f := by
  rw [wpAt_succ h0 h1]
  split
  · rename_i hm
    exact ⟨fun z => absurd z (by omega), fun z => absurd hm z.1⟩
  · rename_i hm
    rw [sum_pos fun x hx => by
      obtain ⟨f, hf, rfl⟩ := List.mem_map.mp hx
      have := Net.go_range o hf h0 h1
      exact wpAt_nonneg o k f this.1 this.2]
    constructor
    · rintro ⟨x, hx, hp⟩
      obtain ⟨f, hf, rfl⟩ := List.mem_map.mp hx
      exact ⟨hm, f, hf, hp⟩
    · rintro ⟨_, f, hf, hp⟩
      exact ⟨_, List.mem_map.mpr ⟨f, hf, rfl⟩, hp⟩
/-- the least route, as far as tick t -/
noncomputable def lpH (N : Net) (L : List (List Int)) : Nat → Int
  | 0 => 0
  | t + 1 => (((N.go (t : Int) (lpH N L t)).filter fun f => decide (0 < wpAt N L (L.length - 1 - (t + 1)) f)).head?).getD 0
noncomputable def lpR (N : Net) (L : List (List Int)) (t : Nat) : List Int := (List.range (t + 1)).map (lpH N L)
theorem lpR_succ (N : Net) (L : List (List Int)) (t : Nat) : lpR N L (t + 1) = lpR N L t ++ [lpH N L (t + 1)] := by
  unfold lpR
  rw [List.range_succ, List.map_append]; rfl
theorem lpR_last (N : Net) (L : List (List Int)) (t : Nat) : (lpR N L t).getLast? = some (lpH N L t) := by
  cases t with
  | zero => rfl
  | succ t => rw [lpR_succ, List.getLast?_append]; rfl
def isRoute (N : Net) (T : Int) (r : List Int) : Prop := (r.length : Int) = T + 1 ∧ (∀ h ∈ r, 0 ≤ h ∧ h < N.H) ∧ r[0]? = some 0 ∧ r.getLast? = some (N.H - 1) ∧ ∀ t : Nat, t + 1 < r.length → (r[t + 1]?).getD 0 ∈ N.go (t : Int) ((r[t]?).getD 0)
end DN
namespace Pg
open PySem DL DN
variable {n : Nat} {w s : D} {N : Net} {G : Guard}
theorem q_lots_held (hs : GuardM s G) (g : G.Ok N.H) {e : D} {ws : List (List Int)} (he : WalksM e ws) {T : Nat} (hne : ws ≠ []) (hT : ∀ v ∈ ws, v.length = T) (hr : ∀ v ∈ ws, ∀ p ∈ v, 0 ≤ p ∧ p < G.lots.length) (h3 : ws.length ≤ 7) (hT2 : T ≤ 1000) : FE (n + 6) ix_lots_held [s, e] = rt (.tuple ((lotsHeld' G ws T).map enc)) := by
  obtain ⟨zs, hz, rfl, hi⟩ := he
  have ht := q_tupled 4 s hs.ok n
  rw [hs.tup] at ht
  have hz0 : zs ≠ [] := fun e => hne (by rw [e]; rfl)
  obtain ⟨z0, zr, rfl⟩ := List.exists_cons_of_ne_nil hz0
  have hsub : subD e (.int 0) = some z0.1 := sub0 hz
  have hsrc : srcD .seq e = some ((z0 :: zr).map Prod.fst) := by rcases hz with rfl | rfl <;> rfl
  have hlen := (hi z0 List.mem_cons_self).len
  rw [hT z0.2 (List.mem_map.mpr ⟨z0, List.mem_cons_self, rfl⟩)] at hlen
  have hL : ∀ p : Int, 0 ≤ p → p < G.lots.length → (G.lot p).length ≤ 8 := fun p a b => (g.lot _ (Guard.lot_mem a b)).2.1
  have hb : ∀ t : Nat, (((z0 :: zr).map Prod.snd).flatMap fun v : List Int => G.lot ((v[t]?).getD 0)).length < 64 := fun t => by
    have := len_flatMap_le (xs := (z0 :: zr).map Prod.snd) (f := fun v : List Int => G.lot ((v[t]?).getD 0)) (c := 8) fun v hv => by
      by_cases h : t < v.length
      · rw [List.getElem?_eq_getElem h]
        have := hr v hv v[t] (List.getElem_mem h)
        exact hL _ this.1 this.2
      · rw [List.getElem?_eq_none (by omega)]
        exact hL 0 (by omega) (by have := g.l1; show (0:Int) < _; omega)
    omega
  have hsub2 : subD G.d (.int 0) = some (.tuple (G.lots.map enc)) := rfl
  refine fn_of rfl rfl rfl rfl ?_
  and_intros
  · apply ev_map (α := Nat) (enc := fun t => .int (t : Int)) (xs := List.range T) (f := fun t => enc (heldAt G ((z0 :: zr).map Prod.snd) t))
    · and_intros
    · refine some_to (src_rng1 (by omega) (by omega)) ?_
      unfold rangeI
      rw [List.map_map, Int.toNat_natCast]; rfl
    · rw [List.length_range]; omega
    · intro t ht
      have ht := List.mem_range.mp ht
      have e3 : ((z0 :: zr).flatMap fun z : D × List Int => ((G.lot ((z.2[t]?).getD 0)).map enc : List D)) = (((z0 :: zr).map Prod.snd).flatMap fun v : List Int => G.lot ((v[t]?).getD 0)).map enc := by
        rw [List.map_flatMap, List.flatMap_map]
      refine ⟨rfl, ?_⟩
      and_intros
      · apply ev_cl (α := D × List Int) (enc := Prod.fst) (xs := z0 :: zr) (g := fun z => (G.lot ((z.2[t]?).getD 0)).map enc)
        · and_intros
        · exact hsrc
        · intro z hz
          have hzl : z.2.length = T := hT z.2 (List.mem_map.mpr ⟨z, hz, rfl⟩)
          have hza := (hi z hz).at (i := t) (by omega)
          have hp : 0 ≤ (z.2[t]?).getD 0 ∧ (z.2[t]?).getD 0 < G.lots.length := by
            rw [List.getElem?_eq_getElem (by omega)]
            exact hr z.2 (List.mem_map.mpr ⟨z, hz, rfl⟩) _ (List.getElem_mem _)
          have hlot := Guard.lot_at hp.1 hp.2
          have hz8 := hL _ hp.1 hp.2
          apply cb_no
          · exact rfl
          apply ev_to
          · apply ev_map (α := Int) (enc := enc) (xs := G.lot ((z.2[t]?).getD 0)) (f := enc)
            · and_intros
              exact subT hlot
            · exact rfl
            · omega
            · intro h hh
              refine ⟨rfl, ?_⟩
              and_intros
          · rfl
        · have := hb t
          have e2 : ((z0 :: zr).flatMap fun z : D × List Int => ((G.lot ((z.2[t]?).getD 0)).map enc : List D)).length = (((z0 :: zr).map Prod.snd).flatMap fun v : List Int => G.lot ((v[t]?).getD 0)).length := by
            rw [List.length_flatMap, List.length_flatMap, List.map_map]
            congr 2
            funext z; simp
          omega
      and_intros
      rw [e3]
      exact q_set_of (.inl rfl) (hb t)
  and_intros
  unfold lotsHeld'
  rw [List.map_map]; rfl
theorem q_held (hs : GuardM s G) (g : G.Ok N.H) {e : D} {ws : List (List Int)} (he : WalksM e ws) {T : Nat} (hne : ws ≠ []) (hT : ∀ v ∈ ws, v.length = T) (hr : ∀ v ∈ ws, ∀ p ∈ v, 0 ≤ p ∧ p < G.lots.length) (h3 : ws.length ≤ 7) (hT2 : T ≤ 1000) : FE (n + 7) ix_held [s, e] = rt (.tuple ((lotsHeld' G ws T).map enc)) := by
  have hq := q_lots_held (n := n) hs g he hne hT hr h3 hT2
  obtain ⟨zs, hz, rfl, hi⟩ := he
  have hz0 : zs ≠ [] := fun e => hne (by rw [e]; rfl)
  obtain ⟨z0, zr, rfl⟩ := List.exists_cons_of_ne_nil hz0
  have hsub : subD e (.int 0) = some z0.1 := sub0 hz
  have hsrc : srcD .seq e = some ((z0 :: zr).map Prod.fst) := by rcases hz with rfl | rfl <;> rfl
  have hlen := (hi z0 List.mem_cons_self).len
  rw [hT z0.2 (List.mem_map.mpr ⟨z0, List.mem_cons_self, rfl⟩)] at hlen
  rw [List.length_map] at h3
  refine fn_of rfl rfl rfl rfl ?_
  and_intros
  · apply ev_map (α := D × List Int) (enc := Prod.fst) (xs := z0 :: zr) (f := fun z => .bool false)
    · and_intros
    · exact hsrc
    · omega
    · intro z hz
      have hl := (hi z hz).len
      rw [hT z.2 (List.mem_map.mpr ⟨z, hz, rfl⟩)] at hl
      refine ⟨rfl, ?_⟩
      apply ev_to
      · and_intros
      · simp
  and_intros
  · rename_i h
    simp at h
  and_intros
end Pg

end
section
set_option Elab.async false
set_option linter.all false
set_option autoImplicit false
set_option maxRecDepth 100000
set_option maxHeartbeats 400000
namespace Pg
open PySem DL DN
variable {n : Nat} {w s : D} {N : Net} {G : Guard}
theorem q_is_past {L : List (List Int)} {r : List Int} (hl : L.length ≤ 1000) : FE (n + 1) ix_is_past [.tuple (L.map enc), .tuple (r.map enc)] = rt (.bool (isPast L r)) := by
  refine fn_of rfl rfl rfl rfl ?_
  and_intros
  · apply ev_map (α := List Int × Int) (enc := enc) (xs := L.zip r)
    · and_intros
    · exact src_zipT L r
    · rw [List.length_zip]; omega
    · intro p hp
      refine ⟨rfl, ?_⟩
      and_intros
  and_intros
theorem q_meets (hs : GuardM s G) (g : G.Ok N.H) {v r : List Int} (hr : ∀ p ∈ v, 0 ≤ p ∧ p < G.lots.length) (hT : v.length ≤ 1000) : FE (n + 7) ix_meets [s, .tuple (v.map enc), .tuple (r.map enc)] = rt (.bool (!isPast (lotsHeld' G [v] v.length) r)) := by
  have h := q_lots_held (n := n) hs g (walksM_tup [v]) (T := v.length) (by simp) (by simp) (by simpa using hr) (by simp) hT
  refine fn_of rfl rfl rfl rfl ?_
  and_intros
  · exact q_is_past (by unfold lotsHeld'; rw [List.length_map, List.length_range]; exact hT)
  and_intros
theorem getD_mem {α : Type} [Inhabited α] {xs : List α} {i : Nat} {d : α} (h : i < xs.length) : (xs[i]?).getD d ∈ xs := by
  rw [List.getElem?_eq_getElem h]; exact List.getElem_mem h
theorem sub_lots {L : List (List Int)} {i : Nat} (h : i < L.length) : subD (.tuple (L.map enc)) (.int (i : Int)) = some (enc ((L[i]?).getD [])) := by
  refine subT ?_
  rw [atI_nn (by omega) (by omega), Int.toNat_natCast, List.getElem?_eq_getElem h]; rfl
theorem sub_row {xs : List Int} {h : Int} (h0 : 0 ≤ h) (h1 : h < xs.length) : subD (.list (xs.map enc)) (.int h) = some (.int ((xs[h.toNat]?).getD 0)) := by
  refine subL (x := (xs[h.toNat]?).getD 0) ?_
  rw [atI_nn h0 h1, List.getElem?_eq_getElem (by omega)]; rfl
/-- the rows of ways, from the end -/
noncomputable def rowsD (N : Net) (L : List (List Int)) (k : Nat) : List D := (List.range k).map fun j => .list ((wpRow N L j).map enc)
theorem rowsD_succ (N : Net) (L : List (List Int)) (k : Nat) : rowsD N L (k + 1) = rowsD N L k ++ [.list ((wpRow N L k).map enc)] := by
  unfold rowsD; rw [List.range_succ, List.map_append]; rfl
theorem rowsD_last (N : Net) (L : List (List Int)) (k : Nat) : subD (.list (rowsD N L (k + 1))) (.int (-1)) = some (.list ((wpRow N L k).map enc)) := by
  show L2.atI (rowsD N L (k + 1)) (-1) = _
  rw [rowsD_succ, atI_last (by simp), List.getLast?_append]; rfl
theorem rangeD_turn {m a : Int} {t : Nat} {r : List Int} (h : a :: r = (rangeD m (-1)).drop t) : (t : Int) < m + 1 ∧ a = m - t ∧ r = (rangeD m (-1)).drop (t + 1) := by
  unfold rangeD at h ⊢
  rw [← List.map_drop] at h ⊢
  by_cases e : (t : Int) < m + 1
  · rw [range_drop _ t (by omega), List.map_cons] at h
    cases h
    exact ⟨e, rfl, rfl⟩
  · rw [List.drop_eq_nil_of_le (by rw [List.length_range]; omega)] at h
    cases h
theorem rangeD_end {m : Int} {t : Nat} (h : [] = (rangeD m (-1)).drop t) : m + 1 ≤ t := by
  unfold rangeD at h
  rw [← List.map_drop] at h
  by_cases e : (t : Int) < m + 1
  · rw [range_drop _ t (by omega), List.map_cons] at h; cases h
  · omega
theorem q_ways_past (hw : NetM w N) (o : N.Ok) {L : List (List Int)} (h1 : 1 ≤ L.length) (h2 : L.length ≤ 1000) : FE (n + 3) ix_ways_past [w, .tuple (L.map enc)] = rt (.list (rowsD N L L.length).reverse) := by
  have h0 := hw.h0
  have o1 := o.H3; have o2 := o.H5
  refine fn_of rfl rfl rfl rfl ?_
  and_intros
  · apply ev_map (α := Int) (enc := enc) (xs := rangeI N.H) (f := fun h => .int (if h = N.H - 1 ∧ h ∉ (L[L.length - 1]?).getD [] then 1 else 0))
    · and_intros
    · exact src_rng1 (by omega) (by omega)
    · rw [len_rangeI]; omega
    · intro h hh
      refine ⟨rfl, ?_⟩
      apply ev_to
      · and_intros
        have e := sub_lots (L := L) (i := L.length - 1) (by omega)
        rw [show ((L.length - 1 : Nat) : Int) = (L.length : Int) - 1 by omega] at e
        exact e
        and_intros
      · simp only [Bool.and_eq_true, Bool.not_eq_true', decide_eq_true_eq, decide_eq_false_iff_not]
  and_intros
  apply sp_for1 (enc := enc) (xs := rangeD ((L.length : Int) - 1 - 1) (-1)) (fun r ρ u => u = [] ∧ ∃ (t : Nat) (j4 j5 j6 j7 : Option D) (l : List D), ρ = [some w, some (.tuple (L.map enc)), some (.int ((L.length : Int) - 1)), some (.list l), j4, j5, j6, j7] ∧ r = (rangeD ((L.length : Int) - 1 - 1) (-1)).drop t ∧ t + 1 ≤ L.length ∧ l = rowsD N L (t + 1))
  · and_intros
  · exact src_rng3 (by omega) (by omega) (by omega) (by omega)
  · refine ⟨rfl, 0, none, none, none, none, _, rfl, rfl, by omega, ?_⟩
    unfold rowsD
    show [PyData.list ((rangeI N.H).map _)] = [PyData.list ((wpRow N L 0).map enc)]
    rw [wpRow, List.map_map]; rfl
  · rintro a r ρ u ⟨rfl, t, j4, j5, j6, j7, l, rfl, hr, hle, rfl⟩
    obtain ⟨q1, rfl, rfl⟩ := rangeD_turn hr
    have ql := rowsD_last N L t
    have eT : (L.length : Int) - 1 - 1 - t = ((L.length - 1 - (t + 1) : Nat) : Int) := by omega
    refine ⟨_, rfl, ?_⟩
    rw [eT]
    have qs := sub_lots (L := L) (i := L.length - 1 - (t + 1)) (by omega)
    and_intros
    · apply ev_map (α := Int) (enc := enc) (xs := rangeI N.H) (f := fun h => .int (if h ∈ (L[L.length - 1 - (t + 1)]?).getD [] then 0 else ((N.go ((L.length - 1 - (t + 1) : Nat) : Int) h).map fun far => ((wpRow N L t)[far.toNat]?).getD 0).sum))
      · and_intros
      · exact src_rng1 (by omega) (by omega)
      · rw [len_rangeI]; omega
      · intro h hh
        have hh := mem_rangeI.mp hh
        refine ⟨rfl, ?_⟩
        apply ev_to
        · and_intros
          · apply ev_map (α := Int) (enc := enc) (xs := N.go ((L.length - 1 - (t + 1) : Nat) : Int) h) (f := fun far => .int (((wpRow N L t)[far.toNat]?).getD 0))
            · and_intros
              exact q_goes_on hw (by have := o.B1; omega) (by have := o.L16; omega)
            · exact rfl
            · have := goL o (t := ((L.length - 1 - (t + 1) : Nat) : Int)) (h := h); omega
            · intro far hf
              have hf := Net.go_range o hf hh.1 hh.2
              refine ⟨rfl, ?_⟩
              and_intros
              exact sub_row hf.1 (by rw [wpRow_len]; omega)
          and_intros
        · simp only [decide_eq_true_eq]
          split <;> rfl
    and_intros
    · exact app_ok (by unfold rowsD; rw [List.length_map, List.length_range]; omega)
    and_intros
    refine ⟨rfl, t + 1, _, _, _, _, _, rfl, rfl, by omega, ?_⟩
    rw [rowsD_succ N L (t + 1), wpRow, List.map_map]; rfl
  · rintro ρ u ⟨rfl, t, j4, j5, j6, j7, l, rfl, hr, hle, rfl⟩
    have := rangeD_end hr
    have e : t + 1 = L.length := by omega
    and_intros
    rw [e]
end Pg

end
section
set_option Elab.async false
set_option linter.all false
set_option autoImplicit false
set_option maxRecDepth 100000
set_option maxHeartbeats 400000
namespace DN
open PySem DL
noncomputable instance (N : Net) (T : Int) (r : List Int) : Decidable (isRoute N T r) := Classical.propDecidable _
/-- the least route past L -/
noncomputable def leastP (N : Net) (L : List (List Int)) : Option (List Int) := if wpAt N L (L.length - 1) 0 = 0 then none else some (lpR N L (L.length - 1))
/-- on the way of the least route there is always a way on -/
theorem lp_ok {N : Net} {L : List (List Int)} (o : N.Ok) (h0 : 0 < wpAt N L (L.length - 1) 0) : ∀ t : Nat, t + 1 ≤ L.length → 0 ≤ lpH N L t ∧ lpH N L t < N.H ∧ 0 < wpAt N L (L.length - 1 - t) (lpH N L t) ∧ (t + 1 < L.length → ∃ f r, (N.go (t : Int) (lpH N L t)).filter (fun f => decide (0 < wpAt N L (L.length - 1 - (t + 1)) f)) = f :: r ∧ lpH N L (t + 1) = f)
  | t, ht => by
    have hb : 0 ≤ lpH N L t ∧ lpH N L t < N.H ∧ 0 < wpAt N L (L.length - 1 - t) (lpH N L t) := by
      cases t with
      | zero => exact ⟨Int.le_refl _, by have := o.H3; show (0 : Int) < _; omega, h0⟩
      | succ t =>
        obtain ⟨k0, k1, k2, k3⟩ := lp_ok o h0 t (by omega)
        obtain ⟨f, r, e1, e2⟩ := k3 (by omega)
        have hf : f ∈ (N.go (t : Int) (lpH N L t)).filter (fun f => decide (0 < wpAt N L (L.length - 1 - (t + 1)) f)) := by rw [e1]; exact List.mem_cons_self
        rw [List.mem_filter, decide_eq_true_iff] at hf
        have := Net.go_range o hf.1 k0 k1
        rw [e2]
        exact ⟨this.1, this.2, hf.2⟩
    refine ⟨hb.1, hb.2.1, hb.2.2, fun hlt => ?_⟩
    have e : L.length - 1 - t = (L.length - 1 - (t + 1)) + 1 := by omega
    have hp := hb.2.2
    rw [e, wpAt_pos o hb.1 hb.2.1] at hp
    obtain ⟨_, f, hf, hfp⟩ := hp
    have e2 : L.length - 1 - (L.length - 1 - (t + 1) + 1) = t := by omega
    rw [e2] at hf
    cases hc : (N.go (t : Int) (lpH N L t)).filter (fun f => decide (0 < wpAt N L (L.length - 1 - (t + 1)) f)) with
    | nil =>
      have : f ∈ (N.go (t : Int) (lpH N L t)).filter (fun f => decide (0 < wpAt N L (L.length - 1 - (t + 1)) f)) := List.mem_filter.mpr ⟨hf, decide_eq_true hfp⟩
      rw [hc] at this; cases this
    | cons f r =>
      refine ⟨f, r, rfl, ?_⟩
      show (((N.go (t : Int) (lpH N L t)).filter fun f => decide (0 < wpAt N L (L.length - 1 - (t + 1)) f)).head?).getD 0 = f
      rw [hc]; rfl
end DN
namespace Pg
open PySem DL DN
variable {n : Nat} {w s : D} {N : Net} {G : Guard}
theorem rows_at {N : Net} {L : List (List Int)} {t : Nat} (h : t < L.length) : subD (.list (rowsD N L L.length).reverse) (.int (t : Int)) = some (.list ((wpRow N L (L.length - 1 - t)).map enc)) := by
  show L2.atI _ _ = _
  have hl : (rowsD N L L.length).length = L.length := by unfold rowsD; simp
  rw [atI_nn (by omega) (by rw [List.length_reverse, hl]; omega), Int.toNat_natCast, List.getElem?_reverse (by rw [hl]; exact h), hl]
  unfold rowsD
  rw [List.getElem?_map, List.getElem?_range (by omega)]; rfl
theorem q_least_past (hw : NetM w N) (o : N.Ok) {L : List (List Int)} (h1 : 1 ≤ L.length) (h2 : L.length ≤ 1000) : FE (n + 4) ix_least_past [w, .tuple (L.map enc)] = rt (match leastP N L with | none => .none | some r => .tuple (r.map enc)) := by
  have o1 := o.H3
  have qw := q_ways_past (n := n) hw o h1 h2
  have r0 := rows_at (N := N) (L := L) (t := 0) (by omega)
  have r00 := sub_row (xs := wpRow N L (L.length - 1 - 0)) (h := 0) (by omega) (by rw [wpRow_len]; omega)
  refine fn_of rfl rfl rfl rfl ?_
  and_intros
  · rename_i h
    have h : wpAt N L (L.length - 1) 0 = 0 := of_decide_eq_true h
    unfold leastP
    rw [if_pos h]
  intro h
  have h : wpAt N L (L.length - 1) 0 ≠ 0 := of_decide_eq_false h
  have hp : 0 < wpAt N L (L.length - 1) 0 := by
    have := wpAt_nonneg (L := L) o (L.length - 1) 0 (by omega) (by omega)
    omega
  and_intros
  apply sp_for1 (enc := enc) (xs := rangeI ((L.length : Int) - 1)) (fun r ρ u => u = [] ∧ ∃ (t : Nat) (j4 j5 : Option D) (l : List D), ρ = [some w, some (.tuple (L.map enc)), some (.list (rowsD N L L.length).reverse), some (.tuple l), j4, j5] ∧ r = (rangeI ((L.length : Int) - 1)).drop t ∧ t + 1 ≤ L.length ∧ l = (lpR N L t).map enc)
  · and_intros
  · exact src_rng1 (by omega) (by omega)
  · exact ⟨rfl, 0, none, none, _, rfl, rfl, by omega, rfl⟩
  · rintro a r ρ u ⟨rfl, t, j4, j5, l, rfl, hr, hle, rfl⟩
    obtain ⟨q1, rfl, rfl⟩ := rangeI_turn hr
    have ql := last_enc (lpR_last N L t)
    obtain ⟨k0, k1, k2, k3⟩ := lp_ok o hp t hle
    obtain ⟨f, r2, e1, e2⟩ := k3 (by omega)
    have r1 := rows_at (N := N) (L := L) (t := t + 1) (by omega)
    refine ⟨_, rfl, ?_⟩
    and_intros
    · apply ev_filterB (α := Int) (enc := enc) (xs := N.go (t : Int) (lpH N L t)) (f := fun h => enc h) (p := fun f => decide (0 < wpAt N L (L.length - 1 - (t + 1)) f))
      · and_intros
        exact q_goes_on hw (by have := o.B1; omega) (by have := o.L16; omega)
      · exact rfl
      · have := goL o (t := (t : Int)) (h := lpH N L t); omega
      · intro h hh
        have hh := Net.go_range o hh k0 k1
        have r2 := sub_row (xs := wpRow N L (L.length - 1 - (t + 1))) hh.1 (by rw [wpRow_len]; omega)
        refine ⟨rfl, ?_, fun _ => ?_⟩
        · and_intros
        · and_intros
    and_intros
    · rw [e1]; exact atI0
    and_intros
    · refine fits_of ?_
      rw [List.length_append, List.length_map]
      unfold lpR
      simp; omega
    and_intros
    refine ⟨rfl, t + 1, _, _, _, rfl, rfl, by omega, ?_⟩
    rw [lpR_succ, e2, List.map_append]; rfl
  · rintro ρ u ⟨rfl, t, j4, j5, l, rfl, hr, hle, rfl⟩
    have := rangeI_end hr
    have e : t = L.length - 1 := by omega
    subst e
    and_intros
    unfold leastP
    rw [if_neg h]
theorem q_a_route_past (hw : NetM w N) (hs : GuardM s G) (o : N.Ok) (g : G.Ok N.H) {e : D} {ws : List (List Int)} (he : WalksM e ws) {T : Nat} (hne : ws ≠ []) (hT : ∀ v ∈ ws, v.length = T) (hr : ∀ v ∈ ws, ∀ p ∈ v, 0 ≤ p ∧ p < G.lots.length) (h3 : ws.length ≤ 7) (hT1 : 1 ≤ T) (hT2 : T ≤ 1000) : FE (n + 8) ix_a_route_past [w, s, e] = rt (match leastP N (lotsHeld' G ws T) with | none => .none | some r => .tuple (r.map enc)) := by
  have h := q_held (n := n) hs g he hne hT hr h3 hT2
  refine fn_of rfl rfl rfl rfl ?_
  and_intros
  · exact q_least_past (n := n + 3) hw o (by unfold lotsHeld'; rw [List.length_map, List.length_range]; exact hT1) (by unfold lotsHeld'; rw [List.length_map, List.length_range]; exact hT2)
  and_intros
theorem q_is_route (hw : NetM w N) (o : N.Ok) {T : Nat} {r : List Int} (hT : T ≤ 1000) (hl : r.length ≤ 1001) : FE (n + 3) ix_is_route [w, .int (T : Int), .tuple (r.map enc)] = rt (.bool (decide (isRoute N T r))) := by
  have h0 := hw.h0
  refine fn_of rfl rfl rfl rfl ?_
  and_intros
  · exact q_is_tuple_of
  and_intros
  · apply ev_map (α := Int) (enc := enc) (xs := r) (f := fun h => .bool (decide (0 ≤ h ∧ h < N.H)))
    · and_intros
    · exact rfl
    · omega
    · intro h hh
      refine ⟨rfl, ?_⟩
      and_intros
      exact q_is_below
  and_intros
  · rename_i h
    rw [decide_eq_false]
    intro k
    obtain ⟨k1, k2, k3, k4, k5⟩ := k
    rw [Bool.or_eq_true, Bool.not_eq_true', Bool.not_eq_true', decide_eq_false_iff_not, List.length_map] at h
    rcases h with h | h
    · exact h k1
    · rw [List.all_eq_false] at h
      obtain ⟨x, hx, hn⟩ := h
      exact hn (decide_eq_true (k2 x hx))
  intro h
  rw [Bool.or_eq_false_iff, Bool.not_eq_false', Bool.not_eq_false', decide_eq_true_iff, List.length_map, List.all_eq_true] at h
  have hr : r ≠ [] := by rintro rfl; simp at h; omega
  obtain ⟨x0, xs, rfl⟩ := List.exists_cons_of_ne_nil hr
  obtain ⟨xl, hxl⟩ : ∃ xl, (x0 :: xs).getLast? = some xl := ⟨_, List.getLast?_eq_some_getLast hr⟩
  have ql := last_enc hxl
  have q0 : subD (.tuple ((x0 :: xs).map enc)) (.int 0) = some (.int x0) := atI0
  and_intros
  · rename_i h2
    rw [decide_eq_false]
    rintro ⟨k1, k2, k3, k4, k5⟩
    rw [hxl] at k4
    rw [Bool.or_eq_true, Bool.not_eq_true', Bool.not_eq_true', decide_eq_false_iff_not, decide_eq_false_iff_not] at h2
    rcases h2 with h2 | h2
    · exact h2 (Option.some.inj k3)
    · exact h2 (Option.some.inj k4)
  intro h2
  rw [Bool.or_eq_false_iff, Bool.not_eq_false', Bool.not_eq_false', decide_eq_true_iff, decide_eq_true_iff] at h2
  and_intros
  · apply ev_map (α := Nat) (enc := fun t => .int (t : Int)) (xs := List.range T) (f := fun t => .bool (decide (((x0 :: xs)[t + 1]?).getD 0 ∈ N.go (t : Int) (((x0 :: xs)[t]?).getD 0))))
    · and_intros
    · refine some_to (src_rng1 (by omega) (by omega)) ?_
      unfold rangeI
      rw [List.map_map, Int.toNat_natCast]; rfl
    · rw [List.length_range]; omega
    · intro t ht
      have ht := List.mem_range.mp ht
      have a1 := SeqI.at (e := .tuple ((x0 :: xs).map enc)) (.inr rfl) (i := t) (by omega)
      have a2 := SeqI.at (e := .tuple ((x0 :: xs).map enc)) (.inr rfl) (i := t + 1) (by omega)
      refine ⟨rfl, ?_⟩
      and_intros
      · exact q_goes_on hw (by have := o.B1; omega) (by have := o.L16; omega)
      and_intros
  and_intros
  congr 1
  rw [Bool.eq_iff_iff, List.all_eq_true, decide_eq_true_iff]
  constructor
  · intro k
    refine ⟨h.1, fun x hx => of_decide_eq_true (h.2 x hx), by rw [h2.1]; rfl, by rw [hxl, h2.2], fun t ht => ?_⟩
    exact of_decide_eq_true (k t (List.mem_range.mpr (by omega)))
  · rintro ⟨k1, k2, k3, k4, k5⟩ t ht
    exact decide_eq_true (k5 t (by have := List.mem_range.mp ht; omega))
end Pg

end
section
set_option Elab.async false
set_option linter.all false
set_option autoImplicit false
set_option maxRecDepth 100000
set_option maxHeartbeats 400000
namespace DN
open PySem DL
mutual
/-- how many lists and tuples there are -/
def nod : D → Nat
  | .list ds => nodL ds + 1
  | .tuple ds => nodL ds + 1
  | _ => 0
def nodL : List D → Nat
  | [] => 0
  | d :: ds => nod d + nodL ds
end
mutual
def okS : Nat → D → Bool
  | 0, .list _ => false
  | 0, .tuple _ => false
  | n + 1, .list ds => decide (ds.length ≤ 16777216) && okSL n ds
  | n + 1, .tuple ds => decide (ds.length ≤ 16777216) && okSL n ds
  | _, .dict _ => false
  | _, .str x => PyData.strOk x
  | _, _ => true
def okSL : Nat → List D → Bool
  | _, [] => true
  | n, d :: ds => okS n d && okSL n ds
end
theorem okSL_mem {n : Nat} : ∀ {ds : List D}, okSL n ds = true → ∀ d ∈ ds, okS n d = true
  | d :: ds, h, x, hx => by
    simp only [okSL, Bool.and_eq_true] at h
    rcases List.mem_cons.mp hx with rfl | hx
    · exact h.1
    · exact okSL_mem h.2 x hx
end DN
namespace Pg
open PySem DL DN
variable {n : Nat} {w s : D} {N : Net} {G : Guard}
theorem q_take {u : List Int} {k m : Int} (hu : UOk k u) (hk : k < 1152921504606846976) (h1 : 1 ≤ m) (h2 : m < 1073741824) : ∃ d u', FE (n + 1) ix__law_take [.int m] u = some (.int d, u') ∧ (0 ≤ d ∧ d < m) ∧ UOk (k + 1) u' := by
  have q : ∃ d u', FE (n + 1) ix__law_take [.int m] u = some (d, u') ∧ ∃ i : Int, d = .int i ∧ (0 ≤ i ∧ i < m) ∧ UOk (k + 1) u' := by
    obtain ⟨a, b, c, rfl, ha, hb, hb2, hc, hck⟩ := hu
    refine fn_u rfl rfl rfl rfl ?_
    ac_rfl
    · simp
    ac_rfl
    · exact ⟨_, rfl, ⟨Int.emod_nonneg _ (by omega), Int.emod_lt_of_pos _ (by omega)⟩, a / m, b, c, rfl, Int.ediv_nonneg ha (by omega), hb, hb2, hc, by omega⟩
    ac_rfl
    · simp
    ac_rfl
    exact ⟨_, rfl, ⟨Int.emod_nonneg _ (by omega), Int.emod_lt_of_pos _ (by omega)⟩, a, b, c + 1, rfl, ha, hb, hb2, by omega, by omega⟩
  obtain ⟨d, u', e, i, rfl, h3, h4⟩ := q
  exact ⟨i, u', e, h3, h4⟩
theorem q_box {c : Int} : ∃ u, FE (n + 1) ix__law_box [.list [.int c], .int 0] = rt (.list (u.map .int)) ∧ UOk 0 u := by
  have q : ∃ d, FE (n + 1) ix__law_box [.list [.int c], .int 0] = rt d ∧ ∃ u : List Int, d = .list (u.map .int) ∧ UOk 0 u := by
    refine fn_ex rfl rfl rfl rfl ?_
    have e : Ev (FE n) (.ifx (.op .lt (.var 1) (.blt .len (.cons (.var 0) .nil))) (.ix (.var 0) (.var 1)) (.int 0)) [some (.list [.int c]), some (.int 0), none] [] (.int c) [] := by
      refine ev_ifx_t (z := .bool true) (u1 := []) ?_ rfl ?_
      · apply ev_to
        · and_intros
        · rfl
      · and_intros
    and_intros
    · apply o_mul
      have hb : ∀ b : Bool, (if b = true then (1 : Int) else 0).natAbs < 18446744073709551616 := by intro b; cases b <;> decide
      exact hb _
    ac_rfl
    refine ⟨[(if c < 0 then -c else c) * (if decide (10 ^ 18 ≤ (if c < 0 then -c else c)) = true then 1 else 0), c % 2305843009213693951 + 39373 * 0 + 2325001, 0], rfl, _, _, _, rfl, ?_, ?_, ?_, Int.le_refl _, Int.le_refl _⟩
    · refine Int.mul_nonneg ?_ ?_
      · split <;> omega
      · split <;> omega
    · omega
    · omega
  obtain ⟨d, e, u, rfl, h⟩ := q
  exact ⟨u, e, h⟩
theorem q_mixed : ∀ (k : Nat) (d : D), okD k d = true → ∀ {u : List Int} {j : Int} {n : Nat}, UOk j u → j + nod d < 1152921504606846976 → ∃ d' u', FE (n + k + 2) ix__law_mixed [d] u = some (d', u') ∧ tupD d' = tupD d ∧ UOk (j + nod d) u' := by
  intro k
  induction k with
  | zero =>
    intro d h u j n hu hj
    refine fn_u (n := n + 1) rfl rfl rfl rfl ?_
    cases d <;> first | (simp [okD] at h; done) | skip
    all_goals
      and_intros
      exact ⟨rfl, by simpa [nod] using hu⟩
      and_intros
  | succ k ih =>
    intro d h u j n hu hj
    have go : ∀ ds : List D, ds.length ≤ 16777216 → okDL k ds = true → j + nodL ds + 1 < 1152921504606846976 → ∀ {x : D}, srcD .seq x = some ds → ∃ es u', Ev (FE (n + k + 2)) (.cl [3] .seq (.var 1) (.nm 3) .nil (.em (.call 35 .urn (.cons (.var 3) .nil)))) [none, some x, none, none] u (.list es) u' ∧ es.map tupD = ds.map tupD ∧ UOk (j + nodL ds) u' := fun ds h1 h2 hj x hx => by
      obtain ⟨es, u', e, ⟨q1, q2⟩, q3, q4⟩ := ev_clU (fe := FE (n + k + 2)) (ρ := [none, some x, none, none]) (u := u) (vs := [3]) (t := .nm 3) (ifs := .nil) (rest := (.em (.call 35 .urn (.cons (.var 3) .nil)))) (enc := id) (xs := ds) (s := .var 1) (fun r acc u => (acc.map tupD ++ r.map tupD = ds.map tupD ∧ (∀ y ∈ r, y ∈ ds)) ∧ nodL r ≤ nodL ds ∧ UOk (j + nodL ds - nodL r) u) (ev_var rfl) (by rw [List.map_id]; exact hx) ⟨⟨rfl, fun y h => h⟩, Nat.le_refl _, hu.mono (by omega)⟩ (by
        rintro a r acc u ⟨⟨q1, q2⟩, q3, q4⟩
        simp only [nodL] at q3 q4
        obtain ⟨d', u', e, e2, e3⟩ := ih a (okDL_mem h2 a (q2 a List.mem_cons_self)) (n := n) q4 (by omega)
        refine ⟨[d'], u', cb_no rfl (ev_em (ev_callU (by decide) (ev_cons (ev_var rfl) ev_nil) e)), ⟨?_, fun y hy => q2 y (List.mem_cons_of_mem _ hy)⟩, by omega, e3.mono (by omega)⟩
        rw [← q1, List.map_append, List.append_assoc]
        simp [e2]) (by
        rintro es u ⟨⟨q1, q2⟩, q3, q4⟩
        have := congrArg List.length q1
        simp at this
        omega)
      refine ⟨es, u', e, by simpa using q1, by simpa [nodL] using q4⟩
    refine fn_u (n := n + (k + 1) + 1) rfl rfl rfl rfl ?_
    cases d with
    | list ds =>
      simp only [okD, Bool.and_eq_true, decide_eq_true_eq] at h
      simp only [nod] at hj ⊢
      obtain ⟨es, u1, e1, e2, e3⟩ := go ds h.1 h.2 (by omega) (x := .list ds) rfl
      obtain ⟨c, u2, e4, _, e5⟩ := q_take (n := n + k + 1) (m := 2) e3 (by omega) (by omega) (by omega)
      ac_rfl
      refine ⟨?_, e5.mono (by omega)⟩
      split <;> simp [tupD, tupDL_map, e2]
    | tuple ds =>
      simp only [okD, Bool.and_eq_true, decide_eq_true_eq] at h
      simp only [nod] at hj ⊢
      obtain ⟨es, u1, e1, e2, e3⟩ := go ds h.1 h.2 (by omega) (x := .tuple ds) rfl
      obtain ⟨c, u2, e4, _, e5⟩ := q_take (n := n + k + 1) (m := 2) e3 (by omega) (by omega) (by omega)
      ac_rfl
      refine ⟨?_, e5.mono (by omega)⟩
      split <;> simp [tupD, tupDL_map, e2]
    | dict kvs => simp [okD] at h
    | _ =>
      and_intros
      exact ⟨rfl, by simpa [nod] using hu⟩
      and_intros
theorem q_of {u : List Int} {k : Int} (hu : UOk k u) (hk : k < 1152921504606846976) {e : D} {α : Type} {f : α → D} {xs : List α} (he : e = .list (xs.map f) ∨ e = .tuple (xs.map f)) (h1 : xs ≠ []) (h2 : xs.length < 1073741824) : ∃ x u', FE (n + 2) ix__law_of [e] u = some (f x, u') ∧ x ∈ xs ∧ UOk (k + 1) u' := by
  have q : ∃ d u', FE (n + 2) ix__law_of [e] u = some (d, u') ∧ ∃ x, d = f x ∧ x ∈ xs ∧ UOk (k + 1) u' := by
    have hp := List.length_pos_iff.mpr h1
    obtain ⟨c, u1, e4, ⟨c1, c2⟩, e5⟩ := q_take (n := n) (m := xs.length) hu hk (by omega) (by omega)
    have hl : Blt.fn .len [e] = some (.int xs.length) := by
      rcases he with rfl | rfl
      · exact f_len f xs
      · exact f_lenT f xs
    obtain ⟨x, g1, g2⟩ := atI_get c1 c2
    have hs : subD e (.int c) = some (f x) := by
      rcases he with rfl | rfl
      · show L2.atI (xs.map f) c = _
        rw [atI_map, g1]; rfl
      · show L2.atI (xs.map f) c = _
        rw [atI_map, g1]; rfl
    refine fn_u rfl rfl rfl rfl ?_
    exact sp_ret1 (ev_ix (ev_var rfl) (ev_callU (by decide) (ev_cons (ev_blt (ev_cons (ev_var rfl) ev_nil) hl) ev_nil) e4) hs) ⟨x, rfl, List.mem_of_getElem? g2, e5⟩
  obtain ⟨d, u', e, x, rfl, h3, h4⟩ := q
  exact ⟨x, u', e, h3, h4⟩
end Pg

end
section
set_option Elab.async false
set_option linter.all false
set_option autoImplicit false
set_option maxRecDepth 100000
set_option maxHeartbeats 400000
namespace Pg
open PySem DL DN
variable {n : Nat} {w s : D} {N : Net} {G : Guard}
theorem intsOf_enc (ns : List Int) : intsOf (ns.map .int) = some ns := intsOf_map ns
theorem sl_scr {ns : List Int} (lo hi : Option Int) : ∃ ms : List Int, sliceD lo hi (scrD ns) = some (.list (ms.map enc)) ∧ ms.length ≤ ns.length := by
  refine ⟨(ns.drop (HT.sIx (ns.map (PyData.int)).length 0 lo)).take (HT.sIx (ns.map (PyData.int)).length (ns.map (PyData.int)).length hi - HT.sIx (ns.map (PyData.int)).length 0 lo), ?_, ?_⟩
  · show (if (intsOf (ns.map .int)).isSome then some (PyData.list (cutD (ns.map .int) lo hi)) else none) = _
    rw [intsOf_map]
    unfold cutD
    rw [← List.map_drop, ← List.map_take]; rfl
  · rw [List.length_take, List.length_drop]; omega
theorem sl_one {ns : List Int} : sliceD none (some 1) (scrD ns) = some (.list ((ns.take 1).map enc)) := by
  show (if (intsOf (ns.map .int)).isSome then some (PyData.list (cutD (ns.map .int) none (some ((1 : Nat) : Int)))) else none) = _
  rw [intsOf_map, sl_to, ← List.map_take]; rfl
theorem q_cells {ns : List Int} (hl : ns.length ≤ 63) : ∃ c : Int, FE (n + 1) ix__law_cells [scrD ns, .int 1] = rt (.list [.int c]) := by
  have q : ∃ d, FE (n + 1) ix__law_cells [scrD ns, .int 1] = rt d ∧ ∃ c : Int, d = .list [.int c] := by
    obtain ⟨ms, e1, e2⟩ := sl_scr (ns := ns) (some 1) (some 63)
    refine fn_ex rfl rfl rfl rfl ?_
    have h0 : ∃ c0 : Int, Ev (FE n) (.or (.blt .list (.cons (.sl (.var 0) .no (.var 1)) .nil)) (.lst (.cons (.int 0) .nil))) [some (scrD ns), some (.int 1), none, none, none, none] [] (.list [.int c0]) [] := by
      have e3 : Ev (FE n) (.blt .list (.cons (.sl (.var 0) .no (.var 1)) .nil)) [some (scrD ns), some (.int 1), none, none, none, none] [] (.list ((ns.take 1).map enc)) [] := by
        and_intros
        · exact sl_one
        and_intros
      cases ns with
      | nil => exact ⟨0, ev_or_f e3 rfl (by and_intros)⟩
      | cons x xs =>
        refine ⟨x, ev_or_t ?_ rfl⟩
        exact e3
    obtain ⟨c0, h0⟩ := h0
    refine sp_own1 h0 ?_
    apply sp_for1 (α := Int × Int) (enc := enc) (xs := enumI 0 ms) (fun r ρ u => u = [] ∧ (∀ p ∈ r, 0 ≤ p.1 ∧ p.1 < 63) ∧ ∃ (c : Int) (j3 j4 j5 : Option D), ρ = [some (scrD ns), some (.int 1), some (.list [.int c]), j3, j4, j5])
    · and_intros
    · exact src_enumL ms
    · refine ⟨rfl, fun p hp => ?_, c0, none, none, none, rfl⟩
      obtain ⟨j, h1, h2⟩ := mem_enumI.mp hp
      have := (List.getElem?_eq_some_iff.mp h2).1
      omega
    · rintro ⟨i, x⟩ r ρ u ⟨rfl, hr, c, j3, j4, j5, rfl⟩
      have hi : 0 ≤ i ∧ i < 63 := hr (i, x) List.mem_cons_self
      have ei : i % 1 = 0 := by omega
      refine ⟨_, rfl, ?_⟩
      ac_rfl
      · rw [ei]; exact atI0
      ac_rfl
      · exact o_mul (a := x) (b := i + 2) (by omega)
      ac_rfl
      · rw [ei]; exact rfl
      ac_rfl
      exact ⟨rfl, fun p hp => hr p (List.mem_cons_of_mem _ hp), _, _, _, _, rfl⟩
    · rintro ρ u ⟨rfl, hr, c, j3, j4, j5, rfl⟩
      and_intros
      exact ⟨c, rfl⟩
  obtain ⟨d, e, c, rfl⟩ := q
  exact ⟨c, e⟩
def lnOk (H B : Int) (l : I3) : Prop := 0 ≤ l.a ∧ l.a < H - 1 ∧ 0 < l.b ∧ l.b < H ∧ l.a ≠ l.b ∧ 0 ≤ l.c ∧ l.c < B
theorem q_law_net {u : List Int} {k most beats : Int} (hu : UOk k u) (hk : k < 1000000000000000000) (hm : 3 ≤ most ∧ most ≤ 5) (hb : 1 ≤ beats ∧ beats ≤ 3) : ∃ N u', FE (n + 2) ix__law_net [.int most, .int beats] u = some (Net.d N, u') ∧ N.Ok ∧ N.H ≤ most ∧ N.B ≤ beats ∧ UOk (k + 100) u' := by
  have q : ∃ d u', FE (n + 2) ix__law_net [.int most, .int beats] u = some (d, u') ∧ ∃ N, d = Net.d N ∧ N.Ok ∧ N.H ≤ most ∧ N.B ≤ beats ∧ UOk (k + 100) u' := by
    obtain ⟨h, u1, e1, hh, hu1⟩ := q_take (n := n) (m := most - 2) hu (by omega) (by omega) (by omega)
    obtain ⟨b, u2, e2, hb1, hu2⟩ := q_take (n := n) (m := beats) hu1 (by omega) (by omega) (by omega)
    refine fn_u rfl rfl rfl rfl ?_
    ac_rfl
    have hH : 3 ≤ 3 + h ∧ 3 + h ≤ 5 := by omega
    have hB : 1 ≤ 1 + b ∧ 1 + b ≤ 3 := by omega
    have hHm : 3 + h ≤ most := by omega
    have hBm : 1 + b ≤ beats := by omega
    generalize hHd : 3 + h = H at hH hHm
    generalize hBd : 1 + b = B at hB hBm
    apply sp_for1 (α := Int) (enc := enc) (xs := rangeI H) (fun r ρ u => ∃ (ls : List I3) (l : List D) (j3 j7 j8 j9 : Option D), ρ = [none, some (.int most), some (.int beats), j3, some (.int H), some (.int B), some (.list l), j7, j8, j9] ∧ l = ls.map enc ∧ ls.length ≤ 14 ∧ (∀ x ∈ ls, lnOk H B x) ∧ (∀ x ∈ r, 0 ≤ x ∧ x < H) ∧ UOk (k + 77 - r.length * 15) u)
    · and_intros
    · exact src_rng1 (by omega) (by omega)
    · refine ⟨[], [], none, none, none, none, by rw [← hHd, ← hBd]; rfl, rfl, by simp, by simp, fun x hx => mem_rangeI.mp hx, hu2.mono ?_⟩
      rw [len_rangeI]; omega
    · rintro one r ρ u ⟨ls, l, j3, j7, j8, j9, rfl, rfl, hl, hls, hr, hu⟩
      have hone : 0 ≤ one ∧ one < H := hr one List.mem_cons_self
      refine ⟨_, rfl, ?_⟩
      apply sp_for1 (α := Int) (enc := enc) (xs := rangeI H) (fun r2 ρ u => ∃ (ls : List I3) (l : List D) (j7 j8 j9 : Option D), ρ = [none, some (.int most), some (.int beats), some (.int one), some (.int H), some (.int B), some (.list l), j7, j8, j9] ∧ l = ls.map enc ∧ ls.length ≤ 14 ∧ (∀ x ∈ ls, lnOk H B x) ∧ (∀ x ∈ r2, 0 ≤ x ∧ x < H) ∧ UOk (k + 77 - r.length * 15 - r2.length * 3) u)
      · and_intros
      · exact src_rng1 (by omega) (by omega)
      · refine ⟨ls, _, _, _, _, rfl, rfl, hl, hls, fun x hx => mem_rangeI.mp hx, hu.mono ?_⟩
        rw [len_rangeI, List.length_cons]; omega
      · rintro other r2 ρ u ⟨ls, l, j7, j8, j9, rfl, rfl, hl, hls, hr2, hu⟩
        have hoth : 0 ≤ other ∧ other < H := hr2 other List.mem_cons_self
        refine ⟨_, rfl, ?_⟩
        apply sp_for1 (α := Int) (enc := enc) (xs := rangeI B) (fun r3 ρ u => ∃ (ls : List I3) (l : List D) (j8 j9 : Option D), ρ = [none, some (.int most), some (.int beats), some (.int one), some (.int H), some (.int B), some (.list l), some (.int other), j8, j9] ∧ l = ls.map enc ∧ ls.length ≤ 14 ∧ (∀ x ∈ ls, lnOk H B x) ∧ (∀ x ∈ r3, 0 ≤ x ∧ x < B) ∧ UOk (k + 77 - r.length * 15 - r2.length * 3 - r3.length) u)
        · and_intros
        · exact src_rng1 (by omega) (by omega)
        · refine ⟨ls, _, _, _, rfl, rfl, hl, hls, fun x hx => mem_rangeI.mp hx, hu.mono ?_⟩
          rw [len_rangeI, List.length_cons]; omega
        · rintro rest r3 ρ u ⟨ls, l, j8, j9, rfl, rfl, hl, hls, hr3, hu⟩
          have hres : 0 ≤ rest ∧ rest < B := hr3 rest List.mem_cons_self
          refine ⟨_, rfl, ?_⟩
          have c : ∃ p u', Ev (FE (n + 1)) (.and (.op .ne (.var 3) (.var 7)) (.and (.op .ne (.var 7) (.int 0)) (.and (.op .ne (.var 3) (.op .sub (.var 4) (.int 1))) (.and (.op .lt (.blt .len (.cons (.own 6) .nil)) (.int 14)) (.op .eq (.call 33 .urn (.cons (.op .add (.int 3) (.op .fdiv (.var 5) (.int 2))) .nil)) (.int 0)))))) [none, some (.int most), some (.int beats), some (.int one), some (.int H), some (.int B), some (.list (ls.map enc)), some (.int other), j8, some (.int rest)] u (.bool p) u' ∧ (UOk (k + 77 - r.length * 15 - r2.length * 3 - r3.length) u' ∧ (p = true → one ≠ other ∧ other ≠ 0 ∧ one ≠ H - 1 ∧ ls.length < 14)) := by
            have hu0 : UOk (k + 77 - r.length * 15 - r2.length * 3 - r3.length) u := hu.mono (by rw [List.length_cons]; omega)
            refine ev_andX (p := !decide (one = other)) (by and_intros) (fun _ => ⟨hu0, fun h => by cases h⟩) fun c1 => ?_
            refine ev_andX (p := !decide (other = 0)) (by and_intros) (fun _ => ⟨hu0, fun h => by cases h⟩) fun c2 => ?_
            refine ev_andX (p := !decide (one = H - 1)) (by and_intros) (fun _ => ⟨hu0, fun h => by cases h⟩) fun c3 => ?_
            refine ev_andX (p := decide ((ls.length : Int) < 14)) (by and_intros) (fun _ => ⟨hu0, fun h => by cases h⟩) fun c4 => ?_
            obtain ⟨x, u', ex, _, hx⟩ := q_take (n := n) (m := 3 + B / 2) hu (by omega) (by omega) (by omega)
            refine ⟨decide (x = 0), u', by ac_rfl, hx.mono (by rw [List.length_cons]; omega), fun _ => ?_⟩
            simp at c1 c2 c3 c4
            exact ⟨c1, c2, c3, by omega⟩
          obtain ⟨p, u', ec, hu', hp⟩ := c
          refine sp_if1 ec rfl ?_ ?_
          · intro hpt
            obtain ⟨p1, p2, p3, p4⟩ := hp hpt
            and_intros
            · exact app_ok (by rw [List.length_map]; omega)
            and_intros
            refine ⟨ls ++ [⟨one, other, rest⟩], _, _, _, rfl, by rw [List.map_append]; rfl, by rw [List.length_append]; simp; omega, fun x hx => ?_, fun x hx => hr3 x (List.mem_cons_of_mem _ hx), hu'⟩
            rcases List.mem_append.mp hx with hx | hx
            · exact hls x hx
            · rw [List.mem_singleton] at hx
              subst hx
              refine ⟨hone.1, ?_, ?_, hoth.2, p1, hres.1, hres.2⟩
              · show one < H - 1; omega
              · show 0 < other; omega
          · intro _
            and_intros
            exact ⟨ls, _, _, _, rfl, rfl, hl, hls, fun x hx => hr3 x (List.mem_cons_of_mem _ hx), hu'⟩
        · rintro ρ u ⟨ls, l, j8, j9, rfl, rfl, hl, hls, hr3, hu⟩
          and_intros
          exact ⟨ls, _, _, _, _, rfl, rfl, hl, hls, fun x hx => hr2 x (List.mem_cons_of_mem _ hx), by simpa using hu⟩
      · rintro ρ u ⟨ls, l, j7, j8, j9, rfl, rfl, hl, hls, hr2, hu⟩
        and_intros
        exact ⟨ls, _, _, _, _, _, rfl, rfl, hl, hls, fun x hx => hr x (List.mem_cons_of_mem _ hx), by simpa using hu⟩
    · rintro ρ u ⟨ls, l, j3, j7, j8, j9, rfl, rfl, hl, hls, hr, hu⟩
      have hu : UOk (k + 77) u := by simpa using hu
      obtain ⟨x, u3, e3, _, hu3⟩ := q_take (n := n) (m := 5) hu (by omega) (by omega) (by omega)
      have fin : ∀ (ls : List I3) (u : List Int), ls.length ≤ 16 → (∀ x ∈ ls, lnOk H B x) → UOk (k + 100) u → ∃ N, PyData.tuple [.int H, .int B, .tuple ((ss ls).map enc)] = Net.d N ∧ N.Ok ∧ N.H ≤ most ∧ N.B ≤ beats ∧ UOk (k + 100) u := fun ls u h1 h2 h3 => by
        refine ⟨⟨H, B, ss ls⟩, rfl, ⟨hH.1, hH.2, hB.1, hB.2, Nat.le_trans (len_ss ls) h1, fun l hl => h2 l (mem_ss.mp hl), rising_iff.mpr (pairwise_ss ls)⟩, hHm, hBm, h3⟩
      have c : ∃ p u', Ev (FE (n + 1)) (.and (.op .gt (.call 33 .urn (.cons (.int 5) .nil)) (.int 0)) (.op .lt (.blt .len (.cons (.own 6) .nil)) (.int 13))) [none, some (.int most), some (.int beats), j3, some (.int H), some (.int B), some (.list (ls.map enc)), j7, j8, j9] u (.bool p) u' ∧ UOk (k + 78) u' := by
        refine ev_andX (p := decide (0 < x)) (by ac_rfl) (fun _ => hu3.mono (by omega)) fun c1 => ?_
        exact ⟨_, _, by and_intros, hu3.mono (by omega)⟩
      obtain ⟨p, u4, ec, hu4⟩ := c
      refine sp_if1 ec rfl ?_ ?_
      · intro _
        obtain ⟨h1, u5, e5, h5, hu5⟩ := q_take (n := n) (m := H - 2) hu4 (by omega) (by omega) (by omega)
        obtain ⟨x1, u6, e6, h6, hu6⟩ := q_take (n := n) (m := B) hu5 (by omega) (by omega) (by omega)
        obtain ⟨x2, u7, e7, h7, hu7⟩ := q_take (n := n) (m := B) hu6 (by omega) (by omega) (by omega)
        ac_rfl
        · exact o_addL (by rw [List.length_map]; simp; omega)
        ac_rfl
        · have e : (ls.map enc : List D) ++ [PyData.tuple [.int 0, .int (1 + h1), .int x1], .tuple [.int (1 + h1), .int (H - 1), .int x2]] = (ls ++ [(⟨0, 1 + h1, x1⟩ : I3), ⟨1 + h1, H - 1, x2⟩]).map enc := by rw [List.map_append]; rfl
          rw [e]
          exact (sset_t3 (by rw [List.length_append]; simp; omega)).1
        ac_rfl
        refine fin _ _ (by rw [List.length_append]; simp; omega) (fun x hx => ?_) (hu7.mono (by omega))
        rcases List.mem_append.mp hx with hx | hx
        · exact hls x hx
        · simp only [List.mem_cons, List.not_mem_nil, or_false] at hx
          rcases hx with rfl | rfl
          · refine ⟨Int.le_refl _, ?_, ?_, ?_, ?_, h6.1, h6.2⟩
            · show (0 : Int) < H - 1; omega
            · show (0 : Int) < 1 + h1; omega
            · show 1 + h1 < H; omega
            · show (0 : Int) ≠ 1 + h1; omega
          · refine ⟨?_, ?_, ?_, ?_, ?_, h7.1, h7.2⟩
            · show (0 : Int) ≤ 1 + h1; omega
            · show 1 + h1 < H - 1; omega
            · show (0 : Int) < H - 1; omega
            · show H - 1 < H; omega
            · show 1 + h1 ≠ H - 1; omega
      · intro _
        and_intros
        · exact (sset_t3 (by omega)).1
        and_intros
        exact fin _ _ (by omega) hls (hu4.mono (by omega))
  obtain ⟨d, u', e, N, rfl, h⟩ := q
  exact ⟨N, u', e, h⟩
end Pg

end
section
set_option Elab.async false
set_option linter.all false
set_option autoImplicit false
set_option maxRecDepth 100000
set_option maxHeartbeats 400000
namespace Pg
open PySem DL DN
variable {n : Nat} {w s : D} {N : Net} {G : Guard}
/-- those of some numbers for which a draw says so -/
theorem ev_sub {fe : Nat → List D → M D} {ρ : DL.Env} {u u1 : List Int} {xs : List Int} {v : Nat} {k : Src} {s b : E} {x : D} {j : Int} (hs : Ev fe s ρ u x u1) (hk : srcD k x = some (xs.map enc)) (hu : UOk j u1)
    (hb : ∀ (a : Int) (u : List Int) (i : Int), UOk i u → i ≤ j + 1000 → ∃ p u', Ev fe b ((wipeD ρ [v]).set v (some (.int a))) u (.bool p) u' ∧ UOk (i + 1) u') (hv : ∀ a : Int, ((wipeD ρ [v]).set v (some (.int a)))[v]?.bind id = some (.int a)) (hl : xs.length ≤ 1000) :
    ∃ (ys : List Int) (u' : List Int), Ev fe (.cl [v] k s (.nm v) (.cons b .nil) (.em (.var v))) ρ u (.list (ys.map enc)) u' ∧ ys.Sublist xs ∧ UOk (j + xs.length) u' := by
  obtain ⟨ds, u', e, ys, zs, rfl, h1, h2, h3⟩ := ev_clU (fe := fe) (ρ := ρ) (u := u) (vs := [v]) (t := .nm v) (ifs := .cons b .nil) (rest := (.em (.var v))) (enc := enc) (xs := xs) (fun r acc u => ∃ ys zs : List Int, acc = ys.map enc ∧ zs ++ r = xs ∧ ys.Sublist zs ∧ UOk (j + zs.length) u) hs hk ⟨[], [], rfl, rfl, .slnil, by simpa using hu⟩ (by
    rintro a r acc u ⟨ys, zs, rfl, h1, h2, h3⟩
    have hz : zs.length ≤ xs.length := by rw [← h1, List.length_append]; omega
    obtain ⟨p, u', e1, e2⟩ := hb a u _ h3 (by omega)
    refine ⟨_, u', cb_ifU rfl e1 rfl fun _ => ev_em (ev_var (hv a)), if p = true then ys ++ [a] else ys, zs ++ [a], ?_, by rw [List.append_assoc]; exact h1, ?_, e2.mono (by rw [List.length_append]; simp; omega)⟩
    · cases p
      · simp
      · simp; rfl
    · cases p
      · exact h2.trans (List.sublist_append_left zs [a])
      · exact h2.append (List.Sublist.refl [a])) (by
    rintro ds u ⟨ys, zs, rfl, h1, h2, h3⟩
    rw [List.append_nil] at h1
    subst h1
    have := h2.length_le
    rw [List.length_map]; omega)
  rw [List.append_nil] at h1
  subst h1
  exact ⟨ys, u', e, h2, h3⟩
theorem rising_rangeI2 (i j : Int) : (rangeI2 i j).Pairwise fun a b => ltE a b = true := by
  unfold rangeI2
  rw [List.pairwise_map]
  refine List.pairwise_lt_range.imp fun {a b} h => ?_
  rw [ltE_int, decide_eq_true_iff]; omega
theorem rising_rangeI (j : Int) : (rangeI j).Pairwise fun a b => ltE a b = true := by
  unfold rangeI
  rw [List.pairwise_map]
  refine List.pairwise_lt_range.imp fun {a b} h => ?_
  rw [ltE_int, decide_eq_true_iff]; omega
theorem len_rangeI2 (i j : Int) : (rangeI2 i j).length = (j - i).toNat := by unfold rangeI2; simp
theorem q_law_guard {u : List Int} {k H most : Int} (hu : UOk k u) (hk : k < 1000000000000000000) (hH : 3 ≤ H ∧ H ≤ 5) (hm : 1 ≤ most ∧ most ≤ 3) : ∃ G u', FE (n + 2) ix__law_guard [.int H, .int most] u = some (Guard.d G, u') ∧ G.Ok H ∧ (G.lots.length : Int) ≤ most ∧ UOk (k + 100) u' := by
  have q : ∃ d u', FE (n + 2) ix__law_guard [.int H, .int most] u = some (d, u') ∧ ∃ G, d = Guard.d G ∧ G.Ok H ∧ (G.lots.length : Int) ≤ most ∧ UOk (k + 100) u' := by
    obtain ⟨m0, u1, e1, hm0, hu1⟩ := q_take (n := n) (m := most) hu (by omega) (by omega) (by omega)
    refine fn_u rfl rfl rfl rfl ?_
    refine sp_par1 (ds := [.int (1 + m0), .list []]) (u1 := u1) (by ac_rfl) rfl ?_
    have hm3 : 1 ≤ 1 + m0 ∧ 1 + m0 ≤ 3 ∧ 1 + m0 ≤ most := by omega
    generalize 1 + m0 = m at hm3
    have cl : ∃ (L : List (List Int)) (u' : List Int), Ev (FE (n + 1)) (.cl [9] .rng1 (.cons (.var 6) .nil) (.nm 9) .nil (.em (.blt .tuple (.cons (.cl [11] .rng2 (.cons (.int 1) (.cons (.op .sub (.var 1) (.int 1)) .nil)) (.nm 11) (.cons (.op .lt (.call 33 .urn (.cons (.int 5) .nil)) (.int 2)) .nil) (.em (.var 11))) .nil)))) [none, some (.int H), some (.int most), none, none, none, some (.int m), some (.list []), none, none, none, none] u1 (.list (L.map enc)) u' ∧ (L.length : Int) = m ∧ (∀ l ∈ L, l.Sublist (rangeI2 1 (H - 1))) ∧ UOk (k + 10) u' := by
      obtain ⟨ds, u', e, L, rfl, h1, h2, h3⟩ := ev_clU (fe := FE (n + 1)) (ρ := [none, some (.int H), some (.int most), none, none, none, some (.int m), some (.list []), none, none, none, none]) (u := u1) (vs := [9]) (t := .nm 9) (k := .rng1) (ifs := .nil) (rest := (.em (.blt .tuple (.cons (.cl [11] .rng2 (.cons (.int 1) (.cons (.op .sub (.var 1) (.int 1)) .nil)) (.nm 11) (.cons (.op .lt (.call 33 .urn (.cons (.int 5) .nil)) (.int 2)) .nil) (.em (.var 11))) .nil)))) (enc := enc) (xs := rangeI m) (s := .cons (.var 6) .nil) (fun r acc u => ∃ L : List (List Int), acc = L.map enc ∧ (L.length : Int) + r.length = m ∧ (∀ l ∈ L, l.Sublist (rangeI2 1 (H - 1))) ∧ UOk (k + 1 + L.length * 3) u) (by and_intros) (src_rng1 (by omega) (by omega)) ⟨[], rfl, by rw [len_rangeI]; simp; omega, by simp, by simpa using hu1⟩ (by
        rintro a r acc u ⟨L, rfl, h1, h2, h3⟩
        rw [List.length_cons] at h1
        obtain ⟨ys, u', e, hsub, hu'⟩ := ev_sub (fe := FE (n + 1)) (ρ := [none, some (.int H), some (.int most), none, none, none, some (.int m), some (.list []), none, some (.int a), none, none]) (u := u) (u1 := u) (xs := rangeI2 1 (H - 1)) (v := 11) (k := .rng2) (s := (.cons (.int 1) (.cons (.op .sub (.var 1) (.int 1)) .nil))) (b := (.op .lt (.call 33 .urn (.cons (.int 5) .nil)) (.int 2))) (by and_intros) (src_rng2 (by omega) (by omega) (by omega) (by omega)) h3 (by
          intro x u i hi hle
          obtain ⟨c, u', e, _, h⟩ := q_take (n := n) (m := 5) hi (by omega) (by omega) (by omega)
          exact ⟨_, u', by ac_rfl, h⟩) (fun _ => rfl) (by rw [len_rangeI2]; omega)
        refine ⟨_, u', cb_no rfl (ev_em (ev_blt (ev_cons e ev_nil) f_tup)), L ++ [ys], by rw [List.map_append]; rfl, by rw [List.length_append]; simp; omega, fun l hl => ?_, hu'.mono (by rw [len_rangeI2, List.length_append]; simp; omega)⟩
        rcases List.mem_append.mp hl with hl | hl
        · exact h2 l hl
        · rw [List.mem_singleton] at hl; rw [hl]; exact hsub) (by
        rintro ds u ⟨L, rfl, h1, h2, h3⟩
        rw [List.length_map]; simp at h1; omega)
      simp at h1
      exact ⟨L, u', e, h1, h2, h3.mono (by omega)⟩
    obtain ⟨L, u2, e2, hL1, hL2, hu2⟩ := cl
    refine sp_set1 (ev_blt (ev_cons e2 ev_nil) f_tup) ?_
    obtain ⟨bs, u3, e3, hbs, hu3⟩ := ev_sub (fe := FE (n + 1)) (ρ := [none, some (.int H), some (.int most), some (.tuple (L.map enc)), none, none, some (.int m), some (.list []), none, none, none, none]) (u := u2) (u1 := u2) (xs := rangeI m) (v := 9) (k := .rng1) (s := (.cons (.var 6) .nil)) (b := (.op .eq (.call 33 .urn (.cons (.int 2) .nil)) (.int 0))) (by and_intros) (src_rng1 (by omega) (by omega)) hu2 (by
          intro x u i hi hle
          obtain ⟨c, u', e, _, h⟩ := q_take (n := n) (m := 2) hi (by omega) (by omega) (by omega)
          exact ⟨_, u', by ac_rfl, h⟩) (fun _ => rfl) (by rw [len_rangeI]; omega)
    have hu3 : UOk (k + 13) u3 := hu3.mono (by rw [len_rangeI]; omega)
    have cb : ∃ (B : List Int) (u' : List Int), Ev (FE (n + 1)) (.or (.blt .tuple (.cons (.cl [9] .rng1 (.cons (.var 6) .nil) (.nm 9) (.cons (.op .eq (.call 33 .urn (.cons (.int 2) .nil)) (.int 0)) .nil) (.em (.var 9))) .nil)) (.tup (.cons (.call 33 .urn (.cons (.var 6) .nil)) .nil))) [none, some (.int H), some (.int most), some (.tuple (L.map enc)), none, none, some (.int m), some (.list []), none, none, none, none] u2 (.tuple (B.map enc)) u' ∧ B ≠ [] ∧ B.Sublist (rangeI m) ∧ UOk (k + 14) u' := by
      have eb := ev_blt (b := .tuple) (ev_cons e3 ev_nil) f_tup
      cases bs with
      | nil =>
        obtain ⟨c, u4, e4, hc, hu4⟩ := q_take (n := n) (m := m) hu3 (by omega) (by omega) (by omega)
        refine ⟨[c], u4, ev_or_f eb rfl ?_, by simp, ?_, hu4.mono (by omega)⟩
        · exact ev_tup (ev_cons (ev_callUu (ev_cons (ev_var rfl) ev_nil) e4) ev_nil) rfl
        · rw [List.singleton_sublist]; exact mem_rangeI.mpr hc
      | cons b bs => exact ⟨b :: bs, u3, ev_or_t eb rfl, by simp, hbs, hu3.mono (by omega)⟩
    obtain ⟨B, u4, e4, hB1, hB2, hu4⟩ := cb
    refine sp_set1 e4 ?_
    apply sp_for1 (α := Int) (enc := enc) (xs := rangeI m) (fun r ρ u => ∃ (t : Nat) (st : List (Int × Int)) (l : List D) (j5 j8 j9 j10 j11 : Option D), ρ = [none, some (.int H), some (.int most), some (.tuple (L.map enc)), some (.tuple (B.map enc)), j5, some (.int m), some (.list l), j8, j9, j10, j11] ∧ l = st.map enc ∧ r = (rangeI m).drop t ∧ (t : Int) ≤ m ∧ st.length ≤ 3 * t ∧ (st.Pairwise fun a b => ltE a b = true) ∧ (∀ x ∈ st, 0 ≤ x.1 ∧ x.1 < t ∧ 0 ≤ x.2 ∧ x.2 < m) ∧ (∀ p : Int, 0 ≤ p → p < t → ∃ q, (p, q) ∈ st) ∧ UOk (k + 14 + t * 4) u)
    · and_intros
    · exact src_rng1 (by omega) (by omega)
    · exact ⟨0, [], [], none, none, none, none, none, rfl, rfl, rfl, by omega, by simp, by simp, by simp, fun p h1 h2 => by omega, by simpa using hu4⟩
    · rintro a r ρ u ⟨t, st, l, j5, j8, j9, j10, j11, rfl, rfl, hr, htm, hl, hst, hrg, hall, hu⟩
      obtain ⟨q1, rfl, rfl⟩ := rangeI_turn hr
      refine ⟨_, rfl, ?_⟩
      obtain ⟨gs, u5, e5, hgs, hu5⟩ := ev_sub (fe := FE (n + 1)) (ρ := [none, some (.int H), some (.int most), some (.tuple (L.map enc)), some (.tuple (B.map enc)), some (.int (t : Int)), some (.int m), some (.list (st.map enc)), j8, j9, j10, j11]) (u := u) (u1 := u) (xs := rangeI m) (v := 10) (k := .rng1) (s := (.cons (.var 6) .nil)) (b := (.op .eq (.call 33 .urn (.cons (.int 2) .nil)) (.int 0))) (by and_intros) (src_rng1 (by omega) (by omega)) hu (by
          intro x u i hi hle
          obtain ⟨c, u', e, _, h⟩ := q_take (n := n) (m := 2) hi (by omega) (by omega) (by omega)
          exact ⟨_, u', by ac_rfl, h⟩) (fun _ => rfl) (by rw [len_rangeI]; omega)
      have hu5 : UOk (k + 14 + t * 4 + 3) u5 := hu5.mono (by rw [len_rangeI]; omega)
      have cg : ∃ (g : List Int) (u' : List Int), Ev (FE (n + 1)) (.or (.sl (.cl [10] .rng1 (.cons (.var 6) .nil) (.nm 10) (.cons (.op .eq (.call 33 .urn (.cons (.int 2) .nil)) (.int 0)) .nil) (.em (.var 10))) .no (.int 3)) (.lst (.cons (.call 33 .urn (.cons (.var 6) .nil)) .nil))) [none, some (.int H), some (.int most), some (.tuple (L.map enc)), some (.tuple (B.map enc)), some (.int (t : Int)), some (.int m), some (.list (st.map enc)), j8, j9, j10, j11] u (.list (g.map enc)) u' ∧ g ≠ [] ∧ g.Sublist (rangeI m) ∧ UOk (k + 14 + t * 4 + 4) u' := by
        have es := ev_sl e5 (ev_no (ρ := [none, some (.int H), some (.int most), some (.tuple (L.map enc)), some (.tuple (B.map enc)), some (.int (t : Int)), some (.int m), some (.list (st.map enc)), j8, j9, j10, j11])) (ev_int (n := 3)) (l' := none) (h' := some 3) rfl rfl (sl_lt _ (by omega))
        have e3 : (gs.map enc : List D).take (Int.toNat 3) = gs.map enc := by
          refine List.take_of_length_le ?_
          have := hgs.length_le
          rw [len_rangeI] at this
          rw [List.length_map]; show gs.length ≤ 3; omega
        rw [e3] at es
        cases gs with
        | nil =>
          obtain ⟨c, u6, e6, hc, hu6⟩ := q_take (n := n) (m := m) hu5 (by omega) (by omega) (by omega)
          refine ⟨[c], u6, ev_or_f es rfl ?_, by simp, ?_, hu6.mono (by omega)⟩
          · exact ev_lst (ev_cons (ev_callUu (ev_cons (ev_var rfl) ev_nil) e6) ev_nil) rfl
          · rw [List.singleton_sublist]; exact mem_rangeI.mpr hc
        | cons b bs => exact ⟨b :: bs, u5, ev_or_t es rfl, by simp, hgs, hu5.mono (by omega)⟩
      obtain ⟨g, u6, e6, hg1, hg2, hu6⟩ := cg
      have hg3 : g.length ≤ 3 := by have := hg2.length_le; rw [len_rangeI] at this; omega
      refine sp_set1 e6 ?_
      and_intros
      · apply ev_map (α := Int) (enc := enc) (xs := g) (f := fun q => enc ((t : Int), q))
        · and_intros
        · exact rfl
        · omega
        · intro q hq
          refine ⟨rfl, ?_⟩
          apply ev_to
          · and_intros
          · rfl
      · exact o_addL (by rw [List.length_map, List.length_map]; omega)
      and_intros
      refine ⟨t + 1, st ++ g.map fun q => ((t : Int), q), _, _, _, _, _, _, rfl, by rw [List.map_append, List.map_map]; rfl, rfl, by omega, by rw [List.length_append, List.length_map]; omega, ?_, ?_, ?_, hu6.mono (by omega)⟩
      · rw [List.pairwise_append]
        refine ⟨hst, ?_, fun x hx y hy => ?_⟩
        · rw [List.pairwise_map]
          exact ((rising_rangeI m).sublist hg2).imp fun {a b} h => lt_pair2 (by rw [ltE_int, decide_eq_true_iff] at h; exact h)
        · obtain ⟨q, hq, rfl⟩ := List.mem_map.mp hy
          exact lt_pair1 (hrg x hx).2.1
      · intro x hx
        rcases List.mem_append.mp hx with hx | hx
        · have := hrg x hx; omega
        · obtain ⟨q, hq, rfl⟩ := List.mem_map.mp hx
          have := mem_rangeI.mp (hg2.subset hq)
          refine ⟨?_, ?_, this.1, this.2⟩
          · show (0 : Int) ≤ t; omega
          · show (t : Int) < (t + 1 : Nat); omega
      · intro p h1 h2
        by_cases hp : p < t
        · obtain ⟨q, hq⟩ := hall p h1 hp
          exact ⟨q, List.mem_append_left _ hq⟩
        · have e : p = t := by omega
          subst e
          obtain ⟨q, hq⟩ := List.exists_mem_of_ne_nil g hg1
          exact ⟨q, List.mem_append_right _ (List.mem_map.mpr ⟨q, hq, rfl⟩)⟩
    · rintro ρ u ⟨t, st, l, j5, j8, j9, j10, j11, rfl, rfl, hr, htm, hl, hst, hrg, hall, hu⟩
      have := rangeI_end hr
      have et : (t : Int) = m := by omega
      and_intros
      have hB3 : B.length ≤ 3 := by have := hB2.length_le; rw [len_rangeI] at this; omega
      refine ⟨⟨L, B, st⟩, rfl, ⟨?_, ?_, fun l hl => ⟨?_, ?_, fun h hh => ?_⟩, hB1, hB3, ?_, fun p hp => ?_, ?_, rising_iff.mpr hst, fun x hx => ?_, fun p h1 h2 => ?_⟩, ?_, hu.mono (by omega)⟩
      · show 1 ≤ L.length; omega
      · show L.length ≤ 3; omega
      · exact rising_iff.mpr ((rising_rangeI2 1 (H - 1)).sublist (hL2 l hl))
      · have := (hL2 l hl).length_le; rw [len_rangeI2] at this; omega
      · exact mem_rangeI2.mp ((hL2 l hl).subset hh)
      · exact rising_iff.mpr ((rising_rangeI m).sublist hB2)
      · have := mem_rangeI.mp (hB2.subset hp)
        show 0 ≤ p ∧ p < (L.length : Int); omega
      · show st.length ≤ 9; omega
      · have := hrg x hx
        show 0 ≤ x.1 ∧ x.1 < (L.length : Int) ∧ 0 ≤ x.2 ∧ x.2 < (L.length : Int); omega
      · have h2 : p < (L.length : Int) := h2
        obtain ⟨q, hq⟩ := hall p h1 (by omega)
        exact List.ne_nil_of_mem (Guard.mem_go.mpr hq)
      · show (L.length : Int) ≤ most; omega
  obtain ⟨d, u', e, G, rfl, h⟩ := q
  exact ⟨G, u', e, h⟩
end Pg

end
section
set_option Elab.async false
set_option linter.all false
set_option autoImplicit false
set_option maxRecDepth 100000
set_option maxHeartbeats 400000
namespace DN
open PySem DL
def walksL (G : Guard) : Nat → List (List Int)
  | 0 => G.begins.map fun p => [p]
  | t + 1 => (walksL G t).flatMap fun own => (G.go ((own.getLast?).getD 0)).map fun far => own ++ [far]
theorem walksL_ok {G : Guard} {H : Int} (g : G.Ok H) : ∀ t, ∀ v ∈ walksL G t, v.length = t + 1 ∧ (∀ p ∈ v, 0 ≤ p ∧ p < G.lots.length) ∧ (∃ p, v[0]? = some p ∧ p ∈ G.begins) ∧ ∀ i, i < t → (v[i + 1]?).getD 0 ∈ G.go ((v[i]?).getD 0)
  | 0, v, hv => by
    obtain ⟨p, hp, rfl⟩ := List.mem_map.mp hv
    exact ⟨rfl, fun q hq => by rw [List.mem_singleton] at hq; rw [hq]; exact g.bp p hp, ⟨p, rfl, hp⟩, fun i hi => by omega⟩
  | t + 1, v, hv => by
    obtain ⟨own, ho, hv⟩ := List.mem_flatMap.mp hv
    obtain ⟨far, hf, rfl⟩ := List.mem_map.mp hv
    obtain ⟨h1, h2, ⟨p, h3, h4⟩, h5⟩ := walksL_ok g t own ho
    have hs := g.sp _ (Guard.mem_go.mp hf)
    refine ⟨by rw [List.length_append, h1]; rfl, fun q hq => ?_, ⟨p, ?_, h4⟩, fun i hi => ?_⟩
    · rcases List.mem_append.mp hq with hq | hq
      · exact h2 q hq
      · rw [List.mem_singleton] at hq; rw [hq]; exact ⟨hs.2.2.1, hs.2.2.2⟩
    · rw [List.getElem?_append_left (by omega)]; exact h3
    · by_cases e : i < t
      · rw [List.getElem?_append_left (by omega), List.getElem?_append_left (by omega)]
        exact h5 i e
      · have e : i = t := by omega
        subst e
        rw [List.getElem?_append_left (by omega), List.getElem?_append_right (by omega), h1, Nat.sub_self]
        rw [List.getLast?_eq_getElem?, h1, Nat.add_sub_cancel] at hf
        exact hf
/-- each walk is among them -/
theorem walksL_all {G : Guard} : ∀ t (v : List Int), v.length = t + 1 → (∃ p, v[0]? = some p ∧ p ∈ G.begins) → (∀ i, i < t → (v[i + 1]?).getD 0 ∈ G.go ((v[i]?).getD 0)) → v ∈ walksL G t
  | 0, v, h1, ⟨p, h2, h3⟩, _ => by
    match v, h1 with
    | [x], _ => exact List.mem_map.mpr ⟨x, by cases h2; exact h3, rfl⟩
  | t + 1, v, h1, ⟨p, h2, h3⟩, h4 => by
    have hl : v.dropLast.length = t + 1 := by rw [List.length_dropLast, h1]; omega
    have hv : v ≠ [] := by intro e; rw [e] at h1; simp at h1
    have e := List.dropLast_concat_getLast hv
    refine List.mem_flatMap.mpr ⟨v.dropLast, walksL_all t _ hl ⟨p, ?_, h3⟩ fun i hi => ?_, List.mem_map.mpr ⟨v.getLast hv, ?_, e⟩⟩
    · rw [List.getElem?_dropLast, if_pos (by omega)]; exact h2
    · rw [List.getElem?_dropLast, List.getElem?_dropLast, if_pos (by omega), if_pos (by omega)]
      exact h4 i (by omega)
    · have := h4 t (by omega)
      rw [List.getLast?_eq_getElem?, hl, Nat.add_sub_cancel, List.getElem?_dropLast, if_pos (by omega)]
      rw [List.getLast_eq_getElem]
      rw [List.getElem?_eq_getElem (by omega : t + 1 < v.length)] at this
      have e2 : v.length - 1 = t + 1 := by omega
      simp only [e2]
      exact this
theorem walksL_len {G : Guard} {H : Int} (g : G.Ok H) : ∀ t, (walksL G t).length ≤ 3 * 9 ^ t
  | 0 => by
    show ((G.begins.map fun p => [p]).length) ≤ _
    rw [List.length_map]; have := g.b3; omega
  | t + 1 => by
    have ih := walksL_len g t
    have := Pg.len_flatMap_le (xs := walksL G t) (f := fun own => (G.go ((own.getLast?).getD 0)).map fun far => own ++ [far]) (c := 9) fun own _ => by
      rw [List.length_map]
      have := G.len_go (p := (own.getLast?).getD 0)
      have := g.s9; omega
    show ((walksL G t).flatMap _).length ≤ _
    rw [Nat.pow_succ]
    omega
/-- the law's own look at a way's row -/
noncomputable def rowW (N : Net) (G : Guard) (tab : Won) (r : I3 × (Int × Int)) : Bool := isRow N G r && goesDown N G tab r.1 r.2.1 r.2.2
end DN
namespace Pg
open PySem DL DN
variable {n : Nat} {w s : D} {N : Net} {G : Guard}
theorem q_law_goes (hw : NetM w N) {t h : Int} (hB : 0 < N.B) (hl : N.L.length ≤ 60) : FE (n + 1) ix__law_goes [w, .int t, .int h] = rt (.list ((N.go t h).map enc)) := by
  obtain ⟨d, zs, h1, h2, h3, h4⟩ := hw.h2
  have h5 := hw.h1
  rw [h3, List.length_map] at hl
  have e : (h :: (N.L.filter fun l => decide (l.a = h) && decide (t % N.B = l.c)).map (·.b)).map enc = [.int h] ++ (zs.filter fun z => decide (z.2.a = h) && decide (t % N.B = z.2.c)).map fun z => .int z.2.b := by
    rw [h3, List.filter_map, List.map_cons, List.map_map, List.map_map]; rfl
  have hn : (h :: (N.L.filter fun l => decide (l.a = h) && decide (t % N.B = l.c)).map (·.b)).length < 64 := by
    rw [List.length_cons, List.length_map, h3]
    have := List.length_filter_le (fun l : I3 => decide (l.a = h) && decide (t % N.B = l.c)) (zs.map Prod.snd)
    rw [List.length_map] at this; omega
  have hss := sset_int hn
  rw [e] at hss
  refine fn_of rfl rfl rfl rfl ?_
  and_intros
  · apply ev_filterB (enc := Prod.fst) (xs := zs)
    · and_intros
    · exact h2
    · omega
    · intro z hz
      refine ⟨bind_seq (h4 z hz) rfl rfl, ?_, fun _ => ?_⟩
      · and_intros
      · and_intros
  · refine o_addL ?_
    have := List.length_filter_le (fun z : D × I3 => decide (z.2.a = h) && decide (t % N.B = z.2.c)) zs
    simp only [List.length_cons, List.length_nil, List.length_map]
    omega
  and_intros
theorem q_law_steps (hs : GuardM s G) {p : Int} (hl : G.steps.length ≤ 100) : FE (n + 1) ix__law_steps [s, .int p] = rt (.list ((G.go p).map enc)) := by
  obtain ⟨d, zs, h1, h2, h3, h4⟩ := hs.h2
  rw [h3, List.length_map] at hl
  refine fn_of rfl rfl rfl rfl ?_
  and_intros
  · apply ev_filterB (enc := Prod.fst) (xs := zs)
    · and_intros
    · exact h2
    · omega
    · intro z hz
      refine ⟨bind_seq (h4 z hz) rfl rfl, ?_, fun _ => ?_⟩
      · and_intros
      · and_intros
  unfold Guard.go
  rw [h3, List.filter_map, List.map_map, List.map_map]; rfl
theorem q_law_walks (hs : GuardM s G) {H : Int} (g : G.Ok H) {T : Nat} (hT : T ≤ 6) : FE (n + 2) ix__law_walks [s, .int (T : Int)] = rt (.list ((srt (walksL G T)).map enc)) := by
  have h9 := g.s9
  obtain ⟨d1, g1, g2⟩ := hs.h1
  have hlen : ∀ t, t ≤ 6 → (walksL G t).length ≤ 1594323 := fun t ht => by
    have h1 := walksL_len g t
    have h2 : 9 ^ t ≤ 9 ^ 6 := Nat.pow_le_pow_right (by omega) ht
    have h3 : (9 : Nat) ^ 6 = 531441 := by decide
    omega
  refine fn_of rfl rfl rfl rfl ?_
  and_intros
  · apply ev_map (α := Int) (enc := enc) (xs := G.begins) (f := fun p => enc [p])
    · and_intros
    · exact g2.src
    · have := g.b3; omega
    · intro p hp
      refine ⟨rfl, ?_⟩
      apply ev_to
      · and_intros
      · rfl
  apply sp_for1 (α := Int) (enc := enc) (xs := rangeI (T : Int)) (fun r ρ u => u = [] ∧ ∃ (t : Nat) (l : List D) (j3 j4 j5 j6 j7 : Option D), ρ = [some s, some (.int (T : Int)), some (.list l), j3, j4, j5, j6, j7] ∧ l = (walksL G t).map enc ∧ r = (rangeI (T : Int)).drop t ∧ t ≤ T)
  · and_intros
  · exact src_rng1 (by omega) (by omega)
  · exact ⟨rfl, 0, _, none, none, none, none, none, rfl, by rw [walksL, List.map_map]; rfl, rfl, by omega⟩
  · rintro a r ρ u ⟨rfl, t, l, j3, j4, j5, j6, j7, rfl, rfl, hr, hle⟩
    obtain ⟨q1, rfl, rfl⟩ := rangeI_turn hr
    have hl1 := hlen (t + 1) (by omega)
    refine ⟨_, rfl, ?_⟩
    and_intros
    apply sp_for1 (α := List Int) (enc := enc) (xs := walksL G t) (fun r2 ρ u => u = [] ∧ ∃ (acc : List (List Int)) (l4 : List D) (j5 j6 j7 : Option D), ρ = [some s, some (.int (T : Int)), some (.list ((walksL G t).map enc)), some (.int (t : Int)), some (.list l4), j5, j6, j7] ∧ l4 = acc.map enc ∧ (∀ x ∈ r2, x ∈ walksL G t) ∧ acc ++ r2.flatMap (fun own => (G.go ((own.getLast?).getD 0)).map fun far => own ++ [far]) = walksL G (t + 1))
    · and_intros
    · exact rfl
    · exact ⟨rfl, [], _, _, _, _, rfl, rfl, fun x h => h, rfl⟩
    · rintro own r2 ρ u ⟨rfl, acc, l4, j5, j6, j7, rfl, rfl, hm, hacc⟩
      obtain ⟨k1, k2, _, _⟩ := walksL_ok g t own (hm own List.mem_cons_self)
      have hne : own ≠ [] := by intro e; rw [e] at k1; simp at k1
      obtain ⟨x, hx⟩ : ∃ x, own.getLast? = some x := ⟨_, List.getLast?_eq_some_getLast hne⟩
      have ql := last_enc hx
      have hgo := G.len_go (p := x)
      rw [List.flatMap_cons, hx] at hacc
      have hal := congrArg List.length hacc
      rw [List.length_append, List.length_append, List.length_map] at hal
      refine ⟨_, rfl, ?_⟩
      and_intros
      · apply ev_map (α := Int) (enc := enc) (xs := G.go x) (f := fun far => enc (own ++ [far]))
        · and_intros
          exact q_law_steps hs (by omega)
        · exact rfl
        · omega
        · intro far hf
          refine ⟨rfl, ?_⟩
          apply ev_to
          · and_intros
            exact o_addT (by rw [List.length_map, k1]; simp; omega)
          · show PyData.tuple (own.map enc ++ _) = PyData.tuple ((own ++ [far]).map enc)
            rw [List.map_append]; rfl
      · exact o_addL (by
          rw [List.length_map, List.length_map]
          have : ((some x).getD 0 : Int) = x := rfl
          rw [this] at hal; omega)
      and_intros
      refine ⟨rfl, acc ++ (G.go x).map (fun far => own ++ [far]), _, _, _, _, rfl, by rw [List.map_append, List.map_map]; rfl, fun y hy => hm y (List.mem_cons_of_mem _ hy), ?_⟩
      rw [← hacc, List.append_assoc]; rfl
    · rintro ρ u ⟨rfl, acc, l4, j5, j6, j7, rfl, rfl, hm, hacc⟩
      simp at hacc
      and_intros
      exact ⟨rfl, t + 1, _, _, _, _, _, _, rfl, by rw [hacc], rfl, by omega⟩
  · rintro ρ u ⟨rfl, t, l, j3, j4, j5, j6, j7, rfl, rfl, hr, hle⟩
    have := rangeI_end hr
    have e : t = T := by omega
    subst e
    and_intros
    · refine sort_eq (sort_rows fun x hx => ?_) (by have := hlen t hT; omega)
      intro e
      have := (walksL_ok g t x hx).1
      rw [e] at this; simp at this
    and_intros
end Pg

end
section
set_option Elab.async false
set_option linter.all false
set_option autoImplicit false
set_option maxRecDepth 100000
set_option maxHeartbeats 400000
namespace DN
open PySem DL
theorem dp_ones {γ : Type} : ∀ ys : List γ, dpL 59 (ys.map fun _ => PyData.int 1) = true
  | [] => rfl
  | y :: ys => by rw [List.map_cons, dpL, dp_ones ys]; rfl
theorem o_neL1 {γ : Type} (ys : List γ) : o2 .ne (.list (ys.map fun _ => .int 1)) (.list []) = some (.bool (!ys.isEmpty)) := by
  show (if dp 60 (.list (ys.map fun _ => .int 1)) && dp 60 (.list []) then some (PyData.bool (PyData.eqv (.list (ys.map fun _ => .int 1)) (.list []) != true)) else none) = _
  have e : dp 60 (.list (ys.map fun _ => PyData.int 1)) = true := by simpa [dp] using dp_ones ys
  rw [e]
  cases ys <;> simp [dp, dpL, PyData.eqv, PyData.eqvAll]
theorem o_eqL1 {γ : Type} (ys : List γ) : o2 .eq (.list (ys.map fun _ => .int 1)) (.list []) = some (.bool ys.isEmpty) := by
  show (if dp 60 (.list (ys.map fun _ => .int 1)) && dp 60 (.list []) then some (PyData.bool (PyData.eqv (.list (ys.map fun _ => .int 1)) (.list []) != false)) else none) = _
  have e : dp 60 (.list (ys.map fun _ => PyData.int 1)) = true := by simpa [dp] using dp_ones ys
  rw [e]
  cases ys <;> simp [dp, dpL, PyData.eqv, PyData.eqvAll]
theorem filter_empty {γ : Type} (p : γ → Bool) (ys : List γ) : (ys.filter p).isEmpty = ys.all fun y => !p y := by
  induction ys with
  | nil => rfl
  | cons y ys ih =>
    rw [List.filter_cons, List.all_cons]
    cases p y
    · simpa using ih
    · rfl
noncomputable def okF (N : Net) (G : Guard) (tab : Won) (st : I3) (to m far : Int) : Bool := !decide (to ∈ G.lot far) && (decide (to = N.H - 1) || match look (⟨N.up st.a, to, far⟩ : I3) tab with | some v => decide (v.2 < m) | none => false)
theorem all_mix (p f : Int → Bool) (c : Bool) (l : List Int) : (!(l.any p) && (c || l.all f)) = l.all fun q => !p q && (c || f q) := by
  induction l with
  | nil => simp
  | cons q l ih =>
    rw [List.any_cons, List.all_cons, List.all_cons, ← ih]
    cases p q <;> cases f q <;> cases c <;> cases l.any p <;> cases l.all f <;> rfl
theorem goesDown_eq (N : Net) (G : Guard) (tab : Won) (st : I3) (to m : Int) : goesDown N G tab st to m = (decide (to ∈ N.go st.a st.b) && (G.go st.c).all (okF N G tab st to m)) := by
  unfold goesDown
  rw [Bool.and_assoc, all_mix]; rfl
theorem all_and {α : Type} (p q : α → Bool) (l : List α) : l.all (fun x => p x && q x) = (l.all p && l.all q) := by
  induction l with
  | nil => rfl
  | cons x l ih =>
    rw [List.all_cons, List.all_cons, List.all_cons, ih]
    cases p x <;> cases q x <;> cases l.all p <;> cases l.all q <;> rfl
end DN
namespace Pg
open PySem DL DN
variable {n : Nat} {w s : D} {N : Net} {G : Guard}
theorem q_law_way (hw : NetM w N) (hs : GuardM s G) (o : N.Ok) (g : G.Ok N.H) {tab : Won} (nd : (tab.map (·.1)).Nodup) (hl : tab.length < 60) (hr : ∀ r ∈ tab, (0 ≤ r.1.b ∧ r.1.b < N.H) ∧ (0 ≤ r.1.c ∧ r.1.c < G.lots.length) ∧ (0 ≤ r.2.1 ∧ r.2.1 < N.H)) : FE (n + 2) ix__law_way [w, s, .tuple (tab.map enc)] = rt (.bool (isWay N G tab)) := by
  have h0 := hw.h0
  have h5 := hw.h1
  have hB := o.B1
  have h9 := g.s9
  obtain ⟨d, eL, g1, g2, g3⟩ := hs.h0
  obtain ⟨d1, b1, b2⟩ := hs.h1
  have hdict := (dict_dE nd (by omega)).1
  refine fn_of rfl rfl rfl rfl ?_
  refine sp_par1 (ds := [.list ((tab.map (·.1)).map enc), dE tab]) (u1 := []) ?_ rfl ?_
  · apply DN.ev_cons
    · rw [List.map_map]
      apply ev_map (α := I3 × (Int × Int)) (enc := enc) (xs := tab)
      · and_intros
      · exact rfl
      · omega
      · intro x hx
        refine ⟨rfl, ?_⟩
        and_intros
    and_intros
  refine sp_if1 (p := !rising (tab.map (·.1)) || !(beg G).all fun o => decide (o ∈ tab.map (·.1))) (z := .bool (!rising (tab.map (·.1)) || !(beg G).all fun o => decide (o ∈ tab.map (·.1)))) (u1 := []) ?_ rfl ?_ ?_
  · apply ev_to
    · and_intros
      · exact (sset_t3 (by rw [List.length_map]; omega)).1
      · exact o_neL _ _ (by decide)
      and_intros
      · apply ev_filterB (α := Int) (enc := enc) (xs := G.begins) (f := fun _ => .int 1) (p := fun p => !decide ((⟨0, 0, p⟩ : I3) ∈ tab.map (·.1)))
        · and_intros
        · exact b2.src
        · have := g.b3; omega
        · intro p hp
          refine ⟨rfl, ?_, fun _ => ?_⟩
          · and_intros
            exact o_niD (⟨0, 0, p⟩ : I3) tab
          · and_intros
      and_intros
      exact o_neL1 _
    · rw [rising_ss, filter_empty]
      unfold beg
      rw [List.all_map]
      congr 2
      congr 1
      congr 1
      funext p
      simp
  · intro h
    and_intros
    unfold isWay
    rw [Bool.or_eq_true, Bool.not_eq_true', Bool.not_eq_true'] at h
    rcases h with h | h <;> rw [h] <;> simp
  intro h
  rw [Bool.or_eq_false_iff, Bool.not_eq_false', Bool.not_eq_false'] at h
  have hway : isWay N G tab = tab.all (rowW N G tab) := by
    unfold isWay
    rw [h.1, h.2, Bool.and_true, Bool.and_true]
    exact (all_and (isRow N G) (fun r => goesDown N G tab r.1 r.2.1 r.2.2) tab).symm
  and_intros
  apply sp_for1 (α := I3 × (Int × Int)) (enc := enc) (xs := tab) (fun r ρ u => u = [] ∧ ∃ (j5 j6 j7 j8 j9 j10 j11 j12 : Option D), ρ = [some w, some s, some (.tuple (tab.map enc)), some (.list ((tab.map (·.1)).map enc)), some (dE tab), j5, j6, j7, j8, j9, j10, j11, j12] ∧ isWay N G tab = r.all (rowW N G tab) ∧ ∀ x ∈ r, x ∈ tab)
  · and_intros
  · exact rfl
  · exact ⟨rfl, _, _, _, _, _, _, _, _, rfl, hway, fun x h => h⟩
  · rintro x r ρ u ⟨rfl, j5, j6, j7, j8, j9, j10, j11, j12, rfl, hx, hm⟩
    obtain ⟨r1, r2, r3⟩ := hr x (hm x List.mem_cons_self)
    obtain ⟨k1, k2⟩ := g3 x.1.c r2.1 r2.2
    have k2 := k2.inn x.1.b
    have hgo := G.len_go (p := x.1.c)
    rw [List.all_cons] at hx
    refine ⟨_, rfl, ?_⟩
    have eb : rowW N G tab x = (!(!(decide (0 ≤ x.1.a) && decide (x.1.a < N.B)) || (decide (x.1.b = N.H - 1) || (decide (x.1.b ∈ G.lot x.1.c) || (decide (x.2.2 < 1) || !decide (x.2.1 ∈ N.go x.1.a x.1.b))))) && (G.go x.1.c).all (okF N G tab x.1 x.2.1 x.2.2)) := by
      unfold rowW isRow isStand
      rw [goesDown_eq]
      have q1 : decide (0 ≤ x.1.c ∧ x.1.c < (G.lots.length : Int)) = true := decide_eq_true r2
      have q2 : decide (0 ≤ x.2.1 ∧ x.2.1 < N.H) = true := decide_eq_true r3
      have q3 : decide (0 ≤ x.1.b ∧ x.1.b < N.H - 1) = !decide (x.1.b = N.H - 1) := by
        by_cases e : x.1.b = N.H - 1
        · rw [decide_eq_true e, decide_eq_false (by omega)]; rfl
        · rw [decide_eq_false e, decide_eq_true (by omega)]; rfl
      have q4 : decide (1 ≤ x.2.2) = !decide (x.2.2 < 1) := by
        by_cases e : x.2.2 < 1
        · rw [decide_eq_true e, decide_eq_false (by omega)]; rfl
        · rw [decide_eq_false e, decide_eq_true (by omega)]; rfl
      rw [q1, q2, q3, q4, Bool.decide_and]
      generalize decide (0 ≤ x.1.a) = a1
      generalize decide (x.1.a < N.B) = a2
      generalize decide (x.1.b = N.H - 1) = a3
      generalize decide (x.1.b ∈ G.lot x.1.c) = a4
      generalize decide (x.2.2 < 1) = a5
      generalize decide (x.2.1 ∈ N.go x.1.a x.1.b) = a6
      generalize (G.go x.1.c).all (okF N G tab x.1 x.2.1 x.2.2) = a7
      cases a1 <;> cases a2 <;> cases a3 <;> cases a4 <;> cases a5 <;> cases a6 <;> cases a7 <;> rfl
    and_intros
    · exact q_law_goes hw (by omega) (by have := o.L16; omega)
    and_intros
    · rename_i hc
      rw [hx, eb, hc]; rfl
    intro hc
    rw [eb, hc] at hx
    and_intros
    apply sp_for1 (α := Int) (enc := enc) (xs := G.go x.1.c) (fun r2 ρ u => u = [] ∧ (∀ y ∈ r2, y ∈ G.go x.1.c) ∧ ∃ (j5 j11 j12 : Option D), ρ = [some w, some s, some (.tuple (tab.map enc)), some (.list ((tab.map (·.1)).map enc)), some (dE tab), j5, some (enc x.1.a), some (enc x.1.b), some (enc x.1.c), some (enc x.2.1), some (enc x.2.2), j11, j12] ∧ isWay N G tab = (r2.all (okF N G tab x.1 x.2.1 x.2.2) && r.all (rowW N G tab)))
    · and_intros
      exact q_law_steps hs (by omega)
    · exact rfl
    · exact ⟨rfl, fun y h => h, _, _, _, rfl, by simpa using hx⟩
    · rintro far r2 ρ u ⟨rfl, hm2, j5, j11, j12, rfl, hx⟩
      have hf := g.sp _ (Guard.mem_go.mp (hm2 far List.mem_cons_self))
      obtain ⟨f1, f2⟩ := g3 far hf.2.2.1 hf.2.2.2
      have f2 := f2.inn x.2.1
      rw [List.all_cons] at hx
      refine ⟨_, rfl, ?_⟩
      refine sp_set1 (d := enc (⟨N.up x.1.a, x.2.1, far⟩ : I3)) (u1 := []) ?_ ?_
      · apply ev_to
        · and_intros
        · rfl
      have c : Ev (FE (n + 1)) (.or (.op .inn (.var 9) (.ix (.ix (.var 1) (.int 0)) (.var 5))) (.and (.op .ne (.var 9) (.op .sub (.ix (.var 0) (.int 0)) (.int 1))) (.or (.op .notin (.var 11) (.var 4)) (.op .ge (.ix (.ix (.var 4) (.var 11)) (.int 1)) (.var 10))))) [some w, some s, some (.tuple (tab.map enc)), some (.list ((tab.map (·.1)).map enc)), some (dE tab), some (.int far), some (enc x.1.a), some (enc x.1.b), some (enc x.1.c), some (enc x.2.1), some (enc x.2.2), some (enc (⟨N.up x.1.a, x.2.1, far⟩ : I3)), j12] [] (.bool (!okF N G tab x.1 x.2.1 x.2.2 far)) [] := by
        have c2 : Ev (FE (n + 1)) (.or (.op .notin (.var 11) (.var 4)) (.op .ge (.ix (.ix (.var 4) (.var 11)) (.int 1)) (.var 10))) [some w, some s, some (.tuple (tab.map enc)), some (.list ((tab.map (·.1)).map enc)), some (dE tab), some (.int far), some (enc x.1.a), some (enc x.1.b), some (enc x.1.c), some (enc x.2.1), some (enc x.2.2), some (enc (⟨N.up x.1.a, x.2.1, far⟩ : I3)), j12] [] (.bool (!(match look (⟨N.up x.1.a, x.2.1, far⟩ : I3) tab with | some v => decide (v.2 < x.2.2) | none => false))) [] := by
          have ni := o_niD (⟨N.up x.1.a, x.2.1, far⟩ : I3) tab
          rw [← look_isSome] at ni
          cases hv : look (⟨N.up x.1.a, x.2.1, far⟩ : I3) tab with
          | none =>
            rw [hv] at ni
            exact ev_or_t (x := .bool true) (ev_op (ev_var rfl) (ev_var rfl) ni) rfl
          | some v =>
            rw [hv] at ni
            have e := sub_dE hv
            refine ev_or_f (x := .bool false) (u1 := []) (ev_op (ev_var rfl) (ev_var rfl) ni) rfl ?_
            apply ev_to
            · and_intros
            · congr 1
              show _ = !decide (v.2 < x.2.2)
              by_cases e : v.2 < x.2.2
              · rw [decide_eq_true e, decide_eq_false (by omega)]; rfl
              · rw [decide_eq_false e, decide_eq_true (by omega)]; rfl
        apply ev_to
        · apply ev_or
          · and_intros
          · intro _
            apply ev_and
            · and_intros
            · intro _
              exact c2
        · unfold okF
          generalize decide (x.2.1 ∈ G.lot far) = a1
          generalize decide (x.2.1 = N.H - 1) = a2
          generalize (match look (⟨N.up x.1.a, x.2.1, far⟩ : I3) tab with | some v => decide (v.2 < x.2.2) | none => false) = a3
          cases a1 <;> cases a2 <;> cases a3 <;> rfl
      refine sp_if1 c rfl ?_ ?_
      · intro h
        rw [Bool.not_eq_true'] at h
        and_intros
        rw [hx, h]; rfl
      · intro h
        rw [Bool.not_eq_false'] at h
        rw [h] at hx
        and_intros
        exact ⟨rfl, fun y hy => hm2 y (List.mem_cons_of_mem _ hy), _, _, _, rfl, by simpa using hx⟩
    · rintro ρ u ⟨rfl, hm2, j5, j11, j12, rfl, hx⟩
      and_intros
      exact ⟨rfl, _, _, _, _, _, _, _, _, rfl, by simpa using hx, fun y hy => hm y (List.mem_cons_of_mem _ hy)⟩
  · rintro ρ u ⟨rfl, j5, j6, j7, j8, j9, j10, j11, j12, rfl, hx, hm⟩
    and_intros
    rw [hx]; rfl
theorem q_law_hold (hw : NetM w N) (hs : GuardM s G) (o : N.Ok) (g : G.Ok N.H) {tab : List I3} (hl : tab.length < 60) (hr : ∀ r ∈ tab, (0 ≤ r.b ∧ r.b < N.H) ∧ (0 ≤ r.c ∧ r.c < G.lots.length)) : FE (n + 2) ix__law_hold [w, s, .tuple (tab.map enc)] = rt (.bool (isHold N G tab)) := by
  have h0 := hw.h0
  have h5 := hw.h1
  have hB := o.B1
  have h9 := g.s9
  obtain ⟨d, eL, g1, g2, g3⟩ := hs.h0
  obtain ⟨d1, b1, b2⟩ := hs.h1
  refine fn_of rfl rfl rfl rfl ?_
  refine sp_if1 (p := !rising tab || !(beg G).any fun o => decide (o ∈ tab)) (z := .bool (!rising tab || !(beg G).any fun o => decide (o ∈ tab))) (u1 := []) ?_ rfl ?_ ?_
  · apply ev_to
    · and_intros
      · exact (sset_t3 (by omega)).2
      · exact o_neL _ _ (by decide)
      and_intros
      · apply ev_filterB (α := Int) (enc := enc) (xs := G.begins) (f := fun _ => .int 1) (p := fun p => decide ((⟨0, 0, p⟩ : I3) ∈ tab))
        · and_intros
        · exact b2.src
        · have := g.b3; omega
        · intro p hp
          refine ⟨rfl, ?_, fun _ => ?_⟩
          · and_intros
            exact o_inT (⟨0, 0, p⟩ : I3) tab (by decide)
          · and_intros
      and_intros
      exact o_eqL1 _
    · rw [rising_ss, filter_empty]
      unfold beg
      rw [List.any_map]
      congr 2
      rw [List.not_any_eq_all_not]; rfl
  · intro h
    and_intros
    unfold isHold
    rw [Bool.or_eq_true, Bool.not_eq_true', Bool.not_eq_true'] at h
    rcases h with h | h <;> rw [h] <;> simp
  intro h
  rw [Bool.or_eq_false_iff, Bool.not_eq_false', Bool.not_eq_false'] at h
  have hway : isHold N G tab = tab.all (fun x => isStand N G x && isKept N G tab x) := by
    unfold isHold
    rw [h.1, h.2, Bool.and_true, Bool.and_true]
    exact (all_and _ _ tab).symm
  apply sp_nil1
  apply sp_for1 (α := I3) (enc := enc) (xs := tab) (fun r ρ u => u = [] ∧ ∃ (j3 j4 j5 j6 j7 : Option D), ρ = [some w, some s, some (.tuple (tab.map enc)), j3, j4, j5, j6, j7] ∧ isHold N G tab = r.all (fun x => isStand N G x && isKept N G tab x) ∧ ∀ x ∈ r, x ∈ tab)
  · and_intros
  · exact rfl
  · exact ⟨rfl, _, _, _, _, _, rfl, hway, fun x h => h⟩
  · rintro x r ρ u ⟨rfl, j3, j4, j5, j6, j7, rfl, hx, hm⟩
    obtain ⟨r1, r2⟩ := hr x (hm x List.mem_cons_self)
    obtain ⟨k1, k2⟩ := g3 x.c r2.1 r2.2
    have k2 := k2.inn x.b
    have hgo := G.len_go (p := x.c)
    rw [List.all_cons] at hx
    refine ⟨_, rfl, ?_⟩
    have eb : isStand N G x = !(!(decide (0 ≤ x.a) && decide (x.a < N.B)) || (decide (x.b = N.H - 1) || decide (x.b ∈ G.lot x.c))) := by
      unfold isStand
      have q1 : decide (0 ≤ x.c ∧ x.c < (G.lots.length : Int)) = true := decide_eq_true r2
      have q3 : decide (0 ≤ x.b ∧ x.b < N.H - 1) = !decide (x.b = N.H - 1) := by
        by_cases e : x.b = N.H - 1
        · rw [decide_eq_true e, decide_eq_false (by omega)]; rfl
        · rw [decide_eq_false e, decide_eq_true (by omega)]; rfl
      rw [q1, q3, Bool.decide_and]
      generalize decide (0 ≤ x.a) = a1
      generalize decide (x.a < N.B) = a2
      generalize decide (x.b = N.H - 1) = a3
      generalize decide (x.b ∈ G.lot x.c) = a4
      cases a1 <;> cases a2 <;> cases a3 <;> cases a4 <;> rfl
    and_intros
    · rename_i hc
      rw [hx, eb, hc]; rfl
    intro hc
    rw [eb, hc] at hx
    and_intros
    apply sp_for1 (α := Int) (enc := enc) (xs := N.go x.a x.b) (fun r2 ρ u => u = [] ∧ ∃ (j6 j7 : Option D), ρ = [some w, some s, some (.tuple (tab.map enc)), some (enc x.a), some (enc x.b), some (enc x.c), j6, j7] ∧ isHold N G tab = (r2.all (fun to => (G.go x.c).any fun q => decide (to ∈ G.lot q) || decide ((⟨N.up x.a, to, q⟩ : I3) ∈ tab)) && r.all (fun x => isStand N G x && isKept N G tab x)))
    · and_intros
      exact q_law_goes hw (by omega) (by have := o.L16; omega)
    · exact rfl
    · exact ⟨rfl, _, _, rfl, by rw [hx]; rfl⟩
    · rintro to r2 ρ u ⟨rfl, j6, j7, rfl, hx⟩
      rw [List.all_cons] at hx
      refine ⟨_, rfl, ?_⟩
      have c : Ev (FE (n + 1)) (.op .eq (.cl [7] .seq (.call 41 .pure (.cons (.var 1) (.cons (.var 5) .nil))) (.nm 7) (.cons (.or (.op .inn (.var 6) (.ix (.ix (.var 1) (.int 0)) (.var 7))) (.op .inn (.tup (.cons (.op .mod (.blt .int (.cons (.op .add (.var 3) (.int 1)) .nil)) (.ix (.var 0) (.int 1))) (.cons (.var 6) (.cons (.var 7) .nil)))) (.var 2))) .nil) (.em (.int 1))) (.lst .nil)) [some w, some s, some (.tuple (tab.map enc)), some (enc x.a), some (enc x.b), some (enc x.c), some (.int to), j7] [] (.bool (!((G.go x.c).any fun q => decide (to ∈ G.lot q) || decide ((⟨N.up x.a, to, q⟩ : I3) ∈ tab)))) [] := by
        apply ev_to
        · apply ev_op
          · apply ev_filterB (α := Int) (enc := enc) (xs := G.go x.c) (f := fun _ => .int 1) (p := fun q => decide (to ∈ G.lot q) || decide ((⟨N.up x.a, to, q⟩ : I3) ∈ tab))
            · and_intros
              exact q_law_steps hs (by omega)
            · exact rfl
            · omega
            · intro q hq
              have hf := g.sp _ (Guard.mem_go.mp hq)
              obtain ⟨f1, f2⟩ := g3 q hf.2.2.1 hf.2.2.2
              have f2 := f2.inn to
              refine ⟨rfl, ?_, fun _ => ?_⟩
              · and_intros
                exact o_inT (⟨N.up x.a, to, q⟩ : I3) tab (by decide)
              · and_intros
          · and_intros
          · exact o_eqL1 _
        · rw [filter_empty, List.not_any_eq_all_not]
      refine sp_if1 c rfl ?_ ?_
      · intro h
        rw [Bool.not_eq_true'] at h
        and_intros
        rw [hx, h]; rfl
      · intro h
        rw [Bool.not_eq_false'] at h
        rw [h] at hx
        and_intros
        exact ⟨rfl, _, _, rfl, by simpa using hx⟩
    · rintro ρ u ⟨rfl, j6, j7, rfl, hx⟩
      and_intros
      exact ⟨rfl, _, _, _, _, _, rfl, by simpa using hx, fun y hy => hm y (List.mem_cons_of_mem _ hy)⟩
  · rintro ρ u ⟨rfl, j3, j4, j5, j6, j7, rfl, hx, hm⟩
    and_intros
    rw [hx]; rfl
end Pg

end
section
set_option Elab.async false
set_option linter.all false
set_option autoImplicit false
set_option maxRecDepth 100000
set_option maxHeartbeats 1000000
namespace DN
open PySem DL
mutual
/-- no texts, no dicts, not too deep, not too long -/
def okN : Nat → D → Bool
  | 0, .list _ => false
  | 0, .tuple _ => false
  | n + 1, .list ds => decide (ds.length ≤ 16777216) && okNL n ds
  | n + 1, .tuple ds => decide (ds.length ≤ 16777216) && okNL n ds
  | _, .dict _ => false
  | _, .str _ => false
  | _, _ => true
def okNL : Nat → List D → Bool
  | _, [] => true
  | n, d :: ds => okN n d && okNL n ds
end
theorem okNL_mem {n : Nat} : ∀ {ds : List D}, okNL n ds = true → ∀ d ∈ ds, okN n d = true
  | d :: ds, h, x, hx => by
    simp only [okNL, Bool.and_eq_true] at h
    rcases List.mem_cons.mp hx with rfl | hx
    · exact h.1
    · exact okNL_mem h.2 x hx
theorem okN_tup {n : Nat} {ds : List D} (h : okN n (.tuple ds) = true) : ∃ k, n = k + 1 ∧ ds.length ≤ 16777216 ∧ okNL k ds = true := by
  cases n with
  | zero => simp [okN] at h
  | succ k => simp only [okN, Bool.and_eq_true, decide_eq_true_eq] at h; exact ⟨k, rfl, h⟩
theorem okN_lst {n : Nat} {ds : List D} (h : okN n (.list ds) = true) : ∃ k, n = k + 1 ∧ ds.length ≤ 16777216 ∧ okNL k ds = true := by
  cases n with
  | zero => simp [okN] at h
  | succ k => simp only [okN, Bool.and_eq_true, decide_eq_true_eq] at h; exact ⟨k, rfl, h⟩
open Classical in
/-- the same, lists as lists, tuples as tuples -/
noncomputable def sameD (g d : D) : Bool := decide (g = d)
theorem sameD_iff {g d : D} : sameD g d = true ↔ g = d := by unfold sameD; simp
theorem zipWith_zip (gs ds : List D) : List.zipWith (fun x y => PyData.tuple [x, y]) gs ds = (gs.zip ds).map fun p => PyData.tuple [p.1, p.2] := by
  induction gs generalizing ds with
  | nil => simp
  | cons g gs ih =>
    cases ds with
    | nil => simp
    | cons d ds => rw [List.zipWith_cons_cons, ih, List.zip_cons_cons, List.map_cons]
theorem same_zip : ∀ (gs ds : List D), (decide ((gs.length : Int) = ds.length) && (gs.zip ds).all fun p => sameD p.1 p.2) = true ↔ gs = ds
  | [], [] => by simp
  | [], d :: ds => by simp; omega
  | g :: gs, [] => by simp; omega
  | g :: gs, d :: ds => by
    have ih := same_zip gs ds
    rw [Bool.and_eq_true, decide_eq_true_iff] at ih ⊢
    rw [List.zip_cons_cons, List.all_cons, Bool.and_eq_true, sameD_iff, List.cons.injEq, ← ih]
    simp only [List.length_cons]
    constructor
    · rintro ⟨h1, h2, h3⟩; exact ⟨h2, by omega, h3⟩
    · rintro ⟨h1, h2, h3⟩; exact ⟨by omega, h1, h3⟩
theorem sameD_ll (gs ds : List D) : sameD (.list gs) (.list ds) = (decide ((gs.length : Int) = ds.length) && (gs.zip ds).all fun p => sameD p.1 p.2) := by
  rw [Bool.eq_iff_iff, same_zip, sameD_iff]; simp
theorem sameD_tt (gs ds : List D) : sameD (.tuple gs) (.tuple ds) = (decide ((gs.length : Int) = ds.length) && (gs.zip ds).all fun p => sameD p.1 p.2) := by
  rw [Bool.eq_iff_iff, same_zip, sameD_iff]; simp
theorem sameD_ne {g d : D} (h : g ≠ d) : sameD g d = false := by
  rw [Bool.eq_false_iff]; intro e; exact h (sameD_iff.mp e)
theorem sameD_self (d : D) : sameD d d = true := sameD_iff.mpr rfl
theorem sameD_int (a b : Int) : sameD (.int a) (.int b) = decide (a = b) := by rw [Bool.eq_iff_iff, sameD_iff]; simp
theorem sameD_bool (a b : Bool) : sameD (.bool a) (.bool b) = decide (a = b) := by rw [Bool.eq_iff_iff, sameD_iff]; simp
def isB : D → Bool
  | .bool _ => true
  | _ => false
def isI : D → Bool
  | .bool _ => true
  | .int _ => true
  | _ => false
def isL : D → Bool
  | .list _ => true
  | _ => false
def isT : D → Bool
  | .tuple _ => true
  | _ => false
theorem dty_okN {k : Nat} {x : D} (h : okN k x = true) : isiD [.bool] x = some (.bool (isB x)) ∧ isiD [.int] x = some (.bool (isI x)) ∧ isiD [.str] x = some (.bool false) ∧ isiD [.list] x = some (.bool (isL x)) ∧ isiD [.tuple] x = some (.bool (isT x)) ∧ isiD [.list, .tuple] x = some (.bool (isL x || isT x)) := by
  cases x with
  | str x => cases k <;> simp [okN] at h
  | dict x => cases k <;> simp [okN] at h
  | _ => exact ⟨rfl, rfl, rfl, rfl, rfl, rfl⟩
theorem o_eqB (a b : Bool) : o2 .eq (.bool a) (.bool b) = some (.bool (decide (a = b))) := o_eq (α := Bool) a b (by decide)
theorem o_neB (a b : Bool) : o2 .ne (.bool a) (.bool b) = some (.bool (!decide (a = b))) := o_ne (α := Bool) a b (by decide)
end DN
namespace Pg
open PySem DL DN
variable {n : Nat} {w s : D} {N : Net} {G : Guard}
theorem same_atom {k : Nat} {g d : D} (hg : okN k g = true) (hd : okN k d = true) (hs : (isL d || isT d) = false) : FE (n + 1) ix__law_same [g, d] = rt (.bool (sameD g d)) := by
  obtain ⟨g1, g2, g3, g4, g5, g6⟩ := dty_okN hg
  obtain ⟨d1, d2, d3, d4, d5, d6⟩ := dty_okN hd
  rw [hs] at d6
  refine fn_of rfl rfl rfl rfl ?_
  refine sp_if1 (ev_isi (ev_var rfl) d6) rfl (fun h => by cases h) fun _ => ?_
  apply sp_nil1
  refine sp_if1 (ev_or (ev_op (ev_var rfl) ev_non (o_isN d)) fun _ => ev_or (ev_op (ev_var rfl) ev_non (o_isN g)) fun _ => ev_or (ev_isi (ev_var rfl) d1) fun _ => ev_isi (ev_var rfl) g1) rfl (fun h => ?_) fun h => ?_
  · apply sp_assoc
    refine sp_ret1 (ev_and (ev_op (ev_op (ev_var rfl) ev_non (o_isN d)) (ev_op (ev_var rfl) ev_non (o_isN g)) (o_eqB _ _)) fun h1 => ev_and (q := sameD g d) (ev_op (ev_isi (ev_var rfl) g1) (ev_isi (ev_var rfl) d1) (o_eqB _ _)) fun h2 => ev_op (ev_var rfl) (ev_var rfl) ?_) ?_
    · rw [decide_eq_true_iff] at h1 h2
      cases d <;> cases g <;> simp [isN, isB] at h h1 h2
      · rw [sameD_self]; rfl
      · rw [sameD_bool]; exact o_eqB _ _
    · congr 1
      by_cases e : g = d
      · rw [e, sameD_self]; simp
      · rw [sameD_ne e]; simp
  · rw [Bool.or_eq_false_iff, Bool.or_eq_false_iff, Bool.or_eq_false_iff] at h
    apply sp_nil1
    refine sp_if1 (ev_isi (ev_var rfl) d3) rfl (fun h => by cases h) fun _ => ?_
    apply sp_nil1
    refine sp_ret1 (ev_and (q := sameD g d) (ev_isi (ev_var rfl) g2) fun h1 => ev_op (ev_var rfl) (ev_var rfl) ?_) ?_
    · cases d <;> simp [isN, isB, isL, isT] at h hs
      · cases g <;> simp [isN, isB, isI] at h h1
        rw [sameD_int]; exact o_eqI _ _
      · cases k <;> simp [okN] at hd
      · cases k <;> simp [okN] at hd
    · congr 1
      by_cases e : g = d
      · subst e
        cases g <;> simp [isN, isB, isL, isT] at h hs
        · rw [sameD_self]; rfl
        · cases k <;> simp [okN] at hd
        · cases k <;> simp [okN] at hd
      · rw [sameD_ne e]; simp
theorem q_same : ∀ (k : Nat) (g d : D), okN k g = true → okN k d = true → ∀ n, FE (n + k + 1) ix__law_same [g, d] = rt (.bool (sameD g d)) := by
  intro k
  induction k with
  | zero =>
    intro g d hg hd n
    refine same_atom hg hd ?_
    cases d <;> first | rfl | (simp [okN] at hd; done)
  | succ k ih =>
    intro g d hg hd n
    by_cases hs : (isL d || isT d) = false
    · exact same_atom hg hd hs
    obtain ⟨g1, g2, g3, g4, g5, g6⟩ := dty_okN hg
    obtain ⟨d1, d2, d3, d4, d5, d6⟩ := dty_okN hd
    rw [Bool.not_eq_false] at hs
    rw [hs] at d6
    refine fn_of rfl rfl rfl rfl ?_
    refine sp_if1 (ev_isi (ev_var rfl) d6) rfl (fun _ => ?_) (fun h => by cases h)
    apply sp_assoc
    refine sp_if1 (ev_or (ev_op (ev_isi (ev_var rfl) g4) (ev_isi (ev_var rfl) d4) (o_neB _ _)) fun _ => ev_op (ev_isi (ev_var rfl) g5) (ev_isi (ev_var rfl) d5) (o_neB _ _)) rfl (fun h => ?_) fun h => ?_
    · apply sp_assoc
      refine sp_ret1 ev_bl ?_
      congr 1
      rw [sameD_ne]
      rintro rfl
      simp at h
    · apply sp_nil1
      apply sp_assoc
      have hz : ∀ (gs ds : List D), gs.length ≤ 16777216 → okNL k gs = true → okNL k ds = true → ∀ {x y : D}, srcD .zip (.list [x, y]) = some ((gs.zip ds).map fun p => PyData.tuple [p.1, p.2]) → Ev (FE (n + (k + 1))) (.cl [2, 3] .zip (.cons (.var 0) (.cons (.var 1) .nil)) (.cons (.nm 2) (.cons (.nm 3) .nil)) .nil (.em (.call 36 .pure (.cons (.var 2) (.cons (.var 3) .nil))))) [some x, some y, none, none] [] (.list ((gs.zip ds).map fun p => .bool (sameD p.1 p.2))) [] := fun gs ds hl h1 h2 x y hsrc => by
        apply ev_map (α := D × D) (enc := fun p => PyData.tuple [p.1, p.2]) (xs := gs.zip ds)
        · and_intros
        · exact hsrc
        · rw [List.length_zip]; omega
        · intro p hp
          have hp := List.of_mem_zip (a := p.1) (b := p.2) hp
          refine ⟨rfl, ?_⟩
          and_intros
          exact ih p.1 p.2 (okNL_mem h1 p.1 hp.1) (okNL_mem h2 p.2 hp.2) n
      cases d with
      | list ds =>
        cases g with
        | list gs =>
          obtain ⟨_, e1, l1, m1⟩ := okN_lst hg
          obtain ⟨_, e2, l2, m2⟩ := okN_lst hd
          cases e1; cases e2
          refine sp_ret1 (ev_and (ev_op (ev_blt (ev_cons (ev_var rfl) ev_nil) rfl) (ev_blt (ev_cons (ev_var rfl) ev_nil) rfl) (o_eqI _ _)) fun _ => ev_blt (ev_cons (hz gs ds l1 m1 m2 (by rw [← zipWith_zip]; rfl)) ev_nil) (f_all _ _)) ?_
          rw [sameD_ll]
        | _ => simp [isL, isT] at h
      | tuple ds =>
        cases g with
        | tuple gs =>
          obtain ⟨_, e1, l1, m1⟩ := okN_tup hg
          obtain ⟨_, e2, l2, m2⟩ := okN_tup hd
          cases e1; cases e2
          refine sp_ret1 (ev_and (ev_op (ev_blt (ev_cons (ev_var rfl) ev_nil) rfl) (ev_blt (ev_cons (ev_var rfl) ev_nil) rfl) (o_eqI _ _)) fun _ => ev_blt (ev_cons (hz gs ds l1 m1 m2 (by rw [← zipWith_zip]; rfl)) ev_nil) (f_all _ _)) ?_
          rw [sameD_tt]
        | _ => simp [isL, isT] at h
      | _ => simp [isL, isT] at hs
end Pg

end
section
set_option Elab.async false
set_option linter.all false
set_option autoImplicit false
set_option maxRecDepth 100000
set_option maxHeartbeats 400000
/-! what is won, plainly -/
namespace DN
open PySem DL
def stp (N : Net) (s : I3) (t q : Int) : I3 := ⟨N.up s.a, t, q⟩
def Row1 (N : Net) (G : Guard) (W : Won) (s : I3) (t m : Int) : Prop := s ∈ stands N G ∧ t ∈ N.go s.a s.b ∧ (∀ q ∈ G.go s.c, t ∉ G.lot q) ∧ 1 ≤ m ∧ ((t = N.H - 1 ∧ m = 1) ∨ (t ≠ N.H - 1 ∧ (∀ q ∈ G.go s.c, ∃ v, (stp N s t q, v) ∈ W ∧ v.2 < m) ∧ ∃ q ∈ G.go s.c, ∃ v, (stp N s t q, v) ∈ W ∧ v.2 + 1 = m))
theorem best_mem {N : Net} {G : Guard} {W : Won} {s : I3} {p : Int × Int} (h : best N G W s = some p) : p ∈ bestL N G W s := by
  unfold best at h
  cases e : bestL N G W s with
  | nil => rw [e] at h; cases h
  | cons x xs => rw [e] at h; cases h; exact minE_mem x xs
theorem Row1.mono {N : Net} {G : Guard} {W W' : Won} {s : I3} {t m : Int} (h : Row1 N G W s t m) (hw : ∀ x ∈ W, x ∈ W') : Row1 N G W' s t m := by
  obtain ⟨h1, h2, h3, h4, h5⟩ := h
  refine ⟨h1, h2, h3, h4, h5.imp id fun ⟨a, b, q, hq, v, hv, e⟩ => ⟨a, fun q hq => ?_, q, hq, v, hw _ hv, e⟩⟩
  obtain ⟨v, hv, hl⟩ := b q hq
  exact ⟨v, hw _ hv, hl⟩
theorem itW_row {N : Net} {G : Guard} (g : G.Ok N.H) : ∀ k (s : I3) (t m : Int), (s, (t, m)) ∈ itW N G k → Row1 N G (itW N G k) s t m
  | 0, s, t, m, h => by cases h
  | k + 1, s, t, m, h => by
    have hsub : ∀ x ∈ itW N G k, x ∈ itW N G (k + 1) := fun x hx => List.mem_append_left _ hx
    rcases List.mem_append.mp h with h | h
    · exact (itW_row g k s t m h).mono hsub
    · obtain ⟨h1, h2, h3⟩ := mem_rowsW.mp h
      have h4 := best_mem h3
      unfold bestL at h4
      obtain ⟨t', h5, h6⟩ := List.mem_map.mp h4
      cases h6
      rw [List.mem_filter] at h5
      obtain ⟨h5, h7⟩ := h5
      unfold okMove at h7
      rw [Bool.and_eq_true, Bool.or_eq_true, Bool.not_eq_true', List.any_eq_false, List.all_eq_true] at h7
      obtain ⟨h7, h8⟩ := h7
      have h9 : ∀ q ∈ G.go s.c, t ∉ G.lot q := fun q hq z => h7 q hq (decide_eq_true z)
      have hc := (mem_stands.mp h1).2.2.1
      have hne := g.s1 s.c hc.1 hc.2
      by_cases ht : t = N.H - 1
      · have e : farOf N G (itW N G k) s t = 0 := by unfold farOf; rw [if_pos ht]
        rw [e]
        exact ⟨h1, h5, h9, by omega, .inl ⟨ht, rfl⟩⟩
      · have h8 := h8.resolve_left fun z => ht (of_decide_eq_true z)
        have hv : ∀ q ∈ G.go s.c, ∃ v, look (stp N s t q) (itW N G k) = some v := fun q hq => by
          have := h8 q hq
          rw [← look_isSome] at this
          exact Option.isSome_iff_exists.mp this
        have e : farOf N G (itW N G k) s t = mxI ((G.go s.c).map fun q => ((look (stp N s t q) (itW N G k)).getD (0, 0)).2) := by unfold farOf; rw [if_neg ht]; rfl
        have hle : ∀ q ∈ G.go s.c, ∃ v, (stp N s t q, v) ∈ itW N G (k + 1) ∧ v.2 < farOf N G (itW N G k) s t + 1 := fun q hq => by
          obtain ⟨v, hv⟩ := hv q hq
          refine ⟨v, hsub _ (look_mem hv), ?_⟩
          have := mxI_le (xs := (G.go s.c).map fun q => ((look (stp N s t q) (itW N G k)).getD (0, 0)).2) (List.mem_map.mpr ⟨q, hq, rfl⟩)
          rw [← e, hv] at this
          show v.2 < _
          have e2 : ((some v).getD (0, 0)).2 = v.2 := rfl
          omega
        obtain ⟨q, hq, hm⟩ := List.mem_map.mp (mxI_mem (xs := (G.go s.c).map fun q => ((look (stp N s t q) (itW N G k)).getD (0, 0)).2) fun z => hne (List.map_eq_nil_iff.mp z))
        obtain ⟨v, hv1⟩ := hv q hq
        have hm : v.2 = farOf N G (itW N G k) s t := by rw [e, ← hm, hv1]; rfl
        have hpos : 1 ≤ v.2 := by
          have := (itW_row g k _ v.1 v.2 (look_mem hv1)).2.2.2.1
          exact this
        exact ⟨h1, h5, h9, by omega, .inr ⟨ht, hle, q, hq, v, hsub _ (look_mem hv1), by omega⟩⟩
/-- the table of all ways -/
structure WayOk (N : Net) (G : Guard) (tab : Won) : Prop where
  nd : (tab.map (·.1)).Nodup
  len : tab.length ≤ 36
  row : ∀ s t m, (s, (t, m)) ∈ tab → Row1 N G tab s t m
theorem won_ok {N : Net} {G : Guard} (o : N.Ok) (g : G.Ok N.H) : WayOk N G (wonF N G) := by
  obtain ⟨k, e, _⟩ := Pg.wonF_ok o g
  have := Pg.wonF_len o g
  refine ⟨by rw [e]; exact (itW_keys N G k).1, this, fun s t m h => ?_⟩
  rw [e] at h ⊢
  exact itW_row g k s t m h
theorem way_ok {N : Net} {G : Guard} (o : N.Ok) (g : G.Ok N.H) : WayOk N G (wayL N G) := by
  have h := won_ok o g
  have hp := srt_perm (wonF N G)
  have hm : ∀ x, x ∈ wayL N G ↔ x ∈ wonF N G := fun x => mem_srt
  refine ⟨(hp.map _).nodup_iff.mpr h.nd, by rw [wayL, hp.length_eq]; exact h.len, fun s t m hx => (h.row s t m ((hm _).mp hx)).mono fun x hx => (hm x).mpr hx⟩
theorem N_go_mod {N : Net} {t h : Int} : N.go (t % N.B) h = N.go t h := by
  unfold Net.go
  rw [Int.emod_emod_of_dvd _ (Int.dvd_refl _)]
theorem up_mod {N : Net} (t : Int) : N.up (t % N.B) = (t + 1) % N.B := by
  unfold Net.up
  rw [Int.add_emod, Int.emod_emod_of_dvd _ (Int.dvd_refl _), ← Int.add_emod]
/-- a walk: begun rightly, by steps -/
def WalkV (G : Guard) (v : List Int) : Prop := (∃ p, v[0]? = some p ∧ p ∈ G.begins) ∧ ∀ i, i + 1 < v.length → (v[i + 1]?).getD 0 ∈ G.go ((v[i]?).getD 0)
/-- where a letter is led -/
theorem led_inv {N : Net} {G : Guard} {tab : Won} {T : Int} (o : N.Ok) (g : G.Ok N.H) (w : WayOk N G tab) (hb : ∀ p ∈ G.begins, ∃ v, ((⟨0, 0, p⟩ : I3), v) ∈ tab ∧ v.2 ≤ T) {v : List Int} (hv : WalkV G v) : ∀ t : Nat, t < v.length → (0 ≤ hs N tab v t ∧ hs N tab v t < N.H) ∧ hs N tab v t ∉ G.lot ((v[t]?).getD 0) ∧ (hs N tab v t = N.H - 1 ∨ ∃ val, ((⟨(t : Int) % N.B, hs N tab v t, (v[t]?).getD 0⟩ : I3), val) ∈ tab ∧ val.2 + t ≤ T)
  | 0, ht => by
    obtain ⟨⟨p, h1, h2⟩, _⟩ := hv
    obtain ⟨val, h3, h4⟩ := hb p h2
    have := o.H3
    have hr := (w.row _ val.1 val.2 h3).1
    refine ⟨⟨Int.le_refl _, ?_⟩, ?_, .inr ⟨val, ?_, by simpa using h4⟩⟩
    · show (0 : Int) < N.H; omega
    · rw [h1]; exact (mem_stands.mp hr).2.2.2
    · rw [h1]
      show ((⟨(0 : Int) % N.B, 0, p⟩ : I3), val) ∈ tab
      rw [Int.zero_emod]; exact h3
  | t + 1, ht => by
    obtain ⟨h1, h2, h3⟩ := led_inv o g w hb hv t (by omega)
    have hgo := hv.2 t ht
    by_cases e : hs N tab v t = N.H - 1
    · rw [hs_stop e]
      refine ⟨h1, ?_, .inl e⟩
      have hsp := g.sp _ (Guard.mem_go.mp hgo)
      intro hm
      have := (g.lot _ (Guard.lot_mem hsp.2.2.1 hsp.2.2.2)).2.2 _ hm
      omega
    · obtain ⟨val, h4, h5⟩ := h3.resolve_left e
      obtain ⟨r1, r2, r3, r4, r5⟩ := w.row _ val.1 val.2 h4
      have hl : look (⟨(t : Int) % N.B, hs N tab v t, (v[t]?).getD 0⟩ : I3) tab = some val := look_of w.nd h4
      have e2 : hs N tab v (t + 1) = val.1 := by rw [hs_go e, hl]; rfl
      rw [e2]
      have hr := Net.go_range o r2 h1.1 h1.2
      refine ⟨hr, r3 _ hgo, ?_⟩
      rcases r5 with ⟨r5, _⟩ | ⟨_, r6, _⟩
      · exact .inl r5
      · obtain ⟨v2, h6, h7⟩ := r6 _ hgo
        refine .inr ⟨v2, ?_, by push_cast; omega⟩
        unfold stp at h6
        rw [show ((t + 1 : Nat) : Int) = (t : Int) + 1 by omega, ← up_mod]
        exact h6
theorem led_some {N : Net} {G : Guard} {tab : Won} {T : Int} (o : N.Ok) (g : G.Ok N.H) (w : WayOk N G tab) (hb : ∀ p ∈ G.begins, ∃ v, ((⟨0, 0, p⟩ : I3), v) ∈ tab ∧ v.2 ≤ T) {v : List Int} (hv : WalkV G v) (t : Nat) (ht : t < v.length) (hne : hs N tab v t ≠ N.H - 1) : ∃ val, look (⟨(t : Int) % N.B, hs N tab v t, (v[t]?).getD 0⟩ : I3) tab = some val ∧ hs N tab v (t + 1) = val.1 ∧ val.1 ∈ N.go (t : Int) (hs N tab v t) := by
  obtain ⟨h1, h2, h3⟩ := led_inv o g w hb hv t ht
  obtain ⟨val, h4, h5⟩ := h3.resolve_left hne
  have hl : look (⟨(t : Int) % N.B, hs N tab v t, (v[t]?).getD 0⟩ : I3) tab = some val := look_of w.nd h4
  have hr := (w.row _ val.1 val.2 h4).2.1
  rw [N_go_mod] at hr
  exact ⟨val, hl, by rw [hs_go hne, hl]; rfl, hr⟩
theorem ledR_get {N : Net} {tab : Won} {v : List Int} : ∀ t i, i < (ledR N tab v t).length → (ledR N tab v t)[i]? = some (hs N tab v i) ∧ (i + 1 < (ledR N tab v t).length → hs N tab v i ≠ N.H - 1)
  | 0, i, hi => by
    have hi : i < 1 := hi
    have e : i = 0 := by omega
    subst e
    exact ⟨rfl, fun z => absurd (show 0 + 1 < 1 from z) (by omega)⟩
  | t + 1, i, hi => by
    by_cases e : hs N tab v t = N.H - 1
    · rw [ledR_stop e] at hi ⊢
      exact ledR_get t i hi
    · have hl := ledR_full t e
      rw [ledR_go e] at hi ⊢
      rw [List.length_append, hl] at hi
      rw [List.length_append, hl]
      have hi : i < t + 1 + 1 := hi
      by_cases q : i < t + 1
      · rw [List.getElem?_append_left (by omega)]
        refine ⟨(ledR_get t i (by omega)).1, fun z => ?_⟩
        by_cases q2 : i + 1 < t + 1
        · exact (ledR_get t i (by omega)).2 (by omega)
        · have : i = t := by omega
          rw [this]; exact e
      · have : i = t + 1 := by omega
        subst this
        rw [List.getElem?_append_right (by omega), hl, Nat.sub_self]
        exact ⟨rfl, fun z => by have z : t + 1 + 1 < t + 1 + 1 := z; omega⟩
where
  ledR_full : ∀ t, hs N tab v t ≠ N.H - 1 → (ledR N tab v t).length = t + 1
  | 0, _ => rfl
  | t + 1, h => by
    by_cases e : hs N tab v t = N.H - 1
    · rw [hs_stop e] at h; exact absurd e h
    · rw [ledR_go e, List.length_append, ledR_full t e]; rfl
end DN

end
section
set_option Elab.async false
set_option linter.all false
set_option autoImplicit false
set_option maxRecDepth 100000
set_option maxHeartbeats 400000
namespace DN
open PySem DL
section
variable {N : Net} {G : Guard} {tab : Won} {T : Int} {v : List Int}
theorem mem_heldAt {p : List Int} {t : Nat} {h : Int} : h ∈ heldAt G [p] t ↔ h ∈ G.lot ((p[t]?).getD 0) := by
  unfold heldAt
  rw [mem_ss]; simp
theorem held_at {p : List Int} {n i : Nat} (hi : i < n) : ((lotsHeld' G [p] n)[i]?).getD [] = heldAt G [p] i := by
  unfold lotsHeld'
  rw [List.getElem?_map, List.getElem?_range hi]; rfl
theorem held_len {p : List (List Int)} {n : Nat} : (lotsHeld' G p n).length = n := by unfold lotsHeld'; simp
theorem take_at {v : List Int} {n i : Nat} (hi : i < n) : (v.take n)[i]? = v[i]? := by rw [List.getElem?_take, if_pos hi]
theorem led_past (o : N.Ok) (g : G.Ok N.H) (w : WayOk N G tab) (hb : ∀ p ∈ G.begins, ∃ v, ((⟨0, 0, p⟩ : I3), v) ∈ tab ∧ v.2 ≤ T) (hv : WalkV G v) (hl : (ledR N tab v (v.length - 1)).length ≤ v.length) : isPast (lotsHeld' G [v.take (ledR N tab v (v.length - 1)).length] (ledR N tab v (v.length - 1)).length) (ledR N tab v (v.length - 1)) = true := by
  unfold isPast
  rw [Bool.not_eq_true', List.any_eq_false]
  intro p hp hm
  have hm := of_decide_eq_true hm
  obtain ⟨i, hi⟩ := List.mem_iff_getElem?.mp hp
  rw [List.getElem?_zip_eq_some] at hi
  obtain ⟨h1, h2⟩ := hi
  have hlt := (List.getElem?_eq_some_iff.mp h2).1
  have e1 := held_at (G := G) (p := v.take (ledR N tab v (v.length - 1)).length) hlt
  rw [h1] at e1
  have e1 : p.1 = heldAt G [v.take (ledR N tab v (v.length - 1)).length] i := e1
  rw [e1, mem_heldAt, take_at hlt] at hm
  have e2 := (ledR_get (N := N) (tab := tab) (v := v) _ i hlt).1
  rw [e2] at h2
  rw [← Option.some.inj h2] at hm
  exact (led_inv o g w hb hv i (by omega)).2.1 hm
theorem led_route (o : N.Ok) (g : G.Ok N.H) (w : WayOk N G tab) (hb : ∀ p ∈ G.begins, ∃ v, ((⟨0, 0, p⟩ : I3), v) ∈ tab ∧ v.2 ≤ T) (hv : WalkV G v) (h1 : 1 ≤ v.length) (hlast : hs N tab v (v.length - 1) = N.H - 1) : isRoute N (((ledR N tab v (v.length - 1)).length - 1 : Nat) : Int) (ledR N tab v (v.length - 1)) := by
  have hl := ledR_len N tab v (v.length - 1)
  refine ⟨by omega, fun h hh => ?_, ?_, ?_, fun t ht => ?_⟩
  · obtain ⟨i, hi⟩ := List.mem_iff_getElem?.mp hh
    have hlt := (List.getElem?_eq_some_iff.mp hi).1
    have e2 := (ledR_get (N := N) (tab := tab) (v := v) _ i hlt).1
    rw [e2] at hi
    cases hi
    exact (led_inv o g w hb hv i (by omega)).1
  · exact (ledR_get (N := N) (tab := tab) (v := v) _ 0 (by omega)).1
  · rw [ledR_last, hlast]
  · have e1 := ledR_get (N := N) (tab := tab) (v := v) (v.length - 1) t (by omega)
    have e2 := (ledR_get (N := N) (tab := tab) (v := v) (v.length - 1) (t + 1) ht).1
    rw [e1.1, e2]
    obtain ⟨val, _, k2, k3⟩ := led_some o g w hb hv t (by omega) (e1.2 ht)
    show hs N tab v (t + 1) ∈ N.go (t : Int) (hs N tab v t)
    rw [k2]; exact k3
theorem led_ways (o : N.Ok) (g : G.Ok N.H) (w : WayOk N G tab) (hb : ∀ p ∈ G.begins, ∃ v, ((⟨0, 0, p⟩ : I3), v) ∈ tab ∧ v.2 ≤ T) (hv : WalkV G v) (h1 : 1 ≤ v.length) (hlast : hs N tab v (v.length - 1) = N.H - 1) : ∀ k, k < (ledR N tab v (v.length - 1)).length → 0 < wpAt N (lotsHeld' G [v.take (ledR N tab v (v.length - 1)).length] (ledR N tab v (v.length - 1)).length) k (hs N tab v ((ledR N tab v (v.length - 1)).length - 1 - k)) := by
  have hl := ledR_len N tab v (v.length - 1)
  have hlb : hs N tab v ((ledR N tab v (v.length - 1)).length - 1) = N.H - 1 := by
    have e := (ledR_get (N := N) (tab := tab) (v := v) (v.length - 1) ((ledR N tab v (v.length - 1)).length - 1) (by omega)).1
    have e2 := ledR_last N tab v (v.length - 1)
    rw [List.getLast?_eq_getElem?, e, hlast] at e2
    exact Option.some.inj e2
  intro k
  induction k with
  | zero =>
    intro hk
    rw [Nat.sub_zero]
    have hi := led_inv o g w hb hv ((ledR N tab v (v.length - 1)).length - 1) (by omega)
    rw [wpAt_zero hi.1.1 hi.1.2, held_len, held_at (by omega)]
    rw [if_pos ⟨hlb, by rw [mem_heldAt, take_at (by omega)]; exact hi.2.1⟩]
    omega
  | succ k ih =>
    intro hk
    have ih := ih (by omega)
    have hi := led_inv o g w hb hv ((ledR N tab v (v.length - 1)).length - 1 - (k + 1)) (by omega)
    have hne := (ledR_get (N := N) (tab := tab) (v := v) (v.length - 1) ((ledR N tab v (v.length - 1)).length - 1 - (k + 1)) (by omega)).2 (by omega)
    obtain ⟨val, _, k2, k3⟩ := led_some o g w hb hv _ (by omega) hne
    have e : (ledR N tab v (v.length - 1)).length - 1 - (k + 1) + 1 = (ledR N tab v (v.length - 1)).length - 1 - k := by omega
    rw [e] at k2
    rw [wpAt_pos o hi.1.1 hi.1.2, held_len, held_at (by omega), mem_heldAt, take_at (by omega)]
    refine ⟨hi.2.1, val.1, k3, ?_⟩
    rw [← k2]; exact ih
theorem led_least (o : N.Ok) (g : G.Ok N.H) (w : WayOk N G tab) (hb : ∀ p ∈ G.begins, ∃ v, ((⟨0, 0, p⟩ : I3), v) ∈ tab ∧ v.2 ≤ T) (hv : WalkV G v) (h1 : 1 ≤ v.length) (hlast : hs N tab v (v.length - 1) = N.H - 1) : ∃ r, leastP N (lotsHeld' G [v.take (ledR N tab v (v.length - 1)).length] (ledR N tab v (v.length - 1)).length) = some r := by
  have hl := ledR_len N tab v (v.length - 1)
  have h := led_ways o g w hb hv h1 hlast ((ledR N tab v (v.length - 1)).length - 1) (by omega)
  rw [Nat.sub_self] at h
  unfold leastP
  rw [held_len]
  have h : 0 < wpAt N (lotsHeld' G [v.take (ledR N tab v (v.length - 1)).length] (ledR N tab v (v.length - 1)).length) ((ledR N tab v (v.length - 1)).length - 1) 0 := h
  rw [if_neg (by omega)]
  exact ⟨_, rfl⟩
theorem hs_app (q : Int) : ∀ i, i ≤ v.length → hs N tab (v ++ [q]) i = hs N tab v i
  | 0, _ => rfl
  | i + 1, h => by
    have ih := hs_app q i (by omega)
    by_cases e : hs N tab v i = N.H - 1
    · rw [hs_stop e, hs_stop (by rw [ih]; exact e), ih]
    · rw [hs_go e, hs_go (by rw [ih]; exact e), ih, List.getElem?_append_left (by omega)]
theorem walk_app {q : Int} (hv : WalkV G v) (h1 : 1 ≤ v.length) (hq : q ∈ G.go ((v[v.length - 1]?).getD 0)) : WalkV G (v ++ [q]) := by
  obtain ⟨⟨p, a, b⟩, c⟩ := hv
  refine ⟨⟨p, by rw [List.getElem?_append_left (by omega)]; exact a, b⟩, fun i hi => ?_⟩
  rw [List.length_append] at hi
  have hi : i + 1 < v.length + 1 := hi
  by_cases e : i + 1 < v.length
  · rw [List.getElem?_append_left (by omega), List.getElem?_append_left (by omega)]
    exact c i e
  · have e2 : i + 1 = v.length := by omega
    have k1 : (v ++ [q])[i + 1]? = some q := by rw [List.getElem?_append_right (by omega), e2, Nat.sub_self]; rfl
    have k2 : (v ++ [q])[i]? = v[i]? := List.getElem?_append_left (by omega)
    have e3 : i = v.length - 1 := by omega
    rw [k1, k2, e3]; exact hq
/-- a walk against which the letter takes the longest -/
theorem longest (o : N.Ok) (g : G.Ok N.H) (w : WayOk N G tab) {p0 : Int} {v0 : Int × Int} {T : Nat} (hp : p0 ∈ G.begins) (h0 : ((⟨0, 0, p0⟩ : I3), v0) ∈ tab) (hT : v0.2 = T) : ∃ v, v.length = T + 1 ∧ WalkV G v ∧ (ledR N tab v T).length = T + 1 := by
  have hT1 : 1 ≤ T := by have := (w.row _ v0.1 v0.2 h0).2.2.2.1; omega
  have hH := o.H3
  have go : ∀ j : Nat, j < T → ∃ v : List Int, v.length = j + 1 ∧ WalkV G v ∧ hs N tab v j ≠ N.H - 1 ∧ ∃ val, ((⟨(j : Int) % N.B, hs N tab v j, (v[j]?).getD 0⟩ : I3), val) ∈ tab ∧ val.2 + j = T := by
    intro j
    induction j with
    | zero =>
      intro _
      refine ⟨[p0], rfl, ⟨⟨p0, rfl, hp⟩, fun i hi => absurd (show i + 1 < 1 from hi) (by omega)⟩, ?_, v0, ?_, by simpa using hT⟩
      · show (0 : Int) ≠ N.H - 1; omega
      · show ((⟨(0 : Int) % N.B, 0, p0⟩ : I3), v0) ∈ tab
        rw [Int.zero_emod]; exact h0
    | succ j ih =>
      intro hj
      obtain ⟨v, a1, a2, a3, val, a4, a5⟩ := ih (by omega)
      obtain ⟨r1, r2, r3, r4, r5⟩ := w.row _ val.1 val.2 a4
      rcases r5 with ⟨_, r5⟩ | ⟨rne, _, q, hq, v2, h6, h7⟩
      · omega
      · have hl : look (⟨(j : Int) % N.B, hs N tab v j, (v[j]?).getD 0⟩ : I3) tab = some val := look_of w.nd a4
        have e2 : hs N tab v (j + 1) = val.1 := by rw [hs_go a3, hl]; rfl
        have e3 : hs N tab (v ++ [q]) (j + 1) = val.1 := by rw [hs_app q (j + 1) (by omega), e2]
        refine ⟨v ++ [q], by rw [List.length_append, a1]; rfl, walk_app a2 (by omega) (by rw [a1]; exact hq), by rw [e3]; exact rne, v2, ?_, by push_cast; omega⟩
        rw [e3, List.getElem?_append_right (by omega), a1, Nat.sub_self]
        unfold stp at h6
        rw [show ((j + 1 : Nat) : Int) = (j : Int) + 1 by omega, ← up_mod]
        exact h6
  obtain ⟨v, a1, a2, a3, val, a4, a5⟩ := go (T - 1) (by omega)
  have hc := (mem_stands.mp (w.row _ val.1 val.2 a4).1).2.2.1
  obtain ⟨q, hq⟩ := List.exists_mem_of_ne_nil _ (g.s1 _ hc.1 hc.2)
  have a6 : hs N tab (v ++ [q]) (T - 1) ≠ N.H - 1 := by rw [hs_app q _ (by omega)]; exact a3
  refine ⟨v ++ [q], by rw [List.length_append, a1]; simp; omega, walk_app a2 (by omega) (by rw [a1, Nat.add_sub_cancel]; exact hq), ?_⟩
  have e : T = (T - 1) + 1 := by omega
  rw [e, ledR_go a6, List.length_append, ledR_get.ledR_full _ a6]
  simp
end
end DN

end
section
set_option Elab.async false
set_option linter.all false
set_option autoImplicit false
set_option maxRecDepth 100000
set_option maxHeartbeats 1000000
namespace DN
open PySem DL
theorem nodL_map {α : Type} [Enc α] {c : Nat} {xs : List α} (h : ∀ x ∈ xs, nod (enc x) ≤ c) : nodL (xs.map enc) ≤ c * xs.length := by
  induction xs with
  | nil => simp [nodL]
  | cons x xs ih =>
    have h1 := h x List.mem_cons_self
    have h2 := ih fun y hy => h y (List.mem_cons_of_mem _ hy)
    rw [List.map_cons, nodL, List.length_cons, Nat.mul_succ]
    omega
theorem nod_tup (ds : List D) : nod (.tuple ds) = nodL ds + 1 := by simp [nod]
theorem nod_net {N : Net} (o : N.Ok) : nod N.d ≤ 100 := by
  have h := nodL_map (c := 1) (xs := N.L) fun x _ => (by show nod (.tuple [.int x.a, .int x.b, .int x.c]) ≤ 1; simp [nod, nodL])
  have := o.L16
  show nod (.tuple [.int N.H, .int N.B, .tuple (N.L.map enc)]) ≤ 100
  simp only [nod_tup, nodL]
  simp [nod]; omega
theorem nod_ints (l : List Int) : nod (enc l) = 1 := by
  show nod (.tuple (l.map enc)) = 1
  rw [nod_tup]
  have := nodL_map (c := 0) (xs := l) fun x _ => (by show nod (.int x) ≤ 0; simp [nod])
  omega
theorem nod_guard {G : Guard} {H : Int} (g : G.Ok H) : nod G.d ≤ 100 := by
  have h1 := nodL_map (c := 1) (xs := G.lots) fun x _ => (by rw [nod_ints]; exact Nat.le_refl _)
  have h2 := nod_ints G.begins
  have h3 := nodL_map (c := 1) (xs := G.steps) fun x _ => (by show nod (.tuple [.int x.1, .int x.2]) ≤ 1; simp [nod, nodL])
  have := g.l3; have := g.s9
  show nod (.tuple [.tuple (G.lots.map enc), enc G.begins, .tuple (G.steps.map enc)]) ≤ 100
  simp only [nod_tup, nodL]
  omega
theorem nod_way {tab : Won} (h : tab.length ≤ 36) : nod (.tuple (tab.map enc)) ≤ 200 := by
  have h1 := nodL_map (c := 3) (xs := tab) fun x _ => (by show nod (.tuple [.tuple [.int x.1.a, .int x.1.b, .int x.1.c], .tuple [.int x.2.1, .int x.2.2]]) ≤ 3; simp [nod, nodL])
  rw [nod_tup]; omega
section
variable {N : Net} {G : Guard}
theorem mem_beg {x : I3} : x ∈ beg G ↔ ∃ p ∈ G.begins, x = ⟨0, 0, p⟩ := by
  unfold beg
  rw [List.mem_map]
  exact ⟨fun ⟨p, h, e⟩ => ⟨p, h, e.symm⟩, fun ⟨p, h, e⟩ => ⟨p, h, e.symm⟩⟩
theorem beg_stand (o : N.Ok) (g : G.Ok N.H) {x : I3} (h : x ∈ beg G) : x ∈ stands N G := by
  obtain ⟨p, hp, rfl⟩ := mem_beg.mp h
  have hp := g.bp p hp
  have := o.B1; have := o.H3
  refine mem_stands.mpr ⟨⟨Int.le_refl _, ?_⟩, ⟨Int.le_refl _, ?_⟩, hp, fun hm => ?_⟩
  · show (0 : Int) < N.B; omega
  · show (0 : Int) < N.H - 1; omega
  · have := (g.lot _ (Guard.lot_mem hp.1 hp.2)).2.2 _ hm
    have := this.1
    exact absurd this (by show ¬ (1 : Int) ≤ 0; omega)
theorem hold_any (o : N.Ok) (g : G.Ok N.H) : ((beg G).any fun x => decide (x ∈ holdL N G)) = !allWon N G (wonF N G) := by
  unfold allWon
  rw [List.not_all_eq_any_not]
  rw [Bool.eq_iff_iff, List.any_eq_true, List.any_eq_true]
  constructor
  · rintro ⟨x, hx, h⟩
    have h := of_decide_eq_true h
    unfold holdL at h
    exact ⟨x, hx, (List.mem_filter.mp h).2⟩
  · rintro ⟨x, hx, h⟩
    refine ⟨x, hx, decide_eq_true ?_⟩
    unfold holdL
    exact List.mem_filter.mpr ⟨beg_stand o g hx, h⟩
theorem beg_ne (g : G.Ok N.H) : beg G ≠ [] := fun e => g.b1 (by unfold beg at e; exact List.map_eq_nil_iff.mp e)
theorem way_begs (o : N.Ok) (g : G.Ok N.H) (h : allWon N G (wonF N G) = true) : (∀ p ∈ G.begins, ∃ v, ((⟨0, 0, p⟩ : I3), v) ∈ wayL N G ∧ v.2 ≤ ticksI N G) ∧ ∃ p ∈ G.begins, ∃ v, ((⟨0, 0, p⟩ : I3), v) ∈ wayL N G ∧ v.2 = ticksI N G := by
  unfold allWon at h
  rw [List.all_eq_true] at h
  have hv : ∀ p ∈ G.begins, ∃ v, look (⟨0, 0, p⟩ : I3) (wonF N G) = some v := fun p hp => by
    have := h ⟨0, 0, p⟩ (mem_beg.mpr ⟨p, hp, rfl⟩)
    rw [← look_isSome] at this
    exact Option.isSome_iff_exists.mp this
  constructor
  · intro p hp
    obtain ⟨v, e⟩ := hv p hp
    refine ⟨v, mem_srt.mpr (look_mem e), ?_⟩
    have := mxI_le (xs := (beg G).map fun o => ((look o (wonF N G)).getD (0, 0)).2) (List.mem_map.mpr ⟨⟨0, 0, p⟩, mem_beg.mpr ⟨p, hp, rfl⟩, rfl⟩)
    rw [e] at this
    exact this
  · obtain ⟨x, hx, hm⟩ := List.mem_map.mp (mxI_mem (xs := (beg G).map fun o => ((look o (wonF N G)).getD (0, 0)).2) fun e => beg_ne (N := N) g (List.map_eq_nil_iff.mp e))
    obtain ⟨p, hp, rfl⟩ := mem_beg.mp hx
    obtain ⟨v, e⟩ := hv p hp
    refine ⟨p, hp, v, mem_srt.mpr (look_mem e), ?_⟩
    unfold ticksI
    rw [← hm, e]; rfl
end
theorem okN_bools (l : List Bool) (h : l.length ≤ 16777216) : okN 1 (.list (l.map .bool)) = true := by
  rw [okN, List.length_map, decide_eq_true h, Bool.true_and]
  clear h
  induction l with
  | nil => rfl
  | cons b l ih => rw [List.map_cons, okNL, ih]; rfl
end DN

end
section
set_option Elab.async false
set_option linter.all false
set_option autoImplicit false
set_option maxRecDepth 100000
set_option maxHeartbeats 1000000
namespace Pg
open PySem DL DN
variable {n : Nat} {w s : D} {N : Net} {G : Guard}
theorem del_perm {α : Type} {xs : List α} {i : Nat} : (xs.take i ++ xs.drop (i + 1)).Sublist xs := by
  have h := (List.Sublist.refl (xs.take i)).append ((List.drop_sublist 1 (xs.drop i)))
  rw [List.drop_drop, List.take_append_drop] at h
  exact h
theorem same_bools (l : List Bool) (hl : l.length ≤ 100) : FE (n + 1 + 1) ix__law_same [.list (l.map .bool), .list (l.map .bool)] = rt (.bool true) := by
  rw [q_same 1 _ _ (okN_bools l (by omega)) (okN_bools l (by omega)), sameD_self]
theorem things1 {fe : Nat → List D → M D} {u : List Int} {xs : List I3} {i : Nat} (hwN : NetM N.d N) (hl : xs.length ≤ 100) {j0 j1 j3 j5 j6 j7 j8 j9 j10 j12 j13 j14 j15 j16 j17 j18 j19 j20 j21 j22 j23 j24 j25 : Option D} :
    Ev fe (.lst (.cons (.var 11) (.cons (.op .add (.sl (.var 11) .no (.var 4)) (.sl (.var 11) (.op .add (.var 4) (.int 1)) .no)) (.cons (.rev (.var 11)) (.cons (.op .add (.var 11) (.tup (.cons (.tup (.cons (.int 0) (.cons (.op .sub (.ix (.var 2) (.int 0)) (.int 1)) (.cons (.int 0) .nil)))) .nil))) .nil))))) [j0, j1, some N.d, j3, some (.int (i : Int)), j5, j6, j7, j8, j9, j10, some (.tuple (xs.map enc)), j12, j13, j14, j15, j16, j17, j18, j19, j20, j21, j22, j23, j24, j25] u
    (.list ([xs, xs.take i ++ xs.drop (i + 1), xs.reverse, xs ++ [⟨0, N.H - 1, 0⟩]].map enc)) u := by
  have h0 := hwN.h0
  refine ev_to (ev_lst (ev_cons (ev_var rfl) (ev_cons (ev_op (ev_sl (ev_var rfl) ev_no (ev_var rfl) rfl rfl (sl_tt _ (by omega))) (ev_sl (ev_var rfl) (ev_op (ev_var rfl) ev_int (o_addI _ _)) ev_no rfl rfl (sl_tf _ (by omega))) (o_addT (by rw [List.length_take, List.length_drop, List.length_map]; omega))) (ev_cons (ev_rev (ev_var rfl) rfl) (ev_cons (ev_op (ev_var rfl) (ev_tup (ev_cons (ev_tup (ev_cons ev_int (ev_cons (ev_op (ev_ix (ev_var rfl) ev_int h0) ev_int (o_subI _ _)) (ev_cons ev_int ev_nil))) rfl) ev_nil) rfl) (o_addT (by rw [List.length_map]; simp; omega))) ev_nil)))) rfl) ?_
  have e1 : ((i : Int)).toNat = i := Int.toNat_natCast i
  have e2 : ((i : Int) + 1).toNat = i + 1 := by omega
  rw [e1, e2]
  simp only [List.map_cons, List.map_nil]
  congr 1
  congr 1
  congr 1
  · show PyData.tuple _ = PyData.tuple _
    rw [List.map_append, List.map_take, List.map_drop]
  congr 1
  · show PyData.tuple _ = PyData.tuple _
    rw [List.map_reverse]
  congr 1
  · show PyData.tuple _ = PyData.tuple _
    rw [List.map_append]; rfl
theorem hold_nil (hw : NetM w N) (hs : GuardM s G) (o : N.Ok) (g : G.Ok N.H) : FE (n + 5) ix_is_hold [w, s, .tuple []] = rt (.bool false) := by
  have := q_is_hold (n := n) hw hs o g (tab := []) (by simp)
  rw [show isHold N G [] = false by simp [isHold, rising]] at this
  exact this
theorem way_nil (hw : NetM w N) (hs : GuardM s G) (o : N.Ok) (g : G.Ok N.H) : FE (n + 5) ix_is_way [w, s, .tuple []] = rt (.bool false) := by
  have := q_is_way (n := n) hw hs o g (tab := []) (by simp)
  have hb := beg_ne (N := N) g
  rw [show isWay N G [] = false by
    unfold isWay
    cases h : beg G with
    | nil => exact absurd h hb
    | cons x xs => simp [rising]] at this
  exact this
theorem none_check {u : List Int} {tabs : List (List I3)} {xs : List I3} (hw : NetM w N) (hs : GuardM s G) (hwN : NetM N.d N) (hsG : GuardM G.d G) (o : N.Ok) (g : G.Ok N.H) (ht : ∀ t ∈ tabs, t.length < 60 ∧ ∀ r ∈ t, (0 ≤ r.b ∧ r.b < N.H) ∧ (0 ≤ r.c ∧ r.c < G.lots.length)) (htl : tabs.length ≤ 10) {j0 j1 j4 j6 j9 j10 j12 j13 j14 j15 j16 j17 j18 j19 j20 j21 j22 j23 j24 j25 : Option D} :
    Ev (FE (n + 8)) (.call 36 .pure (.cons (.op .addL (.cl [24] .seq (.var 5) (.nm 24) .nil (.em (.call 29 .pure (.cons (.var 7) (.cons (.var 8) (.cons (.var 24) .nil)))))) (.lst (.cons (.call 26 .pure (.cons (.var 7) (.cons (.var 8) (.cons (.tup .nil) .nil)))) (.cons (.call 29 .pure (.cons (.var 7) (.cons (.var 8) (.cons (.blt .list (.cons (.var 11) .nil)) .nil)))) .nil)))) (.cons (.op .addL (.cl [24] .seq (.var 5) (.nm 24) .nil (.em (.call 44 .pure (.cons (.var 2) (.cons (.var 3) (.cons (.var 24) .nil)))))) (.lst (.cons (.bl false) (.cons (.bl false) .nil)))) .nil))) [j0, j1, some N.d, some G.d, j4, some (.list (tabs.map enc)), j6, some w, some s, j9, j10, some (.tuple (xs.map enc)), j12, j13, j14, j15, j16, j17, j18, j19, j20, j21, j22, j23, j24, j25] u (.bool true) u := by
  have hb := same_bools (n := n + 6) (tabs.map (isHold N G) ++ [false, false]) (by rw [List.length_append, List.length_map]; simp; omega)
  rw [List.map_append, List.map_map] at hb
  refine ev_call (ev_cons (ev_op (u1 := u) (u2 := u) (ev_map (α := List I3) (enc := enc) (xs := tabs) (f := fun t => .bool (isHold N G t)) (ev_var rfl) rfl (by omega) fun t h => ⟨rfl, ?_⟩) ?_ (o_addL ?_)) (ev_cons (ev_op (ev_map (α := List I3) (enc := enc) (xs := tabs) (f := fun t => .bool (isHold N G t)) (ev_var rfl) rfl (by omega) fun t h => ⟨rfl, ?_⟩) ?_ (o_addL ?_)) ev_nil)) hb
  · exact ev_call (ev_cons (ev_var rfl) (ev_cons (ev_var rfl) (ev_cons (ev_var rfl) ev_nil))) (q_is_hold (n := n + 3) hw hs o g (by have := (ht t h).1; omega))
  · exact ev_lst (ev_cons (ev_call (ev_cons (ev_var rfl) (ev_cons (ev_var rfl) (ev_cons (ev_tup ev_nil rfl) ev_nil))) (way_nil (n := n + 3) hw hs o g)) (ev_cons (ev_call (ev_cons (ev_var rfl) (ev_cons (ev_var rfl) (ev_cons (ev_blt (ev_cons (ev_var rfl) ev_nil) rfl) ev_nil))) (q_is_hold_list (n := n + 3))) ev_nil)) rfl
  · rw [List.length_map]; simp; omega
  · exact ev_call (ev_cons (ev_var rfl) (ev_cons (ev_var rfl) (ev_cons (ev_var rfl) ev_nil))) (q_law_hold (n := n + 6) hwN hsG o g (ht t h).1 (ht t h).2)
  · exact ev_lst (ev_cons ev_bl (ev_cons ev_bl ev_nil)) rfl
  · rw [List.length_map]; simp; omega
/-- no way: the end of the law -/
theorem hold_tabs (o : N.Ok) (g : G.Ok N.H) {xs : List I3} {i : Nat} (hl : xs.length ≤ 36) (hmem : ∀ x ∈ xs, x ∈ stands N G) : ∀ t ∈ [xs, xs.take i ++ xs.drop (i + 1), xs.reverse, xs ++ [⟨0, N.H - 1, 0⟩]], t.length < 60 ∧ ∀ r ∈ t, (0 ≤ r.b ∧ r.b < N.H) ∧ (0 ≤ r.c ∧ r.c < G.lots.length) := by
  have hr : ∀ r ∈ xs, (0 ≤ r.b ∧ r.b < N.H) ∧ (0 ≤ r.c ∧ r.c < G.lots.length) := fun r hr => by
    have := mem_stands.mp (hmem r hr)
    exact ⟨by omega, this.2.2.1⟩
  intro t ht
  simp only [List.mem_cons, List.not_mem_nil, or_false] at ht
  rcases ht with rfl | rfl | rfl | rfl
  · exact ⟨by omega, hr⟩
  · refine ⟨?_, fun r h => hr r (del_perm.subset h)⟩
    have := (del_perm (xs := xs) (i := i)).length_le
    omega
  · exact ⟨by rw [List.length_reverse]; omega, fun r h => hr r (List.mem_reverse.mp h)⟩
  · refine ⟨by rw [List.length_append]; simp; omega, fun r h => ?_⟩
    rcases List.mem_append.mp h with h | h
    · exact hr r h
    · rw [List.mem_singleton] at h
      subst h
      have := o.H3; have := g.l1
      refine ⟨⟨?_, ?_⟩, Int.le_refl _, ?_⟩
      · show 0 ≤ N.H - 1; omega
      · show N.H - 1 < N.H; omega
      · show (0 : Int) < (G.lots.length : Int); omega
end Pg

end
section
set_option Elab.async false
set_option linter.all false
set_option autoImplicit false
set_option maxRecDepth 100000
set_option maxHeartbeats 1000000
namespace Pg
open PySem DL DN
variable {n : Nat} {w s : D} {N : Net} {G : Guard}
def rep (xs : Won) (i : Nat) (k : I3) (v : Int × Int) : Won := xs.take i ++ [(k, v)] ++ xs.drop (i + 1)
def tabs6 (H : Int) (xs : Won) (i : Nat) (k : I3) (t m : Int) : List Won := [xs, xs.take i ++ xs.drop (i + 1), rep xs i k (t, m + 1), rep xs i k (k.b, m), rep xs i k (t, 1), xs.reverse]
theorem things2 {fe : Nat → List D → M D} {u : List Int} {xs : Won} {i : Nat} {k : I3} {t m H : Int} (hl : xs.length ≤ 100) {j0 j1 j2 j3 j5 j6 j7 j8 j9 j11 j12 j13 j14 j20 j21 j22 j23 j24 j25 : Option D} :
    Ev fe (.lst (.cons (.var 10) (.cons (.op .add (.sl (.var 10) .no (.var 4)) (.sl (.var 10) (.op .add (.var 4) (.int 1)) .no)) (.cons (.op .add (.op .add (.sl (.var 10) .no (.var 4)) (.tup (.cons (.tup (.cons (.tup (.cons (.var 15) (.cons (.var 16) (.cons (.var 17) .nil)))) (.cons (.tup (.cons (.var 18) (.cons (.op .add (.var 19) (.int 1)) .nil))) .nil))) .nil))) (.sl (.var 10) (.op .add (.var 4) (.int 1)) .no)) (.cons (.op .add (.op .add (.sl (.var 10) .no (.var 4)) (.tup (.cons (.tup (.cons (.tup (.cons (.var 15) (.cons (.var 16) (.cons (.var 17) .nil)))) (.cons (.tup (.cons (.var 16) (.cons (.var 19) .nil))) .nil))) .nil))) (.sl (.var 10) (.op .add (.var 4) (.int 1)) .no)) (.cons (.op .add (.op .add (.sl (.var 10) .no (.var 4)) (.tup (.cons (.tup (.cons (.tup (.cons (.var 15) (.cons (.var 16) (.cons (.var 17) .nil)))) (.cons (.tup (.cons (.var 18) (.cons (.int 1) .nil))) .nil))) .nil))) (.sl (.var 10) (.op .add (.var 4) (.int 1)) .no)) (.cons (.rev (.var 10)) .nil)))))))
      [j0, j1, j2, j3, some (.int (i : Int)), j5, j6, j7, j8, j9, some (.tuple (xs.map enc)), j11, j12, j13, j14, some (.int k.a), some (.int k.b), some (.int k.c), some (.int t), some (.int m), j20, j21, j22, j23, j24, j25] u
    (.list ((tabs6 H xs i k t m).map enc)) u := by
  have e1 : ((i : Int)).toNat = i := Int.toNat_natCast i
  have e2 : ((i : Int) + 1).toNat = i + 1 := by omega
  have sa : ∀ ρ : DL.Env, (ρ[10]?.bind id) = some (.tuple (xs.map enc)) → (ρ[4]?.bind id) = some (.int (i : Int)) → Ev fe (.sl (.var 10) .no (.var 4)) ρ u (.tuple ((xs.take i).map enc)) u := fun ρ h1 h2 => by
    refine ev_to (ev_sl (ev_var h1) ev_no (ev_var h2) rfl rfl (sl_tt _ (by omega))) ?_
    rw [e1, List.map_take]
  have sb : ∀ ρ : DL.Env, (ρ[10]?.bind id) = some (.tuple (xs.map enc)) → (ρ[4]?.bind id) = some (.int (i : Int)) → Ev fe (.sl (.var 10) (.op .add (.var 4) (.int 1)) .no) ρ u (.tuple ((xs.drop (i + 1)).map enc)) u := fun ρ h1 h2 => by
    refine ev_to (ev_sl (ev_var h1) (ev_op (ev_var h2) ev_int (o_addI _ _)) ev_no rfl rfl (sl_tf _ (by omega))) ?_
    rw [e2, List.map_drop]
  have hr : ∀ (v : Int × Int), (xs.take i).map enc ++ [enc (k, v)] ++ (xs.drop (i + 1)).map enc = ((rep xs i k v).map enc : List D) := fun v => by
    unfold rep; rw [List.map_append, List.map_append]; rfl
  have l1 : ((xs.take i).map enc : List D).length + [enc (k, ((0 : Int), (0 : Int)))].length ≤ 16777216 := by rw [List.length_map, List.length_take]; simp; omega
  have l2 : ∀ x : D, ((xs.take i).map enc ++ [x]).length + ((xs.drop (i + 1)).map enc : List D).length ≤ 16777216 := fun x => by rw [List.length_append, List.length_map, List.length_map, List.length_take, List.length_drop]; simp; omega
  have l3 : ((xs.take i).map enc : List D).length + ((xs.drop (i + 1)).map enc : List D).length ≤ 16777216 := by rw [List.length_map, List.length_map, List.length_take, List.length_drop]; omega
  refine ev_to (ev_lst (ev_cons (ev_var rfl) (ev_cons (ev_op (sa _ rfl rfl) (sb _ rfl rfl) (o_addT l3)) (ev_cons (ev_op (ev_op (sa _ rfl rfl) (ev_tup (ev_cons (ev_tup (ev_cons (ev_tup (ev_cons (ev_var rfl) (ev_cons (ev_var rfl) (ev_cons (ev_var rfl) ev_nil))) rfl) (ev_cons (ev_tup (ev_cons (ev_var rfl) (ev_cons (ev_op (ev_var rfl) ev_int (o_addI _ _)) ev_nil)) rfl) ev_nil)) rfl) ev_nil) rfl) (o_addT l1)) (sb _ rfl rfl) (o_addT (l2 _)))
    (ev_cons (ev_op (ev_op (sa _ rfl rfl) (ev_tup (ev_cons (ev_tup (ev_cons (ev_tup (ev_cons (ev_var rfl) (ev_cons (ev_var rfl) (ev_cons (ev_var rfl) ev_nil))) rfl) (ev_cons (ev_tup (ev_cons (ev_var rfl) (ev_cons (ev_var rfl) ev_nil)) rfl) ev_nil)) rfl) ev_nil) rfl) (o_addT l1)) (sb _ rfl rfl) (o_addT (l2 _)))
    (ev_cons (ev_op (ev_op (sa _ rfl rfl) (ev_tup (ev_cons (ev_tup (ev_cons (ev_tup (ev_cons (ev_var rfl) (ev_cons (ev_var rfl) (ev_cons (ev_var rfl) ev_nil))) rfl) (ev_cons (ev_tup (ev_cons (ev_var rfl) (ev_cons ev_int ev_nil)) rfl) ev_nil)) rfl) ev_nil) rfl) (o_addT l1)) (sb _ rfl rfl) (o_addT (l2 _)))
    (ev_cons (ev_rev (ev_var rfl) rfl) ev_nil)))))) rfl) ?_
  have q1 := hr (t, m + 1)
  have q2 := hr (k.b, m)
  have q3 := hr (t, 1)
  unfold tabs6
  simp only [List.map_cons, List.map_nil]
  congr 1
  congr 1
  congr 1
  · show PyData.tuple _ = PyData.tuple _
    rw [List.map_append]
  congr 1
  · exact congrArg PyData.tuple q1
  congr 1
  · exact congrArg PyData.tuple q2
  congr 1
  · exact congrArg PyData.tuple q3
  congr 1
  · show PyData.tuple _ = PyData.tuple _
    rw [List.map_reverse]
def tabOk (N : Net) (G : Guard) (t : Won) : Prop := (t.map (·.1)).Nodup ∧ t.length < 60 ∧ ∀ r ∈ t, (0 ≤ r.1.b ∧ r.1.b < N.H) ∧ (0 ≤ r.1.c ∧ r.1.c < G.lots.length) ∧ (0 ≤ r.2.1 ∧ r.2.1 < N.H)
theorem way_check {u : List Int} {tabs : List Won} {xs : Won} (hw : NetM w N) (hs : GuardM s G) (hwN : NetM N.d N) (hsG : GuardM G.d G) (o : N.Ok) (g : G.Ok N.H) (ht : ∀ t ∈ tabs, tabOk N G t) (htl : tabs.length ≤ 10) {j0 j1 j4 j6 j9 j11 j12 j13 j14 j15 j16 j17 j18 j19 j20 j21 j22 j23 j24 j25 : Option D} :
    Ev (FE (n + 8)) (.call 36 .pure (.cons (.op .addL (.cl [24] .seq (.var 5) (.nm 24) .nil (.em (.call 26 .pure (.cons (.var 7) (.cons (.var 8) (.cons (.var 24) .nil)))))) (.lst (.cons (.call 29 .pure (.cons (.var 7) (.cons (.var 8) (.cons (.tup .nil) .nil)))) (.cons (.call 26 .pure (.cons (.var 7) (.cons (.var 8) (.cons (.blt .list (.cons (.var 10) .nil)) .nil)))) .nil)))) (.cons (.op .addL (.cl [24] .seq (.var 5) (.nm 24) .nil (.em (.call 43 .pure (.cons (.var 2) (.cons (.var 3) (.cons (.var 24) .nil)))))) (.lst (.cons (.bl false) (.cons (.bl false) .nil)))) .nil))) [j0, j1, some N.d, some G.d, j4, some (.list (tabs.map enc)), j6, some w, some s, j9, some (.tuple (xs.map enc)), j11, j12, j13, j14, j15, j16, j17, j18, j19, j20, j21, j22, j23, j24, j25] u (.bool true) u := by
  have hb := same_bools (n := n + 6) (tabs.map (isWay N G) ++ [false, false]) (by rw [List.length_append, List.length_map]; simp; omega)
  rw [List.map_append, List.map_map] at hb
  refine ev_call (ev_cons (ev_op (u1 := u) (u2 := u) (ev_map (α := Won) (enc := enc) (xs := tabs) (f := fun t => .bool (isWay N G t)) (ev_var rfl) rfl (by omega) fun t h => ⟨rfl, ?_⟩) ?_ (o_addL ?_)) (ev_cons (ev_op (u1 := u) (u2 := u) (ev_map (α := Won) (enc := enc) (xs := tabs) (f := fun t => .bool (isWay N G t)) (ev_var rfl) rfl (by omega) fun t h => ⟨rfl, ?_⟩) ?_ (o_addL ?_)) ev_nil)) hb
  · exact ev_call (ev_cons (ev_var rfl) (ev_cons (ev_var rfl) (ev_cons (ev_var rfl) ev_nil))) (q_is_way (n := n + 3) hw hs o g (by have := (ht t h).2.1; omega))
  · exact ev_lst (ev_cons (ev_call (ev_cons (ev_var rfl) (ev_cons (ev_var rfl) (ev_cons (ev_tup ev_nil rfl) ev_nil))) (hold_nil (n := n + 3) hw hs o g)) (ev_cons (ev_call (ev_cons (ev_var rfl) (ev_cons (ev_var rfl) (ev_cons (ev_blt (ev_cons (ev_var rfl) ev_nil) rfl) ev_nil))) (q_is_way_list (n := n + 3))) ev_nil)) rfl
  · rw [List.length_map]; simp; omega
  · exact ev_call (ev_cons (ev_var rfl) (ev_cons (ev_var rfl) (ev_cons (ev_var rfl) ev_nil))) (q_law_way (n := n + 6) hwN hsG o g (ht t h).1 (ht t h).2.1 (ht t h).2.2)
  · exact ev_lst (ev_cons ev_bl (ev_cons ev_bl ev_nil)) rfl
  · rw [List.length_map]; simp; omega
theorem way_tabs (o : N.Ok) {xs : Won} (w : WayOk N G xs) {i : Nat} {k : I3} {t m : Int} (hi : xs[i]? = some (k, (t, m))) : ∀ tb ∈ tabs6 N.H xs i k t m, tabOk N G tb := by
  have hk : ∀ r ∈ xs, (0 ≤ r.1.b ∧ r.1.b < N.H) ∧ (0 ≤ r.1.c ∧ r.1.c < G.lots.length) ∧ (0 ≤ r.2.1 ∧ r.2.1 < N.H) := fun r hr => by
    obtain ⟨r1, r2, _⟩ := w.row r.1 r.2.1 r.2.2 hr
    have r1 := mem_stands.mp r1
    have := Net.go_range o r2 r1.2.1.1 (by omega)
    exact ⟨by omega, r1.2.2.1, this⟩
  have hl := w.len
  have hlt := (List.getElem?_eq_some_iff.mp hi).1
  have hmem := List.mem_of_getElem? hi
  have hrep : ∀ v : Int × Int, (0 ≤ v.1 ∧ v.1 < N.H) → tabOk N G (rep xs i k v) := fun v hv => by
    refine ⟨?_, ?_, fun r hr => ?_⟩
    · have e : (rep xs i k v).map (·.1) = xs.map (·.1) := by
        unfold rep
        rw [List.map_append, List.map_append, List.map_take, List.map_drop, List.append_assoc]
        have e2 : (xs.map (·.1))[i]'(by rw [List.length_map]; exact hlt) = k := by
          rw [List.getElem_map]
          have := (List.getElem?_eq_some_iff.mp hi).2
          rw [this]
        have e3 := List.drop_eq_getElem_cons (l := xs.map (·.1)) (i := i) (by rw [List.length_map]; exact hlt)
        rw [e2] at e3
        have e4 : [(k, v)].map (·.1) = [k] := rfl
        rw [e4, List.singleton_append, ← e3, List.take_append_drop]
      rw [e]; exact w.nd
    · unfold rep
      rw [List.length_append, List.length_append, List.length_take, List.length_drop]
      simp; omega
    · unfold rep at hr
      rcases List.mem_append.mp hr with hr | hr
      · rcases List.mem_append.mp hr with hr | hr
        · exact hk r (List.mem_of_mem_take hr)
        · rw [List.mem_singleton] at hr
          subst hr
          have := hk _ hmem
          exact ⟨this.1, this.2.1, hv⟩
      · exact hk r (List.mem_of_mem_drop hr)
  intro tb htb
  simp only [tabs6, List.mem_cons, List.not_mem_nil, or_false] at htb
  have hm := hk _ hmem
  rcases htb with rfl | rfl | rfl | rfl | rfl | rfl
  · exact ⟨w.nd, by omega, hk⟩
  · have hsub := del_perm (xs := xs) (i := i)
    exact ⟨w.nd.sublist (hsub.map _), by have := hsub.length_le; omega, fun r hr => hk r (hsub.subset hr)⟩
  · exact hrep _ hm.2.2
  · exact hrep _ hm.1
  · exact hrep _ hm.2.2
  · refine ⟨?_, by rw [List.length_reverse]; omega, fun r hr => hk r (List.mem_reverse.mp hr)⟩
    rw [List.map_reverse]
    exact (List.reverse_perm _).nodup_iff.mpr w.nd
end Pg

end
section
set_option Elab.async false
set_option linter.all false
set_option autoImplicit false
set_option maxRecDepth 100000
set_option maxHeartbeats 2000000
namespace Pg
open PySem DL DN
variable {n : Nat} {w s : D} {N : Net} {G : Guard}
theorem okD_way {tab : Won} (h : tab.length ≤ 36) : okD 4 (.tuple (tab.map enc)) = true :=
  okD_seq (by rw [List.length_map]; omega) (okDL_map fun x _ => rfl)
theorem okD_ints {v : List Int} (h : v.length ≤ 1000) : okD 4 (.tuple (v.map enc)) = true :=
  okD_seq (by rw [List.length_map]; omega) (okDL_map fun x _ => rfl)
theorem okN_ints {v : List Int} (h : v.length ≤ 1000) : okN 1 (.tuple (v.map enc)) = true := by
  rw [okN, List.length_map, decide_eq_true (by omega : v.length ≤ 16777216), Bool.true_and]
  clear h
  induction v with
  | nil => rfl
  | cons b l ih => rw [List.map_cons, okNL, ih]; rfl
theorem walk_body {u : List Int} {K tk ℓ : Int} {T : Nat} {v : List Int} (hw : NetM w N) (hs : GuardM s G) (hwN : NetM N.d N) (hsG : GuardM G.d G) (o : N.Ok) (g : G.Ok N.H) (wk : WayOk N G (wayL N G))
    (hb : ∀ p ∈ G.begins, ∃ v, ((⟨0, 0, p⟩ : I3), v) ∈ wayL N G ∧ v.2 ≤ tk) (hT : (T : Int) = if 6 < tk then 6 else tk) (hT6 : T ≤ 6) (hv : v ∈ walksL G T) (hu : UOk K u) (hK : K < 1000000000000000) {j0 j1 j4 j5 j11 j14 j15 j16 j17 j18 j19 j20 j21 j22 j23 j24 j25 : Option D} :
    Sp (FE (n + 8)) fuel (.seq (.par [(20, false), (21, false)] (.cons (.call 31 .pure (.cons (.var 7) (.cons (.call 35 .urn (.cons (.var 10) .nil)) (.cons (.call 35 .urn (.cons (.var 6) .nil)) .nil)))) (.cons (.blt .dict (.cons (.var 10) .nil)) .nil))) (.seq (.bind (.cons (.nm 16) (.cons (.nm 22) .nil)) (.tup (.cons (.int 0) (.cons (.tup (.cons (.int 0) .nil)) .nil)))) (.seq (.fr .rng1 (.cons (.var 13) .nil) (.nm 14) (.seq (.ifs (.op .ne (.var 16) (.op .sub (.ix (.var 2) (.int 0)) (.int 1))) (.seq (.set 16 (.ix (.ix (.var 21) (.tup (.cons (.op .mod (.blt .int (.cons (.var 14) .nil)) (.ix (.var 2) (.int 1))) (.cons (.var 16) (.cons (.ix (.var 6) (.var 14)) .nil))))) (.int 0))) (.seq (.set 22 (.op .add (.var 22) (.tup (.cons (.var 16) .nil)))) .nil)) .nil) .nil)) (.seq (.ifs (.or (.not (.call 36 .pure (.cons (.var 20) (.cons (.var 22) .nil)))) (.op .ne (.cl [14, 25] .enum (.cons (.var 22) .nil) (.cons (.nm 14) (.cons (.nm 25) .nil)) (.cons (.op .inn (.var 25) (.ix (.ix (.var 3) (.int 0)) (.ix (.var 6) (.var 14)))) .nil) (.em (.int 1))) (.lst .nil))) (.seq (.ret (.bl false)) .nil) .nil) (.seq (.ifs (.and (.op .le (.var 9) (.int 6)) (.op .ne (.ix (.var 22) (.neg (.int 1))) (.op .sub (.ix (.var 2) (.int 0)) (.int 1)))) (.seq (.ret (.bl false)) .nil) .nil) (.seq (.set 12 (.blt .max (.cons (.var 12) (.cons (.op .sub (.blt .len (.cons (.var 22) .nil)) (.int 1)) .nil)))) (.seq (.ifs (.op .eq (.ix (.var 22) (.neg (.int 1))) (.op .sub (.ix (.var 2) (.int 0)) (.int 1))) (.seq (.set 23 (.sl (.var 6) .no (.blt .len (.cons (.var 22) .nil)))) (.seq (.ifs (.not (.call 36 .pure (.cons (.lst (.cons (.call 9 .pure (.cons (.var 2) (.cons (.op .sub (.blt .len (.cons (.var 22) .nil)) (.int 1)) (.cons (.var 22) .nil)))) (.cons (.call 13 .pure (.cons (.var 8) (.cons (.var 23) (.cons (.var 22) .nil)))) (.cons (.op .isnot (.call 16 .pure (.cons (.var 7) (.cons (.var 8) (.cons (.tup (.cons (.var 23) .nil)) .nil)))) .non) .nil)))) (.cons (.lst (.cons (.bl true) (.cons (.bl false) (.cons (.bl true) .nil)))) .nil)))) (.seq (.ret (.bl false)) .nil) .nil) .nil)) .nil) .nil)))))))
      [j0, j1, some N.d, some G.d, j4, j5, some (.tuple (v.map enc)), some w, some s, some (.int tk), some (.tuple ((wayL N G).map enc)), j11, some (.int ℓ), some (.int (T : Int)), j14, j15, j16, j17, j18, j19, j20, j21, j22, j23, j24, j25] u
      (fun ρ' u' => (∃ (j6 j14 j15 j16 j17 j18 j19 j20 j21 j22 j23 j24 j25 : Option D), ρ' = [j0, j1, some N.d, some G.d, j4, j5, j6, some w, some s, some (.int tk), some (.tuple ((wayL N G).map enc)), j11, some (.int (if ((ledR N (wayL N G) v T).length : Int) - 1 > ℓ then ((ledR N (wayL N G) v T).length : Int) - 1 else ℓ)), some (.int (T : Int)), j14, j15, j16, j17, j18, j19, j20, j21, j22, j23, j24, j25]) ∧ UOk (K + 300) u') (fun _ _ => False) := by
  obtain ⟨hvl, hvr, hv0, hvs⟩ := walksL_ok g T v hv
  have hwv : WalkV G v := ⟨hv0, fun i hi => hvs i (by omega)⟩
  have hB := o.B1
  have h0 := hwN.h0
  have h1 := hwN.h1
  have hn3 := nod_way wk.len
  have hn4 := nod_ints v
  obtain ⟨y, u1, e1, ty, hu1⟩ := q_mixed 4 (.tuple ((wayL N G).map enc)) (okD_way wk.len) (n := n + 2) hu (by omega)
  obtain ⟨z, u2, e2, tz, hu2⟩ := q_mixed 4 (.tuple (v.map enc)) (okD_ints (by omega)) (n := n + 2) hu1 (by show _ + ((nod (enc v) : Nat) : Int) < _; omega)
  have hu2 : UOk (K + 300) u2 := hu2.mono (by have e : nod (PyData.tuple (v.map enc)) = 1 := hn4; rw [e]; omega)
  have ty : tupD y = .tuple ((wayL N G).map enc) := ty.trans (tupD_enc (wayL N G))
  have tz : SeqI z v := seqI_of (tz.trans (tupD_enc v))
  have hlen := ledR_len N (wayL N G) v T
  have hlook : ∀ t, t + 1 < v.length → DN.hs N (wayL N G) v t ≠ N.H - 1 → (look (⟨(t : Int) % N.B, DN.hs N (wayL N G) v t, (v[t]?).getD 0⟩ : I3) (wayL N G)).isSome = true := fun t ht hne => by
    obtain ⟨val, e, _⟩ := led_some o g wk hb hwv t (by omega) hne
    rw [e]; rfl
  have hled := q_led (n := n + 2) hw (y := y) (z := z) ty (by rw [← okD_tup, ty]; exact okD_way wk.len) (by omega) wk.nd (by have := wk.len; omega) tz (by omega) (by omega) hlook
  rw [show v.length - 1 = T by omega] at hled
  have hdict : Blt.fn .dict [.tuple ((wayL N G).map enc)] = some (dE (wayL N G)) := (dict_dE wk.nd (by have := wk.len; omega)).1
  refine sp_par1 (ds := [.tuple ((ledR N (wayL N G) v T).map enc), dE (wayL N G)]) (u1 := u2) (by ac_rfl) rfl ?_
  refine sp_bind1 (d := .tuple [.int 0, .tuple [.int 0]]) (u1 := u2) (by and_intros) rfl ?_
  apply sp_for1 (α := Int) (enc := enc) (xs := rangeI (T : Int)) (fun r ρ u' => u' = u2 ∧ ∃ (t : Nat) (j14 : Option D) (l : List D), ρ = [j0, j1, some N.d, some G.d, j4, j5, some (.tuple (v.map enc)), some w, some s, some (.int tk), some (.tuple ((wayL N G).map enc)), j11, some (.int ℓ), some (.int (T : Int)), j14, j15, some (.int (DN.hs N (wayL N G) v t)), j17, j18, j19, some (.tuple ((ledR N (wayL N G) v T).map enc)), some (dE (wayL N G)), some (.tuple l), j23, j24, j25] ∧ l = (ledR N (wayL N G) v t).map enc ∧ r = (rangeI (T : Int)).drop t ∧ t ≤ T)
  · and_intros
  · exact src_rng1 (by omega) (by omega)
  · exact ⟨rfl, 0, _, _, rfl, rfl, rfl, by omega⟩
  · rintro a r ρ u' ⟨rfl, t, j14, l, rfl, rfl, hr, hle⟩
    obtain ⟨q1, rfl, rfl⟩ := rangeI_turn hr
    have qw := SeqI.at (e := .tuple (v.map enc)) (xs := v) (.inr rfl) (i := t) (by omega)
    refine ⟨_, rfl, ?_⟩
    refine sp_if1 (ev_op (ev_var rfl) (ev_op (ev_ix (ev_var rfl) ev_int h0) ev_int (o_subI _ _)) (o_neI _ _)) rfl (fun h => ?_) fun h => ?_
    · rw [Bool.not_eq_true', decide_eq_false_iff_not] at h
      obtain ⟨val, e, k2, _⟩ := led_some o g wk hb hwv t (by omega) h
      have e := sub_dE e
      have hll := ledR_len N (wayL N G) v t
      apply sp_assoc
      refine sp_set1 (d := .int val.1) (u1 := u') (by and_intros) ?_
      apply sp_assoc
      refine sp_set1 (ev_op (ev_var rfl) (ev_tup (ev_cons (ev_var rfl) ev_nil) rfl) (o_addT (by rw [List.length_map]; simp; omega))) ?_
      apply sp_nil1
      apply sp_nil
      refine ⟨rfl, t + 1, _, _, by rw [k2]; rfl, ?_, rfl, by omega⟩
      rw [ledR_go h, k2, List.map_append]; rfl
    · rw [Bool.not_eq_false', decide_eq_true_iff] at h
      apply sp_nil1
      apply sp_nil
      exact ⟨rfl, t + 1, _, _, by rw [hs_stop h]; rfl, by rw [ledR_stop h], rfl, by omega⟩
  rintro ρ u' ⟨rfl, t, j14, l, rfl, rfl, hr, hle⟩
  have hr := rangeI_end hr
  have et : t = T := by omega
  subst et
  obtain ⟨dL, eL, g1, g2, g3⟩ := hsG.h0
  have hsame : FE (n + 8) 36 [.tuple ((ledR N (wayL N G) v t).map enc), .tuple ((ledR N (wayL N G) v t).map enc)] = rt (.bool true) := by
    rw [q_same 1 _ _ (okN_ints (by omega)) (okN_ints (by omega)) (n + 6), sameD_self]
  have ql := last_enc (ledR_last N (wayL N G) v t)
  have c1 : Ev (FE (n + 8)) (.or (.not (.call 36 .pure (.cons (.var 20) (.cons (.var 22) .nil)))) (.op .ne (.cl [14, 25] .enum (.cons (.var 22) .nil) (.cons (.nm 14) (.cons (.nm 25) .nil)) (.cons (.op .inn (.var 25) (.ix (.ix (.var 3) (.int 0)) (.ix (.var 6) (.var 14)))) .nil) (.em (.int 1))) (.lst .nil))) [j0, j1, some N.d, some G.d, j4, j5, some (.tuple (v.map enc)), some w, some s, some (.int tk), some (.tuple ((wayL N G).map enc)), j11, some (.int ℓ), some (.int (t : Int)), j14, j15, some (.int (DN.hs N (wayL N G) v t)), j17, j18, j19, some (.tuple ((ledR N (wayL N G) v t).map enc)), some (dE (wayL N G)), some (.tuple ((ledR N (wayL N G) v t).map enc)), j23, j24, j25] u' (.bool false) u' := by
    have hel : (enumI 0 (ledR N (wayL N G) v t)).length = (ledR N (wayL N G) v t).length := by
      have : ∀ (i : Nat) (l : List Int), (enumI i l).length = l.length := fun i l => by
        induction l generalizing i with
        | nil => rfl
        | cons x l ih => rw [enumI, List.length_cons, List.length_cons, ih]
      exact this 0 _
    have hcl : ∀ p ∈ enumI 0 (ledR N (wayL N G) v t), ∃ i : Nat, p.1 = (i : Int) ∧ i < v.length ∧ p.2 = DN.hs N (wayL N G) v i := fun p hp => by
      obtain ⟨i, k1, k2⟩ := mem_enumI.mp hp
      have hlt := (List.getElem?_eq_some_iff.mp k2).1
      have k3 := (ledR_get (N := N) (tab := wayL N G) (v := v) t i hlt).1
      rw [k2] at k3
      exact ⟨i, by rw [k1, Nat.zero_add], by omega, Option.some.inj k3⟩
    have hcomp : Ev (FE (n + 8)) (.cl [14, 25] .enum (.cons (.var 22) .nil) (.cons (.nm 14) (.cons (.nm 25) .nil)) (.cons (.op .inn (.var 25) (.ix (.ix (.var 3) (.int 0)) (.ix (.var 6) (.var 14)))) .nil) (.em (.int 1))) [j0, j1, some N.d, some G.d, j4, j5, some (.tuple (v.map enc)), some w, some s, some (.int tk), some (.tuple ((wayL N G).map enc)), j11, some (.int ℓ), some (.int (t : Int)), j14, j15, some (.int (DN.hs N (wayL N G) v t)), j17, j18, j19, some (.tuple ((ledR N (wayL N G) v t).map enc)), some (dE (wayL N G)), some (.tuple ((ledR N (wayL N G) v t).map enc)), j23, j24, j25] u' (.list (((enumI 0 (ledR N (wayL N G) v t)).filter fun p => decide (p.2 ∈ G.lot ((v[p.1.toNat]?).getD 0))).map fun _ => .int 1)) u' := by
      apply ev_filterB (α := Int × Int) (enc := enc) (xs := enumI 0 (ledR N (wayL N G) v t)) (f := fun _ => .int 1) (p := fun p => decide (p.2 ∈ G.lot ((v[p.1.toNat]?).getD 0)))
      · and_intros
      · exact src_enumT _
      · omega
      · intro p hp
        obtain ⟨i, k1, k2, k3⟩ := hcl p hp
        have qw := SeqI.at (e := .tuple (v.map enc)) (xs := v) (.inr rfl) k2
        have hvp : 0 ≤ (v[i]?).getD 0 ∧ (v[i]?).getD 0 < G.lots.length := hvr _ (getD_mem k2)
        obtain ⟨l1, l2⟩ := g3 _ hvp.1 hvp.2
        have l2 := l2.inn p.2
        rw [k1, Int.toNat_natCast]
        rw [← k1] at qw
        refine ⟨rfl, ?_, fun _ => ev_int⟩
        exact ev_op (ev_var rfl) (ev_ix (ev_ix (ev_var rfl) ev_int g1) (ev_ix (ev_var rfl) (ev_var rfl) qw) l1) l2
    refine ev_to (ev_or (ev_not (ev_call (ev_cons (ev_var rfl) (ev_cons (ev_var rfl) ev_nil)) hsame) rfl) fun _ => ev_op hcomp (ev_lst ev_nil rfl) (o_neL1 _)) ?_
    rw [filter_empty]
    have hall : (enumI 0 (ledR N (wayL N G) v t)).all (fun p => !decide (p.2 ∈ G.lot ((v[p.1.toNat]?).getD 0))) = true := by
      rw [List.all_eq_true]
      intro p hp
      obtain ⟨i, k1, k2, k3⟩ := hcl p hp
      rw [k1, Int.toNat_natCast, k3, Bool.not_eq_true', decide_eq_false_iff_not]
      exact (led_inv o g wk hb hwv i k2).2.1
    rw [hall]; rfl
  refine sp_if1 c1 rfl (fun h => by cases h) fun _ => ?_
  apply sp_nil1
  have hlast : tk ≤ 6 → DN.hs N (wayL N G) v t = N.H - 1 := fun h6 => by
    rw [if_neg (by omega)] at hT
    obtain ⟨_, _, h3⟩ := led_inv o g wk hb hwv t (by omega)
    rcases h3 with h3 | ⟨val, h3, h4⟩
    · exact h3
    · have := (wk.row _ val.1 val.2 h3).2.2.2.1
      omega
  have c2 : Ev (FE (n + 8)) (.and (.op .le (.var 9) (.int 6)) (.op .ne (.ix (.var 22) (.neg (.int 1))) (.op .sub (.ix (.var 2) (.int 0)) (.int 1)))) [j0, j1, some N.d, some G.d, j4, j5, some (.tuple (v.map enc)), some w, some s, some (.int tk), some (.tuple ((wayL N G).map enc)), j11, some (.int ℓ), some (.int (t : Int)), j14, j15, some (.int (DN.hs N (wayL N G) v t)), j17, j18, j19, some (.tuple ((ledR N (wayL N G) v t).map enc)), some (dE (wayL N G)), some (.tuple ((ledR N (wayL N G) v t).map enc)), j23, j24, j25] u' (.bool false) u' := by
    refine ev_to (ev_and (ev_op (ev_var rfl) ev_int (o_leI _ _)) fun _ => ev_op (ev_ix (ev_var rfl) (ev_neg ev_int) ql) (ev_op (ev_ix (ev_var rfl) ev_int h0) ev_int (o_subI _ _)) (o_neI _ _)) ?_
    by_cases h6 : tk ≤ 6
    · rw [hlast h6]; simp
    · rw [decide_eq_false h6]; rfl
  refine sp_if1 c2 rfl (fun h => by cases h) fun _ => ?_
  apply sp_nil1
  refine sp_set1 (d := .int (if ((ledR N (wayL N G) v t).length : Int) - 1 > ℓ then ((ledR N (wayL N G) v t).length : Int) - 1 else ℓ)) (u1 := u') (ev_blt (ev_cons (ev_var rfl) (ev_cons (ev_op (ev_blt (ev_cons (ev_var rfl) ev_nil) (f_lenT _ _)) ev_int (o_subI _ _)) ev_nil)) rfl) ?_
  refine sp_if1 (ev_op (ev_ix (ev_var rfl) (ev_neg ev_int) ql) (ev_op (ev_ix (ev_var rfl) ev_int h0) ev_int (o_subI _ _)) (o_eqI _ _)) rfl (fun h => ?_) fun h => ?_
  · have h := of_decide_eq_true h
    have ev : v.length - 1 = t := by omega
    have r1 := led_route o g wk hb hwv (by omega) (by rw [ev]; exact h)
    have r2 := led_past o g wk hb hwv (by rw [ev]; omega)
    obtain ⟨rr, r3⟩ := led_least o g wk hb hwv (by omega) (by rw [ev]; exact h)
    rw [ev] at r1 r2 r3
    have qr := q_is_route (n := n + 5) hwN o (T := (ledR N (wayL N G) v t).length - 1) (r := ledR N (wayL N G) v t) (by omega) (by omega)
    rw [decide_eq_true r1, show (((ledR N (wayL N G) v t).length - 1 : Nat) : Int) = ((ledR N (wayL N G) v t).length : Int) - 1 by omega] at qr
    have htr : ∀ p ∈ v.take (ledR N (wayL N G) v t).length, 0 ≤ p ∧ p < G.lots.length := fun p hp => hvr p (List.mem_of_mem_take hp)
    have htl : (v.take (ledR N (wayL N G) v t).length).length = (ledR N (wayL N G) v t).length := by rw [List.length_take]; omega
    have qm := q_meets (n := n + 1) hs g (v := v.take (ledR N (wayL N G) v t).length) (r := ledR N (wayL N G) v t) htr (by omega)
    rw [htl, r2] at qm
    have qa := q_a_route_past (n := n) hw hs o g (walksM_tup [v.take (ledR N (wayL N G) v t).length]) (T := (ledR N (wayL N G) v t).length) (by simp) (by simpa using htl) (by simpa using htr) (by simp) (by omega) (by omega)
    rw [r3] at qa
    have qs := same_bools (n := n + 6) [true, false, true] (by simp)
    have sl : sliceD none (some ((ledR N (wayL N G) v t).length : Int)) (.tuple (v.map enc)) = some (.tuple ((v.take (ledR N (wayL N G) v t).length).map enc)) := by
      rw [sl_tt _ (by omega), Int.toNat_natCast, List.map_take]
    apply sp_assoc
    refine sp_set1 (d := .tuple ((v.take (ledR N (wayL N G) v t).length).map enc)) (u1 := u') (ev_sl (ev_var rfl) ev_no (ev_blt (ev_cons (ev_var rfl) ev_nil) (f_lenT _ _)) rfl rfl sl) ?_
    apply sp_assoc
    refine sp_if1 (p := false) (z := .bool false) (u1 := u') ?_ rfl (fun h => by cases h) fun _ => ?_
    · refine ev_to (ev_not (ev_call (ev_cons (ev_lst (ev_cons (ev_call (ev_cons (ev_var rfl) (ev_cons (ev_op (ev_blt (ev_cons (ev_var rfl) ev_nil) (f_lenT _ _)) ev_int (o_subI _ _)) (ev_cons (ev_var rfl) ev_nil))) qr) (ev_cons (ev_call (ev_cons (ev_var rfl) (ev_cons (ev_var rfl) (ev_cons (ev_var rfl) ev_nil))) qm) (ev_cons (ev_op (ev_call (ev_cons (ev_var rfl) (ev_cons (ev_var rfl) (ev_cons (ev_tup (ev_cons (ev_var rfl) ev_nil) rfl) ev_nil))) qa) ev_non (o_isnN _)) ev_nil))) rfl) (ev_cons (ev_lst (ev_cons ev_bl (ev_cons ev_bl (ev_cons ev_bl ev_nil))) rfl) ev_nil)) qs) rfl) rfl
    apply sp_nil1
    apply sp_nil1
    apply sp_nil
    exact ⟨⟨_, _, _, _, _, _, _, _, _, _, _, _, _, rfl⟩, hu2⟩
  · apply sp_nil1
    apply sp_nil
    exact ⟨⟨_, _, _, _, _, _, _, _, _, _, _, _, _, rfl⟩, hu2⟩
end Pg

end
section
set_option Elab.async false
set_option linter.all false
set_option autoImplicit false
set_option maxRecDepth 100000
set_option maxHeartbeats 2000000
namespace Pg
open PySem DL DN
variable {n : Nat}
theorem q_law {ns : List Int} (hl : ns.length ≤ 63) : FE (n + 9) ix_law [scrD ns] = rt (.bool true) := by
  obtain ⟨c, ec⟩ := q_cells (n := n + 7) hl
  obtain ⟨u0, eb, hu0⟩ := q_box (n := n + 7) (c := c)
  obtain ⟨N, u1, e1, o, hN1, hN2, hu1⟩ := q_law_net (n := n + 6) (most := 5) (beats := 2) hu0 (by omega) (by omega) (by omega)
  obtain ⟨G, u2, e2, g, hG1, hu2⟩ := q_law_guard (n := n + 6) (H := N.H) (most := 3) hu1 (by omega) ⟨o.H3, o.H5⟩ (by omega)
  have hwN := netM_self o
  have hsG := guardM_self g
  have hn1 := nod_net o
  have hn2 := nod_guard g
  obtain ⟨w, u3, e3, tw, hu3⟩ := q_mixed 4 N.d (net_okD (by have := o.L16; omega)) (n := n + 2) hu2 (by omega)
  obtain ⟨s, u4, e4, ts, hu4⟩ := q_mixed 4 G.d hsG.ok (n := n + 2) hu3 (by omega)
  have tw : tupD w = N.d := tw.trans hwN.tup
  have ts : tupD s = G.d := ts.trans hsG.tup
  have hw : NetM w N := netM_of tw (by rw [← okD_tup, tw]; exact hwN.ok)
  have hs : GuardM s G := guardM_of ts (by rw [← okD_tup, ts]; exact hsG.ok)
  have hu4 : UOk 1000 u4 := hu4.mono (by omega)
  have h0 := hwN.h0
  have hq1 := q_seen_ticks (n := n + 3) hwN hsG o g
  have hq2 := q_a_way (n := n + 3) hw hs o g
  have hq3 := q_a_hold (n := n + 3) hw hs o g
  rw [hold_any o g] at hq3
  have hsl := stands_len o g
  clear hn1 hn2 hu3 hu2 hu1 hu0 hN1 hN2 hG1 tw ts
  refine fn_of rfl rfl rfl rfl ?_
  refine sp_box1 (v := u0) (d := .list (u0.map .int)) (u1 := []) (by and_intros) (intsOf_map u0) ?_
  refine sp_set1 (d := N.d) (u1 := u1) (by ac_rfl) ?_
  refine sp_set1 (d := G.d) (u1 := u2) (by ac_rfl) ?_
  refine sp_par1 (ds := [w, s, if allWon N G (wonF N G) = true then .int (ticksI N G) else .none]) (u1 := u4) (by ac_rfl) rfl ?_
  refine sp_par1 (ds := [if allWon N G (wonF N G) = true then .tuple ((wayL N G).map enc) else .none, if (!allWon N G (wonF N G)) = true then .tuple ((holdL N G).map enc) else .none]) (u1 := u4) (by ac_rfl) rfl ?_
  clear e1 e2 e3 e4 ec eb hq1 hq2 hq3
  cases ha : allWon N G (wonF N G) with
  | false =>
    simp only [Bool.false_eq_true, Bool.not_false, if_true, if_false]
    show Sp _ _ _ [some (scrD ns), none, some N.d, some G.d, none, none, none, some w, some s, some .none, some .none, some (.tuple ((holdL N G).map enc)), none, none, none, none, none, none, none, none, none, none, none, none, none, none] u4 _ _
    have hs2 := same_bools (n := n + 6) [true, false] (by simp)
    have hh := hold_any o g
    rw [ha] at hh
    have hne : holdL N G ≠ [] := by
      intro e
      rw [e] at hh
      simp at hh
    have hhl : (holdL N G).length ≤ 36 := by
      unfold holdL
      exact Nat.le_trans (List.length_filter_le _ _) hsl
    have hhp := List.length_pos_iff.mpr hne
    have hmem : ∀ x ∈ holdL N G, x ∈ stands N G := fun x hx => by
      unfold holdL at hx
      exact (List.mem_filter.mp hx).1
    obtain ⟨at', u5, e5, hat, hu5⟩ := q_take (n := n + 7) (m := (holdL N G).length) hu4 (by omega) (by omega) (by omega)
    obtain ⟨i, rfl⟩ : ∃ i : Nat, at' = (i : Int) := ⟨at'.toNat, by omega⟩
    refine sp_if1 (p := false) (z := .bool false) (u1 := u4) ?_ rfl (fun h => by cases h) fun _ => ?_
    · exact ev_to (ev_not (ev_call (ev_cons (ev_lst (ev_cons (ev_op (ev_var rfl) ev_non (o_isN _)) (ev_cons (ev_op (ev_var rfl) ev_non (o_isN _)) ev_nil)) rfl) (ev_cons (ev_lst (ev_cons (ev_op (ev_var rfl) ev_non (o_isN _)) (ev_cons (ev_op (ev_var rfl) ev_non (o_isnN _)) ev_nil)) rfl) ev_nil)) hs2) rfl) rfl
    apply sp_nil1
    refine sp_if1 (p := true) (z := .bool true) (u1 := u4) (ev_op (ev_var rfl) ev_non rfl) rfl (fun _ => ?_) (fun h => by cases h)
    apply sp_assoc
    refine sp_set1 (d := .int (i : Int)) (u1 := u5) (ev_callUu (ev_cons (ev_blt (ev_cons (ev_var rfl) ev_nil) (f_lenT enc (holdL N G))) ev_nil) e5) ?_
    apply sp_assoc
    refine sp_set1 (u1 := u5) (things1 (xs := holdL N G) (i := i) hwN (by omega)) ?_
    apply sp_assoc
    show Sp _ _ _ [some (scrD ns), none, some N.d, some G.d, some (.int (i : Int)), some (.list ([holdL N G, (holdL N G).take i ++ (holdL N G).drop (i + 1), (holdL N G).reverse, holdL N G ++ [(⟨0, N.H - 1, 0⟩ : I3)]].map enc)), none, some w, some s, some .none, some .none, some (.tuple ((holdL N G).map enc)), none, none, none, none, none, none, none, none, none, none, none, none, none, none] u5 _ _
    exact sp_ret1 (none_check (n := n) (tabs := [holdL N G, (holdL N G).take i ++ (holdL N G).drop (i + 1), (holdL N G).reverse, holdL N G ++ [(⟨0, N.H - 1, 0⟩ : I3)]]) (xs := holdL N G) hw hs hwN hsG o g (hold_tabs o g hhl hmem) (by simp)) rfl
  | true =>
    simp only [Bool.false_eq_true, Bool.not_true, if_true, if_false]
    show Sp _ _ _ [some (scrD ns), none, some N.d, some G.d, none, none, none, some w, some s, some (.int (ticksI N G)), some (.tuple ((wayL N G).map enc)), some .none, none, none, none, none, none, none, none, none, none, none, none, none, none, none] u4 _ _
    have hs2 := same_bools (n := n + 6) [false, true] (by simp)
    have wk := way_ok o g
    obtain ⟨hb, p0, hp0, v0, hv0, hvt⟩ := way_begs o g ha
    have htk : 1 ≤ ticksI N G := by rw [← hvt]; exact (wk.row _ v0.1 v0.2 hv0).2.2.2.1
    generalize htkd : ticksI N G = tk at *
    have hwl := wk.len
    have hwp : 0 < (wayL N G).length := List.length_pos_iff.mpr (List.ne_nil_of_mem hv0)
    obtain ⟨at', u5, e5, hat, hu5⟩ := q_take (n := n + 7) (m := (wayL N G).length) hu4 (by omega) (by omega) (by omega)
    obtain ⟨i, rfl⟩ : ∃ i : Nat, at' = (i : Int) := ⟨at'.toNat, by omega⟩
    obtain ⟨⟨k, t, m⟩, hx1, hx2⟩ := atI_get (xs := wayL N G) hat.1 hat.2
    rw [Int.toNat_natCast] at hx2
    refine sp_if1 (p := false) (z := .bool false) (u1 := u4) ?_ rfl (fun h => by cases h) fun _ => ?_
    · exact ev_to (ev_not (ev_call (ev_cons (ev_lst (ev_cons (ev_op (ev_var rfl) ev_non (o_isN _)) (ev_cons (ev_op (ev_var rfl) ev_non (o_isN _)) ev_nil)) rfl) (ev_cons (ev_lst (ev_cons (ev_op (ev_var rfl) ev_non (o_isN _)) (ev_cons (ev_op (ev_var rfl) ev_non (o_isnN _)) ev_nil)) rfl) ev_nil)) hs2) rfl) rfl
    apply sp_nil1
    refine sp_if1 (p := false) (z := .bool false) (u1 := u4) (ev_op (ev_var rfl) ev_non rfl) rfl (fun h => by cases h) fun _ => ?_
    apply sp_nil1
    refine sp_set1 (d := .int (i : Int)) (u1 := u5) (ev_callUu (ev_cons (ev_blt (ev_cons (ev_var rfl) ev_nil) (f_lenT enc (wayL N G))) ev_nil) e5) ?_
    refine sp_bind1 (d := enc (k, (t, m))) (u1 := u5) (ρ1 := [some (scrD ns), none, some N.d, some G.d, some (.int (i : Int)), none, none, some w, some s, some (.int tk), some (.tuple ((wayL N G).map enc)), some .none, none, none, none, some (.int k.a), some (.int k.b), some (.int k.c), some (.int t), some (.int m), none, none, none, none, none, none]) (ev_ix (ev_var rfl) (ev_var rfl) (subT hx1)) rfl ?_
    refine sp_set1 (u1 := u5) (things2 (H := N.H) (xs := wayL N G) (i := i) (k := k) (t := t) (m := m) (by omega)) ?_
    refine sp_if1 (p := false) (z := .bool false) (u1 := u5) ?_ rfl (fun h => by cases h) fun _ => ?_
    · exact ev_to (ev_not (way_check (n := n) (tabs := tabs6 N.H (wayL N G) i k t m) (xs := wayL N G) hw hs hwN hsG o g (way_tabs o wk hx2) (by simp [tabs6])) rfl) rfl
    apply sp_nil1
    obtain ⟨T, hT⟩ : ∃ T : Nat, (T : Int) = if 6 < tk then 6 else tk := ⟨(if 6 < tk then 6 else tk).toNat, by split <;> omega⟩
    have hT6 : T ≤ 6 := by split at hT <;> omega
    refine sp_par1 (ds := [.int 0, .int (T : Int)]) (u1 := u5) (ev_cons ev_int (ev_cons (ev_blt (ev_cons (ev_var rfl) (ev_cons ev_int ev_nil)) (some_to rfl (by rw [hT]))) ev_nil)) rfl ?_
    show Sp _ _ _ [some (scrD ns), none, some N.d, some G.d, some (.int (i : Int)), some (.list ((tabs6 N.H (wayL N G) i k t m).map enc)), none, some w, some s, some (.int tk), some (.tuple ((wayL N G).map enc)), some .none, some (.int 0), some (.int (T : Int)), none, some (.int k.a), some (.int k.b), some (.int k.c), some (.int t), some (.int m), none, none, none, none, none, none] u5 _ _
    have hwT := q_law_walks (n := n + 6) hsG g hT6
    have hw1 := q_law_walks (n := n + 6) hsG g (T := 1) (by omega)
    have hwlen := walksL_len g T
    have hpow : 9 ^ T ≤ 9 ^ 6 := Nat.pow_le_pow_right (by omega) hT6
    have h96 : (9 : Nat) ^ 6 = 531441 := by decide
    have hslen : (srt (walksL G T)).length = (walksL G T).length := (srt_perm _).length_eq
    have ht200 : ((srt (walksL G T)).map enc : List D).take (Int.toNat 200) = ((srt (walksL G T)).take 200).map enc := by rw [List.map_take]; rfl
    apply sp_for1 (α := List Int) (enc := enc) (xs := (srt (walksL G T)).take 200) (fun r ρ u => ∃ (ℓ : Int) (ds : List (List Int)), (∃ (j6 j14 j15 j16 j17 j18 j19 j20 j21 j22 j23 j24 j25 : Option D), ρ = [some (scrD ns), none, some N.d, some G.d, some (.int (i : Int)), some (.list ((tabs6 N.H (wayL N G) i k t m).map enc)), j6, some w, some s, some (.int tk), some (.tuple ((wayL N G).map enc)), some .none, some (.int ℓ), some (.int (T : Int)), j14, j15, j16, j17, j18, j19, j20, j21, j22, j23, j24, j25]) ∧ ds ++ r = (srt (walksL G T)).take 200 ∧ (0 ≤ ℓ ∧ ℓ ≤ T) ∧ (∀ v ∈ ds, ((ledR N (wayL N G) v T).length : Int) - 1 ≤ ℓ) ∧ UOk (2000 + 300 * ds.length) u)
    · refine ev_sl (ev_call (ev_cons (ev_var rfl) (ev_cons (ev_var rfl) ev_nil)) hwT) ev_no ev_int rfl rfl (sl_lt _ (by omega))
    · rw [ht200]; exact rfl
    · exact ⟨0, [], ⟨_, _, _, _, _, _, _, _, _, _, _, _, _, rfl⟩, rfl, ⟨Int.le_refl _, by omega⟩, fun v h => (by cases h), hu5.mono (by simp)⟩
    · rintro v r ρ u ⟨ℓ, ds, ⟨j6, j14, j15, j16, j17, j18, j19, j20, j21, j22, j23, j24, j25, rfl⟩, hds, hℓ, hall, hu⟩
      have hdl : ds.length ≤ 200 := by
        have := congrArg List.length hds
        rw [List.length_append, List.length_take] at this; omega
      have hvm : v ∈ walksL G T := by
        have : v ∈ (srt (walksL G T)).take 200 := by rw [← hds]; exact List.mem_append_right _ List.mem_cons_self
        exact mem_srt.mp (List.mem_of_mem_take this)
      have hll := ledR_len N (wayL N G) v T
      refine ⟨_, rfl, ?_⟩
      refine sp_mono (walk_body (n := n) hw hs hwN hsG o g wk hb hT hT6 hvm hu (by omega)) ?_ (fun _ _ h => h.elim)
      rintro ρ' u' ⟨⟨j6, j14, j15, j16, j17, j18, j19, j20, j21, j22, j23, j24, j25, rfl⟩, hu'⟩
      refine ⟨_, ds ++ [v], ⟨_, _, _, _, _, _, _, _, _, _, _, _, _, rfl⟩, by rw [List.append_assoc]; exact hds, ?_, fun x hx => ?_, hu'.mono (by rw [List.length_append]; simp; omega)⟩
      · split <;> omega
      · rcases List.mem_append.mp hx with hx | hx
        · have := hall x hx
          split <;> omega
        · rw [List.mem_singleton] at hx
          rw [hx]
          split <;> omega
    · rintro ρ u ⟨ℓ, ds, ⟨j6, j14, j15, j16, j17, j18, j19, j20, j21, j22, j23, j24, j25, rfl⟩, hds, hℓ, hall, hu⟩
      rw [List.append_nil] at hds
      have hdl : ds.length ≤ 200 := by
        have := congrArg List.length hds
        rw [List.length_take] at this; omega
      have hne1 : srt (walksL G 1) ≠ [] := by
        obtain ⟨q, hq⟩ := List.exists_mem_of_ne_nil _ (g.s1 p0 (g.bp p0 hp0).1 (g.bp p0 hp0).2)
        refine List.ne_nil_of_mem (a := [p0, q]) (mem_srt.mpr (walksL_all 1 [p0, q] rfl ⟨p0, rfl, hp0⟩ fun j hj => ?_))
        have : j = 0 := by omega
        subst this
        exact hq
      obtain ⟨v1, u6, e6, hv1, hu6⟩ := q_of (n := n + 6) hu (by omega) (.inl rfl) hne1 (f := enc) (by rw [(srt_perm _).length_eq]; have := walksL_len g 1; omega)
      have hv1 := mem_srt.mp hv1
      obtain ⟨a1, a2, a3, a4⟩ := walksL_ok g 1 v1 hv1
      have hwv : WalkV G v1 := ⟨a3, fun j hj => a4 j (by omega)⟩
      have hwv1 : WalkV G (v1.take 1) := by
        obtain ⟨p, b1, b2⟩ := a3
        exact ⟨⟨p, by rw [take_at (by omega)]; exact b1, b2⟩, fun j hj => by rw [List.length_take] at hj; omega⟩
      have hlook : ∀ v : List Int, WalkV G v → ∀ t, t + 1 < v.length → DN.hs N (wayL N G) v t ≠ N.H - 1 → (look (⟨(t : Int) % N.B, DN.hs N (wayL N G) v t, (v[t]?).getD 0⟩ : I3) (wayL N G)).isSome = true := fun v hv t ht hne => by
        obtain ⟨val, e, _⟩ := led_some o g wk hb hv t (by omega) hne
        rw [e]; rfl
      have hB := o.B1
      have hy : tupD (.tuple ((wayL N G).map enc)) = .tuple ((wayL N G).map enc) := tupD_enc (wayL N G)
      have hled1 := q_led (n := n + 2) hw hy (okD_way hwl) (by omega) wk.nd (by omega) (.inr rfl : SeqI (.tuple (v1.map enc)) v1) (by omega) (by omega) (hlook v1 hwv)
      have hled2 := q_led (n := n + 2) hw hy (okD_way hwl) (by omega) wk.nd (by omega) (.inr rfl : SeqI (.tuple ((v1.take 1).map enc)) (v1.take 1)) (by rw [List.length_take]; omega) (by rw [List.length_take]; omega) (hlook _ hwv1)
      have hH := o.H3
      have l1 : (ledR N (wayL N G) v1 (v1.length - 1)).length = 2 := by
        rw [a1]
        show (ledR N (wayL N G) v1 (0 + 1)).length = 2
        rw [ledR_go (by show (0 : Int) ≠ N.H - 1; omega)]; rfl
      have l2 : ledR N (wayL N G) (v1.take 1) ((v1.take 1).length - 1) = [0] := by
        have : (v1.take 1).length = 1 := by rw [List.length_take]; omega
        rw [this]; rfl
      rw [l2] at hled2
      have hfin : (decide (6 < tk) || (decide ((200 : Int) < ((srt (walksL G T)).length : Int)) || decide (ℓ = tk))) = true := by
        by_cases c1 : 6 < tk
        · rw [decide_eq_true c1]; rfl
        by_cases c2 : (200 : Int) < ((srt (walksL G T)).length : Int)
        · rw [decide_eq_true c2]; simp
        rw [if_neg c1] at hT
        rw [List.take_of_length_le (by omega)] at hds
        obtain ⟨v, b1, b2, b3⟩ := longest o g wk hp0 hv0 (T := T) (by rw [hvt, hT])
        have hvm : v ∈ ds := by
          rw [hds]
          exact mem_srt.mpr (walksL_all T v b1 b2.1 fun j hj => b2.2 j (by omega))
        have := hall v hvm
        rw [b3] at this
        have : ℓ = tk := by omega
        rw [decide_eq_true this]; simp
      refine sp_set1 (d := .tuple (v1.map enc)) (u1 := u6) (ev_callUu (ev_cons (ev_call (ev_cons (ev_var rfl) (ev_cons ev_int ev_nil)) hw1) ev_nil) e6) ?_
      refine sp_ret1 (ev_and (ev_op (ev_blt (ev_cons (ev_call (ev_cons (ev_var rfl) (ev_cons (ev_var rfl) (ev_cons (ev_var rfl) ev_nil))) hled1) ev_nil) (f_lenT _ _)) ev_int (o_eqI _ _)) fun _ => ev_and (ev_op (ev_call (ev_cons (ev_var rfl) (ev_cons (ev_var rfl) (ev_cons (ev_sl (ev_var rfl) ev_no ev_int rfl rfl (some_to (sl_tt _ (by omega)) (by rw [← List.map_take]; rfl))) ev_nil))) hled2) (ev_tup (ev_cons ev_int ev_nil) rfl) (o_eq (α := List Int) [0] [0] (by decide))) fun _ => ev_or (ev_op (ev_var rfl) ev_int (o_gtI _ _)) fun _ => ev_or (ev_op (ev_blt (ev_cons (ev_call (ev_cons (ev_var rfl) (ev_cons (ev_var rfl) ev_nil)) hwT) ev_nil) (f_len _ _)) ev_int (o_gtI _ _)) fun _ => ev_op (ev_var rfl) (ev_var rfl) (o_eqI _ _)) ?_
      rw [l1, hfin]; rfl
end Pg

end
section
set_option Elab.async false
set_option linter.all false
set_option autoImplicit false
set_option maxRecDepth 100000
set_option maxHeartbeats 0
namespace Pg
open PySem PySem.Spec PyProof.Rows L2 DL
theorem mk {K : PySem.W.Frag} {mg : Str → Option Value} {g : FnD} {a : Addr} {fd : FuncData} {qual : Str} {params : Arguments} {body : List Stmt} {scope : Scope} (hm : mg g.name = some (.ref a)) (F : FunD K g.name qual params body scope [] [] a fd) (S : FnScope g.N g.ps scope)
    (B : ∀ (kV doc pm : Value) (an : Option Addr) (cdv ct : Value) (us : List Value), us.length = g.ps.length → bindArgs (PySem.W.fnOf g.name qual params body scope .none kV doc pm an cdv ct) ⟨us, []⟩ = pure (g.ps.zip us)) (c : chkFn fns free g body scope = true) : DefOk K mg fns free g := ⟨a, fd, qual, params, body, scope, hm, F, S, F.bindsN B, c⟩
theorem s_tupled : FnScope f_tupled.N f_tupled.ps (defScope (Hd.top 1)) := ⟨rfl, rfl, rfl, by decide +kernel, rfl, by decide +kernel, by decide +kernel⟩
theorem s_is_number : FnScope f_is_number.N f_is_number.ps (defScope (Hd.top 2)) := ⟨rfl, rfl, rfl, by decide +kernel, rfl, by decide +kernel, by decide +kernel⟩
theorem s_is_from : FnScope f_is_from.N f_is_from.ps (defScope (Hd.top 3)) := ⟨rfl, rfl, rfl, by decide +kernel, rfl, by decide +kernel, by decide +kernel⟩
theorem s_is_below : FnScope f_is_below.N f_is_below.ps (defScope (Hd.top 4)) := ⟨rfl, rfl, rfl, by decide +kernel, rfl, by decide +kernel, by decide +kernel⟩
theorem s_is_tuple_of : FnScope f_is_tuple_of.N f_is_tuple_of.ps (defScope (Hd.top 5)) := ⟨rfl, rfl, rfl, by decide +kernel, rfl, by decide +kernel, by decide +kernel⟩
theorem s_is_rising : FnScope f_is_rising.N f_is_rising.ps (defScope (Hd.top 6)) := ⟨rfl, rfl, rfl, by decide +kernel, rfl, by decide +kernel, by decide +kernel⟩
theorem s_set_of : FnScope f_set_of.N f_set_of.ps (defScope (Hd.top 7)) := ⟨rfl, rfl, rfl, by decide +kernel, rfl, by decide +kernel, by decide +kernel⟩
theorem s_goes : FnScope f_goes.N f_goes.ps (defScope (Hd.top 11)) := ⟨rfl, rfl, rfl, by decide +kernel, rfl, by decide +kernel, by decide +kernel⟩
theorem s_goes_on : FnScope f_goes_on.N f_goes_on.ps (defScope (Hd.top 13)) := ⟨rfl, rfl, rfl, by decide +kernel, rfl, by decide +kernel, by decide +kernel⟩
theorem s_is_route : FnScope f_is_route.N f_is_route.ps (defScope (Hd.top 14)) := ⟨rfl, rfl, rfl, by decide +kernel, rfl, by decide +kernel, by decide +kernel⟩
theorem s_lots_held : FnScope f_lots_held.N f_lots_held.ps (defScope (Hd.top 16)) := ⟨rfl, rfl, rfl, by decide +kernel, rfl, by decide +kernel, by decide +kernel⟩
theorem s_held : FnScope f_held.N f_held.ps (defScope (Hd.top 17)) := ⟨rfl, rfl, rfl, by decide +kernel, rfl, by decide +kernel, by decide +kernel⟩
theorem s_is_past : FnScope f_is_past.N f_is_past.ps (defScope (Hd.top 18)) := ⟨rfl, rfl, rfl, by decide +kernel, rfl, by decide +kernel, by decide +kernel⟩
theorem s_meets : FnScope f_meets.N f_meets.ps (defScope (Hd.top 19)) := ⟨rfl, rfl, rfl, by decide +kernel, rfl, by decide +kernel, by decide +kernel⟩
theorem s_ways_past : FnScope f_ways_past.N f_ways_past.ps (defScope (Hd.top 20)) := ⟨rfl, rfl, rfl, by decide +kernel, rfl, by decide +kernel, by decide +kernel⟩
theorem s_least_past : FnScope f_least_past.N f_least_past.ps (defScope (Hd.top 21)) := ⟨rfl, rfl, rfl, by decide +kernel, rfl, by decide +kernel, by decide +kernel⟩
theorem s_a_route_past : FnScope f_a_route_past.N f_a_route_past.ps (defScope (Hd.top 22)) := ⟨rfl, rfl, rfl, by decide +kernel, rfl, by decide +kernel, by decide +kernel⟩
theorem s_is_standing : FnScope f_is_standing.N f_is_standing.ps (defScope (Hd.top 24)) := ⟨rfl, rfl, rfl, by decide +kernel, rfl, by decide +kernel, by decide +kernel⟩
theorem s_begun : FnScope f_begun.N f_begun.ps (defScope (Hd.top 25)) := ⟨rfl, rfl, rfl, by decide +kernel, rfl, by decide +kernel, by decide +kernel⟩
theorem s_all_standings : FnScope f_all_standings.N f_all_standings.ps (defScope (Hd.top 26)) := ⟨rfl, rfl, rfl, by decide +kernel, rfl, by decide +kernel, by decide +kernel⟩
theorem s_behind : FnScope f_behind.N f_behind.ps (defScope (Hd.top 27)) := ⟨rfl, rfl, rfl, by decide +kernel, rfl, by decide +kernel, by decide +kernel⟩
theorem s_best_move : FnScope f_best_move.N f_best_move.ps (defScope (Hd.top 28)) := ⟨rfl, rfl, rfl, by decide +kernel, rfl, by decide +kernel, by decide +kernel⟩
theorem s_won_from : FnScope f_won_from.N f_won_from.ps (defScope (Hd.top 29)) := ⟨rfl, rfl, rfl, by decide +kernel, rfl, by decide +kernel, by decide +kernel⟩
theorem s_a_way : FnScope f_a_way.N f_a_way.ps (defScope (Hd.top 30)) := ⟨rfl, rfl, rfl, by decide +kernel, rfl, by decide +kernel, by decide +kernel⟩
theorem s_is_row : FnScope f_is_row.N f_is_row.ps (defScope (Hd.top 31)) := ⟨rfl, rfl, rfl, by decide +kernel, rfl, by decide +kernel, by decide +kernel⟩
theorem s_goes_down : FnScope f_goes_down.N f_goes_down.ps (defScope (Hd.top 32)) := ⟨rfl, rfl, rfl, by decide +kernel, rfl, by decide +kernel, by decide +kernel⟩
theorem s_is_way : FnScope f_is_way.N f_is_way.ps (defScope (Hd.top 33)) := ⟨rfl, rfl, rfl, by decide +kernel, rfl, by decide +kernel, by decide +kernel⟩
theorem s_a_hold : FnScope f_a_hold.N f_a_hold.ps (defScope (Hd.top 34)) := ⟨rfl, rfl, rfl, by decide +kernel, rfl, by decide +kernel, by decide +kernel⟩
theorem s_is_kept : FnScope f_is_kept.N f_is_kept.ps (defScope (Hd.top 35)) := ⟨rfl, rfl, rfl, by decide +kernel, rfl, by decide +kernel, by decide +kernel⟩
theorem s_is_hold : FnScope f_is_hold.N f_is_hold.ps (defScope (Hd.top 36)) := ⟨rfl, rfl, rfl, by decide +kernel, rfl, by decide +kernel, by decide +kernel⟩
theorem s_seen_ticks : FnScope f_seen_ticks.N f_seen_ticks.ps (defScope (Hd.top 37)) := ⟨rfl, rfl, rfl, by decide +kernel, rfl, by decide +kernel, by decide +kernel⟩
theorem s_led : FnScope f_led.N f_led.ps (defScope (Hd.top 38)) := ⟨rfl, rfl, rfl, by decide +kernel, rfl, by decide +kernel, by decide +kernel⟩
theorem s__law_box : FnScope f__law_box.N f__law_box.ps (defScope (Hd.top 40)) := ⟨rfl, rfl, rfl, by decide +kernel, rfl, by decide +kernel, by decide +kernel⟩
theorem s__law_take : FnScope f__law_take.N f__law_take.ps (defScope (Hd.top 41)) := ⟨rfl, rfl, rfl, by decide +kernel, rfl, by decide +kernel, by decide +kernel⟩
theorem s__law_cells : FnScope f__law_cells.N f__law_cells.ps (defScope (Hd.top 42)) := ⟨rfl, rfl, rfl, by decide +kernel, rfl, by decide +kernel, by decide +kernel⟩
theorem s__law_mixed : FnScope f__law_mixed.N f__law_mixed.ps (defScope (Hd.top 43)) := ⟨rfl, rfl, rfl, by decide +kernel, rfl, by decide +kernel, by decide +kernel⟩
theorem s__law_same : FnScope f__law_same.N f__law_same.ps (defScope (Hd.top 44)) := ⟨rfl, rfl, rfl, by decide +kernel, rfl, by decide +kernel, by decide +kernel⟩
theorem s__law_of : FnScope f__law_of.N f__law_of.ps (defScope (Hd.top 45)) := ⟨rfl, rfl, rfl, by decide +kernel, rfl, by decide +kernel, by decide +kernel⟩
theorem s__law_net : FnScope f__law_net.N f__law_net.ps (defScope (Hd.top 46)) := ⟨rfl, rfl, rfl, by decide +kernel, rfl, by decide +kernel, by decide +kernel⟩
theorem s__law_guard : FnScope f__law_guard.N f__law_guard.ps (defScope (Hd.top 47)) := ⟨rfl, rfl, rfl, by decide +kernel, rfl, by decide +kernel, by decide +kernel⟩
theorem s__law_goes : FnScope f__law_goes.N f__law_goes.ps (defScope (Hd.top 48)) := ⟨rfl, rfl, rfl, by decide +kernel, rfl, by decide +kernel, by decide +kernel⟩
theorem s__law_steps : FnScope f__law_steps.N f__law_steps.ps (defScope (Hd.top 49)) := ⟨rfl, rfl, rfl, by decide +kernel, rfl, by decide +kernel, by decide +kernel⟩
theorem s__law_walks : FnScope f__law_walks.N f__law_walks.ps (defScope (Hd.top 50)) := ⟨rfl, rfl, rfl, by decide +kernel, rfl, by decide +kernel, by decide +kernel⟩
theorem s__law_way : FnScope f__law_way.N f__law_way.ps (defScope (Hd.top 51)) := ⟨rfl, rfl, rfl, by decide +kernel, rfl, by decide +kernel, by decide +kernel⟩
theorem s__law_hold : FnScope f__law_hold.N f__law_hold.ps (defScope (Hd.top 52)) := ⟨rfl, rfl, rfl, by decide +kernel, rfl, by decide +kernel, by decide +kernel⟩
theorem s_law : FnScope f_law.N f_law.ps (defScope (Hd.top 53)) := ⟨rfl, rfl, rfl, by decide +kernel, rfl, by decide +kernel, by decide +kernel⟩
section
variable {K : PySem.W.Frag} {h : Heap} {mg : Str → Option Value}
theorem d_tupled (X : K.In h) (G : h.Ns mainGlobals mg) (c : He.SaysD Hd.fa Hd.fn K) : DefOk K mg fns free f_tupled := by
  obtain ⟨fd, F⟩ := c.def_ 0 (d := Hd.mkD "tupled" 1) rfl
  exact mk (He.glo_ok X G (c.fact 0 (f := .glo "tupled") rfl)) F s_tupled (fun _ _ _ _ _ _ us hl => match us, hl with | [_], _ => rfl) c_tupled
theorem d_is_number (X : K.In h) (G : h.Ns mainGlobals mg) (c : He.SaysD Hd.fa Hd.fn K) : DefOk K mg fns free f_is_number := by
  obtain ⟨fd, F⟩ := c.def_ 1 (d := Hd.mkD "is_number" 2) rfl
  exact mk (He.glo_ok X G (c.fact 1 (f := .glo "is_number") rfl)) F s_is_number (fun _ _ _ _ _ _ us hl => match us, hl with | [_], _ => rfl) c_is_number
theorem d_is_from (X : K.In h) (G : h.Ns mainGlobals mg) (c : He.SaysD Hd.fa Hd.fn K) : DefOk K mg fns free f_is_from := by
  obtain ⟨fd, F⟩ := c.def_ 2 (d := Hd.mkD "is_from" 3) rfl
  exact mk (He.glo_ok X G (c.fact 2 (f := .glo "is_from") rfl)) F s_is_from (fun _ _ _ _ _ _ us hl => match us, hl with | [_, _], _ => rfl) c_is_from
theorem d_is_below (X : K.In h) (G : h.Ns mainGlobals mg) (c : He.SaysD Hd.fa Hd.fn K) : DefOk K mg fns free f_is_below := by
  obtain ⟨fd, F⟩ := c.def_ 3 (d := Hd.mkD "is_below" 4) rfl
  exact mk (He.glo_ok X G (c.fact 3 (f := .glo "is_below") rfl)) F s_is_below (fun _ _ _ _ _ _ us hl => match us, hl with | [_, _], _ => rfl) c_is_below
theorem d_is_tuple_of (X : K.In h) (G : h.Ns mainGlobals mg) (c : He.SaysD Hd.fa Hd.fn K) : DefOk K mg fns free f_is_tuple_of := by
  obtain ⟨fd, F⟩ := c.def_ 4 (d := Hd.mkD "is_tuple_of" 5) rfl
  exact mk (He.glo_ok X G (c.fact 4 (f := .glo "is_tuple_of") rfl)) F s_is_tuple_of (fun _ _ _ _ _ _ us hl => match us, hl with | [_, _], _ => rfl) c_is_tuple_of
theorem d_is_rising (X : K.In h) (G : h.Ns mainGlobals mg) (c : He.SaysD Hd.fa Hd.fn K) : DefOk K mg fns free f_is_rising := by
  obtain ⟨fd, F⟩ := c.def_ 5 (d := Hd.mkD "is_rising" 6) rfl
  exact mk (He.glo_ok X G (c.fact 5 (f := .glo "is_rising") rfl)) F s_is_rising (fun _ _ _ _ _ _ us hl => match us, hl with | [_], _ => rfl) c_is_rising
theorem d_set_of (X : K.In h) (G : h.Ns mainGlobals mg) (c : He.SaysD Hd.fa Hd.fn K) : DefOk K mg fns free f_set_of := by
  obtain ⟨fd, F⟩ := c.def_ 6 (d := Hd.mkD "set_of" 7) rfl
  exact mk (He.glo_ok X G (c.fact 6 (f := .glo "set_of") rfl)) F s_set_of (fun _ _ _ _ _ _ us hl => match us, hl with | [_], _ => rfl) c_set_of
theorem d_goes (X : K.In h) (G : h.Ns mainGlobals mg) (c : He.SaysD Hd.fa Hd.fn K) : DefOk K mg fns free f_goes := by
  obtain ⟨fd, F⟩ := c.def_ 7 (d := Hd.mkD "goes" 11) rfl
  exact mk (He.glo_ok X G (c.fact 7 (f := .glo "goes") rfl)) F s_goes (fun _ _ _ _ _ _ us hl => match us, hl with | [_, _], _ => rfl) c_goes
theorem d_goes_on (X : K.In h) (G : h.Ns mainGlobals mg) (c : He.SaysD Hd.fa Hd.fn K) : DefOk K mg fns free f_goes_on := by
  obtain ⟨fd, F⟩ := c.def_ 8 (d := Hd.mkD "goes_on" 13) rfl
  exact mk (He.glo_ok X G (c.fact 8 (f := .glo "goes_on") rfl)) F s_goes_on (fun _ _ _ _ _ _ us hl => match us, hl with | [_, _, _], _ => rfl) c_goes_on
theorem d_is_route (X : K.In h) (G : h.Ns mainGlobals mg) (c : He.SaysD Hd.fa Hd.fn K) : DefOk K mg fns free f_is_route := by
  obtain ⟨fd, F⟩ := c.def_ 9 (d := Hd.mkD "is_route" 14) rfl
  exact mk (He.glo_ok X G (c.fact 9 (f := .glo "is_route") rfl)) F s_is_route (fun _ _ _ _ _ _ us hl => match us, hl with | [_, _, _], _ => rfl) c_is_route
theorem d_lots_held (X : K.In h) (G : h.Ns mainGlobals mg) (c : He.SaysD Hd.fa Hd.fn K) : DefOk K mg fns free f_lots_held := by
  obtain ⟨fd, F⟩ := c.def_ 10 (d := Hd.mkD "lots_held" 16) rfl
  exact mk (He.glo_ok X G (c.fact 10 (f := .glo "lots_held") rfl)) F s_lots_held (fun _ _ _ _ _ _ us hl => match us, hl with | [_, _], _ => rfl) c_lots_held
theorem d_held (X : K.In h) (G : h.Ns mainGlobals mg) (c : He.SaysD Hd.fa Hd.fn K) : DefOk K mg fns free f_held := by
  obtain ⟨fd, F⟩ := c.def_ 11 (d := Hd.mkD "held" 17) rfl
  exact mk (He.glo_ok X G (c.fact 11 (f := .glo "held") rfl)) F s_held (fun _ _ _ _ _ _ us hl => match us, hl with | [_, _], _ => rfl) c_held
theorem d_is_past (X : K.In h) (G : h.Ns mainGlobals mg) (c : He.SaysD Hd.fa Hd.fn K) : DefOk K mg fns free f_is_past := by
  obtain ⟨fd, F⟩ := c.def_ 12 (d := Hd.mkD "is_past" 18) rfl
  exact mk (He.glo_ok X G (c.fact 12 (f := .glo "is_past") rfl)) F s_is_past (fun _ _ _ _ _ _ us hl => match us, hl with | [_, _], _ => rfl) c_is_past
theorem d_meets (X : K.In h) (G : h.Ns mainGlobals mg) (c : He.SaysD Hd.fa Hd.fn K) : DefOk K mg fns free f_meets := by
  obtain ⟨fd, F⟩ := c.def_ 13 (d := Hd.mkD "meets" 19) rfl
  exact mk (He.glo_ok X G (c.fact 13 (f := .glo "meets") rfl)) F s_meets (fun _ _ _ _ _ _ us hl => match us, hl with | [_, _, _], _ => rfl) c_meets
theorem d_ways_past (X : K.In h) (G : h.Ns mainGlobals mg) (c : He.SaysD Hd.fa Hd.fn K) : DefOk K mg fns free f_ways_past := by
  obtain ⟨fd, F⟩ := c.def_ 14 (d := Hd.mkD "ways_past" 20) rfl
  exact mk (He.glo_ok X G (c.fact 14 (f := .glo "ways_past") rfl)) F s_ways_past (fun _ _ _ _ _ _ us hl => match us, hl with | [_, _], _ => rfl) c_ways_past
theorem d_least_past (X : K.In h) (G : h.Ns mainGlobals mg) (c : He.SaysD Hd.fa Hd.fn K) : DefOk K mg fns free f_least_past := by
  obtain ⟨fd, F⟩ := c.def_ 15 (d := Hd.mkD "least_past" 21) rfl
  exact mk (He.glo_ok X G (c.fact 15 (f := .glo "least_past") rfl)) F s_least_past (fun _ _ _ _ _ _ us hl => match us, hl with | [_, _], _ => rfl) c_least_past
theorem d_a_route_past (X : K.In h) (G : h.Ns mainGlobals mg) (c : He.SaysD Hd.fa Hd.fn K) : DefOk K mg fns free f_a_route_past := by
  obtain ⟨fd, F⟩ := c.def_ 16 (d := Hd.mkD "a_route_past" 22) rfl
  exact mk (He.glo_ok X G (c.fact 16 (f := .glo "a_route_past") rfl)) F s_a_route_past (fun _ _ _ _ _ _ us hl => match us, hl with | [_, _, _], _ => rfl) c_a_route_past
theorem d_is_standing (X : K.In h) (G : h.Ns mainGlobals mg) (c : He.SaysD Hd.fa Hd.fn K) : DefOk K mg fns free f_is_standing := by
  obtain ⟨fd, F⟩ := c.def_ 17 (d := Hd.mkD "is_standing" 24) rfl
  exact mk (He.glo_ok X G (c.fact 17 (f := .glo "is_standing") rfl)) F s_is_standing (fun _ _ _ _ _ _ us hl => match us, hl with | [_, _, _], _ => rfl) c_is_standing
theorem d_begun (X : K.In h) (G : h.Ns mainGlobals mg) (c : He.SaysD Hd.fa Hd.fn K) : DefOk K mg fns free f_begun := by
  obtain ⟨fd, F⟩ := c.def_ 18 (d := Hd.mkD "begun" 25) rfl
  exact mk (He.glo_ok X G (c.fact 18 (f := .glo "begun") rfl)) F s_begun (fun _ _ _ _ _ _ us hl => match us, hl with | [_], _ => rfl) c_begun
theorem d_all_standings (X : K.In h) (G : h.Ns mainGlobals mg) (c : He.SaysD Hd.fa Hd.fn K) : DefOk K mg fns free f_all_standings := by
  obtain ⟨fd, F⟩ := c.def_ 19 (d := Hd.mkD "all_standings" 26) rfl
  exact mk (He.glo_ok X G (c.fact 19 (f := .glo "all_standings") rfl)) F s_all_standings (fun _ _ _ _ _ _ us hl => match us, hl with | [_, _], _ => rfl) c_all_standings
theorem d_behind (X : K.In h) (G : h.Ns mainGlobals mg) (c : He.SaysD Hd.fa Hd.fn K) : DefOk K mg fns free f_behind := by
  obtain ⟨fd, F⟩ := c.def_ 20 (d := Hd.mkD "behind" 27) rfl
  exact mk (He.glo_ok X G (c.fact 20 (f := .glo "behind") rfl)) F s_behind (fun _ _ _ _ _ _ us hl => match us, hl with | [_, _, _, _], _ => rfl) c_behind
theorem d_best_move (X : K.In h) (G : h.Ns mainGlobals mg) (c : He.SaysD Hd.fa Hd.fn K) : DefOk K mg fns free f_best_move := by
  obtain ⟨fd, F⟩ := c.def_ 21 (d := Hd.mkD "best_move" 28) rfl
  exact mk (He.glo_ok X G (c.fact 21 (f := .glo "best_move") rfl)) F s_best_move (fun _ _ _ _ _ _ us hl => match us, hl with | [_, _, _, _], _ => rfl) c_best_move
theorem d_won_from (X : K.In h) (G : h.Ns mainGlobals mg) (c : He.SaysD Hd.fa Hd.fn K) : DefOk K mg fns free f_won_from := by
  obtain ⟨fd, F⟩ := c.def_ 22 (d := Hd.mkD "won_from" 29) rfl
  exact mk (He.glo_ok X G (c.fact 22 (f := .glo "won_from") rfl)) F s_won_from (fun _ _ _ _ _ _ us hl => match us, hl with | [_, _], _ => rfl) c_won_from
theorem d_a_way (X : K.In h) (G : h.Ns mainGlobals mg) (c : He.SaysD Hd.fa Hd.fn K) : DefOk K mg fns free f_a_way := by
  obtain ⟨fd, F⟩ := c.def_ 23 (d := Hd.mkD "a_way" 30) rfl
  exact mk (He.glo_ok X G (c.fact 23 (f := .glo "a_way") rfl)) F s_a_way (fun _ _ _ _ _ _ us hl => match us, hl with | [_, _], _ => rfl) c_a_way
theorem d_is_row (X : K.In h) (G : h.Ns mainGlobals mg) (c : He.SaysD Hd.fa Hd.fn K) : DefOk K mg fns free f_is_row := by
  obtain ⟨fd, F⟩ := c.def_ 24 (d := Hd.mkD "is_row" 31) rfl
  exact mk (He.glo_ok X G (c.fact 24 (f := .glo "is_row") rfl)) F s_is_row (fun _ _ _ _ _ _ us hl => match us, hl with | [_, _, _], _ => rfl) c_is_row
theorem d_goes_down (X : K.In h) (G : h.Ns mainGlobals mg) (c : He.SaysD Hd.fa Hd.fn K) : DefOk K mg fns free f_goes_down := by
  obtain ⟨fd, F⟩ := c.def_ 25 (d := Hd.mkD "goes_down" 32) rfl
  exact mk (He.glo_ok X G (c.fact 25 (f := .glo "goes_down") rfl)) F s_goes_down (fun _ _ _ _ _ _ us hl => match us, hl with | [_, _, _, _], _ => rfl) c_goes_down
theorem d_is_way (X : K.In h) (G : h.Ns mainGlobals mg) (c : He.SaysD Hd.fa Hd.fn K) : DefOk K mg fns free f_is_way := by
  obtain ⟨fd, F⟩ := c.def_ 26 (d := Hd.mkD "is_way" 33) rfl
  exact mk (He.glo_ok X G (c.fact 26 (f := .glo "is_way") rfl)) F s_is_way (fun _ _ _ _ _ _ us hl => match us, hl with | [_, _, _], _ => rfl) c_is_way
theorem d_a_hold (X : K.In h) (G : h.Ns mainGlobals mg) (c : He.SaysD Hd.fa Hd.fn K) : DefOk K mg fns free f_a_hold := by
  obtain ⟨fd, F⟩ := c.def_ 27 (d := Hd.mkD "a_hold" 34) rfl
  exact mk (He.glo_ok X G (c.fact 27 (f := .glo "a_hold") rfl)) F s_a_hold (fun _ _ _ _ _ _ us hl => match us, hl with | [_, _], _ => rfl) c_a_hold
theorem d_is_kept (X : K.In h) (G : h.Ns mainGlobals mg) (c : He.SaysD Hd.fa Hd.fn K) : DefOk K mg fns free f_is_kept := by
  obtain ⟨fd, F⟩ := c.def_ 28 (d := Hd.mkD "is_kept" 35) rfl
  exact mk (He.glo_ok X G (c.fact 28 (f := .glo "is_kept") rfl)) F s_is_kept (fun _ _ _ _ _ _ us hl => match us, hl with | [_, _, _, _], _ => rfl) c_is_kept
theorem d_is_hold (X : K.In h) (G : h.Ns mainGlobals mg) (c : He.SaysD Hd.fa Hd.fn K) : DefOk K mg fns free f_is_hold := by
  obtain ⟨fd, F⟩ := c.def_ 29 (d := Hd.mkD "is_hold" 36) rfl
  exact mk (He.glo_ok X G (c.fact 29 (f := .glo "is_hold") rfl)) F s_is_hold (fun _ _ _ _ _ _ us hl => match us, hl with | [_, _, _], _ => rfl) c_is_hold
theorem d_seen_ticks (X : K.In h) (G : h.Ns mainGlobals mg) (c : He.SaysD Hd.fa Hd.fn K) : DefOk K mg fns free f_seen_ticks := by
  obtain ⟨fd, F⟩ := c.def_ 30 (d := Hd.mkD "seen_ticks" 37) rfl
  exact mk (He.glo_ok X G (c.fact 30 (f := .glo "seen_ticks") rfl)) F s_seen_ticks (fun _ _ _ _ _ _ us hl => match us, hl with | [_, _], _ => rfl) c_seen_ticks
theorem d_led (X : K.In h) (G : h.Ns mainGlobals mg) (c : He.SaysD Hd.fa Hd.fn K) : DefOk K mg fns free f_led := by
  obtain ⟨fd, F⟩ := c.def_ 31 (d := Hd.mkD "led" 38) rfl
  exact mk (He.glo_ok X G (c.fact 31 (f := .glo "led") rfl)) F s_led (fun _ _ _ _ _ _ us hl => match us, hl with | [_, _, _], _ => rfl) c_led
theorem d__law_box (X : K.In h) (G : h.Ns mainGlobals mg) (c : He.SaysD Hd.fa Hd.fn K) : DefOk K mg fns free f__law_box := by
  obtain ⟨fd, F⟩ := c.def_ 32 (d := Hd.mkD "_law_box" 40) rfl
  exact mk (He.glo_ok X G (c.fact 32 (f := .glo "_law_box") rfl)) F s__law_box (fun _ _ _ _ _ _ us hl => match us, hl with | [_, _], _ => rfl) c__law_box
theorem d__law_take (X : K.In h) (G : h.Ns mainGlobals mg) (c : He.SaysD Hd.fa Hd.fn K) : DefOk K mg fns free f__law_take := by
  obtain ⟨fd, F⟩ := c.def_ 33 (d := Hd.mkD "_law_take" 41) rfl
  exact mk (He.glo_ok X G (c.fact 33 (f := .glo "_law_take") rfl)) F s__law_take (fun _ _ _ _ _ _ us hl => match us, hl with | [_, _], _ => rfl) c__law_take
theorem d__law_cells (X : K.In h) (G : h.Ns mainGlobals mg) (c : He.SaysD Hd.fa Hd.fn K) : DefOk K mg fns free f__law_cells := by
  obtain ⟨fd, F⟩ := c.def_ 34 (d := Hd.mkD "_law_cells" 42) rfl
  exact mk (He.glo_ok X G (c.fact 34 (f := .glo "_law_cells") rfl)) F s__law_cells (fun _ _ _ _ _ _ us hl => match us, hl with | [_, _], _ => rfl) c__law_cells
theorem d__law_mixed (X : K.In h) (G : h.Ns mainGlobals mg) (c : He.SaysD Hd.fa Hd.fn K) : DefOk K mg fns free f__law_mixed := by
  obtain ⟨fd, F⟩ := c.def_ 35 (d := Hd.mkD "_law_mixed" 43) rfl
  exact mk (He.glo_ok X G (c.fact 35 (f := .glo "_law_mixed") rfl)) F s__law_mixed (fun _ _ _ _ _ _ us hl => match us, hl with | [_, _], _ => rfl) c__law_mixed
theorem d__law_same (X : K.In h) (G : h.Ns mainGlobals mg) (c : He.SaysD Hd.fa Hd.fn K) : DefOk K mg fns free f__law_same := by
  obtain ⟨fd, F⟩ := c.def_ 36 (d := Hd.mkD "_law_same" 44) rfl
  exact mk (He.glo_ok X G (c.fact 36 (f := .glo "_law_same") rfl)) F s__law_same (fun _ _ _ _ _ _ us hl => match us, hl with | [_, _], _ => rfl) c__law_same
theorem d__law_of (X : K.In h) (G : h.Ns mainGlobals mg) (c : He.SaysD Hd.fa Hd.fn K) : DefOk K mg fns free f__law_of := by
  obtain ⟨fd, F⟩ := c.def_ 37 (d := Hd.mkD "_law_of" 45) rfl
  exact mk (He.glo_ok X G (c.fact 37 (f := .glo "_law_of") rfl)) F s__law_of (fun _ _ _ _ _ _ us hl => match us, hl with | [_, _], _ => rfl) c__law_of
theorem d__law_net (X : K.In h) (G : h.Ns mainGlobals mg) (c : He.SaysD Hd.fa Hd.fn K) : DefOk K mg fns free f__law_net := by
  obtain ⟨fd, F⟩ := c.def_ 38 (d := Hd.mkD "_law_net" 46) rfl
  exact mk (He.glo_ok X G (c.fact 38 (f := .glo "_law_net") rfl)) F s__law_net (fun _ _ _ _ _ _ us hl => match us, hl with | [_, _, _], _ => rfl) c__law_net
theorem d__law_guard (X : K.In h) (G : h.Ns mainGlobals mg) (c : He.SaysD Hd.fa Hd.fn K) : DefOk K mg fns free f__law_guard := by
  obtain ⟨fd, F⟩ := c.def_ 39 (d := Hd.mkD "_law_guard" 47) rfl
  exact mk (He.glo_ok X G (c.fact 39 (f := .glo "_law_guard") rfl)) F s__law_guard (fun _ _ _ _ _ _ us hl => match us, hl with | [_, _, _], _ => rfl) c__law_guard
theorem d__law_goes (X : K.In h) (G : h.Ns mainGlobals mg) (c : He.SaysD Hd.fa Hd.fn K) : DefOk K mg fns free f__law_goes := by
  obtain ⟨fd, F⟩ := c.def_ 40 (d := Hd.mkD "_law_goes" 48) rfl
  exact mk (He.glo_ok X G (c.fact 40 (f := .glo "_law_goes") rfl)) F s__law_goes (fun _ _ _ _ _ _ us hl => match us, hl with | [_, _, _], _ => rfl) c__law_goes
theorem d__law_steps (X : K.In h) (G : h.Ns mainGlobals mg) (c : He.SaysD Hd.fa Hd.fn K) : DefOk K mg fns free f__law_steps := by
  obtain ⟨fd, F⟩ := c.def_ 41 (d := Hd.mkD "_law_steps" 49) rfl
  exact mk (He.glo_ok X G (c.fact 41 (f := .glo "_law_steps") rfl)) F s__law_steps (fun _ _ _ _ _ _ us hl => match us, hl with | [_, _], _ => rfl) c__law_steps
theorem d__law_walks (X : K.In h) (G : h.Ns mainGlobals mg) (c : He.SaysD Hd.fa Hd.fn K) : DefOk K mg fns free f__law_walks := by
  obtain ⟨fd, F⟩ := c.def_ 42 (d := Hd.mkD "_law_walks" 50) rfl
  exact mk (He.glo_ok X G (c.fact 42 (f := .glo "_law_walks") rfl)) F s__law_walks (fun _ _ _ _ _ _ us hl => match us, hl with | [_, _], _ => rfl) c__law_walks
theorem d__law_way (X : K.In h) (G : h.Ns mainGlobals mg) (c : He.SaysD Hd.fa Hd.fn K) : DefOk K mg fns free f__law_way := by
  obtain ⟨fd, F⟩ := c.def_ 43 (d := Hd.mkD "_law_way" 51) rfl
  exact mk (He.glo_ok X G (c.fact 43 (f := .glo "_law_way") rfl)) F s__law_way (fun _ _ _ _ _ _ us hl => match us, hl with | [_, _, _], _ => rfl) c__law_way
theorem d__law_hold (X : K.In h) (G : h.Ns mainGlobals mg) (c : He.SaysD Hd.fa Hd.fn K) : DefOk K mg fns free f__law_hold := by
  obtain ⟨fd, F⟩ := c.def_ 44 (d := Hd.mkD "_law_hold" 52) rfl
  exact mk (He.glo_ok X G (c.fact 44 (f := .glo "_law_hold") rfl)) F s__law_hold (fun _ _ _ _ _ _ us hl => match us, hl with | [_, _, _], _ => rfl) c__law_hold
theorem d_law (X : K.In h) (G : h.Ns mainGlobals mg) (c : He.SaysD Hd.fa Hd.fn K) : DefOk K mg fns free f_law := by
  obtain ⟨fd, F⟩ := c.def_ 45 (d := Hd.mkD "law" 53) rfl
  exact mk (He.glo_ok X G (c.fact 45 (f := .glo "law") rfl)) F s_law (fun _ _ _ _ _ _ us hl => match us, hl with | [_], _ => rfl) c_law
theorem all_defs (X : K.In h) (G : h.Ns mainGlobals mg) (c : He.SaysD Hd.fa Hd.fn K) : ∀ g ∈ fns, DefOk K mg fns free g := by
  intro g hg
  unfold fns at hg
  simp only [List.mem_cons, List.not_mem_nil, or_false] at hg
  rcases hg with rfl | rfl | rfl | rfl | rfl | rfl | rfl | rfl | rfl | rfl | rfl | rfl | rfl | rfl | rfl | rfl | rfl | rfl | rfl | rfl | rfl | rfl | rfl | rfl | rfl | rfl | rfl | rfl | rfl | rfl | rfl | rfl | rfl | rfl | rfl | rfl | rfl | rfl | rfl | rfl | rfl | rfl | rfl | rfl | rfl | rfl
  · exact d_tupled X G c
  · exact d_is_number X G c
  · exact d_is_from X G c
  · exact d_is_below X G c
  · exact d_is_tuple_of X G c
  · exact d_is_rising X G c
  · exact d_set_of X G c
  · exact d_goes X G c
  · exact d_goes_on X G c
  · exact d_is_route X G c
  · exact d_lots_held X G c
  · exact d_held X G c
  · exact d_is_past X G c
  · exact d_meets X G c
  · exact d_ways_past X G c
  · exact d_least_past X G c
  · exact d_a_route_past X G c
  · exact d_is_standing X G c
  · exact d_begun X G c
  · exact d_all_standings X G c
  · exact d_behind X G c
  · exact d_best_move X G c
  · exact d_won_from X G c
  · exact d_a_way X G c
  · exact d_is_row X G c
  · exact d_goes_down X G c
  · exact d_is_way X G c
  · exact d_a_hold X G c
  · exact d_is_kept X G c
  · exact d_is_hold X G c
  · exact d_seen_ticks X G c
  · exact d_led X G c
  · exact d__law_box X G c
  · exact d__law_take X G c
  · exact d__law_cells X G c
  · exact d__law_mixed X G c
  · exact d__law_same X G c
  · exact d__law_of X G c
  · exact d__law_net X G c
  · exact d__law_guard X G c
  · exact d__law_goes X G c
  · exact d__law_steps X G c
  · exact d__law_walks X G c
  · exact d__law_way X G c
  · exact d__law_hold X G c
  · exact d_law X G c
theorem all_free (X : K.In h) (G : h.Ns mainGlobals mg) (c : He.SaysD Hd.fa Hd.fn K) : ∀ x, free.contains x = true → mg x = none := by
  intro x hx
  have hx : x ∈ free := by simpa using hx
  unfold free at hx
  simp only [List.mem_cons, List.not_mem_nil, or_false] at hx
  rcases hx with rfl | rfl | rfl | rfl | rfl | rfl | rfl | rfl | rfl | rfl | rfl | rfl | rfl | rfl | rfl | rfl | rfl | rfl | rfl
  · exact He.free_ok X G (c.fact 46 (f := .free "len") rfl)
  · exact He.free_ok X G (c.fact 47 (f := .free "range") rfl)
  · exact He.free_ok X G (c.fact 48 (f := .free "tuple") rfl)
  · exact He.free_ok X G (c.fact 49 (f := .free "list") rfl)
  · exact He.free_ok X G (c.fact 50 (f := .free "sorted") rfl)
  · exact He.free_ok X G (c.fact 51 (f := .free "set") rfl)
  · exact He.free_ok X G (c.fact 52 (f := .free "sum") rfl)
  · exact He.free_ok X G (c.fact 53 (f := .free "all") rfl)
  · exact He.free_ok X G (c.fact 54 (f := .free "any") rfl)
  · exact He.free_ok X G (c.fact 55 (f := .free "max") rfl)
  · exact He.free_ok X G (c.fact 56 (f := .free "min") rfl)
  · exact He.free_ok X G (c.fact 57 (f := .free "abs") rfl)
  · exact He.free_ok X G (c.fact 58 (f := .free "int") rfl)
  · exact He.free_ok X G (c.fact 59 (f := .free "isinstance") rfl)
  · exact He.free_ok X G (c.fact 60 (f := .free "zip") rfl)
  · exact He.free_ok X G (c.fact 61 (f := .free "enumerate") rfl)
  · exact He.free_ok X G (c.fact 62 (f := .free "dict") rfl)
  · exact He.free_ok X G (c.fact 63 (f := .free "bool") rfl)
  · exact He.free_ok X G (c.fact 64 (f := .free "str") rfl)
end
end Pg

end
section
set_option Elab.async false
set_option linter.all false
set_option autoImplicit false
set_option maxRecDepth 100000
set_option maxHeartbeats 0
namespace Pg
open PySem PySem.Spec PyProof.Rows L2 DL

/-- what the law's def computes -/
def LawTrue : Prop := ∀ ns : List Int, ns.length ≤ 63 → ∃ u', feN fns fuel 20 45 [scrD ns] [] = some (.bool true, u')
theorem lawTrue : LawTrue := fun ns hl => by
  have h := q_law (n := 11) hl
  unfold FE at h
  exact ⟨[], by rw [h]; rfl⟩
theorem scr_at {K : PySem.W.Frag} {H : Hp} {a : Addr} {xs : List V} (h : SqL K H a xs) (ho : Only H) : ScrAt K DL.E0 H a xs := by
  rcases h with (h | ⟨o, h⟩) | h
  · rcases ho a with z | ⟨o, ys, z⟩ <;> rw [h] at z <;> cases z
  · exact .inl ⟨fun z => z, o, h⟩
  · exact .inr h
theorem sp_law {w : World} {K : PySem.W.Frag} (hL : LawTrue) (H : Hp) (a : Addr) (ns : List Int) (hl : ns.length ≤ 63) (ho : Only H) (hS : SqL K H a (ns.map V.int)) : spE w K (feN fns fuel 20 45) false false 1 [.ref a] H (fun v _ => v = .bl true) fun _ _ _ => False := by
  obtain ⟨u', e⟩ := hL ns hl
  refine ⟨rfl, DL.E0, none, [.ref a], [scrD ns], [], .bool true, u', fun p z => z.elim, fun p z => z.elim, fun b z => (nomatch z), ?_, .cons (.scr (scr_at hS ho)) .nil, e, fun v H' _ _ r _ => ?_⟩
  · rw [if_neg Bool.false_ne_true]; exact ⟨rfl, rfl⟩
  · cases r; rfl
theorem facts {P : Program} {w : World} {K : PySem.W.Frag} {h : Heap} {mg : Str → Option Value} {f : Addr} (X : K.In h) (G : h.Ns mainGlobals mg) (hfa : mg ("law" : Str) = some (.ref f)) (c : He.SaysD Hd.fa Hd.fn K) :
    ∃ fd : FuncData, (∀ (s : Shared) (v : Value), BindsTo s fd ⟨[v], []⟩ [("script", v)]) ∧ ∀ base : Heap, K.In base → base.Ns mainGlobals mg → FnOk P w K mg base CX0 20 f fd ["script"] (spE w K (feN fns fuel 20 45) false false 1) := by
  obtain ⟨fd0, F⟩ := c.def_ 45 (d := Hd.mkD "law" 53) rfl
  have e0 := hfa.symm.trans (He.glo_ok X G (c.fact 45 (f := .glo "law") rfl))
  cases e0
  have b := FunD.bindsA (ps := ["script"]) F fun _ _ _ _ _ _ us hl => match us, hl with | [_], _ => rfl
  refine ⟨fd0, fun s v => b s [v] rfl, fun base _ _ => ?_⟩
  obtain ⟨a, fd, h1, h2, h3, h4, _, _, _, _, F2⟩ := prog_ok (P := P) (w := w) (base := base) (N := fuel) (all_free X G c) (all_defs X G c) 20 45 f_law rfl
  have e1 : mg ("law" : Str) = some (.ref a) := h1
  rw [hfa] at e1
  cases e1
  obtain ⟨_, _, _, _, _, _, _, _, _, _, _, lk, _⟩ := F.ex
  obtain ⟨_, _, _, _, _, _, _, _, _, _, _, lk2, _⟩ := F2.ex
  have z := lk.symm.trans lk2
  injection z with z
  injection z with _ _ z _
  injection z with z
  subst z
  exact h4
end Pg
open PySem PySem.W PySem.Calls PyProof.Rows
theorem law_holds (hL : Pg.LawTrue) : PySem.Challenge.rw_walkedbands_k53_main_ways_led_past_each.Holds := by
  w_on; o_law
  refine HandSHeadRun.head_any (r := OpenLaw.row PySem.Challenge.rw_walkedbands_k53_main_ways_led_past_each) (q := view (OpenLaw.row PySem.Challenge.rw_walkedbands_k53_main_ways_led_past_each).prog [53]) (H := Hd.hk) (ob := Hd.ob) (M := 3000) (loose := Hd.lo) (d := HandSHeadRun.topDef (OpenLaw.row PySem.Challenge.rw_walkedbands_k53_main_ways_led_past_each).prog 53) (kwd := []) Hd.ob_eq
    (by kernel_rfl) (fun s => by kernel_rfl) Hd.run (by kernel_rfl) (by kernel_rfl) (by kernel_rfl) (by rfl) (by first | assumption | decide +kernel) (by decide +kernel) ⟨rfl, rfl, rfl, rfl, rfl, by decide +kernel⟩ ?hw ?hc
  case hw => w_witness2
  case hc =>
    refine L2.walk_ofE (l := PySem.Challenge.rw_walkedbands_k53_main_ways_led_past_each) (n := 63) (k := 20) (x := "script") (CX := L2.CX0) rfl (by decide) (by kernel_rfl) ⟨rfl, by decide, by decide⟩ ?F (fun _ _ _ _ z => z)
    intro w mg fa h Y G hmg0
    obtain ⟨K, KX, c⟩ := Y
    have hmg : mg ("law" : PySem.Str) = some (.ref fa) := by
      have e : (HandSHeadRun.topDef (OpenLaw.row PySem.Challenge.rw_walkedbands_k53_main_ways_led_past_each).prog 53).name = ("law" : PySem.Str) := by kernel_rfl
      rw [← e]
      exact hmg0
    obtain ⟨fd, hb, hF⟩ := Pg.facts (P := (PySem.Challenge.rw_walkedbands_k53_main_ways_led_past_each).prog) (w := w) KX G hmg c
    exact ⟨K, fd, _, KX, hb, fun H a ns hl hO hS => Pg.sp_law hL H a ns hl hO hS, hF⟩

end
theorem PySem.Challenge.cw_walkedbands_k53_main_ways_led_past_each_holds : PySem.Challenge.rw_walkedbands_k53_main_ways_led_past_each.Holds :=
  law_holds Pg.lawTrue
