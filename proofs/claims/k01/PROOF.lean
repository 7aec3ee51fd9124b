import PyProof.Rows.All
import HandS.ForMost
import HandS.Zip
import HandS.IsInst
import HandS.Conv
import HandS.Deep
import HandS.Flow
import HandS.Iter
import PyProof.ReprRoads
import HandS.Lambda
import HandS.TupAny
import HandS.Style
import HandS.RaiseMore
import KE.GoesMore
import PyProof.EnumMake
import HandS.Star
import HandS.More
import HandS.Wide
import HandS.EndBits
import KE.KEqDict
import PyProof.EqKinds
import PyProof.FactsAll.dict
import PyProof.FactsAll.int
import PyProof.NeKinds
import HandS.Text
import HandS.Property
import HandS.DictComp
import PyProof.TupleOfSeq
import HandS.TupSets
import HandS.Keys
import HandS.Sort
import HandS.DictTup
import KE.DataMinMax
import KE.KDictCopyH
import HandS.SortKw
import PyProof.DictUpdate
import PyProof.StrBlock2
import HandS.TupMul
import HandS.Defaults
import HandS.Small
import HandS.EndOwn
import HandS.NestedK
import KE.KExcSuper
import HandS.ExcInit
import HandS.ExcSuper
import HandS.ExcField
import HandS.ExcIs
import KE.GoesComp
import KE.GoesRaise
import HandS.MakeKwOnly
import HandS.Strs
import OpenK.KMeth
import KE.KDictZip
import KE.SortData
import KE.GoesSet
import HandS.GenList
import PyProof.ForAny
import PyProof.WalkInts
import KE.GoesComp2
import PyProof.ExcBaseAll.LookupError
import PyProof.ExcBaseAll.IndexError
import KE.KTryMore
import OpenK.KOps
import HandS.ClsMeth
import HandS.FStr
import PyProof.ExcBaseAll.OverflowError
import PyProof.ExcBaseAll.ValueError
import HandS.ExcValue
import PySem.Challenge.RW_everlit_k01_names_and_items
set_option Elab.async false
set_option linter.all false
set_option maxRecDepth 100000
set_option maxHeartbeats 2000000
set_option autoImplicit false
/-! DLa: the data layer. Values of a run read as plain data (PyData); each construct has a computable meaning over data. -/
namespace EL
open PySem PySem.Spec PyProof.Rows L2

/-! ### outcomes -/
inductive Res (α : Type) where
  | ok (a : α)
  | exc (c : Str) (fs : List (PyData × PyData))
  | bad
def Res.bind {α β : Type} (r : Res α) (k : α → Res β) : Res β :=
  match r with
  | .ok a => k a
  | .exc c fs => .exc c fs
  | .bad => .bad
/-- exceptions are no outcome -/
def Res.calm {α : Type} (r : Res α) : Res α :=
  match r with
  | .ok a => .ok a
  | _ => .bad
@[simp] theorem calm_ok {α : Type} (a : α) : Res.calm (.ok a) = .ok a := rfl
instance : Monad Res where
  pure := .ok
  bind := Res.bind
@[simp] theorem res_bind_ok {α β : Type} (a : α) (k : α → Res β) : Res.bind (.ok a) k = k a := rfl
@[simp] theorem res_bind_bad {α β : Type} (k : α → Res β) : Res.bind (Res.bad : Res α) k = .bad := rfl
@[simp] theorem res_bind_exc {α β : Type} (c : Str) (fs : List (PyData × PyData)) (k : α → Res β) : Res.bind (Res.exc c fs : Res α) k = .exc c fs := rfl

/-! ### reading values as data. O: the addresses that may still change -/
def kD : Key → PyData
  | .inl i => .int i
  | .inr x => .str x
/-- an exception at a, held as a value: its class, its dict -/
abbrev ExV (cls : Value) (d : Option Addr) (a : Addr) : HO := .ext fun h => ∃ (oe : Obj) (vs : Array Value), h.get? a = some oe ∧ L2.Zc cls d oe ∧ oe.data = .fields vs ∧ vs[1]? = some .none
mutual
inductive Rp (K : PySem.W.Frag) (O : List Addr) (H : Hp) : V → PyData → Prop
  | non : Rp K O H .non .none
  | bl (b : Bool) : Rp K O H (.bl b) (.bool b)
  | int (i : Int) : Rp K O H (.int i) (.int i)
  | str (x : Str) : x.length ≤ sizeLine → Rp K O H (.str x) (.str x)
  | lst {a : Addr} {xs : List V} {ds : List PyData} : H a = some (.lst xs) → a ∉ O → xs.length ≤ sizeLine → RpA K O H xs ds → Rp K O H (.ref a) (.list ds)
  | tup {a : Addr} {xs : List V} {ds : List PyData} : H a = some (.tup xs) → a ∉ O → xs.length ≤ sizeLine → RpA K O H xs ds → Rp K O H (.ref a) (.tuple ds)
  | tupK {a : Addr} {xs : List V} {ds : List PyData} : (∀ H', SqT K H' a xs) → xs.length ≤ sizeLine → RpA K O H xs ds → Rp K O H (.ref a) (.tuple ds)
  | dic {a : Addr} {o : Obj} {kvs : List (Key × V)} {kds : List (PyData × PyData)} : H a = some (.frz o (.dK kvs)) → a ∉ O → kvs.length ≤ sizeLine → RpD K O H kvs kds → Rp K O H (.ref a) (.dict kds)
  | ins {a C dx : Addr} {fs : List (Str × V)} {cn : Str} {fds : List (PyData × PyData)} : PySem.W.nsIn K mainGlobals cn = some (some (.ref C)) → H a = some (.ins C dx fs) → a ∉ O → fs.length ≤ 900 → RpF K O H fs fds → Rp K O H (.ref a) (.dict ((.none, .str cn) :: fds))
  | exc {a C dx : Addr} {fs : List (Str × V)} {cn : Str} {fds : List (PyData × PyData)} : PySem.W.nsIn K mainGlobals cn = some (some (.ref C)) → H a = some (ExV (.ref C) (some dx) a) → H dx = some (.xd fs) → a ∉ O → dx ∉ O → fs.length ≤ 900 → RpF K O H fs fds → Rp K O H (.ref a) (.dict ((.none, .tuple [.str cn]) :: fds))
inductive RpF (K : PySem.W.Frag) (O : List Addr) (H : Hp) : List (Str × V) → List (PyData × PyData) → Prop
  | nil : RpF K O H [] []
  | cons {f : Str} {v : V} {fs : List (Str × V)} {d : PyData} {fds : List (PyData × PyData)} : Rp K O H v d → RpF K O H fs fds → RpF K O H ((f, v) :: fs) ((.str f, d) :: fds)
inductive RpA (K : PySem.W.Frag) (O : List Addr) (H : Hp) : List V → List PyData → Prop
  | nil : RpA K O H [] []
  | cons {v : V} {vs : List V} {d : PyData} {ds : List PyData} : Rp K O H v d → RpA K O H vs ds → RpA K O H (v :: vs) (d :: ds)
inductive RpD (K : PySem.W.Frag) (O : List Addr) (H : Hp) : List (Key × V) → List (PyData × PyData) → Prop
  | nil : RpD K O H [] []
  | cons {k : Key} {v : V} {kvs : List (Key × V)} {d : PyData} {kds : List (PyData × PyData)} : Rp K O H v d → RpD K O H kvs kds → RpD K O H ((k, v) :: kvs) ((kD k, d) :: kds)
end

/-- all but O stays -/
def Keep (O : List Addr) (H H' : Hp) : Prop := ∀ a x, a ∉ O → H a = some x → H' a = some x
theorem Keep.refl {O : List Addr} (H : Hp) : Keep O H H := fun _ _ _ h => h
theorem Keep.trans {O : List Addr} {H H1 H2 : Hp} (a : Keep O H H1) (b : Keep O H1 H2) : Keep O H H2 := fun c x n h => b c x n (a c x n h)
theorem Keep.of_same {O : List Addr} {H H' : Hp} (s : Same H H') : Keep O H H' := fun a x _ h => s a x h
theorem Keep.mono {O O' : List Addr} {H H' : Hp} (k : Keep O H H') (h : ∀ a ∈ O, a ∈ O') : Keep O' H H' := fun a x n e => k a x (fun z => n (h a z)) e
theorem same_new {H : Hp} {p : Addr} {o : HO} (h : H p = none) : Same H (upd H p o) := fun b x e => by
  rw [upd_ne (ne_of_none e h)]; exact e
theorem keep_new {O : List Addr} {H : Hp} {p : Addr} {o : HO} (h : H p = none) : Keep O H (upd H p o) := .of_same (same_new h)
theorem keep_upd {O : List Addr} {H : Hp} {p : Addr} {o : HO} (h : p ∈ O) : Keep O H (upd H p o) := fun b x n e => by
  rw [upd_ne (fun z => n (by rw [z]; exact h))]; exact e

section
variable {K : PySem.W.Frag} {O O' : List Addr} {H H' : Hp}
mutual
theorem Rp.keep (k : Keep O H H') : ∀ {v : V} {d : PyData}, Rp K O H v d → Rp K O H' v d
  | _, _, .non => .non
  | _, _, .bl b => .bl b
  | _, _, .int i => .int i
  | _, _, .str x z => .str x z
  | _, _, .lst r n z a => .lst (k _ _ n r) n z (RpA.keep k a)
  | _, _, .tup r n z a => .tup (k _ _ n r) n z (RpA.keep k a)
  | _, _, .tupK r z a => .tupK r z (RpA.keep k a)
  | _, _, .dic r n z a => .dic (k _ _ n r) n z (RpD.keep k a)
  | _, _, .ins q r n z a => .ins q (k _ _ n r) n z (RpF.keep k a)
  | _, _, .exc q r r2 n n2 z a => .exc q (k _ _ n r) (k _ _ n2 r2) n n2 z (RpF.keep k a)
theorem RpF.keep (k : Keep O H H') : ∀ {fs : List (Str × V)} {ds : List (PyData × PyData)}, RpF K O H fs ds → RpF K O H' fs ds
  | _, _, .nil => .nil
  | _, _, .cons a b => .cons (Rp.keep k a) (RpF.keep k b)
theorem RpA.keep (k : Keep O H H') : ∀ {vs : List V} {ds : List PyData}, RpA K O H vs ds → RpA K O H' vs ds
  | _, _, .nil => .nil
  | _, _, .cons a b => .cons (Rp.keep k a) (RpA.keep k b)
theorem RpD.keep (k : Keep O H H') : ∀ {kvs : List (Key × V)} {ds : List (PyData × PyData)}, RpD K O H kvs ds → RpD K O H' kvs ds
  | _, _, .nil => .nil
  | _, _, .cons a b => .cons (Rp.keep k a) (RpD.keep k b)
end
mutual
/-- fewer addresses that may change -/
theorem Rp.less (h : ∀ a ∈ O', a ∈ O) : ∀ {v : V} {d : PyData}, Rp K O H v d → Rp K O' H v d
  | _, _, .non => .non
  | _, _, .bl b => .bl b
  | _, _, .int i => .int i
  | _, _, .str x z => .str x z
  | _, _, .lst r n z a => .lst r (fun q => n (h _ q)) z (RpA.less h a)
  | _, _, .tup r n z a => .tup r (fun q => n (h _ q)) z (RpA.less h a)
  | _, _, .tupK r z a => .tupK r z (RpA.less h a)
  | _, _, .dic r n z a => .dic r (fun q => n (h _ q)) z (RpD.less h a)
  | _, _, .ins g r n z a => .ins g r (fun q => n (h _ q)) z (RpF.less h a)
  | _, _, .exc g r r2 n n2 z a => .exc g r r2 (fun q => n (h _ q)) (fun q => n2 (h _ q)) z (RpF.less h a)
theorem RpF.less (h : ∀ a ∈ O', a ∈ O) : ∀ {fs : List (Str × V)} {ds : List (PyData × PyData)}, RpF K O H fs ds → RpF K O' H fs ds
  | _, _, .nil => .nil
  | _, _, .cons a b => .cons (Rp.less h a) (RpF.less h b)
theorem RpA.less (h : ∀ a ∈ O', a ∈ O) : ∀ {vs : List V} {ds : List PyData}, RpA K O H vs ds → RpA K O' H vs ds
  | _, _, .nil => .nil
  | _, _, .cons a b => .cons (Rp.less h a) (RpA.less h b)
theorem RpD.less (h : ∀ a ∈ O', a ∈ O) : ∀ {kvs : List (Key × V)} {ds : List (PyData × PyData)}, RpD K O H kvs ds → RpD K O' H kvs ds
  | _, _, .nil => .nil
  | _, _, .cons a b => .cons (Rp.less h a) (RpD.less h b)
end
mutual
/-- a new address may change -/
theorem Rp.more {p : Addr} (h : H p = none) : ∀ {v : V} {d : PyData}, Rp K O H v d → Rp K (p :: O) H v d
  | _, _, .non => .non
  | _, _, .bl b => .bl b
  | _, _, .int i => .int i
  | _, _, .str x z => .str x z
  | _, _, .lst r n z a => .lst r (fun q => by
      rcases List.mem_cons.mp q with e | e
      · subst e; rw [h] at r; cases r
      · exact n e) z (RpA.more h a)
  | _, _, .tup r n z a => .tup r (fun q => by
      rcases List.mem_cons.mp q with e | e
      · subst e; rw [h] at r; cases r
      · exact n e) z (RpA.more h a)
  | _, _, .tupK r z a => .tupK r z (RpA.more h a)
  | _, _, .dic r n z a => .dic r (fun q => by
      rcases List.mem_cons.mp q with e | e
      · subst e; rw [h] at r; cases r
      · exact n e) z (RpD.more h a)
  | _, _, .ins g r n z a => .ins g r (fun q => by
      rcases List.mem_cons.mp q with e | e
      · subst e; rw [h] at r; cases r
      · exact n e) z (RpF.more h a)
  | _, _, .exc g r r2 n n2 z a => .exc g r r2 (fun q => by
      rcases List.mem_cons.mp q with e | e
      · subst e; rw [h] at r; cases r
      · exact n e) (fun q => by
      rcases List.mem_cons.mp q with e | e
      · subst e; rw [h] at r2; cases r2
      · exact n2 e) z (RpF.more h a)
theorem RpF.more {p : Addr} (h : H p = none) : ∀ {fs : List (Str × V)} {ds : List (PyData × PyData)}, RpF K O H fs ds → RpF K (p :: O) H fs ds
  | _, _, .nil => .nil
  | _, _, .cons a b => .cons (Rp.more h a) (RpF.more h b)
theorem RpA.more {p : Addr} (h : H p = none) : ∀ {vs : List V} {ds : List PyData}, RpA K O H vs ds → RpA K (p :: O) H vs ds
  | _, _, .nil => .nil
  | _, _, .cons a b => .cons (Rp.more h a) (RpA.more h b)
theorem RpD.more {p : Addr} (h : H p = none) : ∀ {kvs : List (Key × V)} {ds : List (PyData × PyData)}, RpD K O H kvs ds → RpD K (p :: O) H kvs ds
  | _, _, .nil => .nil
  | _, _, .cons a b => .cons (Rp.more h a) (RpD.more h b)
end
theorem RpA.length : ∀ {vs : List V} {ds : List PyData}, RpA K O H vs ds → vs.length = ds.length
  | _, _, .nil => rfl
  | _, _, .cons _ b => by simp [RpA.length b]
theorem RpA.append : ∀ {vs ws : List V} {ds es : List PyData}, RpA K O H vs ds → RpA K O H ws es → RpA K O H (vs ++ ws) (ds ++ es)
  | _, _, _, _, .nil, h => h
  | _, _, _, _, .cons a b, h => .cons a (RpA.append b h)
theorem RpA.get : ∀ {vs : List V} {ds : List PyData} {i : Nat} {v : V}, RpA K O H vs ds → vs[i]? = some v → ∃ d, ds[i]? = some d ∧ Rp K O H v d
  | _, _, _, _, .nil, e => by simp at e
  | _, _, 0, _, .cons a _, e => by simp at e; subst e; exact ⟨_, rfl, a⟩
  | _, _, i + 1, v, .cons _ b, e => by
    obtain ⟨d, h1, h2⟩ := RpA.get (i := i) (v := v) b (by simpa using e)
    exact ⟨d, by simpa using h1, h2⟩
theorem RpA.getD : ∀ {vs : List V} {ds : List PyData} {i : Nat} {d : PyData}, RpA K O H vs ds → ds[i]? = some d → ∃ v, vs[i]? = some v ∧ Rp K O H v d
  | _, _, _, _, .nil, e => by simp at e
  | _, _, 0, _, .cons a _, e => by simp at e; subst e; exact ⟨_, rfl, a⟩
  | _, _, i + 1, v, .cons _ b, e => by
    obtain ⟨d, h1, h2⟩ := RpA.getD (i := i) b (by simpa using e)
    exact ⟨d, by simpa using h1, h2⟩
theorem RpA.take : ∀ {vs : List V} {ds : List PyData} (n : Nat), RpA K O H vs ds → RpA K O H (vs.take n) (ds.take n)
  | _, _, 0, _ => .nil
  | _, _, _ + 1, .nil => .nil
  | _, _, n + 1, .cons a b => .cons a (RpA.take n b)
theorem RpA.drop : ∀ {vs : List V} {ds : List PyData} (n : Nat), RpA K O H vs ds → RpA K O H (vs.drop n) (ds.drop n)
  | _, _, 0, r => r
  | _, _, _ + 1, .nil => .nil
  | _, _, n + 1, .cons _ b => RpA.drop n b
end

/-! ### an object that may change, read as data -/
/-- a dict, or an instance, as data -/
def DcO (K : PySem.W.Frag) (O : List Addr) (H : Hp) (o : HO) (kds : List (PyData × PyData)) : Prop :=
  (∃ kvs, o = .dK kvs ∧ kvs.length ≤ sizeLine ∧ RpD K O H kvs kds) ∨ ∃ C dx fs cn fds, o = .ins C dx fs ∧ kds = (.none, .str cn) :: fds ∧ PySem.W.nsIn K mainGlobals cn = some (some (.ref C)) ∧ fs.length ≤ 900 ∧ RpF K O H fs fds
theorem DcO.keep {K : PySem.W.Frag} {O : List Addr} {H H' : Hp} {o : HO} {kds : List (PyData × PyData)} (k : Keep O H H') (h : DcO K O H o kds) : DcO K O H' o kds := by
  rcases h with ⟨kvs, e, z, r⟩ | ⟨C, dx, fs, cn, fds, e1, e2, e3, e4, r⟩
  · exact .inl ⟨kvs, e, z, r.keep k⟩
  · exact .inr ⟨C, dx, fs, cn, fds, e1, e2, e3, e4, r.keep k⟩
theorem DcO.less {K : PySem.W.Frag} {O O' : List Addr} {H : Hp} {o : HO} {kds : List (PyData × PyData)} (k : ∀ a ∈ O', a ∈ O) (h : DcO K O H o kds) : DcO K O' H o kds := by
  rcases h with ⟨kvs, e, z, r⟩ | ⟨C, dx, fs, cn, fds, e1, e2, e3, e4, r⟩
  · exact .inl ⟨kvs, e, z, r.less k⟩
  · exact .inr ⟨C, dx, fs, cn, fds, e1, e2, e3, e4, r.less k⟩
theorem DcO.more {K : PySem.W.Frag} {O : List Addr} {H : Hp} {o : HO} {p : Addr} {kds : List (PyData × PyData)} (n : H p = none) (h : DcO K O H o kds) : DcO K (p :: O) H o kds := by
  rcases h with ⟨kvs, e, z, r⟩ | ⟨C, dx, fs, cn, fds, e1, e2, e3, e4, r⟩
  · exact .inl ⟨kvs, e, z, r.more n⟩
  · exact .inr ⟨C, dx, fs, cn, fds, e1, e2, e3, e4, r.more n⟩
/-- an object that no longer changes: a dict is locked -/
def lkO (od : Obj) : HO → HO
  | .dK kvs => .frz od (.dK kvs)
  | x => x
def lkH (H : Hp) (a : Addr) (od : Obj) : Hp := fun b => if b = a then (H b).map (lkO od) else H b
theorem lkH_ne {H : Hp} {a b : Addr} {od : Obj} (h : b ≠ a) : lkH H a od b = H b := if_neg h
theorem lkH_at {H : Hp} {a : Addr} {od : Obj} {x : HO} (h : H a = some x) : lkH H a od a = some (lkO od x) := by
  unfold lkH
  rw [if_pos rfl, h]
  rfl
theorem keep_lk {O : List Addr} {H : Hp} {a : Addr} {od : Obj} (h : a ∈ O) : Keep O H (lkH H a od) := fun b x n e => by
  rw [lkH_ne (fun z => n (by rw [z]; exact h))]; exact e
theorem lkH_none {H : Hp} {a b : Addr} {od : Obj} (h : H b = none) : lkH H a od b = none := by
  unfold lkH
  split
  · rw [h]; rfl
  · exact h
theorem lkH_live {H : Hp} {a b : Addr} {od : Obj} (h : H b ≠ none) : lkH H a od b ≠ none := by
  unfold lkH
  split
  · cases q : H b with
    | none => exact absurd q h
    | some x => exact fun z => nomatch z
  · exact h
theorem DcO.rp {K : PySem.W.Frag} {O : List Addr} {H : Hp} {o : HO} {a : Addr} {od : Obj} {kds : List (PyData × PyData)} (q : H a = some o) (n : a ∉ O) (h : DcO K O (lkH H a od) o kds) : Rp K O (lkH H a od) (.ref a) (.dict kds) := by
  rcases h with ⟨kvs, rfl, z, r⟩ | ⟨C, dx, fs, cn, fds, rfl, rfl, e3, e4, r⟩
  · exact .dic (o := od) (lkH_at q) n z r
  · exact .ins e3 (lkH_at q) n e4 r
/-- the datum of an instance -/
def instD : List (PyData × PyData) → Bool
  | (.none, _) :: _ => true
  | _ => false
def OwR (K : PySem.W.Frag) (O : List Addr) (H : Hp) (a : Addr) : PyData → Prop
  | .list ds => ∃ xs, H a = some (.lst xs) ∧ xs.length ≤ sizeLine ∧ RpA K O H xs ds
  | .dict kds => ∃ o, H a = some o ∧ DcO K O H o kds
  | _ => False
theorem OwR.keep {K : PySem.W.Frag} {O : List Addr} {H H' : Hp} {a : Addr} {d : PyData} (k : Keep O H H') (e : H' a = H a) (h : OwR K O H a d) : OwR K O H' a d := by
  cases d with
  | list ds => obtain ⟨xs, h1, h2, h3⟩ := h; exact ⟨xs, e.trans h1, h2, h3.keep k⟩
  | dict ds => obtain ⟨o, h1, h2⟩ := h; exact ⟨o, e.trans h1, h2.keep k⟩
  | _ => exact h
theorem OwR.more {K : PySem.W.Frag} {O : List Addr} {H : Hp} {a p : Addr} {d : PyData} (n : H p = none) (h : OwR K O H a d) : OwR K (p :: O) H a d := by
  cases d with
  | list ds => obtain ⟨xs, h1, h2, h3⟩ := h; exact ⟨xs, h1, h2, h3.more n⟩
  | dict ds => obtain ⟨o, h1, h2⟩ := h; exact ⟨o, h1, h2.more n⟩
  | _ => exact h
theorem OwR.some {K : PySem.W.Frag} {O : List Addr} {H : Hp} {a : Addr} {d : PyData} (h : OwR K O H a d) : H a ≠ none := by
  cases d with
  | list ds => obtain ⟨xs, h1, _⟩ := h; rw [h1]; exact fun z => nomatch z
  | dict ds => obtain ⟨xs, h1, _⟩ := h; rw [h1]; exact fun z => nomatch z
  | _ => exact h.elim

/-- what is wished of the exceptions that leave -/
class Wsh where
  wx : XK
/-- nothing leaves -/
instance (priority := low) wsh0 : Wsh := ⟨fun _ _ _ => False⟩
/-- the table of the law's code object -/
class Tbx where
  tb : Str → Addr
  /-- the program and the world, where a def has dicts with tuple keys -/
  pw : Option (Program × World) := none
instance (priority := low) tbx0 : Tbx := ⟨fun _ => 0, none⟩
variable [Wsh] [Tbx]
/-! ### a code object's table, as a slot that may change -/
def TabR (O : List Addr) (H : Hp) (a : Addr) (q : Str) : Prop := ∃ ps : Array Value, H a = some (.tbl ps) ∧ TriplesOk ps.toList ∧ ∀ (pos : Pos) (cv : Value), codeAmong pos ps.toList = some cv → ∃ c, cv = .ref c ∧ c ∉ O ∧ H c = some (LamX.CodeO c q)
def isTab : PyData → Bool
  | .str _ => true
  | .tuple _ => true
  | _ => false
/-- the dict at a with tuple keys (the tuples at the second parts), each True -/
def DtO (P : Program) (w : World) (a : Addr) (xs : List (List Key × Addr)) : HO := .ext fun h => (a == sysModules) = false ∧ ∃ o es ep, h.get? a = some o ∧ o.ExactDict ∧ o.data = .dict es ep ∧ es.toList = (xs.map fun p => (p.1, p.2, Value.bool true)).map (entryOfKey (tupleKind (mixKind P w))) ∧ (xs.map (·.1)).Nodup
/-- such a dict, seen by its keys -/
def TdR (K : PySem.W.Frag) (O : List Addr) (H : Hp) (a : Addr) (ks : List PyData) : Prop := ∃ (P : Program) (w : World) (xs : List (List Key × Addr)), Tbx.pw = some (P, w) ∧ H a = some (DtO P w a xs) ∧ RpA K O H (xs.map fun p => V.ref p.2) ks ∧ ks = xs.map fun p => PyData.tuple (p.1.map kD)
theorem TdR.keep {K : PySem.W.Frag} {O : List Addr} {H H' : Hp} {a : Addr} {ks : List PyData} (k : Keep O H H') (e : H' a = H a) (h : TdR K O H a ks) : TdR K O H' a ks := let ⟨P, w, xs, h1, h2, h3, h4⟩ := h; ⟨P, w, xs, h1, e.trans h2, h3.keep k, h4⟩
theorem TdR.more {K : PySem.W.Frag} {O : List Addr} {H : Hp} {a p : Addr} {ks : List PyData} (n : H p = none) (h : TdR K O H a ks) : TdR K (p :: O) H a ks := let ⟨P, w, xs, h1, h2, h3, h4⟩ := h; ⟨P, w, xs, h1, h2, h3.more n, h4⟩
theorem TdR.less {K : PySem.W.Frag} {O O' : List Addr} {H : Hp} {a : Addr} {ks : List PyData} (s : ∀ a ∈ O', a ∈ O) (h : TdR K O H a ks) : TdR K O' H a ks := let ⟨P, w, xs, h1, h2, h3, h4⟩ := h; ⟨P, w, xs, h1, h2, h3.less s, h4⟩
/-- what a slot that may change holds -/
def OwS (K : PySem.W.Frag) (O : List Addr) (H : Hp) (a : Addr) : PyData → Prop
  | .str q => a = Tbx.tb q ∧ TabR O H a q
  | .list ds => OwR K O H a (.list ds)
  | .dict ds => OwR K O H a (.dict ds)
  | .tuple ks => TdR K O H a ks
  | _ => False
theorem OwR.s {K : PySem.W.Frag} {O : List Addr} {H : Hp} {a : Addr} {d : PyData} (h : OwR K O H a d) : OwS K O H a d := by
  cases d with
  | list ds => exact h
  | dict ds => exact h
  | _ => exact h.elim
theorem OwS.r {K : PySem.W.Frag} {O : List Addr} {H : Hp} {a : Addr} {d : PyData} (h : OwS K O H a d) (n : isTab d = false) : OwR K O H a d := by
  cases d with
  | list ds => exact h
  | dict ds => exact h
  | str q => cases n
  | tuple ks => cases n
  | _ => exact h.elim
theorem TabR.keep {O : List Addr} {H H' : Hp} {a : Addr} {q : Str} (k : Keep O H H') (e : H' a = H a) (h : TabR O H a q) : TabR O H' a q := by
  obtain ⟨ps, h1, h2, h3⟩ := h
  refine ⟨ps, e.trans h1, h2, fun pos cv hc => ?_⟩
  obtain ⟨c, e1, e2, e3⟩ := h3 pos cv hc
  exact ⟨c, e1, e2, k c _ e2 e3⟩
theorem OwS.keep {K : PySem.W.Frag} {O : List Addr} {H H' : Hp} {a : Addr} {d : PyData} (k : Keep O H H') (e : H' a = H a) (h : OwS K O H a d) : OwS K O H' a d := by
  cases d with
  | list ds => exact OwR.keep k e (show OwR K O H a (.list ds) from h)
  | dict ds => exact OwR.keep k e (show OwR K O H a (.dict ds) from h)
  | str q => exact ⟨h.1, TabR.keep k e h.2⟩
  | tuple ks => exact TdR.keep k e (show TdR K O H a ks from h)
  | _ => exact h.elim
theorem OwS.more {K : PySem.W.Frag} {O : List Addr} {H : Hp} {a p : Addr} {d : PyData} (n : H p = none) (h : OwS K O H a d) : OwS K (p :: O) H a d := by
  cases d with
  | list ds => exact OwR.more n (show OwR K O H a (.list ds) from h)
  | dict ds => exact OwR.more n (show OwR K O H a (.dict ds) from h)
  | str q =>
    obtain ⟨h0, ps, h1, h2, h3⟩ := h
    refine ⟨h0, ps, h1, h2, fun pos cv hc => ?_⟩
    obtain ⟨c, e1, e2, e3⟩ := h3 pos cv hc
    refine ⟨c, e1, fun z => ?_, e3⟩
    rcases List.mem_cons.mp z with z | z
    · rw [z, n] at e3; cases e3
    · exact e2 z
  | tuple ks => exact TdR.more n (show TdR K O H a ks from h)
  | _ => exact h.elim
theorem OwS.some {K : PySem.W.Frag} {O : List Addr} {H : Hp} {a : Addr} {d : PyData} (h : OwS K O H a d) : H a ≠ none := by
  cases d with
  | list ds => exact OwR.some (show OwR K O H a (.list ds) from h)
  | dict ds => exact OwR.some (show OwR K O H a (.dict ds) from h)
  | str q =>
    obtain ⟨_, ps, h1, _⟩ := h
    rw [h1]; exact fun z => nomatch z
  | tuple ks =>
    obtain ⟨_, _, _, _, h1, _⟩ := (show TdR K O H a ks from h)
    rw [h1]; exact fun z => nomatch z
  | _ => exact h.elim

/-! ### the slots of a frame, read as data -/
inductive Sl where
  | no
  | sh (d : PyData)
  | ow (d : PyData)
abbrev En := List Sl
/-- a frame: the written part, the heap at its entry, what it may change there, what may change of the callers' -/
structure Fc where
  K : PySem.W.Frag
  He : Hp
  P : List Addr
  Oe : List Addr
structure RS (c : Fc) (O : List Addr) (H : Hp) (σ : L2.St) (en : En) : Prop where
  len : σ.length = en.length
  keep : Keep c.P c.He H
  pin : ∀ a ∈ c.P, a ∈ c.Oe
  sub : ∀ a ∈ c.Oe, a ∈ O
  live : ∀ a ∈ O, H a ≠ none
  sh : ∀ (i : Nat) (d : PyData), en[i]? = some (Sl.sh d) → ∃ v, σ[i]? = some (some v) ∧ Rp c.K O H v d
  ow : ∀ (i : Nat) (d : PyData), en[i]? = some (Sl.ow d) → ∃ a, σ[i]? = some (some (V.ref a)) ∧ OwS c.K O H a d ∧ a ∈ O ∧ ((a ∈ c.P ∧ i = 0) ∨ (c.He a = none ∧ a ∉ c.Oe ∧ i ≠ 0))
  dist : ∀ (i j : Nat) (d e : PyData) (a : Addr), en[i]? = some (Sl.ow d) → en[j]? = some (Sl.ow e) → σ[i]? = some (some (V.ref a)) → σ[j]? = some (some (V.ref a)) → i = j

section
variable {c : Fc} {O : List Addr} {H H' : Hp} {σ : L2.St} {en : En}
/-- new objects, nothing changed -/
theorem RS.same (r : RS c O H σ en) (s : Same H H') : RS c O H' σ en where
  len := r.len
  keep := r.keep.trans (.of_same s)
  pin := r.pin
  sub := r.sub
  live := fun a ha z => by
    cases q : H a with
    | none => exact r.live a ha q
    | some x => rw [s a x q] at z; cases z
  sh := fun i d e => by
    obtain ⟨v, h1, h2⟩ := r.sh i d e
    exact ⟨v, h1, h2.keep (.of_same s)⟩
  ow := fun i d e => by
    obtain ⟨a, h1, h2, h3⟩ := r.ow i d e
    refine ⟨a, h1, h2.keep (.of_same s) ?_, h3⟩
    cases q : H a with
    | none => exact (h2.some q).elim
    | some x => exact s a x q
  dist := r.dist
end

/-- the slots that may change stay the same ones -/
def Shp (en en' : En) : Prop := ∀ (i : Nat) (d : PyData), en'[i]? = some (Sl.ow d) → ∃ d', en[i]? = some (Sl.ow d')
/-- no slot that may change has the address -/
def Free (σ : L2.St) (en : En) (a : Addr) : Prop := ∀ (i : Nat) (d : PyData), en[i]? = some (Sl.ow d) → σ[i]? ≠ some (some (V.ref a))
/-- on from (H, en) to (H', en') -/
structure Go (σ : L2.St) (O : List Addr) (H : Hp) (en : En) (H' : Hp) (en' : En) : Prop where
  keep : Keep O H H'
  shp : Shp en en'
  held : ∀ a x, Free σ en a → H a = some x → H' a = some x
theorem Shp.refl (en : En) : Shp en en := fun _ d h => ⟨d, h⟩
theorem Shp.trans {a b c : En} (h : Shp a b) (k : Shp b c) : Shp a c := fun i d e => let ⟨d', e'⟩ := k i d e; h i d' e'
theorem Free.shp {σ : L2.St} {a b : En} {x : Addr} (s : Shp a b) (h : Free σ a x) : Free σ b x := fun i d e => let ⟨d', e'⟩ := s i d e; h i d' e'
theorem Go.refl {σ : L2.St} {O : List Addr} {H : Hp} {en : En} : Go σ O H en H en := ⟨.refl _, .refl _, fun _ _ _ h => h⟩
theorem Go.trans {σ : L2.St} {O : List Addr} {H H1 H2 : Hp} {a b c : En} (x : Go σ O H a H1 b) (y : Go σ O H1 b H2 c) : Go σ O H a H2 c := ⟨x.keep.trans y.keep, x.shp.trans y.shp, fun p o f h => y.held p o (f.shp x.shp) (x.held p o f h)⟩
theorem Go.same {σ : L2.St} {O : List Addr} {H H' : Hp} {en : En} (s : Same H H') : Go σ O H en H' en := ⟨.of_same s, .refl _, fun a x _ h => s a x h⟩
/-! ### what an expression's reading comes to -/
abbrev Dn := En → Res (PyData × En)
abbrev Tn := En → Res (Bool × En)
abbrev An := En → Res (List PyData × En)
/-! ### exceptions -/
/-- an exception of the class named cn with the fields fds -/
def ExcAt (K : PySem.W.Frag) (O : List Addr) (H : Hp) (cls : Value) (d : Option Addr) (cn : Str) (fds : List (PyData × PyData)) : Prop :=
  ∃ (C dd : Addr) (fs : List (Str × V)), cls = .ref C ∧ PySem.W.nsIn K mainGlobals cn = some (some (.ref C)) ∧ d = some dd ∧ dd ∉ O ∧ H dd = some (.xd fs) ∧ RpF K O H fs fds
def wishX (c : Fc) (cn : Str) (fds : List (PyData × PyData)) : Prop := ∀ (cls : Value) (d : Option Addr) (H' : Hp), Keep c.P c.He H' → ExcAt c.K c.Oe H' cls d cn fds → Wsh.wx cls d H'
/-- what is wanted behind an outcome -/
def Po {α β : Type} (c : Fc) (O : List Addr) (H : Hp) (σ : L2.St) (en : En) (R : Hp → β → α → Prop) (r : Res (α × En)) (Q : β → Hp → Prop) : Prop :=
  match r with
  | .ok (d, en') => ∀ v H', RS c O H' σ en' → Go σ O H en H' en' → R H' v d → Q v H'
  | .exc cn fds => wishX c cn fds
  | .bad => False
abbrev PoE (c : Fc) (O : List Addr) (H : Hp) (σ : L2.St) (en : En) := Po (α := PyData) (β := V) c O H σ en fun H' v d => Rp c.K O H' v d
abbrev PoT (c : Fc) (O : List Addr) (H : Hp) (σ : L2.St) (en : En) := Po (α := Bool) (β := Bool) c O H σ en fun _ v d => v = d
abbrev PoA (c : Fc) (O : List Addr) (H : Hp) (σ : L2.St) (en : En) := Po (α := List PyData) (β := List V) c O H σ en fun H' v d => RpA c.K O H' v d
def EvE (K : PySem.W.Frag) (t : TE) (f : Dn) : Prop := ∀ (c : Fc) (O : List Addr) (H : Hp) (σ : L2.St) (en : En) (Q : V → Hp → Prop), c.K = K → RS c O H σ en → PoE c O H σ en (f en) Q → t σ H Q
def EvT (K : PySem.W.Frag) (t : TT) (f : Tn) : Prop := ∀ (c : Fc) (O : List Addr) (H : Hp) (σ : L2.St) (en : En) (Q : Bool → Hp → Prop), c.K = K → RS c O H σ en → PoT c O H σ en (f en) Q → t σ H Q
def EvA (K : PySem.W.Frag) (t : TA) (f : An) : Prop := ∀ (c : Fc) (O : List Addr) (H : Hp) (σ : L2.St) (en : En) (Q : List V → Hp → Prop), c.K = K → RS c O H σ en → PoA c O H σ en (f en) Q → t σ H Q
/-- expressions, tests, arguments -/
def DE (X : Cx) (e : Expr) (f : Dn) : Prop := ∃ t, PE X e t ∧ EvE X.K t f
def DT (X : Cx) (e : Expr) (f : Tn) : Prop := ∃ t, PT X e t ∧ EvT X.K t f
def DW (X : Cx) (e : Expr) (f : Tn) : Prop := ∃ t, PW X e t ∧ EvT X.K t f
def DA (X : Cx) (es : List Expr) (f : An) : Prop := ∃ t, PA X es t ∧ EvA X.K t f

def bnd {α β : Type} (f : En → Res (α × En)) (k : α → En → Res (β × En)) : En → Res (β × En) := fun en => (f en).bind fun p => k p.1 p.2
/-- one outcome, then the rest -/
theorem Po.bind {α β γ δ : Type} {c : Fc} {O : List Addr} {H : Hp} {σ : L2.St} {R : Hp → β → α → Prop} {R' : Hp → δ → γ → Prop} {f : En → Res (α × En)} {en : En} {k : α → En → Res (γ × En)} {Q : δ → Hp → Prop} {Q' : β → Hp → Prop}
    (h : Po c O H σ en R' (bnd f k en) Q)
    (hk : ∀ d en' v H1, f en = .ok (d, en') → RS c O H1 σ en' → Go σ O H en H1 en' → R H1 v d → (Po c O H1 σ en' R' (k d en') Q) → Q' v H1) : Po c O H σ en R (f en) Q' := by
  unfold bnd at h
  generalize hr : f en = r at h hk
  cases r with
  | ok p =>
    obtain ⟨d, en'⟩ := p
    intro v H1 rs go hr
    refine hk d en' v H1 rfl rs go hr ?_
    have h' : Po c O H σ en R' (k d en') Q := h
    unfold Po at h' ⊢
    cases q : k d en' with
    | ok p' =>
      rw [q] at h'
      exact fun v' H' rs' go' hr' => h' v' H' rs' (go.trans go') hr'
    | exc _ _ => rw [q] at h'; exact h'
    | bad => rw [q] at h'; exact h'.elim
  | exc _ _ => exact h
  | bad => exact h
/-- the same wish from a later place -/
theorem Po.later {α β : Type} {c : Fc} {O : List Addr} {H H1 : Hp} {σ : L2.St} {en en1 : En} {R : Hp → β → α → Prop} {r : Res (α × En)} {Q : β → Hp → Prop} (h : Po c O H σ en R r Q) (k : Go σ O H en H1 en1) : Po c O H1 σ en1 R r Q := by
  cases r with
  | ok p => exact fun v H' rs kp hr => h v H' rs (k.trans kp) hr
  | exc _ _ => exact h
  | bad => exact h
end EL

set_option maxHeartbeats 2000000
namespace EL
open PySem PySem.Spec PyProof.Rows L2
variable [Wsh] [Tbx]

/-! ### combinators -/
def lft {α : Type} (r : Res α) : En → Res (α × En) := fun en => r.calm.bind fun d => .ok (d, en)
def dVar (i : Nat) : Dn := fun en => match en[i]? with
  | some (.sh d) => .ok (d, en)
  | _ => .bad
def dCst (d : PyData) : Dn := fun en => .ok (d, en)
def dUn (g : PyData → Res PyData) (a : Dn) : Dn := bnd a fun x => lft (g x)
def dOp (g : PyData → PyData → Res PyData) (a b : Dn) : Dn := bnd a fun x => bnd b fun y => lft (g x y)
def dNil : An := fun en => .ok ([], en)
def dCons (a : Dn) (r : An) : An := bnd a fun x => bnd r fun xs => lft (.ok (x :: xs))
def dApp (g : List PyData → Res PyData) (r : An) : Dn := bnd r fun xs => lft (g xs)
/-- True or False alone -/
def isB : PyData → Res Bool
  | .bool b => .ok b
  | _ => .bad
def tB (a : Dn) : Tn := bnd a fun x => lft (isB x)
def tNotD (a : Tn) : Tn := bnd a fun b => lft (.ok (!b))
def tAndD (a b : Tn) : Tn := bnd a fun c => if c = true then b else lft (.ok false)
def tOrD (a b : Tn) : Tn := bnd a fun c => if c = true then lft (.ok true) else b
def dAnd (a b : Dn) : Dn := bnd a fun x => match x with
  | .bool true => b
  | .bool false => lft (.ok (.bool false))
  | _ => lft .bad
def dOr (a b : Dn) : Dn := bnd a fun x => match x with
  | .bool true => lft (.ok (.bool true))
  | .bool false => b
  | _ => lft .bad
def dNot (a : Dn) : Dn := bnd a fun x => match x with
  | .bool b => lft (.ok (.bool (!b)))
  | _ => lft .bad
def dIf (c : Tn) (a b : Dn) : Dn := bnd c fun k => if k = true then a else b
/-- a < b < c -/
def chainK (k : Dn) : PyData → Dn
  | .bool true => k
  | .bool false => lft (.ok (.bool false))
  | _ => lft .bad
def dChain (g g' : PyData → PyData → Res PyData) (a b c : Dn) : Dn := bnd a fun x => bnd b fun y => bnd (lft (g x y)) fun z => chainK (bnd c fun w => lft (g' y w)) z
/-! ### by values -/
def PoV (K : PySem.W.Frag) (O : List Addr) (H : Hp) (r : Res PyData) (Q : V → Hp → Prop) : Prop :=
  match r with
  | .ok d => ∀ v H', Same H H' → Rp K O H' v d → Q v H'
  | _ => False
theorem PoV.of {c : Fc} {O : List Addr} {H : Hp} {σ : L2.St} {en : En} {r : Res PyData} {Q : V → Hp → Prop} (h : PoE c O H σ en (lft r en) Q) (rs : RS c O H σ en) : PoV c.K O H r Q := by
  cases r with
  | ok d => exact fun v H' s rp => h v H' (rs.same s) (.same s) rp
  | exc _ _ => exact h
  | bad => exact h
def OpD (K : PySem.W.Frag) (r : R2) (g : PyData → PyData → Res PyData) : Prop := ∀ (O : List Addr) (H : Hp) (x y : V) (dx dy : PyData) (Q : V → Hp → Prop), (∀ a ∈ O, H a ≠ none) → Rp K O H x dx → Rp K O H y dy → PoV K O H (g dx dy) Q → r x y H Q
def UnD (K : PySem.W.Frag) (r : V → Hp → VK → Prop) (g : PyData → Res PyData) : Prop := ∀ (O : List Addr) (H : Hp) (x : V) (dx : PyData) (Q : V → Hp → Prop), (∀ a ∈ O, H a ≠ none) → Rp K O H x dx → PoV K O H (g dx) Q → r x H Q
def CalD (K : PySem.W.Frag) (r : List V → Hp → VK → Prop) (g : List PyData → Res PyData) : Prop := ∀ (O : List Addr) (H : Hp) (xs : List V) (ds : List PyData) (Q : V → Hp → Prop), (∀ a ∈ O, H a ≠ none) → RpA K O H xs ds → PoV K O H (g ds) Q → r xs H Q

section
variable {X : Cx} {pos : Pos} {a b e : Expr} {es : List Expr}
theorem de_var (i : Nat) {x : Str} (hN : X.N[i]? = some x := by rfl) (hv : Vis X.env.scope x := by first | exact Or.inl rfl | exact Or.inr (Or.inl rfl) | exact Or.inr (Or.inr rfl)) (hd : (x == ("__debug__" : Str)) = false := by decide)
    (hcd : (x == ("__classdict__" : Str)) = false := by decide) : DE X (.Name x pos) (dVar i) := by
  refine ⟨_, pe_var hN hv hd hcd, ?_⟩
  intro c O H σ en Q hc rs h
  unfold dVar at h
  cases q : en[i]? with
  | none => rw [q] at h; exact h.elim
  | some s =>
    rw [q] at h
    cases s with
    | sh d =>
      obtain ⟨v, h1, h2⟩ := rs.sh i d q
      exact ⟨v, h1, h v H rs .refl h2⟩
    | no => exact h.elim
    | ow d => exact h.elim
theorem ev_cst {K : PySem.W.Frag} {v : V} {d : PyData} (h : ∀ O H, Rp K O H v d) : EvE K (tC v) (dCst d) := by
  intro c O H σ en Q hc rs hp
  exact hp v H rs .refl (by rw [hc]; exact h O H)
theorem de_int {i : Int} {j : Nat} : DE X (.Constant (.int i) j pos) (dCst (.int i)) := ⟨_, pe_int, ev_cst fun _ _ => .int i⟩
theorem de_bl {i : Bool} {j : Nat} : DE X (.Constant (.bool i) j pos) (dCst (.bool i)) := ⟨_, pe_bl, ev_cst fun _ _ => .bl i⟩
theorem de_non {j : Nat} : DE X (.Constant .none j pos) (dCst .none) := ⟨_, pe_non, ev_cst fun _ _ => .non⟩
theorem de_str {x : Str} {j : Nat} (h : x.length ≤ sizeLine := by decide +kernel) : DE X (.Constant (.str x) j pos) (dCst (.str x)) := ⟨_, pe_str, ev_cst fun _ _ => .str x h⟩
/-- a module's constant -/
theorem de_glob {x : Str} {v : V} {u : Value} {d : PyData} (hg : Gl X x) (hm : X.mg x = some u) (r : RelV v u) (h : ∀ O H, Rp X.K O H v d) (hd : (x == ("__debug__" : Str)) = false := by decide) : DE X (.Name x pos) (dCst d) := ⟨_, pe_glob hg hm r hd, ev_cst h⟩

theorem da_nil : DA X [] dNil := ⟨_, pa_nil, fun c O H σ en Q hc rs h => h [] H rs .refl .nil⟩
theorem da_cons {f : Dn} {g : An} (ha : DE X e f) (hr : DA X es g) (hs : starEach (e :: es) X.env = (false, eval e X.env) :: starEach es X.env := by rfl) : DA X (e :: es) (dCons f g) := by
  obtain ⟨ta, pa, ea⟩ := ha
  obtain ⟨tr, pr, er⟩ := hr
  refine ⟨_, pa_cons pa pr hs, ?_⟩
  intro c O H σ en Q hc rs h
  refine ea c O H σ en _ hc rs (Po.bind h fun d1 en1 v1 H1 _ rs1 k1 r1 h1 => ?_)
  refine er c O H1 σ en1 _ hc rs1 (Po.bind h1 fun d2 en2 v2 H2 _ rs2 k2 r2 h2 => ?_)
  exact h2 (v1 :: v2) H2 rs2 .refl (.cons (r1.keep k2.keep) r2)

theorem ev_op {K : PySem.W.Frag} {r : R2} {g : PyData → PyData → Res PyData} {ta tb : TE} {fa fb : Dn} (hd : OpD K r g) (ea : EvE K ta fa) (eb : EvE K tb fb) : EvE K (tOp r ta tb) (dOp g fa fb) := by
  intro c O H σ en Q hc rs h
  refine ea c O H σ en _ hc rs (Po.bind h fun d1 en1 v1 H1 _ rs1 k1 r1 h1 => ?_)
  refine eb c O H1 σ en1 _ hc rs1 (Po.bind h1 fun d2 en2 v2 H2 _ rs2 k2 r2 h2 => ?_)
  subst hc
  exact hd O H2 v1 v2 d1 d2 Q rs2.live (r1.keep k2.keep) r2 (PoV.of h2 rs2)
theorem de_op {op : Operator} {r : R2} {g : PyData → PyData → Res PyData} {fa fb : Dn} (ho : OpR X (binaryOp op) r) (hd : OpD X.K r g) (ha : DE X a fa) (hb : DE X b fb) : DE X (.BinOp a op b pos) (dOp g fa fb) := by
  obtain ⟨ta, pa, ea⟩ := ha
  obtain ⟨tb, pb, eb⟩ := hb
  exact ⟨_, pe_op ho pa pb, ev_op hd ea eb⟩
theorem de_cmp {op : CmpOp} {r : R2} {g : PyData → PyData → Res PyData} {fa fb : Dn} (ho : OpR X (compareOp op) r) (hd : OpD X.K r g) (ha : DE X a fa) (hb : DE X b fb) (hm : behindInMarks op b = false) : DE X (.Compare a [op] [b] pos) (dOp g fa fb) := by
  obtain ⟨ta, pa, ea⟩ := ha
  obtain ⟨tb, pb, eb⟩ := hb
  exact ⟨_, pe_cmpR ho pa pb hm, ev_op hd ea eb⟩
theorem ev_test {K : PySem.W.Frag} {t : TE} {f : Dn} (h : EvE K t f) : EvT K (tTest t) (tB f) := by
  intro c O H σ en Q hc rs hp
  refine h c O H σ en _ hc rs (Po.bind hp fun d1 en1 v1 H1 _ rs1 k1 r1 h1 => ?_)
  cases d1 with
  | bool b => cases r1; exact ⟨b, rfl, h1 b H1 rs1 .refl rfl⟩
  | _ => exact h1.elim
theorem dt_cmp {op : CmpOp} {r : R2} {g : PyData → PyData → Res PyData} {fa fb : Dn} (ho : OpR X (compareOp op) r) (hd : OpD X.K r g) (ha : DE X a fa) (hb : DE X b fb) (hm : behindInMarks op b = false) : DT X (.Compare a [op] [b] pos) (tB (dOp g fa fb)) := by
  obtain ⟨ta, pa, ea⟩ := ha
  obtain ⟨tb, pb, eb⟩ := hb
  exact ⟨_, pt_cmpR ho pa pb hm, ev_test (ev_op hd ea eb)⟩
theorem dt_val {f : Dn} (h : DE X e f) (he : ∀ whole, isTrue e X.env whole = (do let v ← whole; standAt e.pos; holding [v] (truthy v)) := by intro _; rfl) : DT X e (tB f) := by
  obtain ⟨t, p, ev⟩ := h
  exact ⟨_, pt_val p he, ev_test ev⟩
theorem ev_un {K : PySem.W.Frag} {r : V → Hp → VK → Prop} {g : PyData → Res PyData} {ta : TE} {fa : Dn} (hd : UnD K r g) (ea : EvE K ta fa) : EvE K (tUn r ta) (dUn g fa) := by
  intro c O H σ en Q hc rs h
  refine ea c O H σ en _ hc rs (Po.bind h fun d1 en1 v1 H1 _ rs1 k1 r1 h1 => ?_)
  subst hc
  exact hd O H1 v1 d1 Q rs1.live r1 (PoV.of h1 rs1)
theorem de_un {op : UnaryOp} {r : V → Hp → VK → Prop} {g : PyData → Res PyData} {fa : Dn} (ho : UnR X (unaryOp op) r) (hd : UnD X.K r g) (ha : DE X a fa) : DE X (.UnaryOp op a pos) (dUn g fa) := by
  obtain ⟨ta, pa, ea⟩ := ha
  exact ⟨_, pe_un ho pa, ev_un hd ea⟩
theorem ev_chain {K : PySem.W.Frag} {r r' : R2} {g g' : PyData → PyData → Res PyData} {ta tb tc : TE} {fa fb fc : Dn} (hd : OpD K r g) (hd' : OpD K r' g') (ea : EvE K ta fa) (eb : EvE K tb fb) (ec : EvE K tc fc) :
    EvE K (tChain r r' ta tb tc) (dChain g g' fa fb fc) := by
  intro c O H σ en Q hc rs h
  refine ea c O H σ en _ hc rs (Po.bind h fun d1 en1 v1 H1 _ rs1 k1 r1 h1 => ?_)
  refine eb c O H1 σ en1 _ hc rs1 (Po.bind h1 fun d2 en2 v2 H2 _ rs2 k2 r2 h2 => ?_)
  subst hc
  refine hd O H2 v1 v2 d1 d2 _ rs2.live (r1.keep k2.keep) r2 ?_
  cases q : g d1 d2 with
  | exc _ _ => unfold bnd lft at h2; rw [q] at h2; exact h2
  | bad => unfold bnd lft at h2; rw [q] at h2; exact h2
  | ok d3 =>
    intro v3 H3 s3 r3
    have rs3 := rs2.same s3
    have h3 : PoE c O H2 σ en2 (chainK (bnd fc fun w => lft (g' d2 w)) d3 en2) Q := by
      have h2' := h2
      unfold bnd lft at h2'
      rw [q] at h2'
      exact h2'
    have h4 := h3.later (.same s3)
    cases d3 with
    | bool k =>
      cases r3
      refine ⟨k, rfl, ?_⟩
      cases k with
      | true =>
        rw [if_pos rfl]
        refine ec c O H3 σ en2 _ rfl rs3 (Po.bind (show PoE c O H3 σ en2 (bnd fc (fun w => lft (g' d2 w)) en2) Q from h4) fun d5 en5 v5 H5 _ rs5 k5 r5 h5 => ?_)
        exact hd' O H5 v2 v5 d2 d5 Q rs5.live ((r2.keep (.of_same s3)).keep k5.keep) r5 (PoV.of h5 rs5)
      | false =>
        rw [if_neg Bool.false_ne_true]
        exact h4 _ H3 rs3 .refl (.bl false)
    | _ => exact h4.elim
theorem dt_chain {op op' : CmpOp} {c : Expr} {r r' : R2} {g g' : PyData → PyData → Res PyData} {fa fb fc : Dn} (ho : OpR X (compareOp op) r) (ho' : OpR X (compareOp op') r') (hd : OpD X.K r g) (hd' : OpD X.K r' g')
    (ha : DE X a fa) (hb : DE X b fb) (hc : DE X c fc) (hm : lastMarks [op, op'] [b, c] = false := by with_unfolding_all rfl) : DT X (.Compare a [op, op'] [b, c] pos) (tB (dChain g g' fa fb fc)) := by
  obtain ⟨ta, pa, ea⟩ := ha
  obtain ⟨tb, pb, eb⟩ := hb
  obtain ⟨tc, pc, ec⟩ := hc
  exact ⟨_, pt_chain ho ho' pa pb pc hm, ev_test (ev_chain hd hd' ea eb ec)⟩

/-! ### and, or, not, if -/
variable {rest : List Expr}
theorem ev_and {K : PySem.W.Frag} {ta tb : TT} {fa fb : Tn} (ea : EvT K ta fa) (eb : EvT K tb fb) : EvT K (tAnd ta tb) (tAndD fa fb) := by
  intro c O H σ en Q hc rs h
  refine ea c O H σ en _ hc rs (Po.bind h fun d1 en1 v1 H1 _ rs1 k1 r1 h1 => ?_)
  subst r1
  cases v1 with
  | true => rw [if_pos rfl]; exact eb c O H1 σ en1 _ hc rs1 h1
  | false => rw [if_neg Bool.false_ne_true]; exact h1 false H1 rs1 .refl rfl
theorem ev_or {K : PySem.W.Frag} {ta tb : TT} {fa fb : Tn} (ea : EvT K ta fa) (eb : EvT K tb fb) : EvT K (tOr ta tb) (tOrD fa fb) := by
  intro c O H σ en Q hc rs h
  refine ea c O H σ en _ hc rs (Po.bind h fun d1 en1 v1 H1 _ rs1 k1 r1 h1 => ?_)
  subst r1
  cases v1 with
  | true => rw [if_pos rfl]; exact h1 true H1 rs1 .refl rfl
  | false => rw [if_neg Bool.false_ne_true]; exact eb c O H1 σ en1 _ hc rs1 h1
theorem dw_and1 {f : Tn} (h : DT X a f) : DW X (.BoolOp .And [a] pos) f := let ⟨t, p, e⟩ := h; ⟨t, pw_and1 p, e⟩
theorem dw_or1 {f : Tn} (h : DT X a f) : DW X (.BoolOp .Or [a] pos) f := let ⟨t, p, e⟩ := h; ⟨t, pw_or1 p, e⟩
theorem dw_and {f g : Tn} (h : DT X a f) (h2 : DW X (.BoolOp .And (b :: rest) pos) g) : DW X (.BoolOp .And (a :: b :: rest) pos) (tAndD f g) := let ⟨_, p, e⟩ := h; let ⟨_, p2, e2⟩ := h2; ⟨_, pw_and p p2, ev_and e e2⟩
theorem dw_or {f g : Tn} (h : DT X a f) (h2 : DW X (.BoolOp .Or (b :: rest) pos) g) : DW X (.BoolOp .Or (a :: b :: rest) pos) (tOrD f g) := let ⟨_, p, e⟩ := h; let ⟨_, p2, e2⟩ := h2; ⟨_, pw_or p p2, ev_or e e2⟩
theorem dt_w {f : Tn} (h : DW X e f) : DT X e f := let ⟨t, p, ev⟩ := h; ⟨t, p.pt, ev⟩
theorem dt_not {f : Tn} (h : DT X a f) : DT X (.UnaryOp .Not a pos) (tNotD f) := by
  obtain ⟨t, p, ev⟩ := h
  refine ⟨_, pt_not p, ?_⟩
  intro c O H σ en Q hc rs hp
  refine ev c O H σ en _ hc rs (Po.bind hp fun d1 en1 v1 H1 _ rs1 k1 r1 h1 => ?_)
  subst r1
  exact h1 (!v1) H1 rs1 .refl rfl
theorem de_one {op : BoolOp} {f : Dn} (h : DE X a f) : DE X (.BoolOp op [a] pos) f := let ⟨t, p, e⟩ := h; ⟨t, pe_one p, e⟩
theorem de_and {f g : Dn} (h : DE X a f) (h2 : DE X (.BoolOp .And (b :: rest) pos) g) : DE X (.BoolOp .And (a :: b :: rest) pos) (dAnd f g) := by
  obtain ⟨t, p, ev⟩ := h
  obtain ⟨t2, p2, ev2⟩ := h2
  refine ⟨_, pe_and p p2, ?_⟩
  intro c O H σ en Q hc rs hp
  refine ev c O H σ en _ hc rs (Po.bind hp fun d1 en1 v1 H1 _ rs1 k1 r1 h1 => ?_)
  cases d1 with
  | bool k =>
    cases r1
    refine ⟨k, rfl, ?_⟩
    cases k with
    | true => rw [if_pos rfl]; exact ev2 c O H1 σ en1 _ hc rs1 h1
    | false => rw [if_neg Bool.false_ne_true]; exact h1 _ H1 rs1 .refl (.bl false)
  | _ => exact h1.elim
theorem de_or {f g : Dn} (h : DE X a f) (h2 : DE X (.BoolOp .Or (b :: rest) pos) g) : DE X (.BoolOp .Or (a :: b :: rest) pos) (dOr f g) := by
  obtain ⟨t, p, ev⟩ := h
  obtain ⟨t2, p2, ev2⟩ := h2
  refine ⟨_, pe_or p p2, ?_⟩
  intro c O H σ en Q hc rs hp
  refine ev c O H σ en _ hc rs (Po.bind hp fun d1 en1 v1 H1 _ rs1 k1 r1 h1 => ?_)
  cases d1 with
  | bool k =>
    cases r1
    refine ⟨k, rfl, ?_⟩
    cases k with
    | false => rw [if_neg Bool.false_ne_true]; exact ev2 c O H1 σ en1 _ hc rs1 h1
    | true => rw [if_pos rfl]; exact h1 _ H1 rs1 .refl (.bl true)
  | _ => exact h1.elim
theorem de_if {cnd : Expr} {k : Tn} {f g : Dn} (h : DT X cnd k) (h1 : DE X a f) (h2 : DE X b g) : DE X (.IfExp cnd a b pos) (dIf k f g) := by
  obtain ⟨t, p, ev⟩ := h
  obtain ⟨t1, p1, ev1⟩ := h1
  obtain ⟨t2, p2, ev2⟩ := h2
  refine ⟨_, pe_ifExp p p1 p2, ?_⟩
  intro c O H σ en Q hc rs hp
  refine ev c O H σ en _ hc rs (Po.bind hp fun d1 en1 v1 H1 _ rs1 k1 r1 h1 => ?_)
  subst r1
  cases v1 with
  | true => rw [if_pos rfl]; exact ev1 c O H1 σ en1 _ hc rs1 h1
  | false => rw [if_neg Bool.false_ne_true]; exact ev2 c O H1 σ en1 _ hc rs1 h1

/-! ### built-ins called -/
theorem ev_cal {K : PySem.W.Frag} {r : List V → Hp → VK → Prop} {g : List PyData → Res PyData} {t : TA} {f : An} (hd : CalD K r g) (ea : EvA K t f) : EvE K (tCB r t) (dApp g f) := by
  intro c O H σ en Q hc rs h
  refine ea c O H σ en _ hc rs (Po.bind h fun d1 en1 v1 H1 _ rs1 k1 r1 h1 => ?_)
  subst hc
  exact hd O H1 v1 d1 Q rs1.live r1 (PoV.of h1 rs1)
theorem de_callB {x : Str} {id : String} {p : Pos} {r : List V → Hp → VK → Prop} {g : List PyData → Res PyData} {f : An} (hc : CallR X (.builtin id) r) (hd : CalD X.K r g) (hg : Gl X x) (hm : X.mg x = none) (hv : bootBuiltins x = some (.builtin id)) (ha : DA X (e :: es) f) (hn : x ≠ "__name__" := by decide) (hdb : (x == ("__debug__" : Str)) = false := by decide)
    (he : starEach (e :: es) X.env = (false, eval e X.env) :: starEach es X.env := by rfl) (hpl : (backTo pos (starEach es X.env)).any (·.1) = false := by rfl) : DE X (.Call (.Name x p) (e :: es) [] pos) (dApp g f) := by
  obtain ⟨t, pa, ev⟩ := ha
  exact ⟨_, pe_callB hc hg hm hv pa hn hdb he hpl, ev_cal hd ev⟩
theorem de_callTy {x : Str} {T : String} {p : Pos} {r : List V → Hp → VK → Prop} {g : List PyData → Res PyData} {f : An} (hc : CallR X (.type T) r) (hd : CalD X.K r g) (hg : Gl X x) (hm : X.mg x = none) (hv : bootBuiltins x = some (.type T)) (ha : DA X (e :: es) f) (hn : x ≠ "__name__" := by decide) (hdb : (x == ("__debug__" : Str)) = false := by decide)
    (he : starEach (e :: es) X.env = (false, eval e X.env) :: starEach es X.env := by rfl) (hpl : (backTo pos (starEach es X.env)).any (·.1) = false := by rfl) : DE X (.Call (.Name x p) (e :: es) [] pos) (dApp g f) := by
  obtain ⟨t, pa, ev⟩ := ha
  exact ⟨_, pe_callTy hc hg hm hv pa hn hdb he hpl, ev_cal hd ev⟩

/-! ### items, slices, displays -/
/-- an end of a slice -/
def isI : PyData → Res (Option Int)
  | .int i => .ok (some i)
  | _ => .bad
def eN : En → Res (Option Int × En) := lft (.ok none)
def eS (f : Dn) : En → Res (Option Int × En) := bnd f fun d => lft (isI d)
def EvO (K : PySem.W.Frag) (t : TO) (f : En → Res (Option Int × En)) : Prop := ∀ (c : Fc) (O : List Addr) (H : Hp) (σ : L2.St) (en : En) (Q : Option Int → Hp → Prop), c.K = K → RS c O H σ en → Po (α := Option Int) (β := Option Int) c O H σ en (fun _ v d => v = d) (f en) Q → t σ H Q
def DO (X : Cx) (o : Option Expr) (f : En → Res (Option Int × En)) : Prop := ∃ t, PO X o t ∧ EvO X.K t f
theorem do_none : DO X none eN := ⟨_, po_none, fun c O H σ en Q hc rs h => h none H rs .refl rfl⟩
theorem do_some {f : Dn} (h : DE X e f) : DO X (some e) (eS f) := by
  obtain ⟨t, p, ev⟩ := h
  refine ⟨_, po_some p, ?_⟩
  intro c O H σ en Q hc rs hp
  refine ev c O H σ en _ hc rs (Po.bind hp fun d1 en1 v1 H1 _ rs1 k1 r1 h1 => ?_)
  cases d1 with
  | int i => cases r1; exact ⟨i, rfl, h1 (some i) H1 rs1 .refl rfl⟩
  | _ => exact h1.elim
def SlD (K : PySem.W.Frag) (r : V → Option Int → Option Int → Hp → VK → Prop) (g : PyData → Option Int → Option Int → Res PyData) : Prop := ∀ (O : List Addr) (H : Hp) (x : V) (dx : PyData) (lo hi : Option Int) (Q : V → Hp → Prop), (∀ a ∈ O, H a ≠ none) → Rp K O H x dx → PoV K O H (g dx lo hi) Q → r x lo hi H Q
def dSlice (g : PyData → Option Int → Option Int → Res PyData) (a : Dn) (lo hi : En → Res (Option Int × En)) : Dn := bnd a fun x => bnd lo fun l => bnd hi fun h => lft (g x l h)
theorem de_slice {r : V → Option Int → Option Int → Hp → VK → Prop} {g : PyData → Option Int → Option Int → Res PyData} {lo hi : Option Expr} {fa : Dn} {fl fh : En → Res (Option Int × En)} {p2 : Pos} (hr : SlR X r) (hd : SlD X.K r g) (ha : DE X a fa) (hl : DO X lo fl) (hh : DO X hi fh) :
    DE X (.Subscript a (.Slice lo hi none p2) pos) (dSlice g fa fl fh) := by
  obtain ⟨ta, pa, ea⟩ := ha
  obtain ⟨tl, pl, el⟩ := hl
  obtain ⟨th, ph, eh⟩ := hh
  refine ⟨_, pe_slice hr pa pl ph, ?_⟩
  intro c O H σ en Q hc rs h
  refine ea c O H σ en _ hc rs (Po.bind h fun d1 en1 v1 H1 _ rs1 k1 r1 h1 => ?_)
  refine el c O H1 σ en1 _ hc rs1 (Po.bind h1 fun d2 en2 v2 H2 _ rs2 k2 r2 h2 => ?_)
  refine eh c O H2 σ en2 _ hc rs2 (Po.bind h2 fun d3 en3 v3 H3 _ rs3 k3 r3 h3 => ?_)
  subst r2 r3
  have hv := PoV.of h3 rs3
  rw [hc] at hv
  have r1' := (r1.keep k2.keep).keep k3.keep
  rw [hc] at r1'
  exact hd O H3 v1 d1 v2 v3 Q rs3.live r1' hv
theorem fresh_notin {O : List Addr} {H : Hp} {p : Addr} (l : ∀ a ∈ O, H a ≠ none) (h : H p = none) : p ∉ O := fun z => l p z h
def gTup (xs : List PyData) : Res PyData := if xs.length ≤ sizeLine then .ok (.tuple xs) else .bad
def gLst (xs : List PyData) : Res PyData := if xs.length ≤ sizeLine then .ok (.list xs) else .bad
theorem de_tup {k : Nat} {f : An} (h : DA X es f) : DE X (.Tuple es k pos) (dApp gTup f) := by
  obtain ⟨t, p, ev⟩ := h
  refine ⟨_, pe_tup p, ?_⟩
  intro c O H σ en Q hc rs hp
  refine ev c O H σ en _ hc rs (Po.bind hp fun d1 en1 v1 H1 _ rs1 k1 r1 h1 => ?_)
  unfold gTup at h1
  by_cases hz : d1.length ≤ sizeLine
  · rw [if_pos hz] at h1
    refine ⟨by rw [r1.length]; exact hz, fun q hq => h1 _ _ (rs1.same (same_new hq)) (.same (same_new hq)) ?_⟩
    exact .tup upd_same (fresh_notin rs1.live hq) (by rw [r1.length]; exact hz) (r1.keep (keep_new hq))
  · rw [if_neg hz] at h1; exact h1.elim
theorem de_lst {f : An} (h : DA X es f) : DE X (.List es pos) (dApp gLst f) := by
  obtain ⟨t, p, ev⟩ := h
  refine ⟨_, pe_lst p, ?_⟩
  intro c O H σ en Q hc rs hp
  refine ev c O H σ en _ hc rs (Po.bind hp fun d1 en1 v1 H1 _ rs1 k1 r1 h1 => ?_)
  unfold gLst at h1
  by_cases hz : d1.length ≤ sizeLine
  · rw [if_pos hz] at h1
    refine ⟨by rw [r1.length]; exact hz, fun q hq => h1 _ _ (rs1.same (same_new hq)) (.same (same_new hq)) ?_⟩
    exact .lst upd_same (fresh_notin rs1.live hq) (by rw [r1.length]; exact hz) (r1.keep (keep_new hq))
  · rw [if_neg hz] at h1; exact h1.elim
end
end EL

set_option maxHeartbeats 2000000
namespace EL
open PySem PySem.Spec PyProof.Rows L2
variable [Wsh] [Tbx]

/-! ### what is read -/
section
variable {K : PySem.W.Frag} {O : List Addr} {H : Hp}
theorem Rp.tupI {v : V} {ds : List PyData} (h : Rp K O H v (.tuple ds)) : ∃ a xs, v = .ref a ∧ SqT K H a xs ∧ xs.length ≤ sizeLine ∧ RpA K O H xs ds := by
  cases h with
  | tup h1 h2 h3 h4 => exact ⟨_, _, rfl, .inl (.inl h1), h3, h4⟩
  | tupK h1 h3 h4 => exact ⟨_, _, rfl, h1 H, h3, h4⟩
theorem Rp.lstI {v : V} {ds : List PyData} (h : Rp K O H v (.list ds)) : ∃ a xs, v = .ref a ∧ H a = some (.lst xs) ∧ a ∉ O ∧ xs.length ≤ sizeLine ∧ RpA K O H xs ds := by
  cases h with
  | lst h1 h2 h3 h4 => exact ⟨_, _, rfl, h1, h2, h3, h4⟩
theorem Rp.dicI {v : V} {ds : List (PyData × PyData)} (h : Rp K O H v (.dict ds)) (i : instD ds = false) : ∃ a kvs, v = .ref a ∧ Rd H a (.dK kvs) ∧ a ∉ O ∧ kvs.length ≤ sizeLine ∧ RpD K O H kvs ds := by
  cases h with
  | dic h1 h2 h3 h4 => exact ⟨_, _, rfl, .inr ⟨_, h1⟩, h2, h3, h4⟩
  | ins => cases i
  | exc => cases i
theorem Rp.dicF {v : V} {ds : List (PyData × PyData)} (h : Rp K O H v (.dict ds)) (i : instD ds = false) : ∃ a o kvs, v = .ref a ∧ H a = some (.frz o (.dK kvs)) ∧ a ∉ O ∧ kvs.length ≤ sizeLine ∧ RpD K O H kvs ds := by
  cases h with
  | dic h1 h2 h3 h4 => exact ⟨_, _, _, rfl, h1, h2, h3, h4⟩
  | ins => cases i
  | exc => cases i
theorem RpD.headK {kvs : List (Key × V)} {p : PyData × PyData} {r : List (PyData × PyData)} (h : RpD K O H kvs (p :: r)) : ∃ k, p.1 = kD k := by
  cases h with
  | cons _ _ => exact ⟨_, rfl⟩
theorem Rp.insI {v : V} {cn : Str} {fds : List (PyData × PyData)} (h : Rp K O H v (.dict ((.none, .str cn) :: fds))) : ∃ a C dx fs, v = .ref a ∧ PySem.W.nsIn K mainGlobals cn = some (some (.ref C)) ∧ H a = some (.ins C dx fs) ∧ a ∉ O ∧ fs.length ≤ 900 ∧ RpF K O H fs fds := by
  generalize hd : PyData.dict ((.none, .str cn) :: fds) = d at h
  cases h with
  | dic h1 h2 h3 h4 =>
    cases hd
    obtain ⟨k, e⟩ := h4.headK
    cases k <;> cases e
  | ins h1 h2 h3 h4 h5 => cases hd; exact ⟨_, _, _, _, rfl, h1, h2, h3, h4, h5⟩
  | _ => cases hd
theorem Rp.strI {v : V} {x : Str} (h : Rp K O H v (.str x)) : v = .str x ∧ x.length ≤ sizeLine := by
  cases h with
  | str _ z => exact ⟨rfl, z⟩
theorem Rp.newT {p : Addr} {xs : List V} {ds : List PyData} (l : ∀ a ∈ O, H a ≠ none) (h : H p = none) (z : xs.length ≤ sizeLine) (r : RpA K O H xs ds) : Rp K O (upd H p (.tup xs)) (.ref p) (.tuple ds) :=
  .tup upd_same (fresh_notin l h) z (r.keep (keep_new h))
theorem Rp.newL {p : Addr} {xs : List V} {ds : List PyData} (l : ∀ a ∈ O, H a ≠ none) (h : H p = none) (z : xs.length ≤ sizeLine) (r : RpA K O H xs ds) : Rp K O (upd H p (.lst xs)) (.ref p) (.list ds) :=
  .lst upd_same (fresh_notin l h) z (r.keep (keep_new h))
mutual
theorem Rp.dp : ∀ {v : V} {d : PyData}, Rp K O H v d → d.canLay0 = true → Dp K H v d
  | _, _, .non, _ => .non
  | _, _, .bl b, _ => .bl b
  | _, _, .int i, _ => .int i
  | _, _, .str x _, _ => .str x
  | _, _, .lst h _ _ a, z => .lst (.inl (.inl h)) (RpA.dp a (by simpa [PyData.canLay0] using z))
  | _, _, .tup h _ _ a, z => .tup (.inl (.inl h)) (RpA.dp a (by simpa [PyData.canLay0] using z))
  | _, _, .tupK h _ a, z => .tup (h H) (RpA.dp a (by simpa [PyData.canLay0] using z))
  | _, _, .dic _ _ _ _, z => by simp [PyData.canLay0] at z
  | _, _, .ins _ _ _ _ _, z => by simp [PyData.canLay0] at z
  | _, _, .exc _ _ _ _ _ _ _, z => by simp [PyData.canLay0] at z
theorem RpA.dp : ∀ {vs : List V} {ds : List PyData}, RpA K O H vs ds → PyData.canLayAll0 ds = true → DpAll K H vs ds
  | _, _, .nil, _ => .nil
  | _, _, .cons a b, z => by
    simp only [PyData.canLayAll0, Bool.and_eq_true] at z
    exact .cons (Rp.dp a z.1) (RpA.dp b z.2)
end
end

/-! ### operators on data -/
section
variable {K : PySem.W.Frag}
theorem PoV.okE {O : List Addr} {H : Hp} {d : PyData} {v : V} {Q : V → Hp → Prop} (h : PoV K O H (.ok d) Q) (r : Rp K O H v d) : Q v H := h v H (Same.refl _) r
theorem OpD.or {r r' : R2} {g : PyData → PyData → Res PyData} (h : ∀ (O : List Addr) (H : Hp) (x y : V) (dx dy : PyData) (Q : V → Hp → Prop), (∀ a ∈ O, H a ≠ none) → Rp K O H x dx → Rp K O H y dy → PoV K O H (g dx dy) Q → r x y H Q ∨ r' x y H Q) : OpD K (fun x y H Q => r x y H Q ∨ r' x y H Q) g := h

def gAdd : PyData → PyData → Res PyData
  | .int i, .int j => .ok (.int (i + j))
  | .str x, .str y => if x.length + y.length ≤ sizeLine then .ok (.str (x ++ y)) else .bad
  | .list xs, .list ys => if xs.length + ys.length ≤ sizeLine then .ok (.list (xs ++ ys)) else .bad
  | .tuple xs, .tuple ys => if xs.length + ys.length ≤ sizeLine then .ok (.tuple (xs ++ ys)) else .bad
  | _, _ => .bad
abbrev rAddD (K : PySem.W.Frag) : R2 := fun x y H Q => (rI0 fun i j => V.int (i + j)) x y H Q ∨ (fun x y H Q => (fun x y H Q => ∃ i j, x = V.str i ∧ y = V.str j ∧ i.length + j.length ≤ sizeLine ∧ Q (V.str (i ++ j)) H) x y H Q ∨ (fun x y H Q => rCat x y H Q ∨ rCatA K x y H Q) x y H Q) x y H Q
theorem op_addD {X : Cx} : OpR X (binaryOp .Add) (rAddD X.K) := op_add.or (op_add_str.or (op_cat.or op_catA))
theorem gAdd_ok : OpD K (rAddD K) gAdd := by
  intro O H x y dx dy Q l rx ry h
  cases dx with
  | int i =>
    cases dy with
    | int j => cases rx; cases ry; exact .inl ⟨i, j, rfl, rfl, h.okE (.int _)⟩
    | _ => exact h.elim
  | str z =>
    cases dy with
    | str w =>
      obtain ⟨rfl, z1⟩ := rx.strI
      obtain ⟨rfl, z2⟩ := ry.strI
      simp only [gAdd] at h
      by_cases hz : z.length + w.length ≤ sizeLine
      · rw [if_pos hz] at h
        refine .inr (.inl ⟨z, w, rfl, rfl, hz, h.okE (.str _ ?_)⟩)
        rw [Str.length_append]; exact hz
      · rw [if_neg hz] at h; exact h.elim
    | _ => exact h.elim
  | list as =>
    cases dy with
    | list bs =>
      obtain ⟨a, xs, rfl, h1, _, h3, h4⟩ := rx.lstI
      obtain ⟨b, ys, rfl, g1, _, g3, g4⟩ := ry.lstI
      simp only [gAdd] at h
      by_cases hz : as.length + bs.length ≤ sizeLine
      · rw [if_pos hz] at h
        have hz' : xs.length + ys.length ≤ sizeLine := by rw [h4.length, g4.length]; exact hz
        exact .inr (.inr (.inl ⟨a, b, xs, ys, rfl, rfl, h1, g1, hz', fun p hp => h _ _ (same_new hp) (Rp.newL l hp (by simpa using hz') (h4.append g4))⟩))
      · rw [if_neg hz] at h; exact h.elim
    | _ => exact h.elim
  | tuple as =>
    cases dy with
    | tuple bs =>
      obtain ⟨a, xs, rfl, h1, h3, h4⟩ := rx.tupI
      obtain ⟨b, ys, rfl, g1, g3, g4⟩ := ry.tupI
      simp only [gAdd] at h
      by_cases hz : as.length + bs.length ≤ sizeLine
      · rw [if_pos hz] at h
        have hz' : xs.length + ys.length ≤ sizeLine := by rw [h4.length, g4.length]; exact hz
        refine .inr (.inr (.inr ⟨a, b, xs, ys, rfl, rfl, h1, g1, hz', fun e => ?_, fun _ e => ?_, fun _ _ p hp => h _ _ (same_new hp) (Rp.newT l hp (by simpa using hz') (h4.append g4))⟩))
        · subst e; cases h4; exact h.okE ry
        · subst e; cases g4; exact h.okE (by simpa using rx)
      · rw [if_neg hz] at h; exact h.elim
    | _ => exact h.elim
  | _ => exact h.elim

/-- two whole numbers -/
def gI (C : Int → Int → Bool) (f : Int → Int → PyData) : PyData → PyData → Res PyData
  | .int i, .int j => if C i j = true then .ok (f i j) else .bad
  | _, _ => .bad
theorem gI_ok {C : Int → Int → Bool} {C' : Int → Int → Prop} {f : Int → Int → PyData} {g : Int → Int → V} (hC : ∀ i j, C i j = true → C' i j) (hf : ∀ i j O H, Rp K O H (g i j) (f i j)) : OpD K (rI C' g) (gI C f) := by
  intro O H x y dx dy Q l rx ry h
  cases dx with
  | int i =>
    cases dy with
    | int j =>
      cases rx; cases ry
      simp only [gI] at h
      by_cases hc : C i j = true
      · rw [if_pos hc] at h
        exact ⟨i, j, rfl, rfl, hC i j hc, h.okE (hf i j O H)⟩
      · rw [if_neg hc] at h; exact h.elim
    | _ => exact h.elim
  | _ => exact h.elim
theorem gI0_ok {f : Int → Int → PyData} {g : Int → Int → V} (hf : ∀ i j O H, Rp K O H (g i j) (f i j)) : OpD K (rI0 g) (gI (fun _ _ => true) f) := by
  intro O H x y dx dy Q l rx ry h
  obtain ⟨i, j, h1, h2, _, q⟩ := gI_ok (C' := fun _ _ => True) (fun _ _ _ => trivial) hf O H x y dx dy Q l rx ry h
  exact ⟨i, j, h1, h2, q⟩
abbrev gSub := gI (fun _ _ => true) fun i j => .int (i - j)
theorem gSub_ok : OpD K (rI0 fun i j => V.int (i - j)) gSub := gI0_ok fun _ _ _ _ => .int _
abbrev gMul := gI (fun i j => (decide (-(2 ^ 64) < i) && decide (i < 2 ^ 64)) || (decide (-(2 ^ 64) < j) && decide (j < 2 ^ 64))) fun i j => .int (i * j)
theorem gMul_ok : OpD K (rI CMul fun i j => V.int (i * j)) gMul := gI_ok (fun i j h => by
  simp only [Bool.or_eq_true, Bool.and_eq_true, decide_eq_true_eq] at h
  exact h) fun _ _ _ _ => .int _
abbrev gMod := gI (fun _ j => decide (0 < j)) fun i j => .int (i % j)
theorem gMod_ok : OpD K (rI (fun _ j => 0 < j) fun i j => V.int (i % j)) gMod := gI_ok (fun _ _ h => of_decide_eq_true h) fun _ _ _ _ => .int _
/-! ### comparisons -/
def gEq (x y : PyData) : Res PyData := if (SeqAt.shaped x && SeqAt.shaped y) = true then .ok (.bool (PyData.eqv x y)) else .bad
def gNe (x y : PyData) : Res PyData := if (SeqAt.shaped x && SeqAt.shaped y) = true then .ok (.bool (!PyData.eqv x y)) else .bad
theorem gEq_ok : OpD K (rEqD K) gEq := by
  intro O H x y dx dy Q l rx ry h
  unfold gEq at h
  by_cases hs : (SeqAt.shaped dx && SeqAt.shaped dy) = true
  · rw [if_pos hs] at h
    rw [Bool.and_eq_true] at hs
    exact ⟨dx, dy, rx.dp (SeqAt.canLay_of_shaped hs.1), ry.dp (SeqAt.canLay_of_shaped hs.2), hs.1, hs.2, h.okE (.bl _)⟩
  · rw [if_neg hs] at h; exact h.elim
theorem gNe_ok : OpD K (rNeD K) gNe := by
  intro O H x y dx dy Q l rx ry h
  unfold gNe at h
  by_cases hs : (SeqAt.shaped dx && SeqAt.shaped dy) = true
  · rw [if_pos hs] at h
    rw [Bool.and_eq_true] at hs
    exact ⟨dx, dy, rx.dp (SeqAt.canLay_of_shaped hs.1), ry.dp (SeqAt.canLay_of_shaped hs.2), hs.1, hs.2, h.okE (.bl _)⟩
  · rw [if_neg hs] at h; exact h.elim
/-- <, <=, >, >= of whole numbers and of texts -/
def gOrd (p : Int → Int → Bool) (q : List Nat → List Nat → Bool) : PyData → PyData → Res PyData
  | .int i, .int j => .ok (.bool (p i j))
  | .str x, .str y => .ok (.bool (q x.cps.toList y.cps.toList))
  | _, _ => .bad
theorem gOrd_ok {p : Int → Int → Bool} {q : List Nat → List Nat → Bool} : OpD K (fun x y H Q => (rI0 fun i j => V.bl (p i j)) x y H Q ∨ (fun x y H Q => ∃ i j, x = V.str i ∧ y = V.str j ∧ Q (V.bl (q i.cps.toList j.cps.toList)) H) x y H Q) (gOrd p q) := by
  intro O H x y dx dy Q l rx ry h
  cases dx with
  | int i =>
    cases dy with
    | int j => cases rx; cases ry; exact .inl ⟨i, j, rfl, rfl, h.okE (.bl _)⟩
    | _ => exact h.elim
  | str z =>
    cases dy with
    | str w =>
      obtain ⟨rfl, _⟩ := rx.strI
      obtain ⟨rfl, _⟩ := ry.strI
      exact .inr ⟨z, w, rfl, rfl, h.okE (.bl _)⟩
    | _ => exact h.elim
  | _ => exact h.elim
abbrev gLt := gOrd (fun i j => decide (i < j)) (fun x y => decide (x < y))
abbrev gLe := gOrd (fun i j => decide (i ≤ j)) (fun x y => !decide (y < x))
abbrev gGt := gOrd (fun i j => decide (j < i)) (fun x y => decide (y < x))
abbrev gGe := gOrd (fun i j => decide (j ≤ i)) (fun x y => !decide (x < y))
theorem op_ltD {X : Cx} : OpR X (compareOp .Lt) (fun x y H Q => (rI0 fun i j => V.bl (decide (i < j))) x y H Q ∨ (fun x y H Q => ∃ i j, x = V.str i ∧ y = V.str j ∧ Q (V.bl (decide (i.cps.toList < j.cps.toList))) H) x y H Q) := op_lt.or op_lt_str
theorem op_leD {X : Cx} : OpR X (compareOp .LtE) (fun x y H Q => (rI0 fun i j => V.bl (decide (i ≤ j))) x y H Q ∨ (fun x y H Q => ∃ i j, x = V.str i ∧ y = V.str j ∧ Q (V.bl (!decide (j.cps.toList < i.cps.toList))) H) x y H Q) := op_le.or op_le_str
theorem op_gtD {X : Cx} : OpR X (compareOp .Gt) (fun x y H Q => (rI0 fun i j => V.bl (decide (j < i))) x y H Q ∨ (fun x y H Q => ∃ i j, x = V.str i ∧ y = V.str j ∧ Q (V.bl (decide (j.cps.toList < i.cps.toList))) H) x y H Q) := op_gt.or op_gt_str
theorem op_geD {X : Cx} : OpR X (compareOp .GtE) (fun x y H Q => (rI0 fun i j => V.bl (decide (j ≤ i))) x y H Q ∨ (fun x y H Q => ∃ i j, x = V.str i ∧ y = V.str j ∧ Q (V.bl (!decide (i.cps.toList < j.cps.toList))) H) x y H Q) := op_ge.or op_ge_str
/-- is None, is not None -/
def isNone : PyData → Bool
  | .none => true
  | _ => false
def gIsN (x y : PyData) : Res PyData := if isNone y = true then .ok (.bool (isNone x)) else .bad
def gNotN (x y : PyData) : Res PyData := if isNone y = true then .ok (.bool (!isNone x)) else .bad
theorem Rp.non_iff {O : List Addr} {H : Hp} {v : V} {d : PyData} (r : Rp K O H v d) : decide (v = .non) = isNone d := by cases r <;> rfl
theorem gIsN_ok : OpD K (fun x y H Q => y = .non ∧ Q (.bl (decide (x = .non))) H) gIsN := by
  intro O H x y dx dy Q l rx ry h
  unfold gIsN at h
  cases dy with
  | none => cases ry; refine ⟨rfl, ?_⟩; rw [rx.non_iff]; exact h.okE (.bl _)
  | _ => exact h.elim
theorem gNotN_ok : OpD K (fun x y H Q => y = .non ∧ Q (.bl (!decide (x = .non))) H) gNotN := by
  intro O H x y dx dy Q l rx ry h
  unfold gNotN at h
  cases dy with
  | none => cases ry; refine ⟨rfl, ?_⟩; rw [rx.non_iff]; exact h.okE (.bl _)
  | _ => exact h.elim
end
end EL

set_option maxHeartbeats 2000000
namespace EL
open PySem PySem.Spec PyProof.Rows L2
variable [Wsh] [Tbx]

/-! ### isinstance -/
inductive Ty where
  | int | bool | str | tuple | list | dict
  deriving DecidableEq
def Ty.nm : Ty → String
  | .int => "int" | .bool => "bool" | .str => "str" | .tuple => "tuple" | .list => "list" | .dict => "dict"
inductive Tag where
  | none | bool | int | str | list | tuple | dict
def Tag.nm : Tag → String
  | .none => "NoneType" | .bool => "bool" | .int => "int" | .str => "str" | .list => "list" | .tuple => "tuple" | .dict => "dict"
def tagOf : PyData → Tag
  | .none => .none | .bool _ => .bool | .int _ => .int | .str _ => .str | .list _ => .list | .tuple _ => .tuple | .dict _ => .dict
def tyN (d : PyData) : String := (tagOf d).nm
def isiT : Ty → Tag → Bool
  | .int, .int => true
  | .int, .bool => true
  | .bool, .bool => true
  | .str, .str => true
  | .tuple, .tuple => true
  | .list, .list => true
  | .dict, .dict => true
  | _, _ => false
def isiB (t : Ty) (d : PyData) : Bool := isiT t (tagOf d)
theorem kitB_tag (t : Ty) (g : Tag) : kitB g.nm t.nm = some (isiT t g) := by
  cases t <;> cases g <;> decide +kernel
theorem kitB_isi (t : Ty) (d : PyData) : kitB (tyN d) t.nm = some (isiB t d) := kitB_tag t (tagOf d)
def instP : PyData → Bool
  | .dict kds => instD kds
  | _ => false
def gIsi (t : Ty) (d : PyData) : Res PyData := if instP d = true then .bad else .ok (.bool (isiB t d))
section
variable {K : PySem.W.Frag} {O : List Addr} {H : Hp}
theorem Rp.tyX {v : V} {d : PyData} (r : Rp K O H v d) (hin : instP d ≠ true) : TyX K H v (.type (tyN d)) := by
  cases r with
  | ins _ _ _ _ _ => exact absurd rfl hin
  | exc _ _ _ _ _ _ _ => exact absurd rfl hin
  | non => exact .base .non
  | bl b => exact .base (.bl b)
  | int i => exact .base (.int i)
  | str x _ => exact .base (.str x)
  | lst h _ _ _ => exact .base (.lst h)
  | tup h _ _ _ => exact .base (.tup h)
  | tupK h _ _ =>
    rcases h (fun _ => none) with (z | ⟨_, z⟩) | ⟨o, its, n, hk, hc, _⟩
    · cases z
    · cases z
    · exact .kTuple hk hc
  | dic h _ _ _ => exact .fDict h
end
section
variable {X : Cx} {pos : Pos} {a b e : Expr} {es : List Expr}
theorem ev_cal2 {K : PySem.W.Frag} {r : List V → Hp → VK → Prop} {g : PyData → Res PyData} {c : V} {ta : TE} {f : Dn} (hd : ∀ (O : List Addr) (H : Hp) (x : V) (d : PyData) (Q : V → Hp → Prop), Rp K O H x d → PoV K O H (g d) Q → r [x, c] H Q) (ea : EvE K ta f) : EvE K (tCB r (tCons ta (tCons (tC c) tNil))) (dUn g f) := by
  intro c O H σ en Q hc rs h
  refine ea c O H σ en _ hc rs (Po.bind h fun d1 en1 v1 H1 _ rs1 k1 r1 h1 => ?_)
  subst hc
  exact hd O H1 v1 d1 Q r1 (PoV.of h1 rs1)
theorem de_isi (t : Ty) {x : Str} {p p2 : Pos} {f : Dn} (hg : Gl X "isinstance") (hm : X.mg "isinstance" = none) (hg2 : Gl X x) (hm2 : X.mg x = none) (hv2 : bootBuiltins x = some (.type t.nm)) (ha : DE X a f) (hn : x ≠ "__name__" := by decide) (hdb : (x == ("__debug__" : Str)) = false := by decide)
    (he : starEach (a :: [.Name x p2]) X.env = (false, eval a X.env) :: starEach [.Name x p2] X.env := by rfl) (hpl : (backTo pos (starEach [.Name x p2] X.env)).any (·.1) = false := by rfl) :
    DE X (.Call (.Name "isinstance" p) [a, .Name x p2] [] pos) (dUn (gIsi t) f) := by
  obtain ⟨ta, pa, ev⟩ := ha
  refine ⟨_, pe_callB call_isi hg hm (by decide +kernel) (pa_cons pa (pa_cons (pe_bltn (v := .ty t.nm) hg2 hm2 hv2 rfl hn hdb) pa_nil (by rfl)) he) (by decide) (by decide) he hpl, ?_⟩
  refine ev_cal2 (fun O H x d Q r h => ?_) ev
  unfold gIsi at h
  by_cases hi : instP d = true
  · rw [if_pos hi] at h; exact h.elim
  · rw [if_neg hi] at h
    exact ⟨x, .ty t.nm, .type (tyN d), .type t.nm, isiB t d, rfl, .ty _, r.tyX hi, kit_ty (kitB_isi t d), h.okE (.bl _)⟩
/-! ### len, all, any, tuple, list, int, str, abs -/
variable {K : PySem.W.Frag}
def g1 (g : PyData → Res PyData) : List PyData → Res PyData
  | [x] => g x
  | _ => .bad
theorem g1_ok {r : List V → Hp → VK → Prop} {g : PyData → Res PyData} (h : ∀ (O : List Addr) (H : Hp) (x : V) (d : PyData) (Q : V → Hp → Prop), (∀ a ∈ O, H a ≠ none) → Rp K O H x d → PoV K O H (g d) Q → r [x] H Q) : CalD K r (g1 g) := by
  intro O H xs ds Q l ra hp
  cases ra with
  | nil => exact hp.elim
  | cons a b =>
    cases b with
    | nil => exact h O H _ _ Q l a hp
    | cons _ _ => exact hp.elim
def gLen : PyData → Res PyData
  | .str x => .ok (.int x.length)
  | .list xs => .ok (.int xs.length)
  | .tuple xs => .ok (.int xs.length)
  | _ => .bad
theorem gLen_ok : CalD K (fun xs H Q => ∃ x n, xs = [x] ∧ LenV K x H n ∧ Q (.int n) H) (g1 gLen) := g1_ok fun O H x d Q l r h => by
  cases d with
  | str z =>
    obtain ⟨rfl, z1⟩ := r.strI
    exact ⟨_, z.length, rfl, ⟨z1, rfl⟩, h.okE (.int _)⟩
  | list ds =>
    obtain ⟨a, xs, rfl, h1, _, _, h4⟩ := r.lstI
    refine ⟨_, ds.length, rfl, .inl ⟨xs, .inl (.inl h1), h4.length.symm⟩, h.okE (.int _)⟩
  | tuple ds =>
    obtain ⟨a, xs, rfl, h1, _, h4⟩ := r.tupI
    refine ⟨_, ds.length, rfl, .inr ⟨xs, h1, h4.length.symm⟩, h.okE (.int _)⟩
  | _ => exact h.elim
/-- truths -/
def bools : List PyData → Option (List Bool)
  | [] => some []
  | .bool b :: r => (bools r).map (b :: ·)
  | _ :: _ => none
theorem bools_ok {O : List Addr} {H : Hp} : ∀ {xs : List V} {ds : List PyData} {bs : List Bool}, RpA K O H xs ds → bools ds = some bs → xs = bs.map V.bl
  | _, _, _, .nil, e => by cases e; rfl
  | _, _, bs, .cons (d := d) r t, e => by
    cases d with
    | bool b =>
      cases r
      simp only [bools, Option.map_eq_some_iff] at e
      obtain ⟨bs', e1, rfl⟩ := e
      rw [bools_ok t e1]; rfl
    | _ => simp [bools] at e
def gBs (f : List Bool → Bool) : PyData → Res PyData
  | .list ds => match bools ds with
    | some bs => .ok (.bool (f bs))
    | none => .bad
  | _ => .bad
theorem gBs_ok {f : List Bool → Bool} : CalD K (fun vs H Q => ∃ (a : Addr) (bs : List Bool), vs = [V.ref a] ∧ SqL K H a (bs.map V.bl) ∧ Q (.bl (f bs)) H) (g1 (gBs f)) := g1_ok fun O H x d Q l r h => by
  cases d with
  | list ds =>
    obtain ⟨a, xs, rfl, h1, _, _, h4⟩ := r.lstI
    simp only [gBs] at h
    cases q : bools ds with
    | none => rw [q] at h; exact h.elim
    | some bs =>
      rw [q] at h
      exact ⟨a, bs, rfl, .inl (.inl (by rw [← bools_ok h4 q]; exact h1)), h.okE (.bl _)⟩
  | _ => exact h.elim
abbrev gAll := gBs fun bs => bs.all id
theorem RpD.keys {O : List Addr} {H : Hp} : ∀ {kvs : List (Key × V)} {kds : List (PyData × PyData)}, RpD K O H kvs kds → (∀ kv ∈ kvs, ∀ x, kv.1 = Sum.inr x → x.length ≤ sizeLine) → RpA K O H (kvs.map fun kv => kV kv.1) (kds.map (·.1))
  | _, _, .nil, _ => .nil
  | _, _, .cons (k := k) r t, h => by
    refine .cons ?_ (RpD.keys t fun kv hk => h kv (List.mem_cons_of_mem _ hk))
    cases k with
    | inl i => exact .int i
    | inr x => exact .str x (h _ List.mem_cons_self x rfl)
def gInt : PyData → Res PyData
  | .int i => .ok (.int i)
  | .bool b => .ok (.int (if b then 1 else 0))
  | .str x => if x.length ≤ 640 then (match PySem.intText? x with
    | some n => .ok (.int n)
    | none => .bad) else .bad
  | _ => .bad
theorem call_intD : CallR X (.type "int") (fun xs H Q => ((∃ i, xs = [.int i] ∧ Q (.int i) H) ∨ ∃ k, xs = [.bl k] ∧ Q (.int (if k then 1 else 0)) H) ∨ ∃ a n, xs = [.str a] ∧ PySem.intText? a = some n ∧ a.length ≤ 640 ∧ Q (.int n) H) := by
  intro pins s σ H xs us Q I r h
  rcases h with h | h
  · exact call_int1 pins s σ H xs us Q I r h
  · exact call_int_str pins s σ H xs us Q I r h
theorem gInt_ok : CalD K (fun xs H Q => ((∃ i, xs = [.int i] ∧ Q (.int i) H) ∨ ∃ k, xs = [.bl k] ∧ Q (.int (if k then 1 else 0)) H) ∨ ∃ a n, xs = [.str a] ∧ PySem.intText? a = some n ∧ a.length ≤ 640 ∧ Q (.int n) H) (g1 gInt) := g1_ok fun O H x d Q l r h => by
  cases d with
  | int i => cases r; exact .inl (.inl ⟨i, rfl, h.okE (.int i)⟩)
  | bool b => cases r; exact .inl (.inr ⟨b, rfl, h.okE (.int _)⟩)
  | str z =>
    obtain ⟨rfl, _⟩ := r.strI
    simp only [gInt] at h
    by_cases hz : z.length ≤ 640
    · rw [if_pos hz] at h
      cases q : PySem.intText? z with
      | none => rw [q] at h; exact h.elim
      | some n => rw [q] at h; exact .inr ⟨z, n, rfl, q, hz, h.okE (.int n)⟩
    · rw [if_neg hz] at h; exact h.elim
  | _ => exact h.elim
def gAbs : PyData → Res PyData
  | .int i => .ok (.int (if i < 0 then -i else i))
  | _ => .bad
theorem gAbs_ok : CalD K (fun xs H Q => ∃ i, xs = [.int i] ∧ Q (.int (if i < 0 then -i else i)) H) (g1 gAbs) := g1_ok fun O H x d Q l r h => by
  cases d with
  | int i => cases r; exact ⟨i, rfl, h.okE (.int _)⟩
  | _ => exact h.elim
end
end EL

set_option maxHeartbeats 2000000
namespace EL
open PySem PySem.Spec PyProof.Rows L2
variable [Wsh] [Tbx]

/-! ### in, not in -/
def flatD : PyData → Bool
  | .none => true
  | .bool _ => true
  | .int _ => true
  | .str _ => true
  | _ => false
def inStr (x y : Str) : Bool := match x.cps.toList with
  | [c] => decide (c ∈ y.cps.toList)
  | _ => !(Builtin.Str.occurrences y x 0 y.length 1).isEmpty
def inB : PyData → PyData → Option Bool
  | .str x, .str y => some (inStr x y)
  | x, .list ys => if (SeqAt.shaped x && SeqAt.shaped (.list ys)) = true then some (ys.any fun z => PyData.eqv z x) else none
  | x, .tuple ys => if ((flatD x && ys.all flatD) || (SeqAt.shaped x && SeqAt.shaped (.tuple ys))) = true then some (ys.any fun z => PyData.eqv z x) else none
  | _, _ => none
def gIn (x y : PyData) : Res PyData := match inB x y with
  | some b => .ok (.bool b)
  | none => .bad
def gNotIn (x y : PyData) : Res PyData := match inB x y with
  | some b => .ok (.bool (!b))
  | none => .bad
section
variable {K : PySem.W.Frag} {O : List Addr} {H : Hp}
theorem Rp.flat {v : V} {d : PyData} (r : Rp K O H v d) : flatV v = flatD d := by cases r <;> rfl
theorem RpA.flat : ∀ {vs : List V} {ds : List PyData}, RpA K O H vs ds → vs.all flatV = ds.all flatD
  | _, _, .nil => rfl
  | _, _, .cons a b => by simp only [List.all_cons, a.flat, RpA.flat b]
theorem Rp.eqv {v w : V} {d e : PyData} (r : Rp K O H v d) (q : Rp K O H w e) (h1 : flatD d = true) (h2 : flatD e = true) : eqV v w = PyData.eqv d e := by
  cases r <;> first | (cases q <;> first | rfl | (exact absurd h2 (by simp [flatD]))) | (exact absurd h1 (by simp [flatD]))
theorem RpA.inV {w : V} {e : PyData} (q : Rp K O H w e) (h2 : flatD e = true) : ∀ {vs : List V} {ds : List PyData}, RpA K O H vs ds → ds.all flatD = true → inV w vs = ds.any fun z => PyData.eqv z e
  | _, _, .nil, _ => rfl
  | _, _, .cons a b, h => by
    simp only [List.all_cons, Bool.and_eq_true] at h
    have ih := RpA.inV q h2 b h.2
    unfold L2.inV at ih ⊢
    simp only [List.any_cons, a.eqv q h.1 h2, ih]
/-- the ways of in: a sign, a text, flat items, deep items -/
abbrev rInA (K : PySem.W.Frag) (neg : Bool) : R2 := fun x y H Q =>
  (∃ (c : Nat) (z : Str), x = V.str ⟨#[c]⟩ ∧ y = V.str z ∧ Q (V.bl (if neg then !decide (c ∈ z.cps.toList) else decide (c ∈ z.cps.toList))) H) ∨
  (∃ i j, x = V.str i ∧ y = V.str j ∧ Q (V.bl (if neg then !(!(Builtin.Str.occurrences j i 0 j.length 1).isEmpty) else !(Builtin.Str.occurrences j i 0 j.length 1).isEmpty)) H) ∨ rIn K neg x y H Q ∨
  (∃ d ds, Dp K H x d ∧ Dp K H y (.list ds) ∧ SeqAt.shaped d = true ∧ SeqAt.shaped (.list ds) = true ∧ Q (V.bl (if neg then !ds.any fun z => PyData.eqv z d else ds.any fun z => PyData.eqv z d)) H) ∨
  ∃ d ds, Dp K H x d ∧ Dp K H y (.tuple ds) ∧ SeqAt.shaped d = true ∧ SeqAt.shaped (.tuple ds) = true ∧ Q (V.bl (if neg then !ds.any fun z => PyData.eqv z d else ds.any fun z => PyData.eqv z d)) H
theorem op_inT {X : Cx} (hu : X.A.units + 65 < cLine) : OpR X (compareOp .In) (fun x y H Q => ∃ d ds, Dp X.K H x d ∧ Dp X.K H y (.tuple ds) ∧ SeqAt.shaped d = true ∧ SeqAt.shaped (.tuple ds) = true ∧ Q (.bl (ds.any fun z => PyData.eqv z d)) H) := by
  intro pins s σ H x y v u Q I rx ry h
  obtain ⟨d, ds, hd, he, sd, se, q⟩ := h
  obtain ⟨as, r1⟩ := Dp.reads I d x v hd rx
  obtain ⟨bs, r2⟩ := Dp.reads I (.tuple ds) y u he ry
  exact SeqAt.in_tuple_reads r2 r1 (SeqAt.canLay_of_shaped se) (SeqAt.canLay_of_shaped sd) (room_in_shaped sd hu) ⟨.bl _, H, I, rfl, q⟩
theorem op_notInT {X : Cx} (hu : X.A.units + 65 < cLine) : OpR X (compareOp .NotIn) (fun x y H Q => ∃ d ds, Dp X.K H x d ∧ Dp X.K H y (.tuple ds) ∧ SeqAt.shaped d = true ∧ SeqAt.shaped (.tuple ds) = true ∧ Q (.bl (!ds.any fun z => PyData.eqv z d)) H) := by
  intro pins s σ H x y v u Q I rx ry h
  obtain ⟨d, ds, hd, he, sd, se, q⟩ := h
  obtain ⟨as, r1⟩ := Dp.reads I d x v hd rx
  obtain ⟨bs, r2⟩ := Dp.reads I (.tuple ds) y u he ry
  exact SeqAt.notIn_tuple_reads r2 r1 (SeqAt.canLay_of_shaped se) (SeqAt.canLay_of_shaped sd) (room_in_shaped sd hu) ⟨.bl _, H, I, rfl, q⟩
theorem op_inA {X : Cx} (hu : X.A.units + 65 < cLine) : OpR X (compareOp .In) (rInA X.K false) := op_in_sign.or (op_in_str.or (op_in_seq.or ((op_inD hu).or (op_inT hu))))
theorem op_notInA {X : Cx} (hu : X.A.units + 65 < cLine) : OpR X (compareOp .NotIn) (rInA X.K true) := op_notIn_sign.or (op_notin_str.or (op_notIn_seq.or ((op_notInD hu).or (op_notInT hu))))
theorem inA_ok {neg : Bool} {x y : V} {dx dy : PyData} {b : Bool} {Q : V → Hp → Prop} (rx : Rp K O H x dx) (ry : Rp K O H y dy) (e : inB dx dy = some b) (h : Q (.bl (if neg then !b else b)) H) : rInA K neg x y H Q := by
  cases dy with
  | str w =>
    cases dx with
    | str z =>
      obtain ⟨rfl, _⟩ := rx.strI
      obtain ⟨rfl, _⟩ := ry.strI
      simp only [inB, Option.some.injEq] at e
      subst e
      by_cases hz : ∃ c, z = ⟨#[c]⟩
      · obtain ⟨c, rfl⟩ := hz
        exact .inl ⟨c, w, rfl, rfl, h⟩
      · have e2 : inStr z w = !(Builtin.Str.occurrences w z 0 w.length 1).isEmpty := by
          unfold inStr
          split
          · rename_i c hc
            refine absurd ⟨c, ?_⟩ hz
            obtain ⟨⟨l⟩⟩ := z
            simp only at hc
            subst hc
            rfl
          · rfl
        rw [e2] at h
        exact .inr (.inl ⟨z, w, rfl, rfl, h⟩)
    | _ => simp [inB] at e
  | list ys =>
    have e' : (if (SeqAt.shaped dx && SeqAt.shaped (.list ys)) = true then some (ys.any fun z => PyData.eqv z dx) else none) = some b := by
      cases dx <;> exact e
    by_cases hs : (SeqAt.shaped dx && SeqAt.shaped (.list ys)) = true
    · rw [if_pos hs] at e'
      rw [Bool.and_eq_true] at hs
      have e2 := Option.some.inj e'
      subst e2
      exact .inr (.inr (.inr (.inl ⟨dx, ys, rx.dp (SeqAt.canLay_of_shaped hs.1), ry.dp (SeqAt.canLay_of_shaped hs.2), hs.1, hs.2, h⟩)))
    · rw [if_neg hs] at e'; cases e'
  | tuple ys =>
    have e' : (if ((flatD dx && ys.all flatD) || (SeqAt.shaped dx && SeqAt.shaped (.tuple ys))) = true then some (ys.any fun z => PyData.eqv z dx) else none) = some b := by
      cases dx <;> exact e
    by_cases hs : (flatD dx && ys.all flatD) = true
    · rw [if_pos (by rw [hs]; rfl)] at e'
      rw [Bool.and_eq_true] at hs
      have e2 := Option.some.inj e'
      subst e2
      obtain ⟨a, xs, rfl, h1, _, h4⟩ := ry.tupI
      refine .inr (.inr (.inl ⟨a, xs, rfl, .inr h1, by rw [rx.flat]; exact hs.1, by rw [h4.flat]; exact hs.2, ?_⟩))
      rw [RpA.inV rx hs.1 h4 hs.2]
      exact h
    · by_cases ht : (SeqAt.shaped dx && SeqAt.shaped (.tuple ys)) = true
      · rw [if_pos (by rw [ht, Bool.or_true])] at e'
        rw [Bool.and_eq_true] at ht
        have e2 := Option.some.inj e'
        subst e2
        exact .inr (.inr (.inr (.inr ⟨dx, ys, rx.dp (SeqAt.canLay_of_shaped ht.1), ry.dp (SeqAt.canLay_of_shaped ht.2), ht.1, ht.2, h⟩)))
      · rw [if_neg (by rw [eq_false_of_ne_true hs, eq_false_of_ne_true ht]; decide)] at e'; cases e'
  | _ => cases dx <;> simp [inB] at e
theorem gIn_ok : OpD K (rInA K false) gIn := by
  intro O H x y dx dy Q l rx ry h
  unfold gIn at h
  cases q : inB dx dy with
  | none => rw [q] at h; exact h.elim
  | some b => rw [q] at h; exact inA_ok rx ry q (h.okE (.bl _))
theorem gNotIn_ok : OpD K (rInA K true) gNotIn := by
  intro O H x y dx dy Q l rx ry h
  unfold gNotIn at h
  cases q : inB dx dy with
  | none => rw [q] at h; exact h.elim
  | some b => rw [q] at h; exact inA_ok rx ry q (h.okE (.bl _))

/-! ### items and slices -/
def gIx : PyData → PyData → Res PyData
  | .list xs, .int i => match atI xs i with
    | some d => .ok d
    | none => .bad
  | .tuple xs, .int i => match atI xs i with
    | some d => .ok d
    | none => .bad
  | .str z, .int i => match atI z.cps.toList i with
    | some c => .ok (.str ⟨#[c]⟩)
    | none => .bad
  | _, _ => .bad
theorem RpA.atI {vs : List V} {ds : List PyData} {i : Int} {d : PyData} (r : RpA K O H vs ds) (h : L2.atI ds i = some d) : ∃ v, L2.atI vs i = some v ∧ Rp K O H v d := by
  unfold L2.atI at h ⊢
  rw [r.length]
  cases q : ixN ds.length i with
  | none => rw [q] at h; cases h
  | some j =>
    rw [q] at h
    obtain ⟨v, h1, h2⟩ := r.getD (i := j) (d := d) h
    exact ⟨v, h1, h2⟩
theorem gIx_ok : OpD K (rIx K) gIx := by
  intro O H x y dx dy Q l rx ry h
  cases dy with
  | int i =>
    cases ry
    cases dx with
    | list ds =>
      obtain ⟨a, xs, rfl, h1, _, _, h4⟩ := rx.lstI
      simp only [gIx] at h
      cases q : L2.atI ds i with
      | none => rw [q] at h; exact h.elim
      | some d =>
        rw [q] at h
        obtain ⟨v, e1, e2⟩ := h4.atI q
        exact .inl ⟨a, xs, i, v, rfl, rfl, .inl (.inl h1), e1, h.okE e2⟩
    | tuple ds =>
      obtain ⟨a, xs, rfl, h1, _, h4⟩ := rx.tupI
      simp only [gIx] at h
      cases q : L2.atI ds i with
      | none => rw [q] at h; exact h.elim
      | some d =>
        rw [q] at h
        obtain ⟨v, e1, e2⟩ := h4.atI q
        exact .inr (.inl ⟨a, xs, i, v, rfl, rfl, h1, e1, h.okE e2⟩)
    | str z =>
      obtain ⟨rfl, z1⟩ := rx.strI
      simp only [gIx] at h
      cases q : L2.atI z.cps.toList i with
      | none => rw [q] at h; exact h.elim
      | some c =>
        rw [q] at h
        exact .inr (.inr ⟨z, i, c, rfl, rfl, z1, q, h.okE (.str _ (by show 1 ≤ sizeLine; decide))⟩)
    | _ => exact h.elim
  | _ => cases dx <;> exact h.elim
def cutD {α : Type} (xs : List α) (lo hi : Option Int) : List α := (xs.drop (HT.sIx xs.length 0 lo)).take (HT.sIx xs.length xs.length hi - HT.sIx xs.length 0 lo)
theorem cutD_len {α : Type} (xs : List α) (lo hi : Option Int) : (cutD xs lo hi).length ≤ xs.length := by
  unfold cutD
  rw [List.length_take, List.length_drop]
  omega
theorem RpA.cut {vs : List V} {ds : List PyData} (r : RpA K O H vs ds) (lo hi : Option Int) : RpA K O H (cutV vs lo hi) (cutD ds lo hi) := by
  unfold cutV cutD
  rw [r.length]
  exact (r.drop _).take _
def gSl : PyData → Option Int → Option Int → Res PyData
  | .list xs, lo, hi => .ok (.list (cutD xs lo hi))
  | .tuple xs, lo, hi => .ok (.tuple (cutD xs lo hi))
  | .str z, lo, hi => .ok (.str (cutS z lo hi))
  | _, _, _ => .bad
abbrev rSlD (K : PySem.W.Frag) : V → Option Int → Option Int → Hp → VK → Prop := fun x lo hi H Q => rSlL K x lo hi H Q ∨ rSlA K x lo hi H Q ∨ rSlS x lo hi H Q
theorem sl_D {X : Cx} : SlR X (rSlD X.K) := by
  intro pins s σ H x v vl vu lo hi sl Q I rx hs pl pu h
  rcases h with h | h | h
  · exact sl_list pins s σ H x v vl vu lo hi sl Q I rx hs pl pu h
  · exact sl_tupA pins s σ H x v vl vu lo hi sl Q I rx hs pl pu h
  · exact sl_str pins s σ H x v vl vu lo hi sl Q I rx hs pl pu h
theorem gSl_ok : SlD K (rSlD K) gSl := by
  intro O H x dx lo hi Q l rx h
  cases dx with
  | list ds =>
    obtain ⟨a, xs, rfl, h1, _, h3, h4⟩ := rx.lstI
    refine .inl ⟨a, xs, rfl, .inl (.inl h1), fun p hp => h _ _ (same_new hp) (Rp.newL l hp ?_ (h4.cut lo hi))⟩
    have := cutD_len xs lo hi
    exact Nat.le_trans this h3
  | tuple ds =>
    obtain ⟨a, xs, rfl, h1, h3, h4⟩ := rx.tupI
    refine .inr (.inl ⟨a, xs, rfl, h1, fun e => ?_, fun _ p hp => h _ _ (same_new hp) (Rp.newT l hp ?_ (h4.cut lo hi))⟩)
    · refine h.okE ?_
      have e2 : cutD ds lo hi = ds := by
        unfold cutD
        rw [h4.length] at e
        rw [e.1, e.2, List.drop_zero, Nat.sub_zero, List.take_length]
      rw [e2]
      exact rx
    · have := cutD_len xs lo hi
      exact Nat.le_trans this h3
  | str z =>
    obtain ⟨rfl, z1⟩ := rx.strI
    refine .inr (.inr ⟨z, rfl, z1, h.okE (.str _ ?_)⟩)
    have := cutD_len z.cps.toList lo hi
    unfold cutD at this
    show (cutS z lo hi).cps.size ≤ sizeLine
    unfold cutS
    rw [List.size_toArray]
    exact Nat.le_trans this (by rw [Array.length_toList]; exact z1)
  | _ => exact h.elim
end
end EL

set_option maxHeartbeats 2000000
namespace EL
open PySem PySem.Spec PyProof.Rows L2
variable [Wsh] [Tbx]

/-! ### repr, str -/
end EL

set_option maxHeartbeats 2000000
/-! DLfa: repr of data with dicts in it. -/
namespace EL
open PySem PySem.Spec PyProof.Rows L2
mutual
inductive RdS (h : Heap) : Value → PyData → Prop
  | non : RdS h .none .none
  | bl (b : Bool) : RdS h (.bool b) (.bool b)
  | it (i : Int) (t : Tok) : RdS h (.int i t) (.int i)
  | st (x : Str) (t : Tok) : RdS h (.str x t) (.str x)
  | ls {p : Addr} {ob : Obj} {us : Array Value} {m : Nat} {ds : List PyData} : h.get? p = some ob → ob.cls = .type "list" → ob.data = .seq us m → RdSA h us.toList ds → RdS h (.ref p) (.list ds)
  | tp {p : Addr} {ob : Obj} {us : Array Value} {m : Nat} {ds : List PyData} : h.get? p = some ob → ob.cls = .type "tuple" → ob.data = .seq us m → RdSA h us.toList ds → RdS h (.ref p) (.tuple ds)
  | dc {p : Addr} {ob : Obj} {es : Array DictEntry} {m : Nat} {kds : List (PyData × PyData)} : (p == sysModules) = false → h.get? p = some ob → ob.cls = .type "dict" → ob.data = .dict es m → RdSA h (es.toList.map (·.key)) (kds.map (·.1)) → RdSA h (es.toList.map (·.val)) (kds.map (·.2)) → RdS h (.ref p) (.dict kds)
inductive RdSA (h : Heap) : List Value → List PyData → Prop
  | nil : RdSA h [] []
  | cons {u : Value} {us : List Value} {d : PyData} {ds : List PyData} : RdS h u d → RdSA h us ds → RdSA h (u :: us) (d :: ds)
end
mutual
theorem RdS.rds {h : Heap} : ∀ {u : Value} {d : PyData}, RdS h u d → ∃ as, Reads h u d as
  | _, _, .non => ⟨_, .none⟩
  | _, _, .bl b => ⟨_, .bool b⟩
  | _, _, .it i t => ⟨_, .int i t⟩
  | _, _, .st x t => ⟨_, .str x t⟩
  | _, _, .ls a b c r => let ⟨_, q⟩ := RdSA.rds r; ⟨_, .list a b c q⟩
  | _, _, .tp a b c r => let ⟨_, q⟩ := RdSA.rds r; ⟨_, .tuple a b c q⟩
  | _, _, .dc _ a b c r r2 => let ⟨_, q⟩ := RdSA.rds r; let ⟨_, q2⟩ := RdSA.rds r2; ⟨_, .dict a b c q q2⟩
theorem RdSA.rds {h : Heap} : ∀ {us : List Value} {ds : List PyData}, RdSA h us ds → ∃ as, ReadsAll h us ds as
  | _, _, .nil => ⟨_, .nil⟩
  | _, _, .cons a b => let ⟨_, q⟩ := RdS.rds a; let ⟨_, q2⟩ := RdSA.rds b; ⟨_, .cons q q2⟩
end
section
variable {prog : Program} {w : World} {h : Heap}
mutual
theorem RdS.shw : ∀ {u : Value} {d : PyData}, RdS h u d → d.showable = true → d.shown.length ≤ sizeLine → ∃ bs, ReadAtMost h d.depth bs ∧ ReprK prog w bs h d.depth u d.shown
  | _, _, .non, _, _ => ⟨[], fun _ z => (nomatch z), ReprK.of_is ReprIs.none _ _ _⟩
  | _, _, .bl b, _, _ => ⟨[], fun _ z => (nomatch z), ReprK.of_is (ReprIs.bool b) _ _ _⟩
  | _, _, .it i t, e, _ => ⟨[], fun _ z => (nomatch z), ReprK.of_is (ReprIs.int t (by simpa [PyData.showable] using e)) _ _ _⟩
  | _, _, .st x t, _, z => ⟨[], fun _ z => (nomatch z), ReprK.of_is (ReprIs.str x t (by simpa only [PyData.shown] using z)) _ _ _⟩
  | _, _, .ls (p := p) (us := us) (ds := ds) h1 h2 h3 h4, e, z => by
    have hl : (listText (PyData.shownAll ds)).length ≤ sizeLine := by simpa only [PyData.shown] using z
    obtain ⟨bs, k1, k2⟩ := RdSA.shw h4 (by simpa [PyData.showable] using e) fun t ht => Nat.le_trans (listText_mem_le ht) hl
    obtain ⟨as, rr⟩ := RdS.rds (.ls h1 h2 h3 h4)
    have np : p ∉ bs := not_mem_of_deeper rr (by simp only [PyData.depth]; omega) k1
    refine ⟨p :: bs, k1.cons rr (by simp only [PyData.depth]; omega), ?_⟩
    simp only [PyData.shown, PyData.depth]
    obtain ⟨ul⟩ := us
    cases ul with
    | cons u ul => exact ReprK.list h1 h2 h3 np (by simpa using k2.length_eq) (fun i y e => k2.item i y (by simpa using e))
    | nil =>
      have h5 : RdSA h [] ds := h4
      cases h5
      simp only [PyData.shownAll, listText_nil]
      exact ReprK.listEmpty h1 h2 h3
  | _, _, .tp (p := p) (ds := ds) h1 h2 h3 h4, e, z => by
    have hl : (tupleText (PyData.shownAll ds)).length ≤ sizeLine := by simpa only [PyData.shown] using z
    obtain ⟨bs, k1, k2⟩ := RdSA.shw h4 (by simpa [PyData.showable] using e) fun t ht => Nat.le_trans (tupleText_mem_le ht) hl
    obtain ⟨as, rr⟩ := RdS.rds (.tp h1 h2 h3 h4)
    have np : p ∉ bs := not_mem_of_deeper rr (by simp only [PyData.depth]; omega) k1
    refine ⟨p :: bs, k1.cons rr (by simp only [PyData.depth]; omega), ?_⟩
    simp only [PyData.shown, PyData.depth]
    exact ReprK.tuple h1 h2 h3 np k2
  | _, _, .dc (p := p) (es := es) (kds := kds) h0 h1 h2 h3 h4 h5, e, z => by
    have hl : (dictText (PyData.shownKv kds)).length ≤ sizeLine := by simpa only [PyData.shown] using z
    obtain ⟨e1, e2⟩ := PyData.showableKv_split kds (by simpa [PyData.showable] using e)
    obtain ⟨b1, k1, q1⟩ := RdSA.shw h4 e1 fun t ht => by
      obtain ⟨y, hy, ly⟩ := PyData.shownKv_key_le kds t ht
      exact Nat.le_trans ly (Nat.le_trans (dictText_mem_le hy) hl)
    obtain ⟨b2, k2, q2⟩ := RdSA.shw h5 e2 fun t ht => by
      obtain ⟨y, hy, ly⟩ := PyData.shownKv_val_le kds t ht
      exact Nat.le_trans ly (Nat.le_trans (dictText_mem_le hy) hl)
    obtain ⟨as, rr⟩ := RdS.rds (.dc h0 h1 h2 h3 h4 h5)
    have k : ReadAtMost h (PyData.depthKv kds) (b1 ++ b2) := (k1.mono (PyData.depthAll_keys_le kds)).append (k2.mono (PyData.depthAll_vals_le kds))
    have np : p ∉ b1 ++ b2 := not_mem_of_deeper rr (by simp only [PyData.depth]; omega) k
    refine ⟨p :: (b1 ++ b2), k.cons rr (by simp only [PyData.depth]; omega), ?_⟩
    simp only [PyData.shown, PyData.depth, PyData.shownKv_eq]
    exact ReprK.dict h1 h2 h3 h0 np (ReprEntriesK.of_two es.toList _ _ (q1.more_le (fun b hb => List.mem_append_left b2 hb) (PyData.depthAll_keys_le kds)) (q2.more_le (fun b hb => List.mem_append_right b1 hb) (PyData.depthAll_vals_le kds)))
theorem RdSA.shw : ∀ {us : List Value} {ds : List PyData}, RdSA h us ds → PyData.showableAll ds = true → (∀ t ∈ PyData.shownAll ds, t.length ≤ sizeLine) → ∃ bs, ReadAtMost h (PyData.depthAll ds) bs ∧ ReprAllK prog w bs h (PyData.depthAll ds) us (PyData.shownAll ds)
  | _, _, .nil, _, _ => ⟨[], fun _ z => (nomatch z), .nil⟩
  | _, _, .cons (d := d) (ds := ds) a b, e, z => by
    have ee : d.showable = true ∧ PyData.showableAll ds = true := by simpa [PyData.showableAll] using e
    obtain ⟨b1, k1, q1⟩ := RdS.shw a ee.1 (z _ (by simp only [PyData.shownAll]; exact List.mem_cons_self))
    obtain ⟨b2, k2, q2⟩ := RdSA.shw b ee.2 fun t ht => z t (by simp only [PyData.shownAll]; exact List.mem_cons_of_mem _ ht)
    refine ⟨b1 ++ b2, ?_, ?_⟩
    · simp only [PyData.depthAll]
      exact (k1.mono (Nat.le_max_left _ _)).append (k2.mono (Nat.le_max_right _ _))
    · simp only [PyData.depthAll, PyData.shownAll]
      exact .cons ((q1.more fun c hc => List.mem_append_left b2 hc).level_le (Nat.le_max_left _ _)) (q2.more_le (fun c hc => List.mem_append_right b1 hc) (Nat.le_max_right _ _))
end
theorem RdS.by_ {p : Addr} {d : PyData} (r : RdS h (.ref p) d) (e : d.showable = true) (z : d.shown.length ≤ sizeLine) : ∃ T idr, ShowsBy prog w h p d T idr := by
  obtain ⟨as, rr⟩ := r.rds
  cases r with
  | ls h1 h2 h3 h4 =>
    rename_i ob us m ds
    have hl : (listText (PyData.shownAll ds)).length ≤ sizeLine := by simpa only [PyData.shown] using z
    obtain ⟨bs, k1, k2⟩ := RdSA.shw (prog := prog) (w := w) h4 (by simpa [PyData.showable] using e) fun t ht => Nat.le_trans (listText_mem_le ht) hl
    have np : p ∉ bs := not_mem_of_deeper rr (by simp only [PyData.depth]; omega) k1
    refine ⟨"list", "list.__repr__", ⟨F.slot_list_repr.toG, F.slot_list_str, F.slot_list_format, fun s k => ⟨ob, k _ _ h1, h2⟩, fun A E s Q hg hu k hQ => ?_⟩⟩
    simp only [PyData.depth] at hu
    simp only [PyData.shown] at hQ
    obtain ⟨ul⟩ := us
    cases ul with
    | cons u ul => exact call_list_reprK h1 h2 h3 np (by simpa using k2.length_eq) (fun i y e => k2.item i y (by simpa using e)) hg (fun b _ => Clear.nil b) hu k hQ hl
    | nil =>
      have h5 : RdSA h [] ds := h4
      cases h5
      simp only [PyData.shownAll, listText_nil] at hQ
      exact call_list_repr_empty ⟨ob, k _ _ h1, h2⟩ (k _ _ h1) h3 (hQ s.heap _ _ fun _ _ e => e)
  | tp h1 h2 h3 h4 =>
    rename_i ob us m ds
    have hl : (tupleText (PyData.shownAll ds)).length ≤ sizeLine := by simpa only [PyData.shown] using z
    obtain ⟨bs, k1, k2⟩ := RdSA.shw (prog := prog) (w := w) h4 (by simpa [PyData.showable] using e) fun t ht => Nat.le_trans (tupleText_mem_le ht) hl
    have np : p ∉ bs := not_mem_of_deeper rr (by simp only [PyData.depth]; omega) k1
    refine ⟨"tuple", "tuple.__repr__", ⟨F.slot_tuple_repr, F.slot_tuple_str, F.slot_tuple_format, fun s k => ⟨ob, k _ _ h1, h2⟩, fun A E s Q hg hu k hQ => ?_⟩⟩
    simp only [PyData.depth] at hu
    simp only [PyData.shown] at hQ
    exact call_tuple_reprK h1 h2 h3 np k2 hg (fun b _ => Clear.nil b) hu k hQ hl
  | dc h0 h1 h2 h3 h4 h5 =>
    rename_i ob es m kds
    have hl : (dictText (PyData.shownKv kds)).length ≤ sizeLine := by simpa only [PyData.shown] using z
    obtain ⟨e1, e2⟩ := PyData.showableKv_split kds (by simpa [PyData.showable] using e)
    obtain ⟨b1, k1, q1⟩ := RdSA.shw (prog := prog) (w := w) h4 e1 fun t ht => by
      obtain ⟨y, hy, ly⟩ := PyData.shownKv_key_le kds t ht
      exact Nat.le_trans ly (Nat.le_trans (dictText_mem_le hy) hl)
    obtain ⟨b2, k2, q2⟩ := RdSA.shw (prog := prog) (w := w) h5 e2 fun t ht => by
      obtain ⟨y, hy, ly⟩ := PyData.shownKv_val_le kds t ht
      exact Nat.le_trans ly (Nat.le_trans (dictText_mem_le hy) hl)
    have k : ReadAtMost h (PyData.depthKv kds) (b1 ++ b2) := (k1.mono (PyData.depthAll_keys_le kds)).append (k2.mono (PyData.depthAll_vals_le kds))
    have np : p ∉ b1 ++ b2 := not_mem_of_deeper rr (by simp only [PyData.depth]; omega) k
    refine ⟨"dict", "dict.__repr__", ⟨F.slot_dict_repr, F.slot_dict_str, F.slot_dict_format, fun s k => ⟨ob, k _ _ h1, h2⟩, fun A E s Q hg hu k hQ => ?_⟩⟩
    simp only [PyData.depth] at hu
    simp only [PyData.shown, PyData.shownKv_eq] at hQ
    exact call_dict_reprK h1 h2 h3 h0 np (ReprEntriesK.of_two es.toList _ _ (q1.more_le (fun b hb => List.mem_append_left b2 hb) (PyData.depthAll_keys_le kds)) (q2.more_le (fun b hb => List.mem_append_right b1 hb) (PyData.depthAll_vals_le kds))) hg (fun b _ => Clear.nil b) hu k hQ (by rw [← PyData.shownKv_eq]; exact hl)
end
/-! ### data that may be shown: no instances -/
def okK : PyData → Bool
  | .int _ => true
  | .str _ => true
  | _ => false
mutual
def okR : PyData → Bool
  | .none => true
  | .bool _ => true
  | .int _ => true
  | .str _ => true
  | .list xs => okRA xs
  | .tuple xs => okRA xs
  | .dict kds => okRD kds
def okRA : List PyData → Bool
  | [] => true
  | x :: xs => okR x && okRA xs
def okRD : List (PyData × PyData) → Bool
  | [] => true
  | (k, v) :: r => okK k && okR v && okRD r
end
section
variable {X : Cx} {pins : List (Addr × Obj)} {σ : L2.St} {H : Hp} {s : Shared} {O : List Addr}
mutual
theorem Rp.rdS (I : Inv X pins σ H s) : ∀ {v : V} {d : PyData}, Rp X.K O H v d → okR d = true → ∀ {u : Value}, RelV v u → RdS s.heap u d
  | _, _, .non, _, u, r => by
    obtain rfl : u = .none := r
    exact .non
  | _, _, .bl b, _, u, r => by
    obtain rfl : u = .bool b := r
    exact .bl b
  | _, _, .int i, _, u, r => by
    obtain ⟨t, rfl⟩ := r
    exact .it i t
  | _, _, .str x _, _, u, r => by
    obtain ⟨t, rfl⟩ := r
    exact .st x t
  | _, _, .lst (a := a) q _ _ ra, e, u, r => by
    obtain rfl : u = .ref a := r
    obtain ⟨its, rv, ⟨ob, m, g1, g2, _, g3⟩, _⟩ := I.list (.inl (.inl q))
    exact .ls g1 g2 g3 (by simpa using RpA.rdS I ra (by simpa [okR] using e) rv)
  | _, _, .tup (a := a) q _ _ ra, e, u, r => by
    obtain rfl : u = .ref a := r
    obtain ⟨its, rv, ⟨ob, g1, g2, m, g3⟩, _⟩ := I.tuple (.inl (.inl q))
    exact .tp g1 g2 g3 (by simpa using RpA.rdS I ra (by simpa [okR] using e) rv)
  | _, _, .tupK (a := a) q _ ra, e, u, r => by
    obtain rfl : u = .ref a := r
    obtain ⟨its, rv, ⟨ob, g1, g2, m, g3⟩, _⟩ := I.tuple (q H)
    exact .tp g1 g2 g3 (by simpa using RpA.rdS I ra (by simpa [okR] using e) rv)
  | _, _, .dic (a := a) (o := o) (kvs := kvs) q _ _ ra, e, u, r => by
    obtain rfl : u = .ref a := r
    obtain ⟨g1, _, h0, vs, kv, ob, es, ep, g2, g3, g4, _, g5, _⟩ := (show ObjOk X.prog X.w H s.heap a (.frz o (.dK kvs)) from I.hok a _ q)
    have z := RpD.rdS I ra (by simpa [okR] using e) kv g5
    exact .dc h0 g2 g3.1 g4 z.1 z.2
  | _, _, .ins _ _ _ _ _, e, _, _ => by simp [okR, okRD, okK] at e
  | _, _, .exc _ _ _ _ _ _ _, e, _, _ => by simp [okR, okRD, okK] at e
theorem RpA.rdS (I : Inv X pins σ H s) : ∀ {vs : List V} {ds : List PyData}, RpA X.K O H vs ds → okRA ds = true → ∀ {us : List Value}, Vals vs us → RdSA s.heap us ds
  | _, _, .nil, _, _, .nil => .nil
  | _, _, .cons a b, e, _, .cons r rr => by
    simp only [okRA, Bool.and_eq_true] at e
    exact .cons (Rp.rdS I a e.1 r) (RpA.rdS I b e.2 rr)
theorem RpD.rdS (I : Inv X pins σ H s) : ∀ {kvs : List (Key × V)} {kds : List (PyData × PyData)}, RpD X.K O H kvs kds → okRD kds = true → ∀ {vs : List (Key × Value)} {es : List DictEntry}, KV kvs vs → Pairs (mixKind X.prog X.w) es vs →
    RdSA s.heap (es.map (·.key)) (kds.map (·.1)) ∧ RdSA s.heap (es.map (·.val)) (kds.map (·.2))
  | _, _, .nil, _, _, _, .nil, .nil => ⟨.nil, .nil⟩
  | _, _, .cons (k := k) a b, e, _, _, .cons r rr, .cons g1 g2 gg => by
    simp only [okRD, Bool.and_eq_true] at e
    obtain ⟨z1, z2⟩ := RpD.rdS I b e.2 rr gg
    obtain ⟨r1, r2⟩ := r
    refine ⟨.cons (show RdS s.heap (DictEntry.key _) (kD k) from ?_) z1, .cons (show RdS s.heap (DictEntry.val _) _ from by rw [g2]; exact Rp.rdS I a e.1.2 r2) z2⟩
    rcases keyIs_shape g1 with ⟨i, t, k1, k2⟩ | ⟨x, t, k1, k2⟩
    · rw [k2, show k = Sum.inl i from r1.trans k1]
      exact .it i t
    · rw [k2, show k = Sum.inr x from r1.trans k1]
      exact .st x t
end
theorem call_reprR {X : Cx} (hg : X.A.guards = some []) (hu : X.A.units + 66 < cLine) : CallR X (.builtin "repr") (fun xs H Q => ∃ x d O, xs = [x] ∧ Rp X.K O H x d ∧ okR d = true ∧ d.showable = true ∧ d.depth ≤ 64 ∧ d.shown.length ≤ sizeLine ∧ Q (.str d.shown) H) := by
  intro pins s σ H xs us Q I r h
  obtain ⟨x, d, O, rfl, hd, ok, hs, hp, hz, q⟩ := h
  obtain ⟨u, rfl, ru⟩ := vals1 r
  have rd := hd.rdS I ok ru
  cases u with
  | none => cases rd; exact PySem.P.repr_of_none ⟨.str _, H, I.tok _, ⟨_, rfl⟩, q⟩
  | bool b => cases rd; exact PySem.P.repr_of_bool ⟨.str _, H, I.tok _, ⟨_, rfl⟩, q⟩
  | int i t => cases rd; exact PySem.P.repr_of_int (by simpa [PyData.showable] using hs) ⟨.str _, H, I.tok _, ⟨_, rfl⟩, q⟩
  | str z t => cases rd; exact PySem.P.repr_of_str ⟨.str _, H, I.tok _, ⟨_, rfl⟩, q⟩ hz
  | ref p =>
    obtain ⟨T, idr, S⟩ := rd.by_ (prog := X.prog) (w := X.w) hs hz
    exact call_repr_slot (by omega) (S.typeIs s fun _ _ e => e) S.slotRepr (S.call X.A.in1 X.xe s _ hg (by show X.A.units + 1 + d.depth < cLine; omega) (fun _ _ e => e) fun h' t tk hk => ⟨_, _, rfl, ⟨.str _, H, I.kept (t' := tk) hk, ⟨_, rfl⟩, q⟩⟩)
  | _ => cases rd
end
end EL

set_option maxHeartbeats 2000000
namespace EL
open PySem PySem.Spec PyProof.Rows L2
variable [Wsh] [Tbx]

/-! ### slots set -/
theorem set_some {α : Type} {l : List α} {i j : Nat} {x y : α} (h : (l.set i x)[j]? = some y) : (i = j ∧ x = y ∧ i < l.length) ∨ (i ≠ j ∧ l[j]? = some y) := by
  rw [List.getElem?_set] at h
  split at h
  · rename_i e
    split at h
    · rename_i hl
      exact .inl ⟨e, Option.some.inj h, hl⟩
    · cases h
  · rename_i e
    exact .inr ⟨e, h⟩
section
variable {c : Fc} {O O' : List Addr} {H H' : Hp} {σ : L2.St} {en : En} {i : Nat} {v : V} {d : PyData}
theorem OwS.less {K : PySem.W.Frag} {O O' : List Addr} {H : Hp} {a : Addr} {d : PyData} (h : OwS K O H a d) (s : ∀ a ∈ O', a ∈ O) : OwS K O' H a d := by
  cases d with
  | list ds => obtain ⟨xs, e1, e2, e3⟩ := h; exact ⟨xs, e1, e2, e3.less s⟩
  | dict ds => obtain ⟨o, e1, e2⟩ := h; exact ⟨o, e1, e2.less s⟩
  | str q =>
    obtain ⟨h0, ps, h1, h2, h3⟩ := h
    refine ⟨h0, ps, h1, h2, fun pos cv hc => ?_⟩
    obtain ⟨c, e1, e2, e3⟩ := h3 pos cv hc
    exact ⟨c, e1, fun z => e2 (s c z), e3⟩
  | tuple ks => exact TdR.less s (show TdR K O H a ks from h)
  | _ => exact h.elim
/-- a slot holds data -/
theorem RS.set_sh (r : RS c O H σ en) (h : Rp c.K O H v d) : RS c O H (σ.set i (some v)) (en.set i (.sh d)) where
  len := by simp [r.len]
  keep := r.keep
  pin := r.pin
  sub := r.sub
  live := r.live
  sh := fun j e q => by
    rcases set_some q with ⟨rfl, e1, hl⟩ | ⟨ne, q'⟩
    · cases e1
      exact ⟨v, by rw [List.getElem?_set_self (by rw [r.len]; exact hl)], h⟩
    · obtain ⟨u, h1, h2⟩ := r.sh j e q'
      exact ⟨u, by rw [List.getElem?_set_ne ne]; exact h1, h2⟩
  ow := fun j e q => by
    rcases set_some q with ⟨rfl, e1, hl⟩ | ⟨ne, q'⟩
    · cases e1
    · obtain ⟨u, h1, h2⟩ := r.ow j e q'
      exact ⟨u, by rw [List.getElem?_set_ne ne]; exact h1, h2⟩
  dist := fun j k e f a q1 q2 s1 s2 => by
    rcases set_some q1 with ⟨rfl, e1, hl⟩ | ⟨n1, q1'⟩
    · cases e1
    rcases set_some q2 with ⟨rfl, e2, hl⟩ | ⟨n2, q2'⟩
    · cases e2
    rw [List.getElem?_set_ne n1] at s1
    rw [List.getElem?_set_ne n2] at s2
    exact r.dist j k e f a q1' q2' s1 s2
/-- a slot is forgotten, whatever it holds -/
theorem RS.set_no (r : RS c O H σ en) (o : Option V) : RS c O H (σ.set i o) (en.set i .no) where
  len := by simp [r.len]
  keep := r.keep
  pin := r.pin
  sub := r.sub
  live := r.live
  sh := fun j e q => by
    rcases set_some q with ⟨rfl, e1, hl⟩ | ⟨ne, q'⟩
    · cases e1
    · obtain ⟨u, h1, h2⟩ := r.sh j e q'
      exact ⟨u, by rw [List.getElem?_set_ne ne]; exact h1, h2⟩
  ow := fun j e q => by
    rcases set_some q with ⟨rfl, e1, hl⟩ | ⟨ne, q'⟩
    · cases e1
    · obtain ⟨u, h1, h2⟩ := r.ow j e q'
      exact ⟨u, by rw [List.getElem?_set_ne ne]; exact h1, h2⟩
  dist := fun j k e f a q1 q2 s1 s2 => by
    rcases set_some q1 with ⟨rfl, e1, hl⟩ | ⟨n1, q1'⟩
    · cases e1
    rcases set_some q2 with ⟨rfl, e2, hl⟩ | ⟨n2, q2'⟩
    · cases e2
    rw [List.getElem?_set_ne n1] at s1
    rw [List.getElem?_set_ne n2] at s2
    exact r.dist j k e f a q1' q2' s1 s2
/-- what is known is forgotten, slot by slot -/
theorem RS.drop (r : RS c O H σ en) : RS c O H σ (en.set i .no) where
  len := by simp [r.len]
  keep := r.keep
  pin := r.pin
  sub := r.sub
  live := r.live
  sh := fun j e q => by
    rcases set_some q with ⟨rfl, e1, hl⟩ | ⟨ne, q'⟩
    · cases e1
    · exact r.sh j e q'
  ow := fun j e q => by
    rcases set_some q with ⟨rfl, e1, hl⟩ | ⟨ne, q'⟩
    · cases e1
    · exact r.ow j e q'
  dist := fun j k e f a q1 q2 s1 s2 => by
    rcases set_some q1 with ⟨rfl, e1, hl⟩ | ⟨n1, q1'⟩
    · cases e1
    rcases set_some q2 with ⟨rfl, e2, hl⟩ | ⟨n2, q2'⟩
    · cases e2
    exact r.dist j k e f a q1' q2' s1 s2
theorem RS.newp (r : RS c O H σ en) {p : Addr} (h : H p = none) : p ∉ O ∧ p ∉ c.Oe ∧ p ∉ c.P ∧ c.He p = none := by
  have h1 : p ∉ O := fun z => r.live p z h
  have h2 : p ∉ c.Oe := fun z => h1 (r.sub p z)
  have h3 : p ∉ c.P := fun z => h2 (r.pin p z)
  refine ⟨h1, h2, h3, ?_⟩
  cases q : c.He p with
  | none => rfl
  | some x => rw [r.keep p x h3 q] at h; cases h
/-- a new object is laid that may change -/
theorem RS.lay (r : RS c O H σ en) {p : Addr} {o : HO} (h : H p = none) : RS c (p :: O) (upd H p o) σ en where
  len := r.len
  keep := r.keep.trans (.of_same (same_new h))
  pin := r.pin
  sub := fun a ha => List.mem_cons_of_mem _ (r.sub a ha)
  live := fun a ha => by
    rcases List.mem_cons.mp ha with e | ha
    · subst e; rw [upd_same]; exact fun z => nomatch z
    · have := r.live a ha
      rw [upd_ne (fun e => this (by rw [e]; exact h))]
      exact this
  sh := fun i d q => by
    obtain ⟨v, h1, h2⟩ := r.sh i d q
    exact ⟨v, h1, (h2.more h).keep (keep_new h)⟩
  ow := fun i d q => by
    obtain ⟨a, h1, h2, h3, h4⟩ := r.ow i d q
    have ne : a ≠ p := fun e => h2.some (e ▸ h)
    exact ⟨a, h1, (h2.more h).keep (keep_new h) (upd_ne ne), List.mem_cons_of_mem _ h3, h4⟩
  dist := r.dist
/-- the newest address is no longer one that may change; no slot has it -/
theorem RS.unlay {p : Addr} {en0 : En} {H0 : Hp} (r0 : RS c O H0 σ en0) (hp : H0 p = none) (r : RS c (p :: O) H σ en) (s : Shp en0 en) : RS c O H σ en where
  len := r.len
  keep := r.keep
  pin := r.pin
  sub := r0.sub
  live := fun a ha => r.live a (List.mem_cons_of_mem _ ha)
  sh := fun i d q => by
    obtain ⟨v, h1, h2⟩ := r.sh i d q
    exact ⟨v, h1, h2.less fun a ha => List.mem_cons_of_mem _ ha⟩
  ow := fun i d q => by
    obtain ⟨a, h1, h2, h3, h4⟩ := r.ow i d q
    obtain ⟨d', q'⟩ := s i d q
    obtain ⟨a', g1, g2, g3, g4⟩ := r0.ow i d' q'
    rw [h1] at g1
    cases g1
    exact ⟨a, h1, h2.less fun a ha => List.mem_cons_of_mem _ ha, g3, h4⟩
  dist := r.dist
/-- the object of a slot has changed, and nothing else (but new things) -/
theorem RS.turn {p : Addr} {d' : PyData} (r : RS c O H σ en) (hi : en[i]? = some (.ow d)) (hp : σ[i]? = some (some (.ref p))) (k : Keep [p] H H') (h : OwS c.K O H' p d') : RS c O H' σ (en.set i (.ow d')) := by
  obtain ⟨a, g1, g2, g3, g4⟩ := r.ow i d hi
  rw [hp] at g1
  cases g1
  have kO : Keep O H H' := k.mono fun b hb => by
    have e : b = p := by simpa using hb
    rw [e]; exact g3
  refine ⟨by simp [r.len], fun b x n e => ?_, r.pin, r.sub, fun b hb => ?_, fun j e q => ?_, fun j e q => ?_, fun j m e f b q1 q2 s1 s2 => ?_⟩
  · have hb : H b = some x := r.keep b x n e
    refine k b x (fun z => ?_) hb
    have e1 : b = p := by simpa using z
    subst e1
    rcases g4 with ⟨g4, _⟩ | ⟨g4, _⟩
    · exact n g4
    · rw [g4] at e; cases e
  · by_cases e1 : b = p
    · subst e1; exact h.some
    · cases q : H b with
      | none => exact (r.live b hb q).elim
      | some x => rw [k b x (by simpa using e1) q]; exact fun z => nomatch z
  · rcases set_some q with ⟨rfl, e1, hl⟩ | ⟨ne, q'⟩
    · cases e1
    · obtain ⟨u, h1, h2⟩ := r.sh j e q'
      exact ⟨u, h1, h2.keep kO⟩
  · rcases set_some q with ⟨rfl, e1, hl⟩ | ⟨ne, q'⟩
    · cases e1
      exact ⟨p, hp, h, g3, g4⟩
    · obtain ⟨u, h1, h2, h3, h4⟩ := r.ow j e q'
      have nu : u ≠ p := fun z => ne (r.dist i j d e p hi q' hp (z ▸ h1))
      refine ⟨u, h1, h2.keep kO ?_, h3, h4⟩
      cases q2 : H u with
      | none => exact (h2.some q2).elim
      | some x => exact k u x (by simpa using nu) q2
  · rcases set_some q1 with ⟨rfl, e1, hl⟩ | ⟨n1, q1'⟩
    · rcases set_some q2 with ⟨rfl, _, _⟩ | ⟨n2, q2'⟩
      · rfl
      · exact r.dist i m d f b hi q2' s1 s2
    · rcases set_some q2 with ⟨rfl, e2, hl⟩ | ⟨n2, q2'⟩
      · exact r.dist j i e d b q1' hi s1 s2
      · exact r.dist j m e f b q1' q2' s1 s2
/-- a new object is locked -/
theorem RS.lk {p : Addr} {od : Obj} (r : RS c O H σ en) (hp : p ∈ O) (he : c.He p = none) (fr : Free σ en p) : RS c O (lkH H p od) σ en where
  len := r.len
  keep := fun a x na e => by
    rw [lkH_ne (fun z => by rw [z, he] at e; cases e)]; exact r.keep a x na e
  pin := r.pin
  sub := r.sub
  live := fun a ha => lkH_live (r.live a ha)
  sh := fun j e q => by
    obtain ⟨u, h1, h2⟩ := r.sh j e q
    exact ⟨u, h1, h2.keep (keep_lk hp)⟩
  ow := fun j e q => by
    obtain ⟨u, h1, h2, h3⟩ := r.ow j e q
    exact ⟨u, h1, h2.keep (keep_lk hp) (lkH_ne fun z => fr j e q (z ▸ h1)), h3⟩
  dist := r.dist
end
/-! ### locking, in the hand layer's words -/
section
variable {X : Cx}
theorem inv_lk {pins : List (Addr × Obj)} {σ : L2.St} {H : Hp} {s : Shared} (I : Inv X pins σ H s) (a : Addr) : ∃ od, Inv X pins σ (lkH H a od) s := by
  by_cases h : ∃ kvs, H a = some (.dK kvs)
  · obtain ⟨kvs, h⟩ := h
    obtain ⟨od, J⟩ := I.lock h True.intro
    refine ⟨od, ?_⟩
    have e : lkH H a od = upd H a (.frz od (.dK kvs)) := by
      funext b
      by_cases hb : b = a
      · subst hb; rw [lkH_at h, upd_same]; rfl
      · rw [lkH_ne hb, upd_ne hb]
    rw [e]; exact J
  · refine ⟨default, ?_⟩
    have e : lkH H a default = H := by
      funext b
      by_cases hb : b = a
      · subst hb
        cases q : H b with
        | none => exact lkH_none q
        | some x =>
          rw [lkH_at q]
          cases x <;> first | rfl | exact absurd ⟨_, q⟩ h
      · exact lkH_ne hb
    rw [e]; exact I
def lkV (H : Hp) (od : Obj) : V → Hp
  | .ref a => lkH H a od
  | _ => H
def tLk (t : TE) : TE := fun σ H Q => t σ H fun v H1 => ∀ od, Q v (lkV H1 od v)
theorem pe_lk {e : Expr} {t : TE} (h : PE X e t) : PE X e (tLk t) := ⟨fun pins s σ H Q I hw => thn (h.run pins s σ H _ I hw) fun v s1 ⟨x, H1, I1, r, q⟩ => by
  cases x with
  | ref a => obtain ⟨od, J⟩ := inv_lk I1 a; exact ⟨.ref a, _, J, r, q od⟩
  | _ => exact ⟨_, H1, I1, r, q default⟩⟩
end
end EL

set_option maxHeartbeats 2000000
namespace EL
open PySem PySem.Spec PyProof.Rows L2
variable [Wsh] [Tbx]

/-! ### defs called -/
/-- data in, data out -/
def spM (m : List PyData → Res PyData) (n : Nat) (K : PySem.W.Frag) : Sp := fun vs H Q _ => vs.length = n ∧ ∃ ds O, RpA K O H vs ds ∧ (∀ a ∈ O, H a ≠ none) ∧ PoV K O H (m ds) Q
/-- the first argument is changed -/
def spP (m : PyData → List PyData → Res (PyData × PyData)) (n : Nat) (K : PySem.W.Frag) : Sp := fun vs H Q _ => vs.length = n ∧ ∃ p vs' pd ds O, vs = .ref p :: vs' ∧ p ∈ O ∧ OwS K O H p pd ∧ RpA K O H vs' ds ∧ (∀ a ∈ O, H a ≠ none) ∧
  match m pd ds with
  | .ok (d, pd') => ∀ v H', Keep [p] H H' → OwS K O H' p pd' → Rp K O H' v d → Q v H'
  | _ => False
/-- .. with so many arguments -/
def gN (n : Nat) (m : List PyData → Res PyData) (ds : List PyData) : Res PyData := if ds.length = n then m ds else .bad
section
variable {X : Cx} {pos : Pos} {a b e : Expr} {es : List Expr}
theorem ev_call {K : PySem.W.Frag} {m : List PyData → Res PyData} {n : Nat} {E : XK} {t : TA} {f : An} (ea : EvA K t f) : EvE K (tCall (spM m n K) [] E t) (dApp (gN n m) f) := by
  intro c O H σ en Q hc rs h
  refine ea c O H σ en _ hc rs (Po.bind h fun d1 en1 v1 H1 _ rs1 k1 r1 h1 => ?_)
  unfold gN at h1
  by_cases hn : d1.length = n
  · rw [if_pos hn] at h1
    have hv := PoV.of h1 rs1
    rw [hc] at hv r1
    refine ⟨by rw [List.append_nil, r1.length]; exact hn, d1, O, by rw [List.append_nil]; exact r1, rs1.live, hv⟩
  · rw [if_neg hn] at h1; exact h1.elim
theorem de_call {CX : CXT} {k : Nat} {f : Addr} {fd : FuncData} {ps : List Str} {m : List PyData → Res PyData} {n : Nat} {E : XK} {x : Str} {p : Pos} {g : An} (F : FnOk X.prog X.w X.K X.mg X.base CX k f fd ps (spM m n X.K)) (hr : Room k X.A) (hg : Gl X x) (hm : X.mg x = some (.ref f)) (hk : PySem.W.keepIn X.K (.ref f) = true) (hb : Binds X.K fd ps []) (hx : Passes CX X E)
    (ha : DA X (e :: es) g) (hs : starEach (e :: es) X.env = (false, eval e X.env) :: starEach es X.env := by rfl) (hpl : (backTo pos (starEach es X.env)).any (·.1) = false := by rfl) (hd : (x == ("__debug__" : Str)) = false := by decide) :
    DE X (.Call (.Name x p) (e :: es) [] pos) (dApp (gN n m) g) := by
  obtain ⟨t, pa, ev⟩ := ha
  exact ⟨_, pe_call F hr hg hm hk hb .nil hx pa hd hs hpl, ev_call ev⟩

/-- f(x, ..), x the slot i, which f changes -/
def callP (m : PyData → List PyData → Res (PyData × PyData)) (n i : Nat) (xs : List PyData) : Dn := fun en => if xs.length + 1 = n then (match en[i]? with
  | some (.ow pd) => (m pd xs).calm.bind fun p => .ok (p.1, en.set i (.ow p.2))
  | _ => .bad) else .bad
def dCallP (m : PyData → List PyData → Res (PyData × PyData)) (n i : Nat) (r : An) : Dn := fun en => match en[i]? with
  | some (.ow _) => bnd r (callP m n i) en
  | _ => .bad
theorem ev_callP {K : PySem.W.Frag} {m : PyData → List PyData → Res (PyData × PyData)} {n i : Nat} {E : XK} {t : TA} {f : An} (ea : EvA K t f) : EvE K (tCall (spP m n K) [] E (tCons (tVar i) t)) (dCallP m n i f) := by
  intro c O H σ en Q hc rs h
  unfold dCallP at h
  cases q : en[i]? with
  | none => rw [q] at h; exact h.elim
  | some s =>
    rw [q] at h
    cases s with
    | no => exact h.elim
    | sh _ => exact h.elim
    | ow pd0 =>
      obtain ⟨p, hp, _⟩ := rs.ow i pd0 q
      refine ⟨.ref p, hp, ea c O H σ en _ hc rs (Po.bind h fun d1 en1 v1 H1 _ rs1 k1 r1 h1 => ?_)⟩
      unfold callP at h1
      by_cases hn : d1.length + 1 = n
      · rw [if_pos hn] at h1
        cases q1 : en1[i]? with
        | none => rw [q1] at h1; exact h1.elim
        | some s1 =>
          rw [q1] at h1
          cases s1 with
          | no => exact h1.elim
          | sh _ => exact h1.elim
          | ow pd =>
            obtain ⟨p', hp', ho, hO, _⟩ := rs1.ow i pd q1
            rw [hp] at hp'
            cases hp'
            rw [hc] at ho r1
            refine ⟨by simp [r1.length, hn], p, v1, pd, d1, O, by simp, hO, ho, r1, rs1.live, ?_⟩
            have h1' : PoE c O H1 σ en1 ((m pd d1).calm.bind fun p => .ok (p.1, en1.set i (.ow p.2))) Q := h1
            cases q2 : m pd d1 with
            | exc _ _ => rw [q2] at h1'; exact h1'.elim
            | bad => rw [q2] at h1'; exact h1'.elim
            | ok r2 =>
              obtain ⟨d2, pd2⟩ := r2
              rw [q2] at h1'
              intro v H' kp hw hr
              rw [← hc] at hw hr
              refine h1' v H' (rs1.turn q1 hp kp hw) ⟨kp.mono fun b hb => ?_, fun j d e => ?_, fun a x fr ha => kp a x (fun z => ?_) ha⟩ hr
              · have e : b = p := by simpa using hb
                rw [e]; exact hO
              · rcases set_some e with ⟨rfl, _, _⟩ | ⟨_, e'⟩
                · exact ⟨pd, q1⟩
                · exact ⟨d, e'⟩
              · have e : a = p := by simpa using z
                exact fr i pd q1 (by rw [e]; exact hp)
      · rw [if_neg hn] at h1; exact h1.elim
theorem de_callP {CX : CXT} {k : Nat} {f : Addr} {fd : FuncData} {ps : List Str} {m : PyData → List PyData → Res (PyData × PyData)} {n : Nat} {E : XK} {x y : Str} {p p2 : Pos} {g : An} (i : Nat) (F : FnOk X.prog X.w X.K X.mg X.base CX k f fd ps (spP m n X.K)) (hr : Room k X.A) (hg : Gl X x) (hm : X.mg x = some (.ref f)) (hk : PySem.W.keepIn X.K (.ref f) = true) (hb : Binds X.K fd ps []) (hx : Passes CX X E)
    (ha : DA X es g) (hN : X.N[i]? = some y := by rfl) (hv : Vis X.env.scope y := by first | exact Or.inl rfl | exact Or.inr (Or.inl rfl) | exact Or.inr (Or.inr rfl))
    (hs : starEach (.Name y p2 :: es) X.env = (false, eval (.Name y p2) X.env) :: starEach es X.env := by rfl) (hpl : (backTo pos (starEach es X.env)).any (·.1) = false := by rfl) (hd : (x == ("__debug__" : Str)) = false := by decide) (hdy : (y == ("__debug__" : Str)) = false := by decide)
    (hcd : (y == ("__classdict__" : Str)) = false := by decide) : DE X (.Call (.Name x p) (.Name y p2 :: es) [] pos) (dCallP m n i g) := by
  obtain ⟨t, pa, ev⟩ := ha
  exact ⟨_, pe_call F hr hg hm hk hb .nil hx (pa_cons (pe_var hN hv hdy hcd) pa hs) hd hs hpl, ev_callP ev⟩
end
end EL

set_option maxHeartbeats 2000000
namespace EL
open PySem PySem.Spec PyProof.Rows L2
variable [Wsh] [Tbx]

/-! ### statements -/
inductive Fl where
  | nx | bk | ct
  | rt (d : PyData)
abbrev Sn := En → Res (Fl × En)
/-- on from (O, H) to (O', H') -/
structure Stp (O : List Addr) (H : Hp) (O' : List Addr) (H' : Hp) : Prop where
  keep : Keep O H H'
  grow : ∀ a ∈ O', a ∈ O ∨ H a = none
theorem Stp.refl {O : List Addr} {H : Hp} : Stp O H O H := ⟨.refl _, fun _ h => .inl h⟩
theorem Stp.of {O : List Addr} {H H' : Hp} (k : Keep O H H') : Stp O H O H' := ⟨k, fun _ h => .inl h⟩
theorem Stp.trans {O O1 O2 : List Addr} {H H1 H2 : Hp} (a : Stp O H O1 H1) (b : Stp O1 H1 O2 H2) : Stp O H O2 H2 := by
  refine ⟨fun x y n e => ?_, fun x hx => ?_⟩
  · refine b.keep x y (fun z => ?_) (a.keep x y n e)
    rcases a.grow x z with h | h
    · exact n h
    · rw [h] at e; cases e
  · rcases b.grow x hx with h | h
    · exact a.grow x h
    · by_cases hO : x ∈ O
      · exact .inl hO
      · refine .inr ?_
        cases q : H x with
        | none => rfl
        | some y => rw [a.keep x y hO q] at h; cases h
def PoS (c : Fc) (O : List Addr) (H : Hp) (r : Res (Fl × En)) (D : Ends) : Prop :=
  match r with
  | .ok (.nx, en') => ∀ σ' H' O', RS c O' H' σ' en' → Stp O H O' H' → D.nx σ' H'
  | .ok (.bk, en') => ∀ σ' H' O', RS c O' H' σ' en' → Stp O H O' H' → D.bk σ' H'
  | .ok (.ct, en') => ∀ σ' H' O', RS c O' H' σ' en' → Stp O H O' H' → D.ct σ' H'
  | .ok (.rt d, en') => ∀ v σ' H' O', RS c O' H' σ' en' → Stp O H O' H' → Rp c.K O' H' v d → D.rt v H'
  | .exc cn fds => wishX c cn fds
  | .bad => False
def EvS (K : PySem.W.Frag) (t : TS) (f : Sn) : Prop := ∀ (c : Fc) (O : List Addr) (H : Hp) (σ : L2.St) (en : En) (D : Ends), c.K = K → RS c O H σ en → PoS c O H (f en) D → t D σ H
def DS (X : Cx) (st : Stmt) (f : Sn) : Prop := ∃ t, PS X st t ∧ EvS X.K t f
def DSs (X : Cx) (st : List Stmt) (f : Sn) : Prop := ∃ t, PSs X st t ∧ EvS X.K t f

def sNext : Sn := fun en => .ok (.nx, en)
def seqK (g : Sn) : Fl → Sn
  | .nx => g
  | .bk => fun en => .ok (.bk, en)
  | .ct => fun en => .ok (.ct, en)
  | .rt d => fun en => .ok (.rt d, en)
def sSeq (f g : Sn) : Sn := bnd f (seqK g)
def sSet (i : Nat) (f : Dn) : Sn := bnd f fun d en => .ok (.nx, en.set i (.sh d))
def sRet (f : Dn) : Sn := bnd f fun d en => .ok (.rt d, en)
def sIf (c : Tn) (f g : Sn) : Sn := bnd c fun b => if b = true then f else g
/-- the slot i no longer changes -/
def sFrz (i : Nat) (f : Sn) : Sn := fun en => match en[i]? with
  | some (.ow d) => if isTab d = true then .bad else f (en.set i (.sh d))
  | _ => .bad

theorem PoS.later {c : Fc} {O O1 : List Addr} {H H1 : Hp} {r : Res (Fl × En)} {D : Ends} (h : PoS c O H r D) (s : Stp O H O1 H1) : PoS c O1 H1 r D := by
  cases r with
  | ok p =>
    obtain ⟨f, en⟩ := p
    cases f with
    | nx => exact fun σ' H' O' rs st => h σ' H' O' rs (s.trans st)
    | bk => exact fun σ' H' O' rs st => h σ' H' O' rs (s.trans st)
    | ct => exact fun σ' H' O' rs st => h σ' H' O' rs (s.trans st)
    | rt d => exact fun v σ' H' O' rs st => h v σ' H' O' rs (s.trans st)
  | exc _ _ => exact h
  | bad => exact h
/-- behind an expression -/
theorem Po.bindS {α β : Type} {c : Fc} {O : List Addr} {H : Hp} {σ : L2.St} {R : Hp → β → α → Prop} {f : En → Res (α × En)} {en : En} {k : α → Sn} {D : Ends} {Q' : β → Hp → Prop}
    (h : PoS c O H (bnd f k en) D) (hk : ∀ d en' v H1, f en = .ok (d, en') → RS c O H1 σ en' → Go σ O H en H1 en' → R H1 v d → PoS c O H1 (k d en') D → Q' v H1) : Po c O H σ en R (f en) Q' := by
  unfold bnd at h
  generalize hr : f en = r at h hk
  cases r with
  | ok p =>
    obtain ⟨d, en'⟩ := p
    intro v H1 rs go hr
    have h' : PoS c O H (k d en') D := h
    exact hk d en' v H1 rfl rs go hr (h'.later (.of go.keep))
  | exc _ _ => exact h
  | bad => exact h
/-- behind a statement -/
theorem PoS.bind {c : Fc} {O : List Addr} {H : Hp} {f g : Sn} {en : En} {D : Ends} {N : L2.St → Hp → Prop} (h : PoS c O H (sSeq f g en) D) (hN : ∀ σ' H' O' en', RS c O' H' σ' en' → Stp O H O' H' → PoS c O' H' (g en') D → N σ' H') : PoS c O H (f en) { D with nx := N } := by
  unfold sSeq bnd at h
  generalize f en = r at h
  cases r with
  | ok p =>
    obtain ⟨fl, en'⟩ := p
    cases fl with
    | nx => exact fun σ' H' O' rs st => hN σ' H' O' en' rs st (PoS.later (show PoS c O H (g en') D from h) st)
    | bk => exact h
    | ct => exact h
    | rt d => exact h
  | exc _ _ => exact h
  | bad => exact h

section
variable {X : Cx} {pos : Pos} {a b e : Expr} {es : List Expr} {st : Stmt} {sts : List Stmt}
theorem dss_nil : DSs X [] sNext := ⟨_, pss_nil, fun c O H σ en D hc rs h => h σ H O rs .refl⟩
theorem dss_one {f : Sn} (h : DS X st f) : DSs X [st] f := let ⟨t, p, e⟩ := h; ⟨t, pss_one p, e⟩
theorem dss_cons {f g : Sn} (h : DS X st f) (h2 : DSs X sts g) : DSs X (st :: sts) (sSeq f g) := by
  obtain ⟨t, p, ev⟩ := h
  obtain ⟨t2, p2, ev2⟩ := h2
  refine ⟨_, pss_cons p p2, ?_⟩
  intro c O H σ en D hc rs hp
  exact ev c O H σ en _ hc rs (hp.bind fun σ' H' O' en' rs' st' hp' => ev2 c O' H' σ' en' D hc rs' hp')
theorem ds_set {x : Str} {p : Pos} {f : Dn} (i : Nat) (he : DE X e f) (hN : X.N.Nodup) (hi : X.N[i]? = some x := by rfl) (hx : Loc X.env.scope x := by first | exact Or.inl rfl | exact Or.inr rfl) (hs : swapsWith e (some (.Name x p)) pos.line X.env = pure false := by rfl)
    (hf : X.fn x = true ∨ X.env.scope.names.lookup x = some .local := by first | exact .inl rfl | exact .inr rfl) : DS X (.Assign [.Name x p] e pos) (sSet i f) := by
  obtain ⟨t, pe, ev⟩ := he
  refine ⟨_, ps_set hN hi hx pe hs hf, ?_⟩
  intro c O H σ en D hc rs h
  refine ev c O H σ en _ hc rs (Po.bindS h fun d1 en1 v1 H1 _ rs1 k1 r1 h1 => ?_)
  exact h1 _ H1 O (rs1.set_sh r1) .refl
theorem ds_ret {f : Dn} (he : DE X e f) : DS X (.Return (some e) pos) (sRet f) := by
  obtain ⟨t, pe, ev⟩ := he
  refine ⟨_, ps_ret pe, ?_⟩
  intro c O H σ en D hc rs h
  refine ev c O H σ en _ hc rs (Po.bindS h fun d1 en1 v1 H1 _ rs1 k1 r1 h1 => ?_)
  exact h1 v1 σ H1 O rs1 .refl r1
theorem ds_if {cnd : Expr} {l1 l2 : List Stmt} {k : Tn} {f g : Sn} (h : DT X cnd k) (h1 : DSs X l1 f) (h2 : DSs X l2 g) : DS X (.If cnd l1 l2 pos) (sIf k f g) := by
  obtain ⟨t, p, ev⟩ := h
  obtain ⟨t1, p1, ev1⟩ := h1
  obtain ⟨t2, p2, ev2⟩ := h2
  refine ⟨_, ps_if p p1 p2, ?_⟩
  intro c O H σ en D hc rs hp
  refine ev c O H σ en _ hc rs (Po.bindS hp fun d1 en1 v1 H1 _ rs1 k1 r1 h1 => ?_)
  subst r1
  cases v1 with
  | true => rw [if_pos rfl]; exact ev1 c O H1 σ en1 _ hc rs1 h1
  | false => rw [if_neg Bool.false_ne_true]; exact ev2 c O H1 σ en1 _ hc rs1 h1
/-! ### new objects that may change -/
def EvF (K : PySem.W.Frag) (t : TE) (f : Dn) : Prop := ∀ (c : Fc) (O : List Addr) (H : Hp) (σ : L2.St) (en : En) (Q : V → Hp → Prop), c.K = K → RS c O H σ en →
  (match f en with
    | .ok (d, en') => ∀ p H0 H', H0 p = none → RS c O H0 σ en → Keep O H H0 → RS c (p :: O) H' σ en' → Go σ O H en H' en' → OwR c.K (p :: O) H' p d → Q (.ref p) H'
    | .exc cn fds => wishX c cn fds
    | .bad => False) → t σ H Q
def DF (X : Cx) (e : Expr) (f : Dn) : Prop := ∃ t, PE X e t ∧ EvF X.K t f
def sSetO (i : Nat) (f : Dn) : Sn := bnd f fun d en => .ok (.nx, en.set i (.ow d))
end
end EL

set_option maxHeartbeats 2000000
namespace EL
open PySem PySem.Spec PyProof.Rows L2
variable [Wsh] [Tbx]

/-! ### data over statements -/
theorem stp_out {O O' : List Addr} {H H' : Hp} {a : Addr} {x : HO} (s : Stp O H O' H') (n : a ∉ O) (h : H a = some x) : a ∉ O' ∧ H' a = some x :=
  ⟨fun z => (s.grow a z).elim n (fun e => by rw [e] at h; cases h), s.keep a x n h⟩
section
variable {K : PySem.W.Frag} {O O' : List Addr} {H H' : Hp}
mutual
theorem Rp.stp (s : Stp O H O' H') : ∀ {v : V} {d : PyData}, Rp K O H v d → Rp K O' H' v d
  | _, _, .non => .non
  | _, _, .bl b => .bl b
  | _, _, .int i => .int i
  | _, _, .str x z => .str x z
  | _, _, .lst r n z a => .lst (stp_out s n r).2 (stp_out s n r).1 z (RpA.stp s a)
  | _, _, .tup r n z a => .tup (stp_out s n r).2 (stp_out s n r).1 z (RpA.stp s a)
  | _, _, .tupK r z a => .tupK r z (RpA.stp s a)
  | _, _, .dic r n z a => .dic (stp_out s n r).2 (stp_out s n r).1 z (RpD.stp s a)
  | _, _, .ins q r n z a => .ins q (stp_out s n r).2 (stp_out s n r).1 z (RpF.stp s a)
  | _, _, .exc q r r2 n n2 z a => .exc q (stp_out s n r).2 (stp_out s n2 r2).2 (stp_out s n r).1 (stp_out s n2 r2).1 z (RpF.stp s a)
theorem RpF.stp (s : Stp O H O' H') : ∀ {fs : List (Str × V)} {ds : List (PyData × PyData)}, RpF K O H fs ds → RpF K O' H' fs ds
  | _, _, .nil => .nil
  | _, _, .cons a b => .cons (Rp.stp s a) (RpF.stp s b)
theorem RpA.stp (s : Stp O H O' H') : ∀ {vs : List V} {ds : List PyData}, RpA K O H vs ds → RpA K O' H' vs ds
  | _, _, .nil => .nil
  | _, _, .cons a b => .cons (Rp.stp s a) (RpA.stp s b)
theorem RpD.stp (s : Stp O H O' H') : ∀ {kvs : List (Key × V)} {ds : List (PyData × PyData)}, RpD K O H kvs ds → RpD K O' H' kvs ds
  | _, _, .nil => .nil
  | _, _, .cons a b => .cons (Rp.stp s a) (RpD.stp s b)
end
end

/-! ### what is walked -/
def ItD (K : PySem.W.Frag) (O : List Addr) (H0 : Hp) (J : It) (ds : List PyData) : Prop := ∀ (i : Nat) (O' : List Addr) (H : Hp), Stp O H0 O' H → (∀ a ∈ O', H a ≠ none) →
  (∀ d, ds[i]? = some d → J.go i H ∧ ∀ x H', J.yld i H x H' → Same H H' ∧ Rp K O' H' x d) ∧ (i = ds.length → J.stop i H)
def EvI (K : PySem.W.Frag) (wi : TI) (f : An) : Prop := ∀ (c : Fc) (O : List Addr) (H : Hp) (σ : L2.St) (en : En) (R : It → Hp → Prop), c.K = K → RS c O H σ en →
  (match f en with
    | .ok (ds, en') => ∀ J H', RS c O H' σ en' → Go σ O H en H' en' → ds.length ≤ sizeLine → ItD K O H' J ds → R J H'
    | .exc cn fds => wishX c cn fds
    | .bad => False) → wi σ H R
def DI (X : Cx) (tg iter : Expr) (f : An) : Prop := ∃ wi, PI X tg iter wi ∧ EvI X.K wi f
def keyFits : PyData → Bool
  | .str x => decide (x.length ≤ sizeLine)
  | .int _ => true
  | _ => false
theorem inst_fits {kds : List (PyData × PyData)} (h : (kds.all fun p => keyFits p.1) = true) : instD kds = false := by
  cases kds with
  | nil => rfl
  | cons p r =>
    obtain ⟨x, d⟩ := p
    simp only [List.all_cons, Bool.and_eq_true] at h
    cases x <;> first | rfl | exact nomatch h.1
theorem RpD.keysA {K : PySem.W.Frag} {O : List Addr} {H : Hp} : ∀ {kvs : List (Key × V)} {kds : List (PyData × PyData)}, RpD K O H kvs kds → (kds.all fun p => keyFits p.1) = true → RpA K O H (kvs.map fun kv => kV kv.1) (kds.map (·.1))
  | _, _, .nil, _ => .nil
  | _, _, .cons (k := k) r t, h => by
    simp only [List.all_cons, Bool.and_eq_true] at h
    refine .cons ?_ (RpD.keysA t h.2)
    cases k with
    | inl i => exact .int i
    | inr x => exact .str x (of_decide_eq_true h.1)
theorem RpD.len : ∀ {K : PySem.W.Frag} {O : List Addr} {H : Hp} {kvs : List (Key × V)} {kds : List (PyData × PyData)}, RpD K O H kvs kds → kvs.length = kds.length
  | _, _, _, _, _, .nil => rfl
  | _, _, _, _, _, .cons _ t => by simp [RpD.len t]
theorem it_keys {K : PySem.W.Frag} {O : List Addr} {H : Hp} {d : Addr} {o : Obj} {kvs : List (Key × V)} {kds : List (PyData × PyData)} (h : H d = some (.frz o (.dK kvs))) (n : d ∉ O) (r : RpD K O H kvs kds) (z : (kds.all fun p => keyFits p.1) = true) : ItD K O H (Itk d o kvs) (kds.map (·.1)) := by
  intro i O' H1 s l
  obtain ⟨n1, h1⟩ := stp_out s n h
  refine ⟨fun dd hd => ?_, fun hi => ⟨h1, by rw [hi, List.length_map, r.len]; exact Nat.le_refl _⟩⟩
  obtain ⟨v, e1, e2⟩ := ((r.keysA z).stp s).getD hd
  have hlt : i < kvs.length := by
    have := (List.getElem?_eq_some_iff.mp e1).1
    rw [List.length_map] at this
    exact this
  refine ⟨⟨h1, hlt⟩, fun x H' y => ?_⟩
  obtain ⟨rfl, k, w, g1, rfl⟩ := y
  refine ⟨fun _ _ e => e, ?_⟩
  rw [List.getElem?_map, g1] at e1
  cases e1
  exact e2
def keysFit (kds : List (PyData × PyData)) : Bool := kds.all fun p => keyFits p.1
/-- the parts of data that is walked -/
def parts : PyData → Res (List PyData)
  | .list ds => .ok ds
  | .tuple ds => .ok ds
  | .str x => .ok (x.cps.toList.map fun c => .str ⟨#[c]⟩)
  | .dict kds => if keysFit kds = true then .ok (kds.map (·.1)) else .bad
  | _ => .bad
def iOf (f : Dn) : An := bnd f fun d => lft (parts d)
theorem pi_or {X : Cx} {tg it : Expr} {w1 w2 : TI} (h1 : PI X tg it w1) (h2 : PI X tg it w2) : PI X tg it (fun σ H R => w1 σ H R ∨ w2 σ H R) := ⟨fun pins s σ H R I h => h.elim (h1.run pins s σ H R I) (h2.run pins s σ H R I)⟩
section
variable {X : Cx} {pos : Pos} {a b e tg : Expr} {es : List Expr} {st : Stmt} {sts : List Stmt}
theorem it_list {K : PySem.W.Frag} {O : List Addr} {H : Hp} {a : Addr} {xs : List V} {ds : List PyData} (h : H a = some (.lst xs)) (n : a ∉ O) (r : RpA K O H xs ds) : ItD K O H (Itl K a) ds := by
  intro i O' H1 s l
  have e := (stp_out s n h).2
  have q : SqL K H1 a xs := .inl (.inl e)
  refine ⟨fun d hd => ?_, fun hi => ⟨xs, q, by rw [r.length, hi]; exact Nat.le_refl _⟩⟩
  obtain ⟨v, h1, h2⟩ := r.getD hd
  refine ⟨⟨xs, v, q, h1⟩, fun x H' y => ?_⟩
  obtain ⟨e1, y⟩ := y
  subst e1
  have := y xs q
  rw [h1] at this
  cases this
  exact ⟨Same.refl _, h2.stp s⟩
theorem it_tup {K : PySem.W.Frag} {O : List Addr} {H : Hp} {a : Addr} {xs : List V} {ds : List PyData} (h : ∀ O' H', Stp O H O' H' → SqT K H' a xs) (r : RpA K O H xs ds) (inj : ∀ O' H' ys, Stp O H O' H' → SqT K H' a ys → True) : ItD K O H (Itt K a) ds := by
  intro i O' H1 s l
  have q : SqT K H1 a xs := h O' H1 s
  refine ⟨fun d hd => ?_, fun hi => ⟨xs, q, by rw [r.length, hi]; exact Nat.le_refl _⟩⟩
  obtain ⟨v, h1, h2⟩ := r.getD hd
  refine ⟨⟨xs, v, q, h1⟩, fun x H' y => ?_⟩
  obtain ⟨e1, y⟩ := y
  subst e1
  have := y xs q
  rw [h1] at this
  cases this
  exact ⟨Same.refl _, h2.stp s⟩
theorem Rp.tupS {K : PySem.W.Frag} {O : List Addr} {H : Hp} {v : V} {ds : List PyData} (h : Rp K O H v (.tuple ds)) : ∃ a xs, v = .ref a ∧ (∀ O' H', Stp O H O' H' → SqT K H' a xs) ∧ xs.length ≤ sizeLine ∧ RpA K O H xs ds := by
  cases h with
  | tup h1 h2 h3 h4 => exact ⟨_, _, rfl, fun O' H' s => .inl (.inl (stp_out s h2 h1).2), h3, h4⟩
  | tupK h1 h3 h4 => exact ⟨_, _, rfl, fun O' H' s => h1 H', h3, h4⟩
theorem di_of {f : Dn} (h : DE X e f) : DI X tg e (iOf f) := by
  obtain ⟨t, p, ev⟩ := h
  refine ⟨_, pi_or (pi_list p) (pi_or (pi_tup p) (pi_or (pi_str p) (pi_keys p))), ?_⟩
  intro c O H σ en R hc rs hp
  unfold iOf bnd at hp
  generalize hr : f en = r at hp
  cases r with
  | exc _ _ => exact .inl (ev c O H σ en _ hc rs (by rw [hr]; exact hp))
  | bad => exact hp.elim
  | ok q =>
    obtain ⟨d, en1⟩ := q
    have hp' : (match (lft (parts d) en1 : Res (List PyData × En)) with
      | .ok (ds, en') => ∀ J H', RS c O H' σ en' → Go σ O H en H' en' → ds.length ≤ sizeLine → ItD X.K O H' J ds → R J H'
      | .exc cn fds => wishX c cn fds
      | .bad => False) := hp
    cases d with
    | list ds =>
      refine .inl (ev c O H σ en _ hc rs ?_)
      rw [hr]
      intro v H' rs' go rp
      rw [hc] at rp
      obtain ⟨a, xs, rfl, h1, h2, h3, h4⟩ := rp.lstI
      exact ⟨a, rfl, ⟨xs, .inl (.inl h1)⟩, hp' _ H' rs' go (by rw [← h4.length]; exact h3) (it_list h1 h2 h4)⟩
    | tuple ds =>
      refine .inr (.inl (ev c O H σ en _ hc rs ?_))
      rw [hr]
      intro v H' rs' go rp
      rw [hc] at rp
      obtain ⟨a, xs, rfl, h1, h3, h4⟩ := rp.tupS
      exact ⟨a, rfl, ⟨xs, h1 _ _ .refl⟩, hp' _ H' rs' go (by rw [← h4.length]; exact h3) (it_tup h1 h4 fun _ _ _ _ _ => trivial)⟩
    | dict kds =>
      by_cases hz : keysFit kds = true
      · have hp2 : ∀ J H', RS c O H' σ en1 → Go σ O H en H' en1 → (kds.map (·.1)).length ≤ sizeLine → ItD X.K O H' J (kds.map (·.1)) → R J H' := by
          have e : (lft (parts (.dict kds)) en1 : Res (List PyData × En)) = .ok (kds.map (·.1), en1) := by
            show (Res.bind (Res.calm (if keysFit kds = true then Res.ok (kds.map (·.1)) else .bad)) fun d => .ok (d, en1)) = _
            rw [if_pos hz]
            rfl
          rw [e] at hp'
          exact hp'
        refine .inr (.inr (.inr (ev c O H σ en _ hc rs ?_)))
        rw [hr]
        intro v H' rs' go rp
        rw [hc] at rp
        obtain ⟨a, o, kvs, rfl, h1, h2, h3, h4⟩ := rp.dicF (inst_fits hz)
        exact ⟨a, o, rfl, .inl ⟨kvs, h1, hp2 _ H' rs' go (by rw [List.length_map, ← h4.len]; exact h3) (it_keys h1 h2 h4 hz)⟩⟩
      · have e : (lft (parts (.dict kds)) en1 : Res (List PyData × En)) = .bad := by
          show (Res.bind (Res.calm (if keysFit kds = true then Res.ok (kds.map (·.1)) else .bad)) fun d => .ok (d, en1)) = _
          rw [if_neg hz]
          rfl
        rw [e] at hp'
        exact hp'.elim
    | str x =>
      refine .inr (.inr (.inl (ev c O H σ en _ hc rs ?_)))
      rw [hr]
      intro v H' rs' go rp
      obtain ⟨rfl, z1⟩ := rp.strI
      refine ⟨x, rfl, hp' _ H' rs' go (by rw [List.length_map, Array.length_toList]; exact z1) ?_⟩
      intro i O' H1 s l
      refine ⟨fun d hd => ?_, fun hi => ?_⟩
      · rw [List.getElem?_map] at hd
        cases hq : x.cps.toList[i]? with
        | none => rw [hq] at hd; cases hd
        | some ch =>
          rw [hq] at hd
          cases hd
          have hx : x.cps[i]? = some ch := by rw [← Array.getElem?_toList]; exact hq
          refine ⟨(Array.getElem?_eq_some_iff.mp hx).1, fun v H' y => ?_⟩
          obtain ⟨e1, cc, e2, e3⟩ := y
          subst e1
          rw [hx] at e2
          cases e2
          subst e3
          exact ⟨Same.refl _, .str _ (by show 1 ≤ sizeLine; decide)⟩
      · show x.cps.size ≤ i
        rw [hi, List.length_map, Array.length_toList]
        exact Nat.le_refl _
    | _ => exact hp'.elim

/-! ### targets -/
abbrev Gn := PyData → En → Res En
/-- σ' is σ but for these slots -/
def But (vs : List Nat) (σ σ' : L2.St) : Prop := σ'.length = σ.length ∧ ∀ j, j ∉ vs → σ'[j]? = σ[j]?
def EvG (K : PySem.W.Frag) (vs : List Nat) (t : TG) (g : Gn) : Prop := ∀ (c : Fc) (O : List Addr) (H : Hp) (σ : L2.St) (en : En) (v : V) (d : PyData) (Q : L2.St → Hp → Prop), c.K = K → RS c O H σ en → Rp c.K O H v d →
  (match g d en with
    | .ok en' => ∀ σ', RS c O H σ' en' → But vs σ σ' → Shp en en' → Q σ' H
    | .exc cn fds => wishX c cn fds
    | .bad => False) → t v σ H Q
def DG (X : Cx) (vs : List Nat) (tg : Expr) (g : Gn) : Prop := ∃ t, PG X tg t ∧ EvG X.K vs t g
def gNm (i : Nat) : Gn := fun d en => .ok (en.set i (.sh d))
theorem But.refl {vs : List Nat} {σ : L2.St} : But vs σ σ := ⟨rfl, fun _ _ => rfl⟩
theorem But.trans {vs : List Nat} {a b c : L2.St} (x : But vs a b) (y : But vs b c) : But vs a c := ⟨y.1.trans x.1, fun j h => (y.2 j h).trans (x.2 j h)⟩
theorem shp_sh {en : En} {i : Nat} {d : PyData} : Shp en (en.set i (.sh d)) := fun j e h => by
  rcases set_some h with ⟨_, e1, _⟩ | ⟨_, e1⟩
  · cases e1
  · exact ⟨e, e1⟩
theorem dg_name {x : Str} {vs : List Nat} (i : Nat) (hN : X.N.Nodup) (hv : i ∈ vs := by decide) (hi : X.N[i]? = some x := by rfl) (hx : Loc X.env.scope x := by first | exact Or.inl rfl | exact Or.inr rfl) (hf : X.fn x = true ∨ X.env.scope.names.lookup x = some .local := by first | exact .inl rfl | exact .inr rfl) : DG X vs (.Name x pos) (gNm i) := by
  refine ⟨_, pg_name hN hi hx hf, ?_⟩
  intro c O H σ en v d Q hc rs rp h
  refine h _ (rs.set_sh rp) ⟨by simp, fun j hj => ?_⟩ shp_sh
  rw [List.getElem?_set_ne (fun e => hj (by rw [← e]; exact hv))]
def DGs (X : Cx) (vs : List Nat) (ts : List Expr) (g : List PyData → En → Res En) : Prop := ∃ t, PGs X ts t ∧ ∀ (c : Fc) (O : List Addr) (H : Hp) (σ : L2.St) (en : En) (us : List V) (ds : List PyData) (Q : L2.St → Hp → Prop), c.K = X.K → RS c O H σ en → RpA c.K O H us ds →
  (match g ds en with
    | .ok en' => ∀ σ', RS c O H σ' en' → But vs σ σ' → Shp en en' → Q σ' H
    | .exc cn fds => wishX c cn fds
    | .bad => False) → t us σ H Q
def gNl : List PyData → En → Res En
  | [], en => .ok en
  | _ :: _, _ => .bad
def gCn (g : Gn) (r : List PyData → En → Res En) : List PyData → En → Res En
  | [], _ => .bad
  | d :: ds, en => (g d en).bind (r ds)
theorem dgs_nil {vs : List Nat} : DGs X vs [] gNl := by
  refine ⟨_, pgs_nil, ?_⟩
  intro c O H σ en us ds Q hc rs ra h
  cases ra with
  | nil => exact ⟨rfl, h σ rs .refl (.refl _)⟩
  | cons _ _ => exact h.elim
theorem dgs_cons {vs : List Nat} {g : Gn} {r : List PyData → En → Res En} (h1 : DG X vs e g) (h2 : DGs X vs es r) (hs : (assignEach (e :: es) X.env).map (·.2) = assign e X.env :: (assignEach es X.env).map (·.2) := by rfl) : DGs X vs (e :: es) (gCn g r) := by
  obtain ⟨t1, p1, ev1⟩ := h1
  obtain ⟨t2, p2, ev2⟩ := h2
  refine ⟨_, pgs_cons p1 p2 hs, ?_⟩
  intro c O H σ en us ds Q hc rs ra h
  cases ra with
  | nil => exact h.elim
  | @cons v vs' d ds' rv rt =>
    refine ⟨v, vs', rfl, ev1 c O H σ en v d _ hc rs rv ?_⟩
    have h' : (match (g d en).bind (r ds') with
      | .ok en' => ∀ σ', RS c O H σ' en' → But vs σ σ' → Shp en en' → Q σ' H
      | .exc cn fds => wishX c cn fds
      | .bad => False) := h
    cases q : g d en with
    | exc _ _ => rw [q] at h'; exact h'
    | bad => rw [q] at h'; exact h'
    | ok en1 =>
      rw [q] at h'
      have h2 : (match r ds' en1 with
        | .ok en' => ∀ σ', RS c O H σ' en' → But vs σ σ' → Shp en en' → Q σ' H
        | .exc cn fds => wishX c cn fds
        | .bad => False) := h'
      intro σ1 rs1 b1 s1
      refine ev2 c O H σ1 en1 vs' ds' _ hc rs1 rt ?_
      cases q2 : r ds' en1 with
      | exc _ _ => rw [q2] at h2; exact h2
      | bad => rw [q2] at h2; exact h2
      | ok en2 =>
        rw [q2] at h2
        exact fun σ2 rs2 b2 s2 => h2 σ2 rs2 (b1.trans b2) (s1.trans s2)
def gTp (n : Nat) (r : List PyData → En → Res En) : Gn := fun d en => match d with
  | .tuple ds => if ds.length = n then r ds en else .bad
  | _ => .bad
theorem dg_tup {vs : List Nat} {k n : Nat} {r : List PyData → En → Res En} (hc : X.calm = true) (h : DGs X vs es r) (hn : (assignEach es X.env).length = n := by rfl) (hst : (assignEach es X.env).findIdx? (·.1) = none := by rfl) : DG X vs (.Tuple es k pos) (gTp n r) := by
  obtain ⟨t, p, ev⟩ := h
  refine ⟨_, L2.pg_tup hc p hn hst, ?_⟩
  intro c O H σ en v d Q hK rs rp hq
  cases d with
  | tuple ds =>
    obtain ⟨a, xs, rfl, h1, _, h4⟩ := rp.tupI
    simp only [gTp] at hq
    by_cases hl : ds.length = n
    · rw [if_pos hl] at hq
      rw [hK] at h1
      exact ⟨a, xs, rfl, h1, by rw [h4.length]; exact hl, ev c O H σ en xs ds Q hK rs h4 hq⟩
    · rw [if_neg hl] at hq; exact hq.elim
  | _ => exact hq.elim
def sAsg (f : Dn) (g : Gn) : Sn := bnd f fun d en => (g d en).bind fun en' => .ok (.nx, en')
theorem ds_asg {vs : List Nat} {f : Dn} {g : Gn} (he : DE X e f) (hg : DG X vs tg g) (hs : swapsWithSole [tg] e pos.line X.env = pure false := by rfl) (hw : swappedStores [tg] e X.env = pure none := by rfl)
    (h1 : (assignEach [tg] X.env).map (·.2) = [assign tg X.env] := by rfl) : DS X (.Assign [tg] e pos) (sAsg f g) := by
  obtain ⟨t, p, ev⟩ := he
  obtain ⟨t2, p2, ev2⟩ := hg
  refine ⟨_, ps_asg p p2 hs hw h1, ?_⟩
  intro c O H σ en D hc rs h
  refine ev c O H σ en _ hc rs (Po.bindS h fun d1 en1 v1 H1 _ rs1 k1 r1 h1 => ?_)
  refine ev2 c O H1 σ en1 v1 d1 _ hc rs1 r1 ?_
  cases q : g d1 en1 with
  | exc _ _ => rw [q] at h1; exact h1
  | bad => rw [q] at h1; exact h1
  | ok en2 =>
    rw [q] at h1
    exact fun σ' rs' _ _ => h1 σ' H1 O rs' .refl
end
end EL

set_option maxHeartbeats 2000000
namespace EL
open PySem PySem.Spec PyProof.Rows L2
variable [Wsh] [Tbx]

/-! ### for -/
def loopK (k : Sn) : Fl → Sn
  | .nx => k
  | .ct => k
  | .bk => fun en => .ok (.nx, en)
  | .rt d => fun en => .ok (.rt d, en)
def loopF (g : Gn) (body : Sn) : List PyData → Sn
  | [] => sNext
  | d :: ds => fun en => (g d en).bind fun en1 => bnd body (loopK (loopF g body ds)) en1
def sFor (f : An) (g : Gn) (body : Sn) : Sn := bnd f (loopF g body)
theorem drop_cons {α : Type} {l : List α} {i : Nat} {x : α} (h : l[i]? = some x) : l.drop i = x :: l.drop (i + 1) := by
  obtain ⟨hi, e⟩ := List.getElem?_eq_some_iff.mp h
  rw [List.drop_eq_getElem_cons hi, e]
section
variable {X : Cx} {pos : Pos} {a b e tg iter : Expr} {es : List Expr} {st : Stmt} {sts body : List Stmt}
theorem ds_for {vs : List Nat} {f : An} {g : Gn} {fb : Sn} (hp : PassesOwn (model X.prog X.w) X.A X.env X.xe) (hc : X.calm = true) (hi : DI X tg iter f) (hg : DG X vs tg g) (hb : DSs X body fb) (hs : ∀ x, foldedSetIterable iter X.env x = pure x := by intro _; rfl) :
    DS X (.For tg iter body [] pos) (sFor f g fb) := by
  obtain ⟨wi, pi, ei⟩ := hi
  obtain ⟨tg', pg, eg⟩ := hg
  obtain ⟨tb, pb, eb⟩ := hb
  refine ⟨_, ps_for hp hc pi pg pb hs, ?_⟩
  intro c O H σ en D hK rs h
  refine ei c O H σ en _ hK rs ?_
  unfold sFor bnd at h
  generalize hr : f en = r at h
  cases r with
  | exc _ _ => exact h
  | bad => exact h
  | ok q =>
    obtain ⟨ds, en1⟩ := q
    intro J H1 rs1 go1 hz it
    have h1 : PoS c O H1 (loopF g fb ds en1) D := PoS.later (show PoS c O H (loopF g fb ds en1) D from h) (.of go1.keep)
    refine ⟨fun i m σ' H' => m = ds.length - i ∧ i ≤ ds.length ∧ ∃ O' en', RS c O' H' σ' en' ∧ Stp O H1 O' H' ∧ PoS c O' H' (loopF g fb (ds.drop i) en') D, ⟨_, rfl, Nat.zero_le _, O, en1, rs1, .refl, h1⟩, ?_⟩
    rintro i m σ2 H2 ⟨rfl, hi, O2, en2, rs2, st2, h2⟩
    obtain ⟨it1, it2⟩ := it i O2 H2 st2 rs2.live
    by_cases hlt : i < ds.length
    · have hd : ds[i]? = some ds[i] := List.getElem?_eq_getElem hlt
      obtain ⟨go, yl⟩ := it1 _ hd
      rw [drop_cons hd] at h2
      refine .inr ⟨go, fun σ' H' => ∃ O' en', RS c O' H' σ' en' ∧ Stp O H1 O' H' ∧ PoS c O' H' (loopF g fb (ds.drop (i + 1)) en') D, fun σ' H' ⟨O', en', q1, q2, q3⟩ => ⟨ds.length - (i + 1), by omega, rfl, hlt, O', en', q1, q2, q3⟩, fun x H3 y => ?_⟩
      obtain ⟨sm, rp⟩ := yl x H3 y
      rw [← hK] at rp
      have rs3 := rs2.same sm
      have st3 : Stp O H1 O2 H3 := st2.trans (.of (.of_same sm))
      have h3 : PoS c O2 H3 ((g ds[i] en2).bind fun en1 => bnd fb (loopK (loopF g fb (ds.drop (i + 1)))) en1) D := PoS.later h2 (.of (.of_same sm))
      refine eg c O2 H3 σ2 en2 x _ _ hK rs3 rp ?_
      cases q : g ds[i] en2 with
      | exc _ _ => rw [q] at h3; exact h3
      | bad => rw [q] at h3; exact h3
      | ok en4 =>
        rw [q] at h3
        have h4 : PoS c O2 H3 (bnd fb (loopK (loopF g fb (ds.drop (i + 1)))) en4) D := h3
        intro σ4 rs4 b4 s4
        refine eb c O2 H3 σ4 en4 _ hK rs4 ?_
        unfold bnd at h4
        cases q2 : fb en4 with
        | exc _ _ => rw [q2] at h4; exact h4
        | bad => rw [q2] at h4; exact h4
        | ok p5 =>
          obtain ⟨fl, en5⟩ := p5
          rw [q2] at h4
          cases fl with
          | nx => exact fun σ' H' O' rs' st' => ⟨O', en5, rs', st3.trans st', PoS.later (show PoS c O2 H3 (loopF g fb (ds.drop (i + 1)) en5) D from h4) st'⟩
          | ct => exact fun σ' H' O' rs' st' => ⟨O', en5, rs', st3.trans st', PoS.later (show PoS c O2 H3 (loopF g fb (ds.drop (i + 1)) en5) D from h4) st'⟩
          | bk => exact fun σ' H' O' rs' st' => (show PoS c O2 H3 (.ok (.nx, en5)) D from h4) σ' H' O' rs' st'
          | rt d => exact fun v σ' H' O' rs' st' => (show PoS c O2 H3 (.ok (.rt d, en5)) D from h4) v σ' H' O' rs' st'
    · have e : i = ds.length := by omega
      refine .inl ⟨it2 e, ?_⟩
      rw [e, List.drop_length] at h2
      exact h2 σ2 H2 O2 rs2 .refl

/-! ### ranges -/
def gRange1 : List PyData → Res (List PyData)
  | [.int n] => if (decide (-(2 ^ 62) ≤ n) && decide (n < 2 ^ 62) && decide (n.toNat ≤ sizeLine)) = true then .ok ((List.range n.toNat).map fun i => .int (i : Nat)) else .bad
  | _ => .bad
def iRange (g : List PyData → Res (List PyData)) (r : An) : An := bnd r fun xs => lft (g xs)
theorem it_range {K : PySem.W.Frag} {O : List Addr} {H : Hp} {lo : Int} {n : Nat} {ds : List PyData} (hd : ds = (List.range n).map fun i => .int (lo + (i : Nat))) : ItD K O H (Itr lo n) ds := by
  subst hd
  intro i O' H1 s l
  refine ⟨fun d hd => ?_, fun hi => ?_⟩
  · rw [List.getElem?_map] at hd
    cases q : (List.range n)[i]? with
    | none => rw [q] at hd; cases hd
    | some j =>
      rw [q] at hd
      have hj := List.getElem?_eq_some_iff.mp q
      obtain ⟨h1, h2⟩ := hj
      rw [List.getElem_range] at h2
      subst h2
      cases hd
      refine ⟨(show i < n by simpa using h1), fun x H' y => ?_⟩
      obtain ⟨e1, e2⟩ := y
      subst e1 e2
      exact ⟨Same.refl _, .int _⟩
  · show n ≤ i
    rw [hi, List.length_map, List.length_range]
    exact Nat.le_refl _
theorem di_range1 {p : Pos} {f : An} (hg : Gl X "range") (hm : X.mg "range" = none) (ha : DA X [a] f) (hs : starEach [a] X.env = [(false, eval a X.env)] := by rfl) : DI X tg (.Call (.Name "range" p) [a] [] pos) (iRange gRange1 f) := by
  obtain ⟨t, pa, ev⟩ := ha
  refine ⟨_, pi_range1 hg hm pa hs, ?_⟩
  intro c O H σ en R hK rs h
  refine ev c O H σ en _ hK rs ?_
  unfold iRange bnd at h
  generalize hr : f en = r at h
  cases r with
  | exc _ _ => exact h
  | bad => exact h
  | ok q =>
    obtain ⟨ds, en1⟩ := q
    intro vs H1 rs1 go1 ra
    have h' : (match (lft (gRange1 ds) en1 : Res (List PyData × En)) with
      | .ok (ds, en') => ∀ J H', RS c O H' σ en' → Go σ O H en H' en' → ds.length ≤ sizeLine → ItD X.K O H' J ds → R J H'
      | .exc cn fds => wishX c cn fds
      | .bad => False) := h
    cases ra with
    | nil => exact h'.elim
    | @cons v vs d ds rv rt =>
      cases rt with
      | cons _ _ => cases d <;> exact h'.elim
      | nil =>
        cases d with
        | int n =>
          cases rv
          simp only [gRange1] at h'
          by_cases hb : (decide (-(2 ^ 62) ≤ n) && decide (n < 2 ^ 62) && decide (n.toNat ≤ sizeLine)) = true
          · rw [if_pos hb] at h'
            simp only [Bool.and_eq_true, decide_eq_true_eq] at hb
            exact ⟨n, rfl, hb.1.1, hb.1.2, h' _ H1 rs1 go1 (by rw [List.length_map, List.length_range]; exact hb.2) (it_range (by simp))⟩
          · rw [if_neg hb] at h'; exact h'.elim
        | _ => exact h'.elim
/-! ### comprehensions -/
def wipeE (en : En) : List Nat → En
  | [] => en
  | v :: vs => (wipeE en vs).set v .no
def lcF (g : Gn) (tt : Tn) (te : Dn) (vs : List Nat) : List PyData → List PyData → Dn
  | [], acc, en => .ok (.list acc, en)
  | d :: ds, acc, en => (g d en).bind fun en1 => bnd tt (fun b => if b = true then bnd te fun y en3 => lcF g tt te vs ds (acc ++ [y]) (wipeE en3 vs) else fun en2 => lcF g tt te vs ds acc (wipeE en2 vs)) en1
def dLc (f : An) (g : Gn) (tt : Tn) (te : Dn) (vs : List Nat) : Dn := bnd f fun ds en => lcF g tt te vs ds [] (wipeE en vs)
theorem RS.wipe {c : Fc} {O : List Addr} {H : Hp} {σ : L2.St} {en : En} (r : RS c O H σ en) : ∀ vs, RS c O H (L2.wipe σ vs) (wipeE en vs)
  | [] => r
  | v :: vs => (RS.wipe r vs).set_no none
theorem shp_wipe (en : En) : ∀ vs, Shp en (wipeE en vs)
  | [] => .refl _
  | v :: vs => fun j e h => by
    unfold wipeE at h
    rcases set_some h with ⟨_, e1, _⟩ | ⟨_, e1⟩
    · cases e1
    · exact shp_wipe en vs j e e1
theorem wipe_none {σ : L2.St} : ∀ {vs : List Nat} {i : Nat}, i ∈ vs → i < σ.length → (L2.wipe σ vs)[i]? = some none
  | v :: vs, i, h, hl => by
    unfold L2.wipe
    by_cases e : v = i
    · subst e
      rw [List.getElem?_set_self (by rw [wipe_length]; exact hl)]
    · rw [List.getElem?_set_ne e]
      exact wipe_none ((List.mem_cons.mp h).resolve_left (Ne.symm e)) hl
theorem wipe_out {σ : L2.St} : ∀ {vs : List Nat} {i : Nat}, i ∉ vs → (L2.wipe σ vs)[i]? = σ[i]?
  | [], _, _ => rfl
  | v :: vs, i, h => by
    unfold L2.wipe
    rw [List.getElem?_set_ne (fun e => h (by rw [e]; exact List.mem_cons_self))]
    exact wipe_out fun z => h (List.mem_cons_of_mem _ z)
theorem wipe_but {vs : List Nat} {σ σ' : L2.St} (b : But vs (L2.wipe σ vs) σ') : L2.wipe σ' vs = L2.wipe σ vs := by
  have hl : σ'.length = σ.length := by rw [b.1, wipe_length]
  apply List.ext_getElem?
  intro i
  by_cases hi : i ∈ vs
  · by_cases h2 : i < σ.length
    · rw [wipe_none hi h2, wipe_none hi (by rw [hl]; exact h2)]
    · rw [List.getElem?_eq_none (by rw [wipe_length]; omega), List.getElem?_eq_none (by rw [wipe_length]; omega)]
  · rw [wipe_out hi, b.2 i hi]
/-- what holds of the wiped slots holds of them as they were -/
theorem RS.unwipe {c : Fc} {O : List Addr} {H : Hp} {σ : L2.St} {vs : List Nat} {en : En} (r : RS c O H (L2.wipe σ vs) en) : RS c O H σ en where
  len := by have := r.len; rw [wipe_length] at this; exact this
  keep := r.keep
  pin := r.pin
  sub := r.sub
  live := r.live
  sh := fun i d q => by
    obtain ⟨v, h1, h2⟩ := r.sh i d q
    exact ⟨v, (wipe_some h1).1, h2⟩
  ow := fun i d q => by
    obtain ⟨v, h1, h2⟩ := r.ow i d q
    exact ⟨v, (wipe_some h1).1, h2⟩
  dist := fun i j d f a q1 q2 s1 s2 => by
    obtain ⟨a1, h1, _⟩ := r.ow i d q1
    obtain ⟨a2, h2, _⟩ := r.ow j f q2
    have e1 := (wipe_some h1).1
    have e2 := (wipe_some h2).1
    rw [s1] at e1
    rw [s2] at e2
    cases e1
    cases e2
    exact r.dist i j d f a q1 q2 h1 h2
def DTs (X : Cx) (ifs : List Expr) (f : Tn) : Prop := ∃ t, PTs X ifs t ∧ EvT X.K t f
def tYesD : Tn := lft (.ok true)
theorem dts_nil : DTs X [] tYesD := ⟨_, pts_nil, fun c O H σ en Q hc rs h => h true H rs .refl rfl⟩
theorem dts_one {f : Tn} (h : DT X a f) : DTs X [a] f := let ⟨t, p, e⟩ := h; ⟨t, pts_one p, e⟩
end
end EL

set_option maxHeartbeats 2000000
namespace EL
open PySem PySem.Spec PyProof.Rows L2
variable [Wsh] [Tbx]

/-! ### one reading for a meaning -/
def tOf (K : PySem.W.Frag) (f : Dn) : TE := fun σ H Q => ∃ (c : Fc) (O : List Addr) (en : En), c.K = K ∧ RS c O H σ en ∧ PoE c O H σ en (f en) Q
def ttOf (K : PySem.W.Frag) (f : Tn) : TT := fun σ H Q => ∃ (c : Fc) (O : List Addr) (en : En), c.K = K ∧ RS c O H σ en ∧ PoT c O H σ en (f en) Q
def tgOf (K : PySem.W.Frag) (vs : List Nat) (g : Gn) : TG := fun v σ H Q => ∃ (c : Fc) (O : List Addr) (en : En) (d : PyData), c.K = K ∧ RS c O H σ en ∧ Rp c.K O H v d ∧
  (match g d en with
    | .ok en' => ∀ σ', RS c O H σ' en' → But vs σ σ' → Shp en en' → Q σ' H
    | .exc cn fds => wishX c cn fds
    | .bad => False)
theorem DE.pe {X : Cx} {e : Expr} {f : Dn} (h : DE X e f) : PE X e (tOf X.K f) := by
  obtain ⟨t, p, ev⟩ := h
  exact ⟨fun pins s σ H Q I ⟨c, O, en, hc, rs, hp⟩ => p.run pins s σ H Q I (ev c O H σ en Q hc rs hp)⟩
theorem DTs.pt {X : Cx} {e : List Expr} {f : Tn} (h : DTs X e f) : PTs X e (ttOf X.K f) := by
  obtain ⟨t, p, ev⟩ := h
  exact ⟨fun pins s σ H Q I ⟨c, O, en, hc, rs, hp⟩ => p.run pins s σ H Q I (ev c O H σ en Q hc rs hp)⟩
theorem DG.pg {X : Cx} {vs : List Nat} {e : Expr} {g : Gn} (h : DG X vs e g) : PG X e (tgOf X.K vs g) := by
  obtain ⟨t, p, ev⟩ := h
  exact ⟨fun pins s σ H v u Q I r ⟨c, O, en, d, hc, rs, rp, hp⟩ => p.run pins s σ H v u Q I r (ev c O H σ en v d Q hc rs rp hp)⟩
theorem ev_of (K : PySem.W.Frag) (f : Dn) : EvE K (tOf K f) f := fun c O H σ en Q hc rs h => ⟨c, O, en, hc, rs, h⟩
theorem evt_of (K : PySem.W.Frag) (f : Tn) : EvT K (ttOf K f) f := fun c O H σ en Q hc rs h => ⟨c, O, en, hc, rs, h⟩
theorem evg_of (K : PySem.W.Frag) (vs : List Nat) (g : Gn) : EvG K vs (tgOf K vs g) g := fun c O H σ en v d Q hc rs rp h => ⟨c, O, en, d, hc, rs, rp, h⟩

/-! ### a comprehension's reading -/
/-- a write to what was not there at the entry -/
theorem Keep.trans' {P : List Addr} {He H : Hp} {o : HO} (k : Keep P He H) {D : Addr} (h : ∃ p, p = D ∧ He p = none) : Keep P He (upd H D o) := fun a x n e => by
  obtain ⟨p, rfl, hp⟩ := h
  have ne : a ≠ p := fun z => by rw [z, hp] at e; cases e
  rw [upd_ne ne]; exact k a x n e
section
variable {X : Cx} {pos : Pos}
theorem free_new {c : Fc} {O : List Addr} {H : Hp} {σ : L2.St} {en : En} {p : Addr} (rs : RS c O H σ en) (h : H p = none) : Free σ en p := fun i d e z => by
  obtain ⟨a, h1, h2, _⟩ := rs.ow i d e
  rw [h1] at z
  cases z
  exact h2.some h
theorem ev_lc {K : PySem.W.Frag} {vs : List Nat} {wi : TI} {g : TG} {tt : TT} {te : TE} {f : An} {gD : Gn} {tD : Tn} {eD : Dn} (ei : EvI K wi f) (eg : EvG K vs g gD) (et : EvT K tt tD) (ee : EvE K te eD) : EvF K (tLc wi g tt te vs) (dLc f gD tD eD vs) := by
  intro c O H σ en Q hK rs h
  refine ei c O H σ en _ hK rs ?_
  unfold dLc bnd at h
  generalize hr : f en = r at h
  cases r with
  | exc _ _ => exact h
  | bad => exact h
  | ok q =>
  obtain ⟨ds, en1⟩ := q
  intro J H1 rs1 go1 hz it D hD
  have hHD : H D = none := by
    cases e : H D with
    | none => rfl
    | some x => rw [go1.keep D x (rs1.newp hD).1 e] at hD; cases hD
  have frD : Free σ en D := free_new rs hHD
  -- what is wanted behind the rest
  let Fin : Res (PyData × En) → Prop := fun r => match r with
    | .ok (d, en'') => ∀ H', RS c (D :: O) H' (L2.wipe σ vs) en'' → Shp en en'' → Keep O H1 H' → (∀ a x, Free σ en a → a ≠ D → H1 a = some x → H' a = some x) → OwR c.K (D :: O) H' D d → Q (.ref D) H'
    | .exc cn fds => wishX c cn fds
    | .bad => False
  have hF : Fin (lcF gD tD eD vs ds [] (wipeE en1 vs)) := by
    have h' : (match lcF gD tD eD vs ds [] (wipeE en1 vs) with
      | .ok (d, en') => ∀ p H0 H', H0 p = none → RS c O H0 σ en → Keep O H H0 → RS c (p :: O) H' σ en' → Go σ O H en H' en' → OwR c.K (p :: O) H' p d → Q (.ref p) H'
      | .exc cn fds => wishX c cn fds
      | .bad => False) := h
    revert h'
    generalize lcF gD tD eD vs ds [] (wipeE en1 vs) = rr
    intro h'
    cases rr with
    | exc _ _ => exact h'
    | bad => exact h'
    | ok p =>
      obtain ⟨d, en''⟩ := p
      intro H' rs' sh kp hd ow
      refine h' D H H' hHD rs (.refl _) rs'.unwipe ⟨go1.keep.trans kp, sh, fun a x fr ha => ?_⟩ ow
      exact hd a x fr (fun e => by rw [e, hHD] at ha; cases ha) (go1.held a x fr ha)
  refine ⟨fun i m H' => m = ds.length - i ∧ i ≤ ds.length ∧ ∃ en' acc accV, RS c (D :: O) H' (L2.wipe σ vs) en' ∧ Shp en en' ∧ Keep O H1 H' ∧ (∀ a x, Free σ en a → a ≠ D → H1 a = some x → H' a = some x) ∧ H' D = some (.lst accV) ∧ RpA c.K (D :: O) H' accV acc ∧ acc.length ≤ i ∧ Fin (lcF gD tD eD vs (ds.drop i) acc en'),
    ⟨_, rfl, Nat.zero_le _, wipeE en1 vs, [], [], (rs1.lay hD).wipe vs, go1.shp.trans (shp_wipe _ _), keep_new hD, fun a x _ ne e => by rw [upd_ne ne]; exact e, upd_same, .nil, Nat.le_refl _, hF⟩, ?_⟩
  rintro i m H2 ⟨rfl, hi, en2, acc, accV, rs2, sh2, kp2, hd2, hDv, hacc, hlen, hf⟩
  have st2 : Stp O H1 (D :: O) H2 := ⟨kp2, fun a ha => (List.mem_cons.mp ha).elim (fun e => .inr (by rw [e]; exact hD)) .inl⟩
  obtain ⟨it1, it2⟩ := it i (D :: O) H2 st2 rs2.live
  by_cases hlt : i < ds.length
  · have hdi : ds[i]? = some ds[i] := List.getElem?_eq_getElem hlt
    obtain ⟨go, yl⟩ := it1 _ hdi
    rw [drop_cons hdi] at hf
    refine .inr ⟨go, fun H' => ∃ en' acc accV, RS c (D :: O) H' (L2.wipe σ vs) en' ∧ Shp en en' ∧ Keep O H1 H' ∧ (∀ a x, Free σ en a → a ≠ D → H1 a = some x → H' a = some x) ∧ H' D = some (.lst accV) ∧ RpA c.K (D :: O) H' accV acc ∧ acc.length ≤ i + 1 ∧ Fin (lcF gD tD eD vs (ds.drop (i + 1)) acc en'),
      fun H' w => ⟨ds.length - (i + 1), by omega, rfl, hlt, w⟩, fun x H3 y => ?_⟩
    obtain ⟨sm, rp⟩ := yl x H3 y
    rw [← hK] at rp
    have rs3 := rs2.same sm
    refine eg c (D :: O) H3 (L2.wipe σ vs) en2 x _ _ hK rs3 rp ?_
    have hf3 : Fin ((gD ds[i] en2).bind fun en1 => bnd tD (fun b => if b = true then bnd eD fun y en3 => lcF gD tD eD vs (ds.drop (i + 1)) (acc ++ [y]) (wipeE en3 vs) else fun en2 => lcF gD tD eD vs (ds.drop (i + 1)) acc (wipeE en2 vs)) en1) := hf
    cases q : gD ds[i] en2 with
    | exc _ _ => rw [q] at hf3; exact hf3
    | bad => rw [q] at hf3; exact hf3
    | ok en4 =>
      rw [q] at hf3
      have hf4 : Fin (bnd tD (fun b => if b = true then bnd eD fun y en3 => lcF gD tD eD vs (ds.drop (i + 1)) (acc ++ [y]) (wipeE en3 vs) else fun en2 => lcF gD tD eD vs (ds.drop (i + 1)) acc (wipeE en2 vs)) en4) := hf3
      intro σ4 rs4 b4 s4
      have w4 : L2.wipe σ4 vs = L2.wipe σ vs := wipe_but b4
      have out4 : ∀ a, Free σ en a → Free σ4 en4 a := fun a fr j d e z => by
        obtain ⟨d2, e2⟩ := s4 j d e
        obtain ⟨a2, g1, _⟩ := rs2.ow j d2 e2
        have hj : j ∉ vs := fun hj => by
          have hl : j < σ.length := by
            have := (List.getElem?_eq_some_iff.mp g1).1
            rw [wipe_length] at this
            exact this
          rw [wipe_none hj hl] at g1
          cases g1
        rw [b4.2 j hj] at z
        obtain ⟨d3, e3⟩ := sh2 j d2 e2
        exact fr j d3 e3 (wipe_some z).1
      refine ⟨w4, et c (D :: O) H3 σ4 en4 _ hK rs4 ?_⟩
      unfold bnd at hf4
      cases q5 : tD en4 with
      | exc _ _ => rw [q5] at hf4; exact hf4
      | bad => rw [q5] at hf4; exact hf4
      | ok p5 =>
        obtain ⟨b, en5⟩ := p5
        rw [q5] at hf4
        intro b' H5 rs5 go5 eb
        subst eb
        have keep5 : Keep O H1 H5 := fun a x n e => by
          by_cases ha : a = D
          · rw [ha, hD] at e; cases e
          · exact go5.keep a x (fun z => (List.mem_cons.mp z).elim ha n) (sm a x (kp2 a x n e))
        have held5 : ∀ a x, Free σ en a → a ≠ D → H1 a = some x → H5 a = some x := fun a x fr ne e => go5.held a x (out4 a fr) (sm a x (hd2 a x fr ne e))
        have frD4 : Free σ4 en4 D := out4 D frD
        have hD5 : H5 D = some (.lst accV) := go5.held D _ frD4 (sm D _ hDv)
        have same35 : ∀ {v : V} {d : PyData}, Rp c.K (D :: O) H2 v d → Rp c.K (D :: O) H5 v d := fun h => (h.keep (.of_same sm)).keep go5.keep
        have acc5 : RpA c.K (D :: O) H5 accV acc := (hacc.keep (.of_same sm)).keep go5.keep
        cases b' with
        | false =>
          rw [if_neg Bool.false_ne_true]
          have w5 : RS c (D :: O) H5 (L2.wipe σ vs) (wipeE en5 vs) := by rw [← w4]; exact rs5.wipe vs
          exact ⟨wipeE en5 vs, acc, accV, w5, ((sh2.trans s4).trans go5.shp).trans (shp_wipe _ _), keep5, held5, hD5, acc5, by omega, hf4⟩
        | true =>
          rw [if_pos rfl]
          refine ee c (D :: O) H5 σ4 en5 _ hK rs5 ?_
          have hf5 : Fin (bnd eD (fun y en3 => lcF gD tD eD vs (ds.drop (i + 1)) (acc ++ [y]) (wipeE en3 vs)) en5) := hf4
          unfold bnd at hf5
          cases q6 : eD en5 with
          | exc _ _ => rw [q6] at hf5; exact hf5
          | bad => rw [q6] at hf5; exact hf5
          | ok p6 =>
            obtain ⟨yd, en6⟩ := p6
            rw [q6] at hf5
            intro yv H6 rs6 go6 ry
            have keep6 : Keep O H1 H6 := fun a x n e => by
              by_cases ha : a = D
              · rw [ha, hD] at e; cases e
              · exact go6.keep a x (fun z => (List.mem_cons.mp z).elim ha n) (keep5 a x n e)
            have fr5 : ∀ a, Free σ en a → Free σ4 en5 a := fun a fr => (out4 a fr).shp go5.shp
            have held6 : ∀ a x, Free σ en a → a ≠ D → H1 a = some x → H6 a = some x := fun a x fr ne e => go6.held a x (fr5 a fr) (held5 a x fr ne e)
            have hD6 : H6 D = some (.lst accV) := go6.held D _ (fr5 D frD) hD5
            have hl : accV.length < sizeLine := by
              rw [hacc.length]
              omega
            refine ⟨accV, hD6, hl, wipeE en6 vs, acc ++ [yd], accV ++ [yv], ?_, (((sh2.trans s4).trans go5.shp).trans go6.shp).trans (shp_wipe _ _), ?_, ?_, upd_same, ?_, by rw [List.length_append]; simp; omega, hf5⟩
            · have w6 : RS c (D :: O) H6 (L2.wipe σ vs) (wipeE en6 vs) := by rw [← w4]; exact rs6.wipe vs
              refine ⟨w6.len, ?_, w6.pin, w6.sub, fun a ha => ?_, fun j d e => ?_, fun j d e => ?_, w6.dist⟩
              · refine w6.keep.trans' ?_
                exact ⟨D, rfl, (rs1.newp hD).2.2.2⟩
              · by_cases e : a = D
                · rw [e, upd_same]; exact fun z => nomatch z
                · rw [upd_ne e]; exact w6.live a ha
              · obtain ⟨v, e1, e2⟩ := w6.sh j d e
                exact ⟨v, e1, e2.keep (keep_upd List.mem_cons_self)⟩
              · obtain ⟨a, e1, e2, e3, e4⟩ := w6.ow j d e
                have ne : a ≠ D := fun z => by
                  have s6 : Shp en (wipeE en6 vs) := (((sh2.trans s4).trans go5.shp).trans go6.shp).trans (shp_wipe _ _)
                  obtain ⟨d', e'⟩ := s6 j d e
                  exact frD j d' e' (by rw [← z]; exact (wipe_some e1).1)
                exact ⟨a, e1, e2.keep (keep_upd List.mem_cons_self) (upd_ne ne), e3, e4⟩
            · exact fun a x n e => by
                have ne : a ≠ D := fun z => by rw [z, hD] at e; cases e
                rw [upd_ne ne]; exact keep6 a x n e
            · exact fun a x fr ne e => by rw [upd_ne ne]; exact held6 a x fr ne e
            · exact ((acc5.keep go6.keep).keep (keep_upd List.mem_cons_self)).append (.cons (ry.keep (keep_upd List.mem_cons_self)) .nil)
  · have e : i = ds.length := by omega
    refine .inl ⟨it2 e, ?_⟩
    rw [e, List.drop_length] at hf
    exact hf H2 rs2 sh2 kp2 hd2 ⟨accV, hDv, by rw [hacc.length]; omega, hacc⟩
end
end EL

set_option maxHeartbeats 2000000
namespace EL
open PySem PySem.Spec PyProof.Rows L2
variable [Wsh] [Tbx]

section
variable {X : Cx} {pos : Pos} {a b e tg iter elt : Expr} {es : List Expr} {st : Stmt} {sts body : List Stmt}
theorem OwR.rp {K : PySem.W.Frag} {O : List Addr} {H : Hp} {p : Addr} {od : Obj} {d : PyData} (n : p ∉ O) (h : OwR K (p :: O) H p d) : Rp K O (lkH H p od) (.ref p) d := by
  have sb : ∀ a ∈ O, a ∈ p :: O := fun a ha => List.mem_cons_of_mem _ ha
  have kp : Keep (p :: O) H (lkH H p od) := keep_lk List.mem_cons_self
  cases d with
  | list ds => obtain ⟨xs, e1, e2, e3⟩ := h; exact .lst (lkH_at e1) n e2 ((e3.keep kp).less sb)
  | dict ds => obtain ⟨o, e1, e2⟩ := h; exact ((e2.keep kp).less sb).rp e1 n
  | _ => exact h.elim
/-- what is no dict needs no lock -/
theorem OwR.rpL {K : PySem.W.Frag} {O : List Addr} {H : Hp} {p : Addr} {d : PyData} (n : p ∉ O) (h : OwR K (p :: O) H p d) (hd : (∃ ds, d = .list ds) ∨ instP d = true) : Rp K O H (.ref p) d := by
  have sb : ∀ a ∈ O, a ∈ p :: O := fun a ha => List.mem_cons_of_mem _ ha
  rcases hd with ⟨ds, rfl⟩ | hd
  · obtain ⟨xs, e1, e2, e3⟩ := h; exact .lst e1 n e2 (e3.less sb)
  · cases d with
    | dict kds =>
      obtain ⟨o, e1, e2⟩ := h
      rcases e2.less sb with ⟨kvs, rfl, z, r⟩ | ⟨C, dx, fs, cn, fds, rfl, rfl, e3, e4, r⟩
      · cases kds with
        | nil => cases hd
        | cons q kds =>
          obtain ⟨k, ek⟩ := r.headK
          obtain ⟨q1, q2⟩ := q
          have ek' : q1 = kD k := ek
          subst ek'
          cases k <;> cases hd
      · exact .ins e3 e1 n e4 r
    | _ => cases hd
theorem free_fresh {c : Fc} {O : List Addr} {H0 H' : Hp} {σ : L2.St} {en en' : En} {p : Addr} (rs0 : RS c O H0 σ en) (h0 : H0 p = none) (s : Shp en en') : Free σ en' p := fun j e q z => by
  obtain ⟨e', q'⟩ := s j e q
  obtain ⟨a, h1, h2, _⟩ := rs0.ow j e' q'
  rw [h1] at z
  cases z
  exact h2.some h0
theorem ev_fresh {K : PySem.W.Frag} {t : TE} {f : Dn} (h : EvF K t f) : EvE K (tLk t) f := by
  intro c O H σ en Q hc rs hp
  refine h c O H σ en _ hc rs ?_
  cases q : f en with
  | exc _ _ => rw [q] at hp; exact hp
  | bad => rw [q] at hp; exact hp
  | ok p =>
    obtain ⟨d, en'⟩ := p
    rw [q] at hp
    intro p H0 H' h0 rs0 k0 rs1 g1 ow od
    have np := rs0.newp h0
    have hH : H p = none := by
      cases q : H p with
      | none => rfl
      | some x => rw [k0 p x np.1 q] at h0; cases h0
    refine hp (.ref p) (lkH H' p od) (rs0.unlay h0 (rs1.lk List.mem_cons_self np.2.2.2 (free_fresh (H' := H') rs0 h0 g1.shp)) g1.shp) ⟨fun a x na e => ?_, g1.shp, fun a x fr e => ?_⟩ (ow.rp np.1)
    · show lkH H' p od a = some x
      rw [lkH_ne (fun z => by rw [z, hH] at e; cases e)]; exact g1.keep a x na e
    · show lkH H' p od a = some x
      rw [lkH_ne (fun z => by rw [z, hH] at e; cases e)]; exact g1.held a x fr e
theorem ev_freshL {K : PySem.W.Frag} {t : TE} {f : Dn} (h : EvF K t f) (hl : ∀ en d en', f en = .ok (d, en') → ∃ ds, d = .list ds) : EvE K t f := by
  intro c O H σ en Q hc rs hp
  refine h c O H σ en Q hc rs ?_
  cases q : f en with
  | exc _ _ => rw [q] at hp; exact hp
  | bad => rw [q] at hp; exact hp
  | ok p =>
    obtain ⟨d, en'⟩ := p
    rw [q] at hp
    intro p H0 H' h0 rs0 k0 rs1 g1 ow
    exact hp (.ref p) H' (rs0.unlay h0 rs1 g1.shp) g1 (ow.rpL (rs0.newp h0).1 (.inl (hl en d en' q)))
theorem de_new {f : Dn} (h : DF X e f) : DE X e f := let ⟨t, p, ev⟩ := h; ⟨_, pe_lk p, ev_fresh ev⟩
theorem lcF_list {g : Gn} {tt : Tn} {te : Dn} {vs : List Nat} : ∀ (ds acc : List PyData) (en : En) {d : PyData} {en' : En}, lcF g tt te vs ds acc en = .ok (d, en') → ∃ xs, d = .list xs
  | [], acc, en, d, en', h => by cases h; exact ⟨acc, rfl⟩
  | x :: ds, acc, en, d, en', h => by
    unfold lcF at h
    cases q : g x en with
    | exc _ _ => rw [q] at h; cases h
    | bad => rw [q] at h; cases h
    | ok e1 =>
      rw [q] at h
      simp only [res_bind_ok, bnd] at h
      cases q2 : tt e1 with
      | exc _ _ => rw [q2] at h; cases h
      | bad => rw [q2] at h; cases h
      | ok p2 =>
        obtain ⟨b, e2⟩ := p2
        rw [q2] at h
        simp only [res_bind_ok] at h
        cases b with
        | false =>
          simp only [Bool.false_eq_true, if_false] at h
          exact lcF_list ds acc _ h
        | true =>
          simp only [if_true, bnd] at h
          cases q3 : te e2 with
          | exc _ _ => rw [q3] at h; cases h
          | bad => rw [q3] at h; cases h
          | ok p3 =>
            obtain ⟨y, e3⟩ := p3
            rw [q3] at h
            simp only [res_bind_ok] at h
            exact lcF_list ds _ _ h
theorem dLc_list {f : An} {g : Gn} {tt : Tn} {te : Dn} {vs : List Nat} : ∀ (en : En) (d : PyData) (en' : En), dLc f g tt te vs en = .ok (d, en') → ∃ xs, d = .list xs := fun en d en' h => by
  unfold dLc bnd at h
  cases q : f en with
  | exc _ _ => rw [q] at h; cases h
  | bad => rw [q] at h; cases h
  | ok p => rw [q] at h; exact lcF_list _ _ _ h

theorem df_lc {ifs : List Expr} {scope : Scope} (own : List (Str × Nat)) {f : An} {gD : Gn} {tD : Tn} {eD : Dn} (hc : X.calm = true) (hN : X.N.Nodup) (hi : DI X tg iter f) (ok : BlkOk X.N X.env.scope scope own)
    (hg : ∀ (s : Shared) (H : Hp) (C : Addr) (cl : List (Str × Addr)) (fp : List Addr), DG (X.blk s H scope (compEnvC scope cl C X.env) fp) (own.map (·.2)) tg gD) (ht : ∀ (s : Shared) (H : Hp) (C : Addr) (cl : List (Str × Addr)) (fp : List Addr), DTs (X.blk s H scope (compEnvC scope cl C X.env) fp) ifs tD)
    (he : ∀ (s : Shared) (H : Hp) (C : Addr) (cl : List (Str × Addr)) (fp : List Addr), DE (X.blk s H scope (compEnvC scope cl C X.env) fp) elt eD) (hs : ∀ x, foldedSetIterable iter X.env x = pure x := by intro _; rfl) :
    DF X (.ListComp elt [⟨tg, iter, ifs, 0⟩] scope pos) (dLc f gD tD eD (own.map (·.2))) := by
  obtain ⟨wi, pi, ei⟩ := hi
  exact ⟨_, pe_lc hc hN pi ok (fun s H C cl fp => (hg s H C cl fp).pg) (fun s H C cl fp => (ht s H C cl fp).pt) (fun s H C cl fp => (he s H C cl fp).pe) hs, ev_lc ei (evg_of X.K _ _) (evt_of X.K _) (ev_of X.K _)⟩
/-- y = [..] on one line -/
theorem ps_lc {y : Str} {py spos : Pos} {ifs : List Expr} {scope : Scope} (i : Nat) (own : List (Str × Nat)) {f : An} {gD : Gn} {tD : Tn} {eD : Dn} (hc : X.calm = true) (hN : X.N.Nodup) (hi : DI X tg iter f) (ok : BlkOk X.N X.env.scope scope own)
    (hg : ∀ (s : Shared) (H : Hp) (C : Addr) (cl : List (Str × Addr)) (fp : List Addr), DG (X.blk s H scope (compEnvC scope cl C X.env) fp) (own.map (·.2)) tg gD) (ht : ∀ (s : Shared) (H : Hp) (C : Addr) (cl : List (Str × Addr)) (fp : List Addr), DTs (X.blk s H scope (compEnvC scope cl C X.env) fp) ifs tD)
    (he : ∀ (s : Shared) (H : Hp) (C : Addr) (cl : List (Str × Addr)) (fp : List Addr), DE (X.blk s H scope (compEnvC scope cl C X.env) fp) elt eD)
    (hsw : swapsWith (.ListComp elt [⟨tg, iter, ifs, 0⟩] scope pos) (some (.Name y py)) spos.line X.env = pure true) (hy : X.N[i]? = some y := by rfl) (hyl : X.env.scope.names.lookup y = some .local := by rfl)
    (hs : ∀ x, foldedSetIterable iter X.env x = pure x := by intro _; rfl) :
    ∃ t, PS X (.Assign [.Name y py] (.ListComp elt [⟨tg, iter, ifs, 0⟩] scope pos) spos) (tAsg t (L2.gName i)) ∧ EvF X.K t (dLc f gD tD eD (own.map (·.2))) := by
  obtain ⟨wi, pi, ei⟩ := hi
  exact ⟨_, ps_setLc hc hN hy hyl hsw pi ok (fun s H C cl fp => (hg s H C cl fp).pg) (fun s H C cl fp => (ht s H C cl fp).pt) (fun s H C cl fp => (he s H C cl fp).pe) hs, ev_lc ei (evg_of X.K _ _) (evt_of X.K _) (ev_of X.K _)⟩
theorem ds_ofS {i : Nat} {f : Dn} (h : ∃ t, PS X st (tAsg t (L2.gName i)) ∧ EvF X.K t f) (hl : ∀ en d en', f en = .ok (d, en') → ∃ ds, d = .list ds := by exact dLc_list) : DS X st (sSet i f) := by
  obtain ⟨t, p, ev⟩ := h
  refine ⟨_, p, ?_⟩
  intro c O H σ en D hc rs h
  refine ev_freshL ev hl c O H σ en _ hc rs (Po.bindS h fun d1 en1 v1 H1 _ rs1 k1 r1 h1 => ?_)
  exact h1 _ H1 O (rs1.set_sh r1) .refl
/-! ### a list that may change -/
/-- x[k] = e, x a list that may change -/
def putK (i : Nat) (d : PyData) (k : PyData) : Sn := fun en => match en[i]?, k with
  | some (.ow (.list xs)), .int z => (match ixN xs.length z with
    | some j => .ok (.nx, en.set i (.ow (.list (xs.set j d))))
    | none => .bad)
  | _, _ => .bad
def putK0 (i : Nat) (fk : Dn) (d : PyData) : Sn := fun en => match en[i]? with
  | some (.ow (.list _)) => bnd fk (putK i d) en
  | _ => .bad
def sPut (i : Nat) (f fk : Dn) : Sn := bnd f (putK0 i fk)
theorem RpA.set {K : PySem.W.Frag} {O : List Addr} {H : Hp} {v : V} {d : PyData} (r : Rp K O H v d) : ∀ {vs : List V} {ds : List PyData} (j : Nat), RpA K O H vs ds → RpA K O H (vs.set j v) (ds.set j d)
  | _, _, _, .nil => .nil
  | _, _, 0, .cons _ t => .cons r t
  | _, _, j + 1, .cons q t => .cons q (RpA.set r j t)
theorem ds_put {x : Str} {p p2 : Pos} {k : Expr} {f fk : Dn} (i : Nat) (he : DE X e f) (hk : DE X k fk) (hN : X.N[i]? = some x := by rfl) (hv : Vis X.env.scope x := by first | exact Or.inl rfl | exact Or.inr (Or.inl rfl) | exact Or.inr (Or.inr rfl))
    (ha : ∀ v, assign (.Subscript (.Name x p) k p2) X.env v = (do
      let ov ← holding [v] (eval (.Name x p) X.env)
      let iv ← holding [v, ov] (eval k X.env)
      standAt p2
      holding [v, ov, iv] (setItem ov iv v)
      release [v, ov, iv] []) := by intro _; rfl)
    (hs : swapsWithSole [.Subscript (.Name x p) k p2] e pos.line X.env = pure false := by rfl) (hw : swappedStores [.Subscript (.Name x p) k p2] e X.env = pure none := by rfl)
    (h1 : (assignEach [.Subscript (.Name x p) k p2] X.env).map (·.2) = [assign (.Subscript (.Name x p) k p2) X.env] := by rfl) (hd : (x == ("__debug__" : Str)) = false := by decide) (hcd : (x == ("__classdict__" : Str)) = false := by decide) :
    DS X (.Assign [.Subscript (.Name x p) k p2] e pos) (sPut i f fk) := by
  obtain ⟨t, pe, ev⟩ := he
  obtain ⟨tk, pk, evk⟩ := hk
  refine ⟨_, ps_asg pe (pg_sub (pe_var hN hv hd hcd) pk set_list ha) hs hw h1, ?_⟩
  intro c O H σ en D hK rs h
  refine ev c O H σ en _ hK rs (Po.bindS h fun d1 en1 v1 H1 _ rs1 k1 r1 h1 => ?_)
  unfold putK0 at h1
  cases q : en1[i]? with
  | none => rw [q] at h1; exact h1.elim
  | some s =>
    rw [q] at h1
    cases s with
    | no => exact h1.elim
    | sh _ => exact h1.elim
    | ow d0 =>
      cases d0 with
      | list ds0 =>
        obtain ⟨p, hp, ⟨xs0, g1, _⟩, _⟩ := rs1.ow i _ q
        refine ⟨.ref p, hp, evk c O H1 σ en1 _ hK rs1 (Po.bindS (show PoS c O H1 (bnd fk (putK i d1) en1) D from h1) fun d2 en2 v2 H2 _ rs2 k2 r2 h2 => ?_)⟩
        unfold putK at h2
        cases q1 : en2[i]? with
        | none => rw [q1] at h2; exact h2.elim
        | some s1 =>
          rw [q1] at h2
          cases s1 with
          | no => exact h2.elim
          | sh _ => exact h2.elim
          | ow d3 =>
            cases d3 with
            | list ds =>
              cases d2 with
              | int z =>
                cases r2
                obtain ⟨p', hp', ⟨xs, e1, e2, e3⟩, hO, _⟩ := rs2.ow i _ q1
                rw [hp] at hp'
                cases hp'
                have h3 : PoS c O H2 (match ixN ds.length z with
                  | some j => .ok (.nx, en2.set i (.ow (.list (ds.set j d1))))
                  | none => .bad) D := h2
                cases q4 : ixN ds.length z with
                | none => rw [q4] at h3; exact h3.elim
                | some j =>
                  rw [q4] at h3
                  refine ⟨p, xs, z, j, rfl, rfl, e1, by rw [e3.length]; exact q4, h3 σ _ O (rs2.turn q1 hp (keep_upd (by simp)) ?_) (.of (keep_upd hO))⟩
                  exact ⟨xs.set j v1, upd_same, by rw [List.length_set]; exact e2, RpA.set ((r1.keep k2.keep).keep (keep_upd hO)) j (e3.keep (keep_upd hO))⟩
              | _ => exact h2.elim
            | _ => exact h2.elim
      | _ => exact h1.elim
end
end EL

set_option maxHeartbeats 2000000
namespace EL
open PySem PySem.Spec PyProof.Rows L2
variable [Wsh] [Tbx]

/-! ### a def by its body's meaning -/
def startE (n : Nat) (ds : List PyData) : En := ds.map Sl.sh ++ List.replicate (n - ds.length) .no
def runM (body : Sn) (n : Nat) (ds : List PyData) : Res PyData := match body (startE n ds) with
  | .ok (.rt d, _) => .ok d
  | .ok (.nx, _) => .ok .none
  | .exc c fs => .exc c fs
  | _ => .bad
def startP (n : Nat) (pd : PyData) (ds : List PyData) : En := .ow pd :: (ds.map Sl.sh ++ List.replicate (n - (ds.length + 1)) .no)
def endP (en : En) (d : PyData) : Res (PyData × PyData) := match (en[(0 : Nat)]? : Option Sl) with
  | some (Sl.ow pd) => .ok (d, pd)
  | _ => .bad
def runP (body : Sn) (n : Nat) (pd : PyData) (ds : List PyData) : Res (PyData × PyData) := match body (startP n pd ds) with
  | .ok (.rt d, en) => endP en d
  | .ok (.nx, en) => endP en .none
  | .exc c fs => .exc c fs
  | _ => .bad
theorem rs_start {K : PySem.W.Frag} {O : List Addr} {H : Hp} {N : List Str} {vs : List V} {ds : List PyData} (ra : RpA K O H vs ds) (lv : ∀ a ∈ O, H a ≠ none) (hl : vs.length ≤ N.length) : RS ⟨K, H, [], O⟩ O H (L2.start N vs) (startE N.length ds) where
  len := by
    unfold L2.start startE
    simp only [List.length_append, List.length_map, List.length_replicate]
    rw [ra.length]
  keep := .refl _
  pin := fun a ha => by cases ha
  sub := fun a ha => ha
  live := lv
  sh := fun i d q => by
    unfold startE at q
    unfold L2.start
    by_cases hi : i < ds.length
    · rw [List.getElem?_append_left (by simpa using hi), List.getElem?_map] at q
      cases e : ds[i]? with
      | none => rw [e] at q; cases q
      | some x =>
        rw [e] at q
        cases q
        obtain ⟨v, h1, h2⟩ := ra.getD e
        exact ⟨v, by rw [List.getElem?_append_left (by rw [List.length_map, ra.length]; exact hi), List.getElem?_map, h1]; rfl, h2⟩
    · rw [List.getElem?_append_right (by simpa using hi)] at q
      have := List.mem_of_getElem? q
      rw [List.mem_replicate] at this
      cases this.2
  ow := fun i d q => by
    have hm := List.mem_of_getElem? q
    unfold startE at hm
    rcases List.mem_append.mp hm with h | h
    · obtain ⟨x, _, e⟩ := List.mem_map.mp h
      cases e
    · rw [List.mem_replicate] at h
      cases h.2
  dist := fun i j d e a q1 => by
    have hm := List.mem_of_getElem? q1
    unfold startE at hm
    rcases List.mem_append.mp hm with h | h
    · obtain ⟨x, _, e⟩ := List.mem_map.mp h
      cases e
    · rw [List.mem_replicate] at h
      cases h.2
theorem rs_startP {K : PySem.W.Frag} {O : List Addr} {H : Hp} {N : List Str} {p : Addr} {pd : PyData} {vs : List V} {ds : List PyData} (hp : p ∈ O) (ho : OwS K O H p pd) (ra : RpA K O H vs ds) (lv : ∀ a ∈ O, H a ≠ none) : RS ⟨K, H, [p], O⟩ O H (L2.start N (.ref p :: vs)) (startP N.length pd ds) where
  len := by
    unfold L2.start startP
    simp only [List.length_append, List.length_map, List.length_replicate, List.length_cons]
    rw [ra.length]
    omega
  keep := .refl _
  pin := fun a ha => by
    have e : a = p := by simpa using ha
    rw [e]; exact hp
  sub := fun a ha => ha
  live := lv
  sh := fun i d q => by
    unfold startP at q
    unfold L2.start
    cases i with
    | zero => cases q
    | succ i =>
      rw [List.getElem?_cons_succ] at q
      rw [List.map_cons, List.cons_append, List.getElem?_cons_succ]
      by_cases hi : i < ds.length
      · rw [List.getElem?_append_left (by simpa using hi), List.getElem?_map] at q
        cases e : ds[i]? with
        | none => rw [e] at q; cases q
        | some x =>
          rw [e] at q
          cases q
          obtain ⟨v, h1, h2⟩ := ra.getD e
          exact ⟨v, by rw [List.getElem?_append_left (by rw [List.length_map, ra.length]; exact hi), List.getElem?_map, h1]; rfl, h2⟩
      · rw [List.getElem?_append_right (by simpa using hi)] at q
        have := List.mem_of_getElem? q
        rw [List.mem_replicate] at this
        cases this.2
  ow := fun i d q => by
    unfold startP at q
    cases i with
    | zero =>
      cases q
      exact ⟨p, rfl, ho, hp, .inl ⟨by simp, rfl⟩⟩
    | succ i =>
      rw [List.getElem?_cons_succ] at q
      have hm := List.mem_of_getElem? q
      rcases List.mem_append.mp hm with h | h
      · obtain ⟨x, _, e⟩ := List.mem_map.mp h
        cases e
      · rw [List.mem_replicate] at h
        cases h.2
  dist := fun i j d e a q1 q2 => by
    have z : ∀ (m : Nat) (f : PyData), (startP N.length pd ds)[m]? = some (Sl.ow f) → m = 0 := fun m f q => by
      unfold startP at q
      cases m with
      | zero => rfl
      | succ m =>
        rw [List.getElem?_cons_succ] at q
        have hm := List.mem_of_getElem? q
        rcases List.mem_append.mp hm with h | h
        · obtain ⟨x, _, e⟩ := List.mem_map.mp h
          cases e
        · rw [List.mem_replicate] at h
          cases h.2
    intro _ _
    rw [z i d q1, z j e q2]
/-- what a body's meaning gives for the promise -/
theorem body_M {K : PySem.W.Frag} {O : List Addr} {H : Hp} {n : Nat} {ds : List PyData} {body : Sn} {Q : VK} (h : PoV K O H (runM body n ds) Q) : PoS ⟨K, H, [], O⟩ O H (body (startE n ds)) { nx := fun _ H' => Q .non H', rt := Q } := by
  unfold runM at h
  cases q : body (startE n ds) with
  | exc _ _ => rw [q] at h; exact (show False from h).elim
  | bad => rw [q] at h; exact h
  | ok p =>
    obtain ⟨fl, en'⟩ := p
    rw [q] at h
    cases fl with
    | nx => exact fun σ' H' O' rs st => h .non H' (fun a x e => rs.keep a x (by simp) e) .non
    | rt d => exact fun v σ' H' O' rs st rp => h v H' (fun a x e => rs.keep a x (by simp) e) (rp.less rs.sub)
    | bk => exact h.elim
    | ct => exact h.elim
theorem body_P {K : PySem.W.Frag} {O : List Addr} {H : Hp} {n : Nat} {p : Addr} {pd : PyData} {ds : List PyData} {body : Sn} {Q : VK} (h : match runP body n pd ds with
      | .ok (d, pd') => ∀ v H', Keep [p] H H' → OwS K O H' p pd' → Rp K O H' v d → Q v H'
      | _ => False) : PoS ⟨K, H, [p], O⟩ O H (body (startP n pd ds)) { nx := fun _ H' => Q .non H', rt := Q } := by
  have own : ∀ (O' : List Addr) (H' : Hp) (σ' : L2.St) (en' : En) (d : PyData), RS ⟨K, H, [p], O⟩ O' H' σ' en' → en'[0]? = some (Sl.ow d) → OwS K O H' p d := fun O' H' σ' en' d rs e => by
    obtain ⟨a, _, h2, _, h4⟩ := rs.ow 0 d e
    rcases h4 with ⟨h4, _⟩ | ⟨_, _, h4⟩
    · have e : a = p := by simpa using h4
      subst e
      exact h2.less rs.sub
    · exact absurd rfl h4
  unfold runP at h
  cases q : body (startP n pd ds) with
  | exc _ _ => rw [q] at h; exact (show False from h).elim
  | bad => rw [q] at h; exact h
  | ok r =>
    obtain ⟨fl, en'⟩ := r
    rw [q] at h
    cases fl with
    | bk => exact h.elim
    | ct => exact h.elim
    | nx =>
      have h' : (match endP en' .none with
        | .ok (d, pd') => ∀ v H', Keep [p] H H' → OwS K O H' p pd' → Rp K O H' v d → Q v H'
        | _ => False) := h
      unfold endP at h'
      intro σ' H' O' rs st
      cases q0 : en'[0]? with
      | none => rw [q0] at h'; exact h'.elim
      | some s =>
        rw [q0] at h'
        cases s with
        | no => exact h'.elim
        | sh _ => exact h'.elim
        | ow d' => exact h' .non H' rs.keep (own O' H' σ' en' d' rs q0) .non
    | rt d =>
      have h' : (match endP en' d with
        | .ok (d, pd') => ∀ v H', Keep [p] H H' → OwS K O H' p pd' → Rp K O H' v d → Q v H'
        | _ => False) := h
      unfold endP at h'
      intro v σ' H' O' rs st rp
      cases q0 : en'[0]? with
      | none => rw [q0] at h'; exact h'.elim
      | some s =>
        rw [q0] at h'
        cases s with
        | no => exact h'.elim
        | sh _ => exact h'.elim
        | ow d' => exact h' v H' rs.keep (own O' H' σ' en' d' rs q0) (rp.less rs.sub)

section
variable {P : Program} {w : World} {K : PySem.W.Frag} {mg : Str → Option Value} {base : Heap}
theorem fn_pure {x qual : Str} {st : Stmt} {f : Addr} {fd : FuncData} {N ps : List Str} {k : Nat} {body : Sn} (F : Fun K x qual st f fd) (S : FnScope N ps (defScope st))
    (hb : ∀ (cdv : Value) (A : Around) (outer : List Env) (s : Shared) (H : Hp) (E : XK), Room k (A.deeper (envOfC qual (defScope st) s.heap.objs.size f cdv)) → DSs (cxOf CX0 P w K mg base N qual (defScope st) f cdv A outer s H E).nox (defBody st) body)
    : FnOk P w K mg base CX0 (k + 1) f fd ps (spM (runM body N.length) ps.length K) := by
  refine F.ok S (fun vs H Q E h => h.1) (fun cdv A outer s H vs Q E hr h => ?_)
  obtain ⟨hl, ds, O, ra, lv, hv⟩ := h
  obtain ⟨t, p, ev⟩ := hb cdv A outer s H E hr
  have hpl : ps.length ≤ N.length := by have := congrArg List.length S.pre; rw [List.length_take] at this; omega
  exact ⟨t, p, ev ⟨K, H, [], O⟩ O H (L2.start N vs) (startE N.length ds) _ rfl (rs_start ra lv (by omega)) (body_M hv)⟩
theorem fn_pen {x qual : Str} {st : Stmt} {f : Addr} {fd : FuncData} {N ps : List Str} {k : Nat} {body : Sn} (F : Fun K x qual st f fd) (S : FnScope N ps (defScope st))
    (hb : ∀ (cdv : Value) (A : Around) (outer : List Env) (s : Shared) (H : Hp) (E : XK), Room k (A.deeper (envOfC qual (defScope st) s.heap.objs.size f cdv)) → DSs (cxOf CX0 P w K mg base N qual (defScope st) f cdv A outer s H E).nox (defBody st) body)
    : FnOk P w K mg base CX0 (k + 1) f fd ps (spP (runP body N.length) ps.length K) := by
  refine F.ok S (fun vs H Q E h => h.1) (fun cdv A outer s H vs Q E hr h => ?_)
  obtain ⟨hl, p, vs', pd, ds, O, rfl, hp, ho, ra, lv, hv⟩ := h
  obtain ⟨t, pp, ev⟩ := hb cdv A outer s H E hr
  exact ⟨t, pp, ev ⟨K, H, [p], O⟩ O H (L2.start N (.ref p :: vs')) (startP N.length pd ds) _ rfl (rs_startP hp ho ra lv) (body_P hv)⟩
end
end EL

set_option maxHeartbeats 2000000
namespace EL
open PySem PySem.Spec PyProof.Rows L2
variable [Wsh] [Tbx]

/-! ### promises of defs that run where no repr runs -/
structure FnG (P : Program) (w : World) (K : PySem.W.Frag) (mg : Str → Option Value) (base : Heap) (k : Nat) (f : Addr) (fd : FuncData) (ps : List Str) (sp : Sp) : Prop where
  len : ∀ vs H Q E, sp vs H Q E → vs.length = ps.length
  run : ∀ (A : Around) (outer : List Env) (s : Shared) (H : Hp) (args : Args) (us : List Value) (vs : List V) (Q : VK) (E : XK), A.guards = some [] → Room k A → Env0 P w K mg base A outer s H →
    BindsTo s fd args (ps.zip us) → Vals vs us → sp vs H Q E → codeAny (model P w) A (.call (.ref f) args) (CR CX0 outer P w H s Q E) s
section
variable {P : Program} {w : World} {K : PySem.W.Frag} {mg : Str → Option Value} {base : Heap}
theorem FnG.of {k : Nat} {f : Addr} {fd : FuncData} {ps : List Str} {sp : Sp} (F : FnOk P w K mg base CX0 k f fd ps sp) : FnG P w K mg base k f fd ps sp := ⟨F.len, fun A outer s H args us vs Q E _ => F.run A outer s H args us vs Q E⟩
theorem fn_body {x qual : Str} {st : Stmt} {f : Addr} {fd : FuncData} {N ps : List Str} {k : Nat} {sp : Sp} (F : Fun K x qual st f fd) (S : FnScope N ps (defScope st)) (hlen : ∀ vs H Q E, sp vs H Q E → vs.length = ps.length)
    (hb : ∀ (cdv : Value) (A : Around) (outer : List Env) (s : Shared) (H : Hp) (vs : List V) (Q : VK) (E : XK), A.guards = some [] → Room k (A.deeper (envOfC qual (defScope st) s.heap.objs.size f cdv)) → sp vs H Q E →
      ∃ t, PSs (cxOf CX0 P w K mg base N qual (defScope st) f cdv A outer s H E).nox (defBody st) t ∧ t { nx := fun _ H' => Q .non H', rt := Q } (L2.start N vs) H) : FnG P w K mg base (k + 1) f fd ps sp := by
  obtain ⟨oc, od, kV, doc, pm, an, cdv, ct, osl, hfd, hlk, hcode⟩ := F.ex
  subst hfd
  refine ⟨hlen, ?_⟩
  intro A outer s H args us vs Q E hgd hroom env0 hbind rvals hq
  have nlen := hlen _ _ _ _ hq
  have inK : K.In s.heap := env0.mod.kin.keeps (fun b o e => (env0.bs b o e).1)
  have noLim : s.heap.NoLimit := env0.mod.nolimit.keeps (fun b o e => (env0.bs b o e).1)
  have kinds : ∀ y ∈ ps.zip us, (defScope st).names.lookup y.1 = some .local ∨ ((defScope st).names.lookup y.1 = some .cell ∧
      ((cellsFrom (s.heap.objs.size + 1) (defScope st).names []).lookup y.1).isSome = true) := by
    rintro ⟨nm, vl⟩ hy
    rcases S.par nm (List.of_mem_zip hy).1 with hk | hk
    · exact Or.inl hk
    · exact Or.inr ⟨hk, PySem.W.cellsFrom_some _ _ _ (Or.inl hk)⟩
  refine codeAny_call_function hroom.depth (inK _ _ hlk) rfl S.co S.gen rfl (PySem.W.codeRec_of inK hcode) (hbind _ _ _ _ ?_)
  refine wpAny_newFunctionEnv_cells S.kind kinds ?_
  intro env henv s1 made
  subst henv
  refine ⟨noLim.keeps made.toInCall.keep, codeAny_func ?_⟩
  obtain ⟨t, pt, ht⟩ := hb cdv A outer s H vs Q E hgd (hroom.deeper _) hq
  have inv0 : Inv (cxOf CX0 P w K mg base N qual (defScope st) f cdv A outer s H E) [] (L2.start N vs) H s1 := inv_start S hroom.hd env0 nlen rvals made
  refine wpAny_mono (pt.nox.run [] s1 (L2.start N vs) H _ inv0 ht) ?_ (fun _ _ z => z)
  intro fl s' post
  cases fl with
  | ret u =>
    obtain ⟨v, σ', H', J, rv, q⟩ := post
    exact ⟨v, H', J.os, J.bare, J.base, J.hok, rv, q⟩
  | next =>
    obtain ⟨σ', H', J, q⟩ := post
    exact ⟨V.non, H', J.os, J.bare, J.base, J.hok, rfl, q⟩
  | brk => obtain ⟨_, _, _, z⟩ := post; exact z.elim
  | cont => obtain ⟨_, _, _, z⟩ := post; exact z.elim
theorem fn_pureG {x qual : Str} {st : Stmt} {f : Addr} {fd : FuncData} {N ps : List Str} {k : Nat} {body : Sn} (F : Fun K x qual st f fd) (S : FnScope N ps (defScope st))
    (hb : ∀ (cdv : Value) (A : Around) (outer : List Env) (s : Shared) (H : Hp) (E : XK), A.guards = some [] → Room k (A.deeper (envOfC qual (defScope st) s.heap.objs.size f cdv)) → DSs (cxOf CX0 P w K mg base N qual (defScope st) f cdv A outer s H E).nox (defBody st) body)
    : FnG P w K mg base (k + 1) f fd ps (spM (runM body N.length) ps.length K) := by
  refine fn_body F S (fun vs H Q E h => h.1) (fun cdv A outer s H vs Q E hg hr h => ?_)
  obtain ⟨hl, ds, O, ra, lv, hv⟩ := h
  obtain ⟨t, p, ev⟩ := hb cdv A outer s H E hg hr
  have hpl : ps.length ≤ N.length := by have := congrArg List.length S.pre; rw [List.length_take] at this; omega
  exact ⟨t, p, ev ⟨K, H, [], O⟩ O H (L2.start N vs) (startE N.length ds) _ rfl (rs_start ra lv (by omega)) (body_M hv)⟩
end
section
variable {X : Cx} {pos : Pos} {a b e : Expr} {es : List Expr} {k : Nat} {f : Addr} {fd : FuncData} {ps : List Str} {sp : Sp} {x : Str} {p : Pos} {t : TA}
theorem FnG.call {pins : List (Addr × Obj)} {σ : L2.St} {H : Hp} {s : Shared} {Q : VK} {us : List Value} {vs : List V} {E : XK} (F : FnG X.prog X.w X.K X.mg X.base k f fd ps sp) (hgd : X.A.guards = some []) (hr : Room k X.A) (hb : Binds X.K fd ps []) (I : Inv X pins σ H s) (r : Vals vs us) (h : sp vs H Q E) :
    wpAny (model X.prog X.w) X.A (call (.ref f) us) (EP X pins σ Q) X.xe s := by
  have hl : (us ++ []).length = ps.length := by rw [List.append_nil, ← r.length]; exact F.len _ _ _ _ h
  have hbd := hb s us I.kIn hl
  rw [List.append_nil] at hbd
  refine wpAny_call (codeAny_mono (F.run X.A X.stack s H ⟨us, []⟩ us vs Q E hgd hr I.env0 hbd r h) ?_)
  intro res s' post
  cases res with
  | error er => exact (show False from post).elim
  | ok fl =>
    cases fl with
    | ret u => exact I.after post
    | next => exact (show False from post).elim
    | brk => exact (show False from post).elim
    | cont => exact (show False from post).elim
theorem pe_callG {E : XK} (F : FnG X.prog X.w X.K X.mg X.base k f fd ps sp) (hgd : X.A.guards = some []) (hr : Room k X.A) (hg : Gl X x) (hm : X.mg x = some (.ref f)) (hk : PySem.W.keepIn X.K (.ref f) = true) (hb : Binds X.K fd ps [])
    (ha : PA X (e :: es) t) (hdb : (x == ("__debug__" : Str)) = false) (he : starEach (e :: es) X.env = (false, eval e X.env) :: starEach es X.env) (hpl : (backTo pos (starEach es X.env)).any (·.1) = false) :
    PE X (.Call (.Name x p) (e :: es) [] pos) (tCall sp [] E t) := by
  constructor
  intro pins s σ H Q I h
  refine wpAny_Call_Name_kw (ld_glob I hg hm ?_ hdb)
  refine PySem.W.callWith_K (h₀ := X.base) I.ok.mod.kin hk (thn (ha.run pos pins s σ H _ I h) ?_) he hpl
  rintro us s1 ⟨vs, H1, I1, r, q⟩
  rw [List.append_nil] at q
  exact ⟨I1.kIn, F.call hgd hr hb I1 r q⟩
theorem de_callG {m : List PyData → Res PyData} {n : Nat} {g : An} (F : FnG X.prog X.w X.K X.mg X.base k f fd ps (spM m n X.K)) (hgd : X.A.guards = some []) (hr : Room k X.A) (hg : Gl X x) (hm : X.mg x = some (.ref f)) (hk : PySem.W.keepIn X.K (.ref f) = true) (hb : Binds X.K fd ps [])
    (ha : DA X (e :: es) g) (hs : starEach (e :: es) X.env = (false, eval e X.env) :: starEach es X.env := by rfl) (hpl : (backTo pos (starEach es X.env)).any (·.1) = false := by rfl) (hd : (x == ("__debug__" : Str)) = false := by decide) :
    DE X (.Call (.Name x p) (e :: es) [] pos) (dApp (gN n m) g) := by
  obtain ⟨t, pa, ev⟩ := ha
  exact ⟨_, pe_callG (E := E0) F hgd hr hg hm hk hb pa hd hs hpl, ev_call ev⟩
end
end EL

set_option maxHeartbeats 2000000
namespace EL
open PySem PySem.Spec PyProof.Rows L2
variable [Wsh] [Tbx]

/-! ### enumerate(tuple) -/
theorem enumT_new (l : Addr) (items : Array Value) (n : Nat) (dct : Option Addr) (sl : Array (Option Value)) :
    Meets (Builtin.«enumerate.__new__» ⟨[.type "enumerate", .ref l], []⟩) (fun _ R s => s.heap.get? l = some { cls := .type "tuple", dict := dct, data := .seq items n, slots := sl } ∧
      R (.ok (.ret (.ref (s.heap.push { cls := .type "tuple_iterator", data := .fields #[.ref l, .int 0 0] }).objs.size)))
        { s with heap := (s.heap.push { cls := .type "tuple_iterator", data := .fields #[.ref l, .int 0 0] }).push { cls := .type "enumerate", data := .fields #[.none, .bool false, .ref s.heap.objs.size, rawInt 0, .none, .none] } }) :=
  .of_wp fun prog w A R s h => by
    obtain ⟨hp, gn, dr, tk, os⟩ := s
    obtain ⟨hl, h⟩ := h
    have hsub := PySem.sub_enumerate
    have hT : Heap.IsTuple (Shared.heap ⟨hp, gn, dr, tk, os⟩) l items := ⟨_, hl, rfl, n, rfl⟩
    wp_walk using PySem.AutoSeq1.wpAny_loadPart' hl
    refine wpAny_stack_any fun st => wpAny_pure ?_
    split
    · rename_i cl _ _ _ _ _
      cases (cl == Value.type "enumerate") <;>
        (wp_walk using PySem.AutoSeq1.wpAny_loadPart' hl, wpAny_pyIter_tuple hT; exact ⟨_, rfl, h⟩)
    · wp_walk using PySem.AutoSeq1.wpAny_loadPart' hl, wpAny_pyIter_tuple hT
      exact ⟨_, rfl, h⟩

section
variable {prog : Program} {w : World} {A : Around} {E : Value → Shared → Prop} {s : Shared}
theorem enumT_call {l : Addr} {items : Array Value} {Q : Value → Shared → Prop} (hL : s.heap.IsTuple l items)
    (h : ∀ h', IsEnum h' (s.heap.objs.size + 1) s.heap.objs.size 0 .none → h'.IsTupleIter s.heap.objs.size l 0 → h'.objs.size = s.heap.objs.size + 2 →
      (∀ b o, s.heap.get? b = some o → h'.get? b = some o) → Q (.ref (s.heap.objs.size + 1)) { s with heap := h' }) : wpAny (model prog w) A (call (.type "enumerate") [.ref l]) Q E s := by
  obtain ⟨⟨oc, od, dt, sl⟩, hl, e1, n, e2⟩ := hL
  simp only at e1 e2
  subst e1 e2
  refine callType_new F.called_enumerate (by decide) (F.typeCall_enumerate_1 _) (F.newCall_enumerate_1 _) (fun obj => F.args_object_init_2 obj _) F.entry_enumerate_new (enumT_new l items n od sl) ⟨hl, ?_⟩
  have sz : (s.heap.push { cls := .type "tuple_iterator", data := .fields #[.ref l, .int 0 0] }).objs.size = s.heap.objs.size + 1 := Heap.size_push ..
  show _ ∧ _
  rw [sz]
  have made : IsEnum ((s.heap.push { cls := .type "tuple_iterator", data := .fields #[.ref l, .int 0 0] }).push { cls := .type "enumerate", data := .fields #[.none, .bool false, .ref s.heap.objs.size, rawInt 0, .none, .none] }) (s.heap.objs.size + 1) s.heap.objs.size 0 .none := by
    have z := Heap.get?_push_size (s.heap.push { cls := .type "tuple_iterator", data := .fields #[.ref l, .int 0 0] }) (o := { cls := .type "enumerate", data := .fields #[.none, .bool false, .ref s.heap.objs.size, rawInt 0, .none, .none] }) rfl
    rw [sz] at z
    exact z
  exact ⟨⟨_, made, rfl⟩, h _ made ⟨_, Heap.get?_push_of_some _ (Heap.get?_push_size _ rfl), rfl, rfl⟩ (by rw [Heap.size_push, sz]) fun b o q => Heap.get?_push_of_some _ (Heap.get?_push_of_some _ q)⟩
end
/-- the tuple at a, each item in a new pair -/
def ItE (K : PySem.W.Frag) (a : Addr) : It :=
  ⟨fun i H => ∃ (xs : List V) (x : V), SqT K H a xs ∧ xs[i]? = some x, fun i H v H' => ∃ T x, v = .ref T ∧ H T = none ∧ H' = upd H T (.tup [.int (i : Nat), x]) ∧ ∀ xs, SqT K H a xs → xs[i]? = some x, fun i H => ∃ xs : List V, SqT K H a xs ∧ xs.length = i⟩
theorem turn_enumT {P : Program} {w : World} {K : PySem.W.Frag} {elts : List Expr} {kk : Nat} {tpos : Pos} (a e it : Addr) : Turn P w K (.Tuple elts kk tpos) (ItE K a) [e, it] e (fun i h => (∃ old, IsEnum h e it ((i : Nat) : Int) old) ∧ h.IsTupleIter it a i ∧ e ≠ it) where
  mem := by simp
  obj := fun i h st b hb => by
    obtain ⟨⟨old, he⟩, ⟨o, ho, _, hd⟩, _⟩ := st
    rcases (show b = e ∨ b = it by simpa using hb) with rfl | rfl
    · exact ⟨_, he, fun v q => nomatch q⟩
    · exact ⟨o, ho, fun v q => by rw [hd] at q; cases q⟩
  keep := fun i h h' st k => let ⟨⟨old, he⟩, hi, hne⟩ := st; ⟨⟨old, k e (by simp) _ he⟩, hi.at (fun o q => k it (by simp) o q), hne⟩
  item := by
    intro X hP hw hK hc i pins s σ H E I hf st hg
    subst hP hw hK
    obtain ⟨⟨old, he⟩, hit, hne⟩ := st
    obtain ⟨xs, x, hq, hx⟩ := hg
    obtain ⟨its, rv, tp, hz⟩ := I.tuple hq
    obtain ⟨u, hu, ru⟩ := rv.get hx
    have hel : e < s.heap.objs.size := Heap.lt_size he
    have hil : it < s.heap.objs.size := by obtain ⟨_, q, _⟩ := hit; exact Heap.lt_size q
    have tp' : s.heap.IsTuple a its.toArray := tp
    have nea : a ≠ it := fun z => by
      obtain ⟨o, ho, hco, _⟩ := hit
      obtain ⟨o2, ho2, hc2, _⟩ := tp'
      rw [z, ho] at ho2
      cases ho2
      rw [hco] at hc2
      exact absurd (Value.type.inj hc2) (by decide)
    have nee : e ≠ a := fun z => by
      obtain ⟨o2, ho2, hc2, _⟩ := tp'
      rw [← z] at ho2
      have he' : s.heap.get? e = some _ := he
      rw [he'] at ho2
      cases ho2
      exact absurd (Value.type.inj hc2) (by decide)
    have hlt : i < its.toArray.size := by
      have := (List.getElem?_eq_some_iff.mp hu).1
      simpa using this
    refine wpAny_pyNext_enum_itemD (Draws.tuple (prog := X.prog) (w := X.w) (A := X.A.in1) (I.ok.hd hc) it a nea its.toArray) he ⟨hit, tp'⟩ hlt hne (by simp [hne, nee]) fun y h' tk hy ho hst hT hsz hk => ?_
    have ey : y = u := by
      rw [List.getElem?_toArray, hu] at hy
      exact (Option.some.inj hy).symm
    subst ey
    refine ⟨_, rfl, wpAny_letOwnedTupleGo_enum (s := { s with heap := h', toks := tk + 1 }) ho fun h'' he' sb => ?_⟩
    have hT2 : h''.get? s.heap.objs.size = some { cls := .type "tuple", data := .seq #[.int i tk, y] } := (sb.2 _ (Nat.ne_of_gt hel)).trans hT
    have new : ObjOk X.prog X.w (upd H s.heap.objs.size (.tup [.int (i : Nat), x])) h'' s.heap.objs.size (.tup [.int (i : Nat), x]) :=
      ⟨by show 2 ≤ sizeLine; decide, [.int i tk, y], .cons ⟨_, rfl⟩ (.cons ru .nil), ⟨_, hT2, rfl, _, rfl⟩⟩
    have I1 : Inv X pins σ (upd H s.heap.objs.size (.tup [.int (i : Nat), x])) { s with heap := h'', toks := tk + 1 } :=
      I.turnedNew (ch := [e, it]) (fun b ob hb q => (sb.2 b (fun z => hb (by simp [z]))).trans (hk b ob (fun z => hb (by simp [z])) (fun z => hb (by simp [z])) q)) hf (Nat.le_refl _) new
    refine ⟨.ref s.heap.objs.size, _, I1, rfl, ⟨_, x, rfl, I.hok.fresh (Nat.le_refl _), rfl, fun ys hy => by rw [I.tuple_inj hy hq]; exact hx⟩, ⟨⟨y, ?_⟩, hst.1.at (fun o q => (sb.2 it (Ne.symm hne)).trans q), hne⟩, fun b hb => ?_⟩
    · rw [show ((i + 1 : Nat) : Int) = (i : Int) + 1 by omega]; exact he'
    · have hb' : b < s.heap.objs.size := by
        rcases (show b = e ∨ b = it by simpa using hb) with rfl | rfl
        · exact hel
        · exact hil
      rw [upd_ne (Nat.ne_of_lt hb')]
      exact (hf b hb).1
  done := by
    intro X hP hw hK hc i pins s σ H E I hf st hg
    subst hP hw hK
    obtain ⟨⟨old, he⟩, hit, hne⟩ := st
    obtain ⟨xs, hq, hx⟩ := hg
    obtain ⟨its, rv, tp, hz⟩ := I.tuple hq
    have tp' : s.heap.IsTuple a its.toArray := tp
    obtain ⟨f0, f1, f2, f3, f4, f5⟩ := hf it (by simp)
    have nea : a ≠ it := fun z => by
      obtain ⟨o, ho, hco, _⟩ := hit
      obtain ⟨o2, ho2, hc2, _⟩ := tp'
      rw [z, ho] at ho2
      cases ho2
      rw [hco] at hc2
      exact absurd (Value.type.inj hc2) (by decide)
    have hl := rv.length
    have hs : i = its.toArray.size := by rw [List.size_toArray]; omega
    refine wpAny_pyNext_enum_endD (Draws.tuple (prog := X.prog) (w := X.w) (A := X.A.in1) (I.ok.hd hc) it a nea its.toArray) he ⟨?_, tp'⟩ fun h' eb => ⟨rfl, I.turned (t' := s.toks) (fun b o hb q => eb b o hb q) f0 f1 f3 f4 f5⟩
    rw [← hs]; exact hit
  self := fun A i s Q E st h => let ⟨⟨_, he⟩, _⟩ := st; wpAny_pyIter_enum he h

/-! ### enumerate, zip as data -/
def enumD : Nat → List PyData → List PyData
  | _, [] => []
  | k, d :: ds => .tuple [.int (k : Nat), d] :: enumD (k + 1) ds
theorem enumD_len : ∀ (ds : List PyData) (k : Nat), (enumD k ds).length = ds.length
  | [], _ => rfl
  | _ :: ds, k => by simp only [enumD, List.length_cons, enumD_len ds (k + 1)]
theorem enumD_get : ∀ (ds : List PyData) (k i : Nat), (enumD k ds)[i]? = (ds[i]?).map fun d => .tuple [.int ((k + i : Nat) : Int), d]
  | [], _, _ => by simp [enumD]
  | d :: ds, k, 0 => by simp [enumD]
  | d :: ds, k, i + 1 => by
    simp only [enumD, List.getElem?_cons_succ]
    rw [enumD_get ds (k + 1) i]
    congr 1
    funext d
    rw [show k + 1 + i = k + (i + 1) by omega]
def gEnum : List PyData → Res (List PyData)
  | [.list ds] => .ok (enumD 0 ds)
  | [.tuple ds] => .ok (enumD 0 ds)
  | _ => .bad
section
variable {X : Cx} {pos tpos : Pos} {a b e : Expr} {es elts : List Expr} {kk : Nat}
theorem ita_of {K : PySem.W.Frag} {f : An} {g : List PyData → Res (List PyData)} {t : TA} {B : (It → Hp → Prop) → List V → Hp → Prop} (ev : EvA K t f)
    (h : ∀ (R : It → Hp → Prop) (vs : List V) (H1 : Hp) (O : List Addr) (ds rs : List PyData), g ds = .ok rs → RpA K O H1 vs ds → (∀ a ∈ O, H1 a ≠ none) → (rs.length ≤ sizeLine → ∀ J, ItD K O H1 J rs → R J H1) → B R vs H1) : EvI K (fun σ H R => t σ H fun vs H1 => B R vs H1) (iRange g f) := by
  intro c O H σ en R hK rs hp
  refine ev c O H σ en _ hK rs ?_
  unfold iRange bnd at hp
  generalize hr : f en = r at hp
  cases r with
  | exc _ _ => exact hp
  | bad => exact hp
  | ok q =>
    obtain ⟨ds, en1⟩ := q
    have hp' : (match (lft (g ds) en1 : Res (List PyData × En)) with
      | .ok (ds, en') => ∀ J H', RS c O H' σ en' → Go σ O H en H' en' → ds.length ≤ sizeLine → ItD K O H' J ds → R J H'
      | .exc cn fds => wishX c cn fds
      | .bad => False) := hp
    intro vs H1 rs1 go1 ra
    cases q2 : g ds with
    | exc _ _ => rw [q2] at hp'; exact hp'.elim
    | bad => rw [q2] at hp'; exact hp'.elim
    | ok rs' =>
      rw [q2] at hp'
      rw [hK] at ra
      exact h R vs H1 O ds rs' q2 ra rs1.live fun hz J it => hp' J H1 rs1 go1 hz it
theorem it_enumL {K : PySem.W.Frag} {O : List Addr} {H : Hp} {a : Addr} {xs : List V} {ds : List PyData} (h : H a = some (.lst xs)) (n : a ∉ O) (r : RpA K O H xs ds) : ItD K O H (Ite K a) (enumD 0 ds) := by
  intro i O' H1 s l
  have q : SqL K H1 a xs := .inl (.inl (stp_out s n h).2)
  refine ⟨fun d hd => ?_, fun hi => ⟨xs, q, by rw [r.length, hi, enumD_len]; exact Nat.le_refl _⟩⟩
  rw [enumD_get, Option.map_eq_some_iff] at hd
  obtain ⟨d0, hd0, rfl⟩ := hd
  obtain ⟨v, h1, h2⟩ := r.getD hd0
  refine ⟨⟨xs, v, q, h1⟩, fun x H' y => ?_⟩
  obtain ⟨T, x1, rfl, hT, rfl, y⟩ := y
  have := y xs q
  rw [h1] at this
  cases this
  refine ⟨same_new hT, Rp.newT l hT (by show 2 ≤ sizeLine; decide) (.cons ?_ (.cons (h2.stp s) .nil))⟩
  rw [Nat.zero_add]
  exact .int _
theorem it_enumT {K : PySem.W.Frag} {O : List Addr} {H : Hp} {a : Addr} {xs : List V} {ds : List PyData} (h : ∀ O' H', Stp O H O' H' → SqT K H' a xs) (r : RpA K O H xs ds) : ItD K O H (ItE K a) (enumD 0 ds) := by
  intro i O' H1 s l
  have q : SqT K H1 a xs := h O' H1 s
  refine ⟨fun d hd => ?_, fun hi => ⟨xs, q, by rw [r.length, hi, enumD_len]⟩⟩
  rw [enumD_get, Option.map_eq_some_iff] at hd
  obtain ⟨d0, hd0, rfl⟩ := hd
  obtain ⟨v, h1, h2⟩ := r.getD hd0
  refine ⟨⟨xs, v, q, h1⟩, fun x H' y => ?_⟩
  obtain ⟨T, x1, rfl, hT, rfl, y⟩ := y
  have := y xs q
  rw [h1] at this
  cases this
  refine ⟨same_new hT, Rp.newT l hT (by show 2 ≤ sizeLine; decide) (.cons ?_ (.cons (h2.stp s) .nil))⟩
  rw [Nat.zero_add]
  exact .int _
theorem di_enum {p : Pos} {f : An} (hg : Gl X "enumerate") (hm : X.mg "enumerate" = none) (ha : DA X [e] f) (hs : starEach [e] X.env = [(false, eval e X.env)] := by rfl) : DI X (.Tuple elts kk tpos) (.Call (.Name "enumerate" p) [e] [] pos) (iRange gEnum f) := by
  obtain ⟨t, pa, ev⟩ := ha
  have pi : PI X (.Tuple elts kk tpos) (.Call (.Name "enumerate" p) [e] [] pos) (fun σ H R => t σ H fun vs H1 => (∃ a xs, vs = [V.ref a] ∧ SqL X.K H1 a xs ∧ R (Ite X.K a) H1) ∨ ∃ a xs, vs = [V.ref a] ∧ SqT X.K H1 a xs ∧ R (ItE X.K a) H1) := by
    constructor
    intro pins s σ H R I h
    refine Call_ (ld_blt I hg hm boot_enumerate (PyProof.Rows.callWith_type1 (thn (pa.run pos pins s σ H _ I h) ?_) hs rfl))
    rintro us s1 ⟨vs, H1, I1, r1, q1 | q1⟩
    · obtain ⟨a, xs, rfl, hq, q⟩ := q1
      cases r1 with
      | cons r rr =>
        cases rr
        cases r
        obtain ⟨its, rv, pl, hz⟩ := I1.list hq
        refine call_enumerate_list pl.isList fun h' he hit hsz hk => wpAny_pyIter_enum he ?_
        refine ⟨s1.heap.objs.size + 1, [s1.heap.objs.size + 1, s1.heap.objs.size], _, _, H1, rfl, I1.kept (t' := s1.toks) hk, turn_enum a (s1.heap.objs.size + 1) s1.heap.objs.size, ⟨⟨.none, he⟩, hit, Nat.succ_ne_self _⟩, ?_, q⟩
        intro b hb
        have hle : s1.heap.objs.size ≤ b := by
          rcases (show b = s1.heap.objs.size + 1 ∨ b = s1.heap.objs.size by simpa using hb) with z | z
          · rw [z]; exact Nat.le_add_right _ _
          · rw [z]; exact Nat.le_refl _
        exact I1.fpOk hle (I1.hok.fresh hle)
    · obtain ⟨a, xs, rfl, hq, q⟩ := q1
      cases r1 with
      | cons r rr =>
        cases rr
        cases r
        obtain ⟨its, rv, tp, hz⟩ := I1.tuple hq
        refine enumT_call (show s1.heap.IsTuple a its.toArray from tp) fun h' he hit hsz hk => wpAny_pyIter_enum he ?_
        refine ⟨s1.heap.objs.size + 1, [s1.heap.objs.size + 1, s1.heap.objs.size], _, _, H1, rfl, I1.kept (t' := s1.toks) hk, turn_enumT a (s1.heap.objs.size + 1) s1.heap.objs.size, ⟨⟨.none, he⟩, hit, Nat.succ_ne_self _⟩, ?_, q⟩
        intro b hb
        have hle : s1.heap.objs.size ≤ b := by
          rcases (show b = s1.heap.objs.size + 1 ∨ b = s1.heap.objs.size by simpa using hb) with z | z
          · rw [z]; exact Nat.le_add_right _ _
          · rw [z]; exact Nat.le_refl _
        exact I1.fpOk hle (I1.hok.fresh hle)
  refine ⟨_, pi, ita_of ev ?_⟩
  intro R vs H1 O ds rs hg ra lv hR
  cases ra with
  | nil => cases hg
  | @cons v vs d ds rv rt =>
    cases rt with
    | cons _ _ => cases d <;> cases hg
    | nil =>
      cases d with
      | list as =>
        cases hg
        obtain ⟨a, xs, rfl, h1, h2, h3, h4⟩ := rv.lstI
        exact .inl ⟨a, xs, rfl, .inl (.inl h1), hR (by rw [enumD_len, ← h4.length]; exact h3) _ (it_enumL h1 h2 h4)⟩
      | tuple as =>
        cases hg
        obtain ⟨a, xs, rfl, h1, h3, h4⟩ := rv.tupS
        exact .inr ⟨a, xs, rfl, h1 _ _ .refl, hR (by rw [enumD_len, ← h4.length]; exact h3) _ (it_enumT h1 h4)⟩
      | _ => cases hg
end
end EL

set_option maxHeartbeats 2000000
namespace EL
open PySem PySem.Spec PyProof.Rows L2
variable [Wsh] [Tbx]

/-! ### dicts as data -/
def keyOf : PyData → Option Key
  | .int i => some (.inl i)
  | .str x => some (.inr x)
  | _ => none
def lookD (kds : List (PyData × PyData)) (k : Key) : Option PyData := (kds.find? fun p => decide (keyOf p.1 = some k)).map (·.2)
def putD (kds : List (PyData × PyData)) (k : Key) (d : PyData) : List (PyData × PyData) :=
  if (kds.any fun p => decide (keyOf p.1 = some k)) = true then kds.map (fun p => if keyOf p.1 = some k then (p.1, d) else p) else kds ++ [(kD k, d)]
theorem keyOf_kD (k : Key) : keyOf (kD k) = some k := by cases k <;> rfl
section
variable {K : PySem.W.Frag} {O : List Addr} {H : Hp}
theorem dec_kD (k k' : Key) : decide (keyOf (kD k) = some k') = decide (k = k') := by
  rw [keyOf_kD]
  by_cases h : k = k'
  · rw [h]; simp
  · rw [decide_eq_false h, decide_eq_false (fun e => h (Option.some.inj e))]
theorem RpD.look {k : Key} : ∀ {kvs : List (Key × V)} {kds : List (PyData × PyData)}, RpD K O H kvs kds → (valV kvs k = none ∧ lookD kds k = none) ∨ ∃ v d, valV kvs k = some v ∧ lookD kds k = some d ∧ Rp K O H v d
  | _, _, .nil => .inl ⟨rfl, rfl⟩
  | _, _, .cons (k := k0) (v := v0) (d := d0) r t => by
    by_cases e : k0 = k
    · refine .inr ⟨v0, d0, ?_, ?_, r⟩
      · unfold valV; rw [List.find?_cons]; simp [e]
      · unfold lookD; rw [List.find?_cons, dec_kD]; simp [e]
    · have h := RpD.look (k := k) t
      have e1 : ∀ (r : List (Key × V)), valV ((k0, v0) :: r) k = valV r k := fun r => by unfold valV; rw [List.find?_cons]; simp [e]
      have e2 : ∀ (r : List (PyData × PyData)), lookD ((kD k0, d0) :: r) k = lookD r k := fun r => by unfold lookD; rw [List.find?_cons, dec_kD]; simp [e]
      rw [e1, e2]; exact h
theorem RpD.append : ∀ {a b : List (Key × V)} {x y : List (PyData × PyData)}, RpD K O H a x → RpD K O H b y → RpD K O H (a ++ b) (x ++ y)
  | _, _, _, _, .nil, h => h
  | _, _, _, _, .cons a b, h => .cons a (RpD.append b h)
theorem RpD.any {k : Key} : ∀ {kvs : List (Key × V)} {kds : List (PyData × PyData)}, RpD K O H kvs kds → (kvs.any fun kv => decide (kv.1 = k)) = kds.any fun p => decide (keyOf p.1 = some k)
  | _, _, .nil => rfl
  | _, _, .cons (k := k0) r t => by simp only [List.any_cons, dec_kD, RpD.any t]
theorem RpD.map {k : Key} {v : V} {d : PyData} (r : Rp K O H v d) : ∀ {kvs : List (Key × V)} {kds : List (PyData × PyData)}, RpD K O H kvs kds → RpD K O H (kvs.map (fun kv => if kv.1 = k then (kv.1, v) else kv)) (kds.map (fun p => if keyOf p.1 = some k then (p.1, d) else p))
  | _, _, .nil => .nil
  | _, _, .cons (k := k0) q t => by
    rw [List.map_cons, List.map_cons]
    simp only [keyOf_kD, Option.some.injEq]
    by_cases e : k0 = k
    · rw [if_pos e, if_pos e]; exact .cons r (RpD.map r t)
    · rw [if_neg e, if_neg e]; exact .cons q (RpD.map r t)
theorem RpD.put {k : Key} {v : V} {d : PyData} (r : Rp K O H v d) {kvs : List (Key × V)} {kds : List (PyData × PyData)} (h : RpD K O H kvs kds) : RpD K O H (L2.putK kvs k v) (putD kds k d) := by
  unfold L2.putK putD
  rw [h.any]
  split
  · exact h.map r
  · exact h.append (.cons r .nil)
def mergeD (kds more : List (PyData × PyData)) : List (PyData × PyData) := more.foldl (fun acc p => match keyOf p.1 with
  | some k => putD acc k p.2
  | none => acc) kds
theorem RpD.merge : ∀ {more : List (Key × V)} {ms : List (PyData × PyData)} {kvs : List (Key × V)} {kds : List (PyData × PyData)}, RpD K O H more ms → RpD K O H kvs kds → RpD K O H (mergeK kvs more) (mergeD kds ms)
  | _, _, _, _, .nil, h => h
  | _, _, _, _, .cons (k := k0) r t, h => by
    unfold mergeK mergeD
    rw [List.foldl_cons, List.foldl_cons]
    simp only [keyOf_kD]
    exact RpD.merge t (h.put r)
theorem RpD.length : ∀ {kvs : List (Key × V)} {kds : List (PyData × PyData)}, RpD K O H kvs kds → kvs.length = kds.length
  | _, _, .nil => rfl
  | _, _, .cons _ t => by simp [RpD.length t]
theorem Rp.key {v : V} {d : PyData} {k : Key} (r : Rp K O H v d) (h : keyOf d = some k) : v = kV k := by
  cases r <;> simp [keyOf] at h <;> subst h <;> rfl
end
section
variable {X : Cx} {pos : Pos} {a b e : Expr} {es : List Expr}
/-- two readings of one expression, chosen by what its parts are -/
theorem pe_or2 {e : Expr} {t1 t2 : TE} (h1 : PE X e t1) (h2 : PE X e t2) : PE X e (fun σ H Q => t1 σ H Q ∨ t2 σ H Q) := ⟨fun pins s σ H Q I h => h.elim (h1.run pins s σ H Q I) (h2.run pins s σ H Q I)⟩
/-- the key, if it is a dict and no instance -/
def keyIf (kds : List (PyData × PyData)) (x : PyData) : Option Key := if instD kds = true then none else keyOf x
theorem keyIf_some {kds : List (PyData × PyData)} {x : PyData} {k : Key} (h : keyIf kds x = some k) : instD kds = false ∧ keyOf x = some k := by
  unfold keyIf at h
  split at h
  · cases h
  · rename_i z
    exact ⟨by simpa using z, h⟩
/-- x[k] of a sequence or a dict -/
def gIxA : PyData → PyData → Res PyData
  | .dict kds, k => match keyIf kds k with
    | some q => (match lookD kds q with
      | some d => .ok d
      | none => .bad)
    | none => .bad
  | x, k => gIx x k
theorem gIxA_seq {x : PyData} (h : ∀ kds, x ≠ .dict kds) (k : PyData) : gIxA x k = gIx x k := by
  cases x with
  | dict kds => exact absurd rfl (h kds)
  | _ => rfl
theorem de_ixA {fa fb : Dn} (hu : X.A.units + 1 < cLine) (ha : DE X a fa) (hb : DE X b fb) (hs : PlainIx b := by exact fun _ _ => rfl) : DE X (.Subscript a b pos) (dOp gIxA fa fb) := by
  obtain ⟨ta, pa, ea⟩ := ha
  obtain ⟨tb, pb, eb⟩ := hb
  refine ⟨_, pe_or2 (pe_ix ix_seq pa pb hs) (pe_dget hu pa pb hs), ?_⟩
  intro c O H σ en Q hc rs h
  cases q1 : fa en with
  | exc _ _ => unfold dOp bnd at h; rw [q1] at h; exact .inr (ea c O H σ en _ hc rs (by rw [q1]; exact h))
  | bad => unfold dOp bnd at h; rw [q1] at h; exact h.elim
  | ok p =>
    obtain ⟨dx, en1⟩ := p
    by_cases hd : ∃ kds, dx = .dict kds
    · obtain ⟨kds, rfl⟩ := hd
      refine .inr (ea c O H σ en _ hc rs (Po.bind h fun d1 en1' v1 H1 e1 rs1 k1 r1 h1 => ?_))
      rw [q1] at e1
      cases e1
      refine eb c O H1 σ en1 _ hc rs1 (Po.bind h1 fun d2 en2 v2 H2 _ rs2 k2 r2 h2 => ?_)
      have hv := PoV.of h2 rs2
      simp only [gIxA] at hv
      cases q0 : keyIf kds d2 with
      | none => rw [q0] at hv; exact hv.elim
      | some k =>
        rw [q0] at hv
        simp only at hv
        obtain ⟨qi, q⟩ := keyIf_some q0
        obtain ⟨x, kvs, rfl, g1, _, _, g4⟩ := (r1.keep k2.keep).dicI qi
        rcases g4.look (k := k) with ⟨_, z⟩ | ⟨v, d, z1, z2, z3⟩
        · rw [z] at hv; exact hv.elim
        · rw [z2] at hv
          exact ⟨x, v, rfl, .inl ⟨kvs, k, g1, r2.key q, z1.symm⟩, hv.okE z3⟩
    · refine .inl ?_
      have h' : PoE c O H σ en (dOp gIx fa fb en) Q := by
        unfold dOp bnd at h ⊢
        rw [q1] at h ⊢
        simp only [Res.bind] at h ⊢
        simp only [gIxA_seq (fun kds e => hd ⟨kds, e⟩)] at h
        exact h
      exact ev_op gIx_ok ea eb c O H σ en Q hc rs h'
/-- k in d -/
def gInA : PyData → PyData → Res PyData
  | k, .dict kds => match keyIf kds k with
    | some q => .ok (.bool (lookD kds q).isSome)
    | none => .bad
  | x, y => gIn x y
def gNotInA : PyData → PyData → Res PyData
  | k, .dict kds => match keyIf kds k with
    | some q => .ok (.bool (!(lookD kds q).isSome))
    | none => .bad
  | x, y => gNotIn x y
theorem look_isSome {K : PySem.W.Frag} {O : List Addr} {H : Hp} {kvs : List (Key × V)} {kds : List (PyData × PyData)} (h : RpD K O H kvs kds) (k : Key) : (valV kvs k).isSome = (lookD kds k).isSome := by
  rcases h.look (k := k) with ⟨z1, z2⟩ | ⟨v, d, z1, z2, _⟩ <;> rw [z1, z2] <;> rfl
theorem ev_inA {K : PySem.W.Frag} {ta tb t : TE} {fa fb : Dn} {g gA : PyData → PyData → Res PyData} {neg : Bool} (hg : ∀ x y, (∀ kds, y ≠ .dict kds) → gA x y = g x y) (hgd : ∀ x kds, gA x (.dict kds) = match keyIf kds x with
      | some q => .ok (.bool (if neg then !(lookD kds q).isSome else (lookD kds q).isSome))
      | none => .bad) (ea : EvE K ta fa) (eb : EvE K tb fb) (h1 : EvE K t (dOp g fa fb)) :
    EvE K (fun σ H Q => t σ H Q ∨ ta σ H fun y H1 => tb σ H1 fun x H2 => ∃ a o, x = V.ref a ∧ DGet H2 a y o ∧ Q (V.bl (if neg then !o.isSome else o.isSome)) H2) (dOp gA fa fb) := by
  intro c O H σ en Q hc rs h
  cases q1 : fa en with
  | exc _ _ => unfold dOp bnd at h; rw [q1] at h; exact .inr (ea c O H σ en _ hc rs (by rw [q1]; exact h))
  | bad => unfold dOp bnd at h; rw [q1] at h; exact h.elim
  | ok p =>
    obtain ⟨dx, en1⟩ := p
    cases q2 : fb en1 with
    | exc _ _ =>
      refine .inr (ea c O H σ en _ hc rs (Po.bind h fun d1 en1' v1 H1 e1 rs1 k1 r1 h1 => ?_))
      rw [q1] at e1
      cases e1
      refine eb c O H1 σ en1 _ hc rs1 ?_
      unfold bnd at h1
      rw [q2] at h1 ⊢
      exact h1
    | bad => unfold dOp bnd at h; rw [q1] at h; simp only [Res.bind] at h; rw [q2] at h; exact h.elim
    | ok p2 =>
      obtain ⟨dy, en2⟩ := p2
      by_cases hd : ∃ kds, dy = .dict kds
      · obtain ⟨kds, rfl⟩ := hd
        refine .inr (ea c O H σ en _ hc rs (Po.bind h fun d1 en1' v1 H1 e1 rs1 k1 r1 h1 => ?_))
        rw [q1] at e1
        cases e1
        refine eb c O H1 σ en1 _ hc rs1 (Po.bind h1 fun d2 en2' v2 H2 e2 rs2 k2 r2 h2 => ?_)
        rw [q2] at e2
        cases e2
        have hv := PoV.of h2 rs2
        rw [hgd] at hv
        cases q0 : keyIf kds dx with
        | none => rw [q0] at hv; exact hv.elim
        | some k =>
          rw [q0] at hv
          obtain ⟨qi, q⟩ := keyIf_some q0
          obtain ⟨x, kvs, rfl, g1, _, _, g4⟩ := r2.dicI qi
          refine ⟨x, valV kvs k, rfl, .inl ⟨kvs, k, g1, (r1.keep k2.keep).key q, rfl⟩, ?_⟩
          rw [look_isSome g4]
          exact PoV.okE hv (.bl _)
      · refine .inl (h1 c O H σ en Q hc rs ?_)
        unfold dOp bnd at h ⊢
        rw [q1] at h ⊢
        simp only [Res.bind] at h ⊢
        rw [q2] at h ⊢
        simp only [hg dx dy (fun kds e => hd ⟨kds, e⟩)] at h
        exact h
theorem de_inA {fa fb : Dn} (hu : X.A.units + 65 < cLine) (ha : DE X a fa) (hb : DE X b fb) (hm : behindInMarks .In b = false := by rfl) : DE X (.Compare a [.In] [b] pos) (dOp gInA fa fb) := by
  obtain ⟨ta, pa, ea⟩ := ha
  obtain ⟨tb, pb, eb⟩ := hb
  refine ⟨_, pe_or2 (pe_cmpR (op_inA hu) pa pb hm) (pe_cmp (pc_din (by omega) pa pb) hm), ?_⟩
  exact ev_inA (neg := false) (fun x y h => by cases y <;> first | rfl | exact absurd rfl (h _)) (fun x kds => by simp only [gInA]; cases keyOf x <;> rfl) ea eb (ev_op gIn_ok ea eb)
/-- the same as a test -/
theorem pt_or2 {e : Expr} {t1 t2 : TT} (h1 : PT X e t1) (h2 : PT X e t2) : PT X e (fun σ H Q => t1 σ H Q ∨ t2 σ H Q) := ⟨fun pins s σ H Q I h => h.elim (h1.run pins s σ H Q I) (h2.run pins s σ H Q I)⟩
theorem dt_inA {fa fb : Dn} (hu : X.A.units + 65 < cLine) (ha : DE X a fa) (hb : DE X b fb) (hm : behindInMarks .In b = false := by rfl) : DT X (.Compare a [.In] [b] pos) (EL.tB (dOp gInA fa fb)) := by
  obtain ⟨ta, pa, ea⟩ := ha
  obtain ⟨tb, pb, eb⟩ := hb
  refine ⟨_, pt_or2 (pt_cmpR (op_inA hu) pa pb hm) (pt_cmp (pc_din (by omega) pa pb) hm), ?_⟩
  exact ev_test (ev_inA (neg := false) (fun x y h => by cases y <;> first | rfl | exact absurd rfl (h _)) (fun x kds => by simp only [gInA]; cases keyOf x <;> rfl) ea eb (ev_op gIn_ok ea eb))
theorem dt_notInA {fa fb : Dn} (hu : X.A.units + 65 < cLine) (ha : DE X a fa) (hb : DE X b fb) (hm : behindInMarks .NotIn b = false := by rfl) : DT X (.Compare a [.NotIn] [b] pos) (EL.tB (dOp gNotInA fa fb)) := by
  obtain ⟨ta, pa, ea⟩ := ha
  obtain ⟨tb, pb, eb⟩ := hb
  refine ⟨_, pt_or2 (pt_cmpR (op_notInA hu) pa pb hm) (pt_cmp (pc_dnotin (by omega) pa pb) hm), ?_⟩
  exact ev_test (ev_inA (neg := true) (fun x y h => by cases y <;> first | rfl | exact absurd rfl (h _)) (fun x kds => by simp only [gNotInA]; cases keyOf x <;> rfl) ea eb (ev_op gNotIn_ok ea eb))

/-! ### a dict of the module with text keys -/
structure DictC (K : PySem.W.Frag) (w : World) (d : Addr) (tbl : List (Str × PyData)) : Prop where
  ex : ∃ (es : Array DictEntry) (n : Nat), KDict K w d es n ∧ Paired (fun (e : DictEntry) (p : Str × PyData) => (∃ t, e.key = .str p.1 t) ∧ ∃ v, RelV v e.val ∧ ∀ O H, Rp K O H v p.2) es.toList tbl
def tblOf (tbl : List (Str × PyData)) (z : Str) : Option PyData := (tbl.find? fun p => decide (p.1 = z)).map (·.2)
theorem kd_find {K : PySem.W.Frag} (z : Str) : ∀ {es : List DictEntry} {tbl : List (Str × PyData)}, Paired (fun (e : DictEntry) (p : Str × PyData) => (∃ t, e.key = .str p.1 t) ∧ ∃ v, RelV v e.val ∧ ∀ O H, Rp K O H v p.2) es tbl →
    es.any (·.refKey) = false ∧ ((es.find? (·.key.isStr z) = none ∧ tblOf tbl z = none) ∨ ∃ e v d, es.find? (·.key.isStr z) = some e ∧ tblOf tbl z = some d ∧ RelV v e.val ∧ ∀ O H, Rp K O H v d)
  | _, _, .nil => ⟨rfl, .inl ⟨rfl, rfl⟩⟩
  | _, _, .cons (a := e) (b := p) ⟨⟨t, hk⟩, v, hv, hr⟩ r => by
    obtain ⟨h1, h2⟩ := kd_find z r
    have k1 : e.refKey = false := by simp [DictEntry.refKey, hk]
    have k2 : e.key.isStr z = decide (p.1 = z) := by
      rw [PySem.W.isStr_of, hk]
      simp only [Value.isStrOf]
      by_cases q : p.1 = z
      · simp [q]
      · simp [q]
    refine ⟨by rw [List.any_cons, k1, h1]; rfl, ?_⟩
    by_cases q : p.1 = z
    · refine .inr ⟨e, v, p.2, ?_, ?_, hv, hr⟩
      · rw [List.find?_cons, k2]; simp [q]
      · unfold tblOf; rw [List.find?_cons]; simp [q]
    · have e1 : ∀ l, tblOf (p :: l) z = tblOf l z := fun l => by unfold tblOf; rw [List.find?_cons]; simp [q]
      rw [List.find?_cons, k2, e1]
      simp only [q, decide_false]
      exact h2

theorem DictC.at {K : PySem.W.Frag} {w : World} {d : Addr} {tbl : List (Str × PyData)} (D : DictC K w d tbl) (z : Str) : ∃ es n, KDict K w d es n ∧ ((PySem.W.nsIn K d z = some none ∧ tblOf tbl z = none) ∨ ∃ u v x, PySem.W.nsIn K d z = some (some u) ∧ tblOf tbl z = some x ∧ RelV v u ∧ ∀ O H, Rp K O H v x) := by
  obtain ⟨es, n, kd, pr⟩ := D.ex
  refine ⟨es, n, kd, ?_⟩
  obtain ⟨h1, h2⟩ := kd_find z pr
  unfold PySem.W.nsIn
  rw [kd.at_]
  rcases h2 with ⟨e1, e2⟩ | ⟨e, v, x, e1, e2, e3, e4⟩
  · refine .inl ⟨?_, e2⟩
    simp only [e1, h1]
    rfl
  · refine .inr ⟨e.val, v, x, ?_, e2, e3, e4⟩
    simp only [e1]
/-! ### text methods, str, repr -/
def strsOf : List PyData → Option (List Str)
  | [] => some []
  | .str x :: r => (strsOf r).map (x :: ·)
  | _ :: _ => none
theorem strs_ok {K : PySem.W.Frag} {O : List Addr} {H : Hp} : ∀ {xs : List V} {ds : List PyData} {ss : List Str}, RpA K O H xs ds → strsOf ds = some ss → xs = ss.map V.str
  | _, _, _, .nil, e => by cases e; rfl
  | _, _, ss, .cons (d := d) r t, e => by
    cases d with
    | str x =>
      obtain ⟨rfl, _⟩ := r.strI
      simp only [strsOf, Option.map_eq_some_iff] at e
      obtain ⟨ss', e1, rfl⟩ := e
      rw [strs_ok t e1]; rfl
    | _ => simp [strsOf] at e
def joinS (x : Str) (ss : List Str) : Res PyData := if (decide ((ss.map (·.length)).sum + ss.length * x.length ≤ 16777216) && decide ((Txt.join x ss).length ≤ sizeLine)) = true then .ok (.str (Txt.join x ss)) else .bad
def gJoin : PyData → PyData → Res PyData
  | .str x, .list ds => match strsOf ds with
    | some ss => joinS x ss
    | none => .bad
  | .str x, .tuple ds => match strsOf ds with
    | some ss => joinS x ss
    | none => .bad
  | _, _ => .bad
theorem de_join {apos : Pos} {fa fb : Dn} (ha : DE X a fa) (hb : DE X b fb) (hs : starEach [b] X.env = [(false, eval b X.env)] := by rfl) (hbase : attributeBase a "join" X.env (eval a X.env) = eval a X.env := by rfl) (hline : (apos.endLine == pos.line) = true := by rfl) (hcs : ∀ en, ∃ x en', fa en = .ok (.str x, en') := by exact fun _ => ⟨_, _, rfl⟩) :
    DE X (.Call (.Attribute a "join" apos) [b] [] pos) (dOp gJoin fa fb) := by
  obtain ⟨ta, pa, ea⟩ := ha
  obtain ⟨tb, pb, eb⟩ := hb
  refine ⟨_, pe_join pa pb hs hbase hline, ?_⟩
  intro c O H σ en Q hc rs h
  refine ea c O H σ en _ hc rs (Po.bind h fun d1 en1' v1 H1 e1 rs1 k1 r1 h1 => ?_)
  cases d1 with
  | str x =>
    obtain ⟨rfl, _⟩ := r1.strI
    refine ⟨⟨x, rfl⟩, eb c O H1 σ en1' _ hc rs1 (Po.bind h1 fun d2 en2 v2 H2 _ rs2 k2 r2 h2 => ?_)⟩
    have hv := PoV.of h2 rs2
    have fin : ∀ (p : Addr) (xs : List V) (ds : List PyData) (ss : List Str), RpA c.K O H2 xs ds → strsOf ds = some ss → (SqL X.K H2 p xs ∨ SqT X.K H2 p xs) → PoV c.K O H2 (joinS x ss) Q → ∃ a q, ∃ ys : List Str, V.str x = V.str a ∧ [V.ref p] = [V.ref q] ∧ (SqL X.K H2 q (ys.map V.str) ∨ SqT X.K H2 q (ys.map V.str)) ∧ (ys.map (·.length)).sum + ys.length * a.length ≤ 16777216 ∧ Q (.str (Txt.join a ys)) H2 := by
      intro p xs ds ss ra e sq hj
      unfold joinS at hj
      by_cases hz : (decide ((ss.map (·.length)).sum + ss.length * x.length ≤ 16777216) && decide ((Txt.join x ss).length ≤ sizeLine)) = true
      · rw [if_pos hz] at hj
        simp only [Bool.and_eq_true, decide_eq_true_eq] at hz
        rw [strs_ok ra e] at sq
        exact ⟨x, p, ss, rfl, rfl, sq, hz.1, hj.okE (.str _ hz.2)⟩
      · rw [if_neg hz] at hj; exact hj.elim
    cases d2 with
    | list ds =>
      obtain ⟨p, xs, rfl, g1, _, _, g4⟩ := r2.lstI
      simp only [gJoin] at hv
      cases q : strsOf ds with
      | none => rw [q] at hv; exact hv.elim
      | some ss => rw [q] at hv; exact fin p xs ds ss g4 q (.inl (.inl (.inl g1))) hv
    | tuple ds =>
      obtain ⟨p, xs, rfl, g1, _, g4⟩ := r2.tupI
      simp only [gJoin] at hv
      cases q : strsOf ds with
      | none => rw [q] at hv; exact hv.elim
      | some ss => rw [q] at hv; exact fin p xs ds ss g4 q (.inr (by rw [← hc]; exact g1)) hv
    | _ => exact hv.elim
  | _ =>
    exfalso
    obtain ⟨x, en2, z⟩ := hcs en
    rw [z] at e1
    cases e1
def gRepr (d : PyData) : Res PyData := if (okR d && d.showable && decide (d.depth ≤ 64) && decide (d.shown.length ≤ sizeLine)) = true then .ok (.str d.shown) else .bad
theorem gRepr_ok {K : PySem.W.Frag} : CalD K (fun xs H Q => ∃ x d O, xs = [x] ∧ Rp K O H x d ∧ okR d = true ∧ d.showable = true ∧ d.depth ≤ 64 ∧ d.shown.length ≤ sizeLine ∧ Q (.str d.shown) H) (g1 gRepr) := g1_ok fun O H x d Q l r h => by
  unfold gRepr at h
  by_cases hz : (okR d && d.showable && decide (d.depth ≤ 64) && decide (d.shown.length ≤ sizeLine)) = true
  · rw [if_pos hz] at h
    simp only [Bool.and_eq_true, decide_eq_true_eq] at hz
    obtain ⟨⟨⟨z1, z2⟩, z3⟩, z4⟩ := hz
    exact ⟨x, d, O, rfl, r, z1, z2, z3, z4, h.okE (.str _ z4)⟩
  · rw [if_neg hz] at h; exact h.elim
end
end EL

set_option maxHeartbeats 2000000
namespace EL
open PySem PySem.Spec PyProof.Rows L2
variable [Wsh] [Tbx]
section
variable {X : Cx} {pos : Pos} {a b e : Expr} {es : List Expr} {st : Stmt} {sts : List Stmt}
/-! ### *e in a display -/
/-! ### reading a list that may change -/
def ixOK (i : Nat) (k : PyData) : Dn := fun en => match en[i]?, k with
  | some (.ow (.list xs)), .int z => (match atI xs z with
    | some d => .ok (d, en)
    | none => .bad)
  | _, _ => .bad
def dIxO (i : Nat) (fk : Dn) : Dn := fun en => match en[i]? with
  | some (.ow (.list _)) => bnd fk (ixOK i) en
  | _ => .bad
theorem de_ixO {x : Str} {p : Pos} {fk : Dn} (i : Nat) (hk : DE X b fk) (hN : X.N[i]? = some x := by rfl) (hv : Vis X.env.scope x := by first | exact Or.inl rfl | exact Or.inr (Or.inl rfl) | exact Or.inr (Or.inr rfl)) (hs : PlainIx b := by exact fun _ _ => rfl)
    (hd : (x == ("__debug__" : Str)) = false := by decide) (hcd : (x == ("__classdict__" : Str)) = false := by decide) : DE X (.Subscript (.Name x p) b pos) (dIxO i fk) := by
  obtain ⟨t, pk, ev⟩ := hk
  refine ⟨_, pe_ix ix_list (pe_var hN hv hd hcd) pk hs, ?_⟩
  intro c O H σ en Q hc rs h
  unfold dIxO at h
  cases q : en[i]? with
  | none => rw [q] at h; exact h.elim
  | some s =>
    rw [q] at h
    cases s with
    | no => exact h.elim
    | sh _ => exact h.elim
    | ow d0 =>
      cases d0 with
      | list ds0 =>
        obtain ⟨p, hp, _⟩ := rs.ow i _ q
        refine ⟨.ref p, hp, ev c O H σ en _ hc rs (Po.bind (show PoE c O H σ en (bnd fk (ixOK i) en) Q from h) fun d1 en1 v1 H1 _ rs1 k1 r1 h1 => ?_)⟩
        unfold ixOK at h1
        cases q1 : en1[i]? with
        | none => rw [q1] at h1; exact h1.elim
        | some s1 =>
          rw [q1] at h1
          cases s1 with
          | no => exact h1.elim
          | sh _ => exact h1.elim
          | ow d2 =>
            cases d2 with
            | list ds =>
              cases d1 with
              | int z =>
                cases r1
                obtain ⟨p', hp', ⟨xs, e1, e2, e3⟩, hO, _⟩ := rs1.ow i _ q1
                rw [hp] at hp'
                cases hp'
                have h2 : PoE c O H1 σ en1 (match atI ds z with
                  | some d => .ok (d, en1)
                  | none => .bad) Q := h1
                cases q4 : atI ds z with
                | none => rw [q4] at h2; exact h2.elim
                | some d =>
                  rw [q4] at h2
                  obtain ⟨v, k1, k2⟩ := e3.atI q4
                  exact ⟨p, xs, z, v, rfl, rfl, .inl (.inl e1), k1, h2 v H1 rs1 .refl k2⟩
              | _ => exact h1.elim
            | _ => exact h1.elim
      | _ => exact h.elim

/-! ### keywords -/
def DK (X : Cx) (kws : List Keyword) (f : An) : Prop := ∃ t, PK X kws t ∧ EvA X.K t f
theorem dk_nil : DK X [] dNil := ⟨_, pk_nil, fun c O H σ en Q hc rs h => h [] H rs .refl .nil⟩
theorem dk_cons {nm : Option Str} {kpos : Pos} {kws : List Keyword} {f : Dn} {g : An} (ha : DE X e f) (hr : DK X kws g) : DK X (⟨nm, e, kpos⟩ :: kws) (dCons f g) := by
  obtain ⟨ta, pa, ea⟩ := ha
  obtain ⟨tr, pr, er⟩ := hr
  refine ⟨_, pk_cons pa pr, ?_⟩
  intro c O H σ en Q hc rs h
  refine ea c O H σ en _ hc rs (Po.bind h fun d1 en1 v1 H1 _ rs1 k1 r1 h1 => ?_)
  refine er c O H1 σ en1 _ hc rs1 (Po.bind h1 fun d2 en2 v2 H2 _ rs2 k2 r2 h2 => ?_)
  exact h2 (v1 :: v2) H2 rs2 .refl (.cons (r1.keep k2.keep) r2)
/-- f(k = e, ..), all parameters by name, in their order -/
theorem de_callK {k : Nat} {f : Addr} {fd : FuncData} {ps : List Str} {m : List PyData → Res PyData} {n : Nat} {x : Str} {p : Pos} {g : An} {kws : List Keyword} (F : FnOk X.prog X.w X.K X.mg X.base CX0 k f fd ps (spM m n X.K)) (hr : Room k X.A) (hg : Gl X x) (hm : X.mg x = some (.ref f)) (hk : PySem.W.keepIn X.K (.ref f) = true)
    (hb : ∀ (s : Shared) (ws : List Value), ws.length = ps.length → BindsTo s fd ⟨[], ps.zip ws⟩ (ps.zip ws)) (ha : DK X kws g)
    (hall : (backToKw pos (keywordEach kws X.env)).all (·.1.isSome) = true := by rfl) (hks : (backToKw pos (keywordEach kws X.env)).filterMap (·.1) = ps := by rfl) (hdb : (x == ("__debug__" : Str)) = false := by decide)
    (hpl : ((backTo pos (starEach [] X.env)).any (·.1) || (backToKw pos (keywordEach kws X.env)).any (·.1.isNone)) = false := by rfl) : DE X (.Call (.Name x p) [] kws pos) (dApp (gN n m) g) := by
  obtain ⟨t, pa, ev⟩ := ha
  refine ⟨tCall (spM m n X.K) [] E0 t, ?_, ev_call ev⟩
  constructor
  intro pins s σ H Q I h
  refine wpAny_Call_Name_kw (ld_glob I hg hm ?_ hdb)
  refine PySem.W.callWith_KW0 (h₀ := X.base) I.ok.mod.kin hk hall ?_ hpl
  refine thn (pa.run pos pins s σ H _ I h) ?_
  rintro ws s2 ⟨zs, H2, I2, rz, q2⟩
  refine ⟨I2.kIn, ?_⟩
  rw [hks]
  rw [List.append_nil] at q2
  have hl : ws.length = ps.length := by rw [← rz.length]; exact F.len _ _ _ _ q2
  show wpAny _ _ (call (.ref f) [] (ps.zip ws)) _ _ _
  refine wpAny_call (codeAny_mono (F.run X.A X.stack s2 H2 ⟨[], ps.zip ws⟩ ws zs Q E0 hr I2.env0 (hb s2 ws hl) rz q2) ?_)
  intro res s' post
  cases res with
  | error er => exact (show False from post).elim
  | ok fl =>
    cases fl with
    | ret u => exact I2.after post
    | next => exact (show False from post).elim
    | brk => exact (show False from post).elim
    | cont => exact (show False from post).elim

/-! ### a, b = x, y -/
end
end EL

set_option maxHeartbeats 2000000
namespace EL
open PySem PySem.Spec PyProof.Rows L2
variable [Wsh] [Tbx]

/-! ### dict displays -/
def dPairs : List (Dn × Dn) → En → Res (List (PyData × PyData) × En)
  | [] => fun en => .ok ([], en)
  | (k, v) :: r => bnd k fun x => bnd v fun y => bnd (dPairs r) fun ps => lft (.ok ((x, y) :: ps))
inductive RpP (K : PySem.W.Frag) (O : List Addr) (H : Hp) : List (V × V) → List (PyData × PyData) → Prop
  | nil : RpP K O H [] []
  | cons {k v : V} {ps : List (V × V)} {x y : PyData} {ds : List (PyData × PyData)} : Rp K O H k x → Rp K O H v y → RpP K O H ps ds → RpP K O H ((k, v) :: ps) ((x, y) :: ds)
def EvP (K : PySem.W.Frag) (trs : List (TE × TE)) (fs : List (Dn × Dn)) : Prop := ∀ (c : Fc) (O : List Addr) (H : Hp) (σ : L2.St) (en : En) (Q : List (V × V) → Hp → Prop), c.K = K → RS c O H σ en →
  Po (α := List (PyData × PyData)) (β := List (V × V)) c O H σ en (fun H' v d => RpP c.K O H' v d) (dPairs fs en) Q → tPairs trs σ H Q
def DPs (X : Cx) (pos : Pos) (ks : List (Option Expr)) (vs : List Expr) (fs : List (Dn × Dn)) : Prop := ∃ trs, PPs X pos ks vs trs ∧ EvP X.K trs fs
def keysOk : List (PyData × PyData) → Bool
  | [] => true
  | (k, _) :: r => (keyOf k).isSome && keysOk r
def gDisp (ps : List (PyData × PyData)) : Res PyData := if (keysOk ps && decide (ps.length ≤ 15)) = true then .ok (.dict (mergeD [] ps)) else .bad
def dDisp (fs : List (Dn × Dn)) : Dn := bnd (dPairs fs) fun ps => lft (gDisp ps)
theorem RpP.keyed {K : PySem.W.Frag} {O : List Addr} {H : Hp} : ∀ {ps : List (V × V)} {ds : List (PyData × PyData)}, RpP K O H ps ds → keysOk ds = true → ∃ kvs : List (Key × V), ps = kvs.map (fun kv => (kV kv.1, kv.2)) ∧ RpD K O H kvs ds
  | _, _, .nil, _ => ⟨[], rfl, .nil⟩
  | _, _, .cons (x := x) rk rv t, h => by
    simp only [keysOk, Bool.and_eq_true] at h
    obtain ⟨kvs, e, r⟩ := RpP.keyed t h.2
    cases q : keyOf x with
    | none => rw [q] at h; cases h.1
    | some k =>
      have hx : x = kD k := by
        cases x <;> simp [keyOf] at q <;> subst q <;> rfl
      subst hx
      exact ⟨(k, _) :: kvs, by rw [List.map_cons, ← e, rk.key q], .cons rv r⟩
theorem RpP.keep {K : PySem.W.Frag} {O : List Addr} {H H' : Hp} (k : Keep O H H') : ∀ {ps : List (V × V)} {ds : List (PyData × PyData)}, RpP K O H ps ds → RpP K O H' ps ds
  | _, _, .nil => .nil
  | _, _, .cons a b t => .cons (a.keep k) (b.keep k) (RpP.keep k t)
theorem putK_len (kvs : List (Key × V)) (k : Key) (v : V) : (L2.putK kvs k v).length ≤ kvs.length + 1 := by
  unfold L2.putK
  split
  · rw [List.length_map]; omega
  · rw [List.length_append]; simp
theorem mergeK_len : ∀ (more kvs : List (Key × V)), (mergeK kvs more).length ≤ kvs.length + more.length
  | [], kvs => Nat.le_refl _
  | m :: more, kvs => by
    unfold mergeK
    rw [List.foldl_cons]
    have h := mergeK_len more (L2.putK kvs m.1 m.2)
    have h2 := putK_len kvs m.1 m.2
    unfold mergeK at h
    rw [List.length_cons]
    omega
section
variable {X : Cx} {pos : Pos} {a b e : Expr} {es : List Expr} {st : Stmt} {sts : List Stmt}
theorem dps_nil : DPs X pos [] [] [] := ⟨_, pps_nil, fun c O H σ en Q hc rs h => h [] H rs .refl .nil⟩
theorem dps_cons {ks : List (Option Expr)} {vs : List Expr} {fk fv : Dn} {fs : List (Dn × Dn)} (hk : DE X a fk) (hv : DE X b fv) (hr : DPs X pos ks vs fs) : DPs X pos (some a :: ks) (b :: vs) ((fk, fv) :: fs) := by
  obtain ⟨tk, pk, ek⟩ := hk
  obtain ⟨tv, pv, ev⟩ := hv
  obtain ⟨tr, pr, er⟩ := hr
  refine ⟨_, pps_cons pk pv pr, ?_⟩
  intro c O H σ en Q hc rs h
  refine ek c O H σ en _ hc rs (Po.bind h fun d1 en1 v1 H1 _ rs1 k1 r1 h1 => ?_)
  refine ev c O H1 σ en1 _ hc rs1 (Po.bind h1 fun d2 en2 v2 H2 _ rs2 k2 r2 h2 => ?_)
  refine er c O H2 σ en2 _ hc rs2 (Po.bind h2 fun d3 en3 v3 H3 _ rs3 k3 r3 h3 => ?_)
  exact h3 ((v1, v2) :: v3) H3 rs3 .refl (.cons ((r1.keep k2.keep).keep k3.keep) (r2.keep k3.keep) r3)
theorem RS.upd_top {c : Fc} {O : List Addr} {H H0 : Hp} {σ : L2.St} {en en0 : En} {p : Addr} {o : HO} (r0 : RS c O H0 σ en0) (hp : H0 p = none) (sh : Shp en0 en) (r : RS c (p :: O) H σ en) : RS c (p :: O) (upd H p o) σ en where
  len := r.len
  keep := r.keep.trans' ⟨p, rfl, (r0.newp hp).2.2.2⟩
  pin := r.pin
  sub := r.sub
  live := fun a ha => by
    by_cases e : a = p
    · rw [e, upd_same]; exact fun z => nomatch z
    · rw [upd_ne e]; exact r.live a ha
  sh := fun i d q => by
    obtain ⟨v, h1, h2⟩ := r.sh i d q
    exact ⟨v, h1, h2.keep (keep_upd List.mem_cons_self)⟩
  ow := fun i d q => by
    obtain ⟨u, h1, h2, h3, h4⟩ := r.ow i d q
    have ne : u ≠ p := fun z => by
      obtain ⟨d', e'⟩ := sh i d q
      obtain ⟨u', g1, g2, _⟩ := r0.ow i d' e'
      rw [h1] at g1
      cases g1
      exact g2.some (z ▸ hp)
    exact ⟨u, h1, h2.keep (keep_upd List.mem_cons_self) (upd_ne ne), h3, h4⟩
  dist := r.dist
theorem df_disp {keys : List (Option Expr)} {values : List Expr} {fs : List (Dn × Dn)} (h : DPs X pos keys values fs) (hall : keys.all (·.isSome) = true := by rfl) (hl : keys.length = values.length := by rfl) (h0 : keys ≠ [] := by exact fun z => nomatch z) (h15 : keys.length ≤ 15 := by decide) : DF X (.Dict keys values pos) (dDisp fs) := by
  obtain ⟨trs, pp, ev⟩ := h
  refine ⟨_, pe_disp pp hall hl h0 h15, ?_⟩
  intro c O H σ en Q hc rs hq
  intro p hp
  refine ev c (p :: O) _ σ en _ hc (rs.lay hp) ?_
  unfold dDisp bnd at hq
  cases q : dPairs fs en with
  | exc _ _ => rw [q] at hq; exact hq
  | bad => rw [q] at hq; exact hq
  | ok r =>
    obtain ⟨ps, en1⟩ := r
    rw [q] at hq
    have hq' : (match (lft (gDisp ps) en1 : Res (PyData × En)) with
      | .ok (d, en') => ∀ p H0 H', H0 p = none → RS c O H0 σ en → Keep O H H0 → RS c (p :: O) H' σ en' → Go σ O H en H' en' → OwR c.K (p :: O) H' p d → Q (.ref p) H'
      | .exc cn fds => wishX c cn fds
      | .bad => False) := hq
    intro vs H2 rs2 go2 rp
    have fr : Free σ en p := free_new rs hp
    have e2 : H2 p = some (.dK []) := go2.held p _ fr upd_same
    unfold gDisp at hq'
    by_cases hz : (keysOk ps && decide (ps.length ≤ 15)) = true
    · rw [if_pos hz] at hq'
      simp only [Bool.and_eq_true, decide_eq_true_eq] at hz
      obtain ⟨kvs, e, rd⟩ := rp.keyed hz.1
      have hlen : kvs.length ≤ 15 := by rw [rd.length]; exact hz.2
      refine ⟨e2, kvs, e, hlen, ?_⟩
      have kp : Keep O H (upd H2 p (.dK (mergeK [] kvs))) := fun a x n ea => by
        have ne : a ≠ p := fun z => by rw [z, hp] at ea; cases ea
        rw [upd_ne ne]
        refine go2.keep a x (fun z => (List.mem_cons.mp z).elim ne n) ?_
        rw [upd_ne ne]; exact ea
      refine hq' p H _ hp rs (.refl _) (RS.upd_top rs hp go2.shp rs2) ⟨kp, go2.shp, fun a x fa ea => ?_⟩ ?_
      · have ne : a ≠ p := fun z => by rw [z, hp] at ea; cases ea
        rw [upd_ne ne]
        refine go2.held a x fa ?_
        rw [upd_ne ne]; exact ea
      · refine ⟨_, upd_same, .inl ⟨mergeK [] kvs, rfl, ?_, ?_⟩⟩
        · have := mergeK_len kvs []
          rw [sizeLine_eq]
          simp at this
          omega
        · exact (RpD.merge rd .nil).keep (keep_upd List.mem_cons_self)
    · rw [if_neg hz] at hq'; exact hq'.elim
theorem df_dict0 : DF X (.Dict [] [] pos) (dCst (.dict [])) := by
  refine ⟨_, pe_dnewK, ?_⟩
  intro c O H σ en Q hc rs hq
  intro p hp
  have hq' : (∀ p H0 H', H0 p = none → RS c O H0 σ en → Keep O H H0 → RS c (p :: O) H' σ en → Go σ O H en H' en → OwR c.K (p :: O) H' p (.dict []) → Q (.ref p) H') := hq
  exact hq' p H _ hp rs (.refl _) (rs.lay hp) (.same (same_new hp)) ⟨_, upd_same, .inl ⟨[], rfl, Nat.zero_le _, .nil⟩⟩

/-! ### d.update(e), d a dict that may change -/
end
end EL

set_option maxHeartbeats 2000000
namespace EL
open PySem PySem.Spec PyProof.Rows L2
variable [Wsh] [Tbx]

/-! ### list(x) -/
section
variable {X : Cx} {pos : Pos} {a b e : Expr} {es : List Expr}
/-! ### sorted(texts) -/
end
end EL

set_option maxHeartbeats 2000000
namespace EL
open PySem PySem.Spec PyProof.Rows L2
variable [Wsh] [Tbx]
/-! ### sorted -/
def LeS (x y : Str) : Prop := x.cps.toList ≤ y.cps.toList
theorem LeS.trans {x y z : Str} (a : LeS x y) (b : LeS y z) : LeS x z := List.le_trans a b
/-- ints -/
def insI (x : Int) : List Int → List Int
  | [] => [x]
  | y :: r => if x ≤ y then x :: y :: r else y :: insI x r
section
variable {K : PySem.W.Frag} {O : List Addr} {H : Hp}
theorem ints_rp : ∀ (ns : List Int), RpA K O H (ns.map V.int) (ns.map .int)
  | [] => .nil
  | i :: r => .cons (.int i) (ints_rp r)
end
end EL

set_option maxHeartbeats 2000000
namespace EL
open PySem PySem.Spec PyProof.Rows L2
variable [Wsh] [Tbx]
section
variable {K : PySem.W.Frag} {O : List Addr} {H : Hp}
abbrev gFdiv := gI (fun _ j => decide (0 < j) && decide (j.natAbs.log2 < 9000)) fun i j => .int (i / j)
theorem gFdiv_ok : OpD K (rI CDivW fun i j => V.int (i / j)) gFdiv := gI_ok (fun i j h => by
  rw [Bool.and_eq_true] at h
  exact ⟨of_decide_eq_true h.1, of_decide_eq_true h.2⟩) fun _ _ _ _ => .int _
abbrev gPow := gI (fun i j => decide (0 ≤ j) && decide (j ≤ 1000000) && decide (i.natAbs < 2 ^ 64)) fun i j => .int (i ^ j.toNat)
theorem gPow_ok : OpD K (rI CPow fun i j => V.int (i ^ j.toNat)) gPow := gI_ok (fun i j h => by
  rw [Bool.and_eq_true, Bool.and_eq_true] at h
  exact ⟨of_decide_eq_true h.1.1, of_decide_eq_true h.1.2, of_decide_eq_true h.2⟩) fun _ _ _ _ => .int _
def gNeg : PyData → Res PyData
  | .int i => .ok (.int (-i))
  | _ => .bad
theorem gNeg_ok : UnD K (rU fun i => V.int (-i)) gNeg := fun O H x d Q l r h => by
  cases d with
  | int i => cases r; exact ⟨i, rfl, h.okE (.int _)⟩
  | _ => exact h.elim
end
section
variable {X : Cx} {pos : Pos} {a b e : Expr} {es : List Expr}
end
end EL

set_option maxHeartbeats 2000000
namespace EL
open PySem PySem.Spec PyProof.Rows L2
variable [Wsh] [Tbx]
/-! ### the pen -/
def penD (ns : List Int) : PyData := .list [.list (ns.map .int), .int 0, .int 0]
def spPen (K : PySem.W.Frag) : Sp := fun vs H Q _ => ∃ (a : Addr) (ns : List Int), vs = [.ref a] ∧ SqL K H a (ns.map V.int) ∧ ns.length ≤ 63 ∧
  ∀ (p q : Addr) (H' : Hp), Same H H' → H p = none → p ≠ q → H' q = some (.lst (ns.map V.int)) → H' p = some (.lst [.ref q, .int 0, .int 0]) → Q (.ref p) H'
/-! ### the law -/
def lawEnd (r : Res (Fl × En)) : Res PyData := match r with
  | .ok (.rt d, _) => .ok d
  | _ => .bad
def startL (n : Nat) (ns : List Int) : En := .no :: .ow (penD ns) :: List.replicate (n - 2) .no
def spLaw (body : Sn) (n : Nat) (K : PySem.W.Frag) : Sp := fun vs H Q _ => ∃ (a : Addr) (ns : List Int), vs = [.ref a] ∧ SqL K H a (ns.map V.int) ∧ ns.length ≤ 63 ∧
  lawEnd (body (startL n ns)) = .ok (.bool true) ∧ ∀ H', Q (.bl true) H'
section
variable {P : Program} {w : World} {K : PySem.W.Frag} {mg : Str → Option Value} {base : Heap}
theorem rs_law {H H' : Hp} {p q : Addr} {ns : List Int} {v0 : V} {n : Nat} (hn : 2 ≤ n) (hl : ns.length ≤ 63) (sm : Same H H') (hp : H p = none) (hne : p ≠ q) (eq : H' q = some (.lst (ns.map V.int))) (ep : H' p = some (.lst [.ref q, .int 0, .int 0])) :
    RS ⟨K, H, [], []⟩ [p] H' (some v0 :: some (.ref p) :: List.replicate (n - 2) none) (startL n ns) where
  len := by simp [startL]
  keep := .of_same sm
  pin := fun a h => nomatch h
  sub := fun a h => nomatch h
  live := fun a h => by
    rcases List.mem_singleton.mp h with rfl
    rw [ep]; exact fun z => nomatch z
  sh := fun i d e => by
    match i, e with
    | 0, e => cases e
    | 1, e => cases e
    | i + 2, e =>
      have e' : (List.replicate (n - 2) Sl.no)[i]? = some (Sl.sh d) := e
      have := List.eq_of_mem_replicate (List.mem_of_getElem? e')
      cases this
  ow := fun i d e => by
    match i, e with
    | 0, e => cases e
    | 1, e =>
      have e' : some (Sl.ow (penD ns)) = some (Sl.ow d) := e
      cases e'
      refine ⟨p, rfl, ⟨_, ep, ?_, ?_⟩, List.mem_singleton.mpr rfl, .inr ⟨hp, (fun h => nomatch h), by decide⟩⟩
      · show 3 ≤ sizeLine
        decide
      · refine .cons (.lst eq (fun h => hne (List.mem_singleton.mp h).symm) ?_ (ints_rp ns)) (.cons (.int 0) (.cons (.int 0) .nil))
        rw [List.length_map]
        exact Nat.le_trans hl (by decide)
    | i + 2, e =>
      have e' : (List.replicate (n - 2) Sl.no)[i]? = some (Sl.ow d) := e
      have := List.eq_of_mem_replicate (List.mem_of_getElem? e')
      cases this
  dist := fun i j d e a h1 h2 _ _ => by
    have one : ∀ (i : Nat) (d : PyData), (startL n ns)[i]? = some (Sl.ow d) → i = 1 := fun i d h => by
      match i, h with
      | 0, h => cases h
      | 1, h => rfl
      | i + 2, h =>
        have e' : (List.replicate (n - 2) Sl.no)[i]? = some (Sl.ow d) := h
        have := List.eq_of_mem_replicate (List.mem_of_getElem? e')
        cases this
    rw [one i d h1, one j e h2]
theorem fn_law {x qual y : Str} {st : Stmt} {f : Addr} {fd : FuncData} {N : List Str} {k : Nat} {body : Sn} {st1 : Stmt} {rest : List Stmt} (F : Fun K x qual st f fd) (S : FnScope N [y] (defScope st)) (hn : 2 ≤ N.length) (hst : defBody st = st1 :: rest)
    (h1 : ∀ (cdv : Value) (A : Around) (outer : List Env) (s : Shared) (H : Hp) (E : XK), A.guards = some [] → Room k (A.deeper (envOfC qual (defScope st) s.heap.objs.size f cdv)) → ∃ E', PS (cxOf CX0 P w K mg base N qual (defScope st) f cdv A outer s H E).nox st1 (tAsg (tCall (spPen K) [] E' (tCons (tVar 0) tNil)) (L2.gName 1)))
    (hb : ∀ (cdv : Value) (A : Around) (outer : List Env) (s : Shared) (H : Hp) (E : XK), A.guards = some [] → Room k (A.deeper (envOfC qual (defScope st) s.heap.objs.size f cdv)) → DSs (cxOf CX0 P w K mg base N qual (defScope st) f cdv A outer s H E).nox rest body)
    : FnG P w K mg base (k + 1) f fd [y] (spLaw body N.length K) := by
  refine fn_body F S (fun vs H Q E h => ?_) (fun cdv A outer s H vs Q E hg hr h => ?_)
  · obtain ⟨a, ns, rfl, _⟩ := h
    rfl
  · obtain ⟨a, ns, rfl, hS, hl, hv, hq⟩ := h
    obtain ⟨E', p1⟩ := h1 cdv A outer s H E hg hr
    obtain ⟨t, pt, ev⟩ := hb cdv A outer s H E hg hr
    rw [hst]
    refine ⟨_, pss_cons p1 pt, ?_⟩
    show (tCall (spPen K) [] E' (tCons (tVar 0) tNil)) (L2.start N [.ref a]) H _
    have e0 : L2.start N [V.ref a] = some (.ref a) :: none :: List.replicate (N.length - 2) none := by
      unfold L2.start
      obtain ⟨m, hm⟩ : ∃ m, N.length = m + 2 := ⟨N.length - 2, by omega⟩
      rw [hm]
      rfl
    rw [e0]
    refine ⟨.ref a, rfl, a, ns, rfl, hS, hl, fun p q H' sm hp hne eq ep => ?_⟩
    refine ev ⟨K, H, [], []⟩ [p] H' _ (startL N.length ns) _ rfl (rs_law hn hl sm hp hne eq ep) ?_
    unfold lawEnd at hv
    generalize body (startL N.length ns) = r at hv
    match r, hv with
    | .ok (.rt d, en), hv =>
      cases hv
      intro v σ' H2 O' _ _ rp
      cases rp
      exact hq H2
end
/-! ### the end -/
theorem law_callG {P : Program} {w : World} {K : PySem.W.Frag} {mg mb : Str → Option Value} {k : Nat} {fa a : Addr} {fd : FuncData} {x : Str} {sp : Sp} {t : Shared} {vs : List Value} {ns : List Int}
    (kin : K.In t.heap) (nsg : t.heap.Ns mainGlobals mg) (nsb : t.heap.Ns builtinsNs mb) (bb : ∀ x : Str, x ≠ "__name__" → mb x = bootBuiltins x) (lim : t.heap.NoLimit) (gen : t.gens = #[])
    (obj : t.heap.get? a = some { cls := .type "list", data := .seq vs.toArray }) (isI : IntsAre vs ns) (len : ns.length ≤ sizeLine) (room : Room k callerA)
    (F : ∀ base : Heap, K.In base → base.Ns mainGlobals mg → FnG P w K mg base k fa fd [x] sp) (bind : ∀ (s : Shared) (u : Value), BindsTo s fd ⟨[u], []⟩ [(x, u)])
    (hsp : ∀ H : Hp, Only H → SqL K H a (ns.map V.int) → sp [.ref a] H (fun v _ => v = .bl true) fun _ _ _ => False) :
    codeAny (model P w) callerA (.call (.ref fa) ⟨[.ref a], []⟩) (fun r u => r = .ok (.ret (.bool true)) ∧ OldK t.heap u.heap ∧ u.os = t.os ∧ AllBare u.gens) t := by
  have rel := vals_ints isI
  have size := isI.length
  have main : ∀ H : Hp, Only H → SqL K H a (ns.map V.int) → HOk P w H t.heap → (∀ b, H b ≠ none → b = a) → (H a ≠ none → K.lookup a = none) →
      codeAny (model P w) callerA (.call (.ref fa) ⟨[.ref a], []⟩) (fun r u => r = .ok (.ret (.bool true)) ∧ OldK t.heap u.heap ∧ u.os = t.os ∧ AllBare u.gens) t := by
    intro H only sq hok only_a free_a
    have dictFree : ∀ {b : Addr} {o : Obj} {es : Array DictEntry} {ep : Nat}, t.heap.get? b = some o → o.data = .dict es ep → H b = none := by
      intro b o es ep e d
      cases q : H b with
      | none => rfl
      | some u =>
        obtain rfl : b = a := only_a b (by rw [q]; exact fun z => nomatch z)
        rw [obj] at e
        cases e
        cases (show Data.seq vs.toArray _ = Data.dict es ep from d)
    have spaces : ∀ {b : Addr} {m : Str → Option Value}, t.heap.Ns b m → (hidT t.heap H).Ns b m := by
      rintro b m ⟨o, es, ep, e, d, r⟩
      exact ⟨o, es, ep, hidT_get e (dictFree e d), d, r⟩
    have kin' : K.In (hidT t.heap H) := by
      intro b o e
      refine hidT_get (kin b o e) ?_
      cases q : H b with
      | none => rfl
      | some u =>
        obtain rfl : b = a := only_a b (by rw [q]; exact fun z => nomatch z)
        rw [free_a (by rw [q]; exact fun z => nomatch z)] at e
        cases e
    have lim' : (hidT t.heap H).NoLimit := by
      obtain ⟨mc, l1, l2⟩ := lim
      exact ⟨mc, spaces l1, l2⟩
    have around : Env0 P w K mg (hidT t.heap H) callerA [] t H :=
      ⟨rfl, ⟨kin', spaces nsg, ⟨mb, spaces nsb, bb⟩, lim'⟩, fun b o e => of_hidT e, Nat.le_of_eq (hidT_size _ _), trivial, (fun b hb => nomatch (show b ∈ ([] : List Addr) from hb)), hok, .of_eq gen⟩
    have ran := (F _ kin' (spaces nsg)).run callerA [] t H ⟨[.ref a], []⟩ [.ref a] [.ref a] _ _ rfl room around (bind t (.ref a)) (.cons rfl .nil) (hsp H only sq)
    refine codeAny_mono ran fun r u h => ?_
    match r, h with
    | .error e, h => exact (show False from h).elim
    | .ok .next, h => exact (show False from h).elim
    | .ok .brk, h => exact (show False from h).elim
    | .ok .cont, h => exact (show False from h).elim
    | .ok (.ret z), h =>
      obtain ⟨v, H', os, bare, un, hok', r', q⟩ := h
      obtain rfl : v = .bl true := q
      obtain rfl : z = Value.bool true := r'
      refine ⟨rfl, OldK.of_keep fun b o e => ?_, os, bare⟩
      rcases only b with n | ⟨ob, xs, n⟩
      · exact un.keep b o e n (fun z => nomatch (show b ∈ ([] : List Addr) from z)) (fun z => nomatch z)
      · have g1 := (hok b _ n).1
        have g2 := (hok' b _ (un.frzs b ob _ n)).1
        rw [e] at g1
        cases g1
        exact g2
  cases hk : K.lookup a with
  | some o =>
    have e := kin a o hk
    rw [obj] at e
    cases e
    refine main (fun _ => none) (fun _ => .inl rfl) (.inr ⟨_, vs.toArray, _, hk, rfl, rfl, rfl, ?_, ?_⟩) (fun b u z => ?_) (fun b z => absurd rfl z) fun z => absurd rfl z
    · rw [List.size_toArray, size]; exact len
    · simpa using rel
    · cases (show (none : Option HO) = some u from z)
  | none =>
    have at_a : (if a = a then some (HO.frz { cls := .type "list", data := .seq vs.toArray } (.lst (ns.map V.int))) else none) = some (HO.frz { cls := .type "list", data := .seq vs.toArray } (.lst (ns.map V.int))) := if_pos rfl
    refine main (fun b => if b = a then some (HO.frz { cls := .type "list", data := .seq vs.toArray } (.lst (ns.map V.int))) else none) (fun b => ?_) (.inl (.inr ⟨_, at_a⟩)) (fun b u z => ?_) (fun b z => ?_) fun _ => hk
    · by_cases hb : b = a
      · exact .inr ⟨_, _, if_pos hb⟩
      · exact .inl (if_neg hb)
    · by_cases hb : b = a
      · subst hb
        cases (at_a.symm.trans z)
        exact ⟨obj, by rw [List.length_map]; exact len, vs, _, rel, obj⟩
      · cases ((if_neg hb).symm.trans z)
    · exact Decidable.byContradiction fun hb => z (if_neg hb)
theorem walk_G {l : PySem.W.OpenLaw} {n k : Nat} {q : Program} {loose : List Str} {XP : (Str → Option Value) → Heap → Prop} {YP : World → Heap → Prop} {d : DefRec} {K : Params → PySem.W.Frag} {sp : World → Sp} {x : Str}
    (most : l.most = some n) (small : n ≤ sizeLine) (plain : d.params.defaults = []) (room : Room k callerA) (part : ∀ (w : World) (h : Heap), YP w h → (K w.params).In h)
    (F : ∀ (w : World) (mg : Str → Option Value) (fa : Addr) (h : Heap), (K w.params).In h → h.Ns mainGlobals mg → mg d.name = some (.ref fa) →
      ∃ fd : FuncData, (∀ (s : Shared) (u : Value), BindsTo s fd ⟨[u], []⟩ [(x, u)]) ∧ ∀ base : Heap, (K w.params).In base → base.Ns mainGlobals mg → FnG l.prog w (K w.params) mg base k fa fd [x] (sp w))
    (hsp : ∀ (w : World) (H : Hp) (a : Addr) (ns : List Int), ns.length ≤ n → Only H → SqL (K w.params) H a (ns.map V.int) → sp w [.ref a] H (fun v _ => v = .bl true) fun _ _ _ => False) :
    PySem.W.WalkO q loose XP YP l.row.toRowW d [] (fun f vs => PySem.call f vs) :=
  Att.attach_call most plain fun w s₀ t mg mb fa o pm cd doc a vs ns G Y ho hd hcd hmg hobj hints hlen hg => by
    have kin := part w _ Y
    obtain ⟨fd, hb, hF⟩ := F w mg fa _ kin G.T.g hmg
    exact law_callG kin G.T.g G.T.b G.T.builtins G.T.nolimit hg hobj hints (Nat.le_trans hlen small) room hF hb fun H hO hS => hsp w H a ns hlen hO hS
end EL

set_option maxHeartbeats 2000000
/-! DLwa: a dict is no text. -/
namespace PySem.SeqAt
open AutoSeq1 (wpAny_loadPart')
open MeetsSeq
theorem dict_eq_declines_str (l : Addr) (o : Obj) (hc : o.cls = .type "dict") (b : Str) (u : Tok) :
    Meets (Builtin.«dict.__eq__» ⟨[.ref l, .str b u], []⟩) (fun _ R s => s.heap.get? l = some o ∧ R (.ok (.ret .notImplemented)) s) :=
  .of_wp fun prog w A R s h => by
    obtain ⟨cls, dd, data, sl⟩ := o
    simp only at hc
    subst hc
    obtain ⟨hp, g, d, tk, os⟩ := s; obtain ⟨hl, h⟩ := h; have f1 := F.sub_str_dict; wp_walk using wpAny_loadPart' hl; exact ⟨_, rfl, h⟩
theorem str_eq_declines_dict (b : Str) (u : Tok) (l : Addr) (o : Obj) (hc : o.cls = .type "dict") {es : Array DictEntry} {ep : Nat} (hn : o.data = .dict es ep) :
    Meets (Builtin.«str.__eq__» ⟨[.str b u, .ref l], []⟩) (fun _ R s => s.heap.get? l = some o ∧ R (.ok (.ret .notImplemented)) s) :=
  .of_wp fun prog w A R s h => by
    obtain ⟨cls, dd, data, sl⟩ := o
    simp only at hc hn
    subst hc hn
    obtain ⟨hp, g, d, tk, os⟩ := s; obtain ⟨hl, h⟩ := h
    wp_walk using wpAny_loadPart' hl, wpAny_load hl; exact ⟨_, rfl, h⟩
theorem RcAt.dict_str {A : Around} {s : Shared} {l : Addr} {o : Obj} (b : Str) (u : Tok) (ho : s.heap.get? l = some o) (hc : o.cls = .type "dict") {es : Array DictEntry} {ep : Nat} (hn : o.data = .dict es ep) (hu : A.units < cLine) : RcAt A s (.ref l) (.str b u) false := fun prog w E Q h =>
  rc_eq_decline_or (k := false) ⟨_, ho, hc⟩ (typeIs_str s b u) (by decide) F.sub_str_dict F.slot_dict_eq F.slot_str_eq_refl
    (fun _ hq => call_meets F.slot_dict_eq ⟨_, ho, hc⟩ F.entry_dict_eq (F.args_dict_eq_2 _ _) (dict_eq_declines_str l o hc b u) ⟨ho, hq⟩)
    (fun _ hq => call_meets F.slot_str_eq_refl (typeIs_str s b u) F.entry_str_eq (F.args_str_eq_2 _ _) (str_eq_declines_dict b u l o hc hn) ⟨ho, hq⟩)
    (fun _ hq => wpAny_of_eq (rfl : isSame (.ref l) (.str b u) = pure false) hq) (.inr hu) h
theorem dict_eq_declines_int (l : Addr) (o : Obj) (hc : o.cls = .type "dict") (b : Int) (u : Tok) :
    Meets (Builtin.«dict.__eq__» ⟨[.ref l, .int b u], []⟩) (fun _ R s => s.heap.get? l = some o ∧ R (.ok (.ret .notImplemented)) s) :=
  .of_wp fun prog w A R s h => by
    obtain ⟨cls, dd, data, sl⟩ := o
    simp only at hc
    subst hc
    obtain ⟨hp, g, d, tk, os⟩ := s; obtain ⟨hl, h⟩ := h; have f1 := F.sub_int_dict; wp_walk using wpAny_loadPart' hl; exact ⟨_, rfl, h⟩
theorem int_eq_declines_dict (b : Int) (u : Tok) (l : Addr) (o : Obj) (hc : o.cls = .type "dict") {es : Array DictEntry} {ep : Nat} (hn : o.data = .dict es ep) :
    Meets (Builtin.«int.__eq__» ⟨[.int b u, .ref l], []⟩) (fun _ R s => s.heap.get? l = some o ∧ R (.ok (.ret .notImplemented)) s) :=
  .of_wp fun prog w A R s h => by
    obtain ⟨cls, dd, data, sl⟩ := o
    simp only at hc hn
    subst hc hn
    obtain ⟨hp, g, d, tk, os⟩ := s; obtain ⟨hl, h⟩ := h
    wp_walk using wpAny_loadPart' hl, wpAny_load hl; exact ⟨_, rfl, h⟩
theorem RcAt.dict_int {A : Around} {s : Shared} {l : Addr} {o : Obj} (b : Int) (u : Tok) (ho : s.heap.get? l = some o) (hc : o.cls = .type "dict") {es : Array DictEntry} {ep : Nat} (hn : o.data = .dict es ep) (hu : A.units < cLine) : RcAt A s (.ref l) (.int b u) false := fun prog w E Q h =>
  rc_eq_decline_or (k := false) ⟨_, ho, hc⟩ (typeIs_int s b u) (by decide) F.sub_int_dict F.slot_dict_eq F.slot_int_eq_refl
    (fun _ hq => call_meets F.slot_dict_eq ⟨_, ho, hc⟩ F.entry_dict_eq (F.args_dict_eq_2 _ _) (dict_eq_declines_int l o hc b u) ⟨ho, hq⟩)
    (fun _ hq => call_meets F.slot_int_eq_refl (typeIs_int s b u) F.entry_int_eq (F.args_int_eq_2 _ _) (int_eq_declines_dict b u l o hc hn) ⟨ho, hq⟩)
    (fun _ hq => wpAny_of_eq (rfl : isSame (.ref l) (.int b u) = pure false) hq) (.inr hu) h
end PySem.SeqAt
namespace EL
open PySem PySem.Spec PyProof.Rows L2
theorem op_eq_dS {X : Cx} (hu : X.A.units < cLine) : OpR X (compareOp .Eq) (fun x y H Q => ∃ a o kvs z, x = .ref a ∧ y = .str z ∧ H a = some (.frz o (.dK kvs)) ∧ Q (.bl false) H) := by
  intro pins s σ H x y v u Q I rx ry h
  obtain ⟨a, o, kvs, z, rfl, rfl, ea, q⟩ := h
  obtain rfl : v = Value.ref a := rx
  obtain ⟨t, rfl⟩ := ry
  obtain ⟨e, _, ya, va, ra, ob, es, ep, e2, c⟩ := (show ObjOk X.prog X.w H s.heap a (.frz o (.dK kvs)) from I.hok a _ ea)
  have eo : ob = o := Option.some.inj (e2.symm.trans e)
  subst eo
  exact SeqAt.RcAt.dict_str z t e c.1.1 c.2.1 hu X.prog X.w _ _ ⟨.bl false, H, I, ⟨rfl, q⟩⟩
theorem op_eq_dI {X : Cx} (hu : X.A.units < cLine) : OpR X (compareOp .Eq) (fun x y H Q => ∃ a o kvs, ∃ z : Int, x = .ref a ∧ y = .int z ∧ H a = some (.frz o (.dK kvs)) ∧ Q (.bl false) H) := by
  intro pins s σ H x y v u Q I rx ry h
  obtain ⟨a, o, kvs, z, rfl, rfl, ea, q⟩ := h
  obtain rfl : v = Value.ref a := rx
  obtain ⟨t, rfl⟩ := ry
  obtain ⟨e, _, ya, va, ra, ob, es, ep, e2, c⟩ := (show ObjOk X.prog X.w H s.heap a (.frz o (.dK kvs)) from I.hok a _ ea)
  have eo : ob = o := Option.some.inj (e2.symm.trans e)
  subst eo
  exact SeqAt.RcAt.dict_int z t e c.1.1 c.2.1 hu X.prog X.w _ _ ⟨.bl false, H, I, ⟨rfl, q⟩⟩
end EL

set_option maxHeartbeats 2000000
/-! DLwb: lists of unlike lengths, and empty ones, compared: no item is looked at. -/
namespace EL
open PySem PySem.Spec PyProof.Rows L2
/-- two lists of unlike lengths, or both empty -/
def rLen (K : PySem.W.Frag) (neg : Bool) : R2 := fun x y H Q => ∃ a b xs ys, x = .ref a ∧ y = .ref b ∧ SqL K H a xs ∧ SqL K H b ys ∧ (xs.length = ys.length → xs = []) ∧ Q (.bl (if neg then !(xs.length == ys.length) else xs.length == ys.length)) H
section
variable {X : Cx}
theorem lists_in {pins : List (Addr × Obj)} {σ : L2.St} {H : Hp} {s : Shared} {a b : Addr} {xs ys : List V} (I : Inv X pins σ H s) (ha : SqL X.K H a xs) (hb : SqL X.K H b ys) : ∃ us ws : Array Value, s.heap.IsList a us ∧ s.heap.IsList b ws ∧ us.size = xs.length ∧ ws.size = ys.length := by
  obtain ⟨us, r1, p1, _⟩ := I.list ha
  obtain ⟨ws, r2, p2, _⟩ := I.list hb
  exact ⟨us.toArray, ws.toArray, p1.isList, p2.isList, by rw [List.size_toArray, r1.length], by rw [List.size_toArray, r2.length]⟩
theorem op_eqLen (hu : X.A.units < cLine) : OpR X (compareOp .Eq) (rLen X.K false) := by
  intro pins s σ H x y v u Q I rx ry h
  obtain ⟨a, b, xs, ys, rfl, rfl, ha, hb, hl, q⟩ := h
  obtain rfl : v = Value.ref a := rx
  obtain rfl : u = Value.ref b := ry
  obtain ⟨us, ws, p1, p2, e1, e2⟩ := lists_in I ha hb
  by_cases hz : xs.length = ys.length
  · have q : Q (.bl (xs.length == ys.length)) H := q
    rw [beq_iff_eq.mpr hz] at q
    have z : us.size = 0 := by rw [e1, hl hz]; rfl
    refine SeqAt.eq_listAt (e := fun _ => true) p1 p2 (by rw [e1, e2, hz]) hu (fun j h1 _ => by omega) ?_
    rw [z]
    exact ⟨.bl true, H, I, rfl, q⟩
  · have q : Q (.bl (xs.length == ys.length)) H := q
    rw [beq_eq_false_iff_ne.mpr hz] at q
    exact SeqAt.eq_list_lengthsAt p1 p2 (by rw [e1, e2]; simpa using hz) hu ⟨.bl false, H, I, rfl, q⟩
theorem op_neLen (hu : X.A.units < cLine) : OpR X (compareOp .NotEq) (rLen X.K true) := by
  intro pins s σ H x y v u Q I rx ry h
  obtain ⟨a, b, xs, ys, rfl, rfl, ha, hb, hl, q⟩ := h
  obtain rfl : v = Value.ref a := rx
  obtain rfl : u = Value.ref b := ry
  obtain ⟨us, ws, p1, p2, e1, e2⟩ := lists_in I ha hb
  by_cases hz : xs.length = ys.length
  · have q : Q (.bl (!(xs.length == ys.length))) H := q
    rw [beq_iff_eq.mpr hz] at q
    have z : us.size = 0 := by rw [e1, hl hz]; rfl
    refine SeqAt.RcNeAt.lists (e := fun _ => true) p1 p2 (by rw [e1, e2, hz]) hu (fun j h1 _ => by omega) X.prog X.w _ _ ?_
    rw [z]
    exact ⟨.bl false, H, I, rfl, q⟩
  · have q : Q (.bl (!(xs.length == ys.length))) H := q
    rw [beq_eq_false_iff_ne.mpr hz] at q
    exact SeqAt.RcNeAt.lists_lengths p1 p2 (by rw [e1, e2]; simpa using hz) hu X.prog X.w _ _ ⟨.bl true, H, I, rfl, q⟩
end
end EL

set_option maxHeartbeats 2000000
namespace EL
open PySem PySem.Spec PyProof.Rows L2
variable [Wsh] [Tbx]
theorem h1 {k : Nat} {A : Around} (r : Room k A) : A.units + 1 < cLine := by have := r.un; omega
theorem h64 {k : Nat} {A : Around} (r : Room k A) : A.units + 64 < cLine := by have := r.un; omega
theorem h65 {k : Nat} {A : Around} (r : Room k A) : A.units + 65 < cLine := by have := r.un; omega
theorem h66 {k : Nat} {A : Around} (r : Room k A) : A.units + 66 < cLine := by have := r.un; omega
/-! ### ==, != -/
def gEqA : PyData → PyData → Res PyData
  | .str x, .str y => .ok (.bool (decide (x = y)))
  | .dict kds, .str _ => if instD kds = true then .bad else .ok (.bool false)
  | .dict kds, .int _ => if instD kds = true then .bad else .ok (.bool false)
  | .list ds, .list es => if (ds.length == es.length && !ds.isEmpty) = true then gEq (.list ds) (.list es) else .ok (.bool (ds.length == es.length))
  | x, y => gEq x y
def gNeA : PyData → PyData → Res PyData
  | .str x, .str y => .ok (.bool (!decide (x = y)))
  | .list ds, .list es => if (ds.length == es.length && !ds.isEmpty) = true then gNe (.list ds) (.list es) else .ok (.bool (!(ds.length == es.length)))
  | x, y => gNe x y
def rEqS : R2 := fun x y H Q => ∃ a o kvs z, x = .ref a ∧ y = .str z ∧ H a = some (.frz o (.dK kvs)) ∧ Q (.bl false) H
def rEqI : R2 := fun x y H Q => ∃ a o kvs, ∃ z : Int, x = .ref a ∧ y = .int z ∧ H a = some (.frz o (.dK kvs)) ∧ Q (.bl false) H
abbrev rEqA (K : PySem.W.Frag) : R2 := fun x y H Q => (fun x y H Q => (fun x y H Q => rEqS x y H Q ∨ rEqI x y H Q) x y H Q ∨ rLen K false x y H Q) x y H Q ∨ (fun x y H Q => rEq x y H Q ∨ rEqD K x y H Q) x y H Q
abbrev rNeA (K : PySem.W.Frag) : R2 := fun x y H Q => rLen K true x y H Q ∨ (fun x y H Q => rNe x y H Q ∨ rNeD K x y H Q) x y H Q
theorem op_eqA {X : Cx} (hu : X.A.units + 64 < cLine) : OpR X (compareOp .Eq) (rEqA X.K) := (((op_eq_dS (by omega)).or (op_eq_dI (by omega))).or (op_eqLen (by omega))).or (op_eq.or (op_eqD hu))
theorem op_neA {X : Cx} (hu : X.A.units + 64 < cLine) : OpR X (compareOp .NotEq) (rNeA X.K) := (op_neLen (by omega)).or (op_ne.or (op_neD hu))
theorem dec_str {x y : Str} : decide (V.str x = V.str y) = decide (x = y) := by
  by_cases h : x = y
  · subst h; simp
  · rw [decide_eq_false h]
    exact decide_eq_false fun z => h (V.str.inj z)
theorem gEqA_ok {K : PySem.W.Frag} : OpD K (rEqA K) gEqA := by
  intro O H x y dx dy Q l rx ry h
  by_cases hd : ∃ kds b, dx = .dict kds ∧ dy = .str b
  · obtain ⟨kds, b, rfl, rfl⟩ := hd
    have h : PoV K O H (if instD kds = true then .bad else .ok (.bool false)) Q := h
    cases ry
    cases rx with
    | dic e n z a =>
      split at h
      · exact h.elim
      · exact .inl (.inl (.inl ⟨_, _, _, _, rfl, rfl, e, h.okE (.bl _)⟩))
    | ins _ _ _ _ _ => exact h.elim
    | exc _ _ _ _ _ _ _ => exact h.elim
  by_cases hi : ∃ kds b, dx = .dict kds ∧ dy = .int b
  · obtain ⟨kds, b, rfl, rfl⟩ := hi
    have h : PoV K O H (if instD kds = true then .bad else .ok (.bool false)) Q := h
    cases ry
    cases rx with
    | dic e n z a =>
      split at h
      · exact h.elim
      · exact .inl (.inl (.inr ⟨_, _, _, _, rfl, rfl, e, h.okE (.bl _)⟩))
    | ins _ _ _ _ _ => exact h.elim
    | exc _ _ _ _ _ _ _ => exact h.elim
  by_cases hl : ∃ ds es, dx = .list ds ∧ dy = .list es
  · obtain ⟨ds, es, rfl, rfl⟩ := hl
    have h : PoV K O H (if (ds.length == es.length && !ds.isEmpty) = true then gEq (.list ds) (.list es) else .ok (.bool (ds.length == es.length))) Q := h
    by_cases hz : (ds.length == es.length && !ds.isEmpty) = true
    · rw [if_pos hz] at h
      exact .inr (.inr (gEq_ok O H x y _ _ Q l rx ry h))
    · rw [if_neg hz] at h
      obtain ⟨a, xs, rfl, g1, _, _, g4⟩ := rx.lstI
      obtain ⟨b, ys, rfl, k1, _, _, k4⟩ := ry.lstI
      refine .inl (.inr ⟨a, b, xs, ys, rfl, rfl, .inl (.inl g1), .inl (.inl k1), fun e => ?_, by rw [g4.length, k4.length]; exact h.okE (.bl _)⟩)
      cases xs with
      | nil => rfl
      | cons v vs =>
        exfalso
        refine hz ?_
        rw [g4.length, k4.length] at e
        cases ds with
        | nil => cases g4
        | cons _ _ => rw [beq_iff_eq.mpr e]; rfl
  refine .inr ?_
  by_cases hs : ∃ a b, dx = .str a ∧ dy = .str b
  · obtain ⟨a, b, rfl, rfl⟩ := hs
    cases rx
    cases ry
    refine .inl ⟨rfl, ?_⟩
    rw [dec_str]
    exact h.okE (.bl _)
  · refine .inr (gEq_ok O H x y dx dy Q l rx ry ?_)
    have e : gEqA dx dy = gEq dx dy := by
      unfold gEqA
      split
      · exact (hs ⟨_, _, rfl, rfl⟩).elim
      · exact (hd ⟨_, _, rfl, rfl⟩).elim
      · exact (hi ⟨_, _, rfl, rfl⟩).elim
      · exact (hl ⟨_, _, rfl, rfl⟩).elim
      · rfl
    rw [← e]
    exact h
theorem gNeA_ok {K : PySem.W.Frag} : OpD K (rNeA K) gNeA := by
  intro O H x y dx dy Q l rx ry h
  by_cases hl : ∃ ds es, dx = .list ds ∧ dy = .list es
  · obtain ⟨ds, es, rfl, rfl⟩ := hl
    have h : PoV K O H (if (ds.length == es.length && !ds.isEmpty) = true then gNe (.list ds) (.list es) else .ok (.bool (!(ds.length == es.length)))) Q := h
    by_cases hz : (ds.length == es.length && !ds.isEmpty) = true
    · rw [if_pos hz] at h
      exact .inr (.inr (gNe_ok O H x y _ _ Q l rx ry h))
    · rw [if_neg hz] at h
      obtain ⟨a, xs, rfl, g1, _, _, g4⟩ := rx.lstI
      obtain ⟨b, ys, rfl, k1, _, _, k4⟩ := ry.lstI
      refine .inl ⟨a, b, xs, ys, rfl, rfl, .inl (.inl g1), .inl (.inl k1), fun e => ?_, by rw [g4.length, k4.length]; exact h.okE (.bl _)⟩
      cases xs with
      | nil => rfl
      | cons v vs =>
        exfalso
        refine hz ?_
        rw [g4.length, k4.length] at e
        cases ds with
        | nil => cases g4
        | cons _ _ => rw [beq_iff_eq.mpr e]; rfl
  refine .inr ?_
  by_cases hs : ∃ a b, dx = .str a ∧ dy = .str b
  · obtain ⟨a, b, rfl, rfl⟩ := hs
    cases rx
    cases ry
    refine .inl ⟨rfl, ?_⟩
    rw [dec_str]
    exact h.okE (.bl _)
  · refine .inr (gNe_ok O H x y dx dy Q l rx ry ?_)
    have e : gNeA dx dy = gNe dx dy := by
      unfold gNeA
      split
      · exact (hs ⟨_, _, rfl, rfl⟩).elim
      · exact (hl ⟨_, _, rfl, rfl⟩).elim
      · rfl
    rw [← e]
    exact h
theorem bindsK {K : PySem.W.Frag} {x qual : Str} {st : Stmt} {f : Addr} {fd : FuncData} {ps : List Str} (F : Fun K x qual st f fd)
    (h : ∀ (kV doc pm : Value) (an : Option Addr) (cdv ct : Value) (us : List Value), us.length = ps.length → bindArgs (PySem.W.fnOf x qual (defArgs st) (defBody st) (defScope st) .none kV doc pm an cdv ct) ⟨[], ps.zip us⟩ = pure (ps.zip us)) :
    ∀ (s : Shared) (ws : List Value), ws.length = ps.length → BindsTo s fd ⟨[], ps.zip ws⟩ (ps.zip ws) := by
  obtain ⟨oc, od, kV, doc, pm, an, cdv, ct, osl, rfl, lk, hcd⟩ := F.ex
  intro s ws hl
  exact .of_eq (h kV doc pm an cdv ct ws hl)
theorem cut63 {xs : List V} (h : xs.length ≤ 63) : cutV xs none (some 63) = xs := by
  unfold cutV
  rw [HT.sIx_none, show HT.sIx xs.length xs.length (some 63) = min 63 xs.length from HT.sIx_nat xs.length xs.length 63, show min 63 xs.length = xs.length by omega, List.drop_zero, Nat.sub_zero]
  exact List.take_length
section
variable {X : Cx} {pos p1 p2 p3 p4 p5 p6 p7 p8 p9 : Pos} {j1 j2 j3 : Nat}
/-- [list(script[:63]), 0, 0] -/
theorem pen_body (hn : X.mg "list" = none) (hg : Gl X "list") (h0 : X.N[(0 : Nat)]? = some "_law_script") (hv : Vis X.env.scope "_law_script")
    (e1 : starEach [Expr.Subscript (.Name "_law_script" p2) (.Slice none (some (.Constant (.int 63) j1 p3)) none p4) p5] X.env = (false, eval (Expr.Subscript (.Name "_law_script" p2) (.Slice none (some (.Constant (.int 63) j1 p3)) none p4) p5) X.env) :: starEach [] X.env := by rfl) :
    ∃ t, PSs X [.Return (some (.List [.Call (.Name "list" p1) [Expr.Subscript (.Name "_law_script" p2) (.Slice none (some (.Constant (.int 63) j1 p3)) none p4) p5] [] p6, .Constant (.int 0) j2 p7, .Constant (.int 0) j3 p8] p9)) pos] t ∧
      ∀ (a : Addr) (ns : List Int) (σ : L2.St) (H : Hp) (D : Ends), σ[(0 : Nat)]? = some (some (.ref a)) → SqL X.K H a (ns.map V.int) → ns.length ≤ 63 →
        (∀ (p q : Addr) (H' : Hp), Same H H' → H p = none → p ≠ q → H' q = some (.lst (ns.map V.int)) → H' p = some (.lst [.ref q, .int 0, .int 0]) → D.rt (.ref p) H') → t D σ H := by
  refine ⟨_, pss_one (ps_ret (pe_lst (pa_cons (pe_callTy call_list_of hg hn boot_list (pa_cons (pe_slice sl_list (pe_var h0 hv) po_none (po_some pe_int)) pa_nil) (by decide) (by decide) rfl rfl) (pa_cons pe_int (pa_cons pe_int pa_nil))))), ?_⟩
  intro a ns σ H D hσ hS hl hq
  refine ⟨.ref a, hσ, 63, rfl, a, ns.map V.int, rfl, hS, fun c nc => ?_⟩
  refine ⟨c, _, rfl, .inl (.inl (.inl upd_same)), fun l nl => ⟨by show 3 ≤ sizeLine; decide, fun p np => ?_⟩⟩
  have ncl : c ≠ l := fun z => by rw [← z, upd_same] at nl; cases nl
  have ncp : c ≠ p := fun z => by rw [← z, upd_ne ncl, upd_same] at np; cases np
  have nlp : l ≠ p := fun z => by rw [← z, upd_same] at np; cases np
  have s1 : Same H (upd H c (.lst (cutV (ns.map V.int) none (some 63)))) := same_new nc
  have hp : H p = none := by
    rw [upd_ne nlp.symm, upd_ne ncp.symm] at np
    exact np
  refine hq p l _ ((s1.trans (same_new nl)).trans (same_new np)) hp nlp.symm ?_ upd_same
  rw [upd_ne nlp, upd_same, cut63 (by rw [List.length_map]; exact hl)]
end
end EL

set_option maxHeartbeats 2000000
namespace EL
open PySem PySem.Spec PyProof.Rows L2
variable [Wsh] [Tbx]
/-! ### constants of the module -/
section
variable {K : PySem.W.Frag} {w : World}
end
end EL

set_option maxHeartbeats 2000000
namespace EL
open PySem PySem.Spec PyProof.Rows L2
variable [Wsh] [Tbx]
/-! ### the draw -/
def bDraw (a0 a1 a2 a3 a4 a5 a6 : Int) : Sn := (sSeq (sIf (EL.tB (dOp gGt (dIxO 0 (dCst (.int (2)))) (dCst (.int (0))))) (sSeq (sSet 5 (dOp gMod (dApp (g1 gInt) (dCons (dIxO 0 (dCst (.int (2)))) dNil)) (dVar 1)))
    (sSeq (sPut 0 (dOp gFdiv (dIxO 0 (dCst (.int (2)))) (dVar 1)) (dCst (.int (2))))
    (sRet (dVar 5)))) sNext)
    (sSeq (sSet 2 (dIxO 0 (dCst (.int (1)))))
    (sSeq (sPut 0 (dOp gAdd (dVar 2) (dCst (.int (1)))) (dCst (.int (1))))
    (sSeq (sSet 3 (dOp gAdd (dOp gMul (dCst (.int a0)) (dVar 2)) (dCst (.int a1))))
    (sSeq (sIf (EL.tB (dOp gNeA (dIxO 0 (dCst (.int (0)))) (dApp gLst dNil))) (sSet 3 (dOp gIxA (dIxO 0 (dCst (.int (0)))) (dOp gMod (dApp (g1 gInt) (dCons (dVar 2) dNil)) (dApp (g1 gLen) (dCons (dIxO 0 (dCst (.int (0)))) dNil))))) sNext)
    (sSeq (sIf (tAndD (EL.tB (dOp gLt (dVar 2) (dApp (g1 gLen) (dCons (dIxO 0 (dCst (.int (0)))) dNil)))) (EL.tB (dOp gGe (dApp (g1 gAbs) (dCons (dVar 3) dNil)) (dOp gPow (dCst (.int (10))) (dCst (.int (18))))))) (sSeq (sSet 6 (dOp gAdd (dOp gMul (dCst (.int (2))) (dOp gSub (dApp (g1 gAbs) (dCons (dVar 3) dNil)) (dOp gPow (dCst (.int (10))) (dCst (.int (18)))))) (dApp (g1 gInt) (dCons (dOp gLt (dVar 3) (dCst (.int (0)))) dNil))))
    (sSeq (sPut 0 (dOp gFdiv (dVar 6) (dVar 1)) (dCst (.int (2))))
    (sRet (dOp gMod (dApp (g1 gInt) (dCons (dVar 6) dNil)) (dVar 1))))) sNext)
    (sSeq (sSet 4 (dOp gMod (dApp (g1 gInt) (dCons (dOp gPow (dOp gAdd (dOp gAdd (dOp gMod (dApp (g1 gInt) (dCons (dVar 3) dNil)) (dCst (.int (2147483549)))) (dOp gMul (dCst (.int a2)) (dVar 2))) (dCst (.int a3))) (dCst (.int (5)))) dNil)) (dCst (.int (2147483629)))))
    (sSeq (sSet 4 (dOp gMod (dApp (g1 gInt) (dCons (dOp gPow (dOp gAdd (dOp gAdd (dOp gMul (dVar 4) (dOp gAdd (dOp gMul (dCst (.int (2))) (dVar 2)) (dCst (.int a4)))) (dOp gMul (dOp gMul (dCst (.int a5)) (dVar 2)) (dVar 2))) (dCst (.int a6))) (dCst (.int (3)))) dNil)) (dCst (.int (2147483587)))))
    (sRet (dOp gMod (dApp (g1 gInt) (dCons (dOp gFdiv (dVar 4) (dCst (.int (32)))) dNil)) (dVar 1)))))))))))
def penOf (ns : List Int) (t g : Int) : PyData := .list [.list (ns.map .int), .int t, .int g]
def PenOk (n : Nat) (pd : PyData) : Prop := ∃ (ns : List Int) (t g : Int), pd = penOf ns t g ∧ ns.length ≤ 63 ∧ 0 ≤ t ∧ t ≤ n
theorem gMod_pos {i j : Int} (h : 0 < j) : gMod (.int i) (.int j) = .ok (.int (i % j)) := by
  show (if decide (0 < j) = true then Res.ok (PyData.int (i % j)) else .bad) = _
  rw [if_pos (decide_eq_true h)]
theorem gFdiv_pos {i j : Int} (h : 0 < j) (h2 : j ≤ 2 ^ 40) : gFdiv (.int i) (.int j) = .ok (.int (i / j)) := by
  have h3 : j.natAbs.log2 < 9000 := by
    have h4 : j.natAbs < 2 ^ 41 := by omega
    exact Nat.lt_of_lt_of_le ((Nat.log2_lt (by omega)).mpr h4) (by decide)
  show (if (decide (0 < j) && decide (j.natAbs.log2 < 9000)) = true then Res.ok (PyData.int (i / j)) else .bad) = _
  rw [if_pos (by rw [decide_eq_true h, decide_eq_true h3]; rfl)]
theorem gMul_small {i j : Int} (h : -(2 ^ 64) < i ∧ i < 2 ^ 64) : gMul (.int i) (.int j) = .ok (.int (i * j)) := by
  show (if ((decide (-(2 ^ 64) < i) && decide (i < 2 ^ 64)) || (decide (-(2 ^ 64) < j) && decide (j < 2 ^ 64))) = true then Res.ok (PyData.int (i * j)) else .bad) = _
  rw [if_pos (by rw [decide_eq_true h.1, decide_eq_true h.2]; rfl)]
theorem gPow_small {i j : Int} (h0 : 0 ≤ i) (h : i < 2 ^ 64) (h1 : 0 ≤ j) (h2 : j ≤ 1000000) : gPow (.int i) (.int j) = .ok (.int (i ^ j.toNat)) := by
  have h3 : i.natAbs < 2 ^ 64 := by omega
  show (if (decide (0 ≤ j) && decide (j ≤ 1000000) && decide (i.natAbs < 2 ^ 64)) = true then Res.ok (PyData.int (i ^ j.toNat)) else .bad) = _
  rw [if_pos (by rw [decide_eq_true h1, decide_eq_true h2, decide_eq_true h3]; rfl)]
theorem ne_nilA (ds : List PyData) : gNeA (.list ds) (.list []) = .ok (.bool (!ds.isEmpty)) := by
  cases ds <;> rfl
theorem ne_nil_ints (ns : List Int) : gNeA (.list (ns.map .int)) (.list []) = .ok (.bool (!ns.isEmpty)) := by
  rw [ne_nilA]
  cases ns <;> rfl
theorem gt_int (i j : Int) : gGt (.int i) (.int j) = .ok (.bool (decide (j < i))) := rfl
theorem ge_int (i j : Int) : gGe (.int i) (.int j) = .ok (.bool (decide (j ≤ i))) := rfl
theorem lt_int (i j : Int) : gLt (.int i) (.int j) = .ok (.bool (decide (i < j))) := rfl
theorem add_int (i j : Int) : gAdd (.int i) (.int j) = .ok (.int (i + j)) := rfl
theorem sub_int' (i j : Int) : gSub (.int i) (.int j) = .ok (.int (i - j)) := rfl
theorem gInt_int (i : Int) : gInt (.int i) = .ok (.int i) := rfl
theorem gInt_bool (b : Bool) : gInt (.bool b) = .ok (.int (if b then 1 else 0)) := rfl
theorem gAbs_int (i : Int) : gAbs (.int i) = .ok (.int (if i < 0 then -i else i)) := rfl
theorem gLen_list (xs : List PyData) : gLen (.list xs) = .ok (.int xs.length) := rfl
/-! ### readings run -/
def kRet {α : Type} (en : En) (d : α) : Res (α × En) := .ok (d, en)
def kUn (g : PyData → Res PyData) : PyData × En → Res (PyData × En) := fun p => (g p.1).calm.bind (kRet p.2)
def kOp2 (g : PyData → PyData → Res PyData) (x : PyData) : PyData × En → Res (PyData × En) := fun q => (g x q.1).calm.bind (kRet q.2)
def kOp (g : PyData → PyData → Res PyData) (b : Dn) : PyData × En → Res (PyData × En) := fun p => (b p.2).bind (kOp2 g p.1)
def kCons2 (x : PyData) : List PyData × En → Res (List PyData × En) := fun q => .ok (x :: q.1, q.2)
def kCons (r : An) : PyData × En → Res (List PyData × En) := fun p => (r p.2).bind (kCons2 p.1)
def kApp (g : List PyData → Res PyData) : List PyData × En → Res (PyData × En) := fun p => (g p.1).calm.bind (kRet p.2)
def kB : PyData × En → Res (Bool × En) := fun p => (isB p.1).calm.bind (kRet p.2)
def kNot : Bool × En → Res (Bool × En) := fun p => .ok (!p.1, p.2)
def kAnd (b : Tn) : Bool × En → Res (Bool × En)
  | (true, e) => b e
  | (false, e) => .ok (false, e)
def kOr (b : Tn) : Bool × En → Res (Bool × En)
  | (true, e) => .ok (true, e)
  | (false, e) => b e
def kIf {α : Type} (a b : En → Res α) : Bool × En → Res α
  | (true, e) => a e
  | (false, e) => b e
def kDAnd (b : Dn) : PyData × En → Res (PyData × En)
  | (.bool true, e) => b e
  | (.bool false, e) => .ok (.bool false, e)
  | _ => .bad
def kDOr (b : Dn) : PyData × En → Res (PyData × En)
  | (.bool true, e) => .ok (.bool true, e)
  | (.bool false, e) => b e
  | _ => .bad
def kDNot : PyData × En → Res (PyData × En)
  | (.bool b, e) => .ok (.bool (!b), e)
  | _ => .bad
def kChain3 (g' : PyData → PyData → Res PyData) (y : PyData) (c : Dn) (e : En) : PyData → Res (PyData × En)
  | .bool true => (c e).bind (kOp2 g' y)
  | .bool false => .ok (.bool false, e)
  | _ => .bad
def kChain2 (g g' : PyData → PyData → Res PyData) (x : PyData) (c : Dn) : PyData × En → Res (PyData × En) := fun q => (g x q.1).calm.bind (kChain3 g' q.1 c q.2)
def kChain (g g' : PyData → PyData → Res PyData) (b c : Dn) : PyData × En → Res (PyData × En) := fun p => (b p.2).bind (kChain2 g g' p.1 c)
def kSeq (g : Sn) : Fl × En → Res (Fl × En)
  | (.nx, e) => g e
  | (.bk, e) => .ok (.bk, e)
  | (.ct, e) => .ok (.ct, e)
  | (.rt d, e) => .ok (.rt d, e)
def kSet (i : Nat) : PyData × En → Res (Fl × En) := fun p => .ok (.nx, p.2.set i (.sh p.1))
def kSetO (i : Nat) : PyData × En → Res (Fl × En) := fun p => .ok (.nx, p.2.set i (.ow p.1))
def kRt : PyData × En → Res (Fl × En) := fun p => .ok (.rt p.1, p.2)
def kVar (en : En) : Option Sl → Res (PyData × En)
  | some (.sh d) => .ok (d, en)
  | _ => .bad
def kFrz (i : Nat) (f : Sn) (en : En) : Option Sl → Res (Fl × En)
  | some (.ow d) => if isTab d = true then .bad else f (en.set i (.sh d))
  | _ => .bad
def kSome (en : En) : Option PyData → Res (PyData × En)
  | some d => .ok (d, en)
  | none => .bad
def kIx3 (en : En) : PyData → Option Sl → Res (PyData × En)
  | .int z, some (.ow (.list xs)) => kSome en (atI xs z)
  | _, _ => .bad
def kIx2 (i : Nat) : PyData × En → Res (PyData × En) := fun p => kIx3 p.2 p.1 p.2[i]?
def kIx (i : Nat) (fk : Dn) (en : En) : Option Sl → Res (PyData × En)
  | some (.ow (.list _)) => (fk en).bind (kIx2 i)
  | _ => .bad
def kPut4 (i : Nat) (d : PyData) (en : En) (xs : List PyData) : Option Nat → Res (Fl × En)
  | some j => .ok (.nx, en.set i (.ow (.list (xs.set j d))))
  | none => .bad
def kPut3 (i : Nat) (d : PyData) (en : En) : PyData → Option Sl → Res (Fl × En)
  | .int z, some (.ow (.list xs)) => kPut4 i d en xs (ixN xs.length z)
  | _, _ => .bad
def kPut2 (i : Nat) (d : PyData) : PyData × En → Res (Fl × En) := fun q => kPut3 i d q.2 q.1 q.2[i]?
def kPut1 (i : Nat) (fk : Dn) (d : PyData) (en : En) : Option Sl → Res (Fl × En)
  | some (.ow (.list _)) => (fk en).bind (kPut2 i d)
  | _ => .bad
def kPut (i : Nat) (fk : Dn) : PyData × En → Res (Fl × En) := fun p => kPut1 i fk p.1 p.2 p.2[i]?
section
variable (en : En)
theorem ap_var (i : Nat) : dVar i en = kVar en en[i]? := by
  unfold dVar kVar
  split <;> simp_all
theorem kVar_sh (d : PyData) : kVar en (some (.sh d)) = .ok (d, en) := rfl
theorem ap_cst (d : PyData) : dCst d en = .ok (d, en) := rfl
theorem ap_ret1 {α : Type} (d : α) : kRet en d = .ok (d, en) := rfl
theorem ap_un (g : PyData → Res PyData) (a : Dn) : dUn g a en = (a en).bind (kUn g) := rfl
theorem kUn_ap (g : PyData → Res PyData) (x : PyData) : kUn g (x, en) = (g x).calm.bind (kRet en) := rfl
theorem ap_op (g : PyData → PyData → Res PyData) (a b : Dn) : dOp g a b en = (a en).bind (kOp g b) := rfl
theorem kOp_ap (g : PyData → PyData → Res PyData) (b : Dn) (x : PyData) : kOp g b (x, en) = (b en).bind (kOp2 g x) := rfl
theorem kOp2_ap (g : PyData → PyData → Res PyData) (x y : PyData) : kOp2 g x (y, en) = (g x y).calm.bind (kRet en) := rfl
theorem ap_nil : dNil en = .ok ([], en) := rfl
theorem ap_cons (a : Dn) (r : An) : dCons a r en = (a en).bind (kCons r) := rfl
theorem kCons_ap (r : An) (x : PyData) : kCons r (x, en) = (r en).bind (kCons2 x) := rfl
theorem kCons2_ap (x : PyData) (xs : List PyData) : kCons2 x (xs, en) = .ok (x :: xs, en) := rfl
theorem ap_app (g : List PyData → Res PyData) (r : An) : dApp g r en = (r en).bind (kApp g) := rfl
theorem kApp_ap (g : List PyData → Res PyData) (xs : List PyData) : kApp g (xs, en) = (g xs).calm.bind (kRet en) := rfl
theorem ap_tB (a : Dn) : EL.tB a en = (a en).bind kB := rfl
theorem kB_ap (b : Bool) : kB (.bool b, en) = .ok (b, en) := rfl
theorem ap_not (a : Tn) : tNotD a en = (a en).bind kNot := rfl
theorem kNot_ap (b : Bool) : kNot (b, en) = .ok (!b, en) := rfl
theorem ap_and (a b : Tn) : tAndD a b en = (a en).bind (kAnd b) := by
  show Res.bind (a en) _ = Res.bind (a en) _
  congr 1; funext p; obtain ⟨x, e⟩ := p; cases x <;> rfl
theorem kAnd_t (b : Tn) : kAnd b (true, en) = b en := rfl
theorem kAnd_f (b : Tn) : kAnd b (false, en) = .ok (false, en) := rfl
theorem ap_or (a b : Tn) : tOrD a b en = (a en).bind (kOr b) := by
  show Res.bind (a en) _ = Res.bind (a en) _
  congr 1; funext p; obtain ⟨x, e⟩ := p; cases x <;> rfl
theorem kOr_t (b : Tn) : kOr b (true, en) = .ok (true, en) := rfl
theorem kOr_f (b : Tn) : kOr b (false, en) = b en := rfl
theorem ap_dAnd (a b : Dn) : dAnd a b en = (a en).bind (kDAnd b) := by
  show Res.bind (a en) _ = Res.bind (a en) _
  congr 1; funext p; obtain ⟨x, e⟩ := p
  cases x with
  | bool c => cases c <;> rfl
  | _ => rfl
theorem kDAnd_t (b : Dn) : kDAnd b (.bool true, en) = b en := rfl
theorem kDAnd_f (b : Dn) : kDAnd b (.bool false, en) = .ok (.bool false, en) := rfl
theorem ap_dOr (a b : Dn) : dOr a b en = (a en).bind (kDOr b) := by
  show Res.bind (a en) _ = Res.bind (a en) _
  congr 1; funext p; obtain ⟨x, e⟩ := p
  cases x with
  | bool c => cases c <;> rfl
  | _ => rfl
theorem kDOr_t (b : Dn) : kDOr b (.bool true, en) = .ok (.bool true, en) := rfl
theorem kDOr_f (b : Dn) : kDOr b (.bool false, en) = b en := rfl
theorem ap_dNot (a : Dn) : dNot a en = (a en).bind kDNot := by
  show Res.bind (a en) _ = Res.bind (a en) _
  congr 1; funext p; obtain ⟨x, e⟩ := p; cases x <;> rfl
theorem kDNot_ap (b : Bool) : kDNot (.bool b, en) = .ok (.bool (!b), en) := rfl
theorem ap_dIf (c : Tn) (a b : Dn) : dIf c a b en = (c en).bind (kIf a b) := by
  show Res.bind (c en) _ = Res.bind (c en) _
  congr 1; funext p; obtain ⟨x, e⟩ := p; cases x <;> rfl
theorem ap_if (c : Tn) (f g : Sn) : sIf c f g en = (c en).bind (kIf f g) := by
  show Res.bind (c en) _ = Res.bind (c en) _
  congr 1; funext p; obtain ⟨x, e⟩ := p; cases x <;> rfl
theorem kIf_t {α : Type} (a b : En → Res α) : kIf a b (true, en) = a en := rfl
theorem kIf_f {α : Type} (a b : En → Res α) : kIf a b (false, en) = b en := rfl
theorem ap_chain (g g' : PyData → PyData → Res PyData) (a b c : Dn) : dChain g g' a b c en = (a en).bind (kChain g g' b c) := by
  show Res.bind (a en) _ = Res.bind (a en) _
  congr 1; funext p
  show Res.bind (b p.2) _ = Res.bind (b p.2) _
  congr 1; funext q
  show Res.bind (Res.bind (Res.calm (g p.1 q.1)) fun d => Res.ok (d, q.2)) (fun z => chainK _ z.1 z.2) = Res.bind (Res.calm (g p.1 q.1)) _
  cases g p.1 q.1 with
  | ok z =>
    cases z with
    | bool x => cases x <;> rfl
    | _ => rfl
  | exc _ _ => rfl
  | bad => rfl
theorem kChain_ap (g g' : PyData → PyData → Res PyData) (b c : Dn) (x : PyData) : kChain g g' b c (x, en) = (b en).bind (kChain2 g g' x c) := rfl
theorem kChain2_ap (g g' : PyData → PyData → Res PyData) (x y : PyData) (c : Dn) : kChain2 g g' x c (y, en) = (g x y).calm.bind (kChain3 g' y c en) := rfl
theorem kChain3_t (g' : PyData → PyData → Res PyData) (y : PyData) (c : Dn) : kChain3 g' y c en (.bool true) = (c en).bind (kOp2 g' y) := rfl
theorem kChain3_f (g' : PyData → PyData → Res PyData) (y : PyData) (c : Dn) : kChain3 g' y c en (.bool false) = .ok (.bool false, en) := rfl
theorem ap_seq (f g : Sn) : sSeq f g en = (f en).bind (kSeq g) := by
  show Res.bind (f en) _ = Res.bind (f en) _
  congr 1; funext p; obtain ⟨x, e⟩ := p; cases x <;> rfl
theorem kSeq_nx (g : Sn) : kSeq g (.nx, en) = g en := rfl
theorem kSeq_rt (g : Sn) (d : PyData) : kSeq g (.rt d, en) = .ok (.rt d, en) := rfl
theorem kSeq_bk (g : Sn) : kSeq g (.bk, en) = .ok (.bk, en) := rfl
theorem kSeq_ct (g : Sn) : kSeq g (.ct, en) = .ok (.ct, en) := rfl
theorem ap_next : sNext en = .ok (.nx, en) := rfl
theorem ap_set (i : Nat) (f : Dn) : sSet i f en = (f en).bind (kSet i) := rfl
theorem kSet_ap (i : Nat) (d : PyData) : kSet i (d, en) = .ok (.nx, en.set i (.sh d)) := rfl
theorem ap_setO (i : Nat) (f : Dn) : sSetO i f en = (f en).bind (kSetO i) := rfl
theorem kSetO_ap (i : Nat) (d : PyData) : kSetO i (d, en) = .ok (.nx, en.set i (.ow d)) := rfl
theorem ap_ret (f : Dn) : sRet f en = (f en).bind kRt := rfl
theorem kRt_ap (d : PyData) : kRt (d, en) = .ok (.rt d, en) := rfl
theorem ap_frz (i : Nat) (f : Sn) : sFrz i f en = kFrz i f en en[i]? := by
  unfold sFrz kFrz
  split <;> simp_all
theorem kFrz_ow (i : Nat) (f : Sn) (ds : List PyData) : kFrz i f en (some (.ow (.list ds))) = f (en.set i (.sh (.list ds))) := rfl
theorem kSome_s (d : PyData) : kSome en (some d) = .ok (d, en) := rfl
theorem ap_ixO (i : Nat) (fk : Dn) : dIxO i fk en = kIx i fk en en[i]? := by
  unfold dIxO
  generalize en[i]? = o0
  cases o0 with
  | none => rfl
  | some sl0 =>
    cases sl0 with
    | ow d0 =>
      cases d0 with
      | list xs0 =>
        refine congrArg (Res.bind (fk en)) (funext fun p => ?_)
        obtain ⟨x, e2⟩ := p
        show ixOK i x e2 = kIx3 e2 x e2[i]?
        unfold ixOK
        generalize e2[i]? = o
        cases o with
        | none => cases x <;> rfl
        | some sl =>
          cases sl with
          | ow d =>
            cases d with
            | list ys =>
              cases x with
              | int z => show (match atI ys z with | some d => Res.ok (d, e2) | none => .bad) = kSome e2 (atI ys z); cases atI ys z <;> rfl
              | _ => rfl
            | _ => cases x <;> rfl
          | _ => cases x <;> rfl
      | _ => rfl
    | _ => rfl
theorem kIx_ow (i : Nat) (fk : Dn) (xs : List PyData) : kIx i fk en (some (.ow (.list xs))) = (fk en).bind (kIx2 i) := rfl
theorem kIx2_ap (i : Nat) (x : PyData) : kIx2 i (x, en) = kIx3 en x en[i]? := rfl
theorem kIx3_ap (z : Int) (xs : List PyData) : kIx3 en (.int z) (some (.ow (.list xs))) = kSome en (atI xs z) := rfl
theorem ap_put (i : Nat) (f fk : Dn) : sPut i f fk en = (f en).bind (kPut i fk) := by
  refine congrArg (Res.bind (f en)) (funext fun p => ?_)
  show putK0 i fk p.1 p.2 = kPut1 i fk p.1 p.2 p.2[i]?
  unfold putK0
  generalize p.2[i]? = o0
  cases o0 with
  | none => rfl
  | some sl0 =>
    cases sl0 with
    | ow d0 =>
      cases d0 with
      | list xs0 =>
        refine congrArg (Res.bind (fk p.2)) (funext fun q => ?_)
        obtain ⟨x, e2⟩ := q
        show putK i p.1 x e2 = kPut3 i p.1 e2 x e2[i]?
        unfold putK
        generalize e2[i]? = o
        cases o with
        | none => cases x <;> rfl
        | some sl =>
          cases sl with
          | ow d =>
            cases d with
            | list ys =>
              cases x with
              | int z => show (match ixN ys.length z with | some j => Res.ok (Fl.nx, e2.set i (.ow (.list (ys.set j p.1)))) | none => .bad) = kPut4 i p.1 e2 ys (ixN ys.length z); cases ixN ys.length z <;> rfl
              | _ => rfl
            | _ => cases x <;> rfl
          | _ => cases x <;> rfl
      | _ => rfl
    | _ => rfl
theorem kPut_ap (i : Nat) (fk : Dn) (d : PyData) : kPut i fk (d, en) = kPut1 i fk d en en[i]? := rfl
theorem kPut1_ow (i : Nat) (fk : Dn) (d : PyData) (xs : List PyData) : kPut1 i fk d en (some (.ow (.list xs))) = (fk en).bind (kPut2 i d) := rfl
theorem kPut2_ap (i : Nat) (d x : PyData) : kPut2 i d (x, en) = kPut3 i d en x en[i]? := rfl
theorem kPut3_ap (i : Nat) (d : PyData) (z : Int) (xs : List PyData) : kPut3 i d en (.int z) (some (.ow (.list xs))) = kPut4 i d en xs (ixN xs.length z) := rfl
theorem kPut4_s (i j : Nat) (d : PyData) (xs : List PyData) : kPut4 i d en xs (some j) = .ok (.nx, en.set i (.ow (.list (xs.set j d)))) := rfl
end
end EL

set_option maxHeartbeats 2000000
namespace EL
open PySem PySem.Spec PyProof.Rows L2
variable [Wsh] [Tbx]
theorem atI3_0 (a b c : PyData) : atI [a, b, c] 0 = some a := rfl
theorem atI3_1 (a b c : PyData) : atI [a, b, c] 1 = some b := rfl
theorem atI3_2 (a b c : PyData) : atI [a, b, c] 2 = some c := rfl
theorem g1_one (g : PyData → Res PyData) (x : PyData) : g1 g [x] = g x := rfl
theorem gLst_nil : gLst [] = .ok (.list []) := rfl
theorem kPut4_1 (i : Nat) (en : En) (d a b c : PyData) : kPut4 i d en [a, b, c] (ixN [a, b, c].length 1) = .ok (.nx, en.set i (.ow (.list [a, d, c]))) := rfl
theorem kPut4_2 (i : Nat) (en : En) (d a b c : PyData) : kPut4 i d en [a, b, c] (ixN [a, b, c].length 2) = .ok (.nx, en.set i (.ow (.list [a, b, d]))) := rfl
theorem startP1 (pd x : PyData) : startP 7 pd [x] = [.ow pd, .sh x, .no, .no, .no, .no, .no] := rfl
def endR (r : Res (Fl × En)) : Res (PyData × PyData) := match r with
  | .ok (.rt d, en) => endP en d
  | .ok (.nx, en) => endP en .none
  | .exc c fs => .exc c fs
  | _ => .bad
theorem ap_runP (b : Sn) (n : Nat) (pd : PyData) (ds : List PyData) : runP b n pd ds = endR (b (startP n pd ds)) := by
  unfold runP endR
  rfl
theorem endR_rt (d pd : PyData) (r : En) : endR (.ok (.rt d, .ow pd :: r)) = .ok (d, pd) := rfl
theorem ix_mod {ns : List Int} {t : Int} (h0 : 0 ≤ t) (hne : ns ≠ []) : ∃ c, gIxA (.list (ns.map .int)) (.int (t % (ns.map PyData.int).length)) = .ok (.int c) := by
  have hl : 0 < ns.length := List.length_pos_iff.mpr hne
  rw [List.length_map]
  have b1 : 0 ≤ t % (ns.length : Int) := Int.emod_nonneg _ (by omega)
  have b2 : t % (ns.length : Int) < ns.length := Int.emod_lt_of_pos _ (by omega)
  obtain ⟨j, hj⟩ := Int.eq_ofNat_of_zero_le b1
  have hj2 : j < ns.length := by omega
  refine ⟨ns[j], ?_⟩
  rw [hj]
  have e : atI (ns.map PyData.int) ((j : Nat) : Int) = some (.int ns[j]) := atI_nat (by rw [List.getElem?_map, List.getElem?_eq_getElem hj2]; rfl)
  show (match atI (ns.map PyData.int) ((j : Nat) : Int) with
    | some d => Res.ok d
    | none => .bad) = _
  rw [e]
theorem pow18 : gPow (.int 10) (.int 18) = .ok (.int 1000000000000000000) := rfl
theorem draw_ok {a0 a1 a2 a3 a4 a5 a6 : Int} (hc : (0 ≤ a0 ∧ a0 < 2 ^ 20) ∧ (0 ≤ a1 ∧ a1 < 2 ^ 20) ∧ (0 ≤ a2 ∧ a2 < 2 ^ 20) ∧ (0 ≤ a3 ∧ a3 < 2 ^ 20) ∧ (0 ≤ a4 ∧ a4 < 2 ^ 20) ∧ (0 ≤ a5 ∧ a5 < 2 ^ 20) ∧ (0 ≤ a6 ∧ a6 < 2 ^ 20))
    {pd : PyData} {n : Nat} {many : Int} (hp : PenOk n pd) (hn : n < 1000000) (hm : 0 < many) (hm2 : many ≤ 1000000) :
    ∃ r pd', runP (bDraw a0 a1 a2 a3 a4 a5 a6) 7 pd [.int many] = .ok (.int r, pd') ∧ 0 ≤ r ∧ r < many ∧ PenOk (n + 1) pd' := by
  obtain ⟨ns, t, g, rfl, hl, h0, h1⟩ := hp
  obtain ⟨c0, c1, c2, c3, c4, c5, c6⟩ := hc
  have many40 : many ≤ 2 ^ 40 := by omega
  by_cases hg : 0 < g
  · refine ⟨g % many, penOf ns t (g / many), ?_, Int.emod_nonneg _ (by omega), Int.emod_lt_of_pos _ hm, ns, t, g / many, rfl, hl, h0, by omega⟩
    have e1 : decide (0 < g) = true := decide_eq_true hg
    simp only [ap_runP, startP1, penOf, bDraw, gt_int, e1, atI3_0, atI3_1, atI3_2, g1_one, gInt_int, gMod_pos hm, gFdiv_pos hm many40, kPut4_1, kPut4_2, endR_rt, ap_var, kVar_sh, ap_cst, ap_ret1, ap_un, kUn_ap, ap_op, kOp_ap, kOp2_ap, ap_nil, ap_cons, kCons_ap, kCons2_ap, ap_app, kApp_ap, ap_tB, kB_ap, ap_not, kNot_ap, ap_and, kAnd_t, kAnd_f, ap_or, kOr_t, kOr_f, ap_dAnd, kDAnd_t, kDAnd_f, ap_dOr, kDOr_t, kDOr_f, ap_dNot, kDNot_ap, ap_dIf, ap_if, kIf_t, kIf_f, ap_chain, kChain_ap, kChain2_ap, kChain3_t, kChain3_f, ap_seq, kSeq_nx, kSeq_rt, kSeq_bk, kSeq_ct, ap_next, ap_set, kSet_ap, ap_setO, kSetO_ap, ap_ret, kRt_ap, ap_frz, kFrz_ow, kSome_s, ap_ixO, kIx_ow, kIx2_ap, kIx3_ap, ap_put, kPut_ap, kPut1_ow, kPut2_ap, kPut3_ap, kPut4_s, res_bind_ok, calm_ok, List.getElem?_cons_zero, List.getElem?_cons_succ, List.set_cons_zero, List.set_cons_succ]
  · have e1 : decide (0 < g) = false := decide_eq_false hg
    have e2 : ∀ c : Int, ∃ r pd', endR ((sSeq (sIf (tAndD (EL.tB (dOp gLt (dVar 2) (dApp (g1 gLen) (dCons (dIxO 0 (dCst (.int (0)))) dNil)))) (EL.tB (dOp gGe (dApp (g1 gAbs) (dCons (dVar 3) dNil)) (dOp gPow (dCst (.int (10))) (dCst (.int (18))))))) (sSeq (sSet 6 (dOp gAdd (dOp gMul (dCst (.int (2))) (dOp gSub (dApp (g1 gAbs) (dCons (dVar 3) dNil)) (dOp gPow (dCst (.int (10))) (dCst (.int (18)))))) (dApp (g1 gInt) (dCons (dOp gLt (dVar 3) (dCst (.int (0)))) dNil))))
    (sSeq (sPut 0 (dOp gFdiv (dVar 6) (dVar 1)) (dCst (.int (2))))
    (sRet (dOp gMod (dApp (g1 gInt) (dCons (dVar 6) dNil)) (dVar 1))))) sNext)
    (sSeq (sSet 4 (dOp gMod (dApp (g1 gInt) (dCons (dOp gPow (dOp gAdd (dOp gAdd (dOp gMod (dApp (g1 gInt) (dCons (dVar 3) dNil)) (dCst (.int (2147483549)))) (dOp gMul (dCst (.int a2)) (dVar 2))) (dCst (.int a3))) (dCst (.int (5)))) dNil)) (dCst (.int (2147483629)))))
    (sSeq (sSet 4 (dOp gMod (dApp (g1 gInt) (dCons (dOp gPow (dOp gAdd (dOp gAdd (dOp gMul (dVar 4) (dOp gAdd (dOp gMul (dCst (.int (2))) (dVar 2)) (dCst (.int a4)))) (dOp gMul (dOp gMul (dCst (.int a5)) (dVar 2)) (dVar 2))) (dCst (.int a6))) (dCst (.int (3)))) dNil)) (dCst (.int (2147483587)))))
    (sRet (dOp gMod (dApp (g1 gInt) (dCons (dOp gFdiv (dVar 4) (dCst (.int (32)))) dNil)) (dVar 1)))))) [.ow (penOf ns (t + 1) g), .sh (.int many), .sh (.int t), .sh (.int c), .no, .no, .no]) = .ok (.int r, pd') ∧ 0 ≤ r ∧ r < many ∧ PenOk (n + 1) pd' := by
      intro c
      by_cases hb : (decide (t < ((ns.map PyData.int).length : Int)) && decide (1000000000000000000 ≤ (if c < 0 then -c else c))) = true
      · rw [Bool.and_eq_true] at hb
        refine ⟨(2 * ((if c < 0 then -c else c) - 1000000000000000000) + (if decide (c < 0) then 1 else 0)) % many, penOf ns (t + 1) ((2 * ((if c < 0 then -c else c) - 1000000000000000000) + (if decide (c < 0) then 1 else 0)) / many), ?_, Int.emod_nonneg _ (by omega), Int.emod_lt_of_pos _ hm, ns, t + 1, _, rfl, hl, by omega, by omega⟩
        simp only [penOf, lt_int, ge_int, gLen_list, gAbs_int, add_int, sub_int', gInt_bool, pow18, hb.1, hb.2, gMul_small (i := 2) (by decide), atI3_0, atI3_1, atI3_2, g1_one, gInt_int, gMod_pos hm, gFdiv_pos hm many40, kPut4_1, kPut4_2, endR_rt, ap_var, kVar_sh, ap_cst, ap_ret1, ap_un, kUn_ap, ap_op, kOp_ap, kOp2_ap, ap_nil, ap_cons, kCons_ap, kCons2_ap, ap_app, kApp_ap, ap_tB, kB_ap, ap_not, kNot_ap, ap_and, kAnd_t, kAnd_f, ap_or, kOr_t, kOr_f, ap_dAnd, kDAnd_t, kDAnd_f, ap_dOr, kDOr_t, kDOr_f, ap_dNot, kDNot_ap, ap_dIf, ap_if, kIf_t, kIf_f, ap_chain, kChain_ap, kChain2_ap, kChain3_t, kChain3_f, ap_seq, kSeq_nx, kSeq_rt, kSeq_bk, kSeq_ct, ap_next, ap_set, kSet_ap, ap_setO, kSetO_ap, ap_ret, kRt_ap, ap_frz, kFrz_ow, kSome_s, ap_ixO, kIx_ow, kIx2_ap, kIx3_ap, ap_put, kPut_ap, kPut1_ow, kPut2_ap, kPut3_ap, kPut4_s, res_bind_ok, calm_ok, List.getElem?_cons_zero, List.getElem?_cons_succ, List.set_cons_zero, List.set_cons_succ]
      · have m1 : 0 ≤ c % 2147483549 := Int.emod_nonneg _ (by decide)
        have m2 : c % 2147483549 < 2147483549 := Int.emod_lt_of_pos _ (by decide)
        have p1 : 0 ≤ a2 * t := Int.mul_nonneg c2.1 h0
        have p2 : a2 * t ≤ 2 ^ 20 * 1000000 := Int.mul_le_mul (by omega) (by omega) h0 (by decide)
        have q1 := gPow_small (i := c % 2147483549 + a2 * t + a3) (j := 5) (by omega) (by omega) (by decide) (by decide)
        generalize hx : (c % 2147483549 + a2 * t + a3) ^ (5 : Int).toNat % 2147483629 = x at *
        have x1 : 0 ≤ x := by rw [← hx]; exact Int.emod_nonneg _ (by decide)
        have x2 : x < 2147483629 := by rw [← hx]; exact Int.emod_lt_of_pos _ (by decide)
        have r1 : 0 ≤ x * (2 * t + a4) := Int.mul_nonneg x1 (by omega)
        have r2 : x * (2 * t + a4) ≤ 2147483629 * 4000000 := Int.mul_le_mul (by omega) (by omega) (by omega) (by decide)
        have s1 : 0 ≤ a5 * t := Int.mul_nonneg c5.1 h0
        have s2 : a5 * t ≤ 2 ^ 20 * 1000000 := Int.mul_le_mul (by omega) (by omega) h0 (by decide)
        have s3 : 0 ≤ a5 * t * t := Int.mul_nonneg s1 h0
        have s4 : a5 * t * t ≤ 2 ^ 20 * 1000000 * 1000000 := Int.mul_le_mul (by omega) (by omega) h0 (by decide)
        have q2 := gPow_small (i := x * (2 * t + a4) + a5 * t * t + a6) (j := 3) (by omega) (by omega) (by decide) (by decide)
        have hb' : decide (t < ((ns.map PyData.int).length : Int)) = false ∨ (decide (t < ((ns.map PyData.int).length : Int)) = true ∧ decide (1000000000000000000 ≤ (if c < 0 then -c else c)) = false) := by
          cases u : decide (t < ((ns.map PyData.int).length : Int)) with
          | false => exact .inl rfl
          | true =>
            refine .inr ⟨rfl, ?_⟩
            cases v : decide (1000000000000000000 ≤ (if c < 0 then -c else c)) with
            | false => rfl
            | true => exact absurd (by rw [u, v]; rfl) hb
        refine ⟨((x * (2 * t + a4) + a5 * t * t + a6) ^ (3 : Int).toNat % 2147483587 / 32) % many, penOf ns (t + 1) g, ?_, Int.emod_nonneg _ (by omega), Int.emod_lt_of_pos _ hm, ns, t + 1, _, rfl, hl, by omega, by omega⟩
        rcases hb' with hb' | ⟨hb1, hb2⟩
        · simp only [penOf, lt_int, ge_int, gLen_list, gAbs_int, add_int, sub_int', gInt_bool, pow18, hb', gMul_small (i := 2) (by decide), gMul_small (i := a2) (by omega), gMul_small (i := a5) (by omega), gMul_small (i := a5 * t) (by omega), gMul_small (i := x) (by omega), atI3_0, atI3_1, atI3_2, g1_one, gInt_int, q1, hx, q2, gMod_pos hm, gMod_pos (j := 2147483549) (by decide), gMod_pos (j := 2147483629) (by decide), gMod_pos (j := 2147483587) (by decide), gFdiv_pos (j := 32) (by decide) (by decide), kPut4_1, kPut4_2, endR_rt, ap_var, kVar_sh, ap_cst, ap_ret1, ap_un, kUn_ap, ap_op, kOp_ap, kOp2_ap, ap_nil, ap_cons, kCons_ap, kCons2_ap, ap_app, kApp_ap, ap_tB, kB_ap, ap_not, kNot_ap, ap_and, kAnd_t, kAnd_f, ap_or, kOr_t, kOr_f, ap_dAnd, kDAnd_t, kDAnd_f, ap_dOr, kDOr_t, kDOr_f, ap_dNot, kDNot_ap, ap_dIf, ap_if, kIf_t, kIf_f, ap_chain, kChain_ap, kChain2_ap, kChain3_t, kChain3_f, ap_seq, kSeq_nx, kSeq_rt, kSeq_bk, kSeq_ct, ap_next, ap_set, kSet_ap, ap_setO, kSetO_ap, ap_ret, kRt_ap, ap_frz, kFrz_ow, kSome_s, ap_ixO, kIx_ow, kIx2_ap, kIx3_ap, ap_put, kPut_ap, kPut1_ow, kPut2_ap, kPut3_ap, kPut4_s, res_bind_ok, calm_ok, List.getElem?_cons_zero, List.getElem?_cons_succ, List.set_cons_zero, List.set_cons_succ]
        · simp only [penOf, lt_int, ge_int, gLen_list, gAbs_int, add_int, sub_int', gInt_bool, pow18, hb1, hb2, gMul_small (i := 2) (by decide), gMul_small (i := a2) (by omega), gMul_small (i := a5) (by omega), gMul_small (i := a5 * t) (by omega), gMul_small (i := x) (by omega), atI3_0, atI3_1, atI3_2, g1_one, gInt_int, q1, hx, q2, gMod_pos hm, gMod_pos (j := 2147483549) (by decide), gMod_pos (j := 2147483629) (by decide), gMod_pos (j := 2147483587) (by decide), gFdiv_pos (j := 32) (by decide) (by decide), kPut4_1, kPut4_2, endR_rt, ap_var, kVar_sh, ap_cst, ap_ret1, ap_un, kUn_ap, ap_op, kOp_ap, kOp2_ap, ap_nil, ap_cons, kCons_ap, kCons2_ap, ap_app, kApp_ap, ap_tB, kB_ap, ap_not, kNot_ap, ap_and, kAnd_t, kAnd_f, ap_or, kOr_t, kOr_f, ap_dAnd, kDAnd_t, kDAnd_f, ap_dOr, kDOr_t, kDOr_f, ap_dNot, kDNot_ap, ap_dIf, ap_if, kIf_t, kIf_f, ap_chain, kChain_ap, kChain2_ap, kChain3_t, kChain3_f, ap_seq, kSeq_nx, kSeq_rt, kSeq_bk, kSeq_ct, ap_next, ap_set, kSet_ap, ap_setO, kSetO_ap, ap_ret, kRt_ap, ap_frz, kFrz_ow, kSome_s, ap_ixO, kIx_ow, kIx2_ap, kIx3_ap, ap_put, kPut_ap, kPut1_ow, kPut2_ap, kPut3_ap, kPut4_s, res_bind_ok, calm_ok, List.getElem?_cons_zero, List.getElem?_cons_succ, List.set_cons_zero, List.set_cons_succ]
    by_cases hne : ns = []
    · subst hne
      have e3 := e2 (a0 * t + a1)
      simp only [penOf] at e3
      have e4 : gNeA (.list (([] : List Int).map .int)) (.list []) = .ok (.bool false) := rfl
      simp only [ap_runP, startP1, penOf, bDraw, gt_int, e1, e4, add_int, gLst_nil, gMul_small (i := a0) (by omega), atI3_0, atI3_1, atI3_2, g1_one, gInt_int, gMod_pos hm, kPut4_1, kPut4_2, ap_var, kVar_sh, ap_cst, ap_ret1, ap_un, kUn_ap, ap_op, kOp_ap, kOp2_ap, ap_nil, ap_cons, kCons_ap, kCons2_ap, ap_app, kApp_ap, ap_tB, kB_ap, ap_not, kNot_ap, ap_and, kAnd_t, kAnd_f, ap_or, kOr_t, kOr_f, ap_dAnd, kDAnd_t, kDAnd_f, ap_dOr, kDOr_t, kDOr_f, ap_dNot, kDNot_ap, ap_dIf, ap_if, kIf_t, kIf_f, ap_chain, kChain_ap, kChain2_ap, kChain3_t, kChain3_f, ap_seq, kSeq_nx, kSeq_rt, kSeq_bk, kSeq_ct, ap_next, ap_set, kSet_ap, ap_setO, kSetO_ap, ap_ret, kRt_ap, ap_frz, kFrz_ow, kSome_s, ap_ixO, kIx_ow, kIx2_ap, kIx3_ap, ap_put, kPut_ap, kPut1_ow, kPut2_ap, kPut3_ap, kPut4_s, res_bind_ok, calm_ok, List.getElem?_cons_zero, List.getElem?_cons_succ, List.set_cons_zero, List.set_cons_succ] at e3 ⊢
      exact e3
    · obtain ⟨c, hcx⟩ := ix_mod h0 hne
      have e3 := e2 c
      simp only [penOf] at e3
      have e4 : gNeA (.list (ns.map .int)) (.list []) = .ok (.bool true) := by
        rw [ne_nil_ints]
        cases ns with
        | nil => exact absurd rfl hne
        | cons a b => rfl
      have e5 : (0 : Int) < ((ns.map PyData.int).length : Nat) := by
        have := List.length_pos_iff.mpr hne
        rw [List.length_map]
        omega
      simp only [ap_runP, startP1, penOf, bDraw, gt_int, e1, e4, hcx, gLen_list, add_int, gLst_nil, gMul_small (i := a0) (by omega), atI3_0, atI3_1, atI3_2, g1_one, gInt_int, gMod_pos e5, kPut4_1, kPut4_2, ap_var, kVar_sh, ap_cst, ap_ret1, ap_un, kUn_ap, ap_op, kOp_ap, kOp2_ap, ap_nil, ap_cons, kCons_ap, kCons2_ap, ap_app, kApp_ap, ap_tB, kB_ap, ap_not, kNot_ap, ap_and, kAnd_t, kAnd_f, ap_or, kOr_t, kOr_f, ap_dAnd, kDAnd_t, kDAnd_f, ap_dOr, kDOr_t, kDOr_f, ap_dNot, kDNot_ap, ap_dIf, ap_if, kIf_t, kIf_f, ap_chain, kChain_ap, kChain2_ap, kChain3_t, kChain3_f, ap_seq, kSeq_nx, kSeq_rt, kSeq_bk, kSeq_ct, ap_next, ap_set, kSet_ap, ap_setO, kSetO_ap, ap_ret, kRt_ap, ap_frz, kFrz_ow, kSome_s, ap_ixO, kIx_ow, kIx2_ap, kIx3_ap, ap_put, kPut_ap, kPut1_ow, kPut2_ap, kPut3_ap, kPut4_s, res_bind_ok, calm_ok, List.getElem?_cons_zero, List.getElem?_cons_succ, List.set_cons_zero, List.set_cons_succ] at e3 ⊢
      exact e3
end EL

set_option maxHeartbeats 2000000
namespace EL
open PySem PySem.Spec PyProof.Rows L2
variable [Wsh] [Tbx]
/-! ### calls, loops, comprehensions run -/
section
variable (en : En)
end
/-! ### reprs -/
end EL

set_option maxHeartbeats 2000000
namespace EL
open PySem PySem.Spec PyProof.Rows L2 TL
variable [Wsh] [Tbx]
/-! ### exact equality of data, by running -/
mutual
def same : PyData → PyData → Bool
  | .none, .none => true
  | .bool a, .bool b => a == b
  | .int i, .int j => decide (i = j)
  | .str x, .str y => decide (x = y)
  | .list xs, .list ys => sameA xs ys
  | .tuple xs, .tuple ys => sameA xs ys
  | _, _ => false
def sameA : List PyData → List PyData → Bool
  | [], [] => true
  | x :: xs, y :: ys => same x y && sameA xs ys
  | _, _ => false
end
/-! ### joins -/
theorem tl_len (x : Str) : (tl x).length = x.length := by
  show x.cps.toList.length = x.cps.size
  exact Array.length_toList
theorem joinL_len {s : List Nat} {B : Nat} : ∀ {ps : List (List Nat)}, (∀ p ∈ ps, p.length ≤ B) → (joinL s ps).length ≤ ps.length * (B + s.length)
  | [], _ => by simp [joinL]
  | [p], h => by
    have := h p List.mem_cons_self
    simp only [joinL, List.length_cons, List.length_nil]
    omega
  | p :: q :: r, h => by
    have a := h p List.mem_cons_self
    have b := joinL_len (s := s) (ps := q :: r) fun z hz => h z (List.mem_cons_of_mem _ hz)
    have e : joinL s (p :: q :: r) = p ++ (s ++ joinL s (q :: r)) := rfl
    rw [e, List.length_append, List.length_append, List.length_cons (a := p), Nat.add_mul]
    omega
theorem join_len {x : Str} {ss : List Str} {B : Nat} (h : ∀ s ∈ ss, s.length ≤ B) : (Txt.join x ss).length ≤ ss.length * (B + x.length) := by
  rw [join_eq, ← tl_len, tl_join, ← tl_len x]
  have := joinL_len (s := tl x) (ps := ss.map tl) (B := B) fun p hp => by
    obtain ⟨z, hz, rfl⟩ := List.mem_map.mp hp
    rw [tl_len]
    exact h z hz
  rw [List.length_map] at this
  exact this
theorem sum_le {ss : List Str} {B : Nat} (h : ∀ s ∈ ss, s.length ≤ B) : (ss.map (·.length)).sum ≤ ss.length * B := by
  induction ss with
  | nil => simp
  | cons x r ih =>
    have a := h x List.mem_cons_self
    have b := ih fun s hs => h s (List.mem_cons_of_mem _ hs)
    rw [List.map_cons, List.sum_cons, List.length_cons, Nat.add_mul]
    omega
theorem join_ok {x : Str} {ss : List Str} {B : Nat} (h : ∀ s ∈ ss, s.length ≤ B) (hb : ss.length * (B + x.length) ≤ 1000000) : joinS x ss = .ok (.str (Txt.join x ss)) := by
  have h1 := sum_le h
  have h2 := join_len (x := x) h
  have h3 : (ss.map (·.length)).sum + ss.length * x.length ≤ 16777216 := by
    rw [Nat.mul_add] at hb
    omega
  have h4 : (Txt.join x ss).length ≤ sizeLine := by rw [sizeLine_eq]; omega
  unfold joinS
  rw [decide_eq_true h3, decide_eq_true h4]
  rfl
theorem strsOf_map : ∀ ss : List Str, strsOf (ss.map .str) = some ss
  | [] => rfl
  | x :: r => by
    rw [List.map_cons]
    show (strsOf (r.map .str)).map (x :: ·) = _
    rw [strsOf_map r]
    rfl
theorem gJoin_l {x : Str} {ss : List Str} {B : Nat} (h : ∀ s ∈ ss, s.length ≤ B) (hb : ss.length * (B + x.length) ≤ 1000000) : gJoin (.str x) (.list (ss.map .str)) = .ok (.str (Txt.join x ss)) := by
  show (match strsOf (ss.map .str) with
    | some ss => joinS x ss
    | none => .bad) = _
  rw [strsOf_map]
  exact join_ok h hb
end EL

set_option maxHeartbeats 2000000
namespace EL
open PySem PySem.Spec PyProof.Rows L2
variable [Wsh] [Tbx]
/-! ### instances -/
def lookF : List (PyData × PyData) → Str → Option PyData
  | (.str k, d) :: r, f => if f = k then some d else lookF r f
  | _ :: r, f => lookF r f
  | [], _ => none
section
variable {K : PySem.W.Frag} {O : List Addr} {H : Hp}
theorem RpF.look {f : Str} : ∀ {fs : List (Str × V)} {fds : List (PyData × PyData)}, RpF K O H fs fds → (fs.lookup f = none ∧ lookF fds f = none) ∨ ∃ v d, fs.lookup f = some v ∧ lookF fds f = some d ∧ Rp K O H v d
  | _, _, .nil => .inl ⟨rfl, rfl⟩
  | _, _, .cons (f := g) (v := v) (fs := fs) (d := d) (fds := fds) a b => by
    by_cases e : f = g
    · subst e
      refine .inr ⟨v, d, ?_, ?_, a⟩
      · show (match f == f with | true => some v | false => fs.lookup f) = some v
        rw [beq_self_eq_true]
      · show (if f = f then some d else lookF fds f) = some d
        rw [if_pos rfl]
    · have e1 : List.lookup f ((g, v) :: fs) = fs.lookup f := by
        show (match f == g with | true => some v | false => fs.lookup f) = _
        rw [beq_false_of_ne e]
      have e2 : lookF ((.str g, d) :: fds) f = lookF fds f := by
        show (if f = g then some d else lookF fds f) = _
        rw [if_neg e]
      rw [e1, e2]
      exact RpF.look b
theorem RpF.length : ∀ {fs : List (Str × V)} {fds : List (PyData × PyData)}, RpF K O H fs fds → fs.length = fds.length
  | _, _, .nil => rfl
  | _, _, .cons _ b => by simp [RpF.length b]
end
def insOf (cn : Str) (fds : List (PyData × PyData)) : PyData := .dict ((.none, .str cn) :: fds)
/-- the fields of an instance of the class -/
def fldsOf (cn : Str) : PyData → Option (List (PyData × PyData))
  | .dict ((.none, .str c) :: fds) => if c = cn then some fds else none
  | _ => none
theorem fldsOf_some {cn : Str} {d : PyData} {fds : List (PyData × PyData)} (h : fldsOf cn d = some fds) : d = insOf cn fds := by
  unfold fldsOf at h
  split at h
  · split at h
    · rename_i e
      cases h
      rw [e]
      rfl
    · cases h
  · cases h
section
variable {X : Cx} {pos : Pos} {a b e : Expr} {es : List Expr} {C : Addr} {cn f : Str}
end
end EL

set_option maxHeartbeats 2000000
namespace EL
open PySem PySem.Spec PyProof.Rows L2
variable [Wsh] [Tbx]
section
variable {X : Cx} {pos : Pos} {a b e : Expr} {es : List Expr} {C : Addr} {cn f : Str}
/-! ### an instance that may change (self in __init__) -/
/-! ### C(..) -/
/-! ### o.m(..), o.p -/
end
end EL

set_option maxHeartbeats 2000000
namespace EL
open PySem PySem.Spec PyProof.Rows L2
variable [Wsh] [Tbx]
section
variable {X : Cx} {pos apos : Pos} {a b o e : Expr} {es : List Expr} {C : Addr} {cn : Str}
end
end EL

set_option maxHeartbeats 2000000
namespace EL
open PySem PySem.Spec PyProof.Rows L2
variable [Wsh] [Tbx]
/-! ### while -/
section
variable {X : Cx} {pos : Pos} {cnd : Expr} {body : List Stmt}
end
/-! ### sum, max, min -/
section
variable {K : PySem.W.Frag}
end
end EL

set_option maxHeartbeats 2000000
namespace EL
open PySem PySem.Spec PyProof.Rows L2
variable [Wsh] [Tbx]
section
variable {X : Cx} {pos : Pos} {a b e k : Expr} {es : List Expr}
/-! ### d[k] = v, d a dict that may change -/
/-! ### k in d, d[k], d a dict that may change -/
end
end EL

set_option maxHeartbeats 2000000
namespace EL
open PySem PySem.Spec PyProof.Rows L2
variable [Wsh] [Tbx]
section
variable {X : Cx} {pos : Pos} {a b e k : Expr} {es : List Expr}
/-! ### x.extend(e), x a list that may change, e a list -/
/-! ### len(x), x != [], x == [], x a list that may change -/
end
end EL

set_option maxHeartbeats 2000000
namespace EL
open PySem PySem.Spec PyProof.Rows L2
variable [Wsh] [Tbx]
section
variable {X : Cx} {pos apos : Pos} {a b e k : Expr} {es : List Expr}
/-! ### xs.index(x) -/
/-! ### xs[::-1] -/
theorem RpA.reverse {K : PySem.W.Frag} {O : List Addr} {H : Hp} : ∀ {xs : List V} {ds : List PyData}, RpA K O H xs ds → RpA K O H xs.reverse ds.reverse
  | _, _, .nil => .nil
  | _, _, .cons a b => by
    rw [List.reverse_cons, List.reverse_cons]
    exact (RpA.reverse b).append (.cons a .nil)
end
end EL

set_option maxHeartbeats 2000000
namespace EL
open PySem PySem.Spec PyProof.Rows L2
variable [Wsh] [Tbx]
/-! ### dict comprehensions -/
section
variable {X : Cx} {pos : Pos}
variable {tg iter kx vx : Expr}
end
end EL

set_option maxHeartbeats 2000000
namespace EL
open PySem PySem.Spec PyProof.Rows L2
variable [Wsh] [Tbx]
/-! ### sorted(d), dict(d) -/
section
variable {X : Cx} {pos : Pos} {a : Expr}
end
end EL

set_option maxHeartbeats 2000000
/-! DMm: run lemmas that more than one law wants (they came from the texts of k92; a law's text may not name them anew). -/
namespace EL
open PySem PySem.Spec PyProof.Rows L2 TL
variable [Wsh] [Tbx]
theorem PenOk.mono {n m : Nat} {pd : PyData} (h : PenOk n pd) (l : n ≤ m) : PenOk m pd := by
  obtain ⟨ns, t, g, e, h1, h2, h3⟩ := h
  exact ⟨ns, t, g, e, h1, h2, by omega⟩
theorem lc_mapT {α : Type} {g : Gn} {te : Dn} {vs : List Nat} {E : En} {A B : α → PyData} : ∀ {T : List α} (acc : List PyData), (∀ x ∈ T, ∃ e1 e2, g (A x) E = .ok e1 ∧ te e1 = .ok (B x, e2) ∧ wipeE e2 vs = E) → lcF g tYesD te vs (T.map A) acc E = .ok (.list (acc ++ T.map B), E)
  | [], acc, _ => by
    show Res.ok (PyData.list acc, E) = _
    rw [List.map_nil, List.append_nil]
  | x :: T, acc, h => by
    obtain ⟨e1, e2, h1, h2, h3⟩ := h x List.mem_cons_self
    have ih := lc_mapT (T := T) (acc ++ [B x]) fun y hy => h y (List.mem_cons_of_mem _ hy)
    show Res.bind (g (A x) E) _ = _
    rw [h1]
    show Res.bind (te e1) _ = _
    rw [h2]
    show lcF g tYesD te vs (T.map A) (acc ++ [B x]) (wipeE e2 vs) = _
    rw [h3, ih, List.map_cons, List.append_assoc]
    rfl
theorem cut1 {α : Type} (x : α) (r : List α) : cutD (x :: r) (some 1) none = r := by
  unfold cutD
  rw [show HT.sIx (x :: r).length 0 (some 1) = min 1 (x :: r).length from HT.sIx_nat (x :: r).length 0 1, HT.sIx_none]
  rw [show min 1 (x :: r).length = 1 by rw [List.length_cons]; omega]
  show (List.take ((x :: r).length - 1) r) = r
  rw [List.length_cons, Nat.add_sub_cancel]
  exact List.take_length
theorem sl1 (x : PyData) (r : List PyData) : gSl (.tuple (x :: r)) (some 1) none = .ok (.tuple r) := by
  show Res.ok (PyData.tuple (cutD (x :: r) (some 1) none)) = _
  rw [cut1]
theorem join_all {x : Str} {ss : List Str} {P : Nat → Prop} (h : ∀ s ∈ ss, ∀ c ∈ tl s, P c) (hx : ∀ c ∈ tl x, P c) : ∀ c ∈ tl (Txt.join x ss), P c := by
  rw [join_eq, tl_join]
  generalize hT : ss.map tl = ps
  have hp : ∀ p ∈ ps, ∀ c ∈ p, P c := fun p hp => by
    rw [← hT] at hp
    obtain ⟨s, hs, rfl⟩ := List.mem_map.mp hp
    exact h s hs
  clear hT
  induction ps with
  | nil => intro c q; cases q
  | cons p r ih =>
    cases r with
    | nil => exact hp p List.mem_cons_self
    | cons q r =>
      intro c z
      rcases List.mem_append.mp z with z | z
      · exact hp p List.mem_cons_self c z
      · rcases List.mem_append.mp z with z | z
        · exact hx c z
        · exact ih (fun y hy => hp y (List.mem_cons_of_mem _ hy)) c z
/-! ### while, dict comprehensions, instances run -/
section
variable (en : En)
end
end EL

set_option maxHeartbeats 4000000
/-! TSa: sets whose elements are objects told by a HeapKind (tuples of texts): search, adding, set(list). -/
namespace EL
open PySem PySem.Spec PyProof.Rows L2

section
variable {P : Program} {w : World} {κ : Type} [DecidableEq κ]
variable {kd : HeapKind P w κ}
/-- a set's elements, its table -/
structure Tb (kd : HeapKind P w κ) (h : Heap) (a : Addr) (L : List (κ × Addr)) (es : Array (Int × Value)) (ep : Nat) (t : SetTable) : Prop where
  ob : ∃ o, h.get? a = some o ∧ o.ExactSet ∧ o.data = .set es ep t
  es : es.toList = L.map fun p => (kd.hash p.1, Value.ref p.2)
  tab : TabOk t (L.map fun p => kd.hash p.1)
  nd : (L.map (·.1)).Nodup
  is : ∀ p ∈ L, kd.is h p.1 p.2
  led : w.params.followText "set-order" = true ∨ t.led = true
  room : L.length * 5 < t.mask * 3
  few : L.length < 64

variable {A : Around} {E : Value → Shared → Prop} {s : Shared} {h : Heap} {a : Addr} {L : List (κ × Addr)} {es : Array (Int × Value)} {ep : Nat} {t : SetTable}
theorem Tb.size (T : Tb kd h a L es ep t) : es.size = L.length := by
  rw [← Array.length_toList, T.es, List.length_map]
theorem Tb.fits (T : Tb kd h a L es ep t) : t.fits es.size = true := by
  have z := T.tab.sz
  have e := T.size
  have r := T.room
  rw [List.length_map] at z
  simp only [SetTable.fits, SetTable.fill, T.tab.dm, Bool.and_eq_true, beq_iff_eq, decide_eq_true_eq]
  refine ⟨by omega, ?_⟩
  show t.place.size + 0 ≤ t.mask
  omega
theorem Tb.at (T : Tb kd h a L es ep t) {i : Nat} {p : κ × Addr} (e : L[i]? = some p) : es[i]? = some (kd.hash p.1, Value.ref p.2) := by
  rw [← Array.getElem?_toList, T.es, List.getElem?_map, e]
  rfl
theorem Tb.pos (T : Tb kd h a L es ep t) {i j : Nat} (e : t.place.toList[i]? = some j) : i < L.length := by
  have z := T.tab.sz
  have l := (List.getElem?_eq_some_iff.mp e).1
  rw [List.length_map] at z
  rw [Array.length_toList] at l
  omega
theorem Tb.pos' (T : Tb kd h a L es ep t) {i : Nat} (e : i < L.length) : i < t.place.toList.length := by
  have z := T.tab.sz
  rw [List.length_map] at z
  rw [Array.length_toList]
  omega

/-- the probe behind c steps -/
abbrev pr (m : Nat) (hs : Int) (c : Nat) : SetTable.Probe := nth m (runAt m (SetTable.bits hs % (m + 1)) (SetTable.bits hs)) c
end
end EL

set_option maxHeartbeats 4000000
/-! TSb: adding to such a set; set(list). -/
namespace EL
open PySem PySem.Spec PyProof.Rows L2

section
variable {P : Program} {w : World} {κ : Type} [DecidableEq κ] {kd : HeapKind P w κ}
variable {A : Around} {E : Value → Shared → Prop} {s : Shared} {a : Addr} {L : List (κ × Addr)} {es : Array (Int × Value)} {ep : Nat} {t : SetTable}

end
end EL

set_option maxHeartbeats 4000000
/-! TSc: set(list) of such things. -/
namespace EL
open PySem PySem.Spec PyProof.Rows L2

section
variable {κ : Type} [DecidableEq κ]
/-- what the set holds behind the first i items -/
structure Has (ks : List (κ × Addr)) (i : Nat) (L : List (κ × Addr)) : Prop where
  sub : ∀ p ∈ L, p ∈ ks.take i
  all : ∀ p ∈ ks.take i, p.1 ∈ L.map (·.1)
  len : L.length ≤ i
theorem Has.nil (ks : List (κ × Addr)) : Has ks 0 [] := ⟨fun _ z => (nomatch z), fun _ z => (by simp at z), Nat.le_refl _⟩
theorem take1 {α : Type} {l : List α} {i : Nat} {x : α} (e : l[i]? = some x) : l.take (i + 1) = l.take i ++ [x] := by
  rw [List.take_add_one, e]
  rfl
theorem Has.step {ks L L' : List (κ × Addr)} {i : Nat} {x : κ × Addr} (g : Has ks i L) (e : ks[i]? = some x) (h1 : x.1 ∈ L.map (·.1) → L' = L) (h2 : x.1 ∉ L.map (·.1) → L'.Perm (x :: L)) : Has ks (i + 1) L' := by
  have t := take1 e
  by_cases c : x.1 ∈ L.map (·.1)
  · have z := h1 c
    subst z
    refine ⟨fun p hp => ?_, fun p hp => ?_, Nat.le_succ_of_le g.len⟩
    · rw [t]; exact List.mem_append_left _ (g.sub p hp)
    · rw [t] at hp
      rcases List.mem_append.mp hp with y | y
      · exact g.all p y
      · rw [List.mem_singleton.mp y]; exact c
  · have pm := h2 c
    refine ⟨fun p hp => ?_, fun p hp => ?_, by rw [pm.length_eq]; exact Nat.succ_le_succ g.len⟩
    · rw [t]
      rcases List.mem_cons.mp (pm.mem_iff.mp hp) with y | y
      · rw [y]; exact List.mem_append_right _ List.mem_cons_self
      · exact List.mem_append_left _ (g.sub p y)
    · rw [(pm.map (·.1)).mem_iff]
      rw [t] at hp
      rcases List.mem_append.mp hp with y | y
      · exact List.mem_cons_of_mem _ (g.all p y)
      · rw [List.mem_singleton.mp y]; exact List.mem_cons_self
end

section
variable {P : Program} {w : World} {κ : Type} [DecidableEq κ] {kd : HeapKind P w κ} {A : Around} {E : Value → Shared → Prop} {s : Shared}
theorem Tb.kept {h h' : Heap} {a : Addr} {L : List (κ × Addr)} {es : Array (Int × Value)} {ep : Nat} {t : SetTable} (T : Tb kd h a L es ep t) (ha : ∀ o, h.get? a = some o → h'.get? a = some o) (is : ∀ p ∈ L, kd.is h' p.1 p.2) : Tb kd h' a L es ep t :=
  let ⟨o, ho, r⟩ := T.ob
  { T with ob := ⟨o, ha o ho, r⟩, is := is }
end
end EL

set_option maxHeartbeats 4000000
/-! TSd: the call set(list). -/
namespace EL
open PySem PySem.Spec PyProof.Rows L2

section
variable {P : Program} {w : World} {A : Around} {E : Value → Shared → Prop} {s : Shared}
variable {κ : Type} [DecidableEq κ] {kd : HeapKind P w κ}
end
end EL

set_option maxHeartbeats 4000000
/-! TSe: sorting objects by an order of their keys; sorted(set). -/
namespace EL
open PySem PySem.Spec PyProof.Rows L2

/-! ### a rank from a strict order -/
structure Ord (κ : Type) where
  lt : κ → κ → Bool
  irr : ∀ x, lt x x = false
  tr : ∀ x y z, lt x y = true → lt y z = true → lt x z = true
  mix : ∀ q x y, lt q y = true → lt x y = false → lt q x = true
section
variable {κ : Type} (O : Ord κ)
end

/-! ### keys of references -/
section
variable {κ : Type} [Inhabited κ]
end

section
variable {P : Program} {w : World} {A : Around} {E : Value → Shared → Prop} {s : Shared} {κ : Type} [DecidableEq κ] [Inhabited κ]
end
end EL

set_option maxHeartbeats 4000000
/-! TSf: tuples of texts as elements; their order. -/
namespace EL
open PySem PySem.Spec PyProof.Rows L2

section
variable {P : Program} {w : World}
end

/-! ### the order of tuples of texts -/
section
variable {P : Program} {w : World} {A : Around} {s : Shared}
end
end EL

set_option maxHeartbeats 4000000
/-! TSg: sorted(set) of things with keys; the calls set(..), sorted(..) of lists of tuples of texts. -/
namespace EL
open PySem PySem.Spec PyProof.Rows L2

section
variable {P : Program} {w : World} {A : Around} {E : Value → Shared → Prop} {s : Shared} {κ : Type} [DecidableEq κ] [Inhabited κ] {kd : HeapKind P w κ}
end
end EL

set_option maxHeartbeats 4000000
/-! TSh: sorted(set(e)), e a list of tuples of texts, as data. -/
namespace EL
open PySem PySem.Spec PyProof.Rows L2

/-! ### the calls -/
section
variable {P : Program} {w : World} {κ : Type} [DecidableEq κ] {kd : HeapKind P w κ}
end
section
variable {X : Cx}
end

/-! ### as data -/
end EL

set_option maxHeartbeats 4000000
/-! TSi: the rule for sorted(set(e)). -/
namespace EL
open PySem PySem.Spec PyProof.Rows L2
variable [Wsh] [Tbx]
section
variable {K : PySem.W.Frag} {O : List Addr} {H : Hp}
end
section
variable {X : Cx} {a : Expr} {pos p p2 q : Pos}
end
end EL

set_option maxHeartbeats 2000000
/-! DNa: defs with defaults; operators of own classes (a | b, k in o, len(o), o[k]). -/
namespace EL
open PySem PySem.Spec PyProof.Rows L2
variable [Wsh] [Tbx]
section
variable {P : Program} {w : World} {K : PySem.W.Frag} {mg : Str → Option Value} {base : Heap}
/-- a def whose defaults are dV -/
structure FunV (K : PySem.W.Frag) (x qual : Str) (st : Stmt) (dV : Value) (f : Addr) (fd : FuncData) : Prop where
  ex : ∃ (oc : Value) (od : Option Addr) (kV doc pm : Value) (an : Option Addr) (cdv ct : Value) (osl : Array (Option Value)),
    fd = PySem.W.fnOf x qual (defArgs st) (defBody st) (defScope st) dV kV doc pm an cdv ct ∧ K.lookup f = some ⟨oc, od, .func fd, osl⟩ ∧ PySem.W.codeIn K cdv qual = true
  kp : PySem.W.keepIn K (.ref f) = true
theorem FunV.ok {x qual : Str} {st : Stmt} {dV : Value} {f : Addr} {fd : FuncData} {N ps : List Str} {k : Nat} {sp : Sp} (F : FunV K x qual st dV f fd) (S : FnScope N ps (defScope st)) (len : ∀ vs H Q E, sp vs H Q E → vs.length = ps.length)
    (hb : ∀ (cdv : Value) (A : Around) (outer : List Env) (s : Shared) (H : Hp) (vs : List V) (Q : VK) (E : XK), Room k (A.deeper (envOfC qual (defScope st) s.heap.objs.size f cdv)) → sp vs H Q E →
      ∃ t, PSs (cxOf CX0 P w K mg base N qual (defScope st) f cdv A outer s H E).nox (defBody st) t ∧ t { nx := fun _ H' => Q .non H', rt := Q } (L2.start N vs) H) : FnOk P w K mg base CX0 (k + 1) f fd ps sp := by
  obtain ⟨oc, od, kV, doc, pm, an, cdv, ct, osl, rfl, lk, hcd⟩ := F.ex
  refine fn_of lk hcd S len fun A outer s H vs Q E hr hsp => ?_
  obtain ⟨t, h, q⟩ := hb cdv A outer s H vs Q E hr hsp
  exact ⟨t, h.nox, q⟩
theorem FunV.binds {x qual : Str} {st : Stmt} {dV : Value} {f : Addr} {fd : FuncData} {ps : List Str} (F : FunV K x qual st dV f fd)
    (h : ∀ (kV doc pm : Value) (an : Option Addr) (cdv ct : Value) (us : List Value), us.length = ps.length → bindArgs (PySem.W.fnOf x qual (defArgs st) (defBody st) (defScope st) dV kV doc pm an cdv ct) ⟨us, []⟩ = pure (ps.zip us)) : Binds K fd ps [] := by
  obtain ⟨oc, od, kV, doc, pm, an, cdv, ct, osl, rfl, lk, hcd⟩ := F.ex
  exact .all (h kV doc pm an cdv ct)
end
/-! ### a | b of one own class -/
section
variable {X : Cx} {pos : Pos} {a b : Expr} {C : Addr} {cn : Str}
end
end EL

set_option maxHeartbeats 2000000
/-! DNb: max(list, default=n), min(..); list(d.values()). -/
namespace EL
open PySem PySem.Spec PyProof.Rows L2
variable [Wsh] [Tbx]
/-! ### max with a default -/
section
variable {X : Cx}
end
section
variable {X : Cx} {a b : Expr} {p kpos pos : Pos}
end
/-! ### list(d.values()) -/
section
variable {X : Cx}
end
section
variable {X : Cx} {e : Expr} {p apos cpos pos : Pos}
end
end EL

set_option maxHeartbeats 4000000
/-! DNc: {**a, **b}. -/
namespace EL
open PySem PySem.Spec PyProof.Rows L2
variable [Wsh] [Tbx]
section
variable {prog : Program} {w : World} {κ : Type} [DecidableEq κ] {knd : KeyKind prog w κ} {A : Around} {E : Value → Shared → Prop} {s : Shared}
end
end EL

set_option maxHeartbeats 4000000
/-! DNd: {**a, **b} as data. -/
namespace EL
open PySem PySem.Spec PyProof.Rows L2
variable [Wsh] [Tbx]
section
variable {X : Cx} {a b : Expr} {ta tb : TE} {pos : Pos}
end
section
variable {c : Fc} {O : List Addr} {H : Hp} {σ : L2.St} {en : En}
end
section
variable {X : Cx} {a b : Expr} {pos : Pos}
end
end EL

set_option maxHeartbeats 4000000
/-! DNe: t[::-1] of tuples; xs * n. -/
namespace EL
open PySem PySem.Spec PyProof.Rows L2
variable [Wsh] [Tbx]
section
variable {prog : Program} {w : World} {A : Around} {E : Value → Shared → Prop} {s : Shared}
end
section
variable {X : Cx} {a : Expr} {pos : Pos}
end
/-! ### xs * n -/
def gMulA : PyData → PyData → Res PyData
  | .list ds, .int k => if (decide (-1000 ≤ k) && decide (k ≤ 1000) && decide (ds.length ≤ 1000)) = true then .ok (.list (List.replicate k.toNat ds).flatten) else .bad
  | .tuple ds, .int k => if (decide (2 ≤ k) && decide (k ≤ 1000) && decide (ds.length ≤ 1000) && !ds.isEmpty) = true then .ok (.tuple (List.replicate k.toNat ds).flatten) else .bad
  | .str x, .int k => if (decide (-1000 ≤ k) && decide (k ≤ 1000) && decide (x.length ≤ 1000) && decide ((Txt.mul x k).length ≤ sizeLine)) = true then .ok (.str (Txt.mul x k)) else .bad
  | x, y => gMul x y
/-- a text times an int -/
def rRepS : R2 := fun x y H Q => ∃ z k, x = .str z ∧ y = .int k ∧ MulOk z k ∧ Q (.str (Txt.mul z k)) H
theorem op_repS {X : Cx} : OpR X (binaryOp .Mult) rRepS := by
  intro pins s σ H x y v u Q I rx ry h
  obtain ⟨z, k, rfl, rfl, hm, q⟩ := h
  obtain ⟨t, rfl⟩ := rx
  obtain ⟨t', rfl⟩ := ry
  exact SB.mul hm fun t' tk => ⟨.str (Txt.mul z k), H, I.tok _, ⟨_, rfl⟩, q⟩
theorem mul_ok {x : Str} {k : Int} (h1 : -1000 ≤ k) (h2 : k ≤ 1000) (h3 : x.length ≤ 1000) : MulOk x k := by
  refine ⟨?_, fun h _ => ?_, fun h _ => ?_⟩
  · rw [decide_eq_false (by omega), decide_eq_false (by omega)]; rfl
  · have h4 : ((x.length : Nat) : Int) * k ≤ 1000 * 1000 := Int.mul_le_mul (by omega) h2 (by omega) (by omega)
    have := (Int.le_ediv_iff_mul_le (a := ((x.length : Nat) : Int)) (b := 2 ^ 63 - 1) (c := k) (by omega)).mpr (by omega)
    omega
  · have h4 : x.length * k.toNat ≤ 1000 * 1000 := Nat.mul_le_mul h3 (by omega)
    show decide (x.length * k.toNat > sizeLine) = false
    rw [decide_eq_false]
    rw [sizeLine_eq]
    omega
section
variable {K : PySem.W.Frag}
theorem RpA.rep {O : List Addr} {H : Hp} {xs : List V} {ds : List PyData} (r : RpA K O H xs ds) : ∀ n, RpA K O H (List.replicate n xs).flatten (List.replicate n ds).flatten
  | 0 => .nil
  | n + 1 => by
    rw [List.replicate_succ, List.replicate_succ, List.flatten_cons, List.flatten_cons]
    exact r.append (RpA.rep r n)
theorem rep_len {α : Type} (l : List α) : ∀ n, (List.replicate n l).flatten.length = l.length * n
  | 0 => rfl
  | n + 1 => by
    rw [List.replicate_succ, List.flatten_cons, List.length_append, rep_len l n, Nat.mul_succ]
    omega
theorem op_mulA {X : Cx} : OpR X (binaryOp .Mult) (fun x y H Q => (rI CMul fun i j => V.int (i * j)) x y H Q ∨ (fun x y H Q => rRep x y H Q ∨ (fun x y H Q => rRepS x y H Q ∨ rRepT X.K x y H Q) x y H Q) x y H Q) := op_mul.or (op_rep.or (op_repS.or op_repT))
theorem gMulA_ok : OpD K (fun x y H Q => (rI CMul fun i j => V.int (i * j)) x y H Q ∨ (fun x y H Q => rRep x y H Q ∨ (fun x y H Q => rRepS x y H Q ∨ rRepT K x y H Q) x y H Q) x y H Q) gMulA := by
  intro O H x y dx dy Q l rx ry h
  cases dx with
  | list ds =>
    cases dy with
    | int k =>
      have e0 : gMulA (.list ds) (.int k) = (if (decide (-1000 ≤ k) && decide (k ≤ 1000) && decide (ds.length ≤ 1000)) = true then .ok (.list (List.replicate k.toNat ds).flatten) else .bad) := rfl
      rw [e0] at h
      by_cases hb : (decide (-1000 ≤ k) && decide (k ≤ 1000) && decide (ds.length ≤ 1000)) = true
      · rw [if_pos hb] at h
        simp only [Bool.and_eq_true, decide_eq_true_eq] at hb
        obtain ⟨a, xs, rfl, g1, g2, g3, g4⟩ := rx.lstI
        cases ry
        have ln := g4.length
        have mz : xs.length * k.toNat ≤ 1000 * 1000 := Nat.mul_le_mul (by omega) (by omega)
        refine .inr (.inl ⟨a, k, xs, rfl, rfl, g1, by omega, by omega, by rw [sizeLine_eq]; omega, fun p hp => ?_⟩)
        exact h _ _ (same_new hp) (Rp.newL l hp (by rw [rep_len, sizeLine_eq]; omega) (g4.rep _))
      · rw [if_neg hb] at h; exact h.elim
    | _ => exact .inl (gMul_ok O H x y _ _ Q l rx ry h)
  | tuple ds =>
    cases dy with
    | int k =>
      have e0 : gMulA (.tuple ds) (.int k) = (if (decide (2 ≤ k) && decide (k ≤ 1000) && decide (ds.length ≤ 1000) && !ds.isEmpty) = true then .ok (.tuple (List.replicate k.toNat ds).flatten) else .bad) := rfl
      rw [e0] at h
      by_cases hb : (decide (2 ≤ k) && decide (k ≤ 1000) && decide (ds.length ≤ 1000) && !ds.isEmpty) = true
      · rw [if_pos hb] at h
        simp only [Bool.and_eq_true, decide_eq_true_eq] at hb
        obtain ⟨⟨⟨b1, b2⟩, b3⟩, b4⟩ := hb
        obtain ⟨a, xs, rfl, g1, g3, g4⟩ := rx.tupS
        cases ry
        have ln := g4.length
        have ne : xs ≠ [] := fun z => by
          rw [z] at ln
          cases ds with
          | nil => cases b4
          | cons _ _ => cases ln
        have mz : xs.length * k.toNat ≤ 1000 * 1000 := Nat.mul_le_mul (by omega) (by omega)
        refine .inr (.inr (.inr ⟨a, k, xs, rfl, rfl, g1 O H .refl, ne, b1, b2, by omega, fun p hp => ?_⟩))
        exact h _ _ (same_new hp) (Rp.newT l hp (by rw [rep_len, sizeLine_eq]; omega) (g4.rep _))
      · rw [if_neg hb] at h; exact h.elim
    | _ => exact .inl (gMul_ok O H x y _ _ Q l rx ry h)
  | str z =>
    cases dy with
    | int k =>
      have e0 : gMulA (.str z) (.int k) = (if (decide (-1000 ≤ k) && decide (k ≤ 1000) && decide (z.length ≤ 1000) && decide ((Txt.mul z k).length ≤ sizeLine)) = true then .ok (.str (Txt.mul z k)) else .bad) := rfl
      rw [e0] at h
      by_cases hb : (decide (-1000 ≤ k) && decide (k ≤ 1000) && decide (z.length ≤ 1000) && decide ((Txt.mul z k).length ≤ sizeLine)) = true
      · rw [if_pos hb] at h
        simp only [Bool.and_eq_true, decide_eq_true_eq] at hb
        obtain ⟨⟨⟨b1, b2⟩, b3⟩, b4⟩ := hb
        cases rx
        cases ry
        exact .inr (.inr (.inl ⟨z, k, rfl, rfl, mul_ok b1 b2 b3, h _ _ (Same.refl _) (.str _ b4)⟩))
      · rw [if_neg hb] at h; exact h.elim
    | _ => exact .inl (gMul_ok O H x y _ _ Q l rx ry h)
  | _ => exact .inl (gMul_ok O H x y _ _ Q l rx ry h)
end
end EL

set_option maxHeartbeats 2000000
/-! DNf: k in d as a test of an owned dict; defs with defaults, all arguments given. -/
namespace EL
open PySem PySem.Spec PyProof.Rows L2
variable [Wsh] [Tbx]
section
variable {X : Cx} {pos : Pos} {k : Expr}
end
end EL

set_option maxHeartbeats 2000000
/-! PO: plain theory of orders: topological rows, heaviest chains, no program in sight. -/
namespace OT
section
variable {α : Type}
/-- each item's lowers stand before it -/
def Topo (lo : α → List α) (row : List α) : Prop := ∀ p x s, row = p ++ x :: s → ∀ l ∈ lo x, l ∈ p
def Mx0 (l : List Int) (m : Int) : Prop := (l = [] ∧ m = 0) ∨ (m ∈ l ∧ ∀ y ∈ l, y ≤ m)
/-- the heads and tails of a row -/
structure HT (lo : α → List α) (row : List α) (w h t : α → Int) : Prop where
  topo : Topo lo row
  nd : row.Nodup
  wp : ∀ i ∈ row, 0 < w i
  hd : ∀ i ∈ row, ∃ ls : List α, (∀ l, l ∈ ls ↔ l ∈ lo i) ∧ Mx0 (ls.map fun l => h l + w l) (h i)
  tl : ∀ i ∈ row, ∃ us : List α, (∀ u, u ∈ us ↔ u ∈ row ∧ i ∈ lo u) ∧ Mx0 (us.map t) (t i - w i)
variable {lo : α → List α} {row : List α} {w h t : α → Int}
end
end OT

set_option maxHeartbeats 2000000
/-! DNg: run lemmas: comprehensions with a test, dict comprehensions, loops by prefixes, dicts keyed by texts. -/
namespace EL
open PySem PySem.Spec PyProof.Rows L2
theorem lc_filtT {α : Type} {g : Gn} {tt : Tn} {te : Dn} {vs : List Nat} {E : En} {A B : α → PyData} {p : α → Bool} : ∀ {T : List α} (acc : List PyData),
    (∀ x ∈ T, ∃ e1 e2, g (A x) E = .ok e1 ∧ tt e1 = .ok (p x, e2) ∧ (p x = true → ∃ e3, te e2 = .ok (B x, e3) ∧ wipeE e3 vs = E) ∧ (p x = false → wipeE e2 vs = E)) →
    lcF g tt te vs (T.map A) acc E = .ok (.list (acc ++ (T.filter p).map B), E)
  | [], acc, _ => by
    show Res.ok (PyData.list acc, E) = _
    rw [List.filter_nil, List.map_nil, List.append_nil]
  | x :: T, acc, h => by
    obtain ⟨e1, e2, h1, h2, h3, h4⟩ := h x List.mem_cons_self
    have ih := fun acc => lc_filtT (T := T) acc fun y hy => h y (List.mem_cons_of_mem _ hy)
    show Res.bind (g (A x) E) _ = _
    rw [h1]
    show Res.bind (tt e1) _ = _
    rw [h2]
    cases q : p x with
    | true =>
      obtain ⟨e3, h5, h6⟩ := h3 q
      show Res.bind (te e2) _ = _
      rw [h5]
      show lcF g tt te vs (T.map A) (acc ++ [B x]) (wipeE e3 vs) = _
      rw [h6, ih, List.filter_cons, q, if_pos rfl, List.map_cons, List.append_assoc]
      rfl
    | false =>
      show lcF g tt te vs (T.map A) acc (wipeE e2 vs) = _
      rw [h4 q, ih, List.filter_cons, q, if_neg (by decide)]
/-! ### dicts keyed by texts -/
/-! ### loops by prefixes -/
theorem loop_pre {α : Type} {g : Gn} {b : Sn} {A : α → PyData} {I : List α → En → Prop} {T : List α} (step : ∀ p x s, T = p ++ x :: s → ∀ E, I p E → ∃ e1 e2, g (A x) E = .ok e1 ∧ b e1 = .ok (.nx, e2) ∧ I (p ++ [x]) e2) :
    ∀ (s p : List α) (E : En), T = p ++ s → I p E → ∃ E', loopF g b (s.map A) E = .ok (.nx, E') ∧ I T E'
  | [], p, E, e, hI => ⟨E, rfl, by rw [e, List.append_nil]; exact hI⟩
  | x :: s, p, E, e, hI => by
    obtain ⟨e1, e2, h1, h2, h3⟩ := step p x s e E hI
    obtain ⟨E', h4, h5⟩ := loop_pre step s (p ++ [x]) e2 (by rw [e]; simp) h3
    refine ⟨E', ?_, h5⟩
    show Res.bind (g (A x) E) _ = _
    rw [h1]
    show Res.bind (b e1) _ = _
    rw [h2]
    exact h4
/-! ### lists of texts, of numbers -/
theorem bools_map {α : Type} (f : α → Bool) : ∀ T : List α, bools (T.map fun x => .bool (f x)) = some (T.map f)
  | [] => rfl
  | x :: T => by
    show (bools (T.map fun x => .bool (f x))).map (f x :: ·) = _
    rw [bools_map f T]
    rfl
theorem gAll_map {α : Type} (f : α → Bool) (T : List α) : gAll (.list (T.map fun x => .bool (f x))) = .ok (.bool (T.all f)) := by
  show (match bools (T.map fun x => .bool (f x)) with
    | some bs => Res.ok (PyData.bool (bs.all id))
    | none => .bad) = _
  rw [bools_map]
  show Res.ok (PyData.bool ((T.map f).all id)) = _
  rw [List.all_map]
  rfl
theorem rng_ok {r : Int} (h0 : -1000 ≤ r) (h1 : r < 1000) : gRange1 [.int r] = .ok ((List.range r.toNat).map fun i => .int (i : Nat)) := by
  have a : decide (-(2 ^ 62) ≤ r) = true := decide_eq_true (by omega)
  have b : decide (r < 2 ^ 62) = true := decide_eq_true (by omega)
  have c : decide (r.toNat ≤ sizeLine) = true := decide_eq_true (by rw [sizeLine_eq]; omega)
  show (if (decide (-(2 ^ 62) ≤ r) && decide (r < 2 ^ 62) && decide (r.toNat ≤ sizeLine)) = true then Res.ok ((List.range r.toNat).map fun i => PyData.int (i : Nat)) else .bad) = _
  rw [a, b, c]
  rfl
/-! ### more pieces -/
end EL

set_option maxHeartbeats 2000000
/-! DNh: going lemmas: what a piece comes to, from what its parts come to (terms instead of simp). -/
namespace EL
open PySem PySem.Spec PyProof.Rows L2
section
variable {α β : Type} {en e1 e2 e3 : En}
theorem bnd_go {f : En → Res (α × En)} {k : α → En → Res (β × En)} {x : α} {r : Res (β × En)} (h : f en = .ok (x, e1)) (h2 : k x e1 = r) : bnd f k en = r := by
  show Res.bind (f en) _ = _
  rw [h]
  exact h2
variable {a b : Dn} {x y z : PyData} {xs : List PyData} {r : An} {c t u : Tn} {s s2 : Sn} {q : Res (Fl × En)} {i : Nat} {d : PyData} {k : Bool}
theorem g_un {g : PyData → Res PyData} (h : a en = .ok (x, e1)) (h2 : g x = .ok z) : dUn g a en = .ok (z, e1) := bnd_go h (by show Res.bind (Res.calm (g x)) _ = _; rw [h2]; rfl)
theorem g_op {g : PyData → PyData → Res PyData} (h : a en = .ok (x, e1)) (h1 : b e1 = .ok (y, e2)) (h2 : g x y = .ok z) : dOp g a b en = .ok (z, e2) := bnd_go h (bnd_go h1 (by show Res.bind (Res.calm (g x y)) _ = _; rw [h2]; rfl))
theorem g_cons (h : a en = .ok (x, e1)) (h1 : r e1 = .ok (xs, e2)) : dCons a r en = .ok (x :: xs, e2) := bnd_go h (bnd_go h1 rfl)
theorem g_nil : dNil en = .ok ([], en) := rfl
theorem g_app {g : List PyData → Res PyData} (h : r en = .ok (xs, e1)) (h2 : g xs = .ok z) : dApp g r en = .ok (z, e1) := bnd_go h (by show Res.bind (Res.calm (g xs)) _ = _; rw [h2]; rfl)
theorem g_app1 {g : PyData → Res PyData} (h : a en = .ok (x, e1)) (h2 : g x = .ok z) : dApp (g1 g) (dCons a dNil) en = .ok (z, e1) := g_app (g_cons h g_nil) h2
theorem g_of (h : a en = .ok (x, e1)) (h2 : parts x = .ok xs) : iOf a en = .ok (xs, e1) := bnd_go h (by show Res.bind (Res.calm (parts x)) _ = _; rw [h2]; rfl)
theorem g_rg {g : List PyData → Res (List PyData)} {ys : List PyData} (h : r en = .ok (xs, e1)) (h2 : g xs = .ok ys) : iRange g r en = .ok (ys, e1) := bnd_go h (by show Res.bind (Res.calm (g xs)) _ = _; rw [h2]; rfl)
theorem g_lc {g : Gn} {vs : List Nat} {w : Res (PyData × En)} (h : r en = .ok (xs, e1)) (h2 : lcF g t a vs xs [] (wipeE e1 vs) = w) : dLc r g t a vs en = w := bnd_go h h2
theorem g_tB (h : a en = .ok (.bool k, e1)) : tB a en = .ok (k, e1) := bnd_go h rfl
theorem g_not (h : t en = .ok (k, e1)) : tNotD t en = .ok (!k, e1) := bnd_go h rfl
theorem g_or {k2 : Bool} (h : t en = .ok (k, en)) (h2 : k = false → u en = .ok (k2, en)) (h3 : k = true → k2 = true) : tOrD t u en = .ok (k2, en) := by
  refine bnd_go h ?_
  cases k with
  | false => exact h2 rfl
  | true => rw [h3 rfl]; rfl
theorem g_dif {w : Res (PyData × En)} (h : t en = .ok (k, e1)) (h2 : k = true → a e1 = w) (h3 : k = false → b e1 = w) : dIf t a b en = w := by
  refine bnd_go h ?_
  cases k with
  | true => exact h2 rfl
  | false => exact h3 rfl
theorem g_set (h : a en = .ok (x, e1)) : sSet i a en = .ok (.nx, e1.set i (.sh x)) := bnd_go h rfl
theorem g_ret (h : a en = .ok (x, e1)) : sRet a en = .ok (.rt x, e1) := bnd_go h rfl
theorem g_seq (h : s en = .ok (.nx, e1)) (h2 : s2 e1 = q) : sSeq s s2 en = q := bnd_go h h2
theorem g_seqR (h : s en = .ok (.rt d, e1)) : sSeq s s2 en = .ok (.rt d, e1) := bnd_go h rfl
theorem g_if (h : t en = .ok (k, e1)) (h2 : k = true → s e1 = q) (h3 : k = false → s2 e1 = q) : sIf t s s2 en = q := by
  refine bnd_go h ?_
  cases k with
  | true => exact h2 rfl
  | false => exact h3 rfl
theorem g_for {g : Gn} (h : r en = .ok (xs, e1)) (h2 : loopF g s xs e1 = q) : sFor r g s en = q := bnd_go h h2
theorem g_runM {n : Nat} {ds : List PyData} (h : s (startE n ds) = .ok (.rt d, e1)) : runM s n ds = .ok d := by
  unfold runM
  rw [h]
theorem g_runP {n : Nat} {pd pd2 : PyData} {ds : List PyData} {es : List Sl} (h : s (startP n pd ds) = .ok (.rt d, .ow pd2 :: es)) : runP s n pd ds = .ok (d, pd2) := by
  unfold runP
  rw [h]
  rfl
theorem g_gN {n : Nat} {m : List PyData → Res PyData} (hn : xs.length = n) (h : m xs = .ok z) : gN n m xs = .ok z := by
  unfold gN
  rw [if_pos hn]
  exact h
/-- a draw or another pen call -/
theorem g_callP {m : PyData → List PyData → Res (PyData × PyData)} {n : Nat} {pd pd2 : PyData} (h0 : en[i]? = some (.ow pd)) (h : r en = .ok (xs, e1)) (h1 : e1[i]? = some (.ow pd)) (hn : xs.length + 1 = n) (h2 : m pd xs = .ok (x, pd2)) : dCallP m n i r en = .ok (x, e1.set i (.ow pd2)) := by
  unfold dCallP
  rw [h0]
  refine bnd_go h ?_
  unfold callP
  rw [if_pos hn, h1]
  show Res.bind (Res.calm (m pd xs)) _ = _
  rw [h2]
  rfl
/-! ### owned dicts keyed by texts -/
/-! ### comprehensions over one name -/
theorem wipe_set (en : En) (i : Nat) (v : Sl) : wipeE (en.set i v) [i] = en.set i .no := by
  show (en.set i v).set i .no = en.set i .no
  rw [List.set_set]
theorem g_lcS {α : Type} {i : Nat} {A B : α → PyData} {p : α → Bool} {T : List α} (h : r en = .ok (T.map A, en)) (ht : ∀ x ∈ T, t (en.set i (.sh (A x))) = .ok (p x, en.set i (.sh (A x))))
    (hb : ∀ x ∈ T, p x = true → a (en.set i (.sh (A x))) = .ok (B x, en.set i (.sh (A x)))) : dLc r (gNm i) t a [i] en = .ok (.list ((T.filter p).map B), en.set i .no) := by
  refine g_lc h ?_
  rw [show wipeE en [i] = en.set i .no from rfl]
  refine lc_filtT (A := A) (B := B) (p := p) [] fun x hx => ⟨en.set i (.sh (A x)), en.set i (.sh (A x)), ?_, ht x hx, fun q => ⟨_, hb x hx q, wipe_set _ _ _⟩, fun _ => wipe_set _ _ _⟩
  show Res.ok ((en.set i .no).set i (.sh (A x))) = _
  rw [List.set_set]
theorem g_lcM {α : Type} {i : Nat} {A B : α → PyData} {T : List α} (h : r en = .ok (T.map A, en))
    (hb : ∀ x ∈ T, a (en.set i (.sh (A x))) = .ok (B x, en.set i (.sh (A x)))) : dLc r (gNm i) tYesD a [i] en = .ok (.list (T.map B), en.set i .no) := by
  refine g_lc h ?_
  rw [show wipeE en [i] = en.set i .no from rfl]
  refine lc_mapT (A := A) (B := B) [] fun x hx => ⟨en.set i (.sh (A x)), _, ?_, hb x hx, wipe_set _ _ _⟩
  show Res.ok ((en.set i .no).set i (.sh (A x))) = _
  rw [List.set_set]
end
end EL

set_option maxHeartbeats 2000000
/-! DOa: x.pop(k) and x.pop(), x a list that may change, as an expression; x.insert(k, e). -/
namespace EL
open PySem PySem.Spec PyProof.Rows L2
variable [Wsh] [Tbx]
section
variable {X : Cx} {pos : Pos} {a b e k : Expr} {es : List Expr}
theorem RpA.at {K : PySem.W.Frag} {O : List Addr} {H : Hp} : ∀ {vs : List V} {ds : List PyData} {j : Nat} {d : PyData}, RpA K O H vs ds → ds[j]? = some d → ∃ v, vs[j]? = some v ∧ Rp K O H v d
  | _, _, _, _, .nil, h => by cases h
  | _, _, 0, _, .cons q _, h => by cases h; exact ⟨_, rfl, q⟩
  | _, _, j + 1, _, .cons _ t, h => RpA.at (j := j) t h
/-- a slot's list is exchanged -/
theorem Go.upd {c : Fc} {O : List Addr} {H : Hp} {σ : L2.St} {en : En} {i : Nat} {p : Addr} {d d' : PyData} {o : HO} (q1 : en[i]? = some (.ow d)) (hp : σ[i]? = some (some (.ref p))) (hO : p ∈ O) : Go σ O H en (upd H p o) (en.set i (.ow d')) := by
  refine ⟨keep_upd hO, fun j d2 e => ?_, fun a x fr ha => ?_⟩
  · rcases set_some e with ⟨rfl, _, _⟩ | ⟨_, e'⟩
    · exact ⟨d, q1⟩
    · exact ⟨d2, e'⟩
  · by_cases z : a = p
    · exact absurd (by rw [z]; exact hp) (fr i d q1)
    · rw [upd_ne z]; exact ha
theorem RpA.dropLast {K : PySem.W.Frag} {O : List Addr} {H : Hp} : ∀ {vs : List V} {ds : List PyData}, RpA K O H vs ds → RpA K O H vs.dropLast ds.dropLast
  | _, _, .nil => .nil
  | _, _, .cons _ .nil => .nil
  | _, _, .cons q (.cons q2 t) => .cons q (RpA.dropLast (.cons q2 t))
end
end EL

set_option maxHeartbeats 2000000
namespace EL
open PySem PySem.Spec PyProof.Rows L2 LamX

/-! ### a lambda with one parameter, handed to a def -/
/-- one parameter a, the slot i of the maker's; captured names and globals -/
structure LamP (N : List Str) (a : Str) (i : Nat) (sc scope : Scope) : Prop where
  kind : scope.kind = .function
  co : scope.isCoroutine = false
  gen : scope.isGenerator = false
  cel : ∀ y ∈ scope.names, y.2 ≠ .cell
  own : ∀ y ∈ scope.names, y.2 = .local → y.1 = a
  par : scope.names.lookup a = some .local
  free : ∀ y ∈ scope.names, y.2 = .free → sc.names.lookup y.1 = some .cell ∨ sc.names.lookup y.1 = some .free
  uni : ∀ j, N[j]? = some a → j = i
  ix : N[i]? = some a
section
variable {X : Cx} {pins : List (Addr × Obj)} {σ : L2.St} {H HZ : Hp} {s s1 : Shared}
theorem LamP.has {a : Str} {i : Nat} {scope : Scope} (L : LamP X.N a i X.env.scope scope) (ok : X.Ok) : ∀ y ∈ scope.names, y.2 = .free → ∃ c, X.env.cells.lookup y.1 = some c := fun y hy e => by
  rcases L.free y hy e with k | k
  · exact ok.has _ (.inl k)
  · exact ok.has _ (.inr k)
end
end EL

set_option maxHeartbeats 2000000
namespace EL
open PySem PySem.Spec PyProof.Rows L2 LamX

/-! ### the lambda made: all but the maker's table stays -/
section
variable {X : Cx} {pins : List (Addr × Obj)} {σ : L2.St} {H : Hp} {s : Shared}
end

/-! ### def g(some, call): found = {}; for one in some: found[one] = call(one); return found -/
end EL

set_option maxHeartbeats 2000000
namespace EL
open PySem PySem.Spec PyProof.Rows L2 LamX
variable [Wsh] [Tbx]
section
variable {X : Cx}
/-! ### its meaning: a dict comprehension; the slot ip is the table -/
end
end EL

set_option maxHeartbeats 2000000
namespace EL
open PySem PySem.Spec PyProof.Rows L2 LamX
/-! ### a slot that no name of the def shows -/
section
variable {X : Cx} {pins : List (Addr × Obj)} {σ : L2.St} {H : Hp} {s : Shared}
end
/-! ### the law, with its table -/
section
variable {P : Program} {w : World} {K : PySem.W.Frag} {mg : Str → Option Value} {base : Heap}
end
end EL

set_option maxHeartbeats 2000000
namespace EL
open PySem PySem.Spec PyProof.Rows L2 LamX
section
variable [Wsh] [Tbx] {X : Cx}
end
/-! ### the end -/
end EL

set_option maxHeartbeats 2000000
/-! DOb: defs that may raise: their promise spX (spPX: of an __init__), calls, methods, properties, makings. -/
namespace EL
open PySem PySem.Spec PyProof.Rows L2
variable [Tbx]
/-- what is wanted behind an outcome, by values, exceptions too -/
def PoX (K : PySem.W.Frag) (O : List Addr) (H : Hp) (r : Res PyData) (Q : V → Hp → Prop) (E : XK) : Prop :=
  match r with
  | .ok d => ∀ v H', Same H H' → Rp K O H' v d → Q v H'
  | .exc cn fds => ∀ cls d H', Same H H' → ExcAt K O H' cls d cn fds → E cls d H'
  | .bad => False
theorem ExcAt.less {K : PySem.W.Frag} {O O' : List Addr} {H : Hp} {cls : Value} {d : Option Addr} {cn : Str} {fds : List (PyData × PyData)} (h : ∀ a ∈ O', a ∈ O) (x : ExcAt K O H cls d cn fds) : ExcAt K O' H cls d cn fds := by
  obtain ⟨C, dd, fs, e1, e2, e3, e4, e5, e6⟩ := x
  exact ⟨C, dd, fs, e1, e2, e3, fun z => e4 (h _ z), e5, e6.less h⟩
section
variable [Wsh] {X : Cx} {pos : Pos} {a b e : Expr} {es : List Expr}
def gX {α : Type} (r : Res α) : En → Res (α × En) := fun en => r.bind fun d => .ok (d, en)
/-- a wish at a call's state -/
theorem PoX.of {c : Fc} {O : List Addr} {H : Hp} {σ : L2.St} {en : En} {r : Res PyData} {Q : V → Hp → Prop} (h : PoE c O H σ en (gX r en) Q) (rs : RS c O H σ en) : PoX c.K O H r Q Wsh.wx := by
  cases r with
  | ok d => exact fun v H' s rp => h v H' (rs.same s) (.same s) rp
  | exc cn fds => exact fun cls d H' s x => h cls d H' (rs.keep.trans (.of_same s)) (x.less rs.sub)
  | bad => exact h
/-! ### methods, properties -/
variable {C : Addr} {cn : Str}
end
/-! ### the rules for defs -/
section
variable {P : Program} {w : World} {K : PySem.W.Frag} {mg : Str → Option Value} {base : Heap}
end
end EL

set_option maxHeartbeats 2000000
/-! DOc: methods that may raise, makings whose __init__ may raise. -/
namespace EL
open PySem PySem.Spec PyProof.Rows L2
variable [Tbx]
section
variable [Wsh] {X : Cx} {pos apos : Pos} {a b o e : Expr} {es : List Expr} {C : Addr} {cn : Str}
/-! ### C(..), __init__ may raise -/
end
section
variable {P : Program} {w : World} {K : PySem.W.Frag} {mg : Str → Option Value} {base : Heap}
end
end EL

set_option maxHeartbeats 4000000
/-! EXa: super().__init__(..) in the __init__ of an own exception class, by the heap. -/
namespace EXI
open PySem PySem.W PySem.Calls PyProof.Rows
section
variable {prog : Program} {w : World} {A : Around} {E : Value → Shared → Prop} {h : Heap} {g : Array GenState} {d : Drawn} {t : Nat} {os : OsState}
variable {nm q : Str} {C N : Addr} {bs bm bmB : List Value} {hdct : Bool} {sn : List Str} {sub : List Value} {ab : Bool} {col : Option Bool} {dd : Option Addr} {k0 k1 k2 k3 k5 : Option Value} {B i newId : String}
theorem mw_call (FB : ExcBaseFacts B newId i bmB) {u e t0 : Addr} {rest : List Value} {Q : Value → Shared → Prop}
    (hC : h.get? C = some (excClassObj nm q C N bs bm hdct sn sub ab col dd k0 k1 k2 k3 k5 newId)) (he : h.get? e = some (HandSPX.excO C t0)) (hu : h.get? u = some (kxs_mw i e)) (hrest : rest.length ≤ sizeLine)
    (hq : ∀ h' t1, (∀ b o, b ≠ e → h.get? b = some o → h'.get? b = some o) → h'.get? e = some (HandSPX.excO C t1) → Q .none ⟨h', g, d, t, os⟩) :
    wpAny (model prog w) A (call (.ref u) rest) Q E ⟨h, g, d, t, os⟩ := by
  refine wpAny_call (codeAny_of_tree ?_)
  show wpAny _ A.in1 (callAny (.ref u) ⟨rest, []⟩) _ _ _
  simp only [callAny]
  refine wpAny_bind (wpAny_load hu ?_)
  simp only [kxs_mw, show (Value.type "method-wrapper" == Value.type "method" || Value.type "method-wrapper" == Value.type "builtin_function_or_method" || Value.type "method-wrapper" == Value.type "method-wrapper") = true by decide, if_true]
  refine KFB.if_so (by decide) ?_
  refine wpAny_bind (check_bound_init FB.toExcCallFacts hC he rfl ?_)
  refine wpAny_bind (wpAny_pure (wpAny_pure ?_))
  refine ⟨plainId_quiet FB.init.plain _, codeAny_builtin FB.initEntry ?_⟩
  exact exc_init_tree (cls := .ref C) (t0 := t0) (dv := none) (c2 := .none) (c3 := .none) (b4 := .bool false) he hrest fun h' k e' t' => hq h' _ k e'
/-- super().__init__(a, ..), self the exception at x, the args read by name -/
theorem super_init (KF : KxsFacts B i) (FB : ExcBaseFacts B newId i bmB) {K : Frag} {x f cda D t0 : Addr} {env : Env} {body : List Stmt} {of oc : Obj} {fd : FuncData} {ar : Arg} {vs : Array Value} {file : Str} {tf : Tok} {cdD cdC : ClassData} {l : List Value} {a : Expr} {as : List Expr} {p0 p1 p2 p3 p4 : Pos} {us : List Value} {pl : Sem Bool} {Q : Flow → Shared → Prop}
    (X : K.In h) (hks : env.kindOf "super" = some .globalImplicit) (hkc : env.kindOf "__class__" = some .free) (hfu : env.func = some f) (hf : h.get? f = some of) (hfd : of.data = .func fd)
    (hp : (fd.params.posonlyargs ++ fd.params.args).head? = some ar) (hco : env.code = .ref cda) (hcc : h.get? cda = some oc) (hoc : oc.data = .fields vs) (hvs : vs[2]? = some (.str file tf))
    (hfile : ((prog.main.file : Str) == file) = true) (htop : (prog.main.scope.names.lookup ("super" : Str)).isSome = false)
    (hsup : ∀ Q' : Value → Shared → Prop, Q' (.type "super") ⟨h, g, d, t, os⟩ → wpAny (model prog w) A (loadName env "super") Q' E ⟨h, g, d, t, os⟩)
    (hcls : ∀ Q' : Value → Shared → Prop, Q' (.ref D) ⟨h, g, d, t, os⟩ → wpAny (model prog w) A (loadName env "__class__") Q' E ⟨h, g, d, t, os⟩)
    (hself : ∀ Q' : Value → Shared → Prop, Q' (.ref x) ⟨h, g, d, t, os⟩ → wpAny (model prog w) A (loadName env ar.arg) Q' E ⟨h, g, d, t, os⟩)
    (hD : ∃ oD, h.get? D = some oD ∧ oD.data = .cls cdD) (hsub : mroIn K C (.ref D) = some true) (hno : nsIn K cStatics "thirdparty.any" = some none) (hcdC : clsIn K C = some cdC) (hl : (cdC.mro.dropWhile (· != .ref D)).drop 1 = l) (hal : alongIn K "__init__" l = some (some (.builtin i))) (hB : subIn K (.ref C) (.type B) = some true)
    (hC : h.get? C = some (excClassObj nm q C N bs bm hdct sn sub ab col dd k0 k1 k2 k3 k5 newId)) (he : h.get? x = some (HandSPX.excO C t0)) (hxC : x ≠ C)
    (hargs : ∀ (h1 : Heap) (t1 : Nat) (Q' : List Value → Shared → Prop), (∀ b o, h.get? b = some o → h1.get? b = some o) → Q' us ⟨h1, g, d, t1, os⟩ → wpAny (model prog w) A (spliced (backTo p3 (starEach (a :: as) env))) Q' E ⟨h1, g, d, t1, os⟩) (hus : us.length ≤ sizeLine)
    (hst : starEach (a :: as) env = (false, eval a env) :: starEach as env) (hplain : (backTo p3 (starEach as env)).any (·.1) = false)
    (hev : eval (.Call (.Attribute (.Call (.Name "super" p0) [] [] p1) "__init__" p2) (a :: as) [] p3) env = (do
      let ov ← attributeBase (.Call (.Name "super" p0) [] [] p1) "__init__" env (eval (.Call (.Name "super" p0) [] [] p1) env)
      standAt p2.atName
      let (f, first) ← holding [ov] (getMethod ov "__init__" pl)
      callWith p3 f first (backTo p3 (starEach (a :: as) env)) []))
    (hia : interactive env = false)
    (hq : ∀ h' t1 t2, (∀ b o, b ≠ x → h.get? b = some o → h'.get? b = some o) → h'.get? x = some (HandSPX.excO C t1) → Q .next ⟨h', g, d, t2, os⟩) :
    _root_.PySem.wpAt (model prog w) A (.func body env) (exec (.Expr (.Call (.Attribute (.Call (.Name "super" p0) [] [] p1) "__init__" p2) (a :: as) [] p3) p4) env) Q E ⟨h, g, d, t, os⟩ := by
  refine ks_wpAt_Expr_any (ks_wpAt_MethodCall (pl := pl) ?_ hev) hia
  obtain ⟨oD, hD1, hD2⟩ := hD
  refine ks_wpAt_super_base hks hkc (by decide) hfu hf hfd hp hco hcc hoc hvs hfile htop ?_
  refine hsup _ ⟨rfl, hcls _ (hself _ ?_)⟩
  refine ks_wpAny_isType_cls hD1 hD2 ⟨rfl, ?_⟩
  refine ks_wpAny_call_super hD1 hD2 he rfl (fun c e => nomatch e) (looks_mroIn X hsub) (fun h' e k => ?_)
  have X' : K.In h' := X.keeps k
  have hx' := k _ _ he
  refine kxs_getMethod KF e (looks_opaque X' hno) (l₀ := cdC.mro) ?_ hl X' hal ?_ hxC (by decide) ?_
  · exact fun A Q E s kk q => wpAny_bind ((looks_clsIn X' hcdC) A _ E s kk (wpAny_pure q))
  · exact (PySem.W.InstAt.type (od := none) ⟨hx', rfl, rfl, trivial⟩).andThen (looks_subIn X' hB)
  · have kp : ∀ b o, h.get? b = some o → (h'.push (kxs_mw i x)).get? b = some o := fun b o e => Heap.get?_push_of_some _ (k b o e)
    have hu : (h'.push (kxs_mw i x)).get? h'.objs.size = some (kxs_mw i x) := Heap.get?_push_at rfl rfl
    show wpAny _ _ (callWith p3 (.ref h'.objs.size) [] (backTo p3 (starEach (a :: as) env)) []) _ _ _
    have ha := hargs (h'.push (kxs_mw i x)) (t + 1) (fun vs s₁ => KxsAt i h'.objs.size x s₁.heap ∧ wpAny (model prog w) A (call (.ref h'.objs.size) vs) (fun _ => Q .next) E s₁) kp ⟨hu, mw_call FB (kp _ _ hC) (kp _ _ he) hu hus fun h2 t1 k2 e2 => hq h2 t1 _ (fun b o hb ho => k2 b o hb (kp b o ho)) e2⟩
    rw [hst] at ha ⊢
    refine kxs_callWith (i := i) (x := x) (by show (false || (backTo p3 (starEach as env)).any (·.1)) = false; rw [hplain]; rfl) ?_
    exact evalArgs_plain ha
end
end EXI

set_option maxHeartbeats 4000000
/-! EXb: the __init__ of an own exception class over ValueError: super().__init__(..), then self.f = f. -/
namespace EXI
open PySem PySem.W PySem.Calls PyProof.Rows L2
/-- what the written part says of the __init__ -/
structure InitK (prog : Program) (K : Frag) (C fI cc cda : Addr) (qual : Str) (params : Arguments) (body : List Stmt) (scope : Scope) : Prop where
  fn : ∃ oc od kV doc pm an ct osl name, K.lookup fI = some ⟨oc, od, .func (ksFn name qual params body scope .none kV doc pm an (.ref cda) ct cc), osl⟩
  code : codeIn K (.ref cda) qual = true
  rec_ : ∃ ccl cdd vs ccs file tf, K.lookup cda = some ⟨ccl, cdd, .fields vs, ccs⟩ ∧ vs[2]? = some (.str file tf) ∧ ((prog.main.file : Str) == file) = true
  cell : ∃ cl cld csl, K.lookup cc = some ⟨cl, cld, .cell (some (.ref C)), csl⟩
  sub : mroIn K C (.ref C) = some true
  top : (prog.main.scope.names.lookup ("super" : Str)).isSome = false
  opq : nsIn K cStatics "thirdparty.any" = some none
  al : ks_superIn K C C "__init__" = some (some (.builtin "ValueError.__init__"))
  sv : subIn K (.ref C) (.type "ValueError") = some true
  ks : scope.names.lookup ("super" : Str) = some .globalImplicit
  kc : scope.names.lookup ("__class__" : Str) = some .free
  kind : scope.kind = .function
  co : scope.isCoroutine = false
  gen : scope.isGenerator = false
  nocell : ∀ x ∈ scope.names, x.2 ≠ .cell
section
variable {prog : Program} {w : World} {A : Around} {E : Value → Shared → Prop} {hp : Heap} {g : Array GenState} {d : Drawn} {t : Nat} {os : OsState} {K : Frag} {mg : Str → Option Value} {base : Heap} {C x : Addr}
/-- self.f = v, the first -/
theorem set_first {f : Str} {v : Value} {t0 : Addr} {Q : Unit → Shared → Prop} (T : OexC K C) (X : K.In hp) (ho : hp.get? x = some (HandSPX.excO C t0)) (hno : findIn K (.ref C) f = some none)
    (h : ∀ h' tk' dx, (∀ b o, b ≠ x → hp.get? b = some o → h'.get? b = some o) → hp.objs.size ≤ dx → dx ≠ x → h'.get? x = some { cls := .ref C, dict := some dx, data := .fields #[.ref t0, .none, .none, .none, .bool false, .none] } → h'.Ns1 dx (fun y => if y = f then some v else none) → Q () ⟨h', g, d, tk', os⟩) :
    wpAny (model prog w) A (setAttr (.ref x) f v) Q E ⟨hp, g, d, t, os⟩ := by
  obtain ⟨nm, q, N, bs, bm, sn, sub, ab, col, dd, k0, k1, k2, k3, k5, hC, hbm⟩ := T.cls
  have hcl : clsIn K C = some { name := nm, bases := bs, mro := .ref C :: bm, ns := N, qualname := q, hasDict := true, slotNames := sn, subclasses := sub, abstract := ab, collection := col, hasDel := false } := by unfold clsIn; rw [hC] <;> rfl
  refine set_plain X (ox := HandSPX.excO C t0) (od := none) ⟨ho, rfl, rfl, trivial⟩ T.sa ?_
  exact PySem.HandSPX.exc_osa X ho hcl (show PySem.HandSPX.refsVE (.ref C :: bm) = true from hbm) rfl hno fun h' tk' dx k dn dne hx hn => h h' tk' dx k dn dne hx hn
/-- self.f = v, a further one -/
theorem set_next {f : Str} {v : Value} {t0 dx : Addr} {m0 : Str → Option Value} {nl : List Str} {Q : Unit → Shared → Prop} (T : OexC K C) (X : K.In hp) (ho : hp.get? x = some { cls := .ref C, dict := some dx, data := .fields #[.ref t0, .none, .none, .none, .bool false, .none] }) (hns : hp.Ns1 dx m0) (hw : Within m0 nl) (hz : nl.length ≤ 1000) (hno : findIn K (.ref C) f = some none)
    (h : ∀ h' tk', (∀ b o, b ≠ dx → hp.get? b = some o → h'.get? b = some o) → h'.Ns1 dx (fun y => if y = f then some v else m0 y) → Q () ⟨h', g, d, tk', os⟩) :
    wpAny (model prog w) A (setAttr (.ref x) f v) Q E ⟨hp, g, d, t, os⟩ := by
  obtain ⟨nm, q, N, bs, bm, sn, sub, ab, col, dd, k0, k1, k2, k3, k5, hC, hbm⟩ := T.cls
  have hcl : clsIn K C = some { name := nm, bases := bs, mro := .ref C :: bm, ns := N, qualname := q, hasDict := true, slotNames := sn, subclasses := sub, abstract := ab, collection := col, hasDel := false } := by unfold clsIn; rw [hC] <;> rfl
  obtain ⟨oD, _, _, hoD, _, _⟩ := hns.count hw
  refine set_plain X (ox := { cls := .ref C, dict := some dx, data := .fields #[.ref t0, .none, .none, .none, .bool false, .none] }) (od := some oD) ⟨ho, rfl, rfl, hoD⟩ T.sa ?_
  exact PySem.OEX.osa_old X ho hns hw hz hcl (show PySem.HandSPX.refsVE (.ref C :: bm) = true from hbm) rfl hno fun h' tk' k hn => h h' tk' k hn
end
end EXI

set_option maxHeartbeats 4000000
/-! EXc: C(e1, e2), an own exception class over ValueError with two fields, made to be raised. -/
namespace L2
open PySem PySem.Spec PyProof.Rows EXI
section
variable {X : Cx} {e1 e2 : Expr} {ta : TA} {p pos : Pos}
end
end L2

set_option maxHeartbeats 2000000
/-! DOd: raise C(e1, e2). -/
namespace EL
open PySem PySem.Spec PyProof.Rows L2 EXI
variable [Tbx]
section
variable [Wsh] {X : Cx} {es : List Expr} {pos rpos p : Pos} {C : Addr} {cn : Str}
end
end EL

set_option maxHeartbeats 4000000
/-! EXd: an own exception class over ValueError with one field. -/
namespace EXI
open PySem PySem.W PySem.Calls PyProof.Rows L2
section
variable {prog : Program} {w : World} {A : Around} {E : Value → Shared → Prop} {hp : Heap} {g : Array GenState} {d : Drawn} {t : Nat} {os : OsState} {K : Frag} {mg : Str → Option Value} {base : Heap} {C x : Addr}
end
end EXI
namespace L2
open PySem PySem.Spec PyProof.Rows EXI
section
variable {X : Cx} {e1 : Expr} {ta : TA} {p pos : Pos}
end
end L2
namespace EL
open PySem PySem.Spec PyProof.Rows L2 EXI
section
variable [Wsh] [Tbx] {X : Cx} {es : List Expr} {pos rpos p : Pos} {C : Addr} {cn : Str}
end
end EL

set_option maxHeartbeats 4000000
/-! EXe: try: body / except C as n: m = n, and what stands behind it: the caught object stays pinned there. -/
namespace L2
open PySem PySem.Spec PyProof.Rows
section
variable {X : Cx} {x n m : Str} {c : Value} {i j : Nat} {body rest : List Stmt} {np pos pos' q1 q2 q3 : Pos} {tb : WX → TS} {t0 : TS} {t1 : Addr → Value → Option Addr → TS}
end
end L2

set_option maxHeartbeats 4000000
/-! EXf: a pinned exception: its fields, isinstance. -/
namespace L2
open PySem PySem.Spec PyProof.Rows
section
variable {X : Cx} {a C dd : Addr} {oe : Obj} {e : Expr} {te : TE} {pos : Pos} {n : Str}
end
end L2

set_option maxHeartbeats 4000000
/-! EXg: isinstance of an exception that has a dict. -/
namespace EXI
open PySem PySem.W PySem.Spec PySem.Calls PyProof.Rows
section
variable {prog : Program} {w : World} {A : Around} {E : Value → Shared → Prop} {s : Shared} {K : Frag} {x D : Addr} {ox : Obj} {od : Option Obj}
/-- e.__class__ -/
theorem class_of (C : L2.ExcC K D) (hfo : findObj K D od "__class__" = some (.bind (.builtin "getset_descriptor.__get__") (.builtin "object.__class__"))) {Q : Option Value → Shared → Prop} (X : K.In s.heap) (I : InstAt s.heap x ox D od) (h : Q (some (.ref D)) { s with toks := s.toks + 1 }) :
    wpAny (model prog w) A (getAttr? (.ref x) "__class__") Q E s := by
  have ty := I.type (M := model prog w)
  have at1 := looks_findIn (M := model prog w) X C.hg
  have at2 := looks_findIn (M := model prog w) X C.hk
  have at3 := looks_find (M := model prog w) X I hfo
  have isB : Looks (model prog w) s.heap (isInstance (.ref x) (.type "BaseException")) true := ty.andThen (looks_subIn X C.hs)
  obtain ⟨hp, g, d, t, os⟩ := s
  unfold getAttr? getAttrBy? getAttrBy
  refine wpAny_bind (wpAny_mkText (wpAny_bind (wpAny_attempt (wpAny_holding (wpAny_bind (ty.at (wpAny_bind (at1.at ?_))))))))
  have z0 : (Value.builtin "BaseException.__getattribute__" == Value.builtin "object.__getattribute__") = false := by decide +kernel
  simp only [z0, Bool.and_false, Bool.false_eq_true, if_false]
  unfold getAttrByItsOwn hookBefore
  refine wpAny_bind ?_
  simp only [show onTheHeap (Value.ref D) = true from rfl, if_true]
  refine at2.at (wpAny_bind (wpAny_attempt (wpAny_holding ?_)))
  unfold callGetattribute
  simp only [Bool.false_and, Bool.false_eq_true, if_false]
  unfold boundAndCalled
  rw [PySem.F.excAttr_ValueError.ga.bind (.ref x)]
  refine wpAny_bind (wpAny_pure (wpAny_call (codeAny_call_builtin PySem.F.excAttr_ValueError.ga.plain PySem.F.entry_bexc_ga ?_)))
  refine @check_slot (model prog w) _ _ ⟨hp, g, d, t + 1, os⟩ "BaseException.__getattribute__" "BaseException" "__getattribute__" (.ref x) [.str "__class__" t] [] _ (by decide +kernel) (by decide +kernel) isB (PySem.F.args_bexc_ga (.ref x) (.str "__class__" t)) ?_
  unfold Builtin.«object.__getattribute__»
  refine wpAny_bind (wpAny_of_eq (a := ((Value.ref x : Value), [Value.str "__class__" t])) (by first | rfl | (simp only [slotArgs]; rfl)) ?_)
  refine wpAny_bind (wpAny_pure (wpAny_bind (ty.at (wpAny_bind (at3.at ?_)))))
  show wpAny _ _ (holding [Value.builtin "object.__class__"] (call (.builtin "getset_descriptor.__get__") [.builtin "object.__class__", .ref x, .ref D]) >>= ret) _ _ _
  refine wpAny_bind (wpAny_holding (wpAny_call (class_get (s := ⟨hp, g, d, t + 1, os⟩) (ox := ox) (od := od) X I C.hm (wpAny_pure ?_))))
  show wpAny _ _ (handedOut (.ref D)) _ _ _
  rw [handedOut_of (v := .ref D) rfl]
  first
    | exact wpAny_pure (wpAny_pure h)
    | exact wpAny_pure h
    | exact wpAny_pure (wpAny_bind (wpAny_pure (wpAny_pure h)))
theorem cls_obj (C : L2.ExcC K D) : ∃ c d cd sl, K.lookup D = some ⟨c, d, .cls cd, sl⟩ := by
  obtain ⟨cdD, hcD, _⟩ := any_some C.hd
  unfold clsIn at hcD
  split at hcD
  · rename_i ho
    exact ⟨_, _, _, _, ho⟩
  · cases hcD
theorem kit_exc (C : L2.ExcC K D) (hfo : findObj K D od "__class__" = some (.bind (.builtin "getset_descriptor.__get__") (.builtin "object.__class__"))) : KitX K (.ref x) (.ref D) (fun h => InstAt h x ox D od) where
  ty := fun _ _ _ I => I.type
  it := fun _ _ X _ A' Q' E' s' k q => by
    obtain ⟨c, d, cd, sl, ho⟩ := cls_obj C
    unfold isType loadHead
    exact wpAny_bind (wpAny_loadPart (k _ _ (X _ _ ho)) (wpAny_pure q))
  ne := fun h tp dd its n sl X htp => by
    obtain ⟨c, d, cd, sl', ho⟩ := cls_obj C
    refine Bool.eq_false_iff.mpr fun q => ?_
    have e : D = tp := Value.ref.inj (beq_iff_eq.mp q)
    rw [e] at ho
    cases (X _ _ ho).symm.trans htp
  ca := fun X I k => class_of C hfo X I k
end
end EXI
namespace L2
open PySem PySem.Spec PyProof.Rows EXI
end L2

set_option maxHeartbeats 2000000
/-! DOe: a def without defaults, told as one with the defaults None. -/
namespace EL
open PySem PySem.Spec PyProof.Rows L2
theorem Fun.v {K : PySem.W.Frag} {x qual : Str} {st : Stmt} {f : Addr} {fd : FuncData} (F : Fun K x qual st f fd) : FunV K x qual st .none f fd := by
  obtain ⟨oc, od, kV, doc, pm, an, cdv, ct, osl, e, l, c⟩ := F.ex
  exact ⟨⟨oc, od, kV, doc, pm, an, cdv, ct, osl, e, l, c⟩, F.kp⟩
end EL

set_option maxHeartbeats 4000000
/-! EXh: a list comprehension whose element may raise (out of a call). -/
namespace L2
open PySem PySem.Spec PyProof.Rows
section
variable {X : Cx}
/-- the ground without what is not a frame's: another base -/
theorem FunFrames.base {h B B' : Heap} (k : ∀ b, B.get? b = none → B'.get? b = none) : ∀ {l : List Env}, h.FunFrames B l → h.FunFrames B' l
  | [], _ => trivial
  | _ :: _, ⟨a, ⟨L, o, b, c, d, e⟩, r⟩ => ⟨a, ⟨L, o, b, k L c, d, e⟩, FunFrames.base k r⟩
end
end L2

set_option maxHeartbeats 2000000
/-! DOf: [e for x in xs], e a call that may raise. -/
namespace EL
open PySem PySem.Spec PyProof.Rows L2
variable [Wsh] [Tbx]
section
variable {X : Cx} {pos : Pos} {e : Expr} {es : List Expr}
end
end EL

set_option maxHeartbeats 2000000
/-! LAf: heard(lambda: e), e may raise; the maker's table is a slot of its own. -/
namespace EL
open PySem PySem.Spec PyProof.Rows L2 LamX
section
variable {X : Cx}
/-! ### what is heard, as data -/
section
variable [Tbx]
variable [Wsh]
end
end
end EL

set_option maxHeartbeats 4000000
/-! EXi: def _law_parse_heard(_law_ask), as this law's text has it. -/
namespace EL
open PySem PySem.Spec PyProof.Rows L2 LamX EXI
section
variable {X : Cx}
end
end EL

set_option maxHeartbeats 2000000
/-! DOg: raise C(e1, e2), C an own exception class with two fields, over ValueError: all that is known of it in one. -/
namespace EL
open PySem PySem.Spec PyProof.Rows L2 EXI
/-- the text of __init__(self, a, b): super().__init__(a, b); self.a = a; self.b = b -/
structure Shape2 (a b qual : Str) (st : Stmt) : Prop where
  body : ∃ p0 p1 p2 p3 p4 n1 n2 q1 q2 q3 q4 r1 r2 r3 r4 : Pos, defBody st = [.Expr (.Call (.Attribute (.Call (.Name "super" p0) [] [] p1) "__init__" p2) [.Name a n1, .Name b n2] [] p3) p4, .Assign [.Attribute (.Name "self" q1) a q2] (.Name a q3) q4, .Assign [.Attribute (.Name "self" r1) b r2] (.Name b r3) r4] ∧
    (∃ pl : Sem Bool, ∀ (fI cda cc L : Addr), eval (.Call (.Attribute (.Call (.Name "super" p0) [] [] p1) "__init__" p2) [.Name a n1, .Name b n2] [] p3) (PySem.W.ksEnv qual (defScope st) L fI (.ref cda) cc) = (do
      let ov ← attributeBase (.Call (.Name "super" p0) [] [] p1) "__init__" (PySem.W.ksEnv qual (defScope st) L fI (.ref cda) cc) (eval (.Call (.Name "super" p0) [] [] p1) (PySem.W.ksEnv qual (defScope st) L fI (.ref cda) cc))
      standAt p2.atName
      let (f, first) ← holding [ov] (getMethod ov "__init__" pl)
      callWith p3 f first (backTo p3 (starEach [.Name a n1, .Name b n2] (PySem.W.ksEnv qual (defScope st) L fI (.ref cda) cc))) [])) ∧
    (∀ (fI cda cc L : Addr), swapsWith (.Name a q3) (some (.Attribute (.Name "self" q1) a q2)) q4.line (PySem.W.ksEnv qual (defScope st) L fI (.ref cda) cc) = pure false) ∧
    (∀ (fI cda cc L : Addr), swapsWith (.Name b r3) (some (.Attribute (.Name "self" r1) b r2)) r4.line (PySem.W.ksEnv qual (defScope st) L fI (.ref cda) cc) = pure false)
  par : ((defArgs st).posonlyargs ++ (defArgs st).args).head?.map (·.arg) = some ("self" : Str)
  self : (defScope st).names.lookup ("self" : Str) = some .local
  la : (defScope st).names.lookup a = some .local
  lb : (defScope st).names.lookup b = some .local
  bind : ∀ (w u1 u2 : Value) (cda cc : Addr) (name : Str) (kV doc pm : Value) (an : Option Addr) (ct : Value), bindArgs (PySem.W.ksFn name qual (defArgs st) (defBody st) (defScope st) .none kV doc pm an (.ref cda) ct cc) ⟨[w, u1, u2], []⟩ = pure [(("self" : Str), w), (a, u1), (b, u2)]
  sa : ("self" : Str) ≠ a
  sb : ("self" : Str) ≠ b
  ab : a ≠ b
  da : (a == ("__debug__" : Str)) = false
  db : (b == ("__debug__" : Str)) = false
/-- what the top left of it -/
structure Exc2 (P : Program) (K : PySem.W.Frag) (mg : Str → Option Value) (cn a b qual : Str) (st : Stmt) (C : Addr) : Prop where
  ns : PySem.W.nsIn K mainGlobals cn = some (some (.ref C))
  mgc : mg cn = some (.ref C)
  nsu : mg "super" = none
  ox : OexC K C
  xf : XfC K C
  ec : ExcC K C
  ini : ∃ fI cc cda : Addr, InitK P K C fI cc cda qual (defArgs st) (defBody st) (defScope st) ∧ PySem.W.findIn K (.ref C) "__init__" = some (some (.ref fI)) ∧ PySem.W.typeIn K (.ref fI) = some (.type "function")
  fa : PySem.W.findIn K (.ref C) a = some none
  fb : PySem.W.findIn K (.ref C) b = some none
section
variable [Wsh] [Tbx] {X : Cx} {pos rpos p : Pos} {e1 e2 : Expr}
end
end EL

set_option maxHeartbeats 2000000
/-! DOh: d.get(k). -/
namespace EL
open PySem PySem.Spec PyProof.Rows L2
variable [Wsh] [Tbx]
end EL

set_option maxHeartbeats 2000000
/-! LAg: the law with its table, where it calls repr (FnG). -/
namespace EL
open PySem PySem.Spec PyProof.Rows L2 LamX
section
variable {P : Program} {w : World} {K : PySem.W.Frag} {mg : Str → Option Value} {base : Heap}
end
/-! ### the end -/
end EL

set_option maxHeartbeats 2000000
/-! DOi: x, y, z = a, b, c. -/
namespace EL
open PySem PySem.Spec PyProof.Rows L2
variable [Wsh] [Tbx]
end EL

set_option maxHeartbeats 2000000
/-! DOj: enumerate(text). -/
namespace EL
open PySem PySem.Spec PyProof.Rows L2
variable [Wsh] [Tbx]
section
variable {X : Cx} {pos tpos : Pos} {e : Expr} {elts : List Expr} {kk : Nat}
end
end EL

set_option maxHeartbeats 2000000
/-! DPa: more going lemmas: ifs told, exceptions. -/
namespace EL
open PySem PySem.Spec PyProof.Rows L2
section
variable {en e1 e2 e3 : En} {a b : Dn} {x y z : PyData} {xs : List PyData} {r : An} {c t u : Tn} {s s2 : Sn} {q : Res (Fl × En)} {i : Nat} {d : PyData} {k : Bool} {cn : Str} {fds : List (PyData × PyData)}
theorem g_skip (h : t en = .ok (false, e1)) : sIf t s sNext en = .ok (.nx, e1) := g_if (k := false) h (fun z => nomatch z) (fun _ => rfl)
theorem g_ift (h : t en = .ok (true, e1)) (h2 : s e1 = q) : sIf t s s2 en = q := g_if (k := true) h (fun _ => h2) (fun z => nomatch z)
end
end EL

set_option maxHeartbeats 2000000
/-! DPc: class C: def __init__(self, *v, kw = d): C(e, .., kw = e2). -/
namespace EL
open PySem PySem.Spec PyProof.Rows L2 StX
/-! ### such a def -/
abbrev SpS := V → List V → List V → Hp → VK → XK → Prop
section
variable {P : Program} {w : World} {K : PySem.W.Frag} {mg : Str → Option Value} {base : Heap}
variable [Tbx]
end
/-! ### making -/
section
variable {X : Cx} {CX : CXT} {k : Nat} {f C : Addr} {kw : Str} {sp : SpS} {E : XK} {x : Str} {p pos kpos : Pos} {e e2 : Expr} {es : List Expr} {t tk : TA}
end
/-! ### as data -/
section
variable [Wsh] [Tbx] {C : Addr} {cn : Str}
variable {X : Cx} {k : Nat} {f : Addr} {kw : Str} {p pos kpos : Pos} {e e2 : Expr} {es : List Expr} {m : PyData → List PyData → Res (PyData × PyData)} {dv : V} {dd : PyData} {g : An} {gk : Dn}
end
end EL

set_option maxHeartbeats 2000000
/-! DPd: a constant of the class, read through an instance. -/
namespace EL
open PySem PySem.Spec PyProof.Rows L2
variable [Wsh] [Tbx]
section
variable {X : Cx} {pos : Pos} {a : Expr} {C : Addr} {cn f : Str}
end
end EL

set_option maxHeartbeats 4000000
/-! EXj: try: body / except (C1, .., Cn) as n: m = n, and what stands behind it. -/
namespace L2
open PySem PySem.Spec PyProof.Rows
section
variable {X : Cx} {n m : Str} {xs : List (Str × Pos)} {cs : List Value} {kk i j : Nat} {body rest : List Stmt} {np pos pos' q1 q2 q3 : Pos} {tb : WX → TS} {t0 : TS} {t1 : Addr → Value → Option Addr → TS}
end
end L2

set_option maxHeartbeats 2000000
/-! DPe: a list that may change, compared. -/
namespace EL
open PySem PySem.Spec PyProof.Rows L2
variable [Wsh] [Tbx]
section
variable {X : Cx} {pos : Pos} {a b : Expr} {x : Str} {p : Pos}
end
end EL

set_option maxHeartbeats 4000000
/-! EXk: what _law_heard of k03 wants. -/
namespace EL
open PySem PySem.Spec PyProof.Rows L2 LamX EXI
end EL

set_option maxHeartbeats 2000000
/-! DPf: more going lemmas: names in texts, items, cuts. -/
namespace EL
open PySem PySem.Spec PyProof.Rows L2
abbrev chS (c : Nat) : PyData := .str ⟨#[c]⟩
abbrev ABC : Str := "abcdefghijklmnopqrstuvwxyz"
def chB (L s : Str) : Bool := s.cps.toList.all fun c => decide (c ∈ L.cps.toList)
def nameB (s : Str) : Bool := (decide ((1 : Int) ≤ (s.length : Nat)) && decide (((s.length : Nat) : Int) ≤ 8)) && chB ABC s
theorem inA_ch (c : Nat) (L : Str) : gInA (chS c) (.str L) = .ok (.bool (decide (c ∈ L.cps.toList))) := rfl
theorem parts_s (s : Str) : parts (.str s) = .ok (s.cps.toList.map chS) := rfl
theorem chain_go {g g' : PyData → PyData → Res PyData} {a b c : Dn} {en : En} {x y z : PyData} {k1 k2 : Bool} (ha : a en = .ok (x, en)) (hb : b en = .ok (y, en)) (hc : c en = .ok (z, en)) (h1 : g x y = .ok (.bool k1)) (h2 : g' y z = .ok (.bool k2)) : dChain g g' a b c en = .ok (.bool (k1 && k2), en) := by
  refine bnd_go ha (bnd_go hb (bnd_go (x := .bool k1) (e1 := en) (by show Res.bind (Res.calm (g x y)) _ = _; rw [h1]; rfl) ?_))
  cases k1 with
  | true =>
    show bnd c (fun w => lft (g' y w)) en = _
    exact bnd_go hc (by show Res.bind (Res.calm (g' y z)) _ = _; rw [h2]; rfl)
  | false => rfl
theorem dAnd_go {a b : Dn} {en : En} {k k2 : Bool} (ha : a en = .ok (.bool k, en)) (hb : k = true → b en = .ok (.bool k2, en)) (hf : k = false → k2 = false) : dAnd a b en = .ok (.bool k2, en) := by
  refine bnd_go ha ?_
  cases k with
  | true => exact hb rfl
  | false => rw [hf rfl]; rfl
section
variable {en e1 e2 e3 : En} {a b c d l n : Dn}
theorem g_slice {g : PyData → Option Int → Option Int → Res PyData} {lo hi : En → Res (Option Int × En)} {x z : PyData} {u v : Option Int} (h : a en = .ok (x, e1)) (hl : lo e1 = .ok (u, e2)) (hh : hi e2 = .ok (v, e3)) (hg : g x u v = .ok z) : dSlice g a lo hi en = .ok (z, e3) :=
  bnd_go h (bnd_go hl (bnd_go hh (by show Res.bind (Res.calm (g x u v)) _ = _; rw [hg]; rfl)))
theorem g_eS {i : Int} (h : a en = .ok (.int i, e1)) : eS a en = .ok (some i, e1) := bnd_go h rfl
end
theorem sz6 {n : Nat} (h : n ≤ 1000000) : n ≤ sizeLine := by rw [sizeLine_eq]; omega
theorem gAdd_l {xs ys : List PyData} (h : xs.length + ys.length ≤ 1000000) : gAdd (.list xs) (.list ys) = .ok (.list (xs ++ ys)) := by
  show (if xs.length + ys.length ≤ sizeLine then Res.ok (PyData.list (xs ++ ys)) else .bad) = _
  rw [if_pos (sz6 h)]
theorem gTup_ok {xs : List PyData} (h : xs.length ≤ 1000000) : gTup xs = .ok (.tuple xs) := by
  unfold gTup
  rw [if_pos (sz6 h)]
end EL

set_option maxHeartbeats 1000000
/-! DPg: data that may be shown, asked for their type. -/
namespace EL
open PySem PySem.Spec PyProof.Rows L2
/-- fit to be shown: size n, depth k -/
structure Pr (d : PyData) (n k : Nat) : Prop where
  ok : okR d = true
  sh : d.showable = true
  dp : d.depth ≤ k
  lv : d.leavesShort 70 = true
  bk : d.bulk ≤ n
theorem Pr.mono {d : PyData} {n k n2 k2 : Nat} (h : Pr d n k) (h1 : n ≤ n2) (h2 : k ≤ k2) : Pr d n2 k2 := ⟨h.ok, h.sh, Nat.le_trans h.dp h2, h.lv, Nat.le_trans h.bk h1⟩
theorem prA {n k : Nat} : ∀ {xs : List PyData}, (∀ x ∈ xs, Pr x n k) → okRA xs = true ∧ PyData.showableAll xs = true ∧ PyData.depthAll xs ≤ k ∧ PyData.leavesShortAll 70 xs = true ∧ PyData.bulkAll xs ≤ (n + 1) * xs.length
  | [], _ => ⟨rfl, rfl, Nat.zero_le _, rfl, Nat.zero_le _⟩
  | x :: xs, h => by
    obtain ⟨a1, a2, a3, a4, a5⟩ := h x List.mem_cons_self
    obtain ⟨b1, b2, b3, b4, b5⟩ := prA fun y hy => h y (List.mem_cons_of_mem _ hy)
    refine ⟨?_, ?_, ?_, ?_, ?_⟩
    · rw [okRA, a1, b1]; rfl
    · rw [PyData.showableAll, a2, b2]; rfl
    · rw [PyData.depthAll]; exact Nat.max_le.mpr ⟨a3, b3⟩
    · rw [PyData.leavesShortAll, a4, b4]; rfl
    · rw [PyData.bulkAll, List.length_cons, Nat.mul_add]; omega
theorem Pr.tup {n k m : Nat} {xs : List PyData} (h : ∀ x ∈ xs, Pr x n k) (hl : xs.length ≤ m) : Pr (.tuple xs) ((n + 1) * m) (k + 1) := by
  obtain ⟨b1, b2, b3, b4, b5⟩ := prA h
  refine ⟨?_, ?_, ?_, ?_, ?_⟩
  · rw [okR]; exact b1
  · rw [PyData.showable]; exact b2
  · rw [PyData.depth]; omega
  · rw [PyData.leavesShort]; exact b4
  · rw [PyData.bulk]; exact Nat.le_trans b5 (Nat.mul_le_mul_left _ hl)
theorem Pr.lst {n k m : Nat} {xs : List PyData} (h : ∀ x ∈ xs, Pr x n k) (hl : xs.length ≤ m) : Pr (.list xs) ((n + 1) * m) (k + 1) := by
  obtain ⟨b1, b2, b3, b4, b5⟩ := prA h
  refine ⟨?_, ?_, ?_, ?_, ?_⟩
  · rw [okR]; exact b1
  · rw [PyData.showable]; exact b2
  · rw [PyData.depth]; omega
  · rw [PyData.leavesShort]; exact b4
  · rw [PyData.bulk]; exact Nat.le_trans b5 (Nat.mul_le_mul_left _ hl)
theorem Pr.int {i : Int} {n k : Nat} (h : i.natAbs < 10 ^ 60) : Pr (.int i) n k := by
  refine ⟨rfl, ?_, Nat.zero_le _, ?_, Nat.zero_le _⟩
  · rw [PyData.showable]
    refine decide_eq_true ?_
    by_cases z : i.natAbs = 0
    · rw [z]; decide
    · have h2 : i.natAbs < 2 ^ 200 := Nat.lt_trans h (by decide)
      exact Nat.lt_trans ((Nat.log2_lt z).mpr h2) (by decide)
  · rw [PyData.leavesShort]
    refine decide_eq_true ?_
    have e := PySem.int_text_length_le10 (k := 60) (by decide) h
    show (Str.ofString (toString i)).length ≤ 70
    rw [PySem.ofString_length]; omega
theorem Pr.repr {d : PyData} {n k : Nat} (h : Pr d n k) (hk : k ≤ 64) (hn : n ≤ 14000) : gRepr d = .ok (.str d.shown) := by
  have h4 := PyData.shown_le_bulk 70 (by omega) d h.lv
  have h5 : d.shown.length ≤ sizeLine := by
    rw [sizeLine_eq]
    have := h.bk
    omega
  unfold gRepr
  rw [h.ok, h.sh, decide_eq_true (Nat.le_trans h.dp hk), decide_eq_true h5]
  rfl
theorem isi_go (t : Ty) {d : PyData} (h : instP d = false) : gIsi t d = .ok (.bool (isiB t d)) := by
  unfold gIsi
  rw [if_neg (by rw [h]; decide)]
def itemsOf : PyData → List PyData
  | .tuple ds => ds
  | .list ds => ds
  | _ => []
def Nt (d : PyData) : Prop := instP d = false ∧ ∀ x ∈ itemsOf d, instP x = false
def nmD : PyData → Bool
  | .str s => nameB s
  | _ => false
theorem isStr {d : PyData} : isiB .str d = true ↔ ∃ s, d = .str s := by
  cases d <;> simp [isiB, tagOf, isiT]
/-- a part without items -/
structure Pa (d : PyData) : Prop where
  ins : instP d = false
  no : itemsOf d = []
  one : ∃ b, gEqA d (.int 1) = .ok (.bool b)
  pr : Pr d 16 3
/-- part of a row: a datum that is no row of rows -/
structure Pt (d : PyData) : Prop where
  ins : instP d = false
  its : ∀ x ∈ itemsOf d, Pa x
  one : ∃ b, gEqA d (.int 1) = .ok (.bool b)
  pr : Pr d 16 3
theorem Pa.pt {d : PyData} (h : Pa d) : Pt d := ⟨h.ins, (by rw [h.no]; exact fun x hx => nomatch hx), h.one, h.pr⟩
def Rw (d : PyData) : Prop := Pt d ∨ ∃ xs, (d = .tuple xs ∨ d = .list xs) ∧ (∀ x ∈ xs, Pt x) ∧ xs.length ≤ 10
theorem Rw.nt {d : PyData} (h : Rw d) : Nt d := by
  rcases h with h | ⟨xs, rfl | rfl, h, _⟩
  · exact ⟨h.ins, fun x hx => (h.its x hx).ins⟩
  · exact ⟨rfl, fun x hx => (h x hx).ins⟩
  · exact ⟨rfl, fun x hx => (h x hx).ins⟩
theorem Rw.pr {d : PyData} (h : Rw d) : Pr d 170 4 := by
  rcases h with h | ⟨xs, rfl | rfl, h, hl⟩
  · exact h.pr.mono (by omega) (by omega)
  · exact Pr.tup (n := 16) (k := 3) (fun x hx => (h x hx).pr) hl
  · exact Pr.lst (n := 16) (k := 3) (fun x hx => (h x hx).pr) hl
/-- rows: a list or a tuple of rows, or a part -/
def Rs (d : PyData) : Prop := Pt d ∨ ∃ xs, (d = .tuple xs ∨ d = .list xs) ∧ (∀ x ∈ xs, Rw x) ∧ xs.length ≤ 30
theorem Rs.pr {d : PyData} (h : Rs d) : Pr d 5130 5 := by
  rcases h with h | ⟨xs, rfl | rfl, h, hl⟩
  · exact h.pr.mono (by omega) (by omega)
  · exact Pr.tup (n := 170) (k := 4) (fun x hx => (h x hx).pr) hl
  · exact Pr.lst (n := 170) (k := 4) (fun x hx => (h x hx).pr) hl
theorem Rs.ins {d : PyData} (h : Rs d) : instP d = false := by
  rcases h with h | ⟨xs, rfl | rfl, h, hl⟩
  · exact h.ins
  · rfl
  · rfl
theorem Rs.its {d : PyData} (h : Rs d) : ∀ x ∈ itemsOf d, Nt x := by
  rcases h with h | ⟨xs, rfl | rfl, h, hl⟩
  · exact fun x hx => ⟨(h.its x hx).ins, by rw [(h.its x hx).no]; exact fun y hy => nomatch hy⟩
  · exact fun x hx => (h x hx).nt
  · exact fun x hx => (h x hx).nt
end EL

set_option maxHeartbeats 4000000
/-! SXa: sets of texts: set(xs) of a list, of a tuple; len(set(xs)). -/
namespace EL
open PySem PySem.Spec PyProof.Rows L2
/-! ### what is in a set of texts, in the order of coming -/
def stp (acc : List Str) (x : Str) : List Str := if x ∈ acc then acc else acc ++ [x]
section
variable {P : Program} {w : World} {A : Around} {R : Result → Shared → Prop} {I : Addr} {fp wr : List Addr} {G : Array GenState → Array GenState → Prop} {n : Nat} {Pv : Nat → Value → Prop} {St : Nat → Shared → Prop}
end
section
variable {P : Program} {w : World} {A : Around} {E : Value → Shared → Prop} {s : Shared}
end
section
variable {X : Cx}
end
end EL

set_option maxHeartbeats 1000000
/-! DPh: len(set(e)) as data. -/
namespace EL
open PySem PySem.Spec PyProof.Rows L2
variable [Wsh] [Tbx]
end EL

set_option maxHeartbeats 1000000
/-! DPi: x in o, o of an own class with __contains__. -/
namespace EL
open PySem PySem.Spec PyProof.Rows L2
variable [Wsh] [Tbx]
section
variable {X : Cx} {pos : Pos} {a b : Expr} {C : Addr} {cn : Str}
end
end EL

set_option maxHeartbeats 1000000
/-! DPj: a tuple compared with the empty one. -/
namespace EL
open PySem PySem.Spec PyProof.Rows L2
variable [Wsh] [Tbx]
section
variable {X : Cx}
end
end EL

set_option maxHeartbeats 2000000
/-! ZNa: zip whose pairs are kept: one name as target. -/
namespace EL
open PySem PySem.Spec PyProof.Rows L2
section
variable {P : Program} {w : World} {A : Around} {E : Value → Shared → Prop} {s : Shared} {z TI TO i1 i2 l1 l2 : Addr}
variable {It1 It2 : Nat → Heap → Prop} {C1 C2 : Heap → Array Value → Prop} {k1 k2 : Nat} {xs ys : Array Value}
end
end EL

set_option maxHeartbeats 2000000
/-! ZNb: zip with one name as target: the end, the turns. -/
namespace EL
open PySem PySem.Spec PyProof.Rows L2
section
variable {P : Program} {w : World} {A : Around} {E : Value → Shared → Prop} {s : Shared} {z TI TO i1 i2 l1 l2 : Addr} {It1 It2 : Nat → Heap → Prop} {C1 C2 : Heap → Array Value → Prop} {k1 k2 : Nat} {xs ys : Array Value}
end
/-! ### the turns -/
end EL

set_option maxHeartbeats 2000000
/-! ZNc: for x in zip(a, b), one name. -/
namespace EL
open PySem PySem.Spec PyProof.Rows L2
variable [Wsh] [Tbx]
end EL

set_option maxHeartbeats 4000000
/-! ZNd: list(zip(a, b)). -/
namespace EL
open PySem PySem.Spec PyProof.Rows L2
/-- the pairs that were made, above lo -/
structure Prs (xs ys : Array Value) (lo : Addr) (h : Heap) (as : List Addr) : Prop where
  rise : as.Pairwise (· < ·)
  above : ∀ a ∈ as, lo < a
  pairs : ∀ (j : Nat) (a : Addr), as[j]? = some a → ∃ u v, xs[j]? = some u ∧ ys[j]? = some v ∧ IsPair h a u v
section
variable {P : Program} {w : World} {A : Around} {E : Value → Shared → Prop} {s : Shared} {z TI TO i1 i2 l1 l2 S : Addr} {It1 It2 : Nat → Heap → Prop} {C1 C2 : Heap → Array Value → Prop} {xs ys : Array Value} {R : Result → Shared → Prop}
theorem Prs.there {lo : Addr} {h : Heap} {as : List Addr} (g : Prs xs ys lo h as) {a : Addr} (ha : a ∈ as) : a < h.objs.size := by
  obtain ⟨j, hj⟩ := List.mem_iff_getElem?.mp ha
  obtain ⟨_, _, _, _, e⟩ := g.pairs j a hj
  exact Heap.lt_size e
end
end EL

set_option maxHeartbeats 4000000
/-! ZNe: list(zip(a, b)) as data. -/
namespace EL
open PySem PySem.Spec PyProof.Rows L2
section
variable {X : Cx}
end
end EL

set_option maxHeartbeats 2000000
/-! ZNf: list(zip(a, b)) as data. -/
namespace EL
open PySem PySem.Spec PyProof.Rows L2
variable [Wsh] [Tbx]
end EL

set_option maxHeartbeats 4000000
/-! TDa: dict(list of pairs), the keys tuples of numbers and texts, all unlike, each True. -/
namespace EL
open PySem PySem.Spec PyProof.Rows L2
section
variable {P : Program} {w : World} {A : Around} {E : Value → Shared → Prop}
end
end EL

set_option maxHeartbeats 2000000
/-! TDb: such dicts as slots that may change. -/
namespace EL
open PySem PySem.Spec PyProof.Rows L2
section
variable {X : Cx}
end
end EL

set_option maxHeartbeats 2000000
/-! TDc: x = dict([(tuple, True), ..]), t in x, as data. -/
namespace EL
open PySem PySem.Spec PyProof.Rows L2
variable [Wsh] [Tbx]
section
variable {X : Cx} {pos : Pos} {a : Expr}
end
end EL

set_option maxHeartbeats 2000000
/-! DPk: C(e) where __init__ has one more parameter with a default. -/
namespace EL
open PySem PySem.Spec PyProof.Rows L2
variable [Wsh] [Tbx]
section
variable {X : Cx} {pos apos : Pos} {a b o e : Expr} {es : List Expr} {C : Addr} {cn f : Str}
end
end EL

set_option maxHeartbeats 2000000
/-! DPl: going lemmas whose ends are told by an equation, for the tactic "go" (local to each text). -/
namespace EL
open PySem PySem.Spec PyProof.Rows L2
section
variable [Wsh] [Tbx]
end
section
variable {en e1 e2 e3 e4 : En} {a b c : Dn} {x y z : PyData} {xs ys : List PyData} {r : An} {t u : Tn} {s s2 : Sn} {q : Res (Fl × En)} {i : Nat} {d : PyData} {k k2 : Bool}
theorem k_set (h : a en = .ok (x, e1)) (he : e1.set i (.sh x) = e2) : sSet i a en = .ok (.nx, e2) := by rw [← he]; exact g_set h
theorem k_andT (h : t en = .ok (true, e1)) (h2 : u e1 = .ok (k, e2)) : tAndD t u en = .ok (k, e2) := bnd_go h h2
theorem k_andF (h : t en = .ok (false, e1)) : tAndD t u en = .ok (false, e1) := bnd_go h rfl
theorem k_orF (h : t en = .ok (false, e1)) (h2 : u e1 = .ok (k, e2)) : tOrD t u en = .ok (k, e2) := bnd_go h h2
theorem k_orT (h : t en = .ok (true, e1)) : tOrD t u en = .ok (true, e1) := bnd_go h rfl
theorem k_not (h : t en = .ok (k, e1)) (hk : (!k) = k2) : tNotD t en = .ok (k2, e1) := by rw [← hk]; exact g_not h
theorem k_lcS {α : Type} {i : Nat} {A B : α → PyData} {p : α → Bool} {T : List α} {w : PyData} (h : r en = .ok (T.map A, en)) (ht : ∀ x ∈ T, t (en.set i (.sh (A x))) = .ok (p x, en.set i (.sh (A x))))
    (hb : ∀ x ∈ T, p x = true → a (en.set i (.sh (A x))) = .ok (B x, en.set i (.sh (A x)))) (hw : .list ((T.filter p).map B) = w) (he : en.set i .no = e2) : dLc r (gNm i) t a [i] en = .ok (w, e2) := by rw [← hw, ← he]; exact g_lcS h ht hb
theorem g_difT {w : Res (PyData × En)} (h : t en = .ok (k, e1)) (hk : k = true) (h2 : a e1 = w) : dIf t a b en = w := g_dif h (fun _ => h2) (fun z => by rw [hk] at z; cases z)
theorem g_difF {w : Res (PyData × En)} (h : t en = .ok (k, e1)) (hk : k = false) (h2 : b e1 = w) : dIf t a b en = w := g_dif h (fun z => by rw [hk] at z; cases z) (fun _ => h2)
end
end EL

set_option maxHeartbeats 4000000
/-! TSj: sorted(set(e)), e a list or a tuple. -/
namespace EL
open PySem PySem.Spec PyProof.Rows L2
section
variable {P : Program} {w : World} {A : Around} {E : Value → Shared → Prop} {s : Shared}
variable {κ : Type} [DecidableEq κ] {kd : HeapKind P w κ}
end
variable [Wsh] [Tbx]
section
variable {X : Cx} {a : Expr} {pos p p2 q : Pos}
end
end EL

set_option maxHeartbeats 2000000
/-! DQa: a def that makes lambdas, not the law: its code object's table is a slot of its own that no name shows, its caller's too. -/
namespace EL
open PySem PySem.Spec PyProof.Rows L2 LamX
variable [Wsh] [Tbx]
section
variable {P : Program} {w : World} {K : PySem.W.Frag} {mg : Str → Option Value} {base : Heap}
end
section
variable {X : Cx} {pos : Pos} {a b e : Expr} {es : List Expr} {k : Nat} {f : Addr} {fd : FuncData} {ps : List Str} {sp : Sp} {x : Str} {p : Pos} {t : TA}
end
end EL

set_option maxHeartbeats 2000000
/-! DQb: raise C(e), C an own exception class with one field, over ValueError: all that is known of it in one. -/
namespace EL
open PySem PySem.Spec PyProof.Rows L2 EXI
/-- the text of __init__(self, a): super().__init__(a); self.a = a -/
structure Shape1 (a qual : Str) (st : Stmt) : Prop where
  body : ∃ p0 p1 p2 p3 p4 n1 q1 q2 q3 q4 : Pos, defBody st = [.Expr (.Call (.Attribute (.Call (.Name "super" p0) [] [] p1) "__init__" p2) [.Name a n1] [] p3) p4, .Assign [.Attribute (.Name "self" q1) a q2] (.Name a q3) q4] ∧
    (∃ pl : Sem Bool, ∀ (fI cda cc L : Addr), eval (.Call (.Attribute (.Call (.Name "super" p0) [] [] p1) "__init__" p2) [.Name a n1] [] p3) (PySem.W.ksEnv qual (defScope st) L fI (.ref cda) cc) = (do
      let ov ← attributeBase (.Call (.Name "super" p0) [] [] p1) "__init__" (PySem.W.ksEnv qual (defScope st) L fI (.ref cda) cc) (eval (.Call (.Name "super" p0) [] [] p1) (PySem.W.ksEnv qual (defScope st) L fI (.ref cda) cc))
      standAt p2.atName
      let (f, first) ← holding [ov] (getMethod ov "__init__" pl)
      callWith p3 f first (backTo p3 (starEach [.Name a n1] (PySem.W.ksEnv qual (defScope st) L fI (.ref cda) cc))) [])) ∧
    (∀ (fI cda cc L : Addr), swapsWith (.Name a q3) (some (.Attribute (.Name "self" q1) a q2)) q4.line (PySem.W.ksEnv qual (defScope st) L fI (.ref cda) cc) = pure false)
  par : ((defArgs st).posonlyargs ++ (defArgs st).args).head?.map (·.arg) = some ("self" : Str)
  self : (defScope st).names.lookup ("self" : Str) = some .local
  la : (defScope st).names.lookup a = some .local
  bind : ∀ (w u1 : Value) (cda cc : Addr) (name : Str) (kV doc pm : Value) (an : Option Addr) (ct : Value), bindArgs (PySem.W.ksFn name qual (defArgs st) (defBody st) (defScope st) .none kV doc pm an (.ref cda) ct cc) ⟨[w, u1], []⟩ = pure [(("self" : Str), w), (a, u1)]
  sa : ("self" : Str) ≠ a
  da : (a == ("__debug__" : Str)) = false
structure Exc1 (P : Program) (K : PySem.W.Frag) (mg : Str → Option Value) (cn a qual : Str) (st : Stmt) (C : Addr) : Prop where
  ns : PySem.W.nsIn K mainGlobals cn = some (some (.ref C))
  mgc : mg cn = some (.ref C)
  nsu : mg "super" = none
  ox : OexC K C
  xf : XfC K C
  ec : ExcC K C
  ini : ∃ fI cc cda : Addr, InitK P K C fI cc cda qual (defArgs st) (defBody st) (defScope st) ∧ PySem.W.findIn K (.ref C) "__init__" = some (some (.ref fI)) ∧ PySem.W.typeIn K (.ref fI) = some (.type "function")
  fa : PySem.W.findIn K (.ref C) a = some none
section
variable [Wsh] [Tbx] {X : Cx} {pos rpos p : Pos} {e1 : Expr}
end
end EL

set_option maxHeartbeats 4000000
/-! DQc: except (A, B, C, D, E) as e. -/
namespace EXI
open PySem PySem.W PySem.Spec PySem.Calls PyProof.Rows
section
variable {M : Model} {K : Frag}
end
end EXI

set_option maxHeartbeats 4000000
/-! DQd: what k04's heard def makes of an exception; the facts of its classes. -/
namespace EL
open PySem PySem.Spec PyProof.Rows L2 EXI
end EL

set_option maxHeartbeats 2000000
/-! DQe: o[e], o of an own class with __getitem__. -/
namespace EL
open PySem PySem.Spec PyProof.Rows L2
variable [Wsh] [Tbx]
section
variable {X : Cx} {pos : Pos} {a b : Expr} {C : Addr} {cn : Str}
end
end EL

set_option maxHeartbeats 2000000
/-! DQf: _law_pick(pen, x), x a list that may change. -/
namespace EL
open PySem PySem.Spec PyProof.Rows L2
variable [Wsh] [Tbx]
section
variable {P : Program} {w : World} {K : PySem.W.Frag} {mg : Str → Option Value} {base : Heap}
end
end EL

set_option maxHeartbeats 2000000
/-! DQg: the law where another def makes the lambdas. -/
namespace EL
open PySem PySem.Spec PyProof.Rows L2 LamX
section
variable {P : Program} {w : World} {K : PySem.W.Frag} {mg : Str → Option Value} {base : Heap}
end
end EL

set_option maxHeartbeats 2000000
/-! DQh: f(b = e, a = e2), both parameters by name, the other way round. -/
namespace EL
open PySem PySem.Spec PyProof.Rows L2
variable [Wsh] [Tbx]
section
variable {X : Cx} {pos p : Pos} {kws : List Keyword} {k : Nat} {f : Addr} {fd : FuncData} {a b x : Str} {m : List PyData → Res PyData} {g : An}
end
end EL

set_option maxHeartbeats 4000000
/-! SXb: sets of texts whose tables can be walked; sorted(set(texts)). -/
namespace EL
open PySem PySem.Spec PyProof.Rows L2
section
variable {P : Program} {w : World}
abbrev entZ (P : Program) (w : World) (p : Str × Tok) : Int × Value := ((PySem.strKind P w).hash p.1, .str p.1 p.2)
/-- the set at a: the texts ks -/
def SetZ (P : Program) (w : World) (h : Heap) (a : Addr) (ks : List Str) : Prop := ∃ (o : Obj) (es : Array (Int × Value)) (ep : Nat) (t : SetTable) (ps : List (Str × Tok)), h.get? a = some o ∧ o.ExactSet ∧ o.data = .set es ep t ∧
  es.toList = ps.map (entZ P w) ∧ (ps.map (·.1)).Perm ks ∧ ks.length < scanBound ∧ t.fits es.size = true ∧ Ris t.place.toList ∧ (w.params.followText "set-order" = true ∨ t.led = true)
variable {A : Around} {E : Value → Shared → Prop} {s : Shared} {a : Addr} {ks : List Str}
theorem SetZ.keep {h h' : Heap} (R : SetZ P w h a ks) (k : ∀ o, h.get? a = some o → h'.get? a = some o) : SetZ P w h' a ks := by
  obtain ⟨o, es, ep, t, ps, ho, r⟩ := R
  exact ⟨o, es, ep, t, ps, k o ho, r⟩
end
end EL

set_option maxHeartbeats 4000000
/-! SXc: sorted(set(texts)). -/
namespace EL
open PySem PySem.Spec PyProof.Rows L2
section
variable {P : Program} {w : World} {A : Around} {R : Result → Shared → Prop} {I : Addr} {fp wr : List Addr} {G : Array GenState → Array GenState → Prop} {n : Nat} {Pv : Nat → Value → Prop} {St : Nat → Shared → Prop}
end
section
variable {P : Program} {w : World} {A : Around} {E : Value → Shared → Prop} {s : Shared}
end
end EL

set_option maxHeartbeats 4000000
/-! SXd: sorted(set(texts)), the rule. -/
namespace EL
open PySem PySem.Spec PyProof.Rows L2
section
variable {X : Cx}
end
end EL

set_option maxHeartbeats 2000000
/-! SXe: sorted(set(e)), e texts or tuples of texts. -/
namespace EL
open PySem PySem.Spec PyProof.Rows L2
variable [Wsh] [Tbx]
end EL

/-! DQi: joins SXe and DQh. -/

set_option maxHeartbeats 1000000
/-! NPa: paths on fibres, in plain words. -/
namespace EL
open PySem PySem.Spec PyProof.Rows L2
namespace NP
/-- the other end of a fibre, x itself if it is no end -/
def nx (e : Str × Str) (x : Str) : Str := if e.1 = x then e.2 else if e.2 = x then e.1 else x
end NP
end EL

set_option maxHeartbeats 2000000
/-! SGa: sorted(list) of any length: numbers, texts, tuples and lists of these. -/
namespace EL
open PySem PySem.Spec PyProof.Rows L2
variable [Wsh] [Tbx]
theorem RdSA.each {h : Heap} : ∀ {us : List Value} {ds : List PyData}, RdSA h us ds → PySem.W.EachIs (fun v d => ∃ as, Reads h v d as) us ds
  | _, _, .nil => .nil
  | _, _, .cons a b => .cons a.rds (RdSA.each b)
theorem RpA.new {K : PySem.W.Frag} {O : List Addr} {H : Hp} {p : Addr} {ys : List V} {ds : List PyData} (l : ∀ a ∈ O, H a ≠ none) (h : H p = none) (z : ys.length ≤ sizeLine) (r : RpA K O H ys ds) : Rp K O (upd H p (.lst ys)) (.ref p) (.list ds) := Rp.newL l h z r
end EL

set_option maxHeartbeats 4000000
/-! SCa: set comprehensions of texts or of numbers. -/
namespace EL
open PySem PySem.Spec PyProof.Rows L2
section
variable {X : Cx}
end
end EL

set_option maxHeartbeats 4000000
/-! GNa: if and for in a generator's body. -/
namespace GenW
open PySem L2 PySem.Spec PyProof.Rows
section
variable {prog : Program} {w : World} {A : Around} {R : GenEnd} {Y : Protocol} {n : Nat} {s₀ : Shared} {c : Code} {fs : List Frame} {s : Shared} {env : Env}
  {K : Flow → Sem PySem.Fin} {H : Value → Sem PySem.Fin} {gd : Bool → Bool} {lv : List Value → List Value}
end
end GenW
namespace L2
open PySem PySem.Spec PyProof.Rows GenW
section
variable {X : Cx}
end
end L2

set_option maxHeartbeats 2000000
/-! GNb: generator defs over data; list(g(..)). -/
namespace EL
open PySem PySem.Spec PyProof.Rows L2
variable [Wsh] [Tbx]
def PoF (c : Fc) (O' : List Addr) (H' : Hp) (D : GEnds) (ys : List V) (σ' : L2.St) : Fl → Prop
  | .nx => D.nx ys σ' H'
  | .bk => D.bk ys σ' H'
  | .ct => D.ct ys σ' H'
  | .rt d => ∀ v, Rp c.K O' H' v d → D.rt ys v H'
def PoY (c : Fc) (O : List Addr) (H : Hp) (r : Res ((List PyData × Fl) × En)) (D : GEnds) : Prop :=
  match r with
  | .ok (p, en') => ∀ ys' σ' H' O', RS c O' H' σ' en' → Stp O H O' H' → RpA c.K O' H' ys' p.1 → PoF c O' H' D ys' σ' p.2
  | .exc cn fds => wishX c cn fds
  | .bad => False
section
variable {X : Cx} {pos yp : Pos} {e cnd tg iter : Expr} {st : Stmt} {sts l1 l2 body : List Stmt}
theorem PoY.pl {c : Fc} {O : List Addr} {H : Hp} {r : Res (Fl × En)} {D : GEnds} {ys : List V} {out : List PyData} (ra : RpA c.K O H ys out) (h : PoY c O H (r.bind fun p => .ok ((out, p.1), p.2)) D) : PoS c O H r (D.at ys) := by
  cases r with
  | ok p =>
    obtain ⟨fl, en'⟩ := p
    have h' : ∀ ys' σ' H' O', RS c O' H' σ' en' → Stp O H O' H' → RpA c.K O' H' ys' out → PoF c O' H' D ys' σ' fl := h
    cases fl with
    | nx => exact fun σ' H' O' rs st => h' ys σ' H' O' rs st (ra.stp st)
    | bk => exact fun σ' H' O' rs st => h' ys σ' H' O' rs st (ra.stp st)
    | ct => exact fun σ' H' O' rs st => h' ys σ' H' O' rs st (ra.stp st)
    | rt d => exact fun v σ' H' O' rs st rp => h' ys σ' H' O' rs st (ra.stp st) v rp
  | exc _ _ => exact h
  | bad => exact h
/-! ### the def -/
end
end EL

set_option maxHeartbeats 2000000
/-! MTa: min and max of two texts. -/
namespace EL
open PySem PySem.Spec PyProof.Rows L2
variable [Wsh] [Tbx]
section
variable {prog : Program} {w : World} {A : Around} {E : Value → Shared → Prop} {s : Shared}
end
section
variable {X : Cx}
end
end EL

set_option maxHeartbeats 2000000
/-! SCb: sorted({e for x in it}) over data, texts or numbers. -/
namespace EL
open PySem PySem.Spec PyProof.Rows L2
variable [Wsh] [Tbx]
end EL

set_option maxHeartbeats 2000000
/-! SCc: sorted({e for x in it if ..}), the rule. -/
namespace EL
open PySem PySem.Spec PyProof.Rows L2
variable [Wsh] [Tbx]
section
variable {X : Cx}
end
end EL

set_option maxHeartbeats 4000000
/-! SCd: {e for x in it for y in it2}. -/
namespace EL
open PySem PySem.Spec PyProof.Rows L2
section
variable {prog : Program} {w : World} {A : Around} {cenv : Env} {t1 t2 it1 it2 elt : Expr} {scope : Scope} {pos : Pos} {s : Shared} {R : Result → Shared → Prop}
end
section
variable {X : Cx}
end
end EL

set_option maxHeartbeats 2000000
/-! SCe: sorted({e for x in it for y in it2}) over data. -/
namespace EL
open PySem PySem.Spec PyProof.Rows L2
variable [Wsh] [Tbx]
end EL

set_option maxHeartbeats 4000000
/-! IST: sorted(set(numbers)). -/
namespace EL
open PySem PySem.Spec PyProof.Rows L2
section
variable {P : Program} {w : World} {A : Around} {E : Value → Shared → Prop} {s : Shared}
end
variable [Wsh] [Tbx]
section
variable {X : Cx}
end
end EL

set_option maxHeartbeats 4000000
/-! DRa: what k05's heard def makes of an exception; f(c = .., b = .., a = ..). -/
namespace EL
open PySem PySem.Spec PyProof.Rows L2 EXI
variable [Wsh] [Tbx]
section
variable {X : Cx} {pos p : Pos} {kws : List Keyword} {k : Nat} {f : Addr} {fd : FuncData} {a b c x : Str} {m : List PyData → Res PyData} {g : An}
end
end EL

set_option maxHeartbeats 4000000
/-! KXa: own exception classes over built-in ones whose making may be an elder one's (KeyError: LookupError.__new__). -/
namespace EXI
open PySem PySem.W PySem.Calls PyProof.Rows Builtin Builtin.ObjectAttr
structure OwnB (B Bn newId inN i : String) (bmN tl : List Value) : Prop where
  fn : ExcBaseFacts Bn newId inN bmN
  hasN : tl.contains (.type Bn) = true
  noA : tl.contains (.type "AttributeError") = false
  noN : tl.contains (.type "NameError") = false
  obj : tl.contains (.type "object") = true
  ne : tl.isEmpty = false
  pass : ∀ self : Value, refuseLoop self "__setattr__" tl = pure ()
  kxs : KxsFacts B i
  iPlain : plainId i = true
  iEntry : entryFor table i = some Builtin.«BaseException.__init__»
  iKind : builtinKind i = some .slot
  iRow : Manifest.signature? i = some ⟨.positional, "*", B, .self, [⟨"args", .varPos, false⟩]⟩
  star : (B != "*") = true
abbrev leTail : List Value := [.type "LookupError", .type "Exception", .type "BaseException", .type "object"]
abbrev keTail : List Value := .type "KeyError" :: leTail
abbrev ieTail : List Value := .type "IndexError" :: leTail
theorem ownB_Key : OwnB "KeyError" "LookupError" "LookupError.__new__" "LookupError.__init__" "KeyError.__init__" leTail keTail where
  fn := F.excBase_LookupError
  hasN := by decide +kernel
  noA := by decide +kernel
  noN := by decide +kernel
  obj := by decide +kernel
  ne := by decide +kernel
  pass := fun self => by kernel_rfl
  kxs := ⟨by show builtinType _ = _; rw [builtinType_eq_fast]; kernel_rfl, by first | kernel_rfl | rfl⟩
  iPlain := by decide +kernel
  iEntry := excClass_KeyError.initEntry
  iKind := by decide +kernel
  iRow := by kernel_rfl
  star := by decide +kernel
theorem ownB_Index : OwnB "IndexError" "IndexError" "IndexError.__new__" "IndexError.__init__" "IndexError.__init__" ieTail ieTail where
  fn := F.excBase_IndexError
  hasN := by decide +kernel
  noA := by decide +kernel
  noN := by decide +kernel
  obj := by decide +kernel
  ne := by decide +kernel
  pass := fun self => by kernel_rfl
  kxs := kxs_IndexError
  iPlain := by decide +kernel
  iEntry := F.excBase_IndexError.initEntry
  iKind := by decide +kernel
  iRow := by kernel_rfl
  star := by decide +kernel
section
variable {M : Model} {A : Around} {E : Value → Shared → Prop} {h : Heap} {g : Array GenState} {d : Drawn} {t : Nat} {os : OsState}
variable {nm q : Str} {C N : Addr} {bs tl bmN : List Value} {hdct : Bool} {sn : List Str} {sub : List Value} {ab : Bool} {col : Option Bool} {dd : Option Addr} {k0 k1 k2 k3 k5 : Option Value} {B Bn newId inN i : String}
end
section
variable {prog : Program} {w : World} {A : Around} {E : Value → Shared → Prop} {R : Result → Shared → Prop} {h : Heap} {g : Array GenState} {d : Drawn} {t : Nat} {os : OsState}
variable {nm q : Str} {C N : Addr} {bs tl bmN : List Value} {hdct : Bool} {sn : List Str} {sub : List Value} {ab : Bool} {col : Option Bool} {dd : Option Addr} {k0 k1 k2 k3 k5 : Option Value} {B Bn newId inN i : String}
end
end EXI

set_option maxHeartbeats 4000000
/-! KXb: super().__init__(..) in such a class's __init__ (printed from EXa). -/
namespace EXI
open PySem PySem.W PySem.Calls PyProof.Rows
section
variable {prog : Program} {w : World} {A : Around} {E : Value → Shared → Prop} {h : Heap} {g : Array GenState} {d : Drawn} {t : Nat} {os : OsState}
variable {nm q : Str} {C N : Addr} {bs bm tl bmN : List Value} {hdct : Bool} {sn : List Str} {sub : List Value} {ab : Bool} {col : Option Bool} {dd : Option Addr} {k0 k1 k2 k3 k5 : Option Value} {B Bn newId inN i : String}
theorem checkBoundO (O : OwnB B Bn newId inN i bmN tl) {M : Model} {e : Addr} {oe : Obj} {rest : List Value} {Q : Unit → Shared → Prop}
    (hC : h.get? C = some (excClassObj nm q C N bs bm hdct sn sub ab col dd k0 k1 k2 k3 k5 newId)) (he : h.get? e = some oe) (hcls : oe.cls = .ref C) (hq : Q () ⟨h, g, d, t, os⟩) : wpAny M A (checkBoundCall i ⟨.ref e :: rest, []⟩) Q E ⟨h, g, d, t, os⟩ := by
  have hshort := O.star
  simp only [checkBoundCall, O.iKind, O.iRow]
  repeat (first | (with_reducible refine wpAny_loadPart_at he ?_; rw [hcls]) | with_reducible refine wpAny_loadPart_at hC ?_ | wp_step)
  refine wpAny_onRaise ?_
  rw [show ∀ (a b : String) (n : Nat), Bind.check ⟨.positional, "*", B, .self, [⟨"args", .varPos, false⟩]⟩ a b n (List.map (fun x => x.fst) ({ pos := Value.ref e :: rest } : Args).kw) = pure () from
    fun a b n => check_star_args _ _ _ _ _ _]
  exact wpAny_pure hq
theorem mwO (O : OwnB B Bn newId inN i bmN tl) {u e t0 : Addr} {rest : List Value} {Q : Value → Shared → Prop}
    (hC : h.get? C = some (excClassObj nm q C N bs bm hdct sn sub ab col dd k0 k1 k2 k3 k5 newId)) (he : h.get? e = some (HandSPX.excO C t0)) (hu : h.get? u = some (kxs_mw i e)) (hrest : rest.length ≤ sizeLine)
    (hq : ∀ h' t1, (∀ b o, b ≠ e → h.get? b = some o → h'.get? b = some o) → h'.get? e = some (HandSPX.excO C t1) → Q .none ⟨h', g, d, t, os⟩) :
    wpAny (model prog w) A (call (.ref u) rest) Q E ⟨h, g, d, t, os⟩ := by
  refine wpAny_call (codeAny_of_tree ?_)
  show wpAny _ A.in1 (callAny (.ref u) ⟨rest, []⟩) _ _ _
  simp only [callAny]
  refine wpAny_bind (wpAny_load hu ?_)
  simp only [kxs_mw, show (Value.type "method-wrapper" == Value.type "method" || Value.type "method-wrapper" == Value.type "builtin_function_or_method" || Value.type "method-wrapper" == Value.type "method-wrapper") = true by decide, if_true]
  refine KFB.if_so (by decide) ?_
  refine wpAny_bind (checkBoundO O hC he rfl ?_)
  refine wpAny_bind (wpAny_pure (wpAny_pure ?_))
  refine ⟨plainId_quiet O.iPlain _, codeAny_builtin O.iEntry ?_⟩
  exact exc_init_tree (cls := .ref C) (t0 := t0) (dv := none) (c2 := .none) (c3 := .none) (b4 := .bool false) he hrest fun h' k e' t' => hq h' _ k e'
/-- super().__init__(a, ..), self the exception at x, the args read by name -/
theorem superO (O : OwnB B Bn newId inN i bmN tl) {K : Frag} {x f cda D t0 : Addr} {env : Env} {body : List Stmt} {of oc : Obj} {fd : FuncData} {ar : Arg} {vs : Array Value} {file : Str} {tf : Tok} {cdD cdC : ClassData} {l : List Value} {a : Expr} {as : List Expr} {p0 p1 p2 p3 p4 : Pos} {us : List Value} {pl : Sem Bool} {Q : Flow → Shared → Prop}
    (X : K.In h) (hks : env.kindOf "super" = some .globalImplicit) (hkc : env.kindOf "__class__" = some .free) (hfu : env.func = some f) (hf : h.get? f = some of) (hfd : of.data = .func fd)
    (hp : (fd.params.posonlyargs ++ fd.params.args).head? = some ar) (hco : env.code = .ref cda) (hcc : h.get? cda = some oc) (hoc : oc.data = .fields vs) (hvs : vs[2]? = some (.str file tf))
    (hfile : ((prog.main.file : Str) == file) = true) (htop : (prog.main.scope.names.lookup ("super" : Str)).isSome = false)
    (hsup : ∀ Q' : Value → Shared → Prop, Q' (.type "super") ⟨h, g, d, t, os⟩ → wpAny (model prog w) A (loadName env "super") Q' E ⟨h, g, d, t, os⟩)
    (hcls : ∀ Q' : Value → Shared → Prop, Q' (.ref D) ⟨h, g, d, t, os⟩ → wpAny (model prog w) A (loadName env "__class__") Q' E ⟨h, g, d, t, os⟩)
    (hself : ∀ Q' : Value → Shared → Prop, Q' (.ref x) ⟨h, g, d, t, os⟩ → wpAny (model prog w) A (loadName env ar.arg) Q' E ⟨h, g, d, t, os⟩)
    (hD : ∃ oD, h.get? D = some oD ∧ oD.data = .cls cdD) (hsub : mroIn K C (.ref D) = some true) (hno : nsIn K cStatics "thirdparty.any" = some none) (hcdC : clsIn K C = some cdC) (hl : (cdC.mro.dropWhile (· != .ref D)).drop 1 = l) (hal : alongIn K "__init__" l = some (some (.builtin i))) (hB : subIn K (.ref C) (.type B) = some true)
    (hC : h.get? C = some (excClassObj nm q C N bs bm hdct sn sub ab col dd k0 k1 k2 k3 k5 newId)) (he : h.get? x = some (HandSPX.excO C t0)) (hxC : x ≠ C)
    (hargs : ∀ (h1 : Heap) (t1 : Nat) (Q' : List Value → Shared → Prop), (∀ b o, h.get? b = some o → h1.get? b = some o) → Q' us ⟨h1, g, d, t1, os⟩ → wpAny (model prog w) A (spliced (backTo p3 (starEach (a :: as) env))) Q' E ⟨h1, g, d, t1, os⟩) (hus : us.length ≤ sizeLine)
    (hst : starEach (a :: as) env = (false, eval a env) :: starEach as env) (hplain : (backTo p3 (starEach as env)).any (·.1) = false)
    (hev : eval (.Call (.Attribute (.Call (.Name "super" p0) [] [] p1) "__init__" p2) (a :: as) [] p3) env = (do
      let ov ← attributeBase (.Call (.Name "super" p0) [] [] p1) "__init__" env (eval (.Call (.Name "super" p0) [] [] p1) env)
      standAt p2.atName
      let (f, first) ← holding [ov] (getMethod ov "__init__" pl)
      callWith p3 f first (backTo p3 (starEach (a :: as) env)) []))
    (hia : interactive env = false)
    (hq : ∀ h' t1 t2, (∀ b o, b ≠ x → h.get? b = some o → h'.get? b = some o) → h'.get? x = some (HandSPX.excO C t1) → Q .next ⟨h', g, d, t2, os⟩) :
    _root_.PySem.wpAt (model prog w) A (.func body env) (exec (.Expr (.Call (.Attribute (.Call (.Name "super" p0) [] [] p1) "__init__" p2) (a :: as) [] p3) p4) env) Q E ⟨h, g, d, t, os⟩ := by
  refine ks_wpAt_Expr_any (ks_wpAt_MethodCall (pl := pl) ?_ hev) hia
  obtain ⟨oD, hD1, hD2⟩ := hD
  refine ks_wpAt_super_base hks hkc (by decide) hfu hf hfd hp hco hcc hoc hvs hfile htop ?_
  refine hsup _ ⟨rfl, hcls _ (hself _ ?_)⟩
  refine ks_wpAny_isType_cls hD1 hD2 ⟨rfl, ?_⟩
  refine ks_wpAny_call_super hD1 hD2 he rfl (fun c e => nomatch e) (looks_mroIn X hsub) (fun h' e k => ?_)
  have X' : K.In h' := X.keeps k
  have hx' := k _ _ he
  refine kxs_getMethod O.kxs e (looks_opaque X' hno) (l₀ := cdC.mro) ?_ hl X' hal ?_ hxC (by decide) ?_
  · exact fun A Q E s kk q => wpAny_bind ((looks_clsIn X' hcdC) A _ E s kk (wpAny_pure q))
  · exact (PySem.W.InstAt.type (od := none) ⟨hx', rfl, rfl, trivial⟩).andThen (looks_subIn X' hB)
  · have kp : ∀ b o, h.get? b = some o → (h'.push (kxs_mw i x)).get? b = some o := fun b o e => Heap.get?_push_of_some _ (k b o e)
    have hu : (h'.push (kxs_mw i x)).get? h'.objs.size = some (kxs_mw i x) := Heap.get?_push_at rfl rfl
    show wpAny _ _ (callWith p3 (.ref h'.objs.size) [] (backTo p3 (starEach (a :: as) env)) []) _ _ _
    have ha := hargs (h'.push (kxs_mw i x)) (t + 1) (fun vs s₁ => KxsAt i h'.objs.size x s₁.heap ∧ wpAny (model prog w) A (call (.ref h'.objs.size) vs) (fun _ => Q .next) E s₁) kp ⟨hu, mwO O (kp _ _ hC) (kp _ _ he) hu hus fun h2 t1 k2 e2 => hq h2 t1 _ (fun b o hb ho => k2 b o hb (kp b o ho)) e2⟩
    rw [hst] at ha ⊢
    refine kxs_callWith (i := i) (x := x) (by show (false || (backTo p3 (starEach as env)).any (·.1)) = false; rw [hplain]; rfl) ?_
    exact evalArgs_plain ha
end
end EXI

set_option maxHeartbeats 4000000
/-! KXc: such a class with one field (printed from EXb, EXd). -/
namespace EXI
open PySem PySem.W PySem.Calls PyProof.Rows L2 Builtin Builtin.ObjectAttr
structure OexO (K : PySem.W.Frag) (C : Addr) (newId : String) (tl : List Value) : Prop where
  cls : ∃ nm q N bs sn sub ab col dd k0 k1 k2 k3 k5, K.lookup C = some (excClassObj nm q C N bs tl true sn sub ab col dd k0 k1 k2 k3 k5 newId)
  sa : PySem.W.findIn K (.ref C) "__setattr__" = some (some (.builtin "object.__setattr__"))
  exC : PySem.W.subIn K (.ref C) (.type "BaseException") = some true
  tyC : PySem.W.typeIn K (.ref C) = some (.type "type")
  kC : PySem.W.keepIn K (.ref C) = true
structure InitO (B i : String) (prog : Program) (K : Frag) (C fI cc cda : Addr) (qual : Str) (params : Arguments) (body : List Stmt) (scope : Scope) : Prop where
  fn : ∃ oc od kV doc pm an ct osl name, K.lookup fI = some ⟨oc, od, .func (ksFn name qual params body scope .none kV doc pm an (.ref cda) ct cc), osl⟩
  code : codeIn K (.ref cda) qual = true
  rec_ : ∃ ccl cdd vs ccs file tf, K.lookup cda = some ⟨ccl, cdd, .fields vs, ccs⟩ ∧ vs[2]? = some (.str file tf) ∧ ((prog.main.file : Str) == file) = true
  cell : ∃ cl cld csl, K.lookup cc = some ⟨cl, cld, .cell (some (.ref C)), csl⟩
  sub : mroIn K C (.ref C) = some true
  top : (prog.main.scope.names.lookup ("super" : Str)).isSome = false
  opq : nsIn K cStatics "thirdparty.any" = some none
  al : ks_superIn K C C "__init__" = some (some (.builtin i))
  sv : subIn K (.ref C) (.type B) = some true
  ks : scope.names.lookup ("super" : Str) = some .globalImplicit
  kc : scope.names.lookup ("__class__" : Str) = some .free
  kind : scope.kind = .function
  co : scope.isCoroutine = false
  gen : scope.isGenerator = false
  nocell : ∀ x ∈ scope.names, x.2 ≠ .cell
section
variable {prog : Program} {w : World} {A : Around} {R : Result → Shared → Prop} {hp : Heap} {g : Array GenState} {d : Drawn} {t : Nat} {os : OsState} {B Bn newId inN i : String} {bmN tl : List Value}
theorem osaO (O : OwnB B Bn newId inN i bmN tl) {K : W.Frag} {name : Str} {tk : Tok} {v : Value} {x C : Addr} {fv : Array Value} {cd : ClassData}
    (X : K.In hp) (hx : hp.get? x = some { cls := .ref C, data := .fields fv }) (hcd : W.clsIn K C = some cd) (hm : cd.mro = .ref C :: tl) (hh : cd.hasDict = true) (ha : W.findIn K (.ref C) name = some none)
    (hq : ∀ h' tk' dx, (∀ b o, b ≠ x → hp.get? b = some o → h'.get? b = some o) → hp.objs.size ≤ dx → dx ≠ x → h'.get? x = some { cls := .ref C, dict := some dx, data := .fields fv } →
      h'.Ns1 dx (fun y => if y = name then some v else none) → R (.ok (.ret .none)) ⟨h', g, d, tk', os⟩) :
    codeAny (model prog w) A (.call (.builtin "object.__setattr__") ⟨[.ref x, .str name tk, v], []⟩) R ⟨hp, g, d, t, os⟩ := by
  have I : W.InstAt hp x { cls := .ref C, data := .fields fv } C none := ⟨hx, rfl, rfl, trivial⟩
  have SF := F.store_object
  have ne : cd.mro.isEmpty = false := by rw [hm]; rfl
  have hob : cd.mro.contains (.type "object") = true := by rw [hm, List.contains_cons, O.obj, Bool.or_true]
  have hxs : x ≠ hp.objs.size := Nat.ne_of_lt (Heap.lt_size hx)
  have sub : W.Looks (model prog w) hp (isInstance (.ref x) (.type "object")) true := I.type.andThen (W.looks_mroIn X (by unfold W.mroIn; rw [hcd, Option.bind_some, if_neg (by rw [ne]; decide), hob]))
  refine codeAny_call_builtin SF.slot.plain SF.entry (@W.check_slot (model prog w) _ _ ⟨hp, g, d, t, os⟩ "object.__setattr__" "object" "__setattr__" (.ref x) [.str name tk, v] [] _ SF.kind SF.split sub (SF.args (.ref x) (.str name tk) v) ?_)
  have hmr : W.Looks (model prog w) hp (mroOf (.ref C)) cd.mro := (W.looks_clsIn X hcd).andThen .now
  have L3 : W.Looks (model prog w) hp (storeTaker? none) none := .now
  have hcls : W.Looks (model prog w) hp (classData C) cd := W.looks_clsIn X hcd
  rw [W.osa_eq, refuse_eq]
  refine wpAny_bind (wpAny_bind (I.type.at (wpAny_bind (hmr.at ?_))))
  rw [hm, refuseLoop_ref, O.pass]
  refine wpAny_pure (wpAny_bind (I.type.at (wpAny_bind ((W.looks_findIn X ha).at (wpAny_bind (L3.at ?_))))))
  show wpAny _ _ (storeInOwnDict (.ref x) (.ref C) (.str name tk) name v false) _ _ _
  clear hm ne hob sub hmr
  obtain ⟨nm, bs, mro, ns, qn, hd, sn, sb, ab, col, del⟩ := cd
  dsimp only at hh
  subst hh
  unfold storeInOwnDict ownDictForStores
  repeat (first | with_reducible refine HandSPX.store_in_new ?_ ?_ | with_reducible refine wpAny_loadPart_at hx ?_ | with_reducible refine hcls.at ?_ | wp_step)
  · exact ⟨_, #[], _, (Heap.get?_update_ne _ _ _ _ hxs.symm).trans (Heap.get?_push_at rfl rfl), rfl, fun e he => absurd he (by simp), fun _ => rfl⟩
  · intro h' tk' hn' hs
    have hx₁ : (hp.push { cls := .type "dict", data := .dict #[] }).get? x = some { cls := .ref C, data := .fields fv } := Heap.get?_push_of_some _ hx
    refine hq h' tk' hp.objs.size (fun b o hb ho => ?_) (Nat.le_refl _) hxs.symm ?_ hn'
    · exact (hs.2 b (Nat.ne_of_lt (Heap.lt_size ho))).trans ((Heap.get?_update_ne _ _ _ _ hb).trans (Heap.get?_push_of_some _ ho))
    · exact (hs.2 x hxs).trans (Heap.get?_update_self _ hx₁ rfl)
end
section
variable {prog : Program} {w : World} {A : Around} {E : Value → Shared → Prop} {hp : Heap} {g : Array GenState} {d : Drawn} {t : Nat} {os : OsState} {K : Frag} {mg : Str → Option Value} {base : Heap} {C x : Addr} {B Bn newId inN i : String} {bmN tl : List Value}
theorem setO (O : OwnB B Bn newId inN i bmN tl) {f : Str} {v : Value} {t0 : Addr} {Q : Unit → Shared → Prop} (T : OexO K C newId tl) (X : K.In hp) (ho : hp.get? x = some (HandSPX.excO C t0)) (hno : findIn K (.ref C) f = some none)
    (h : ∀ h' tk' dx, (∀ b o, b ≠ x → hp.get? b = some o → h'.get? b = some o) → hp.objs.size ≤ dx → dx ≠ x → h'.get? x = some { cls := .ref C, dict := some dx, data := .fields #[.ref t0, .none, .none, .none, .bool false, .none] } → h'.Ns1 dx (fun y => if y = f then some v else none) → Q () ⟨h', g, d, tk', os⟩) :
    wpAny (model prog w) A (setAttr (.ref x) f v) Q E ⟨hp, g, d, t, os⟩ := by
  obtain ⟨nm, q, N, bs, sn, sub, ab, col, dd, k0, k1, k2, k3, k5, hC⟩ := T.cls
  have hcl : clsIn K C = some { name := nm, bases := bs, mro := .ref C :: tl, ns := N, qualname := q, hasDict := true, slotNames := sn, subclasses := sub, abstract := ab, collection := col, hasDel := false } := by unfold clsIn; rw [hC] <;> rfl
  refine set_plain X (ox := HandSPX.excO C t0) (od := none) ⟨ho, rfl, rfl, trivial⟩ T.sa ?_
  exact osaO O X ho hcl rfl rfl hno fun h' tk' dx k dn dne hx hn => h h' tk' dx k dn dne hx hn
end
end EXI
namespace L2
open PySem PySem.Spec PyProof.Rows EXI
section
variable {X : Cx} {e1 : Expr} {ta : TA} {p pos : Pos}
end
end L2

set_option maxHeartbeats 2000000
/-! KXd: raise C(e), C over KeyError or IndexError, one field: all that is known of it in one (printed from DQb). -/
namespace EL
open PySem PySem.Spec PyProof.Rows L2 EXI
structure ExcO1 (B newId i : String) (tl : List Value) (P : Program) (K : PySem.W.Frag) (mg : Str → Option Value) (cn a qual : Str) (st : Stmt) (C : Addr) : Prop where
  ns : PySem.W.nsIn K mainGlobals cn = some (some (.ref C))
  mgc : mg cn = some (.ref C)
  nsu : mg "super" = none
  ox : OexO K C newId tl
  xf : XfC K C
  ec : ExcC K C
  ini : ∃ fI cc cda : Addr, InitO B i P K C fI cc cda qual (defArgs st) (defBody st) (defScope st) ∧ PySem.W.findIn K (.ref C) "__init__" = some (some (.ref fI)) ∧ PySem.W.typeIn K (.ref fI) = some (.type "function")
  fa : PySem.W.findIn K (.ref C) a = some none
section
variable [Wsh] [Tbx] {X : Cx} {pos rpos p : Pos} {e1 : Expr}
end
end EL

set_option maxHeartbeats 2000000
/-! DSa: the law where it and defs that it calls make lambdas: a table each. -/
namespace EL
open PySem PySem.Spec PyProof.Rows L2 LamX
section
variable {X : Cx}
end
section
variable {P : Program} {w : World} {K : PySem.W.Frag} {mg : Str → Option Value} {base : Heap}
end
end EL

set_option maxHeartbeats 2000000
/-! DSb: the end of a law with several tables. -/
namespace EL
open PySem PySem.Spec PyProof.Rows L2 LamX
/-- the def y, its code object at c, whose table is at T -/
def TabFact (K : PySem.W.Frag) (mg : Str → Option Value) (y : Str) (c T : Addr) : Prop :=
  ∃ (fb : Addr) (fd2 : FuncData) (o : Obj) (e : Value) (dd : Option Addr) (vs : Array Value) (sl : Array (Option Value)), mg y = some (.ref fb) ∧ K.lookup fb = some o ∧ o.data = .func fd2 ∧ fd2.code = .ref c ∧ K.lookup c = some ⟨e, dd, .fields vs, sl⟩ ∧ vs[11]? = some (.ref T) ∧ K.lookup T = none ∧ PySem.W.codeHdIn K c T = true
structure TabRow (K : PySem.W.Frag) (mg : Str → Option Value) (ys : List Str) (cts : List (Addr × Addr)) : Prop where
  len : ys.length = cts.length
  all : ∀ (i : Nat) (y : Str) (p : Addr × Addr), ys[i]? = some y → cts[i]? = some p → TabFact K mg y p.1 p.2
end EL

set_option maxHeartbeats 2000000
/-! DSc: for k, v in d.items(); properties that may raise. -/
namespace EL
open PySem PySem.Spec PyProof.Rows L2
variable [Wsh] [Tbx]
section
variable {X : Cx} {apos cpos tpos pos : Pos} {e o : Expr} {elts : List Expr} {kk : Nat} {f : Dn}
end
end EL

set_option maxHeartbeats 2000000
/-! DSd: methods def m(self, *v) that may raise. -/
namespace EL
open PySem PySem.Spec PyProof.Rows L2 StX
variable [Tbx]
section
variable {P : Program} {w : World} {K : PySem.W.Frag} {mg : Str → Option Value} {base : Heap}
end
section
variable [Wsh] {X : Cx} {pos apos : Pos} {o e : Expr} {es : List Expr} {C : Addr} {cn : Str}
end
end EL

set_option maxHeartbeats 2000000
/-! DSe: what the orders' heard def makes of NoItem and Circular (k19, k18, k21). -/
namespace EL
open PySem PySem.Spec PyProof.Rows L2 EXI
/-! ### several tables: the facts -/
theorem TabRow.nil {K : PySem.W.Frag} {mg : Str → Option Value} : TabRow K mg [] [] := ⟨rfl, fun i y p h => by simp at h⟩
theorem TabRow.cons {K : PySem.W.Frag} {mg : Str → Option Value} {y : Str} {c T : Addr} {ys : List Str} {cts : List (Addr × Addr)} (h : TabFact K mg y c T) (r : TabRow K mg ys cts) : TabRow K mg (y :: ys) ((c, T) :: cts) := by
  refine ⟨by rw [List.length_cons, List.length_cons, r.len], fun i z p h1 h2 => ?_⟩
  cases i with
  | zero =>
    cases h1
    cases h2
    exact h
  | succ i =>
    rw [List.getElem?_cons_succ] at h1 h2
    exact r.all i z p h1 h2
end EL

set_option maxHeartbeats 2000000
/-! DSf: properties that may raise. -/
namespace EL
open PySem PySem.Spec PyProof.Rows L2
section
variable {X : Cx} {k : Nat} {C p g a dx : Addr} {fs : List (Str × V)} {f : Str} {fd : FuncData} {ps : List Str} {sp : Sp} {dvs : List V} {ds : List Value} {E : XK} {e : Expr} {pos : Pos} {ta : TE}
end
section
variable [Wsh] [Tbx] {X : Cx} {o : Expr} {pos : Pos} {C : Addr} {cn : Str}
/-- only the exception xn leaves -/
def only (xn : Str) : Res PyData → Res PyData
  | .exc cn fds => if cn = xn then .exc cn fds else .bad
  | r => r
end
/-! ### what def m(self, *v) binds -/
end EL

set_option maxHeartbeats 4000000
/-! KXe: except (A, B, C, D, E, F) as e (printed from DQc). -/
namespace EXI
open PySem PySem.W PySem.Spec PySem.Calls PyProof.Rows
section
variable {M : Model} {K : Frag}
end
end EXI

set_option maxHeartbeats 2000000
/-! DTa: x.insert(k, e), x a list that may change. -/
namespace EL
open PySem PySem.Spec PyProof.Rows L2
variable [Wsh] [Tbx]
section
variable {X : Cx} {pos : Pos} {e k : Expr}
end
end EL

set_option maxHeartbeats 2000000
/-! DTb: o.m(k = e, ..), all parameters by name, in any order. -/
namespace EL
open PySem PySem.Spec PyProof.Rows L2
variable [Wsh] [Tbx]
section
variable {X : Cx} {pos apos : Pos} {o : Expr} {kws : List Keyword} {k : Nat} {f C : Addr} {fd : FuncData} {ps ks : List Str} {mn cn : Str} {m : List PyData → Res PyData} {n : Nat} {ix : List Nat}
end
end EL

set_option maxHeartbeats 2000000
/-! UAa: lists and dicts that may change are lent to an expression whose value does not hold them. -/
namespace EL
open PySem PySem.Spec PyProof.Rows L2
section
variable {K : PySem.W.Frag} {O O' : List Addr} {H1 H2 : Hp} {p : Addr}
end
/-! ### the rule -/
variable [Wsh] [Tbx]
end EL

set_option maxHeartbeats 2000000
/-! UAb: instances of an own class: ==, isinstance, len, repr. -/
namespace EL
open PySem PySem.Spec PyProof.Rows L2
/-- what is asked of a class whose instances are compared and asked for -/
structure OwnC (K : PySem.W.Frag) (cn : Str) (C : Addr) : Prop where
  cN : PySem.W.nsIn K mainGlobals cn = some (some (.ref C))
  cls : Cls K C
  ha : PySem.W.findIn K (.ref C) "__class__" = some (some (.builtin "object.__class__"))
  hn : PySem.W.specialIn K (.builtin "object.__class__") "__get__" = some (some (.builtin "getset_descriptor.__get__"))
  htk : PySem.W.takesIn K (.builtin "object.__class__") = some true
  hm : PySem.W.mroIn K C (.type "object") = some true
  nf : (["NoneType", "bool", "int", "str", "list", "tuple", "dict"].all fun t => PySem.W.subIn K (.type t) (.ref C) == some false) = true
  ki : (["NoneType", "bool", "int", "str", "list", "tuple", "dict"].all fun t => PySem.W.kitOne K (.type t) (.ref C) == some false) = true
theorem tag_in (d : PyData) : tyN d ∈ ["NoneType", "bool", "int", "str", "list", "tuple", "dict"] := by
  cases d <;> simp [tyN, tagOf, Tag.nm]
variable {K : PySem.W.Frag} {cn : Str} {C : Addr}
theorem OwnC.not_first (c : OwnC K cn C) (d : PyData) : PySem.W.notFirst K C (.type (tyN d)) = true := by
  unfold PySem.W.notFirst
  rw [List.all_eq_true.mp c.nf _ (tag_in d), Bool.or_true]
theorem OwnC.self_first : PySem.W.notFirst K C (.ref C) = true := by
  unfold PySem.W.notFirst
  rw [show (Value.ref C == Value.ref C) = true from by simp, Bool.true_or]
theorem OwnC.kit (c : OwnC K cn C) (d : PyData) : PySem.W.kitOne K (.type (tyN d)) (.ref C) = some false := beq_iff_eq.mp (List.all_eq_true.mp c.ki _ (tag_in d))
theorem OwnC.kit1 : PySem.W.kitOne K (.ref C) (.ref C) = some true := by
  unfold PySem.W.kitOne
  rw [if_pos (by simp)]
/-- the type of a datum that is no instance, or an instance of cn -/
theorem OwnC.ty (c : OwnC K cn C) {O : List Addr} {H : Hp} {v : V} {d : PyData} (r : Rp K O H v d) (h : instP d = false ∨ (fldsOf cn d).isSome = true) : ∃ t, TyX K H v t ∧ PySem.W.notFirst K C t = true ∧ PySem.W.kitOne K t (.ref C) = some (fldsOf cn d).isSome := by
  cases hf : fldsOf cn d with
  | none =>
    have hi : instP d = false := by
      rcases h with h | h
      · exact h
      · rw [hf] at h; cases h
    exact ⟨_, r.tyX (by rw [hi]; simp), c.not_first d, c.kit d⟩
  | some fds =>
    have rr := r
    rw [fldsOf_some hf] at rr
    obtain ⟨q, C2, d2, gs, rfl, e3, e4, _⟩ := rr.insI
    rw [c.cN] at e3
    cases e3
    exact ⟨_, .base (.ins e4 c.cls c.ha c.hn c.htk c.hm), OwnC.self_first, OwnC.kit1⟩
variable [Wsh] [Tbx]
/-! ### o == y -/
section
variable {X : Cx} {pos : Pos}
/-! ### isinstance(x, C) -/
/-! ### len(o) -/
end
end EL

set_option maxHeartbeats 2000000
/-! UAc: repr(o), o of an own class; o[i] that may raise; o.m(k = e) that may raise; constants of classes. -/
namespace EL
open PySem PySem.Spec PyProof.Rows L2
variable [Wsh] [Tbx]
variable {K : PySem.W.Frag} {cn : Str} {C : Addr}
section
variable {X : Cx} {pos : Pos}
/-! ### o[i], __getitem__ may raise -/
/-! ### constants -/
end
end EL

set_option maxHeartbeats 2000000
/-! UAd: x, y = new, [new, e][k]: the second one may change if it is the list. -/
namespace EL
open PySem PySem.Spec PyProof.Rows L2
variable [Wsh] [Tbx]
section
variable {c : Fc} {O : List Addr} {H H0 : Hp} {σ : L2.St} {en en0 : En} {p : Addr} {d : PyData} {i : Nat}
end
section
variable {X : Cx} {pos : Pos} {a b e k : Expr}
end
end EL

set_option maxHeartbeats 2000000
/-! UAe: f-strings; o.m(k = e) that may raise; what k02's heard def makes of NoFibre and NoDuct. -/
namespace EL
open PySem PySem.Spec PyProof.Rows L2
variable [Wsh] [Tbx]
section
variable {X : Cx} {pos : Pos}
end
/-! ### k02's heard def -/
open EXI
end EL

set_option maxHeartbeats 2000000
/-! UAf: a def that makes lambdas and changes its first argument. -/
namespace EL
open PySem PySem.Spec PyProof.Rows L2 LamX
variable [Wsh] [Tbx]
section
variable {P : Program} {w : World} {K : PySem.W.Frag} {mg : Str → Option Value} {base : Heap}
end
section
variable {X : Cx} {pos : Pos} {es : List Expr} {k : Nat} {f : Addr} {fd : FuncData} {ps : List Str} {x : Str} {p : Pos}
end
end EL

set_option maxHeartbeats 2000000
/-! UAg: min of two ints. -/
namespace EL
open PySem PySem.Spec PyProof.Rows L2
variable [Wsh] [Tbx]
section
variable {X : Cx}
end
end EL

set_option maxHeartbeats 4000000
/-! XKa: own exception classes over ValueError (with a class between), OverflowError, LookupError; made with keywords too (printed from KXa). -/
namespace EXI
open PySem PySem.W PySem.Calls PyProof.Rows Builtin Builtin.ObjectAttr
abbrev oeTail : List Value := [.type "OverflowError", .type "ArithmeticError", .type "Exception", .type "BaseException", .type "object"]
abbrev veTail : List Value := [.type "ValueError", .type "Exception", .type "BaseException", .type "object"]
theorem ownB_Over : OwnB "OverflowError" "OverflowError" "OverflowError.__new__" "OverflowError.__init__" "OverflowError.__init__" oeTail oeTail where
  fn := F.excBase_OverflowError
  hasN := by decide +kernel
  noA := by decide +kernel
  noN := by decide +kernel
  obj := by decide +kernel
  ne := by decide +kernel
  pass := fun self => by kernel_rfl
  kxs := kxs_OverflowError
  iPlain := by decide +kernel
  iEntry := F.excBase_OverflowError.initEntry
  iKind := by decide +kernel
  iRow := by kernel_rfl
  star := by decide +kernel
theorem ownB_Look : OwnB "LookupError" "LookupError" "LookupError.__new__" "LookupError.__init__" "LookupError.__init__" leTail leTail where
  fn := F.excBase_LookupError
  hasN := by decide +kernel
  noA := by decide +kernel
  noN := by decide +kernel
  obj := by decide +kernel
  ne := by decide +kernel
  pass := fun self => by kernel_rfl
  kxs := kxs_LookupError
  iPlain := by decide +kernel
  iEntry := F.excBase_LookupError.initEntry
  iKind := by decide +kernel
  iRow := by kernel_rfl
  star := by decide +kernel
section
variable {M : Model} {A : Around} {E : Value → Shared → Prop} {h : Heap} {g : Array GenState} {d : Drawn} {t : Nat} {os : OsState}
variable {nm q : Str} {C N : Addr} {bs tl bmN : List Value} {hdct : Bool} {sn : List Str} {sub : List Value} {ab : Bool} {col : Option Bool} {dd : Option Addr} {k0 k1 k2 k3 k5 : Option Value} {B Bn newId inN i : String}
theorem checkOK (O : OwnB B Bn newId inN i bmN tl) {rest : List Value} {kw : List (Str × Value)} {Q : Unit → Shared → Prop} (hC : h.get? C = some (excClassObj nm q C N bs tl hdct sn sub ab col dd k0 k1 k2 k3 k5 newId)) (hq : Q () ⟨h, g, d, t, os⟩) :
    wpAny M A (checkBuiltinCall newId ⟨.ref C :: rest, kw⟩) Q E ⟨h, g, d, t, os⟩ := by
  have hcont : (Value.ref C :: tl).contains (.type Bn) = true := by rw [List.contains_cons, O.hasN, Bool.or_true]
  have hstar := O.fn.noStar
  simp only [checkBuiltinCall, O.fn.newKind, O.fn.newSplit, O.fn.newRow]
  repeat (first | refine wpAny_loadPart_at hC ?_ | (refine wpAny_isSubtype_exc hC ?_; rw [hcont]) | refine wpAny_staticBase_exc hC ?_ | refine wpAny_madeBy_exc hC ?_ | simp only [bne_self_eq_false, Bool.false_eq_true, if_false] | wp_step)
  exact hq
end
section
variable {prog : Program} {w : World} {A : Around} {E : Value → Shared → Prop} {R : Result → Shared → Prop} {h : Heap} {g : Array GenState} {d : Drawn} {t : Nat} {os : OsState}
variable {nm q : Str} {C N : Addr} {bs tl bmN : List Value} {hdct : Bool} {sn : List Str} {sub : List Value} {ab : Bool} {col : Option Bool} {dd : Option Addr} {k0 k1 k2 k3 k5 : Option Value} {B Bn newId inN i : String}
theorem newOK (O : OwnB B Bn newId inN i bmN tl) {rest : List Value} {kw : List (Str × Value)} (hC : h.get? C = some (excClassObj nm q C N bs tl hdct sn sub ab col dd k0 k1 k2 k3 k5 newId))
    (hq : R (.ok (.ret (.ref (h.objs.size + 1)))) ⟨(h.push { cls := .type "tuple", data := .seq rest.toArray }).push { cls := .ref C, data := .fields #[.ref h.objs.size, .none, .none, .none, .bool false, .none] }, g, d, t, os⟩) (hrest : rest.length ≤ sizeLine) :
    codeAny (model prog w) A (.builtin newId ⟨.ref C :: rest, kw⟩) R ⟨h, g, d, t, os⟩ := by
  have hends := O.fn.ends
  have hcB : (Value.ref C :: tl).contains (.type Bn) = true := by rw [List.contains_cons, O.hasN, Bool.or_true]
  have hcA : (Value.ref C :: tl).contains (.type "AttributeError") = false := by rw [List.contains_cons, O.noA]; rfl
  have hcN : (Value.ref C :: tl).contains (.type "NameError") = false := by rw [List.contains_cons, O.noN]; rfl
  refine codeAny_builtinAt O.fn.entry ?_
  unfold Builtin.«BaseException.__new__»
  refine PySem.wpAt_bind ?_
  show PySem.wpAt _ _ _ (stack >>= _) _ _ _
  refine PySem.wpAt_bind (PySem.wpAt_stack fun p below => PySem.wpAt_of_wpAny ?_)
  wp_walk
  refine PySem.wpAt_of_wpAny ?_
  rw [O.fn.owner]
  repeat (first | with_reducible refine wpAny_madeHere_exc O.fn.canon hC ?_ | with_reducible refine wpAny_loadPart_at hC ?_ | (with_reducible refine wpAny_isSubtype_exc hC ?_; first | rw [hcB] | rw [hcA] | rw [hcN]) | wp_step)
  show R _ _
  rw [Heap.size_push]
  exact hq
theorem typeCallOK (O : OwnB B Bn newId inN i bmN tl) {rest : List Value} {kw : List (Str × Value)} {fI : Addr} {Q : Fin → Shared → Prop} (hC : h.get? C = some (excClassObj nm q C N bs tl hdct sn sub ab col dd k0 k1 k2 k3 k5 newId))
    (hi : W.Looks (model prog w) h (typeLookup (.ref C) "__init__") (some (.ref fI))) (hb : ∀ self, W.Looks (model prog w) h (bindSpecial (.ref fI) self) (.ref fI, [self])) (hrest : rest.length ≤ sizeLine)
    (hq : codeAny (model prog w) A (.call (.ref fI) ⟨.ref (h.objs.size + 1) :: rest, kw⟩)
      (fun r s' => match r with | .ok (.ret v) => v = .none ∧ Q (.done (.ret (.ref (h.objs.size + 1)))) s' | .ok _ => False | .error e => E e s')
      ⟨(h.push (W.kdv_tup rest)).push (HandSPX.excO C h.objs.size), g, d, t, os⟩) :
    wpAny (model prog w) A (Builtin.«type.__call__» ⟨.ref C :: rest, kw⟩) Q E ⟨h, g, d, t, os⟩ := by
  repeat (first | with_reducible refine wpAny_loadPart_at hC ?_ | with_reducible refine wpAny_madeBy_exc hC ?_ | wp_step)
  refine codeAny_call_builtin_code (Code.quiet_builtin _ O.fn.quiet) (checkOK O hC ?_)
  refine newOK O hC ?_ hrest
  show wpAny _ _ _ _ _ _
  have k : ∀ b o, h.get? b = some o → ((h.push (W.kdv_tup rest)).push (HandSPX.excO C h.objs.size)).get? b = some o := fun b o e => Heap.get?_push_of_some _ (Heap.get?_push_of_some _ e)
  have hC₁ := k _ _ hC
  have hget : ((h.push (W.kdv_tup rest)).push (HandSPX.excO C h.objs.size)).get? (h.objs.size + 1) = some (HandSPX.excO C h.objs.size) := by heap_get
  have hcC : (Value.ref C :: tl).contains (.ref C) = true := by simp
  have i1 := hi.keeps k
  have b1 := (hb (.ref (h.objs.size + 1))).keeps k
  unfold isInstance
  repeat (first | with_reducible refine wpAny_loadPart_at hget ?_ | (with_reducible refine wpAny_isSubtype_exc hC₁ ?_; rw [hcC]) | wp_step)
  show wpAny _ _ (typeLookup (.ref C) _) _ _ _
  refine i1.at ?_
  refine wpAny_holding (wpAny_bind (b1.at ?_))
  refine wpAny_bind (wpAny_call (codeAny_mono hq fun r s' z => ?_))
  rcases r with e | (v | _ | _ | _) <;> first | exact z | exact z.elim | skip
  obtain ⟨rfl, z⟩ := z
  first
    | exact wpAny_pure (wpAny_pure z)
    | (wp_walk; exact z)
theorem callOK (O : OwnB B Bn newId inN i bmN tl) {rest : List Value} {kw : List (Str × Value)} {fI : Addr} (hC : h.get? C = some (excClassObj nm q C N bs tl hdct sn sub ab col dd k0 k1 k2 k3 k5 newId))
    (hi : W.Looks (model prog w) h (typeLookup (.ref C) "__init__") (some (.ref fI))) (hb : ∀ self, W.Looks (model prog w) h (bindSpecial (.ref fI) self) (.ref fI, [self])) (hrest : rest.length ≤ sizeLine)
    (hq : codeAny (model prog w) (A.under (.builtin "type.__call__" ⟨.ref C :: rest, kw⟩)) (.call (.ref fI) ⟨.ref (h.objs.size + 1) :: rest, kw⟩) (W.InitBack (h.objs.size + 1) R)
      ⟨(h.push (W.kdv_tup rest)).push (HandSPX.excO C h.objs.size), g, d, t, os⟩) :
    codeAny (model prog w) A (.call (.ref C) ⟨rest, kw⟩) R ⟨h, g, d, t, os⟩ := by
  have f1 := tc_lookup
  have f2 := tc_bind (.ref C)
  have hTy : (⟨h, g, d, t, os⟩ : Shared).TypeIs (.ref C) "type" := ⟨_, hC, rfl⟩
  refine codeAny_of_tree ?_
  show wpAny _ _ (callAny (.ref C) _) _ _ _
  repeat (any_goals (first | assumption | with_reducible refine wpAny_loadPart_at hC ?_ | wp_step))
  refine ⟨rfl, ?_⟩
  refine codeAny_call_builtin_at (Code.quiet_builtin _ (by decide +kernel)) entry_typeCall (wpAny_check_type_call_sub hC (typeCallOK O hC hi hb hrest ?_))
  refine codeAny_mono hq fun r s' z => ?_
  rcases r with e | (v | _ | _ | _) <;> exact z
end
end EXI

set_option maxHeartbeats 4000000
/-! XKb: own exception classes made with any arguments, by place or by name (printed by mkxb.py from EXb, EXc, EXd, KXc). -/
namespace EXI
open PySem PySem.W PySem.Calls PyProof.Rows Builtin Builtin.ObjectAttr L2
theorem ve_of : ∀ {bm : List Value}, HandSPX.refsVE bm = true → (bm.contains (.type "ValueError") = true ∧ bm.contains (.type "AttributeError") = false ∧ bm.contains (.type "NameError") = false ∧ bm.contains (.type "object") = true ∧ bm.isEmpty = false) ∧ ∀ self : Value, refuseLoop self "__setattr__" bm = pure ()
  | bm, h => by
    rcases HandSPX.refsVE_cases bm h with ⟨c, r, rfl, hr⟩ | rfl
    · obtain ⟨⟨a, b, c', d, e⟩, f⟩ := ve_of hr
      refine ⟨⟨?_, ?_, ?_, ?_, rfl⟩, fun self => by rw [refuseLoop_ref]; exact f self⟩
      · rw [List.contains_cons, a, Bool.or_true]
      · rw [List.contains_cons, b, Bool.or_false]; rfl
      · rw [List.contains_cons, c', Bool.or_false]; rfl
      · rw [List.contains_cons, d, Bool.or_true]
    · exact ⟨⟨by decide +kernel, by decide +kernel, by decide +kernel, by decide +kernel, rfl⟩, fun self => by kernel_rfl⟩
termination_by bm => bm.length
theorem ownB_VE {bm : List Value} (h : HandSPX.refsVE bm = true) : OwnB "ValueError" "ValueError" "ValueError.__new__" "ValueError.__init__" "ValueError.__init__" EXI.veTail bm where
  fn := F.excBase_ValueError
  hasN := (ve_of h).1.1
  noA := (ve_of h).1.2.1
  noN := (ve_of h).1.2.2.1
  obj := (ve_of h).1.2.2.2.1
  ne := (ve_of h).1.2.2.2.2
  pass := (ve_of h).2
  kxs := kxs_ValueError
  iPlain := by decide +kernel
  iEntry := F.excBase_ValueError.initEntry
  iKind := by decide +kernel
  iRow := by kernel_rfl
  star := by decide +kernel
section
variable {prog : Program} {w : World} {A : Around} {E : Value → Shared → Prop} {hp : Heap} {g : Array GenState} {d : Drawn} {t : Nat} {os : OsState} {K : Frag} {mg : Str → Option Value} {base : Heap} {C x : Addr}
theorem init_go2K {rest : List Value} {kw : List (Str × Value)} {fI cc cda : Addr} {qual a b : Str} {params : Arguments} {scope : Scope} {p0 p1 p2 p3 p4 n1 n2 q1 q2 q3 q4 r1 r2 r3 r4 : Pos} {u1 u2 : Value} {t0 : Addr} {R : Result → Shared → Prop} {pl : Sem Bool}
    (hev : ∀ L : Addr, eval (.Call (.Attribute (.Call (.Name "super" p0) [] [] p1) "__init__" p2) [.Name a n1, .Name b n2] [] p3) (ksEnv qual scope L fI (.ref cda) cc) = (do
      let ov ← attributeBase (.Call (.Name "super" p0) [] [] p1) "__init__" (ksEnv qual scope L fI (.ref cda) cc) (eval (.Call (.Name "super" p0) [] [] p1) (ksEnv qual scope L fI (.ref cda) cc))
      standAt p2.atName
      let (f, first) ← holding [ov] (getMethod ov "__init__" pl)
      callWith p3 f first (backTo p3 (starEach [.Name a n1, .Name b n2] (ksEnv qual scope L fI (.ref cda) cc))) []))
    (sw1 : ∀ L : Addr, swapsWith (.Name a q3) (some (.Attribute (.Name "self" q1) a q2)) q4.line (ksEnv qual scope L fI (.ref cda) cc) = pure false) (sw2 : ∀ L : Addr, swapsWith (.Name b r3) (some (.Attribute (.Name "self" r1) b r2)) r4.line (ksEnv qual scope L fI (.ref cda) cc) = pure false)
    (T : OexC K C) (I : InitK prog K C fI cc cda qual params [.Expr (.Call (.Attribute (.Call (.Name "super" p0) [] [] p1) "__init__" p2) [.Name a n1, .Name b n2] [] p3) p4, .Assign [.Attribute (.Name "self" q1) a q2] (.Name a q3) q4, .Assign [.Attribute (.Name "self" r1) b r2] (.Name b r3) r4] scope)
    (M : Mod K mg base) (kb : ∀ b o, base.get? b = some o → hp.get? b = some o) (hms : mg "super" = none) (hroom : A.depth < recursionLimit) (hxb : ∀ o, base.get? x ≠ some o) (he : hp.get? x = some (HandSPX.excO C t0))
    (hpar : (params.posonlyargs ++ params.args).head?.map (·.arg) = some ("self" : Str)) (hself : scope.names.lookup ("self" : Str) = some .local) (ha : scope.names.lookup a = some .local) (hb : scope.names.lookup b = some .local)
    (hbind : ∀ (name : Str) (kV doc pm : Value) (an : Option Addr) (ct : Value), bindArgs (ksFn name qual params [.Expr (.Call (.Attribute (.Call (.Name "super" p0) [] [] p1) "__init__" p2) [.Name a n1, .Name b n2] [] p3) p4, .Assign [.Attribute (.Name "self" q1) a q2] (.Name a q3) q4, .Assign [.Attribute (.Name "self" r1) b r2] (.Name b r3) r4] scope .none kV doc pm an (.ref cda) ct cc) ⟨.ref x :: rest, kw⟩ = pure [(("self" : Str), .ref x), (a, u1), (b, u2)])
    (hsa : ("self" : Str) ≠ a) (hsb : ("self" : Str) ≠ b) (hab : a ≠ b) (da : (a == ("__debug__" : Str)) = false) (db : (b == ("__debug__" : Str)) = false) (hna : findIn K (.ref C) a = some none) (hnb : findIn K (.ref C) b = some none)
    (h : ∀ h' tk' dx t1, (∀ b o, b ≠ x → hp.get? b = some o → h'.get? b = some o) → hp.objs.size ≤ dx → dx ≠ x → h'.get? x = some { cls := .ref C, dict := some dx, data := .fields #[.ref t1, .none, .none, .none, .bool false, .none] } → h'.Ns1 dx (fun y => if y = b then some u2 else if y = a then some u1 else none) → R (.ok (.ret .none)) ⟨h', g, d, tk', os⟩) :
    codeAny (model prog w) A (.call (.ref fI) ⟨.ref x :: rest, kw⟩) R ⟨hp, g, d, t, os⟩ := by
  obtain ⟨oc, od, kV, doc, pm, an, ct, osl, name, lk⟩ := I.fn
  obtain ⟨ccl, cdd, vs, ccs, file, tf, lcd, hvs, hfile⟩ := I.rec_
  obtain ⟨cl, cld, csl, lcc⟩ := I.cell
  obtain ⟨nm, q, N, bs, bm, sn, sub, ab, col, dd, k0, k1, k2, k3, k5, hC, hbm⟩ := T.cls
  have hcl : clsIn K C = some { name := nm, bases := bs, mro := .ref C :: bm, ns := N, qualname := q, hasDict := true, slotNames := sn, subclasses := sub, abstract := ab, collection := col, hasDel := false } := by unfold clsIn; rw [hC] <;> rfl
  obtain ⟨mb, hb1, hb2⟩ := M.blt
  have X : K.In hp := M.kin.keeps kb
  let env : Env := ksEnv qual scope hp.objs.size fI (.ref cda) cc
  have lxL : hp.objs.size ≠ x := Nat.ne_of_gt (Heap.lt_size he)
  have xC : x ≠ C := fun z => by
    have e1 := X _ _ hC
    rw [← z, he] at e1
    cases e1
  refine ks_codeAny_call_defAt (fd := ksFn name qual params _ scope .none kV doc pm an (.ref cda) ct cc) (body := _) (binds := [(("self" : Str), .ref x), (a, u1), (b, u2)]) hroom (X _ _ lk) rfl (M.nolimit.keeps kb) (codeRec_of X I.code) rfl (BindsTo.of_eq (hbind ..)) I.nocell (fun y hy => ?_) (fun h1 hns hk1 => ?_) I.co I.gen I.kind
  · rcases List.mem_cons.mp hy with rfl | hy
    · exact hself
    · rcases List.mem_cons.mp hy with rfl | hy
      · exact ha
      · rw [List.mem_singleton.mp hy]; exact hb
  have X1 : K.In h1 := X.keeps hk1
  have kb1 : ∀ b o, base.get? b = some o → h1.get? b = some o := fun b o e => hk1 b o (kb b o e)
  have c1 : (("self" : Str) == b) = false := beq_eq_false_iff_ne.mpr hsb
  have c2 : (("self" : Str) == a) = false := beq_eq_false_iff_ne.mpr hsa
  have c3 : (a == b) = false := beq_eq_false_iff_ne.mpr hab
  have vS : ([(("self" : Str), Value.ref x), (a, u1), (b, u2)].reverse.lookup ("self" : Str)) = some (.ref x) := by
    show List.lookup ("self" : Str) [(b, u2), (a, u1), (("self" : Str), Value.ref x)] = _
    rw [List.lookup_cons, c1, List.lookup_cons, c2, List.lookup_cons, beq_self_eq_true]
  have vA : ([(("self" : Str), Value.ref x), (a, u1), (b, u2)].reverse.lookup a) = some u1 := by
    show List.lookup a [(b, u2), (a, u1), (("self" : Str), Value.ref x)] = _
    rw [List.lookup_cons, c3, List.lookup_cons, beq_self_eq_true]
  have vB : ([(("self" : Str), Value.ref x), (a, u1), (b, u2)].reverse.lookup b) = some u2 := by
    show List.lookup b [(b, u2), (a, u1), (("self" : Str), Value.ref x)] = _
    rw [List.lookup_cons, beq_self_eq_true]
  have nsk : ∀ {h2 : Heap}, (∀ b o, b ≠ x → h1.get? b = some o → h2.get? b = some o) → h2.Ns hp.objs.size (fun y => [(("self" : Str), Value.ref x), (a, u1), (b, u2)].reverse.lookup y) := fun {h2} k => by
    obtain ⟨oL, es, ep, hL, r⟩ := hns
    exact ⟨oL, es, ep, k _ _ lxL hL, r⟩
  obtain ⟨ar, har, harn⟩ : ∃ ar, (params.posonlyargs ++ params.args).head? = some ar ∧ ar.arg = ("self" : Str) := by
    cases z : (params.posonlyargs ++ params.args).head? with
    | none => rw [z] at hpar; cases hpar
    | some ar => rw [z] at hpar; exact ⟨ar, rfl, Option.some.inj hpar⟩
  have hl : ((({ name := nm, bases := bs, mro := .ref C :: bm, ns := N, qualname := q, hasDict := true, slotNames := sn, subclasses := sub, abstract := ab, collection := col, hasDel := false } : ClassData).mro.dropWhile (· != .ref C)).drop 1) = bm := by
    show (((Value.ref C :: bm).dropWhile (· != .ref C)).drop 1) = bm
    rw [List.dropWhile_cons, if_neg (by simp)]
    rfl
  have hal : alongIn K "__init__" bm = some (some (.builtin "ValueError.__init__")) := by
    have z := I.al
    unfold ks_superIn at z
    rw [hcl, Option.bind_some, hl] at z
    exact z
  refine ks_wpAt_execs_cons ?_
  have ldn : ∀ {h2 : Heap} {t2 : Nat} {E' : Value → Shared → Prop} {y : Str} {v : Value} {pz : Pos} {Q' : Value → Shared → Prop}, h2.Ns hp.objs.size (fun y => [(("self" : Str), Value.ref x), (a, u1), (b, u2)].reverse.lookup y) → scope.names.lookup y = some .local → [(("self" : Str), Value.ref x), (a, u1), (b, u2)].reverse.lookup y = some v → (y == ("__debug__" : Str)) = false → Q' v ⟨h2, g, d, t2, os⟩ →
      wpAny (model prog w) (A.deeper env) (eval (.Name y pz) env) Q' E' ⟨h2, g, d, t2, os⟩ := fun hn hk hv hd hq => wpAny_Name (wpAny_loadName_local I.kind hk hn hv hq) hd
  have hlen : ([u1, u2] : List Value).length ≤ sizeLine := by rw [sizeLine_eq]; show 2 ≤ 16777216; decide
  have hia : interactive env = false := by
    unfold interactive
    simp [env, I.kind]
  refine super_init (K := K) (C := C) (D := C) (env := env) (f := fI) (cda := cda) (us := [u1, u2]) kxs_ValueError F.excBase_ValueError X1 I.ks I.kc rfl (hk1 _ _ (X _ _ lk)) rfl har rfl (X1 _ _ lcd) rfl hvs hfile I.top ?_ ?_ ?_ ⟨_, X1 _ _ hC, rfl⟩ I.sub I.opq hcl hl hal I.sv (X1 _ _ hC) (hk1 _ _ he) xC ?_ hlen rfl rfl (hev _) hia ?_
  · exact fun Q' q => ks_loadName_global I.kind I.ks (Calls.loadGlobal_builtin (M.glob.keeps kb1) hms (hb1.keeps kb1) ((hb2 "super" (by decide)).trans (by decide +kernel)) q)
  · exact fun Q' q => wpAny_loadName_free I.kind I.kc rfl ⟨_, X1 _ _ lcc, rfl⟩ q
  · intro Q' q
    rw [harn]
    exact wpAny_loadName_local I.kind hself hns vS q
  · intro h2 t1 Q' k q
    have hn2 : h2.Ns hp.objs.size (fun y => [(("self" : Str), Value.ref x), (a, u1), (b, u2)].reverse.lookup y) := hns.keeps k
    exact Calls.spliced_cons (ldn hn2 ha vA da (Calls.spliced_cons (ldn hn2 hb vB db (Calls.spliced_nil q))))
  · intro h2 t1 t2 k2 e2
    have xb : base.get? x = none := by
      cases z : base.get? x with
      | none => rfl
      | some o =>
        exfalso
        exact hxb o z
    have kb2 : ∀ b o, base.get? b = some o → h2.get? b = some o := fun b o e => k2 b o (fun z => by rw [z, xb] at e; cases e) (kb1 b o e)
    have X2 : K.In h2 := M.kin.keeps kb2
    have hn2 := nsk k2
    show _root_.PySem.wpAt _ _ _ (execs _ env) _ _ _
    refine ks_wpAt_execs_cons (ks_wpAt_Assign_Attr (wpAt_of_wpAny (ldn hn2 ha vA da (ldn hn2 hself vS (by decide) (set_first T X2 e2 hna fun h3 tk3 dx k3 dn dne hx3 hn3 => ?_)))) (sw1 _))
    show _root_.PySem.wpAt _ _ _ (execs _ env) _ _ _
    have ln2 : hp.objs.size < h2.objs.size := hn2.lt
    have hn3' : h3.Ns hp.objs.size (fun y => [(("self" : Str), Value.ref x), (a, u1), (b, u2)].reverse.lookup y) := by
      obtain ⟨oL, es, ep, hL, r⟩ := hn2
      exact ⟨oL, es, ep, k3 _ _ lxL hL, r⟩
    have kb3 : ∀ b o, base.get? b = some o → h3.get? b = some o := fun b o e => k3 b o (fun z => by rw [z, xb] at e; cases e) (kb2 b o e)
    refine ks_wpAt_execs_cons (ks_wpAt_Assign_Attr (wpAt_of_wpAny (ldn hn3' hb vB db (ldn hn3' hself vS (by decide) (set_next (nl := [a]) T (M.kin.keeps kb3) hx3 hn3 (fun y hy => ?_) (by show 1 ≤ 1000; decide) hnb fun h4 tk4 k4 hn4 => ?_)))) (sw2 _))
    · by_cases z : y = a
      · rw [z]; exact List.mem_cons_self
      · exact absurd (if_neg z) hy
    · show _root_.PySem.wpAt _ _ _ (execs [] env) _ _ _
      have lx : ∀ {b : Addr} {o : Obj}, h2.get? b = some o → b ≠ dx := fun {b o} e => Nat.ne_of_lt (Nat.lt_of_lt_of_le (Heap.lt_size e) dn)
      refine wpAt_of_wpAny (wpAny_pure (h h4 tk4 dx t1 (fun b o hbx e => ?_) (Nat.le_of_lt (Nat.lt_of_lt_of_le ln2 dn)) dne (k4 _ _ (Ne.symm dne) hx3) hn4))
      have e1 := k2 b o hbx (hk1 b o e)
      exact k4 b o (lx e1) (k3 b o hbx e1)
theorem init_go1K {rest : List Value} {kw : List (Str × Value)} {fI cc cda : Addr} {qual a : Str} {params : Arguments} {scope : Scope} {p0 p1 p2 p3 p4 n1 q1 q2 q3 q4 : Pos} {u1 : Value} {t0 : Addr} {R : Result → Shared → Prop} {pl : Sem Bool}
    (hev : ∀ L : Addr, eval (.Call (.Attribute (.Call (.Name "super" p0) [] [] p1) "__init__" p2) [.Name a n1] [] p3) (ksEnv qual scope L fI (.ref cda) cc) = (do
      let ov ← attributeBase (.Call (.Name "super" p0) [] [] p1) "__init__" (ksEnv qual scope L fI (.ref cda) cc) (eval (.Call (.Name "super" p0) [] [] p1) (ksEnv qual scope L fI (.ref cda) cc))
      standAt p2.atName
      let (f, first) ← holding [ov] (getMethod ov "__init__" pl)
      callWith p3 f first (backTo p3 (starEach [.Name a n1] (ksEnv qual scope L fI (.ref cda) cc))) []))
    (sw1 : ∀ L : Addr, swapsWith (.Name a q3) (some (.Attribute (.Name "self" q1) a q2)) q4.line (ksEnv qual scope L fI (.ref cda) cc) = pure false)
    (T : OexC K C) (I : InitK prog K C fI cc cda qual params [.Expr (.Call (.Attribute (.Call (.Name "super" p0) [] [] p1) "__init__" p2) [.Name a n1] [] p3) p4, .Assign [.Attribute (.Name "self" q1) a q2] (.Name a q3) q4] scope)
    (M : Mod K mg base) (kb : ∀ b o, base.get? b = some o → hp.get? b = some o) (hms : mg "super" = none) (hroom : A.depth < recursionLimit) (hxb : ∀ o, base.get? x ≠ some o) (he : hp.get? x = some (HandSPX.excO C t0))
    (hpar : (params.posonlyargs ++ params.args).head?.map (·.arg) = some ("self" : Str)) (hself : scope.names.lookup ("self" : Str) = some .local) (ha : scope.names.lookup a = some .local)
    (hbind : ∀ (name : Str) (kV doc pm : Value) (an : Option Addr) (ct : Value), bindArgs (ksFn name qual params [.Expr (.Call (.Attribute (.Call (.Name "super" p0) [] [] p1) "__init__" p2) [.Name a n1] [] p3) p4, .Assign [.Attribute (.Name "self" q1) a q2] (.Name a q3) q4] scope .none kV doc pm an (.ref cda) ct cc) ⟨.ref x :: rest, kw⟩ = pure [(("self" : Str), .ref x), (a, u1)])
    (hsa : ("self" : Str) ≠ a) (da : (a == ("__debug__" : Str)) = false) (hna : findIn K (.ref C) a = some none)
    (h : ∀ h' tk' dx t1, (∀ b o, b ≠ x → hp.get? b = some o → h'.get? b = some o) → hp.objs.size ≤ dx → dx ≠ x → h'.get? x = some { cls := .ref C, dict := some dx, data := .fields #[.ref t1, .none, .none, .none, .bool false, .none] } → h'.Ns1 dx (fun y => if y = a then some u1 else none) → R (.ok (.ret .none)) ⟨h', g, d, tk', os⟩) :
    codeAny (model prog w) A (.call (.ref fI) ⟨.ref x :: rest, kw⟩) R ⟨hp, g, d, t, os⟩ := by
  obtain ⟨oc, od, kV, doc, pm, an, ct, osl, name, lk⟩ := I.fn
  obtain ⟨ccl, cdd, vs, ccs, file, tf, lcd, hvs, hfile⟩ := I.rec_
  obtain ⟨cl, cld, csl, lcc⟩ := I.cell
  obtain ⟨nm, q, N, bs, bm, sn, sub, ab, col, dd, k0, k1, k2, k3, k5, hC, hbm⟩ := T.cls
  have hcl : clsIn K C = some { name := nm, bases := bs, mro := .ref C :: bm, ns := N, qualname := q, hasDict := true, slotNames := sn, subclasses := sub, abstract := ab, collection := col, hasDel := false } := by unfold clsIn; rw [hC] <;> rfl
  obtain ⟨mb, hb1, hb2⟩ := M.blt
  have X : K.In hp := M.kin.keeps kb
  let env : Env := ksEnv qual scope hp.objs.size fI (.ref cda) cc
  have lxL : hp.objs.size ≠ x := Nat.ne_of_gt (Heap.lt_size he)
  have xC : x ≠ C := fun z => by
    have e1 := X _ _ hC
    rw [← z, he] at e1
    cases e1
  refine ks_codeAny_call_defAt (fd := ksFn name qual params _ scope .none kV doc pm an (.ref cda) ct cc) (body := _) (binds := [(("self" : Str), .ref x), (a, u1)]) hroom (X _ _ lk) rfl (M.nolimit.keeps kb) (codeRec_of X I.code) rfl (BindsTo.of_eq (hbind ..)) I.nocell (fun y hy => ?_) (fun h1 hns hk1 => ?_) I.co I.gen I.kind
  · rcases List.mem_cons.mp hy with rfl | hy
    · exact hself
    · rw [List.mem_singleton.mp hy]; exact ha
  have X1 : K.In h1 := X.keeps hk1
  have kb1 : ∀ b o, base.get? b = some o → h1.get? b = some o := fun b o e => hk1 b o (kb b o e)
  have c2 : (("self" : Str) == a) = false := beq_eq_false_iff_ne.mpr hsa
  have vS : ([(("self" : Str), Value.ref x), (a, u1)].reverse.lookup ("self" : Str)) = some (.ref x) := by
    show List.lookup ("self" : Str) [(a, u1), (("self" : Str), Value.ref x)] = _
    rw [List.lookup_cons, c2, List.lookup_cons, beq_self_eq_true]
  have vA : ([(("self" : Str), Value.ref x), (a, u1)].reverse.lookup a) = some u1 := by
    show List.lookup a [(a, u1), (("self" : Str), Value.ref x)] = _
    rw [List.lookup_cons, beq_self_eq_true]
  have nsk : ∀ {h2 : Heap}, (∀ b o, b ≠ x → h1.get? b = some o → h2.get? b = some o) → h2.Ns hp.objs.size (fun y => [(("self" : Str), Value.ref x), (a, u1)].reverse.lookup y) := fun {h2} k => by
    obtain ⟨oL, es, ep, hL, r⟩ := hns
    exact ⟨oL, es, ep, k _ _ lxL hL, r⟩
  obtain ⟨ar, har, harn⟩ : ∃ ar, (params.posonlyargs ++ params.args).head? = some ar ∧ ar.arg = ("self" : Str) := by
    cases z : (params.posonlyargs ++ params.args).head? with
    | none => rw [z] at hpar; cases hpar
    | some ar => rw [z] at hpar; exact ⟨ar, rfl, Option.some.inj hpar⟩
  have hl : ((({ name := nm, bases := bs, mro := .ref C :: bm, ns := N, qualname := q, hasDict := true, slotNames := sn, subclasses := sub, abstract := ab, collection := col, hasDel := false } : ClassData).mro.dropWhile (· != .ref C)).drop 1) = bm := by
    show (((Value.ref C :: bm).dropWhile (· != .ref C)).drop 1) = bm
    rw [List.dropWhile_cons, if_neg (by simp)]
    rfl
  have hal : alongIn K "__init__" bm = some (some (.builtin "ValueError.__init__")) := by
    have z := I.al
    unfold ks_superIn at z
    rw [hcl, Option.bind_some, hl] at z
    exact z
  refine ks_wpAt_execs_cons ?_
  have ldn : ∀ {h2 : Heap} {t2 : Nat} {E' : Value → Shared → Prop} {y : Str} {v : Value} {pz : Pos} {Q' : Value → Shared → Prop}, h2.Ns hp.objs.size (fun y => [(("self" : Str), Value.ref x), (a, u1)].reverse.lookup y) → scope.names.lookup y = some .local → [(("self" : Str), Value.ref x), (a, u1)].reverse.lookup y = some v → (y == ("__debug__" : Str)) = false → Q' v ⟨h2, g, d, t2, os⟩ →
      wpAny (model prog w) (A.deeper env) (eval (.Name y pz) env) Q' E' ⟨h2, g, d, t2, os⟩ := fun hn hk hv hd hq => wpAny_Name (wpAny_loadName_local I.kind hk hn hv hq) hd
  have hlen : ([u1] : List Value).length ≤ sizeLine := by rw [sizeLine_eq]; show 1 ≤ 16777216; decide
  have hia : interactive env = false := by
    unfold interactive
    simp [env, I.kind]
  refine super_init (K := K) (C := C) (D := C) (env := env) (f := fI) (cda := cda) (us := [u1]) kxs_ValueError F.excBase_ValueError X1 I.ks I.kc rfl (hk1 _ _ (X _ _ lk)) rfl har rfl (X1 _ _ lcd) rfl hvs hfile I.top ?_ ?_ ?_ ⟨_, X1 _ _ hC, rfl⟩ I.sub I.opq hcl hl hal I.sv (X1 _ _ hC) (hk1 _ _ he) xC ?_ hlen rfl rfl (hev _) hia ?_
  · exact fun Q' q => ks_loadName_global I.kind I.ks (Calls.loadGlobal_builtin (M.glob.keeps kb1) hms (hb1.keeps kb1) ((hb2 "super" (by decide)).trans (by decide +kernel)) q)
  · exact fun Q' q => wpAny_loadName_free I.kind I.kc rfl ⟨_, X1 _ _ lcc, rfl⟩ q
  · intro Q' q
    rw [harn]
    exact wpAny_loadName_local I.kind hself hns vS q
  · intro h2 t1 Q' k q
    have hn2 : h2.Ns hp.objs.size (fun y => [(("self" : Str), Value.ref x), (a, u1)].reverse.lookup y) := hns.keeps k
    exact Calls.spliced_cons (ldn hn2 ha vA da (Calls.spliced_nil q))
  · intro h2 t1 t2 k2 e2
    have xb : base.get? x = none := by
      cases z : base.get? x with
      | none => rfl
      | some o =>
        exfalso
        exact hxb o z
    have kb2 : ∀ b o, base.get? b = some o → h2.get? b = some o := fun b o e => k2 b o (fun z => by rw [z, xb] at e; cases e) (kb1 b o e)
    have X2 : K.In h2 := M.kin.keeps kb2
    have hn2 := nsk k2
    show _root_.PySem.wpAt _ _ _ (execs _ env) _ _ _
    refine ks_wpAt_execs_cons (ks_wpAt_Assign_Attr (wpAt_of_wpAny (ldn hn2 ha vA da (ldn hn2 hself vS (by decide) (set_first T X2 e2 hna fun h3 tk3 dx k3 dn dne hx3 hn3 => ?_)))) (sw1 _))
    show _root_.PySem.wpAt _ _ _ (execs _ env) _ _ _
    have ln2 : hp.objs.size < h2.objs.size := hn2.lt
    have lx : ∀ {b : Addr} {o : Obj}, h2.get? b = some o → b ≠ dx := fun {b o} e => Nat.ne_of_lt (Nat.lt_of_lt_of_le (Heap.lt_size e) dn)
    refine wpAt_of_wpAny (wpAny_pure (h h3 tk3 dx t1 (fun b o hbx e => ?_) (Nat.le_of_lt (Nat.lt_of_lt_of_le ln2 dn)) dne hx3 hn3))
    exact k3 b o hbx (k2 b o hbx (hk1 b o e))
end
section
variable {prog : Program} {w : World} {A : Around} {E : Value → Shared → Prop} {hp : Heap} {g : Array GenState} {d : Drawn} {t : Nat} {os : OsState} {K : Frag} {mg : Str → Option Value} {base : Heap} {C x : Addr} {B Bn newId inN i : String} {bmN tl : List Value}
theorem initOK {rest : List Value} {kw : List (Str × Value)} (O : OwnB B Bn newId inN i bmN tl) {fI cc cda : Addr} {qual a : Str} {params : Arguments} {scope : Scope} {p0 p1 p2 p3 p4 n1 q1 q2 q3 q4 : Pos} {u1 : Value} {t0 : Addr} {R : Result → Shared → Prop} {pl : Sem Bool}
    (hev : ∀ L : Addr, eval (.Call (.Attribute (.Call (.Name "super" p0) [] [] p1) "__init__" p2) [.Name a n1] [] p3) (ksEnv qual scope L fI (.ref cda) cc) = (do
      let ov ← attributeBase (.Call (.Name "super" p0) [] [] p1) "__init__" (ksEnv qual scope L fI (.ref cda) cc) (eval (.Call (.Name "super" p0) [] [] p1) (ksEnv qual scope L fI (.ref cda) cc))
      standAt p2.atName
      let (f, first) ← holding [ov] (getMethod ov "__init__" pl)
      callWith p3 f first (backTo p3 (starEach [.Name a n1] (ksEnv qual scope L fI (.ref cda) cc))) []))
    (sw1 : ∀ L : Addr, swapsWith (.Name a q3) (some (.Attribute (.Name "self" q1) a q2)) q4.line (ksEnv qual scope L fI (.ref cda) cc) = pure false)
    (T : OexO K C newId tl) (I : InitO B i prog K C fI cc cda qual params [.Expr (.Call (.Attribute (.Call (.Name "super" p0) [] [] p1) "__init__" p2) [.Name a n1] [] p3) p4, .Assign [.Attribute (.Name "self" q1) a q2] (.Name a q3) q4] scope)
    (M : Mod K mg base) (kb : ∀ b o, base.get? b = some o → hp.get? b = some o) (hms : mg "super" = none) (hroom : A.depth < recursionLimit) (hxb : ∀ o, base.get? x ≠ some o) (he : hp.get? x = some (HandSPX.excO C t0))
    (hpar : (params.posonlyargs ++ params.args).head?.map (·.arg) = some ("self" : Str)) (hself : scope.names.lookup ("self" : Str) = some .local) (ha : scope.names.lookup a = some .local)
    (hbind : ∀ (name : Str) (kV doc pm : Value) (an : Option Addr) (ct : Value), bindArgs (ksFn name qual params [.Expr (.Call (.Attribute (.Call (.Name "super" p0) [] [] p1) "__init__" p2) [.Name a n1] [] p3) p4, .Assign [.Attribute (.Name "self" q1) a q2] (.Name a q3) q4] scope .none kV doc pm an (.ref cda) ct cc) ⟨.ref x :: rest, kw⟩ = pure [(("self" : Str), .ref x), (a, u1)])
    (hsa : ("self" : Str) ≠ a) (da : (a == ("__debug__" : Str)) = false) (hna : findIn K (.ref C) a = some none)
    (h : ∀ h' tk' dx t1, (∀ b o, b ≠ x → hp.get? b = some o → h'.get? b = some o) → hp.objs.size ≤ dx → dx ≠ x → h'.get? x = some { cls := .ref C, dict := some dx, data := .fields #[.ref t1, .none, .none, .none, .bool false, .none] } → h'.Ns1 dx (fun y => if y = a then some u1 else none) → R (.ok (.ret .none)) ⟨h', g, d, tk', os⟩) :
    codeAny (model prog w) A (.call (.ref fI) ⟨.ref x :: rest, kw⟩) R ⟨hp, g, d, t, os⟩ := by
  obtain ⟨oc, od, kV, doc, pm, an, ct, osl, name, lk⟩ := I.fn
  obtain ⟨ccl, cdd, vs, ccs, file, tf, lcd, hvs, hfile⟩ := I.rec_
  obtain ⟨cl, cld, csl, lcc⟩ := I.cell
  obtain ⟨nm, q, N, bs, sn, sub, ab, col, dd, k0, k1, k2, k3, k5, hC⟩ := T.cls
  have hcl : clsIn K C = some { name := nm, bases := bs, mro := .ref C :: tl, ns := N, qualname := q, hasDict := true, slotNames := sn, subclasses := sub, abstract := ab, collection := col, hasDel := false } := by unfold clsIn; rw [hC] <;> rfl
  obtain ⟨mb, hb1, hb2⟩ := M.blt
  have X : K.In hp := M.kin.keeps kb
  let env : Env := ksEnv qual scope hp.objs.size fI (.ref cda) cc
  have lxL : hp.objs.size ≠ x := Nat.ne_of_gt (Heap.lt_size he)
  have xC : x ≠ C := fun z => by
    have e1 := X _ _ hC
    rw [← z, he] at e1
    cases e1
  refine ks_codeAny_call_defAt (fd := ksFn name qual params _ scope .none kV doc pm an (.ref cda) ct cc) (body := _) (binds := [(("self" : Str), .ref x), (a, u1)]) hroom (X _ _ lk) rfl (M.nolimit.keeps kb) (codeRec_of X I.code) rfl (BindsTo.of_eq (hbind ..)) I.nocell (fun y hy => ?_) (fun h1 hns hk1 => ?_) I.co I.gen I.kind
  · rcases List.mem_cons.mp hy with rfl | hy
    · exact hself
    · rw [List.mem_singleton.mp hy]; exact ha
  have X1 : K.In h1 := X.keeps hk1
  have kb1 : ∀ b o, base.get? b = some o → h1.get? b = some o := fun b o e => hk1 b o (kb b o e)
  have c2 : (("self" : Str) == a) = false := beq_eq_false_iff_ne.mpr hsa
  have vS : ([(("self" : Str), Value.ref x), (a, u1)].reverse.lookup ("self" : Str)) = some (.ref x) := by
    show List.lookup ("self" : Str) [(a, u1), (("self" : Str), Value.ref x)] = _
    rw [List.lookup_cons, c2, List.lookup_cons, beq_self_eq_true]
  have vA : ([(("self" : Str), Value.ref x), (a, u1)].reverse.lookup a) = some u1 := by
    show List.lookup a [(a, u1), (("self" : Str), Value.ref x)] = _
    rw [List.lookup_cons, beq_self_eq_true]
  have nsk : ∀ {h2 : Heap}, (∀ b o, b ≠ x → h1.get? b = some o → h2.get? b = some o) → h2.Ns hp.objs.size (fun y => [(("self" : Str), Value.ref x), (a, u1)].reverse.lookup y) := fun {h2} k => by
    obtain ⟨oL, es, ep, hL, r⟩ := hns
    exact ⟨oL, es, ep, k _ _ lxL hL, r⟩
  obtain ⟨ar, har, harn⟩ : ∃ ar, (params.posonlyargs ++ params.args).head? = some ar ∧ ar.arg = ("self" : Str) := by
    cases z : (params.posonlyargs ++ params.args).head? with
    | none => rw [z] at hpar; cases hpar
    | some ar => rw [z] at hpar; exact ⟨ar, rfl, Option.some.inj hpar⟩
  have hl : ((({ name := nm, bases := bs, mro := .ref C :: tl, ns := N, qualname := q, hasDict := true, slotNames := sn, subclasses := sub, abstract := ab, collection := col, hasDel := false } : ClassData).mro.dropWhile (· != .ref C)).drop 1) = tl := by
    show (((Value.ref C :: tl).dropWhile (· != .ref C)).drop 1) = tl
    rw [List.dropWhile_cons, if_neg (by simp)]
    rfl
  have hal : alongIn K "__init__" tl = some (some (.builtin i)) := by
    have z := I.al
    unfold ks_superIn at z
    rw [hcl, Option.bind_some, hl] at z
    exact z
  refine ks_wpAt_execs_cons ?_
  have ldn : ∀ {h2 : Heap} {t2 : Nat} {E' : Value → Shared → Prop} {y : Str} {v : Value} {pz : Pos} {Q' : Value → Shared → Prop}, h2.Ns hp.objs.size (fun y => [(("self" : Str), Value.ref x), (a, u1)].reverse.lookup y) → scope.names.lookup y = some .local → [(("self" : Str), Value.ref x), (a, u1)].reverse.lookup y = some v → (y == ("__debug__" : Str)) = false → Q' v ⟨h2, g, d, t2, os⟩ →
      wpAny (model prog w) (A.deeper env) (eval (.Name y pz) env) Q' E' ⟨h2, g, d, t2, os⟩ := fun hn hk hv hd hq => wpAny_Name (wpAny_loadName_local I.kind hk hn hv hq) hd
  have hlen : ([u1] : List Value).length ≤ sizeLine := by rw [sizeLine_eq]; show 1 ≤ 16777216; decide
  have hia : interactive env = false := by
    unfold interactive
    simp [env, I.kind]
  refine superO O (K := K) (C := C) (D := C) (env := env) (f := fI) (cda := cda) (us := [u1]) X1 I.ks I.kc rfl (hk1 _ _ (X _ _ lk)) rfl har rfl (X1 _ _ lcd) rfl hvs hfile I.top ?_ ?_ ?_ ⟨_, X1 _ _ hC, rfl⟩ I.sub I.opq hcl hl hal I.sv (X1 _ _ hC) (hk1 _ _ he) xC ?_ hlen rfl rfl (hev _) hia ?_
  · exact fun Q' q => ks_loadName_global I.kind I.ks (Calls.loadGlobal_builtin (M.glob.keeps kb1) hms (hb1.keeps kb1) ((hb2 "super" (by decide)).trans (by decide +kernel)) q)
  · exact fun Q' q => wpAny_loadName_free I.kind I.kc rfl ⟨_, X1 _ _ lcc, rfl⟩ q
  · intro Q' q
    rw [harn]
    exact wpAny_loadName_local I.kind hself hns vS q
  · intro h2 t1 Q' k q
    have hn2 : h2.Ns hp.objs.size (fun y => [(("self" : Str), Value.ref x), (a, u1)].reverse.lookup y) := hns.keeps k
    exact Calls.spliced_cons (ldn hn2 ha vA da (Calls.spliced_nil q))
  · intro h2 t1 t2 k2 e2
    have xb : base.get? x = none := by
      cases z : base.get? x with
      | none => rfl
      | some o =>
        exfalso
        exact hxb o z
    have kb2 : ∀ b o, base.get? b = some o → h2.get? b = some o := fun b o e => k2 b o (fun z => by rw [z, xb] at e; cases e) (kb1 b o e)
    have X2 : K.In h2 := M.kin.keeps kb2
    have hn2 := nsk k2
    show _root_.PySem.wpAt _ _ _ (execs _ env) _ _ _
    refine ks_wpAt_execs_cons (ks_wpAt_Assign_Attr (wpAt_of_wpAny (ldn hn2 ha vA da (ldn hn2 hself vS (by decide) (setO O T X2 e2 hna fun h3 tk3 dx k3 dn dne hx3 hn3 => ?_)))) (sw1 _))
    show _root_.PySem.wpAt _ _ _ (execs _ env) _ _ _
    have ln2 : hp.objs.size < h2.objs.size := hn2.lt
    have lx : ∀ {b : Addr} {o : Obj}, h2.get? b = some o → b ≠ dx := fun {b o} e => Nat.ne_of_lt (Nat.lt_of_lt_of_le (Heap.lt_size e) dn)
    refine wpAt_of_wpAny (wpAny_pure (h h3 tk3 dx t1 (fun b o hbx e => ?_) (Nat.le_of_lt (Nat.lt_of_lt_of_le ln2 dn)) dne hx3 hn3))
    exact k3 b o hbx (k2 b o hbx (hk1 b o e))
end
end EXI
namespace L2
open PySem PySem.Spec PyProof.Rows EXI
section
variable {X : Cx} {p pos : Pos}
theorem mkv_x1 {rest : List Value} {kw : List (Str × Value)} {pins : List (Addr × Obj)} {σ : St} {H1 : Hp} {Q : XK} {y1 : V} {u1 : Value} {a qual : Str} {C fI cc cda : Addr} {k : Nat} {params : Arguments} {scope : Scope} {p0 p1 p2 p3 p4 n1 q1 q2 q3 q4 : Pos} {pl : Sem Bool}
    (hev : ∀ L : Addr, eval (.Call (.Attribute (.Call (.Name "super" p0) [] [] p1) "__init__" p2) [.Name a n1] [] p3) (PySem.W.ksEnv qual scope L fI (.ref cda) cc) = (do
      let ov ← attributeBase (.Call (.Name "super" p0) [] [] p1) "__init__" (PySem.W.ksEnv qual scope L fI (.ref cda) cc) (eval (.Call (.Name "super" p0) [] [] p1) (PySem.W.ksEnv qual scope L fI (.ref cda) cc))
      standAt p2.atName
      let (f, first) ← holding [ov] (getMethod ov "__init__" pl)
      callWith p3 f first (backTo p3 (starEach [.Name a n1] (PySem.W.ksEnv qual scope L fI (.ref cda) cc))) []))
    (sw1 : ∀ L : Addr, swapsWith (.Name a q3) (some (.Attribute (.Name "self" q1) a q2)) q4.line (PySem.W.ksEnv qual scope L fI (.ref cda) cc) = pure false)
    (T : OexC X.K C) (I : InitK X.prog X.K C fI cc cda qual params [.Expr (.Call (.Attribute (.Call (.Name "super" p0) [] [] p1) "__init__" p2) [.Name a n1] [] p3) p4, .Assign [.Attribute (.Name "self" q1) a q2] (.Name a q3) q4] scope)
    (iC : PySem.W.findIn X.K (.ref C) "__init__" = some (some (.ref fI))) (tI : PySem.W.typeIn X.K (.ref fI) = some (.type "function")) (hms : X.mg "super" = none) (hr : Room (k + 1) X.A) 
    (hpar : (params.posonlyargs ++ params.args).head?.map (·.arg) = some ("self" : Str)) (hself : scope.names.lookup ("self" : Str) = some .local) (hla : scope.names.lookup a = some .local)
    (hbind : ∀ (w : Value) (name : Str) (kV doc pm : Value) (an : Option Addr) (ct : Value), bindArgs (PySem.W.ksFn name qual params [.Expr (.Call (.Attribute (.Call (.Name "super" p0) [] [] p1) "__init__" p2) [.Name a n1] [] p3) p4, .Assign [.Attribute (.Name "self" q1) a q2] (.Name a q3) q4] scope .none kV doc pm an (.ref cda) ct cc) ⟨w :: rest, kw⟩ = pure [(("self" : Str), w), (a, u1)])
    (hsa : ("self" : Str) ≠ a) (da : (a == ("__debug__" : Str)) = false) (hna : PySem.W.findIn X.K (.ref C) a = some none)
    (II : X.Ok) (ra : RelV y1 u1) (hus : rest.length ≤ sizeLine) {s1 : Shared} (I1 : Inv X pins σ H1 s1) (q1 : ∀ d, H1 d = none → Q (.ref C) (some d) (upd H1 d (.xd [(a, y1)]))) :
    wpAny (model X.prog X.w) X.A (call (.ref C) rest kw) (MkP X pins σ Q) X.xe s1 := by
  obtain ⟨nm, q, N, bs, bm, sn, sub, ab, col, dd, k0, k1, k2, k3, k5, hC, hbm⟩ := T.cls
  obtain ⟨hp, g, dr, tk, os⟩ := s1
  have hsz : hp.objs.size ≤ hp.objs.size + 1 := Nat.le_succ _
  have hn : H1 (hp.objs.size + 1) = none := I1.hok.fresh hsz
  have kk : ∀ b o, hp.get? b = some o → ((hp.push (PySem.W.kdv_tup rest)).push (PySem.HandSPX.excO C hp.objs.size)).get? b = some o := fun b o e => Heap.get?_push_of_some _ (Heap.get?_push_of_some _ e)
  have hget : ((hp.push (PySem.W.kdv_tup rest)).push (PySem.HandSPX.excO C hp.objs.size)).get? (hp.objs.size + 1) = some (PySem.HandSPX.excO C hp.objs.size) := by heap_get
  have I2 : Inv X pins σ (upd H1 (hp.objs.size + 1) (exo (hp.objs.size + 1) C none)) ⟨(hp.push (PySem.W.kdv_tup rest)).push (PySem.HandSPX.excO C hp.objs.size), g, dr, tk, os⟩ :=
    I1.laid (t' := tk) (a := hp.objs.size + 1) (o := exo (hp.objs.size + 1) C none) (h' := (hp.push (PySem.W.kdv_tup rest)).push (PySem.HandSPX.excO C hp.objs.size)) kk hsz (exo_ok hget)
  have xb : ∀ o, X.base.get? (hp.objs.size + 1) ≠ some o := fun o e => absurd (Heap.lt_size (I1.bk _ _ e)) (by show ¬ hp.objs.size + 1 < hp.objs.size; omega)
  refine wpAny_call (callOK (ownB_VE hbm) (I1.kIn _ _ hC) (PySem.W.looks_findIn I1.kIn iC) (fun self => PySem.W.bind_fn I1.kIn self tI) hus ?_)
  refine init_go1K hev sw1 T I II.mod (fun b o e => kk b o (I1.bk b o e)) hms (hr.make C rest kw).depth xb hget hpar hself hla (hbind _) hsa da hna fun h2 tk2 dx t1 k2 dn dne hx2 hn2 => ?_
  have hda : dx ≠ hp.objs.size + 1 := dne
  have hnd : (upd H1 (hp.objs.size + 1) (exo (hp.objs.size + 1) C none)) dx = none := I2.hok.fresh dn
  have hd1 : H1 dx = none := by
    rw [upd_ne hda] at hnd
    exact hnd
  have e : (upd H1 (hp.objs.size + 1) (exo (hp.objs.size + 1) C none)) (hp.objs.size + 1) = some (exo (hp.objs.size + 1) C none) := upd_same
  have nd : ∀ {b : Addr} {o : Obj}, ((hp.push (PySem.W.kdv_tup rest)).push (PySem.HandSPX.excO C hp.objs.size)).get? b = some o → b ≠ dx := fun {b o} q => Nat.ne_of_lt (Nat.lt_of_lt_of_le (Heap.lt_size q) dn)
  have na : ∀ {b : Addr}, (upd H1 (hp.objs.size + 1) (exo (hp.objs.size + 1) C none)) b = none → b ≠ hp.objs.size + 1 := fun {b} n z => by
    rw [z, e] at n
    cases n
  have Un1 : Un (frs X.stack) [] (upd H1 (hp.objs.size + 1) (exo (hp.objs.size + 1) C none)) (upd (upd (upd H1 (hp.objs.size + 1) (exo (hp.objs.size + 1) C none)) dx (exd dx [(a, y1)])) (hp.objs.size + 1) (exo (hp.objs.size + 1) C (some dx))) ((hp.push (PySem.W.kdv_tup rest)).push (PySem.HandSPX.excO C hp.objs.size)) h2 := {
    keep := fun b o q n _ _ => k2 b o (na n) q
    slot := fun b o q n _ _ => ⟨o.slots, k2 b o (na n) q⟩
    free := fun b o q n _ => by rw [upd_ne (na n), upd_ne (nd q)]; exact n
    there := fun b o q _ => by
      by_cases hb : b = hp.objs.size + 1
      · exact ⟨_, by rw [hb]; exact hx2⟩
      · exact ⟨o, k2 b o hb q⟩
    tups := fun b xs q => by rw [upd_ne (at_ne e q exo_tup), upd_ne (ne_of_none q hnd)]; exact q
    frzs := fun b o v q => by rw [upd_ne (at_ne e q exo_frz), upd_ne (ne_of_none q hnd)]; exact q
    tbls := fun b ps q => ⟨#[], by rw [upd_ne (at_ne e q exo_tbl), upd_ne (ne_of_none q hnd), q]; simp⟩ }
  have hok2 : HOk X.prog X.w (upd (upd (upd H1 (hp.objs.size + 1) (exo (hp.objs.size + 1) C none)) dx (exd dx [(a, y1)])) (hp.objs.size + 1) (exo (hp.objs.size + 1) C (some dx))) h2 := fun b' o q => by
    by_cases hb : b' = hp.objs.size + 1
    · subst hb
      rw [upd_same] at q
      cases q
      exact exo_ok hx2
    · rw [upd_ne hb] at q
      by_cases hd : b' = dx
      · subst hd
        rw [upd_same] at q
        cases q
        exact exd_ok hn2 (relO_put (fs := []) ra fun g => True.intro)
      · rw [upd_ne hd] at q
        exact (I2.hok b' o q).stay (fun c v hc z => k2 c v (by
            rcases hc with hc | hc
            · rw [hc]
              exact hb
            · exact at_ne e hc exo_own) z)
          (fun c hc => by rw [upd_ne (at_ne e hc exo_own), upd_ne (ne_of_none hc hnd)]; exact hc) (fun c xs hc => by rw [upd_ne (at_ne e hc exo_tup), upd_ne (ne_of_none hc hnd)]; exact hc)
  have fin : upd (del (upd (upd (upd H1 (hp.objs.size + 1) (exo (hp.objs.size + 1) C none)) dx (exd dx [(a, y1)])) (hp.objs.size + 1) (exo (hp.objs.size + 1) C (some dx))) (hp.objs.size + 1)) dx (.xd [(a, y1)]) = upd H1 dx (.xd [(a, y1)]) := by
    funext c
    by_cases z : c = dx
    · rw [z, upd_same, upd_same]
    · rw [upd_ne z, upd_ne z]
      by_cases z2 : c = hp.objs.size + 1
      · rw [z2, del_same, hn]
      · rw [del_ne z2, upd_ne z2, upd_ne z, upd_ne z2]
  refine ⟨rfl, mk_end (fs := [(a, y1)]) (raises_own T.exC T.tyC) I1 hsz kk Un1 hok2 rfl I1.bare upd_same ?_ hd1 ?_⟩
  · rw [upd_ne hda, upd_same]
  · rw [fin]
    exact q1 dx hd1
theorem mkv_x2 {rest : List Value} {kw : List (Str × Value)} {pins : List (Addr × Obj)} {σ : St} {H1 : Hp} {Q : XK} {y1 y2 : V} {u1 u2 : Value} {a b qual : Str} {C fI cc cda : Addr} {k : Nat} {params : Arguments} {scope : Scope} {p0 p1 p2 p3 p4 n1 n2 q1 q2 q3 q4 r1 r2 r3 r4 : Pos} {pl : Sem Bool}
    (hev : ∀ L : Addr, eval (.Call (.Attribute (.Call (.Name "super" p0) [] [] p1) "__init__" p2) [.Name a n1, .Name b n2] [] p3) (PySem.W.ksEnv qual scope L fI (.ref cda) cc) = (do
      let ov ← attributeBase (.Call (.Name "super" p0) [] [] p1) "__init__" (PySem.W.ksEnv qual scope L fI (.ref cda) cc) (eval (.Call (.Name "super" p0) [] [] p1) (PySem.W.ksEnv qual scope L fI (.ref cda) cc))
      standAt p2.atName
      let (f, first) ← holding [ov] (getMethod ov "__init__" pl)
      callWith p3 f first (backTo p3 (starEach [.Name a n1, .Name b n2] (PySem.W.ksEnv qual scope L fI (.ref cda) cc))) []))
    (sw1 : ∀ L : Addr, swapsWith (.Name a q3) (some (.Attribute (.Name "self" q1) a q2)) q4.line (PySem.W.ksEnv qual scope L fI (.ref cda) cc) = pure false) (sw2 : ∀ L : Addr, swapsWith (.Name b r3) (some (.Attribute (.Name "self" r1) b r2)) r4.line (PySem.W.ksEnv qual scope L fI (.ref cda) cc) = pure false)
    (T : OexC X.K C) (I : InitK X.prog X.K C fI cc cda qual params [.Expr (.Call (.Attribute (.Call (.Name "super" p0) [] [] p1) "__init__" p2) [.Name a n1, .Name b n2] [] p3) p4, .Assign [.Attribute (.Name "self" q1) a q2] (.Name a q3) q4, .Assign [.Attribute (.Name "self" r1) b r2] (.Name b r3) r4] scope)
    (iC : PySem.W.findIn X.K (.ref C) "__init__" = some (some (.ref fI))) (tI : PySem.W.typeIn X.K (.ref fI) = some (.type "function")) (hms : X.mg "super" = none) (hr : Room (k + 1) X.A) 
    (hpar : (params.posonlyargs ++ params.args).head?.map (·.arg) = some ("self" : Str)) (hself : scope.names.lookup ("self" : Str) = some .local) (hla : scope.names.lookup a = some .local) (hlb : scope.names.lookup b = some .local)
    (hbind : ∀ (w : Value) (name : Str) (kV doc pm : Value) (an : Option Addr) (ct : Value), bindArgs (PySem.W.ksFn name qual params [.Expr (.Call (.Attribute (.Call (.Name "super" p0) [] [] p1) "__init__" p2) [.Name a n1, .Name b n2] [] p3) p4, .Assign [.Attribute (.Name "self" q1) a q2] (.Name a q3) q4, .Assign [.Attribute (.Name "self" r1) b r2] (.Name b r3) r4] scope .none kV doc pm an (.ref cda) ct cc) ⟨w :: rest, kw⟩ = pure [(("self" : Str), w), (a, u1), (b, u2)])
    (hsa : ("self" : Str) ≠ a) (hsb : ("self" : Str) ≠ b) (hab : a ≠ b) (da : (a == ("__debug__" : Str)) = false) (db : (b == ("__debug__" : Str)) = false) (hna : PySem.W.findIn X.K (.ref C) a = some none) (hnb : PySem.W.findIn X.K (.ref C) b = some none)
    (II : X.Ok) (ra : RelV y1 u1) (rb : RelV y2 u2) (hus : rest.length ≤ sizeLine) {s1 : Shared} (I1 : Inv X pins σ H1 s1) (q1 : ∀ d, H1 d = none → Q (.ref C) (some d) (upd H1 d (.xd [(b, y2), (a, y1)]))) :
    wpAny (model X.prog X.w) X.A (call (.ref C) rest kw) (MkP X pins σ Q) X.xe s1 := by
  obtain ⟨nm, q, N, bs, bm, sn, sub, ab, col, dd, k0, k1, k2, k3, k5, hC, hbm⟩ := T.cls
  obtain ⟨hp, g, dr, tk, os⟩ := s1
  have hsz : hp.objs.size ≤ hp.objs.size + 1 := Nat.le_succ _
  have hn : H1 (hp.objs.size + 1) = none := I1.hok.fresh hsz
  have kk : ∀ b o, hp.get? b = some o → ((hp.push (PySem.W.kdv_tup rest)).push (PySem.HandSPX.excO C hp.objs.size)).get? b = some o := fun b o e => Heap.get?_push_of_some _ (Heap.get?_push_of_some _ e)
  have hget : ((hp.push (PySem.W.kdv_tup rest)).push (PySem.HandSPX.excO C hp.objs.size)).get? (hp.objs.size + 1) = some (PySem.HandSPX.excO C hp.objs.size) := by heap_get
  have I2 : Inv X pins σ (upd H1 (hp.objs.size + 1) (exo (hp.objs.size + 1) C none)) ⟨(hp.push (PySem.W.kdv_tup rest)).push (PySem.HandSPX.excO C hp.objs.size), g, dr, tk, os⟩ :=
    I1.laid (t' := tk) (a := hp.objs.size + 1) (o := exo (hp.objs.size + 1) C none) (h' := (hp.push (PySem.W.kdv_tup rest)).push (PySem.HandSPX.excO C hp.objs.size)) kk hsz (exo_ok hget)
  have xb : ∀ o, X.base.get? (hp.objs.size + 1) ≠ some o := fun o e => absurd (Heap.lt_size (I1.bk _ _ e)) (by show ¬ hp.objs.size + 1 < hp.objs.size; omega)
  refine wpAny_call (callOK (ownB_VE hbm) (I1.kIn _ _ hC) (PySem.W.looks_findIn I1.kIn iC) (fun self => PySem.W.bind_fn I1.kIn self tI) hus ?_)
  refine init_go2K hev sw1 sw2 T I II.mod (fun b o e => kk b o (I1.bk b o e)) hms (hr.make C rest kw).depth xb hget hpar hself hla hlb (hbind _) hsa hsb hab da db hna hnb fun h2 tk2 dx t1 k2 dn dne hx2 hn2 => ?_
  have hda : dx ≠ hp.objs.size + 1 := dne
  have hnd : (upd H1 (hp.objs.size + 1) (exo (hp.objs.size + 1) C none)) dx = none := I2.hok.fresh dn
  have hd1 : H1 dx = none := by
    rw [upd_ne hda] at hnd
    exact hnd
  have e : (upd H1 (hp.objs.size + 1) (exo (hp.objs.size + 1) C none)) (hp.objs.size + 1) = some (exo (hp.objs.size + 1) C none) := upd_same
  have nd : ∀ {b : Addr} {o : Obj}, ((hp.push (PySem.W.kdv_tup rest)).push (PySem.HandSPX.excO C hp.objs.size)).get? b = some o → b ≠ dx := fun {b o} q => Nat.ne_of_lt (Nat.lt_of_lt_of_le (Heap.lt_size q) dn)
  have na : ∀ {b : Addr}, (upd H1 (hp.objs.size + 1) (exo (hp.objs.size + 1) C none)) b = none → b ≠ hp.objs.size + 1 := fun {b} n z => by
    rw [z, e] at n
    cases n
  have Un1 : Un (frs X.stack) [] (upd H1 (hp.objs.size + 1) (exo (hp.objs.size + 1) C none)) (upd (upd (upd H1 (hp.objs.size + 1) (exo (hp.objs.size + 1) C none)) dx (exd dx [(b, y2), (a, y1)])) (hp.objs.size + 1) (exo (hp.objs.size + 1) C (some dx))) ((hp.push (PySem.W.kdv_tup rest)).push (PySem.HandSPX.excO C hp.objs.size)) h2 := {
    keep := fun b o q n _ _ => k2 b o (na n) q
    slot := fun b o q n _ _ => ⟨o.slots, k2 b o (na n) q⟩
    free := fun b o q n _ => by rw [upd_ne (na n), upd_ne (nd q)]; exact n
    there := fun b o q _ => by
      by_cases hb : b = hp.objs.size + 1
      · exact ⟨_, by rw [hb]; exact hx2⟩
      · exact ⟨o, k2 b o hb q⟩
    tups := fun b xs q => by rw [upd_ne (at_ne e q exo_tup), upd_ne (ne_of_none q hnd)]; exact q
    frzs := fun b o v q => by rw [upd_ne (at_ne e q exo_frz), upd_ne (ne_of_none q hnd)]; exact q
    tbls := fun b ps q => ⟨#[], by rw [upd_ne (at_ne e q exo_tbl), upd_ne (ne_of_none q hnd), q]; simp⟩ }
  have hok2 : HOk X.prog X.w (upd (upd (upd H1 (hp.objs.size + 1) (exo (hp.objs.size + 1) C none)) dx (exd dx [(b, y2), (a, y1)])) (hp.objs.size + 1) (exo (hp.objs.size + 1) C (some dx))) h2 := fun b' o q => by
    by_cases hb : b' = hp.objs.size + 1
    · subst hb
      rw [upd_same] at q
      cases q
      exact exo_ok hx2
    · rw [upd_ne hb] at q
      by_cases hd : b' = dx
      · subst hd
        rw [upd_same] at q
        cases q
        exact exd_ok hn2 (relO_put rb (relO_put (fs := []) ra fun g => True.intro))
      · rw [upd_ne hd] at q
        exact (I2.hok b' o q).stay (fun c v hc z => k2 c v (by
            rcases hc with hc | hc
            · rw [hc]
              exact hb
            · exact at_ne e hc exo_own) z)
          (fun c hc => by rw [upd_ne (at_ne e hc exo_own), upd_ne (ne_of_none hc hnd)]; exact hc) (fun c xs hc => by rw [upd_ne (at_ne e hc exo_tup), upd_ne (ne_of_none hc hnd)]; exact hc)
  have fin : upd (del (upd (upd (upd H1 (hp.objs.size + 1) (exo (hp.objs.size + 1) C none)) dx (exd dx [(b, y2), (a, y1)])) (hp.objs.size + 1) (exo (hp.objs.size + 1) C (some dx))) (hp.objs.size + 1)) dx (.xd [(b, y2), (a, y1)]) = upd H1 dx (.xd [(b, y2), (a, y1)]) := by
    funext c
    by_cases z : c = dx
    · rw [z, upd_same, upd_same]
    · rw [upd_ne z, upd_ne z]
      by_cases z2 : c = hp.objs.size + 1
      · rw [z2, del_same, hn]
      · rw [del_ne z2, upd_ne z2, upd_ne z, upd_ne z2]
  refine ⟨rfl, mk_end (fs := [(b, y2), (a, y1)]) (raises_own T.exC T.tyC) I1 hsz kk Un1 hok2 rfl I1.bare upd_same ?_ hd1 ?_⟩
  · rw [upd_ne hda, upd_same]
  · rw [fin]
    exact q1 dx hd1
theorem mkv_o1 {rest : List Value} {kw : List (Str × Value)} {pins : List (Addr × Obj)} {σ : St} {H1 : Hp} {Q : XK} {B Bn newId inN i : String} {bmN tl : List Value} (O : OwnB B Bn newId inN i bmN tl) {y1 : V} {u1 : Value} {a qual : Str} {C fI cc cda : Addr} {k : Nat} {params : Arguments} {scope : Scope} {p0 p1 p2 p3 p4 n1 q1 q2 q3 q4 : Pos} {pl : Sem Bool}
    (hev : ∀ L : Addr, eval (.Call (.Attribute (.Call (.Name "super" p0) [] [] p1) "__init__" p2) [.Name a n1] [] p3) (PySem.W.ksEnv qual scope L fI (.ref cda) cc) = (do
      let ov ← attributeBase (.Call (.Name "super" p0) [] [] p1) "__init__" (PySem.W.ksEnv qual scope L fI (.ref cda) cc) (eval (.Call (.Name "super" p0) [] [] p1) (PySem.W.ksEnv qual scope L fI (.ref cda) cc))
      standAt p2.atName
      let (f, first) ← holding [ov] (getMethod ov "__init__" pl)
      callWith p3 f first (backTo p3 (starEach [.Name a n1] (PySem.W.ksEnv qual scope L fI (.ref cda) cc))) []))
    (sw1 : ∀ L : Addr, swapsWith (.Name a q3) (some (.Attribute (.Name "self" q1) a q2)) q4.line (PySem.W.ksEnv qual scope L fI (.ref cda) cc) = pure false)
    (T : OexO X.K C newId tl) (I : InitO B i X.prog X.K C fI cc cda qual params [.Expr (.Call (.Attribute (.Call (.Name "super" p0) [] [] p1) "__init__" p2) [.Name a n1] [] p3) p4, .Assign [.Attribute (.Name "self" q1) a q2] (.Name a q3) q4] scope)
    (iC : PySem.W.findIn X.K (.ref C) "__init__" = some (some (.ref fI))) (tI : PySem.W.typeIn X.K (.ref fI) = some (.type "function")) (hms : X.mg "super" = none) (hr : Room (k + 1) X.A) 
    (hpar : (params.posonlyargs ++ params.args).head?.map (·.arg) = some ("self" : Str)) (hself : scope.names.lookup ("self" : Str) = some .local) (hla : scope.names.lookup a = some .local)
    (hbind : ∀ (w : Value) (name : Str) (kV doc pm : Value) (an : Option Addr) (ct : Value), bindArgs (PySem.W.ksFn name qual params [.Expr (.Call (.Attribute (.Call (.Name "super" p0) [] [] p1) "__init__" p2) [.Name a n1] [] p3) p4, .Assign [.Attribute (.Name "self" q1) a q2] (.Name a q3) q4] scope .none kV doc pm an (.ref cda) ct cc) ⟨w :: rest, kw⟩ = pure [(("self" : Str), w), (a, u1)])
    (hsa : ("self" : Str) ≠ a) (da : (a == ("__debug__" : Str)) = false) (hna : PySem.W.findIn X.K (.ref C) a = some none)
    (II : X.Ok) (ra : RelV y1 u1) (hus : rest.length ≤ sizeLine) {s1 : Shared} (I1 : Inv X pins σ H1 s1) (q1 : ∀ d, H1 d = none → Q (.ref C) (some d) (upd H1 d (.xd [(a, y1)]))) :
    wpAny (model X.prog X.w) X.A (call (.ref C) rest kw) (MkP X pins σ Q) X.xe s1 := by
  obtain ⟨nm, q, N, bs, sn, sub, ab, col, dd, k0, k1, k2, k3, k5, hC⟩ := T.cls
  obtain ⟨hp, g, dr, tk, os⟩ := s1
  have hsz : hp.objs.size ≤ hp.objs.size + 1 := Nat.le_succ _
  have hn : H1 (hp.objs.size + 1) = none := I1.hok.fresh hsz
  have kk : ∀ b o, hp.get? b = some o → ((hp.push (PySem.W.kdv_tup rest)).push (PySem.HandSPX.excO C hp.objs.size)).get? b = some o := fun b o e => Heap.get?_push_of_some _ (Heap.get?_push_of_some _ e)
  have hget : ((hp.push (PySem.W.kdv_tup rest)).push (PySem.HandSPX.excO C hp.objs.size)).get? (hp.objs.size + 1) = some (PySem.HandSPX.excO C hp.objs.size) := by heap_get
  have I2 : Inv X pins σ (upd H1 (hp.objs.size + 1) (exo (hp.objs.size + 1) C none)) ⟨(hp.push (PySem.W.kdv_tup rest)).push (PySem.HandSPX.excO C hp.objs.size), g, dr, tk, os⟩ :=
    I1.laid (t' := tk) (a := hp.objs.size + 1) (o := exo (hp.objs.size + 1) C none) (h' := (hp.push (PySem.W.kdv_tup rest)).push (PySem.HandSPX.excO C hp.objs.size)) kk hsz (exo_ok hget)
  have xb : ∀ o, X.base.get? (hp.objs.size + 1) ≠ some o := fun o e => absurd (Heap.lt_size (I1.bk _ _ e)) (by show ¬ hp.objs.size + 1 < hp.objs.size; omega)
  refine wpAny_call (callOK O (I1.kIn _ _ hC) (PySem.W.looks_findIn I1.kIn iC) (fun self => PySem.W.bind_fn I1.kIn self tI) hus ?_)
  refine initOK O hev sw1 T I II.mod (fun b o e => kk b o (I1.bk b o e)) hms (hr.make C rest kw).depth xb hget hpar hself hla (hbind _) hsa da hna fun h2 tk2 dx t1 k2 dn dne hx2 hn2 => ?_
  have hda : dx ≠ hp.objs.size + 1 := dne
  have hnd : (upd H1 (hp.objs.size + 1) (exo (hp.objs.size + 1) C none)) dx = none := I2.hok.fresh dn
  have hd1 : H1 dx = none := by
    rw [upd_ne hda] at hnd
    exact hnd
  have e : (upd H1 (hp.objs.size + 1) (exo (hp.objs.size + 1) C none)) (hp.objs.size + 1) = some (exo (hp.objs.size + 1) C none) := upd_same
  have nd : ∀ {b : Addr} {o : Obj}, ((hp.push (PySem.W.kdv_tup rest)).push (PySem.HandSPX.excO C hp.objs.size)).get? b = some o → b ≠ dx := fun {b o} q => Nat.ne_of_lt (Nat.lt_of_lt_of_le (Heap.lt_size q) dn)
  have na : ∀ {b : Addr}, (upd H1 (hp.objs.size + 1) (exo (hp.objs.size + 1) C none)) b = none → b ≠ hp.objs.size + 1 := fun {b} n z => by
    rw [z, e] at n
    cases n
  have Un1 : Un (frs X.stack) [] (upd H1 (hp.objs.size + 1) (exo (hp.objs.size + 1) C none)) (upd (upd (upd H1 (hp.objs.size + 1) (exo (hp.objs.size + 1) C none)) dx (exd dx [(a, y1)])) (hp.objs.size + 1) (exo (hp.objs.size + 1) C (some dx))) ((hp.push (PySem.W.kdv_tup rest)).push (PySem.HandSPX.excO C hp.objs.size)) h2 := {
    keep := fun b o q n _ _ => k2 b o (na n) q
    slot := fun b o q n _ _ => ⟨o.slots, k2 b o (na n) q⟩
    free := fun b o q n _ => by rw [upd_ne (na n), upd_ne (nd q)]; exact n
    there := fun b o q _ => by
      by_cases hb : b = hp.objs.size + 1
      · exact ⟨_, by rw [hb]; exact hx2⟩
      · exact ⟨o, k2 b o hb q⟩
    tups := fun b xs q => by rw [upd_ne (at_ne e q exo_tup), upd_ne (ne_of_none q hnd)]; exact q
    frzs := fun b o v q => by rw [upd_ne (at_ne e q exo_frz), upd_ne (ne_of_none q hnd)]; exact q
    tbls := fun b ps q => ⟨#[], by rw [upd_ne (at_ne e q exo_tbl), upd_ne (ne_of_none q hnd), q]; simp⟩ }
  have hok2 : HOk X.prog X.w (upd (upd (upd H1 (hp.objs.size + 1) (exo (hp.objs.size + 1) C none)) dx (exd dx [(a, y1)])) (hp.objs.size + 1) (exo (hp.objs.size + 1) C (some dx))) h2 := fun b' o q => by
    by_cases hb : b' = hp.objs.size + 1
    · subst hb
      rw [upd_same] at q
      cases q
      exact exo_ok hx2
    · rw [upd_ne hb] at q
      by_cases hd : b' = dx
      · subst hd
        rw [upd_same] at q
        cases q
        exact exd_ok hn2 (relO_put (fs := []) ra fun g => True.intro)
      · rw [upd_ne hd] at q
        exact (I2.hok b' o q).stay (fun c v hc z => k2 c v (by
            rcases hc with hc | hc
            · rw [hc]
              exact hb
            · exact at_ne e hc exo_own) z)
          (fun c hc => by rw [upd_ne (at_ne e hc exo_own), upd_ne (ne_of_none hc hnd)]; exact hc) (fun c xs hc => by rw [upd_ne (at_ne e hc exo_tup), upd_ne (ne_of_none hc hnd)]; exact hc)
  have fin : upd (del (upd (upd (upd H1 (hp.objs.size + 1) (exo (hp.objs.size + 1) C none)) dx (exd dx [(a, y1)])) (hp.objs.size + 1) (exo (hp.objs.size + 1) C (some dx))) (hp.objs.size + 1)) dx (.xd [(a, y1)]) = upd H1 dx (.xd [(a, y1)]) := by
    funext c
    by_cases z : c = dx
    · rw [z, upd_same, upd_same]
    · rw [upd_ne z, upd_ne z]
      by_cases z2 : c = hp.objs.size + 1
      · rw [z2, del_same, hn]
      · rw [del_ne z2, upd_ne z2, upd_ne z, upd_ne z2]
  refine ⟨rfl, mk_end (fs := [(a, y1)]) (raises_own T.exC T.tyC) I1 hsz kk Un1 hok2 rfl I1.bare upd_same ?_ hd1 ?_⟩
  · rw [upd_ne hda, upd_same]
  · rw [fin]
    exact q1 dx hd1
end
end L2

set_option maxHeartbeats 2000000
/-! XVa: exceptions as values: made, their fields, isinstance. -/
namespace EL
open PySem PySem.Spec PyProof.Rows L2 EXI
abbrev excOf (cn : Str) (fds : List (PyData × PyData)) : PyData := .dict ((.none, .tuple [.str cn]) :: fds)
def excsOf : PyData → Option (Str × List (PyData × PyData))
  | .dict ((.none, .tuple [.str c]) :: fds) => some (c, fds)
  | _ => none
theorem excsOf_some {d : PyData} {cn : Str} {fds : List (PyData × PyData)} (h : excsOf d = some (cn, fds)) : d = excOf cn fds := by
  unfold excsOf at h
  split at h
  · cases h; rfl
  · cases h
section
variable {K : PySem.W.Frag} {O : List Addr} {H : Hp}
theorem Rp.excI {v : V} {cn : Str} {fds : List (PyData × PyData)} (h : Rp K O H v (excOf cn fds)) : ∃ a C dx fs, v = .ref a ∧ PySem.W.nsIn K mainGlobals cn = some (some (.ref C)) ∧ H a = some (ExV (.ref C) (some dx) a) ∧ H dx = some (.xd fs) ∧ a ∉ O ∧ dx ∉ O ∧ fs.length ≤ 900 ∧ RpF K O H fs fds := by
  generalize hd : excOf cn fds = d at h
  cases h with
  | dic h1 h2 h3 h4 =>
    cases hd
    obtain ⟨k, e⟩ := h4.headK
    cases k <;> cases e
  | exc h1 h2 h3 h4 h5 h6 h7 => cases hd; exact ⟨_, _, _, _, rfl, h1, h2, h3, h4, h5, h6, h7⟩
  | _ => cases hd
end
section
variable {X : Cx} {pins : List (Addr × Obj)} {σ : L2.St} {H : Hp} {s : Shared}
theorem exv_inst {a C dd : Addr} {fs : List (Str × V)} (I : Inv X pins σ H s) (ha : H a = some (ExV (.ref C) (some dd) a)) (hd : H dd = some (.xd fs)) :
    ∃ oe od, PySem.W.InstAt s.heap a oe C (some od) ∧ ∀ f v, fs.lookup f = some v → ∃ u, RelV v u ∧ PySem.W.lookIn f od = some (some u) := by
  obtain ⟨⟨oe, vs, hget, hz, hv, _⟩, _, _⟩ := (show ObjOk X.prog X.w H s.heap a (ExV (.ref C) (some dd) a) from I.hok a _ ha)
  obtain ⟨mA, hns, hr⟩ := (show ObjOk X.prog X.w H s.heap dd (.xd fs) from I.hok dd _ hd)
  obtain ⟨od, ho, hl⟩ := lookIn_ns hns
  refine ⟨oe, od, ⟨hget, hz.1, by unfold PySem.W.notCls; rw [hv] <;> rfl, by rw [hz.2]; exact ho⟩, fun f v l => ?_⟩
  obtain ⟨u, hu, ru⟩ := RelO.some_of (v := v) (o := mA f) (by rw [← l]; exact hr f)
  exact ⟨u, ru, by rw [hl, hu]⟩
/-- an exception made is a value -/
theorem mkp_ep {Q : XK} {Q' : VK} {u : Value} {s' : Shared} (m : MkP X pins σ Q u s') (h : ∀ cls d H' a, Q cls d H' → H' a = none → Q' (.ref a) (upd H' a (ExV cls d a))) : EP X pins σ Q' u s' := by
  obtain ⟨a, oe, vs, sI, H', cls, d, rfl, J, k, hne, ha, hz, hd, h1, na, os, ag, r, q⟩ := m
  have new : ObjOk X.prog X.w (upd H' a (ExV cls d a)) s'.heap a (ExV cls d a) := ⟨⟨oe, vs, ha, ⟨hz.1, hz.2⟩, hd, h1⟩, ⟨oe, ha⟩, fun h1 h2 ⟨oe', vs', e, r⟩ k => ⟨oe', vs', k _ e, r⟩⟩
  have J2 := J.laidN (t' := s'.toks) k hne na new
  exact ⟨.ref a, upd H' a (ExV cls d a), ⟨J2.ok, os.trans J.os, ag, J2.base, J2.loc, J2.cell, J2.free, J2.freeC, J2.pin, J2.hok, J2.len⟩, rfl, h _ _ _ _ q na⟩
end
/-! ### making -/
/-- how the arguments stand: by place, by name, by name turned round -/
def Bnd (nm : List Str) (rest : List Value) (kw : List (Str × Value)) (us : List Value) : Prop := (rest = us ∧ kw = []) ∨ (rest = [] ∧ kw = nm.zip us) ∨ (rest = [] ∧ kw = (nm.zip us).reverse)
def MkC (X : Cx) (C : Addr) (nm : List Str) : Prop := ∀ {pins : List (Addr × Obj)} {σ : L2.St} {H1 : Hp} {Q : XK} {s1 : Shared} {vs : List V} {us rest : List Value} {kw : List (Str × Value)}, Vals vs us → vs.length = nm.length → Bnd nm rest kw us → Inv X pins σ H1 s1 →
  (∀ d, H1 d = none → Q (.ref C) (some d) (upd H1 d (.xd (nm.zip vs).reverse))) → wpAny (model X.prog X.w) X.A (call (.ref C) rest kw) (MkP X pins σ Q) X.xe s1
/-- the binding of an __init__'s arguments -/
def BindE (nm : List Str) (qual : Str) (st : Stmt) : Prop := ∀ (w : Value) (us rest : List Value) (kw : List (Str × Value)), us.length = nm.length → Bnd nm rest kw us → ∀ (cda cc : Addr) (name : Str) (kV doc pm : Value) (an : Option Addr) (ct : Value),
  bindArgs (PySem.W.ksFn name qual (defArgs st) (defBody st) (defScope st) .none kV doc pm an (.ref cda) ct cc) ⟨w :: rest, kw⟩ = pure ((("self" : Str), w) :: nm.zip us)
theorem bnd_len {nm : List Str} {rest us : List Value} {kw : List (Str × Value)} (hl : us.length = nm.length) (h9 : nm.length ≤ 900) (h : Bnd nm rest kw us) : rest.length ≤ sizeLine := by
  rcases h with ⟨rfl, _⟩ | ⟨rfl, _⟩ | ⟨rfl, _⟩
  · rw [sizeLine_eq]; omega
  · exact Nat.zero_le _
  · exact Nat.zero_le _
section
variable [Wsh] [Tbx] {X : Cx} {k : Nat} {C : Addr}
theorem mkC_1 {cn a qual : Str} {st : Stmt} (M : Exc1 X.prog X.K X.mg cn a qual st C) (S : Shape1 a qual st) (B : BindE [a] qual st) (hr : Room (k + 1) X.A) : MkC X C [a] := by
  intro pins σ H1 Q s1 vs us rest kw rv hl hb I1 q1
  obtain ⟨fI, cc, cda, I, iC, tI⟩ := M.ini
  obtain ⟨p0, p1, p2, p3, p4, n1, q1', q2, q3, q4, eb, ⟨pl, hev⟩, sw1⟩ := S.body
  rw [eb] at I
  have hu : us.length = 1 := rv.length.symm.trans hl
  cases rv with
  | nil => cases hl
  | @cons y1 u1 _ _ ra rt =>
    cases rt with
    | cons _ _ => simp at hl
    | nil =>
      have bd := fun w => B w [u1] rest kw rfl hb cda cc
      rw [eb] at bd
      exact mkv_x1 (k := k) (hev fI cda cc) (sw1 fI cda cc) M.ox I iC tI M.nsu hr S.par S.self S.la bd S.sa S.da M.fa I1.ok ra (bnd_len (nm := [a]) hu (show 1 ≤ 900 by decide) hb) I1 q1
theorem mkC_2 {cn a b qual : Str} {st : Stmt} (M : Exc2 X.prog X.K X.mg cn a b qual st C) (S : Shape2 a b qual st) (B : BindE [a, b] qual st) (hr : Room (k + 1) X.A) : MkC X C [a, b] := by
  intro pins σ H1 Q s1 vs us rest kw rv hl hb I1 q1
  obtain ⟨fI, cc, cda, I, iC, tI⟩ := M.ini
  obtain ⟨p0, p1, p2, p3, p4, n1, n2, q1', q2, q3, q4, r1, r2, r3, r4, eb, ⟨pl, hev⟩, sw1, sw2⟩ := S.body
  rw [eb] at I
  have hu : us.length = 2 := rv.length.symm.trans hl
  cases rv with
  | nil => cases hl
  | @cons y1 u1 _ _ ra rt =>
    cases rt with
    | nil => simp at hl
    | @cons y2 u2 _ _ rb rt2 =>
      cases rt2 with
      | cons _ _ => simp at hl
      | nil =>
        have bd := fun w => B w [u1, u2] rest kw rfl hb cda cc
        rw [eb] at bd
        exact mkv_x2 (k := k) (hev fI cda cc) (sw1 fI cda cc) (sw2 fI cda cc) M.ox I iC tI M.nsu hr S.par S.self S.la S.lb bd S.sa S.sb S.ab S.da S.db M.fa M.fb I1.ok ra rb (bnd_len (nm := [a, b]) hu (show 2 ≤ 900 by decide) hb) I1 q1
theorem mkC_o {B' Bn newId inN i : String} {bmN tl : List Value} (Ow : OwnB B' Bn newId inN i bmN tl) {cn a qual : Str} {st : Stmt} (M : ExcO1 B' newId i tl X.prog X.K X.mg cn a qual st C) (S : Shape1 a qual st) (B : BindE [a] qual st) (hr : Room (k + 1) X.A) : MkC X C [a] := by
  intro pins σ H1 Q s1 vs us rest kw rv hl hb I1 q1
  obtain ⟨fI, cc, cda, I, iC, tI⟩ := M.ini
  obtain ⟨p0, p1, p2, p3, p4, n1, q1', q2, q3, q4, eb, ⟨pl, hev⟩, sw1⟩ := S.body
  rw [eb] at I
  have hu : us.length = 1 := rv.length.symm.trans hl
  cases rv with
  | nil => cases hl
  | @cons y1 u1 _ _ ra rt =>
    cases rt with
    | cons _ _ => simp at hl
    | nil =>
      have bd := fun w => B w [u1] rest kw rfl hb cda cc
      rw [eb] at bd
      exact mkv_o1 Ow (k := k) (hev fI cda cc) (sw1 fI cda cc) M.ox I iC tI M.nsu hr S.par S.self S.la bd S.sa S.da M.fa I1.ok ra (bnd_len (nm := [a]) hu (show 1 ≤ 900 by decide) hb) I1 q1
end
/-! ### over data -/
def turnL {α : Type} (sw : Bool) (xs : List α) : List α := if sw = true then xs.reverse else xs
def fV (nm : List Str) (sw : Bool) (vs : List V) : List (Str × V) := (nm.zip (turnL sw vs)).reverse
def fDs (nm : List Str) (sw : Bool) (ds : List PyData) : List (PyData × PyData) := ((nm.map PyData.str).zip (turnL sw ds)).reverse
def mkE (cn : Str) (nm : List Str) (sw : Bool) (ds : List PyData) : Dn := fun en => if ds.length = nm.length then .ok (excOf cn (fDs nm sw ds), en) else .bad
def dMkE (cn : Str) (nm : List Str) (sw : Bool) (g : An) : Dn := bnd g (mkE cn nm sw)
section
variable {K : PySem.W.Frag} {O : List Addr} {H : Hp}
theorem RpF.app : ∀ {fs gs : List (Str × V)} {fds gds : List (PyData × PyData)}, RpF K O H fs fds → RpF K O H gs gds → RpF K O H (fs ++ gs) (fds ++ gds)
  | _, _, _, _, .nil, h => h
  | _, _, _, _, .cons a r, h => .cons a (RpF.app r h)
theorem RpF.rev : ∀ {fs : List (Str × V)} {fds : List (PyData × PyData)}, RpF K O H fs fds → RpF K O H fs.reverse fds.reverse
  | _, _, .nil => .nil
  | _, _, .cons a r => by
    rw [List.reverse_cons, List.reverse_cons]
    exact (RpF.rev r).app (.cons a .nil)
theorem RpA.appd : ∀ {vs ws : List V} {ds es : List PyData}, RpA K O H vs ds → RpA K O H ws es → RpA K O H (vs ++ ws) (ds ++ es)
  | _, _, _, _, .nil, h => h
  | _, _, _, _, .cons a r, h => .cons a (RpA.appd r h)
theorem RpA.rev : ∀ {vs : List V} {ds : List PyData}, RpA K O H vs ds → RpA K O H vs.reverse ds.reverse
  | _, _, .nil => .nil
  | _, _, .cons a r => by
    rw [List.reverse_cons, List.reverse_cons]
    exact (RpA.rev r).appd (.cons a .nil)
theorem RpF.zip : ∀ (nm : List Str) {vs : List V} {ds : List PyData}, RpA K O H vs ds → RpF K O H (nm.zip vs) ((nm.map PyData.str).zip ds)
  | [], _, _, _ => by rw [List.map_nil, List.zip_nil_left, List.zip_nil_left]; exact .nil
  | _ :: _, _, _, .nil => .nil
  | n :: nm, _, _, .cons a r => .cons a (RpF.zip nm r)
theorem RpF.fV {nm : List Str} {sw : Bool} {vs : List V} {ds : List PyData} (r : RpA K O H vs ds) : RpF K O H (fV nm sw vs) (fDs nm sw ds) := by
  refine RpF.rev (RpF.zip nm ?_)
  unfold turnL
  split
  · exact r.rev
  · exact r
end
theorem vals_app : ∀ {vs ws : List V} {us xs : List Value}, Vals vs us → Vals ws xs → Vals (vs ++ ws) (us ++ xs)
  | _, _, _, _, .nil, h => h
  | _, _, _, _, .cons a r, h => .cons a (vals_app r h)
theorem vals_rev : ∀ {vs : List V} {us : List Value}, Vals vs us → Vals vs.reverse us.reverse
  | _, _, .nil => .nil
  | _, _, .cons a r => by
    rw [List.reverse_cons, List.reverse_cons]
    exact vals_app (vals_rev r) (.cons a .nil)
theorem zip_rev {α β : Type} : ∀ {xs : List α} {ys : List β}, xs.length = ys.length → (xs.zip ys).reverse = xs.reverse.zip ys.reverse
  | [], [], _ => rfl
  | x :: xs, y :: ys, h => by
    have h' : xs.length = ys.length := by simpa using h
    rw [List.zip_cons_cons, List.reverse_cons, List.reverse_cons, List.reverse_cons, zip_rev h', List.zip_append (by simp [h'])]
    rfl
def tMkV (C : Addr) (nm : List Str) (sw : Bool) (t : TA) : TE := fun σ H Q => t σ H fun vs H1 => vs.length = nm.length ∧ ∀ d, H1 d = none → ∀ x, (upd H1 d (.xd (fV nm sw vs))) x = none → Q (.ref x) (upd (upd H1 d (.xd (fV nm sw vs))) x (ExV (.ref C) (some d) x))
section
variable [Wsh] [Tbx]
theorem ev_mkV {K : PySem.W.Frag} {cn : Str} {C : Addr} {nm : List Str} {sw : Bool} (hC : PySem.W.nsIn K mainGlobals cn = some (some (.ref C))) {t : TA} {g : An} (ea : EvA K t g) (h9 : nm.length ≤ 900) : EvE K (tMkV C nm sw t) (dMkE cn nm sw g) := by
  intro c O H σ en Q hc rs h
  refine ea c O H σ en _ hc rs (Po.bind h fun ds en1 vs H1 _ rs1 k1 r1 h1 => ?_)
  by_cases hl : ds.length = nm.length
  · have h2 : PoE c O H1 σ en1 (if ds.length = nm.length then .ok (excOf cn (fDs nm sw ds), en1) else .bad) Q := h1
    rw [if_pos hl] at h2
    refine ⟨r1.length.trans hl, fun d hd x hx => ?_⟩
    subst hc
    have sm : Same H1 (upd (upd H1 d (.xd (fV nm sw vs))) x (ExV (.ref C) (some d) x)) := (same_new hd).trans (same_new hx)
    have ne : d ≠ x := fun z => by rw [← z, upd_same] at hx; cases hx
    have hx1 : H1 x = none := by rw [upd_ne ne.symm] at hx; exact hx
    refine h2 (.ref x) _ (rs1.same sm) (.same sm) (.exc hC upd_same ?_ (fresh_notin rs1.live hx1) (fresh_notin rs1.live hd) ?_ ((RpF.fV r1).keep (.of_same sm)))
    · rw [upd_ne ne, upd_same]
    · unfold fV
      rw [List.length_reverse, List.length_zip]
      omega
  · have h2 : PoE c O H1 σ en1 (if ds.length = nm.length then .ok (excOf cn (fDs nm sw ds), en1) else .bad) Q := h1
    rw [if_neg hl] at h2
    exact h2.elim
variable {X : Cx} {C : Addr} {pos p : Pos}
/-- C(e, ..), by place -/
theorem de_mkE {cn : Str} {nm : List Str} {a1 : Expr} {as : List Expr} {g : An} (hC : PySem.W.nsIn X.K mainGlobals cn = some (some (.ref C))) (kC : PySem.W.keepIn X.K (.ref C) = true) (mk : MkC X C nm) (hg : Gl X cn) (hm : X.mg cn = some (.ref C)) (ha : DA X (a1 :: as) g) (h9 : nm.length ≤ 900 := by decide)
    (hdb : (cn == ("__debug__" : Str)) = false := by decide) (he : starEach (a1 :: as) X.env = (false, eval a1 X.env) :: starEach as X.env := by rfl) (hpl : (backTo pos (starEach as X.env)).any (·.1) = false := by rfl) :
    DE X (.Call (.Name cn p) (a1 :: as) [] pos) (dMkE cn nm false g) := by
  obtain ⟨t, pa, ea⟩ := ha
  refine ⟨tMkV C nm false t, ⟨fun pins s σ H Q I h => ?_⟩, ev_mkV hC ea h9⟩
  refine wpAny_Call_Name_kw (ld_glob I hg hm ?_ hdb)
  refine PySem.W.callWith_K (h₀ := X.base) I.ok.mod.kin kC (thn (pa.run pos pins s σ H _ I h) fun us s1 ⟨vs, H1, I1, r1, hl, q1⟩ => ⟨I1.kIn, ?_⟩) he hpl
  refine wpAny_mono (mk (Q := fun cls d H' => cls = .ref C ∧ ∃ dd, d = some dd ∧ ∀ x, H' x = none → Q (.ref x) (upd H' x (ExV (.ref C) (some dd) x))) r1 hl (.inl ⟨rfl, rfl⟩) I1 fun d hd => ⟨rfl, d, rfl, q1 d hd⟩) (fun u s' m => mkp_ep m fun cls d H' a q na => ?_) fun _ _ x => x
  obtain ⟨rfl, dd, rfl, q⟩ := q
  exact q a na
/-- C(a = e, ..), by name, in their order or turned round -/
theorem de_mkK {cn : Str} {nm : List Str} (sw : Bool) {kws : List Keyword} {g : An} (hC : PySem.W.nsIn X.K mainGlobals cn = some (some (.ref C))) (kC : PySem.W.keepIn X.K (.ref C) = true) (mk : MkC X C nm) (hg : Gl X cn) (hm : X.mg cn = some (.ref C)) (ha : DK X kws g) (h9 : nm.length ≤ 900 := by decide)
    (hdb : (cn == ("__debug__" : Str)) = false := by decide) (hall : (backToKw pos (keywordEach kws X.env)).all (·.1.isSome) = true := by rfl) (hks : (backToKw pos (keywordEach kws X.env)).filterMap (·.1) = turnL sw nm := by rfl)
    (hpl : ((backTo pos (starEach [] X.env)).any (·.1) || (backToKw pos (keywordEach kws X.env)).any (·.1.isNone)) = false := by rfl) :
    DE X (.Call (.Name cn p) [] kws pos) (dMkE cn nm sw g) := by
  obtain ⟨t, pa, ea⟩ := ha
  refine ⟨tMkV C nm sw t, ⟨fun pins s σ H Q I h => ?_⟩, ev_mkV hC ea h9⟩
  refine wpAny_Call_Name_kw (ld_glob I hg hm ?_ hdb)
  refine PySem.W.callWith_KW0 (h₀ := X.base) I.ok.mod.kin kC hall ?_ hpl
  refine thn (pa.run pos pins s σ H _ I h) ?_
  rintro ws s2 ⟨vs, H1, I1, r1, hl, q1⟩
  refine ⟨I1.kIn, ?_⟩
  rw [hks]
  have rt : Vals (turnL sw vs) (turnL sw ws) := by
    unfold turnL
    split
    · exact vals_rev r1
    · exact r1
  have lt : (turnL sw vs).length = nm.length := by
    unfold turnL
    split
    · rw [List.length_reverse]; exact hl
    · exact hl
  have bn : Bnd nm [] ((turnL sw nm).zip ws) (turnL sw ws) := by
    unfold turnL
    cases sw with
    | false => exact .inr (.inl ⟨rfl, rfl⟩)
    | true =>
      refine .inr (.inr ⟨rfl, ?_⟩)
      show nm.reverse.zip ws = (nm.zip ws.reverse).reverse
      have e : nm.length = ws.reverse.length := by rw [List.length_reverse, ← r1.length]; exact hl.symm
      rw [zip_rev e, List.reverse_reverse]
  refine wpAny_mono (mk (Q := fun cls d H' => cls = .ref C ∧ ∃ dd, d = some dd ∧ ∀ x, H' x = none → Q (.ref x) (upd H' x (ExV (.ref C) (some dd) x))) rt lt bn I1 fun d hd => ⟨rfl, d, rfl, q1 d hd⟩) (fun u s' m => mkp_ep m fun cls d H' a q na => ?_) fun _ _ x => x
  obtain ⟨rfl, dd, rfl, q⟩ := q
  exact q a na
end
/-! ### e.f -/
def gXf (f : Str) (L : List Str) (d : PyData) : Res PyData := match excsOf d with
  | some (cn, fds) => if cn ∈ L then (match lookF fds f with
    | some x => .ok x
    | none => .bad) else .bad
  | none => .bad
def rXf (K : PySem.W.Frag) (f : Str) : V → Hp → VK → Prop := fun x H Q => ∃ (a C dx : Addr) (fs : List (Str × V)) (v : V), x = .ref a ∧ H a = some (ExV (.ref C) (some dx) a) ∧ H dx = some (.xd fs) ∧ XfC K C ∧ PySem.W.findIn K (.ref C) f = some none ∧ fs.lookup f = some v ∧ Q v H
def XfL (K : PySem.W.Frag) (f : Str) (L : List Str) : Prop := ∀ cn ∈ L, ∃ C, PySem.W.nsIn K mainGlobals cn = some (some (.ref C)) ∧ XfC K C ∧ PySem.W.findIn K (.ref C) f = some none
section
variable [Wsh] [Tbx] {X : Cx} {pos p : Pos}
theorem de_xf {f : Str} {L : List Str} {e : Expr} {fe : Dn} (M : XfL X.K f L) (he : DE X e fe) (hb : attributeBase e f X.env (eval e X.env) = eval e X.env := by rfl) : DE X (.Attribute e f pos) (dUn (gXf f L) fe) := by
  obtain ⟨t, pe, ev⟩ := he
  refine ⟨tUn (rXf X.K f) t, ⟨fun pins s σ H Q I h => attr_of hb (thn (pe.run pins s σ H _ I h) fun u s1 ⟨x, H1, I1, rx, hx⟩ => ?_)⟩, ev_un (fun O H x d Q l r h => ?_) ev⟩
  · obtain ⟨a, C, dx, fs, v, rfl, e1, e2, T, hno, l, q⟩ := hx
    obtain rfl : u = Value.ref a := rx
    obtain ⟨oe, od, J, hl⟩ := exv_inst I1 e1 e2
    obtain ⟨w, rw', lw⟩ := hl f v l
    exact HandSPX.exc_get I1.kIn J T.ga T.gg T.exC (PySem.W.findObj_own T.hdC hno rfl lw) (handed_of rw') ⟨v, H1, I1.tok _, rw', q⟩
  · unfold gXf at h
    cases q : excsOf d with
    | none => rw [q] at h; exact h.elim
    | some z =>
      obtain ⟨cn, fds⟩ := z
      rw [q] at h
      by_cases hcn : cn ∈ L
      · simp only [if_pos hcn] at h
        rw [excsOf_some q] at r
        obtain ⟨a, C, dx, fs, rfl, e0, e1, e2, _, _, _, rf⟩ := r.excI
        obtain ⟨C', e0', T, hno⟩ := M cn hcn
        rw [e0] at e0'
        cases e0'
        rcases rf.look (f := f) with ⟨_, z⟩ | ⟨v, d1, z1, z2, z3⟩
        · rw [z] at h; exact h.elim
        · rw [z2] at h
          exact ⟨a, C, dx, fs, v, rfl, e1, e2, T, hno, z1, h.okE z3⟩
      · simp only [if_neg hcn] at h; exact h.elim
end
/-! ### isinstance(e, C) -/
def gXis (tab : List (Str × Bool)) (d : PyData) : Res PyData := match excsOf d with
  | some (cn, _) => (match tab.lookup cn with
    | some b => .ok (.bool b)
    | none => .bad)
  | none => .bad
def XisT (K : PySem.W.Frag) (cv : Value) (tab : List (Str × Bool)) : Prop := ∀ cn b, tab.lookup cn = some b → ∃ C, PySem.W.nsIn K mainGlobals cn = some (some (.ref C)) ∧ ExcC K C ∧ PySem.W.kitOne K (.ref C) cv = some b
def rXis (K : PySem.W.Frag) : List V → Hp → VK → Prop := fun xs H Q => ∃ (a D dd : Addr) (fs : List (Str × V)) (c : V) (cv : Value) (b : Bool), xs = [.ref a, c] ∧ H a = some (ExV (.ref D) (some dd) a) ∧ H dd = some (.xd fs) ∧ ExcC K D ∧ (∀ u, RelV c u → u = cv) ∧ PySem.W.kitOne K (.ref D) cv = some b ∧ Q (.bl b) H
section
variable [Wsh] [Tbx] {X : Cx} {pos p p2 : Pos}
theorem call_xis : CallR X (.builtin "isinstance") (rXis X.K) := by
  intro pins s σ H xs us Q I r h
  obtain ⟨a, D, dd, fs, c, cv, b, rfl, ha, hd, C, hcv, e, q⟩ := h
  cases r with
  | cons rx rr =>
    cases rr with
    | cons rt rr =>
      cases rr
      cases rx
      have ec := hcv _ rt
      subst ec
      obtain ⟨oe, od, J, _⟩ := exv_inst I ha hd
      have hcs : (PySem.W.clsIn X.K D).isSome = true := by
        obtain ⟨cd, hc, _⟩ := PySem.W.any_some C.hd
        rw [hc]; rfl
      exact PySem.W.kia_one (kit_exc C (PySem.W.findObj_data hcs C.ha C.hn C.ht)) I.kIn J e (fun z => nomatch z) fun tk => ⟨.bl b, H, I.kept (t' := tk) fun _ _ z => z, rfl, q⟩
theorem de_xis {a : Expr} {x : Str} {D : Addr} {f : Dn} {tab : List (Str × Bool)} (M : XisT X.K (.ref D) tab) (hg : Gl X "isinstance") (hm : X.mg "isinstance" = none) (hg2 : Gl X x) (hm2 : X.mg x = some (.ref D)) (ha : DE X a f) (hdb : (x == ("__debug__" : Str)) = false := by decide)
    (he : starEach (a :: [.Name x p2]) X.env = (false, eval a X.env) :: starEach [.Name x p2] X.env := by rfl) (hpl : (backTo pos (starEach [.Name x p2] X.env)).any (·.1) = false := by rfl) :
    DE X (.Call (.Name "isinstance" p) [a, .Name x p2] [] pos) (dUn (gXis tab) f) := by
  obtain ⟨ta, pa, ev⟩ := ha
  refine ⟨_, pe_callB call_xis hg hm (by decide +kernel) (pa_cons pa (pa_cons (pe_glob (v := .ref D) hg2 hm2 rfl hdb) pa_nil (by rfl)) he) (by decide) (by decide) he hpl, ?_⟩
  refine ev_cal2 (fun O H v d Q r h => ?_) ev
  unfold gXis at h
  cases q : excsOf d with
  | none => rw [q] at h; exact h.elim
  | some z =>
    obtain ⟨cn, fds⟩ := z
    rw [q] at h
    cases q2 : tab.lookup cn with
    | none => simp only [q2] at h; exact h.elim
    | some b =>
      simp only [q2] at h
      rw [excsOf_some q] at r
      obtain ⟨a', C, dx, fs, rfl, e0, e1, e2, _, _, _, rf⟩ := r.excI
      obtain ⟨C', e0', T, hk⟩ := M cn b q2
      rw [e0] at e0'
      cases e0'
      exact ⟨a', C, dx, fs, .ref D, .ref D, b, rfl, e1, e2, T, fun u ru => ru, hk, h.okE (.bl _)⟩
theorem de_xisB {a : Expr} {x : Str} {T : String} {f : Dn} {tab : List (Str × Bool)} (M : XisT X.K (.type T) tab) (hg : Gl X "isinstance") (hm : X.mg "isinstance" = none) (hg2 : Gl X x) (hm2 : X.mg x = none) (hv2 : bootBuiltins x = some (.type T)) (ha : DE X a f) (hn : x ≠ "__name__" := by decide) (hdb : (x == ("__debug__" : Str)) = false := by decide)
    (he : starEach (a :: [.Name x p2]) X.env = (false, eval a X.env) :: starEach [.Name x p2] X.env := by rfl) (hpl : (backTo pos (starEach [.Name x p2] X.env)).any (·.1) = false := by rfl) :
    DE X (.Call (.Name "isinstance" p) [a, .Name x p2] [] pos) (dUn (gXis tab) f) := by
  obtain ⟨ta, pa, ev⟩ := ha
  refine ⟨_, pe_callB call_xis hg hm (by decide +kernel) (pa_cons pa (pa_cons (pe_bltn (v := .ty T) hg2 hm2 hv2 rfl hn hdb) pa_nil (by rfl)) he) (by decide) (by decide) he hpl, ?_⟩
  refine ev_cal2 (fun O H v d Q r h => ?_) ev
  unfold gXis at h
  cases q : excsOf d with
  | none => rw [q] at h; exact h.elim
  | some z =>
    obtain ⟨cn, fds⟩ := z
    rw [q] at h
    cases q2 : tab.lookup cn with
    | none => simp only [q2] at h; exact h.elim
    | some b =>
      simp only [q2] at h
      rw [excsOf_some q] at r
      obtain ⟨a', C, dx, fs, rfl, e0, e1, e2, _, _, _, rf⟩ := r.excI
      obtain ⟨C', e0', T', hk⟩ := M cn b q2
      rw [e0] at e0'
      cases e0'
      exact ⟨a', C, dx, fs, .ty T, .type T, b, rfl, e1, e2, T', fun u ru => ru, hk, h.okE (.bl _)⟩
end
end EL

set_option maxHeartbeats 2000000
/-! XVb: facts of many exception classes in one. -/
namespace EL
open PySem PySem.Spec PyProof.Rows L2 EXI
theorem all_n {α : Type} {P : α → Prop} : ∀ q ∈ ([] : List α), P q := fun _ h => nomatch h
theorem all_c {α : Type} {P : α → Prop} {a : α} {l : List α} (h : P a) (t : ∀ q ∈ l, P q) : ∀ q ∈ a :: l, P q := List.forall_mem_cons.mpr ⟨h, t⟩
abbrev ExN (K : PySem.W.Frag) (q : Str × Addr × Bool) : Prop := PySem.W.nsIn K mainGlobals q.1 = some (some (.ref q.2.1)) ∧ ExcC K q.2.1
theorem look_mem : ∀ {N : List (Str × Addr × Bool)} {cn : Str} {b : Bool}, (N.map fun q => (q.1, q.2.2)).lookup cn = some b → ∃ C, (cn, C, b) ∈ N
  | [], _, _, h => nomatch h
  | (c, C, b') :: N, cn, b, h => by
    rw [List.map_cons, List.lookup_cons] at h
    split at h
    · rename_i e
      cases h
      rw [beq_iff_eq.mp e]
      exact ⟨C, List.mem_cons_self⟩
    · obtain ⟨C', hm⟩ := look_mem h
      exact ⟨C', List.mem_cons_of_mem _ hm⟩
theorem xis_mk {K : PySem.W.Frag} {cv : Value} {N : List (Str × Addr × Bool)} (h : ∀ q ∈ N, ExN K q) (k : ((N.map fun q => q.2).all fun q => PySem.W.kitOne K (.ref q.1) cv == some q.2) = true) : XisT K cv (N.map fun q => (q.1, q.2.2)) := by
  intro cn b hl
  obtain ⟨C, hm⟩ := look_mem hl
  have e := h _ hm
  refine ⟨C, e.1, e.2, ?_⟩
  have := List.all_eq_true.mp k (C, b) (List.mem_map.mpr ⟨_, hm, rfl⟩)
  exact beq_iff_eq.mp this
end EL

set_option maxHeartbeats 2000000
namespace EL
open PySem PySem.Spec PyProof.Rows L2
def topS (i : Nat) : Stmt := PySem.Challenge.pw_everlit_k01_names_and_items.main.body.getD i (.Pass ⟨0, 0, 0, 0⟩)
def clsS (i j : Nat) : Stmt := match topS i with | .ClassDef (body := b) .. => b.getD j (.Pass ⟨0, 0, 0, 0⟩) | _ => .Pass ⟨0, 0, 0, 0⟩
/-- what the top has left -/
structure Md (P : Program) (K : PySem.W.Frag) (w : World) (mg : Str → Option Value) where
  n_len : mg "len" = none
  n_isinstance : mg "isinstance" = none
  n_str : mg "str" = none
  n_all : mg "all" = none
  n_list : mg "list" = none
  n_int : mg "int" = none
  n_abs : mg "abs" = none
  n_KeyError : mg "KeyError" = none
  n_ValueError : mg "ValueError" = none
  n_LookupError : mg "LookupError" = none
  n_OverflowError : mg "OverflowError" = none
  n_IndexError : mg "IndexError" = none
  n_range : mg "range" = none
  n_repr : mg "repr" = none
  n_enumerate : mg "enumerate" = none
  t_MOST_LETTERS : Tok
  c_MOST_LETTERS : mg "MOST_LETTERS" = some (.int (8) t_MOST_LETTERS)
  t_LETTERS : Tok
  c_LETTERS : mg "LETTERS" = some (.str "abcdefghijklmnopqrstuvwxyz" t_LETTERS)
  t_RESERVE : Tok
  c_RESERVE : mg "RESERVE" = some (.str "*" t_RESERVE)
  t_TWIN : Tok
  c_TWIN : mg "TWIN" = some (.str "+" t_TWIN)
  a_is_name : Addr
  d_is_name : FuncData
  F_is_name : Fun K "is_name" "is_name" (topS 5) a_is_name d_is_name
  g_is_name : mg "is_name" = some (.ref a_is_name)
  a_signal_of : Addr
  d_signal_of : FuncData
  F_signal_of : Fun K "signal_of" "signal_of" (topS 10) a_signal_of d_signal_of
  g_signal_of : mg "signal_of" = some (.ref a_signal_of)
  a_twin_of : Addr
  d_twin_of : FuncData
  F_twin_of : Fun K "twin_of" "twin_of" (topS 11) a_twin_of d_twin_of
  g_twin_of : mg "twin_of" = some (.ref a_twin_of)
  a_reserve_of : Addr
  d_reserve_of : FuncData
  F_reserve_of : Fun K "reserve_of" "reserve_of" (topS 12) a_reserve_of d_reserve_of
  g_reserve_of : mg "reserve_of" = some (.ref a_reserve_of)
  a__law_pen : Addr
  d__law_pen : FuncData
  F__law_pen : Fun K "_law_pen" "_law_pen" (topS 38) a__law_pen d__law_pen
  g__law_pen : mg "_law_pen" = some (.ref a__law_pen)
  a__law_draw : Addr
  d__law_draw : FuncData
  F__law_draw : Fun K "_law_draw" "_law_draw" (topS 39) a__law_draw d__law_draw
  g__law_draw : mg "_law_draw" = some (.ref a__law_draw)
  a__law_body : Addr
  d__law_body : FuncData
  F__law_body : Fun K "_law_body" "_law_body" (topS 44) a__law_body d__law_body
  g__law_body : mg "_law_body" = some (.ref a__law_body)
  a__law_fields : Addr
  d__law_fields : FuncData
  F__law_fields : Fun K "_law_fields" "_law_fields" (topS 49) a__law_fields d__law_fields
  g__law_fields : mg "_law_fields" = some (.ref a__law_fields)
  a__law_classes : Addr
  d__law_classes : FuncData
  F__law_classes : Fun K "_law_classes" "_law_classes" (topS 50) a__law_classes d__law_classes
  g__law_classes : mg "_law_classes" = some (.ref a__law_classes)
  a__law_bases : Addr
  d__law_bases : FuncData
  F__law_bases : Fun K "_law_bases" "_law_bases" (topS 51) a__law_bases d__law_bases
  g__law_bases : mg "_law_bases" = some (.ref a__law_bases)
  a_is_light : Addr
  d_is_light : FuncData
  F_is_light : Fun K "is_light" "is_light" (topS 6) a_is_light d_is_light
  g_is_light : mg "is_light" = some (.ref a_is_light)
  a_is_twin : Addr
  d_is_twin : FuncData
  F_is_twin : Fun K "is_twin" "is_twin" (topS 7) a_is_twin d_is_twin
  g_is_twin : mg "is_twin" = some (.ref a_is_twin)
  a_is_reserve : Addr
  d_is_reserve : FuncData
  F_is_reserve : Fun K "is_reserve" "is_reserve" (topS 8) a_is_reserve d_is_reserve
  g_is_reserve : mg "is_reserve" = some (.ref a_is_reserve)
  a__law_pick : Addr
  d__law_pick : FuncData
  F__law_pick : Fun K "_law_pick" "_law_pick" (topS 40) a__law_pick d__law_pick
  g__law_pick : mg "_law_pick" = some (.ref a__law_pick)
  a__law_word : Addr
  d__law_word : FuncData
  F__law_word : Fun K "_law_word" "_law_word" (topS 42) a__law_word d__law_word
  g__law_word : mg "_law_word" = some (.ref a__law_word)
  a__law_items_right : Addr
  d__law_items_right : FuncData
  F__law_items_right : Fun K "_law_items_right" "_law_items_right" (topS 46) a__law_items_right d__law_items_right
  g__law_items_right : mg "_law_items_right" = some (.ref a__law_items_right)
  a_is_item : Addr
  d_is_item : FuncData
  F_is_item : Fun K "is_item" "is_item" (topS 9) a_is_item d_is_item
  g_is_item : mg "is_item" = some (.ref a_is_item)
  a__law_odd : Addr
  d__law_odd : FuncData
  F__law_odd : Fun K "_law_odd" "_law_odd" (topS 41) a__law_odd d__law_odd
  g__law_odd : mg "_law_odd" = some (.ref a__law_odd)
  a__law_made : Addr
  d__law_made : FuncData
  F__law_made : Fun K "_law_made" "_law_made" (topS 47) a__law_made d__law_made
  g__law_made : mg "_law_made" = some (.ref a__law_made)
  a__law_named : Addr
  d__law_named : FuncData
  F__law_named : Fun K "_law_named" "_law_named" (topS 48) a__law_named d__law_named
  g__law_named : mg "_law_named" = some (.ref a__law_named)
  a__law_value : Addr
  d__law_value : FuncData
  F__law_value : Fun K "_law_value" "_law_value" (topS 43) a__law_value d__law_value
  g__law_value : mg "_law_value" = some (.ref a__law_value)
  a__law_told_right : Addr
  d__law_told_right : FuncData
  F__law_told_right : Fun K "_law_told_right" "_law_told_right" (topS 45) a__law_told_right d__law_told_right
  g__law_told_right : mg "_law_told_right" = some (.ref a__law_told_right)
  a__law_errors_right : Addr
  d__law_errors_right : FuncData
  F__law_errors_right : Fun K "_law_errors_right" "_law_errors_right" (topS 52) a__law_errors_right d__law_errors_right
  g__law_errors_right : mg "_law_errors_right" = some (.ref a__law_errors_right)
  a_law : Addr
  d_law : FuncData
  F_law : Fun K "law" "law" (topS 53) a_law d_law
  g_law : mg "law" = some (.ref a_law)
  C_InvalidNet : Addr
  E_InvalidNet : Exc2 P K mg "InvalidNet" "word" "index" "InvalidNet.__init__" (clsS 15 0) C_InvalidNet
  C_InvalidLayout : Addr
  E_InvalidLayout : Exc2 P K mg "InvalidLayout" "word" "item" "InvalidLayout.__init__" (clsS 19 0) C_InvalidLayout
  C_NotAllowed : Addr
  E_NotAllowed : Exc2 P K mg "NotAllowed" "index" "word" "NotAllowed.__init__" (clsS 21 0) C_NotAllowed
  C_Turned : Addr
  E_Turned : Exc2 P K mg "Turned" "lower" "upper" "Turned.__init__" (clsS 22 0) C_Turned
  C_ParseError : Addr
  E_ParseError : Exc2 P K mg "ParseError" "line" "word" "ParseError.__init__" (clsS 26 0) C_ParseError
  C_InvalidRoute : Addr
  E_InvalidRoute : Exc1 P K mg "InvalidRoute" "value" "InvalidRoute.__init__" (clsS 16 0) C_InvalidRoute
  C_TooFar : Addr
  E_TooFar : Exc1 P K mg "TooFar" "length" "TooFar.__init__" (clsS 17 0) C_TooFar
  C_InvalidBand : Addr
  E_InvalidBand : Exc1 P K mg "InvalidBand" "value" "InvalidBand.__init__" (clsS 18 0) C_InvalidBand
  C_InvalidWish : Addr
  E_InvalidWish : Exc1 P K mg "InvalidWish" "word" "InvalidWish.__init__" (clsS 20 0) C_InvalidWish
  C_Unlike : Addr
  E_Unlike : Exc1 P K mg "Unlike" "item" "Unlike.__init__" (clsS 23 0) C_Unlike
  C_Circular : Addr
  E_Circular : Exc1 P K mg "Circular" "ring" "Circular.__init__" (clsS 24 0) C_Circular
  C_Barred : Addr
  E_Barred : Exc1 P K mg "Barred" "certificate" "Barred.__init__" (clsS 25 0) C_Barred
  C_UnknownCommand : Addr
  E_UnknownCommand : Exc1 P K mg "UnknownCommand" "command" "UnknownCommand.__init__" (clsS 27 0) C_UnknownCommand
  C_NoItem : Addr
  E_NoItem : ExcO1 "KeyError" "LookupError.__new__" "KeyError.__init__" EXI.keTail P K mg "NoItem" "item" "NoItem.__init__" (clsS 28 0) C_NoItem
  C_NoStation : Addr
  E_NoStation : ExcO1 "KeyError" "LookupError.__new__" "KeyError.__init__" EXI.keTail P K mg "NoStation" "name" "NoStation.__init__" (clsS 29 0) C_NoStation
  C_NoDuct : Addr
  E_NoDuct : ExcO1 "KeyError" "LookupError.__new__" "KeyError.__init__" EXI.keTail P K mg "NoDuct" "name" "NoDuct.__init__" (clsS 30 0) C_NoDuct
  C_NoName : Addr
  E_NoName : ExcO1 "KeyError" "LookupError.__new__" "KeyError.__init__" EXI.keTail P K mg "NoName" "name" "NoName.__init__" (clsS 31 0) C_NoName
  C_NoFibre : Addr
  E_NoFibre : ExcO1 "IndexError" "IndexError.__new__" "IndexError.__init__" EXI.ieTail P K mg "NoFibre" "index" "NoFibre.__init__" (clsS 32 0) C_NoFibre
  C_TooMany : Addr
  E_TooMany : ExcO1 "OverflowError" "OverflowError.__new__" "OverflowError.__init__" EXI.oeTail P K mg "TooMany" "limit" "TooMany.__init__" (clsS 33 0) C_TooMany
  C_TooWide : Addr
  E_TooWide : ExcO1 "OverflowError" "OverflowError.__new__" "OverflowError.__init__" EXI.oeTail P K mg "TooWide" "limit" "TooWide.__init__" (clsS 34 0) C_TooWide
  C_TooNarrow : Addr
  E_TooNarrow : ExcO1 "OverflowError" "OverflowError.__new__" "OverflowError.__init__" EXI.oeTail P K mg "TooNarrow" "needed" "TooNarrow.__init__" (clsS 35 0) C_TooNarrow
  C_NothingToUndo : Addr
  E_NothingToUndo : ExcO1 "LookupError" "LookupError.__new__" "LookupError.__init__" EXI.leTail P K mg "NothingToUndo" "count" "NothingToUndo.__init__" (clsS 36 0) C_NothingToUndo
  C_LightError : Addr
  gx_LightError : mg "LightError" = some (.ref C_LightError)
  ki_TooFar : (([(C_InvalidNet, false), (C_InvalidRoute, false), (C_TooFar, true), (C_InvalidBand, false), (C_InvalidLayout, false), (C_InvalidWish, false), (C_NotAllowed, false), (C_Turned, false), (C_Unlike, false), (C_Circular, false), (C_Barred, false), (C_ParseError, false), (C_UnknownCommand, false), (C_NoItem, false), (C_NoStation, false), (C_NoDuct, false), (C_NoName, false), (C_NoFibre, false), (C_TooMany, false), (C_TooWide, false), (C_TooNarrow, false), (C_NothingToUndo, false)] : List (Addr × Bool)).all fun q => PySem.W.kitOne K (.ref q.1) (.ref C_TooFar) == some q.2) = true
  ki_InvalidRoute : (([(C_InvalidNet, false), (C_InvalidRoute, true), (C_TooFar, false), (C_InvalidBand, false), (C_InvalidLayout, false), (C_InvalidWish, false), (C_NotAllowed, false), (C_Turned, false), (C_Unlike, false), (C_Circular, false), (C_Barred, false), (C_ParseError, false), (C_UnknownCommand, false), (C_NoItem, false), (C_NoStation, false), (C_NoDuct, false), (C_NoName, false), (C_NoFibre, false), (C_TooMany, false), (C_TooWide, false), (C_TooNarrow, false), (C_NothingToUndo, false)] : List (Addr × Bool)).all fun q => PySem.W.kitOne K (.ref q.1) (.ref C_InvalidRoute) == some q.2) = true
  ki_InvalidNet : (([(C_InvalidNet, true), (C_InvalidRoute, false), (C_TooFar, false), (C_InvalidBand, false), (C_InvalidLayout, false), (C_InvalidWish, false), (C_NotAllowed, false), (C_Turned, false), (C_Unlike, false), (C_Circular, false), (C_Barred, false), (C_ParseError, false), (C_UnknownCommand, false), (C_NoItem, false), (C_NoStation, false), (C_NoDuct, false), (C_NoName, false), (C_NoFibre, false), (C_TooMany, false), (C_TooWide, false), (C_TooNarrow, false), (C_NothingToUndo, false)] : List (Addr × Bool)).all fun q => PySem.W.kitOne K (.ref q.1) (.ref C_InvalidNet) == some q.2) = true
  ki_InvalidWish : (([(C_InvalidNet, false), (C_InvalidRoute, false), (C_TooFar, false), (C_InvalidBand, false), (C_InvalidLayout, false), (C_InvalidWish, true), (C_NotAllowed, false), (C_Turned, false), (C_Unlike, false), (C_Circular, false), (C_Barred, false), (C_ParseError, false), (C_UnknownCommand, false), (C_NoItem, false), (C_NoStation, false), (C_NoDuct, false), (C_NoName, false), (C_NoFibre, false), (C_TooMany, false), (C_TooWide, false), (C_TooNarrow, false), (C_NothingToUndo, false)] : List (Addr × Bool)).all fun q => PySem.W.kitOne K (.ref q.1) (.ref C_InvalidWish) == some q.2) = true
  ki_InvalidLayout : (([(C_InvalidNet, false), (C_InvalidRoute, false), (C_TooFar, false), (C_InvalidBand, false), (C_InvalidLayout, true), (C_InvalidWish, false), (C_NotAllowed, false), (C_Turned, false), (C_Unlike, false), (C_Circular, false), (C_Barred, false), (C_ParseError, false), (C_UnknownCommand, false), (C_NoItem, false), (C_NoStation, false), (C_NoDuct, false), (C_NoName, false), (C_NoFibre, false), (C_TooMany, false), (C_TooWide, false), (C_TooNarrow, false), (C_NothingToUndo, false)] : List (Addr × Bool)).all fun q => PySem.W.kitOne K (.ref q.1) (.ref C_InvalidLayout) == some q.2) = true
  ki_InvalidBand : (([(C_InvalidNet, false), (C_InvalidRoute, false), (C_TooFar, false), (C_InvalidBand, true), (C_InvalidLayout, false), (C_InvalidWish, false), (C_NotAllowed, false), (C_Turned, false), (C_Unlike, false), (C_Circular, false), (C_Barred, false), (C_ParseError, false), (C_UnknownCommand, false), (C_NoItem, false), (C_NoStation, false), (C_NoDuct, false), (C_NoName, false), (C_NoFibre, false), (C_TooMany, false), (C_TooWide, false), (C_TooNarrow, false), (C_NothingToUndo, false)] : List (Addr × Bool)).all fun q => PySem.W.kitOne K (.ref q.1) (.ref C_InvalidBand) == some q.2) = true
  ki_Unlike : (([(C_InvalidNet, false), (C_InvalidRoute, false), (C_TooFar, false), (C_InvalidBand, false), (C_InvalidLayout, false), (C_InvalidWish, false), (C_NotAllowed, false), (C_Turned, false), (C_Unlike, true), (C_Circular, false), (C_Barred, false), (C_ParseError, false), (C_UnknownCommand, false), (C_NoItem, false), (C_NoStation, false), (C_NoDuct, false), (C_NoName, false), (C_NoFibre, false), (C_TooMany, false), (C_TooWide, false), (C_TooNarrow, false), (C_NothingToUndo, false)] : List (Addr × Bool)).all fun q => PySem.W.kitOne K (.ref q.1) (.ref C_Unlike) == some q.2) = true
  ki_Turned : (([(C_InvalidNet, false), (C_InvalidRoute, false), (C_TooFar, false), (C_InvalidBand, false), (C_InvalidLayout, false), (C_InvalidWish, false), (C_NotAllowed, false), (C_Turned, true), (C_Unlike, false), (C_Circular, false), (C_Barred, false), (C_ParseError, false), (C_UnknownCommand, false), (C_NoItem, false), (C_NoStation, false), (C_NoDuct, false), (C_NoName, false), (C_NoFibre, false), (C_TooMany, false), (C_TooWide, false), (C_TooNarrow, false), (C_NothingToUndo, false)] : List (Addr × Bool)).all fun q => PySem.W.kitOne K (.ref q.1) (.ref C_Turned) == some q.2) = true
  ki_NotAllowed : (([(C_InvalidNet, false), (C_InvalidRoute, false), (C_TooFar, false), (C_InvalidBand, false), (C_InvalidLayout, false), (C_InvalidWish, false), (C_NotAllowed, true), (C_Turned, false), (C_Unlike, false), (C_Circular, false), (C_Barred, false), (C_ParseError, false), (C_UnknownCommand, false), (C_NoItem, false), (C_NoStation, false), (C_NoDuct, false), (C_NoName, false), (C_NoFibre, false), (C_TooMany, false), (C_TooWide, false), (C_TooNarrow, false), (C_NothingToUndo, false)] : List (Addr × Bool)).all fun q => PySem.W.kitOne K (.ref q.1) (.ref C_NotAllowed) == some q.2) = true
  ki_ParseError : (([(C_InvalidNet, false), (C_InvalidRoute, false), (C_TooFar, false), (C_InvalidBand, false), (C_InvalidLayout, false), (C_InvalidWish, false), (C_NotAllowed, false), (C_Turned, false), (C_Unlike, false), (C_Circular, false), (C_Barred, false), (C_ParseError, true), (C_UnknownCommand, false), (C_NoItem, false), (C_NoStation, false), (C_NoDuct, false), (C_NoName, false), (C_NoFibre, false), (C_TooMany, false), (C_TooWide, false), (C_TooNarrow, false), (C_NothingToUndo, false)] : List (Addr × Bool)).all fun q => PySem.W.kitOne K (.ref q.1) (.ref C_ParseError) == some q.2) = true
  ki_Barred : (([(C_InvalidNet, false), (C_InvalidRoute, false), (C_TooFar, false), (C_InvalidBand, false), (C_InvalidLayout, false), (C_InvalidWish, false), (C_NotAllowed, false), (C_Turned, false), (C_Unlike, false), (C_Circular, false), (C_Barred, true), (C_ParseError, false), (C_UnknownCommand, false), (C_NoItem, false), (C_NoStation, false), (C_NoDuct, false), (C_NoName, false), (C_NoFibre, false), (C_TooMany, false), (C_TooWide, false), (C_TooNarrow, false), (C_NothingToUndo, false)] : List (Addr × Bool)).all fun q => PySem.W.kitOne K (.ref q.1) (.ref C_Barred) == some q.2) = true
  ki_Circular : (([(C_InvalidNet, false), (C_InvalidRoute, false), (C_TooFar, false), (C_InvalidBand, false), (C_InvalidLayout, false), (C_InvalidWish, false), (C_NotAllowed, false), (C_Turned, false), (C_Unlike, false), (C_Circular, true), (C_Barred, false), (C_ParseError, false), (C_UnknownCommand, false), (C_NoItem, false), (C_NoStation, false), (C_NoDuct, false), (C_NoName, false), (C_NoFibre, false), (C_TooMany, false), (C_TooWide, false), (C_TooNarrow, false), (C_NothingToUndo, false)] : List (Addr × Bool)).all fun q => PySem.W.kitOne K (.ref q.1) (.ref C_Circular) == some q.2) = true
  ki_NoStation : (([(C_InvalidNet, false), (C_InvalidRoute, false), (C_TooFar, false), (C_InvalidBand, false), (C_InvalidLayout, false), (C_InvalidWish, false), (C_NotAllowed, false), (C_Turned, false), (C_Unlike, false), (C_Circular, false), (C_Barred, false), (C_ParseError, false), (C_UnknownCommand, false), (C_NoItem, false), (C_NoStation, true), (C_NoDuct, false), (C_NoName, false), (C_NoFibre, false), (C_TooMany, false), (C_TooWide, false), (C_TooNarrow, false), (C_NothingToUndo, false)] : List (Addr × Bool)).all fun q => PySem.W.kitOne K (.ref q.1) (.ref C_NoStation) == some q.2) = true
  ki_NoItem : (([(C_InvalidNet, false), (C_InvalidRoute, false), (C_TooFar, false), (C_InvalidBand, false), (C_InvalidLayout, false), (C_InvalidWish, false), (C_NotAllowed, false), (C_Turned, false), (C_Unlike, false), (C_Circular, false), (C_Barred, false), (C_ParseError, false), (C_UnknownCommand, false), (C_NoItem, true), (C_NoStation, false), (C_NoDuct, false), (C_NoName, false), (C_NoFibre, false), (C_TooMany, false), (C_TooWide, false), (C_TooNarrow, false), (C_NothingToUndo, false)] : List (Addr × Bool)).all fun q => PySem.W.kitOne K (.ref q.1) (.ref C_NoItem) == some q.2) = true
  ki_UnknownCommand : (([(C_InvalidNet, false), (C_InvalidRoute, false), (C_TooFar, false), (C_InvalidBand, false), (C_InvalidLayout, false), (C_InvalidWish, false), (C_NotAllowed, false), (C_Turned, false), (C_Unlike, false), (C_Circular, false), (C_Barred, false), (C_ParseError, false), (C_UnknownCommand, true), (C_NoItem, false), (C_NoStation, false), (C_NoDuct, false), (C_NoName, false), (C_NoFibre, false), (C_TooMany, false), (C_TooWide, false), (C_TooNarrow, false), (C_NothingToUndo, false)] : List (Addr × Bool)).all fun q => PySem.W.kitOne K (.ref q.1) (.ref C_UnknownCommand) == some q.2) = true
  ki_NoFibre : (([(C_InvalidNet, false), (C_InvalidRoute, false), (C_TooFar, false), (C_InvalidBand, false), (C_InvalidLayout, false), (C_InvalidWish, false), (C_NotAllowed, false), (C_Turned, false), (C_Unlike, false), (C_Circular, false), (C_Barred, false), (C_ParseError, false), (C_UnknownCommand, false), (C_NoItem, false), (C_NoStation, false), (C_NoDuct, false), (C_NoName, false), (C_NoFibre, true), (C_TooMany, false), (C_TooWide, false), (C_TooNarrow, false), (C_NothingToUndo, false)] : List (Addr × Bool)).all fun q => PySem.W.kitOne K (.ref q.1) (.ref C_NoFibre) == some q.2) = true
  ki_NoName : (([(C_InvalidNet, false), (C_InvalidRoute, false), (C_TooFar, false), (C_InvalidBand, false), (C_InvalidLayout, false), (C_InvalidWish, false), (C_NotAllowed, false), (C_Turned, false), (C_Unlike, false), (C_Circular, false), (C_Barred, false), (C_ParseError, false), (C_UnknownCommand, false), (C_NoItem, false), (C_NoStation, false), (C_NoDuct, false), (C_NoName, true), (C_NoFibre, false), (C_TooMany, false), (C_TooWide, false), (C_TooNarrow, false), (C_NothingToUndo, false)] : List (Addr × Bool)).all fun q => PySem.W.kitOne K (.ref q.1) (.ref C_NoName) == some q.2) = true
  ki_NoDuct : (([(C_InvalidNet, false), (C_InvalidRoute, false), (C_TooFar, false), (C_InvalidBand, false), (C_InvalidLayout, false), (C_InvalidWish, false), (C_NotAllowed, false), (C_Turned, false), (C_Unlike, false), (C_Circular, false), (C_Barred, false), (C_ParseError, false), (C_UnknownCommand, false), (C_NoItem, false), (C_NoStation, false), (C_NoDuct, true), (C_NoName, false), (C_NoFibre, false), (C_TooMany, false), (C_TooWide, false), (C_TooNarrow, false), (C_NothingToUndo, false)] : List (Addr × Bool)).all fun q => PySem.W.kitOne K (.ref q.1) (.ref C_NoDuct) == some q.2) = true
  ki_TooNarrow : (([(C_InvalidNet, false), (C_InvalidRoute, false), (C_TooFar, false), (C_InvalidBand, false), (C_InvalidLayout, false), (C_InvalidWish, false), (C_NotAllowed, false), (C_Turned, false), (C_Unlike, false), (C_Circular, false), (C_Barred, false), (C_ParseError, false), (C_UnknownCommand, false), (C_NoItem, false), (C_NoStation, false), (C_NoDuct, false), (C_NoName, false), (C_NoFibre, false), (C_TooMany, false), (C_TooWide, false), (C_TooNarrow, true), (C_NothingToUndo, false)] : List (Addr × Bool)).all fun q => PySem.W.kitOne K (.ref q.1) (.ref C_TooNarrow) == some q.2) = true
  ki_TooWide : (([(C_InvalidNet, false), (C_InvalidRoute, false), (C_TooFar, false), (C_InvalidBand, false), (C_InvalidLayout, false), (C_InvalidWish, false), (C_NotAllowed, false), (C_Turned, false), (C_Unlike, false), (C_Circular, false), (C_Barred, false), (C_ParseError, false), (C_UnknownCommand, false), (C_NoItem, false), (C_NoStation, false), (C_NoDuct, false), (C_NoName, false), (C_NoFibre, false), (C_TooMany, false), (C_TooWide, true), (C_TooNarrow, false), (C_NothingToUndo, false)] : List (Addr × Bool)).all fun q => PySem.W.kitOne K (.ref q.1) (.ref C_TooWide) == some q.2) = true
  ki_TooMany : (([(C_InvalidNet, false), (C_InvalidRoute, false), (C_TooFar, false), (C_InvalidBand, false), (C_InvalidLayout, false), (C_InvalidWish, false), (C_NotAllowed, false), (C_Turned, false), (C_Unlike, false), (C_Circular, false), (C_Barred, false), (C_ParseError, false), (C_UnknownCommand, false), (C_NoItem, false), (C_NoStation, false), (C_NoDuct, false), (C_NoName, false), (C_NoFibre, false), (C_TooMany, true), (C_TooWide, false), (C_TooNarrow, false), (C_NothingToUndo, false)] : List (Addr × Bool)).all fun q => PySem.W.kitOne K (.ref q.1) (.ref C_TooMany) == some q.2) = true
  ki_NothingToUndo : (([(C_InvalidNet, false), (C_InvalidRoute, false), (C_TooFar, false), (C_InvalidBand, false), (C_InvalidLayout, false), (C_InvalidWish, false), (C_NotAllowed, false), (C_Turned, false), (C_Unlike, false), (C_Circular, false), (C_Barred, false), (C_ParseError, false), (C_UnknownCommand, false), (C_NoItem, false), (C_NoStation, false), (C_NoDuct, false), (C_NoName, false), (C_NoFibre, false), (C_TooMany, false), (C_TooWide, false), (C_TooNarrow, false), (C_NothingToUndo, true)] : List (Addr × Bool)).all fun q => PySem.W.kitOne K (.ref q.1) (.ref C_NothingToUndo) == some q.2) = true
  ki_KeyError : (([(C_InvalidNet, false), (C_InvalidRoute, false), (C_TooFar, false), (C_InvalidBand, false), (C_InvalidLayout, false), (C_InvalidWish, false), (C_NotAllowed, false), (C_Turned, false), (C_Unlike, false), (C_Circular, false), (C_Barred, false), (C_ParseError, false), (C_UnknownCommand, false), (C_NoItem, true), (C_NoStation, true), (C_NoDuct, true), (C_NoName, true), (C_NoFibre, false), (C_TooMany, false), (C_TooWide, false), (C_TooNarrow, false), (C_NothingToUndo, false)] : List (Addr × Bool)).all fun q => PySem.W.kitOne K (.ref q.1) (.type "KeyError") == some q.2) = true
  ki_ValueError : (([(C_InvalidNet, true), (C_InvalidRoute, true), (C_TooFar, true), (C_InvalidBand, true), (C_InvalidLayout, true), (C_InvalidWish, true), (C_NotAllowed, true), (C_Turned, true), (C_Unlike, true), (C_Circular, true), (C_Barred, true), (C_ParseError, true), (C_UnknownCommand, true), (C_NoItem, false), (C_NoStation, false), (C_NoDuct, false), (C_NoName, false), (C_NoFibre, false), (C_TooMany, false), (C_TooWide, false), (C_TooNarrow, false), (C_NothingToUndo, false)] : List (Addr × Bool)).all fun q => PySem.W.kitOne K (.ref q.1) (.type "ValueError") == some q.2) = true
  ki_LightError : (([(C_InvalidNet, true), (C_InvalidRoute, true), (C_TooFar, true), (C_InvalidBand, true), (C_InvalidLayout, true), (C_InvalidWish, true), (C_NotAllowed, true), (C_Turned, true), (C_Unlike, true), (C_Circular, true), (C_Barred, true), (C_ParseError, true), (C_UnknownCommand, true), (C_NoItem, false), (C_NoStation, false), (C_NoDuct, false), (C_NoName, false), (C_NoFibre, false), (C_TooMany, false), (C_TooWide, false), (C_TooNarrow, false), (C_NothingToUndo, false)] : List (Addr × Bool)).all fun q => PySem.W.kitOne K (.ref q.1) (.ref C_LightError) == some q.2) = true
  ki_LookupError : (([(C_InvalidNet, false), (C_InvalidRoute, false), (C_TooFar, false), (C_InvalidBand, false), (C_InvalidLayout, false), (C_InvalidWish, false), (C_NotAllowed, false), (C_Turned, false), (C_Unlike, false), (C_Circular, false), (C_Barred, false), (C_ParseError, false), (C_UnknownCommand, false), (C_NoItem, true), (C_NoStation, true), (C_NoDuct, true), (C_NoName, true), (C_NoFibre, true), (C_TooMany, false), (C_TooWide, false), (C_TooNarrow, false), (C_NothingToUndo, true)] : List (Addr × Bool)).all fun q => PySem.W.kitOne K (.ref q.1) (.type "LookupError") == some q.2) = true
  ki_OverflowError : (([(C_InvalidNet, false), (C_InvalidRoute, false), (C_TooFar, false), (C_InvalidBand, false), (C_InvalidLayout, false), (C_InvalidWish, false), (C_NotAllowed, false), (C_Turned, false), (C_Unlike, false), (C_Circular, false), (C_Barred, false), (C_ParseError, false), (C_UnknownCommand, false), (C_NoItem, false), (C_NoStation, false), (C_NoDuct, false), (C_NoName, false), (C_NoFibre, false), (C_TooMany, true), (C_TooWide, true), (C_TooNarrow, true), (C_NothingToUndo, false)] : List (Addr × Bool)).all fun q => PySem.W.kitOne K (.ref q.1) (.type "OverflowError") == some q.2) = true
  ki_IndexError : (([(C_InvalidNet, false), (C_InvalidRoute, false), (C_TooFar, false), (C_InvalidBand, false), (C_InvalidLayout, false), (C_InvalidWish, false), (C_NotAllowed, false), (C_Turned, false), (C_Unlike, false), (C_Circular, false), (C_Barred, false), (C_ParseError, false), (C_UnknownCommand, false), (C_NoItem, false), (C_NoStation, false), (C_NoDuct, false), (C_NoName, false), (C_NoFibre, true), (C_TooMany, false), (C_TooWide, false), (C_TooNarrow, false), (C_NothingToUndo, false)] : List (Addr × Bool)).all fun q => PySem.W.kitOne K (.ref q.1) (.type "IndexError") == some q.2) = true
theorem sh_InvalidNet : Shape2 "word" "index" "InvalidNet.__init__" (clsS 15 0) := ⟨⟨_, _, _, _, _, _, _, _, _, _, _, _, _, _, _, rfl, ⟨_, fun _ _ _ _ => rfl⟩, fun _ _ _ _ => rfl, fun _ _ _ _ => rfl⟩, rfl, rfl, rfl, rfl, fun _ _ _ _ _ _ _ _ _ _ _ => rfl, by decide, by decide, by decide, by decide, by decide⟩
theorem sh_InvalidLayout : Shape2 "word" "item" "InvalidLayout.__init__" (clsS 19 0) := ⟨⟨_, _, _, _, _, _, _, _, _, _, _, _, _, _, _, rfl, ⟨_, fun _ _ _ _ => rfl⟩, fun _ _ _ _ => rfl, fun _ _ _ _ => rfl⟩, rfl, rfl, rfl, rfl, fun _ _ _ _ _ _ _ _ _ _ _ => rfl, by decide, by decide, by decide, by decide, by decide⟩
theorem sh_NotAllowed : Shape2 "index" "word" "NotAllowed.__init__" (clsS 21 0) := ⟨⟨_, _, _, _, _, _, _, _, _, _, _, _, _, _, _, rfl, ⟨_, fun _ _ _ _ => rfl⟩, fun _ _ _ _ => rfl, fun _ _ _ _ => rfl⟩, rfl, rfl, rfl, rfl, fun _ _ _ _ _ _ _ _ _ _ _ => rfl, by decide, by decide, by decide, by decide, by decide⟩
theorem sh_Turned : Shape2 "lower" "upper" "Turned.__init__" (clsS 22 0) := ⟨⟨_, _, _, _, _, _, _, _, _, _, _, _, _, _, _, rfl, ⟨_, fun _ _ _ _ => rfl⟩, fun _ _ _ _ => rfl, fun _ _ _ _ => rfl⟩, rfl, rfl, rfl, rfl, fun _ _ _ _ _ _ _ _ _ _ _ => rfl, by decide, by decide, by decide, by decide, by decide⟩
theorem sh_ParseError : Shape2 "line" "word" "ParseError.__init__" (clsS 26 0) := ⟨⟨_, _, _, _, _, _, _, _, _, _, _, _, _, _, _, rfl, ⟨_, fun _ _ _ _ => rfl⟩, fun _ _ _ _ => rfl, fun _ _ _ _ => rfl⟩, rfl, rfl, rfl, rfl, fun _ _ _ _ _ _ _ _ _ _ _ => rfl, by decide, by decide, by decide, by decide, by decide⟩
theorem sh_InvalidRoute : Shape1 "value" "InvalidRoute.__init__" (clsS 16 0) := ⟨⟨_, _, _, _, _, _, _, _, _, _, rfl, ⟨_, fun _ _ _ _ => rfl⟩, fun _ _ _ _ => rfl⟩, rfl, rfl, rfl, fun _ _ _ _ _ _ _ _ _ _ => rfl, by decide, by decide⟩
theorem sh_TooFar : Shape1 "length" "TooFar.__init__" (clsS 17 0) := ⟨⟨_, _, _, _, _, _, _, _, _, _, rfl, ⟨_, fun _ _ _ _ => rfl⟩, fun _ _ _ _ => rfl⟩, rfl, rfl, rfl, fun _ _ _ _ _ _ _ _ _ _ => rfl, by decide, by decide⟩
theorem sh_InvalidBand : Shape1 "value" "InvalidBand.__init__" (clsS 18 0) := ⟨⟨_, _, _, _, _, _, _, _, _, _, rfl, ⟨_, fun _ _ _ _ => rfl⟩, fun _ _ _ _ => rfl⟩, rfl, rfl, rfl, fun _ _ _ _ _ _ _ _ _ _ => rfl, by decide, by decide⟩
theorem sh_InvalidWish : Shape1 "word" "InvalidWish.__init__" (clsS 20 0) := ⟨⟨_, _, _, _, _, _, _, _, _, _, rfl, ⟨_, fun _ _ _ _ => rfl⟩, fun _ _ _ _ => rfl⟩, rfl, rfl, rfl, fun _ _ _ _ _ _ _ _ _ _ => rfl, by decide, by decide⟩
theorem sh_Unlike : Shape1 "item" "Unlike.__init__" (clsS 23 0) := ⟨⟨_, _, _, _, _, _, _, _, _, _, rfl, ⟨_, fun _ _ _ _ => rfl⟩, fun _ _ _ _ => rfl⟩, rfl, rfl, rfl, fun _ _ _ _ _ _ _ _ _ _ => rfl, by decide, by decide⟩
theorem sh_Circular : Shape1 "ring" "Circular.__init__" (clsS 24 0) := ⟨⟨_, _, _, _, _, _, _, _, _, _, rfl, ⟨_, fun _ _ _ _ => rfl⟩, fun _ _ _ _ => rfl⟩, rfl, rfl, rfl, fun _ _ _ _ _ _ _ _ _ _ => rfl, by decide, by decide⟩
theorem sh_Barred : Shape1 "certificate" "Barred.__init__" (clsS 25 0) := ⟨⟨_, _, _, _, _, _, _, _, _, _, rfl, ⟨_, fun _ _ _ _ => rfl⟩, fun _ _ _ _ => rfl⟩, rfl, rfl, rfl, fun _ _ _ _ _ _ _ _ _ _ => rfl, by decide, by decide⟩
theorem sh_UnknownCommand : Shape1 "command" "UnknownCommand.__init__" (clsS 27 0) := ⟨⟨_, _, _, _, _, _, _, _, _, _, rfl, ⟨_, fun _ _ _ _ => rfl⟩, fun _ _ _ _ => rfl⟩, rfl, rfl, rfl, fun _ _ _ _ _ _ _ _ _ _ => rfl, by decide, by decide⟩
theorem sh_NoItem : Shape1 "item" "NoItem.__init__" (clsS 28 0) := ⟨⟨_, _, _, _, _, _, _, _, _, _, rfl, ⟨_, fun _ _ _ _ => rfl⟩, fun _ _ _ _ => rfl⟩, rfl, rfl, rfl, fun _ _ _ _ _ _ _ _ _ _ => rfl, by decide, by decide⟩
theorem sh_NoStation : Shape1 "name" "NoStation.__init__" (clsS 29 0) := ⟨⟨_, _, _, _, _, _, _, _, _, _, rfl, ⟨_, fun _ _ _ _ => rfl⟩, fun _ _ _ _ => rfl⟩, rfl, rfl, rfl, fun _ _ _ _ _ _ _ _ _ _ => rfl, by decide, by decide⟩
theorem sh_NoDuct : Shape1 "name" "NoDuct.__init__" (clsS 30 0) := ⟨⟨_, _, _, _, _, _, _, _, _, _, rfl, ⟨_, fun _ _ _ _ => rfl⟩, fun _ _ _ _ => rfl⟩, rfl, rfl, rfl, fun _ _ _ _ _ _ _ _ _ _ => rfl, by decide, by decide⟩
theorem sh_NoName : Shape1 "name" "NoName.__init__" (clsS 31 0) := ⟨⟨_, _, _, _, _, _, _, _, _, _, rfl, ⟨_, fun _ _ _ _ => rfl⟩, fun _ _ _ _ => rfl⟩, rfl, rfl, rfl, fun _ _ _ _ _ _ _ _ _ _ => rfl, by decide, by decide⟩
theorem sh_NoFibre : Shape1 "index" "NoFibre.__init__" (clsS 32 0) := ⟨⟨_, _, _, _, _, _, _, _, _, _, rfl, ⟨_, fun _ _ _ _ => rfl⟩, fun _ _ _ _ => rfl⟩, rfl, rfl, rfl, fun _ _ _ _ _ _ _ _ _ _ => rfl, by decide, by decide⟩
theorem sh_TooMany : Shape1 "limit" "TooMany.__init__" (clsS 33 0) := ⟨⟨_, _, _, _, _, _, _, _, _, _, rfl, ⟨_, fun _ _ _ _ => rfl⟩, fun _ _ _ _ => rfl⟩, rfl, rfl, rfl, fun _ _ _ _ _ _ _ _ _ _ => rfl, by decide, by decide⟩
theorem sh_TooWide : Shape1 "limit" "TooWide.__init__" (clsS 34 0) := ⟨⟨_, _, _, _, _, _, _, _, _, _, rfl, ⟨_, fun _ _ _ _ => rfl⟩, fun _ _ _ _ => rfl⟩, rfl, rfl, rfl, fun _ _ _ _ _ _ _ _ _ _ => rfl, by decide, by decide⟩
theorem sh_TooNarrow : Shape1 "needed" "TooNarrow.__init__" (clsS 35 0) := ⟨⟨_, _, _, _, _, _, _, _, _, _, rfl, ⟨_, fun _ _ _ _ => rfl⟩, fun _ _ _ _ => rfl⟩, rfl, rfl, rfl, fun _ _ _ _ _ _ _ _ _ _ => rfl, by decide, by decide⟩
theorem sh_NothingToUndo : Shape1 "count" "NothingToUndo.__init__" (clsS 36 0) := ⟨⟨_, _, _, _, _, _, _, _, _, _, rfl, ⟨_, fun _ _ _ _ => rfl⟩, fun _ _ _ _ => rfl⟩, rfl, rfl, rfl, fun _ _ _ _ _ _ _ _ _ _ => rfl, by decide, by decide⟩
theorem bk_InvalidNet : BindE ["word", "index"] "InvalidNet.__init__" (clsS 15 0) := fun w us rest kw hl hb => by
  match us, hl with
  | [u0, u1], _ => rcases hb with ⟨rfl, rfl⟩ | ⟨rfl, rfl⟩ | ⟨rfl, rfl⟩ <;> exact fun _ _ _ _ _ _ _ _ => rfl
theorem bk_InvalidLayout : BindE ["word", "item"] "InvalidLayout.__init__" (clsS 19 0) := fun w us rest kw hl hb => by
  match us, hl with
  | [u0, u1], _ => rcases hb with ⟨rfl, rfl⟩ | ⟨rfl, rfl⟩ | ⟨rfl, rfl⟩ <;> exact fun _ _ _ _ _ _ _ _ => rfl
theorem bk_NotAllowed : BindE ["index", "word"] "NotAllowed.__init__" (clsS 21 0) := fun w us rest kw hl hb => by
  match us, hl with
  | [u0, u1], _ => rcases hb with ⟨rfl, rfl⟩ | ⟨rfl, rfl⟩ | ⟨rfl, rfl⟩ <;> exact fun _ _ _ _ _ _ _ _ => rfl
theorem bk_Turned : BindE ["lower", "upper"] "Turned.__init__" (clsS 22 0) := fun w us rest kw hl hb => by
  match us, hl with
  | [u0, u1], _ => rcases hb with ⟨rfl, rfl⟩ | ⟨rfl, rfl⟩ | ⟨rfl, rfl⟩ <;> exact fun _ _ _ _ _ _ _ _ => rfl
theorem bk_ParseError : BindE ["line", "word"] "ParseError.__init__" (clsS 26 0) := fun w us rest kw hl hb => by
  match us, hl with
  | [u0, u1], _ => rcases hb with ⟨rfl, rfl⟩ | ⟨rfl, rfl⟩ | ⟨rfl, rfl⟩ <;> exact fun _ _ _ _ _ _ _ _ => rfl
theorem bk_InvalidRoute : BindE ["value"] "InvalidRoute.__init__" (clsS 16 0) := fun w us rest kw hl hb => by
  match us, hl with
  | [u0], _ => rcases hb with ⟨rfl, rfl⟩ | ⟨rfl, rfl⟩ | ⟨rfl, rfl⟩ <;> exact fun _ _ _ _ _ _ _ _ => rfl
theorem bk_TooFar : BindE ["length"] "TooFar.__init__" (clsS 17 0) := fun w us rest kw hl hb => by
  match us, hl with
  | [u0], _ => rcases hb with ⟨rfl, rfl⟩ | ⟨rfl, rfl⟩ | ⟨rfl, rfl⟩ <;> exact fun _ _ _ _ _ _ _ _ => rfl
theorem bk_InvalidBand : BindE ["value"] "InvalidBand.__init__" (clsS 18 0) := fun w us rest kw hl hb => by
  match us, hl with
  | [u0], _ => rcases hb with ⟨rfl, rfl⟩ | ⟨rfl, rfl⟩ | ⟨rfl, rfl⟩ <;> exact fun _ _ _ _ _ _ _ _ => rfl
theorem bk_InvalidWish : BindE ["word"] "InvalidWish.__init__" (clsS 20 0) := fun w us rest kw hl hb => by
  match us, hl with
  | [u0], _ => rcases hb with ⟨rfl, rfl⟩ | ⟨rfl, rfl⟩ | ⟨rfl, rfl⟩ <;> exact fun _ _ _ _ _ _ _ _ => rfl
theorem bk_Unlike : BindE ["item"] "Unlike.__init__" (clsS 23 0) := fun w us rest kw hl hb => by
  match us, hl with
  | [u0], _ => rcases hb with ⟨rfl, rfl⟩ | ⟨rfl, rfl⟩ | ⟨rfl, rfl⟩ <;> exact fun _ _ _ _ _ _ _ _ => rfl
theorem bk_Circular : BindE ["ring"] "Circular.__init__" (clsS 24 0) := fun w us rest kw hl hb => by
  match us, hl with
  | [u0], _ => rcases hb with ⟨rfl, rfl⟩ | ⟨rfl, rfl⟩ | ⟨rfl, rfl⟩ <;> exact fun _ _ _ _ _ _ _ _ => rfl
theorem bk_Barred : BindE ["certificate"] "Barred.__init__" (clsS 25 0) := fun w us rest kw hl hb => by
  match us, hl with
  | [u0], _ => rcases hb with ⟨rfl, rfl⟩ | ⟨rfl, rfl⟩ | ⟨rfl, rfl⟩ <;> exact fun _ _ _ _ _ _ _ _ => rfl
theorem bk_UnknownCommand : BindE ["command"] "UnknownCommand.__init__" (clsS 27 0) := fun w us rest kw hl hb => by
  match us, hl with
  | [u0], _ => rcases hb with ⟨rfl, rfl⟩ | ⟨rfl, rfl⟩ | ⟨rfl, rfl⟩ <;> exact fun _ _ _ _ _ _ _ _ => rfl
theorem bk_NoItem : BindE ["item"] "NoItem.__init__" (clsS 28 0) := fun w us rest kw hl hb => by
  match us, hl with
  | [u0], _ => rcases hb with ⟨rfl, rfl⟩ | ⟨rfl, rfl⟩ | ⟨rfl, rfl⟩ <;> exact fun _ _ _ _ _ _ _ _ => rfl
theorem bk_NoStation : BindE ["name"] "NoStation.__init__" (clsS 29 0) := fun w us rest kw hl hb => by
  match us, hl with
  | [u0], _ => rcases hb with ⟨rfl, rfl⟩ | ⟨rfl, rfl⟩ | ⟨rfl, rfl⟩ <;> exact fun _ _ _ _ _ _ _ _ => rfl
theorem bk_NoDuct : BindE ["name"] "NoDuct.__init__" (clsS 30 0) := fun w us rest kw hl hb => by
  match us, hl with
  | [u0], _ => rcases hb with ⟨rfl, rfl⟩ | ⟨rfl, rfl⟩ | ⟨rfl, rfl⟩ <;> exact fun _ _ _ _ _ _ _ _ => rfl
theorem bk_NoName : BindE ["name"] "NoName.__init__" (clsS 31 0) := fun w us rest kw hl hb => by
  match us, hl with
  | [u0], _ => rcases hb with ⟨rfl, rfl⟩ | ⟨rfl, rfl⟩ | ⟨rfl, rfl⟩ <;> exact fun _ _ _ _ _ _ _ _ => rfl
theorem bk_NoFibre : BindE ["index"] "NoFibre.__init__" (clsS 32 0) := fun w us rest kw hl hb => by
  match us, hl with
  | [u0], _ => rcases hb with ⟨rfl, rfl⟩ | ⟨rfl, rfl⟩ | ⟨rfl, rfl⟩ <;> exact fun _ _ _ _ _ _ _ _ => rfl
theorem bk_TooMany : BindE ["limit"] "TooMany.__init__" (clsS 33 0) := fun w us rest kw hl hb => by
  match us, hl with
  | [u0], _ => rcases hb with ⟨rfl, rfl⟩ | ⟨rfl, rfl⟩ | ⟨rfl, rfl⟩ <;> exact fun _ _ _ _ _ _ _ _ => rfl
theorem bk_TooWide : BindE ["limit"] "TooWide.__init__" (clsS 34 0) := fun w us rest kw hl hb => by
  match us, hl with
  | [u0], _ => rcases hb with ⟨rfl, rfl⟩ | ⟨rfl, rfl⟩ | ⟨rfl, rfl⟩ <;> exact fun _ _ _ _ _ _ _ _ => rfl
theorem bk_TooNarrow : BindE ["needed"] "TooNarrow.__init__" (clsS 35 0) := fun w us rest kw hl hb => by
  match us, hl with
  | [u0], _ => rcases hb with ⟨rfl, rfl⟩ | ⟨rfl, rfl⟩ | ⟨rfl, rfl⟩ <;> exact fun _ _ _ _ _ _ _ _ => rfl
theorem bk_NothingToUndo : BindE ["count"] "NothingToUndo.__init__" (clsS 36 0) := fun w us rest kw hl hb => by
  match us, hl with
  | [u0], _ => rcases hb with ⟨rfl, rfl⟩ | ⟨rfl, rfl⟩ | ⟨rfl, rfl⟩ <;> exact fun _ _ _ _ _ _ _ _ => rfl
abbrev xt_TooFar : List (Str × Bool) := [("InvalidNet", false), ("InvalidRoute", false), ("TooFar", true), ("InvalidBand", false), ("InvalidLayout", false), ("InvalidWish", false), ("NotAllowed", false), ("Turned", false), ("Unlike", false), ("Circular", false), ("Barred", false), ("ParseError", false), ("UnknownCommand", false), ("NoItem", false), ("NoStation", false), ("NoDuct", false), ("NoName", false), ("NoFibre", false), ("TooMany", false), ("TooWide", false), ("TooNarrow", false), ("NothingToUndo", false)]
abbrev xt_InvalidRoute : List (Str × Bool) := [("InvalidNet", false), ("InvalidRoute", true), ("TooFar", false), ("InvalidBand", false), ("InvalidLayout", false), ("InvalidWish", false), ("NotAllowed", false), ("Turned", false), ("Unlike", false), ("Circular", false), ("Barred", false), ("ParseError", false), ("UnknownCommand", false), ("NoItem", false), ("NoStation", false), ("NoDuct", false), ("NoName", false), ("NoFibre", false), ("TooMany", false), ("TooWide", false), ("TooNarrow", false), ("NothingToUndo", false)]
abbrev xt_InvalidNet : List (Str × Bool) := [("InvalidNet", true), ("InvalidRoute", false), ("TooFar", false), ("InvalidBand", false), ("InvalidLayout", false), ("InvalidWish", false), ("NotAllowed", false), ("Turned", false), ("Unlike", false), ("Circular", false), ("Barred", false), ("ParseError", false), ("UnknownCommand", false), ("NoItem", false), ("NoStation", false), ("NoDuct", false), ("NoName", false), ("NoFibre", false), ("TooMany", false), ("TooWide", false), ("TooNarrow", false), ("NothingToUndo", false)]
abbrev xt_InvalidWish : List (Str × Bool) := [("InvalidNet", false), ("InvalidRoute", false), ("TooFar", false), ("InvalidBand", false), ("InvalidLayout", false), ("InvalidWish", true), ("NotAllowed", false), ("Turned", false), ("Unlike", false), ("Circular", false), ("Barred", false), ("ParseError", false), ("UnknownCommand", false), ("NoItem", false), ("NoStation", false), ("NoDuct", false), ("NoName", false), ("NoFibre", false), ("TooMany", false), ("TooWide", false), ("TooNarrow", false), ("NothingToUndo", false)]
abbrev xt_InvalidLayout : List (Str × Bool) := [("InvalidNet", false), ("InvalidRoute", false), ("TooFar", false), ("InvalidBand", false), ("InvalidLayout", true), ("InvalidWish", false), ("NotAllowed", false), ("Turned", false), ("Unlike", false), ("Circular", false), ("Barred", false), ("ParseError", false), ("UnknownCommand", false), ("NoItem", false), ("NoStation", false), ("NoDuct", false), ("NoName", false), ("NoFibre", false), ("TooMany", false), ("TooWide", false), ("TooNarrow", false), ("NothingToUndo", false)]
abbrev xt_InvalidBand : List (Str × Bool) := [("InvalidNet", false), ("InvalidRoute", false), ("TooFar", false), ("InvalidBand", true), ("InvalidLayout", false), ("InvalidWish", false), ("NotAllowed", false), ("Turned", false), ("Unlike", false), ("Circular", false), ("Barred", false), ("ParseError", false), ("UnknownCommand", false), ("NoItem", false), ("NoStation", false), ("NoDuct", false), ("NoName", false), ("NoFibre", false), ("TooMany", false), ("TooWide", false), ("TooNarrow", false), ("NothingToUndo", false)]
abbrev xt_Unlike : List (Str × Bool) := [("InvalidNet", false), ("InvalidRoute", false), ("TooFar", false), ("InvalidBand", false), ("InvalidLayout", false), ("InvalidWish", false), ("NotAllowed", false), ("Turned", false), ("Unlike", true), ("Circular", false), ("Barred", false), ("ParseError", false), ("UnknownCommand", false), ("NoItem", false), ("NoStation", false), ("NoDuct", false), ("NoName", false), ("NoFibre", false), ("TooMany", false), ("TooWide", false), ("TooNarrow", false), ("NothingToUndo", false)]
abbrev xt_Turned : List (Str × Bool) := [("InvalidNet", false), ("InvalidRoute", false), ("TooFar", false), ("InvalidBand", false), ("InvalidLayout", false), ("InvalidWish", false), ("NotAllowed", false), ("Turned", true), ("Unlike", false), ("Circular", false), ("Barred", false), ("ParseError", false), ("UnknownCommand", false), ("NoItem", false), ("NoStation", false), ("NoDuct", false), ("NoName", false), ("NoFibre", false), ("TooMany", false), ("TooWide", false), ("TooNarrow", false), ("NothingToUndo", false)]
abbrev xt_NotAllowed : List (Str × Bool) := [("InvalidNet", false), ("InvalidRoute", false), ("TooFar", false), ("InvalidBand", false), ("InvalidLayout", false), ("InvalidWish", false), ("NotAllowed", true), ("Turned", false), ("Unlike", false), ("Circular", false), ("Barred", false), ("ParseError", false), ("UnknownCommand", false), ("NoItem", false), ("NoStation", false), ("NoDuct", false), ("NoName", false), ("NoFibre", false), ("TooMany", false), ("TooWide", false), ("TooNarrow", false), ("NothingToUndo", false)]
abbrev xt_ParseError : List (Str × Bool) := [("InvalidNet", false), ("InvalidRoute", false), ("TooFar", false), ("InvalidBand", false), ("InvalidLayout", false), ("InvalidWish", false), ("NotAllowed", false), ("Turned", false), ("Unlike", false), ("Circular", false), ("Barred", false), ("ParseError", true), ("UnknownCommand", false), ("NoItem", false), ("NoStation", false), ("NoDuct", false), ("NoName", false), ("NoFibre", false), ("TooMany", false), ("TooWide", false), ("TooNarrow", false), ("NothingToUndo", false)]
abbrev xt_Barred : List (Str × Bool) := [("InvalidNet", false), ("InvalidRoute", false), ("TooFar", false), ("InvalidBand", false), ("InvalidLayout", false), ("InvalidWish", false), ("NotAllowed", false), ("Turned", false), ("Unlike", false), ("Circular", false), ("Barred", true), ("ParseError", false), ("UnknownCommand", false), ("NoItem", false), ("NoStation", false), ("NoDuct", false), ("NoName", false), ("NoFibre", false), ("TooMany", false), ("TooWide", false), ("TooNarrow", false), ("NothingToUndo", false)]
abbrev xt_Circular : List (Str × Bool) := [("InvalidNet", false), ("InvalidRoute", false), ("TooFar", false), ("InvalidBand", false), ("InvalidLayout", false), ("InvalidWish", false), ("NotAllowed", false), ("Turned", false), ("Unlike", false), ("Circular", true), ("Barred", false), ("ParseError", false), ("UnknownCommand", false), ("NoItem", false), ("NoStation", false), ("NoDuct", false), ("NoName", false), ("NoFibre", false), ("TooMany", false), ("TooWide", false), ("TooNarrow", false), ("NothingToUndo", false)]
abbrev xt_NoStation : List (Str × Bool) := [("InvalidNet", false), ("InvalidRoute", false), ("TooFar", false), ("InvalidBand", false), ("InvalidLayout", false), ("InvalidWish", false), ("NotAllowed", false), ("Turned", false), ("Unlike", false), ("Circular", false), ("Barred", false), ("ParseError", false), ("UnknownCommand", false), ("NoItem", false), ("NoStation", true), ("NoDuct", false), ("NoName", false), ("NoFibre", false), ("TooMany", false), ("TooWide", false), ("TooNarrow", false), ("NothingToUndo", false)]
abbrev xt_NoItem : List (Str × Bool) := [("InvalidNet", false), ("InvalidRoute", false), ("TooFar", false), ("InvalidBand", false), ("InvalidLayout", false), ("InvalidWish", false), ("NotAllowed", false), ("Turned", false), ("Unlike", false), ("Circular", false), ("Barred", false), ("ParseError", false), ("UnknownCommand", false), ("NoItem", true), ("NoStation", false), ("NoDuct", false), ("NoName", false), ("NoFibre", false), ("TooMany", false), ("TooWide", false), ("TooNarrow", false), ("NothingToUndo", false)]
abbrev xt_UnknownCommand : List (Str × Bool) := [("InvalidNet", false), ("InvalidRoute", false), ("TooFar", false), ("InvalidBand", false), ("InvalidLayout", false), ("InvalidWish", false), ("NotAllowed", false), ("Turned", false), ("Unlike", false), ("Circular", false), ("Barred", false), ("ParseError", false), ("UnknownCommand", true), ("NoItem", false), ("NoStation", false), ("NoDuct", false), ("NoName", false), ("NoFibre", false), ("TooMany", false), ("TooWide", false), ("TooNarrow", false), ("NothingToUndo", false)]
abbrev xt_NoFibre : List (Str × Bool) := [("InvalidNet", false), ("InvalidRoute", false), ("TooFar", false), ("InvalidBand", false), ("InvalidLayout", false), ("InvalidWish", false), ("NotAllowed", false), ("Turned", false), ("Unlike", false), ("Circular", false), ("Barred", false), ("ParseError", false), ("UnknownCommand", false), ("NoItem", false), ("NoStation", false), ("NoDuct", false), ("NoName", false), ("NoFibre", true), ("TooMany", false), ("TooWide", false), ("TooNarrow", false), ("NothingToUndo", false)]
abbrev xt_NoName : List (Str × Bool) := [("InvalidNet", false), ("InvalidRoute", false), ("TooFar", false), ("InvalidBand", false), ("InvalidLayout", false), ("InvalidWish", false), ("NotAllowed", false), ("Turned", false), ("Unlike", false), ("Circular", false), ("Barred", false), ("ParseError", false), ("UnknownCommand", false), ("NoItem", false), ("NoStation", false), ("NoDuct", false), ("NoName", true), ("NoFibre", false), ("TooMany", false), ("TooWide", false), ("TooNarrow", false), ("NothingToUndo", false)]
abbrev xt_NoDuct : List (Str × Bool) := [("InvalidNet", false), ("InvalidRoute", false), ("TooFar", false), ("InvalidBand", false), ("InvalidLayout", false), ("InvalidWish", false), ("NotAllowed", false), ("Turned", false), ("Unlike", false), ("Circular", false), ("Barred", false), ("ParseError", false), ("UnknownCommand", false), ("NoItem", false), ("NoStation", false), ("NoDuct", true), ("NoName", false), ("NoFibre", false), ("TooMany", false), ("TooWide", false), ("TooNarrow", false), ("NothingToUndo", false)]
abbrev xt_TooNarrow : List (Str × Bool) := [("InvalidNet", false), ("InvalidRoute", false), ("TooFar", false), ("InvalidBand", false), ("InvalidLayout", false), ("InvalidWish", false), ("NotAllowed", false), ("Turned", false), ("Unlike", false), ("Circular", false), ("Barred", false), ("ParseError", false), ("UnknownCommand", false), ("NoItem", false), ("NoStation", false), ("NoDuct", false), ("NoName", false), ("NoFibre", false), ("TooMany", false), ("TooWide", false), ("TooNarrow", true), ("NothingToUndo", false)]
abbrev xt_TooWide : List (Str × Bool) := [("InvalidNet", false), ("InvalidRoute", false), ("TooFar", false), ("InvalidBand", false), ("InvalidLayout", false), ("InvalidWish", false), ("NotAllowed", false), ("Turned", false), ("Unlike", false), ("Circular", false), ("Barred", false), ("ParseError", false), ("UnknownCommand", false), ("NoItem", false), ("NoStation", false), ("NoDuct", false), ("NoName", false), ("NoFibre", false), ("TooMany", false), ("TooWide", true), ("TooNarrow", false), ("NothingToUndo", false)]
abbrev xt_TooMany : List (Str × Bool) := [("InvalidNet", false), ("InvalidRoute", false), ("TooFar", false), ("InvalidBand", false), ("InvalidLayout", false), ("InvalidWish", false), ("NotAllowed", false), ("Turned", false), ("Unlike", false), ("Circular", false), ("Barred", false), ("ParseError", false), ("UnknownCommand", false), ("NoItem", false), ("NoStation", false), ("NoDuct", false), ("NoName", false), ("NoFibre", false), ("TooMany", true), ("TooWide", false), ("TooNarrow", false), ("NothingToUndo", false)]
abbrev xt_NothingToUndo : List (Str × Bool) := [("InvalidNet", false), ("InvalidRoute", false), ("TooFar", false), ("InvalidBand", false), ("InvalidLayout", false), ("InvalidWish", false), ("NotAllowed", false), ("Turned", false), ("Unlike", false), ("Circular", false), ("Barred", false), ("ParseError", false), ("UnknownCommand", false), ("NoItem", false), ("NoStation", false), ("NoDuct", false), ("NoName", false), ("NoFibre", false), ("TooMany", false), ("TooWide", false), ("TooNarrow", false), ("NothingToUndo", true)]
abbrev xt_KeyError : List (Str × Bool) := [("InvalidNet", false), ("InvalidRoute", false), ("TooFar", false), ("InvalidBand", false), ("InvalidLayout", false), ("InvalidWish", false), ("NotAllowed", false), ("Turned", false), ("Unlike", false), ("Circular", false), ("Barred", false), ("ParseError", false), ("UnknownCommand", false), ("NoItem", true), ("NoStation", true), ("NoDuct", true), ("NoName", true), ("NoFibre", false), ("TooMany", false), ("TooWide", false), ("TooNarrow", false), ("NothingToUndo", false)]
abbrev xt_ValueError : List (Str × Bool) := [("InvalidNet", true), ("InvalidRoute", true), ("TooFar", true), ("InvalidBand", true), ("InvalidLayout", true), ("InvalidWish", true), ("NotAllowed", true), ("Turned", true), ("Unlike", true), ("Circular", true), ("Barred", true), ("ParseError", true), ("UnknownCommand", true), ("NoItem", false), ("NoStation", false), ("NoDuct", false), ("NoName", false), ("NoFibre", false), ("TooMany", false), ("TooWide", false), ("TooNarrow", false), ("NothingToUndo", false)]
abbrev xt_LightError : List (Str × Bool) := [("InvalidNet", true), ("InvalidRoute", true), ("TooFar", true), ("InvalidBand", true), ("InvalidLayout", true), ("InvalidWish", true), ("NotAllowed", true), ("Turned", true), ("Unlike", true), ("Circular", true), ("Barred", true), ("ParseError", true), ("UnknownCommand", true), ("NoItem", false), ("NoStation", false), ("NoDuct", false), ("NoName", false), ("NoFibre", false), ("TooMany", false), ("TooWide", false), ("TooNarrow", false), ("NothingToUndo", false)]
abbrev xt_LookupError : List (Str × Bool) := [("InvalidNet", false), ("InvalidRoute", false), ("TooFar", false), ("InvalidBand", false), ("InvalidLayout", false), ("InvalidWish", false), ("NotAllowed", false), ("Turned", false), ("Unlike", false), ("Circular", false), ("Barred", false), ("ParseError", false), ("UnknownCommand", false), ("NoItem", true), ("NoStation", true), ("NoDuct", true), ("NoName", true), ("NoFibre", true), ("TooMany", false), ("TooWide", false), ("TooNarrow", false), ("NothingToUndo", true)]
abbrev xt_OverflowError : List (Str × Bool) := [("InvalidNet", false), ("InvalidRoute", false), ("TooFar", false), ("InvalidBand", false), ("InvalidLayout", false), ("InvalidWish", false), ("NotAllowed", false), ("Turned", false), ("Unlike", false), ("Circular", false), ("Barred", false), ("ParseError", false), ("UnknownCommand", false), ("NoItem", false), ("NoStation", false), ("NoDuct", false), ("NoName", false), ("NoFibre", false), ("TooMany", true), ("TooWide", true), ("TooNarrow", true), ("NothingToUndo", false)]
abbrev xt_IndexError : List (Str × Bool) := [("InvalidNet", false), ("InvalidRoute", false), ("TooFar", false), ("InvalidBand", false), ("InvalidLayout", false), ("InvalidWish", false), ("NotAllowed", false), ("Turned", false), ("Unlike", false), ("Circular", false), ("Barred", false), ("ParseError", false), ("UnknownCommand", false), ("NoItem", false), ("NoStation", false), ("NoDuct", false), ("NoName", false), ("NoFibre", true), ("TooMany", false), ("TooWide", false), ("TooNarrow", false), ("NothingToUndo", false)]
section
variable {P : Program} {w : World} {K : PySem.W.Frag} {mg : Str → Option Value} {base : Heap}
theorem xfl_value (M : Md P K w mg) : XfL K "value" ["InvalidRoute", "InvalidBand"] := (all_c ⟨_, M.E_InvalidRoute.ns, M.E_InvalidRoute.xf, M.E_InvalidRoute.fa⟩ (all_c ⟨_, M.E_InvalidBand.ns, M.E_InvalidBand.xf, M.E_InvalidBand.fa⟩ all_n))
theorem xfl_length (M : Md P K w mg) : XfL K "length" ["TooFar"] := (all_c ⟨_, M.E_TooFar.ns, M.E_TooFar.xf, M.E_TooFar.fa⟩ all_n)
theorem xfl_index (M : Md P K w mg) : XfL K "index" ["InvalidNet", "NotAllowed", "NoFibre"] := (all_c ⟨_, M.E_InvalidNet.ns, M.E_InvalidNet.xf, M.E_InvalidNet.fb⟩ (all_c ⟨_, M.E_NotAllowed.ns, M.E_NotAllowed.xf, M.E_NotAllowed.fa⟩ (all_c ⟨_, M.E_NoFibre.ns, M.E_NoFibre.xf, M.E_NoFibre.fa⟩ all_n)))
theorem xfl_word (M : Md P K w mg) : XfL K "word" ["InvalidNet", "InvalidLayout", "InvalidWish", "NotAllowed", "ParseError"] := (all_c ⟨_, M.E_InvalidNet.ns, M.E_InvalidNet.xf, M.E_InvalidNet.fa⟩ (all_c ⟨_, M.E_InvalidLayout.ns, M.E_InvalidLayout.xf, M.E_InvalidLayout.fa⟩ (all_c ⟨_, M.E_InvalidWish.ns, M.E_InvalidWish.xf, M.E_InvalidWish.fa⟩ (all_c ⟨_, M.E_NotAllowed.ns, M.E_NotAllowed.xf, M.E_NotAllowed.fb⟩ (all_c ⟨_, M.E_ParseError.ns, M.E_ParseError.xf, M.E_ParseError.fb⟩ all_n)))))
theorem xfl_item (M : Md P K w mg) : XfL K "item" ["InvalidLayout", "Unlike", "NoItem"] := (all_c ⟨_, M.E_InvalidLayout.ns, M.E_InvalidLayout.xf, M.E_InvalidLayout.fb⟩ (all_c ⟨_, M.E_Unlike.ns, M.E_Unlike.xf, M.E_Unlike.fa⟩ (all_c ⟨_, M.E_NoItem.ns, M.E_NoItem.xf, M.E_NoItem.fa⟩ all_n)))
theorem xfl_certificate (M : Md P K w mg) : XfL K "certificate" ["Barred"] := (all_c ⟨_, M.E_Barred.ns, M.E_Barred.xf, M.E_Barred.fa⟩ all_n)
theorem xfl_ring (M : Md P K w mg) : XfL K "ring" ["Circular"] := (all_c ⟨_, M.E_Circular.ns, M.E_Circular.xf, M.E_Circular.fa⟩ all_n)
theorem xfl_upper (M : Md P K w mg) : XfL K "upper" ["Turned"] := (all_c ⟨_, M.E_Turned.ns, M.E_Turned.xf, M.E_Turned.fb⟩ all_n)
theorem xfl_lower (M : Md P K w mg) : XfL K "lower" ["Turned"] := (all_c ⟨_, M.E_Turned.ns, M.E_Turned.xf, M.E_Turned.fa⟩ all_n)
theorem xfl_name (M : Md P K w mg) : XfL K "name" ["NoStation", "NoDuct", "NoName"] := (all_c ⟨_, M.E_NoStation.ns, M.E_NoStation.xf, M.E_NoStation.fa⟩ (all_c ⟨_, M.E_NoDuct.ns, M.E_NoDuct.xf, M.E_NoDuct.fa⟩ (all_c ⟨_, M.E_NoName.ns, M.E_NoName.xf, M.E_NoName.fa⟩ all_n)))
theorem xfl_command (M : Md P K w mg) : XfL K "command" ["UnknownCommand"] := (all_c ⟨_, M.E_UnknownCommand.ns, M.E_UnknownCommand.xf, M.E_UnknownCommand.fa⟩ all_n)
theorem xfl_line (M : Md P K w mg) : XfL K "line" ["ParseError"] := (all_c ⟨_, M.E_ParseError.ns, M.E_ParseError.xf, M.E_ParseError.fa⟩ all_n)
theorem xfl_limit (M : Md P K w mg) : XfL K "limit" ["TooMany", "TooWide"] := (all_c ⟨_, M.E_TooMany.ns, M.E_TooMany.xf, M.E_TooMany.fa⟩ (all_c ⟨_, M.E_TooWide.ns, M.E_TooWide.xf, M.E_TooWide.fa⟩ all_n))
theorem xfl_count (M : Md P K w mg) : XfL K "count" ["NothingToUndo"] := (all_c ⟨_, M.E_NothingToUndo.ns, M.E_NothingToUndo.xf, M.E_NothingToUndo.fa⟩ all_n)
theorem xfl_needed (M : Md P K w mg) : XfL K "needed" ["TooNarrow"] := (all_c ⟨_, M.E_TooNarrow.ns, M.E_TooNarrow.xf, M.E_TooNarrow.fa⟩ all_n)
theorem xis_TooFar (M : Md P K w mg) : XisT K (.ref M.C_TooFar) xt_TooFar := xis_mk (N := [("InvalidNet", M.C_InvalidNet, false), ("InvalidRoute", M.C_InvalidRoute, false), ("TooFar", M.C_TooFar, true), ("InvalidBand", M.C_InvalidBand, false), ("InvalidLayout", M.C_InvalidLayout, false), ("InvalidWish", M.C_InvalidWish, false), ("NotAllowed", M.C_NotAllowed, false), ("Turned", M.C_Turned, false), ("Unlike", M.C_Unlike, false), ("Circular", M.C_Circular, false), ("Barred", M.C_Barred, false), ("ParseError", M.C_ParseError, false), ("UnknownCommand", M.C_UnknownCommand, false), ("NoItem", M.C_NoItem, false), ("NoStation", M.C_NoStation, false), ("NoDuct", M.C_NoDuct, false), ("NoName", M.C_NoName, false), ("NoFibre", M.C_NoFibre, false), ("TooMany", M.C_TooMany, false), ("TooWide", M.C_TooWide, false), ("TooNarrow", M.C_TooNarrow, false), ("NothingToUndo", M.C_NothingToUndo, false)]) (all_c ⟨M.E_InvalidNet.ns, M.E_InvalidNet.ec⟩ (all_c ⟨M.E_InvalidRoute.ns, M.E_InvalidRoute.ec⟩ (all_c ⟨M.E_TooFar.ns, M.E_TooFar.ec⟩ (all_c ⟨M.E_InvalidBand.ns, M.E_InvalidBand.ec⟩ (all_c ⟨M.E_InvalidLayout.ns, M.E_InvalidLayout.ec⟩ (all_c ⟨M.E_InvalidWish.ns, M.E_InvalidWish.ec⟩ (all_c ⟨M.E_NotAllowed.ns, M.E_NotAllowed.ec⟩ (all_c ⟨M.E_Turned.ns, M.E_Turned.ec⟩ (all_c ⟨M.E_Unlike.ns, M.E_Unlike.ec⟩ (all_c ⟨M.E_Circular.ns, M.E_Circular.ec⟩ (all_c ⟨M.E_Barred.ns, M.E_Barred.ec⟩ (all_c ⟨M.E_ParseError.ns, M.E_ParseError.ec⟩ (all_c ⟨M.E_UnknownCommand.ns, M.E_UnknownCommand.ec⟩ (all_c ⟨M.E_NoItem.ns, M.E_NoItem.ec⟩ (all_c ⟨M.E_NoStation.ns, M.E_NoStation.ec⟩ (all_c ⟨M.E_NoDuct.ns, M.E_NoDuct.ec⟩ (all_c ⟨M.E_NoName.ns, M.E_NoName.ec⟩ (all_c ⟨M.E_NoFibre.ns, M.E_NoFibre.ec⟩ (all_c ⟨M.E_TooMany.ns, M.E_TooMany.ec⟩ (all_c ⟨M.E_TooWide.ns, M.E_TooWide.ec⟩ (all_c ⟨M.E_TooNarrow.ns, M.E_TooNarrow.ec⟩ (all_c ⟨M.E_NothingToUndo.ns, M.E_NothingToUndo.ec⟩ all_n)))))))))))))))))))))) M.ki_TooFar
theorem xis_InvalidRoute (M : Md P K w mg) : XisT K (.ref M.C_InvalidRoute) xt_InvalidRoute := xis_mk (N := [("InvalidNet", M.C_InvalidNet, false), ("InvalidRoute", M.C_InvalidRoute, true), ("TooFar", M.C_TooFar, false), ("InvalidBand", M.C_InvalidBand, false), ("InvalidLayout", M.C_InvalidLayout, false), ("InvalidWish", M.C_InvalidWish, false), ("NotAllowed", M.C_NotAllowed, false), ("Turned", M.C_Turned, false), ("Unlike", M.C_Unlike, false), ("Circular", M.C_Circular, false), ("Barred", M.C_Barred, false), ("ParseError", M.C_ParseError, false), ("UnknownCommand", M.C_UnknownCommand, false), ("NoItem", M.C_NoItem, false), ("NoStation", M.C_NoStation, false), ("NoDuct", M.C_NoDuct, false), ("NoName", M.C_NoName, false), ("NoFibre", M.C_NoFibre, false), ("TooMany", M.C_TooMany, false), ("TooWide", M.C_TooWide, false), ("TooNarrow", M.C_TooNarrow, false), ("NothingToUndo", M.C_NothingToUndo, false)]) (all_c ⟨M.E_InvalidNet.ns, M.E_InvalidNet.ec⟩ (all_c ⟨M.E_InvalidRoute.ns, M.E_InvalidRoute.ec⟩ (all_c ⟨M.E_TooFar.ns, M.E_TooFar.ec⟩ (all_c ⟨M.E_InvalidBand.ns, M.E_InvalidBand.ec⟩ (all_c ⟨M.E_InvalidLayout.ns, M.E_InvalidLayout.ec⟩ (all_c ⟨M.E_InvalidWish.ns, M.E_InvalidWish.ec⟩ (all_c ⟨M.E_NotAllowed.ns, M.E_NotAllowed.ec⟩ (all_c ⟨M.E_Turned.ns, M.E_Turned.ec⟩ (all_c ⟨M.E_Unlike.ns, M.E_Unlike.ec⟩ (all_c ⟨M.E_Circular.ns, M.E_Circular.ec⟩ (all_c ⟨M.E_Barred.ns, M.E_Barred.ec⟩ (all_c ⟨M.E_ParseError.ns, M.E_ParseError.ec⟩ (all_c ⟨M.E_UnknownCommand.ns, M.E_UnknownCommand.ec⟩ (all_c ⟨M.E_NoItem.ns, M.E_NoItem.ec⟩ (all_c ⟨M.E_NoStation.ns, M.E_NoStation.ec⟩ (all_c ⟨M.E_NoDuct.ns, M.E_NoDuct.ec⟩ (all_c ⟨M.E_NoName.ns, M.E_NoName.ec⟩ (all_c ⟨M.E_NoFibre.ns, M.E_NoFibre.ec⟩ (all_c ⟨M.E_TooMany.ns, M.E_TooMany.ec⟩ (all_c ⟨M.E_TooWide.ns, M.E_TooWide.ec⟩ (all_c ⟨M.E_TooNarrow.ns, M.E_TooNarrow.ec⟩ (all_c ⟨M.E_NothingToUndo.ns, M.E_NothingToUndo.ec⟩ all_n)))))))))))))))))))))) M.ki_InvalidRoute
theorem xis_InvalidNet (M : Md P K w mg) : XisT K (.ref M.C_InvalidNet) xt_InvalidNet := xis_mk (N := [("InvalidNet", M.C_InvalidNet, true), ("InvalidRoute", M.C_InvalidRoute, false), ("TooFar", M.C_TooFar, false), ("InvalidBand", M.C_InvalidBand, false), ("InvalidLayout", M.C_InvalidLayout, false), ("InvalidWish", M.C_InvalidWish, false), ("NotAllowed", M.C_NotAllowed, false), ("Turned", M.C_Turned, false), ("Unlike", M.C_Unlike, false), ("Circular", M.C_Circular, false), ("Barred", M.C_Barred, false), ("ParseError", M.C_ParseError, false), ("UnknownCommand", M.C_UnknownCommand, false), ("NoItem", M.C_NoItem, false), ("NoStation", M.C_NoStation, false), ("NoDuct", M.C_NoDuct, false), ("NoName", M.C_NoName, false), ("NoFibre", M.C_NoFibre, false), ("TooMany", M.C_TooMany, false), ("TooWide", M.C_TooWide, false), ("TooNarrow", M.C_TooNarrow, false), ("NothingToUndo", M.C_NothingToUndo, false)]) (all_c ⟨M.E_InvalidNet.ns, M.E_InvalidNet.ec⟩ (all_c ⟨M.E_InvalidRoute.ns, M.E_InvalidRoute.ec⟩ (all_c ⟨M.E_TooFar.ns, M.E_TooFar.ec⟩ (all_c ⟨M.E_InvalidBand.ns, M.E_InvalidBand.ec⟩ (all_c ⟨M.E_InvalidLayout.ns, M.E_InvalidLayout.ec⟩ (all_c ⟨M.E_InvalidWish.ns, M.E_InvalidWish.ec⟩ (all_c ⟨M.E_NotAllowed.ns, M.E_NotAllowed.ec⟩ (all_c ⟨M.E_Turned.ns, M.E_Turned.ec⟩ (all_c ⟨M.E_Unlike.ns, M.E_Unlike.ec⟩ (all_c ⟨M.E_Circular.ns, M.E_Circular.ec⟩ (all_c ⟨M.E_Barred.ns, M.E_Barred.ec⟩ (all_c ⟨M.E_ParseError.ns, M.E_ParseError.ec⟩ (all_c ⟨M.E_UnknownCommand.ns, M.E_UnknownCommand.ec⟩ (all_c ⟨M.E_NoItem.ns, M.E_NoItem.ec⟩ (all_c ⟨M.E_NoStation.ns, M.E_NoStation.ec⟩ (all_c ⟨M.E_NoDuct.ns, M.E_NoDuct.ec⟩ (all_c ⟨M.E_NoName.ns, M.E_NoName.ec⟩ (all_c ⟨M.E_NoFibre.ns, M.E_NoFibre.ec⟩ (all_c ⟨M.E_TooMany.ns, M.E_TooMany.ec⟩ (all_c ⟨M.E_TooWide.ns, M.E_TooWide.ec⟩ (all_c ⟨M.E_TooNarrow.ns, M.E_TooNarrow.ec⟩ (all_c ⟨M.E_NothingToUndo.ns, M.E_NothingToUndo.ec⟩ all_n)))))))))))))))))))))) M.ki_InvalidNet
theorem xis_InvalidWish (M : Md P K w mg) : XisT K (.ref M.C_InvalidWish) xt_InvalidWish := xis_mk (N := [("InvalidNet", M.C_InvalidNet, false), ("InvalidRoute", M.C_InvalidRoute, false), ("TooFar", M.C_TooFar, false), ("InvalidBand", M.C_InvalidBand, false), ("InvalidLayout", M.C_InvalidLayout, false), ("InvalidWish", M.C_InvalidWish, true), ("NotAllowed", M.C_NotAllowed, false), ("Turned", M.C_Turned, false), ("Unlike", M.C_Unlike, false), ("Circular", M.C_Circular, false), ("Barred", M.C_Barred, false), ("ParseError", M.C_ParseError, false), ("UnknownCommand", M.C_UnknownCommand, false), ("NoItem", M.C_NoItem, false), ("NoStation", M.C_NoStation, false), ("NoDuct", M.C_NoDuct, false), ("NoName", M.C_NoName, false), ("NoFibre", M.C_NoFibre, false), ("TooMany", M.C_TooMany, false), ("TooWide", M.C_TooWide, false), ("TooNarrow", M.C_TooNarrow, false), ("NothingToUndo", M.C_NothingToUndo, false)]) (all_c ⟨M.E_InvalidNet.ns, M.E_InvalidNet.ec⟩ (all_c ⟨M.E_InvalidRoute.ns, M.E_InvalidRoute.ec⟩ (all_c ⟨M.E_TooFar.ns, M.E_TooFar.ec⟩ (all_c ⟨M.E_InvalidBand.ns, M.E_InvalidBand.ec⟩ (all_c ⟨M.E_InvalidLayout.ns, M.E_InvalidLayout.ec⟩ (all_c ⟨M.E_InvalidWish.ns, M.E_InvalidWish.ec⟩ (all_c ⟨M.E_NotAllowed.ns, M.E_NotAllowed.ec⟩ (all_c ⟨M.E_Turned.ns, M.E_Turned.ec⟩ (all_c ⟨M.E_Unlike.ns, M.E_Unlike.ec⟩ (all_c ⟨M.E_Circular.ns, M.E_Circular.ec⟩ (all_c ⟨M.E_Barred.ns, M.E_Barred.ec⟩ (all_c ⟨M.E_ParseError.ns, M.E_ParseError.ec⟩ (all_c ⟨M.E_UnknownCommand.ns, M.E_UnknownCommand.ec⟩ (all_c ⟨M.E_NoItem.ns, M.E_NoItem.ec⟩ (all_c ⟨M.E_NoStation.ns, M.E_NoStation.ec⟩ (all_c ⟨M.E_NoDuct.ns, M.E_NoDuct.ec⟩ (all_c ⟨M.E_NoName.ns, M.E_NoName.ec⟩ (all_c ⟨M.E_NoFibre.ns, M.E_NoFibre.ec⟩ (all_c ⟨M.E_TooMany.ns, M.E_TooMany.ec⟩ (all_c ⟨M.E_TooWide.ns, M.E_TooWide.ec⟩ (all_c ⟨M.E_TooNarrow.ns, M.E_TooNarrow.ec⟩ (all_c ⟨M.E_NothingToUndo.ns, M.E_NothingToUndo.ec⟩ all_n)))))))))))))))))))))) M.ki_InvalidWish
theorem xis_InvalidLayout (M : Md P K w mg) : XisT K (.ref M.C_InvalidLayout) xt_InvalidLayout := xis_mk (N := [("InvalidNet", M.C_InvalidNet, false), ("InvalidRoute", M.C_InvalidRoute, false), ("TooFar", M.C_TooFar, false), ("InvalidBand", M.C_InvalidBand, false), ("InvalidLayout", M.C_InvalidLayout, true), ("InvalidWish", M.C_InvalidWish, false), ("NotAllowed", M.C_NotAllowed, false), ("Turned", M.C_Turned, false), ("Unlike", M.C_Unlike, false), ("Circular", M.C_Circular, false), ("Barred", M.C_Barred, false), ("ParseError", M.C_ParseError, false), ("UnknownCommand", M.C_UnknownCommand, false), ("NoItem", M.C_NoItem, false), ("NoStation", M.C_NoStation, false), ("NoDuct", M.C_NoDuct, false), ("NoName", M.C_NoName, false), ("NoFibre", M.C_NoFibre, false), ("TooMany", M.C_TooMany, false), ("TooWide", M.C_TooWide, false), ("TooNarrow", M.C_TooNarrow, false), ("NothingToUndo", M.C_NothingToUndo, false)]) (all_c ⟨M.E_InvalidNet.ns, M.E_InvalidNet.ec⟩ (all_c ⟨M.E_InvalidRoute.ns, M.E_InvalidRoute.ec⟩ (all_c ⟨M.E_TooFar.ns, M.E_TooFar.ec⟩ (all_c ⟨M.E_InvalidBand.ns, M.E_InvalidBand.ec⟩ (all_c ⟨M.E_InvalidLayout.ns, M.E_InvalidLayout.ec⟩ (all_c ⟨M.E_InvalidWish.ns, M.E_InvalidWish.ec⟩ (all_c ⟨M.E_NotAllowed.ns, M.E_NotAllowed.ec⟩ (all_c ⟨M.E_Turned.ns, M.E_Turned.ec⟩ (all_c ⟨M.E_Unlike.ns, M.E_Unlike.ec⟩ (all_c ⟨M.E_Circular.ns, M.E_Circular.ec⟩ (all_c ⟨M.E_Barred.ns, M.E_Barred.ec⟩ (all_c ⟨M.E_ParseError.ns, M.E_ParseError.ec⟩ (all_c ⟨M.E_UnknownCommand.ns, M.E_UnknownCommand.ec⟩ (all_c ⟨M.E_NoItem.ns, M.E_NoItem.ec⟩ (all_c ⟨M.E_NoStation.ns, M.E_NoStation.ec⟩ (all_c ⟨M.E_NoDuct.ns, M.E_NoDuct.ec⟩ (all_c ⟨M.E_NoName.ns, M.E_NoName.ec⟩ (all_c ⟨M.E_NoFibre.ns, M.E_NoFibre.ec⟩ (all_c ⟨M.E_TooMany.ns, M.E_TooMany.ec⟩ (all_c ⟨M.E_TooWide.ns, M.E_TooWide.ec⟩ (all_c ⟨M.E_TooNarrow.ns, M.E_TooNarrow.ec⟩ (all_c ⟨M.E_NothingToUndo.ns, M.E_NothingToUndo.ec⟩ all_n)))))))))))))))))))))) M.ki_InvalidLayout
theorem xis_InvalidBand (M : Md P K w mg) : XisT K (.ref M.C_InvalidBand) xt_InvalidBand := xis_mk (N := [("InvalidNet", M.C_InvalidNet, false), ("InvalidRoute", M.C_InvalidRoute, false), ("TooFar", M.C_TooFar, false), ("InvalidBand", M.C_InvalidBand, true), ("InvalidLayout", M.C_InvalidLayout, false), ("InvalidWish", M.C_InvalidWish, false), ("NotAllowed", M.C_NotAllowed, false), ("Turned", M.C_Turned, false), ("Unlike", M.C_Unlike, false), ("Circular", M.C_Circular, false), ("Barred", M.C_Barred, false), ("ParseError", M.C_ParseError, false), ("UnknownCommand", M.C_UnknownCommand, false), ("NoItem", M.C_NoItem, false), ("NoStation", M.C_NoStation, false), ("NoDuct", M.C_NoDuct, false), ("NoName", M.C_NoName, false), ("NoFibre", M.C_NoFibre, false), ("TooMany", M.C_TooMany, false), ("TooWide", M.C_TooWide, false), ("TooNarrow", M.C_TooNarrow, false), ("NothingToUndo", M.C_NothingToUndo, false)]) (all_c ⟨M.E_InvalidNet.ns, M.E_InvalidNet.ec⟩ (all_c ⟨M.E_InvalidRoute.ns, M.E_InvalidRoute.ec⟩ (all_c ⟨M.E_TooFar.ns, M.E_TooFar.ec⟩ (all_c ⟨M.E_InvalidBand.ns, M.E_InvalidBand.ec⟩ (all_c ⟨M.E_InvalidLayout.ns, M.E_InvalidLayout.ec⟩ (all_c ⟨M.E_InvalidWish.ns, M.E_InvalidWish.ec⟩ (all_c ⟨M.E_NotAllowed.ns, M.E_NotAllowed.ec⟩ (all_c ⟨M.E_Turned.ns, M.E_Turned.ec⟩ (all_c ⟨M.E_Unlike.ns, M.E_Unlike.ec⟩ (all_c ⟨M.E_Circular.ns, M.E_Circular.ec⟩ (all_c ⟨M.E_Barred.ns, M.E_Barred.ec⟩ (all_c ⟨M.E_ParseError.ns, M.E_ParseError.ec⟩ (all_c ⟨M.E_UnknownCommand.ns, M.E_UnknownCommand.ec⟩ (all_c ⟨M.E_NoItem.ns, M.E_NoItem.ec⟩ (all_c ⟨M.E_NoStation.ns, M.E_NoStation.ec⟩ (all_c ⟨M.E_NoDuct.ns, M.E_NoDuct.ec⟩ (all_c ⟨M.E_NoName.ns, M.E_NoName.ec⟩ (all_c ⟨M.E_NoFibre.ns, M.E_NoFibre.ec⟩ (all_c ⟨M.E_TooMany.ns, M.E_TooMany.ec⟩ (all_c ⟨M.E_TooWide.ns, M.E_TooWide.ec⟩ (all_c ⟨M.E_TooNarrow.ns, M.E_TooNarrow.ec⟩ (all_c ⟨M.E_NothingToUndo.ns, M.E_NothingToUndo.ec⟩ all_n)))))))))))))))))))))) M.ki_InvalidBand
theorem xis_Unlike (M : Md P K w mg) : XisT K (.ref M.C_Unlike) xt_Unlike := xis_mk (N := [("InvalidNet", M.C_InvalidNet, false), ("InvalidRoute", M.C_InvalidRoute, false), ("TooFar", M.C_TooFar, false), ("InvalidBand", M.C_InvalidBand, false), ("InvalidLayout", M.C_InvalidLayout, false), ("InvalidWish", M.C_InvalidWish, false), ("NotAllowed", M.C_NotAllowed, false), ("Turned", M.C_Turned, false), ("Unlike", M.C_Unlike, true), ("Circular", M.C_Circular, false), ("Barred", M.C_Barred, false), ("ParseError", M.C_ParseError, false), ("UnknownCommand", M.C_UnknownCommand, false), ("NoItem", M.C_NoItem, false), ("NoStation", M.C_NoStation, false), ("NoDuct", M.C_NoDuct, false), ("NoName", M.C_NoName, false), ("NoFibre", M.C_NoFibre, false), ("TooMany", M.C_TooMany, false), ("TooWide", M.C_TooWide, false), ("TooNarrow", M.C_TooNarrow, false), ("NothingToUndo", M.C_NothingToUndo, false)]) (all_c ⟨M.E_InvalidNet.ns, M.E_InvalidNet.ec⟩ (all_c ⟨M.E_InvalidRoute.ns, M.E_InvalidRoute.ec⟩ (all_c ⟨M.E_TooFar.ns, M.E_TooFar.ec⟩ (all_c ⟨M.E_InvalidBand.ns, M.E_InvalidBand.ec⟩ (all_c ⟨M.E_InvalidLayout.ns, M.E_InvalidLayout.ec⟩ (all_c ⟨M.E_InvalidWish.ns, M.E_InvalidWish.ec⟩ (all_c ⟨M.E_NotAllowed.ns, M.E_NotAllowed.ec⟩ (all_c ⟨M.E_Turned.ns, M.E_Turned.ec⟩ (all_c ⟨M.E_Unlike.ns, M.E_Unlike.ec⟩ (all_c ⟨M.E_Circular.ns, M.E_Circular.ec⟩ (all_c ⟨M.E_Barred.ns, M.E_Barred.ec⟩ (all_c ⟨M.E_ParseError.ns, M.E_ParseError.ec⟩ (all_c ⟨M.E_UnknownCommand.ns, M.E_UnknownCommand.ec⟩ (all_c ⟨M.E_NoItem.ns, M.E_NoItem.ec⟩ (all_c ⟨M.E_NoStation.ns, M.E_NoStation.ec⟩ (all_c ⟨M.E_NoDuct.ns, M.E_NoDuct.ec⟩ (all_c ⟨M.E_NoName.ns, M.E_NoName.ec⟩ (all_c ⟨M.E_NoFibre.ns, M.E_NoFibre.ec⟩ (all_c ⟨M.E_TooMany.ns, M.E_TooMany.ec⟩ (all_c ⟨M.E_TooWide.ns, M.E_TooWide.ec⟩ (all_c ⟨M.E_TooNarrow.ns, M.E_TooNarrow.ec⟩ (all_c ⟨M.E_NothingToUndo.ns, M.E_NothingToUndo.ec⟩ all_n)))))))))))))))))))))) M.ki_Unlike
theorem xis_Turned (M : Md P K w mg) : XisT K (.ref M.C_Turned) xt_Turned := xis_mk (N := [("InvalidNet", M.C_InvalidNet, false), ("InvalidRoute", M.C_InvalidRoute, false), ("TooFar", M.C_TooFar, false), ("InvalidBand", M.C_InvalidBand, false), ("InvalidLayout", M.C_InvalidLayout, false), ("InvalidWish", M.C_InvalidWish, false), ("NotAllowed", M.C_NotAllowed, false), ("Turned", M.C_Turned, true), ("Unlike", M.C_Unlike, false), ("Circular", M.C_Circular, false), ("Barred", M.C_Barred, false), ("ParseError", M.C_ParseError, false), ("UnknownCommand", M.C_UnknownCommand, false), ("NoItem", M.C_NoItem, false), ("NoStation", M.C_NoStation, false), ("NoDuct", M.C_NoDuct, false), ("NoName", M.C_NoName, false), ("NoFibre", M.C_NoFibre, false), ("TooMany", M.C_TooMany, false), ("TooWide", M.C_TooWide, false), ("TooNarrow", M.C_TooNarrow, false), ("NothingToUndo", M.C_NothingToUndo, false)]) (all_c ⟨M.E_InvalidNet.ns, M.E_InvalidNet.ec⟩ (all_c ⟨M.E_InvalidRoute.ns, M.E_InvalidRoute.ec⟩ (all_c ⟨M.E_TooFar.ns, M.E_TooFar.ec⟩ (all_c ⟨M.E_InvalidBand.ns, M.E_InvalidBand.ec⟩ (all_c ⟨M.E_InvalidLayout.ns, M.E_InvalidLayout.ec⟩ (all_c ⟨M.E_InvalidWish.ns, M.E_InvalidWish.ec⟩ (all_c ⟨M.E_NotAllowed.ns, M.E_NotAllowed.ec⟩ (all_c ⟨M.E_Turned.ns, M.E_Turned.ec⟩ (all_c ⟨M.E_Unlike.ns, M.E_Unlike.ec⟩ (all_c ⟨M.E_Circular.ns, M.E_Circular.ec⟩ (all_c ⟨M.E_Barred.ns, M.E_Barred.ec⟩ (all_c ⟨M.E_ParseError.ns, M.E_ParseError.ec⟩ (all_c ⟨M.E_UnknownCommand.ns, M.E_UnknownCommand.ec⟩ (all_c ⟨M.E_NoItem.ns, M.E_NoItem.ec⟩ (all_c ⟨M.E_NoStation.ns, M.E_NoStation.ec⟩ (all_c ⟨M.E_NoDuct.ns, M.E_NoDuct.ec⟩ (all_c ⟨M.E_NoName.ns, M.E_NoName.ec⟩ (all_c ⟨M.E_NoFibre.ns, M.E_NoFibre.ec⟩ (all_c ⟨M.E_TooMany.ns, M.E_TooMany.ec⟩ (all_c ⟨M.E_TooWide.ns, M.E_TooWide.ec⟩ (all_c ⟨M.E_TooNarrow.ns, M.E_TooNarrow.ec⟩ (all_c ⟨M.E_NothingToUndo.ns, M.E_NothingToUndo.ec⟩ all_n)))))))))))))))))))))) M.ki_Turned
theorem xis_NotAllowed (M : Md P K w mg) : XisT K (.ref M.C_NotAllowed) xt_NotAllowed := xis_mk (N := [("InvalidNet", M.C_InvalidNet, false), ("InvalidRoute", M.C_InvalidRoute, false), ("TooFar", M.C_TooFar, false), ("InvalidBand", M.C_InvalidBand, false), ("InvalidLayout", M.C_InvalidLayout, false), ("InvalidWish", M.C_InvalidWish, false), ("NotAllowed", M.C_NotAllowed, true), ("Turned", M.C_Turned, false), ("Unlike", M.C_Unlike, false), ("Circular", M.C_Circular, false), ("Barred", M.C_Barred, false), ("ParseError", M.C_ParseError, false), ("UnknownCommand", M.C_UnknownCommand, false), ("NoItem", M.C_NoItem, false), ("NoStation", M.C_NoStation, false), ("NoDuct", M.C_NoDuct, false), ("NoName", M.C_NoName, false), ("NoFibre", M.C_NoFibre, false), ("TooMany", M.C_TooMany, false), ("TooWide", M.C_TooWide, false), ("TooNarrow", M.C_TooNarrow, false), ("NothingToUndo", M.C_NothingToUndo, false)]) (all_c ⟨M.E_InvalidNet.ns, M.E_InvalidNet.ec⟩ (all_c ⟨M.E_InvalidRoute.ns, M.E_InvalidRoute.ec⟩ (all_c ⟨M.E_TooFar.ns, M.E_TooFar.ec⟩ (all_c ⟨M.E_InvalidBand.ns, M.E_InvalidBand.ec⟩ (all_c ⟨M.E_InvalidLayout.ns, M.E_InvalidLayout.ec⟩ (all_c ⟨M.E_InvalidWish.ns, M.E_InvalidWish.ec⟩ (all_c ⟨M.E_NotAllowed.ns, M.E_NotAllowed.ec⟩ (all_c ⟨M.E_Turned.ns, M.E_Turned.ec⟩ (all_c ⟨M.E_Unlike.ns, M.E_Unlike.ec⟩ (all_c ⟨M.E_Circular.ns, M.E_Circular.ec⟩ (all_c ⟨M.E_Barred.ns, M.E_Barred.ec⟩ (all_c ⟨M.E_ParseError.ns, M.E_ParseError.ec⟩ (all_c ⟨M.E_UnknownCommand.ns, M.E_UnknownCommand.ec⟩ (all_c ⟨M.E_NoItem.ns, M.E_NoItem.ec⟩ (all_c ⟨M.E_NoStation.ns, M.E_NoStation.ec⟩ (all_c ⟨M.E_NoDuct.ns, M.E_NoDuct.ec⟩ (all_c ⟨M.E_NoName.ns, M.E_NoName.ec⟩ (all_c ⟨M.E_NoFibre.ns, M.E_NoFibre.ec⟩ (all_c ⟨M.E_TooMany.ns, M.E_TooMany.ec⟩ (all_c ⟨M.E_TooWide.ns, M.E_TooWide.ec⟩ (all_c ⟨M.E_TooNarrow.ns, M.E_TooNarrow.ec⟩ (all_c ⟨M.E_NothingToUndo.ns, M.E_NothingToUndo.ec⟩ all_n)))))))))))))))))))))) M.ki_NotAllowed
theorem xis_ParseError (M : Md P K w mg) : XisT K (.ref M.C_ParseError) xt_ParseError := xis_mk (N := [("InvalidNet", M.C_InvalidNet, false), ("InvalidRoute", M.C_InvalidRoute, false), ("TooFar", M.C_TooFar, false), ("InvalidBand", M.C_InvalidBand, false), ("InvalidLayout", M.C_InvalidLayout, false), ("InvalidWish", M.C_InvalidWish, false), ("NotAllowed", M.C_NotAllowed, false), ("Turned", M.C_Turned, false), ("Unlike", M.C_Unlike, false), ("Circular", M.C_Circular, false), ("Barred", M.C_Barred, false), ("ParseError", M.C_ParseError, true), ("UnknownCommand", M.C_UnknownCommand, false), ("NoItem", M.C_NoItem, false), ("NoStation", M.C_NoStation, false), ("NoDuct", M.C_NoDuct, false), ("NoName", M.C_NoName, false), ("NoFibre", M.C_NoFibre, false), ("TooMany", M.C_TooMany, false), ("TooWide", M.C_TooWide, false), ("TooNarrow", M.C_TooNarrow, false), ("NothingToUndo", M.C_NothingToUndo, false)]) (all_c ⟨M.E_InvalidNet.ns, M.E_InvalidNet.ec⟩ (all_c ⟨M.E_InvalidRoute.ns, M.E_InvalidRoute.ec⟩ (all_c ⟨M.E_TooFar.ns, M.E_TooFar.ec⟩ (all_c ⟨M.E_InvalidBand.ns, M.E_InvalidBand.ec⟩ (all_c ⟨M.E_InvalidLayout.ns, M.E_InvalidLayout.ec⟩ (all_c ⟨M.E_InvalidWish.ns, M.E_InvalidWish.ec⟩ (all_c ⟨M.E_NotAllowed.ns, M.E_NotAllowed.ec⟩ (all_c ⟨M.E_Turned.ns, M.E_Turned.ec⟩ (all_c ⟨M.E_Unlike.ns, M.E_Unlike.ec⟩ (all_c ⟨M.E_Circular.ns, M.E_Circular.ec⟩ (all_c ⟨M.E_Barred.ns, M.E_Barred.ec⟩ (all_c ⟨M.E_ParseError.ns, M.E_ParseError.ec⟩ (all_c ⟨M.E_UnknownCommand.ns, M.E_UnknownCommand.ec⟩ (all_c ⟨M.E_NoItem.ns, M.E_NoItem.ec⟩ (all_c ⟨M.E_NoStation.ns, M.E_NoStation.ec⟩ (all_c ⟨M.E_NoDuct.ns, M.E_NoDuct.ec⟩ (all_c ⟨M.E_NoName.ns, M.E_NoName.ec⟩ (all_c ⟨M.E_NoFibre.ns, M.E_NoFibre.ec⟩ (all_c ⟨M.E_TooMany.ns, M.E_TooMany.ec⟩ (all_c ⟨M.E_TooWide.ns, M.E_TooWide.ec⟩ (all_c ⟨M.E_TooNarrow.ns, M.E_TooNarrow.ec⟩ (all_c ⟨M.E_NothingToUndo.ns, M.E_NothingToUndo.ec⟩ all_n)))))))))))))))))))))) M.ki_ParseError
theorem xis_Barred (M : Md P K w mg) : XisT K (.ref M.C_Barred) xt_Barred := xis_mk (N := [("InvalidNet", M.C_InvalidNet, false), ("InvalidRoute", M.C_InvalidRoute, false), ("TooFar", M.C_TooFar, false), ("InvalidBand", M.C_InvalidBand, false), ("InvalidLayout", M.C_InvalidLayout, false), ("InvalidWish", M.C_InvalidWish, false), ("NotAllowed", M.C_NotAllowed, false), ("Turned", M.C_Turned, false), ("Unlike", M.C_Unlike, false), ("Circular", M.C_Circular, false), ("Barred", M.C_Barred, true), ("ParseError", M.C_ParseError, false), ("UnknownCommand", M.C_UnknownCommand, false), ("NoItem", M.C_NoItem, false), ("NoStation", M.C_NoStation, false), ("NoDuct", M.C_NoDuct, false), ("NoName", M.C_NoName, false), ("NoFibre", M.C_NoFibre, false), ("TooMany", M.C_TooMany, false), ("TooWide", M.C_TooWide, false), ("TooNarrow", M.C_TooNarrow, false), ("NothingToUndo", M.C_NothingToUndo, false)]) (all_c ⟨M.E_InvalidNet.ns, M.E_InvalidNet.ec⟩ (all_c ⟨M.E_InvalidRoute.ns, M.E_InvalidRoute.ec⟩ (all_c ⟨M.E_TooFar.ns, M.E_TooFar.ec⟩ (all_c ⟨M.E_InvalidBand.ns, M.E_InvalidBand.ec⟩ (all_c ⟨M.E_InvalidLayout.ns, M.E_InvalidLayout.ec⟩ (all_c ⟨M.E_InvalidWish.ns, M.E_InvalidWish.ec⟩ (all_c ⟨M.E_NotAllowed.ns, M.E_NotAllowed.ec⟩ (all_c ⟨M.E_Turned.ns, M.E_Turned.ec⟩ (all_c ⟨M.E_Unlike.ns, M.E_Unlike.ec⟩ (all_c ⟨M.E_Circular.ns, M.E_Circular.ec⟩ (all_c ⟨M.E_Barred.ns, M.E_Barred.ec⟩ (all_c ⟨M.E_ParseError.ns, M.E_ParseError.ec⟩ (all_c ⟨M.E_UnknownCommand.ns, M.E_UnknownCommand.ec⟩ (all_c ⟨M.E_NoItem.ns, M.E_NoItem.ec⟩ (all_c ⟨M.E_NoStation.ns, M.E_NoStation.ec⟩ (all_c ⟨M.E_NoDuct.ns, M.E_NoDuct.ec⟩ (all_c ⟨M.E_NoName.ns, M.E_NoName.ec⟩ (all_c ⟨M.E_NoFibre.ns, M.E_NoFibre.ec⟩ (all_c ⟨M.E_TooMany.ns, M.E_TooMany.ec⟩ (all_c ⟨M.E_TooWide.ns, M.E_TooWide.ec⟩ (all_c ⟨M.E_TooNarrow.ns, M.E_TooNarrow.ec⟩ (all_c ⟨M.E_NothingToUndo.ns, M.E_NothingToUndo.ec⟩ all_n)))))))))))))))))))))) M.ki_Barred
theorem xis_Circular (M : Md P K w mg) : XisT K (.ref M.C_Circular) xt_Circular := xis_mk (N := [("InvalidNet", M.C_InvalidNet, false), ("InvalidRoute", M.C_InvalidRoute, false), ("TooFar", M.C_TooFar, false), ("InvalidBand", M.C_InvalidBand, false), ("InvalidLayout", M.C_InvalidLayout, false), ("InvalidWish", M.C_InvalidWish, false), ("NotAllowed", M.C_NotAllowed, false), ("Turned", M.C_Turned, false), ("Unlike", M.C_Unlike, false), ("Circular", M.C_Circular, true), ("Barred", M.C_Barred, false), ("ParseError", M.C_ParseError, false), ("UnknownCommand", M.C_UnknownCommand, false), ("NoItem", M.C_NoItem, false), ("NoStation", M.C_NoStation, false), ("NoDuct", M.C_NoDuct, false), ("NoName", M.C_NoName, false), ("NoFibre", M.C_NoFibre, false), ("TooMany", M.C_TooMany, false), ("TooWide", M.C_TooWide, false), ("TooNarrow", M.C_TooNarrow, false), ("NothingToUndo", M.C_NothingToUndo, false)]) (all_c ⟨M.E_InvalidNet.ns, M.E_InvalidNet.ec⟩ (all_c ⟨M.E_InvalidRoute.ns, M.E_InvalidRoute.ec⟩ (all_c ⟨M.E_TooFar.ns, M.E_TooFar.ec⟩ (all_c ⟨M.E_InvalidBand.ns, M.E_InvalidBand.ec⟩ (all_c ⟨M.E_InvalidLayout.ns, M.E_InvalidLayout.ec⟩ (all_c ⟨M.E_InvalidWish.ns, M.E_InvalidWish.ec⟩ (all_c ⟨M.E_NotAllowed.ns, M.E_NotAllowed.ec⟩ (all_c ⟨M.E_Turned.ns, M.E_Turned.ec⟩ (all_c ⟨M.E_Unlike.ns, M.E_Unlike.ec⟩ (all_c ⟨M.E_Circular.ns, M.E_Circular.ec⟩ (all_c ⟨M.E_Barred.ns, M.E_Barred.ec⟩ (all_c ⟨M.E_ParseError.ns, M.E_ParseError.ec⟩ (all_c ⟨M.E_UnknownCommand.ns, M.E_UnknownCommand.ec⟩ (all_c ⟨M.E_NoItem.ns, M.E_NoItem.ec⟩ (all_c ⟨M.E_NoStation.ns, M.E_NoStation.ec⟩ (all_c ⟨M.E_NoDuct.ns, M.E_NoDuct.ec⟩ (all_c ⟨M.E_NoName.ns, M.E_NoName.ec⟩ (all_c ⟨M.E_NoFibre.ns, M.E_NoFibre.ec⟩ (all_c ⟨M.E_TooMany.ns, M.E_TooMany.ec⟩ (all_c ⟨M.E_TooWide.ns, M.E_TooWide.ec⟩ (all_c ⟨M.E_TooNarrow.ns, M.E_TooNarrow.ec⟩ (all_c ⟨M.E_NothingToUndo.ns, M.E_NothingToUndo.ec⟩ all_n)))))))))))))))))))))) M.ki_Circular
theorem xis_NoStation (M : Md P K w mg) : XisT K (.ref M.C_NoStation) xt_NoStation := xis_mk (N := [("InvalidNet", M.C_InvalidNet, false), ("InvalidRoute", M.C_InvalidRoute, false), ("TooFar", M.C_TooFar, false), ("InvalidBand", M.C_InvalidBand, false), ("InvalidLayout", M.C_InvalidLayout, false), ("InvalidWish", M.C_InvalidWish, false), ("NotAllowed", M.C_NotAllowed, false), ("Turned", M.C_Turned, false), ("Unlike", M.C_Unlike, false), ("Circular", M.C_Circular, false), ("Barred", M.C_Barred, false), ("ParseError", M.C_ParseError, false), ("UnknownCommand", M.C_UnknownCommand, false), ("NoItem", M.C_NoItem, false), ("NoStation", M.C_NoStation, true), ("NoDuct", M.C_NoDuct, false), ("NoName", M.C_NoName, false), ("NoFibre", M.C_NoFibre, false), ("TooMany", M.C_TooMany, false), ("TooWide", M.C_TooWide, false), ("TooNarrow", M.C_TooNarrow, false), ("NothingToUndo", M.C_NothingToUndo, false)]) (all_c ⟨M.E_InvalidNet.ns, M.E_InvalidNet.ec⟩ (all_c ⟨M.E_InvalidRoute.ns, M.E_InvalidRoute.ec⟩ (all_c ⟨M.E_TooFar.ns, M.E_TooFar.ec⟩ (all_c ⟨M.E_InvalidBand.ns, M.E_InvalidBand.ec⟩ (all_c ⟨M.E_InvalidLayout.ns, M.E_InvalidLayout.ec⟩ (all_c ⟨M.E_InvalidWish.ns, M.E_InvalidWish.ec⟩ (all_c ⟨M.E_NotAllowed.ns, M.E_NotAllowed.ec⟩ (all_c ⟨M.E_Turned.ns, M.E_Turned.ec⟩ (all_c ⟨M.E_Unlike.ns, M.E_Unlike.ec⟩ (all_c ⟨M.E_Circular.ns, M.E_Circular.ec⟩ (all_c ⟨M.E_Barred.ns, M.E_Barred.ec⟩ (all_c ⟨M.E_ParseError.ns, M.E_ParseError.ec⟩ (all_c ⟨M.E_UnknownCommand.ns, M.E_UnknownCommand.ec⟩ (all_c ⟨M.E_NoItem.ns, M.E_NoItem.ec⟩ (all_c ⟨M.E_NoStation.ns, M.E_NoStation.ec⟩ (all_c ⟨M.E_NoDuct.ns, M.E_NoDuct.ec⟩ (all_c ⟨M.E_NoName.ns, M.E_NoName.ec⟩ (all_c ⟨M.E_NoFibre.ns, M.E_NoFibre.ec⟩ (all_c ⟨M.E_TooMany.ns, M.E_TooMany.ec⟩ (all_c ⟨M.E_TooWide.ns, M.E_TooWide.ec⟩ (all_c ⟨M.E_TooNarrow.ns, M.E_TooNarrow.ec⟩ (all_c ⟨M.E_NothingToUndo.ns, M.E_NothingToUndo.ec⟩ all_n)))))))))))))))))))))) M.ki_NoStation
theorem xis_NoItem (M : Md P K w mg) : XisT K (.ref M.C_NoItem) xt_NoItem := xis_mk (N := [("InvalidNet", M.C_InvalidNet, false), ("InvalidRoute", M.C_InvalidRoute, false), ("TooFar", M.C_TooFar, false), ("InvalidBand", M.C_InvalidBand, false), ("InvalidLayout", M.C_InvalidLayout, false), ("InvalidWish", M.C_InvalidWish, false), ("NotAllowed", M.C_NotAllowed, false), ("Turned", M.C_Turned, false), ("Unlike", M.C_Unlike, false), ("Circular", M.C_Circular, false), ("Barred", M.C_Barred, false), ("ParseError", M.C_ParseError, false), ("UnknownCommand", M.C_UnknownCommand, false), ("NoItem", M.C_NoItem, true), ("NoStation", M.C_NoStation, false), ("NoDuct", M.C_NoDuct, false), ("NoName", M.C_NoName, false), ("NoFibre", M.C_NoFibre, false), ("TooMany", M.C_TooMany, false), ("TooWide", M.C_TooWide, false), ("TooNarrow", M.C_TooNarrow, false), ("NothingToUndo", M.C_NothingToUndo, false)]) (all_c ⟨M.E_InvalidNet.ns, M.E_InvalidNet.ec⟩ (all_c ⟨M.E_InvalidRoute.ns, M.E_InvalidRoute.ec⟩ (all_c ⟨M.E_TooFar.ns, M.E_TooFar.ec⟩ (all_c ⟨M.E_InvalidBand.ns, M.E_InvalidBand.ec⟩ (all_c ⟨M.E_InvalidLayout.ns, M.E_InvalidLayout.ec⟩ (all_c ⟨M.E_InvalidWish.ns, M.E_InvalidWish.ec⟩ (all_c ⟨M.E_NotAllowed.ns, M.E_NotAllowed.ec⟩ (all_c ⟨M.E_Turned.ns, M.E_Turned.ec⟩ (all_c ⟨M.E_Unlike.ns, M.E_Unlike.ec⟩ (all_c ⟨M.E_Circular.ns, M.E_Circular.ec⟩ (all_c ⟨M.E_Barred.ns, M.E_Barred.ec⟩ (all_c ⟨M.E_ParseError.ns, M.E_ParseError.ec⟩ (all_c ⟨M.E_UnknownCommand.ns, M.E_UnknownCommand.ec⟩ (all_c ⟨M.E_NoItem.ns, M.E_NoItem.ec⟩ (all_c ⟨M.E_NoStation.ns, M.E_NoStation.ec⟩ (all_c ⟨M.E_NoDuct.ns, M.E_NoDuct.ec⟩ (all_c ⟨M.E_NoName.ns, M.E_NoName.ec⟩ (all_c ⟨M.E_NoFibre.ns, M.E_NoFibre.ec⟩ (all_c ⟨M.E_TooMany.ns, M.E_TooMany.ec⟩ (all_c ⟨M.E_TooWide.ns, M.E_TooWide.ec⟩ (all_c ⟨M.E_TooNarrow.ns, M.E_TooNarrow.ec⟩ (all_c ⟨M.E_NothingToUndo.ns, M.E_NothingToUndo.ec⟩ all_n)))))))))))))))))))))) M.ki_NoItem
theorem xis_UnknownCommand (M : Md P K w mg) : XisT K (.ref M.C_UnknownCommand) xt_UnknownCommand := xis_mk (N := [("InvalidNet", M.C_InvalidNet, false), ("InvalidRoute", M.C_InvalidRoute, false), ("TooFar", M.C_TooFar, false), ("InvalidBand", M.C_InvalidBand, false), ("InvalidLayout", M.C_InvalidLayout, false), ("InvalidWish", M.C_InvalidWish, false), ("NotAllowed", M.C_NotAllowed, false), ("Turned", M.C_Turned, false), ("Unlike", M.C_Unlike, false), ("Circular", M.C_Circular, false), ("Barred", M.C_Barred, false), ("ParseError", M.C_ParseError, false), ("UnknownCommand", M.C_UnknownCommand, true), ("NoItem", M.C_NoItem, false), ("NoStation", M.C_NoStation, false), ("NoDuct", M.C_NoDuct, false), ("NoName", M.C_NoName, false), ("NoFibre", M.C_NoFibre, false), ("TooMany", M.C_TooMany, false), ("TooWide", M.C_TooWide, false), ("TooNarrow", M.C_TooNarrow, false), ("NothingToUndo", M.C_NothingToUndo, false)]) (all_c ⟨M.E_InvalidNet.ns, M.E_InvalidNet.ec⟩ (all_c ⟨M.E_InvalidRoute.ns, M.E_InvalidRoute.ec⟩ (all_c ⟨M.E_TooFar.ns, M.E_TooFar.ec⟩ (all_c ⟨M.E_InvalidBand.ns, M.E_InvalidBand.ec⟩ (all_c ⟨M.E_InvalidLayout.ns, M.E_InvalidLayout.ec⟩ (all_c ⟨M.E_InvalidWish.ns, M.E_InvalidWish.ec⟩ (all_c ⟨M.E_NotAllowed.ns, M.E_NotAllowed.ec⟩ (all_c ⟨M.E_Turned.ns, M.E_Turned.ec⟩ (all_c ⟨M.E_Unlike.ns, M.E_Unlike.ec⟩ (all_c ⟨M.E_Circular.ns, M.E_Circular.ec⟩ (all_c ⟨M.E_Barred.ns, M.E_Barred.ec⟩ (all_c ⟨M.E_ParseError.ns, M.E_ParseError.ec⟩ (all_c ⟨M.E_UnknownCommand.ns, M.E_UnknownCommand.ec⟩ (all_c ⟨M.E_NoItem.ns, M.E_NoItem.ec⟩ (all_c ⟨M.E_NoStation.ns, M.E_NoStation.ec⟩ (all_c ⟨M.E_NoDuct.ns, M.E_NoDuct.ec⟩ (all_c ⟨M.E_NoName.ns, M.E_NoName.ec⟩ (all_c ⟨M.E_NoFibre.ns, M.E_NoFibre.ec⟩ (all_c ⟨M.E_TooMany.ns, M.E_TooMany.ec⟩ (all_c ⟨M.E_TooWide.ns, M.E_TooWide.ec⟩ (all_c ⟨M.E_TooNarrow.ns, M.E_TooNarrow.ec⟩ (all_c ⟨M.E_NothingToUndo.ns, M.E_NothingToUndo.ec⟩ all_n)))))))))))))))))))))) M.ki_UnknownCommand
theorem xis_NoFibre (M : Md P K w mg) : XisT K (.ref M.C_NoFibre) xt_NoFibre := xis_mk (N := [("InvalidNet", M.C_InvalidNet, false), ("InvalidRoute", M.C_InvalidRoute, false), ("TooFar", M.C_TooFar, false), ("InvalidBand", M.C_InvalidBand, false), ("InvalidLayout", M.C_InvalidLayout, false), ("InvalidWish", M.C_InvalidWish, false), ("NotAllowed", M.C_NotAllowed, false), ("Turned", M.C_Turned, false), ("Unlike", M.C_Unlike, false), ("Circular", M.C_Circular, false), ("Barred", M.C_Barred, false), ("ParseError", M.C_ParseError, false), ("UnknownCommand", M.C_UnknownCommand, false), ("NoItem", M.C_NoItem, false), ("NoStation", M.C_NoStation, false), ("NoDuct", M.C_NoDuct, false), ("NoName", M.C_NoName, false), ("NoFibre", M.C_NoFibre, true), ("TooMany", M.C_TooMany, false), ("TooWide", M.C_TooWide, false), ("TooNarrow", M.C_TooNarrow, false), ("NothingToUndo", M.C_NothingToUndo, false)]) (all_c ⟨M.E_InvalidNet.ns, M.E_InvalidNet.ec⟩ (all_c ⟨M.E_InvalidRoute.ns, M.E_InvalidRoute.ec⟩ (all_c ⟨M.E_TooFar.ns, M.E_TooFar.ec⟩ (all_c ⟨M.E_InvalidBand.ns, M.E_InvalidBand.ec⟩ (all_c ⟨M.E_InvalidLayout.ns, M.E_InvalidLayout.ec⟩ (all_c ⟨M.E_InvalidWish.ns, M.E_InvalidWish.ec⟩ (all_c ⟨M.E_NotAllowed.ns, M.E_NotAllowed.ec⟩ (all_c ⟨M.E_Turned.ns, M.E_Turned.ec⟩ (all_c ⟨M.E_Unlike.ns, M.E_Unlike.ec⟩ (all_c ⟨M.E_Circular.ns, M.E_Circular.ec⟩ (all_c ⟨M.E_Barred.ns, M.E_Barred.ec⟩ (all_c ⟨M.E_ParseError.ns, M.E_ParseError.ec⟩ (all_c ⟨M.E_UnknownCommand.ns, M.E_UnknownCommand.ec⟩ (all_c ⟨M.E_NoItem.ns, M.E_NoItem.ec⟩ (all_c ⟨M.E_NoStation.ns, M.E_NoStation.ec⟩ (all_c ⟨M.E_NoDuct.ns, M.E_NoDuct.ec⟩ (all_c ⟨M.E_NoName.ns, M.E_NoName.ec⟩ (all_c ⟨M.E_NoFibre.ns, M.E_NoFibre.ec⟩ (all_c ⟨M.E_TooMany.ns, M.E_TooMany.ec⟩ (all_c ⟨M.E_TooWide.ns, M.E_TooWide.ec⟩ (all_c ⟨M.E_TooNarrow.ns, M.E_TooNarrow.ec⟩ (all_c ⟨M.E_NothingToUndo.ns, M.E_NothingToUndo.ec⟩ all_n)))))))))))))))))))))) M.ki_NoFibre
theorem xis_NoName (M : Md P K w mg) : XisT K (.ref M.C_NoName) xt_NoName := xis_mk (N := [("InvalidNet", M.C_InvalidNet, false), ("InvalidRoute", M.C_InvalidRoute, false), ("TooFar", M.C_TooFar, false), ("InvalidBand", M.C_InvalidBand, false), ("InvalidLayout", M.C_InvalidLayout, false), ("InvalidWish", M.C_InvalidWish, false), ("NotAllowed", M.C_NotAllowed, false), ("Turned", M.C_Turned, false), ("Unlike", M.C_Unlike, false), ("Circular", M.C_Circular, false), ("Barred", M.C_Barred, false), ("ParseError", M.C_ParseError, false), ("UnknownCommand", M.C_UnknownCommand, false), ("NoItem", M.C_NoItem, false), ("NoStation", M.C_NoStation, false), ("NoDuct", M.C_NoDuct, false), ("NoName", M.C_NoName, true), ("NoFibre", M.C_NoFibre, false), ("TooMany", M.C_TooMany, false), ("TooWide", M.C_TooWide, false), ("TooNarrow", M.C_TooNarrow, false), ("NothingToUndo", M.C_NothingToUndo, false)]) (all_c ⟨M.E_InvalidNet.ns, M.E_InvalidNet.ec⟩ (all_c ⟨M.E_InvalidRoute.ns, M.E_InvalidRoute.ec⟩ (all_c ⟨M.E_TooFar.ns, M.E_TooFar.ec⟩ (all_c ⟨M.E_InvalidBand.ns, M.E_InvalidBand.ec⟩ (all_c ⟨M.E_InvalidLayout.ns, M.E_InvalidLayout.ec⟩ (all_c ⟨M.E_InvalidWish.ns, M.E_InvalidWish.ec⟩ (all_c ⟨M.E_NotAllowed.ns, M.E_NotAllowed.ec⟩ (all_c ⟨M.E_Turned.ns, M.E_Turned.ec⟩ (all_c ⟨M.E_Unlike.ns, M.E_Unlike.ec⟩ (all_c ⟨M.E_Circular.ns, M.E_Circular.ec⟩ (all_c ⟨M.E_Barred.ns, M.E_Barred.ec⟩ (all_c ⟨M.E_ParseError.ns, M.E_ParseError.ec⟩ (all_c ⟨M.E_UnknownCommand.ns, M.E_UnknownCommand.ec⟩ (all_c ⟨M.E_NoItem.ns, M.E_NoItem.ec⟩ (all_c ⟨M.E_NoStation.ns, M.E_NoStation.ec⟩ (all_c ⟨M.E_NoDuct.ns, M.E_NoDuct.ec⟩ (all_c ⟨M.E_NoName.ns, M.E_NoName.ec⟩ (all_c ⟨M.E_NoFibre.ns, M.E_NoFibre.ec⟩ (all_c ⟨M.E_TooMany.ns, M.E_TooMany.ec⟩ (all_c ⟨M.E_TooWide.ns, M.E_TooWide.ec⟩ (all_c ⟨M.E_TooNarrow.ns, M.E_TooNarrow.ec⟩ (all_c ⟨M.E_NothingToUndo.ns, M.E_NothingToUndo.ec⟩ all_n)))))))))))))))))))))) M.ki_NoName
theorem xis_NoDuct (M : Md P K w mg) : XisT K (.ref M.C_NoDuct) xt_NoDuct := xis_mk (N := [("InvalidNet", M.C_InvalidNet, false), ("InvalidRoute", M.C_InvalidRoute, false), ("TooFar", M.C_TooFar, false), ("InvalidBand", M.C_InvalidBand, false), ("InvalidLayout", M.C_InvalidLayout, false), ("InvalidWish", M.C_InvalidWish, false), ("NotAllowed", M.C_NotAllowed, false), ("Turned", M.C_Turned, false), ("Unlike", M.C_Unlike, false), ("Circular", M.C_Circular, false), ("Barred", M.C_Barred, false), ("ParseError", M.C_ParseError, false), ("UnknownCommand", M.C_UnknownCommand, false), ("NoItem", M.C_NoItem, false), ("NoStation", M.C_NoStation, false), ("NoDuct", M.C_NoDuct, true), ("NoName", M.C_NoName, false), ("NoFibre", M.C_NoFibre, false), ("TooMany", M.C_TooMany, false), ("TooWide", M.C_TooWide, false), ("TooNarrow", M.C_TooNarrow, false), ("NothingToUndo", M.C_NothingToUndo, false)]) (all_c ⟨M.E_InvalidNet.ns, M.E_InvalidNet.ec⟩ (all_c ⟨M.E_InvalidRoute.ns, M.E_InvalidRoute.ec⟩ (all_c ⟨M.E_TooFar.ns, M.E_TooFar.ec⟩ (all_c ⟨M.E_InvalidBand.ns, M.E_InvalidBand.ec⟩ (all_c ⟨M.E_InvalidLayout.ns, M.E_InvalidLayout.ec⟩ (all_c ⟨M.E_InvalidWish.ns, M.E_InvalidWish.ec⟩ (all_c ⟨M.E_NotAllowed.ns, M.E_NotAllowed.ec⟩ (all_c ⟨M.E_Turned.ns, M.E_Turned.ec⟩ (all_c ⟨M.E_Unlike.ns, M.E_Unlike.ec⟩ (all_c ⟨M.E_Circular.ns, M.E_Circular.ec⟩ (all_c ⟨M.E_Barred.ns, M.E_Barred.ec⟩ (all_c ⟨M.E_ParseError.ns, M.E_ParseError.ec⟩ (all_c ⟨M.E_UnknownCommand.ns, M.E_UnknownCommand.ec⟩ (all_c ⟨M.E_NoItem.ns, M.E_NoItem.ec⟩ (all_c ⟨M.E_NoStation.ns, M.E_NoStation.ec⟩ (all_c ⟨M.E_NoDuct.ns, M.E_NoDuct.ec⟩ (all_c ⟨M.E_NoName.ns, M.E_NoName.ec⟩ (all_c ⟨M.E_NoFibre.ns, M.E_NoFibre.ec⟩ (all_c ⟨M.E_TooMany.ns, M.E_TooMany.ec⟩ (all_c ⟨M.E_TooWide.ns, M.E_TooWide.ec⟩ (all_c ⟨M.E_TooNarrow.ns, M.E_TooNarrow.ec⟩ (all_c ⟨M.E_NothingToUndo.ns, M.E_NothingToUndo.ec⟩ all_n)))))))))))))))))))))) M.ki_NoDuct
theorem xis_TooNarrow (M : Md P K w mg) : XisT K (.ref M.C_TooNarrow) xt_TooNarrow := xis_mk (N := [("InvalidNet", M.C_InvalidNet, false), ("InvalidRoute", M.C_InvalidRoute, false), ("TooFar", M.C_TooFar, false), ("InvalidBand", M.C_InvalidBand, false), ("InvalidLayout", M.C_InvalidLayout, false), ("InvalidWish", M.C_InvalidWish, false), ("NotAllowed", M.C_NotAllowed, false), ("Turned", M.C_Turned, false), ("Unlike", M.C_Unlike, false), ("Circular", M.C_Circular, false), ("Barred", M.C_Barred, false), ("ParseError", M.C_ParseError, false), ("UnknownCommand", M.C_UnknownCommand, false), ("NoItem", M.C_NoItem, false), ("NoStation", M.C_NoStation, false), ("NoDuct", M.C_NoDuct, false), ("NoName", M.C_NoName, false), ("NoFibre", M.C_NoFibre, false), ("TooMany", M.C_TooMany, false), ("TooWide", M.C_TooWide, false), ("TooNarrow", M.C_TooNarrow, true), ("NothingToUndo", M.C_NothingToUndo, false)]) (all_c ⟨M.E_InvalidNet.ns, M.E_InvalidNet.ec⟩ (all_c ⟨M.E_InvalidRoute.ns, M.E_InvalidRoute.ec⟩ (all_c ⟨M.E_TooFar.ns, M.E_TooFar.ec⟩ (all_c ⟨M.E_InvalidBand.ns, M.E_InvalidBand.ec⟩ (all_c ⟨M.E_InvalidLayout.ns, M.E_InvalidLayout.ec⟩ (all_c ⟨M.E_InvalidWish.ns, M.E_InvalidWish.ec⟩ (all_c ⟨M.E_NotAllowed.ns, M.E_NotAllowed.ec⟩ (all_c ⟨M.E_Turned.ns, M.E_Turned.ec⟩ (all_c ⟨M.E_Unlike.ns, M.E_Unlike.ec⟩ (all_c ⟨M.E_Circular.ns, M.E_Circular.ec⟩ (all_c ⟨M.E_Barred.ns, M.E_Barred.ec⟩ (all_c ⟨M.E_ParseError.ns, M.E_ParseError.ec⟩ (all_c ⟨M.E_UnknownCommand.ns, M.E_UnknownCommand.ec⟩ (all_c ⟨M.E_NoItem.ns, M.E_NoItem.ec⟩ (all_c ⟨M.E_NoStation.ns, M.E_NoStation.ec⟩ (all_c ⟨M.E_NoDuct.ns, M.E_NoDuct.ec⟩ (all_c ⟨M.E_NoName.ns, M.E_NoName.ec⟩ (all_c ⟨M.E_NoFibre.ns, M.E_NoFibre.ec⟩ (all_c ⟨M.E_TooMany.ns, M.E_TooMany.ec⟩ (all_c ⟨M.E_TooWide.ns, M.E_TooWide.ec⟩ (all_c ⟨M.E_TooNarrow.ns, M.E_TooNarrow.ec⟩ (all_c ⟨M.E_NothingToUndo.ns, M.E_NothingToUndo.ec⟩ all_n)))))))))))))))))))))) M.ki_TooNarrow
theorem xis_TooWide (M : Md P K w mg) : XisT K (.ref M.C_TooWide) xt_TooWide := xis_mk (N := [("InvalidNet", M.C_InvalidNet, false), ("InvalidRoute", M.C_InvalidRoute, false), ("TooFar", M.C_TooFar, false), ("InvalidBand", M.C_InvalidBand, false), ("InvalidLayout", M.C_InvalidLayout, false), ("InvalidWish", M.C_InvalidWish, false), ("NotAllowed", M.C_NotAllowed, false), ("Turned", M.C_Turned, false), ("Unlike", M.C_Unlike, false), ("Circular", M.C_Circular, false), ("Barred", M.C_Barred, false), ("ParseError", M.C_ParseError, false), ("UnknownCommand", M.C_UnknownCommand, false), ("NoItem", M.C_NoItem, false), ("NoStation", M.C_NoStation, false), ("NoDuct", M.C_NoDuct, false), ("NoName", M.C_NoName, false), ("NoFibre", M.C_NoFibre, false), ("TooMany", M.C_TooMany, false), ("TooWide", M.C_TooWide, true), ("TooNarrow", M.C_TooNarrow, false), ("NothingToUndo", M.C_NothingToUndo, false)]) (all_c ⟨M.E_InvalidNet.ns, M.E_InvalidNet.ec⟩ (all_c ⟨M.E_InvalidRoute.ns, M.E_InvalidRoute.ec⟩ (all_c ⟨M.E_TooFar.ns, M.E_TooFar.ec⟩ (all_c ⟨M.E_InvalidBand.ns, M.E_InvalidBand.ec⟩ (all_c ⟨M.E_InvalidLayout.ns, M.E_InvalidLayout.ec⟩ (all_c ⟨M.E_InvalidWish.ns, M.E_InvalidWish.ec⟩ (all_c ⟨M.E_NotAllowed.ns, M.E_NotAllowed.ec⟩ (all_c ⟨M.E_Turned.ns, M.E_Turned.ec⟩ (all_c ⟨M.E_Unlike.ns, M.E_Unlike.ec⟩ (all_c ⟨M.E_Circular.ns, M.E_Circular.ec⟩ (all_c ⟨M.E_Barred.ns, M.E_Barred.ec⟩ (all_c ⟨M.E_ParseError.ns, M.E_ParseError.ec⟩ (all_c ⟨M.E_UnknownCommand.ns, M.E_UnknownCommand.ec⟩ (all_c ⟨M.E_NoItem.ns, M.E_NoItem.ec⟩ (all_c ⟨M.E_NoStation.ns, M.E_NoStation.ec⟩ (all_c ⟨M.E_NoDuct.ns, M.E_NoDuct.ec⟩ (all_c ⟨M.E_NoName.ns, M.E_NoName.ec⟩ (all_c ⟨M.E_NoFibre.ns, M.E_NoFibre.ec⟩ (all_c ⟨M.E_TooMany.ns, M.E_TooMany.ec⟩ (all_c ⟨M.E_TooWide.ns, M.E_TooWide.ec⟩ (all_c ⟨M.E_TooNarrow.ns, M.E_TooNarrow.ec⟩ (all_c ⟨M.E_NothingToUndo.ns, M.E_NothingToUndo.ec⟩ all_n)))))))))))))))))))))) M.ki_TooWide
theorem xis_TooMany (M : Md P K w mg) : XisT K (.ref M.C_TooMany) xt_TooMany := xis_mk (N := [("InvalidNet", M.C_InvalidNet, false), ("InvalidRoute", M.C_InvalidRoute, false), ("TooFar", M.C_TooFar, false), ("InvalidBand", M.C_InvalidBand, false), ("InvalidLayout", M.C_InvalidLayout, false), ("InvalidWish", M.C_InvalidWish, false), ("NotAllowed", M.C_NotAllowed, false), ("Turned", M.C_Turned, false), ("Unlike", M.C_Unlike, false), ("Circular", M.C_Circular, false), ("Barred", M.C_Barred, false), ("ParseError", M.C_ParseError, false), ("UnknownCommand", M.C_UnknownCommand, false), ("NoItem", M.C_NoItem, false), ("NoStation", M.C_NoStation, false), ("NoDuct", M.C_NoDuct, false), ("NoName", M.C_NoName, false), ("NoFibre", M.C_NoFibre, false), ("TooMany", M.C_TooMany, true), ("TooWide", M.C_TooWide, false), ("TooNarrow", M.C_TooNarrow, false), ("NothingToUndo", M.C_NothingToUndo, false)]) (all_c ⟨M.E_InvalidNet.ns, M.E_InvalidNet.ec⟩ (all_c ⟨M.E_InvalidRoute.ns, M.E_InvalidRoute.ec⟩ (all_c ⟨M.E_TooFar.ns, M.E_TooFar.ec⟩ (all_c ⟨M.E_InvalidBand.ns, M.E_InvalidBand.ec⟩ (all_c ⟨M.E_InvalidLayout.ns, M.E_InvalidLayout.ec⟩ (all_c ⟨M.E_InvalidWish.ns, M.E_InvalidWish.ec⟩ (all_c ⟨M.E_NotAllowed.ns, M.E_NotAllowed.ec⟩ (all_c ⟨M.E_Turned.ns, M.E_Turned.ec⟩ (all_c ⟨M.E_Unlike.ns, M.E_Unlike.ec⟩ (all_c ⟨M.E_Circular.ns, M.E_Circular.ec⟩ (all_c ⟨M.E_Barred.ns, M.E_Barred.ec⟩ (all_c ⟨M.E_ParseError.ns, M.E_ParseError.ec⟩ (all_c ⟨M.E_UnknownCommand.ns, M.E_UnknownCommand.ec⟩ (all_c ⟨M.E_NoItem.ns, M.E_NoItem.ec⟩ (all_c ⟨M.E_NoStation.ns, M.E_NoStation.ec⟩ (all_c ⟨M.E_NoDuct.ns, M.E_NoDuct.ec⟩ (all_c ⟨M.E_NoName.ns, M.E_NoName.ec⟩ (all_c ⟨M.E_NoFibre.ns, M.E_NoFibre.ec⟩ (all_c ⟨M.E_TooMany.ns, M.E_TooMany.ec⟩ (all_c ⟨M.E_TooWide.ns, M.E_TooWide.ec⟩ (all_c ⟨M.E_TooNarrow.ns, M.E_TooNarrow.ec⟩ (all_c ⟨M.E_NothingToUndo.ns, M.E_NothingToUndo.ec⟩ all_n)))))))))))))))))))))) M.ki_TooMany
theorem xis_NothingToUndo (M : Md P K w mg) : XisT K (.ref M.C_NothingToUndo) xt_NothingToUndo := xis_mk (N := [("InvalidNet", M.C_InvalidNet, false), ("InvalidRoute", M.C_InvalidRoute, false), ("TooFar", M.C_TooFar, false), ("InvalidBand", M.C_InvalidBand, false), ("InvalidLayout", M.C_InvalidLayout, false), ("InvalidWish", M.C_InvalidWish, false), ("NotAllowed", M.C_NotAllowed, false), ("Turned", M.C_Turned, false), ("Unlike", M.C_Unlike, false), ("Circular", M.C_Circular, false), ("Barred", M.C_Barred, false), ("ParseError", M.C_ParseError, false), ("UnknownCommand", M.C_UnknownCommand, false), ("NoItem", M.C_NoItem, false), ("NoStation", M.C_NoStation, false), ("NoDuct", M.C_NoDuct, false), ("NoName", M.C_NoName, false), ("NoFibre", M.C_NoFibre, false), ("TooMany", M.C_TooMany, false), ("TooWide", M.C_TooWide, false), ("TooNarrow", M.C_TooNarrow, false), ("NothingToUndo", M.C_NothingToUndo, true)]) (all_c ⟨M.E_InvalidNet.ns, M.E_InvalidNet.ec⟩ (all_c ⟨M.E_InvalidRoute.ns, M.E_InvalidRoute.ec⟩ (all_c ⟨M.E_TooFar.ns, M.E_TooFar.ec⟩ (all_c ⟨M.E_InvalidBand.ns, M.E_InvalidBand.ec⟩ (all_c ⟨M.E_InvalidLayout.ns, M.E_InvalidLayout.ec⟩ (all_c ⟨M.E_InvalidWish.ns, M.E_InvalidWish.ec⟩ (all_c ⟨M.E_NotAllowed.ns, M.E_NotAllowed.ec⟩ (all_c ⟨M.E_Turned.ns, M.E_Turned.ec⟩ (all_c ⟨M.E_Unlike.ns, M.E_Unlike.ec⟩ (all_c ⟨M.E_Circular.ns, M.E_Circular.ec⟩ (all_c ⟨M.E_Barred.ns, M.E_Barred.ec⟩ (all_c ⟨M.E_ParseError.ns, M.E_ParseError.ec⟩ (all_c ⟨M.E_UnknownCommand.ns, M.E_UnknownCommand.ec⟩ (all_c ⟨M.E_NoItem.ns, M.E_NoItem.ec⟩ (all_c ⟨M.E_NoStation.ns, M.E_NoStation.ec⟩ (all_c ⟨M.E_NoDuct.ns, M.E_NoDuct.ec⟩ (all_c ⟨M.E_NoName.ns, M.E_NoName.ec⟩ (all_c ⟨M.E_NoFibre.ns, M.E_NoFibre.ec⟩ (all_c ⟨M.E_TooMany.ns, M.E_TooMany.ec⟩ (all_c ⟨M.E_TooWide.ns, M.E_TooWide.ec⟩ (all_c ⟨M.E_TooNarrow.ns, M.E_TooNarrow.ec⟩ (all_c ⟨M.E_NothingToUndo.ns, M.E_NothingToUndo.ec⟩ all_n)))))))))))))))))))))) M.ki_NothingToUndo
theorem xis_KeyError (M : Md P K w mg) : XisT K (.type "KeyError") xt_KeyError := xis_mk (N := [("InvalidNet", M.C_InvalidNet, false), ("InvalidRoute", M.C_InvalidRoute, false), ("TooFar", M.C_TooFar, false), ("InvalidBand", M.C_InvalidBand, false), ("InvalidLayout", M.C_InvalidLayout, false), ("InvalidWish", M.C_InvalidWish, false), ("NotAllowed", M.C_NotAllowed, false), ("Turned", M.C_Turned, false), ("Unlike", M.C_Unlike, false), ("Circular", M.C_Circular, false), ("Barred", M.C_Barred, false), ("ParseError", M.C_ParseError, false), ("UnknownCommand", M.C_UnknownCommand, false), ("NoItem", M.C_NoItem, true), ("NoStation", M.C_NoStation, true), ("NoDuct", M.C_NoDuct, true), ("NoName", M.C_NoName, true), ("NoFibre", M.C_NoFibre, false), ("TooMany", M.C_TooMany, false), ("TooWide", M.C_TooWide, false), ("TooNarrow", M.C_TooNarrow, false), ("NothingToUndo", M.C_NothingToUndo, false)]) (all_c ⟨M.E_InvalidNet.ns, M.E_InvalidNet.ec⟩ (all_c ⟨M.E_InvalidRoute.ns, M.E_InvalidRoute.ec⟩ (all_c ⟨M.E_TooFar.ns, M.E_TooFar.ec⟩ (all_c ⟨M.E_InvalidBand.ns, M.E_InvalidBand.ec⟩ (all_c ⟨M.E_InvalidLayout.ns, M.E_InvalidLayout.ec⟩ (all_c ⟨M.E_InvalidWish.ns, M.E_InvalidWish.ec⟩ (all_c ⟨M.E_NotAllowed.ns, M.E_NotAllowed.ec⟩ (all_c ⟨M.E_Turned.ns, M.E_Turned.ec⟩ (all_c ⟨M.E_Unlike.ns, M.E_Unlike.ec⟩ (all_c ⟨M.E_Circular.ns, M.E_Circular.ec⟩ (all_c ⟨M.E_Barred.ns, M.E_Barred.ec⟩ (all_c ⟨M.E_ParseError.ns, M.E_ParseError.ec⟩ (all_c ⟨M.E_UnknownCommand.ns, M.E_UnknownCommand.ec⟩ (all_c ⟨M.E_NoItem.ns, M.E_NoItem.ec⟩ (all_c ⟨M.E_NoStation.ns, M.E_NoStation.ec⟩ (all_c ⟨M.E_NoDuct.ns, M.E_NoDuct.ec⟩ (all_c ⟨M.E_NoName.ns, M.E_NoName.ec⟩ (all_c ⟨M.E_NoFibre.ns, M.E_NoFibre.ec⟩ (all_c ⟨M.E_TooMany.ns, M.E_TooMany.ec⟩ (all_c ⟨M.E_TooWide.ns, M.E_TooWide.ec⟩ (all_c ⟨M.E_TooNarrow.ns, M.E_TooNarrow.ec⟩ (all_c ⟨M.E_NothingToUndo.ns, M.E_NothingToUndo.ec⟩ all_n)))))))))))))))))))))) M.ki_KeyError
theorem xis_ValueError (M : Md P K w mg) : XisT K (.type "ValueError") xt_ValueError := xis_mk (N := [("InvalidNet", M.C_InvalidNet, true), ("InvalidRoute", M.C_InvalidRoute, true), ("TooFar", M.C_TooFar, true), ("InvalidBand", M.C_InvalidBand, true), ("InvalidLayout", M.C_InvalidLayout, true), ("InvalidWish", M.C_InvalidWish, true), ("NotAllowed", M.C_NotAllowed, true), ("Turned", M.C_Turned, true), ("Unlike", M.C_Unlike, true), ("Circular", M.C_Circular, true), ("Barred", M.C_Barred, true), ("ParseError", M.C_ParseError, true), ("UnknownCommand", M.C_UnknownCommand, true), ("NoItem", M.C_NoItem, false), ("NoStation", M.C_NoStation, false), ("NoDuct", M.C_NoDuct, false), ("NoName", M.C_NoName, false), ("NoFibre", M.C_NoFibre, false), ("TooMany", M.C_TooMany, false), ("TooWide", M.C_TooWide, false), ("TooNarrow", M.C_TooNarrow, false), ("NothingToUndo", M.C_NothingToUndo, false)]) (all_c ⟨M.E_InvalidNet.ns, M.E_InvalidNet.ec⟩ (all_c ⟨M.E_InvalidRoute.ns, M.E_InvalidRoute.ec⟩ (all_c ⟨M.E_TooFar.ns, M.E_TooFar.ec⟩ (all_c ⟨M.E_InvalidBand.ns, M.E_InvalidBand.ec⟩ (all_c ⟨M.E_InvalidLayout.ns, M.E_InvalidLayout.ec⟩ (all_c ⟨M.E_InvalidWish.ns, M.E_InvalidWish.ec⟩ (all_c ⟨M.E_NotAllowed.ns, M.E_NotAllowed.ec⟩ (all_c ⟨M.E_Turned.ns, M.E_Turned.ec⟩ (all_c ⟨M.E_Unlike.ns, M.E_Unlike.ec⟩ (all_c ⟨M.E_Circular.ns, M.E_Circular.ec⟩ (all_c ⟨M.E_Barred.ns, M.E_Barred.ec⟩ (all_c ⟨M.E_ParseError.ns, M.E_ParseError.ec⟩ (all_c ⟨M.E_UnknownCommand.ns, M.E_UnknownCommand.ec⟩ (all_c ⟨M.E_NoItem.ns, M.E_NoItem.ec⟩ (all_c ⟨M.E_NoStation.ns, M.E_NoStation.ec⟩ (all_c ⟨M.E_NoDuct.ns, M.E_NoDuct.ec⟩ (all_c ⟨M.E_NoName.ns, M.E_NoName.ec⟩ (all_c ⟨M.E_NoFibre.ns, M.E_NoFibre.ec⟩ (all_c ⟨M.E_TooMany.ns, M.E_TooMany.ec⟩ (all_c ⟨M.E_TooWide.ns, M.E_TooWide.ec⟩ (all_c ⟨M.E_TooNarrow.ns, M.E_TooNarrow.ec⟩ (all_c ⟨M.E_NothingToUndo.ns, M.E_NothingToUndo.ec⟩ all_n)))))))))))))))))))))) M.ki_ValueError
theorem xis_LightError (M : Md P K w mg) : XisT K (.ref M.C_LightError) xt_LightError := xis_mk (N := [("InvalidNet", M.C_InvalidNet, true), ("InvalidRoute", M.C_InvalidRoute, true), ("TooFar", M.C_TooFar, true), ("InvalidBand", M.C_InvalidBand, true), ("InvalidLayout", M.C_InvalidLayout, true), ("InvalidWish", M.C_InvalidWish, true), ("NotAllowed", M.C_NotAllowed, true), ("Turned", M.C_Turned, true), ("Unlike", M.C_Unlike, true), ("Circular", M.C_Circular, true), ("Barred", M.C_Barred, true), ("ParseError", M.C_ParseError, true), ("UnknownCommand", M.C_UnknownCommand, true), ("NoItem", M.C_NoItem, false), ("NoStation", M.C_NoStation, false), ("NoDuct", M.C_NoDuct, false), ("NoName", M.C_NoName, false), ("NoFibre", M.C_NoFibre, false), ("TooMany", M.C_TooMany, false), ("TooWide", M.C_TooWide, false), ("TooNarrow", M.C_TooNarrow, false), ("NothingToUndo", M.C_NothingToUndo, false)]) (all_c ⟨M.E_InvalidNet.ns, M.E_InvalidNet.ec⟩ (all_c ⟨M.E_InvalidRoute.ns, M.E_InvalidRoute.ec⟩ (all_c ⟨M.E_TooFar.ns, M.E_TooFar.ec⟩ (all_c ⟨M.E_InvalidBand.ns, M.E_InvalidBand.ec⟩ (all_c ⟨M.E_InvalidLayout.ns, M.E_InvalidLayout.ec⟩ (all_c ⟨M.E_InvalidWish.ns, M.E_InvalidWish.ec⟩ (all_c ⟨M.E_NotAllowed.ns, M.E_NotAllowed.ec⟩ (all_c ⟨M.E_Turned.ns, M.E_Turned.ec⟩ (all_c ⟨M.E_Unlike.ns, M.E_Unlike.ec⟩ (all_c ⟨M.E_Circular.ns, M.E_Circular.ec⟩ (all_c ⟨M.E_Barred.ns, M.E_Barred.ec⟩ (all_c ⟨M.E_ParseError.ns, M.E_ParseError.ec⟩ (all_c ⟨M.E_UnknownCommand.ns, M.E_UnknownCommand.ec⟩ (all_c ⟨M.E_NoItem.ns, M.E_NoItem.ec⟩ (all_c ⟨M.E_NoStation.ns, M.E_NoStation.ec⟩ (all_c ⟨M.E_NoDuct.ns, M.E_NoDuct.ec⟩ (all_c ⟨M.E_NoName.ns, M.E_NoName.ec⟩ (all_c ⟨M.E_NoFibre.ns, M.E_NoFibre.ec⟩ (all_c ⟨M.E_TooMany.ns, M.E_TooMany.ec⟩ (all_c ⟨M.E_TooWide.ns, M.E_TooWide.ec⟩ (all_c ⟨M.E_TooNarrow.ns, M.E_TooNarrow.ec⟩ (all_c ⟨M.E_NothingToUndo.ns, M.E_NothingToUndo.ec⟩ all_n)))))))))))))))))))))) M.ki_LightError
theorem xis_LookupError (M : Md P K w mg) : XisT K (.type "LookupError") xt_LookupError := xis_mk (N := [("InvalidNet", M.C_InvalidNet, false), ("InvalidRoute", M.C_InvalidRoute, false), ("TooFar", M.C_TooFar, false), ("InvalidBand", M.C_InvalidBand, false), ("InvalidLayout", M.C_InvalidLayout, false), ("InvalidWish", M.C_InvalidWish, false), ("NotAllowed", M.C_NotAllowed, false), ("Turned", M.C_Turned, false), ("Unlike", M.C_Unlike, false), ("Circular", M.C_Circular, false), ("Barred", M.C_Barred, false), ("ParseError", M.C_ParseError, false), ("UnknownCommand", M.C_UnknownCommand, false), ("NoItem", M.C_NoItem, true), ("NoStation", M.C_NoStation, true), ("NoDuct", M.C_NoDuct, true), ("NoName", M.C_NoName, true), ("NoFibre", M.C_NoFibre, true), ("TooMany", M.C_TooMany, false), ("TooWide", M.C_TooWide, false), ("TooNarrow", M.C_TooNarrow, false), ("NothingToUndo", M.C_NothingToUndo, true)]) (all_c ⟨M.E_InvalidNet.ns, M.E_InvalidNet.ec⟩ (all_c ⟨M.E_InvalidRoute.ns, M.E_InvalidRoute.ec⟩ (all_c ⟨M.E_TooFar.ns, M.E_TooFar.ec⟩ (all_c ⟨M.E_InvalidBand.ns, M.E_InvalidBand.ec⟩ (all_c ⟨M.E_InvalidLayout.ns, M.E_InvalidLayout.ec⟩ (all_c ⟨M.E_InvalidWish.ns, M.E_InvalidWish.ec⟩ (all_c ⟨M.E_NotAllowed.ns, M.E_NotAllowed.ec⟩ (all_c ⟨M.E_Turned.ns, M.E_Turned.ec⟩ (all_c ⟨M.E_Unlike.ns, M.E_Unlike.ec⟩ (all_c ⟨M.E_Circular.ns, M.E_Circular.ec⟩ (all_c ⟨M.E_Barred.ns, M.E_Barred.ec⟩ (all_c ⟨M.E_ParseError.ns, M.E_ParseError.ec⟩ (all_c ⟨M.E_UnknownCommand.ns, M.E_UnknownCommand.ec⟩ (all_c ⟨M.E_NoItem.ns, M.E_NoItem.ec⟩ (all_c ⟨M.E_NoStation.ns, M.E_NoStation.ec⟩ (all_c ⟨M.E_NoDuct.ns, M.E_NoDuct.ec⟩ (all_c ⟨M.E_NoName.ns, M.E_NoName.ec⟩ (all_c ⟨M.E_NoFibre.ns, M.E_NoFibre.ec⟩ (all_c ⟨M.E_TooMany.ns, M.E_TooMany.ec⟩ (all_c ⟨M.E_TooWide.ns, M.E_TooWide.ec⟩ (all_c ⟨M.E_TooNarrow.ns, M.E_TooNarrow.ec⟩ (all_c ⟨M.E_NothingToUndo.ns, M.E_NothingToUndo.ec⟩ all_n)))))))))))))))))))))) M.ki_LookupError
theorem xis_OverflowError (M : Md P K w mg) : XisT K (.type "OverflowError") xt_OverflowError := xis_mk (N := [("InvalidNet", M.C_InvalidNet, false), ("InvalidRoute", M.C_InvalidRoute, false), ("TooFar", M.C_TooFar, false), ("InvalidBand", M.C_InvalidBand, false), ("InvalidLayout", M.C_InvalidLayout, false), ("InvalidWish", M.C_InvalidWish, false), ("NotAllowed", M.C_NotAllowed, false), ("Turned", M.C_Turned, false), ("Unlike", M.C_Unlike, false), ("Circular", M.C_Circular, false), ("Barred", M.C_Barred, false), ("ParseError", M.C_ParseError, false), ("UnknownCommand", M.C_UnknownCommand, false), ("NoItem", M.C_NoItem, false), ("NoStation", M.C_NoStation, false), ("NoDuct", M.C_NoDuct, false), ("NoName", M.C_NoName, false), ("NoFibre", M.C_NoFibre, false), ("TooMany", M.C_TooMany, true), ("TooWide", M.C_TooWide, true), ("TooNarrow", M.C_TooNarrow, true), ("NothingToUndo", M.C_NothingToUndo, false)]) (all_c ⟨M.E_InvalidNet.ns, M.E_InvalidNet.ec⟩ (all_c ⟨M.E_InvalidRoute.ns, M.E_InvalidRoute.ec⟩ (all_c ⟨M.E_TooFar.ns, M.E_TooFar.ec⟩ (all_c ⟨M.E_InvalidBand.ns, M.E_InvalidBand.ec⟩ (all_c ⟨M.E_InvalidLayout.ns, M.E_InvalidLayout.ec⟩ (all_c ⟨M.E_InvalidWish.ns, M.E_InvalidWish.ec⟩ (all_c ⟨M.E_NotAllowed.ns, M.E_NotAllowed.ec⟩ (all_c ⟨M.E_Turned.ns, M.E_Turned.ec⟩ (all_c ⟨M.E_Unlike.ns, M.E_Unlike.ec⟩ (all_c ⟨M.E_Circular.ns, M.E_Circular.ec⟩ (all_c ⟨M.E_Barred.ns, M.E_Barred.ec⟩ (all_c ⟨M.E_ParseError.ns, M.E_ParseError.ec⟩ (all_c ⟨M.E_UnknownCommand.ns, M.E_UnknownCommand.ec⟩ (all_c ⟨M.E_NoItem.ns, M.E_NoItem.ec⟩ (all_c ⟨M.E_NoStation.ns, M.E_NoStation.ec⟩ (all_c ⟨M.E_NoDuct.ns, M.E_NoDuct.ec⟩ (all_c ⟨M.E_NoName.ns, M.E_NoName.ec⟩ (all_c ⟨M.E_NoFibre.ns, M.E_NoFibre.ec⟩ (all_c ⟨M.E_TooMany.ns, M.E_TooMany.ec⟩ (all_c ⟨M.E_TooWide.ns, M.E_TooWide.ec⟩ (all_c ⟨M.E_TooNarrow.ns, M.E_TooNarrow.ec⟩ (all_c ⟨M.E_NothingToUndo.ns, M.E_NothingToUndo.ec⟩ all_n)))))))))))))))))))))) M.ki_OverflowError
theorem xis_IndexError (M : Md P K w mg) : XisT K (.type "IndexError") xt_IndexError := xis_mk (N := [("InvalidNet", M.C_InvalidNet, false), ("InvalidRoute", M.C_InvalidRoute, false), ("TooFar", M.C_TooFar, false), ("InvalidBand", M.C_InvalidBand, false), ("InvalidLayout", M.C_InvalidLayout, false), ("InvalidWish", M.C_InvalidWish, false), ("NotAllowed", M.C_NotAllowed, false), ("Turned", M.C_Turned, false), ("Unlike", M.C_Unlike, false), ("Circular", M.C_Circular, false), ("Barred", M.C_Barred, false), ("ParseError", M.C_ParseError, false), ("UnknownCommand", M.C_UnknownCommand, false), ("NoItem", M.C_NoItem, false), ("NoStation", M.C_NoStation, false), ("NoDuct", M.C_NoDuct, false), ("NoName", M.C_NoName, false), ("NoFibre", M.C_NoFibre, true), ("TooMany", M.C_TooMany, false), ("TooWide", M.C_TooWide, false), ("TooNarrow", M.C_TooNarrow, false), ("NothingToUndo", M.C_NothingToUndo, false)]) (all_c ⟨M.E_InvalidNet.ns, M.E_InvalidNet.ec⟩ (all_c ⟨M.E_InvalidRoute.ns, M.E_InvalidRoute.ec⟩ (all_c ⟨M.E_TooFar.ns, M.E_TooFar.ec⟩ (all_c ⟨M.E_InvalidBand.ns, M.E_InvalidBand.ec⟩ (all_c ⟨M.E_InvalidLayout.ns, M.E_InvalidLayout.ec⟩ (all_c ⟨M.E_InvalidWish.ns, M.E_InvalidWish.ec⟩ (all_c ⟨M.E_NotAllowed.ns, M.E_NotAllowed.ec⟩ (all_c ⟨M.E_Turned.ns, M.E_Turned.ec⟩ (all_c ⟨M.E_Unlike.ns, M.E_Unlike.ec⟩ (all_c ⟨M.E_Circular.ns, M.E_Circular.ec⟩ (all_c ⟨M.E_Barred.ns, M.E_Barred.ec⟩ (all_c ⟨M.E_ParseError.ns, M.E_ParseError.ec⟩ (all_c ⟨M.E_UnknownCommand.ns, M.E_UnknownCommand.ec⟩ (all_c ⟨M.E_NoItem.ns, M.E_NoItem.ec⟩ (all_c ⟨M.E_NoStation.ns, M.E_NoStation.ec⟩ (all_c ⟨M.E_NoDuct.ns, M.E_NoDuct.ec⟩ (all_c ⟨M.E_NoName.ns, M.E_NoName.ec⟩ (all_c ⟨M.E_NoFibre.ns, M.E_NoFibre.ec⟩ (all_c ⟨M.E_TooMany.ns, M.E_TooMany.ec⟩ (all_c ⟨M.E_TooWide.ns, M.E_TooWide.ec⟩ (all_c ⟨M.E_TooNarrow.ns, M.E_TooNarrow.ec⟩ (all_c ⟨M.E_NothingToUndo.ns, M.E_NothingToUndo.ec⟩ all_n)))))))))))))))))))))) M.ki_IndexError
/-! ### is_name -/
/- line 8 -/
def s_is_name_0 : Sn := sRet (dCst (.bool false))
/- line 7 -/
def s_is_name_1 : Sn := sIf (tOrD (tNotD (EL.tB (dUn (gIsi .str) (dVar 0)))) (tNotD (EL.tB (dChain gLe gLe (dCst (.int (1))) (dApp (g1 gLen) (dCons (dVar 0) dNil)) (dCst (.int (8))))))) s_is_name_0 sNext
/- line 9 -/
def s_is_name_2 : Sn := sRet (dApp (g1 gAll) (dCons (dLc (iOf (dVar 0)) (gNm 1) tYesD (dOp gInA (dVar 1) (dCst (.str "abcdefghijklmnopqrstuvwxyz"))) [1]) dNil))
def b_is_name : Sn := (sSeq s_is_name_1
    s_is_name_2)
theorem S_is_name : FnScope ["value", "sign"] ["value"] (defScope (topS 5)) := ⟨rfl, rfl, rfl, by decide +kernel, rfl, by decide +kernel, by decide +kernel⟩
theorem B_is_name (M : Md P K w mg) : Binds K M.d_is_name ["value"] [] := M.F_is_name.binds fun _ _ _ _ _ _ us hl => match us, hl with | [_], _ => rfl
theorem K_is_name (M : Md P K w mg) : ∀ (s : Shared) (ws : List Value), ws.length = 1 → BindsTo s M.d_is_name ⟨[], List.zip ["value"] ws⟩ (List.zip ["value"] ws) := bindsK (ps := ["value"]) M.F_is_name fun _ _ _ _ _ _ us hl => match us, hl with | [_], _ => rfl
def m_is_name : List PyData → Res PyData := runM b_is_name 2
theorem ok_is_name (M : Md P K w mg) {k : Nat} : FnOk P w K mg base CX0 (k + 1) M.a_is_name M.d_is_name ["value"] (spM m_is_name 1 K) :=
  fn_pure (k := k) M.F_is_name S_is_name (fun cdv A outer s H E hr => (dss_cons (ds_if (dt_w (dw_or (dt_not (dt_val (de_isi .str (by rfl) M.n_isinstance (by rfl) M.n_str boot_str (de_var 0)))) (dw_or1 (dt_not (dt_chain op_leD op_leD gOrd_ok gOrd_ok de_int (de_callB call_len gLen_ok (by rfl) M.n_len boot_len (da_cons (de_var 0) da_nil)) (de_glob (v := .int (8)) (by rfl) M.c_MOST_LETTERS ⟨_, rfl⟩ (fun _ _ => .int _))))))) (dss_one (ds_ret de_bl)) dss_nil)
    (dss_one (ds_ret (de_callB (cr_all rfl) gBs_ok (by rfl) M.n_all boot_all (da_cons (de_new (df_lc [("sign", 1)] rfl S_is_name.nd (di_of (de_var 0)) (blkOk_by (by rfl)) (fun _ _ _ _ _ => (dg_name 1 S_is_name.nd)) (fun _ _ _ _ _ => dts_nil) (fun _ _ _ _ _ => (de_inA (h65 hr) (de_var 1) (de_glob (v := .str "abcdefghijklmnopqrstuvwxyz") (by rfl) M.c_LETTERS ⟨_, rfl⟩ (fun _ _ => .str _ (by decide +kernel))))))) da_nil))))))
/-! ### signal_of -/
/- line 19 -/
def s_signal_of_0 : Sn := sRet (dIf (EL.tB (dOp gInA (dSlice gSl (dVar 0) (eS (dUn gNeg (dCst (.int (1))))) eN) (dApp gTup (dCons (dCst (.str "+")) (dCons (dCst (.str "*")) dNil))))) (dSlice gSl (dVar 0) eN (eS (dUn gNeg (dCst (.int (1)))))) (dVar 0))
def b_signal_of : Sn := s_signal_of_0
theorem S_signal_of : FnScope ["item"] ["item"] (defScope (topS 10)) := ⟨rfl, rfl, rfl, by decide +kernel, rfl, by decide +kernel, by decide +kernel⟩
theorem B_signal_of (M : Md P K w mg) : Binds K M.d_signal_of ["item"] [] := M.F_signal_of.binds fun _ _ _ _ _ _ us hl => match us, hl with | [_], _ => rfl
theorem K_signal_of (M : Md P K w mg) : ∀ (s : Shared) (ws : List Value), ws.length = 1 → BindsTo s M.d_signal_of ⟨[], List.zip ["item"] ws⟩ (List.zip ["item"] ws) := bindsK (ps := ["item"]) M.F_signal_of fun _ _ _ _ _ _ us hl => match us, hl with | [_], _ => rfl
def m_signal_of : List PyData → Res PyData := runM b_signal_of 1
theorem ok_signal_of (M : Md P K w mg) {k : Nat} : FnOk P w K mg base CX0 (k + 1) M.a_signal_of M.d_signal_of ["item"] (spM m_signal_of 1 K) :=
  fn_pure (k := k) M.F_signal_of S_signal_of (fun cdv A outer s H E hr => (dss_one (ds_ret (de_if (dt_inA (h65 hr) (de_slice sl_D gSl_ok (de_var 0) (do_some (de_un un_neg gNeg_ok de_int)) do_none) (de_tup (da_cons (de_glob (v := .str "+") (by rfl) M.c_TWIN ⟨_, rfl⟩ (fun _ _ => .str _ (by decide +kernel))) (da_cons (de_glob (v := .str "*") (by rfl) M.c_RESERVE ⟨_, rfl⟩ (fun _ _ => .str _ (by decide +kernel))) da_nil)))) (de_slice sl_D gSl_ok (de_var 0) do_none (do_some (de_un un_neg gNeg_ok de_int))) (de_var 0)))))
/-! ### twin_of -/
/- line 21 -/
def s_twin_of_0 : Sn := sRet (dOp gAdd (dVar 0) (dCst (.str "+")))
def b_twin_of : Sn := s_twin_of_0
theorem S_twin_of : FnScope ["name"] ["name"] (defScope (topS 11)) := ⟨rfl, rfl, rfl, by decide +kernel, rfl, by decide +kernel, by decide +kernel⟩
theorem B_twin_of (M : Md P K w mg) : Binds K M.d_twin_of ["name"] [] := M.F_twin_of.binds fun _ _ _ _ _ _ us hl => match us, hl with | [_], _ => rfl
theorem K_twin_of (M : Md P K w mg) : ∀ (s : Shared) (ws : List Value), ws.length = 1 → BindsTo s M.d_twin_of ⟨[], List.zip ["name"] ws⟩ (List.zip ["name"] ws) := bindsK (ps := ["name"]) M.F_twin_of fun _ _ _ _ _ _ us hl => match us, hl with | [_], _ => rfl
def m_twin_of : List PyData → Res PyData := runM b_twin_of 1
theorem ok_twin_of (M : Md P K w mg) {k : Nat} : FnOk P w K mg base CX0 (k + 1) M.a_twin_of M.d_twin_of ["name"] (spM m_twin_of 1 K) :=
  fn_pure (k := k) M.F_twin_of S_twin_of (fun cdv A outer s H E hr => (dss_one (ds_ret (de_op op_addD gAdd_ok (de_var 0) (de_glob (v := .str "+") (by rfl) M.c_TWIN ⟨_, rfl⟩ (fun _ _ => .str _ (by decide +kernel)))))))
/-! ### reserve_of -/
/- line 23 -/
def s_reserve_of_0 : Sn := sRet (dOp gAdd (dVar 0) (dCst (.str "*")))
def b_reserve_of : Sn := s_reserve_of_0
theorem S_reserve_of : FnScope ["name"] ["name"] (defScope (topS 12)) := ⟨rfl, rfl, rfl, by decide +kernel, rfl, by decide +kernel, by decide +kernel⟩
theorem B_reserve_of (M : Md P K w mg) : Binds K M.d_reserve_of ["name"] [] := M.F_reserve_of.binds fun _ _ _ _ _ _ us hl => match us, hl with | [_], _ => rfl
theorem K_reserve_of (M : Md P K w mg) : ∀ (s : Shared) (ws : List Value), ws.length = 1 → BindsTo s M.d_reserve_of ⟨[], List.zip ["name"] ws⟩ (List.zip ["name"] ws) := bindsK (ps := ["name"]) M.F_reserve_of fun _ _ _ _ _ _ us hl => match us, hl with | [_], _ => rfl
def m_reserve_of : List PyData → Res PyData := runM b_reserve_of 1
theorem ok_reserve_of (M : Md P K w mg) {k : Nat} : FnOk P w K mg base CX0 (k + 1) M.a_reserve_of M.d_reserve_of ["name"] (spM m_reserve_of 1 K) :=
  fn_pure (k := k) M.F_reserve_of S_reserve_of (fun cdv A outer s H E hr => (dss_one (ds_ret (de_op op_addD gAdd_ok (de_var 0) (de_glob (v := .str "*") (by rfl) M.c_RESERVE ⟨_, rfl⟩ (fun _ _ => .str _ (by decide +kernel)))))))
/-! ### _law_pen -/
theorem S__law_pen : FnScope ["_law_script"] ["_law_script"] (defScope (topS 38)) := ⟨rfl, rfl, rfl, by decide +kernel, rfl, by decide +kernel, by decide +kernel⟩
theorem B__law_pen (M : Md P K w mg) : Binds K M.d__law_pen ["_law_script"] [] := M.F__law_pen.binds fun _ _ _ _ _ _ us hl => match us, hl with | [_], _ => rfl
theorem ok__law_pen (M : Md P K w mg) {k : Nat} : FnOk P w K mg base CX0 (k + 1) M.a__law_pen M.d__law_pen ["_law_script"] (spPen K) := by
  refine M.F__law_pen.ok S__law_pen (fun vs H Q E h => ?_) (fun cdv A outer s H vs Q E hr h => ?_)
  · obtain ⟨a, ns, rfl, _⟩ := h
    rfl
  · obtain ⟨a, ns, rfl, hS, hl, hq⟩ := h
    obtain ⟨t, pt, ev⟩ := pen_body (X := (cxOf CX0 P w K mg base ["_law_script"] "_law_pen" (defScope (topS 38)) M.a__law_pen cdv A outer s H E).nox) M.n_list (by rfl) rfl (Or.inl rfl)
    exact ⟨t, pt, ev a ns _ H _ rfl hS hl fun p q H' => hq p q H'⟩
/-! ### _law_draw -/
/- line 147 -/
def s__law_draw_0 : Sn := sSet 5 (dOp gMod (dApp (g1 gInt) (dCons (dIxO 0 (dCst (.int (2)))) dNil)) (dVar 1))
/- line 148 -/
def s__law_draw_1 : Sn := sPut 0 (dOp gFdiv (dIxO 0 (dCst (.int (2)))) (dVar 1)) (dCst (.int (2)))
/- line 149 -/
def s__law_draw_2 : Sn := sRet (dVar 5)
/- line 146 -/
def s__law_draw_3 : Sn := sIf (EL.tB (dOp gGt (dIxO 0 (dCst (.int (2)))) (dCst (.int (0))))) (sSeq s__law_draw_0
    (sSeq s__law_draw_1
    s__law_draw_2)) sNext
/- line 150 -/
def s__law_draw_4 : Sn := sSet 2 (dIxO 0 (dCst (.int (1))))
/- line 151 -/
def s__law_draw_5 : Sn := sPut 0 (dOp gAdd (dVar 2) (dCst (.int (1)))) (dCst (.int (1)))
/- line 152 -/
def s__law_draw_6 : Sn := sSet 3 (dOp gAdd (dOp gMul (dCst (.int (71011))) (dVar 2)) (dCst (.int (401))))
/- line 154 -/
def s__law_draw_7 : Sn := sSet 3 (dOp gIxA (dIxO 0 (dCst (.int (0)))) (dOp gMod (dApp (g1 gInt) (dCons (dVar 2) dNil)) (dApp (g1 gLen) (dCons (dIxO 0 (dCst (.int (0)))) dNil))))
/- line 153 -/
def s__law_draw_8 : Sn := sIf (EL.tB (dOp gNeA (dIxO 0 (dCst (.int (0)))) (dApp gLst dNil))) s__law_draw_7 sNext
/- line 156 -/
def s__law_draw_9 : Sn := sSet 6 (dOp gAdd (dOp gMul (dCst (.int (2))) (dOp gSub (dApp (g1 gAbs) (dCons (dVar 3) dNil)) (dOp gPow (dCst (.int (10))) (dCst (.int (18)))))) (dApp (g1 gInt) (dCons (dOp gLt (dVar 3) (dCst (.int (0)))) dNil)))
/- line 157 -/
def s__law_draw_10 : Sn := sPut 0 (dOp gFdiv (dVar 6) (dVar 1)) (dCst (.int (2)))
/- line 158 -/
def s__law_draw_11 : Sn := sRet (dOp gMod (dApp (g1 gInt) (dCons (dVar 6) dNil)) (dVar 1))
/- line 155 -/
def s__law_draw_12 : Sn := sIf (tAndD (EL.tB (dOp gLt (dVar 2) (dApp (g1 gLen) (dCons (dIxO 0 (dCst (.int (0)))) dNil)))) (EL.tB (dOp gGe (dApp (g1 gAbs) (dCons (dVar 3) dNil)) (dOp gPow (dCst (.int (10))) (dCst (.int (18))))))) (sSeq s__law_draw_9
    (sSeq s__law_draw_10
    s__law_draw_11)) sNext
/- line 159 -/
def s__law_draw_13 : Sn := sSet 4 (dOp gMod (dApp (g1 gInt) (dCons (dOp gPow (dOp gAdd (dOp gAdd (dOp gMod (dApp (g1 gInt) (dCons (dVar 3) dNil)) (dCst (.int (2147483549)))) (dOp gMul (dCst (.int (50021))) (dVar 2))) (dCst (.int (31)))) (dCst (.int (5)))) dNil)) (dCst (.int (2147483629))))
/- line 160 -/
def s__law_draw_14 : Sn := sSet 4 (dOp gMod (dApp (g1 gInt) (dCons (dOp gPow (dOp gAdd (dOp gAdd (dOp gMul (dVar 4) (dOp gAdd (dOp gMul (dCst (.int (2))) (dVar 2)) (dCst (.int (17))))) (dOp gMul (dOp gMul (dCst (.int (60013))) (dVar 2)) (dVar 2))) (dCst (.int (5)))) (dCst (.int (3)))) dNil)) (dCst (.int (2147483587))))
/- line 161 -/
def s__law_draw_15 : Sn := sRet (dOp gMod (dApp (g1 gInt) (dCons (dOp gFdiv (dVar 4) (dCst (.int (32)))) dNil)) (dVar 1))
def b__law_draw : Sn := (sSeq s__law_draw_3
    (sSeq s__law_draw_4
    (sSeq s__law_draw_5
    (sSeq s__law_draw_6
    (sSeq s__law_draw_8
    (sSeq s__law_draw_12
    (sSeq s__law_draw_13
    (sSeq s__law_draw_14
    s__law_draw_15))))))))
theorem S__law_draw : FnScope ["_law_pen_here", "_law_many", "_law_at", "_law_cell", "_law_mixed", "_law_digit", "_law_great"] ["_law_pen_here", "_law_many"] (defScope (topS 39)) := ⟨rfl, rfl, rfl, by decide +kernel, rfl, by decide +kernel, by decide +kernel⟩
theorem B__law_draw (M : Md P K w mg) : Binds K M.d__law_draw ["_law_pen_here", "_law_many"] [] := M.F__law_draw.binds fun _ _ _ _ _ _ us hl => match us, hl with | [_, _], _ => rfl
def m__law_draw : PyData → List PyData → Res (PyData × PyData) := runP b__law_draw 7
theorem ok__law_draw (M : Md P K w mg) {k : Nat} : FnOk P w K mg base CX0 (k + 1) M.a__law_draw M.d__law_draw ["_law_pen_here", "_law_many"] (spP m__law_draw 2 K) :=
  fn_pen (k := k) M.F__law_draw S__law_draw (fun cdv A outer s H E hr => (dss_cons (ds_if (dt_cmp op_gtD gOrd_ok (de_ixO 0 de_int) de_int (nomark _)) (dss_cons (ds_set 5 (de_op op_mod gMod_ok (de_callTy call_intD gInt_ok (by rfl) M.n_int boot_int (da_cons (de_ixO 0 de_int) da_nil)) (de_var 1)) S__law_draw.nd)
    (dss_cons (ds_put 0 (de_op op_fdivW gFdiv_ok (de_ixO 0 de_int) (de_var 1)) de_int)
    (dss_one (ds_ret (de_var 5))))) dss_nil)
    (dss_cons (ds_set 2 (de_ixO 0 de_int) S__law_draw.nd)
    (dss_cons (ds_put 0 (de_op op_addD gAdd_ok (de_var 2) de_int) de_int)
    (dss_cons (ds_set 3 (de_op op_addD gAdd_ok (de_op op_mul gMul_ok de_int (de_var 2)) de_int) S__law_draw.nd)
    (dss_cons (ds_if (dt_cmp (op_neA (h64 hr)) gNeA_ok (de_ixO 0 de_int) (de_lst da_nil) (nomark _)) (dss_one (ds_set 3 (de_ixA (h1 hr) (de_ixO 0 de_int) (de_op op_mod gMod_ok (de_callTy call_intD gInt_ok (by rfl) M.n_int boot_int (da_cons (de_var 2) da_nil)) (de_callB call_len gLen_ok (by rfl) M.n_len boot_len (da_cons (de_ixO 0 de_int) da_nil)))) S__law_draw.nd)) dss_nil)
    (dss_cons (ds_if (dt_w (dw_and (dt_cmp op_ltD gOrd_ok (de_var 2) (de_callB call_len gLen_ok (by rfl) M.n_len boot_len (da_cons (de_ixO 0 de_int) da_nil)) (nomark _)) (dw_and1 (dt_cmp op_geD gOrd_ok (de_callB call_abs gAbs_ok (by rfl) M.n_abs boot_abs (da_cons (de_var 3) da_nil)) (de_op op_pow gPow_ok de_int de_int) (nomark _))))) (dss_cons (ds_set 6 (de_op op_addD gAdd_ok (de_op op_mul gMul_ok de_int (de_op op_sub gSub_ok (de_callB call_abs gAbs_ok (by rfl) M.n_abs boot_abs (da_cons (de_var 3) da_nil)) (de_op op_pow gPow_ok de_int de_int))) (de_callTy call_intD gInt_ok (by rfl) M.n_int boot_int (da_cons (de_cmp op_ltD gOrd_ok (de_var 3) de_int (nomark _)) da_nil))) S__law_draw.nd)
    (dss_cons (ds_put 0 (de_op op_fdivW gFdiv_ok (de_var 6) (de_var 1)) de_int)
    (dss_one (ds_ret (de_op op_mod gMod_ok (de_callTy call_intD gInt_ok (by rfl) M.n_int boot_int (da_cons (de_var 6) da_nil)) (de_var 1)))))) dss_nil)
    (dss_cons (ds_set 4 (de_op op_mod gMod_ok (de_callTy call_intD gInt_ok (by rfl) M.n_int boot_int (da_cons (de_op op_pow gPow_ok (de_op op_addD gAdd_ok (de_op op_addD gAdd_ok (de_op op_mod gMod_ok (de_callTy call_intD gInt_ok (by rfl) M.n_int boot_int (da_cons (de_var 3) da_nil)) de_int) (de_op op_mul gMul_ok de_int (de_var 2))) de_int) de_int) da_nil)) de_int) S__law_draw.nd)
    (dss_cons (ds_set 4 (de_op op_mod gMod_ok (de_callTy call_intD gInt_ok (by rfl) M.n_int boot_int (da_cons (de_op op_pow gPow_ok (de_op op_addD gAdd_ok (de_op op_addD gAdd_ok (de_op op_mul gMul_ok (de_var 4) (de_op op_addD gAdd_ok (de_op op_mul gMul_ok de_int (de_var 2)) de_int)) (de_op op_mul gMul_ok (de_op op_mul gMul_ok de_int (de_var 2)) (de_var 2))) de_int) de_int) da_nil)) de_int) S__law_draw.nd)
    (dss_one (ds_ret (de_op op_mod gMod_ok (de_callTy call_intD gInt_ok (by rfl) M.n_int boot_int (da_cons (de_op op_fdivW gFdiv_ok (de_var 4) de_int) da_nil)) (de_var 1)))))))))))))
/-! ### _law_body -/
/- line 180 -/
def s__law_body_0 : Sn := sRet (dCst .none)
/- line 179 -/
def s__law_body_1 : Sn := sIf (tNotD (EL.tB (dUn (gIsi .str) (dVar 0)))) s__law_body_0 sNext
/- line 181 -/
def s__law_body_2 : Sn := sSet 1 (dIf (EL.tB (dOp gInA (dSlice gSl (dVar 0) (eS (dUn gNeg (dCst (.int (1))))) eN) (dApp gTup (dCons (dCst (.str "+")) (dCons (dCst (.str "*")) dNil))))) (dSlice gSl (dVar 0) (eS (dUn gNeg (dCst (.int (1))))) eN) (dCst (.str "")))
/- line 182 -/
def s__law_body_3 : Sn := sSet 2 (dSlice gSl (dVar 0) eN (eS (dOp gSub (dApp (g1 gLen) (dCons (dVar 0) dNil)) (dApp (g1 gLen) (dCons (dVar 1) dNil)))))
/- line 183 -/
def s__law_body_4 : Sn := sSet 3 (dLc (iOf (dVar 2)) (gNm 4) (EL.tB (dOp gNotInA (dVar 4) (dCst (.str "abcdefghijklmnopqrstuvwxyz")))) (dVar 4) [4])
/- line 184 -/
def s__law_body_5 : Sn := sRet (dIf (tOrD (EL.tB (dOp gNeA (dVar 3) (dApp gLst dNil))) (tOrD (EL.tB (dOp gEqA (dVar 2) (dCst (.str "")))) (EL.tB (dOp gGt (dApp (g1 gLen) (dCons (dVar 2) dNil)) (dCst (.int (8))))))) (dCst .none) (dApp gTup (dCons (dVar 2) (dCons (dVar 1) dNil))))
def b__law_body : Sn := (sSeq s__law_body_1
    (sSeq s__law_body_2
    (sSeq s__law_body_3
    (sSeq s__law_body_4
    s__law_body_5))))
theorem S__law_body : FnScope ["_law_thing", "_law_sign", "_law_body_here", "_law_strange", "_law_one"] ["_law_thing"] (defScope (topS 44)) := ⟨rfl, rfl, rfl, by decide +kernel, rfl, by decide +kernel, by decide +kernel⟩
theorem B__law_body (M : Md P K w mg) : Binds K M.d__law_body ["_law_thing"] [] := M.F__law_body.binds fun _ _ _ _ _ _ us hl => match us, hl with | [_], _ => rfl
def m__law_body : List PyData → Res PyData := runM b__law_body 5
theorem ok__law_body (M : Md P K w mg) {k : Nat} : FnOk P w K mg base CX0 (k + 1) M.a__law_body M.d__law_body ["_law_thing"] (spM m__law_body 1 K) :=
  fn_pure (k := k) M.F__law_body S__law_body (fun cdv A outer s H E hr => (dss_cons (ds_if (dt_not (dt_val (de_isi .str (by rfl) M.n_isinstance (by rfl) M.n_str boot_str (de_var 0)))) (dss_one (ds_ret de_non)) dss_nil)
    (dss_cons (ds_set 1 (de_if (dt_inA (h65 hr) (de_slice sl_D gSl_ok (de_var 0) (do_some (de_un un_neg gNeg_ok de_int)) do_none) (de_tup (da_cons de_str (da_cons de_str da_nil)))) (de_slice sl_D gSl_ok (de_var 0) (do_some (de_un un_neg gNeg_ok de_int)) do_none) de_str) S__law_body.nd)
    (dss_cons (ds_set 2 (de_slice sl_D gSl_ok (de_var 0) do_none (do_some (de_op op_sub gSub_ok (de_callB call_len gLen_ok (by rfl) M.n_len boot_len (da_cons (de_var 0) da_nil)) (de_callB call_len gLen_ok (by rfl) M.n_len boot_len (da_cons (de_var 1) da_nil))))) S__law_body.nd)
    (dss_cons (ds_ofS (ps_lc 3 [("_law_one", 4)] rfl S__law_body.nd (di_of (de_var 2)) (blkOk_by (by rfl)) (fun _ _ _ _ _ => (dg_name 4 S__law_body.nd)) (fun _ _ _ _ _ => (dts_one (dt_notInA (h65 hr) (de_var 4) de_str))) (fun _ _ _ _ _ => (de_var 4)) (by rfl)))
    (dss_one (ds_ret (de_if (dt_w (dw_or (dt_cmp (op_neA (h64 hr)) gNeA_ok (de_var 3) (de_lst da_nil) (nomark _)) (dw_or (dt_cmp (op_eqA (h64 hr)) gEqA_ok (de_var 2) de_str (nomark _)) (dw_or1 (dt_cmp op_gtD gOrd_ok (de_callB call_len gLen_ok (by rfl) M.n_len boot_len (da_cons (de_var 2) da_nil)) de_int (nomark _)))))) de_non (de_tup (da_cons (de_var 2) (da_cons (de_var 1) da_nil)))))))))))
/-! ### _law_fields -/
/- line 210 -/
def s__law_fields_0 : Sn := sSet 1 (dApp gLst (dCons (dApp gTup (dCons (dUn (gXf "word" ["InvalidNet", "InvalidLayout", "InvalidWish", "NotAllowed", "ParseError"]) (dOp gIxA (dVar 0) (dCst (.int (0))))) (dCons (dUn (gXf "index" ["InvalidNet", "NotAllowed", "NoFibre"]) (dOp gIxA (dVar 0) (dCst (.int (0))))) dNil))) (dCons (dApp gTup (dCons (dUn (gXf "value" ["InvalidRoute", "InvalidBand"]) (dOp gIxA (dVar 0) (dCst (.int (1))))) dNil)) (dCons (dApp gTup (dCons (dUn (gXf "length" ["TooFar"]) (dOp gIxA (dVar 0) (dCst (.int (2))))) dNil)) (dCons (dApp gTup (dCons (dUn (gXf "value" ["InvalidRoute", "InvalidBand"]) (dOp gIxA (dVar 0) (dCst (.int (3))))) dNil)) dNil)))))
/- line 211 -/
def s__law_fields_1 : Sn := sSet 1 (dOp gAdd (dVar 1) (dApp gLst (dCons (dApp gTup (dCons (dUn (gXf "word" ["InvalidNet", "InvalidLayout", "InvalidWish", "NotAllowed", "ParseError"]) (dOp gIxA (dVar 0) (dCst (.int (4))))) (dCons (dUn (gXf "item" ["InvalidLayout", "Unlike", "NoItem"]) (dOp gIxA (dVar 0) (dCst (.int (4))))) dNil))) (dCons (dApp gTup (dCons (dUn (gXf "word" ["InvalidNet", "InvalidLayout", "InvalidWish", "NotAllowed", "ParseError"]) (dOp gIxA (dVar 0) (dCst (.int (5))))) dNil)) (dCons (dApp gTup (dCons (dUn (gXf "index" ["InvalidNet", "NotAllowed", "NoFibre"]) (dOp gIxA (dVar 0) (dCst (.int (6))))) (dCons (dUn (gXf "word" ["InvalidNet", "InvalidLayout", "InvalidWish", "NotAllowed", "ParseError"]) (dOp gIxA (dVar 0) (dCst (.int (6))))) dNil))) dNil)))))
/- line 212 -/
def s__law_fields_2 : Sn := sSet 1 (dOp gAdd (dVar 1) (dApp gLst (dCons (dApp gTup (dCons (dUn (gXf "lower" ["Turned"]) (dOp gIxA (dVar 0) (dCst (.int (7))))) (dCons (dUn (gXf "upper" ["Turned"]) (dOp gIxA (dVar 0) (dCst (.int (7))))) dNil))) (dCons (dApp gTup (dCons (dUn (gXf "item" ["InvalidLayout", "Unlike", "NoItem"]) (dOp gIxA (dVar 0) (dCst (.int (8))))) dNil)) (dCons (dApp gTup (dCons (dUn (gXf "ring" ["Circular"]) (dOp gIxA (dVar 0) (dCst (.int (9))))) dNil)) (dCons (dApp gTup (dCons (dUn (gXf "certificate" ["Barred"]) (dOp gIxA (dVar 0) (dCst (.int (10))))) dNil)) dNil))))))
/- line 213 -/
def s__law_fields_3 : Sn := sSet 1 (dOp gAdd (dVar 1) (dApp gLst (dCons (dApp gTup (dCons (dUn (gXf "line" ["ParseError"]) (dOp gIxA (dVar 0) (dCst (.int (11))))) (dCons (dUn (gXf "word" ["InvalidNet", "InvalidLayout", "InvalidWish", "NotAllowed", "ParseError"]) (dOp gIxA (dVar 0) (dCst (.int (11))))) dNil))) (dCons (dApp gTup (dCons (dUn (gXf "command" ["UnknownCommand"]) (dOp gIxA (dVar 0) (dCst (.int (12))))) dNil)) (dCons (dApp gTup (dCons (dUn (gXf "item" ["InvalidLayout", "Unlike", "NoItem"]) (dOp gIxA (dVar 0) (dCst (.int (13))))) dNil)) (dCons (dApp gTup (dCons (dUn (gXf "name" ["NoStation", "NoDuct", "NoName"]) (dOp gIxA (dVar 0) (dCst (.int (14))))) dNil)) dNil))))))
/- line 214 -/
def s__law_fields_4 : Sn := sSet 1 (dOp gAdd (dVar 1) (dApp gLst (dCons (dApp gTup (dCons (dUn (gXf "name" ["NoStation", "NoDuct", "NoName"]) (dOp gIxA (dVar 0) (dCst (.int (15))))) dNil)) (dCons (dApp gTup (dCons (dUn (gXf "name" ["NoStation", "NoDuct", "NoName"]) (dOp gIxA (dVar 0) (dCst (.int (16))))) dNil)) (dCons (dApp gTup (dCons (dUn (gXf "index" ["InvalidNet", "NotAllowed", "NoFibre"]) (dOp gIxA (dVar 0) (dCst (.int (17))))) dNil)) (dCons (dApp gTup (dCons (dUn (gXf "limit" ["TooMany", "TooWide"]) (dOp gIxA (dVar 0) (dCst (.int (18))))) dNil)) (dCons (dApp gTup (dCons (dUn (gXf "limit" ["TooMany", "TooWide"]) (dOp gIxA (dVar 0) (dCst (.int (19))))) dNil)) dNil)))))))
/- line 215 -/
def s__law_fields_5 : Sn := sRet (dOp gAdd (dVar 1) (dApp gLst (dCons (dApp gTup (dCons (dUn (gXf "needed" ["TooNarrow"]) (dOp gIxA (dVar 0) (dCst (.int (20))))) dNil)) (dCons (dApp gTup (dCons (dUn (gXf "count" ["NothingToUndo"]) (dOp gIxA (dVar 0) (dCst (.int (21))))) dNil)) dNil))))
def b__law_fields : Sn := (sSeq s__law_fields_0
    (sSeq s__law_fields_1
    (sSeq s__law_fields_2
    (sSeq s__law_fields_3
    (sSeq s__law_fields_4
    s__law_fields_5)))))
theorem S__law_fields : FnScope ["_law_made_here", "_law_found"] ["_law_made_here"] (defScope (topS 49)) := ⟨rfl, rfl, rfl, by decide +kernel, rfl, by decide +kernel, by decide +kernel⟩
theorem B__law_fields (M : Md P K w mg) : Binds K M.d__law_fields ["_law_made_here"] [] := M.F__law_fields.binds fun _ _ _ _ _ _ us hl => match us, hl with | [_], _ => rfl
def m__law_fields : List PyData → Res PyData := runM b__law_fields 2
theorem ok__law_fields (M : Md P K w mg) {k : Nat} : FnOk P w K mg base CX0 (k + 1) M.a__law_fields M.d__law_fields ["_law_made_here"] (spM m__law_fields 1 K) :=
  fn_pure (k := k) M.F__law_fields S__law_fields (fun cdv A outer s H E hr => (dss_cons (ds_set 1 (de_lst (da_cons (de_tup (da_cons (de_xf (xfl_word M) (de_ixA (h1 hr) (de_var 0) de_int)) (da_cons (de_xf (xfl_index M) (de_ixA (h1 hr) (de_var 0) de_int)) da_nil))) (da_cons (de_tup (da_cons (de_xf (xfl_value M) (de_ixA (h1 hr) (de_var 0) de_int)) da_nil)) (da_cons (de_tup (da_cons (de_xf (xfl_length M) (de_ixA (h1 hr) (de_var 0) de_int)) da_nil)) (da_cons (de_tup (da_cons (de_xf (xfl_value M) (de_ixA (h1 hr) (de_var 0) de_int)) da_nil)) da_nil))))) S__law_fields.nd)
    (dss_cons (ds_set 1 (de_op op_addD gAdd_ok (de_var 1) (de_lst (da_cons (de_tup (da_cons (de_xf (xfl_word M) (de_ixA (h1 hr) (de_var 0) de_int)) (da_cons (de_xf (xfl_item M) (de_ixA (h1 hr) (de_var 0) de_int)) da_nil))) (da_cons (de_tup (da_cons (de_xf (xfl_word M) (de_ixA (h1 hr) (de_var 0) de_int)) da_nil)) (da_cons (de_tup (da_cons (de_xf (xfl_index M) (de_ixA (h1 hr) (de_var 0) de_int)) (da_cons (de_xf (xfl_word M) (de_ixA (h1 hr) (de_var 0) de_int)) da_nil))) da_nil))))) S__law_fields.nd)
    (dss_cons (ds_set 1 (de_op op_addD gAdd_ok (de_var 1) (de_lst (da_cons (de_tup (da_cons (de_xf (xfl_lower M) (de_ixA (h1 hr) (de_var 0) de_int)) (da_cons (de_xf (xfl_upper M) (de_ixA (h1 hr) (de_var 0) de_int)) da_nil))) (da_cons (de_tup (da_cons (de_xf (xfl_item M) (de_ixA (h1 hr) (de_var 0) de_int)) da_nil)) (da_cons (de_tup (da_cons (de_xf (xfl_ring M) (de_ixA (h1 hr) (de_var 0) de_int)) da_nil)) (da_cons (de_tup (da_cons (de_xf (xfl_certificate M) (de_ixA (h1 hr) (de_var 0) de_int)) da_nil)) da_nil)))))) S__law_fields.nd)
    (dss_cons (ds_set 1 (de_op op_addD gAdd_ok (de_var 1) (de_lst (da_cons (de_tup (da_cons (de_xf (xfl_line M) (de_ixA (h1 hr) (de_var 0) de_int)) (da_cons (de_xf (xfl_word M) (de_ixA (h1 hr) (de_var 0) de_int)) da_nil))) (da_cons (de_tup (da_cons (de_xf (xfl_command M) (de_ixA (h1 hr) (de_var 0) de_int)) da_nil)) (da_cons (de_tup (da_cons (de_xf (xfl_item M) (de_ixA (h1 hr) (de_var 0) de_int)) da_nil)) (da_cons (de_tup (da_cons (de_xf (xfl_name M) (de_ixA (h1 hr) (de_var 0) de_int)) da_nil)) da_nil)))))) S__law_fields.nd)
    (dss_cons (ds_set 1 (de_op op_addD gAdd_ok (de_var 1) (de_lst (da_cons (de_tup (da_cons (de_xf (xfl_name M) (de_ixA (h1 hr) (de_var 0) de_int)) da_nil)) (da_cons (de_tup (da_cons (de_xf (xfl_name M) (de_ixA (h1 hr) (de_var 0) de_int)) da_nil)) (da_cons (de_tup (da_cons (de_xf (xfl_index M) (de_ixA (h1 hr) (de_var 0) de_int)) da_nil)) (da_cons (de_tup (da_cons (de_xf (xfl_limit M) (de_ixA (h1 hr) (de_var 0) de_int)) da_nil)) (da_cons (de_tup (da_cons (de_xf (xfl_limit M) (de_ixA (h1 hr) (de_var 0) de_int)) da_nil)) da_nil))))))) S__law_fields.nd)
    (dss_one (ds_ret (de_op op_addD gAdd_ok (de_var 1) (de_lst (da_cons (de_tup (da_cons (de_xf (xfl_needed M) (de_ixA (h1 hr) (de_var 0) de_int)) da_nil)) (da_cons (de_tup (da_cons (de_xf (xfl_count M) (de_ixA (h1 hr) (de_var 0) de_int)) da_nil)) da_nil))))))))))))
/-! ### _law_classes -/
/- line 217 -/
def s__law_classes_0 : Sn := sSet 1 (dApp gLst (dCons (dUn (gXis xt_InvalidNet) (dVar 0)) (dCons (dUn (gXis xt_InvalidRoute) (dVar 0)) (dCons (dUn (gXis xt_TooFar) (dVar 0)) dNil))))
/- line 218 -/
def s__law_classes_1 : Sn := sSet 1 (dOp gAdd (dVar 1) (dApp gLst (dCons (dUn (gXis xt_InvalidBand) (dVar 0)) (dCons (dUn (gXis xt_InvalidLayout) (dVar 0)) (dCons (dUn (gXis xt_InvalidWish) (dVar 0)) dNil)))))
/- line 219 -/
def s__law_classes_2 : Sn := sSet 1 (dOp gAdd (dVar 1) (dApp gLst (dCons (dUn (gXis xt_NotAllowed) (dVar 0)) (dCons (dUn (gXis xt_Turned) (dVar 0)) (dCons (dUn (gXis xt_Unlike) (dVar 0)) dNil)))))
/- line 220 -/
def s__law_classes_3 : Sn := sSet 1 (dOp gAdd (dVar 1) (dApp gLst (dCons (dUn (gXis xt_Circular) (dVar 0)) (dCons (dUn (gXis xt_Barred) (dVar 0)) (dCons (dUn (gXis xt_ParseError) (dVar 0)) dNil)))))
/- line 221 -/
def s__law_classes_4 : Sn := sSet 1 (dOp gAdd (dVar 1) (dApp gLst (dCons (dUn (gXis xt_UnknownCommand) (dVar 0)) (dCons (dUn (gXis xt_NoItem) (dVar 0)) (dCons (dUn (gXis xt_NoStation) (dVar 0)) dNil)))))
/- line 222 -/
def s__law_classes_5 : Sn := sSet 1 (dOp gAdd (dVar 1) (dApp gLst (dCons (dUn (gXis xt_NoDuct) (dVar 0)) (dCons (dUn (gXis xt_NoName) (dVar 0)) (dCons (dUn (gXis xt_NoFibre) (dVar 0)) dNil)))))
/- line 223 -/
def s__law_classes_6 : Sn := sSet 1 (dOp gAdd (dVar 1) (dApp gLst (dCons (dUn (gXis xt_TooMany) (dVar 0)) (dCons (dUn (gXis xt_TooWide) (dVar 0)) (dCons (dUn (gXis xt_TooNarrow) (dVar 0)) dNil)))))
/- line 224 -/
def s__law_classes_7 : Sn := sRet (dOp gAdd (dVar 1) (dApp gLst (dCons (dUn (gXis xt_NothingToUndo) (dVar 0)) dNil)))
def b__law_classes : Sn := (sSeq s__law_classes_0
    (sSeq s__law_classes_1
    (sSeq s__law_classes_2
    (sSeq s__law_classes_3
    (sSeq s__law_classes_4
    (sSeq s__law_classes_5
    (sSeq s__law_classes_6
    s__law_classes_7)))))))
theorem S__law_classes : FnScope ["_law_error", "_law_found"] ["_law_error"] (defScope (topS 50)) := ⟨rfl, rfl, rfl, by decide +kernel, rfl, by decide +kernel, by decide +kernel⟩
theorem B__law_classes (M : Md P K w mg) : Binds K M.d__law_classes ["_law_error"] [] := M.F__law_classes.binds fun _ _ _ _ _ _ us hl => match us, hl with | [_], _ => rfl
def m__law_classes : List PyData → Res PyData := runM b__law_classes 2
theorem ok__law_classes (M : Md P K w mg) {k : Nat} : FnOk P w K mg base CX0 (k + 1) M.a__law_classes M.d__law_classes ["_law_error"] (spM m__law_classes 1 K) :=
  fn_pure (k := k) M.F__law_classes S__law_classes (fun cdv A outer s H E hr => (dss_cons (ds_set 1 (de_lst (da_cons (de_xis (xis_InvalidNet M) (by rfl) M.n_isinstance (by rfl) M.E_InvalidNet.mgc (de_var 0)) (da_cons (de_xis (xis_InvalidRoute M) (by rfl) M.n_isinstance (by rfl) M.E_InvalidRoute.mgc (de_var 0)) (da_cons (de_xis (xis_TooFar M) (by rfl) M.n_isinstance (by rfl) M.E_TooFar.mgc (de_var 0)) da_nil)))) S__law_classes.nd)
    (dss_cons (ds_set 1 (de_op op_addD gAdd_ok (de_var 1) (de_lst (da_cons (de_xis (xis_InvalidBand M) (by rfl) M.n_isinstance (by rfl) M.E_InvalidBand.mgc (de_var 0)) (da_cons (de_xis (xis_InvalidLayout M) (by rfl) M.n_isinstance (by rfl) M.E_InvalidLayout.mgc (de_var 0)) (da_cons (de_xis (xis_InvalidWish M) (by rfl) M.n_isinstance (by rfl) M.E_InvalidWish.mgc (de_var 0)) da_nil))))) S__law_classes.nd)
    (dss_cons (ds_set 1 (de_op op_addD gAdd_ok (de_var 1) (de_lst (da_cons (de_xis (xis_NotAllowed M) (by rfl) M.n_isinstance (by rfl) M.E_NotAllowed.mgc (de_var 0)) (da_cons (de_xis (xis_Turned M) (by rfl) M.n_isinstance (by rfl) M.E_Turned.mgc (de_var 0)) (da_cons (de_xis (xis_Unlike M) (by rfl) M.n_isinstance (by rfl) M.E_Unlike.mgc (de_var 0)) da_nil))))) S__law_classes.nd)
    (dss_cons (ds_set 1 (de_op op_addD gAdd_ok (de_var 1) (de_lst (da_cons (de_xis (xis_Circular M) (by rfl) M.n_isinstance (by rfl) M.E_Circular.mgc (de_var 0)) (da_cons (de_xis (xis_Barred M) (by rfl) M.n_isinstance (by rfl) M.E_Barred.mgc (de_var 0)) (da_cons (de_xis (xis_ParseError M) (by rfl) M.n_isinstance (by rfl) M.E_ParseError.mgc (de_var 0)) da_nil))))) S__law_classes.nd)
    (dss_cons (ds_set 1 (de_op op_addD gAdd_ok (de_var 1) (de_lst (da_cons (de_xis (xis_UnknownCommand M) (by rfl) M.n_isinstance (by rfl) M.E_UnknownCommand.mgc (de_var 0)) (da_cons (de_xis (xis_NoItem M) (by rfl) M.n_isinstance (by rfl) M.E_NoItem.mgc (de_var 0)) (da_cons (de_xis (xis_NoStation M) (by rfl) M.n_isinstance (by rfl) M.E_NoStation.mgc (de_var 0)) da_nil))))) S__law_classes.nd)
    (dss_cons (ds_set 1 (de_op op_addD gAdd_ok (de_var 1) (de_lst (da_cons (de_xis (xis_NoDuct M) (by rfl) M.n_isinstance (by rfl) M.E_NoDuct.mgc (de_var 0)) (da_cons (de_xis (xis_NoName M) (by rfl) M.n_isinstance (by rfl) M.E_NoName.mgc (de_var 0)) (da_cons (de_xis (xis_NoFibre M) (by rfl) M.n_isinstance (by rfl) M.E_NoFibre.mgc (de_var 0)) da_nil))))) S__law_classes.nd)
    (dss_cons (ds_set 1 (de_op op_addD gAdd_ok (de_var 1) (de_lst (da_cons (de_xis (xis_TooMany M) (by rfl) M.n_isinstance (by rfl) M.E_TooMany.mgc (de_var 0)) (da_cons (de_xis (xis_TooWide M) (by rfl) M.n_isinstance (by rfl) M.E_TooWide.mgc (de_var 0)) (da_cons (de_xis (xis_TooNarrow M) (by rfl) M.n_isinstance (by rfl) M.E_TooNarrow.mgc (de_var 0)) da_nil))))) S__law_classes.nd)
    (dss_one (ds_ret (de_op op_addD gAdd_ok (de_var 1) (de_lst (da_cons (de_xis (xis_NothingToUndo M) (by rfl) M.n_isinstance (by rfl) M.E_NothingToUndo.mgc (de_var 0)) da_nil)))))))))))))
/-! ### _law_bases -/
/- line 226 -/
def s__law_bases_0 : Sn := sSet 1 (dApp gLst (dCons (dUn (gXis xt_LightError) (dVar 0)) (dCons (dUn (gXis xt_ValueError) (dVar 0)) (dCons (dUn (gXis xt_KeyError) (dVar 0)) dNil))))
/- line 227 -/
def s__law_bases_1 : Sn := sRet (dOp gAdd (dVar 1) (dApp gLst (dCons (dUn (gXis xt_IndexError) (dVar 0)) (dCons (dUn (gXis xt_OverflowError) (dVar 0)) (dCons (dUn (gXis xt_LookupError) (dVar 0)) dNil)))))
def b__law_bases : Sn := (sSeq s__law_bases_0
    s__law_bases_1)
theorem S__law_bases : FnScope ["_law_error", "_law_found"] ["_law_error"] (defScope (topS 51)) := ⟨rfl, rfl, rfl, by decide +kernel, rfl, by decide +kernel, by decide +kernel⟩
theorem B__law_bases (M : Md P K w mg) : Binds K M.d__law_bases ["_law_error"] [] := M.F__law_bases.binds fun _ _ _ _ _ _ us hl => match us, hl with | [_], _ => rfl
def m__law_bases : List PyData → Res PyData := runM b__law_bases 2
theorem ok__law_bases (M : Md P K w mg) {k : Nat} : FnOk P w K mg base CX0 (k + 1) M.a__law_bases M.d__law_bases ["_law_error"] (spM m__law_bases 1 K) :=
  fn_pure (k := k) M.F__law_bases S__law_bases (fun cdv A outer s H E hr => (dss_cons (ds_set 1 (de_lst (da_cons (de_xis (xis_LightError M) (by rfl) M.n_isinstance (by rfl) M.gx_LightError (de_var 0)) (da_cons (de_xisB (xis_ValueError M) (by rfl) M.n_isinstance (by rfl) M.n_ValueError (by decide +kernel) (de_var 0)) (da_cons (de_xisB (xis_KeyError M) (by rfl) M.n_isinstance (by rfl) M.n_KeyError (by decide +kernel) (de_var 0)) da_nil)))) S__law_bases.nd)
    (dss_one (ds_ret (de_op op_addD gAdd_ok (de_var 1) (de_lst (da_cons (de_xisB (xis_IndexError M) (by rfl) M.n_isinstance (by rfl) M.n_IndexError (by decide +kernel) (de_var 0)) (da_cons (de_xisB (xis_OverflowError M) (by rfl) M.n_isinstance (by rfl) M.n_OverflowError (by decide +kernel) (de_var 0)) (da_cons (de_xisB (xis_LookupError M) (by rfl) M.n_isinstance (by rfl) M.n_LookupError (by decide +kernel) (de_var 0)) da_nil)))))))))
/-! ### is_light -/
/- line 11 -/
def s_is_light_0 : Sn := sRet (dApp (gN 1 m_is_name) (dCons (dVar 0) dNil))
def b_is_light : Sn := s_is_light_0
theorem S_is_light : FnScope ["value"] ["value"] (defScope (topS 6)) := ⟨rfl, rfl, rfl, by decide +kernel, rfl, by decide +kernel, by decide +kernel⟩
theorem B_is_light (M : Md P K w mg) : Binds K M.d_is_light ["value"] [] := M.F_is_light.binds fun _ _ _ _ _ _ us hl => match us, hl with | [_], _ => rfl
theorem K_is_light (M : Md P K w mg) : ∀ (s : Shared) (ws : List Value), ws.length = 1 → BindsTo s M.d_is_light ⟨[], List.zip ["value"] ws⟩ (List.zip ["value"] ws) := bindsK (ps := ["value"]) M.F_is_light fun _ _ _ _ _ _ us hl => match us, hl with | [_], _ => rfl
def m_is_light : List PyData → Res PyData := runM b_is_light 1
theorem ok_is_light (M : Md P K w mg) {k : Nat} : FnOk P w K mg base CX0 (k + 2) M.a_is_light M.d_is_light ["value"] (spM m_is_light 1 K) :=
  fn_pure (k := k + 1) M.F_is_light S_is_light (fun cdv A outer s H E hr => (dss_one (ds_ret (de_call (ok_is_name M (k := k)) (hr.mono (by omega)) (by rfl) M.g_is_name M.F_is_name.kp (B_is_name M) pass0 (da_cons (de_var 0) da_nil)))))
/-! ### is_twin -/
/- line 13 -/
def s_is_twin_0 : Sn := sRet (dAnd (dUn (gIsi .str) (dVar 0)) (dAnd (dOp gEqA (dSlice gSl (dVar 0) (eS (dUn gNeg (dCst (.int (1))))) eN) (dCst (.str "+"))) (dApp (gN 1 m_is_name) (dCons (dSlice gSl (dVar 0) eN (eS (dUn gNeg (dCst (.int (1)))))) dNil))))
def b_is_twin : Sn := s_is_twin_0
theorem S_is_twin : FnScope ["value"] ["value"] (defScope (topS 7)) := ⟨rfl, rfl, rfl, by decide +kernel, rfl, by decide +kernel, by decide +kernel⟩
theorem B_is_twin (M : Md P K w mg) : Binds K M.d_is_twin ["value"] [] := M.F_is_twin.binds fun _ _ _ _ _ _ us hl => match us, hl with | [_], _ => rfl
theorem K_is_twin (M : Md P K w mg) : ∀ (s : Shared) (ws : List Value), ws.length = 1 → BindsTo s M.d_is_twin ⟨[], List.zip ["value"] ws⟩ (List.zip ["value"] ws) := bindsK (ps := ["value"]) M.F_is_twin fun _ _ _ _ _ _ us hl => match us, hl with | [_], _ => rfl
def m_is_twin : List PyData → Res PyData := runM b_is_twin 1
theorem ok_is_twin (M : Md P K w mg) {k : Nat} : FnOk P w K mg base CX0 (k + 2) M.a_is_twin M.d_is_twin ["value"] (spM m_is_twin 1 K) :=
  fn_pure (k := k + 1) M.F_is_twin S_is_twin (fun cdv A outer s H E hr => (dss_one (ds_ret (de_and (de_isi .str (by rfl) M.n_isinstance (by rfl) M.n_str boot_str (de_var 0)) (de_and (de_cmp (op_eqA (h64 hr)) gEqA_ok (de_slice sl_D gSl_ok (de_var 0) (do_some (de_un un_neg gNeg_ok de_int)) do_none) (de_glob (v := .str "+") (by rfl) M.c_TWIN ⟨_, rfl⟩ (fun _ _ => .str _ (by decide +kernel))) (nomark _)) (de_one (de_call (ok_is_name M (k := k)) (hr.mono (by omega)) (by rfl) M.g_is_name M.F_is_name.kp (B_is_name M) pass0 (da_cons (de_slice sl_D gSl_ok (de_var 0) do_none (do_some (de_un un_neg gNeg_ok de_int))) da_nil))))))))
/-! ### is_reserve -/
/- line 15 -/
def s_is_reserve_0 : Sn := sRet (dAnd (dUn (gIsi .str) (dVar 0)) (dAnd (dOp gEqA (dSlice gSl (dVar 0) (eS (dUn gNeg (dCst (.int (1))))) eN) (dCst (.str "*"))) (dApp (gN 1 m_is_name) (dCons (dSlice gSl (dVar 0) eN (eS (dUn gNeg (dCst (.int (1)))))) dNil))))
def b_is_reserve : Sn := s_is_reserve_0
theorem S_is_reserve : FnScope ["value"] ["value"] (defScope (topS 8)) := ⟨rfl, rfl, rfl, by decide +kernel, rfl, by decide +kernel, by decide +kernel⟩
theorem B_is_reserve (M : Md P K w mg) : Binds K M.d_is_reserve ["value"] [] := M.F_is_reserve.binds fun _ _ _ _ _ _ us hl => match us, hl with | [_], _ => rfl
theorem K_is_reserve (M : Md P K w mg) : ∀ (s : Shared) (ws : List Value), ws.length = 1 → BindsTo s M.d_is_reserve ⟨[], List.zip ["value"] ws⟩ (List.zip ["value"] ws) := bindsK (ps := ["value"]) M.F_is_reserve fun _ _ _ _ _ _ us hl => match us, hl with | [_], _ => rfl
def m_is_reserve : List PyData → Res PyData := runM b_is_reserve 1
theorem ok_is_reserve (M : Md P K w mg) {k : Nat} : FnOk P w K mg base CX0 (k + 2) M.a_is_reserve M.d_is_reserve ["value"] (spM m_is_reserve 1 K) :=
  fn_pure (k := k + 1) M.F_is_reserve S_is_reserve (fun cdv A outer s H E hr => (dss_one (ds_ret (de_and (de_isi .str (by rfl) M.n_isinstance (by rfl) M.n_str boot_str (de_var 0)) (de_and (de_cmp (op_eqA (h64 hr)) gEqA_ok (de_slice sl_D gSl_ok (de_var 0) (do_some (de_un un_neg gNeg_ok de_int)) do_none) (de_glob (v := .str "*") (by rfl) M.c_RESERVE ⟨_, rfl⟩ (fun _ _ => .str _ (by decide +kernel))) (nomark _)) (de_one (de_call (ok_is_name M (k := k)) (hr.mono (by omega)) (by rfl) M.g_is_name M.F_is_name.kp (B_is_name M) pass0 (da_cons (de_slice sl_D gSl_ok (de_var 0) do_none (do_some (de_un un_neg gNeg_ok de_int))) da_nil))))))))
/-! ### _law_pick -/
/- line 163 -/
def s__law_pick_0 : Sn := sRet (dOp gIxA (dVar 1) (dCallP m__law_draw 2 0 (dCons (dApp (g1 gLen) (dCons (dVar 1) dNil)) dNil)))
def b__law_pick : Sn := s__law_pick_0
theorem S__law_pick : FnScope ["_law_pen_here", "_law_some"] ["_law_pen_here", "_law_some"] (defScope (topS 40)) := ⟨rfl, rfl, rfl, by decide +kernel, rfl, by decide +kernel, by decide +kernel⟩
theorem B__law_pick (M : Md P K w mg) : Binds K M.d__law_pick ["_law_pen_here", "_law_some"] [] := M.F__law_pick.binds fun _ _ _ _ _ _ us hl => match us, hl with | [_, _], _ => rfl
def m__law_pick : PyData → List PyData → Res (PyData × PyData) := runP b__law_pick 2
theorem ok__law_pick (M : Md P K w mg) {k : Nat} : FnOk P w K mg base CX0 (k + 2) M.a__law_pick M.d__law_pick ["_law_pen_here", "_law_some"] (spP m__law_pick 2 K) :=
  fn_pen (k := k + 1) M.F__law_pick S__law_pick (fun cdv A outer s H E hr => (dss_one (ds_ret (de_ixA (h1 hr) (de_var 1) (de_callP 0 (ok__law_draw M (k := k)) (hr.mono (by omega)) (by rfl) M.g__law_draw M.F__law_draw.kp (B__law_draw M) pass0 (da_cons (de_callB call_len gLen_ok (by rfl) M.n_len boot_len (da_cons (de_var 1) da_nil)) da_nil))))))
/-! ### _law_word -/
/- line 170 -/
def s__law_word_0 : Sn := sRet (dOp gJoin (dCst (.str "")) (dLc (iRange gRange1 (dCons (dCallP m__law_draw 2 0 (dCons (dCst (.int (11))) dNil)) dNil)) (gNm 2) tYesD (dOp gIxA (dVar 1) (dCallP m__law_draw 2 0 (dCons (dApp (g1 gLen) (dCons (dVar 1) dNil)) dNil))) [2]))
def b__law_word : Sn := s__law_word_0
theorem S__law_word : FnScope ["_law_pen_here", "_law_signs", "_law_turn"] ["_law_pen_here", "_law_signs"] (defScope (topS 42)) := ⟨rfl, rfl, rfl, by decide +kernel, rfl, by decide +kernel, by decide +kernel⟩
theorem B__law_word (M : Md P K w mg) : Binds K M.d__law_word ["_law_pen_here", "_law_signs"] [] := M.F__law_word.binds fun _ _ _ _ _ _ us hl => match us, hl with | [_, _], _ => rfl
def m__law_word : PyData → List PyData → Res (PyData × PyData) := runP b__law_word 3
theorem ok__law_word (M : Md P K w mg) {k : Nat} : FnOk P w K mg base CX0 (k + 2) M.a__law_word M.d__law_word ["_law_pen_here", "_law_signs"] (spP m__law_word 2 K) :=
  fn_pen (k := k + 1) M.F__law_word S__law_word (fun cdv A outer s H E hr => (dss_one (ds_ret (de_join de_str (de_new (df_lc [("_law_turn", 2)] rfl S__law_word.nd (di_range1 (by rfl) M.n_range (da_cons (de_callP 0 (ok__law_draw M (k := k)) (hr.mono (by omega)) (by rfl) M.g__law_draw M.F__law_draw.kp (B__law_draw M) pass0 (da_cons de_int da_nil)) da_nil)) (blkOk_by (by rfl)) (fun _ _ _ _ _ => (dg_name 2 S__law_word.nd)) (fun _ _ _ _ _ => dts_nil) (fun _ _ _ _ _ => (de_ixA (h1 hr) (de_var 1) (de_callP 0 (ok__law_draw M (k := k)) (hr.mono (by omega)) (by rfl) M.g__law_draw M.F__law_draw.kp (B__law_draw M) pass0 (da_cons (de_callB call_len gLen_ok (by rfl) M.n_len boot_len (da_cons (de_var 1) da_nil)) da_nil))))))))))
/-! ### _law_items_right -/
/- line 193 -/
def s__law_items_right_0 : Sn := sAsg (dApp (gN 1 m__law_body) (dCons (dVar 0) dNil)) (gTp 2 (gCn (gNm 2) (gCn (gNm 3) gNl)))
/- line 194 -/
def s__law_items_right_1 : Sn := sSet 1 (dApp gLst (dCons (dApp (gN 1 m_twin_of) (dCons (dVar 2) dNil)) (dCons (dApp (gN 1 m_reserve_of) (dCons (dVar 2) dNil)) (dCons (dApp (gN 1 m_signal_of) (dCons (dVar 0) dNil)) (dCons (dApp (gN 1 m_signal_of) (dCons (dOp gAdd (dVar 2) (dCst (.str "+"))) dNil)) (dCons (dApp (gN 1 m_signal_of) (dCons (dOp gAdd (dVar 2) (dCst (.str "*"))) dNil)) dNil))))))
/- line 195 -/
def s__law_items_right_2 : Sn := sSet 1 (dOp gAdd (dVar 1) (dApp gLst (dCons (dApp (gN 1 m_twin_of) (dCons (dVar 2) dNil)) (dCons (dApp (gN 1 m_reserve_of) (dCons (dVar 2) dNil)) (dCons (dApp (gN 1 m_signal_of) (dCons (dVar 2) dNil)) dNil)))))
/- line 196 -/
def s__law_items_right_3 : Sn := sRet (dOp gEqA (dApp (g1 gRepr) (dCons (dVar 1) dNil)) (dApp (g1 gRepr) (dCons (dApp gLst (dCons (dOp gAdd (dVar 2) (dCst (.str "+"))) (dCons (dOp gAdd (dVar 2) (dCst (.str "*"))) (dCons (dVar 2) (dCons (dVar 2) (dCons (dVar 2) (dCons (dOp gAdd (dVar 2) (dCst (.str "+"))) (dCons (dOp gAdd (dVar 2) (dCst (.str "*"))) (dCons (dVar 2) dNil))))))))) dNil)))
def b__law_items_right : Sn := (sSeq s__law_items_right_0
    (sSeq s__law_items_right_1
    (sSeq s__law_items_right_2
    s__law_items_right_3)))
theorem S__law_items_right : FnScope ["_law_thing", "_law_some", "_law_body_here", "_law_sign"] ["_law_thing"] (defScope (topS 46)) := ⟨rfl, rfl, rfl, by decide +kernel, rfl, by decide +kernel, by decide +kernel⟩
theorem B__law_items_right (M : Md P K w mg) : Binds K M.d__law_items_right ["_law_thing"] [] := M.F__law_items_right.binds fun _ _ _ _ _ _ us hl => match us, hl with | [_], _ => rfl
def m__law_items_right : List PyData → Res PyData := runM b__law_items_right 4
theorem ok__law_items_right (M : Md P K w mg) {k : Nat} : FnG P w K mg base (k + 2) M.a__law_items_right M.d__law_items_right ["_law_thing"] (spM m__law_items_right 1 K) :=
  fn_pureG (k := k + 1) M.F__law_items_right S__law_items_right (fun cdv A outer s H E hgd hr => (dss_cons (ds_asg (vs := [2, 3]) (de_call (ok__law_body M (k := k)) (hr.mono (by omega)) (by rfl) M.g__law_body M.F__law_body.kp (B__law_body M) pass0 (da_cons (de_var 0) da_nil)) (dg_tup rfl (dgs_cons (dg_name 2 S__law_items_right.nd) (dgs_cons (dg_name 3 S__law_items_right.nd) dgs_nil))))
    (dss_cons (ds_set 1 (de_lst (da_cons (de_call (ok_twin_of M (k := k)) (hr.mono (by omega)) (by rfl) M.g_twin_of M.F_twin_of.kp (B_twin_of M) pass0 (da_cons (de_var 2) da_nil)) (da_cons (de_call (ok_reserve_of M (k := k)) (hr.mono (by omega)) (by rfl) M.g_reserve_of M.F_reserve_of.kp (B_reserve_of M) pass0 (da_cons (de_var 2) da_nil)) (da_cons (de_call (ok_signal_of M (k := k)) (hr.mono (by omega)) (by rfl) M.g_signal_of M.F_signal_of.kp (B_signal_of M) pass0 (da_cons (de_var 0) da_nil)) (da_cons (de_callK (ok_signal_of M (k := k)) (hr.mono (by omega)) (by rfl) M.g_signal_of M.F_signal_of.kp (K_signal_of M) (dk_cons (de_op op_addD gAdd_ok (de_var 2) de_str) dk_nil)) (da_cons (de_call (ok_signal_of M (k := k)) (hr.mono (by omega)) (by rfl) M.g_signal_of M.F_signal_of.kp (B_signal_of M) pass0 (da_cons (de_op op_addD gAdd_ok (de_var 2) de_str) da_nil)) da_nil)))))) S__law_items_right.nd)
    (dss_cons (ds_set 1 (de_op op_addD gAdd_ok (de_var 1) (de_lst (da_cons (de_callK (ok_twin_of M (k := k)) (hr.mono (by omega)) (by rfl) M.g_twin_of M.F_twin_of.kp (K_twin_of M) (dk_cons (de_var 2) dk_nil)) (da_cons (de_callK (ok_reserve_of M (k := k)) (hr.mono (by omega)) (by rfl) M.g_reserve_of M.F_reserve_of.kp (K_reserve_of M) (dk_cons (de_var 2) dk_nil)) (da_cons (de_call (ok_signal_of M (k := k)) (hr.mono (by omega)) (by rfl) M.g_signal_of M.F_signal_of.kp (B_signal_of M) pass0 (da_cons (de_var 2) da_nil)) da_nil))))) S__law_items_right.nd)
    (dss_one (ds_ret (de_cmp (op_eqA (h64 hr)) gEqA_ok (de_callB (call_reprR hgd (h66 hr)) gRepr_ok (by rfl) M.n_repr boot_repr (da_cons (de_var 1) da_nil)) (de_callB (call_reprR hgd (h66 hr)) gRepr_ok (by rfl) M.n_repr boot_repr (da_cons (de_lst (da_cons (de_op op_addD gAdd_ok (de_var 2) de_str) (da_cons (de_op op_addD gAdd_ok (de_var 2) de_str) (da_cons (de_var 2) (da_cons (de_var 2) (da_cons (de_var 2) (da_cons (de_op op_addD gAdd_ok (de_var 2) de_str) (da_cons (de_op op_addD gAdd_ok (de_var 2) de_str) (da_cons (de_var 2) da_nil))))))))) da_nil)) (nomark _))))))))
/-! ### is_item -/
/- line 17 -/
def s_is_item_0 : Sn := sRet (dOr (dApp (gN 1 m_is_light) (dCons (dVar 0) dNil)) (dOr (dApp (gN 1 m_is_twin) (dCons (dVar 0) dNil)) (dApp (gN 1 m_is_reserve) (dCons (dVar 0) dNil))))
def b_is_item : Sn := s_is_item_0
theorem S_is_item : FnScope ["value"] ["value"] (defScope (topS 9)) := ⟨rfl, rfl, rfl, by decide +kernel, rfl, by decide +kernel, by decide +kernel⟩
theorem B_is_item (M : Md P K w mg) : Binds K M.d_is_item ["value"] [] := M.F_is_item.binds fun _ _ _ _ _ _ us hl => match us, hl with | [_], _ => rfl
theorem K_is_item (M : Md P K w mg) : ∀ (s : Shared) (ws : List Value), ws.length = 1 → BindsTo s M.d_is_item ⟨[], List.zip ["value"] ws⟩ (List.zip ["value"] ws) := bindsK (ps := ["value"]) M.F_is_item fun _ _ _ _ _ _ us hl => match us, hl with | [_], _ => rfl
def m_is_item : List PyData → Res PyData := runM b_is_item 1
theorem ok_is_item (M : Md P K w mg) {k : Nat} : FnOk P w K mg base CX0 (k + 3) M.a_is_item M.d_is_item ["value"] (spM m_is_item 1 K) :=
  fn_pure (k := k + 2) M.F_is_item S_is_item (fun cdv A outer s H E hr => (dss_one (ds_ret (de_or (de_call (ok_is_light M (k := k)) (hr.mono (by omega)) (by rfl) M.g_is_light M.F_is_light.kp (B_is_light M) pass0 (da_cons (de_var 0) da_nil)) (de_or (de_call (ok_is_twin M (k := k)) (hr.mono (by omega)) (by rfl) M.g_is_twin M.F_is_twin.kp (B_is_twin M) pass0 (da_cons (de_var 0) da_nil)) (de_one (de_call (ok_is_reserve M (k := k)) (hr.mono (by omega)) (by rfl) M.g_is_reserve M.F_is_reserve.kp (B_is_reserve M) pass0 (da_cons (de_var 0) da_nil))))))))
/-! ### _law_odd -/
/- line 165 -/
def s__law_odd_0 : Sn := sSet 1 (dApp gLst (dCons (dCst .none) (dCons (dCst (.bool true)) (dCons (dCst (.bool false)) (dCons (dCst (.int (0))) (dCons (dCst (.int (1))) (dCons (dUn gNeg (dCst (.int (3)))) (dCons (dOp gPow (dCst (.int (10))) (dCst (.int (59)))) (dCons (dApp gTup dNil) (dCons (dApp gTup (dCons (dCst (.str "a")) dNil)) (dCons (dApp gLst (dCons (dCst (.str "a")) dNil)) (dCons (dDisp [((dCst (.str "a")), (dCst (.int (1))))]) (dCons (dApp gLst dNil) (dCons (dCst (.dict [])) (dCons (dApp gTup (dCons (dCst (.str "a")) (dCons (dCst (.str "b")) dNil))) (dCons (dCst (.str "")) (dCons (dCst (.str "+")) (dCons (dCst (.str "*")) dNil))))))))))))))))))
/- line 166 -/
def s__law_odd_1 : Sn := sSet 1 (dOp gAdd (dVar 1) (dApp gLst (dCons (dCst (.str "a+*")) (dCons (dCst (.str "a*+")) (dCons (dCst (.str "a++")) (dCons (dCst (.str "**")) (dCons (dCst (.str "+a")) (dCons (dCst (.str "*a")) (dCons (dCst (.str "a +")) (dCons (dCst (.str "A")) (dCons (dCst (.str "Ab")) (dCons (dCst (.str "a1")) (dCons (dCst (.str "a b")) (dCons (dCst (.str "a\n")) (dCons (dCst (.str "a+\n")) (dCons (dCst (.str "abcdefghi")) dNil))))))))))))))))
/- line 167 -/
def s__law_odd_2 : Sn := sSet 1 (dOp gAdd (dVar 1) (dApp gLst (dCons (dCst (.str "abcdefghi+")) (dCons (dCst (.str "abcdefghi*")) (dCons (dCst (.str "abcdefgH")) (dCons (dCst (.str "-")) (dCons (dCst (.str "a.b")) (dCons (dCst (.str "a-")) (dCons (dCst (.str "{")) (dCons (dCst (.str "`")) (dCons (dCst (.str "a_b")) dNil)))))))))))
/- line 168 -/
def s__law_odd_3 : Sn := sRet (dCallP m__law_pick 2 0 (dCons (dVar 1) dNil))
def b__law_odd : Sn := (sSeq s__law_odd_0
    (sSeq s__law_odd_1
    (sSeq s__law_odd_2
    s__law_odd_3)))
theorem S__law_odd : FnScope ["_law_pen_here", "_law_some"] ["_law_pen_here"] (defScope (topS 41)) := ⟨rfl, rfl, rfl, by decide +kernel, rfl, by decide +kernel, by decide +kernel⟩
theorem B__law_odd (M : Md P K w mg) : Binds K M.d__law_odd ["_law_pen_here"] [] := M.F__law_odd.binds fun _ _ _ _ _ _ us hl => match us, hl with | [_], _ => rfl
def m__law_odd : PyData → List PyData → Res (PyData × PyData) := runP b__law_odd 2
theorem ok__law_odd (M : Md P K w mg) {k : Nat} : FnOk P w K mg base CX0 (k + 3) M.a__law_odd M.d__law_odd ["_law_pen_here"] (spP m__law_odd 1 K) :=
  fn_pen (k := k + 2) M.F__law_odd S__law_odd (fun cdv A outer s H E hr => (dss_cons (ds_set 1 (de_lst (da_cons de_non (da_cons de_bl (da_cons de_bl (da_cons de_int (da_cons de_int (da_cons (de_un un_neg gNeg_ok de_int) (da_cons (de_op op_pow gPow_ok de_int de_int) (da_cons (de_tup da_nil) (da_cons (de_tup (da_cons de_str da_nil)) (da_cons (de_lst (da_cons de_str da_nil)) (da_cons (de_new (df_disp (dps_cons de_str de_int dps_nil))) (da_cons (de_lst da_nil) (da_cons (de_new df_dict0) (da_cons (de_tup (da_cons de_str (da_cons de_str da_nil))) (da_cons de_str (da_cons de_str (da_cons de_str da_nil)))))))))))))))))) S__law_odd.nd)
    (dss_cons (ds_set 1 (de_op op_addD gAdd_ok (de_var 1) (de_lst (da_cons de_str (da_cons de_str (da_cons de_str (da_cons de_str (da_cons de_str (da_cons de_str (da_cons de_str (da_cons de_str (da_cons de_str (da_cons de_str (da_cons de_str (da_cons de_str (da_cons de_str (da_cons de_str da_nil)))))))))))))))) S__law_odd.nd)
    (dss_cons (ds_set 1 (de_op op_addD gAdd_ok (de_var 1) (de_lst (da_cons de_str (da_cons de_str (da_cons de_str (da_cons de_str (da_cons de_str (da_cons de_str (da_cons de_str (da_cons de_str (da_cons de_str da_nil))))))))))) S__law_odd.nd)
    (dss_one (ds_ret (de_callP 0 (ok__law_pick M (k := k)) (hr.mono (by omega)) (by rfl) M.g__law_pick M.F__law_pick.kp (B__law_pick M) pass0 (da_cons (de_var 1) da_nil))))))))
/-! ### _law_made -/
/- line 198 -/
def s__law_made_0 : Sn := sSet 2 (dApp gLst (dCons (dMkE "InvalidNet" ["word", "index"] false (dCons (dVar 0) (dCons (dVar 1) dNil))) (dCons (dMkE "InvalidRoute" ["value"] false (dCons (dVar 0) dNil)) (dCons (dMkE "TooFar" ["length"] false (dCons (dVar 0) dNil)) (dCons (dMkE "InvalidBand" ["value"] false (dCons (dVar 0) dNil)) (dCons (dMkE "InvalidLayout" ["word", "item"] false (dCons (dVar 0) (dCons (dVar 1) dNil))) dNil))))))
/- line 199 -/
def s__law_made_1 : Sn := sSet 2 (dOp gAdd (dVar 2) (dApp gLst (dCons (dMkE "InvalidWish" ["word"] false (dCons (dVar 0) dNil)) (dCons (dMkE "NotAllowed" ["index", "word"] false (dCons (dVar 0) (dCons (dVar 1) dNil))) (dCons (dMkE "Turned" ["lower", "upper"] false (dCons (dVar 0) (dCons (dVar 1) dNil))) (dCons (dMkE "Unlike" ["item"] false (dCons (dVar 0) dNil)) (dCons (dMkE "Circular" ["ring"] false (dCons (dVar 0) dNil)) (dCons (dMkE "Barred" ["certificate"] false (dCons (dVar 0) dNil)) dNil))))))))
/- line 200 -/
def s__law_made_2 : Sn := sSet 2 (dOp gAdd (dVar 2) (dApp gLst (dCons (dMkE "ParseError" ["line", "word"] false (dCons (dVar 0) (dCons (dVar 1) dNil))) (dCons (dMkE "UnknownCommand" ["command"] false (dCons (dVar 0) dNil)) (dCons (dMkE "NoItem" ["item"] false (dCons (dVar 0) dNil)) (dCons (dMkE "NoStation" ["name"] false (dCons (dVar 0) dNil)) (dCons (dMkE "NoDuct" ["name"] false (dCons (dVar 0) dNil)) (dCons (dMkE "NoName" ["name"] false (dCons (dVar 0) dNil)) dNil))))))))
/- line 201 -/
def s__law_made_3 : Sn := sRet (dOp gAdd (dVar 2) (dApp gLst (dCons (dMkE "NoFibre" ["index"] false (dCons (dVar 0) dNil)) (dCons (dMkE "TooMany" ["limit"] false (dCons (dVar 0) dNil)) (dCons (dMkE "TooWide" ["limit"] false (dCons (dVar 0) dNil)) (dCons (dMkE "TooNarrow" ["needed"] false (dCons (dVar 0) dNil)) (dCons (dMkE "NothingToUndo" ["count"] false (dCons (dVar 0) dNil)) dNil)))))))
def b__law_made : Sn := (sSeq s__law_made_0
    (sSeq s__law_made_1
    (sSeq s__law_made_2
    s__law_made_3)))
theorem S__law_made : FnScope ["_law_one", "_law_two", "_law_found"] ["_law_one", "_law_two"] (defScope (topS 47)) := ⟨rfl, rfl, rfl, by decide +kernel, rfl, by decide +kernel, by decide +kernel⟩
theorem B__law_made (M : Md P K w mg) : Binds K M.d__law_made ["_law_one", "_law_two"] [] := M.F__law_made.binds fun _ _ _ _ _ _ us hl => match us, hl with | [_, _], _ => rfl
def m__law_made : List PyData → Res PyData := runM b__law_made 3
theorem ok__law_made (M : Md P K w mg) {k : Nat} : FnOk P w K mg base CX0 (k + 3) M.a__law_made M.d__law_made ["_law_one", "_law_two"] (spM m__law_made 2 K) :=
  fn_pure (k := k + 2) M.F__law_made S__law_made (fun cdv A outer s H E hr => (dss_cons (ds_set 2 (de_lst (da_cons (de_mkE M.E_InvalidNet.ns M.E_InvalidNet.ox.kC (mkC_2 (k := k) M.E_InvalidNet sh_InvalidNet bk_InvalidNet (hr.mono (by omega))) (by rfl) M.E_InvalidNet.mgc (da_cons (de_var 0) (da_cons (de_var 1) da_nil))) (da_cons (de_mkE M.E_InvalidRoute.ns M.E_InvalidRoute.ox.kC (mkC_1 (k := k) M.E_InvalidRoute sh_InvalidRoute bk_InvalidRoute (hr.mono (by omega))) (by rfl) M.E_InvalidRoute.mgc (da_cons (de_var 0) da_nil)) (da_cons (de_mkE M.E_TooFar.ns M.E_TooFar.ox.kC (mkC_1 (k := k) M.E_TooFar sh_TooFar bk_TooFar (hr.mono (by omega))) (by rfl) M.E_TooFar.mgc (da_cons (de_var 0) da_nil)) (da_cons (de_mkE M.E_InvalidBand.ns M.E_InvalidBand.ox.kC (mkC_1 (k := k) M.E_InvalidBand sh_InvalidBand bk_InvalidBand (hr.mono (by omega))) (by rfl) M.E_InvalidBand.mgc (da_cons (de_var 0) da_nil)) (da_cons (de_mkE M.E_InvalidLayout.ns M.E_InvalidLayout.ox.kC (mkC_2 (k := k) M.E_InvalidLayout sh_InvalidLayout bk_InvalidLayout (hr.mono (by omega))) (by rfl) M.E_InvalidLayout.mgc (da_cons (de_var 0) (da_cons (de_var 1) da_nil))) da_nil)))))) S__law_made.nd)
    (dss_cons (ds_set 2 (de_op op_addD gAdd_ok (de_var 2) (de_lst (da_cons (de_mkE M.E_InvalidWish.ns M.E_InvalidWish.ox.kC (mkC_1 (k := k) M.E_InvalidWish sh_InvalidWish bk_InvalidWish (hr.mono (by omega))) (by rfl) M.E_InvalidWish.mgc (da_cons (de_var 0) da_nil)) (da_cons (de_mkE M.E_NotAllowed.ns M.E_NotAllowed.ox.kC (mkC_2 (k := k) M.E_NotAllowed sh_NotAllowed bk_NotAllowed (hr.mono (by omega))) (by rfl) M.E_NotAllowed.mgc (da_cons (de_var 0) (da_cons (de_var 1) da_nil))) (da_cons (de_mkE M.E_Turned.ns M.E_Turned.ox.kC (mkC_2 (k := k) M.E_Turned sh_Turned bk_Turned (hr.mono (by omega))) (by rfl) M.E_Turned.mgc (da_cons (de_var 0) (da_cons (de_var 1) da_nil))) (da_cons (de_mkE M.E_Unlike.ns M.E_Unlike.ox.kC (mkC_1 (k := k) M.E_Unlike sh_Unlike bk_Unlike (hr.mono (by omega))) (by rfl) M.E_Unlike.mgc (da_cons (de_var 0) da_nil)) (da_cons (de_mkE M.E_Circular.ns M.E_Circular.ox.kC (mkC_1 (k := k) M.E_Circular sh_Circular bk_Circular (hr.mono (by omega))) (by rfl) M.E_Circular.mgc (da_cons (de_var 0) da_nil)) (da_cons (de_mkE M.E_Barred.ns M.E_Barred.ox.kC (mkC_1 (k := k) M.E_Barred sh_Barred bk_Barred (hr.mono (by omega))) (by rfl) M.E_Barred.mgc (da_cons (de_var 0) da_nil)) da_nil)))))))) S__law_made.nd)
    (dss_cons (ds_set 2 (de_op op_addD gAdd_ok (de_var 2) (de_lst (da_cons (de_mkE M.E_ParseError.ns M.E_ParseError.ox.kC (mkC_2 (k := k) M.E_ParseError sh_ParseError bk_ParseError (hr.mono (by omega))) (by rfl) M.E_ParseError.mgc (da_cons (de_var 0) (da_cons (de_var 1) da_nil))) (da_cons (de_mkE M.E_UnknownCommand.ns M.E_UnknownCommand.ox.kC (mkC_1 (k := k) M.E_UnknownCommand sh_UnknownCommand bk_UnknownCommand (hr.mono (by omega))) (by rfl) M.E_UnknownCommand.mgc (da_cons (de_var 0) da_nil)) (da_cons (de_mkE M.E_NoItem.ns M.E_NoItem.ox.kC (mkC_o EXI.ownB_Key (k := k) M.E_NoItem sh_NoItem bk_NoItem (hr.mono (by omega))) (by rfl) M.E_NoItem.mgc (da_cons (de_var 0) da_nil)) (da_cons (de_mkE M.E_NoStation.ns M.E_NoStation.ox.kC (mkC_o EXI.ownB_Key (k := k) M.E_NoStation sh_NoStation bk_NoStation (hr.mono (by omega))) (by rfl) M.E_NoStation.mgc (da_cons (de_var 0) da_nil)) (da_cons (de_mkE M.E_NoDuct.ns M.E_NoDuct.ox.kC (mkC_o EXI.ownB_Key (k := k) M.E_NoDuct sh_NoDuct bk_NoDuct (hr.mono (by omega))) (by rfl) M.E_NoDuct.mgc (da_cons (de_var 0) da_nil)) (da_cons (de_mkE M.E_NoName.ns M.E_NoName.ox.kC (mkC_o EXI.ownB_Key (k := k) M.E_NoName sh_NoName bk_NoName (hr.mono (by omega))) (by rfl) M.E_NoName.mgc (da_cons (de_var 0) da_nil)) da_nil)))))))) S__law_made.nd)
    (dss_one (ds_ret (de_op op_addD gAdd_ok (de_var 2) (de_lst (da_cons (de_mkE M.E_NoFibre.ns M.E_NoFibre.ox.kC (mkC_o EXI.ownB_Index (k := k) M.E_NoFibre sh_NoFibre bk_NoFibre (hr.mono (by omega))) (by rfl) M.E_NoFibre.mgc (da_cons (de_var 0) da_nil)) (da_cons (de_mkE M.E_TooMany.ns M.E_TooMany.ox.kC (mkC_o EXI.ownB_Over (k := k) M.E_TooMany sh_TooMany bk_TooMany (hr.mono (by omega))) (by rfl) M.E_TooMany.mgc (da_cons (de_var 0) da_nil)) (da_cons (de_mkE M.E_TooWide.ns M.E_TooWide.ox.kC (mkC_o EXI.ownB_Over (k := k) M.E_TooWide sh_TooWide bk_TooWide (hr.mono (by omega))) (by rfl) M.E_TooWide.mgc (da_cons (de_var 0) da_nil)) (da_cons (de_mkE M.E_TooNarrow.ns M.E_TooNarrow.ox.kC (mkC_o EXI.ownB_Over (k := k) M.E_TooNarrow sh_TooNarrow bk_TooNarrow (hr.mono (by omega))) (by rfl) M.E_TooNarrow.mgc (da_cons (de_var 0) da_nil)) (da_cons (de_mkE M.E_NothingToUndo.ns M.E_NothingToUndo.ox.kC (mkC_o EXI.ownB_Look (k := k) M.E_NothingToUndo sh_NothingToUndo bk_NothingToUndo (hr.mono (by omega))) (by rfl) M.E_NothingToUndo.mgc (da_cons (de_var 0) da_nil)) da_nil)))))))))))))
/-! ### _law_named -/
/- line 203 -/
def s__law_named_0 : Sn := sSet 2 (dApp gLst (dCons (dMkE "InvalidNet" ["word", "index"] true (dCons (dVar 1) (dCons (dVar 0) dNil))) (dCons (dMkE "InvalidRoute" ["value"] false (dCons (dVar 0) dNil)) (dCons (dMkE "TooFar" ["length"] false (dCons (dVar 0) dNil)) (dCons (dMkE "InvalidBand" ["value"] false (dCons (dVar 0) dNil)) dNil)))))
/- line 204 -/
def s__law_named_1 : Sn := sSet 2 (dOp gAdd (dVar 2) (dApp gLst (dCons (dMkE "InvalidLayout" ["word", "item"] true (dCons (dVar 1) (dCons (dVar 0) dNil))) (dCons (dMkE "InvalidWish" ["word"] false (dCons (dVar 0) dNil)) (dCons (dMkE "NotAllowed" ["index", "word"] true (dCons (dVar 1) (dCons (dVar 0) dNil))) dNil)))))
/- line 205 -/
def s__law_named_2 : Sn := sSet 2 (dOp gAdd (dVar 2) (dApp gLst (dCons (dMkE "Turned" ["lower", "upper"] true (dCons (dVar 1) (dCons (dVar 0) dNil))) (dCons (dMkE "Unlike" ["item"] false (dCons (dVar 0) dNil)) (dCons (dMkE "Circular" ["ring"] false (dCons (dVar 0) dNil)) (dCons (dMkE "Barred" ["certificate"] false (dCons (dVar 0) dNil)) dNil))))))
/- line 206 -/
def s__law_named_3 : Sn := sSet 2 (dOp gAdd (dVar 2) (dApp gLst (dCons (dMkE "ParseError" ["line", "word"] true (dCons (dVar 1) (dCons (dVar 0) dNil))) (dCons (dMkE "UnknownCommand" ["command"] false (dCons (dVar 0) dNil)) (dCons (dMkE "NoItem" ["item"] false (dCons (dVar 0) dNil)) dNil)))))
/- line 207 -/
def s__law_named_4 : Sn := sSet 2 (dOp gAdd (dVar 2) (dApp gLst (dCons (dMkE "NoStation" ["name"] false (dCons (dVar 0) dNil)) (dCons (dMkE "NoDuct" ["name"] false (dCons (dVar 0) dNil)) (dCons (dMkE "NoName" ["name"] false (dCons (dVar 0) dNil)) (dCons (dMkE "NoFibre" ["index"] false (dCons (dVar 0) dNil)) dNil))))))
/- line 208 -/
def s__law_named_5 : Sn := sRet (dOp gAdd (dVar 2) (dApp gLst (dCons (dMkE "TooMany" ["limit"] false (dCons (dVar 0) dNil)) (dCons (dMkE "TooWide" ["limit"] false (dCons (dVar 0) dNil)) (dCons (dMkE "TooNarrow" ["needed"] false (dCons (dVar 0) dNil)) (dCons (dMkE "NothingToUndo" ["count"] false (dCons (dVar 0) dNil)) dNil))))))
def b__law_named : Sn := (sSeq s__law_named_0
    (sSeq s__law_named_1
    (sSeq s__law_named_2
    (sSeq s__law_named_3
    (sSeq s__law_named_4
    s__law_named_5)))))
theorem S__law_named : FnScope ["_law_one", "_law_two", "_law_found"] ["_law_one", "_law_two"] (defScope (topS 48)) := ⟨rfl, rfl, rfl, by decide +kernel, rfl, by decide +kernel, by decide +kernel⟩
theorem B__law_named (M : Md P K w mg) : Binds K M.d__law_named ["_law_one", "_law_two"] [] := M.F__law_named.binds fun _ _ _ _ _ _ us hl => match us, hl with | [_, _], _ => rfl
def m__law_named : List PyData → Res PyData := runM b__law_named 3
theorem ok__law_named (M : Md P K w mg) {k : Nat} : FnOk P w K mg base CX0 (k + 3) M.a__law_named M.d__law_named ["_law_one", "_law_two"] (spM m__law_named 2 K) :=
  fn_pure (k := k + 2) M.F__law_named S__law_named (fun cdv A outer s H E hr => (dss_cons (ds_set 2 (de_lst (da_cons (de_mkK true M.E_InvalidNet.ns M.E_InvalidNet.ox.kC (mkC_2 (k := k) M.E_InvalidNet sh_InvalidNet bk_InvalidNet (hr.mono (by omega))) (by rfl) M.E_InvalidNet.mgc (dk_cons (de_var 1) (dk_cons (de_var 0) dk_nil))) (da_cons (de_mkK false M.E_InvalidRoute.ns M.E_InvalidRoute.ox.kC (mkC_1 (k := k) M.E_InvalidRoute sh_InvalidRoute bk_InvalidRoute (hr.mono (by omega))) (by rfl) M.E_InvalidRoute.mgc (dk_cons (de_var 0) dk_nil)) (da_cons (de_mkK false M.E_TooFar.ns M.E_TooFar.ox.kC (mkC_1 (k := k) M.E_TooFar sh_TooFar bk_TooFar (hr.mono (by omega))) (by rfl) M.E_TooFar.mgc (dk_cons (de_var 0) dk_nil)) (da_cons (de_mkK false M.E_InvalidBand.ns M.E_InvalidBand.ox.kC (mkC_1 (k := k) M.E_InvalidBand sh_InvalidBand bk_InvalidBand (hr.mono (by omega))) (by rfl) M.E_InvalidBand.mgc (dk_cons (de_var 0) dk_nil)) da_nil))))) S__law_named.nd)
    (dss_cons (ds_set 2 (de_op op_addD gAdd_ok (de_var 2) (de_lst (da_cons (de_mkK true M.E_InvalidLayout.ns M.E_InvalidLayout.ox.kC (mkC_2 (k := k) M.E_InvalidLayout sh_InvalidLayout bk_InvalidLayout (hr.mono (by omega))) (by rfl) M.E_InvalidLayout.mgc (dk_cons (de_var 1) (dk_cons (de_var 0) dk_nil))) (da_cons (de_mkK false M.E_InvalidWish.ns M.E_InvalidWish.ox.kC (mkC_1 (k := k) M.E_InvalidWish sh_InvalidWish bk_InvalidWish (hr.mono (by omega))) (by rfl) M.E_InvalidWish.mgc (dk_cons (de_var 0) dk_nil)) (da_cons (de_mkK true M.E_NotAllowed.ns M.E_NotAllowed.ox.kC (mkC_2 (k := k) M.E_NotAllowed sh_NotAllowed bk_NotAllowed (hr.mono (by omega))) (by rfl) M.E_NotAllowed.mgc (dk_cons (de_var 1) (dk_cons (de_var 0) dk_nil))) da_nil))))) S__law_named.nd)
    (dss_cons (ds_set 2 (de_op op_addD gAdd_ok (de_var 2) (de_lst (da_cons (de_mkK true M.E_Turned.ns M.E_Turned.ox.kC (mkC_2 (k := k) M.E_Turned sh_Turned bk_Turned (hr.mono (by omega))) (by rfl) M.E_Turned.mgc (dk_cons (de_var 1) (dk_cons (de_var 0) dk_nil))) (da_cons (de_mkK false M.E_Unlike.ns M.E_Unlike.ox.kC (mkC_1 (k := k) M.E_Unlike sh_Unlike bk_Unlike (hr.mono (by omega))) (by rfl) M.E_Unlike.mgc (dk_cons (de_var 0) dk_nil)) (da_cons (de_mkK false M.E_Circular.ns M.E_Circular.ox.kC (mkC_1 (k := k) M.E_Circular sh_Circular bk_Circular (hr.mono (by omega))) (by rfl) M.E_Circular.mgc (dk_cons (de_var 0) dk_nil)) (da_cons (de_mkK false M.E_Barred.ns M.E_Barred.ox.kC (mkC_1 (k := k) M.E_Barred sh_Barred bk_Barred (hr.mono (by omega))) (by rfl) M.E_Barred.mgc (dk_cons (de_var 0) dk_nil)) da_nil)))))) S__law_named.nd)
    (dss_cons (ds_set 2 (de_op op_addD gAdd_ok (de_var 2) (de_lst (da_cons (de_mkK true M.E_ParseError.ns M.E_ParseError.ox.kC (mkC_2 (k := k) M.E_ParseError sh_ParseError bk_ParseError (hr.mono (by omega))) (by rfl) M.E_ParseError.mgc (dk_cons (de_var 1) (dk_cons (de_var 0) dk_nil))) (da_cons (de_mkK false M.E_UnknownCommand.ns M.E_UnknownCommand.ox.kC (mkC_1 (k := k) M.E_UnknownCommand sh_UnknownCommand bk_UnknownCommand (hr.mono (by omega))) (by rfl) M.E_UnknownCommand.mgc (dk_cons (de_var 0) dk_nil)) (da_cons (de_mkK false M.E_NoItem.ns M.E_NoItem.ox.kC (mkC_o EXI.ownB_Key (k := k) M.E_NoItem sh_NoItem bk_NoItem (hr.mono (by omega))) (by rfl) M.E_NoItem.mgc (dk_cons (de_var 0) dk_nil)) da_nil))))) S__law_named.nd)
    (dss_cons (ds_set 2 (de_op op_addD gAdd_ok (de_var 2) (de_lst (da_cons (de_mkK false M.E_NoStation.ns M.E_NoStation.ox.kC (mkC_o EXI.ownB_Key (k := k) M.E_NoStation sh_NoStation bk_NoStation (hr.mono (by omega))) (by rfl) M.E_NoStation.mgc (dk_cons (de_var 0) dk_nil)) (da_cons (de_mkK false M.E_NoDuct.ns M.E_NoDuct.ox.kC (mkC_o EXI.ownB_Key (k := k) M.E_NoDuct sh_NoDuct bk_NoDuct (hr.mono (by omega))) (by rfl) M.E_NoDuct.mgc (dk_cons (de_var 0) dk_nil)) (da_cons (de_mkK false M.E_NoName.ns M.E_NoName.ox.kC (mkC_o EXI.ownB_Key (k := k) M.E_NoName sh_NoName bk_NoName (hr.mono (by omega))) (by rfl) M.E_NoName.mgc (dk_cons (de_var 0) dk_nil)) (da_cons (de_mkK false M.E_NoFibre.ns M.E_NoFibre.ox.kC (mkC_o EXI.ownB_Index (k := k) M.E_NoFibre sh_NoFibre bk_NoFibre (hr.mono (by omega))) (by rfl) M.E_NoFibre.mgc (dk_cons (de_var 0) dk_nil)) da_nil)))))) S__law_named.nd)
    (dss_one (ds_ret (de_op op_addD gAdd_ok (de_var 2) (de_lst (da_cons (de_mkK false M.E_TooMany.ns M.E_TooMany.ox.kC (mkC_o EXI.ownB_Over (k := k) M.E_TooMany sh_TooMany bk_TooMany (hr.mono (by omega))) (by rfl) M.E_TooMany.mgc (dk_cons (de_var 0) dk_nil)) (da_cons (de_mkK false M.E_TooWide.ns M.E_TooWide.ox.kC (mkC_o EXI.ownB_Over (k := k) M.E_TooWide sh_TooWide bk_TooWide (hr.mono (by omega))) (by rfl) M.E_TooWide.mgc (dk_cons (de_var 0) dk_nil)) (da_cons (de_mkK false M.E_TooNarrow.ns M.E_TooNarrow.ox.kC (mkC_o EXI.ownB_Over (k := k) M.E_TooNarrow sh_TooNarrow bk_TooNarrow (hr.mono (by omega))) (by rfl) M.E_TooNarrow.mgc (dk_cons (de_var 0) dk_nil)) (da_cons (de_mkK false M.E_NothingToUndo.ns M.E_NothingToUndo.ox.kC (mkC_o EXI.ownB_Look (k := k) M.E_NothingToUndo sh_NothingToUndo bk_NothingToUndo (hr.mono (by omega))) (by rfl) M.E_NothingToUndo.mgc (dk_cons (de_var 0) dk_nil)) da_nil))))))))))))))
/-! ### _law_value -/
/- line 172 -/
def s__law_value_0 : Sn := sSet 1 (dCallP m__law_draw 2 0 (dCons (dCst (.int (5))) dNil))
/- line 174 -/
def s__law_value_1 : Sn := sRet (dCallP m__law_odd 1 0 dNil)
/- line 173 -/
def s__law_value_2 : Sn := sIf (EL.tB (dOp gEqA (dVar 1) (dCst (.int (0))))) s__law_value_1 sNext
/- line 176 -/
def s__law_value_3 : Sn := sRet (dCallP m__law_word 2 0 (dCons (dCst (.str "abyz+*A0 ")) dNil))
/- line 175 -/
def s__law_value_4 : Sn := sIf (EL.tB (dOp gEqA (dVar 1) (dCst (.int (1))))) s__law_value_3 sNext
/- line 177 -/
def s__law_value_5 : Sn := sRet (dOp gAdd (dCallP m__law_word 2 0 (dCons (dCst (.str "abcdefghijklmnopqrstuvwxyz")) dNil)) (dOp gIxA (dApp gLst (dCons (dCst (.str "")) (dCons (dCst (.str "+")) (dCons (dCst (.str "*")) dNil)))) (dCallP m__law_draw 2 0 (dCons (dCst (.int (3))) dNil))))
def b__law_value : Sn := (sSeq s__law_value_0
    (sSeq s__law_value_2
    (sSeq s__law_value_4
    s__law_value_5)))
theorem S__law_value : FnScope ["_law_pen_here", "_law_way"] ["_law_pen_here"] (defScope (topS 43)) := ⟨rfl, rfl, rfl, by decide +kernel, rfl, by decide +kernel, by decide +kernel⟩
theorem B__law_value (M : Md P K w mg) : Binds K M.d__law_value ["_law_pen_here"] [] := M.F__law_value.binds fun _ _ _ _ _ _ us hl => match us, hl with | [_], _ => rfl
def m__law_value : PyData → List PyData → Res (PyData × PyData) := runP b__law_value 2
theorem ok__law_value (M : Md P K w mg) {k : Nat} : FnOk P w K mg base CX0 (k + 4) M.a__law_value M.d__law_value ["_law_pen_here"] (spP m__law_value 1 K) :=
  fn_pen (k := k + 3) M.F__law_value S__law_value (fun cdv A outer s H E hr => (dss_cons (ds_set 1 (de_callP 0 (ok__law_draw M (k := k + 2)) (hr.mono (by omega)) (by rfl) M.g__law_draw M.F__law_draw.kp (B__law_draw M) pass0 (da_cons de_int da_nil)) S__law_value.nd)
    (dss_cons (ds_if (dt_cmp (op_eqA (h64 hr)) gEqA_ok (de_var 1) de_int (nomark _)) (dss_one (ds_ret (de_callP 0 (ok__law_odd M (k := k)) (hr.mono (by omega)) (by rfl) M.g__law_odd M.F__law_odd.kp (B__law_odd M) pass0 da_nil))) dss_nil)
    (dss_cons (ds_if (dt_cmp (op_eqA (h64 hr)) gEqA_ok (de_var 1) de_int (nomark _)) (dss_one (ds_ret (de_callP 0 (ok__law_word M (k := k + 1)) (hr.mono (by omega)) (by rfl) M.g__law_word M.F__law_word.kp (B__law_word M) pass0 (da_cons de_str da_nil)))) dss_nil)
    (dss_one (ds_ret (de_op op_addD gAdd_ok (de_callP 0 (ok__law_word M (k := k + 1)) (hr.mono (by omega)) (by rfl) M.g__law_word M.F__law_word.kp (B__law_word M) pass0 (da_cons de_str da_nil)) (de_ixA (h1 hr) (de_lst (da_cons de_str (da_cons de_str (da_cons de_str da_nil)))) (de_callP 0 (ok__law_draw M (k := k + 2)) (hr.mono (by omega)) (by rfl) M.g__law_draw M.F__law_draw.kp (B__law_draw M) pass0 (da_cons de_int da_nil))))))))))
/-! ### _law_told_right -/
/- line 186 -/
def s__law_told_right_0 : Sn := sSet 1 (dApp (gN 1 m__law_body) (dCons (dVar 0) dNil))
/- line 187 -/
def s__law_told_right_1 : Sn := sSet 2 (dIf (EL.tB (dOp gIsN (dVar 1) (dCst .none))) (dCst .none) (dOp gIxA (dVar 1) (dCst (.int (1)))))
/- line 188 -/
def s__law_told_right_2 : Sn := sSet 3 (dApp gLst (dCons (dOp gEqA (dVar 2) (dCst (.str ""))) (dCons (dOp gNotN (dVar 2) (dCst .none)) (dCons (dOp gEqA (dVar 2) (dCst (.str ""))) (dCons (dOp gEqA (dVar 2) (dCst (.str "+"))) (dCons (dOp gEqA (dVar 2) (dCst (.str "*"))) dNil))))))
/- line 189 -/
def s__law_told_right_3 : Sn := sSet 4 (dApp gLst (dCons (dApp (gN 1 m_is_name) (dCons (dVar 0) dNil)) (dCons (dApp (gN 1 m_is_item) (dCons (dVar 0) dNil)) (dCons (dApp (gN 1 m_is_light) (dCons (dVar 0) dNil)) (dCons (dApp (gN 1 m_is_twin) (dCons (dVar 0) dNil)) (dCons (dApp (gN 1 m_is_reserve) (dCons (dVar 0) dNil)) dNil))))))
/- line 190 -/
def s__law_told_right_4 : Sn := sSet 5 (dApp gLst (dCons (dApp (gN 1 m_is_name) (dCons (dVar 0) dNil)) (dCons (dApp (gN 1 m_is_item) (dCons (dVar 0) dNil)) (dCons (dApp (gN 1 m_is_light) (dCons (dVar 0) dNil)) (dCons (dApp (gN 1 m_is_twin) (dCons (dVar 0) dNil)) dNil)))))
/- line 191 -/
def s__law_told_right_5 : Sn := sRet (dAnd (dOp gEqA (dApp (g1 gRepr) (dCons (dVar 4) dNil)) (dApp (g1 gRepr) (dCons (dVar 3) dNil))) (dOp gEqA (dApp (g1 gRepr) (dCons (dOp gAdd (dVar 5) (dApp gLst (dCons (dApp (gN 1 m_is_reserve) (dCons (dVar 0) dNil)) dNil))) dNil)) (dApp (g1 gRepr) (dCons (dVar 3) dNil))))
def b__law_told_right : Sn := (sSeq s__law_told_right_0
    (sSeq s__law_told_right_1
    (sSeq s__law_told_right_2
    (sSeq s__law_told_right_3
    (sSeq s__law_told_right_4
    s__law_told_right_5)))))
theorem S__law_told_right : FnScope ["_law_thing", "_law_body_here", "_law_sign", "_law_due", "_law_told", "_law_named_here"] ["_law_thing"] (defScope (topS 45)) := ⟨rfl, rfl, rfl, by decide +kernel, rfl, by decide +kernel, by decide +kernel⟩
theorem B__law_told_right (M : Md P K w mg) : Binds K M.d__law_told_right ["_law_thing"] [] := M.F__law_told_right.binds fun _ _ _ _ _ _ us hl => match us, hl with | [_], _ => rfl
def m__law_told_right : List PyData → Res PyData := runM b__law_told_right 6
theorem ok__law_told_right (M : Md P K w mg) {k : Nat} : FnG P w K mg base (k + 4) M.a__law_told_right M.d__law_told_right ["_law_thing"] (spM m__law_told_right 1 K) :=
  fn_pureG (k := k + 3) M.F__law_told_right S__law_told_right (fun cdv A outer s H E hgd hr => (dss_cons (ds_set 1 (de_call (ok__law_body M (k := k + 2)) (hr.mono (by omega)) (by rfl) M.g__law_body M.F__law_body.kp (B__law_body M) pass0 (da_cons (de_var 0) da_nil)) S__law_told_right.nd)
    (dss_cons (ds_set 2 (de_if (dt_cmp op_isN gIsN_ok (de_var 1) de_non (nomark _)) de_non (de_ixA (h1 hr) (de_var 1) de_int)) S__law_told_right.nd)
    (dss_cons (ds_set 3 (de_lst (da_cons (de_cmp (op_eqA (h64 hr)) gEqA_ok (de_var 2) de_str (nomark _)) (da_cons (de_cmp op_notN gNotN_ok (de_var 2) de_non (nomark _)) (da_cons (de_cmp (op_eqA (h64 hr)) gEqA_ok (de_var 2) de_str (nomark _)) (da_cons (de_cmp (op_eqA (h64 hr)) gEqA_ok (de_var 2) de_str (nomark _)) (da_cons (de_cmp (op_eqA (h64 hr)) gEqA_ok (de_var 2) de_str (nomark _)) da_nil)))))) S__law_told_right.nd)
    (dss_cons (ds_set 4 (de_lst (da_cons (de_call (ok_is_name M (k := k + 2)) (hr.mono (by omega)) (by rfl) M.g_is_name M.F_is_name.kp (B_is_name M) pass0 (da_cons (de_var 0) da_nil)) (da_cons (de_call (ok_is_item M (k := k)) (hr.mono (by omega)) (by rfl) M.g_is_item M.F_is_item.kp (B_is_item M) pass0 (da_cons (de_var 0) da_nil)) (da_cons (de_call (ok_is_light M (k := k + 1)) (hr.mono (by omega)) (by rfl) M.g_is_light M.F_is_light.kp (B_is_light M) pass0 (da_cons (de_var 0) da_nil)) (da_cons (de_call (ok_is_twin M (k := k + 1)) (hr.mono (by omega)) (by rfl) M.g_is_twin M.F_is_twin.kp (B_is_twin M) pass0 (da_cons (de_var 0) da_nil)) (da_cons (de_call (ok_is_reserve M (k := k + 1)) (hr.mono (by omega)) (by rfl) M.g_is_reserve M.F_is_reserve.kp (B_is_reserve M) pass0 (da_cons (de_var 0) da_nil)) da_nil)))))) S__law_told_right.nd)
    (dss_cons (ds_set 5 (de_lst (da_cons (de_callK (ok_is_name M (k := k + 2)) (hr.mono (by omega)) (by rfl) M.g_is_name M.F_is_name.kp (K_is_name M) (dk_cons (de_var 0) dk_nil)) (da_cons (de_callK (ok_is_item M (k := k)) (hr.mono (by omega)) (by rfl) M.g_is_item M.F_is_item.kp (K_is_item M) (dk_cons (de_var 0) dk_nil)) (da_cons (de_callK (ok_is_light M (k := k + 1)) (hr.mono (by omega)) (by rfl) M.g_is_light M.F_is_light.kp (K_is_light M) (dk_cons (de_var 0) dk_nil)) (da_cons (de_callK (ok_is_twin M (k := k + 1)) (hr.mono (by omega)) (by rfl) M.g_is_twin M.F_is_twin.kp (K_is_twin M) (dk_cons (de_var 0) dk_nil)) da_nil))))) S__law_told_right.nd)
    (dss_one (ds_ret (de_and (de_cmp (op_eqA (h64 hr)) gEqA_ok (de_callB (call_reprR hgd (h66 hr)) gRepr_ok (by rfl) M.n_repr boot_repr (da_cons (de_var 4) da_nil)) (de_callB (call_reprR hgd (h66 hr)) gRepr_ok (by rfl) M.n_repr boot_repr (da_cons (de_var 3) da_nil)) (nomark _)) (de_one (de_cmp (op_eqA (h64 hr)) gEqA_ok (de_callB (call_reprR hgd (h66 hr)) gRepr_ok (by rfl) M.n_repr boot_repr (da_cons (de_op op_addD gAdd_ok (de_var 5) (de_lst (da_cons (de_callK (ok_is_reserve M (k := k + 1)) (hr.mono (by omega)) (by rfl) M.g_is_reserve M.F_is_reserve.kp (K_is_reserve M) (dk_cons (de_var 0) dk_nil)) da_nil))) da_nil)) (de_callB (call_reprR hgd (h66 hr)) gRepr_ok (by rfl) M.n_repr boot_repr (da_cons (de_var 3) da_nil)) (nomark _))))))))))))
/-! ### _law_errors_right -/
/- line 229 -/
def s__law_errors_right_0 : Sn := sSet 2 (dOp gAdd (dOp gMulA (dApp gLst (dCons (dApp gLst (dCons (dCst (.bool true)) (dCons (dCst (.bool true)) (dCons (dCst (.bool false)) (dCons (dCst (.bool false)) (dCons (dCst (.bool false)) (dCons (dCst (.bool false)) dNil))))))) dNil)) (dCst (.int (13)))) (dOp gMulA (dApp gLst (dCons (dApp gLst (dCons (dCst (.bool false)) (dCons (dCst (.bool false)) (dCons (dCst (.bool true)) (dCons (dCst (.bool false)) (dCons (dCst (.bool false)) (dCons (dCst (.bool true)) dNil))))))) dNil)) (dCst (.int (4)))))
/- line 230 -/
def s__law_errors_right_1 : Sn := sSet 2 (dOp gAdd (dOp gAdd (dVar 2) (dApp gLst (dCons (dApp gLst (dCons (dCst (.bool false)) (dCons (dCst (.bool false)) (dCons (dCst (.bool false)) (dCons (dCst (.bool true)) (dCons (dCst (.bool false)) (dCons (dCst (.bool true)) dNil))))))) dNil))) (dOp gMulA (dApp gLst (dCons (dApp gLst (dCons (dCst (.bool false)) (dCons (dCst (.bool false)) (dCons (dCst (.bool false)) (dCons (dCst (.bool false)) (dCons (dCst (.bool true)) (dCons (dCst (.bool false)) dNil))))))) dNil)) (dCst (.int (3)))))
/- line 231 -/
def s__law_errors_right_2 : Sn := sSet 2 (dOp gAdd (dVar 2) (dApp gLst (dCons (dApp gLst (dCons (dCst (.bool false)) (dCons (dCst (.bool false)) (dCons (dCst (.bool false)) (dCons (dCst (.bool false)) (dCons (dCst (.bool false)) (dCons (dCst (.bool true)) dNil))))))) dNil)))
/- line 233 -/
def s__law_errors_right_3 : Sn := sSet 4 (dApp (gN 1 m__law_fields) (dCons (dVar 3) dNil))
/- line 236 -/
def s__law_errors_right_4 : Sn := sRet (dCst (.bool false))
/- line 235 -/
def s__law_errors_right_5 : Sn := sIf (tOrD (EL.tB (dOp gNeA (dApp (g1 gRepr) (dCons (dOp gIxA (dVar 4) (dVar 5)) dNil)) (dApp (g1 gRepr) (dCons (dSlice gSl (dApp gTup (dCons (dVar 0) (dCons (dVar 1) dNil))) eN (eS (dApp (g1 gLen) (dCons (dOp gIxA (dVar 4) (dVar 5)) dNil)))) dNil)))) (EL.tB (dOp gNeA (dApp (gN 1 m__law_bases) (dCons (dOp gIxA (dVar 3) (dVar 5)) dNil)) (dOp gIxA (dVar 2) (dVar 5))))) s__law_errors_right_4 sNext
/- line 238 -/
def s__law_errors_right_6 : Sn := sRet (dCst (.bool false))
/- line 237 -/
def s__law_errors_right_7 : Sn := sIf (EL.tB (dOp gNeA (dLc (iRange gEnum (dCons (dApp (gN 1 m__law_classes) (dCons (dOp gIxA (dVar 3) (dVar 5)) dNil)) dNil)) (gTp 2 (gCn (gNm 6) (gCn (gNm 7) gNl))) (EL.tB (dVar 7)) (dVar 6) [6, 7]) (dApp gLst (dCons (dVar 5) dNil)))) s__law_errors_right_6 sNext
/- line 234 -/
def s__law_errors_right_8 : Sn := sFor (iRange gRange1 (dCons (dCst (.int (22))) dNil)) (gNm 5) (sSeq s__law_errors_right_5
    s__law_errors_right_7)
/- line 232 -/
def s__law_errors_right_9 : Sn := sFor (iOf (dApp gTup (dCons (dApp (gN 2 m__law_made) (dCons (dVar 0) (dCons (dVar 1) dNil))) (dCons (dApp (gN 2 m__law_named) (dCons (dVar 0) (dCons (dVar 1) dNil))) dNil)))) (gNm 3) (sSeq s__law_errors_right_3
    s__law_errors_right_8)
/- line 239 -/
def s__law_errors_right_10 : Sn := sRet (dCst (.bool true))
def b__law_errors_right : Sn := (sSeq s__law_errors_right_0
    (sSeq s__law_errors_right_1
    (sSeq s__law_errors_right_2
    (sSeq s__law_errors_right_9
    s__law_errors_right_10))))
theorem S__law_errors_right : FnScope ["_law_one", "_law_two", "_law_rows", "_law_made_here", "_law_told", "_law_at", "_law_k", "_law_flag"] ["_law_one", "_law_two"] (defScope (topS 52)) := ⟨rfl, rfl, rfl, by decide +kernel, rfl, by decide +kernel, by decide +kernel⟩
theorem B__law_errors_right (M : Md P K w mg) : Binds K M.d__law_errors_right ["_law_one", "_law_two"] [] := M.F__law_errors_right.binds fun _ _ _ _ _ _ us hl => match us, hl with | [_, _], _ => rfl
def m__law_errors_right : List PyData → Res PyData := runM b__law_errors_right 8
theorem ok__law_errors_right (M : Md P K w mg) {k : Nat} : FnG P w K mg base (k + 4) M.a__law_errors_right M.d__law_errors_right ["_law_one", "_law_two"] (spM m__law_errors_right 2 K) :=
  fn_pureG (k := k + 3) M.F__law_errors_right S__law_errors_right (fun cdv A outer s H E hgd hr => (dss_cons (ds_set 2 (de_op op_addD gAdd_ok (de_op op_mulA gMulA_ok (de_lst (da_cons (de_lst (da_cons de_bl (da_cons de_bl (da_cons de_bl (da_cons de_bl (da_cons de_bl (da_cons de_bl da_nil))))))) da_nil)) de_int) (de_op op_mulA gMulA_ok (de_lst (da_cons (de_lst (da_cons de_bl (da_cons de_bl (da_cons de_bl (da_cons de_bl (da_cons de_bl (da_cons de_bl da_nil))))))) da_nil)) de_int)) S__law_errors_right.nd)
    (dss_cons (ds_set 2 (de_op op_addD gAdd_ok (de_op op_addD gAdd_ok (de_var 2) (de_lst (da_cons (de_lst (da_cons de_bl (da_cons de_bl (da_cons de_bl (da_cons de_bl (da_cons de_bl (da_cons de_bl da_nil))))))) da_nil))) (de_op op_mulA gMulA_ok (de_lst (da_cons (de_lst (da_cons de_bl (da_cons de_bl (da_cons de_bl (da_cons de_bl (da_cons de_bl (da_cons de_bl da_nil))))))) da_nil)) de_int)) S__law_errors_right.nd)
    (dss_cons (ds_set 2 (de_op op_addD gAdd_ok (de_var 2) (de_lst (da_cons (de_lst (da_cons de_bl (da_cons de_bl (da_cons de_bl (da_cons de_bl (da_cons de_bl (da_cons de_bl da_nil))))))) da_nil))) S__law_errors_right.nd)
    (dss_cons (ds_for (vs := [3]) PassesOwn.never rfl (di_of (de_tup (da_cons (de_call (ok__law_made M (k := k)) (hr.mono (by omega)) (by rfl) M.g__law_made M.F__law_made.kp (B__law_made M) pass0 (da_cons (de_var 0) (da_cons (de_var 1) da_nil))) (da_cons (de_call (ok__law_named M (k := k)) (hr.mono (by omega)) (by rfl) M.g__law_named M.F__law_named.kp (B__law_named M) pass0 (da_cons (de_var 0) (da_cons (de_var 1) da_nil))) da_nil)))) (dg_name 3 S__law_errors_right.nd) (dss_cons (ds_set 4 (de_call (ok__law_fields M (k := k + 2)) (hr.mono (by omega)) (by rfl) M.g__law_fields M.F__law_fields.kp (B__law_fields M) pass0 (da_cons (de_var 3) da_nil)) S__law_errors_right.nd)
    (dss_one (ds_for (vs := [5]) PassesOwn.never rfl (di_range1 (by rfl) M.n_range (da_cons de_int da_nil)) (dg_name 5 S__law_errors_right.nd) (dss_cons (ds_if (dt_w (dw_or (dt_cmp (op_neA (h64 hr)) gNeA_ok (de_callB (call_reprR hgd (h66 hr)) gRepr_ok (by rfl) M.n_repr boot_repr (da_cons (de_ixA (h1 hr) (de_var 4) (de_var 5)) da_nil)) (de_callB (call_reprR hgd (h66 hr)) gRepr_ok (by rfl) M.n_repr boot_repr (da_cons (de_slice sl_D gSl_ok (de_tup (da_cons (de_var 0) (da_cons (de_var 1) da_nil))) do_none (do_some (de_callB call_len gLen_ok (by rfl) M.n_len boot_len (da_cons (de_ixA (h1 hr) (de_var 4) (de_var 5)) da_nil)))) da_nil)) (nomark _)) (dw_or1 (dt_cmp (op_neA (h64 hr)) gNeA_ok (de_call (ok__law_bases M (k := k + 2)) (hr.mono (by omega)) (by rfl) M.g__law_bases M.F__law_bases.kp (B__law_bases M) pass0 (da_cons (de_ixA (h1 hr) (de_var 3) (de_var 5)) da_nil)) (de_ixA (h1 hr) (de_var 2) (de_var 5)) (nomark _))))) (dss_one (ds_ret de_bl)) dss_nil)
    (dss_one (ds_if (dt_cmp (op_neA (h64 hr)) gNeA_ok (de_new (df_lc [("_law_k", 6), ("_law_flag", 7)] rfl S__law_errors_right.nd (di_enum (by rfl) M.n_enumerate (da_cons (de_call (ok__law_classes M (k := k + 2)) (hr.mono (by omega)) (by rfl) M.g__law_classes M.F__law_classes.kp (B__law_classes M) pass0 (da_cons (de_ixA (h1 hr) (de_var 3) (de_var 5)) da_nil)) da_nil)) (blkOk_by (by rfl)) (fun _ _ _ _ _ => (dg_tup rfl (dgs_cons (dg_name 6 S__law_errors_right.nd) (dgs_cons (dg_name 7 S__law_errors_right.nd) dgs_nil)))) (fun _ _ _ _ _ => (dts_one (dt_val (de_var 7)))) (fun _ _ _ _ _ => (de_var 6)))) (de_lst (da_cons (de_var 5) da_nil)) (nomark _)) (dss_one (ds_ret de_bl)) dss_nil)))))))
    (dss_one (ds_ret de_bl)))))))
/-! ### law -/
/- line 242 -/
def s_law_0 : Sn := sSet 2 (dLc (iRange gRange1 (dCons (dCst (.int (60))) dNil)) (gNm 4) tYesD (dCallP m__law_value 1 1 dNil) [4])
/- line 243 -/
def s_law_1 : Sn := sSet 2 (dOp gAdd (dVar 2) (dApp gLst (dCons (dCst (.str "a")) (dCons (dCst (.str "abcdefgh")) (dCons (dCst (.str "abcdefgh+")) (dCons (dCst (.str "abcdefgh*")) (dCons (dCst (.str "z+")) (dCons (dCst (.str "z*")) (dCons (dCst (.str "abcdefghi")) (dCons (dCst (.str "abcdefghi+")) (dCons (dCst (.str "+")) (dCons (dCst (.str "*")) (dCons (dCst (.str "a+*")) dNil)))))))))))))
/- line 245 -/
def s_law_2 : Sn := sSet 5 (dApp (g1 gRepr) (dCons (dVar 3) dNil))
/- line 247 -/
def s_law_3 : Sn := sRet (dCst (.bool false))
/- line 246 -/
def s_law_4 : Sn := sIf (tOrD (tNotD (EL.tB (dApp (gN 1 m__law_told_right) (dCons (dVar 3) dNil)))) (EL.tB (dOp gNeA (dApp (g1 gRepr) (dCons (dVar 3) dNil)) (dVar 5)))) s_law_3 sNext
/- line 249 -/
def s_law_5 : Sn := sRet (dCst (.bool false))
/- line 248 -/
def s_law_6 : Sn := sIf (tAndD (EL.tB (dOp gNotN (dApp (gN 1 m__law_body) (dCons (dVar 3) dNil)) (dCst .none))) (tNotD (EL.tB (dApp (gN 1 m__law_items_right) (dCons (dVar 3) dNil))))) s_law_5 sNext
/- line 244 -/
def s_law_7 : Sn := sFor (iOf (dOp gAdd (dVar 2) (dApp gLst (dCons (dCst (.str "own")) (dCons (dCst (.str "light")) (dCons (dCst (.str "a*+")) (dCons (dCst (.str "a++")) (dCons (dCst (.str "")) (dCons (dCst .none) dNil))))))))) (gNm 3) (sSeq s_law_2
    (sSeq s_law_4
    s_law_6))
/- line 252 -/
def s_law_8 : Sn := sRet (dCst (.bool false))
/- line 251 -/
def s_law_9 : Sn := sIf (tNotD (EL.tB (dApp (gN 2 m__law_errors_right) (dCons (dCallP m__law_odd 1 1 dNil) (dCons (dCallP m__law_odd 1 1 dNil) dNil))))) s_law_8 sNext
/- line 250 -/
def s_law_10 : Sn := sFor (iRange gRange1 (dCons (dCst (.int (3))) dNil)) (gNm 4) s_law_9
/- line 253 -/
def s_law_11 : Sn := sRet (dCst (.bool true))
def b_law : Sn := (sSeq s_law_0
    (sSeq s_law_1
    (sSeq s_law_7
    (sSeq s_law_10
    s_law_11))))
theorem S_law : FnScope ["_law_script", "_law_pen_here", "_law_some", "_law_thing", "_law_turn", "_law_kept"] ["_law_script"] (defScope (topS 53)) := ⟨rfl, rfl, rfl, by decide +kernel, rfl, by decide +kernel, by decide +kernel⟩
theorem B_law (M : Md P K w mg) : Binds K M.d_law ["_law_script"] [] := M.F_law.binds fun _ _ _ _ _ _ us hl => match us, hl with | [_], _ => rfl
theorem ok_law (M : Md P K w mg) {k : Nat} : FnG P w K mg base (k + 5) M.a_law M.d_law ["_law_script"] (spLaw b_law 6 K) :=
  fn_law (k := k + 4) M.F_law S_law (by decide) rfl (fun cdv A outer s H E hgd hr => ⟨_, ps_set (i := 1) S_law.nd rfl (by first | exact Or.inl rfl | exact Or.inr rfl) (pe_call (ok__law_pen M (k := k + 3)) (hr.mono (by omega)) (by rfl) M.g__law_pen M.F__law_pen.kp (B__law_pen M) .nil pass0 (pa_cons (pv 0) pa_nil))⟩)
    (fun cdv A outer s H E hgd hr => (dss_cons (ds_ofS (ps_lc 2 [("_law_turn", 4)] rfl S_law.nd (di_range1 (by rfl) M.n_range (da_cons de_int da_nil)) (blkOk_by (by rfl)) (fun _ _ _ _ _ => (dg_name 4 S_law.nd)) (fun _ _ _ _ _ => dts_nil) (fun _ _ _ _ _ => (de_callP 1 (ok__law_value M (k := k)) (hr.mono (by omega)) (by rfl) M.g__law_value M.F__law_value.kp (B__law_value M) pass0 da_nil)) (by rfl)))
    (dss_cons (ds_set 2 (de_op op_addD gAdd_ok (de_var 2) (de_lst (da_cons de_str (da_cons de_str (da_cons de_str (da_cons de_str (da_cons de_str (da_cons de_str (da_cons de_str (da_cons de_str (da_cons de_str (da_cons de_str (da_cons de_str da_nil))))))))))))) S_law.nd)
    (dss_cons (ds_for (vs := [3]) PassesOwn.never rfl (di_of (de_op op_addD gAdd_ok (de_var 2) (de_lst (da_cons de_str (da_cons de_str (da_cons de_str (da_cons de_str (da_cons de_str (da_cons de_non da_nil))))))))) (dg_name 3 S_law.nd) (dss_cons (ds_set 5 (de_callB (call_reprR hgd (h66 hr)) gRepr_ok (by rfl) M.n_repr boot_repr (da_cons (de_var 3) da_nil)) S_law.nd)
    (dss_cons (ds_if (dt_w (dw_or (dt_not (dt_val (de_callG (ok__law_told_right M (k := k)) hgd (hr.mono (by omega)) (by rfl) M.g__law_told_right M.F__law_told_right.kp (B__law_told_right M) (da_cons (de_var 3) da_nil)))) (dw_or1 (dt_cmp (op_neA (h64 hr)) gNeA_ok (de_callB (call_reprR hgd (h66 hr)) gRepr_ok (by rfl) M.n_repr boot_repr (da_cons (de_var 3) da_nil)) (de_var 5) (nomark _))))) (dss_one (ds_ret de_bl)) dss_nil)
    (dss_one (ds_if (dt_w (dw_and (dt_cmp op_notN gNotN_ok (de_call (ok__law_body M (k := k + 3)) (hr.mono (by omega)) (by rfl) M.g__law_body M.F__law_body.kp (B__law_body M) pass0 (da_cons (de_var 3) da_nil)) de_non (nomark _)) (dw_and1 (dt_not (dt_val (de_callG (ok__law_items_right M (k := k + 2)) hgd (hr.mono (by omega)) (by rfl) M.g__law_items_right M.F__law_items_right.kp (B__law_items_right M) (da_cons (de_var 3) da_nil))))))) (dss_one (ds_ret de_bl)) dss_nil)))))
    (dss_cons (ds_for (vs := [4]) PassesOwn.never rfl (di_range1 (by rfl) M.n_range (da_cons de_int da_nil)) (dg_name 4 S_law.nd) (dss_one (ds_if (dt_not (dt_val (de_callG (ok__law_errors_right M (k := k)) hgd (hr.mono (by omega)) (by rfl) M.g__law_errors_right M.F__law_errors_right.kp (B__law_errors_right M) (da_cons (de_callP 1 (ok__law_odd M (k := k + 1)) (hr.mono (by omega)) (by rfl) M.g__law_odd M.F__law_odd.kp (B__law_odd M) pass0 da_nil) (da_cons (de_callP 1 (ok__law_odd M (k := k + 1)) (hr.mono (by omega)) (by rfl) M.g__law_odd M.F__law_odd.kp (B__law_odd M) pass0 da_nil) da_nil))))) (dss_one (ds_ret de_bl)) dss_nil)))
    (dss_one (ds_ret de_bl)))))))
end
end EL

set_option maxHeartbeats 2000000
/-! N1a: the exceptions made, their fields and classes (printed by mk1a.py). -/
namespace EL
open PySem PySem.Spec PyProof.Rows L2 NP
def kI (k : Nat) : PyData := .int ((k : Nat) : Int)
def exL (x y : PyData) : List PyData := [excOf "InvalidNet" [(.str "index", y), (.str "word", x)], excOf "InvalidRoute" [(.str "value", x)], excOf "TooFar" [(.str "length", x)], excOf "InvalidBand" [(.str "value", x)], excOf "InvalidLayout" [(.str "item", y), (.str "word", x)], excOf "InvalidWish" [(.str "word", x)], excOf "NotAllowed" [(.str "word", y), (.str "index", x)], excOf "Turned" [(.str "upper", y), (.str "lower", x)], excOf "Unlike" [(.str "item", x)], excOf "Circular" [(.str "ring", x)], excOf "Barred" [(.str "certificate", x)], excOf "ParseError" [(.str "word", y), (.str "line", x)], excOf "UnknownCommand" [(.str "command", x)], excOf "NoItem" [(.str "item", x)], excOf "NoStation" [(.str "name", x)], excOf "NoDuct" [(.str "name", x)], excOf "NoName" [(.str "name", x)], excOf "NoFibre" [(.str "index", x)], excOf "TooMany" [(.str "limit", x)], excOf "TooWide" [(.str "limit", x)], excOf "TooNarrow" [(.str "needed", x)], excOf "NothingToUndo" [(.str "count", x)]]
def fldL (x y : PyData) : List PyData := [.tuple [x, y], .tuple [x], .tuple [x], .tuple [x], .tuple [x, y], .tuple [x], .tuple [x, y], .tuple [x, y], .tuple [x], .tuple [x], .tuple [x], .tuple [x, y], .tuple [x], .tuple [x], .tuple [x], .tuple [x], .tuple [x], .tuple [x], .tuple [x], .tuple [x], .tuple [x], .tuple [x]]
theorem made_go (x y : PyData) : m__law_made [x, y] = .ok (.list (exL x y)) := by kernel_rfl
theorem named_go (x y : PyData) : m__law_named [x, y] = .ok (.list (exL x y)) := by kernel_rfl
theorem fields_go (x y : PyData) : m__law_fields [.list (exL x y)] = .ok (.list (fldL x y)) := by kernel_rfl
def bT (b : Bool) : PyData := .bool b
def row1 : PyData := .list [.bool true, .bool true, .bool false, .bool false, .bool false, .bool false]
def row2 : PyData := .list [.bool false, .bool false, .bool true, .bool false, .bool false, .bool true]
def row3 : PyData := .list [.bool false, .bool false, .bool false, .bool true, .bool false, .bool true]
def row4 : PyData := .list [.bool false, .bool false, .bool false, .bool false, .bool true, .bool false]
def row5 : PyData := .list [.bool false, .bool false, .bool false, .bool false, .bool false, .bool true]
def rows22 : PyData := .list (List.replicate 13 row1 ++ List.replicate 4 row2 ++ [row3] ++ List.replicate 3 row4 ++ [row5])
abbrev eE (x y : PyData) (a3 a4 a5 : Sl) : En := [.sh x, .sh y, .sh rows22, a3, a4, a5, .no, .no]
theorem rows_go (x y : PyData) : ∃ e1 e2, s__law_errors_right_0 [.sh x, .sh y, .no, .no, .no, .no, .no, .no] = .ok (.nx, e1) ∧ s__law_errors_right_1 e1 = .ok (.nx, e2) ∧ s__law_errors_right_2 e2 = .ok (.nx, eE x y .no .no .no) := ⟨_, _, rfl, rfl, by kernel_rfl⟩
abbrev iE (x y : PyData) (at_ : Nat) : En := eE x y (.sh (.list (exL x y))) (.sh (.list (fldL x y))) (.sh (kI at_))
structure AtOk (x y : PyData) (k : Nat) : Prop where
  d : ∃ d, (d = .tuple [x] ∨ d = .tuple [x, y]) ∧ dOp gIxA (dVar 4) (dVar 5) (iE x y k) = .ok (d, iE x y k) ∧ dSlice gSl (dApp gTup (dCons (dVar 0) (dCons (dVar 1) dNil))) eN (eS (dApp (g1 gLen) (dCons (dOp gIxA (dVar 4) (dVar 5)) dNil))) (iE x y k) = .ok (d, iE x y k)
  b : (EL.tB (dOp gNeA (dApp (gN 1 m__law_bases) (dCons (dOp gIxA (dVar 3) (dVar 5)) dNil)) (dOp gIxA (dVar 2) (dVar 5)))) (iE x y k) = .ok (false, iE x y k)
  c : s__law_errors_right_7 (iE x y k) = .ok (.nx, iE x y k)
theorem at_0 (x y : PyData) : AtOk x y 0 := ⟨⟨_, .inr rfl, by kernel_rfl, by kernel_rfl⟩, by kernel_rfl, by kernel_rfl⟩
theorem at_1 (x y : PyData) : AtOk x y 1 := ⟨⟨_, .inl rfl, by kernel_rfl, by kernel_rfl⟩, by kernel_rfl, by kernel_rfl⟩
theorem at_2 (x y : PyData) : AtOk x y 2 := ⟨⟨_, .inl rfl, by kernel_rfl, by kernel_rfl⟩, by kernel_rfl, by kernel_rfl⟩
theorem at_3 (x y : PyData) : AtOk x y 3 := ⟨⟨_, .inl rfl, by kernel_rfl, by kernel_rfl⟩, by kernel_rfl, by kernel_rfl⟩
theorem at_4 (x y : PyData) : AtOk x y 4 := ⟨⟨_, .inr rfl, by kernel_rfl, by kernel_rfl⟩, by kernel_rfl, by kernel_rfl⟩
theorem at_5 (x y : PyData) : AtOk x y 5 := ⟨⟨_, .inl rfl, by kernel_rfl, by kernel_rfl⟩, by kernel_rfl, by kernel_rfl⟩
theorem at_6 (x y : PyData) : AtOk x y 6 := ⟨⟨_, .inr rfl, by kernel_rfl, by kernel_rfl⟩, by kernel_rfl, by kernel_rfl⟩
theorem at_7 (x y : PyData) : AtOk x y 7 := ⟨⟨_, .inr rfl, by kernel_rfl, by kernel_rfl⟩, by kernel_rfl, by kernel_rfl⟩
theorem at_8 (x y : PyData) : AtOk x y 8 := ⟨⟨_, .inl rfl, by kernel_rfl, by kernel_rfl⟩, by kernel_rfl, by kernel_rfl⟩
theorem at_9 (x y : PyData) : AtOk x y 9 := ⟨⟨_, .inl rfl, by kernel_rfl, by kernel_rfl⟩, by kernel_rfl, by kernel_rfl⟩
theorem at_10 (x y : PyData) : AtOk x y 10 := ⟨⟨_, .inl rfl, by kernel_rfl, by kernel_rfl⟩, by kernel_rfl, by kernel_rfl⟩
theorem at_11 (x y : PyData) : AtOk x y 11 := ⟨⟨_, .inr rfl, by kernel_rfl, by kernel_rfl⟩, by kernel_rfl, by kernel_rfl⟩
theorem at_12 (x y : PyData) : AtOk x y 12 := ⟨⟨_, .inl rfl, by kernel_rfl, by kernel_rfl⟩, by kernel_rfl, by kernel_rfl⟩
theorem at_13 (x y : PyData) : AtOk x y 13 := ⟨⟨_, .inl rfl, by kernel_rfl, by kernel_rfl⟩, by kernel_rfl, by kernel_rfl⟩
theorem at_14 (x y : PyData) : AtOk x y 14 := ⟨⟨_, .inl rfl, by kernel_rfl, by kernel_rfl⟩, by kernel_rfl, by kernel_rfl⟩
theorem at_15 (x y : PyData) : AtOk x y 15 := ⟨⟨_, .inl rfl, by kernel_rfl, by kernel_rfl⟩, by kernel_rfl, by kernel_rfl⟩
theorem at_16 (x y : PyData) : AtOk x y 16 := ⟨⟨_, .inl rfl, by kernel_rfl, by kernel_rfl⟩, by kernel_rfl, by kernel_rfl⟩
theorem at_17 (x y : PyData) : AtOk x y 17 := ⟨⟨_, .inl rfl, by kernel_rfl, by kernel_rfl⟩, by kernel_rfl, by kernel_rfl⟩
theorem at_18 (x y : PyData) : AtOk x y 18 := ⟨⟨_, .inl rfl, by kernel_rfl, by kernel_rfl⟩, by kernel_rfl, by kernel_rfl⟩
theorem at_19 (x y : PyData) : AtOk x y 19 := ⟨⟨_, .inl rfl, by kernel_rfl, by kernel_rfl⟩, by kernel_rfl, by kernel_rfl⟩
theorem at_20 (x y : PyData) : AtOk x y 20 := ⟨⟨_, .inl rfl, by kernel_rfl, by kernel_rfl⟩, by kernel_rfl, by kernel_rfl⟩
theorem at_21 (x y : PyData) : AtOk x y 21 := ⟨⟨_, .inl rfl, by kernel_rfl, by kernel_rfl⟩, by kernel_rfl, by kernel_rfl⟩
theorem at_all (x y : PyData) : ∀ k, k < 22 → AtOk x y k
  | 0, _ => at_0 x y
  | 1, _ => at_1 x y
  | 2, _ => at_2 x y
  | 3, _ => at_3 x y
  | 4, _ => at_4 x y
  | 5, _ => at_5 x y
  | 6, _ => at_6 x y
  | 7, _ => at_7 x y
  | 8, _ => at_8 x y
  | 9, _ => at_9 x y
  | 10, _ => at_10 x y
  | 11, _ => at_11 x y
  | 12, _ => at_12 x y
  | 13, _ => at_13 x y
  | 14, _ => at_14 x y
  | 15, _ => at_15 x y
  | 16, _ => at_16 x y
  | 17, _ => at_17 x y
  | 18, _ => at_18 x y
  | 19, _ => at_19 x y
  | 20, _ => at_20 x y
  | 21, _ => at_21 x y
  | k + 22, h => absurd h (by omega)
end EL

set_option maxHeartbeats 2000000
/-! N1b: names and items told by the program and by the law. -/
namespace EL
open PySem PySem.Spec PyProof.Rows L2 NP
open PySem PySem.Spec PyProof.Rows L2 NP
theorem is_name_str (s : Str) : m_is_name [.str s] = .ok (.bool (nameB s)) := by
  let en : En := [.sh (.str s), .no]
  let k := decide ((1 : Int) ≤ (s.length : Nat)) && decide (((s.length : Nat) : Int) ≤ 8)
  have ch : dChain gLe gLe (dCst (.int (1))) (dApp (g1 gLen) (dCons (dVar 0) dNil)) (dCst (.int (8))) en = .ok (.bool k, en) := chain_go (x := .int 1) (y := .int (s.length : Nat)) (z := .int 8) rfl rfl rfl rfl rfl
  have t : (tOrD (tNotD (EL.tB (dUn (gIsi .str) (dVar 0)))) (tNotD (EL.tB (dChain gLe gLe (dCst (.int (1))) (dApp (g1 gLen) (dCons (dVar 0) dNil)) (dCst (.int (8))))))) en = .ok (!k, en) := g_or (k := false) rfl (fun _ => g_not (g_tB ch)) (fun q => nomatch q)
  have l : dLc (iOf (dVar 0)) (gNm 1) tYesD (dOp gInA (dVar 1) (dCst (.str ABC))) [1] en = .ok (.list (s.cps.toList.map fun c => .bool (decide (c ∈ ABC.cps.toList))), en) := g_lcM (en := en) (T := s.cps.toList) (A := chS) (g_of (x := .str s) rfl (parts_s s)) (fun c _ => g_op (x := chS c) (y := .str ABC) rfl rfl (inA_ch c _))
  have r : s_is_name_2 en = .ok (.rt (.bool (chB ABC s)), en) := g_ret (g_app1 l (gAll_map _ _))
  show m_is_name [.str s] = .ok (.bool (k && chB ABC s))
  cases hk : k with
  | true => rw [Bool.true_and]; exact g_runM (e1 := en) (g_seq (g_if (k := false) (t.trans (by rw [hk]; rfl)) (fun z => nomatch z) (fun _ => rfl)) r)
  | false => rw [Bool.false_and]; exact g_runM (e1 := en) (g_seqR (g_if (k := true) (t.trans (by rw [hk]; rfl)) (fun _ => rfl) (fun z => nomatch z)))
theorem nmD_not {d : PyData} (h : isiB .str d = false) : nmD d = false := by
  cases d <;> first | rfl | (simp [isiB, tagOf, isiT] at h)
theorem is_name_go {d : PyData} (h : instP d = false) : m_is_name [d] = .ok (.bool (nmD d)) := by
  cases q : isiB .str d with
  | true =>
    obtain ⟨s, rfl⟩ := isStr.mp q
    exact is_name_str s
  | false =>
    rw [nmD_not q]
    have z : dUn (gIsi .str) (dVar 0) [.sh d, .no] = .ok (.bool false, [.sh d, .no]) := g_un (x := d) rfl ((isi_go .str h).trans (by rw [q]))
    exact g_runM (e1 := [.sh d, .no]) (g_seqR (g_ift (g_or (k := true) (g_not (g_tB z)) (fun z => nomatch z) (fun _ => rfl)) rfl))
abbrev mk (l : List Nat) : Str := ⟨l.toArray⟩
theorem mk_l (l : List Nat) : (mk l).cps.toList = l := by simp
theorem mk_len (l : List Nat) : (mk l).length = l.length := by
  show l.toArray.size = _
  simp
theorem mk_inj {a b : List Nat} (h : mk a = mk b) : a = b := by
  have := congrArg (fun s : Str => s.cps.toList) h
  simpa using this
theorem mk_add (a b : List Nat) : mk a ++ mk b = mk (a ++ b) := by
  show (⟨a.toArray ++ b.toArray⟩ : Str) = ⟨(a ++ b).toArray⟩
  simp
theorem mk_of (s : Str) : ∃ l, s = mk l := ⟨s.cps.toList, by cases s; simp [mk]⟩
theorem plus_mk : ("+" : Str) = mk [43] := by decide +kernel
theorem star_mk : ("*" : Str) = mk [42] := by decide +kernel
theorem empty_mk : ("" : Str) = mk [] := by decide +kernel
theorem chS_mk (c : Nat) : chS c = .str (mk [c]) := rfl
theorem sIx_m1 (n d : Nat) : HT.sIx (n + 1) d (some (-1)) = n := by
  show (if (-1 : Int) < 0 then ((-1 : Int) + ((n + 1 : Nat) : Int)).toNat else min (-1 : Int).toNat (n + 1)) = n
  rw [if_pos (by decide)]
  omega
theorem len1 (p : List Nat) (c : Nat) : (p ++ [c]).length = p.length + 1 := by rw [List.length_append]; rfl
theorem sl_last (p : List Nat) (c : Nat) : gSl (.str (mk (p ++ [c]))) (some (-1)) none = .ok (.str (mk [c])) := by
  show Res.ok (PyData.str (cutS (mk (p ++ [c])) (some (-1)) none)) = _
  have e : cutS (mk (p ++ [c])) (some (-1)) none = mk [c] := by
    unfold cutS
    rw [mk_l, mk_len, HT.sIx_none, len1, sIx_m1, List.drop_left, show p.length + 1 - p.length = 1 by omega]
    rfl
  rw [e]
theorem sl_init (p : List Nat) (c : Nat) : gSl (.str (mk (p ++ [c]))) none (some (-1)) = .ok (.str (mk p)) := by
  show Res.ok (PyData.str (cutS (mk (p ++ [c])) none (some (-1)))) = _
  have e : cutS (mk (p ++ [c])) none (some (-1)) = mk p := by
    unfold cutS
    rw [mk_l, mk_len, HT.sIx_none, len1, sIx_m1, List.drop_zero, Nat.sub_zero, List.take_left]
  rw [e]
theorem sl_to (l : List Nat) (k : Nat) : gSl (.str (mk l)) none (some ((k : Nat) : Int)) = .ok (.str (mk (l.take k))) := by
  show Res.ok (PyData.str (cutS (mk l) none (some ((k : Nat) : Int)))) = _
  have e : cutS (mk l) none (some ((k : Nat) : Int)) = mk (l.take k) := by
    unfold cutS
    rw [mk_l, mk_len, HT.sIx_none, HT.sIx_nat, List.drop_zero, Nat.sub_zero]
    by_cases h : k ≤ l.length
    · rw [Nat.min_eq_left h]
    · rw [Nat.min_eq_right (by omega), List.take_length, List.take_of_length_le (by omega)]
  rw [e]
def sgB (c : Nat) : Bool := decide (c = 43) || decide (c = 42)
theorem mk_dec (a b : List Nat) : decide (mk a = mk b) = decide (a = b) := decide_eq_decide.mpr ⟨mk_inj, fun h => by rw [h]⟩
theorem eq_plus (c : Nat) : gEqA (.str (mk [c])) (.str "+") = .ok (.bool (decide (c = 43))) := by
  rw [plus_mk]
  refine (show gEqA (.str (mk [c])) (.str (mk [43])) = .ok (.bool (decide (mk [c] = mk [43]))) from rfl).trans ?_
  rw [mk_dec]
  congr 2
  exact decide_eq_decide.mpr (by simp)
theorem eq_star (c : Nat) : gEqA (.str (mk [c])) (.str "*") = .ok (.bool (decide (c = 42))) := by
  rw [star_mk]
  refine (show gEqA (.str (mk [c])) (.str (mk [42])) = .ok (.bool (decide (mk [c] = mk [42]))) from rfl).trans ?_
  rw [mk_dec]
  congr 2
  exact decide_eq_decide.mpr (by simp)
theorem eqv_s (x y : Str) : PyData.eqv (.str x) (.str y) = decide (x = y) := by
  show (x == y) = _
  by_cases q : x = y
  · subst q; rw [decide_eq_true rfl]; exact beq_self_eq_true x
  · rw [decide_eq_false q]; exact beq_eq_false_iff_ne.mpr q
theorem in_sg (c : Nat) : gInA (.str (mk [c])) (.tuple [.str "+", .str "*"]) = .ok (.bool (sgB c)) := by
  refine (show gInA (.str (mk [c])) (.tuple [.str "+", .str "*"]) = gIn (.str (mk [c])) (.tuple [.str "+", .str "*"]) from rfl).trans ?_
  unfold gIn
  have e : inB (.str (mk [c])) (.tuple [.str "+", .str "*"]) = some (sgB c) := by
    show (if ((flatD (.str (mk [c])) && [PyData.str "+", .str "*"].all flatD) || (SeqAt.shaped (.str (mk [c])) && SeqAt.shaped (.tuple [.str "+", .str "*"]))) = true then some ([PyData.str "+", .str "*"].any fun z => PyData.eqv z (.str (mk [c]))) else none) = _
    have f : (flatD (.str (mk [c])) && [PyData.str "+", .str "*"].all flatD) = true := rfl
    rw [f, Bool.true_or, if_pos rfl]
    show some (PyData.eqv (.str "+") (.str (mk [c])) || (PyData.eqv (.str "*") (.str (mk [c])) || false)) = _
    rw [eqv_s, eqv_s, plus_mk, star_mk, mk_dec, mk_dec, Bool.or_false]
    unfold sgB
    congr 1
    rw [show decide ([43] = [c]) = decide (c = 43) from decide_eq_decide.mpr (by simp; exact ⟨Eq.symm, Eq.symm⟩), show decide ([42] = [c]) = decide (c = 42) from decide_eq_decide.mpr (by simp; exact ⟨Eq.symm, Eq.symm⟩)]
  rw [e]
abbrev okL (l : List Nat) : Bool := nameB (mk l)
theorem okL_eq (l : List Nat) : okL l = ((decide (1 ≤ l.length) && decide (l.length ≤ 8)) && l.all fun c => decide (c ∈ ABC.cps.toList)) := by
  unfold okL nameB chB
  rw [mk_l, mk_len]
  congr 1
  congr 1
  · exact decide_eq_decide.mpr (by omega)
  · exact decide_eq_decide.mpr (by omega)
theorem sg_abc {c : Nat} (h : sgB c = true) : decide (c ∈ ABC.cps.toList) = false := by
  unfold sgB at h
  rw [Bool.or_eq_true, decide_eq_true_eq, decide_eq_true_eq] at h
  rcases h with rfl | rfl <;> decide +kernel
theorem okL_sg {p : List Nat} {c : Nat} (h : sgB c = true) : okL (p ++ [c]) = false := by
  rw [okL_eq, List.all_append, List.all_cons, sg_abc h]
  simp
theorem okL_last {p : List Nat} {c : Nat} (h : okL (p ++ [c]) = true) : sgB c = false := by
  cases q : sgB c with
  | false => rfl
  | true => rw [okL_sg q] at h; cases h
theorem okL_nil : okL [] = false := by decide +kernel
/-! ### what the program tells of a text -/
theorem isiS (l : List Nat) {n : Nat} {en : En} (h : en[n]? = some (.sh (.str (mk l)))) : dUn (gIsi .str) (dVar n) en = .ok (.bool true, en) := g_un (x := .str (mk l)) (by unfold dVar; rw [h]) rfl
theorem twin_go (p : List Nat) (c : Nat) : m_is_twin [.str (mk (p ++ [c]))] = .ok (.bool (decide (c = 43) && okL p)) := by
  let e : En := [.sh (.str (mk (p ++ [c])))]
  have s1 : dSlice gSl (dVar 0) (eS (dUn gNeg (dCst (.int (1))))) eN e = .ok (.str (mk [c]), e) := g_slice (x := .str (mk (p ++ [c]))) (u := some (-1)) (v := none) (e1 := e) (e2 := e) (e3 := e) rfl rfl rfl (sl_last p c)
  have s2 : dSlice gSl (dVar 0) eN (eS (dUn gNeg (dCst (.int (1))))) e = .ok (.str (mk p), e) := g_slice (x := .str (mk (p ++ [c]))) (u := none) (v := some (-1)) (e1 := e) (e2 := e) (e3 := e) rfl rfl rfl (sl_init p c)
  exact g_runM (n := 1) (s := b_is_twin) (g_ret (dAnd_go (k := true) (isiS (p ++ [c]) rfl) (fun _ => dAnd_go (k := decide (c = 43)) (g_op s1 rfl (eq_plus c)) (fun q => by rw [q, Bool.true_and]; exact g_app (g_cons s2 g_nil) (g_gN rfl (is_name_str _))) (fun q => by rw [q, Bool.false_and])) (fun q => nomatch q)))
theorem reserve_go (p : List Nat) (c : Nat) : m_is_reserve [.str (mk (p ++ [c]))] = .ok (.bool (decide (c = 42) && okL p)) := by
  let e : En := [.sh (.str (mk (p ++ [c])))]
  have s1 : dSlice gSl (dVar 0) (eS (dUn gNeg (dCst (.int (1))))) eN e = .ok (.str (mk [c]), e) := g_slice (x := .str (mk (p ++ [c]))) (u := some (-1)) (v := none) (e1 := e) (e2 := e) (e3 := e) rfl rfl rfl (sl_last p c)
  have s2 : dSlice gSl (dVar 0) eN (eS (dUn gNeg (dCst (.int (1))))) e = .ok (.str (mk p), e) := g_slice (x := .str (mk (p ++ [c]))) (u := none) (v := some (-1)) (e1 := e) (e2 := e) (e3 := e) rfl rfl rfl (sl_init p c)
  exact g_runM (n := 1) (s := b_is_reserve) (g_ret (dAnd_go (k := true) (isiS (p ++ [c]) rfl) (fun _ => dAnd_go (k := decide (c = 42)) (g_op s1 rfl (eq_star c)) (fun q => by rw [q, Bool.true_and]; exact g_app (g_cons s2 g_nil) (g_gN rfl (is_name_str _))) (fun q => by rw [q, Bool.false_and])) (fun q => nomatch q)))
theorem light_go (l : List Nat) : m_is_light [.str (mk l)] = .ok (.bool (okL l)) := g_runM (n := 1) (s := b_is_light) (e1 := [.sh (.str (mk l))]) (g_ret (g_app (xs := [.str (mk l)]) rfl (g_gN rfl (is_name_str _))))
theorem dOr_2 {a b : Dn} {en : En} {k k2 : Bool} (ha : a en = .ok (.bool k, en)) (hb : b en = .ok (.bool k2, en)) : dOr a b en = .ok (.bool (k || k2), en) := by
  cases k with
  | true => exact bnd_go ha (by rw [Bool.true_or]; rfl)
  | false => exact bnd_go ha (by rw [Bool.false_or]; exact hb)
theorem item_go (p : List Nat) (c : Nat) : m_is_item [.str (mk (p ++ [c]))] = .ok (.bool (okL (p ++ [c]) || ((decide (c = 43) && okL p) || (decide (c = 42) && okL p)))) := by
  let e : En := [.sh (.str (mk (p ++ [c])))]
  have xs : dCons (dVar 0) dNil e = .ok ([.str (mk (p ++ [c]))], e) := rfl
  exact g_runM (n := 1) (s := b_is_item) (g_ret (dOr_2 (g_app xs (g_gN rfl (light_go _))) (dOr_2 (g_app xs (g_gN rfl (twin_go p c))) (g_app xs (g_gN rfl (reserve_go p c))))))
/-! ### what the law tells of it -/
def bdL (p : List Nat) (c : Nat) : List Nat := if sgB c = true then p else p ++ [c]
def sgL (c : Nat) : List Nat := if sgB c = true then [c] else []
theorem body_go (p : List Nat) (c : Nat) (hl : p.length ≤ 20) : m__law_body [.str (mk (p ++ [c]))] = .ok (if okL (bdL p c) = true then .tuple [.str (mk (bdL p c)), .str (mk (sgL c))] else .none) := by
  let s : PyData := .str (mk (p ++ [c]))
  let E : Sl → Sl → Sl → En := fun a b d => [.sh s, a, b, d, .no]
  let e0 := E .no .no .no
  have s1 : ∀ {a b d : Sl}, dSlice gSl (dVar 0) (eS (dUn gNeg (dCst (.int (1))))) eN (E a b d) = .ok (.str (mk [c]), E a b d) := fun {a b d} => g_slice (x := s) (u := some (-1)) (v := none) (e1 := E a b d) (e2 := E a b d) (e3 := E a b d) rfl rfl rfl (sl_last p c)
  have c1 : s__law_body_1 e0 = .ok (.nx, e0) := g_skip (k_not (k := true) (g_tB (isiS (p ++ [c]) rfl)) rfl)
  let e1 := E (.sh (.str (mk (sgL c)))) .no .no
  have t : EL.tB (dOp gInA (dSlice gSl (dVar 0) (eS (dUn gNeg (dCst (.int (1))))) eN) (dApp gTup (dCons (dCst (.str "+")) (dCons (dCst (.str "*")) dNil)))) e0 = .ok (sgB c, e0) := g_tB (g_op (y := .tuple [.str "+", .str "*"]) (e2 := e0) s1 rfl (in_sg c))
  have c2 : s__law_body_2 e0 = .ok (.nx, e1) := by
    refine k_set (i := 1) (e1 := e0) ?_ rfl
    cases q : sgB c with
    | true => exact g_difT t q (by unfold sgL; rw [q, if_pos rfl]; exact s1)
    | false => exact g_difF t q (by unfold sgL; rw [q]; exact (show dCst (.str "") e0 = .ok (.str "", e0) from rfl).trans (by rw [empty_mk]; rfl))
  let e2 := E (.sh (.str (mk (sgL c)))) (.sh (.str (mk (bdL p c)))) .no
  have l0 : dApp (g1 gLen) (dCons (dVar 0) dNil) e1 = .ok (.int (((p.length + 1 : Nat)) : Int), e1) := g_app1 (x := s) rfl (by show Res.ok (PyData.int (((mk (p ++ [c])).length : Nat) : Int)) = _; rw [mk_len, List.length_append]; rfl)
  have l1 : dApp (g1 gLen) (dCons (dVar 1) dNil) e1 = .ok (.int (((sgL c).length : Nat) : Int), e1) := g_app1 (x := .str (mk (sgL c))) rfl (by show Res.ok (PyData.int (((mk (sgL c)).length : Nat) : Int)) = _; rw [mk_len])
  have lb : (p ++ [c]).take (p.length + 1 - (sgL c).length) = bdL p c := by
    unfold bdL sgL
    split
    · rw [List.length_singleton, Nat.add_sub_cancel, List.take_left]
    · rw [List.length_nil, Nat.sub_zero]
      exact List.take_of_length_le (by rw [List.length_append]; exact Nat.le_refl _)
  have sl1 : (sgL c).length ≤ 1 := by
    unfold sgL
    split <;> simp
  have c3 : s__law_body_3 e1 = .ok (.nx, e2) := k_set (i := 2) (e1 := e1) (g_slice (x := s) (u := none) (v := some ((p.length + 1 - (sgL c).length : Nat) : Int)) (e1 := e1) (e2 := e1) (e3 := e1) rfl rfl (g_eS (g_op (x := .int (((p.length + 1 : Nat)) : Int)) (y := .int (((sgL c).length : Nat) : Int)) l0 l1 (by
    show Res.ok (PyData.int (((p.length + 1 : Nat) : Int) - (((sgL c).length : Nat) : Int))) = _
    congr 2
    omega))) ((sl_to _ _).trans (by rw [lb]))) rfl
  let st := (bdL p c).filter fun x => !decide (x ∈ ABC.cps.toList)
  let e3 := E (.sh (.str (mk (sgL c)))) (.sh (.str (mk (bdL p c)))) (.sh (.list (st.map chS)))
  have c4 : s__law_body_4 e2 = .ok (.nx, e3) := k_set (i := 3) (e1 := e2) (k_lcS (T := bdL p c) (A := chS) (B := chS) (p := fun x => !decide (x ∈ ABC.cps.toList)) (g_of (x := .str (mk (bdL p c))) rfl ((parts_s _).trans (by rw [mk_l]))) (fun x _ => g_tB (g_op (x := chS x) (y := .str ABC) (e1 := e2.set 4 (.sh (chS x))) (e2 := e2.set 4 (.sh (chS x))) rfl rfl rfl)) (fun x _ _ => rfl) rfl rfl) rfl
  have n3 : gNeA (.list (st.map chS)) (.list []) = .ok (.bool (!(bdL p c).all fun x => decide (x ∈ ABC.cps.toList))) := by
    rw [ne_nilA]
    congr 2
    show (!(st.map chS).isEmpty) = _
    congr 1
    rw [Bool.eq_iff_iff, List.isEmpty_iff, List.map_eq_nil_iff, List.filter_eq_nil_iff, List.all_eq_true]
    exact ⟨fun h x hx => by have := h x hx; simpa using this, fun h x hx => by have := h x hx; simpa using this⟩
  have q2 : gEqA (.str (mk (bdL p c))) (.str "") = .ok (.bool (decide ((bdL p c).length = 0))) := by
    rw [empty_mk]
    refine (show gEqA (.str (mk (bdL p c))) (.str (mk [])) = .ok (.bool (decide (mk (bdL p c) = mk []))) from rfl).trans ?_
    rw [mk_dec]
    congr 2
    exact decide_eq_decide.mpr List.length_eq_zero_iff.symm
  have l2 : dApp (g1 gLen) (dCons (dVar 2) dNil) e3 = .ok (.int (((bdL p c).length : Nat) : Int), e3) := g_app1 (x := .str (mk (bdL p c))) rfl (by show Res.ok (PyData.int (((mk (bdL p c)).length : Nat) : Int)) = _; rw [mk_len])
  have g8 : gGt (.int (((bdL p c).length : Nat) : Int)) (.int 8) = .ok (.bool (decide (8 < (bdL p c).length))) := by
    show Res.ok (PyData.bool (decide ((8 : Int) < (((bdL p c).length : Nat) : Int)))) = _
    congr 2
    exact decide_eq_decide.mpr (by omega)
  have T3 : (tOrD (EL.tB (dOp gNeA (dVar 3) (dApp gLst dNil))) (tOrD (EL.tB (dOp gEqA (dVar 2) (dCst (.str "")))) (EL.tB (dOp gGt (dApp (g1 gLen) (dCons (dVar 2) dNil)) (dCst (.int (8))))))) e3 = .ok (!okL (bdL p c), e3) := by
    have a1 : EL.tB (dOp gNeA (dVar 3) (dApp gLst dNil)) e3 = .ok (!(bdL p c).all fun x => decide (x ∈ ABC.cps.toList), e3) := g_tB (g_op (x := .list (st.map chS)) (y := .list []) (e1 := e3) (e2 := e3) rfl rfl n3)
    have a2 : EL.tB (dOp gEqA (dVar 2) (dCst (.str ""))) e3 = .ok (decide ((bdL p c).length = 0), e3) := g_tB (g_op (x := .str (mk (bdL p c))) (y := .str "") (e1 := e3) (e2 := e3) rfl rfl q2)
    have a3 : EL.tB (dOp gGt (dApp (g1 gLen) (dCons (dVar 2) dNil)) (dCst (.int (8)))) e3 = .ok (decide (8 < (bdL p c).length), e3) := g_tB (g_op l2 rfl g8)
    rw [okL_eq]
    cases z1 : (bdL p c).all fun x => decide (x ∈ ABC.cps.toList) with
    | false => rw [z1] at a1; rw [Bool.and_false]; exact k_orT a1
    | true =>
      rw [z1] at a1
      rw [Bool.and_true]
      refine k_orF a1 ?_
      by_cases z2 : (bdL p c).length = 0
      · rw [decide_eq_true z2] at a2
        rw [decide_eq_false (show ¬1 ≤ (bdL p c).length by omega), Bool.false_and]
        exact k_orT a2
      · rw [decide_eq_false z2] at a2
        refine k_orF a2 ?_
        rw [a3]
        congr 2
        rw [decide_eq_true (show 1 ≤ (bdL p c).length by omega), Bool.true_and]
        by_cases z3 : (bdL p c).length ≤ 8
        · rw [decide_eq_true z3, decide_eq_false (by omega)]; rfl
        · rw [decide_eq_false z3, decide_eq_true (by omega)]; rfl
  have c5 : s__law_body_5 e3 = .ok (.rt (if okL (bdL p c) = true then .tuple [.str (mk (bdL p c)), .str (mk (sgL c))] else .none), e3) := by
    refine g_ret ?_
    cases z : okL (bdL p c) with
    | true =>
      rw [if_pos rfl]
      exact g_difF T3 (by rw [z]; rfl) (g_app (xs := [.str (mk (bdL p c)), .str (mk (sgL c))]) (e1 := e3) rfl (gTup_ok (show 2 ≤ 1000000 by decide)))
    | false =>
      rw [if_neg (by decide)]
      exact g_difT T3 (by rw [z]; rfl) rfl
  exact g_runM (n := 5) (s := b__law_body) (g_seq c1 (g_seq c2 (g_seq c3 (g_seq c4 c5))))
end EL

set_option maxHeartbeats 2000000
/-! N1c: what is told of a text is right; items; errors. -/
namespace EL
open PySem PySem.Spec PyProof.Rows L2 NP
theorem pr_mk {l : List Nat} {n k : Nat} (h : ∀ c ∈ l, c < 128) (hn : l.length ≤ n) : Pr (.str (mk l)) n k := by
  refine ⟨rfl, rfl, Nat.zero_le _, ?_, ?_⟩
  · rw [PyData.leavesShort, mk_l, List.all_eq_true]
    exact fun c hc => decide_eq_true (Nat.lt_trans (h c hc) (by decide))
  · rw [PyData.bulk]
    show l.toArray.size ≤ n
    rw [List.size_toArray]
    exact hn
theorem pr_bool {b : Bool} {n k : Nat} : Pr (.bool b) n k := ⟨rfl, rfl, Nat.zero_le _, by cases b <;> rfl, Nat.zero_le _⟩
theorem eq_repr {d : PyData} {n k : Nat} (h : Pr d n k) (hk : k ≤ 64) (hn : n ≤ 14000) {a b : Dn} {en e1 e2 : En} (ha : a en = .ok (d, e1)) (hb : b e1 = .ok (d, e2)) :
    dOp gEqA (dApp (g1 gRepr) (dCons a dNil)) (dApp (g1 gRepr) (dCons b dNil)) en = .ok (.bool true, e2) := by
  have e := h.repr hk hn
  exact g_op (x := .str d.shown) (y := .str d.shown) (g_app1 ha e) (g_app1 hb e) ((show gEqA (.str d.shown) (.str d.shown) = .ok (.bool (decide (d.shown = d.shown))) from rfl).trans (by rw [decide_eq_true rfl]))
theorem sg43 : sgB 43 = true := rfl
theorem sg42 : sgB 42 = true := rfl
theorem k_name (p : List Nat) (c : Nat) : okL (p ++ [c]) = (okL (bdL p c) && !sgB c) := by
  unfold bdL
  cases q : sgB c with
  | true => rw [okL_sg q, Bool.not_true, Bool.and_false]
  | false => rw [if_neg (by decide), Bool.not_false, Bool.and_true]
theorem dec_sg {c : Nat} (h : sgB c = false) : decide (c = 43) = false ∧ decide (c = 42) = false := by
  unfold sgB at h
  rwa [Bool.or_eq_false_iff] at h
theorem k_twin (p : List Nat) (c : Nat) : (decide (c = 43) && okL p) = (okL (bdL p c) && decide (c = 43)) := by
  unfold bdL
  cases q : sgB c with
  | true => rw [if_pos rfl, Bool.and_comm]
  | false => rw [(dec_sg q).1, Bool.false_and, Bool.and_false]
theorem k_res (p : List Nat) (c : Nat) : (decide (c = 42) && okL p) = (okL (bdL p c) && decide (c = 42)) := by
  unfold bdL
  cases q : sgB c with
  | true => rw [if_pos rfl, Bool.and_comm]
  | false => rw [(dec_sg q).2, Bool.false_and, Bool.and_false]
theorem k_item (p : List Nat) (c : Nat) : (okL (p ++ [c]) || ((decide (c = 43) && okL p) || (decide (c = 42) && okL p))) = okL (bdL p c) := by
  rw [k_name, k_twin, k_res]
  cases q : sgB c with
  | true =>
    unfold sgB at q
    rw [← Bool.and_or_distrib_left, q]
    cases okL (bdL p c) <;> rfl
  | false =>
    rw [(dec_sg q).1, (dec_sg q).2]
    cases okL (bdL p c) <;> rfl
def fiveB (p : List Nat) (c : Nat) : List Bool := [okL (bdL p c) && !sgB c, okL (bdL p c), okL (bdL p c) && !sgB c, okL (bdL p c) && decide (c = 43), okL (bdL p c) && decide (c = 42)]
abbrev fiveD (p : List Nat) (c : Nat) : PyData := .list ((fiveB p c).map .bool)
theorem five_pr (p : List Nat) (c : Nat) : Pr (fiveD p c) 5 1 := Pr.lst (n := 0) (k := 0) (m := 5) (fun x hx => by
  obtain ⟨b, _, rfl⟩ := List.mem_map.mp hx
  exact pr_bool) (Nat.le_refl 5)
theorem sg_eq (c : Nat) : gEqA (.str (mk (sgL c))) (.str "") = .ok (.bool (!sgB c)) := by
  rw [empty_mk]
  refine (show gEqA (.str (mk (sgL c))) (.str (mk [])) = .ok (.bool (decide (mk (sgL c) = mk []))) from rfl).trans ?_
  rw [mk_dec]
  unfold sgL
  cases sgB c <;> rfl
theorem sg_eq1 (c : Nat) : gEqA (.str (mk (sgL c))) (.str "+") = .ok (.bool (decide (c = 43))) := by
  unfold sgL
  cases q : sgB c with
  | true => rw [if_pos rfl]; exact eq_plus c
  | false =>
    rw [(dec_sg q).1, plus_mk]
    refine (show gEqA (.str (mk [])) (.str (mk [43])) = .ok (.bool (decide (mk [] = mk [43]))) from rfl).trans ?_
    rw [mk_dec]
    rfl
theorem sg_eq2 (c : Nat) : gEqA (.str (mk (sgL c))) (.str "*") = .ok (.bool (decide (c = 42))) := by
  unfold sgL
  cases q : sgB c with
  | true => rw [if_pos rfl]; exact eq_star c
  | false =>
    rw [(dec_sg q).2, star_mk]
    refine (show gEqA (.str (mk [])) (.str (mk [42])) = .ok (.bool (decide (mk [] = mk [42]))) from rfl).trans ?_
    rw [mk_dec]
    rfl
theorem eqn0 : gEqA .none (.str "") = .ok (.bool false) := by kernel_rfl
theorem eqn1 : gEqA .none (.str "+") = .ok (.bool false) := by kernel_rfl
theorem eqn2 : gEqA .none (.str "*") = .ok (.bool false) := by kernel_rfl
theorem told_go (p : List Nat) (c : Nat) (hl : p.length ≤ 20) : m__law_told_right [.str (mk (p ++ [c]))] = .ok (.bool true) := by
  let s : PyData := .str (mk (p ++ [c]))
  let K := okL (bdL p c)
  let E : Sl → Sl → Sl → Sl → Sl → En := fun a b d e f => [.sh s, a, b, d, e, f]
  let e0 := E .no .no .no .no .no
  let B : PyData := if K = true then .tuple [.str (mk (bdL p c)), .str (mk (sgL c))] else .none
  let S : PyData := if K = true then .str (mk (sgL c)) else .none
  let e1 := E (.sh B) .no .no .no .no
  let e2 := E (.sh B) (.sh S) .no .no .no
  let e3 := E (.sh B) (.sh S) (.sh (fiveD p c)) .no .no
  have c0 : s__law_told_right_0 e0 = .ok (.nx, e1) := k_set (i := 1) (e1 := e0) (g_app (xs := [s]) (e1 := e0) rfl (g_gN rfl (body_go p c hl))) rfl
  have c1 : s__law_told_right_1 e1 = .ok (.nx, e2) := by
    refine k_set (i := 2) (e1 := e1) ?_ rfl
    show _ = Res.ok (S, e1)
    have t : EL.tB (dOp gIsN (dVar 1) (dCst .none)) e1 = .ok (!K, e1) := g_tB (g_op (x := B) (y := .none) (e1 := e1) (e2 := e1) rfl rfl (by
      show gIsN B .none = .ok (.bool (!K))
      simp only [B]
      cases K <;> rfl))
    cases q : K with
    | true =>
      have hS : S = .str (mk (sgL c)) := if_pos q
      have hB : B = .tuple [.str (mk (bdL p c)), .str (mk (sgL c))] := if_pos q
      rw [hS]
      exact g_difF t (by rw [q]; rfl) (g_op (x := B) (y := .int 1) (e1 := e1) (e2 := e1) rfl rfl (by rw [hB]; rfl))
    | false =>
      have hS : S = .none := if_neg (by rw [q]; decide)
      rw [hS]
      exact g_difT t (by rw [q]; rfl) rfl
  have v2 : dVar 2 e2 = .ok (S, e2) := rfl
  have c2 : s__law_told_right_2 e2 = .ok (.nx, e3) := by
    refine k_set (i := 3) (e1 := e2) (g_app (xs := (fiveB p c).map .bool) (e1 := e2) ?_ rfl) rfl
    cases q : K with
    | true =>
      have hS : S = .str (mk (sgL c)) := if_pos q
      rw [hS] at v2
      have f : (fiveB p c).map PyData.bool = [.bool (!sgB c), .bool true, .bool (!sgB c), .bool (decide (c = 43)), .bool (decide (c = 42))] := by
        unfold fiveB
        rw [show okL (bdL p c) = true from q]
        simp only [List.map_cons, List.map_nil, Bool.true_and]
      rw [f]
      exact g_cons (g_op v2 rfl (sg_eq c)) (g_cons (g_op v2 rfl rfl) (g_cons (g_op v2 rfl (sg_eq c)) (g_cons (g_op v2 rfl (sg_eq1 c)) (g_cons (g_op v2 rfl (sg_eq2 c)) g_nil))))
    | false =>
      have hS : S = .none := if_neg (by rw [q]; decide)
      rw [hS] at v2
      have f : (fiveB p c).map PyData.bool = [.bool false, .bool false, .bool false, .bool false, .bool false] := by
        unfold fiveB
        rw [show okL (bdL p c) = false from q]
        simp only [List.map_cons, List.map_nil, Bool.false_and]
      rw [f]
      exact g_cons (g_op v2 rfl eqn0) (g_cons (g_op v2 rfl rfl) (g_cons (g_op v2 rfl eqn0) (g_cons (g_op v2 rfl eqn1) (g_cons (g_op v2 rfl eqn2) g_nil))))
  have n1 : m_is_name [s] = .ok (.bool (okL (bdL p c) && !sgB c)) := (is_name_str _).trans (by rw [← k_name])
  have n2 : m_is_item [s] = .ok (.bool (okL (bdL p c))) := (item_go p c).trans (by rw [k_item])
  have n3 : m_is_light [s] = .ok (.bool (okL (bdL p c) && !sgB c)) := (light_go _).trans (by rw [← k_name])
  have n4 : m_is_twin [s] = .ok (.bool (okL (bdL p c) && decide (c = 43))) := (twin_go p c).trans (by rw [k_twin])
  have n5 : m_is_reserve [s] = .ok (.bool (okL (bdL p c) && decide (c = 42))) := (reserve_go p c).trans (by rw [k_res])
  let e4 := E (.sh B) (.sh S) (.sh (fiveD p c)) (.sh (fiveD p c)) .no
  let F4 : PyData := .list [.bool (okL (bdL p c) && !sgB c), .bool (okL (bdL p c)), .bool (okL (bdL p c) && !sgB c), .bool (okL (bdL p c) && decide (c = 43))]
  let e5 := E (.sh B) (.sh S) (.sh (fiveD p c)) (.sh (fiveD p c)) (.sh F4)
  have ap : ∀ {m : List PyData → Res PyData} {en : En} {z : PyData}, en[0]? = some (.sh s) → m [s] = .ok z → dApp (gN 1 m) (dCons (dVar 0) dNil) en = .ok (z, en) := fun {m en z} h hm => g_app (xs := [s]) (e1 := en) (g_cons (x := s) (e1 := en) (by unfold dVar; rw [h]) g_nil) (g_gN rfl hm)
  have c3 : s__law_told_right_3 e3 = .ok (.nx, e4) := k_set (i := 4) (e1 := e3) (g_app (xs := (fiveB p c).map .bool) (e1 := e3) (g_cons (ap rfl n1) (g_cons (ap rfl n2) (g_cons (ap rfl n3) (g_cons (ap rfl n4) (g_cons (ap rfl n5) g_nil))))) rfl) rfl
  have c4 : s__law_told_right_4 e4 = .ok (.nx, e5) := k_set (i := 5) (e1 := e4) (g_app (xs := [.bool (okL (bdL p c) && !sgB c), .bool (okL (bdL p c)), .bool (okL (bdL p c) && !sgB c), .bool (okL (bdL p c) && decide (c = 43))]) (e1 := e4) (g_cons (ap rfl n1) (g_cons (ap rfl n2) (g_cons (ap rfl n3) (g_cons (ap rfl n4) g_nil)))) rfl) rfl
  have ad : dOp gAdd (dVar 5) (dApp gLst (dCons (dApp (gN 1 m_is_reserve) (dCons (dVar 0) dNil)) dNil)) e5 = .ok (fiveD p c, e5) := g_op (x := F4) (y := .list [.bool (okL (bdL p c) && decide (c = 42))]) (e1 := e5) rfl (g_app (xs := [.bool (okL (bdL p c) && decide (c = 42))]) (g_cons (ap rfl n5) g_nil) rfl) rfl
  have c5 : s__law_told_right_5 e5 = .ok (.rt (.bool true), e5) := g_ret (dAnd_go (k := true) (eq_repr (five_pr p c) (by decide) (by decide) (e1 := e5) rfl rfl) (fun _ => eq_repr (five_pr p c) (by decide) (by decide) ad rfl) (fun q => nomatch q))
  exact g_runM (n := 6) (s := b__law_told_right) (g_seq c0 (g_seq c1 (g_seq c2 (g_seq c3 (g_seq c4 c5)))))
theorem told_nil : m__law_told_right [.str (mk [])] = .ok (.bool true) := by kernel_rfl
theorem body_nil : m__law_body [.str (mk [])] = .ok .none := by kernel_rfl
/-! ### items -/
theorem signal_go (q : List Nat) (e : Nat) : m_signal_of [.str (mk (q ++ [e]))] = .ok (.str (mk (bdL q e))) := by
  let s : PyData := .str (mk (q ++ [e]))
  let en : En := [.sh s]
  have s1 : dSlice gSl (dVar 0) (eS (dUn gNeg (dCst (.int (1))))) eN en = .ok (.str (mk [e]), en) := g_slice (x := s) (u := some (-1)) (v := none) (e1 := en) (e2 := en) (e3 := en) rfl rfl rfl (sl_last q e)
  have s2 : dSlice gSl (dVar 0) eN (eS (dUn gNeg (dCst (.int (1))))) en = .ok (.str (mk q), en) := g_slice (x := s) (u := none) (v := some (-1)) (e1 := en) (e2 := en) (e3 := en) rfl rfl rfl (sl_init q e)
  have t : EL.tB (dOp gInA (dSlice gSl (dVar 0) (eS (dUn gNeg (dCst (.int (1))))) eN) (dApp gTup (dCons (dCst (.str "+")) (dCons (dCst (.str "*")) dNil)))) en = .ok (sgB e, en) := g_tB (g_op (y := .tuple [.str "+", .str "*"]) (e2 := en) s1 rfl (in_sg e))
  refine g_runM (n := 1) (s := b_signal_of) (e1 := en) (g_ret ?_)
  unfold bdL
  cases z : sgB e with
  | true => exact g_difT t z (by rw [if_pos rfl]; exact s2)
  | false => exact g_difF t z rfl
theorem add_mk {a b : List Nat} (h : a.length + b.length ≤ 1000) : gAdd (.str (mk a)) (.str (mk b)) = .ok (.str (mk (a ++ b))) := by
  have e : (mk a).length + (mk b).length ≤ sizeLine := by rw [mk_len, mk_len, sizeLine_eq]; omega
  refine (show gAdd (.str (mk a)) (.str (mk b)) = (if (mk a).length + (mk b).length ≤ sizeLine then .ok (.str (mk a ++ mk b)) else .bad) from rfl).trans ?_
  rw [if_pos e, mk_add]
theorem okL_bd {p : List Nat} (h : okL p = true) : p.length ≤ 8 ∧ ∃ q e, p = q ++ [e] := by
  have h' := h
  rw [okL_eq] at h
  simp only [Bool.and_eq_true, decide_eq_true_eq] at h
  refine ⟨h.1.2, p.dropLast, p.getLast (fun z => by rw [z] at h; simp at h), (List.dropLast_concat_getLast _).symm⟩
theorem items_go (p : List Nat) (c : Nat) (hl : p.length ≤ 20) (hK : okL (bdL p c) = true) (ha : ∀ x ∈ p ++ [c], x < 128) : m__law_items_right [.str (mk (p ++ [c]))] = .ok (.bool true) := by
  let s : PyData := .str (mk (p ++ [c]))
  let b := bdL p c
  obtain ⟨b8, q, e, hb⟩ := okL_bd hK
  have b8' : b.length ≤ 8 := b8
  have hbe : sgB e = false := okL_last (p := q) (by rw [← hb]; exact hK)
  have bchar : ∀ x ∈ b, x < 128 := fun x hx => by
    refine ha x ?_
    have hx' : x ∈ bdL p c := hx
    unfold bdL at hx'
    split at hx'
    · exact List.mem_append_left _ hx'
    · exact hx'
  let P1 : PyData := .str (mk (b ++ [43]))
  let P2 : PyData := .str (mk (b ++ [42]))
  let Bd : PyData := .str (mk b)
  let E : Sl → Sl → Sl → En := fun a d f => [.sh s, a, d, f]
  let e0 := E .no .no .no
  let e1 := E .no (.sh Bd) (.sh (.str (mk (sgL c))))
  have bg : m__law_body [s] = .ok (.tuple [Bd, .str (mk (sgL c))]) := (body_go p c hl).trans (by rw [if_pos hK])
  have c0' : dApp (gN 1 m__law_body) (dCons (dVar 0) dNil) e0 = .ok (.tuple [Bd, .str (mk (sgL c))], e0) := g_app (xs := [s]) (e1 := e0) rfl (g_gN rfl bg)
  have c0 : s__law_items_right_0 e0 = .ok (.nx, e1) := by
    unfold s__law_items_right_0 sAsg
    exact bnd_go c0' rfl
  have add1 : gAdd Bd (.str "+") = .ok P1 := by rw [plus_mk]; exact add_mk (by show b.length + 1 ≤ 1000; omega)
  have add2 : gAdd Bd (.str "*") = .ok P2 := by rw [star_mk]; exact add_mk (by show b.length + 1 ≤ 1000; omega)
  have tw : m_twin_of [Bd] = .ok P1 := g_runM (n := 1) (s := b_twin_of) (e1 := [.sh Bd]) (g_ret (g_op (x := Bd) (y := .str "+") (e1 := [.sh Bd]) rfl rfl add1))
  have rs : m_reserve_of [Bd] = .ok P2 := g_runM (n := 1) (s := b_reserve_of) (e1 := [.sh Bd]) (g_ret (g_op (x := Bd) (y := .str "*") (e1 := [.sh Bd]) rfl rfl add2))
  have sg1 : m_signal_of [s] = .ok Bd := signal_go p c
  have sg2 : m_signal_of [P1] = .ok Bd := (signal_go b 43).trans (by unfold bdL; rw [if_pos sg43])
  have sg3 : m_signal_of [P2] = .ok Bd := (signal_go b 42).trans (by unfold bdL; rw [if_pos sg42])
  have sg4 : m_signal_of [Bd] = .ok Bd := by
    have hbb : b = q ++ [e] := hb
    show m_signal_of [.str (mk b)] = .ok (.str (mk b))
    rw [hbb]
    refine (signal_go q e).trans ?_
    unfold bdL
    rw [if_neg (by rw [hbe]; decide)]
  let L5 : List PyData := [P1, P2, Bd, Bd, Bd]
  let L8 : List PyData := [P1, P2, Bd, Bd, Bd, P1, P2, Bd]
  let e2 := E (.sh (.list L5)) (.sh Bd) (.sh (.str (mk (sgL c))))
  let e3 := E (.sh (.list L8)) (.sh Bd) (.sh (.str (mk (sgL c))))
  have ap : ∀ {m : List PyData → Res PyData} {en e' : En} {a : Dn} {x z : PyData}, a en = .ok (x, e') → m [x] = .ok z → dApp (gN 1 m) (dCons a dNil) en = .ok (z, e') := fun {m en e' a x z} h hm => g_app (g_cons h g_nil) (g_gN rfl hm)
  have v0 : ∀ {en : En}, en[0]? = some (.sh s) → dVar 0 en = .ok (s, en) := fun {en} h => by unfold dVar; rw [h]
  have v2 : ∀ {en : En}, en[2]? = some (.sh Bd) → dVar 2 en = .ok (Bd, en) := fun {en} h => by unfold dVar; rw [h]
  have pl : ∀ {en : En}, en[2]? = some (.sh Bd) → dOp gAdd (dVar 2) (dCst (.str "+")) en = .ok (P1, en) := fun {en} h => g_op (v2 h) rfl add1
  have st : ∀ {en : En}, en[2]? = some (.sh Bd) → dOp gAdd (dVar 2) (dCst (.str "*")) en = .ok (P2, en) := fun {en} h => g_op (v2 h) rfl add2
  have c1 : s__law_items_right_1 e1 = .ok (.nx, e2) := k_set (i := 1) (e1 := e1) (g_app (xs := L5) (e1 := e1) (g_cons (ap (v2 rfl) tw) (g_cons (ap (v2 rfl) rs) (g_cons (ap (v0 rfl) sg1) (g_cons (ap (pl rfl) sg2) (g_cons (ap (st rfl) sg3) g_nil))))) rfl) rfl
  have c2 : s__law_items_right_2 e2 = .ok (.nx, e3) := k_set (i := 1) (e1 := e2) (g_op (x := .list L5) (y := .list [P1, P2, Bd]) (e1 := e2) (e2 := e2) rfl (g_app (xs := [P1, P2, Bd]) (e1 := e2) (g_cons (ap (v2 rfl) tw) (g_cons (ap (v2 rfl) rs) (g_cons (ap (v2 rfl) sg4) g_nil))) rfl) rfl) rfl
  have lst : dApp gLst (dCons (dOp gAdd (dVar 2) (dCst (.str "+"))) (dCons (dOp gAdd (dVar 2) (dCst (.str "*"))) (dCons (dVar 2) (dCons (dVar 2) (dCons (dVar 2) (dCons (dOp gAdd (dVar 2) (dCst (.str "+"))) (dCons (dOp gAdd (dVar 2) (dCst (.str "*"))) (dCons (dVar 2) dNil)))))))) e3 = .ok (.list L8, e3) := g_app (xs := L8) (e1 := e3) (g_cons (pl rfl) (g_cons (st rfl) (g_cons (v2 rfl) (g_cons (v2 rfl) (g_cons (v2 rfl) (g_cons (pl rfl) (g_cons (st rfl) (g_cons (v2 rfl) g_nil)))))))) rfl
  have sh : ∀ x, x < 128 → ∀ y ∈ b ++ [x], y < 128 := fun x hx y hy => by
    rcases List.mem_append.mp hy with z | z
    · exact bchar y z
    · rw [List.mem_singleton.mp z]; exact hx
  have pr : Pr (.list L8) 168 1 := Pr.lst (n := 20) (k := 0) (m := 8) (fun x hx => by
    have h1 : Pr P1 20 0 := pr_mk (sh 43 (by decide)) (by rw [List.length_append]; show b.length + 1 ≤ 20; omega)
    have h2 : Pr P2 20 0 := pr_mk (sh 42 (by decide)) (by rw [List.length_append]; show b.length + 1 ≤ 20; omega)
    have h3 : Pr Bd 20 0 := pr_mk bchar (by show b.length ≤ 20; omega)
    simp only [L8, List.mem_cons, List.not_mem_nil, or_false] at hx
    rcases hx with rfl | rfl | rfl | rfl | rfl | rfl | rfl | rfl <;> assumption) (Nat.le_refl 8)
  have c3 : s__law_items_right_3 e3 = .ok (.rt (.bool true), e3) := g_ret (eq_repr pr (by decide) (by decide) (e1 := e3) rfl lst)
  exact g_runM (n := 4) (s := b__law_items_right) (g_seq c0 (g_seq c1 (g_seq c2 c3)))
/-! ### errors -/
theorem ne_repr {d : PyData} {n k : Nat} (h : Pr d n k) (hk : k ≤ 64) (hn : n ≤ 14000) {a b : Dn} {en e1 e2 : En} (ha : a en = .ok (d, e1)) (hb : b e1 = .ok (d, e2)) :
    EL.tB (dOp gNeA (dApp (g1 gRepr) (dCons a dNil)) (dApp (g1 gRepr) (dCons b dNil))) en = .ok (false, e2) := by
  have e := h.repr hk hn
  exact g_tB (g_op (x := .str d.shown) (y := .str d.shown) (g_app1 ha e) (g_app1 hb e) ((show gNeA (.str d.shown) (.str d.shown) = .ok (.bool (!decide (d.shown = d.shown))) from rfl).trans (by rw [decide_eq_true rfl]; rfl)))
theorem rngI (n : Nat) (h : n < 1000) : gRange1 [.int ((n : Nat) : Int)] = .ok ((List.range n).map kI) := by
  rw [rng_ok (by omega) (by omega), Int.toNat_natCast]
  rfl
theorem errors_go {x y : PyData} (hx : Pr x 100 3) (hy : Pr y 100 3) : m__law_errors_right [x, y] = .ok (.bool true) := by
  obtain ⟨e1, e2, r0, r1, r2⟩ := rows_go x y
  have p1 : Pr (.tuple [x]) 202 4 := (Pr.tup (n := 100) (k := 3) (m := 1) (xs := [x]) (fun z hz => by rw [List.mem_singleton.mp hz]; exact hx) (Nat.le_refl 1)).mono (by decide) (by decide)
  have p2 : Pr (.tuple [x, y]) 202 4 := Pr.tup (n := 100) (k := 3) (m := 2) (xs := [x, y]) (fun z hz => by
    simp only [List.mem_cons, List.not_mem_nil, or_false] at hz
    rcases hz with rfl | rfl
    · exact hx
    · exact hy) (Nat.le_refl 2)
  have inner : ∀ {a5 : Sl}, ∃ a5', s__law_errors_right_8 (eE x y (.sh (.list (exL x y))) (.sh (.list (fldL x y))) a5) = .ok (.nx, eE x y (.sh (.list (exL x y))) (.sh (.list (fldL x y))) a5') := fun {a5} => by
    obtain ⟨E', l, a5', rfl⟩ := loop_pre (g := gNm 5) (b := sSeq s__law_errors_right_5 s__law_errors_right_7) (A := kI) (T := List.range 22) (I := fun _ e => ∃ a, e = eE x y (.sh (.list (exL x y))) (.sh (.list (fldL x y))) a) (fun p k s e en hI => by
      obtain ⟨a, rfl⟩ := hI
      have hk : k < 22 := List.mem_range.mp (by rw [e]; simp)
      have ok := at_all x y k hk
      obtain ⟨d, hd, h1, h2⟩ := ok.d
      have pd : Pr d 202 4 := by rcases hd with rfl | rfl <;> assumption
      have t5 : s__law_errors_right_5 (iE x y k) = .ok (.nx, iE x y k) := g_skip (k_orF (ne_repr pd (by decide) (by decide) h1 h2) ok.b)
      exact ⟨iE x y k, iE x y k, rfl, g_seq t5 ok.c, _, rfl⟩) (List.range 22) [] (eE x y (.sh (.list (exL x y))) (.sh (.list (fldL x y))) a5) rfl ⟨_, rfl⟩
    exact ⟨a5', g_for (g_rg (xs := [.int ((22 : Nat) : Int)]) rfl (rngI 22 (by decide))) l⟩
  obtain ⟨E', l, a3, a4, a5, rfl⟩ := loop_pre (g := gNm 3) (b := sSeq s__law_errors_right_3 s__law_errors_right_8) (A := fun _ : Nat => PyData.list (exL x y)) (T := [0, 1]) (I := fun _ e => ∃ a b c, e = eE x y a b c) (fun p k s e en hI => by
    obtain ⟨a, b, c, rfl⟩ := hI
    let f0 := eE x y (.sh (.list (exL x y))) b c
    have s3 : s__law_errors_right_3 f0 = .ok (.nx, eE x y (.sh (.list (exL x y))) (.sh (.list (fldL x y))) c) := k_set (i := 4) (e1 := f0) (g_app (xs := [.list (exL x y)]) (e1 := f0) rfl (g_gN rfl (fields_go x y))) rfl
    obtain ⟨a5', h8⟩ := inner (a5 := c)
    exact ⟨f0, _, rfl, g_seq s3 h8, _, _, _, rfl⟩) [0, 1] [] (eE x y .no .no .no) rfl ⟨_, _, _, rfl⟩
  let f := eE x y .no .no .no
  have it : iOf (dApp gTup (dCons (dApp (gN 2 m__law_made) (dCons (dVar 0) (dCons (dVar 1) dNil))) (dCons (dApp (gN 2 m__law_named) (dCons (dVar 0) (dCons (dVar 1) dNil))) dNil))) f = .ok ([0, 1].map fun _ : Nat => PyData.list (exL x y), f) :=
    g_of (x := .tuple [.list (exL x y), .list (exL x y)]) (g_app (xs := [.list (exL x y), .list (exL x y)]) (e1 := f) (g_cons (g_app (xs := [x, y]) (e1 := f) rfl (g_gN rfl (made_go x y))) (g_cons (g_app (xs := [x, y]) (e1 := f) rfl (g_gN rfl (named_go x y))) g_nil)) (gTup_ok (show 2 ≤ 1000000 by decide))) rfl
  exact g_runM (n := 8) (s := b__law_errors_right) (g_seq r0 (g_seq r1 (g_seq r2 (g_seq (g_for it l) rfl))))
end EL

set_option maxHeartbeats 2000000
/-! N1d: draws; the law (printed by mk1d.py). -/
namespace EL
open PySem PySem.Spec PyProof.Rows L2 NP
theorem ixL {α : Type} {T : List α} {f : α → PyData} {j : Nat} {x : α} (h : T[j]? = some x) : gIxA (.list (T.map f)) (.int (j : Nat)) = .ok (f x) := by
  have e : atI (T.map f) ((j : Nat) : Int) = some (f x) := atI_nat (by rw [List.getElem?_map, h]; rfl)
  show (match atI (T.map f) ((j : Nat) : Int) with
    | some d => Res.ok d
    | none => .bad) = _
  rw [e]
theorem lenD (d : List PyData) {en : En} {a : Dn} (h : a en = .ok (.list d, en)) : dApp (g1 gLen) (dCons a dNil) en = .ok (.int ((d.length : Nat) : Int), en) := g_app1 h rfl
theorem drawS {pd : PyData} {n : Nat} {many : Int} (hp : PenOk n pd) (hn : n < 1000000) (hm : 0 < many) (hm2 : many ≤ 1000000) :
    ∃ r pd', m__law_draw pd [.int many] = .ok (.int r, pd') ∧ 0 ≤ r ∧ r < many ∧ PenOk (n + 1) pd' :=
  draw_ok (a0 := 71011) (a1 := 401) (a2 := 50021) (a3 := 31) (a4 := 17) (a5 := 60013) (a6 := 5) (by decide) hp hn hm hm2
/-- a draw, as a number -/
theorem drawN {pd : PyData} {n : Nat} {many : Nat} (hp : PenOk n pd) (hn : n < 1000000) (hm : 0 < many) (hm2 : many ≤ 1000000) :
    ∃ (r : Nat) (pd' : PyData), m__law_draw pd [.int ((many : Nat) : Int)] = .ok (.int ((r : Nat) : Int), pd') ∧ r < many ∧ PenOk (n + 1) pd' := by
  obtain ⟨r, pd', e, r0, r1, hp'⟩ := drawS (many := ((many : Nat) : Int)) hp hn (by omega) (by omega)
  obtain ⟨j, rfl⟩ := Int.eq_ofNat_of_zero_le r0
  exact ⟨j, pd', e, by omega, hp'⟩
theorem pick_any {m : Nat} {pd : PyData} {ds : List PyData} (hp : PenOk m pd) (hm : m < 1000000) (h0 : ds ≠ []) (h1 : ds.length < 100000) : ∃ x pd', m__law_pick pd [.list ds] = .ok (x, pd') ∧ x ∈ ds ∧ PenOk (m + 1) pd' := by
  have h0' : 0 < ds.length := List.length_pos_iff.mpr h0
  obtain ⟨r, pd', e, hr, hp'⟩ := drawN (many := ds.length) hp hm h0' (by omega)
  refine ⟨ds[r], pd', ?_, List.getElem_mem _, hp'⟩
  have ix : gIxA (.list ds) (.int ((r : Nat) : Int)) = .ok ds[r] := by
    have := ixL (T := ds) (f := id) (j := r) (x := ds[r]) (List.getElem?_eq_getElem hr)
    rwa [List.map_id] at this
  exact g_runP (n := 2) (s := b__law_pick) (es := [.sh (.list ds)]) (g_ret (g_op (x := .list ds) (y := .int ((r : Nat) : Int)) (e1 := [.ow pd, .sh (.list ds)]) rfl (g_callP (i := 0) (pd := pd) (pd2 := pd') (en := [.ow pd, .sh (.list ds)]) rfl (g_cons (lenD ds rfl) g_nil) rfl rfl e) ix))
theorem lc_pre {α : Type} {j : Nat} {tt : Tn} {te : Dn} {T : List α} {A : α → PyData} {I : List α → List PyData → En → Prop}
    (step : ∀ p x s, T = p ++ x :: s → ∀ acc E, I p acc E → ∃ b e1, tt (E.set j (.sh (A x))) = .ok (b, e1) ∧ (b = true → ∃ z e2, te e1 = .ok (z, e2) ∧ I (p ++ [x]) (acc ++ [z]) (e2.set j .no)) ∧ (b = false → I (p ++ [x]) acc (e1.set j .no))) :
    ∀ (s p : List α) (acc : List PyData) (E : En), T = p ++ s → I p acc E → ∃ acc' E', lcF (gNm j) tt te [j] (s.map A) acc E = .ok (.list acc', E') ∧ I T acc' E'
  | [], p, acc, E, e, hI => by
    rw [List.append_nil] at e
    subst e
    exact ⟨acc, E, rfl, hI⟩
  | x :: s, p, acc, E, e, hI => by
    obtain ⟨b, e1, h1, h2, h3⟩ := step p x s e acc E hI
    have e' : T = (p ++ [x]) ++ s := by rw [e, List.append_assoc]; rfl
    cases b with
    | true =>
      obtain ⟨z, e2, h4, h5⟩ := h2 rfl
      obtain ⟨acc', E', h6, h7⟩ := lc_pre step s (p ++ [x]) (acc ++ [z]) (e2.set j .no) e' h5
      refine ⟨acc', E', ?_, h7⟩
      show bnd tt (fun b => if b = true then bnd te fun y en3 => lcF (gNm j) tt te [j] (s.map A) (acc ++ [y]) (wipeE en3 [j]) else fun en2 => lcF (gNm j) tt te [j] (s.map A) acc (wipeE en2 [j])) (E.set j (.sh (A x))) = _
      refine bnd_go h1 ?_
      rw [if_pos rfl]
      exact bnd_go h4 h6
    | false =>
      obtain ⟨acc', E', h6, h7⟩ := lc_pre step s (p ++ [x]) acc (e1.set j .no) e' (h3 rfl)
      refine ⟨acc', E', ?_, h7⟩
      show bnd tt (fun b => if b = true then bnd te fun y en3 => lcF (gNm j) tt te [j] (s.map A) (acc ++ [y]) (wipeE en3 [j]) else fun en2 => lcF (gNm j) tt te [j] (s.map A) acc (wipeE en2 [j])) (E.set j (.sh (A x))) = _
      refine bnd_go h1 ?_
      rw [if_neg (by decide)]
      exact h6

theorem ixS {z : Str} {j c : Nat} (h : z.cps.toList[j]? = some c) : gIxA (.str z) (kI j) = .ok (.str ⟨#[c]⟩) := by
  have e : atI z.cps.toList ((j : Nat) : Int) = some c := atI_nat h
  show (match atI z.cps.toList ((j : Nat) : Int) with
    | some c => Res.ok (PyData.str ⟨#[c]⟩)
    | none => .bad) = _
  rw [e]
def rOk (r : Res PyData) : Bool := match r with
  | .ok (.bool true) => true
  | _ => false
def nOk (r : Res PyData) : Bool := match r with
  | .ok .none => true
  | _ => false
def sOk (r : Res PyData) : Bool := match r with
  | .ok (.str _) => true
  | _ => false
theorem rOk_go {r : Res PyData} (h : rOk r = true) : r = .ok (.bool true) := by
  unfold rOk at h
  split at h
  · rfl
  · cases h
theorem nOk_go {r : Res PyData} (h : nOk r = true) : r = .ok .none := by
  unfold nOk at h
  split at h
  · rfl
  · cases h
theorem sOk_go {r : Res PyData} (h : sOk r = true) : ∃ u, r = .ok (.str u) := by
  unfold sOk at h
  split at h
  · exact ⟨_, rfl⟩
  · cases h
def thB : PyData → Bool
  | .str s => (s.cps.toList.all fun c => decide (c < 128)) && decide (s.cps.toList.length ≤ 20)
  | d => rOk (m__law_told_right [d]) && (nOk (m__law_body [d]) && sOk (gRepr d))
theorem th_mk {l : List Nat} (h : ∀ c ∈ l, c < 128) (hl : l.length ≤ 20) : thB (.str (mk l)) = true := by
  show (((mk l).cps.toList.all fun c => decide (c < 128)) && decide ((mk l).cps.toList.length ≤ 20)) = true
  rw [mk_l, decide_eq_true hl, Bool.and_true, List.all_eq_true]
  exact fun c hc => decide_eq_true (h c hc)
structure Thing (d : PyData) : Prop where
  r : ∃ u, gRepr d = .ok (.str u)
  t : m__law_told_right [d] = .ok (.bool true)
  b : m__law_body [d] = .ok .none ∨ ∃ z, m__law_body [d] = .ok z ∧ isNone z = false ∧ m__law_items_right [d] = .ok (.bool true)
theorem thing_str {l : List Nat} (h : ∀ c ∈ l, c < 128) (hl : l.length ≤ 20) : Thing (.str (mk l)) := by
  have rp : ∃ u, gRepr (.str (mk l)) = .ok (.str u) := ⟨_, (pr_mk (n := 20) (k := 0) h hl).repr (by decide) (by decide)⟩
  by_cases z : l = []
  · subst z
    exact ⟨rp, told_nil, .inl body_nil⟩
  · obtain ⟨p, c, rfl⟩ : ∃ p c, l = p ++ [c] := ⟨l.dropLast, l.getLast z, (List.dropLast_concat_getLast z).symm⟩
    have pl : p.length ≤ 20 := by rw [List.length_append] at hl; omega
    refine ⟨rp, told_go p c pl, ?_⟩
    have b := body_go p c pl
    cases k : okL (bdL p c) with
    | false => rw [k] at b; exact .inl b
    | true => rw [k, if_pos rfl] at b; exact .inr ⟨_, b, rfl, items_go p c pl k h⟩
theorem thing_go {d : PyData} (h : thB d = true) : Thing d := by
  cases d with
  | str s =>
    obtain ⟨l, rfl⟩ := mk_of s
    have h' : (((mk l).cps.toList.all fun c => decide (c < 128)) && decide ((mk l).cps.toList.length ≤ 20)) = true := h
    rw [mk_l, Bool.and_eq_true, List.all_eq_true, decide_eq_true_eq] at h'
    exact thing_str (fun c hc => of_decide_eq_true (h'.1 c hc)) h'.2
  | _ =>
    unfold thB at h
    rw [Bool.and_eq_true, Bool.and_eq_true] at h
    exact ⟨sOk_go h.2.2, rOk_go h.1, .inl (nOk_go h.2.1)⟩
/-! ### odd values -/
def odd1 : List PyData := [.none, .bool true, .bool false, .int 0, .int 1, .int (-3), .int (10 ^ 59), .tuple [], .tuple [.str "a"], .list [.str "a"], .dict [(.str "a", .int 1)], .list [], .dict [], .tuple [.str "a", .str "b"], .str "", .str "+", .str "*"]
def odd2 : List PyData := odd1 ++ [.str "a+*", .str "a*+", .str "a++", .str "**", .str "+a", .str "*a", .str "a +", .str "A", .str "Ab", .str "a1", .str "a b", .str "a\n", .str "a+\n", .str "abcdefghi"]
def oddD : List PyData := odd2 ++ [.str "abcdefghi+", .str "abcdefghi*", .str "abcdefgH", .str "-", .str "a.b", .str "a-", .str "{", .str "`", .str "a_b"]
def prV (d : PyData) : Bool := okR d && (d.showable && (decide (d.depth ≤ 3) && (d.leavesShort 70 && decide (d.bulk ≤ 100))))
theorem prV_go {d : PyData} (h : prV d = true) : Pr d 100 3 := by
  unfold prV at h
  simp only [Bool.and_eq_true, decide_eq_true_eq] at h
  exact ⟨h.1, h.2.1, h.2.2.1, h.2.2.2.1, h.2.2.2.2⟩
theorem odd_pr : oddD.all prV = true := by decide +kernel
theorem odd_th : oddD.all thB = true := by decide +kernel
section
variable {m : Nat}
theorem odd_made (pd : PyData) : ∃ e1 e2, s__law_odd_0 [.ow pd, .no] = .ok (.nx, e1) ∧ s__law_odd_1 e1 = .ok (.nx, e2) ∧ s__law_odd_2 e2 = .ok (.nx, [.ow pd, .sh (.list oddD)]) := ⟨[.ow pd, .sh (.list odd1)], [.ow pd, .sh (.list odd2)], by kernel_rfl, by kernel_rfl, by kernel_rfl⟩
theorem odd_go {pd : PyData} (hp : PenOk m pd) (hm : m < 900000) : ∃ x pd', m__law_odd pd [] = .ok (x, pd') ∧ x ∈ oddD ∧ PenOk (m + 1) pd' := by
  obtain ⟨e1, e2, r0, r1, r2⟩ := odd_made pd
  obtain ⟨x, pd', ep, hx, hp'⟩ := pick_any (ds := oddD) hp (by omega) (by simp [oddD]) (by decide)
  let e3 : En := [.ow pd, .sh (.list oddD)]
  exact ⟨x, pd', g_runP (n := 2) (s := b__law_odd) (es := [.sh (.list oddD)]) (g_seq r0 (g_seq r1 (g_seq r2 (g_ret (g_callP (i := 0) (pd := pd) (pd2 := pd') (en := e3) (e1 := e3) (xs := [.list oddD]) rfl rfl rfl rfl ep))))), hx, hp'⟩
/-! ### words -/
theorem word_go {sg : Str} (hs : ∀ c ∈ sg.cps.toList, c < 128) (h0 : 0 < sg.cps.toList.length) (h1 : sg.cps.toList.length ≤ 100) {pd : PyData} (hp : PenOk m pd) (hm : m < 900000) : ∃ (l : List Nat) (pd' : PyData), m__law_word pd [.str sg] = .ok (.str (mk l), pd') ∧ (∀ c ∈ l, c < 128) ∧ l.length ≤ 10 ∧ PenOk (m + 11) pd' := by
  let E : PyData → Sl → En := fun p a => [.ow p, .sh (.str sg), a]
  obtain ⟨r, p1, ed, hr, hp1⟩ := drawN (many := 11) hp (by omega) (by decide) (by decide)
  have gl : gLen (.str sg) = .ok (.int ((sg.cps.toList.length : Nat) : Int)) := by
    show Res.ok (PyData.int ((sg.length : Nat) : Int)) = _
    rfl
  obtain ⟨acc, E', lc, ss, p2, rfl, ls, bs, hp2, rfl⟩ := lc_pre (j := 2) (tt := tYesD) (te := dOp gIxA (dVar 1) (dCallP m__law_draw 2 0 (dCons (dApp (g1 gLen) (dCons (dVar 1) dNil)) dNil))) (T := List.range r) (A := kI)
    (I := fun p acc e => ∃ (ss : List Str) (pd' : PyData), acc = ss.map .str ∧ ss.length = p.length ∧ (∀ s ∈ ss, ∃ c, s = mk [c] ∧ c < 128) ∧ PenOk (m + 1 + p.length) pd' ∧ e = E pd' .no) (fun p x s e acc E0 hI => by
    obtain ⟨ss, pd', rfl, ls, bs, hp', rfl⟩ := hI
    have hl : p.length + 1 ≤ r := by
      have := congrArg List.length e
      rw [List.length_range, List.length_append, List.length_cons] at this
      omega
    obtain ⟨j, pd2, ej, hj, hp2⟩ := drawN (many := sg.cps.toList.length) hp' (by omega) h0 (by omega)
    let g1' := E pd' (.sh (kI x))
    have cl : dCallP m__law_draw 2 0 (dCons (dApp (g1 gLen) (dCons (dVar 1) dNil)) dNil) g1' = .ok (.int ((j : Nat) : Int), E pd2 (.sh (kI x))) := g_callP (i := 0) (pd := pd') (pd2 := pd2) (en := g1') (e1 := g1') rfl (g_cons (g_app1 (x := .str sg) rfl gl) g_nil) rfl rfl ej
    refine ⟨true, g1', rfl, fun _ => ⟨.str (mk [sg.cps.toList[j]]), E pd2 (.sh (kI x)), g_op (x := .str sg) (y := kI j) (e1 := g1') rfl cl (ixS (List.getElem?_eq_getElem hj)), ss ++ [mk [sg.cps.toList[j]]], pd2, by rw [List.map_append]; rfl, by rw [List.length_append, List.length_append, ls]; rfl, fun s hs' => ?_, by rw [List.length_append]; exact hp2, rfl⟩, fun q => nomatch q⟩
    rcases List.mem_append.mp hs' with q | q
    · exact bs s q
    · exact ⟨_, List.mem_singleton.mp q, hs _ (List.getElem_mem _)⟩) (List.range r) [] [] (E p1 .no) rfl ⟨[], p1, rfl, rfl, (fun s hs => nomatch hs), hp1, rfl⟩
  rw [List.length_range] at ls hp2
  have l1 : ∀ s ∈ ss, s.length ≤ 1 := fun s hs => by
    obtain ⟨c, rfl, _⟩ := bs s hs
    rw [mk_len]
    exact Nat.le_refl 1
  have el : ("" : Str).length = 0 := by decide +kernel
  have jn : gJoin (.str "") (.list (ss.map .str)) = .ok (.str (Txt.join "" ss)) := gJoin_l (B := 1) l1 (by rw [el]; omega)
  have jl := join_len (x := ("" : Str)) l1
  have jc := join_all (x := ("" : Str)) (ss := ss) (P := fun c => c < 128) (fun s hs c hc => by
    obtain ⟨c', rfl, h'⟩ := bs s hs
    have hc' : c ∈ [c'] := by
      have : c ∈ (mk [c']).cps.toList := hc
      rwa [mk_l] at this
    rw [List.mem_singleton.mp hc']; exact h') (fun c hc => by
    have hc' : c ∈ ("" : Str).cps.toList := hc
    rw [show ("" : Str).cps.toList = [] by decide +kernel] at hc'
    cases hc')
  obtain ⟨l, hl⟩ := mk_of (Txt.join "" ss)
  rw [hl] at jn jl jc
  rw [mk_len, ls, el] at jl
  have jc' : ∀ c ∈ l, c < 128 := fun c hc => jc c (by show c ∈ (mk l).cps.toList; rw [mk_l]; exact hc)
  have lcD : dLc (iRange gRange1 (dCons (dCallP m__law_draw 2 0 (dCons (dCst (.int (11))) dNil)) dNil)) (gNm 2) tYesD (dOp gIxA (dVar 1) (dCallP m__law_draw 2 0 (dCons (dApp (g1 gLen) (dCons (dVar 1) dNil)) dNil))) [2] (E pd .no) = .ok (.list (ss.map .str), E p2 .no) :=
    g_lc (xs := (List.range r).map kI) (e1 := E p1 .no) (g_rg (xs := [.int ((r : Nat) : Int)]) (g_cons (g_callP (i := 0) (pd := pd) (pd2 := p1) (en := E pd .no) (e1 := E pd .no) (xs := [.int 11]) rfl rfl rfl rfl ed) g_nil) (rngI r (by omega))) lc
  exact ⟨l, p2, g_runP (n := 3) (s := b__law_word) (es := [.sh (.str sg), .no]) (g_ret (g_op (x := .str "") (y := .list (ss.map .str)) (e1 := E pd .no) rfl lcD jn)), jc', by omega, hp2.mono (by omega)⟩
theorem value_go {pd : PyData} (hp : PenOk m pd) (hm : m < 800000) : ∃ x pd', m__law_value pd [] = .ok (x, pd') ∧ thB x = true ∧ PenOk (m + 13) pd' := by
  let E : PyData → Sl → En := fun p a => [.ow p, a]
  obtain ⟨r, p1, ed, hr, hp1⟩ := drawN (many := 5) hp (by omega) (by decide) (by decide)
  let e1 := E p1 (.sh (.int ((r : Nat) : Int)))
  have c0 : s__law_value_0 (E pd .no) = .ok (.nx, e1) := k_set (i := 1) (g_callP (i := 0) (pd := pd) (pd2 := p1) (en := E pd .no) (e1 := E pd .no) (xs := [.int 5]) rfl rfl rfl rfl ed) rfl
  have eqk : ∀ k : Nat, EL.tB (dOp gEqA (dVar 1) (dCst (.int ((k : Nat) : Int)))) e1 = .ok (decide (r = k), e1) := fun k => g_tB (g_op (x := .int ((r : Nat) : Int)) (y := .int ((k : Nat) : Int)) (e1 := e1) (e2 := e1) rfl rfl (by
    refine (show gEqA (.int ((r : Nat) : Int)) (.int ((k : Nat) : Int)) = .ok (.bool (decide (((r : Nat) : Int) = ((k : Nat) : Int)))) from rfl).trans ?_
    congr 2
    exact decide_eq_decide.mpr (by omega)))
  by_cases z0 : r = 0
  · have t := eqk 0
    rw [decide_eq_true z0] at t
    obtain ⟨x, p2, ex, hx, hp2⟩ := odd_go hp1 (by omega)
    exact ⟨x, p2, g_runP (n := 2) (s := b__law_value) (es := [.sh (.int ((r : Nat) : Int))]) (g_seq c0 (g_seqR (g_ift t (g_ret (g_callP (i := 0) (pd := p1) (pd2 := p2) (en := e1) (e1 := e1) (xs := []) rfl rfl rfl rfl ex))))), List.all_eq_true.mp odd_th x hx, hp2.mono (by omega)⟩
  · have t0 := eqk 0
    rw [decide_eq_false z0] at t0
    have c2 : s__law_value_2 e1 = .ok (.nx, e1) := g_skip t0
    by_cases z1 : r = 1
    · have t := eqk 1
      rw [decide_eq_true z1] at t
      obtain ⟨l, p2, ew, hc, hl, hp2⟩ := word_go (sg := "abyz+*A0 ") (by decide +kernel) (by decide +kernel) (by decide +kernel) hp1 (by omega)
      exact ⟨.str (mk l), p2, g_runP (n := 2) (s := b__law_value) (es := [.sh (.int ((r : Nat) : Int))]) (g_seq c0 (g_seq c2 (g_seqR (g_ift t (g_ret (g_callP (i := 0) (pd := p1) (pd2 := p2) (en := e1) (e1 := e1) (xs := [.str "abyz+*A0 "]) rfl rfl rfl rfl ew)))))), th_mk hc (by omega), hp2.mono (by omega)⟩
    · have t1 := eqk 1
      rw [decide_eq_false z1] at t1
      have c4 : s__law_value_4 e1 = .ok (.nx, e1) := g_skip t1
      obtain ⟨l, p2, ew, hc, hl, hp2⟩ := word_go (sg := "abcdefghijklmnopqrstuvwxyz") (by decide +kernel) (by decide +kernel) (by decide +kernel) hp1 (by omega)
      obtain ⟨q, p3, eq, hq, hp3⟩ := drawN (many := 3) hp2 (by omega) (by decide) (by decide)
      let e2 := E p2 (.sh (.int ((r : Nat) : Int)))
      let e3 := E p3 (.sh (.int ((r : Nat) : Int)))
      have cw := g_callP (r := dCons (dCst (.str "abcdefghijklmnopqrstuvwxyz")) dNil) (i := 0) (pd := p1) (pd2 := p2) (en := e1) (e1 := e1) (xs := [.str "abcdefghijklmnopqrstuvwxyz"]) (n := 2) rfl rfl rfl rfl ew
      have sfx : ∃ sx : List Nat, gIxA (.list [.str "", .str "+", .str "*"]) (.int ((q : Nat) : Int)) = .ok (.str (mk sx)) ∧ (∀ c ∈ sx, c < 128) ∧ sx.length ≤ 1 := by
        have : q = 0 ∨ q = 1 ∨ q = 2 := by omega
        rcases this with rfl | rfl | rfl
        · exact ⟨[], by rw [empty_mk]; rfl, (fun c hc => nomatch hc), by decide⟩
        · exact ⟨[43], by rw [plus_mk]; rfl, by decide, by decide⟩
        · exact ⟨[42], by rw [star_mk]; rfl, by decide, by decide⟩
      obtain ⟨sx, hix, hsc, hsl⟩ := sfx
      have cs : dOp gIxA (dApp gLst (dCons (dCst (.str "")) (dCons (dCst (.str "+")) (dCons (dCst (.str "*")) dNil)))) (dCallP m__law_draw 2 0 (dCons (dCst (.int (3))) dNil)) e2 = .ok (.str (mk sx), e3) := g_op (x := .list [.str "", .str "+", .str "*"]) (y := .int ((q : Nat) : Int)) (e1 := e2) rfl (g_callP (i := 0) (pd := p2) (pd2 := p3) (en := e2) (e1 := e2) (xs := [.int 3]) rfl rfl rfl rfl eq) hix
      have c5 : s__law_value_5 e1 = .ok (.rt (.str (mk (l ++ sx))), e3) := g_ret (g_op (x := .str (mk l)) (y := .str (mk sx)) (e1 := e2) cw cs (add_mk (by omega)))
      exact ⟨.str (mk (l ++ sx)), p3, g_runP (n := 2) (s := b__law_value) (es := [.sh (.int ((r : Nat) : Int))]) (g_seq c0 (g_seq c2 (g_seq c4 c5))), th_mk (fun c hc' => by
        rcases List.mem_append.mp hc' with z | z
        · exact hc c z
        · exact hsc c z) (by rw [List.length_append]; omega), hp3.mono (by omega)⟩
end
/-! ### the law -/
abbrev lE (pd : PyData) (a2 a3 a4 a5 : Sl) : En := [.no, .ow pd, a2, a3, a4, a5]
def fix11 : List PyData := [.str "a", .str "abcdefgh", .str "abcdefgh+", .str "abcdefgh*", .str "z+", .str "z*", .str "abcdefghi", .str "abcdefghi+", .str "+", .str "*", .str "a+*"]
def fix6 : List PyData := [.str "own", .str "light", .str "a*+", .str "a++", .str "", .none]
theorem fix11_th : fix11.all thB = true := by decide +kernel
theorem fix6_th : fix6.all thB = true := by decide +kernel
theorem law_true (ns : List Int) (hl : ns.length ≤ 63) : lawEnd (b_law (startL 6 ns)) = .ok (.bool true) := by
  have hp0 : PenOk 0 (penD ns) := ⟨ns, 0, 0, rfl, hl, by decide, by decide⟩
  obtain ⟨ds, E', lc, p1, bd, ld, hp1, rfl⟩ := lc_pre (j := 4) (tt := tYesD) (te := dCallP m__law_value 1 1 dNil) (T := List.range 60) (A := kI)
    (I := fun p acc e => ∃ (pd' : PyData), (∀ d ∈ acc, thB d = true) ∧ acc.length = p.length ∧ PenOk (13 * p.length) pd' ∧ e = lE pd' .no .no .no .no) (fun p x s e acc E0 hI => by
    obtain ⟨pd', bd, ld, hp', rfl⟩ := hI
    have hl : p.length + 1 ≤ 60 := by
      have := congrArg List.length e
      rw [List.length_range, List.length_append, List.length_cons] at this
      omega
    obtain ⟨y, pd2, ey, hy, hp2⟩ := value_go hp' (by omega)
    let g := lE pd' .no .no (.sh (kI x)) .no
    refine ⟨true, g, rfl, fun _ => ⟨y, lE pd2 .no .no (.sh (kI x)) .no, g_callP (i := 1) (pd := pd') (pd2 := pd2) (en := g) (e1 := g) (xs := []) rfl rfl rfl rfl ey, pd2, fun d hd => ?_, by rw [List.length_append, List.length_append, ld]; rfl, hp2.mono (by rw [List.length_append, List.length_singleton]; omega), rfl⟩, fun q => nomatch q⟩
    rcases List.mem_append.mp hd with q | q
    · exact bd d q
    · rw [List.mem_singleton.mp q]; exact hy) (List.range 60) [] [] (lE (penD ns) .no .no .no .no) rfl ⟨penD ns, (fun d hd => nomatch hd), rfl, hp0, rfl⟩
  rw [List.length_range] at ld hp1
  let D1 : List PyData := ds ++ fix11
  let D2 : List PyData := D1 ++ fix6
  let e0 := lE (penD ns) .no .no .no .no
  let e1 := lE p1 (.sh (.list ds)) .no .no .no
  let e2 := lE p1 (.sh (.list D1)) .no .no .no
  have c0 : s_law_0 e0 = .ok (.nx, e1) := k_set (i := 2) (e1 := lE p1 .no .no .no .no) (g_lc (xs := (List.range 60).map kI) (e1 := e0) (g_rg (xs := [.int ((60 : Nat) : Int)]) rfl (rngI 60 (by decide))) lc) rfl
  have l11 : fix11.length = 11 := rfl
  have l6 : fix6.length = 6 := rfl
  have c1 : s_law_1 e1 = .ok (.nx, e2) := k_set (i := 2) (e1 := e1) (g_op (x := .list ds) (y := .list fix11) (e1 := e1) (e2 := e1) rfl rfl (gAdd_l (by rw [ld, l11]; decide))) rfl
  have thD : ∀ d ∈ D2, thB d = true := fun d hd => by
    rcases List.mem_append.mp hd with q | q
    · rcases List.mem_append.mp q with q | q
      · exact bd d q
      · exact List.all_eq_true.mp fix11_th d q
    · exact List.all_eq_true.mp fix6_th d q
  obtain ⟨E', l7, a3, a5, rfl⟩ := loop_pre (g := gNm 3) (b := sSeq s_law_2 (sSeq s_law_4 s_law_6)) (A := fun d : PyData => d) (T := D2) (I := fun _ e => ∃ a b, e = lE p1 (.sh (.list D1)) a .no b) (fun p x s e en hI => by
    obtain ⟨a, b, rfl⟩ := hI
    have hx : x ∈ D2 := by rw [e]; simp
    have th := thing_go (thD x hx)
    obtain ⟨u, hu⟩ := th.r
    let f0 := lE p1 (.sh (.list D1)) (.sh x) .no b
    let f1 := lE p1 (.sh (.list D1)) (.sh x) .no (.sh (.str u))
    have s2 : s_law_2 f0 = .ok (.nx, f1) := k_set (i := 5) (e1 := f0) (g_app1 (x := x) rfl hu) rfl
    have xs : dCons (dVar 3) dNil f1 = .ok ([x], f1) := rfl
    have s4 : s_law_4 f1 = .ok (.nx, f1) := g_skip (k_orF (k_not (k := true) (g_tB (g_app xs (g_gN rfl th.t))) rfl) (g_tB (g_op (x := .str u) (y := .str u) (e1 := f1) (e2 := f1) (g_app1 (x := x) rfl hu) rfl ((show gNeA (.str u) (.str u) = .ok (.bool (!decide (u = u))) from rfl).trans (by rw [decide_eq_true rfl]; rfl)))))
    have s6 : s_law_6 f1 = .ok (.nx, f1) := by
      rcases th.b with h | ⟨z, h, hz, hi⟩
      · exact g_skip (k_andF (g_tB (g_op (x := .none) (y := .none) (e1 := f1) (e2 := f1) (g_app xs (g_gN rfl h)) rfl rfl)))
      · exact g_skip (k_andT (g_tB (g_op (x := z) (y := .none) (e1 := f1) (e2 := f1) (g_app xs (g_gN rfl h)) rfl (by
          show Res.ok (PyData.bool (!isNone z)) = .ok (.bool true)
          rw [hz]
          rfl))) (k_not (k := true) (g_tB (g_app xs (g_gN rfl hi))) rfl))
    exact ⟨f0, f1, rfl, g_seq s2 (g_seq s4 s6), _, _, rfl⟩) D2 [] e2 rfl ⟨_, _, rfl⟩
  have c7 : s_law_7 e2 = .ok (.nx, lE p1 (.sh (.list D1)) a3 .no a5) := g_for (g_of (x := .list D2) (g_op (x := .list D1) (y := .list fix6) (e1 := e2) (e2 := e2) rfl rfl (gAdd_l (by rw [List.length_append, ld, l11, l6]; decide))) (by rw [List.map_id']; rfl)) l7
  obtain ⟨E', l10, p2, a4, rfl, _⟩ := loop_pre (g := gNm 4) (b := s_law_9) (A := kI) (T := List.range 3) (I := fun p e => ∃ pd' a, e = lE pd' (.sh (.list D1)) a3 a a5 ∧ PenOk (780 + 2 * p.length) pd') (fun p x s e en hI => by
    obtain ⟨pd', a, rfl, hp'⟩ := hI
    have hl : p.length + 1 ≤ 3 := by
      have := congrArg List.length e
      rw [List.length_range, List.length_append, List.length_cons] at this
      omega
    obtain ⟨y1, q1, ey1, hy1, hq1⟩ := odd_go hp' (by omega)
    obtain ⟨y2, q2, ey2, hy2, hq2⟩ := odd_go hq1 (by omega)
    let f0 := lE pd' (.sh (.list D1)) a3 (.sh (kI x)) a5
    let f1 := lE q1 (.sh (.list D1)) a3 (.sh (kI x)) a5
    let f2 := lE q2 (.sh (.list D1)) a3 (.sh (kI x)) a5
    have k1 : dCallP m__law_odd 1 1 dNil f0 = .ok (y1, f1) := g_callP (i := 1) (pd := pd') (pd2 := q1) (en := f0) (e1 := f0) (xs := []) rfl rfl rfl rfl ey1
    have k2 : dCallP m__law_odd 1 1 dNil f1 = .ok (y2, f2) := g_callP (i := 1) (pd := q1) (pd2 := q2) (en := f1) (e1 := f1) (xs := []) rfl rfl rfl rfl ey2
    have s9 : s_law_9 f0 = .ok (.nx, f2) := g_skip (k_not (k := true) (g_tB (g_app (xs := [y1, y2]) (g_cons k1 (g_cons k2 g_nil)) (g_gN rfl (errors_go (prV_go (List.all_eq_true.mp odd_pr y1 hy1)) (prV_go (List.all_eq_true.mp odd_pr y2 hy2)))))) rfl)
    exact ⟨f0, f2, rfl, s9, q2, _, rfl, hq2.mono (by rw [List.length_append, List.length_singleton]; omega)⟩) (List.range 3) [] (lE p1 (.sh (.list D1)) a3 .no a5) rfl ⟨p1, .no, rfl, hp1⟩
  have c10 : s_law_10 (lE p1 (.sh (.list D1)) a3 .no a5) = .ok (.nx, lE p2 (.sh (.list D1)) a3 a4 a5) := g_for (g_rg (xs := [.int ((3 : Nat) : Int)]) rfl (rngI 3 (by decide))) l10
  have e : b_law (startL 6 ns) = .ok (.rt (.bool true), lE p2 (.sh (.list D1)) a3 a4 a5) := g_seq c0 (g_seq c1 (g_seq c7 (g_seq c10 rfl)))
  rw [e]
  rfl
end EL

set_option maxHeartbeats 2000000
namespace EL
open PySem PySem.Spec PyProof.Rows L2
theorem all_mk {P : Program} {w : World} {K : PySem.W.Frag} {h : Heap} {mg : Str → Option Value} {fa : Addr} (X : K.In h) (G : h.Ns mainGlobals mg) (hfa : mg "law" = some (.ref fa))
    {t_MOST_LETTERS : Tok}
    {t_LETTERS : Tok}
    {t_RESERVE : Tok}
    {t_TWIN : Tok}
    {a_is_name : Addr} {od_is_name an_is_name : Option Addr} {sl_is_name : Array (Option Value)} {oc_is_name kV_is_name dc_is_name pm_is_name cd_is_name ct_is_name : Value}
    {a_signal_of : Addr} {od_signal_of an_signal_of : Option Addr} {sl_signal_of : Array (Option Value)} {oc_signal_of kV_signal_of dc_signal_of pm_signal_of cd_signal_of ct_signal_of : Value}
    {a_twin_of : Addr} {od_twin_of an_twin_of : Option Addr} {sl_twin_of : Array (Option Value)} {oc_twin_of kV_twin_of dc_twin_of pm_twin_of cd_twin_of ct_twin_of : Value}
    {a_reserve_of : Addr} {od_reserve_of an_reserve_of : Option Addr} {sl_reserve_of : Array (Option Value)} {oc_reserve_of kV_reserve_of dc_reserve_of pm_reserve_of cd_reserve_of ct_reserve_of : Value}
    {a__law_pen : Addr} {od__law_pen an__law_pen : Option Addr} {sl__law_pen : Array (Option Value)} {oc__law_pen kV__law_pen dc__law_pen pm__law_pen cd__law_pen ct__law_pen : Value}
    {a__law_draw : Addr} {od__law_draw an__law_draw : Option Addr} {sl__law_draw : Array (Option Value)} {oc__law_draw kV__law_draw dc__law_draw pm__law_draw cd__law_draw ct__law_draw : Value}
    {a__law_body : Addr} {od__law_body an__law_body : Option Addr} {sl__law_body : Array (Option Value)} {oc__law_body kV__law_body dc__law_body pm__law_body cd__law_body ct__law_body : Value}
    {a__law_fields : Addr} {od__law_fields an__law_fields : Option Addr} {sl__law_fields : Array (Option Value)} {oc__law_fields kV__law_fields dc__law_fields pm__law_fields cd__law_fields ct__law_fields : Value}
    {a__law_classes : Addr} {od__law_classes an__law_classes : Option Addr} {sl__law_classes : Array (Option Value)} {oc__law_classes kV__law_classes dc__law_classes pm__law_classes cd__law_classes ct__law_classes : Value}
    {a__law_bases : Addr} {od__law_bases an__law_bases : Option Addr} {sl__law_bases : Array (Option Value)} {oc__law_bases kV__law_bases dc__law_bases pm__law_bases cd__law_bases ct__law_bases : Value}
    {a_is_light : Addr} {od_is_light an_is_light : Option Addr} {sl_is_light : Array (Option Value)} {oc_is_light kV_is_light dc_is_light pm_is_light cd_is_light ct_is_light : Value}
    {a_is_twin : Addr} {od_is_twin an_is_twin : Option Addr} {sl_is_twin : Array (Option Value)} {oc_is_twin kV_is_twin dc_is_twin pm_is_twin cd_is_twin ct_is_twin : Value}
    {a_is_reserve : Addr} {od_is_reserve an_is_reserve : Option Addr} {sl_is_reserve : Array (Option Value)} {oc_is_reserve kV_is_reserve dc_is_reserve pm_is_reserve cd_is_reserve ct_is_reserve : Value}
    {a__law_pick : Addr} {od__law_pick an__law_pick : Option Addr} {sl__law_pick : Array (Option Value)} {oc__law_pick kV__law_pick dc__law_pick pm__law_pick cd__law_pick ct__law_pick : Value}
    {a__law_word : Addr} {od__law_word an__law_word : Option Addr} {sl__law_word : Array (Option Value)} {oc__law_word kV__law_word dc__law_word pm__law_word cd__law_word ct__law_word : Value}
    {a__law_items_right : Addr} {od__law_items_right an__law_items_right : Option Addr} {sl__law_items_right : Array (Option Value)} {oc__law_items_right kV__law_items_right dc__law_items_right pm__law_items_right cd__law_items_right ct__law_items_right : Value}
    {a_is_item : Addr} {od_is_item an_is_item : Option Addr} {sl_is_item : Array (Option Value)} {oc_is_item kV_is_item dc_is_item pm_is_item cd_is_item ct_is_item : Value}
    {a__law_odd : Addr} {od__law_odd an__law_odd : Option Addr} {sl__law_odd : Array (Option Value)} {oc__law_odd kV__law_odd dc__law_odd pm__law_odd cd__law_odd ct__law_odd : Value}
    {a__law_made : Addr} {od__law_made an__law_made : Option Addr} {sl__law_made : Array (Option Value)} {oc__law_made kV__law_made dc__law_made pm__law_made cd__law_made ct__law_made : Value}
    {a__law_named : Addr} {od__law_named an__law_named : Option Addr} {sl__law_named : Array (Option Value)} {oc__law_named kV__law_named dc__law_named pm__law_named cd__law_named ct__law_named : Value}
    {a__law_value : Addr} {od__law_value an__law_value : Option Addr} {sl__law_value : Array (Option Value)} {oc__law_value kV__law_value dc__law_value pm__law_value cd__law_value ct__law_value : Value}
    {a__law_told_right : Addr} {od__law_told_right an__law_told_right : Option Addr} {sl__law_told_right : Array (Option Value)} {oc__law_told_right kV__law_told_right dc__law_told_right pm__law_told_right cd__law_told_right ct__law_told_right : Value}
    {a__law_errors_right : Addr} {od__law_errors_right an__law_errors_right : Option Addr} {sl__law_errors_right : Array (Option Value)} {oc__law_errors_right kV__law_errors_right dc__law_errors_right pm__law_errors_right cd__law_errors_right ct__law_errors_right : Value}
    {a_law : Addr} {od_law an_law : Option Addr} {sl_law : Array (Option Value)} {oc_law kV_law dc_law pm_law cd_law ct_law : Value}
    {C_LightError : Addr}
    {C_InvalidNet : Addr}
    {C_InvalidLayout : Addr}
    {C_NotAllowed : Addr}
    {C_Turned : Addr}
    {C_ParseError : Addr}
    {C_InvalidRoute : Addr}
    {C_TooFar : Addr}
    {C_InvalidBand : Addr}
    {C_InvalidWish : Addr}
    {C_Unlike : Addr}
    {C_Circular : Addr}
    {C_Barred : Addr}
    {C_UnknownCommand : Addr}
    {C_NoItem : Addr}
    {C_NoStation : Addr}
    {C_NoDuct : Addr}
    {C_NoName : Addr}
    {C_NoFibre : Addr}
    {C_TooMany : Addr}
    {C_TooWide : Addr}
    {C_TooNarrow : Addr}
    {C_NothingToUndo : Addr}
    {fI_InvalidNet cc_InvalidNet cda_InvalidNet : Addr} {nm_InvalidNet q_InvalidNet : Str} {N_InvalidNet : Addr} {bs_InvalidNet bm_InvalidNet : List Value} {sn_InvalidNet : List Str} {sub_InvalidNet : List Value} {ab_InvalidNet : Bool} {col_InvalidNet : Option Bool} {dd_InvalidNet : Option Addr} {k0_InvalidNet k1_InvalidNet k2_InvalidNet k3_InvalidNet k5_InvalidNet : Option Value}
    {x1_InvalidNet : Value} {x2_InvalidNet x3_InvalidNet : Option Addr} {x4_InvalidNet x5_InvalidNet x6_InvalidNet x7_InvalidNet : Value} {x8_InvalidNet : Array (Option Value)} {x9_InvalidNet : Str} {y1_InvalidNet : Value} {y2_InvalidNet : Option Addr} {y3_InvalidNet : Array Value} {y4_InvalidNet : Array (Option Value)} {y5_InvalidNet : Str} {y6_InvalidNet : Tok} {w1_InvalidNet : Value} {w2_InvalidNet : Option Addr} {w3_InvalidNet : Array (Option Value)}
    {fI_InvalidLayout cc_InvalidLayout cda_InvalidLayout : Addr} {nm_InvalidLayout q_InvalidLayout : Str} {N_InvalidLayout : Addr} {bs_InvalidLayout bm_InvalidLayout : List Value} {sn_InvalidLayout : List Str} {sub_InvalidLayout : List Value} {ab_InvalidLayout : Bool} {col_InvalidLayout : Option Bool} {dd_InvalidLayout : Option Addr} {k0_InvalidLayout k1_InvalidLayout k2_InvalidLayout k3_InvalidLayout k5_InvalidLayout : Option Value}
    {x1_InvalidLayout : Value} {x2_InvalidLayout x3_InvalidLayout : Option Addr} {x4_InvalidLayout x5_InvalidLayout x6_InvalidLayout x7_InvalidLayout : Value} {x8_InvalidLayout : Array (Option Value)} {x9_InvalidLayout : Str} {y1_InvalidLayout : Value} {y2_InvalidLayout : Option Addr} {y3_InvalidLayout : Array Value} {y4_InvalidLayout : Array (Option Value)} {y5_InvalidLayout : Str} {y6_InvalidLayout : Tok} {w1_InvalidLayout : Value} {w2_InvalidLayout : Option Addr} {w3_InvalidLayout : Array (Option Value)}
    {fI_NotAllowed cc_NotAllowed cda_NotAllowed : Addr} {nm_NotAllowed q_NotAllowed : Str} {N_NotAllowed : Addr} {bs_NotAllowed bm_NotAllowed : List Value} {sn_NotAllowed : List Str} {sub_NotAllowed : List Value} {ab_NotAllowed : Bool} {col_NotAllowed : Option Bool} {dd_NotAllowed : Option Addr} {k0_NotAllowed k1_NotAllowed k2_NotAllowed k3_NotAllowed k5_NotAllowed : Option Value}
    {x1_NotAllowed : Value} {x2_NotAllowed x3_NotAllowed : Option Addr} {x4_NotAllowed x5_NotAllowed x6_NotAllowed x7_NotAllowed : Value} {x8_NotAllowed : Array (Option Value)} {x9_NotAllowed : Str} {y1_NotAllowed : Value} {y2_NotAllowed : Option Addr} {y3_NotAllowed : Array Value} {y4_NotAllowed : Array (Option Value)} {y5_NotAllowed : Str} {y6_NotAllowed : Tok} {w1_NotAllowed : Value} {w2_NotAllowed : Option Addr} {w3_NotAllowed : Array (Option Value)}
    {fI_Turned cc_Turned cda_Turned : Addr} {nm_Turned q_Turned : Str} {N_Turned : Addr} {bs_Turned bm_Turned : List Value} {sn_Turned : List Str} {sub_Turned : List Value} {ab_Turned : Bool} {col_Turned : Option Bool} {dd_Turned : Option Addr} {k0_Turned k1_Turned k2_Turned k3_Turned k5_Turned : Option Value}
    {x1_Turned : Value} {x2_Turned x3_Turned : Option Addr} {x4_Turned x5_Turned x6_Turned x7_Turned : Value} {x8_Turned : Array (Option Value)} {x9_Turned : Str} {y1_Turned : Value} {y2_Turned : Option Addr} {y3_Turned : Array Value} {y4_Turned : Array (Option Value)} {y5_Turned : Str} {y6_Turned : Tok} {w1_Turned : Value} {w2_Turned : Option Addr} {w3_Turned : Array (Option Value)}
    {fI_ParseError cc_ParseError cda_ParseError : Addr} {nm_ParseError q_ParseError : Str} {N_ParseError : Addr} {bs_ParseError bm_ParseError : List Value} {sn_ParseError : List Str} {sub_ParseError : List Value} {ab_ParseError : Bool} {col_ParseError : Option Bool} {dd_ParseError : Option Addr} {k0_ParseError k1_ParseError k2_ParseError k3_ParseError k5_ParseError : Option Value}
    {x1_ParseError : Value} {x2_ParseError x3_ParseError : Option Addr} {x4_ParseError x5_ParseError x6_ParseError x7_ParseError : Value} {x8_ParseError : Array (Option Value)} {x9_ParseError : Str} {y1_ParseError : Value} {y2_ParseError : Option Addr} {y3_ParseError : Array Value} {y4_ParseError : Array (Option Value)} {y5_ParseError : Str} {y6_ParseError : Tok} {w1_ParseError : Value} {w2_ParseError : Option Addr} {w3_ParseError : Array (Option Value)}
    {fI_InvalidRoute cc_InvalidRoute cda_InvalidRoute : Addr} {nm_InvalidRoute q_InvalidRoute : Str} {N_InvalidRoute : Addr} {bs_InvalidRoute bm_InvalidRoute : List Value} {sn_InvalidRoute : List Str} {sub_InvalidRoute : List Value} {ab_InvalidRoute : Bool} {col_InvalidRoute : Option Bool} {dd_InvalidRoute : Option Addr} {k0_InvalidRoute k1_InvalidRoute k2_InvalidRoute k3_InvalidRoute k5_InvalidRoute : Option Value}
    {x1_InvalidRoute : Value} {x2_InvalidRoute x3_InvalidRoute : Option Addr} {x4_InvalidRoute x5_InvalidRoute x6_InvalidRoute x7_InvalidRoute : Value} {x8_InvalidRoute : Array (Option Value)} {x9_InvalidRoute : Str} {y1_InvalidRoute : Value} {y2_InvalidRoute : Option Addr} {y3_InvalidRoute : Array Value} {y4_InvalidRoute : Array (Option Value)} {y5_InvalidRoute : Str} {y6_InvalidRoute : Tok} {w1_InvalidRoute : Value} {w2_InvalidRoute : Option Addr} {w3_InvalidRoute : Array (Option Value)}
    {fI_TooFar cc_TooFar cda_TooFar : Addr} {nm_TooFar q_TooFar : Str} {N_TooFar : Addr} {bs_TooFar bm_TooFar : List Value} {sn_TooFar : List Str} {sub_TooFar : List Value} {ab_TooFar : Bool} {col_TooFar : Option Bool} {dd_TooFar : Option Addr} {k0_TooFar k1_TooFar k2_TooFar k3_TooFar k5_TooFar : Option Value}
    {x1_TooFar : Value} {x2_TooFar x3_TooFar : Option Addr} {x4_TooFar x5_TooFar x6_TooFar x7_TooFar : Value} {x8_TooFar : Array (Option Value)} {x9_TooFar : Str} {y1_TooFar : Value} {y2_TooFar : Option Addr} {y3_TooFar : Array Value} {y4_TooFar : Array (Option Value)} {y5_TooFar : Str} {y6_TooFar : Tok} {w1_TooFar : Value} {w2_TooFar : Option Addr} {w3_TooFar : Array (Option Value)}
    {fI_InvalidBand cc_InvalidBand cda_InvalidBand : Addr} {nm_InvalidBand q_InvalidBand : Str} {N_InvalidBand : Addr} {bs_InvalidBand bm_InvalidBand : List Value} {sn_InvalidBand : List Str} {sub_InvalidBand : List Value} {ab_InvalidBand : Bool} {col_InvalidBand : Option Bool} {dd_InvalidBand : Option Addr} {k0_InvalidBand k1_InvalidBand k2_InvalidBand k3_InvalidBand k5_InvalidBand : Option Value}
    {x1_InvalidBand : Value} {x2_InvalidBand x3_InvalidBand : Option Addr} {x4_InvalidBand x5_InvalidBand x6_InvalidBand x7_InvalidBand : Value} {x8_InvalidBand : Array (Option Value)} {x9_InvalidBand : Str} {y1_InvalidBand : Value} {y2_InvalidBand : Option Addr} {y3_InvalidBand : Array Value} {y4_InvalidBand : Array (Option Value)} {y5_InvalidBand : Str} {y6_InvalidBand : Tok} {w1_InvalidBand : Value} {w2_InvalidBand : Option Addr} {w3_InvalidBand : Array (Option Value)}
    {fI_InvalidWish cc_InvalidWish cda_InvalidWish : Addr} {nm_InvalidWish q_InvalidWish : Str} {N_InvalidWish : Addr} {bs_InvalidWish bm_InvalidWish : List Value} {sn_InvalidWish : List Str} {sub_InvalidWish : List Value} {ab_InvalidWish : Bool} {col_InvalidWish : Option Bool} {dd_InvalidWish : Option Addr} {k0_InvalidWish k1_InvalidWish k2_InvalidWish k3_InvalidWish k5_InvalidWish : Option Value}
    {x1_InvalidWish : Value} {x2_InvalidWish x3_InvalidWish : Option Addr} {x4_InvalidWish x5_InvalidWish x6_InvalidWish x7_InvalidWish : Value} {x8_InvalidWish : Array (Option Value)} {x9_InvalidWish : Str} {y1_InvalidWish : Value} {y2_InvalidWish : Option Addr} {y3_InvalidWish : Array Value} {y4_InvalidWish : Array (Option Value)} {y5_InvalidWish : Str} {y6_InvalidWish : Tok} {w1_InvalidWish : Value} {w2_InvalidWish : Option Addr} {w3_InvalidWish : Array (Option Value)}
    {fI_Unlike cc_Unlike cda_Unlike : Addr} {nm_Unlike q_Unlike : Str} {N_Unlike : Addr} {bs_Unlike bm_Unlike : List Value} {sn_Unlike : List Str} {sub_Unlike : List Value} {ab_Unlike : Bool} {col_Unlike : Option Bool} {dd_Unlike : Option Addr} {k0_Unlike k1_Unlike k2_Unlike k3_Unlike k5_Unlike : Option Value}
    {x1_Unlike : Value} {x2_Unlike x3_Unlike : Option Addr} {x4_Unlike x5_Unlike x6_Unlike x7_Unlike : Value} {x8_Unlike : Array (Option Value)} {x9_Unlike : Str} {y1_Unlike : Value} {y2_Unlike : Option Addr} {y3_Unlike : Array Value} {y4_Unlike : Array (Option Value)} {y5_Unlike : Str} {y6_Unlike : Tok} {w1_Unlike : Value} {w2_Unlike : Option Addr} {w3_Unlike : Array (Option Value)}
    {fI_Circular cc_Circular cda_Circular : Addr} {nm_Circular q_Circular : Str} {N_Circular : Addr} {bs_Circular bm_Circular : List Value} {sn_Circular : List Str} {sub_Circular : List Value} {ab_Circular : Bool} {col_Circular : Option Bool} {dd_Circular : Option Addr} {k0_Circular k1_Circular k2_Circular k3_Circular k5_Circular : Option Value}
    {x1_Circular : Value} {x2_Circular x3_Circular : Option Addr} {x4_Circular x5_Circular x6_Circular x7_Circular : Value} {x8_Circular : Array (Option Value)} {x9_Circular : Str} {y1_Circular : Value} {y2_Circular : Option Addr} {y3_Circular : Array Value} {y4_Circular : Array (Option Value)} {y5_Circular : Str} {y6_Circular : Tok} {w1_Circular : Value} {w2_Circular : Option Addr} {w3_Circular : Array (Option Value)}
    {fI_Barred cc_Barred cda_Barred : Addr} {nm_Barred q_Barred : Str} {N_Barred : Addr} {bs_Barred bm_Barred : List Value} {sn_Barred : List Str} {sub_Barred : List Value} {ab_Barred : Bool} {col_Barred : Option Bool} {dd_Barred : Option Addr} {k0_Barred k1_Barred k2_Barred k3_Barred k5_Barred : Option Value}
    {x1_Barred : Value} {x2_Barred x3_Barred : Option Addr} {x4_Barred x5_Barred x6_Barred x7_Barred : Value} {x8_Barred : Array (Option Value)} {x9_Barred : Str} {y1_Barred : Value} {y2_Barred : Option Addr} {y3_Barred : Array Value} {y4_Barred : Array (Option Value)} {y5_Barred : Str} {y6_Barred : Tok} {w1_Barred : Value} {w2_Barred : Option Addr} {w3_Barred : Array (Option Value)}
    {fI_UnknownCommand cc_UnknownCommand cda_UnknownCommand : Addr} {nm_UnknownCommand q_UnknownCommand : Str} {N_UnknownCommand : Addr} {bs_UnknownCommand bm_UnknownCommand : List Value} {sn_UnknownCommand : List Str} {sub_UnknownCommand : List Value} {ab_UnknownCommand : Bool} {col_UnknownCommand : Option Bool} {dd_UnknownCommand : Option Addr} {k0_UnknownCommand k1_UnknownCommand k2_UnknownCommand k3_UnknownCommand k5_UnknownCommand : Option Value}
    {x1_UnknownCommand : Value} {x2_UnknownCommand x3_UnknownCommand : Option Addr} {x4_UnknownCommand x5_UnknownCommand x6_UnknownCommand x7_UnknownCommand : Value} {x8_UnknownCommand : Array (Option Value)} {x9_UnknownCommand : Str} {y1_UnknownCommand : Value} {y2_UnknownCommand : Option Addr} {y3_UnknownCommand : Array Value} {y4_UnknownCommand : Array (Option Value)} {y5_UnknownCommand : Str} {y6_UnknownCommand : Tok} {w1_UnknownCommand : Value} {w2_UnknownCommand : Option Addr} {w3_UnknownCommand : Array (Option Value)}
    {fI_NoItem cc_NoItem cda_NoItem : Addr} {nm_NoItem q_NoItem : Str} {N_NoItem : Addr} {bs_NoItem : List Value} {sn_NoItem : List Str} {sub_NoItem : List Value} {ab_NoItem : Bool} {col_NoItem : Option Bool} {dd_NoItem : Option Addr} {k0_NoItem k1_NoItem k2_NoItem k3_NoItem k5_NoItem : Option Value}
    {x1_NoItem : Value} {x2_NoItem x3_NoItem : Option Addr} {x4_NoItem x5_NoItem x6_NoItem x7_NoItem : Value} {x8_NoItem : Array (Option Value)} {x9_NoItem : Str} {y1_NoItem : Value} {y2_NoItem : Option Addr} {y3_NoItem : Array Value} {y4_NoItem : Array (Option Value)} {y5_NoItem : Str} {y6_NoItem : Tok} {w1_NoItem : Value} {w2_NoItem : Option Addr} {w3_NoItem : Array (Option Value)}
    {fI_NoStation cc_NoStation cda_NoStation : Addr} {nm_NoStation q_NoStation : Str} {N_NoStation : Addr} {bs_NoStation : List Value} {sn_NoStation : List Str} {sub_NoStation : List Value} {ab_NoStation : Bool} {col_NoStation : Option Bool} {dd_NoStation : Option Addr} {k0_NoStation k1_NoStation k2_NoStation k3_NoStation k5_NoStation : Option Value}
    {x1_NoStation : Value} {x2_NoStation x3_NoStation : Option Addr} {x4_NoStation x5_NoStation x6_NoStation x7_NoStation : Value} {x8_NoStation : Array (Option Value)} {x9_NoStation : Str} {y1_NoStation : Value} {y2_NoStation : Option Addr} {y3_NoStation : Array Value} {y4_NoStation : Array (Option Value)} {y5_NoStation : Str} {y6_NoStation : Tok} {w1_NoStation : Value} {w2_NoStation : Option Addr} {w3_NoStation : Array (Option Value)}
    {fI_NoDuct cc_NoDuct cda_NoDuct : Addr} {nm_NoDuct q_NoDuct : Str} {N_NoDuct : Addr} {bs_NoDuct : List Value} {sn_NoDuct : List Str} {sub_NoDuct : List Value} {ab_NoDuct : Bool} {col_NoDuct : Option Bool} {dd_NoDuct : Option Addr} {k0_NoDuct k1_NoDuct k2_NoDuct k3_NoDuct k5_NoDuct : Option Value}
    {x1_NoDuct : Value} {x2_NoDuct x3_NoDuct : Option Addr} {x4_NoDuct x5_NoDuct x6_NoDuct x7_NoDuct : Value} {x8_NoDuct : Array (Option Value)} {x9_NoDuct : Str} {y1_NoDuct : Value} {y2_NoDuct : Option Addr} {y3_NoDuct : Array Value} {y4_NoDuct : Array (Option Value)} {y5_NoDuct : Str} {y6_NoDuct : Tok} {w1_NoDuct : Value} {w2_NoDuct : Option Addr} {w3_NoDuct : Array (Option Value)}
    {fI_NoName cc_NoName cda_NoName : Addr} {nm_NoName q_NoName : Str} {N_NoName : Addr} {bs_NoName : List Value} {sn_NoName : List Str} {sub_NoName : List Value} {ab_NoName : Bool} {col_NoName : Option Bool} {dd_NoName : Option Addr} {k0_NoName k1_NoName k2_NoName k3_NoName k5_NoName : Option Value}
    {x1_NoName : Value} {x2_NoName x3_NoName : Option Addr} {x4_NoName x5_NoName x6_NoName x7_NoName : Value} {x8_NoName : Array (Option Value)} {x9_NoName : Str} {y1_NoName : Value} {y2_NoName : Option Addr} {y3_NoName : Array Value} {y4_NoName : Array (Option Value)} {y5_NoName : Str} {y6_NoName : Tok} {w1_NoName : Value} {w2_NoName : Option Addr} {w3_NoName : Array (Option Value)}
    {fI_NoFibre cc_NoFibre cda_NoFibre : Addr} {nm_NoFibre q_NoFibre : Str} {N_NoFibre : Addr} {bs_NoFibre : List Value} {sn_NoFibre : List Str} {sub_NoFibre : List Value} {ab_NoFibre : Bool} {col_NoFibre : Option Bool} {dd_NoFibre : Option Addr} {k0_NoFibre k1_NoFibre k2_NoFibre k3_NoFibre k5_NoFibre : Option Value}
    {x1_NoFibre : Value} {x2_NoFibre x3_NoFibre : Option Addr} {x4_NoFibre x5_NoFibre x6_NoFibre x7_NoFibre : Value} {x8_NoFibre : Array (Option Value)} {x9_NoFibre : Str} {y1_NoFibre : Value} {y2_NoFibre : Option Addr} {y3_NoFibre : Array Value} {y4_NoFibre : Array (Option Value)} {y5_NoFibre : Str} {y6_NoFibre : Tok} {w1_NoFibre : Value} {w2_NoFibre : Option Addr} {w3_NoFibre : Array (Option Value)}
    {fI_TooMany cc_TooMany cda_TooMany : Addr} {nm_TooMany q_TooMany : Str} {N_TooMany : Addr} {bs_TooMany : List Value} {sn_TooMany : List Str} {sub_TooMany : List Value} {ab_TooMany : Bool} {col_TooMany : Option Bool} {dd_TooMany : Option Addr} {k0_TooMany k1_TooMany k2_TooMany k3_TooMany k5_TooMany : Option Value}
    {x1_TooMany : Value} {x2_TooMany x3_TooMany : Option Addr} {x4_TooMany x5_TooMany x6_TooMany x7_TooMany : Value} {x8_TooMany : Array (Option Value)} {x9_TooMany : Str} {y1_TooMany : Value} {y2_TooMany : Option Addr} {y3_TooMany : Array Value} {y4_TooMany : Array (Option Value)} {y5_TooMany : Str} {y6_TooMany : Tok} {w1_TooMany : Value} {w2_TooMany : Option Addr} {w3_TooMany : Array (Option Value)}
    {fI_TooWide cc_TooWide cda_TooWide : Addr} {nm_TooWide q_TooWide : Str} {N_TooWide : Addr} {bs_TooWide : List Value} {sn_TooWide : List Str} {sub_TooWide : List Value} {ab_TooWide : Bool} {col_TooWide : Option Bool} {dd_TooWide : Option Addr} {k0_TooWide k1_TooWide k2_TooWide k3_TooWide k5_TooWide : Option Value}
    {x1_TooWide : Value} {x2_TooWide x3_TooWide : Option Addr} {x4_TooWide x5_TooWide x6_TooWide x7_TooWide : Value} {x8_TooWide : Array (Option Value)} {x9_TooWide : Str} {y1_TooWide : Value} {y2_TooWide : Option Addr} {y3_TooWide : Array Value} {y4_TooWide : Array (Option Value)} {y5_TooWide : Str} {y6_TooWide : Tok} {w1_TooWide : Value} {w2_TooWide : Option Addr} {w3_TooWide : Array (Option Value)}
    {fI_TooNarrow cc_TooNarrow cda_TooNarrow : Addr} {nm_TooNarrow q_TooNarrow : Str} {N_TooNarrow : Addr} {bs_TooNarrow : List Value} {sn_TooNarrow : List Str} {sub_TooNarrow : List Value} {ab_TooNarrow : Bool} {col_TooNarrow : Option Bool} {dd_TooNarrow : Option Addr} {k0_TooNarrow k1_TooNarrow k2_TooNarrow k3_TooNarrow k5_TooNarrow : Option Value}
    {x1_TooNarrow : Value} {x2_TooNarrow x3_TooNarrow : Option Addr} {x4_TooNarrow x5_TooNarrow x6_TooNarrow x7_TooNarrow : Value} {x8_TooNarrow : Array (Option Value)} {x9_TooNarrow : Str} {y1_TooNarrow : Value} {y2_TooNarrow : Option Addr} {y3_TooNarrow : Array Value} {y4_TooNarrow : Array (Option Value)} {y5_TooNarrow : Str} {y6_TooNarrow : Tok} {w1_TooNarrow : Value} {w2_TooNarrow : Option Addr} {w3_TooNarrow : Array (Option Value)}
    {fI_NothingToUndo cc_NothingToUndo cda_NothingToUndo : Addr} {nm_NothingToUndo q_NothingToUndo : Str} {N_NothingToUndo : Addr} {bs_NothingToUndo : List Value} {sn_NothingToUndo : List Str} {sub_NothingToUndo : List Value} {ab_NothingToUndo : Bool} {col_NothingToUndo : Option Bool} {dd_NothingToUndo : Option Addr} {k0_NothingToUndo k1_NothingToUndo k2_NothingToUndo k3_NothingToUndo k5_NothingToUndo : Option Value}
    {x1_NothingToUndo : Value} {x2_NothingToUndo x3_NothingToUndo : Option Addr} {x4_NothingToUndo x5_NothingToUndo x6_NothingToUndo x7_NothingToUndo : Value} {x8_NothingToUndo : Array (Option Value)} {x9_NothingToUndo : Str} {y1_NothingToUndo : Value} {y2_NothingToUndo : Option Addr} {y3_NothingToUndo : Array Value} {y4_NothingToUndo : Array (Option Value)} {y5_NothingToUndo : Str} {y6_NothingToUndo : Tok} {w1_NothingToUndo : Value} {w2_NothingToUndo : Option Addr} {w3_NothingToUndo : Array (Option Value)}
    (z_len : PySem.W.nsIn K mainGlobals "len" = some none)
    (z_isinstance : PySem.W.nsIn K mainGlobals "isinstance" = some none)
    (z_str : PySem.W.nsIn K mainGlobals "str" = some none)
    (z_all : PySem.W.nsIn K mainGlobals "all" = some none)
    (z_list : PySem.W.nsIn K mainGlobals "list" = some none)
    (z_int : PySem.W.nsIn K mainGlobals "int" = some none)
    (z_abs : PySem.W.nsIn K mainGlobals "abs" = some none)
    (z_KeyError : PySem.W.nsIn K mainGlobals "KeyError" = some none)
    (z_ValueError : PySem.W.nsIn K mainGlobals "ValueError" = some none)
    (z_LookupError : PySem.W.nsIn K mainGlobals "LookupError" = some none)
    (z_OverflowError : PySem.W.nsIn K mainGlobals "OverflowError" = some none)
    (z_IndexError : PySem.W.nsIn K mainGlobals "IndexError" = some none)
    (z_range : PySem.W.nsIn K mainGlobals "range" = some none)
    (z_repr : PySem.W.nsIn K mainGlobals "repr" = some none)
    (z_enumerate : PySem.W.nsIn K mainGlobals "enumerate" = some none)
    (z_MOST_LETTERS : PySem.W.nsIn K mainGlobals "MOST_LETTERS" = some (some (.int (8) t_MOST_LETTERS)))
    (z_LETTERS : PySem.W.nsIn K mainGlobals "LETTERS" = some (some (.str "abcdefghijklmnopqrstuvwxyz" t_LETTERS)))
    (z_RESERVE : PySem.W.nsIn K mainGlobals "RESERVE" = some (some (.str "*" t_RESERVE)))
    (z_TWIN : PySem.W.nsIn K mainGlobals "TWIN" = some (some (.str "+" t_TWIN)))
    (z_is_name : PySem.W.nsIn K mainGlobals "is_name" = some (some (.ref a_is_name)))
    (l_is_name : K.lookup a_is_name = some ⟨oc_is_name, od_is_name, .func (PySem.W.fnOf "is_name" "is_name" (defArgs (topS 5)) (defBody (topS 5)) (defScope (topS 5)) .none kV_is_name dc_is_name pm_is_name an_is_name cd_is_name ct_is_name), sl_is_name⟩)
    (c_is_name : PySem.W.codeIn K cd_is_name "is_name" = true)
    (k_is_name : PySem.W.keepIn K (.ref a_is_name) = true)
    (z_signal_of : PySem.W.nsIn K mainGlobals "signal_of" = some (some (.ref a_signal_of)))
    (l_signal_of : K.lookup a_signal_of = some ⟨oc_signal_of, od_signal_of, .func (PySem.W.fnOf "signal_of" "signal_of" (defArgs (topS 10)) (defBody (topS 10)) (defScope (topS 10)) .none kV_signal_of dc_signal_of pm_signal_of an_signal_of cd_signal_of ct_signal_of), sl_signal_of⟩)
    (c_signal_of : PySem.W.codeIn K cd_signal_of "signal_of" = true)
    (k_signal_of : PySem.W.keepIn K (.ref a_signal_of) = true)
    (z_twin_of : PySem.W.nsIn K mainGlobals "twin_of" = some (some (.ref a_twin_of)))
    (l_twin_of : K.lookup a_twin_of = some ⟨oc_twin_of, od_twin_of, .func (PySem.W.fnOf "twin_of" "twin_of" (defArgs (topS 11)) (defBody (topS 11)) (defScope (topS 11)) .none kV_twin_of dc_twin_of pm_twin_of an_twin_of cd_twin_of ct_twin_of), sl_twin_of⟩)
    (c_twin_of : PySem.W.codeIn K cd_twin_of "twin_of" = true)
    (k_twin_of : PySem.W.keepIn K (.ref a_twin_of) = true)
    (z_reserve_of : PySem.W.nsIn K mainGlobals "reserve_of" = some (some (.ref a_reserve_of)))
    (l_reserve_of : K.lookup a_reserve_of = some ⟨oc_reserve_of, od_reserve_of, .func (PySem.W.fnOf "reserve_of" "reserve_of" (defArgs (topS 12)) (defBody (topS 12)) (defScope (topS 12)) .none kV_reserve_of dc_reserve_of pm_reserve_of an_reserve_of cd_reserve_of ct_reserve_of), sl_reserve_of⟩)
    (c_reserve_of : PySem.W.codeIn K cd_reserve_of "reserve_of" = true)
    (k_reserve_of : PySem.W.keepIn K (.ref a_reserve_of) = true)
    (z__law_pen : PySem.W.nsIn K mainGlobals "_law_pen" = some (some (.ref a__law_pen)))
    (l__law_pen : K.lookup a__law_pen = some ⟨oc__law_pen, od__law_pen, .func (PySem.W.fnOf "_law_pen" "_law_pen" (defArgs (topS 38)) (defBody (topS 38)) (defScope (topS 38)) .none kV__law_pen dc__law_pen pm__law_pen an__law_pen cd__law_pen ct__law_pen), sl__law_pen⟩)
    (c__law_pen : PySem.W.codeIn K cd__law_pen "_law_pen" = true)
    (k__law_pen : PySem.W.keepIn K (.ref a__law_pen) = true)
    (z__law_draw : PySem.W.nsIn K mainGlobals "_law_draw" = some (some (.ref a__law_draw)))
    (l__law_draw : K.lookup a__law_draw = some ⟨oc__law_draw, od__law_draw, .func (PySem.W.fnOf "_law_draw" "_law_draw" (defArgs (topS 39)) (defBody (topS 39)) (defScope (topS 39)) .none kV__law_draw dc__law_draw pm__law_draw an__law_draw cd__law_draw ct__law_draw), sl__law_draw⟩)
    (c__law_draw : PySem.W.codeIn K cd__law_draw "_law_draw" = true)
    (k__law_draw : PySem.W.keepIn K (.ref a__law_draw) = true)
    (z__law_body : PySem.W.nsIn K mainGlobals "_law_body" = some (some (.ref a__law_body)))
    (l__law_body : K.lookup a__law_body = some ⟨oc__law_body, od__law_body, .func (PySem.W.fnOf "_law_body" "_law_body" (defArgs (topS 44)) (defBody (topS 44)) (defScope (topS 44)) .none kV__law_body dc__law_body pm__law_body an__law_body cd__law_body ct__law_body), sl__law_body⟩)
    (c__law_body : PySem.W.codeIn K cd__law_body "_law_body" = true)
    (k__law_body : PySem.W.keepIn K (.ref a__law_body) = true)
    (z__law_fields : PySem.W.nsIn K mainGlobals "_law_fields" = some (some (.ref a__law_fields)))
    (l__law_fields : K.lookup a__law_fields = some ⟨oc__law_fields, od__law_fields, .func (PySem.W.fnOf "_law_fields" "_law_fields" (defArgs (topS 49)) (defBody (topS 49)) (defScope (topS 49)) .none kV__law_fields dc__law_fields pm__law_fields an__law_fields cd__law_fields ct__law_fields), sl__law_fields⟩)
    (c__law_fields : PySem.W.codeIn K cd__law_fields "_law_fields" = true)
    (k__law_fields : PySem.W.keepIn K (.ref a__law_fields) = true)
    (z__law_classes : PySem.W.nsIn K mainGlobals "_law_classes" = some (some (.ref a__law_classes)))
    (l__law_classes : K.lookup a__law_classes = some ⟨oc__law_classes, od__law_classes, .func (PySem.W.fnOf "_law_classes" "_law_classes" (defArgs (topS 50)) (defBody (topS 50)) (defScope (topS 50)) .none kV__law_classes dc__law_classes pm__law_classes an__law_classes cd__law_classes ct__law_classes), sl__law_classes⟩)
    (c__law_classes : PySem.W.codeIn K cd__law_classes "_law_classes" = true)
    (k__law_classes : PySem.W.keepIn K (.ref a__law_classes) = true)
    (z__law_bases : PySem.W.nsIn K mainGlobals "_law_bases" = some (some (.ref a__law_bases)))
    (l__law_bases : K.lookup a__law_bases = some ⟨oc__law_bases, od__law_bases, .func (PySem.W.fnOf "_law_bases" "_law_bases" (defArgs (topS 51)) (defBody (topS 51)) (defScope (topS 51)) .none kV__law_bases dc__law_bases pm__law_bases an__law_bases cd__law_bases ct__law_bases), sl__law_bases⟩)
    (c__law_bases : PySem.W.codeIn K cd__law_bases "_law_bases" = true)
    (k__law_bases : PySem.W.keepIn K (.ref a__law_bases) = true)
    (z_is_light : PySem.W.nsIn K mainGlobals "is_light" = some (some (.ref a_is_light)))
    (l_is_light : K.lookup a_is_light = some ⟨oc_is_light, od_is_light, .func (PySem.W.fnOf "is_light" "is_light" (defArgs (topS 6)) (defBody (topS 6)) (defScope (topS 6)) .none kV_is_light dc_is_light pm_is_light an_is_light cd_is_light ct_is_light), sl_is_light⟩)
    (c_is_light : PySem.W.codeIn K cd_is_light "is_light" = true)
    (k_is_light : PySem.W.keepIn K (.ref a_is_light) = true)
    (z_is_twin : PySem.W.nsIn K mainGlobals "is_twin" = some (some (.ref a_is_twin)))
    (l_is_twin : K.lookup a_is_twin = some ⟨oc_is_twin, od_is_twin, .func (PySem.W.fnOf "is_twin" "is_twin" (defArgs (topS 7)) (defBody (topS 7)) (defScope (topS 7)) .none kV_is_twin dc_is_twin pm_is_twin an_is_twin cd_is_twin ct_is_twin), sl_is_twin⟩)
    (c_is_twin : PySem.W.codeIn K cd_is_twin "is_twin" = true)
    (k_is_twin : PySem.W.keepIn K (.ref a_is_twin) = true)
    (z_is_reserve : PySem.W.nsIn K mainGlobals "is_reserve" = some (some (.ref a_is_reserve)))
    (l_is_reserve : K.lookup a_is_reserve = some ⟨oc_is_reserve, od_is_reserve, .func (PySem.W.fnOf "is_reserve" "is_reserve" (defArgs (topS 8)) (defBody (topS 8)) (defScope (topS 8)) .none kV_is_reserve dc_is_reserve pm_is_reserve an_is_reserve cd_is_reserve ct_is_reserve), sl_is_reserve⟩)
    (c_is_reserve : PySem.W.codeIn K cd_is_reserve "is_reserve" = true)
    (k_is_reserve : PySem.W.keepIn K (.ref a_is_reserve) = true)
    (z__law_pick : PySem.W.nsIn K mainGlobals "_law_pick" = some (some (.ref a__law_pick)))
    (l__law_pick : K.lookup a__law_pick = some ⟨oc__law_pick, od__law_pick, .func (PySem.W.fnOf "_law_pick" "_law_pick" (defArgs (topS 40)) (defBody (topS 40)) (defScope (topS 40)) .none kV__law_pick dc__law_pick pm__law_pick an__law_pick cd__law_pick ct__law_pick), sl__law_pick⟩)
    (c__law_pick : PySem.W.codeIn K cd__law_pick "_law_pick" = true)
    (k__law_pick : PySem.W.keepIn K (.ref a__law_pick) = true)
    (z__law_word : PySem.W.nsIn K mainGlobals "_law_word" = some (some (.ref a__law_word)))
    (l__law_word : K.lookup a__law_word = some ⟨oc__law_word, od__law_word, .func (PySem.W.fnOf "_law_word" "_law_word" (defArgs (topS 42)) (defBody (topS 42)) (defScope (topS 42)) .none kV__law_word dc__law_word pm__law_word an__law_word cd__law_word ct__law_word), sl__law_word⟩)
    (c__law_word : PySem.W.codeIn K cd__law_word "_law_word" = true)
    (k__law_word : PySem.W.keepIn K (.ref a__law_word) = true)
    (z__law_items_right : PySem.W.nsIn K mainGlobals "_law_items_right" = some (some (.ref a__law_items_right)))
    (l__law_items_right : K.lookup a__law_items_right = some ⟨oc__law_items_right, od__law_items_right, .func (PySem.W.fnOf "_law_items_right" "_law_items_right" (defArgs (topS 46)) (defBody (topS 46)) (defScope (topS 46)) .none kV__law_items_right dc__law_items_right pm__law_items_right an__law_items_right cd__law_items_right ct__law_items_right), sl__law_items_right⟩)
    (c__law_items_right : PySem.W.codeIn K cd__law_items_right "_law_items_right" = true)
    (k__law_items_right : PySem.W.keepIn K (.ref a__law_items_right) = true)
    (z_is_item : PySem.W.nsIn K mainGlobals "is_item" = some (some (.ref a_is_item)))
    (l_is_item : K.lookup a_is_item = some ⟨oc_is_item, od_is_item, .func (PySem.W.fnOf "is_item" "is_item" (defArgs (topS 9)) (defBody (topS 9)) (defScope (topS 9)) .none kV_is_item dc_is_item pm_is_item an_is_item cd_is_item ct_is_item), sl_is_item⟩)
    (c_is_item : PySem.W.codeIn K cd_is_item "is_item" = true)
    (k_is_item : PySem.W.keepIn K (.ref a_is_item) = true)
    (z__law_odd : PySem.W.nsIn K mainGlobals "_law_odd" = some (some (.ref a__law_odd)))
    (l__law_odd : K.lookup a__law_odd = some ⟨oc__law_odd, od__law_odd, .func (PySem.W.fnOf "_law_odd" "_law_odd" (defArgs (topS 41)) (defBody (topS 41)) (defScope (topS 41)) .none kV__law_odd dc__law_odd pm__law_odd an__law_odd cd__law_odd ct__law_odd), sl__law_odd⟩)
    (c__law_odd : PySem.W.codeIn K cd__law_odd "_law_odd" = true)
    (k__law_odd : PySem.W.keepIn K (.ref a__law_odd) = true)
    (z__law_made : PySem.W.nsIn K mainGlobals "_law_made" = some (some (.ref a__law_made)))
    (l__law_made : K.lookup a__law_made = some ⟨oc__law_made, od__law_made, .func (PySem.W.fnOf "_law_made" "_law_made" (defArgs (topS 47)) (defBody (topS 47)) (defScope (topS 47)) .none kV__law_made dc__law_made pm__law_made an__law_made cd__law_made ct__law_made), sl__law_made⟩)
    (c__law_made : PySem.W.codeIn K cd__law_made "_law_made" = true)
    (k__law_made : PySem.W.keepIn K (.ref a__law_made) = true)
    (z__law_named : PySem.W.nsIn K mainGlobals "_law_named" = some (some (.ref a__law_named)))
    (l__law_named : K.lookup a__law_named = some ⟨oc__law_named, od__law_named, .func (PySem.W.fnOf "_law_named" "_law_named" (defArgs (topS 48)) (defBody (topS 48)) (defScope (topS 48)) .none kV__law_named dc__law_named pm__law_named an__law_named cd__law_named ct__law_named), sl__law_named⟩)
    (c__law_named : PySem.W.codeIn K cd__law_named "_law_named" = true)
    (k__law_named : PySem.W.keepIn K (.ref a__law_named) = true)
    (z__law_value : PySem.W.nsIn K mainGlobals "_law_value" = some (some (.ref a__law_value)))
    (l__law_value : K.lookup a__law_value = some ⟨oc__law_value, od__law_value, .func (PySem.W.fnOf "_law_value" "_law_value" (defArgs (topS 43)) (defBody (topS 43)) (defScope (topS 43)) .none kV__law_value dc__law_value pm__law_value an__law_value cd__law_value ct__law_value), sl__law_value⟩)
    (c__law_value : PySem.W.codeIn K cd__law_value "_law_value" = true)
    (k__law_value : PySem.W.keepIn K (.ref a__law_value) = true)
    (z__law_told_right : PySem.W.nsIn K mainGlobals "_law_told_right" = some (some (.ref a__law_told_right)))
    (l__law_told_right : K.lookup a__law_told_right = some ⟨oc__law_told_right, od__law_told_right, .func (PySem.W.fnOf "_law_told_right" "_law_told_right" (defArgs (topS 45)) (defBody (topS 45)) (defScope (topS 45)) .none kV__law_told_right dc__law_told_right pm__law_told_right an__law_told_right cd__law_told_right ct__law_told_right), sl__law_told_right⟩)
    (c__law_told_right : PySem.W.codeIn K cd__law_told_right "_law_told_right" = true)
    (k__law_told_right : PySem.W.keepIn K (.ref a__law_told_right) = true)
    (z__law_errors_right : PySem.W.nsIn K mainGlobals "_law_errors_right" = some (some (.ref a__law_errors_right)))
    (l__law_errors_right : K.lookup a__law_errors_right = some ⟨oc__law_errors_right, od__law_errors_right, .func (PySem.W.fnOf "_law_errors_right" "_law_errors_right" (defArgs (topS 52)) (defBody (topS 52)) (defScope (topS 52)) .none kV__law_errors_right dc__law_errors_right pm__law_errors_right an__law_errors_right cd__law_errors_right ct__law_errors_right), sl__law_errors_right⟩)
    (c__law_errors_right : PySem.W.codeIn K cd__law_errors_right "_law_errors_right" = true)
    (k__law_errors_right : PySem.W.keepIn K (.ref a__law_errors_right) = true)
    (z_law : PySem.W.nsIn K mainGlobals "law" = some (some (.ref a_law)))
    (l_law : K.lookup a_law = some ⟨oc_law, od_law, .func (PySem.W.fnOf "law" "law" (defArgs (topS 53)) (defBody (topS 53)) (defScope (topS 53)) .none kV_law dc_law pm_law an_law cd_law ct_law), sl_law⟩)
    (c_law : PySem.W.codeIn K cd_law "law" = true)
    (k_law : PySem.W.keepIn K (.ref a_law) = true)
    (zn_super : PySem.W.nsIn K mainGlobals "super" = some none)
    (z_LightError : PySem.W.nsIn K mainGlobals "LightError" = some (some (.ref C_LightError)))
    (z_InvalidNet : PySem.W.nsIn K mainGlobals "InvalidNet" = some (some (.ref C_InvalidNet)))
    (z_InvalidLayout : PySem.W.nsIn K mainGlobals "InvalidLayout" = some (some (.ref C_InvalidLayout)))
    (z_NotAllowed : PySem.W.nsIn K mainGlobals "NotAllowed" = some (some (.ref C_NotAllowed)))
    (z_Turned : PySem.W.nsIn K mainGlobals "Turned" = some (some (.ref C_Turned)))
    (z_ParseError : PySem.W.nsIn K mainGlobals "ParseError" = some (some (.ref C_ParseError)))
    (z_InvalidRoute : PySem.W.nsIn K mainGlobals "InvalidRoute" = some (some (.ref C_InvalidRoute)))
    (z_TooFar : PySem.W.nsIn K mainGlobals "TooFar" = some (some (.ref C_TooFar)))
    (z_InvalidBand : PySem.W.nsIn K mainGlobals "InvalidBand" = some (some (.ref C_InvalidBand)))
    (z_InvalidWish : PySem.W.nsIn K mainGlobals "InvalidWish" = some (some (.ref C_InvalidWish)))
    (z_Unlike : PySem.W.nsIn K mainGlobals "Unlike" = some (some (.ref C_Unlike)))
    (z_Circular : PySem.W.nsIn K mainGlobals "Circular" = some (some (.ref C_Circular)))
    (z_Barred : PySem.W.nsIn K mainGlobals "Barred" = some (some (.ref C_Barred)))
    (z_UnknownCommand : PySem.W.nsIn K mainGlobals "UnknownCommand" = some (some (.ref C_UnknownCommand)))
    (z_NoItem : PySem.W.nsIn K mainGlobals "NoItem" = some (some (.ref C_NoItem)))
    (z_NoStation : PySem.W.nsIn K mainGlobals "NoStation" = some (some (.ref C_NoStation)))
    (z_NoDuct : PySem.W.nsIn K mainGlobals "NoDuct" = some (some (.ref C_NoDuct)))
    (z_NoName : PySem.W.nsIn K mainGlobals "NoName" = some (some (.ref C_NoName)))
    (z_NoFibre : PySem.W.nsIn K mainGlobals "NoFibre" = some (some (.ref C_NoFibre)))
    (z_TooMany : PySem.W.nsIn K mainGlobals "TooMany" = some (some (.ref C_TooMany)))
    (z_TooWide : PySem.W.nsIn K mainGlobals "TooWide" = some (some (.ref C_TooWide)))
    (z_TooNarrow : PySem.W.nsIn K mainGlobals "TooNarrow" = some (some (.ref C_TooNarrow)))
    (z_NothingToUndo : PySem.W.nsIn K mainGlobals "NothingToUndo" = some (some (.ref C_NothingToUndo)))
    (o1_InvalidNet : K.lookup C_InvalidNet = some (excClassObj nm_InvalidNet q_InvalidNet C_InvalidNet N_InvalidNet bs_InvalidNet bm_InvalidNet true sn_InvalidNet sub_InvalidNet ab_InvalidNet col_InvalidNet dd_InvalidNet k0_InvalidNet k1_InvalidNet k2_InvalidNet k3_InvalidNet k5_InvalidNet "ValueError.__new__"))
    (o2_InvalidNet : PySem.HandSPX.refsVE bm_InvalidNet = true)
    (o3_InvalidNet : PySem.W.findIn K (.ref C_InvalidNet) "__setattr__" = some (some (.builtin "object.__setattr__")))
    (o4_InvalidNet : PySem.W.subIn K (.ref C_InvalidNet) (.type "BaseException") = some true)
    (o5_InvalidNet : PySem.W.typeIn K (.ref C_InvalidNet) = some (.type "type"))
    (o6_InvalidNet : PySem.W.keepIn K (.ref C_InvalidNet) = true)
    (e1_InvalidNet : PySem.W.findIn K (.ref C_InvalidNet) "__getattribute__" = some (some (.builtin "BaseException.__getattribute__")))
    (e2_InvalidNet : PySem.W.findIn K (.ref C_InvalidNet) "__getattr__" = some none)
    (e3_InvalidNet : PySem.W.hasDictIn K C_InvalidNet = true)
    (e4_InvalidNet : PySem.W.findIn K (.ref C_InvalidNet) "__class__" = some (some (.builtin "object.__class__")))
    (e5_InvalidNet : PySem.W.specialIn K (.builtin "object.__class__") "__get__" = some (some (.builtin "getset_descriptor.__get__")))
    (e6_InvalidNet : PySem.W.takesIn K (.builtin "object.__class__") = some true)
    (e7_InvalidNet : PySem.W.mroIn K C_InvalidNet (.type "object") = some true)
    (i1_InvalidNet : PySem.W.findIn K (.ref C_InvalidNet) "__init__" = some (some (.ref fI_InvalidNet)))
    (i2_InvalidNet : PySem.W.typeIn K (.ref fI_InvalidNet) = some (.type "function"))
    (i3_InvalidNet : K.lookup fI_InvalidNet = some ⟨x1_InvalidNet, x2_InvalidNet, .func (PySem.W.ksFn x9_InvalidNet "InvalidNet.__init__" (defArgs (clsS 15 0)) (defBody (clsS 15 0)) (defScope (clsS 15 0)) .none x4_InvalidNet x5_InvalidNet x6_InvalidNet x3_InvalidNet (.ref cda_InvalidNet) x7_InvalidNet cc_InvalidNet), x8_InvalidNet⟩)
    (i4_InvalidNet : PySem.W.codeIn K (.ref cda_InvalidNet) "InvalidNet.__init__" = true)
    (i5_InvalidNet : K.lookup cda_InvalidNet = some ⟨y1_InvalidNet, y2_InvalidNet, .fields y3_InvalidNet, y4_InvalidNet⟩)
    (i6_InvalidNet : y3_InvalidNet[2]? = some (.str y5_InvalidNet y6_InvalidNet))
    (i7_InvalidNet : ((P.main.file : Str) == y5_InvalidNet) = true)
    (i8_InvalidNet : K.lookup cc_InvalidNet = some ⟨w1_InvalidNet, w2_InvalidNet, .cell (some (.ref C_InvalidNet)), w3_InvalidNet⟩)
    (i9_InvalidNet : PySem.W.mroIn K C_InvalidNet (.ref C_InvalidNet) = some true)
    (j1_InvalidNet : (P.main.scope.names.lookup ("super" : Str)).isSome = false)
    (j2_InvalidNet : PySem.W.nsIn K cStatics "thirdparty.any" = some none)
    (j3_InvalidNet : PySem.W.ks_superIn K C_InvalidNet C_InvalidNet "__init__" = some (some (.builtin "ValueError.__init__")))
    (j4_InvalidNet : PySem.W.subIn K (.ref C_InvalidNet) (.type "ValueError") = some true)
    (j5_InvalidNet : PySem.W.findIn K (.ref C_InvalidNet) "word" = some none)
    (j6_InvalidNet : PySem.W.findIn K (.ref C_InvalidNet) "index" = some none)
    (o1_InvalidLayout : K.lookup C_InvalidLayout = some (excClassObj nm_InvalidLayout q_InvalidLayout C_InvalidLayout N_InvalidLayout bs_InvalidLayout bm_InvalidLayout true sn_InvalidLayout sub_InvalidLayout ab_InvalidLayout col_InvalidLayout dd_InvalidLayout k0_InvalidLayout k1_InvalidLayout k2_InvalidLayout k3_InvalidLayout k5_InvalidLayout "ValueError.__new__"))
    (o2_InvalidLayout : PySem.HandSPX.refsVE bm_InvalidLayout = true)
    (o3_InvalidLayout : PySem.W.findIn K (.ref C_InvalidLayout) "__setattr__" = some (some (.builtin "object.__setattr__")))
    (o4_InvalidLayout : PySem.W.subIn K (.ref C_InvalidLayout) (.type "BaseException") = some true)
    (o5_InvalidLayout : PySem.W.typeIn K (.ref C_InvalidLayout) = some (.type "type"))
    (o6_InvalidLayout : PySem.W.keepIn K (.ref C_InvalidLayout) = true)
    (e1_InvalidLayout : PySem.W.findIn K (.ref C_InvalidLayout) "__getattribute__" = some (some (.builtin "BaseException.__getattribute__")))
    (e2_InvalidLayout : PySem.W.findIn K (.ref C_InvalidLayout) "__getattr__" = some none)
    (e3_InvalidLayout : PySem.W.hasDictIn K C_InvalidLayout = true)
    (e4_InvalidLayout : PySem.W.findIn K (.ref C_InvalidLayout) "__class__" = some (some (.builtin "object.__class__")))
    (e5_InvalidLayout : PySem.W.specialIn K (.builtin "object.__class__") "__get__" = some (some (.builtin "getset_descriptor.__get__")))
    (e6_InvalidLayout : PySem.W.takesIn K (.builtin "object.__class__") = some true)
    (e7_InvalidLayout : PySem.W.mroIn K C_InvalidLayout (.type "object") = some true)
    (i1_InvalidLayout : PySem.W.findIn K (.ref C_InvalidLayout) "__init__" = some (some (.ref fI_InvalidLayout)))
    (i2_InvalidLayout : PySem.W.typeIn K (.ref fI_InvalidLayout) = some (.type "function"))
    (i3_InvalidLayout : K.lookup fI_InvalidLayout = some ⟨x1_InvalidLayout, x2_InvalidLayout, .func (PySem.W.ksFn x9_InvalidLayout "InvalidLayout.__init__" (defArgs (clsS 19 0)) (defBody (clsS 19 0)) (defScope (clsS 19 0)) .none x4_InvalidLayout x5_InvalidLayout x6_InvalidLayout x3_InvalidLayout (.ref cda_InvalidLayout) x7_InvalidLayout cc_InvalidLayout), x8_InvalidLayout⟩)
    (i4_InvalidLayout : PySem.W.codeIn K (.ref cda_InvalidLayout) "InvalidLayout.__init__" = true)
    (i5_InvalidLayout : K.lookup cda_InvalidLayout = some ⟨y1_InvalidLayout, y2_InvalidLayout, .fields y3_InvalidLayout, y4_InvalidLayout⟩)
    (i6_InvalidLayout : y3_InvalidLayout[2]? = some (.str y5_InvalidLayout y6_InvalidLayout))
    (i7_InvalidLayout : ((P.main.file : Str) == y5_InvalidLayout) = true)
    (i8_InvalidLayout : K.lookup cc_InvalidLayout = some ⟨w1_InvalidLayout, w2_InvalidLayout, .cell (some (.ref C_InvalidLayout)), w3_InvalidLayout⟩)
    (i9_InvalidLayout : PySem.W.mroIn K C_InvalidLayout (.ref C_InvalidLayout) = some true)
    (j1_InvalidLayout : (P.main.scope.names.lookup ("super" : Str)).isSome = false)
    (j2_InvalidLayout : PySem.W.nsIn K cStatics "thirdparty.any" = some none)
    (j3_InvalidLayout : PySem.W.ks_superIn K C_InvalidLayout C_InvalidLayout "__init__" = some (some (.builtin "ValueError.__init__")))
    (j4_InvalidLayout : PySem.W.subIn K (.ref C_InvalidLayout) (.type "ValueError") = some true)
    (j5_InvalidLayout : PySem.W.findIn K (.ref C_InvalidLayout) "word" = some none)
    (j6_InvalidLayout : PySem.W.findIn K (.ref C_InvalidLayout) "item" = some none)
    (o1_NotAllowed : K.lookup C_NotAllowed = some (excClassObj nm_NotAllowed q_NotAllowed C_NotAllowed N_NotAllowed bs_NotAllowed bm_NotAllowed true sn_NotAllowed sub_NotAllowed ab_NotAllowed col_NotAllowed dd_NotAllowed k0_NotAllowed k1_NotAllowed k2_NotAllowed k3_NotAllowed k5_NotAllowed "ValueError.__new__"))
    (o2_NotAllowed : PySem.HandSPX.refsVE bm_NotAllowed = true)
    (o3_NotAllowed : PySem.W.findIn K (.ref C_NotAllowed) "__setattr__" = some (some (.builtin "object.__setattr__")))
    (o4_NotAllowed : PySem.W.subIn K (.ref C_NotAllowed) (.type "BaseException") = some true)
    (o5_NotAllowed : PySem.W.typeIn K (.ref C_NotAllowed) = some (.type "type"))
    (o6_NotAllowed : PySem.W.keepIn K (.ref C_NotAllowed) = true)
    (e1_NotAllowed : PySem.W.findIn K (.ref C_NotAllowed) "__getattribute__" = some (some (.builtin "BaseException.__getattribute__")))
    (e2_NotAllowed : PySem.W.findIn K (.ref C_NotAllowed) "__getattr__" = some none)
    (e3_NotAllowed : PySem.W.hasDictIn K C_NotAllowed = true)
    (e4_NotAllowed : PySem.W.findIn K (.ref C_NotAllowed) "__class__" = some (some (.builtin "object.__class__")))
    (e5_NotAllowed : PySem.W.specialIn K (.builtin "object.__class__") "__get__" = some (some (.builtin "getset_descriptor.__get__")))
    (e6_NotAllowed : PySem.W.takesIn K (.builtin "object.__class__") = some true)
    (e7_NotAllowed : PySem.W.mroIn K C_NotAllowed (.type "object") = some true)
    (i1_NotAllowed : PySem.W.findIn K (.ref C_NotAllowed) "__init__" = some (some (.ref fI_NotAllowed)))
    (i2_NotAllowed : PySem.W.typeIn K (.ref fI_NotAllowed) = some (.type "function"))
    (i3_NotAllowed : K.lookup fI_NotAllowed = some ⟨x1_NotAllowed, x2_NotAllowed, .func (PySem.W.ksFn x9_NotAllowed "NotAllowed.__init__" (defArgs (clsS 21 0)) (defBody (clsS 21 0)) (defScope (clsS 21 0)) .none x4_NotAllowed x5_NotAllowed x6_NotAllowed x3_NotAllowed (.ref cda_NotAllowed) x7_NotAllowed cc_NotAllowed), x8_NotAllowed⟩)
    (i4_NotAllowed : PySem.W.codeIn K (.ref cda_NotAllowed) "NotAllowed.__init__" = true)
    (i5_NotAllowed : K.lookup cda_NotAllowed = some ⟨y1_NotAllowed, y2_NotAllowed, .fields y3_NotAllowed, y4_NotAllowed⟩)
    (i6_NotAllowed : y3_NotAllowed[2]? = some (.str y5_NotAllowed y6_NotAllowed))
    (i7_NotAllowed : ((P.main.file : Str) == y5_NotAllowed) = true)
    (i8_NotAllowed : K.lookup cc_NotAllowed = some ⟨w1_NotAllowed, w2_NotAllowed, .cell (some (.ref C_NotAllowed)), w3_NotAllowed⟩)
    (i9_NotAllowed : PySem.W.mroIn K C_NotAllowed (.ref C_NotAllowed) = some true)
    (j1_NotAllowed : (P.main.scope.names.lookup ("super" : Str)).isSome = false)
    (j2_NotAllowed : PySem.W.nsIn K cStatics "thirdparty.any" = some none)
    (j3_NotAllowed : PySem.W.ks_superIn K C_NotAllowed C_NotAllowed "__init__" = some (some (.builtin "ValueError.__init__")))
    (j4_NotAllowed : PySem.W.subIn K (.ref C_NotAllowed) (.type "ValueError") = some true)
    (j5_NotAllowed : PySem.W.findIn K (.ref C_NotAllowed) "index" = some none)
    (j6_NotAllowed : PySem.W.findIn K (.ref C_NotAllowed) "word" = some none)
    (o1_Turned : K.lookup C_Turned = some (excClassObj nm_Turned q_Turned C_Turned N_Turned bs_Turned bm_Turned true sn_Turned sub_Turned ab_Turned col_Turned dd_Turned k0_Turned k1_Turned k2_Turned k3_Turned k5_Turned "ValueError.__new__"))
    (o2_Turned : PySem.HandSPX.refsVE bm_Turned = true)
    (o3_Turned : PySem.W.findIn K (.ref C_Turned) "__setattr__" = some (some (.builtin "object.__setattr__")))
    (o4_Turned : PySem.W.subIn K (.ref C_Turned) (.type "BaseException") = some true)
    (o5_Turned : PySem.W.typeIn K (.ref C_Turned) = some (.type "type"))
    (o6_Turned : PySem.W.keepIn K (.ref C_Turned) = true)
    (e1_Turned : PySem.W.findIn K (.ref C_Turned) "__getattribute__" = some (some (.builtin "BaseException.__getattribute__")))
    (e2_Turned : PySem.W.findIn K (.ref C_Turned) "__getattr__" = some none)
    (e3_Turned : PySem.W.hasDictIn K C_Turned = true)
    (e4_Turned : PySem.W.findIn K (.ref C_Turned) "__class__" = some (some (.builtin "object.__class__")))
    (e5_Turned : PySem.W.specialIn K (.builtin "object.__class__") "__get__" = some (some (.builtin "getset_descriptor.__get__")))
    (e6_Turned : PySem.W.takesIn K (.builtin "object.__class__") = some true)
    (e7_Turned : PySem.W.mroIn K C_Turned (.type "object") = some true)
    (i1_Turned : PySem.W.findIn K (.ref C_Turned) "__init__" = some (some (.ref fI_Turned)))
    (i2_Turned : PySem.W.typeIn K (.ref fI_Turned) = some (.type "function"))
    (i3_Turned : K.lookup fI_Turned = some ⟨x1_Turned, x2_Turned, .func (PySem.W.ksFn x9_Turned "Turned.__init__" (defArgs (clsS 22 0)) (defBody (clsS 22 0)) (defScope (clsS 22 0)) .none x4_Turned x5_Turned x6_Turned x3_Turned (.ref cda_Turned) x7_Turned cc_Turned), x8_Turned⟩)
    (i4_Turned : PySem.W.codeIn K (.ref cda_Turned) "Turned.__init__" = true)
    (i5_Turned : K.lookup cda_Turned = some ⟨y1_Turned, y2_Turned, .fields y3_Turned, y4_Turned⟩)
    (i6_Turned : y3_Turned[2]? = some (.str y5_Turned y6_Turned))
    (i7_Turned : ((P.main.file : Str) == y5_Turned) = true)
    (i8_Turned : K.lookup cc_Turned = some ⟨w1_Turned, w2_Turned, .cell (some (.ref C_Turned)), w3_Turned⟩)
    (i9_Turned : PySem.W.mroIn K C_Turned (.ref C_Turned) = some true)
    (j1_Turned : (P.main.scope.names.lookup ("super" : Str)).isSome = false)
    (j2_Turned : PySem.W.nsIn K cStatics "thirdparty.any" = some none)
    (j3_Turned : PySem.W.ks_superIn K C_Turned C_Turned "__init__" = some (some (.builtin "ValueError.__init__")))
    (j4_Turned : PySem.W.subIn K (.ref C_Turned) (.type "ValueError") = some true)
    (j5_Turned : PySem.W.findIn K (.ref C_Turned) "lower" = some none)
    (j6_Turned : PySem.W.findIn K (.ref C_Turned) "upper" = some none)
    (o1_ParseError : K.lookup C_ParseError = some (excClassObj nm_ParseError q_ParseError C_ParseError N_ParseError bs_ParseError bm_ParseError true sn_ParseError sub_ParseError ab_ParseError col_ParseError dd_ParseError k0_ParseError k1_ParseError k2_ParseError k3_ParseError k5_ParseError "ValueError.__new__"))
    (o2_ParseError : PySem.HandSPX.refsVE bm_ParseError = true)
    (o3_ParseError : PySem.W.findIn K (.ref C_ParseError) "__setattr__" = some (some (.builtin "object.__setattr__")))
    (o4_ParseError : PySem.W.subIn K (.ref C_ParseError) (.type "BaseException") = some true)
    (o5_ParseError : PySem.W.typeIn K (.ref C_ParseError) = some (.type "type"))
    (o6_ParseError : PySem.W.keepIn K (.ref C_ParseError) = true)
    (e1_ParseError : PySem.W.findIn K (.ref C_ParseError) "__getattribute__" = some (some (.builtin "BaseException.__getattribute__")))
    (e2_ParseError : PySem.W.findIn K (.ref C_ParseError) "__getattr__" = some none)
    (e3_ParseError : PySem.W.hasDictIn K C_ParseError = true)
    (e4_ParseError : PySem.W.findIn K (.ref C_ParseError) "__class__" = some (some (.builtin "object.__class__")))
    (e5_ParseError : PySem.W.specialIn K (.builtin "object.__class__") "__get__" = some (some (.builtin "getset_descriptor.__get__")))
    (e6_ParseError : PySem.W.takesIn K (.builtin "object.__class__") = some true)
    (e7_ParseError : PySem.W.mroIn K C_ParseError (.type "object") = some true)
    (i1_ParseError : PySem.W.findIn K (.ref C_ParseError) "__init__" = some (some (.ref fI_ParseError)))
    (i2_ParseError : PySem.W.typeIn K (.ref fI_ParseError) = some (.type "function"))
    (i3_ParseError : K.lookup fI_ParseError = some ⟨x1_ParseError, x2_ParseError, .func (PySem.W.ksFn x9_ParseError "ParseError.__init__" (defArgs (clsS 26 0)) (defBody (clsS 26 0)) (defScope (clsS 26 0)) .none x4_ParseError x5_ParseError x6_ParseError x3_ParseError (.ref cda_ParseError) x7_ParseError cc_ParseError), x8_ParseError⟩)
    (i4_ParseError : PySem.W.codeIn K (.ref cda_ParseError) "ParseError.__init__" = true)
    (i5_ParseError : K.lookup cda_ParseError = some ⟨y1_ParseError, y2_ParseError, .fields y3_ParseError, y4_ParseError⟩)
    (i6_ParseError : y3_ParseError[2]? = some (.str y5_ParseError y6_ParseError))
    (i7_ParseError : ((P.main.file : Str) == y5_ParseError) = true)
    (i8_ParseError : K.lookup cc_ParseError = some ⟨w1_ParseError, w2_ParseError, .cell (some (.ref C_ParseError)), w3_ParseError⟩)
    (i9_ParseError : PySem.W.mroIn K C_ParseError (.ref C_ParseError) = some true)
    (j1_ParseError : (P.main.scope.names.lookup ("super" : Str)).isSome = false)
    (j2_ParseError : PySem.W.nsIn K cStatics "thirdparty.any" = some none)
    (j3_ParseError : PySem.W.ks_superIn K C_ParseError C_ParseError "__init__" = some (some (.builtin "ValueError.__init__")))
    (j4_ParseError : PySem.W.subIn K (.ref C_ParseError) (.type "ValueError") = some true)
    (j5_ParseError : PySem.W.findIn K (.ref C_ParseError) "line" = some none)
    (j6_ParseError : PySem.W.findIn K (.ref C_ParseError) "word" = some none)
    (o1_InvalidRoute : K.lookup C_InvalidRoute = some (excClassObj nm_InvalidRoute q_InvalidRoute C_InvalidRoute N_InvalidRoute bs_InvalidRoute bm_InvalidRoute true sn_InvalidRoute sub_InvalidRoute ab_InvalidRoute col_InvalidRoute dd_InvalidRoute k0_InvalidRoute k1_InvalidRoute k2_InvalidRoute k3_InvalidRoute k5_InvalidRoute "ValueError.__new__"))
    (o2_InvalidRoute : PySem.HandSPX.refsVE bm_InvalidRoute = true)
    (o3_InvalidRoute : PySem.W.findIn K (.ref C_InvalidRoute) "__setattr__" = some (some (.builtin "object.__setattr__")))
    (o4_InvalidRoute : PySem.W.subIn K (.ref C_InvalidRoute) (.type "BaseException") = some true)
    (o5_InvalidRoute : PySem.W.typeIn K (.ref C_InvalidRoute) = some (.type "type"))
    (o6_InvalidRoute : PySem.W.keepIn K (.ref C_InvalidRoute) = true)
    (e1_InvalidRoute : PySem.W.findIn K (.ref C_InvalidRoute) "__getattribute__" = some (some (.builtin "BaseException.__getattribute__")))
    (e2_InvalidRoute : PySem.W.findIn K (.ref C_InvalidRoute) "__getattr__" = some none)
    (e3_InvalidRoute : PySem.W.hasDictIn K C_InvalidRoute = true)
    (e4_InvalidRoute : PySem.W.findIn K (.ref C_InvalidRoute) "__class__" = some (some (.builtin "object.__class__")))
    (e5_InvalidRoute : PySem.W.specialIn K (.builtin "object.__class__") "__get__" = some (some (.builtin "getset_descriptor.__get__")))
    (e6_InvalidRoute : PySem.W.takesIn K (.builtin "object.__class__") = some true)
    (e7_InvalidRoute : PySem.W.mroIn K C_InvalidRoute (.type "object") = some true)
    (i1_InvalidRoute : PySem.W.findIn K (.ref C_InvalidRoute) "__init__" = some (some (.ref fI_InvalidRoute)))
    (i2_InvalidRoute : PySem.W.typeIn K (.ref fI_InvalidRoute) = some (.type "function"))
    (i3_InvalidRoute : K.lookup fI_InvalidRoute = some ⟨x1_InvalidRoute, x2_InvalidRoute, .func (PySem.W.ksFn x9_InvalidRoute "InvalidRoute.__init__" (defArgs (clsS 16 0)) (defBody (clsS 16 0)) (defScope (clsS 16 0)) .none x4_InvalidRoute x5_InvalidRoute x6_InvalidRoute x3_InvalidRoute (.ref cda_InvalidRoute) x7_InvalidRoute cc_InvalidRoute), x8_InvalidRoute⟩)
    (i4_InvalidRoute : PySem.W.codeIn K (.ref cda_InvalidRoute) "InvalidRoute.__init__" = true)
    (i5_InvalidRoute : K.lookup cda_InvalidRoute = some ⟨y1_InvalidRoute, y2_InvalidRoute, .fields y3_InvalidRoute, y4_InvalidRoute⟩)
    (i6_InvalidRoute : y3_InvalidRoute[2]? = some (.str y5_InvalidRoute y6_InvalidRoute))
    (i7_InvalidRoute : ((P.main.file : Str) == y5_InvalidRoute) = true)
    (i8_InvalidRoute : K.lookup cc_InvalidRoute = some ⟨w1_InvalidRoute, w2_InvalidRoute, .cell (some (.ref C_InvalidRoute)), w3_InvalidRoute⟩)
    (i9_InvalidRoute : PySem.W.mroIn K C_InvalidRoute (.ref C_InvalidRoute) = some true)
    (j1_InvalidRoute : (P.main.scope.names.lookup ("super" : Str)).isSome = false)
    (j2_InvalidRoute : PySem.W.nsIn K cStatics "thirdparty.any" = some none)
    (j3_InvalidRoute : PySem.W.ks_superIn K C_InvalidRoute C_InvalidRoute "__init__" = some (some (.builtin "ValueError.__init__")))
    (j4_InvalidRoute : PySem.W.subIn K (.ref C_InvalidRoute) (.type "ValueError") = some true)
    (j5_InvalidRoute : PySem.W.findIn K (.ref C_InvalidRoute) "value" = some none)
    (o1_TooFar : K.lookup C_TooFar = some (excClassObj nm_TooFar q_TooFar C_TooFar N_TooFar bs_TooFar bm_TooFar true sn_TooFar sub_TooFar ab_TooFar col_TooFar dd_TooFar k0_TooFar k1_TooFar k2_TooFar k3_TooFar k5_TooFar "ValueError.__new__"))
    (o2_TooFar : PySem.HandSPX.refsVE bm_TooFar = true)
    (o3_TooFar : PySem.W.findIn K (.ref C_TooFar) "__setattr__" = some (some (.builtin "object.__setattr__")))
    (o4_TooFar : PySem.W.subIn K (.ref C_TooFar) (.type "BaseException") = some true)
    (o5_TooFar : PySem.W.typeIn K (.ref C_TooFar) = some (.type "type"))
    (o6_TooFar : PySem.W.keepIn K (.ref C_TooFar) = true)
    (e1_TooFar : PySem.W.findIn K (.ref C_TooFar) "__getattribute__" = some (some (.builtin "BaseException.__getattribute__")))
    (e2_TooFar : PySem.W.findIn K (.ref C_TooFar) "__getattr__" = some none)
    (e3_TooFar : PySem.W.hasDictIn K C_TooFar = true)
    (e4_TooFar : PySem.W.findIn K (.ref C_TooFar) "__class__" = some (some (.builtin "object.__class__")))
    (e5_TooFar : PySem.W.specialIn K (.builtin "object.__class__") "__get__" = some (some (.builtin "getset_descriptor.__get__")))
    (e6_TooFar : PySem.W.takesIn K (.builtin "object.__class__") = some true)
    (e7_TooFar : PySem.W.mroIn K C_TooFar (.type "object") = some true)
    (i1_TooFar : PySem.W.findIn K (.ref C_TooFar) "__init__" = some (some (.ref fI_TooFar)))
    (i2_TooFar : PySem.W.typeIn K (.ref fI_TooFar) = some (.type "function"))
    (i3_TooFar : K.lookup fI_TooFar = some ⟨x1_TooFar, x2_TooFar, .func (PySem.W.ksFn x9_TooFar "TooFar.__init__" (defArgs (clsS 17 0)) (defBody (clsS 17 0)) (defScope (clsS 17 0)) .none x4_TooFar x5_TooFar x6_TooFar x3_TooFar (.ref cda_TooFar) x7_TooFar cc_TooFar), x8_TooFar⟩)
    (i4_TooFar : PySem.W.codeIn K (.ref cda_TooFar) "TooFar.__init__" = true)
    (i5_TooFar : K.lookup cda_TooFar = some ⟨y1_TooFar, y2_TooFar, .fields y3_TooFar, y4_TooFar⟩)
    (i6_TooFar : y3_TooFar[2]? = some (.str y5_TooFar y6_TooFar))
    (i7_TooFar : ((P.main.file : Str) == y5_TooFar) = true)
    (i8_TooFar : K.lookup cc_TooFar = some ⟨w1_TooFar, w2_TooFar, .cell (some (.ref C_TooFar)), w3_TooFar⟩)
    (i9_TooFar : PySem.W.mroIn K C_TooFar (.ref C_TooFar) = some true)
    (j1_TooFar : (P.main.scope.names.lookup ("super" : Str)).isSome = false)
    (j2_TooFar : PySem.W.nsIn K cStatics "thirdparty.any" = some none)
    (j3_TooFar : PySem.W.ks_superIn K C_TooFar C_TooFar "__init__" = some (some (.builtin "ValueError.__init__")))
    (j4_TooFar : PySem.W.subIn K (.ref C_TooFar) (.type "ValueError") = some true)
    (j5_TooFar : PySem.W.findIn K (.ref C_TooFar) "length" = some none)
    (o1_InvalidBand : K.lookup C_InvalidBand = some (excClassObj nm_InvalidBand q_InvalidBand C_InvalidBand N_InvalidBand bs_InvalidBand bm_InvalidBand true sn_InvalidBand sub_InvalidBand ab_InvalidBand col_InvalidBand dd_InvalidBand k0_InvalidBand k1_InvalidBand k2_InvalidBand k3_InvalidBand k5_InvalidBand "ValueError.__new__"))
    (o2_InvalidBand : PySem.HandSPX.refsVE bm_InvalidBand = true)
    (o3_InvalidBand : PySem.W.findIn K (.ref C_InvalidBand) "__setattr__" = some (some (.builtin "object.__setattr__")))
    (o4_InvalidBand : PySem.W.subIn K (.ref C_InvalidBand) (.type "BaseException") = some true)
    (o5_InvalidBand : PySem.W.typeIn K (.ref C_InvalidBand) = some (.type "type"))
    (o6_InvalidBand : PySem.W.keepIn K (.ref C_InvalidBand) = true)
    (e1_InvalidBand : PySem.W.findIn K (.ref C_InvalidBand) "__getattribute__" = some (some (.builtin "BaseException.__getattribute__")))
    (e2_InvalidBand : PySem.W.findIn K (.ref C_InvalidBand) "__getattr__" = some none)
    (e3_InvalidBand : PySem.W.hasDictIn K C_InvalidBand = true)
    (e4_InvalidBand : PySem.W.findIn K (.ref C_InvalidBand) "__class__" = some (some (.builtin "object.__class__")))
    (e5_InvalidBand : PySem.W.specialIn K (.builtin "object.__class__") "__get__" = some (some (.builtin "getset_descriptor.__get__")))
    (e6_InvalidBand : PySem.W.takesIn K (.builtin "object.__class__") = some true)
    (e7_InvalidBand : PySem.W.mroIn K C_InvalidBand (.type "object") = some true)
    (i1_InvalidBand : PySem.W.findIn K (.ref C_InvalidBand) "__init__" = some (some (.ref fI_InvalidBand)))
    (i2_InvalidBand : PySem.W.typeIn K (.ref fI_InvalidBand) = some (.type "function"))
    (i3_InvalidBand : K.lookup fI_InvalidBand = some ⟨x1_InvalidBand, x2_InvalidBand, .func (PySem.W.ksFn x9_InvalidBand "InvalidBand.__init__" (defArgs (clsS 18 0)) (defBody (clsS 18 0)) (defScope (clsS 18 0)) .none x4_InvalidBand x5_InvalidBand x6_InvalidBand x3_InvalidBand (.ref cda_InvalidBand) x7_InvalidBand cc_InvalidBand), x8_InvalidBand⟩)
    (i4_InvalidBand : PySem.W.codeIn K (.ref cda_InvalidBand) "InvalidBand.__init__" = true)
    (i5_InvalidBand : K.lookup cda_InvalidBand = some ⟨y1_InvalidBand, y2_InvalidBand, .fields y3_InvalidBand, y4_InvalidBand⟩)
    (i6_InvalidBand : y3_InvalidBand[2]? = some (.str y5_InvalidBand y6_InvalidBand))
    (i7_InvalidBand : ((P.main.file : Str) == y5_InvalidBand) = true)
    (i8_InvalidBand : K.lookup cc_InvalidBand = some ⟨w1_InvalidBand, w2_InvalidBand, .cell (some (.ref C_InvalidBand)), w3_InvalidBand⟩)
    (i9_InvalidBand : PySem.W.mroIn K C_InvalidBand (.ref C_InvalidBand) = some true)
    (j1_InvalidBand : (P.main.scope.names.lookup ("super" : Str)).isSome = false)
    (j2_InvalidBand : PySem.W.nsIn K cStatics "thirdparty.any" = some none)
    (j3_InvalidBand : PySem.W.ks_superIn K C_InvalidBand C_InvalidBand "__init__" = some (some (.builtin "ValueError.__init__")))
    (j4_InvalidBand : PySem.W.subIn K (.ref C_InvalidBand) (.type "ValueError") = some true)
    (j5_InvalidBand : PySem.W.findIn K (.ref C_InvalidBand) "value" = some none)
    (o1_InvalidWish : K.lookup C_InvalidWish = some (excClassObj nm_InvalidWish q_InvalidWish C_InvalidWish N_InvalidWish bs_InvalidWish bm_InvalidWish true sn_InvalidWish sub_InvalidWish ab_InvalidWish col_InvalidWish dd_InvalidWish k0_InvalidWish k1_InvalidWish k2_InvalidWish k3_InvalidWish k5_InvalidWish "ValueError.__new__"))
    (o2_InvalidWish : PySem.HandSPX.refsVE bm_InvalidWish = true)
    (o3_InvalidWish : PySem.W.findIn K (.ref C_InvalidWish) "__setattr__" = some (some (.builtin "object.__setattr__")))
    (o4_InvalidWish : PySem.W.subIn K (.ref C_InvalidWish) (.type "BaseException") = some true)
    (o5_InvalidWish : PySem.W.typeIn K (.ref C_InvalidWish) = some (.type "type"))
    (o6_InvalidWish : PySem.W.keepIn K (.ref C_InvalidWish) = true)
    (e1_InvalidWish : PySem.W.findIn K (.ref C_InvalidWish) "__getattribute__" = some (some (.builtin "BaseException.__getattribute__")))
    (e2_InvalidWish : PySem.W.findIn K (.ref C_InvalidWish) "__getattr__" = some none)
    (e3_InvalidWish : PySem.W.hasDictIn K C_InvalidWish = true)
    (e4_InvalidWish : PySem.W.findIn K (.ref C_InvalidWish) "__class__" = some (some (.builtin "object.__class__")))
    (e5_InvalidWish : PySem.W.specialIn K (.builtin "object.__class__") "__get__" = some (some (.builtin "getset_descriptor.__get__")))
    (e6_InvalidWish : PySem.W.takesIn K (.builtin "object.__class__") = some true)
    (e7_InvalidWish : PySem.W.mroIn K C_InvalidWish (.type "object") = some true)
    (i1_InvalidWish : PySem.W.findIn K (.ref C_InvalidWish) "__init__" = some (some (.ref fI_InvalidWish)))
    (i2_InvalidWish : PySem.W.typeIn K (.ref fI_InvalidWish) = some (.type "function"))
    (i3_InvalidWish : K.lookup fI_InvalidWish = some ⟨x1_InvalidWish, x2_InvalidWish, .func (PySem.W.ksFn x9_InvalidWish "InvalidWish.__init__" (defArgs (clsS 20 0)) (defBody (clsS 20 0)) (defScope (clsS 20 0)) .none x4_InvalidWish x5_InvalidWish x6_InvalidWish x3_InvalidWish (.ref cda_InvalidWish) x7_InvalidWish cc_InvalidWish), x8_InvalidWish⟩)
    (i4_InvalidWish : PySem.W.codeIn K (.ref cda_InvalidWish) "InvalidWish.__init__" = true)
    (i5_InvalidWish : K.lookup cda_InvalidWish = some ⟨y1_InvalidWish, y2_InvalidWish, .fields y3_InvalidWish, y4_InvalidWish⟩)
    (i6_InvalidWish : y3_InvalidWish[2]? = some (.str y5_InvalidWish y6_InvalidWish))
    (i7_InvalidWish : ((P.main.file : Str) == y5_InvalidWish) = true)
    (i8_InvalidWish : K.lookup cc_InvalidWish = some ⟨w1_InvalidWish, w2_InvalidWish, .cell (some (.ref C_InvalidWish)), w3_InvalidWish⟩)
    (i9_InvalidWish : PySem.W.mroIn K C_InvalidWish (.ref C_InvalidWish) = some true)
    (j1_InvalidWish : (P.main.scope.names.lookup ("super" : Str)).isSome = false)
    (j2_InvalidWish : PySem.W.nsIn K cStatics "thirdparty.any" = some none)
    (j3_InvalidWish : PySem.W.ks_superIn K C_InvalidWish C_InvalidWish "__init__" = some (some (.builtin "ValueError.__init__")))
    (j4_InvalidWish : PySem.W.subIn K (.ref C_InvalidWish) (.type "ValueError") = some true)
    (j5_InvalidWish : PySem.W.findIn K (.ref C_InvalidWish) "word" = some none)
    (o1_Unlike : K.lookup C_Unlike = some (excClassObj nm_Unlike q_Unlike C_Unlike N_Unlike bs_Unlike bm_Unlike true sn_Unlike sub_Unlike ab_Unlike col_Unlike dd_Unlike k0_Unlike k1_Unlike k2_Unlike k3_Unlike k5_Unlike "ValueError.__new__"))
    (o2_Unlike : PySem.HandSPX.refsVE bm_Unlike = true)
    (o3_Unlike : PySem.W.findIn K (.ref C_Unlike) "__setattr__" = some (some (.builtin "object.__setattr__")))
    (o4_Unlike : PySem.W.subIn K (.ref C_Unlike) (.type "BaseException") = some true)
    (o5_Unlike : PySem.W.typeIn K (.ref C_Unlike) = some (.type "type"))
    (o6_Unlike : PySem.W.keepIn K (.ref C_Unlike) = true)
    (e1_Unlike : PySem.W.findIn K (.ref C_Unlike) "__getattribute__" = some (some (.builtin "BaseException.__getattribute__")))
    (e2_Unlike : PySem.W.findIn K (.ref C_Unlike) "__getattr__" = some none)
    (e3_Unlike : PySem.W.hasDictIn K C_Unlike = true)
    (e4_Unlike : PySem.W.findIn K (.ref C_Unlike) "__class__" = some (some (.builtin "object.__class__")))
    (e5_Unlike : PySem.W.specialIn K (.builtin "object.__class__") "__get__" = some (some (.builtin "getset_descriptor.__get__")))
    (e6_Unlike : PySem.W.takesIn K (.builtin "object.__class__") = some true)
    (e7_Unlike : PySem.W.mroIn K C_Unlike (.type "object") = some true)
    (i1_Unlike : PySem.W.findIn K (.ref C_Unlike) "__init__" = some (some (.ref fI_Unlike)))
    (i2_Unlike : PySem.W.typeIn K (.ref fI_Unlike) = some (.type "function"))
    (i3_Unlike : K.lookup fI_Unlike = some ⟨x1_Unlike, x2_Unlike, .func (PySem.W.ksFn x9_Unlike "Unlike.__init__" (defArgs (clsS 23 0)) (defBody (clsS 23 0)) (defScope (clsS 23 0)) .none x4_Unlike x5_Unlike x6_Unlike x3_Unlike (.ref cda_Unlike) x7_Unlike cc_Unlike), x8_Unlike⟩)
    (i4_Unlike : PySem.W.codeIn K (.ref cda_Unlike) "Unlike.__init__" = true)
    (i5_Unlike : K.lookup cda_Unlike = some ⟨y1_Unlike, y2_Unlike, .fields y3_Unlike, y4_Unlike⟩)
    (i6_Unlike : y3_Unlike[2]? = some (.str y5_Unlike y6_Unlike))
    (i7_Unlike : ((P.main.file : Str) == y5_Unlike) = true)
    (i8_Unlike : K.lookup cc_Unlike = some ⟨w1_Unlike, w2_Unlike, .cell (some (.ref C_Unlike)), w3_Unlike⟩)
    (i9_Unlike : PySem.W.mroIn K C_Unlike (.ref C_Unlike) = some true)
    (j1_Unlike : (P.main.scope.names.lookup ("super" : Str)).isSome = false)
    (j2_Unlike : PySem.W.nsIn K cStatics "thirdparty.any" = some none)
    (j3_Unlike : PySem.W.ks_superIn K C_Unlike C_Unlike "__init__" = some (some (.builtin "ValueError.__init__")))
    (j4_Unlike : PySem.W.subIn K (.ref C_Unlike) (.type "ValueError") = some true)
    (j5_Unlike : PySem.W.findIn K (.ref C_Unlike) "item" = some none)
    (o1_Circular : K.lookup C_Circular = some (excClassObj nm_Circular q_Circular C_Circular N_Circular bs_Circular bm_Circular true sn_Circular sub_Circular ab_Circular col_Circular dd_Circular k0_Circular k1_Circular k2_Circular k3_Circular k5_Circular "ValueError.__new__"))
    (o2_Circular : PySem.HandSPX.refsVE bm_Circular = true)
    (o3_Circular : PySem.W.findIn K (.ref C_Circular) "__setattr__" = some (some (.builtin "object.__setattr__")))
    (o4_Circular : PySem.W.subIn K (.ref C_Circular) (.type "BaseException") = some true)
    (o5_Circular : PySem.W.typeIn K (.ref C_Circular) = some (.type "type"))
    (o6_Circular : PySem.W.keepIn K (.ref C_Circular) = true)
    (e1_Circular : PySem.W.findIn K (.ref C_Circular) "__getattribute__" = some (some (.builtin "BaseException.__getattribute__")))
    (e2_Circular : PySem.W.findIn K (.ref C_Circular) "__getattr__" = some none)
    (e3_Circular : PySem.W.hasDictIn K C_Circular = true)
    (e4_Circular : PySem.W.findIn K (.ref C_Circular) "__class__" = some (some (.builtin "object.__class__")))
    (e5_Circular : PySem.W.specialIn K (.builtin "object.__class__") "__get__" = some (some (.builtin "getset_descriptor.__get__")))
    (e6_Circular : PySem.W.takesIn K (.builtin "object.__class__") = some true)
    (e7_Circular : PySem.W.mroIn K C_Circular (.type "object") = some true)
    (i1_Circular : PySem.W.findIn K (.ref C_Circular) "__init__" = some (some (.ref fI_Circular)))
    (i2_Circular : PySem.W.typeIn K (.ref fI_Circular) = some (.type "function"))
    (i3_Circular : K.lookup fI_Circular = some ⟨x1_Circular, x2_Circular, .func (PySem.W.ksFn x9_Circular "Circular.__init__" (defArgs (clsS 24 0)) (defBody (clsS 24 0)) (defScope (clsS 24 0)) .none x4_Circular x5_Circular x6_Circular x3_Circular (.ref cda_Circular) x7_Circular cc_Circular), x8_Circular⟩)
    (i4_Circular : PySem.W.codeIn K (.ref cda_Circular) "Circular.__init__" = true)
    (i5_Circular : K.lookup cda_Circular = some ⟨y1_Circular, y2_Circular, .fields y3_Circular, y4_Circular⟩)
    (i6_Circular : y3_Circular[2]? = some (.str y5_Circular y6_Circular))
    (i7_Circular : ((P.main.file : Str) == y5_Circular) = true)
    (i8_Circular : K.lookup cc_Circular = some ⟨w1_Circular, w2_Circular, .cell (some (.ref C_Circular)), w3_Circular⟩)
    (i9_Circular : PySem.W.mroIn K C_Circular (.ref C_Circular) = some true)
    (j1_Circular : (P.main.scope.names.lookup ("super" : Str)).isSome = false)
    (j2_Circular : PySem.W.nsIn K cStatics "thirdparty.any" = some none)
    (j3_Circular : PySem.W.ks_superIn K C_Circular C_Circular "__init__" = some (some (.builtin "ValueError.__init__")))
    (j4_Circular : PySem.W.subIn K (.ref C_Circular) (.type "ValueError") = some true)
    (j5_Circular : PySem.W.findIn K (.ref C_Circular) "ring" = some none)
    (o1_Barred : K.lookup C_Barred = some (excClassObj nm_Barred q_Barred C_Barred N_Barred bs_Barred bm_Barred true sn_Barred sub_Barred ab_Barred col_Barred dd_Barred k0_Barred k1_Barred k2_Barred k3_Barred k5_Barred "ValueError.__new__"))
    (o2_Barred : PySem.HandSPX.refsVE bm_Barred = true)
    (o3_Barred : PySem.W.findIn K (.ref C_Barred) "__setattr__" = some (some (.builtin "object.__setattr__")))
    (o4_Barred : PySem.W.subIn K (.ref C_Barred) (.type "BaseException") = some true)
    (o5_Barred : PySem.W.typeIn K (.ref C_Barred) = some (.type "type"))
    (o6_Barred : PySem.W.keepIn K (.ref C_Barred) = true)
    (e1_Barred : PySem.W.findIn K (.ref C_Barred) "__getattribute__" = some (some (.builtin "BaseException.__getattribute__")))
    (e2_Barred : PySem.W.findIn K (.ref C_Barred) "__getattr__" = some none)
    (e3_Barred : PySem.W.hasDictIn K C_Barred = true)
    (e4_Barred : PySem.W.findIn K (.ref C_Barred) "__class__" = some (some (.builtin "object.__class__")))
    (e5_Barred : PySem.W.specialIn K (.builtin "object.__class__") "__get__" = some (some (.builtin "getset_descriptor.__get__")))
    (e6_Barred : PySem.W.takesIn K (.builtin "object.__class__") = some true)
    (e7_Barred : PySem.W.mroIn K C_Barred (.type "object") = some true)
    (i1_Barred : PySem.W.findIn K (.ref C_Barred) "__init__" = some (some (.ref fI_Barred)))
    (i2_Barred : PySem.W.typeIn K (.ref fI_Barred) = some (.type "function"))
    (i3_Barred : K.lookup fI_Barred = some ⟨x1_Barred, x2_Barred, .func (PySem.W.ksFn x9_Barred "Barred.__init__" (defArgs (clsS 25 0)) (defBody (clsS 25 0)) (defScope (clsS 25 0)) .none x4_Barred x5_Barred x6_Barred x3_Barred (.ref cda_Barred) x7_Barred cc_Barred), x8_Barred⟩)
    (i4_Barred : PySem.W.codeIn K (.ref cda_Barred) "Barred.__init__" = true)
    (i5_Barred : K.lookup cda_Barred = some ⟨y1_Barred, y2_Barred, .fields y3_Barred, y4_Barred⟩)
    (i6_Barred : y3_Barred[2]? = some (.str y5_Barred y6_Barred))
    (i7_Barred : ((P.main.file : Str) == y5_Barred) = true)
    (i8_Barred : K.lookup cc_Barred = some ⟨w1_Barred, w2_Barred, .cell (some (.ref C_Barred)), w3_Barred⟩)
    (i9_Barred : PySem.W.mroIn K C_Barred (.ref C_Barred) = some true)
    (j1_Barred : (P.main.scope.names.lookup ("super" : Str)).isSome = false)
    (j2_Barred : PySem.W.nsIn K cStatics "thirdparty.any" = some none)
    (j3_Barred : PySem.W.ks_superIn K C_Barred C_Barred "__init__" = some (some (.builtin "ValueError.__init__")))
    (j4_Barred : PySem.W.subIn K (.ref C_Barred) (.type "ValueError") = some true)
    (j5_Barred : PySem.W.findIn K (.ref C_Barred) "certificate" = some none)
    (o1_UnknownCommand : K.lookup C_UnknownCommand = some (excClassObj nm_UnknownCommand q_UnknownCommand C_UnknownCommand N_UnknownCommand bs_UnknownCommand bm_UnknownCommand true sn_UnknownCommand sub_UnknownCommand ab_UnknownCommand col_UnknownCommand dd_UnknownCommand k0_UnknownCommand k1_UnknownCommand k2_UnknownCommand k3_UnknownCommand k5_UnknownCommand "ValueError.__new__"))
    (o2_UnknownCommand : PySem.HandSPX.refsVE bm_UnknownCommand = true)
    (o3_UnknownCommand : PySem.W.findIn K (.ref C_UnknownCommand) "__setattr__" = some (some (.builtin "object.__setattr__")))
    (o4_UnknownCommand : PySem.W.subIn K (.ref C_UnknownCommand) (.type "BaseException") = some true)
    (o5_UnknownCommand : PySem.W.typeIn K (.ref C_UnknownCommand) = some (.type "type"))
    (o6_UnknownCommand : PySem.W.keepIn K (.ref C_UnknownCommand) = true)
    (e1_UnknownCommand : PySem.W.findIn K (.ref C_UnknownCommand) "__getattribute__" = some (some (.builtin "BaseException.__getattribute__")))
    (e2_UnknownCommand : PySem.W.findIn K (.ref C_UnknownCommand) "__getattr__" = some none)
    (e3_UnknownCommand : PySem.W.hasDictIn K C_UnknownCommand = true)
    (e4_UnknownCommand : PySem.W.findIn K (.ref C_UnknownCommand) "__class__" = some (some (.builtin "object.__class__")))
    (e5_UnknownCommand : PySem.W.specialIn K (.builtin "object.__class__") "__get__" = some (some (.builtin "getset_descriptor.__get__")))
    (e6_UnknownCommand : PySem.W.takesIn K (.builtin "object.__class__") = some true)
    (e7_UnknownCommand : PySem.W.mroIn K C_UnknownCommand (.type "object") = some true)
    (i1_UnknownCommand : PySem.W.findIn K (.ref C_UnknownCommand) "__init__" = some (some (.ref fI_UnknownCommand)))
    (i2_UnknownCommand : PySem.W.typeIn K (.ref fI_UnknownCommand) = some (.type "function"))
    (i3_UnknownCommand : K.lookup fI_UnknownCommand = some ⟨x1_UnknownCommand, x2_UnknownCommand, .func (PySem.W.ksFn x9_UnknownCommand "UnknownCommand.__init__" (defArgs (clsS 27 0)) (defBody (clsS 27 0)) (defScope (clsS 27 0)) .none x4_UnknownCommand x5_UnknownCommand x6_UnknownCommand x3_UnknownCommand (.ref cda_UnknownCommand) x7_UnknownCommand cc_UnknownCommand), x8_UnknownCommand⟩)
    (i4_UnknownCommand : PySem.W.codeIn K (.ref cda_UnknownCommand) "UnknownCommand.__init__" = true)
    (i5_UnknownCommand : K.lookup cda_UnknownCommand = some ⟨y1_UnknownCommand, y2_UnknownCommand, .fields y3_UnknownCommand, y4_UnknownCommand⟩)
    (i6_UnknownCommand : y3_UnknownCommand[2]? = some (.str y5_UnknownCommand y6_UnknownCommand))
    (i7_UnknownCommand : ((P.main.file : Str) == y5_UnknownCommand) = true)
    (i8_UnknownCommand : K.lookup cc_UnknownCommand = some ⟨w1_UnknownCommand, w2_UnknownCommand, .cell (some (.ref C_UnknownCommand)), w3_UnknownCommand⟩)
    (i9_UnknownCommand : PySem.W.mroIn K C_UnknownCommand (.ref C_UnknownCommand) = some true)
    (j1_UnknownCommand : (P.main.scope.names.lookup ("super" : Str)).isSome = false)
    (j2_UnknownCommand : PySem.W.nsIn K cStatics "thirdparty.any" = some none)
    (j3_UnknownCommand : PySem.W.ks_superIn K C_UnknownCommand C_UnknownCommand "__init__" = some (some (.builtin "ValueError.__init__")))
    (j4_UnknownCommand : PySem.W.subIn K (.ref C_UnknownCommand) (.type "ValueError") = some true)
    (j5_UnknownCommand : PySem.W.findIn K (.ref C_UnknownCommand) "command" = some none)
    (o1_NoItem : K.lookup C_NoItem = some (excClassObj nm_NoItem q_NoItem C_NoItem N_NoItem bs_NoItem EXI.keTail true sn_NoItem sub_NoItem ab_NoItem col_NoItem dd_NoItem k0_NoItem k1_NoItem k2_NoItem k3_NoItem k5_NoItem "LookupError.__new__"))
    (o3_NoItem : PySem.W.findIn K (.ref C_NoItem) "__setattr__" = some (some (.builtin "object.__setattr__")))
    (o4_NoItem : PySem.W.subIn K (.ref C_NoItem) (.type "BaseException") = some true)
    (o5_NoItem : PySem.W.typeIn K (.ref C_NoItem) = some (.type "type"))
    (o6_NoItem : PySem.W.keepIn K (.ref C_NoItem) = true)
    (e1_NoItem : PySem.W.findIn K (.ref C_NoItem) "__getattribute__" = some (some (.builtin "BaseException.__getattribute__")))
    (e2_NoItem : PySem.W.findIn K (.ref C_NoItem) "__getattr__" = some none)
    (e3_NoItem : PySem.W.hasDictIn K C_NoItem = true)
    (e4_NoItem : PySem.W.findIn K (.ref C_NoItem) "__class__" = some (some (.builtin "object.__class__")))
    (e5_NoItem : PySem.W.specialIn K (.builtin "object.__class__") "__get__" = some (some (.builtin "getset_descriptor.__get__")))
    (e6_NoItem : PySem.W.takesIn K (.builtin "object.__class__") = some true)
    (e7_NoItem : PySem.W.mroIn K C_NoItem (.type "object") = some true)
    (i1_NoItem : PySem.W.findIn K (.ref C_NoItem) "__init__" = some (some (.ref fI_NoItem)))
    (i2_NoItem : PySem.W.typeIn K (.ref fI_NoItem) = some (.type "function"))
    (i3_NoItem : K.lookup fI_NoItem = some ⟨x1_NoItem, x2_NoItem, .func (PySem.W.ksFn x9_NoItem "NoItem.__init__" (defArgs (clsS 28 0)) (defBody (clsS 28 0)) (defScope (clsS 28 0)) .none x4_NoItem x5_NoItem x6_NoItem x3_NoItem (.ref cda_NoItem) x7_NoItem cc_NoItem), x8_NoItem⟩)
    (i4_NoItem : PySem.W.codeIn K (.ref cda_NoItem) "NoItem.__init__" = true)
    (i5_NoItem : K.lookup cda_NoItem = some ⟨y1_NoItem, y2_NoItem, .fields y3_NoItem, y4_NoItem⟩)
    (i6_NoItem : y3_NoItem[2]? = some (.str y5_NoItem y6_NoItem))
    (i7_NoItem : ((P.main.file : Str) == y5_NoItem) = true)
    (i8_NoItem : K.lookup cc_NoItem = some ⟨w1_NoItem, w2_NoItem, .cell (some (.ref C_NoItem)), w3_NoItem⟩)
    (i9_NoItem : PySem.W.mroIn K C_NoItem (.ref C_NoItem) = some true)
    (j1_NoItem : (P.main.scope.names.lookup ("super" : Str)).isSome = false)
    (j2_NoItem : PySem.W.nsIn K cStatics "thirdparty.any" = some none)
    (j3_NoItem : PySem.W.ks_superIn K C_NoItem C_NoItem "__init__" = some (some (.builtin "KeyError.__init__")))
    (j4_NoItem : PySem.W.subIn K (.ref C_NoItem) (.type "KeyError") = some true)
    (j5_NoItem : PySem.W.findIn K (.ref C_NoItem) "item" = some none)
    (o1_NoStation : K.lookup C_NoStation = some (excClassObj nm_NoStation q_NoStation C_NoStation N_NoStation bs_NoStation EXI.keTail true sn_NoStation sub_NoStation ab_NoStation col_NoStation dd_NoStation k0_NoStation k1_NoStation k2_NoStation k3_NoStation k5_NoStation "LookupError.__new__"))
    (o3_NoStation : PySem.W.findIn K (.ref C_NoStation) "__setattr__" = some (some (.builtin "object.__setattr__")))
    (o4_NoStation : PySem.W.subIn K (.ref C_NoStation) (.type "BaseException") = some true)
    (o5_NoStation : PySem.W.typeIn K (.ref C_NoStation) = some (.type "type"))
    (o6_NoStation : PySem.W.keepIn K (.ref C_NoStation) = true)
    (e1_NoStation : PySem.W.findIn K (.ref C_NoStation) "__getattribute__" = some (some (.builtin "BaseException.__getattribute__")))
    (e2_NoStation : PySem.W.findIn K (.ref C_NoStation) "__getattr__" = some none)
    (e3_NoStation : PySem.W.hasDictIn K C_NoStation = true)
    (e4_NoStation : PySem.W.findIn K (.ref C_NoStation) "__class__" = some (some (.builtin "object.__class__")))
    (e5_NoStation : PySem.W.specialIn K (.builtin "object.__class__") "__get__" = some (some (.builtin "getset_descriptor.__get__")))
    (e6_NoStation : PySem.W.takesIn K (.builtin "object.__class__") = some true)
    (e7_NoStation : PySem.W.mroIn K C_NoStation (.type "object") = some true)
    (i1_NoStation : PySem.W.findIn K (.ref C_NoStation) "__init__" = some (some (.ref fI_NoStation)))
    (i2_NoStation : PySem.W.typeIn K (.ref fI_NoStation) = some (.type "function"))
    (i3_NoStation : K.lookup fI_NoStation = some ⟨x1_NoStation, x2_NoStation, .func (PySem.W.ksFn x9_NoStation "NoStation.__init__" (defArgs (clsS 29 0)) (defBody (clsS 29 0)) (defScope (clsS 29 0)) .none x4_NoStation x5_NoStation x6_NoStation x3_NoStation (.ref cda_NoStation) x7_NoStation cc_NoStation), x8_NoStation⟩)
    (i4_NoStation : PySem.W.codeIn K (.ref cda_NoStation) "NoStation.__init__" = true)
    (i5_NoStation : K.lookup cda_NoStation = some ⟨y1_NoStation, y2_NoStation, .fields y3_NoStation, y4_NoStation⟩)
    (i6_NoStation : y3_NoStation[2]? = some (.str y5_NoStation y6_NoStation))
    (i7_NoStation : ((P.main.file : Str) == y5_NoStation) = true)
    (i8_NoStation : K.lookup cc_NoStation = some ⟨w1_NoStation, w2_NoStation, .cell (some (.ref C_NoStation)), w3_NoStation⟩)
    (i9_NoStation : PySem.W.mroIn K C_NoStation (.ref C_NoStation) = some true)
    (j1_NoStation : (P.main.scope.names.lookup ("super" : Str)).isSome = false)
    (j2_NoStation : PySem.W.nsIn K cStatics "thirdparty.any" = some none)
    (j3_NoStation : PySem.W.ks_superIn K C_NoStation C_NoStation "__init__" = some (some (.builtin "KeyError.__init__")))
    (j4_NoStation : PySem.W.subIn K (.ref C_NoStation) (.type "KeyError") = some true)
    (j5_NoStation : PySem.W.findIn K (.ref C_NoStation) "name" = some none)
    (o1_NoDuct : K.lookup C_NoDuct = some (excClassObj nm_NoDuct q_NoDuct C_NoDuct N_NoDuct bs_NoDuct EXI.keTail true sn_NoDuct sub_NoDuct ab_NoDuct col_NoDuct dd_NoDuct k0_NoDuct k1_NoDuct k2_NoDuct k3_NoDuct k5_NoDuct "LookupError.__new__"))
    (o3_NoDuct : PySem.W.findIn K (.ref C_NoDuct) "__setattr__" = some (some (.builtin "object.__setattr__")))
    (o4_NoDuct : PySem.W.subIn K (.ref C_NoDuct) (.type "BaseException") = some true)
    (o5_NoDuct : PySem.W.typeIn K (.ref C_NoDuct) = some (.type "type"))
    (o6_NoDuct : PySem.W.keepIn K (.ref C_NoDuct) = true)
    (e1_NoDuct : PySem.W.findIn K (.ref C_NoDuct) "__getattribute__" = some (some (.builtin "BaseException.__getattribute__")))
    (e2_NoDuct : PySem.W.findIn K (.ref C_NoDuct) "__getattr__" = some none)
    (e3_NoDuct : PySem.W.hasDictIn K C_NoDuct = true)
    (e4_NoDuct : PySem.W.findIn K (.ref C_NoDuct) "__class__" = some (some (.builtin "object.__class__")))
    (e5_NoDuct : PySem.W.specialIn K (.builtin "object.__class__") "__get__" = some (some (.builtin "getset_descriptor.__get__")))
    (e6_NoDuct : PySem.W.takesIn K (.builtin "object.__class__") = some true)
    (e7_NoDuct : PySem.W.mroIn K C_NoDuct (.type "object") = some true)
    (i1_NoDuct : PySem.W.findIn K (.ref C_NoDuct) "__init__" = some (some (.ref fI_NoDuct)))
    (i2_NoDuct : PySem.W.typeIn K (.ref fI_NoDuct) = some (.type "function"))
    (i3_NoDuct : K.lookup fI_NoDuct = some ⟨x1_NoDuct, x2_NoDuct, .func (PySem.W.ksFn x9_NoDuct "NoDuct.__init__" (defArgs (clsS 30 0)) (defBody (clsS 30 0)) (defScope (clsS 30 0)) .none x4_NoDuct x5_NoDuct x6_NoDuct x3_NoDuct (.ref cda_NoDuct) x7_NoDuct cc_NoDuct), x8_NoDuct⟩)
    (i4_NoDuct : PySem.W.codeIn K (.ref cda_NoDuct) "NoDuct.__init__" = true)
    (i5_NoDuct : K.lookup cda_NoDuct = some ⟨y1_NoDuct, y2_NoDuct, .fields y3_NoDuct, y4_NoDuct⟩)
    (i6_NoDuct : y3_NoDuct[2]? = some (.str y5_NoDuct y6_NoDuct))
    (i7_NoDuct : ((P.main.file : Str) == y5_NoDuct) = true)
    (i8_NoDuct : K.lookup cc_NoDuct = some ⟨w1_NoDuct, w2_NoDuct, .cell (some (.ref C_NoDuct)), w3_NoDuct⟩)
    (i9_NoDuct : PySem.W.mroIn K C_NoDuct (.ref C_NoDuct) = some true)
    (j1_NoDuct : (P.main.scope.names.lookup ("super" : Str)).isSome = false)
    (j2_NoDuct : PySem.W.nsIn K cStatics "thirdparty.any" = some none)
    (j3_NoDuct : PySem.W.ks_superIn K C_NoDuct C_NoDuct "__init__" = some (some (.builtin "KeyError.__init__")))
    (j4_NoDuct : PySem.W.subIn K (.ref C_NoDuct) (.type "KeyError") = some true)
    (j5_NoDuct : PySem.W.findIn K (.ref C_NoDuct) "name" = some none)
    (o1_NoName : K.lookup C_NoName = some (excClassObj nm_NoName q_NoName C_NoName N_NoName bs_NoName EXI.keTail true sn_NoName sub_NoName ab_NoName col_NoName dd_NoName k0_NoName k1_NoName k2_NoName k3_NoName k5_NoName "LookupError.__new__"))
    (o3_NoName : PySem.W.findIn K (.ref C_NoName) "__setattr__" = some (some (.builtin "object.__setattr__")))
    (o4_NoName : PySem.W.subIn K (.ref C_NoName) (.type "BaseException") = some true)
    (o5_NoName : PySem.W.typeIn K (.ref C_NoName) = some (.type "type"))
    (o6_NoName : PySem.W.keepIn K (.ref C_NoName) = true)
    (e1_NoName : PySem.W.findIn K (.ref C_NoName) "__getattribute__" = some (some (.builtin "BaseException.__getattribute__")))
    (e2_NoName : PySem.W.findIn K (.ref C_NoName) "__getattr__" = some none)
    (e3_NoName : PySem.W.hasDictIn K C_NoName = true)
    (e4_NoName : PySem.W.findIn K (.ref C_NoName) "__class__" = some (some (.builtin "object.__class__")))
    (e5_NoName : PySem.W.specialIn K (.builtin "object.__class__") "__get__" = some (some (.builtin "getset_descriptor.__get__")))
    (e6_NoName : PySem.W.takesIn K (.builtin "object.__class__") = some true)
    (e7_NoName : PySem.W.mroIn K C_NoName (.type "object") = some true)
    (i1_NoName : PySem.W.findIn K (.ref C_NoName) "__init__" = some (some (.ref fI_NoName)))
    (i2_NoName : PySem.W.typeIn K (.ref fI_NoName) = some (.type "function"))
    (i3_NoName : K.lookup fI_NoName = some ⟨x1_NoName, x2_NoName, .func (PySem.W.ksFn x9_NoName "NoName.__init__" (defArgs (clsS 31 0)) (defBody (clsS 31 0)) (defScope (clsS 31 0)) .none x4_NoName x5_NoName x6_NoName x3_NoName (.ref cda_NoName) x7_NoName cc_NoName), x8_NoName⟩)
    (i4_NoName : PySem.W.codeIn K (.ref cda_NoName) "NoName.__init__" = true)
    (i5_NoName : K.lookup cda_NoName = some ⟨y1_NoName, y2_NoName, .fields y3_NoName, y4_NoName⟩)
    (i6_NoName : y3_NoName[2]? = some (.str y5_NoName y6_NoName))
    (i7_NoName : ((P.main.file : Str) == y5_NoName) = true)
    (i8_NoName : K.lookup cc_NoName = some ⟨w1_NoName, w2_NoName, .cell (some (.ref C_NoName)), w3_NoName⟩)
    (i9_NoName : PySem.W.mroIn K C_NoName (.ref C_NoName) = some true)
    (j1_NoName : (P.main.scope.names.lookup ("super" : Str)).isSome = false)
    (j2_NoName : PySem.W.nsIn K cStatics "thirdparty.any" = some none)
    (j3_NoName : PySem.W.ks_superIn K C_NoName C_NoName "__init__" = some (some (.builtin "KeyError.__init__")))
    (j4_NoName : PySem.W.subIn K (.ref C_NoName) (.type "KeyError") = some true)
    (j5_NoName : PySem.W.findIn K (.ref C_NoName) "name" = some none)
    (o1_NoFibre : K.lookup C_NoFibre = some (excClassObj nm_NoFibre q_NoFibre C_NoFibre N_NoFibre bs_NoFibre EXI.ieTail true sn_NoFibre sub_NoFibre ab_NoFibre col_NoFibre dd_NoFibre k0_NoFibre k1_NoFibre k2_NoFibre k3_NoFibre k5_NoFibre "IndexError.__new__"))
    (o3_NoFibre : PySem.W.findIn K (.ref C_NoFibre) "__setattr__" = some (some (.builtin "object.__setattr__")))
    (o4_NoFibre : PySem.W.subIn K (.ref C_NoFibre) (.type "BaseException") = some true)
    (o5_NoFibre : PySem.W.typeIn K (.ref C_NoFibre) = some (.type "type"))
    (o6_NoFibre : PySem.W.keepIn K (.ref C_NoFibre) = true)
    (e1_NoFibre : PySem.W.findIn K (.ref C_NoFibre) "__getattribute__" = some (some (.builtin "BaseException.__getattribute__")))
    (e2_NoFibre : PySem.W.findIn K (.ref C_NoFibre) "__getattr__" = some none)
    (e3_NoFibre : PySem.W.hasDictIn K C_NoFibre = true)
    (e4_NoFibre : PySem.W.findIn K (.ref C_NoFibre) "__class__" = some (some (.builtin "object.__class__")))
    (e5_NoFibre : PySem.W.specialIn K (.builtin "object.__class__") "__get__" = some (some (.builtin "getset_descriptor.__get__")))
    (e6_NoFibre : PySem.W.takesIn K (.builtin "object.__class__") = some true)
    (e7_NoFibre : PySem.W.mroIn K C_NoFibre (.type "object") = some true)
    (i1_NoFibre : PySem.W.findIn K (.ref C_NoFibre) "__init__" = some (some (.ref fI_NoFibre)))
    (i2_NoFibre : PySem.W.typeIn K (.ref fI_NoFibre) = some (.type "function"))
    (i3_NoFibre : K.lookup fI_NoFibre = some ⟨x1_NoFibre, x2_NoFibre, .func (PySem.W.ksFn x9_NoFibre "NoFibre.__init__" (defArgs (clsS 32 0)) (defBody (clsS 32 0)) (defScope (clsS 32 0)) .none x4_NoFibre x5_NoFibre x6_NoFibre x3_NoFibre (.ref cda_NoFibre) x7_NoFibre cc_NoFibre), x8_NoFibre⟩)
    (i4_NoFibre : PySem.W.codeIn K (.ref cda_NoFibre) "NoFibre.__init__" = true)
    (i5_NoFibre : K.lookup cda_NoFibre = some ⟨y1_NoFibre, y2_NoFibre, .fields y3_NoFibre, y4_NoFibre⟩)
    (i6_NoFibre : y3_NoFibre[2]? = some (.str y5_NoFibre y6_NoFibre))
    (i7_NoFibre : ((P.main.file : Str) == y5_NoFibre) = true)
    (i8_NoFibre : K.lookup cc_NoFibre = some ⟨w1_NoFibre, w2_NoFibre, .cell (some (.ref C_NoFibre)), w3_NoFibre⟩)
    (i9_NoFibre : PySem.W.mroIn K C_NoFibre (.ref C_NoFibre) = some true)
    (j1_NoFibre : (P.main.scope.names.lookup ("super" : Str)).isSome = false)
    (j2_NoFibre : PySem.W.nsIn K cStatics "thirdparty.any" = some none)
    (j3_NoFibre : PySem.W.ks_superIn K C_NoFibre C_NoFibre "__init__" = some (some (.builtin "IndexError.__init__")))
    (j4_NoFibre : PySem.W.subIn K (.ref C_NoFibre) (.type "IndexError") = some true)
    (j5_NoFibre : PySem.W.findIn K (.ref C_NoFibre) "index" = some none)
    (o1_TooMany : K.lookup C_TooMany = some (excClassObj nm_TooMany q_TooMany C_TooMany N_TooMany bs_TooMany EXI.oeTail true sn_TooMany sub_TooMany ab_TooMany col_TooMany dd_TooMany k0_TooMany k1_TooMany k2_TooMany k3_TooMany k5_TooMany "OverflowError.__new__"))
    (o3_TooMany : PySem.W.findIn K (.ref C_TooMany) "__setattr__" = some (some (.builtin "object.__setattr__")))
    (o4_TooMany : PySem.W.subIn K (.ref C_TooMany) (.type "BaseException") = some true)
    (o5_TooMany : PySem.W.typeIn K (.ref C_TooMany) = some (.type "type"))
    (o6_TooMany : PySem.W.keepIn K (.ref C_TooMany) = true)
    (e1_TooMany : PySem.W.findIn K (.ref C_TooMany) "__getattribute__" = some (some (.builtin "BaseException.__getattribute__")))
    (e2_TooMany : PySem.W.findIn K (.ref C_TooMany) "__getattr__" = some none)
    (e3_TooMany : PySem.W.hasDictIn K C_TooMany = true)
    (e4_TooMany : PySem.W.findIn K (.ref C_TooMany) "__class__" = some (some (.builtin "object.__class__")))
    (e5_TooMany : PySem.W.specialIn K (.builtin "object.__class__") "__get__" = some (some (.builtin "getset_descriptor.__get__")))
    (e6_TooMany : PySem.W.takesIn K (.builtin "object.__class__") = some true)
    (e7_TooMany : PySem.W.mroIn K C_TooMany (.type "object") = some true)
    (i1_TooMany : PySem.W.findIn K (.ref C_TooMany) "__init__" = some (some (.ref fI_TooMany)))
    (i2_TooMany : PySem.W.typeIn K (.ref fI_TooMany) = some (.type "function"))
    (i3_TooMany : K.lookup fI_TooMany = some ⟨x1_TooMany, x2_TooMany, .func (PySem.W.ksFn x9_TooMany "TooMany.__init__" (defArgs (clsS 33 0)) (defBody (clsS 33 0)) (defScope (clsS 33 0)) .none x4_TooMany x5_TooMany x6_TooMany x3_TooMany (.ref cda_TooMany) x7_TooMany cc_TooMany), x8_TooMany⟩)
    (i4_TooMany : PySem.W.codeIn K (.ref cda_TooMany) "TooMany.__init__" = true)
    (i5_TooMany : K.lookup cda_TooMany = some ⟨y1_TooMany, y2_TooMany, .fields y3_TooMany, y4_TooMany⟩)
    (i6_TooMany : y3_TooMany[2]? = some (.str y5_TooMany y6_TooMany))
    (i7_TooMany : ((P.main.file : Str) == y5_TooMany) = true)
    (i8_TooMany : K.lookup cc_TooMany = some ⟨w1_TooMany, w2_TooMany, .cell (some (.ref C_TooMany)), w3_TooMany⟩)
    (i9_TooMany : PySem.W.mroIn K C_TooMany (.ref C_TooMany) = some true)
    (j1_TooMany : (P.main.scope.names.lookup ("super" : Str)).isSome = false)
    (j2_TooMany : PySem.W.nsIn K cStatics "thirdparty.any" = some none)
    (j3_TooMany : PySem.W.ks_superIn K C_TooMany C_TooMany "__init__" = some (some (.builtin "OverflowError.__init__")))
    (j4_TooMany : PySem.W.subIn K (.ref C_TooMany) (.type "OverflowError") = some true)
    (j5_TooMany : PySem.W.findIn K (.ref C_TooMany) "limit" = some none)
    (o1_TooWide : K.lookup C_TooWide = some (excClassObj nm_TooWide q_TooWide C_TooWide N_TooWide bs_TooWide EXI.oeTail true sn_TooWide sub_TooWide ab_TooWide col_TooWide dd_TooWide k0_TooWide k1_TooWide k2_TooWide k3_TooWide k5_TooWide "OverflowError.__new__"))
    (o3_TooWide : PySem.W.findIn K (.ref C_TooWide) "__setattr__" = some (some (.builtin "object.__setattr__")))
    (o4_TooWide : PySem.W.subIn K (.ref C_TooWide) (.type "BaseException") = some true)
    (o5_TooWide : PySem.W.typeIn K (.ref C_TooWide) = some (.type "type"))
    (o6_TooWide : PySem.W.keepIn K (.ref C_TooWide) = true)
    (e1_TooWide : PySem.W.findIn K (.ref C_TooWide) "__getattribute__" = some (some (.builtin "BaseException.__getattribute__")))
    (e2_TooWide : PySem.W.findIn K (.ref C_TooWide) "__getattr__" = some none)
    (e3_TooWide : PySem.W.hasDictIn K C_TooWide = true)
    (e4_TooWide : PySem.W.findIn K (.ref C_TooWide) "__class__" = some (some (.builtin "object.__class__")))
    (e5_TooWide : PySem.W.specialIn K (.builtin "object.__class__") "__get__" = some (some (.builtin "getset_descriptor.__get__")))
    (e6_TooWide : PySem.W.takesIn K (.builtin "object.__class__") = some true)
    (e7_TooWide : PySem.W.mroIn K C_TooWide (.type "object") = some true)
    (i1_TooWide : PySem.W.findIn K (.ref C_TooWide) "__init__" = some (some (.ref fI_TooWide)))
    (i2_TooWide : PySem.W.typeIn K (.ref fI_TooWide) = some (.type "function"))
    (i3_TooWide : K.lookup fI_TooWide = some ⟨x1_TooWide, x2_TooWide, .func (PySem.W.ksFn x9_TooWide "TooWide.__init__" (defArgs (clsS 34 0)) (defBody (clsS 34 0)) (defScope (clsS 34 0)) .none x4_TooWide x5_TooWide x6_TooWide x3_TooWide (.ref cda_TooWide) x7_TooWide cc_TooWide), x8_TooWide⟩)
    (i4_TooWide : PySem.W.codeIn K (.ref cda_TooWide) "TooWide.__init__" = true)
    (i5_TooWide : K.lookup cda_TooWide = some ⟨y1_TooWide, y2_TooWide, .fields y3_TooWide, y4_TooWide⟩)
    (i6_TooWide : y3_TooWide[2]? = some (.str y5_TooWide y6_TooWide))
    (i7_TooWide : ((P.main.file : Str) == y5_TooWide) = true)
    (i8_TooWide : K.lookup cc_TooWide = some ⟨w1_TooWide, w2_TooWide, .cell (some (.ref C_TooWide)), w3_TooWide⟩)
    (i9_TooWide : PySem.W.mroIn K C_TooWide (.ref C_TooWide) = some true)
    (j1_TooWide : (P.main.scope.names.lookup ("super" : Str)).isSome = false)
    (j2_TooWide : PySem.W.nsIn K cStatics "thirdparty.any" = some none)
    (j3_TooWide : PySem.W.ks_superIn K C_TooWide C_TooWide "__init__" = some (some (.builtin "OverflowError.__init__")))
    (j4_TooWide : PySem.W.subIn K (.ref C_TooWide) (.type "OverflowError") = some true)
    (j5_TooWide : PySem.W.findIn K (.ref C_TooWide) "limit" = some none)
    (o1_TooNarrow : K.lookup C_TooNarrow = some (excClassObj nm_TooNarrow q_TooNarrow C_TooNarrow N_TooNarrow bs_TooNarrow EXI.oeTail true sn_TooNarrow sub_TooNarrow ab_TooNarrow col_TooNarrow dd_TooNarrow k0_TooNarrow k1_TooNarrow k2_TooNarrow k3_TooNarrow k5_TooNarrow "OverflowError.__new__"))
    (o3_TooNarrow : PySem.W.findIn K (.ref C_TooNarrow) "__setattr__" = some (some (.builtin "object.__setattr__")))
    (o4_TooNarrow : PySem.W.subIn K (.ref C_TooNarrow) (.type "BaseException") = some true)
    (o5_TooNarrow : PySem.W.typeIn K (.ref C_TooNarrow) = some (.type "type"))
    (o6_TooNarrow : PySem.W.keepIn K (.ref C_TooNarrow) = true)
    (e1_TooNarrow : PySem.W.findIn K (.ref C_TooNarrow) "__getattribute__" = some (some (.builtin "BaseException.__getattribute__")))
    (e2_TooNarrow : PySem.W.findIn K (.ref C_TooNarrow) "__getattr__" = some none)
    (e3_TooNarrow : PySem.W.hasDictIn K C_TooNarrow = true)
    (e4_TooNarrow : PySem.W.findIn K (.ref C_TooNarrow) "__class__" = some (some (.builtin "object.__class__")))
    (e5_TooNarrow : PySem.W.specialIn K (.builtin "object.__class__") "__get__" = some (some (.builtin "getset_descriptor.__get__")))
    (e6_TooNarrow : PySem.W.takesIn K (.builtin "object.__class__") = some true)
    (e7_TooNarrow : PySem.W.mroIn K C_TooNarrow (.type "object") = some true)
    (i1_TooNarrow : PySem.W.findIn K (.ref C_TooNarrow) "__init__" = some (some (.ref fI_TooNarrow)))
    (i2_TooNarrow : PySem.W.typeIn K (.ref fI_TooNarrow) = some (.type "function"))
    (i3_TooNarrow : K.lookup fI_TooNarrow = some ⟨x1_TooNarrow, x2_TooNarrow, .func (PySem.W.ksFn x9_TooNarrow "TooNarrow.__init__" (defArgs (clsS 35 0)) (defBody (clsS 35 0)) (defScope (clsS 35 0)) .none x4_TooNarrow x5_TooNarrow x6_TooNarrow x3_TooNarrow (.ref cda_TooNarrow) x7_TooNarrow cc_TooNarrow), x8_TooNarrow⟩)
    (i4_TooNarrow : PySem.W.codeIn K (.ref cda_TooNarrow) "TooNarrow.__init__" = true)
    (i5_TooNarrow : K.lookup cda_TooNarrow = some ⟨y1_TooNarrow, y2_TooNarrow, .fields y3_TooNarrow, y4_TooNarrow⟩)
    (i6_TooNarrow : y3_TooNarrow[2]? = some (.str y5_TooNarrow y6_TooNarrow))
    (i7_TooNarrow : ((P.main.file : Str) == y5_TooNarrow) = true)
    (i8_TooNarrow : K.lookup cc_TooNarrow = some ⟨w1_TooNarrow, w2_TooNarrow, .cell (some (.ref C_TooNarrow)), w3_TooNarrow⟩)
    (i9_TooNarrow : PySem.W.mroIn K C_TooNarrow (.ref C_TooNarrow) = some true)
    (j1_TooNarrow : (P.main.scope.names.lookup ("super" : Str)).isSome = false)
    (j2_TooNarrow : PySem.W.nsIn K cStatics "thirdparty.any" = some none)
    (j3_TooNarrow : PySem.W.ks_superIn K C_TooNarrow C_TooNarrow "__init__" = some (some (.builtin "OverflowError.__init__")))
    (j4_TooNarrow : PySem.W.subIn K (.ref C_TooNarrow) (.type "OverflowError") = some true)
    (j5_TooNarrow : PySem.W.findIn K (.ref C_TooNarrow) "needed" = some none)
    (o1_NothingToUndo : K.lookup C_NothingToUndo = some (excClassObj nm_NothingToUndo q_NothingToUndo C_NothingToUndo N_NothingToUndo bs_NothingToUndo EXI.leTail true sn_NothingToUndo sub_NothingToUndo ab_NothingToUndo col_NothingToUndo dd_NothingToUndo k0_NothingToUndo k1_NothingToUndo k2_NothingToUndo k3_NothingToUndo k5_NothingToUndo "LookupError.__new__"))
    (o3_NothingToUndo : PySem.W.findIn K (.ref C_NothingToUndo) "__setattr__" = some (some (.builtin "object.__setattr__")))
    (o4_NothingToUndo : PySem.W.subIn K (.ref C_NothingToUndo) (.type "BaseException") = some true)
    (o5_NothingToUndo : PySem.W.typeIn K (.ref C_NothingToUndo) = some (.type "type"))
    (o6_NothingToUndo : PySem.W.keepIn K (.ref C_NothingToUndo) = true)
    (e1_NothingToUndo : PySem.W.findIn K (.ref C_NothingToUndo) "__getattribute__" = some (some (.builtin "BaseException.__getattribute__")))
    (e2_NothingToUndo : PySem.W.findIn K (.ref C_NothingToUndo) "__getattr__" = some none)
    (e3_NothingToUndo : PySem.W.hasDictIn K C_NothingToUndo = true)
    (e4_NothingToUndo : PySem.W.findIn K (.ref C_NothingToUndo) "__class__" = some (some (.builtin "object.__class__")))
    (e5_NothingToUndo : PySem.W.specialIn K (.builtin "object.__class__") "__get__" = some (some (.builtin "getset_descriptor.__get__")))
    (e6_NothingToUndo : PySem.W.takesIn K (.builtin "object.__class__") = some true)
    (e7_NothingToUndo : PySem.W.mroIn K C_NothingToUndo (.type "object") = some true)
    (i1_NothingToUndo : PySem.W.findIn K (.ref C_NothingToUndo) "__init__" = some (some (.ref fI_NothingToUndo)))
    (i2_NothingToUndo : PySem.W.typeIn K (.ref fI_NothingToUndo) = some (.type "function"))
    (i3_NothingToUndo : K.lookup fI_NothingToUndo = some ⟨x1_NothingToUndo, x2_NothingToUndo, .func (PySem.W.ksFn x9_NothingToUndo "NothingToUndo.__init__" (defArgs (clsS 36 0)) (defBody (clsS 36 0)) (defScope (clsS 36 0)) .none x4_NothingToUndo x5_NothingToUndo x6_NothingToUndo x3_NothingToUndo (.ref cda_NothingToUndo) x7_NothingToUndo cc_NothingToUndo), x8_NothingToUndo⟩)
    (i4_NothingToUndo : PySem.W.codeIn K (.ref cda_NothingToUndo) "NothingToUndo.__init__" = true)
    (i5_NothingToUndo : K.lookup cda_NothingToUndo = some ⟨y1_NothingToUndo, y2_NothingToUndo, .fields y3_NothingToUndo, y4_NothingToUndo⟩)
    (i6_NothingToUndo : y3_NothingToUndo[2]? = some (.str y5_NothingToUndo y6_NothingToUndo))
    (i7_NothingToUndo : ((P.main.file : Str) == y5_NothingToUndo) = true)
    (i8_NothingToUndo : K.lookup cc_NothingToUndo = some ⟨w1_NothingToUndo, w2_NothingToUndo, .cell (some (.ref C_NothingToUndo)), w3_NothingToUndo⟩)
    (i9_NothingToUndo : PySem.W.mroIn K C_NothingToUndo (.ref C_NothingToUndo) = some true)
    (j1_NothingToUndo : (P.main.scope.names.lookup ("super" : Str)).isSome = false)
    (j2_NothingToUndo : PySem.W.nsIn K cStatics "thirdparty.any" = some none)
    (j3_NothingToUndo : PySem.W.ks_superIn K C_NothingToUndo C_NothingToUndo "__init__" = some (some (.builtin "LookupError.__init__")))
    (j4_NothingToUndo : PySem.W.subIn K (.ref C_NothingToUndo) (.type "LookupError") = some true)
    (j5_NothingToUndo : PySem.W.findIn K (.ref C_NothingToUndo) "count" = some none)
    (ki_TooFar : (([(C_InvalidNet, false), (C_InvalidRoute, false), (C_TooFar, true), (C_InvalidBand, false), (C_InvalidLayout, false), (C_InvalidWish, false), (C_NotAllowed, false), (C_Turned, false), (C_Unlike, false), (C_Circular, false), (C_Barred, false), (C_ParseError, false), (C_UnknownCommand, false), (C_NoItem, false), (C_NoStation, false), (C_NoDuct, false), (C_NoName, false), (C_NoFibre, false), (C_TooMany, false), (C_TooWide, false), (C_TooNarrow, false), (C_NothingToUndo, false)] : List (Addr × Bool)).all fun q => PySem.W.kitOne K (.ref q.1) (.ref C_TooFar) == some q.2) = true)
    (ki_InvalidRoute : (([(C_InvalidNet, false), (C_InvalidRoute, true), (C_TooFar, false), (C_InvalidBand, false), (C_InvalidLayout, false), (C_InvalidWish, false), (C_NotAllowed, false), (C_Turned, false), (C_Unlike, false), (C_Circular, false), (C_Barred, false), (C_ParseError, false), (C_UnknownCommand, false), (C_NoItem, false), (C_NoStation, false), (C_NoDuct, false), (C_NoName, false), (C_NoFibre, false), (C_TooMany, false), (C_TooWide, false), (C_TooNarrow, false), (C_NothingToUndo, false)] : List (Addr × Bool)).all fun q => PySem.W.kitOne K (.ref q.1) (.ref C_InvalidRoute) == some q.2) = true)
    (ki_InvalidNet : (([(C_InvalidNet, true), (C_InvalidRoute, false), (C_TooFar, false), (C_InvalidBand, false), (C_InvalidLayout, false), (C_InvalidWish, false), (C_NotAllowed, false), (C_Turned, false), (C_Unlike, false), (C_Circular, false), (C_Barred, false), (C_ParseError, false), (C_UnknownCommand, false), (C_NoItem, false), (C_NoStation, false), (C_NoDuct, false), (C_NoName, false), (C_NoFibre, false), (C_TooMany, false), (C_TooWide, false), (C_TooNarrow, false), (C_NothingToUndo, false)] : List (Addr × Bool)).all fun q => PySem.W.kitOne K (.ref q.1) (.ref C_InvalidNet) == some q.2) = true)
    (ki_InvalidWish : (([(C_InvalidNet, false), (C_InvalidRoute, false), (C_TooFar, false), (C_InvalidBand, false), (C_InvalidLayout, false), (C_InvalidWish, true), (C_NotAllowed, false), (C_Turned, false), (C_Unlike, false), (C_Circular, false), (C_Barred, false), (C_ParseError, false), (C_UnknownCommand, false), (C_NoItem, false), (C_NoStation, false), (C_NoDuct, false), (C_NoName, false), (C_NoFibre, false), (C_TooMany, false), (C_TooWide, false), (C_TooNarrow, false), (C_NothingToUndo, false)] : List (Addr × Bool)).all fun q => PySem.W.kitOne K (.ref q.1) (.ref C_InvalidWish) == some q.2) = true)
    (ki_InvalidLayout : (([(C_InvalidNet, false), (C_InvalidRoute, false), (C_TooFar, false), (C_InvalidBand, false), (C_InvalidLayout, true), (C_InvalidWish, false), (C_NotAllowed, false), (C_Turned, false), (C_Unlike, false), (C_Circular, false), (C_Barred, false), (C_ParseError, false), (C_UnknownCommand, false), (C_NoItem, false), (C_NoStation, false), (C_NoDuct, false), (C_NoName, false), (C_NoFibre, false), (C_TooMany, false), (C_TooWide, false), (C_TooNarrow, false), (C_NothingToUndo, false)] : List (Addr × Bool)).all fun q => PySem.W.kitOne K (.ref q.1) (.ref C_InvalidLayout) == some q.2) = true)
    (ki_InvalidBand : (([(C_InvalidNet, false), (C_InvalidRoute, false), (C_TooFar, false), (C_InvalidBand, true), (C_InvalidLayout, false), (C_InvalidWish, false), (C_NotAllowed, false), (C_Turned, false), (C_Unlike, false), (C_Circular, false), (C_Barred, false), (C_ParseError, false), (C_UnknownCommand, false), (C_NoItem, false), (C_NoStation, false), (C_NoDuct, false), (C_NoName, false), (C_NoFibre, false), (C_TooMany, false), (C_TooWide, false), (C_TooNarrow, false), (C_NothingToUndo, false)] : List (Addr × Bool)).all fun q => PySem.W.kitOne K (.ref q.1) (.ref C_InvalidBand) == some q.2) = true)
    (ki_Unlike : (([(C_InvalidNet, false), (C_InvalidRoute, false), (C_TooFar, false), (C_InvalidBand, false), (C_InvalidLayout, false), (C_InvalidWish, false), (C_NotAllowed, false), (C_Turned, false), (C_Unlike, true), (C_Circular, false), (C_Barred, false), (C_ParseError, false), (C_UnknownCommand, false), (C_NoItem, false), (C_NoStation, false), (C_NoDuct, false), (C_NoName, false), (C_NoFibre, false), (C_TooMany, false), (C_TooWide, false), (C_TooNarrow, false), (C_NothingToUndo, false)] : List (Addr × Bool)).all fun q => PySem.W.kitOne K (.ref q.1) (.ref C_Unlike) == some q.2) = true)
    (ki_Turned : (([(C_InvalidNet, false), (C_InvalidRoute, false), (C_TooFar, false), (C_InvalidBand, false), (C_InvalidLayout, false), (C_InvalidWish, false), (C_NotAllowed, false), (C_Turned, true), (C_Unlike, false), (C_Circular, false), (C_Barred, false), (C_ParseError, false), (C_UnknownCommand, false), (C_NoItem, false), (C_NoStation, false), (C_NoDuct, false), (C_NoName, false), (C_NoFibre, false), (C_TooMany, false), (C_TooWide, false), (C_TooNarrow, false), (C_NothingToUndo, false)] : List (Addr × Bool)).all fun q => PySem.W.kitOne K (.ref q.1) (.ref C_Turned) == some q.2) = true)
    (ki_NotAllowed : (([(C_InvalidNet, false), (C_InvalidRoute, false), (C_TooFar, false), (C_InvalidBand, false), (C_InvalidLayout, false), (C_InvalidWish, false), (C_NotAllowed, true), (C_Turned, false), (C_Unlike, false), (C_Circular, false), (C_Barred, false), (C_ParseError, false), (C_UnknownCommand, false), (C_NoItem, false), (C_NoStation, false), (C_NoDuct, false), (C_NoName, false), (C_NoFibre, false), (C_TooMany, false), (C_TooWide, false), (C_TooNarrow, false), (C_NothingToUndo, false)] : List (Addr × Bool)).all fun q => PySem.W.kitOne K (.ref q.1) (.ref C_NotAllowed) == some q.2) = true)
    (ki_ParseError : (([(C_InvalidNet, false), (C_InvalidRoute, false), (C_TooFar, false), (C_InvalidBand, false), (C_InvalidLayout, false), (C_InvalidWish, false), (C_NotAllowed, false), (C_Turned, false), (C_Unlike, false), (C_Circular, false), (C_Barred, false), (C_ParseError, true), (C_UnknownCommand, false), (C_NoItem, false), (C_NoStation, false), (C_NoDuct, false), (C_NoName, false), (C_NoFibre, false), (C_TooMany, false), (C_TooWide, false), (C_TooNarrow, false), (C_NothingToUndo, false)] : List (Addr × Bool)).all fun q => PySem.W.kitOne K (.ref q.1) (.ref C_ParseError) == some q.2) = true)
    (ki_Barred : (([(C_InvalidNet, false), (C_InvalidRoute, false), (C_TooFar, false), (C_InvalidBand, false), (C_InvalidLayout, false), (C_InvalidWish, false), (C_NotAllowed, false), (C_Turned, false), (C_Unlike, false), (C_Circular, false), (C_Barred, true), (C_ParseError, false), (C_UnknownCommand, false), (C_NoItem, false), (C_NoStation, false), (C_NoDuct, false), (C_NoName, false), (C_NoFibre, false), (C_TooMany, false), (C_TooWide, false), (C_TooNarrow, false), (C_NothingToUndo, false)] : List (Addr × Bool)).all fun q => PySem.W.kitOne K (.ref q.1) (.ref C_Barred) == some q.2) = true)
    (ki_Circular : (([(C_InvalidNet, false), (C_InvalidRoute, false), (C_TooFar, false), (C_InvalidBand, false), (C_InvalidLayout, false), (C_InvalidWish, false), (C_NotAllowed, false), (C_Turned, false), (C_Unlike, false), (C_Circular, true), (C_Barred, false), (C_ParseError, false), (C_UnknownCommand, false), (C_NoItem, false), (C_NoStation, false), (C_NoDuct, false), (C_NoName, false), (C_NoFibre, false), (C_TooMany, false), (C_TooWide, false), (C_TooNarrow, false), (C_NothingToUndo, false)] : List (Addr × Bool)).all fun q => PySem.W.kitOne K (.ref q.1) (.ref C_Circular) == some q.2) = true)
    (ki_NoStation : (([(C_InvalidNet, false), (C_InvalidRoute, false), (C_TooFar, false), (C_InvalidBand, false), (C_InvalidLayout, false), (C_InvalidWish, false), (C_NotAllowed, false), (C_Turned, false), (C_Unlike, false), (C_Circular, false), (C_Barred, false), (C_ParseError, false), (C_UnknownCommand, false), (C_NoItem, false), (C_NoStation, true), (C_NoDuct, false), (C_NoName, false), (C_NoFibre, false), (C_TooMany, false), (C_TooWide, false), (C_TooNarrow, false), (C_NothingToUndo, false)] : List (Addr × Bool)).all fun q => PySem.W.kitOne K (.ref q.1) (.ref C_NoStation) == some q.2) = true)
    (ki_NoItem : (([(C_InvalidNet, false), (C_InvalidRoute, false), (C_TooFar, false), (C_InvalidBand, false), (C_InvalidLayout, false), (C_InvalidWish, false), (C_NotAllowed, false), (C_Turned, false), (C_Unlike, false), (C_Circular, false), (C_Barred, false), (C_ParseError, false), (C_UnknownCommand, false), (C_NoItem, true), (C_NoStation, false), (C_NoDuct, false), (C_NoName, false), (C_NoFibre, false), (C_TooMany, false), (C_TooWide, false), (C_TooNarrow, false), (C_NothingToUndo, false)] : List (Addr × Bool)).all fun q => PySem.W.kitOne K (.ref q.1) (.ref C_NoItem) == some q.2) = true)
    (ki_UnknownCommand : (([(C_InvalidNet, false), (C_InvalidRoute, false), (C_TooFar, false), (C_InvalidBand, false), (C_InvalidLayout, false), (C_InvalidWish, false), (C_NotAllowed, false), (C_Turned, false), (C_Unlike, false), (C_Circular, false), (C_Barred, false), (C_ParseError, false), (C_UnknownCommand, true), (C_NoItem, false), (C_NoStation, false), (C_NoDuct, false), (C_NoName, false), (C_NoFibre, false), (C_TooMany, false), (C_TooWide, false), (C_TooNarrow, false), (C_NothingToUndo, false)] : List (Addr × Bool)).all fun q => PySem.W.kitOne K (.ref q.1) (.ref C_UnknownCommand) == some q.2) = true)
    (ki_NoFibre : (([(C_InvalidNet, false), (C_InvalidRoute, false), (C_TooFar, false), (C_InvalidBand, false), (C_InvalidLayout, false), (C_InvalidWish, false), (C_NotAllowed, false), (C_Turned, false), (C_Unlike, false), (C_Circular, false), (C_Barred, false), (C_ParseError, false), (C_UnknownCommand, false), (C_NoItem, false), (C_NoStation, false), (C_NoDuct, false), (C_NoName, false), (C_NoFibre, true), (C_TooMany, false), (C_TooWide, false), (C_TooNarrow, false), (C_NothingToUndo, false)] : List (Addr × Bool)).all fun q => PySem.W.kitOne K (.ref q.1) (.ref C_NoFibre) == some q.2) = true)
    (ki_NoName : (([(C_InvalidNet, false), (C_InvalidRoute, false), (C_TooFar, false), (C_InvalidBand, false), (C_InvalidLayout, false), (C_InvalidWish, false), (C_NotAllowed, false), (C_Turned, false), (C_Unlike, false), (C_Circular, false), (C_Barred, false), (C_ParseError, false), (C_UnknownCommand, false), (C_NoItem, false), (C_NoStation, false), (C_NoDuct, false), (C_NoName, true), (C_NoFibre, false), (C_TooMany, false), (C_TooWide, false), (C_TooNarrow, false), (C_NothingToUndo, false)] : List (Addr × Bool)).all fun q => PySem.W.kitOne K (.ref q.1) (.ref C_NoName) == some q.2) = true)
    (ki_NoDuct : (([(C_InvalidNet, false), (C_InvalidRoute, false), (C_TooFar, false), (C_InvalidBand, false), (C_InvalidLayout, false), (C_InvalidWish, false), (C_NotAllowed, false), (C_Turned, false), (C_Unlike, false), (C_Circular, false), (C_Barred, false), (C_ParseError, false), (C_UnknownCommand, false), (C_NoItem, false), (C_NoStation, false), (C_NoDuct, true), (C_NoName, false), (C_NoFibre, false), (C_TooMany, false), (C_TooWide, false), (C_TooNarrow, false), (C_NothingToUndo, false)] : List (Addr × Bool)).all fun q => PySem.W.kitOne K (.ref q.1) (.ref C_NoDuct) == some q.2) = true)
    (ki_TooNarrow : (([(C_InvalidNet, false), (C_InvalidRoute, false), (C_TooFar, false), (C_InvalidBand, false), (C_InvalidLayout, false), (C_InvalidWish, false), (C_NotAllowed, false), (C_Turned, false), (C_Unlike, false), (C_Circular, false), (C_Barred, false), (C_ParseError, false), (C_UnknownCommand, false), (C_NoItem, false), (C_NoStation, false), (C_NoDuct, false), (C_NoName, false), (C_NoFibre, false), (C_TooMany, false), (C_TooWide, false), (C_TooNarrow, true), (C_NothingToUndo, false)] : List (Addr × Bool)).all fun q => PySem.W.kitOne K (.ref q.1) (.ref C_TooNarrow) == some q.2) = true)
    (ki_TooWide : (([(C_InvalidNet, false), (C_InvalidRoute, false), (C_TooFar, false), (C_InvalidBand, false), (C_InvalidLayout, false), (C_InvalidWish, false), (C_NotAllowed, false), (C_Turned, false), (C_Unlike, false), (C_Circular, false), (C_Barred, false), (C_ParseError, false), (C_UnknownCommand, false), (C_NoItem, false), (C_NoStation, false), (C_NoDuct, false), (C_NoName, false), (C_NoFibre, false), (C_TooMany, false), (C_TooWide, true), (C_TooNarrow, false), (C_NothingToUndo, false)] : List (Addr × Bool)).all fun q => PySem.W.kitOne K (.ref q.1) (.ref C_TooWide) == some q.2) = true)
    (ki_TooMany : (([(C_InvalidNet, false), (C_InvalidRoute, false), (C_TooFar, false), (C_InvalidBand, false), (C_InvalidLayout, false), (C_InvalidWish, false), (C_NotAllowed, false), (C_Turned, false), (C_Unlike, false), (C_Circular, false), (C_Barred, false), (C_ParseError, false), (C_UnknownCommand, false), (C_NoItem, false), (C_NoStation, false), (C_NoDuct, false), (C_NoName, false), (C_NoFibre, false), (C_TooMany, true), (C_TooWide, false), (C_TooNarrow, false), (C_NothingToUndo, false)] : List (Addr × Bool)).all fun q => PySem.W.kitOne K (.ref q.1) (.ref C_TooMany) == some q.2) = true)
    (ki_NothingToUndo : (([(C_InvalidNet, false), (C_InvalidRoute, false), (C_TooFar, false), (C_InvalidBand, false), (C_InvalidLayout, false), (C_InvalidWish, false), (C_NotAllowed, false), (C_Turned, false), (C_Unlike, false), (C_Circular, false), (C_Barred, false), (C_ParseError, false), (C_UnknownCommand, false), (C_NoItem, false), (C_NoStation, false), (C_NoDuct, false), (C_NoName, false), (C_NoFibre, false), (C_TooMany, false), (C_TooWide, false), (C_TooNarrow, false), (C_NothingToUndo, true)] : List (Addr × Bool)).all fun q => PySem.W.kitOne K (.ref q.1) (.ref C_NothingToUndo) == some q.2) = true)
    (ki_KeyError : (([(C_InvalidNet, false), (C_InvalidRoute, false), (C_TooFar, false), (C_InvalidBand, false), (C_InvalidLayout, false), (C_InvalidWish, false), (C_NotAllowed, false), (C_Turned, false), (C_Unlike, false), (C_Circular, false), (C_Barred, false), (C_ParseError, false), (C_UnknownCommand, false), (C_NoItem, true), (C_NoStation, true), (C_NoDuct, true), (C_NoName, true), (C_NoFibre, false), (C_TooMany, false), (C_TooWide, false), (C_TooNarrow, false), (C_NothingToUndo, false)] : List (Addr × Bool)).all fun q => PySem.W.kitOne K (.ref q.1) (.type "KeyError") == some q.2) = true)
    (ki_ValueError : (([(C_InvalidNet, true), (C_InvalidRoute, true), (C_TooFar, true), (C_InvalidBand, true), (C_InvalidLayout, true), (C_InvalidWish, true), (C_NotAllowed, true), (C_Turned, true), (C_Unlike, true), (C_Circular, true), (C_Barred, true), (C_ParseError, true), (C_UnknownCommand, true), (C_NoItem, false), (C_NoStation, false), (C_NoDuct, false), (C_NoName, false), (C_NoFibre, false), (C_TooMany, false), (C_TooWide, false), (C_TooNarrow, false), (C_NothingToUndo, false)] : List (Addr × Bool)).all fun q => PySem.W.kitOne K (.ref q.1) (.type "ValueError") == some q.2) = true)
    (ki_LightError : (([(C_InvalidNet, true), (C_InvalidRoute, true), (C_TooFar, true), (C_InvalidBand, true), (C_InvalidLayout, true), (C_InvalidWish, true), (C_NotAllowed, true), (C_Turned, true), (C_Unlike, true), (C_Circular, true), (C_Barred, true), (C_ParseError, true), (C_UnknownCommand, true), (C_NoItem, false), (C_NoStation, false), (C_NoDuct, false), (C_NoName, false), (C_NoFibre, false), (C_TooMany, false), (C_TooWide, false), (C_TooNarrow, false), (C_NothingToUndo, false)] : List (Addr × Bool)).all fun q => PySem.W.kitOne K (.ref q.1) (.ref C_LightError) == some q.2) = true)
    (ki_LookupError : (([(C_InvalidNet, false), (C_InvalidRoute, false), (C_TooFar, false), (C_InvalidBand, false), (C_InvalidLayout, false), (C_InvalidWish, false), (C_NotAllowed, false), (C_Turned, false), (C_Unlike, false), (C_Circular, false), (C_Barred, false), (C_ParseError, false), (C_UnknownCommand, false), (C_NoItem, true), (C_NoStation, true), (C_NoDuct, true), (C_NoName, true), (C_NoFibre, true), (C_TooMany, false), (C_TooWide, false), (C_TooNarrow, false), (C_NothingToUndo, true)] : List (Addr × Bool)).all fun q => PySem.W.kitOne K (.ref q.1) (.type "LookupError") == some q.2) = true)
    (ki_OverflowError : (([(C_InvalidNet, false), (C_InvalidRoute, false), (C_TooFar, false), (C_InvalidBand, false), (C_InvalidLayout, false), (C_InvalidWish, false), (C_NotAllowed, false), (C_Turned, false), (C_Unlike, false), (C_Circular, false), (C_Barred, false), (C_ParseError, false), (C_UnknownCommand, false), (C_NoItem, false), (C_NoStation, false), (C_NoDuct, false), (C_NoName, false), (C_NoFibre, false), (C_TooMany, true), (C_TooWide, true), (C_TooNarrow, true), (C_NothingToUndo, false)] : List (Addr × Bool)).all fun q => PySem.W.kitOne K (.ref q.1) (.type "OverflowError") == some q.2) = true)
    (ki_IndexError : (([(C_InvalidNet, false), (C_InvalidRoute, false), (C_TooFar, false), (C_InvalidBand, false), (C_InvalidLayout, false), (C_InvalidWish, false), (C_NotAllowed, false), (C_Turned, false), (C_Unlike, false), (C_Circular, false), (C_Barred, false), (C_ParseError, false), (C_UnknownCommand, false), (C_NoItem, false), (C_NoStation, false), (C_NoDuct, false), (C_NoName, false), (C_NoFibre, true), (C_TooMany, false), (C_TooWide, false), (C_TooNarrow, false), (C_NothingToUndo, false)] : List (Addr × Bool)).all fun q => PySem.W.kitOne K (.ref q.1) (.type "IndexError") == some q.2) = true)
    : ∃ fd : FuncData, (∀ (s : Shared) (v : Value), BindsTo s fd ⟨[v], []⟩ [("_law_script", v)]) ∧ ∀ base : Heap, K.In base → base.Ns mainGlobals mg → FnG P w K mg base 5 fa fd ["_law_script"] (spLaw b_law 6 K) := by
  have e : a_law = fa := by
    have e := hfa.symm.trans (PySem.W.mg_of X G z_law)
    cases e
    rfl
  subst e
  let M : Md P K w mg := ⟨PySem.W.mg_none_of X G z_len,
    PySem.W.mg_none_of X G z_isinstance,
    PySem.W.mg_none_of X G z_str,
    PySem.W.mg_none_of X G z_all,
    PySem.W.mg_none_of X G z_list,
    PySem.W.mg_none_of X G z_int,
    PySem.W.mg_none_of X G z_abs,
    PySem.W.mg_none_of X G z_KeyError,
    PySem.W.mg_none_of X G z_ValueError,
    PySem.W.mg_none_of X G z_LookupError,
    PySem.W.mg_none_of X G z_OverflowError,
    PySem.W.mg_none_of X G z_IndexError,
    PySem.W.mg_none_of X G z_range,
    PySem.W.mg_none_of X G z_repr,
    PySem.W.mg_none_of X G z_enumerate,
    t_MOST_LETTERS,
    PySem.W.mg_of X G z_MOST_LETTERS,
    t_LETTERS,
    PySem.W.mg_of X G z_LETTERS,
    t_RESERVE,
    PySem.W.mg_of X G z_RESERVE,
    t_TWIN,
    PySem.W.mg_of X G z_TWIN,
    a_is_name,
    _,
    fun_mk l_is_name c_is_name k_is_name,
    PySem.W.mg_of X G z_is_name,
    a_signal_of,
    _,
    fun_mk l_signal_of c_signal_of k_signal_of,
    PySem.W.mg_of X G z_signal_of,
    a_twin_of,
    _,
    fun_mk l_twin_of c_twin_of k_twin_of,
    PySem.W.mg_of X G z_twin_of,
    a_reserve_of,
    _,
    fun_mk l_reserve_of c_reserve_of k_reserve_of,
    PySem.W.mg_of X G z_reserve_of,
    a__law_pen,
    _,
    fun_mk l__law_pen c__law_pen k__law_pen,
    PySem.W.mg_of X G z__law_pen,
    a__law_draw,
    _,
    fun_mk l__law_draw c__law_draw k__law_draw,
    PySem.W.mg_of X G z__law_draw,
    a__law_body,
    _,
    fun_mk l__law_body c__law_body k__law_body,
    PySem.W.mg_of X G z__law_body,
    a__law_fields,
    _,
    fun_mk l__law_fields c__law_fields k__law_fields,
    PySem.W.mg_of X G z__law_fields,
    a__law_classes,
    _,
    fun_mk l__law_classes c__law_classes k__law_classes,
    PySem.W.mg_of X G z__law_classes,
    a__law_bases,
    _,
    fun_mk l__law_bases c__law_bases k__law_bases,
    PySem.W.mg_of X G z__law_bases,
    a_is_light,
    _,
    fun_mk l_is_light c_is_light k_is_light,
    PySem.W.mg_of X G z_is_light,
    a_is_twin,
    _,
    fun_mk l_is_twin c_is_twin k_is_twin,
    PySem.W.mg_of X G z_is_twin,
    a_is_reserve,
    _,
    fun_mk l_is_reserve c_is_reserve k_is_reserve,
    PySem.W.mg_of X G z_is_reserve,
    a__law_pick,
    _,
    fun_mk l__law_pick c__law_pick k__law_pick,
    PySem.W.mg_of X G z__law_pick,
    a__law_word,
    _,
    fun_mk l__law_word c__law_word k__law_word,
    PySem.W.mg_of X G z__law_word,
    a__law_items_right,
    _,
    fun_mk l__law_items_right c__law_items_right k__law_items_right,
    PySem.W.mg_of X G z__law_items_right,
    a_is_item,
    _,
    fun_mk l_is_item c_is_item k_is_item,
    PySem.W.mg_of X G z_is_item,
    a__law_odd,
    _,
    fun_mk l__law_odd c__law_odd k__law_odd,
    PySem.W.mg_of X G z__law_odd,
    a__law_made,
    _,
    fun_mk l__law_made c__law_made k__law_made,
    PySem.W.mg_of X G z__law_made,
    a__law_named,
    _,
    fun_mk l__law_named c__law_named k__law_named,
    PySem.W.mg_of X G z__law_named,
    a__law_value,
    _,
    fun_mk l__law_value c__law_value k__law_value,
    PySem.W.mg_of X G z__law_value,
    a__law_told_right,
    _,
    fun_mk l__law_told_right c__law_told_right k__law_told_right,
    PySem.W.mg_of X G z__law_told_right,
    a__law_errors_right,
    _,
    fun_mk l__law_errors_right c__law_errors_right k__law_errors_right,
    PySem.W.mg_of X G z__law_errors_right,
    a_law,
    _,
    fun_mk l_law c_law k_law,
    PySem.W.mg_of X G z_law,
    C_InvalidNet,
    ⟨z_InvalidNet, PySem.W.mg_of X G z_InvalidNet, PySem.W.mg_none_of X G zn_super, ⟨⟨_, _, _, _, _, _, _, _, _, _, _, _, _, _, _, o1_InvalidNet, o2_InvalidNet⟩, o3_InvalidNet, o4_InvalidNet, o5_InvalidNet, o6_InvalidNet⟩, ⟨e1_InvalidNet, e2_InvalidNet, o4_InvalidNet, e3_InvalidNet⟩, ⟨e1_InvalidNet, e2_InvalidNet, o4_InvalidNet, e3_InvalidNet, e4_InvalidNet, e5_InvalidNet, e6_InvalidNet, e7_InvalidNet⟩, ⟨_, _, _, ⟨⟨_, _, _, _, _, _, _, _, _, i3_InvalidNet⟩, i4_InvalidNet, ⟨_, _, _, _, _, _, i5_InvalidNet, i6_InvalidNet, i7_InvalidNet⟩, ⟨_, _, _, i8_InvalidNet⟩, i9_InvalidNet, j1_InvalidNet, j2_InvalidNet, j3_InvalidNet, j4_InvalidNet, rfl, rfl, rfl, rfl, rfl, by decide +kernel⟩, i1_InvalidNet, i2_InvalidNet⟩, j5_InvalidNet, j6_InvalidNet⟩,
    C_InvalidLayout,
    ⟨z_InvalidLayout, PySem.W.mg_of X G z_InvalidLayout, PySem.W.mg_none_of X G zn_super, ⟨⟨_, _, _, _, _, _, _, _, _, _, _, _, _, _, _, o1_InvalidLayout, o2_InvalidLayout⟩, o3_InvalidLayout, o4_InvalidLayout, o5_InvalidLayout, o6_InvalidLayout⟩, ⟨e1_InvalidLayout, e2_InvalidLayout, o4_InvalidLayout, e3_InvalidLayout⟩, ⟨e1_InvalidLayout, e2_InvalidLayout, o4_InvalidLayout, e3_InvalidLayout, e4_InvalidLayout, e5_InvalidLayout, e6_InvalidLayout, e7_InvalidLayout⟩, ⟨_, _, _, ⟨⟨_, _, _, _, _, _, _, _, _, i3_InvalidLayout⟩, i4_InvalidLayout, ⟨_, _, _, _, _, _, i5_InvalidLayout, i6_InvalidLayout, i7_InvalidLayout⟩, ⟨_, _, _, i8_InvalidLayout⟩, i9_InvalidLayout, j1_InvalidLayout, j2_InvalidLayout, j3_InvalidLayout, j4_InvalidLayout, rfl, rfl, rfl, rfl, rfl, by decide +kernel⟩, i1_InvalidLayout, i2_InvalidLayout⟩, j5_InvalidLayout, j6_InvalidLayout⟩,
    C_NotAllowed,
    ⟨z_NotAllowed, PySem.W.mg_of X G z_NotAllowed, PySem.W.mg_none_of X G zn_super, ⟨⟨_, _, _, _, _, _, _, _, _, _, _, _, _, _, _, o1_NotAllowed, o2_NotAllowed⟩, o3_NotAllowed, o4_NotAllowed, o5_NotAllowed, o6_NotAllowed⟩, ⟨e1_NotAllowed, e2_NotAllowed, o4_NotAllowed, e3_NotAllowed⟩, ⟨e1_NotAllowed, e2_NotAllowed, o4_NotAllowed, e3_NotAllowed, e4_NotAllowed, e5_NotAllowed, e6_NotAllowed, e7_NotAllowed⟩, ⟨_, _, _, ⟨⟨_, _, _, _, _, _, _, _, _, i3_NotAllowed⟩, i4_NotAllowed, ⟨_, _, _, _, _, _, i5_NotAllowed, i6_NotAllowed, i7_NotAllowed⟩, ⟨_, _, _, i8_NotAllowed⟩, i9_NotAllowed, j1_NotAllowed, j2_NotAllowed, j3_NotAllowed, j4_NotAllowed, rfl, rfl, rfl, rfl, rfl, by decide +kernel⟩, i1_NotAllowed, i2_NotAllowed⟩, j5_NotAllowed, j6_NotAllowed⟩,
    C_Turned,
    ⟨z_Turned, PySem.W.mg_of X G z_Turned, PySem.W.mg_none_of X G zn_super, ⟨⟨_, _, _, _, _, _, _, _, _, _, _, _, _, _, _, o1_Turned, o2_Turned⟩, o3_Turned, o4_Turned, o5_Turned, o6_Turned⟩, ⟨e1_Turned, e2_Turned, o4_Turned, e3_Turned⟩, ⟨e1_Turned, e2_Turned, o4_Turned, e3_Turned, e4_Turned, e5_Turned, e6_Turned, e7_Turned⟩, ⟨_, _, _, ⟨⟨_, _, _, _, _, _, _, _, _, i3_Turned⟩, i4_Turned, ⟨_, _, _, _, _, _, i5_Turned, i6_Turned, i7_Turned⟩, ⟨_, _, _, i8_Turned⟩, i9_Turned, j1_Turned, j2_Turned, j3_Turned, j4_Turned, rfl, rfl, rfl, rfl, rfl, by decide +kernel⟩, i1_Turned, i2_Turned⟩, j5_Turned, j6_Turned⟩,
    C_ParseError,
    ⟨z_ParseError, PySem.W.mg_of X G z_ParseError, PySem.W.mg_none_of X G zn_super, ⟨⟨_, _, _, _, _, _, _, _, _, _, _, _, _, _, _, o1_ParseError, o2_ParseError⟩, o3_ParseError, o4_ParseError, o5_ParseError, o6_ParseError⟩, ⟨e1_ParseError, e2_ParseError, o4_ParseError, e3_ParseError⟩, ⟨e1_ParseError, e2_ParseError, o4_ParseError, e3_ParseError, e4_ParseError, e5_ParseError, e6_ParseError, e7_ParseError⟩, ⟨_, _, _, ⟨⟨_, _, _, _, _, _, _, _, _, i3_ParseError⟩, i4_ParseError, ⟨_, _, _, _, _, _, i5_ParseError, i6_ParseError, i7_ParseError⟩, ⟨_, _, _, i8_ParseError⟩, i9_ParseError, j1_ParseError, j2_ParseError, j3_ParseError, j4_ParseError, rfl, rfl, rfl, rfl, rfl, by decide +kernel⟩, i1_ParseError, i2_ParseError⟩, j5_ParseError, j6_ParseError⟩,
    C_InvalidRoute,
    ⟨z_InvalidRoute, PySem.W.mg_of X G z_InvalidRoute, PySem.W.mg_none_of X G zn_super, ⟨⟨_, _, _, _, _, _, _, _, _, _, _, _, _, _, _, o1_InvalidRoute, o2_InvalidRoute⟩, o3_InvalidRoute, o4_InvalidRoute, o5_InvalidRoute, o6_InvalidRoute⟩, ⟨e1_InvalidRoute, e2_InvalidRoute, o4_InvalidRoute, e3_InvalidRoute⟩, ⟨e1_InvalidRoute, e2_InvalidRoute, o4_InvalidRoute, e3_InvalidRoute, e4_InvalidRoute, e5_InvalidRoute, e6_InvalidRoute, e7_InvalidRoute⟩, ⟨_, _, _, ⟨⟨_, _, _, _, _, _, _, _, _, i3_InvalidRoute⟩, i4_InvalidRoute, ⟨_, _, _, _, _, _, i5_InvalidRoute, i6_InvalidRoute, i7_InvalidRoute⟩, ⟨_, _, _, i8_InvalidRoute⟩, i9_InvalidRoute, j1_InvalidRoute, j2_InvalidRoute, j3_InvalidRoute, j4_InvalidRoute, rfl, rfl, rfl, rfl, rfl, by decide +kernel⟩, i1_InvalidRoute, i2_InvalidRoute⟩, j5_InvalidRoute⟩,
    C_TooFar,
    ⟨z_TooFar, PySem.W.mg_of X G z_TooFar, PySem.W.mg_none_of X G zn_super, ⟨⟨_, _, _, _, _, _, _, _, _, _, _, _, _, _, _, o1_TooFar, o2_TooFar⟩, o3_TooFar, o4_TooFar, o5_TooFar, o6_TooFar⟩, ⟨e1_TooFar, e2_TooFar, o4_TooFar, e3_TooFar⟩, ⟨e1_TooFar, e2_TooFar, o4_TooFar, e3_TooFar, e4_TooFar, e5_TooFar, e6_TooFar, e7_TooFar⟩, ⟨_, _, _, ⟨⟨_, _, _, _, _, _, _, _, _, i3_TooFar⟩, i4_TooFar, ⟨_, _, _, _, _, _, i5_TooFar, i6_TooFar, i7_TooFar⟩, ⟨_, _, _, i8_TooFar⟩, i9_TooFar, j1_TooFar, j2_TooFar, j3_TooFar, j4_TooFar, rfl, rfl, rfl, rfl, rfl, by decide +kernel⟩, i1_TooFar, i2_TooFar⟩, j5_TooFar⟩,
    C_InvalidBand,
    ⟨z_InvalidBand, PySem.W.mg_of X G z_InvalidBand, PySem.W.mg_none_of X G zn_super, ⟨⟨_, _, _, _, _, _, _, _, _, _, _, _, _, _, _, o1_InvalidBand, o2_InvalidBand⟩, o3_InvalidBand, o4_InvalidBand, o5_InvalidBand, o6_InvalidBand⟩, ⟨e1_InvalidBand, e2_InvalidBand, o4_InvalidBand, e3_InvalidBand⟩, ⟨e1_InvalidBand, e2_InvalidBand, o4_InvalidBand, e3_InvalidBand, e4_InvalidBand, e5_InvalidBand, e6_InvalidBand, e7_InvalidBand⟩, ⟨_, _, _, ⟨⟨_, _, _, _, _, _, _, _, _, i3_InvalidBand⟩, i4_InvalidBand, ⟨_, _, _, _, _, _, i5_InvalidBand, i6_InvalidBand, i7_InvalidBand⟩, ⟨_, _, _, i8_InvalidBand⟩, i9_InvalidBand, j1_InvalidBand, j2_InvalidBand, j3_InvalidBand, j4_InvalidBand, rfl, rfl, rfl, rfl, rfl, by decide +kernel⟩, i1_InvalidBand, i2_InvalidBand⟩, j5_InvalidBand⟩,
    C_InvalidWish,
    ⟨z_InvalidWish, PySem.W.mg_of X G z_InvalidWish, PySem.W.mg_none_of X G zn_super, ⟨⟨_, _, _, _, _, _, _, _, _, _, _, _, _, _, _, o1_InvalidWish, o2_InvalidWish⟩, o3_InvalidWish, o4_InvalidWish, o5_InvalidWish, o6_InvalidWish⟩, ⟨e1_InvalidWish, e2_InvalidWish, o4_InvalidWish, e3_InvalidWish⟩, ⟨e1_InvalidWish, e2_InvalidWish, o4_InvalidWish, e3_InvalidWish, e4_InvalidWish, e5_InvalidWish, e6_InvalidWish, e7_InvalidWish⟩, ⟨_, _, _, ⟨⟨_, _, _, _, _, _, _, _, _, i3_InvalidWish⟩, i4_InvalidWish, ⟨_, _, _, _, _, _, i5_InvalidWish, i6_InvalidWish, i7_InvalidWish⟩, ⟨_, _, _, i8_InvalidWish⟩, i9_InvalidWish, j1_InvalidWish, j2_InvalidWish, j3_InvalidWish, j4_InvalidWish, rfl, rfl, rfl, rfl, rfl, by decide +kernel⟩, i1_InvalidWish, i2_InvalidWish⟩, j5_InvalidWish⟩,
    C_Unlike,
    ⟨z_Unlike, PySem.W.mg_of X G z_Unlike, PySem.W.mg_none_of X G zn_super, ⟨⟨_, _, _, _, _, _, _, _, _, _, _, _, _, _, _, o1_Unlike, o2_Unlike⟩, o3_Unlike, o4_Unlike, o5_Unlike, o6_Unlike⟩, ⟨e1_Unlike, e2_Unlike, o4_Unlike, e3_Unlike⟩, ⟨e1_Unlike, e2_Unlike, o4_Unlike, e3_Unlike, e4_Unlike, e5_Unlike, e6_Unlike, e7_Unlike⟩, ⟨_, _, _, ⟨⟨_, _, _, _, _, _, _, _, _, i3_Unlike⟩, i4_Unlike, ⟨_, _, _, _, _, _, i5_Unlike, i6_Unlike, i7_Unlike⟩, ⟨_, _, _, i8_Unlike⟩, i9_Unlike, j1_Unlike, j2_Unlike, j3_Unlike, j4_Unlike, rfl, rfl, rfl, rfl, rfl, by decide +kernel⟩, i1_Unlike, i2_Unlike⟩, j5_Unlike⟩,
    C_Circular,
    ⟨z_Circular, PySem.W.mg_of X G z_Circular, PySem.W.mg_none_of X G zn_super, ⟨⟨_, _, _, _, _, _, _, _, _, _, _, _, _, _, _, o1_Circular, o2_Circular⟩, o3_Circular, o4_Circular, o5_Circular, o6_Circular⟩, ⟨e1_Circular, e2_Circular, o4_Circular, e3_Circular⟩, ⟨e1_Circular, e2_Circular, o4_Circular, e3_Circular, e4_Circular, e5_Circular, e6_Circular, e7_Circular⟩, ⟨_, _, _, ⟨⟨_, _, _, _, _, _, _, _, _, i3_Circular⟩, i4_Circular, ⟨_, _, _, _, _, _, i5_Circular, i6_Circular, i7_Circular⟩, ⟨_, _, _, i8_Circular⟩, i9_Circular, j1_Circular, j2_Circular, j3_Circular, j4_Circular, rfl, rfl, rfl, rfl, rfl, by decide +kernel⟩, i1_Circular, i2_Circular⟩, j5_Circular⟩,
    C_Barred,
    ⟨z_Barred, PySem.W.mg_of X G z_Barred, PySem.W.mg_none_of X G zn_super, ⟨⟨_, _, _, _, _, _, _, _, _, _, _, _, _, _, _, o1_Barred, o2_Barred⟩, o3_Barred, o4_Barred, o5_Barred, o6_Barred⟩, ⟨e1_Barred, e2_Barred, o4_Barred, e3_Barred⟩, ⟨e1_Barred, e2_Barred, o4_Barred, e3_Barred, e4_Barred, e5_Barred, e6_Barred, e7_Barred⟩, ⟨_, _, _, ⟨⟨_, _, _, _, _, _, _, _, _, i3_Barred⟩, i4_Barred, ⟨_, _, _, _, _, _, i5_Barred, i6_Barred, i7_Barred⟩, ⟨_, _, _, i8_Barred⟩, i9_Barred, j1_Barred, j2_Barred, j3_Barred, j4_Barred, rfl, rfl, rfl, rfl, rfl, by decide +kernel⟩, i1_Barred, i2_Barred⟩, j5_Barred⟩,
    C_UnknownCommand,
    ⟨z_UnknownCommand, PySem.W.mg_of X G z_UnknownCommand, PySem.W.mg_none_of X G zn_super, ⟨⟨_, _, _, _, _, _, _, _, _, _, _, _, _, _, _, o1_UnknownCommand, o2_UnknownCommand⟩, o3_UnknownCommand, o4_UnknownCommand, o5_UnknownCommand, o6_UnknownCommand⟩, ⟨e1_UnknownCommand, e2_UnknownCommand, o4_UnknownCommand, e3_UnknownCommand⟩, ⟨e1_UnknownCommand, e2_UnknownCommand, o4_UnknownCommand, e3_UnknownCommand, e4_UnknownCommand, e5_UnknownCommand, e6_UnknownCommand, e7_UnknownCommand⟩, ⟨_, _, _, ⟨⟨_, _, _, _, _, _, _, _, _, i3_UnknownCommand⟩, i4_UnknownCommand, ⟨_, _, _, _, _, _, i5_UnknownCommand, i6_UnknownCommand, i7_UnknownCommand⟩, ⟨_, _, _, i8_UnknownCommand⟩, i9_UnknownCommand, j1_UnknownCommand, j2_UnknownCommand, j3_UnknownCommand, j4_UnknownCommand, rfl, rfl, rfl, rfl, rfl, by decide +kernel⟩, i1_UnknownCommand, i2_UnknownCommand⟩, j5_UnknownCommand⟩,
    C_NoItem,
    ⟨z_NoItem, PySem.W.mg_of X G z_NoItem, PySem.W.mg_none_of X G zn_super, ⟨⟨_, _, _, _, _, _, _, _, _, _, _, _, _, _, o1_NoItem⟩, o3_NoItem, o4_NoItem, o5_NoItem, o6_NoItem⟩, ⟨e1_NoItem, e2_NoItem, o4_NoItem, e3_NoItem⟩, ⟨e1_NoItem, e2_NoItem, o4_NoItem, e3_NoItem, e4_NoItem, e5_NoItem, e6_NoItem, e7_NoItem⟩, ⟨_, _, _, ⟨⟨_, _, _, _, _, _, _, _, _, i3_NoItem⟩, i4_NoItem, ⟨_, _, _, _, _, _, i5_NoItem, i6_NoItem, i7_NoItem⟩, ⟨_, _, _, i8_NoItem⟩, i9_NoItem, j1_NoItem, j2_NoItem, j3_NoItem, j4_NoItem, rfl, rfl, rfl, rfl, rfl, by decide +kernel⟩, i1_NoItem, i2_NoItem⟩, j5_NoItem⟩,
    C_NoStation,
    ⟨z_NoStation, PySem.W.mg_of X G z_NoStation, PySem.W.mg_none_of X G zn_super, ⟨⟨_, _, _, _, _, _, _, _, _, _, _, _, _, _, o1_NoStation⟩, o3_NoStation, o4_NoStation, o5_NoStation, o6_NoStation⟩, ⟨e1_NoStation, e2_NoStation, o4_NoStation, e3_NoStation⟩, ⟨e1_NoStation, e2_NoStation, o4_NoStation, e3_NoStation, e4_NoStation, e5_NoStation, e6_NoStation, e7_NoStation⟩, ⟨_, _, _, ⟨⟨_, _, _, _, _, _, _, _, _, i3_NoStation⟩, i4_NoStation, ⟨_, _, _, _, _, _, i5_NoStation, i6_NoStation, i7_NoStation⟩, ⟨_, _, _, i8_NoStation⟩, i9_NoStation, j1_NoStation, j2_NoStation, j3_NoStation, j4_NoStation, rfl, rfl, rfl, rfl, rfl, by decide +kernel⟩, i1_NoStation, i2_NoStation⟩, j5_NoStation⟩,
    C_NoDuct,
    ⟨z_NoDuct, PySem.W.mg_of X G z_NoDuct, PySem.W.mg_none_of X G zn_super, ⟨⟨_, _, _, _, _, _, _, _, _, _, _, _, _, _, o1_NoDuct⟩, o3_NoDuct, o4_NoDuct, o5_NoDuct, o6_NoDuct⟩, ⟨e1_NoDuct, e2_NoDuct, o4_NoDuct, e3_NoDuct⟩, ⟨e1_NoDuct, e2_NoDuct, o4_NoDuct, e3_NoDuct, e4_NoDuct, e5_NoDuct, e6_NoDuct, e7_NoDuct⟩, ⟨_, _, _, ⟨⟨_, _, _, _, _, _, _, _, _, i3_NoDuct⟩, i4_NoDuct, ⟨_, _, _, _, _, _, i5_NoDuct, i6_NoDuct, i7_NoDuct⟩, ⟨_, _, _, i8_NoDuct⟩, i9_NoDuct, j1_NoDuct, j2_NoDuct, j3_NoDuct, j4_NoDuct, rfl, rfl, rfl, rfl, rfl, by decide +kernel⟩, i1_NoDuct, i2_NoDuct⟩, j5_NoDuct⟩,
    C_NoName,
    ⟨z_NoName, PySem.W.mg_of X G z_NoName, PySem.W.mg_none_of X G zn_super, ⟨⟨_, _, _, _, _, _, _, _, _, _, _, _, _, _, o1_NoName⟩, o3_NoName, o4_NoName, o5_NoName, o6_NoName⟩, ⟨e1_NoName, e2_NoName, o4_NoName, e3_NoName⟩, ⟨e1_NoName, e2_NoName, o4_NoName, e3_NoName, e4_NoName, e5_NoName, e6_NoName, e7_NoName⟩, ⟨_, _, _, ⟨⟨_, _, _, _, _, _, _, _, _, i3_NoName⟩, i4_NoName, ⟨_, _, _, _, _, _, i5_NoName, i6_NoName, i7_NoName⟩, ⟨_, _, _, i8_NoName⟩, i9_NoName, j1_NoName, j2_NoName, j3_NoName, j4_NoName, rfl, rfl, rfl, rfl, rfl, by decide +kernel⟩, i1_NoName, i2_NoName⟩, j5_NoName⟩,
    C_NoFibre,
    ⟨z_NoFibre, PySem.W.mg_of X G z_NoFibre, PySem.W.mg_none_of X G zn_super, ⟨⟨_, _, _, _, _, _, _, _, _, _, _, _, _, _, o1_NoFibre⟩, o3_NoFibre, o4_NoFibre, o5_NoFibre, o6_NoFibre⟩, ⟨e1_NoFibre, e2_NoFibre, o4_NoFibre, e3_NoFibre⟩, ⟨e1_NoFibre, e2_NoFibre, o4_NoFibre, e3_NoFibre, e4_NoFibre, e5_NoFibre, e6_NoFibre, e7_NoFibre⟩, ⟨_, _, _, ⟨⟨_, _, _, _, _, _, _, _, _, i3_NoFibre⟩, i4_NoFibre, ⟨_, _, _, _, _, _, i5_NoFibre, i6_NoFibre, i7_NoFibre⟩, ⟨_, _, _, i8_NoFibre⟩, i9_NoFibre, j1_NoFibre, j2_NoFibre, j3_NoFibre, j4_NoFibre, rfl, rfl, rfl, rfl, rfl, by decide +kernel⟩, i1_NoFibre, i2_NoFibre⟩, j5_NoFibre⟩,
    C_TooMany,
    ⟨z_TooMany, PySem.W.mg_of X G z_TooMany, PySem.W.mg_none_of X G zn_super, ⟨⟨_, _, _, _, _, _, _, _, _, _, _, _, _, _, o1_TooMany⟩, o3_TooMany, o4_TooMany, o5_TooMany, o6_TooMany⟩, ⟨e1_TooMany, e2_TooMany, o4_TooMany, e3_TooMany⟩, ⟨e1_TooMany, e2_TooMany, o4_TooMany, e3_TooMany, e4_TooMany, e5_TooMany, e6_TooMany, e7_TooMany⟩, ⟨_, _, _, ⟨⟨_, _, _, _, _, _, _, _, _, i3_TooMany⟩, i4_TooMany, ⟨_, _, _, _, _, _, i5_TooMany, i6_TooMany, i7_TooMany⟩, ⟨_, _, _, i8_TooMany⟩, i9_TooMany, j1_TooMany, j2_TooMany, j3_TooMany, j4_TooMany, rfl, rfl, rfl, rfl, rfl, by decide +kernel⟩, i1_TooMany, i2_TooMany⟩, j5_TooMany⟩,
    C_TooWide,
    ⟨z_TooWide, PySem.W.mg_of X G z_TooWide, PySem.W.mg_none_of X G zn_super, ⟨⟨_, _, _, _, _, _, _, _, _, _, _, _, _, _, o1_TooWide⟩, o3_TooWide, o4_TooWide, o5_TooWide, o6_TooWide⟩, ⟨e1_TooWide, e2_TooWide, o4_TooWide, e3_TooWide⟩, ⟨e1_TooWide, e2_TooWide, o4_TooWide, e3_TooWide, e4_TooWide, e5_TooWide, e6_TooWide, e7_TooWide⟩, ⟨_, _, _, ⟨⟨_, _, _, _, _, _, _, _, _, i3_TooWide⟩, i4_TooWide, ⟨_, _, _, _, _, _, i5_TooWide, i6_TooWide, i7_TooWide⟩, ⟨_, _, _, i8_TooWide⟩, i9_TooWide, j1_TooWide, j2_TooWide, j3_TooWide, j4_TooWide, rfl, rfl, rfl, rfl, rfl, by decide +kernel⟩, i1_TooWide, i2_TooWide⟩, j5_TooWide⟩,
    C_TooNarrow,
    ⟨z_TooNarrow, PySem.W.mg_of X G z_TooNarrow, PySem.W.mg_none_of X G zn_super, ⟨⟨_, _, _, _, _, _, _, _, _, _, _, _, _, _, o1_TooNarrow⟩, o3_TooNarrow, o4_TooNarrow, o5_TooNarrow, o6_TooNarrow⟩, ⟨e1_TooNarrow, e2_TooNarrow, o4_TooNarrow, e3_TooNarrow⟩, ⟨e1_TooNarrow, e2_TooNarrow, o4_TooNarrow, e3_TooNarrow, e4_TooNarrow, e5_TooNarrow, e6_TooNarrow, e7_TooNarrow⟩, ⟨_, _, _, ⟨⟨_, _, _, _, _, _, _, _, _, i3_TooNarrow⟩, i4_TooNarrow, ⟨_, _, _, _, _, _, i5_TooNarrow, i6_TooNarrow, i7_TooNarrow⟩, ⟨_, _, _, i8_TooNarrow⟩, i9_TooNarrow, j1_TooNarrow, j2_TooNarrow, j3_TooNarrow, j4_TooNarrow, rfl, rfl, rfl, rfl, rfl, by decide +kernel⟩, i1_TooNarrow, i2_TooNarrow⟩, j5_TooNarrow⟩,
    C_NothingToUndo,
    ⟨z_NothingToUndo, PySem.W.mg_of X G z_NothingToUndo, PySem.W.mg_none_of X G zn_super, ⟨⟨_, _, _, _, _, _, _, _, _, _, _, _, _, _, o1_NothingToUndo⟩, o3_NothingToUndo, o4_NothingToUndo, o5_NothingToUndo, o6_NothingToUndo⟩, ⟨e1_NothingToUndo, e2_NothingToUndo, o4_NothingToUndo, e3_NothingToUndo⟩, ⟨e1_NothingToUndo, e2_NothingToUndo, o4_NothingToUndo, e3_NothingToUndo, e4_NothingToUndo, e5_NothingToUndo, e6_NothingToUndo, e7_NothingToUndo⟩, ⟨_, _, _, ⟨⟨_, _, _, _, _, _, _, _, _, i3_NothingToUndo⟩, i4_NothingToUndo, ⟨_, _, _, _, _, _, i5_NothingToUndo, i6_NothingToUndo, i7_NothingToUndo⟩, ⟨_, _, _, i8_NothingToUndo⟩, i9_NothingToUndo, j1_NothingToUndo, j2_NothingToUndo, j3_NothingToUndo, j4_NothingToUndo, rfl, rfl, rfl, rfl, rfl, by decide +kernel⟩, i1_NothingToUndo, i2_NothingToUndo⟩, j5_NothingToUndo⟩,
    C_LightError,
    PySem.W.mg_of X G z_LightError,
    ki_TooFar,
    ki_InvalidRoute,
    ki_InvalidNet,
    ki_InvalidWish,
    ki_InvalidLayout,
    ki_InvalidBand,
    ki_Unlike,
    ki_Turned,
    ki_NotAllowed,
    ki_ParseError,
    ki_Barred,
    ki_Circular,
    ki_NoStation,
    ki_NoItem,
    ki_UnknownCommand,
    ki_NoFibre,
    ki_NoName,
    ki_NoDuct,
    ki_TooNarrow,
    ki_TooWide,
    ki_TooMany,
    ki_NothingToUndo,
    ki_KeyError,
    ki_ValueError,
    ki_LightError,
    ki_LookupError,
    ki_OverflowError,
    ki_IndexError⟩
  exact ⟨M.d_law, fun s v => .of_eq rfl, fun base _ _ => ok_law M (k := 0)⟩
end EL
open PySem PySem.W PyProof.Rows
set_option maxHeartbeats 0 in
theorem PySem.Challenge.cw_everlit_k01_names_and_items_holds : PySem.Challenge.rw_everlit_k01_names_and_items.Holds := by
  w_on; o_law; k_head; (case hw => w_witness2)
  k_fill
  refine EL.walk_G (l := PySem.Challenge.rw_everlit_k01_names_and_items) (n := 63) (k := 5) (x := "_law_script") (sp := fun w => EL.spLaw EL.b_law 6 _) rfl (by decide) rfl ⟨rfl, by decide, by decide⟩ (fun w h Y => PySem.W.kIn_of Y) ?F (fun _ _ a ns hl _ hS => ⟨a, ns, rfl, hS, hl, EL.law_true ns hl, fun _ => rfl⟩)
  case F =>
    intro w mg fa h KX G hmg
    refine' EL.all_mk KX G hmg ?z_len ?z_isinstance ?z_str ?z_all ?z_list ?z_int ?z_abs ?z_KeyError ?z_ValueError ?z_LookupError ?z_OverflowError ?z_IndexError ?z_range ?z_repr ?z_enumerate ?z_MOST_LETTERS ?z_LETTERS ?z_RESERVE ?z_TWIN ?z_is_name ?l_is_name ?c_is_name ?k_is_name ?z_signal_of ?l_signal_of ?c_signal_of ?k_signal_of ?z_twin_of ?l_twin_of ?c_twin_of ?k_twin_of ?z_reserve_of ?l_reserve_of ?c_reserve_of ?k_reserve_of ?z__law_pen ?l__law_pen ?c__law_pen ?k__law_pen ?z__law_draw ?l__law_draw ?c__law_draw ?k__law_draw ?z__law_body ?l__law_body ?c__law_body ?k__law_body ?z__law_fields ?l__law_fields ?c__law_fields ?k__law_fields ?z__law_classes ?l__law_classes ?c__law_classes ?k__law_classes ?z__law_bases ?l__law_bases ?c__law_bases ?k__law_bases ?z_is_light ?l_is_light ?c_is_light ?k_is_light ?z_is_twin ?l_is_twin ?c_is_twin ?k_is_twin ?z_is_reserve ?l_is_reserve ?c_is_reserve ?k_is_reserve ?z__law_pick ?l__law_pick ?c__law_pick ?k__law_pick ?z__law_word ?l__law_word ?c__law_word ?k__law_word ?z__law_items_right ?l__law_items_right ?c__law_items_right ?k__law_items_right ?z_is_item ?l_is_item ?c_is_item ?k_is_item ?z__law_odd ?l__law_odd ?c__law_odd ?k__law_odd ?z__law_made ?l__law_made ?c__law_made ?k__law_made ?z__law_named ?l__law_named ?c__law_named ?k__law_named ?z__law_value ?l__law_value ?c__law_value ?k__law_value ?z__law_told_right ?l__law_told_right ?c__law_told_right ?k__law_told_right ?z__law_errors_right ?l__law_errors_right ?c__law_errors_right ?k__law_errors_right ?z_law ?l_law ?c_law ?k_law ?zn_super ?z_LightError ?z_InvalidNet ?z_InvalidLayout ?z_NotAllowed ?z_Turned ?z_ParseError ?z_InvalidRoute ?z_TooFar ?z_InvalidBand ?z_InvalidWish ?z_Unlike ?z_Circular ?z_Barred ?z_UnknownCommand ?z_NoItem ?z_NoStation ?z_NoDuct ?z_NoName ?z_NoFibre ?z_TooMany ?z_TooWide ?z_TooNarrow ?z_NothingToUndo ?o1_InvalidNet ?o2_InvalidNet ?o3_InvalidNet ?o4_InvalidNet ?o5_InvalidNet ?o6_InvalidNet ?e1_InvalidNet ?e2_InvalidNet ?e3_InvalidNet ?e4_InvalidNet ?e5_InvalidNet ?e6_InvalidNet ?e7_InvalidNet ?i1_InvalidNet ?i2_InvalidNet ?i3_InvalidNet ?i4_InvalidNet ?i5_InvalidNet ?i6_InvalidNet ?i7_InvalidNet ?i8_InvalidNet ?i9_InvalidNet ?j1_InvalidNet ?j2_InvalidNet ?j3_InvalidNet ?j4_InvalidNet ?j5_InvalidNet ?j6_InvalidNet ?o1_InvalidLayout ?o2_InvalidLayout ?o3_InvalidLayout ?o4_InvalidLayout ?o5_InvalidLayout ?o6_InvalidLayout ?e1_InvalidLayout ?e2_InvalidLayout ?e3_InvalidLayout ?e4_InvalidLayout ?e5_InvalidLayout ?e6_InvalidLayout ?e7_InvalidLayout ?i1_InvalidLayout ?i2_InvalidLayout ?i3_InvalidLayout ?i4_InvalidLayout ?i5_InvalidLayout ?i6_InvalidLayout ?i7_InvalidLayout ?i8_InvalidLayout ?i9_InvalidLayout ?j1_InvalidLayout ?j2_InvalidLayout ?j3_InvalidLayout ?j4_InvalidLayout ?j5_InvalidLayout ?j6_InvalidLayout ?o1_NotAllowed ?o2_NotAllowed ?o3_NotAllowed ?o4_NotAllowed ?o5_NotAllowed ?o6_NotAllowed ?e1_NotAllowed ?e2_NotAllowed ?e3_NotAllowed ?e4_NotAllowed ?e5_NotAllowed ?e6_NotAllowed ?e7_NotAllowed ?i1_NotAllowed ?i2_NotAllowed ?i3_NotAllowed ?i4_NotAllowed ?i5_NotAllowed ?i6_NotAllowed ?i7_NotAllowed ?i8_NotAllowed ?i9_NotAllowed ?j1_NotAllowed ?j2_NotAllowed ?j3_NotAllowed ?j4_NotAllowed ?j5_NotAllowed ?j6_NotAllowed ?o1_Turned ?o2_Turned ?o3_Turned ?o4_Turned ?o5_Turned ?o6_Turned ?e1_Turned ?e2_Turned ?e3_Turned ?e4_Turned ?e5_Turned ?e6_Turned ?e7_Turned ?i1_Turned ?i2_Turned ?i3_Turned ?i4_Turned ?i5_Turned ?i6_Turned ?i7_Turned ?i8_Turned ?i9_Turned ?j1_Turned ?j2_Turned ?j3_Turned ?j4_Turned ?j5_Turned ?j6_Turned ?o1_ParseError ?o2_ParseError ?o3_ParseError ?o4_ParseError ?o5_ParseError ?o6_ParseError ?e1_ParseError ?e2_ParseError ?e3_ParseError ?e4_ParseError ?e5_ParseError ?e6_ParseError ?e7_ParseError ?i1_ParseError ?i2_ParseError ?i3_ParseError ?i4_ParseError ?i5_ParseError ?i6_ParseError ?i7_ParseError ?i8_ParseError ?i9_ParseError ?j1_ParseError ?j2_ParseError ?j3_ParseError ?j4_ParseError ?j5_ParseError ?j6_ParseError ?o1_InvalidRoute ?o2_InvalidRoute ?o3_InvalidRoute ?o4_InvalidRoute ?o5_InvalidRoute ?o6_InvalidRoute ?e1_InvalidRoute ?e2_InvalidRoute ?e3_InvalidRoute ?e4_InvalidRoute ?e5_InvalidRoute ?e6_InvalidRoute ?e7_InvalidRoute ?i1_InvalidRoute ?i2_InvalidRoute ?i3_InvalidRoute ?i4_InvalidRoute ?i5_InvalidRoute ?i6_InvalidRoute ?i7_InvalidRoute ?i8_InvalidRoute ?i9_InvalidRoute ?j1_InvalidRoute ?j2_InvalidRoute ?j3_InvalidRoute ?j4_InvalidRoute ?j5_InvalidRoute ?o1_TooFar ?o2_TooFar ?o3_TooFar ?o4_TooFar ?o5_TooFar ?o6_TooFar ?e1_TooFar ?e2_TooFar ?e3_TooFar ?e4_TooFar ?e5_TooFar ?e6_TooFar ?e7_TooFar ?i1_TooFar ?i2_TooFar ?i3_TooFar ?i4_TooFar ?i5_TooFar ?i6_TooFar ?i7_TooFar ?i8_TooFar ?i9_TooFar ?j1_TooFar ?j2_TooFar ?j3_TooFar ?j4_TooFar ?j5_TooFar ?o1_InvalidBand ?o2_InvalidBand ?o3_InvalidBand ?o4_InvalidBand ?o5_InvalidBand ?o6_InvalidBand ?e1_InvalidBand ?e2_InvalidBand ?e3_InvalidBand ?e4_InvalidBand ?e5_InvalidBand ?e6_InvalidBand ?e7_InvalidBand ?i1_InvalidBand ?i2_InvalidBand ?i3_InvalidBand ?i4_InvalidBand ?i5_InvalidBand ?i6_InvalidBand ?i7_InvalidBand ?i8_InvalidBand ?i9_InvalidBand ?j1_InvalidBand ?j2_InvalidBand ?j3_InvalidBand ?j4_InvalidBand ?j5_InvalidBand ?o1_InvalidWish ?o2_InvalidWish ?o3_InvalidWish ?o4_InvalidWish ?o5_InvalidWish ?o6_InvalidWish ?e1_InvalidWish ?e2_InvalidWish ?e3_InvalidWish ?e4_InvalidWish ?e5_InvalidWish ?e6_InvalidWish ?e7_InvalidWish ?i1_InvalidWish ?i2_InvalidWish ?i3_InvalidWish ?i4_InvalidWish ?i5_InvalidWish ?i6_InvalidWish ?i7_InvalidWish ?i8_InvalidWish ?i9_InvalidWish ?j1_InvalidWish ?j2_InvalidWish ?j3_InvalidWish ?j4_InvalidWish ?j5_InvalidWish ?o1_Unlike ?o2_Unlike ?o3_Unlike ?o4_Unlike ?o5_Unlike ?o6_Unlike ?e1_Unlike ?e2_Unlike ?e3_Unlike ?e4_Unlike ?e5_Unlike ?e6_Unlike ?e7_Unlike ?i1_Unlike ?i2_Unlike ?i3_Unlike ?i4_Unlike ?i5_Unlike ?i6_Unlike ?i7_Unlike ?i8_Unlike ?i9_Unlike ?j1_Unlike ?j2_Unlike ?j3_Unlike ?j4_Unlike ?j5_Unlike ?o1_Circular ?o2_Circular ?o3_Circular ?o4_Circular ?o5_Circular ?o6_Circular ?e1_Circular ?e2_Circular ?e3_Circular ?e4_Circular ?e5_Circular ?e6_Circular ?e7_Circular ?i1_Circular ?i2_Circular ?i3_Circular ?i4_Circular ?i5_Circular ?i6_Circular ?i7_Circular ?i8_Circular ?i9_Circular ?j1_Circular ?j2_Circular ?j3_Circular ?j4_Circular ?j5_Circular ?o1_Barred ?o2_Barred ?o3_Barred ?o4_Barred ?o5_Barred ?o6_Barred ?e1_Barred ?e2_Barred ?e3_Barred ?e4_Barred ?e5_Barred ?e6_Barred ?e7_Barred ?i1_Barred ?i2_Barred ?i3_Barred ?i4_Barred ?i5_Barred ?i6_Barred ?i7_Barred ?i8_Barred ?i9_Barred ?j1_Barred ?j2_Barred ?j3_Barred ?j4_Barred ?j5_Barred ?o1_UnknownCommand ?o2_UnknownCommand ?o3_UnknownCommand ?o4_UnknownCommand ?o5_UnknownCommand ?o6_UnknownCommand ?e1_UnknownCommand ?e2_UnknownCommand ?e3_UnknownCommand ?e4_UnknownCommand ?e5_UnknownCommand ?e6_UnknownCommand ?e7_UnknownCommand ?i1_UnknownCommand ?i2_UnknownCommand ?i3_UnknownCommand ?i4_UnknownCommand ?i5_UnknownCommand ?i6_UnknownCommand ?i7_UnknownCommand ?i8_UnknownCommand ?i9_UnknownCommand ?j1_UnknownCommand ?j2_UnknownCommand ?j3_UnknownCommand ?j4_UnknownCommand ?j5_UnknownCommand ?o1_NoItem ?o3_NoItem ?o4_NoItem ?o5_NoItem ?o6_NoItem ?e1_NoItem ?e2_NoItem ?e3_NoItem ?e4_NoItem ?e5_NoItem ?e6_NoItem ?e7_NoItem ?i1_NoItem ?i2_NoItem ?i3_NoItem ?i4_NoItem ?i5_NoItem ?i6_NoItem ?i7_NoItem ?i8_NoItem ?i9_NoItem ?j1_NoItem ?j2_NoItem ?j3_NoItem ?j4_NoItem ?j5_NoItem ?o1_NoStation ?o3_NoStation ?o4_NoStation ?o5_NoStation ?o6_NoStation ?e1_NoStation ?e2_NoStation ?e3_NoStation ?e4_NoStation ?e5_NoStation ?e6_NoStation ?e7_NoStation ?i1_NoStation ?i2_NoStation ?i3_NoStation ?i4_NoStation ?i5_NoStation ?i6_NoStation ?i7_NoStation ?i8_NoStation ?i9_NoStation ?j1_NoStation ?j2_NoStation ?j3_NoStation ?j4_NoStation ?j5_NoStation ?o1_NoDuct ?o3_NoDuct ?o4_NoDuct ?o5_NoDuct ?o6_NoDuct ?e1_NoDuct ?e2_NoDuct ?e3_NoDuct ?e4_NoDuct ?e5_NoDuct ?e6_NoDuct ?e7_NoDuct ?i1_NoDuct ?i2_NoDuct ?i3_NoDuct ?i4_NoDuct ?i5_NoDuct ?i6_NoDuct ?i7_NoDuct ?i8_NoDuct ?i9_NoDuct ?j1_NoDuct ?j2_NoDuct ?j3_NoDuct ?j4_NoDuct ?j5_NoDuct ?o1_NoName ?o3_NoName ?o4_NoName ?o5_NoName ?o6_NoName ?e1_NoName ?e2_NoName ?e3_NoName ?e4_NoName ?e5_NoName ?e6_NoName ?e7_NoName ?i1_NoName ?i2_NoName ?i3_NoName ?i4_NoName ?i5_NoName ?i6_NoName ?i7_NoName ?i8_NoName ?i9_NoName ?j1_NoName ?j2_NoName ?j3_NoName ?j4_NoName ?j5_NoName ?o1_NoFibre ?o3_NoFibre ?o4_NoFibre ?o5_NoFibre ?o6_NoFibre ?e1_NoFibre ?e2_NoFibre ?e3_NoFibre ?e4_NoFibre ?e5_NoFibre ?e6_NoFibre ?e7_NoFibre ?i1_NoFibre ?i2_NoFibre ?i3_NoFibre ?i4_NoFibre ?i5_NoFibre ?i6_NoFibre ?i7_NoFibre ?i8_NoFibre ?i9_NoFibre ?j1_NoFibre ?j2_NoFibre ?j3_NoFibre ?j4_NoFibre ?j5_NoFibre ?o1_TooMany ?o3_TooMany ?o4_TooMany ?o5_TooMany ?o6_TooMany ?e1_TooMany ?e2_TooMany ?e3_TooMany ?e4_TooMany ?e5_TooMany ?e6_TooMany ?e7_TooMany ?i1_TooMany ?i2_TooMany ?i3_TooMany ?i4_TooMany ?i5_TooMany ?i6_TooMany ?i7_TooMany ?i8_TooMany ?i9_TooMany ?j1_TooMany ?j2_TooMany ?j3_TooMany ?j4_TooMany ?j5_TooMany ?o1_TooWide ?o3_TooWide ?o4_TooWide ?o5_TooWide ?o6_TooWide ?e1_TooWide ?e2_TooWide ?e3_TooWide ?e4_TooWide ?e5_TooWide ?e6_TooWide ?e7_TooWide ?i1_TooWide ?i2_TooWide ?i3_TooWide ?i4_TooWide ?i5_TooWide ?i6_TooWide ?i7_TooWide ?i8_TooWide ?i9_TooWide ?j1_TooWide ?j2_TooWide ?j3_TooWide ?j4_TooWide ?j5_TooWide ?o1_TooNarrow ?o3_TooNarrow ?o4_TooNarrow ?o5_TooNarrow ?o6_TooNarrow ?e1_TooNarrow ?e2_TooNarrow ?e3_TooNarrow ?e4_TooNarrow ?e5_TooNarrow ?e6_TooNarrow ?e7_TooNarrow ?i1_TooNarrow ?i2_TooNarrow ?i3_TooNarrow ?i4_TooNarrow ?i5_TooNarrow ?i6_TooNarrow ?i7_TooNarrow ?i8_TooNarrow ?i9_TooNarrow ?j1_TooNarrow ?j2_TooNarrow ?j3_TooNarrow ?j4_TooNarrow ?j5_TooNarrow ?o1_NothingToUndo ?o3_NothingToUndo ?o4_NothingToUndo ?o5_NothingToUndo ?o6_NothingToUndo ?e1_NothingToUndo ?e2_NothingToUndo ?e3_NothingToUndo ?e4_NothingToUndo ?e5_NothingToUndo ?e6_NothingToUndo ?e7_NothingToUndo ?i1_NothingToUndo ?i2_NothingToUndo ?i3_NothingToUndo ?i4_NothingToUndo ?i5_NothingToUndo ?i6_NothingToUndo ?i7_NothingToUndo ?i8_NothingToUndo ?i9_NothingToUndo ?j1_NothingToUndo ?j2_NothingToUndo ?j3_NothingToUndo ?j4_NothingToUndo ?j5_NothingToUndo ?ki_TooFar ?ki_InvalidRoute ?ki_InvalidNet ?ki_InvalidWish ?ki_InvalidLayout ?ki_InvalidBand ?ki_Unlike ?ki_Turned ?ki_NotAllowed ?ki_ParseError ?ki_Barred ?ki_Circular ?ki_NoStation ?ki_NoItem ?ki_UnknownCommand ?ki_NoFibre ?ki_NoName ?ki_NoDuct ?ki_TooNarrow ?ki_TooWide ?ki_TooMany ?ki_NothingToUndo ?ki_KeyError ?ki_ValueError ?ki_LightError ?ki_LookupError ?ki_OverflowError ?ki_IndexError
    (case z_len => k_is)
    (case z_isinstance => k_is)
    (case z_str => k_is)
    (case z_all => k_is)
    (case z_list => k_is)
    (case z_int => k_is)
    (case z_abs => k_is)
    (case z_KeyError => k_is)
    (case z_ValueError => k_is)
    (case z_LookupError => k_is)
    (case z_OverflowError => k_is)
    (case z_IndexError => k_is)
    (case z_range => k_is)
    (case z_repr => k_is)
    (case z_enumerate => k_is)
    (case z_MOST_LETTERS => k_is)
    (case z_LETTERS => k_is)
    (case z_RESERVE => k_is)
    (case z_TWIN => k_is)
    (case z_is_name => k_is)
    (case l_is_name => k_is)
    (case c_is_name => k_is)
    (case k_is_name => k_is)
    (case z_signal_of => k_is)
    (case l_signal_of => k_is)
    (case c_signal_of => k_is)
    (case k_signal_of => k_is)
    (case z_twin_of => k_is)
    (case l_twin_of => k_is)
    (case c_twin_of => k_is)
    (case k_twin_of => k_is)
    (case z_reserve_of => k_is)
    (case l_reserve_of => k_is)
    (case c_reserve_of => k_is)
    (case k_reserve_of => k_is)
    (case z__law_pen => k_is)
    (case l__law_pen => k_is)
    (case c__law_pen => k_is)
    (case k__law_pen => k_is)
    (case z__law_draw => k_is)
    (case l__law_draw => k_is)
    (case c__law_draw => k_is)
    (case k__law_draw => k_is)
    (case z__law_body => k_is)
    (case l__law_body => k_is)
    (case c__law_body => k_is)
    (case k__law_body => k_is)
    (case z__law_fields => k_is)
    (case l__law_fields => k_is)
    (case c__law_fields => k_is)
    (case k__law_fields => k_is)
    (case z__law_classes => k_is)
    (case l__law_classes => k_is)
    (case c__law_classes => k_is)
    (case k__law_classes => k_is)
    (case z__law_bases => k_is)
    (case l__law_bases => k_is)
    (case c__law_bases => k_is)
    (case k__law_bases => k_is)
    (case z_is_light => k_is)
    (case l_is_light => k_is)
    (case c_is_light => k_is)
    (case k_is_light => k_is)
    (case z_is_twin => k_is)
    (case l_is_twin => k_is)
    (case c_is_twin => k_is)
    (case k_is_twin => k_is)
    (case z_is_reserve => k_is)
    (case l_is_reserve => k_is)
    (case c_is_reserve => k_is)
    (case k_is_reserve => k_is)
    (case z__law_pick => k_is)
    (case l__law_pick => k_is)
    (case c__law_pick => k_is)
    (case k__law_pick => k_is)
    (case z__law_word => k_is)
    (case l__law_word => k_is)
    (case c__law_word => k_is)
    (case k__law_word => k_is)
    (case z__law_items_right => k_is)
    (case l__law_items_right => k_is)
    (case c__law_items_right => k_is)
    (case k__law_items_right => k_is)
    (case z_is_item => k_is)
    (case l_is_item => k_is)
    (case c_is_item => k_is)
    (case k_is_item => k_is)
    (case z__law_odd => k_is)
    (case l__law_odd => k_is)
    (case c__law_odd => k_is)
    (case k__law_odd => k_is)
    (case z__law_made => k_is)
    (case l__law_made => k_is)
    (case c__law_made => k_is)
    (case k__law_made => k_is)
    (case z__law_named => k_is)
    (case l__law_named => k_is)
    (case c__law_named => k_is)
    (case k__law_named => k_is)
    (case z__law_value => k_is)
    (case l__law_value => k_is)
    (case c__law_value => k_is)
    (case k__law_value => k_is)
    (case z__law_told_right => k_is)
    (case l__law_told_right => k_is)
    (case c__law_told_right => k_is)
    (case k__law_told_right => k_is)
    (case z__law_errors_right => k_is)
    (case l__law_errors_right => k_is)
    (case c__law_errors_right => k_is)
    (case k__law_errors_right => k_is)
    (case z_law => k_is)
    (case l_law => k_is)
    (case c_law => k_is)
    (case k_law => k_is)
    (case zn_super => k_is)
    (case z_LightError => k_is)
    (case z_InvalidNet => k_is)
    (case z_InvalidLayout => k_is)
    (case z_NotAllowed => k_is)
    (case z_Turned => k_is)
    (case z_ParseError => k_is)
    (case z_InvalidRoute => k_is)
    (case z_TooFar => k_is)
    (case z_InvalidBand => k_is)
    (case z_InvalidWish => k_is)
    (case z_Unlike => k_is)
    (case z_Circular => k_is)
    (case z_Barred => k_is)
    (case z_UnknownCommand => k_is)
    (case z_NoItem => k_is)
    (case z_NoStation => k_is)
    (case z_NoDuct => k_is)
    (case z_NoName => k_is)
    (case z_NoFibre => k_is)
    (case z_TooMany => k_is)
    (case z_TooWide => k_is)
    (case z_TooNarrow => k_is)
    (case z_NothingToUndo => k_is)
    (case o1_InvalidNet => k_is)
    (case o2_InvalidNet => first | k_is | ks_is | exact rfl | kernel_rfl | decide +kernel)
    (case o3_InvalidNet => first | k_is | ks_is | exact rfl | kernel_rfl | decide +kernel)
    (case o4_InvalidNet => first | k_is | ks_is | exact rfl | kernel_rfl | decide +kernel)
    (case o5_InvalidNet => first | k_is | ks_is | exact rfl | kernel_rfl | decide +kernel)
    (case o6_InvalidNet => first | k_is | ks_is | exact rfl | kernel_rfl | decide +kernel)
    (case e1_InvalidNet => first | k_is | ks_is | exact rfl | kernel_rfl | decide +kernel)
    (case e2_InvalidNet => first | k_is | ks_is | exact rfl | kernel_rfl | decide +kernel)
    (case e3_InvalidNet => first | k_is | ks_is | exact rfl | kernel_rfl | decide +kernel)
    (case e4_InvalidNet => first | k_is | ks_is | exact rfl | kernel_rfl | decide +kernel)
    (case e5_InvalidNet => first | k_is | ks_is | exact rfl | kernel_rfl | decide +kernel)
    (case e6_InvalidNet => first | k_is | ks_is | exact rfl | kernel_rfl | decide +kernel)
    (case e7_InvalidNet => first | k_is | ks_is | exact rfl | kernel_rfl | decide +kernel)
    (case i1_InvalidNet => k_is)
    (case i2_InvalidNet => first | k_is | ks_is | exact rfl | kernel_rfl | decide +kernel)
    (case i3_InvalidNet => k_is)
    (case i4_InvalidNet => first | k_is | ks_is | exact rfl | kernel_rfl | decide +kernel)
    (case i5_InvalidNet => k_is)
    (case i6_InvalidNet => exact rfl)
    (case i7_InvalidNet => first | k_is | ks_is | exact rfl | kernel_rfl | decide +kernel)
    (case i8_InvalidNet => k_is)
    (case i9_InvalidNet => first | k_is | ks_is | exact rfl | kernel_rfl | decide +kernel)
    (case j1_InvalidNet => first | k_is | ks_is | exact rfl | kernel_rfl | decide +kernel)
    (case j2_InvalidNet => first | k_is | ks_is | exact rfl | kernel_rfl | decide +kernel)
    (case j3_InvalidNet => first | k_is | ks_is | exact rfl | kernel_rfl | decide +kernel)
    (case j4_InvalidNet => first | k_is | ks_is | exact rfl | kernel_rfl | decide +kernel)
    (case j5_InvalidNet => first | k_is | ks_is | exact rfl | kernel_rfl | decide +kernel)
    (case j6_InvalidNet => first | k_is | ks_is | exact rfl | kernel_rfl | decide +kernel)
    (case o1_InvalidLayout => k_is)
    (case o2_InvalidLayout => first | k_is | ks_is | exact rfl | kernel_rfl | decide +kernel)
    (case o3_InvalidLayout => first | k_is | ks_is | exact rfl | kernel_rfl | decide +kernel)
    (case o4_InvalidLayout => first | k_is | ks_is | exact rfl | kernel_rfl | decide +kernel)
    (case o5_InvalidLayout => first | k_is | ks_is | exact rfl | kernel_rfl | decide +kernel)
    (case o6_InvalidLayout => first | k_is | ks_is | exact rfl | kernel_rfl | decide +kernel)
    (case e1_InvalidLayout => first | k_is | ks_is | exact rfl | kernel_rfl | decide +kernel)
    (case e2_InvalidLayout => first | k_is | ks_is | exact rfl | kernel_rfl | decide +kernel)
    (case e3_InvalidLayout => first | k_is | ks_is | exact rfl | kernel_rfl | decide +kernel)
    (case e4_InvalidLayout => first | k_is | ks_is | exact rfl | kernel_rfl | decide +kernel)
    (case e5_InvalidLayout => first | k_is | ks_is | exact rfl | kernel_rfl | decide +kernel)
    (case e6_InvalidLayout => first | k_is | ks_is | exact rfl | kernel_rfl | decide +kernel)
    (case e7_InvalidLayout => first | k_is | ks_is | exact rfl | kernel_rfl | decide +kernel)
    (case i1_InvalidLayout => k_is)
    (case i2_InvalidLayout => first | k_is | ks_is | exact rfl | kernel_rfl | decide +kernel)
    (case i3_InvalidLayout => k_is)
    (case i4_InvalidLayout => first | k_is | ks_is | exact rfl | kernel_rfl | decide +kernel)
    (case i5_InvalidLayout => k_is)
    (case i6_InvalidLayout => exact rfl)
    (case i7_InvalidLayout => first | k_is | ks_is | exact rfl | kernel_rfl | decide +kernel)
    (case i8_InvalidLayout => k_is)
    (case i9_InvalidLayout => first | k_is | ks_is | exact rfl | kernel_rfl | decide +kernel)
    (case j1_InvalidLayout => first | k_is | ks_is | exact rfl | kernel_rfl | decide +kernel)
    (case j2_InvalidLayout => first | k_is | ks_is | exact rfl | kernel_rfl | decide +kernel)
    (case j3_InvalidLayout => first | k_is | ks_is | exact rfl | kernel_rfl | decide +kernel)
    (case j4_InvalidLayout => first | k_is | ks_is | exact rfl | kernel_rfl | decide +kernel)
    (case j5_InvalidLayout => first | k_is | ks_is | exact rfl | kernel_rfl | decide +kernel)
    (case j6_InvalidLayout => first | k_is | ks_is | exact rfl | kernel_rfl | decide +kernel)
    (case o1_NotAllowed => k_is)
    (case o2_NotAllowed => first | k_is | ks_is | exact rfl | kernel_rfl | decide +kernel)
    (case o3_NotAllowed => first | k_is | ks_is | exact rfl | kernel_rfl | decide +kernel)
    (case o4_NotAllowed => first | k_is | ks_is | exact rfl | kernel_rfl | decide +kernel)
    (case o5_NotAllowed => first | k_is | ks_is | exact rfl | kernel_rfl | decide +kernel)
    (case o6_NotAllowed => first | k_is | ks_is | exact rfl | kernel_rfl | decide +kernel)
    (case e1_NotAllowed => first | k_is | ks_is | exact rfl | kernel_rfl | decide +kernel)
    (case e2_NotAllowed => first | k_is | ks_is | exact rfl | kernel_rfl | decide +kernel)
    (case e3_NotAllowed => first | k_is | ks_is | exact rfl | kernel_rfl | decide +kernel)
    (case e4_NotAllowed => first | k_is | ks_is | exact rfl | kernel_rfl | decide +kernel)
    (case e5_NotAllowed => first | k_is | ks_is | exact rfl | kernel_rfl | decide +kernel)
    (case e6_NotAllowed => first | k_is | ks_is | exact rfl | kernel_rfl | decide +kernel)
    (case e7_NotAllowed => first | k_is | ks_is | exact rfl | kernel_rfl | decide +kernel)
    (case i1_NotAllowed => k_is)
    (case i2_NotAllowed => first | k_is | ks_is | exact rfl | kernel_rfl | decide +kernel)
    (case i3_NotAllowed => k_is)
    (case i4_NotAllowed => first | k_is | ks_is | exact rfl | kernel_rfl | decide +kernel)
    (case i5_NotAllowed => k_is)
    (case i6_NotAllowed => exact rfl)
    (case i7_NotAllowed => first | k_is | ks_is | exact rfl | kernel_rfl | decide +kernel)
    (case i8_NotAllowed => k_is)
    (case i9_NotAllowed => first | k_is | ks_is | exact rfl | kernel_rfl | decide +kernel)
    (case j1_NotAllowed => first | k_is | ks_is | exact rfl | kernel_rfl | decide +kernel)
    (case j2_NotAllowed => first | k_is | ks_is | exact rfl | kernel_rfl | decide +kernel)
    (case j3_NotAllowed => first | k_is | ks_is | exact rfl | kernel_rfl | decide +kernel)
    (case j4_NotAllowed => first | k_is | ks_is | exact rfl | kernel_rfl | decide +kernel)
    (case j5_NotAllowed => first | k_is | ks_is | exact rfl | kernel_rfl | decide +kernel)
    (case j6_NotAllowed => first | k_is | ks_is | exact rfl | kernel_rfl | decide +kernel)
    (case o1_Turned => k_is)
    (case o2_Turned => first | k_is | ks_is | exact rfl | kernel_rfl | decide +kernel)
    (case o3_Turned => first | k_is | ks_is | exact rfl | kernel_rfl | decide +kernel)
    (case o4_Turned => first | k_is | ks_is | exact rfl | kernel_rfl | decide +kernel)
    (case o5_Turned => first | k_is | ks_is | exact rfl | kernel_rfl | decide +kernel)
    (case o6_Turned => first | k_is | ks_is | exact rfl | kernel_rfl | decide +kernel)
    (case e1_Turned => first | k_is | ks_is | exact rfl | kernel_rfl | decide +kernel)
    (case e2_Turned => first | k_is | ks_is | exact rfl | kernel_rfl | decide +kernel)
    (case e3_Turned => first | k_is | ks_is | exact rfl | kernel_rfl | decide +kernel)
    (case e4_Turned => first | k_is | ks_is | exact rfl | kernel_rfl | decide +kernel)
    (case e5_Turned => first | k_is | ks_is | exact rfl | kernel_rfl | decide +kernel)
    (case e6_Turned => first | k_is | ks_is | exact rfl | kernel_rfl | decide +kernel)
    (case e7_Turned => first | k_is | ks_is | exact rfl | kernel_rfl | decide +kernel)
    (case i1_Turned => k_is)
    (case i2_Turned => first | k_is | ks_is | exact rfl | kernel_rfl | decide +kernel)
    (case i3_Turned => k_is)
    (case i4_Turned => first | k_is | ks_is | exact rfl | kernel_rfl | decide +kernel)
    (case i5_Turned => k_is)
    (case i6_Turned => exact rfl)
    (case i7_Turned => first | k_is | ks_is | exact rfl | kernel_rfl | decide +kernel)
    (case i8_Turned => k_is)
    (case i9_Turned => first | k_is | ks_is | exact rfl | kernel_rfl | decide +kernel)
    (case j1_Turned => first | k_is | ks_is | exact rfl | kernel_rfl | decide +kernel)
    (case j2_Turned => first | k_is | ks_is | exact rfl | kernel_rfl | decide +kernel)
    (case j3_Turned => first | k_is | ks_is | exact rfl | kernel_rfl | decide +kernel)
    (case j4_Turned => first | k_is | ks_is | exact rfl | kernel_rfl | decide +kernel)
    (case j5_Turned => first | k_is | ks_is | exact rfl | kernel_rfl | decide +kernel)
    (case j6_Turned => first | k_is | ks_is | exact rfl | kernel_rfl | decide +kernel)
    (case o1_ParseError => k_is)
    (case o2_ParseError => first | k_is | ks_is | exact rfl | kernel_rfl | decide +kernel)
    (case o3_ParseError => first | k_is | ks_is | exact rfl | kernel_rfl | decide +kernel)
    (case o4_ParseError => first | k_is | ks_is | exact rfl | kernel_rfl | decide +kernel)
    (case o5_ParseError => first | k_is | ks_is | exact rfl | kernel_rfl | decide +kernel)
    (case o6_ParseError => first | k_is | ks_is | exact rfl | kernel_rfl | decide +kernel)
    (case e1_ParseError => first | k_is | ks_is | exact rfl | kernel_rfl | decide +kernel)
    (case e2_ParseError => first | k_is | ks_is | exact rfl | kernel_rfl | decide +kernel)
    (case e3_ParseError => first | k_is | ks_is | exact rfl | kernel_rfl | decide +kernel)
    (case e4_ParseError => first | k_is | ks_is | exact rfl | kernel_rfl | decide +kernel)
    (case e5_ParseError => first | k_is | ks_is | exact rfl | kernel_rfl | decide +kernel)
    (case e6_ParseError => first | k_is | ks_is | exact rfl | kernel_rfl | decide +kernel)
    (case e7_ParseError => first | k_is | ks_is | exact rfl | kernel_rfl | decide +kernel)
    (case i1_ParseError => k_is)
    (case i2_ParseError => first | k_is | ks_is | exact rfl | kernel_rfl | decide +kernel)
    (case i3_ParseError => k_is)
    (case i4_ParseError => first | k_is | ks_is | exact rfl | kernel_rfl | decide +kernel)
    (case i5_ParseError => k_is)
    (case i6_ParseError => exact rfl)
    (case i7_ParseError => first | k_is | ks_is | exact rfl | kernel_rfl | decide +kernel)
    (case i8_ParseError => k_is)
    (case i9_ParseError => first | k_is | ks_is | exact rfl | kernel_rfl | decide +kernel)
    (case j1_ParseError => first | k_is | ks_is | exact rfl | kernel_rfl | decide +kernel)
    (case j2_ParseError => first | k_is | ks_is | exact rfl | kernel_rfl | decide +kernel)
    (case j3_ParseError => first | k_is | ks_is | exact rfl | kernel_rfl | decide +kernel)
    (case j4_ParseError => first | k_is | ks_is | exact rfl | kernel_rfl | decide +kernel)
    (case j5_ParseError => first | k_is | ks_is | exact rfl | kernel_rfl | decide +kernel)
    (case j6_ParseError => first | k_is | ks_is | exact rfl | kernel_rfl | decide +kernel)
    (case o1_InvalidRoute => k_is)
    (case o2_InvalidRoute => first | k_is | ks_is | exact rfl | kernel_rfl | decide +kernel)
    (case o3_InvalidRoute => first | k_is | ks_is | exact rfl | kernel_rfl | decide +kernel)
    (case o4_InvalidRoute => first | k_is | ks_is | exact rfl | kernel_rfl | decide +kernel)
    (case o5_InvalidRoute => first | k_is | ks_is | exact rfl | kernel_rfl | decide +kernel)
    (case o6_InvalidRoute => first | k_is | ks_is | exact rfl | kernel_rfl | decide +kernel)
    (case e1_InvalidRoute => first | k_is | ks_is | exact rfl | kernel_rfl | decide +kernel)
    (case e2_InvalidRoute => first | k_is | ks_is | exact rfl | kernel_rfl | decide +kernel)
    (case e3_InvalidRoute => first | k_is | ks_is | exact rfl | kernel_rfl | decide +kernel)
    (case e4_InvalidRoute => first | k_is | ks_is | exact rfl | kernel_rfl | decide +kernel)
    (case e5_InvalidRoute => first | k_is | ks_is | exact rfl | kernel_rfl | decide +kernel)
    (case e6_InvalidRoute => first | k_is | ks_is | exact rfl | kernel_rfl | decide +kernel)
    (case e7_InvalidRoute => first | k_is | ks_is | exact rfl | kernel_rfl | decide +kernel)
    (case i1_InvalidRoute => k_is)
    (case i2_InvalidRoute => first | k_is | ks_is | exact rfl | kernel_rfl | decide +kernel)
    (case i3_InvalidRoute => k_is)
    (case i4_InvalidRoute => first | k_is | ks_is | exact rfl | kernel_rfl | decide +kernel)
    (case i5_InvalidRoute => k_is)
    (case i6_InvalidRoute => exact rfl)
    (case i7_InvalidRoute => first | k_is | ks_is | exact rfl | kernel_rfl | decide +kernel)
    (case i8_InvalidRoute => k_is)
    (case i9_InvalidRoute => first | k_is | ks_is | exact rfl | kernel_rfl | decide +kernel)
    (case j1_InvalidRoute => first | k_is | ks_is | exact rfl | kernel_rfl | decide +kernel)
    (case j2_InvalidRoute => first | k_is | ks_is | exact rfl | kernel_rfl | decide +kernel)
    (case j3_InvalidRoute => first | k_is | ks_is | exact rfl | kernel_rfl | decide +kernel)
    (case j4_InvalidRoute => first | k_is | ks_is | exact rfl | kernel_rfl | decide +kernel)
    (case j5_InvalidRoute => first | k_is | ks_is | exact rfl | kernel_rfl | decide +kernel)
    (case o1_TooFar => k_is)
    (case o2_TooFar => first | k_is | ks_is | exact rfl | kernel_rfl | decide +kernel)
    (case o3_TooFar => first | k_is | ks_is | exact rfl | kernel_rfl | decide +kernel)
    (case o4_TooFar => first | k_is | ks_is | exact rfl | kernel_rfl | decide +kernel)
    (case o5_TooFar => first | k_is | ks_is | exact rfl | kernel_rfl | decide +kernel)
    (case o6_TooFar => first | k_is | ks_is | exact rfl | kernel_rfl | decide +kernel)
    (case e1_TooFar => first | k_is | ks_is | exact rfl | kernel_rfl | decide +kernel)
    (case e2_TooFar => first | k_is | ks_is | exact rfl | kernel_rfl | decide +kernel)
    (case e3_TooFar => first | k_is | ks_is | exact rfl | kernel_rfl | decide +kernel)
    (case e4_TooFar => first | k_is | ks_is | exact rfl | kernel_rfl | decide +kernel)
    (case e5_TooFar => first | k_is | ks_is | exact rfl | kernel_rfl | decide +kernel)
    (case e6_TooFar => first | k_is | ks_is | exact rfl | kernel_rfl | decide +kernel)
    (case e7_TooFar => first | k_is | ks_is | exact rfl | kernel_rfl | decide +kernel)
    (case i1_TooFar => k_is)
    (case i2_TooFar => first | k_is | ks_is | exact rfl | kernel_rfl | decide +kernel)
    (case i3_TooFar => k_is)
    (case i4_TooFar => first | k_is | ks_is | exact rfl | kernel_rfl | decide +kernel)
    (case i5_TooFar => k_is)
    (case i6_TooFar => exact rfl)
    (case i7_TooFar => first | k_is | ks_is | exact rfl | kernel_rfl | decide +kernel)
    (case i8_TooFar => k_is)
    (case i9_TooFar => first | k_is | ks_is | exact rfl | kernel_rfl | decide +kernel)
    (case j1_TooFar => first | k_is | ks_is | exact rfl | kernel_rfl | decide +kernel)
    (case j2_TooFar => first | k_is | ks_is | exact rfl | kernel_rfl | decide +kernel)
    (case j3_TooFar => first | k_is | ks_is | exact rfl | kernel_rfl | decide +kernel)
    (case j4_TooFar => first | k_is | ks_is | exact rfl | kernel_rfl | decide +kernel)
    (case j5_TooFar => first | k_is | ks_is | exact rfl | kernel_rfl | decide +kernel)
    (case o1_InvalidBand => k_is)
    (case o2_InvalidBand => first | k_is | ks_is | exact rfl | kernel_rfl | decide +kernel)
    (case o3_InvalidBand => first | k_is | ks_is | exact rfl | kernel_rfl | decide +kernel)
    (case o4_InvalidBand => first | k_is | ks_is | exact rfl | kernel_rfl | decide +kernel)
    (case o5_InvalidBand => first | k_is | ks_is | exact rfl | kernel_rfl | decide +kernel)
    (case o6_InvalidBand => first | k_is | ks_is | exact rfl | kernel_rfl | decide +kernel)
    (case e1_InvalidBand => first | k_is | ks_is | exact rfl | kernel_rfl | decide +kernel)
    (case e2_InvalidBand => first | k_is | ks_is | exact rfl | kernel_rfl | decide +kernel)
    (case e3_InvalidBand => first | k_is | ks_is | exact rfl | kernel_rfl | decide +kernel)
    (case e4_InvalidBand => first | k_is | ks_is | exact rfl | kernel_rfl | decide +kernel)
    (case e5_InvalidBand => first | k_is | ks_is | exact rfl | kernel_rfl | decide +kernel)
    (case e6_InvalidBand => first | k_is | ks_is | exact rfl | kernel_rfl | decide +kernel)
    (case e7_InvalidBand => first | k_is | ks_is | exact rfl | kernel_rfl | decide +kernel)
    (case i1_InvalidBand => k_is)
    (case i2_InvalidBand => first | k_is | ks_is | exact rfl | kernel_rfl | decide +kernel)
    (case i3_InvalidBand => k_is)
    (case i4_InvalidBand => first | k_is | ks_is | exact rfl | kernel_rfl | decide +kernel)
    (case i5_InvalidBand => k_is)
    (case i6_InvalidBand => exact rfl)
    (case i7_InvalidBand => first | k_is | ks_is | exact rfl | kernel_rfl | decide +kernel)
    (case i8_InvalidBand => k_is)
    (case i9_InvalidBand => first | k_is | ks_is | exact rfl | kernel_rfl | decide +kernel)
    (case j1_InvalidBand => first | k_is | ks_is | exact rfl | kernel_rfl | decide +kernel)
    (case j2_InvalidBand => first | k_is | ks_is | exact rfl | kernel_rfl | decide +kernel)
    (case j3_InvalidBand => first | k_is | ks_is | exact rfl | kernel_rfl | decide +kernel)
    (case j4_InvalidBand => first | k_is | ks_is | exact rfl | kernel_rfl | decide +kernel)
    (case j5_InvalidBand => first | k_is | ks_is | exact rfl | kernel_rfl | decide +kernel)
    (case o1_InvalidWish => k_is)
    (case o2_InvalidWish => first | k_is | ks_is | exact rfl | kernel_rfl | decide +kernel)
    (case o3_InvalidWish => first | k_is | ks_is | exact rfl | kernel_rfl | decide +kernel)
    (case o4_InvalidWish => first | k_is | ks_is | exact rfl | kernel_rfl | decide +kernel)
    (case o5_InvalidWish => first | k_is | ks_is | exact rfl | kernel_rfl | decide +kernel)
    (case o6_InvalidWish => first | k_is | ks_is | exact rfl | kernel_rfl | decide +kernel)
    (case e1_InvalidWish => first | k_is | ks_is | exact rfl | kernel_rfl | decide +kernel)
    (case e2_InvalidWish => first | k_is | ks_is | exact rfl | kernel_rfl | decide +kernel)
    (case e3_InvalidWish => first | k_is | ks_is | exact rfl | kernel_rfl | decide +kernel)
    (case e4_InvalidWish => first | k_is | ks_is | exact rfl | kernel_rfl | decide +kernel)
    (case e5_InvalidWish => first | k_is | ks_is | exact rfl | kernel_rfl | decide +kernel)
    (case e6_InvalidWish => first | k_is | ks_is | exact rfl | kernel_rfl | decide +kernel)
    (case e7_InvalidWish => first | k_is | ks_is | exact rfl | kernel_rfl | decide +kernel)
    (case i1_InvalidWish => k_is)
    (case i2_InvalidWish => first | k_is | ks_is | exact rfl | kernel_rfl | decide +kernel)
    (case i3_InvalidWish => k_is)
    (case i4_InvalidWish => first | k_is | ks_is | exact rfl | kernel_rfl | decide +kernel)
    (case i5_InvalidWish => k_is)
    (case i6_InvalidWish => exact rfl)
    (case i7_InvalidWish => first | k_is | ks_is | exact rfl | kernel_rfl | decide +kernel)
    (case i8_InvalidWish => k_is)
    (case i9_InvalidWish => first | k_is | ks_is | exact rfl | kernel_rfl | decide +kernel)
    (case j1_InvalidWish => first | k_is | ks_is | exact rfl | kernel_rfl | decide +kernel)
    (case j2_InvalidWish => first | k_is | ks_is | exact rfl | kernel_rfl | decide +kernel)
    (case j3_InvalidWish => first | k_is | ks_is | exact rfl | kernel_rfl | decide +kernel)
    (case j4_InvalidWish => first | k_is | ks_is | exact rfl | kernel_rfl | decide +kernel)
    (case j5_InvalidWish => first | k_is | ks_is | exact rfl | kernel_rfl | decide +kernel)
    (case o1_Unlike => k_is)
    (case o2_Unlike => first | k_is | ks_is | exact rfl | kernel_rfl | decide +kernel)
    (case o3_Unlike => first | k_is | ks_is | exact rfl | kernel_rfl | decide +kernel)
    (case o4_Unlike => first | k_is | ks_is | exact rfl | kernel_rfl | decide +kernel)
    (case o5_Unlike => first | k_is | ks_is | exact rfl | kernel_rfl | decide +kernel)
    (case o6_Unlike => first | k_is | ks_is | exact rfl | kernel_rfl | decide +kernel)
    (case e1_Unlike => first | k_is | ks_is | exact rfl | kernel_rfl | decide +kernel)
    (case e2_Unlike => first | k_is | ks_is | exact rfl | kernel_rfl | decide +kernel)
    (case e3_Unlike => first | k_is | ks_is | exact rfl | kernel_rfl | decide +kernel)
    (case e4_Unlike => first | k_is | ks_is | exact rfl | kernel_rfl | decide +kernel)
    (case e5_Unlike => first | k_is | ks_is | exact rfl | kernel_rfl | decide +kernel)
    (case e6_Unlike => first | k_is | ks_is | exact rfl | kernel_rfl | decide +kernel)
    (case e7_Unlike => first | k_is | ks_is | exact rfl | kernel_rfl | decide +kernel)
    (case i1_Unlike => k_is)
    (case i2_Unlike => first | k_is | ks_is | exact rfl | kernel_rfl | decide +kernel)
    (case i3_Unlike => k_is)
    (case i4_Unlike => first | k_is | ks_is | exact rfl | kernel_rfl | decide +kernel)
    (case i5_Unlike => k_is)
    (case i6_Unlike => exact rfl)
    (case i7_Unlike => first | k_is | ks_is | exact rfl | kernel_rfl | decide +kernel)
    (case i8_Unlike => k_is)
    (case i9_Unlike => first | k_is | ks_is | exact rfl | kernel_rfl | decide +kernel)
    (case j1_Unlike => first | k_is | ks_is | exact rfl | kernel_rfl | decide +kernel)
    (case j2_Unlike => first | k_is | ks_is | exact rfl | kernel_rfl | decide +kernel)
    (case j3_Unlike => first | k_is | ks_is | exact rfl | kernel_rfl | decide +kernel)
    (case j4_Unlike => first | k_is | ks_is | exact rfl | kernel_rfl | decide +kernel)
    (case j5_Unlike => first | k_is | ks_is | exact rfl | kernel_rfl | decide +kernel)
    (case o1_Circular => k_is)
    (case o2_Circular => first | k_is | ks_is | exact rfl | kernel_rfl | decide +kernel)
    (case o3_Circular => first | k_is | ks_is | exact rfl | kernel_rfl | decide +kernel)
    (case o4_Circular => first | k_is | ks_is | exact rfl | kernel_rfl | decide +kernel)
    (case o5_Circular => first | k_is | ks_is | exact rfl | kernel_rfl | decide +kernel)
    (case o6_Circular => first | k_is | ks_is | exact rfl | kernel_rfl | decide +kernel)
    (case e1_Circular => first | k_is | ks_is | exact rfl | kernel_rfl | decide +kernel)
    (case e2_Circular => first | k_is | ks_is | exact rfl | kernel_rfl | decide +kernel)
    (case e3_Circular => first | k_is | ks_is | exact rfl | kernel_rfl | decide +kernel)
    (case e4_Circular => first | k_is | ks_is | exact rfl | kernel_rfl | decide +kernel)
    (case e5_Circular => first | k_is | ks_is | exact rfl | kernel_rfl | decide +kernel)
    (case e6_Circular => first | k_is | ks_is | exact rfl | kernel_rfl | decide +kernel)
    (case e7_Circular => first | k_is | ks_is | exact rfl | kernel_rfl | decide +kernel)
    (case i1_Circular => k_is)
    (case i2_Circular => first | k_is | ks_is | exact rfl | kernel_rfl | decide +kernel)
    (case i3_Circular => k_is)
    (case i4_Circular => first | k_is | ks_is | exact rfl | kernel_rfl | decide +kernel)
    (case i5_Circular => k_is)
    (case i6_Circular => exact rfl)
    (case i7_Circular => first | k_is | ks_is | exact rfl | kernel_rfl | decide +kernel)
    (case i8_Circular => k_is)
    (case i9_Circular => first | k_is | ks_is | exact rfl | kernel_rfl | decide +kernel)
    (case j1_Circular => first | k_is | ks_is | exact rfl | kernel_rfl | decide +kernel)
    (case j2_Circular => first | k_is | ks_is | exact rfl | kernel_rfl | decide +kernel)
    (case j3_Circular => first | k_is | ks_is | exact rfl | kernel_rfl | decide +kernel)
    (case j4_Circular => first | k_is | ks_is | exact rfl | kernel_rfl | decide +kernel)
    (case j5_Circular => first | k_is | ks_is | exact rfl | kernel_rfl | decide +kernel)
    (case o1_Barred => k_is)
    (case o2_Barred => first | k_is | ks_is | exact rfl | kernel_rfl | decide +kernel)
    (case o3_Barred => first | k_is | ks_is | exact rfl | kernel_rfl | decide +kernel)
    (case o4_Barred => first | k_is | ks_is | exact rfl | kernel_rfl | decide +kernel)
    (case o5_Barred => first | k_is | ks_is | exact rfl | kernel_rfl | decide +kernel)
    (case o6_Barred => first | k_is | ks_is | exact rfl | kernel_rfl | decide +kernel)
    (case e1_Barred => first | k_is | ks_is | exact rfl | kernel_rfl | decide +kernel)
    (case e2_Barred => first | k_is | ks_is | exact rfl | kernel_rfl | decide +kernel)
    (case e3_Barred => first | k_is | ks_is | exact rfl | kernel_rfl | decide +kernel)
    (case e4_Barred => first | k_is | ks_is | exact rfl | kernel_rfl | decide +kernel)
    (case e5_Barred => first | k_is | ks_is | exact rfl | kernel_rfl | decide +kernel)
    (case e6_Barred => first | k_is | ks_is | exact rfl | kernel_rfl | decide +kernel)
    (case e7_Barred => first | k_is | ks_is | exact rfl | kernel_rfl | decide +kernel)
    (case i1_Barred => k_is)
    (case i2_Barred => first | k_is | ks_is | exact rfl | kernel_rfl | decide +kernel)
    (case i3_Barred => k_is)
    (case i4_Barred => first | k_is | ks_is | exact rfl | kernel_rfl | decide +kernel)
    (case i5_Barred => k_is)
    (case i6_Barred => exact rfl)
    (case i7_Barred => first | k_is | ks_is | exact rfl | kernel_rfl | decide +kernel)
    (case i8_Barred => k_is)
    (case i9_Barred => first | k_is | ks_is | exact rfl | kernel_rfl | decide +kernel)
    (case j1_Barred => first | k_is | ks_is | exact rfl | kernel_rfl | decide +kernel)
    (case j2_Barred => first | k_is | ks_is | exact rfl | kernel_rfl | decide +kernel)
    (case j3_Barred => first | k_is | ks_is | exact rfl | kernel_rfl | decide +kernel)
    (case j4_Barred => first | k_is | ks_is | exact rfl | kernel_rfl | decide +kernel)
    (case j5_Barred => first | k_is | ks_is | exact rfl | kernel_rfl | decide +kernel)
    (case o1_UnknownCommand => k_is)
    (case o2_UnknownCommand => first | k_is | ks_is | exact rfl | kernel_rfl | decide +kernel)
    (case o3_UnknownCommand => first | k_is | ks_is | exact rfl | kernel_rfl | decide +kernel)
    (case o4_UnknownCommand => first | k_is | ks_is | exact rfl | kernel_rfl | decide +kernel)
    (case o5_UnknownCommand => first | k_is | ks_is | exact rfl | kernel_rfl | decide +kernel)
    (case o6_UnknownCommand => first | k_is | ks_is | exact rfl | kernel_rfl | decide +kernel)
    (case e1_UnknownCommand => first | k_is | ks_is | exact rfl | kernel_rfl | decide +kernel)
    (case e2_UnknownCommand => first | k_is | ks_is | exact rfl | kernel_rfl | decide +kernel)
    (case e3_UnknownCommand => first | k_is | ks_is | exact rfl | kernel_rfl | decide +kernel)
    (case e4_UnknownCommand => first | k_is | ks_is | exact rfl | kernel_rfl | decide +kernel)
    (case e5_UnknownCommand => first | k_is | ks_is | exact rfl | kernel_rfl | decide +kernel)
    (case e6_UnknownCommand => first | k_is | ks_is | exact rfl | kernel_rfl | decide +kernel)
    (case e7_UnknownCommand => first | k_is | ks_is | exact rfl | kernel_rfl | decide +kernel)
    (case i1_UnknownCommand => k_is)
    (case i2_UnknownCommand => first | k_is | ks_is | exact rfl | kernel_rfl | decide +kernel)
    (case i3_UnknownCommand => k_is)
    (case i4_UnknownCommand => first | k_is | ks_is | exact rfl | kernel_rfl | decide +kernel)
    (case i5_UnknownCommand => k_is)
    (case i6_UnknownCommand => exact rfl)
    (case i7_UnknownCommand => first | k_is | ks_is | exact rfl | kernel_rfl | decide +kernel)
    (case i8_UnknownCommand => k_is)
    (case i9_UnknownCommand => first | k_is | ks_is | exact rfl | kernel_rfl | decide +kernel)
    (case j1_UnknownCommand => first | k_is | ks_is | exact rfl | kernel_rfl | decide +kernel)
    (case j2_UnknownCommand => first | k_is | ks_is | exact rfl | kernel_rfl | decide +kernel)
    (case j3_UnknownCommand => first | k_is | ks_is | exact rfl | kernel_rfl | decide +kernel)
    (case j4_UnknownCommand => first | k_is | ks_is | exact rfl | kernel_rfl | decide +kernel)
    (case j5_UnknownCommand => first | k_is | ks_is | exact rfl | kernel_rfl | decide +kernel)
    (case o1_NoItem => k_is)
    (case o3_NoItem => first | k_is | ks_is | exact rfl | kernel_rfl | decide +kernel)
    (case o4_NoItem => first | k_is | ks_is | exact rfl | kernel_rfl | decide +kernel)
    (case o5_NoItem => first | k_is | ks_is | exact rfl | kernel_rfl | decide +kernel)
    (case o6_NoItem => first | k_is | ks_is | exact rfl | kernel_rfl | decide +kernel)
    (case e1_NoItem => first | k_is | ks_is | exact rfl | kernel_rfl | decide +kernel)
    (case e2_NoItem => first | k_is | ks_is | exact rfl | kernel_rfl | decide +kernel)
    (case e3_NoItem => first | k_is | ks_is | exact rfl | kernel_rfl | decide +kernel)
    (case e4_NoItem => first | k_is | ks_is | exact rfl | kernel_rfl | decide +kernel)
    (case e5_NoItem => first | k_is | ks_is | exact rfl | kernel_rfl | decide +kernel)
    (case e6_NoItem => first | k_is | ks_is | exact rfl | kernel_rfl | decide +kernel)
    (case e7_NoItem => first | k_is | ks_is | exact rfl | kernel_rfl | decide +kernel)
    (case i1_NoItem => k_is)
    (case i2_NoItem => first | k_is | ks_is | exact rfl | kernel_rfl | decide +kernel)
    (case i3_NoItem => k_is)
    (case i4_NoItem => first | k_is | ks_is | exact rfl | kernel_rfl | decide +kernel)
    (case i5_NoItem => k_is)
    (case i6_NoItem => exact rfl)
    (case i7_NoItem => first | k_is | ks_is | exact rfl | kernel_rfl | decide +kernel)
    (case i8_NoItem => k_is)
    (case i9_NoItem => first | k_is | ks_is | exact rfl | kernel_rfl | decide +kernel)
    (case j1_NoItem => first | k_is | ks_is | exact rfl | kernel_rfl | decide +kernel)
    (case j2_NoItem => first | k_is | ks_is | exact rfl | kernel_rfl | decide +kernel)
    (case j3_NoItem => first | k_is | ks_is | exact rfl | kernel_rfl | decide +kernel)
    (case j4_NoItem => first | k_is | ks_is | exact rfl | kernel_rfl | decide +kernel)
    (case j5_NoItem => first | k_is | ks_is | exact rfl | kernel_rfl | decide +kernel)
    (case o1_NoStation => k_is)
    (case o3_NoStation => first | k_is | ks_is | exact rfl | kernel_rfl | decide +kernel)
    (case o4_NoStation => first | k_is | ks_is | exact rfl | kernel_rfl | decide +kernel)
    (case o5_NoStation => first | k_is | ks_is | exact rfl | kernel_rfl | decide +kernel)
    (case o6_NoStation => first | k_is | ks_is | exact rfl | kernel_rfl | decide +kernel)
    (case e1_NoStation => first | k_is | ks_is | exact rfl | kernel_rfl | decide +kernel)
    (case e2_NoStation => first | k_is | ks_is | exact rfl | kernel_rfl | decide +kernel)
    (case e3_NoStation => first | k_is | ks_is | exact rfl | kernel_rfl | decide +kernel)
    (case e4_NoStation => first | k_is | ks_is | exact rfl | kernel_rfl | decide +kernel)
    (case e5_NoStation => first | k_is | ks_is | exact rfl | kernel_rfl | decide +kernel)
    (case e6_NoStation => first | k_is | ks_is | exact rfl | kernel_rfl | decide +kernel)
    (case e7_NoStation => first | k_is | ks_is | exact rfl | kernel_rfl | decide +kernel)
    (case i1_NoStation => k_is)
    (case i2_NoStation => first | k_is | ks_is | exact rfl | kernel_rfl | decide +kernel)
    (case i3_NoStation => k_is)
    (case i4_NoStation => first | k_is | ks_is | exact rfl | kernel_rfl | decide +kernel)
    (case i5_NoStation => k_is)
    (case i6_NoStation => exact rfl)
    (case i7_NoStation => first | k_is | ks_is | exact rfl | kernel_rfl | decide +kernel)
    (case i8_NoStation => k_is)
    (case i9_NoStation => first | k_is | ks_is | exact rfl | kernel_rfl | decide +kernel)
    (case j1_NoStation => first | k_is | ks_is | exact rfl | kernel_rfl | decide +kernel)
    (case j2_NoStation => first | k_is | ks_is | exact rfl | kernel_rfl | decide +kernel)
    (case j3_NoStation => first | k_is | ks_is | exact rfl | kernel_rfl | decide +kernel)
    (case j4_NoStation => first | k_is | ks_is | exact rfl | kernel_rfl | decide +kernel)
    (case j5_NoStation => first | k_is | ks_is | exact rfl | kernel_rfl | decide +kernel)
    (case o1_NoDuct => k_is)
    (case o3_NoDuct => first | k_is | ks_is | exact rfl | kernel_rfl | decide +kernel)
    (case o4_NoDuct => first | k_is | ks_is | exact rfl | kernel_rfl | decide +kernel)
    (case o5_NoDuct => first | k_is | ks_is | exact rfl | kernel_rfl | decide +kernel)
    (case o6_NoDuct => first | k_is | ks_is | exact rfl | kernel_rfl | decide +kernel)
    (case e1_NoDuct => first | k_is | ks_is | exact rfl | kernel_rfl | decide +kernel)
    (case e2_NoDuct => first | k_is | ks_is | exact rfl | kernel_rfl | decide +kernel)
    (case e3_NoDuct => first | k_is | ks_is | exact rfl | kernel_rfl | decide +kernel)
    (case e4_NoDuct => first | k_is | ks_is | exact rfl | kernel_rfl | decide +kernel)
    (case e5_NoDuct => first | k_is | ks_is | exact rfl | kernel_rfl | decide +kernel)
    (case e6_NoDuct => first | k_is | ks_is | exact rfl | kernel_rfl | decide +kernel)
    (case e7_NoDuct => first | k_is | ks_is | exact rfl | kernel_rfl | decide +kernel)
    (case i1_NoDuct => k_is)
    (case i2_NoDuct => first | k_is | ks_is | exact rfl | kernel_rfl | decide +kernel)
    (case i3_NoDuct => k_is)
    (case i4_NoDuct => first | k_is | ks_is | exact rfl | kernel_rfl | decide +kernel)
    (case i5_NoDuct => k_is)
    (case i6_NoDuct => exact rfl)
    (case i7_NoDuct => first | k_is | ks_is | exact rfl | kernel_rfl | decide +kernel)
    (case i8_NoDuct => k_is)
    (case i9_NoDuct => first | k_is | ks_is | exact rfl | kernel_rfl | decide +kernel)
    (case j1_NoDuct => first | k_is | ks_is | exact rfl | kernel_rfl | decide +kernel)
    (case j2_NoDuct => first | k_is | ks_is | exact rfl | kernel_rfl | decide +kernel)
    (case j3_NoDuct => first | k_is | ks_is | exact rfl | kernel_rfl | decide +kernel)
    (case j4_NoDuct => first | k_is | ks_is | exact rfl | kernel_rfl | decide +kernel)
    (case j5_NoDuct => first | k_is | ks_is | exact rfl | kernel_rfl | decide +kernel)
    (case o1_NoName => k_is)
    (case o3_NoName => first | k_is | ks_is | exact rfl | kernel_rfl | decide +kernel)
    (case o4_NoName => first | k_is | ks_is | exact rfl | kernel_rfl | decide +kernel)
    (case o5_NoName => first | k_is | ks_is | exact rfl | kernel_rfl | decide +kernel)
    (case o6_NoName => first | k_is | ks_is | exact rfl | kernel_rfl | decide +kernel)
    (case e1_NoName => first | k_is | ks_is | exact rfl | kernel_rfl | decide +kernel)
    (case e2_NoName => first | k_is | ks_is | exact rfl | kernel_rfl | decide +kernel)
    (case e3_NoName => first | k_is | ks_is | exact rfl | kernel_rfl | decide +kernel)
    (case e4_NoName => first | k_is | ks_is | exact rfl | kernel_rfl | decide +kernel)
    (case e5_NoName => first | k_is | ks_is | exact rfl | kernel_rfl | decide +kernel)
    (case e6_NoName => first | k_is | ks_is | exact rfl | kernel_rfl | decide +kernel)
    (case e7_NoName => first | k_is | ks_is | exact rfl | kernel_rfl | decide +kernel)
    (case i1_NoName => k_is)
    (case i2_NoName => first | k_is | ks_is | exact rfl | kernel_rfl | decide +kernel)
    (case i3_NoName => k_is)
    (case i4_NoName => first | k_is | ks_is | exact rfl | kernel_rfl | decide +kernel)
    (case i5_NoName => k_is)
    (case i6_NoName => exact rfl)
    (case i7_NoName => first | k_is | ks_is | exact rfl | kernel_rfl | decide +kernel)
    (case i8_NoName => k_is)
    (case i9_NoName => first | k_is | ks_is | exact rfl | kernel_rfl | decide +kernel)
    (case j1_NoName => first | k_is | ks_is | exact rfl | kernel_rfl | decide +kernel)
    (case j2_NoName => first | k_is | ks_is | exact rfl | kernel_rfl | decide +kernel)
    (case j3_NoName => first | k_is | ks_is | exact rfl | kernel_rfl | decide +kernel)
    (case j4_NoName => first | k_is | ks_is | exact rfl | kernel_rfl | decide +kernel)
    (case j5_NoName => first | k_is | ks_is | exact rfl | kernel_rfl | decide +kernel)
    (case o1_NoFibre => k_is)
    (case o3_NoFibre => first | k_is | ks_is | exact rfl | kernel_rfl | decide +kernel)
    (case o4_NoFibre => first | k_is | ks_is | exact rfl | kernel_rfl | decide +kernel)
    (case o5_NoFibre => first | k_is | ks_is | exact rfl | kernel_rfl | decide +kernel)
    (case o6_NoFibre => first | k_is | ks_is | exact rfl | kernel_rfl | decide +kernel)
    (case e1_NoFibre => first | k_is | ks_is | exact rfl | kernel_rfl | decide +kernel)
    (case e2_NoFibre => first | k_is | ks_is | exact rfl | kernel_rfl | decide +kernel)
    (case e3_NoFibre => first | k_is | ks_is | exact rfl | kernel_rfl | decide +kernel)
    (case e4_NoFibre => first | k_is | ks_is | exact rfl | kernel_rfl | decide +kernel)
    (case e5_NoFibre => first | k_is | ks_is | exact rfl | kernel_rfl | decide +kernel)
    (case e6_NoFibre => first | k_is | ks_is | exact rfl | kernel_rfl | decide +kernel)
    (case e7_NoFibre => first | k_is | ks_is | exact rfl | kernel_rfl | decide +kernel)
    (case i1_NoFibre => k_is)
    (case i2_NoFibre => first | k_is | ks_is | exact rfl | kernel_rfl | decide +kernel)
    (case i3_NoFibre => k_is)
    (case i4_NoFibre => first | k_is | ks_is | exact rfl | kernel_rfl | decide +kernel)
    (case i5_NoFibre => k_is)
    (case i6_NoFibre => exact rfl)
    (case i7_NoFibre => first | k_is | ks_is | exact rfl | kernel_rfl | decide +kernel)
    (case i8_NoFibre => k_is)
    (case i9_NoFibre => first | k_is | ks_is | exact rfl | kernel_rfl | decide +kernel)
    (case j1_NoFibre => first | k_is | ks_is | exact rfl | kernel_rfl | decide +kernel)
    (case j2_NoFibre => first | k_is | ks_is | exact rfl | kernel_rfl | decide +kernel)
    (case j3_NoFibre => first | k_is | ks_is | exact rfl | kernel_rfl | decide +kernel)
    (case j4_NoFibre => first | k_is | ks_is | exact rfl | kernel_rfl | decide +kernel)
    (case j5_NoFibre => first | k_is | ks_is | exact rfl | kernel_rfl | decide +kernel)
    (case o1_TooMany => k_is)
    (case o3_TooMany => first | k_is | ks_is | exact rfl | kernel_rfl | decide +kernel)
    (case o4_TooMany => first | k_is | ks_is | exact rfl | kernel_rfl | decide +kernel)
    (case o5_TooMany => first | k_is | ks_is | exact rfl | kernel_rfl | decide +kernel)
    (case o6_TooMany => first | k_is | ks_is | exact rfl | kernel_rfl | decide +kernel)
    (case e1_TooMany => first | k_is | ks_is | exact rfl | kernel_rfl | decide +kernel)
    (case e2_TooMany => first | k_is | ks_is | exact rfl | kernel_rfl | decide +kernel)
    (case e3_TooMany => first | k_is | ks_is | exact rfl | kernel_rfl | decide +kernel)
    (case e4_TooMany => first | k_is | ks_is | exact rfl | kernel_rfl | decide +kernel)
    (case e5_TooMany => first | k_is | ks_is | exact rfl | kernel_rfl | decide +kernel)
    (case e6_TooMany => first | k_is | ks_is | exact rfl | kernel_rfl | decide +kernel)
    (case e7_TooMany => first | k_is | ks_is | exact rfl | kernel_rfl | decide +kernel)
    (case i1_TooMany => k_is)
    (case i2_TooMany => first | k_is | ks_is | exact rfl | kernel_rfl | decide +kernel)
    (case i3_TooMany => k_is)
    (case i4_TooMany => first | k_is | ks_is | exact rfl | kernel_rfl | decide +kernel)
    (case i5_TooMany => k_is)
    (case i6_TooMany => exact rfl)
    (case i7_TooMany => first | k_is | ks_is | exact rfl | kernel_rfl | decide +kernel)
    (case i8_TooMany => k_is)
    (case i9_TooMany => first | k_is | ks_is | exact rfl | kernel_rfl | decide +kernel)
    (case j1_TooMany => first | k_is | ks_is | exact rfl | kernel_rfl | decide +kernel)
    (case j2_TooMany => first | k_is | ks_is | exact rfl | kernel_rfl | decide +kernel)
    (case j3_TooMany => first | k_is | ks_is | exact rfl | kernel_rfl | decide +kernel)
    (case j4_TooMany => first | k_is | ks_is | exact rfl | kernel_rfl | decide +kernel)
    (case j5_TooMany => first | k_is | ks_is | exact rfl | kernel_rfl | decide +kernel)
    (case o1_TooWide => k_is)
    (case o3_TooWide => first | k_is | ks_is | exact rfl | kernel_rfl | decide +kernel)
    (case o4_TooWide => first | k_is | ks_is | exact rfl | kernel_rfl | decide +kernel)
    (case o5_TooWide => first | k_is | ks_is | exact rfl | kernel_rfl | decide +kernel)
    (case o6_TooWide => first | k_is | ks_is | exact rfl | kernel_rfl | decide +kernel)
    (case e1_TooWide => first | k_is | ks_is | exact rfl | kernel_rfl | decide +kernel)
    (case e2_TooWide => first | k_is | ks_is | exact rfl | kernel_rfl | decide +kernel)
    (case e3_TooWide => first | k_is | ks_is | exact rfl | kernel_rfl | decide +kernel)
    (case e4_TooWide => first | k_is | ks_is | exact rfl | kernel_rfl | decide +kernel)
    (case e5_TooWide => first | k_is | ks_is | exact rfl | kernel_rfl | decide +kernel)
    (case e6_TooWide => first | k_is | ks_is | exact rfl | kernel_rfl | decide +kernel)
    (case e7_TooWide => first | k_is | ks_is | exact rfl | kernel_rfl | decide +kernel)
    (case i1_TooWide => k_is)
    (case i2_TooWide => first | k_is | ks_is | exact rfl | kernel_rfl | decide +kernel)
    (case i3_TooWide => k_is)
    (case i4_TooWide => first | k_is | ks_is | exact rfl | kernel_rfl | decide +kernel)
    (case i5_TooWide => k_is)
    (case i6_TooWide => exact rfl)
    (case i7_TooWide => first | k_is | ks_is | exact rfl | kernel_rfl | decide +kernel)
    (case i8_TooWide => k_is)
    (case i9_TooWide => first | k_is | ks_is | exact rfl | kernel_rfl | decide +kernel)
    (case j1_TooWide => first | k_is | ks_is | exact rfl | kernel_rfl | decide +kernel)
    (case j2_TooWide => first | k_is | ks_is | exact rfl | kernel_rfl | decide +kernel)
    (case j3_TooWide => first | k_is | ks_is | exact rfl | kernel_rfl | decide +kernel)
    (case j4_TooWide => first | k_is | ks_is | exact rfl | kernel_rfl | decide +kernel)
    (case j5_TooWide => first | k_is | ks_is | exact rfl | kernel_rfl | decide +kernel)
    (case o1_TooNarrow => k_is)
    (case o3_TooNarrow => first | k_is | ks_is | exact rfl | kernel_rfl | decide +kernel)
    (case o4_TooNarrow => first | k_is | ks_is | exact rfl | kernel_rfl | decide +kernel)
    (case o5_TooNarrow => first | k_is | ks_is | exact rfl | kernel_rfl | decide +kernel)
    (case o6_TooNarrow => first | k_is | ks_is | exact rfl | kernel_rfl | decide +kernel)
    (case e1_TooNarrow => first | k_is | ks_is | exact rfl | kernel_rfl | decide +kernel)
    (case e2_TooNarrow => first | k_is | ks_is | exact rfl | kernel_rfl | decide +kernel)
    (case e3_TooNarrow => first | k_is | ks_is | exact rfl | kernel_rfl | decide +kernel)
    (case e4_TooNarrow => first | k_is | ks_is | exact rfl | kernel_rfl | decide +kernel)
    (case e5_TooNarrow => first | k_is | ks_is | exact rfl | kernel_rfl | decide +kernel)
    (case e6_TooNarrow => first | k_is | ks_is | exact rfl | kernel_rfl | decide +kernel)
    (case e7_TooNarrow => first | k_is | ks_is | exact rfl | kernel_rfl | decide +kernel)
    (case i1_TooNarrow => k_is)
    (case i2_TooNarrow => first | k_is | ks_is | exact rfl | kernel_rfl | decide +kernel)
    (case i3_TooNarrow => k_is)
    (case i4_TooNarrow => first | k_is | ks_is | exact rfl | kernel_rfl | decide +kernel)
    (case i5_TooNarrow => k_is)
    (case i6_TooNarrow => exact rfl)
    (case i7_TooNarrow => first | k_is | ks_is | exact rfl | kernel_rfl | decide +kernel)
    (case i8_TooNarrow => k_is)
    (case i9_TooNarrow => first | k_is | ks_is | exact rfl | kernel_rfl | decide +kernel)
    (case j1_TooNarrow => first | k_is | ks_is | exact rfl | kernel_rfl | decide +kernel)
    (case j2_TooNarrow => first | k_is | ks_is | exact rfl | kernel_rfl | decide +kernel)
    (case j3_TooNarrow => first | k_is | ks_is | exact rfl | kernel_rfl | decide +kernel)
    (case j4_TooNarrow => first | k_is | ks_is | exact rfl | kernel_rfl | decide +kernel)
    (case j5_TooNarrow => first | k_is | ks_is | exact rfl | kernel_rfl | decide +kernel)
    (case o1_NothingToUndo => k_is)
    (case o3_NothingToUndo => first | k_is | ks_is | exact rfl | kernel_rfl | decide +kernel)
    (case o4_NothingToUndo => first | k_is | ks_is | exact rfl | kernel_rfl | decide +kernel)
    (case o5_NothingToUndo => first | k_is | ks_is | exact rfl | kernel_rfl | decide +kernel)
    (case o6_NothingToUndo => first | k_is | ks_is | exact rfl | kernel_rfl | decide +kernel)
    (case e1_NothingToUndo => first | k_is | ks_is | exact rfl | kernel_rfl | decide +kernel)
    (case e2_NothingToUndo => first | k_is | ks_is | exact rfl | kernel_rfl | decide +kernel)
    (case e3_NothingToUndo => first | k_is | ks_is | exact rfl | kernel_rfl | decide +kernel)
    (case e4_NothingToUndo => first | k_is | ks_is | exact rfl | kernel_rfl | decide +kernel)
    (case e5_NothingToUndo => first | k_is | ks_is | exact rfl | kernel_rfl | decide +kernel)
    (case e6_NothingToUndo => first | k_is | ks_is | exact rfl | kernel_rfl | decide +kernel)
    (case e7_NothingToUndo => first | k_is | ks_is | exact rfl | kernel_rfl | decide +kernel)
    (case i1_NothingToUndo => k_is)
    (case i2_NothingToUndo => first | k_is | ks_is | exact rfl | kernel_rfl | decide +kernel)
    (case i3_NothingToUndo => k_is)
    (case i4_NothingToUndo => first | k_is | ks_is | exact rfl | kernel_rfl | decide +kernel)
    (case i5_NothingToUndo => k_is)
    (case i6_NothingToUndo => exact rfl)
    (case i7_NothingToUndo => first | k_is | ks_is | exact rfl | kernel_rfl | decide +kernel)
    (case i8_NothingToUndo => k_is)
    (case i9_NothingToUndo => first | k_is | ks_is | exact rfl | kernel_rfl | decide +kernel)
    (case j1_NothingToUndo => first | k_is | ks_is | exact rfl | kernel_rfl | decide +kernel)
    (case j2_NothingToUndo => first | k_is | ks_is | exact rfl | kernel_rfl | decide +kernel)
    (case j3_NothingToUndo => first | k_is | ks_is | exact rfl | kernel_rfl | decide +kernel)
    (case j4_NothingToUndo => first | k_is | ks_is | exact rfl | kernel_rfl | decide +kernel)
    (case j5_NothingToUndo => first | k_is | ks_is | exact rfl | kernel_rfl | decide +kernel)
    (case ki_TooFar => first | k_is | ks_is | exact rfl | kernel_rfl | decide +kernel)
    (case ki_InvalidRoute => first | k_is | ks_is | exact rfl | kernel_rfl | decide +kernel)
    (case ki_InvalidNet => first | k_is | ks_is | exact rfl | kernel_rfl | decide +kernel)
    (case ki_InvalidWish => first | k_is | ks_is | exact rfl | kernel_rfl | decide +kernel)
    (case ki_InvalidLayout => first | k_is | ks_is | exact rfl | kernel_rfl | decide +kernel)
    (case ki_InvalidBand => first | k_is | ks_is | exact rfl | kernel_rfl | decide +kernel)
    (case ki_Unlike => first | k_is | ks_is | exact rfl | kernel_rfl | decide +kernel)
    (case ki_Turned => first | k_is | ks_is | exact rfl | kernel_rfl | decide +kernel)
    (case ki_NotAllowed => first | k_is | ks_is | exact rfl | kernel_rfl | decide +kernel)
    (case ki_ParseError => first | k_is | ks_is | exact rfl | kernel_rfl | decide +kernel)
    (case ki_Barred => first | k_is | ks_is | exact rfl | kernel_rfl | decide +kernel)
    (case ki_Circular => first | k_is | ks_is | exact rfl | kernel_rfl | decide +kernel)
    (case ki_NoStation => first | k_is | ks_is | exact rfl | kernel_rfl | decide +kernel)
    (case ki_NoItem => first | k_is | ks_is | exact rfl | kernel_rfl | decide +kernel)
    (case ki_UnknownCommand => first | k_is | ks_is | exact rfl | kernel_rfl | decide +kernel)
    (case ki_NoFibre => first | k_is | ks_is | exact rfl | kernel_rfl | decide +kernel)
    (case ki_NoName => first | k_is | ks_is | exact rfl | kernel_rfl | decide +kernel)
    (case ki_NoDuct => first | k_is | ks_is | exact rfl | kernel_rfl | decide +kernel)
    (case ki_TooNarrow => first | k_is | ks_is | exact rfl | kernel_rfl | decide +kernel)
    (case ki_TooWide => first | k_is | ks_is | exact rfl | kernel_rfl | decide +kernel)
    (case ki_TooMany => first | k_is | ks_is | exact rfl | kernel_rfl | decide +kernel)
    (case ki_NothingToUndo => first | k_is | ks_is | exact rfl | kernel_rfl | decide +kernel)
    (case ki_KeyError => first | k_is | ks_is | exact rfl | kernel_rfl | decide +kernel)
    (case ki_ValueError => first | k_is | ks_is | exact rfl | kernel_rfl | decide +kernel)
    (case ki_LightError => first | k_is | ks_is | exact rfl | kernel_rfl | decide +kernel)
    (case ki_LookupError => first | k_is | ks_is | exact rfl | kernel_rfl | decide +kernel)
    (case ki_OverflowError => first | k_is | ks_is | exact rfl | kernel_rfl | decide +kernel)
    (case ki_IndexError => first | k_is | ks_is | exact rfl | kernel_rfl | decide +kernel)

