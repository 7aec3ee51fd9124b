import PyProof.Rows.All
import HandS.ForMost
import HandS.Zip
import HandS.IsInst
import HandS.Conv
import HandS.Deep
import HandS.Flow
import PyProof.ReprRoads
import HandS.TupAny
import HandS.Style
import HandS.RaiseMore
import KE.GoesMore
import PyProof.EnumMake
import HandS.Star
import HandS.More
import HandS.Wide
import HandS.EndBits
import HandS.Text
import PySem.Challenge.RW_everlit_k92_texts_of_moves_and_plans
set_option Elab.async false
set_option linter.all false
set_option maxRecDepth 100000
set_option maxHeartbeats 2000000
set_option autoImplicit false
/-! DLa: the data layer. Values of a run read as plain data (PyData); each construct has a computable meaning over data. -/
namespace EL
open PySem PySem.Spec PyProof.Rows L2

/-! ### outcomes -/
inductive Res (α : Type) where
  | ok (a : α)
  | exc (c : Str) (fs : List PyData)
  | bad
def Res.bind {α β : Type} (r : Res α) (k : α → Res β) : Res β :=
  match r with
  | .ok a => k a
  | .exc c fs => .exc c fs
  | .bad => .bad
instance : Monad Res where
  pure := .ok
  bind := Res.bind
@[simp] theorem res_bind_ok {α β : Type} (a : α) (k : α → Res β) : Res.bind (.ok a) k = k a := rfl
@[simp] theorem res_bind_bad {α β : Type} (k : α → Res β) : Res.bind (Res.bad : Res α) k = .bad := rfl
@[simp] theorem res_bind_exc {α β : Type} (c : Str) (fs : List PyData) (k : α → Res β) : Res.bind (Res.exc c fs : Res α) k = .exc c fs := rfl

/-! ### reading values as data. O: the addresses that may still change -/
def kD : Key → PyData
  | .inl i => .int i
  | .inr x => .str x
mutual
inductive Rp (K : PySem.W.Frag) (O : List Addr) (H : Hp) : V → PyData → Prop
  | non : Rp K O H .non .none
  | bl (b : Bool) : Rp K O H (.bl b) (.bool b)
  | int (i : Int) : Rp K O H (.int i) (.int i)
  | str (x : Str) : x.length ≤ sizeLine → Rp K O H (.str x) (.str x)
  | lst {a : Addr} {xs : List V} {ds : List PyData} : H a = some (.lst xs) → a ∉ O → xs.length ≤ sizeLine → RpA K O H xs ds → Rp K O H (.ref a) (.list ds)
  | tup {a : Addr} {xs : List V} {ds : List PyData} : H a = some (.tup xs) → a ∉ O → xs.length ≤ sizeLine → RpA K O H xs ds → Rp K O H (.ref a) (.tuple ds)
  | tupK {a : Addr} {xs : List V} {ds : List PyData} : (∀ H', SqT K H' a xs) → xs.length ≤ sizeLine → RpA K O H xs ds → Rp K O H (.ref a) (.tuple ds)
  | dic {a : Addr} {kvs : List (Key × V)} {kds : List (PyData × PyData)} : H a = some (.dK kvs) → a ∉ O → kvs.length ≤ sizeLine → RpD K O H kvs kds → Rp K O H (.ref a) (.dict kds)
inductive RpA (K : PySem.W.Frag) (O : List Addr) (H : Hp) : List V → List PyData → Prop
  | nil : RpA K O H [] []
  | cons {v : V} {vs : List V} {d : PyData} {ds : List PyData} : Rp K O H v d → RpA K O H vs ds → RpA K O H (v :: vs) (d :: ds)
inductive RpD (K : PySem.W.Frag) (O : List Addr) (H : Hp) : List (Key × V) → List (PyData × PyData) → Prop
  | nil : RpD K O H [] []
  | cons {k : Key} {v : V} {kvs : List (Key × V)} {d : PyData} {kds : List (PyData × PyData)} : Rp K O H v d → RpD K O H kvs kds → RpD K O H ((k, v) :: kvs) ((kD k, d) :: kds)
end

/-- all but O stays -/
def Keep (O : List Addr) (H H' : Hp) : Prop := ∀ a x, a ∉ O → H a = some x → H' a = some x
theorem Keep.refl {O : List Addr} (H : Hp) : Keep O H H := fun _ _ _ h => h
theorem Keep.trans {O : List Addr} {H H1 H2 : Hp} (a : Keep O H H1) (b : Keep O H1 H2) : Keep O H H2 := fun c x n h => b c x n (a c x n h)
theorem Keep.of_same {O : List Addr} {H H' : Hp} (s : Same H H') : Keep O H H' := fun a x _ h => s a x h
theorem Keep.mono {O O' : List Addr} {H H' : Hp} (k : Keep O H H') (h : ∀ a ∈ O, a ∈ O') : Keep O' H H' := fun a x n e => k a x (fun z => n (h a z)) e
theorem same_new {H : Hp} {p : Addr} {o : HO} (h : H p = none) : Same H (upd H p o) := fun b x e => by
  rw [upd_ne (ne_of_none e h)]; exact e
theorem keep_new {O : List Addr} {H : Hp} {p : Addr} {o : HO} (h : H p = none) : Keep O H (upd H p o) := .of_same (same_new h)
theorem keep_upd {O : List Addr} {H : Hp} {p : Addr} {o : HO} (h : p ∈ O) : Keep O H (upd H p o) := fun b x n e => by
  rw [upd_ne (fun z => n (by rw [z]; exact h))]; exact e

theorem rd_keep {O : List Addr} {H H' : Hp} {a : Addr} {u : HO} (k : Keep O H H') (n : a ∉ O) (r : Rd H a u) : Rd H' a u := by
  rcases r with r | ⟨o, r⟩
  · exact .inl (k a _ n r)
  · exact .inr ⟨o, k a _ n r⟩

section
variable {K : PySem.W.Frag} {O O' : List Addr} {H H' : Hp}
mutual
theorem Rp.keep (k : Keep O H H') : ∀ {v : V} {d : PyData}, Rp K O H v d → Rp K O H' v d
  | _, _, .non => .non
  | _, _, .bl b => .bl b
  | _, _, .int i => .int i
  | _, _, .str x z => .str x z
  | _, _, .lst r n z a => .lst (k _ _ n r) n z (RpA.keep k a)
  | _, _, .tup r n z a => .tup (k _ _ n r) n z (RpA.keep k a)
  | _, _, .tupK r z a => .tupK r z (RpA.keep k a)
  | _, _, .dic r n z a => .dic (k _ _ n r) n z (RpD.keep k a)
theorem RpA.keep (k : Keep O H H') : ∀ {vs : List V} {ds : List PyData}, RpA K O H vs ds → RpA K O H' vs ds
  | _, _, .nil => .nil
  | _, _, .cons a b => .cons (Rp.keep k a) (RpA.keep k b)
theorem RpD.keep (k : Keep O H H') : ∀ {kvs : List (Key × V)} {ds : List (PyData × PyData)}, RpD K O H kvs ds → RpD K O H' kvs ds
  | _, _, .nil => .nil
  | _, _, .cons a b => .cons (Rp.keep k a) (RpD.keep k b)
end
mutual
/-- fewer addresses that may change -/
theorem Rp.less (h : ∀ a ∈ O', a ∈ O) : ∀ {v : V} {d : PyData}, Rp K O H v d → Rp K O' H v d
  | _, _, .non => .non
  | _, _, .bl b => .bl b
  | _, _, .int i => .int i
  | _, _, .str x z => .str x z
  | _, _, .lst r n z a => .lst r (fun q => n (h _ q)) z (RpA.less h a)
  | _, _, .tup r n z a => .tup r (fun q => n (h _ q)) z (RpA.less h a)
  | _, _, .tupK r z a => .tupK r z (RpA.less h a)
  | _, _, .dic r n z a => .dic r (fun q => n (h _ q)) z (RpD.less h a)
theorem RpA.less (h : ∀ a ∈ O', a ∈ O) : ∀ {vs : List V} {ds : List PyData}, RpA K O H vs ds → RpA K O' H vs ds
  | _, _, .nil => .nil
  | _, _, .cons a b => .cons (Rp.less h a) (RpA.less h b)
theorem RpD.less (h : ∀ a ∈ O', a ∈ O) : ∀ {kvs : List (Key × V)} {ds : List (PyData × PyData)}, RpD K O H kvs ds → RpD K O' H kvs ds
  | _, _, .nil => .nil
  | _, _, .cons a b => .cons (Rp.less h a) (RpD.less h b)
end
mutual
/-- a new address may change -/
theorem Rp.more {p : Addr} (h : H p = none) : ∀ {v : V} {d : PyData}, Rp K O H v d → Rp K (p :: O) H v d
  | _, _, .non => .non
  | _, _, .bl b => .bl b
  | _, _, .int i => .int i
  | _, _, .str x z => .str x z
  | _, _, .lst r n z a => .lst r (fun q => by
      rcases List.mem_cons.mp q with e | e
      · subst e; rw [h] at r; cases r
      · exact n e) z (RpA.more h a)
  | _, _, .tup r n z a => .tup r (fun q => by
      rcases List.mem_cons.mp q with e | e
      · subst e; rw [h] at r; cases r
      · exact n e) z (RpA.more h a)
  | _, _, .tupK r z a => .tupK r z (RpA.more h a)
  | _, _, .dic r n z a => .dic r (fun q => by
      rcases List.mem_cons.mp q with e | e
      · subst e; rw [h] at r; cases r
      · exact n e) z (RpD.more h a)
theorem RpA.more {p : Addr} (h : H p = none) : ∀ {vs : List V} {ds : List PyData}, RpA K O H vs ds → RpA K (p :: O) H vs ds
  | _, _, .nil => .nil
  | _, _, .cons a b => .cons (Rp.more h a) (RpA.more h b)
theorem RpD.more {p : Addr} (h : H p = none) : ∀ {kvs : List (Key × V)} {ds : List (PyData × PyData)}, RpD K O H kvs ds → RpD K (p :: O) H kvs ds
  | _, _, .nil => .nil
  | _, _, .cons a b => .cons (Rp.more h a) (RpD.more h b)
end
theorem RpA.length : ∀ {vs : List V} {ds : List PyData}, RpA K O H vs ds → vs.length = ds.length
  | _, _, .nil => rfl
  | _, _, .cons _ b => by simp [RpA.length b]
theorem RpA.append : ∀ {vs ws : List V} {ds es : List PyData}, RpA K O H vs ds → RpA K O H ws es → RpA K O H (vs ++ ws) (ds ++ es)
  | _, _, _, _, .nil, h => h
  | _, _, _, _, .cons a b, h => .cons a (RpA.append b h)
theorem RpA.get : ∀ {vs : List V} {ds : List PyData} {i : Nat} {v : V}, RpA K O H vs ds → vs[i]? = some v → ∃ d, ds[i]? = some d ∧ Rp K O H v d
  | _, _, _, _, .nil, e => by simp at e
  | _, _, 0, _, .cons a _, e => by simp at e; subst e; exact ⟨_, rfl, a⟩
  | _, _, i + 1, v, .cons _ b, e => by
    obtain ⟨d, h1, h2⟩ := RpA.get (i := i) (v := v) b (by simpa using e)
    exact ⟨d, by simpa using h1, h2⟩
theorem RpA.getD : ∀ {vs : List V} {ds : List PyData} {i : Nat} {d : PyData}, RpA K O H vs ds → ds[i]? = some d → ∃ v, vs[i]? = some v ∧ Rp K O H v d
  | _, _, _, _, .nil, e => by simp at e
  | _, _, 0, _, .cons a _, e => by simp at e; subst e; exact ⟨_, rfl, a⟩
  | _, _, i + 1, v, .cons _ b, e => by
    obtain ⟨d, h1, h2⟩ := RpA.getD (i := i) b (by simpa using e)
    exact ⟨d, by simpa using h1, h2⟩
theorem RpA.take : ∀ {vs : List V} {ds : List PyData} (n : Nat), RpA K O H vs ds → RpA K O H (vs.take n) (ds.take n)
  | _, _, 0, _ => .nil
  | _, _, _ + 1, .nil => .nil
  | _, _, n + 1, .cons a b => .cons a (RpA.take n b)
theorem RpA.drop : ∀ {vs : List V} {ds : List PyData} (n : Nat), RpA K O H vs ds → RpA K O H (vs.drop n) (ds.drop n)
  | _, _, 0, r => r
  | _, _, _ + 1, .nil => .nil
  | _, _, n + 1, .cons _ b => RpA.drop n b
end

/-! ### an object that may change, read as data -/
def OwR (K : PySem.W.Frag) (O : List Addr) (H : Hp) (a : Addr) : PyData → Prop
  | .list ds => ∃ xs, H a = some (.lst xs) ∧ xs.length ≤ sizeLine ∧ RpA K O H xs ds
  | .dict kds => ∃ kvs, H a = some (.dK kvs) ∧ kvs.length ≤ sizeLine ∧ RpD K O H kvs kds
  | _ => False
theorem OwR.keep {K : PySem.W.Frag} {O : List Addr} {H H' : Hp} {a : Addr} {d : PyData} (k : Keep O H H') (e : H' a = H a) (h : OwR K O H a d) : OwR K O H' a d := by
  cases d with
  | list ds => obtain ⟨xs, h1, h2, h3⟩ := h; exact ⟨xs, e.trans h1, h2, h3.keep k⟩
  | dict ds => obtain ⟨xs, h1, h2, h3⟩ := h; exact ⟨xs, e.trans h1, h2, h3.keep k⟩
  | _ => exact h
theorem OwR.more {K : PySem.W.Frag} {O : List Addr} {H : Hp} {a p : Addr} {d : PyData} (n : H p = none) (h : OwR K O H a d) : OwR K (p :: O) H a d := by
  cases d with
  | list ds => obtain ⟨xs, h1, h2, h3⟩ := h; exact ⟨xs, h1, h2, h3.more n⟩
  | dict ds => obtain ⟨xs, h1, h2, h3⟩ := h; exact ⟨xs, h1, h2, h3.more n⟩
  | _ => exact h
theorem OwR.some {K : PySem.W.Frag} {O : List Addr} {H : Hp} {a : Addr} {d : PyData} (h : OwR K O H a d) : H a ≠ none := by
  cases d with
  | list ds => obtain ⟨xs, h1, _⟩ := h; rw [h1]; exact fun z => nomatch z
  | dict ds => obtain ⟨xs, h1, _⟩ := h; rw [h1]; exact fun z => nomatch z
  | _ => exact h.elim

/-! ### the slots of a frame, read as data -/
inductive Sl where
  | no
  | sh (d : PyData)
  | ow (d : PyData)
abbrev En := List Sl
/-- a frame: the written part, the heap at its entry, what it may change there, what may change of the callers' -/
structure Fc where
  K : PySem.W.Frag
  He : Hp
  P : List Addr
  Oe : List Addr
structure RS (c : Fc) (O : List Addr) (H : Hp) (σ : L2.St) (en : En) : Prop where
  len : σ.length = en.length
  keep : Keep c.P c.He H
  pin : ∀ a ∈ c.P, a ∈ c.Oe
  sub : ∀ a ∈ c.Oe, a ∈ O
  live : ∀ a ∈ O, H a ≠ none
  sh : ∀ (i : Nat) (d : PyData), en[i]? = some (Sl.sh d) → ∃ v, σ[i]? = some (some v) ∧ Rp c.K O H v d
  ow : ∀ (i : Nat) (d : PyData), en[i]? = some (Sl.ow d) → ∃ a, σ[i]? = some (some (V.ref a)) ∧ OwR c.K O H a d ∧ a ∈ O ∧ ((a ∈ c.P ∧ i = 0) ∨ (c.He a = none ∧ a ∉ c.Oe ∧ i ≠ 0))
  dist : ∀ (i j : Nat) (d e : PyData) (a : Addr), en[i]? = some (Sl.ow d) → en[j]? = some (Sl.ow e) → σ[i]? = some (some (V.ref a)) → σ[j]? = some (some (V.ref a)) → i = j

section
variable {c : Fc} {O : List Addr} {H H' : Hp} {σ : L2.St} {en : En}
/-- new objects, nothing changed -/
theorem RS.same (r : RS c O H σ en) (s : Same H H') : RS c O H' σ en where
  len := r.len
  keep := r.keep.trans (.of_same s)
  pin := r.pin
  sub := r.sub
  live := fun a ha z => by
    cases q : H a with
    | none => exact r.live a ha q
    | some x => rw [s a x q] at z; cases z
  sh := fun i d e => by
    obtain ⟨v, h1, h2⟩ := r.sh i d e
    exact ⟨v, h1, h2.keep (.of_same s)⟩
  ow := fun i d e => by
    obtain ⟨a, h1, h2, h3⟩ := r.ow i d e
    refine ⟨a, h1, h2.keep (.of_same s) ?_, h3⟩
    cases q : H a with
    | none => exact (h2.some q).elim
    | some x => exact s a x q
  dist := r.dist
end

/-- the slots that may change stay the same ones -/
def Shp (en en' : En) : Prop := ∀ (i : Nat) (d : PyData), en'[i]? = some (Sl.ow d) → ∃ d', en[i]? = some (Sl.ow d')
/-- no slot that may change has the address -/
def Free (σ : L2.St) (en : En) (a : Addr) : Prop := ∀ (i : Nat) (d : PyData), en[i]? = some (Sl.ow d) → σ[i]? ≠ some (some (V.ref a))
/-- on from (H, en) to (H', en') -/
structure Go (σ : L2.St) (O : List Addr) (H : Hp) (en : En) (H' : Hp) (en' : En) : Prop where
  keep : Keep O H H'
  shp : Shp en en'
  held : ∀ a x, Free σ en a → H a = some x → H' a = some x
theorem Shp.refl (en : En) : Shp en en := fun _ d h => ⟨d, h⟩
theorem Shp.trans {a b c : En} (h : Shp a b) (k : Shp b c) : Shp a c := fun i d e => let ⟨d', e'⟩ := k i d e; h i d' e'
theorem Free.shp {σ : L2.St} {a b : En} {x : Addr} (s : Shp a b) (h : Free σ a x) : Free σ b x := fun i d e => let ⟨d', e'⟩ := s i d e; h i d' e'
theorem Go.refl {σ : L2.St} {O : List Addr} {H : Hp} {en : En} : Go σ O H en H en := ⟨.refl _, .refl _, fun _ _ _ h => h⟩
theorem Go.trans {σ : L2.St} {O : List Addr} {H H1 H2 : Hp} {a b c : En} (x : Go σ O H a H1 b) (y : Go σ O H1 b H2 c) : Go σ O H a H2 c := ⟨x.keep.trans y.keep, x.shp.trans y.shp, fun p o f h => y.held p o (f.shp x.shp) (x.held p o f h)⟩
theorem Go.same {σ : L2.St} {O : List Addr} {H H' : Hp} {en : En} (s : Same H H') : Go σ O H en H' en := ⟨.of_same s, .refl _, fun a x _ h => s a x h⟩
/-! ### what an expression's reading comes to -/
abbrev Dn := En → Res (PyData × En)
abbrev Tn := En → Res (Bool × En)
abbrev An := En → Res (List PyData × En)
/-- what is wanted behind an outcome -/
def Po {α β : Type} (c : Fc) (O : List Addr) (H : Hp) (σ : L2.St) (en : En) (R : Hp → β → α → Prop) (r : Res (α × En)) (Q : β → Hp → Prop) : Prop :=
  match r with
  | .ok (d, en') => ∀ v H', RS c O H' σ en' → Go σ O H en H' en' → R H' v d → Q v H'
  | _ => False
abbrev PoE (c : Fc) (O : List Addr) (H : Hp) (σ : L2.St) (en : En) := Po (α := PyData) (β := V) c O H σ en fun H' v d => Rp c.K O H' v d
abbrev PoT (c : Fc) (O : List Addr) (H : Hp) (σ : L2.St) (en : En) := Po (α := Bool) (β := Bool) c O H σ en fun _ v d => v = d
abbrev PoA (c : Fc) (O : List Addr) (H : Hp) (σ : L2.St) (en : En) := Po (α := List PyData) (β := List V) c O H σ en fun H' v d => RpA c.K O H' v d
def EvE (K : PySem.W.Frag) (t : TE) (f : Dn) : Prop := ∀ (c : Fc) (O : List Addr) (H : Hp) (σ : L2.St) (en : En) (Q : V → Hp → Prop), c.K = K → RS c O H σ en → PoE c O H σ en (f en) Q → t σ H Q
def EvT (K : PySem.W.Frag) (t : TT) (f : Tn) : Prop := ∀ (c : Fc) (O : List Addr) (H : Hp) (σ : L2.St) (en : En) (Q : Bool → Hp → Prop), c.K = K → RS c O H σ en → PoT c O H σ en (f en) Q → t σ H Q
def EvA (K : PySem.W.Frag) (t : TA) (f : An) : Prop := ∀ (c : Fc) (O : List Addr) (H : Hp) (σ : L2.St) (en : En) (Q : List V → Hp → Prop), c.K = K → RS c O H σ en → PoA c O H σ en (f en) Q → t σ H Q
/-- expressions, tests, arguments -/
def DE (X : Cx) (e : Expr) (f : Dn) : Prop := ∃ t, PE X e t ∧ EvE X.K t f
def DT (X : Cx) (e : Expr) (f : Tn) : Prop := ∃ t, PT X e t ∧ EvT X.K t f
def DW (X : Cx) (e : Expr) (f : Tn) : Prop := ∃ t, PW X e t ∧ EvT X.K t f
def DA (X : Cx) (es : List Expr) (f : An) : Prop := ∃ t, PA X es t ∧ EvA X.K t f

def bnd {α β : Type} (f : En → Res (α × En)) (k : α → En → Res (β × En)) : En → Res (β × En) := fun en => (f en).bind fun p => k p.1 p.2
/-- one outcome, then the rest -/
theorem Po.bind {α β γ δ : Type} {c : Fc} {O : List Addr} {H : Hp} {σ : L2.St} {R : Hp → β → α → Prop} {R' : Hp → δ → γ → Prop} {f : En → Res (α × En)} {en : En} {k : α → En → Res (γ × En)} {Q : δ → Hp → Prop} {Q' : β → Hp → Prop}
    (h : Po c O H σ en R' (bnd f k en) Q)
    (hk : ∀ d en' v H1, f en = .ok (d, en') → RS c O H1 σ en' → Go σ O H en H1 en' → R H1 v d → (Po c O H1 σ en' R' (k d en') Q) → Q' v H1) : Po c O H σ en R (f en) Q' := by
  unfold bnd at h
  generalize hr : f en = r at h hk
  cases r with
  | ok p =>
    obtain ⟨d, en'⟩ := p
    intro v H1 rs go hr
    refine hk d en' v H1 rfl rs go hr ?_
    have h' : Po c O H σ en R' (k d en') Q := h
    unfold Po at h' ⊢
    cases q : k d en' with
    | ok p' =>
      rw [q] at h'
      exact fun v' H' rs' go' hr' => h' v' H' rs' (go.trans go') hr'
    | exc _ _ => rw [q] at h'; exact h'.elim
    | bad => rw [q] at h'; exact h'.elim
  | exc _ _ => exact h
  | bad => exact h
/-- the same wish from a later place -/
theorem Po.later {α β : Type} {c : Fc} {O : List Addr} {H H1 : Hp} {σ : L2.St} {en en1 : En} {R : Hp → β → α → Prop} {r : Res (α × En)} {Q : β → Hp → Prop} (h : Po c O H σ en R r Q) (k : Go σ O H en H1 en1) : Po c O H1 σ en1 R r Q := by
  cases r with
  | ok p => exact fun v H' rs kp hr => h v H' rs (k.trans kp) hr
  | exc _ _ => exact h
  | bad => exact h
end EL
namespace EL
open PySem PySem.Spec PyProof.Rows L2

/-! ### combinators -/
def lft {α : Type} (r : Res α) : En → Res (α × En) := fun en => r.bind fun d => .ok (d, en)
def dVar (i : Nat) : Dn := fun en => match en[i]? with
  | some (.sh d) => .ok (d, en)
  | _ => .bad
def dCst (d : PyData) : Dn := fun en => .ok (d, en)
def dUn (g : PyData → Res PyData) (a : Dn) : Dn := bnd a fun x => lft (g x)
def dOp (g : PyData → PyData → Res PyData) (a b : Dn) : Dn := bnd a fun x => bnd b fun y => lft (g x y)
def dNil : An := fun en => .ok ([], en)
def dCons (a : Dn) (r : An) : An := bnd a fun x => bnd r fun xs => lft (.ok (x :: xs))
def dApp (g : List PyData → Res PyData) (r : An) : Dn := bnd r fun xs => lft (g xs)
/-- True or False alone -/
def isB : PyData → Res Bool
  | .bool b => .ok b
  | _ => .bad
def tB (a : Dn) : Tn := bnd a fun x => lft (isB x)
def tNotD (a : Tn) : Tn := bnd a fun b => lft (.ok (!b))
def tAndD (a b : Tn) : Tn := bnd a fun c => if c = true then b else lft (.ok false)
def tOrD (a b : Tn) : Tn := bnd a fun c => if c = true then lft (.ok true) else b
def dAnd (a b : Dn) : Dn := bnd a fun x => match x with
  | .bool true => b
  | .bool false => lft (.ok (.bool false))
  | _ => lft .bad
def dOr (a b : Dn) : Dn := bnd a fun x => match x with
  | .bool true => lft (.ok (.bool true))
  | .bool false => b
  | _ => lft .bad
def dNot (a : Dn) : Dn := bnd a fun x => match x with
  | .bool b => lft (.ok (.bool (!b)))
  | _ => lft .bad
def dIf (c : Tn) (a b : Dn) : Dn := bnd c fun k => if k = true then a else b
/-- a < b < c -/
def chainK (k : Dn) : PyData → Dn
  | .bool true => k
  | .bool false => lft (.ok (.bool false))
  | _ => lft .bad
def dChain (g g' : PyData → PyData → Res PyData) (a b c : Dn) : Dn := bnd a fun x => bnd b fun y => bnd (lft (g x y)) fun z => chainK (bnd c fun w => lft (g' y w)) z
/-! ### by values -/
def PoV (K : PySem.W.Frag) (O : List Addr) (H : Hp) (r : Res PyData) (Q : V → Hp → Prop) : Prop :=
  match r with
  | .ok d => ∀ v H', Same H H' → Rp K O H' v d → Q v H'
  | _ => False
theorem PoV.of {c : Fc} {O : List Addr} {H : Hp} {σ : L2.St} {en : En} {r : Res PyData} {Q : V → Hp → Prop} (h : PoE c O H σ en (lft r en) Q) (rs : RS c O H σ en) : PoV c.K O H r Q := by
  cases r with
  | ok d => exact fun v H' s rp => h v H' (rs.same s) (.same s) rp
  | exc _ _ => exact h
  | bad => exact h
def OpD (K : PySem.W.Frag) (r : R2) (g : PyData → PyData → Res PyData) : Prop := ∀ (O : List Addr) (H : Hp) (x y : V) (dx dy : PyData) (Q : V → Hp → Prop), (∀ a ∈ O, H a ≠ none) → Rp K O H x dx → Rp K O H y dy → PoV K O H (g dx dy) Q → r x y H Q
def UnD (K : PySem.W.Frag) (r : V → Hp → VK → Prop) (g : PyData → Res PyData) : Prop := ∀ (O : List Addr) (H : Hp) (x : V) (dx : PyData) (Q : V → Hp → Prop), (∀ a ∈ O, H a ≠ none) → Rp K O H x dx → PoV K O H (g dx) Q → r x H Q
def CalD (K : PySem.W.Frag) (r : List V → Hp → VK → Prop) (g : List PyData → Res PyData) : Prop := ∀ (O : List Addr) (H : Hp) (xs : List V) (ds : List PyData) (Q : V → Hp → Prop), (∀ a ∈ O, H a ≠ none) → RpA K O H xs ds → PoV K O H (g ds) Q → r xs H Q

section
variable {X : Cx} {pos : Pos} {a b e : Expr} {es : List Expr}
theorem de_var (i : Nat) {x : Str} (hN : X.N[i]? = some x := by rfl) (hv : Vis X.env.scope x := by first | exact Or.inl rfl | exact Or.inr (Or.inl rfl) | exact Or.inr (Or.inr rfl)) (hd : (x == ("__debug__" : Str)) = false := by decide)
    (hcd : (x == ("__classdict__" : Str)) = false := by decide) : DE X (.Name x pos) (dVar i) := by
  refine ⟨_, pe_var hN hv hd hcd, ?_⟩
  intro c O H σ en Q hc rs h
  unfold dVar at h
  cases q : en[i]? with
  | none => rw [q] at h; exact h.elim
  | some s =>
    rw [q] at h
    cases s with
    | sh d =>
      obtain ⟨v, h1, h2⟩ := rs.sh i d q
      exact ⟨v, h1, h v H rs .refl h2⟩
    | no => exact h.elim
    | ow d => exact h.elim
theorem ev_cst {K : PySem.W.Frag} {v : V} {d : PyData} (h : ∀ O H, Rp K O H v d) : EvE K (tC v) (dCst d) := by
  intro c O H σ en Q hc rs hp
  exact hp v H rs .refl (by rw [hc]; exact h O H)
theorem de_int {i : Int} {j : Nat} : DE X (.Constant (.int i) j pos) (dCst (.int i)) := ⟨_, pe_int, ev_cst fun _ _ => .int i⟩
theorem de_bl {i : Bool} {j : Nat} : DE X (.Constant (.bool i) j pos) (dCst (.bool i)) := ⟨_, pe_bl, ev_cst fun _ _ => .bl i⟩
theorem de_non {j : Nat} : DE X (.Constant .none j pos) (dCst .none) := ⟨_, pe_non, ev_cst fun _ _ => .non⟩
theorem de_str {x : Str} {j : Nat} (h : x.length ≤ sizeLine := by decide +kernel) : DE X (.Constant (.str x) j pos) (dCst (.str x)) := ⟨_, pe_str, ev_cst fun _ _ => .str x h⟩
/-- a module's constant -/
theorem de_glob {x : Str} {v : V} {u : Value} {d : PyData} (hg : Gl X x) (hm : X.mg x = some u) (r : RelV v u) (h : ∀ O H, Rp X.K O H v d) (hd : (x == ("__debug__" : Str)) = false := by decide) : DE X (.Name x pos) (dCst d) := ⟨_, pe_glob hg hm r hd, ev_cst h⟩

theorem da_nil : DA X [] dNil := ⟨_, pa_nil, fun c O H σ en Q hc rs h => h [] H rs .refl .nil⟩
theorem da_cons {f : Dn} {g : An} (ha : DE X e f) (hr : DA X es g) (hs : starEach (e :: es) X.env = (false, eval e X.env) :: starEach es X.env := by rfl) : DA X (e :: es) (dCons f g) := by
  obtain ⟨ta, pa, ea⟩ := ha
  obtain ⟨tr, pr, er⟩ := hr
  refine ⟨_, pa_cons pa pr hs, ?_⟩
  intro c O H σ en Q hc rs h
  refine ea c O H σ en _ hc rs (Po.bind h fun d1 en1 v1 H1 _ rs1 k1 r1 h1 => ?_)
  refine er c O H1 σ en1 _ hc rs1 (Po.bind h1 fun d2 en2 v2 H2 _ rs2 k2 r2 h2 => ?_)
  exact h2 (v1 :: v2) H2 rs2 .refl (.cons (r1.keep k2.keep) r2)

theorem ev_op {K : PySem.W.Frag} {r : R2} {g : PyData → PyData → Res PyData} {ta tb : TE} {fa fb : Dn} (hd : OpD K r g) (ea : EvE K ta fa) (eb : EvE K tb fb) : EvE K (tOp r ta tb) (dOp g fa fb) := by
  intro c O H σ en Q hc rs h
  refine ea c O H σ en _ hc rs (Po.bind h fun d1 en1 v1 H1 _ rs1 k1 r1 h1 => ?_)
  refine eb c O H1 σ en1 _ hc rs1 (Po.bind h1 fun d2 en2 v2 H2 _ rs2 k2 r2 h2 => ?_)
  subst hc
  exact hd O H2 v1 v2 d1 d2 Q rs2.live (r1.keep k2.keep) r2 (PoV.of h2 rs2)
theorem de_op {op : Operator} {r : R2} {g : PyData → PyData → Res PyData} {fa fb : Dn} (ho : OpR X (binaryOp op) r) (hd : OpD X.K r g) (ha : DE X a fa) (hb : DE X b fb) : DE X (.BinOp a op b pos) (dOp g fa fb) := by
  obtain ⟨ta, pa, ea⟩ := ha
  obtain ⟨tb, pb, eb⟩ := hb
  exact ⟨_, pe_op ho pa pb, ev_op hd ea eb⟩
theorem de_cmp {op : CmpOp} {r : R2} {g : PyData → PyData → Res PyData} {fa fb : Dn} (ho : OpR X (compareOp op) r) (hd : OpD X.K r g) (ha : DE X a fa) (hb : DE X b fb) (hm : behindInMarks op b = false) : DE X (.Compare a [op] [b] pos) (dOp g fa fb) := by
  obtain ⟨ta, pa, ea⟩ := ha
  obtain ⟨tb, pb, eb⟩ := hb
  exact ⟨_, pe_cmpR ho pa pb hm, ev_op hd ea eb⟩
theorem ev_test {K : PySem.W.Frag} {t : TE} {f : Dn} (h : EvE K t f) : EvT K (tTest t) (tB f) := by
  intro c O H σ en Q hc rs hp
  refine h c O H σ en _ hc rs (Po.bind hp fun d1 en1 v1 H1 _ rs1 k1 r1 h1 => ?_)
  cases d1 with
  | bool b => cases r1; exact ⟨b, rfl, h1 b H1 rs1 .refl rfl⟩
  | _ => exact h1.elim
theorem dt_cmp {op : CmpOp} {r : R2} {g : PyData → PyData → Res PyData} {fa fb : Dn} (ho : OpR X (compareOp op) r) (hd : OpD X.K r g) (ha : DE X a fa) (hb : DE X b fb) (hm : behindInMarks op b = false) : DT X (.Compare a [op] [b] pos) (tB (dOp g fa fb)) := by
  obtain ⟨ta, pa, ea⟩ := ha
  obtain ⟨tb, pb, eb⟩ := hb
  exact ⟨_, pt_cmpR ho pa pb hm, ev_test (ev_op hd ea eb)⟩
theorem dt_val {f : Dn} (h : DE X e f) (he : ∀ whole, isTrue e X.env whole = (do let v ← whole; standAt e.pos; holding [v] (truthy v)) := by intro _; rfl) : DT X e (tB f) := by
  obtain ⟨t, p, ev⟩ := h
  exact ⟨_, pt_val p he, ev_test ev⟩
theorem ev_un {K : PySem.W.Frag} {r : V → Hp → VK → Prop} {g : PyData → Res PyData} {ta : TE} {fa : Dn} (hd : UnD K r g) (ea : EvE K ta fa) : EvE K (tUn r ta) (dUn g fa) := by
  intro c O H σ en Q hc rs h
  refine ea c O H σ en _ hc rs (Po.bind h fun d1 en1 v1 H1 _ rs1 k1 r1 h1 => ?_)
  subst hc
  exact hd O H1 v1 d1 Q rs1.live r1 (PoV.of h1 rs1)
theorem de_un {op : UnaryOp} {r : V → Hp → VK → Prop} {g : PyData → Res PyData} {fa : Dn} (ho : UnR X (unaryOp op) r) (hd : UnD X.K r g) (ha : DE X a fa) : DE X (.UnaryOp op a pos) (dUn g fa) := by
  obtain ⟨ta, pa, ea⟩ := ha
  exact ⟨_, pe_un ho pa, ev_un hd ea⟩
theorem ev_chain {K : PySem.W.Frag} {r r' : R2} {g g' : PyData → PyData → Res PyData} {ta tb tc : TE} {fa fb fc : Dn} (hd : OpD K r g) (hd' : OpD K r' g') (ea : EvE K ta fa) (eb : EvE K tb fb) (ec : EvE K tc fc) :
    EvE K (tChain r r' ta tb tc) (dChain g g' fa fb fc) := by
  intro c O H σ en Q hc rs h
  refine ea c O H σ en _ hc rs (Po.bind h fun d1 en1 v1 H1 _ rs1 k1 r1 h1 => ?_)
  refine eb c O H1 σ en1 _ hc rs1 (Po.bind h1 fun d2 en2 v2 H2 _ rs2 k2 r2 h2 => ?_)
  subst hc
  refine hd O H2 v1 v2 d1 d2 _ rs2.live (r1.keep k2.keep) r2 ?_
  cases q : g d1 d2 with
  | exc _ _ => unfold bnd lft at h2; rw [q] at h2; exact h2
  | bad => unfold bnd lft at h2; rw [q] at h2; exact h2
  | ok d3 =>
    intro v3 H3 s3 r3
    have rs3 := rs2.same s3
    have h3 : PoE c O H2 σ en2 (chainK (bnd fc fun w => lft (g' d2 w)) d3 en2) Q := by
      have h2' := h2
      unfold bnd lft at h2'
      rw [q] at h2'
      exact h2'
    have h4 := h3.later (.same s3)
    cases d3 with
    | bool k =>
      cases r3
      refine ⟨k, rfl, ?_⟩
      cases k with
      | true =>
        rw [if_pos rfl]
        refine ec c O H3 σ en2 _ rfl rs3 (Po.bind (show PoE c O H3 σ en2 (bnd fc (fun w => lft (g' d2 w)) en2) Q from h4) fun d5 en5 v5 H5 _ rs5 k5 r5 h5 => ?_)
        exact hd' O H5 v2 v5 d2 d5 Q rs5.live ((r2.keep (.of_same s3)).keep k5.keep) r5 (PoV.of h5 rs5)
      | false =>
        rw [if_neg Bool.false_ne_true]
        exact h4 _ H3 rs3 .refl (.bl false)
    | _ => exact h4.elim
theorem de_chain {op op' : CmpOp} {c : Expr} {r r' : R2} {g g' : PyData → PyData → Res PyData} {fa fb fc : Dn} (ho : OpR X (compareOp op) r) (ho' : OpR X (compareOp op') r') (hd : OpD X.K r g) (hd' : OpD X.K r' g')
    (ha : DE X a fa) (hb : DE X b fb) (hc : DE X c fc) (hm : lastMarks [op, op'] [b, c] = false := by with_unfolding_all rfl) : DE X (.Compare a [op, op'] [b, c] pos) (dChain g g' fa fb fc) := by
  obtain ⟨ta, pa, ea⟩ := ha
  obtain ⟨tb, pb, eb⟩ := hb
  obtain ⟨tc, pc, ec⟩ := hc
  exact ⟨_, pe_chain ho ho' pa pb pc hm, ev_chain hd hd' ea eb ec⟩
theorem dt_chain {op op' : CmpOp} {c : Expr} {r r' : R2} {g g' : PyData → PyData → Res PyData} {fa fb fc : Dn} (ho : OpR X (compareOp op) r) (ho' : OpR X (compareOp op') r') (hd : OpD X.K r g) (hd' : OpD X.K r' g')
    (ha : DE X a fa) (hb : DE X b fb) (hc : DE X c fc) (hm : lastMarks [op, op'] [b, c] = false := by with_unfolding_all rfl) : DT X (.Compare a [op, op'] [b, c] pos) (tB (dChain g g' fa fb fc)) := by
  obtain ⟨ta, pa, ea⟩ := ha
  obtain ⟨tb, pb, eb⟩ := hb
  obtain ⟨tc, pc, ec⟩ := hc
  exact ⟨_, pt_chain ho ho' pa pb pc hm, ev_test (ev_chain hd hd' ea eb ec)⟩

/-! ### and, or, not, if -/
variable {rest : List Expr}
theorem ev_and {K : PySem.W.Frag} {ta tb : TT} {fa fb : Tn} (ea : EvT K ta fa) (eb : EvT K tb fb) : EvT K (tAnd ta tb) (tAndD fa fb) := by
  intro c O H σ en Q hc rs h
  refine ea c O H σ en _ hc rs (Po.bind h fun d1 en1 v1 H1 _ rs1 k1 r1 h1 => ?_)
  subst r1
  cases v1 with
  | true => rw [if_pos rfl]; exact eb c O H1 σ en1 _ hc rs1 h1
  | false => rw [if_neg Bool.false_ne_true]; exact h1 false H1 rs1 .refl rfl
theorem ev_or {K : PySem.W.Frag} {ta tb : TT} {fa fb : Tn} (ea : EvT K ta fa) (eb : EvT K tb fb) : EvT K (tOr ta tb) (tOrD fa fb) := by
  intro c O H σ en Q hc rs h
  refine ea c O H σ en _ hc rs (Po.bind h fun d1 en1 v1 H1 _ rs1 k1 r1 h1 => ?_)
  subst r1
  cases v1 with
  | true => rw [if_pos rfl]; exact h1 true H1 rs1 .refl rfl
  | false => rw [if_neg Bool.false_ne_true]; exact eb c O H1 σ en1 _ hc rs1 h1
theorem dw_and1 {f : Tn} (h : DT X a f) : DW X (.BoolOp .And [a] pos) f := let ⟨t, p, e⟩ := h; ⟨t, pw_and1 p, e⟩
theorem dw_or1 {f : Tn} (h : DT X a f) : DW X (.BoolOp .Or [a] pos) f := let ⟨t, p, e⟩ := h; ⟨t, pw_or1 p, e⟩
theorem dw_and {f g : Tn} (h : DT X a f) (h2 : DW X (.BoolOp .And (b :: rest) pos) g) : DW X (.BoolOp .And (a :: b :: rest) pos) (tAndD f g) := let ⟨_, p, e⟩ := h; let ⟨_, p2, e2⟩ := h2; ⟨_, pw_and p p2, ev_and e e2⟩
theorem dw_or {f g : Tn} (h : DT X a f) (h2 : DW X (.BoolOp .Or (b :: rest) pos) g) : DW X (.BoolOp .Or (a :: b :: rest) pos) (tOrD f g) := let ⟨_, p, e⟩ := h; let ⟨_, p2, e2⟩ := h2; ⟨_, pw_or p p2, ev_or e e2⟩
theorem dt_w {f : Tn} (h : DW X e f) : DT X e f := let ⟨t, p, ev⟩ := h; ⟨t, p.pt, ev⟩
theorem dt_not {f : Tn} (h : DT X a f) : DT X (.UnaryOp .Not a pos) (tNotD f) := by
  obtain ⟨t, p, ev⟩ := h
  refine ⟨_, pt_not p, ?_⟩
  intro c O H σ en Q hc rs hp
  refine ev c O H σ en _ hc rs (Po.bind hp fun d1 en1 v1 H1 _ rs1 k1 r1 h1 => ?_)
  subst r1
  exact h1 (!v1) H1 rs1 .refl rfl
theorem de_one {op : BoolOp} {f : Dn} (h : DE X a f) : DE X (.BoolOp op [a] pos) f := let ⟨t, p, e⟩ := h; ⟨t, pe_one p, e⟩
theorem de_and {f g : Dn} (h : DE X a f) (h2 : DE X (.BoolOp .And (b :: rest) pos) g) : DE X (.BoolOp .And (a :: b :: rest) pos) (dAnd f g) := by
  obtain ⟨t, p, ev⟩ := h
  obtain ⟨t2, p2, ev2⟩ := h2
  refine ⟨_, pe_and p p2, ?_⟩
  intro c O H σ en Q hc rs hp
  refine ev c O H σ en _ hc rs (Po.bind hp fun d1 en1 v1 H1 _ rs1 k1 r1 h1 => ?_)
  cases d1 with
  | bool k =>
    cases r1
    refine ⟨k, rfl, ?_⟩
    cases k with
    | true => rw [if_pos rfl]; exact ev2 c O H1 σ en1 _ hc rs1 h1
    | false => rw [if_neg Bool.false_ne_true]; exact h1 _ H1 rs1 .refl (.bl false)
  | _ => exact h1.elim
theorem de_or {f g : Dn} (h : DE X a f) (h2 : DE X (.BoolOp .Or (b :: rest) pos) g) : DE X (.BoolOp .Or (a :: b :: rest) pos) (dOr f g) := by
  obtain ⟨t, p, ev⟩ := h
  obtain ⟨t2, p2, ev2⟩ := h2
  refine ⟨_, pe_or p p2, ?_⟩
  intro c O H σ en Q hc rs hp
  refine ev c O H σ en _ hc rs (Po.bind hp fun d1 en1 v1 H1 _ rs1 k1 r1 h1 => ?_)
  cases d1 with
  | bool k =>
    cases r1
    refine ⟨k, rfl, ?_⟩
    cases k with
    | false => rw [if_neg Bool.false_ne_true]; exact ev2 c O H1 σ en1 _ hc rs1 h1
    | true => rw [if_pos rfl]; exact h1 _ H1 rs1 .refl (.bl true)
  | _ => exact h1.elim
theorem de_not {f : Dn} (h : DE X a f) : DE X (.UnaryOp .Not a pos) (dNot f) := by
  obtain ⟨t, p, ev⟩ := h
  refine ⟨_, pe_not p, ?_⟩
  intro c O H σ en Q hc rs hp
  refine ev c O H σ en _ hc rs (Po.bind hp fun d1 en1 v1 H1 _ rs1 k1 r1 h1 => ?_)
  cases d1 with
  | bool k => cases r1; exact ⟨k, rfl, h1 _ H1 rs1 .refl (.bl _)⟩
  | _ => exact h1.elim
theorem de_if {cnd : Expr} {k : Tn} {f g : Dn} (h : DT X cnd k) (h1 : DE X a f) (h2 : DE X b g) : DE X (.IfExp cnd a b pos) (dIf k f g) := by
  obtain ⟨t, p, ev⟩ := h
  obtain ⟨t1, p1, ev1⟩ := h1
  obtain ⟨t2, p2, ev2⟩ := h2
  refine ⟨_, pe_ifExp p p1 p2, ?_⟩
  intro c O H σ en Q hc rs hp
  refine ev c O H σ en _ hc rs (Po.bind hp fun d1 en1 v1 H1 _ rs1 k1 r1 h1 => ?_)
  subst r1
  cases v1 with
  | true => rw [if_pos rfl]; exact ev1 c O H1 σ en1 _ hc rs1 h1
  | false => rw [if_neg Bool.false_ne_true]; exact ev2 c O H1 σ en1 _ hc rs1 h1

/-! ### built-ins called -/
theorem ev_cal {K : PySem.W.Frag} {r : List V → Hp → VK → Prop} {g : List PyData → Res PyData} {t : TA} {f : An} (hd : CalD K r g) (ea : EvA K t f) : EvE K (tCB r t) (dApp g f) := by
  intro c O H σ en Q hc rs h
  refine ea c O H σ en _ hc rs (Po.bind h fun d1 en1 v1 H1 _ rs1 k1 r1 h1 => ?_)
  subst hc
  exact hd O H1 v1 d1 Q rs1.live r1 (PoV.of h1 rs1)
theorem de_callB {x : Str} {id : String} {p : Pos} {r : List V → Hp → VK → Prop} {g : List PyData → Res PyData} {f : An} (hc : CallR X (.builtin id) r) (hd : CalD X.K r g) (hg : Gl X x) (hm : X.mg x = none) (hv : bootBuiltins x = some (.builtin id)) (ha : DA X (e :: es) f) (hn : x ≠ "__name__" := by decide) (hdb : (x == ("__debug__" : Str)) = false := by decide)
    (he : starEach (e :: es) X.env = (false, eval e X.env) :: starEach es X.env := by rfl) (hpl : (backTo pos (starEach es X.env)).any (·.1) = false := by rfl) : DE X (.Call (.Name x p) (e :: es) [] pos) (dApp g f) := by
  obtain ⟨t, pa, ev⟩ := ha
  exact ⟨_, pe_callB hc hg hm hv pa hn hdb he hpl, ev_cal hd ev⟩
theorem de_callTy {x : Str} {T : String} {p : Pos} {r : List V → Hp → VK → Prop} {g : List PyData → Res PyData} {f : An} (hc : CallR X (.type T) r) (hd : CalD X.K r g) (hg : Gl X x) (hm : X.mg x = none) (hv : bootBuiltins x = some (.type T)) (ha : DA X (e :: es) f) (hn : x ≠ "__name__" := by decide) (hdb : (x == ("__debug__" : Str)) = false := by decide)
    (he : starEach (e :: es) X.env = (false, eval e X.env) :: starEach es X.env := by rfl) (hpl : (backTo pos (starEach es X.env)).any (·.1) = false := by rfl) : DE X (.Call (.Name x p) (e :: es) [] pos) (dApp g f) := by
  obtain ⟨t, pa, ev⟩ := ha
  exact ⟨_, pe_callTy hc hg hm hv pa hn hdb he hpl, ev_cal hd ev⟩

/-! ### items, slices, displays -/
theorem de_ix {r : R2} {g : PyData → PyData → Res PyData} {fa fb : Dn} (hr : IxR X r) (hd : OpD X.K r g) (ha : DE X a fa) (hb : DE X b fb) (hs : PlainIx b := by exact fun _ _ => rfl) : DE X (.Subscript a b pos) (dOp g fa fb) := by
  obtain ⟨ta, pa, ea⟩ := ha
  obtain ⟨tb, pb, eb⟩ := hb
  exact ⟨_, pe_ix hr pa pb hs, ev_op hd ea eb⟩
/-- an end of a slice -/
def isI : PyData → Res (Option Int)
  | .int i => .ok (some i)
  | _ => .bad
def eN : En → Res (Option Int × En) := lft (.ok none)
def eS (f : Dn) : En → Res (Option Int × En) := bnd f fun d => lft (isI d)
def EvO (K : PySem.W.Frag) (t : TO) (f : En → Res (Option Int × En)) : Prop := ∀ (c : Fc) (O : List Addr) (H : Hp) (σ : L2.St) (en : En) (Q : Option Int → Hp → Prop), c.K = K → RS c O H σ en → Po (α := Option Int) (β := Option Int) c O H σ en (fun _ v d => v = d) (f en) Q → t σ H Q
def DO (X : Cx) (o : Option Expr) (f : En → Res (Option Int × En)) : Prop := ∃ t, PO X o t ∧ EvO X.K t f
theorem do_none : DO X none eN := ⟨_, po_none, fun c O H σ en Q hc rs h => h none H rs .refl rfl⟩
theorem do_some {f : Dn} (h : DE X e f) : DO X (some e) (eS f) := by
  obtain ⟨t, p, ev⟩ := h
  refine ⟨_, po_some p, ?_⟩
  intro c O H σ en Q hc rs hp
  refine ev c O H σ en _ hc rs (Po.bind hp fun d1 en1 v1 H1 _ rs1 k1 r1 h1 => ?_)
  cases d1 with
  | int i => cases r1; exact ⟨i, rfl, h1 (some i) H1 rs1 .refl rfl⟩
  | _ => exact h1.elim
def SlD (K : PySem.W.Frag) (r : V → Option Int → Option Int → Hp → VK → Prop) (g : PyData → Option Int → Option Int → Res PyData) : Prop := ∀ (O : List Addr) (H : Hp) (x : V) (dx : PyData) (lo hi : Option Int) (Q : V → Hp → Prop), (∀ a ∈ O, H a ≠ none) → Rp K O H x dx → PoV K O H (g dx lo hi) Q → r x lo hi H Q
def dSlice (g : PyData → Option Int → Option Int → Res PyData) (a : Dn) (lo hi : En → Res (Option Int × En)) : Dn := bnd a fun x => bnd lo fun l => bnd hi fun h => lft (g x l h)
theorem de_slice {r : V → Option Int → Option Int → Hp → VK → Prop} {g : PyData → Option Int → Option Int → Res PyData} {lo hi : Option Expr} {fa : Dn} {fl fh : En → Res (Option Int × En)} {p2 : Pos} (hr : SlR X r) (hd : SlD X.K r g) (ha : DE X a fa) (hl : DO X lo fl) (hh : DO X hi fh) :
    DE X (.Subscript a (.Slice lo hi none p2) pos) (dSlice g fa fl fh) := by
  obtain ⟨ta, pa, ea⟩ := ha
  obtain ⟨tl, pl, el⟩ := hl
  obtain ⟨th, ph, eh⟩ := hh
  refine ⟨_, pe_slice hr pa pl ph, ?_⟩
  intro c O H σ en Q hc rs h
  refine ea c O H σ en _ hc rs (Po.bind h fun d1 en1 v1 H1 _ rs1 k1 r1 h1 => ?_)
  refine el c O H1 σ en1 _ hc rs1 (Po.bind h1 fun d2 en2 v2 H2 _ rs2 k2 r2 h2 => ?_)
  refine eh c O H2 σ en2 _ hc rs2 (Po.bind h2 fun d3 en3 v3 H3 _ rs3 k3 r3 h3 => ?_)
  subst r2 r3
  have hv := PoV.of h3 rs3
  rw [hc] at hv
  have r1' := (r1.keep k2.keep).keep k3.keep
  rw [hc] at r1'
  exact hd O H3 v1 d1 v2 v3 Q rs3.live r1' hv
theorem fresh_notin {O : List Addr} {H : Hp} {p : Addr} (l : ∀ a ∈ O, H a ≠ none) (h : H p = none) : p ∉ O := fun z => l p z h
def gTup (xs : List PyData) : Res PyData := if xs.length ≤ sizeLine then .ok (.tuple xs) else .bad
def gLst (xs : List PyData) : Res PyData := if xs.length ≤ sizeLine then .ok (.list xs) else .bad
theorem de_tup {k : Nat} {f : An} (h : DA X es f) : DE X (.Tuple es k pos) (dApp gTup f) := by
  obtain ⟨t, p, ev⟩ := h
  refine ⟨_, pe_tup p, ?_⟩
  intro c O H σ en Q hc rs hp
  refine ev c O H σ en _ hc rs (Po.bind hp fun d1 en1 v1 H1 _ rs1 k1 r1 h1 => ?_)
  unfold gTup at h1
  by_cases hz : d1.length ≤ sizeLine
  · rw [if_pos hz] at h1
    refine ⟨by rw [r1.length]; exact hz, fun q hq => h1 _ _ (rs1.same (same_new hq)) (.same (same_new hq)) ?_⟩
    exact .tup upd_same (fresh_notin rs1.live hq) (by rw [r1.length]; exact hz) (r1.keep (keep_new hq))
  · rw [if_neg hz] at h1; exact h1.elim
theorem de_lst {f : An} (h : DA X es f) : DE X (.List es pos) (dApp gLst f) := by
  obtain ⟨t, p, ev⟩ := h
  refine ⟨_, pe_lst p, ?_⟩
  intro c O H σ en Q hc rs hp
  refine ev c O H σ en _ hc rs (Po.bind hp fun d1 en1 v1 H1 _ rs1 k1 r1 h1 => ?_)
  unfold gLst at h1
  by_cases hz : d1.length ≤ sizeLine
  · rw [if_pos hz] at h1
    refine ⟨by rw [r1.length]; exact hz, fun q hq => h1 _ _ (rs1.same (same_new hq)) (.same (same_new hq)) ?_⟩
    exact .lst upd_same (fresh_notin rs1.live hq) (by rw [r1.length]; exact hz) (r1.keep (keep_new hq))
  · rw [if_neg hz] at h1; exact h1.elim
end
end EL
namespace EL
open PySem PySem.Spec PyProof.Rows L2

/-! ### what is read -/
section
variable {K : PySem.W.Frag} {O : List Addr} {H : Hp}
theorem Rp.tupI {v : V} {ds : List PyData} (h : Rp K O H v (.tuple ds)) : ∃ a xs, v = .ref a ∧ SqT K H a xs ∧ xs.length ≤ sizeLine ∧ RpA K O H xs ds := by
  cases h with
  | tup h1 h2 h3 h4 => exact ⟨_, _, rfl, .inl (.inl h1), h3, h4⟩
  | tupK h1 h3 h4 => exact ⟨_, _, rfl, h1 H, h3, h4⟩
theorem Rp.lstI {v : V} {ds : List PyData} (h : Rp K O H v (.list ds)) : ∃ a xs, v = .ref a ∧ H a = some (.lst xs) ∧ a ∉ O ∧ xs.length ≤ sizeLine ∧ RpA K O H xs ds := by
  cases h with
  | lst h1 h2 h3 h4 => exact ⟨_, _, rfl, h1, h2, h3, h4⟩
theorem Rp.dicI {v : V} {ds : List (PyData × PyData)} (h : Rp K O H v (.dict ds)) : ∃ a kvs, v = .ref a ∧ H a = some (.dK kvs) ∧ a ∉ O ∧ kvs.length ≤ sizeLine ∧ RpD K O H kvs ds := by
  cases h with
  | dic h1 h2 h3 h4 => exact ⟨_, _, rfl, h1, h2, h3, h4⟩
theorem Rp.strI {v : V} {x : Str} (h : Rp K O H v (.str x)) : v = .str x ∧ x.length ≤ sizeLine := by
  cases h with
  | str _ z => exact ⟨rfl, z⟩
theorem Rp.newT {p : Addr} {xs : List V} {ds : List PyData} (l : ∀ a ∈ O, H a ≠ none) (h : H p = none) (z : xs.length ≤ sizeLine) (r : RpA K O H xs ds) : Rp K O (upd H p (.tup xs)) (.ref p) (.tuple ds) :=
  .tup upd_same (fresh_notin l h) z (r.keep (keep_new h))
theorem Rp.newL {p : Addr} {xs : List V} {ds : List PyData} (l : ∀ a ∈ O, H a ≠ none) (h : H p = none) (z : xs.length ≤ sizeLine) (r : RpA K O H xs ds) : Rp K O (upd H p (.lst xs)) (.ref p) (.list ds) :=
  .lst upd_same (fresh_notin l h) z (r.keep (keep_new h))
mutual
theorem Rp.dp : ∀ {v : V} {d : PyData}, Rp K O H v d → d.canLay0 = true → Dp K H v d
  | _, _, .non, _ => .non
  | _, _, .bl b, _ => .bl b
  | _, _, .int i, _ => .int i
  | _, _, .str x _, _ => .str x
  | _, _, .lst h _ _ a, z => .lst (.inl (.inl h)) (RpA.dp a (by simpa [PyData.canLay0] using z))
  | _, _, .tup h _ _ a, z => .tup (.inl (.inl h)) (RpA.dp a (by simpa [PyData.canLay0] using z))
  | _, _, .tupK h _ a, z => .tup (h H) (RpA.dp a (by simpa [PyData.canLay0] using z))
  | _, _, .dic _ _ _ _, z => by simp [PyData.canLay0] at z
theorem RpA.dp : ∀ {vs : List V} {ds : List PyData}, RpA K O H vs ds → PyData.canLayAll0 ds = true → DpAll K H vs ds
  | _, _, .nil, _ => .nil
  | _, _, .cons a b, z => by
    simp only [PyData.canLayAll0, Bool.and_eq_true] at z
    exact .cons (Rp.dp a z.1) (RpA.dp b z.2)
end
end

/-! ### operators on data -/
section
variable {K : PySem.W.Frag}
theorem PoV.okE {O : List Addr} {H : Hp} {d : PyData} {v : V} {Q : V → Hp → Prop} (h : PoV K O H (.ok d) Q) (r : Rp K O H v d) : Q v H := h v H (Same.refl _) r
theorem OpD.or {r r' : R2} {g : PyData → PyData → Res PyData} (h : ∀ (O : List Addr) (H : Hp) (x y : V) (dx dy : PyData) (Q : V → Hp → Prop), (∀ a ∈ O, H a ≠ none) → Rp K O H x dx → Rp K O H y dy → PoV K O H (g dx dy) Q → r x y H Q ∨ r' x y H Q) : OpD K (fun x y H Q => r x y H Q ∨ r' x y H Q) g := h

def gAdd : PyData → PyData → Res PyData
  | .int i, .int j => .ok (.int (i + j))
  | .str x, .str y => if x.length + y.length ≤ sizeLine then .ok (.str (x ++ y)) else .bad
  | .list xs, .list ys => if xs.length + ys.length ≤ sizeLine then .ok (.list (xs ++ ys)) else .bad
  | .tuple xs, .tuple ys => if xs.length + ys.length ≤ sizeLine then .ok (.tuple (xs ++ ys)) else .bad
  | _, _ => .bad
abbrev rAddD (K : PySem.W.Frag) : R2 := fun x y H Q => (rI0 fun i j => V.int (i + j)) x y H Q ∨ (fun x y H Q => (fun x y H Q => ∃ i j, x = V.str i ∧ y = V.str j ∧ i.length + j.length ≤ sizeLine ∧ Q (V.str (i ++ j)) H) x y H Q ∨ (fun x y H Q => rCat x y H Q ∨ rCatA K x y H Q) x y H Q) x y H Q
theorem op_addD {X : Cx} : OpR X (binaryOp .Add) (rAddD X.K) := op_add.or (op_add_str.or (op_cat.or op_catA))
theorem gAdd_ok : OpD K (rAddD K) gAdd := by
  intro O H x y dx dy Q l rx ry h
  cases dx with
  | int i =>
    cases dy with
    | int j => cases rx; cases ry; exact .inl ⟨i, j, rfl, rfl, h.okE (.int _)⟩
    | _ => exact h.elim
  | str z =>
    cases dy with
    | str w =>
      obtain ⟨rfl, z1⟩ := rx.strI
      obtain ⟨rfl, z2⟩ := ry.strI
      simp only [gAdd] at h
      by_cases hz : z.length + w.length ≤ sizeLine
      · rw [if_pos hz] at h
        refine .inr (.inl ⟨z, w, rfl, rfl, hz, h.okE (.str _ ?_)⟩)
        rw [Str.length_append]; exact hz
      · rw [if_neg hz] at h; exact h.elim
    | _ => exact h.elim
  | list as =>
    cases dy with
    | list bs =>
      obtain ⟨a, xs, rfl, h1, _, h3, h4⟩ := rx.lstI
      obtain ⟨b, ys, rfl, g1, _, g3, g4⟩ := ry.lstI
      simp only [gAdd] at h
      by_cases hz : as.length + bs.length ≤ sizeLine
      · rw [if_pos hz] at h
        have hz' : xs.length + ys.length ≤ sizeLine := by rw [h4.length, g4.length]; exact hz
        exact .inr (.inr (.inl ⟨a, b, xs, ys, rfl, rfl, h1, g1, hz', fun p hp => h _ _ (same_new hp) (Rp.newL l hp (by simpa using hz') (h4.append g4))⟩))
      · rw [if_neg hz] at h; exact h.elim
    | _ => exact h.elim
  | tuple as =>
    cases dy with
    | tuple bs =>
      obtain ⟨a, xs, rfl, h1, h3, h4⟩ := rx.tupI
      obtain ⟨b, ys, rfl, g1, g3, g4⟩ := ry.tupI
      simp only [gAdd] at h
      by_cases hz : as.length + bs.length ≤ sizeLine
      · rw [if_pos hz] at h
        have hz' : xs.length + ys.length ≤ sizeLine := by rw [h4.length, g4.length]; exact hz
        refine .inr (.inr (.inr ⟨a, b, xs, ys, rfl, rfl, h1, g1, hz', fun e => ?_, fun _ e => ?_, fun _ _ p hp => h _ _ (same_new hp) (Rp.newT l hp (by simpa using hz') (h4.append g4))⟩))
        · subst e; cases h4; exact h.okE ry
        · subst e; cases g4; exact h.okE (by simpa using rx)
      · rw [if_neg hz] at h; exact h.elim
    | _ => exact h.elim
  | _ => exact h.elim

/-- two whole numbers -/
def gI (C : Int → Int → Bool) (f : Int → Int → PyData) : PyData → PyData → Res PyData
  | .int i, .int j => if C i j = true then .ok (f i j) else .bad
  | _, _ => .bad
theorem gI_ok {C : Int → Int → Bool} {C' : Int → Int → Prop} {f : Int → Int → PyData} {g : Int → Int → V} (hC : ∀ i j, C i j = true → C' i j) (hf : ∀ i j O H, Rp K O H (g i j) (f i j)) : OpD K (rI C' g) (gI C f) := by
  intro O H x y dx dy Q l rx ry h
  cases dx with
  | int i =>
    cases dy with
    | int j =>
      cases rx; cases ry
      simp only [gI] at h
      by_cases hc : C i j = true
      · rw [if_pos hc] at h
        exact ⟨i, j, rfl, rfl, hC i j hc, h.okE (hf i j O H)⟩
      · rw [if_neg hc] at h; exact h.elim
    | _ => exact h.elim
  | _ => exact h.elim
theorem gI0_ok {f : Int → Int → PyData} {g : Int → Int → V} (hf : ∀ i j O H, Rp K O H (g i j) (f i j)) : OpD K (rI0 g) (gI (fun _ _ => true) f) := by
  intro O H x y dx dy Q l rx ry h
  obtain ⟨i, j, h1, h2, _, q⟩ := gI_ok (C' := fun _ _ => True) (fun _ _ _ => trivial) hf O H x y dx dy Q l rx ry h
  exact ⟨i, j, h1, h2, q⟩
abbrev gSub := gI (fun _ _ => true) fun i j => .int (i - j)
theorem gSub_ok : OpD K (rI0 fun i j => V.int (i - j)) gSub := gI0_ok fun _ _ _ _ => .int _
abbrev gMul := gI (fun i j => (decide (-(2 ^ 64) < i) && decide (i < 2 ^ 64)) || (decide (-(2 ^ 64) < j) && decide (j < 2 ^ 64))) fun i j => .int (i * j)
theorem gMul_ok : OpD K (rI CMul fun i j => V.int (i * j)) gMul := gI_ok (fun i j h => by
  simp only [Bool.or_eq_true, Bool.and_eq_true, decide_eq_true_eq] at h
  exact h) fun _ _ _ _ => .int _
abbrev gMod := gI (fun _ j => decide (0 < j)) fun i j => .int (i % j)
theorem gMod_ok : OpD K (rI (fun _ j => 0 < j) fun i j => V.int (i % j)) gMod := gI_ok (fun _ _ h => of_decide_eq_true h) fun _ _ _ _ => .int _
abbrev gLtI (p : Int → Int → Bool) := gI (fun _ _ => true) fun i j => .bool (p i j)
theorem gLtI_ok {p : Int → Int → Bool} : OpD K (rI0 fun i j => V.bl (p i j)) (gLtI p) := gI0_ok fun _ _ _ _ => .bl _

/-! ### comparisons -/
def gEq (x y : PyData) : Res PyData := if (SeqAt.shaped x && SeqAt.shaped y) = true then .ok (.bool (PyData.eqv x y)) else .bad
def gNe (x y : PyData) : Res PyData := if (SeqAt.shaped x && SeqAt.shaped y) = true then .ok (.bool (!PyData.eqv x y)) else .bad
theorem gEq_ok : OpD K (rEqD K) gEq := by
  intro O H x y dx dy Q l rx ry h
  unfold gEq at h
  by_cases hs : (SeqAt.shaped dx && SeqAt.shaped dy) = true
  · rw [if_pos hs] at h
    rw [Bool.and_eq_true] at hs
    exact ⟨dx, dy, rx.dp (SeqAt.canLay_of_shaped hs.1), ry.dp (SeqAt.canLay_of_shaped hs.2), hs.1, hs.2, h.okE (.bl _)⟩
  · rw [if_neg hs] at h; exact h.elim
theorem gNe_ok : OpD K (rNeD K) gNe := by
  intro O H x y dx dy Q l rx ry h
  unfold gNe at h
  by_cases hs : (SeqAt.shaped dx && SeqAt.shaped dy) = true
  · rw [if_pos hs] at h
    rw [Bool.and_eq_true] at hs
    exact ⟨dx, dy, rx.dp (SeqAt.canLay_of_shaped hs.1), ry.dp (SeqAt.canLay_of_shaped hs.2), hs.1, hs.2, h.okE (.bl _)⟩
  · rw [if_neg hs] at h; exact h.elim
/-- <, <=, >, >= of whole numbers and of texts -/
def gOrd (p : Int → Int → Bool) (q : List Nat → List Nat → Bool) : PyData → PyData → Res PyData
  | .int i, .int j => .ok (.bool (p i j))
  | .str x, .str y => .ok (.bool (q x.cps.toList y.cps.toList))
  | _, _ => .bad
theorem gOrd_ok {p : Int → Int → Bool} {q : List Nat → List Nat → Bool} : OpD K (fun x y H Q => (rI0 fun i j => V.bl (p i j)) x y H Q ∨ (fun x y H Q => ∃ i j, x = V.str i ∧ y = V.str j ∧ Q (V.bl (q i.cps.toList j.cps.toList)) H) x y H Q) (gOrd p q) := by
  intro O H x y dx dy Q l rx ry h
  cases dx with
  | int i =>
    cases dy with
    | int j => cases rx; cases ry; exact .inl ⟨i, j, rfl, rfl, h.okE (.bl _)⟩
    | _ => exact h.elim
  | str z =>
    cases dy with
    | str w =>
      obtain ⟨rfl, _⟩ := rx.strI
      obtain ⟨rfl, _⟩ := ry.strI
      exact .inr ⟨z, w, rfl, rfl, h.okE (.bl _)⟩
    | _ => exact h.elim
  | _ => exact h.elim
abbrev gLt := gOrd (fun i j => decide (i < j)) (fun x y => decide (x < y))
abbrev gLe := gOrd (fun i j => decide (i ≤ j)) (fun x y => !decide (y < x))
abbrev gGt := gOrd (fun i j => decide (j < i)) (fun x y => decide (y < x))
abbrev gGe := gOrd (fun i j => decide (j ≤ i)) (fun x y => !decide (x < y))
theorem op_ltD {X : Cx} : OpR X (compareOp .Lt) (fun x y H Q => (rI0 fun i j => V.bl (decide (i < j))) x y H Q ∨ (fun x y H Q => ∃ i j, x = V.str i ∧ y = V.str j ∧ Q (V.bl (decide (i.cps.toList < j.cps.toList))) H) x y H Q) := op_lt.or op_lt_str
theorem op_leD {X : Cx} : OpR X (compareOp .LtE) (fun x y H Q => (rI0 fun i j => V.bl (decide (i ≤ j))) x y H Q ∨ (fun x y H Q => ∃ i j, x = V.str i ∧ y = V.str j ∧ Q (V.bl (!decide (j.cps.toList < i.cps.toList))) H) x y H Q) := op_le.or op_le_str
theorem op_gtD {X : Cx} : OpR X (compareOp .Gt) (fun x y H Q => (rI0 fun i j => V.bl (decide (j < i))) x y H Q ∨ (fun x y H Q => ∃ i j, x = V.str i ∧ y = V.str j ∧ Q (V.bl (decide (j.cps.toList < i.cps.toList))) H) x y H Q) := op_gt.or op_gt_str
theorem op_geD {X : Cx} : OpR X (compareOp .GtE) (fun x y H Q => (rI0 fun i j => V.bl (decide (j ≤ i))) x y H Q ∨ (fun x y H Q => ∃ i j, x = V.str i ∧ y = V.str j ∧ Q (V.bl (!decide (i.cps.toList < j.cps.toList))) H) x y H Q) := op_ge.or op_ge_str
/-- is None, is not None -/
def isNone : PyData → Bool
  | .none => true
  | _ => false
def gIsN (x y : PyData) : Res PyData := if isNone y = true then .ok (.bool (isNone x)) else .bad
def gNotN (x y : PyData) : Res PyData := if isNone y = true then .ok (.bool (!isNone x)) else .bad
theorem Rp.non_iff {O : List Addr} {H : Hp} {v : V} {d : PyData} (r : Rp K O H v d) : decide (v = .non) = isNone d := by cases r <;> rfl
theorem gIsN_ok : OpD K (fun x y H Q => y = .non ∧ Q (.bl (decide (x = .non))) H) gIsN := by
  intro O H x y dx dy Q l rx ry h
  unfold gIsN at h
  cases dy with
  | none => cases ry; refine ⟨rfl, ?_⟩; rw [rx.non_iff]; exact h.okE (.bl _)
  | _ => exact h.elim
theorem gNotN_ok : OpD K (fun x y H Q => y = .non ∧ Q (.bl (!decide (x = .non))) H) gNotN := by
  intro O H x y dx dy Q l rx ry h
  unfold gNotN at h
  cases dy with
  | none => cases ry; refine ⟨rfl, ?_⟩; rw [rx.non_iff]; exact h.okE (.bl _)
  | _ => exact h.elim
end
end EL
namespace EL
open PySem PySem.Spec PyProof.Rows L2

/-! ### isinstance -/
inductive Ty where
  | int | bool | str | tuple | list | dict
  deriving DecidableEq
def Ty.nm : Ty → String
  | .int => "int" | .bool => "bool" | .str => "str" | .tuple => "tuple" | .list => "list" | .dict => "dict"
inductive Tag where
  | none | bool | int | str | list | tuple | dict
def Tag.nm : Tag → String
  | .none => "NoneType" | .bool => "bool" | .int => "int" | .str => "str" | .list => "list" | .tuple => "tuple" | .dict => "dict"
def tagOf : PyData → Tag
  | .none => .none | .bool _ => .bool | .int _ => .int | .str _ => .str | .list _ => .list | .tuple _ => .tuple | .dict _ => .dict
def tyN (d : PyData) : String := (tagOf d).nm
def isiT : Ty → Tag → Bool
  | .int, .int => true
  | .int, .bool => true
  | .bool, .bool => true
  | .str, .str => true
  | .tuple, .tuple => true
  | .list, .list => true
  | .dict, .dict => true
  | _, _ => false
def isiB (t : Ty) (d : PyData) : Bool := isiT t (tagOf d)
theorem kitB_tag (t : Ty) (g : Tag) : kitB g.nm t.nm = some (isiT t g) := by
  cases t <;> cases g <;> decide +kernel
theorem kitB_isi (t : Ty) (d : PyData) : kitB (tyN d) t.nm = some (isiB t d) := kitB_tag t (tagOf d)
def gIsi (t : Ty) (d : PyData) : Res PyData := .ok (.bool (isiB t d))
section
variable {K : PySem.W.Frag} {O : List Addr} {H : Hp}
theorem Rp.tyX {v : V} {d : PyData} (r : Rp K O H v d) : TyX K H v (.type (tyN d)) := by
  cases r with
  | non => exact .base .non
  | bl b => exact .base (.bl b)
  | int i => exact .base (.int i)
  | str x _ => exact .base (.str x)
  | lst h _ _ _ => exact .base (.lst h)
  | tup h _ _ _ => exact .base (.tup h)
  | tupK h _ _ =>
    rcases h (fun _ => none) with (z | ⟨_, z⟩) | ⟨o, its, n, hk, hc, _⟩
    · cases z
    · cases z
    · exact .kTuple hk hc
  | dic h _ _ _ => exact .base (.dK h)
end
section
variable {X : Cx} {pos : Pos} {a b e : Expr} {es : List Expr}
theorem ev_cal2 {K : PySem.W.Frag} {r : List V → Hp → VK → Prop} {g : PyData → Res PyData} {c : V} {ta : TE} {f : Dn} (hd : ∀ (O : List Addr) (H : Hp) (x : V) (d : PyData) (Q : V → Hp → Prop), Rp K O H x d → PoV K O H (g d) Q → r [x, c] H Q) (ea : EvE K ta f) : EvE K (tCB r (tCons ta (tCons (tC c) tNil))) (dUn g f) := by
  intro c O H σ en Q hc rs h
  refine ea c O H σ en _ hc rs (Po.bind h fun d1 en1 v1 H1 _ rs1 k1 r1 h1 => ?_)
  subst hc
  exact hd O H1 v1 d1 Q r1 (PoV.of h1 rs1)
theorem de_isi (t : Ty) {x : Str} {p p2 : Pos} {f : Dn} (hg : Gl X "isinstance") (hm : X.mg "isinstance" = none) (hg2 : Gl X x) (hm2 : X.mg x = none) (hv2 : bootBuiltins x = some (.type t.nm)) (ha : DE X a f) (hn : x ≠ "__name__" := by decide) (hdb : (x == ("__debug__" : Str)) = false := by decide)
    (he : starEach (a :: [.Name x p2]) X.env = (false, eval a X.env) :: starEach [.Name x p2] X.env := by rfl) (hpl : (backTo pos (starEach [.Name x p2] X.env)).any (·.1) = false := by rfl) :
    DE X (.Call (.Name "isinstance" p) [a, .Name x p2] [] pos) (dUn (gIsi t) f) := by
  obtain ⟨ta, pa, ev⟩ := ha
  refine ⟨_, pe_callB call_isi hg hm (by decide +kernel) (pa_cons pa (pa_cons (pe_bltn (v := .ty t.nm) hg2 hm2 hv2 rfl hn hdb) pa_nil (by rfl)) he) (by decide) (by decide) he hpl, ?_⟩
  refine ev_cal2 (fun O H x d Q r h => ?_) ev
  exact ⟨x, .ty t.nm, .type (tyN d), .type t.nm, isiB t d, rfl, .ty _, r.tyX, kit_ty (kitB_isi t d), h.okE (.bl _)⟩
/-- isinstance(x, (A, B)) -/
def gIsi2 (t u : Ty) (d : PyData) : Res PyData := .ok (.bool (isiB t d || isiB u d))
theorem de_isi2 (t u : Ty) {x y : Str} {k : Nat} {p p2 p3 p4 : Pos} {f : Dn} (hg : Gl X "isinstance") (hm : X.mg "isinstance" = none) (hg2 : Gl X x) (hm2 : X.mg x = none) (hv2 : bootBuiltins x = some (.type t.nm)) (hg3 : Gl X y) (hm3 : X.mg y = none) (hv3 : bootBuiltins y = some (.type u.nm))
    (ha : DE X a f) (hn : x ≠ "__name__" := by decide) (hdb : (x == ("__debug__" : Str)) = false := by decide) (hn3 : y ≠ "__name__" := by decide) (hdb3 : (y == ("__debug__" : Str)) = false := by decide)
    (he : starEach (a :: [.Tuple [.Name x p2, .Name y p3] k p4]) X.env = (false, eval a X.env) :: starEach [.Tuple [.Name x p2, .Name y p3] k p4] X.env := by rfl) (hpl : (backTo pos (starEach [.Tuple [.Name x p2, .Name y p3] k p4] X.env)).any (·.1) = false := by rfl) :
    DE X (.Call (.Name "isinstance" p) [a, .Tuple [.Name x p2, .Name y p3] k p4] [] pos) (dUn (gIsi2 t u) f) := by
  obtain ⟨ta, pa, ev⟩ := ha
  refine ⟨_, pe_callB call_isiT hg hm (by decide +kernel) (pa_cons pa (pa_cons (pe_tup (pa_cons (pe_bltn (v := .ty t.nm) hg2 hm2 hv2 rfl hn hdb) (pa_cons (pe_bltn (v := .ty u.nm) hg3 hm3 hv3 rfl hn3 hdb3) pa_nil (by rfl)) (by rfl))) pa_nil (by rfl)) he) (by decide) (by decide) he hpl, ?_⟩
  intro c O H σ en Q hc rs h
  refine ev c O H σ en _ hc rs (Po.bind h fun d1 en1 v1 H1 _ rs1 k1 r1 h1 => ?_)
  refine ⟨by show 2 ≤ sizeLine; decide, fun q hq => ?_⟩
  rw [hc] at r1
  refine ⟨v1, q, [.ty t.nm, .ty u.nm], .type (tyN d1), [.type t.nm, .type u.nm], isiB t d1 || isiB u d1, rfl, upd_same, .cons (.ty _) (.cons (.ty _) .nil), (r1.keep (keep_new hq)).tyX, ?_, ?_⟩
  · refine kitAny_cons (b := isiB t d1) (kit_ty (kitB_isi t d1)) (fun e => ?_) (fun e => by rw [e]; rfl)
    rw [e, Bool.false_or]
    exact kitAny_cons (b := isiB u d1) (kit_ty (kitB_isi u d1)) (fun e => by rw [e]; exact kitAny_nil) (fun e => e)
  · exact h1 _ _ (rs1.same (same_new hq)) (.same (same_new hq)) (.bl _)

/-! ### len, all, any, tuple, list, int, str, abs -/
variable {K : PySem.W.Frag}
def g1 (g : PyData → Res PyData) : List PyData → Res PyData
  | [x] => g x
  | _ => .bad
theorem g1_ok {r : List V → Hp → VK → Prop} {g : PyData → Res PyData} (h : ∀ (O : List Addr) (H : Hp) (x : V) (d : PyData) (Q : V → Hp → Prop), (∀ a ∈ O, H a ≠ none) → Rp K O H x d → PoV K O H (g d) Q → r [x] H Q) : CalD K r (g1 g) := by
  intro O H xs ds Q l ra hp
  cases ra with
  | nil => exact hp.elim
  | cons a b =>
    cases b with
    | nil => exact h O H _ _ Q l a hp
    | cons _ _ => exact hp.elim
def gLen : PyData → Res PyData
  | .str x => .ok (.int x.length)
  | .list xs => .ok (.int xs.length)
  | .tuple xs => .ok (.int xs.length)
  | _ => .bad
theorem gLen_ok : CalD K (fun xs H Q => ∃ x n, xs = [x] ∧ LenV K x H n ∧ Q (.int n) H) (g1 gLen) := g1_ok fun O H x d Q l r h => by
  cases d with
  | str z =>
    obtain ⟨rfl, z1⟩ := r.strI
    exact ⟨_, z.length, rfl, ⟨z1, rfl⟩, h.okE (.int _)⟩
  | list ds =>
    obtain ⟨a, xs, rfl, h1, _, _, h4⟩ := r.lstI
    refine ⟨_, ds.length, rfl, .inl ⟨xs, .inl (.inl h1), h4.length.symm⟩, h.okE (.int _)⟩
  | tuple ds =>
    obtain ⟨a, xs, rfl, h1, _, h4⟩ := r.tupI
    refine ⟨_, ds.length, rfl, .inr ⟨xs, h1, h4.length.symm⟩, h.okE (.int _)⟩
  | _ => exact h.elim
/-- truths -/
def bools : List PyData → Option (List Bool)
  | [] => some []
  | .bool b :: r => (bools r).map (b :: ·)
  | _ :: _ => none
theorem bools_ok {O : List Addr} {H : Hp} : ∀ {xs : List V} {ds : List PyData} {bs : List Bool}, RpA K O H xs ds → bools ds = some bs → xs = bs.map V.bl
  | _, _, _, .nil, e => by cases e; rfl
  | _, _, bs, .cons (d := d) r t, e => by
    cases d with
    | bool b =>
      cases r
      simp only [bools, Option.map_eq_some_iff] at e
      obtain ⟨bs', e1, rfl⟩ := e
      rw [bools_ok t e1]; rfl
    | _ => simp [bools] at e
def gBs (f : List Bool → Bool) : PyData → Res PyData
  | .list ds => match bools ds with
    | some bs => .ok (.bool (f bs))
    | none => .bad
  | _ => .bad
theorem gBs_ok {f : List Bool → Bool} : CalD K (fun vs H Q => ∃ (a : Addr) (bs : List Bool), vs = [V.ref a] ∧ SqL K H a (bs.map V.bl) ∧ Q (.bl (f bs)) H) (g1 (gBs f)) := g1_ok fun O H x d Q l r h => by
  cases d with
  | list ds =>
    obtain ⟨a, xs, rfl, h1, _, _, h4⟩ := r.lstI
    simp only [gBs] at h
    cases q : bools ds with
    | none => rw [q] at h; exact h.elim
    | some bs =>
      rw [q] at h
      exact ⟨a, bs, rfl, .inl (.inl (by rw [← bools_ok h4 q]; exact h1)), h.okE (.bl _)⟩
  | _ => exact h.elim
abbrev gAll := gBs fun bs => bs.all id
abbrev gAny := gBs fun bs => bs.any id
def gTupOf : PyData → Res PyData
  | .list ds => .ok (.tuple ds)
  | .tuple ds => .ok (.tuple ds)
  | _ => .bad
theorem gTupOf_ok : CalD K (fun xs H Q => ∃ p ys, xs = [.ref p] ∧ ((SqL K H p ys ∧ ∀ l, H l = none → Q (.ref l) (upd H l (.tup ys))) ∨ (SqT K H p ys ∧ Q (.ref p) H))) (g1 gTupOf) := g1_ok fun O H x d Q l r h => by
  cases d with
  | list ds =>
    obtain ⟨a, xs, rfl, h1, _, h3, h4⟩ := r.lstI
    exact ⟨a, xs, rfl, .inl ⟨.inl (.inl h1), fun p hp => h _ _ (same_new hp) (Rp.newT l hp h3 h4)⟩⟩
  | tuple ds =>
    obtain ⟨a, xs, rfl, h1, _, h4⟩ := r.tupI
    exact ⟨a, xs, rfl, .inr ⟨h1, h.okE r⟩⟩
  | _ => exact h.elim
def gLstOf : PyData → Res PyData
  | .list ds => .ok (.list ds)
  | .tuple ds => .ok (.list ds)
  | .dict kds => .ok (.list (kds.map (·.1)))
  | _ => .bad
theorem RpD.keys {O : List Addr} {H : Hp} : ∀ {kvs : List (Key × V)} {kds : List (PyData × PyData)}, RpD K O H kvs kds → (∀ kv ∈ kvs, ∀ x, kv.1 = Sum.inr x → x.length ≤ sizeLine) → RpA K O H (kvs.map fun kv => kV kv.1) (kds.map (·.1))
  | _, _, .nil, _ => .nil
  | _, _, .cons (k := k) r t, h => by
    refine .cons ?_ (RpD.keys t fun kv hk => h kv (List.mem_cons_of_mem _ hk))
    cases k with
    | inl i => exact .int i
    | inr x => exact .str x (h _ List.mem_cons_self x rfl)
def gInt : PyData → Res PyData
  | .int i => .ok (.int i)
  | .bool b => .ok (.int (if b then 1 else 0))
  | .str x => if x.length ≤ 640 then (match PySem.intText? x with
    | some n => .ok (.int n)
    | none => .bad) else .bad
  | _ => .bad
theorem call_intD : CallR X (.type "int") (fun xs H Q => ((∃ i, xs = [.int i] ∧ Q (.int i) H) ∨ ∃ k, xs = [.bl k] ∧ Q (.int (if k then 1 else 0)) H) ∨ ∃ a n, xs = [.str a] ∧ PySem.intText? a = some n ∧ a.length ≤ 640 ∧ Q (.int n) H) := by
  intro pins s σ H xs us Q I r h
  rcases h with h | h
  · exact call_int1 pins s σ H xs us Q I r h
  · exact call_int_str pins s σ H xs us Q I r h
theorem gInt_ok : CalD K (fun xs H Q => ((∃ i, xs = [.int i] ∧ Q (.int i) H) ∨ ∃ k, xs = [.bl k] ∧ Q (.int (if k then 1 else 0)) H) ∨ ∃ a n, xs = [.str a] ∧ PySem.intText? a = some n ∧ a.length ≤ 640 ∧ Q (.int n) H) (g1 gInt) := g1_ok fun O H x d Q l r h => by
  cases d with
  | int i => cases r; exact .inl (.inl ⟨i, rfl, h.okE (.int i)⟩)
  | bool b => cases r; exact .inl (.inr ⟨b, rfl, h.okE (.int _)⟩)
  | str z =>
    obtain ⟨rfl, _⟩ := r.strI
    simp only [gInt] at h
    by_cases hz : z.length ≤ 640
    · rw [if_pos hz] at h
      cases q : PySem.intText? z with
      | none => rw [q] at h; exact h.elim
      | some n => rw [q] at h; exact .inr ⟨z, n, rfl, q, hz, h.okE (.int n)⟩
    · rw [if_neg hz] at h; exact h.elim
  | _ => exact h.elim
def gAbs : PyData → Res PyData
  | .int i => .ok (.int (if i < 0 then -i else i))
  | _ => .bad
theorem gAbs_ok : CalD K (fun xs H Q => ∃ i, xs = [.int i] ∧ Q (.int (if i < 0 then -i else i)) H) (g1 gAbs) := g1_ok fun O H x d Q l r h => by
  cases d with
  | int i => cases r; exact ⟨i, rfl, h.okE (.int _)⟩
  | _ => exact h.elim
end
end EL
namespace EL
open PySem PySem.Spec PyProof.Rows L2

/-! ### in, not in -/
def flatD : PyData → Bool
  | .none => true
  | .bool _ => true
  | .int _ => true
  | .str _ => true
  | _ => false
def inStr (x y : Str) : Bool := match x.cps.toList with
  | [c] => decide (c ∈ y.cps.toList)
  | _ => !(Builtin.Str.occurrences y x 0 y.length 1).isEmpty
def inB : PyData → PyData → Option Bool
  | .str x, .str y => some (inStr x y)
  | x, .list ys => if (SeqAt.shaped x && SeqAt.shaped (.list ys)) = true then some (ys.any fun z => PyData.eqv z x) else none
  | x, .tuple ys => if (flatD x && ys.all flatD) = true then some (ys.any fun z => PyData.eqv z x) else none
  | _, _ => none
def gIn (x y : PyData) : Res PyData := match inB x y with
  | some b => .ok (.bool b)
  | none => .bad
def gNotIn (x y : PyData) : Res PyData := match inB x y with
  | some b => .ok (.bool (!b))
  | none => .bad
section
variable {K : PySem.W.Frag} {O : List Addr} {H : Hp}
theorem Rp.flat {v : V} {d : PyData} (r : Rp K O H v d) : flatV v = flatD d := by cases r <;> rfl
theorem RpA.flat : ∀ {vs : List V} {ds : List PyData}, RpA K O H vs ds → vs.all flatV = ds.all flatD
  | _, _, .nil => rfl
  | _, _, .cons a b => by simp only [List.all_cons, a.flat, RpA.flat b]
theorem Rp.eqv {v w : V} {d e : PyData} (r : Rp K O H v d) (q : Rp K O H w e) (h1 : flatD d = true) (h2 : flatD e = true) : eqV v w = PyData.eqv d e := by
  cases r <;> first | (cases q <;> first | rfl | (exact absurd h2 (by simp [flatD]))) | (exact absurd h1 (by simp [flatD]))
theorem RpA.inV {w : V} {e : PyData} (q : Rp K O H w e) (h2 : flatD e = true) : ∀ {vs : List V} {ds : List PyData}, RpA K O H vs ds → ds.all flatD = true → inV w vs = ds.any fun z => PyData.eqv z e
  | _, _, .nil, _ => rfl
  | _, _, .cons a b, h => by
    simp only [List.all_cons, Bool.and_eq_true] at h
    have ih := RpA.inV q h2 b h.2
    unfold L2.inV at ih ⊢
    simp only [List.any_cons, a.eqv q h.1 h2, ih]
/-- the ways of in: a sign, a text, flat items, deep items -/
abbrev rInA (K : PySem.W.Frag) (neg : Bool) : R2 := fun x y H Q =>
  (∃ (c : Nat) (z : Str), x = V.str ⟨#[c]⟩ ∧ y = V.str z ∧ Q (V.bl (if neg then !decide (c ∈ z.cps.toList) else decide (c ∈ z.cps.toList))) H) ∨
  (∃ i j, x = V.str i ∧ y = V.str j ∧ Q (V.bl (if neg then !(!(Builtin.Str.occurrences j i 0 j.length 1).isEmpty) else !(Builtin.Str.occurrences j i 0 j.length 1).isEmpty)) H) ∨ rIn K neg x y H Q ∨
  ∃ d ds, Dp K H x d ∧ Dp K H y (.list ds) ∧ SeqAt.shaped d = true ∧ SeqAt.shaped (.list ds) = true ∧ Q (V.bl (if neg then !ds.any fun z => PyData.eqv z d else ds.any fun z => PyData.eqv z d)) H
theorem op_inA {X : Cx} (hu : X.A.units + 65 < cLine) : OpR X (compareOp .In) (rInA X.K false) := op_in_sign.or (op_in_str.or (op_in_seq.or (op_inD hu)))
theorem op_notInA {X : Cx} (hu : X.A.units + 65 < cLine) : OpR X (compareOp .NotIn) (rInA X.K true) := op_notIn_sign.or (op_notin_str.or (op_notIn_seq.or (op_notInD hu)))
theorem inA_ok {neg : Bool} {x y : V} {dx dy : PyData} {b : Bool} {Q : V → Hp → Prop} (rx : Rp K O H x dx) (ry : Rp K O H y dy) (e : inB dx dy = some b) (h : Q (.bl (if neg then !b else b)) H) : rInA K neg x y H Q := by
  cases dy with
  | str w =>
    cases dx with
    | str z =>
      obtain ⟨rfl, _⟩ := rx.strI
      obtain ⟨rfl, _⟩ := ry.strI
      simp only [inB, Option.some.injEq] at e
      subst e
      by_cases hz : ∃ c, z = ⟨#[c]⟩
      · obtain ⟨c, rfl⟩ := hz
        exact .inl ⟨c, w, rfl, rfl, h⟩
      · have e2 : inStr z w = !(Builtin.Str.occurrences w z 0 w.length 1).isEmpty := by
          unfold inStr
          split
          · rename_i c hc
            refine absurd ⟨c, ?_⟩ hz
            obtain ⟨⟨l⟩⟩ := z
            simp only at hc
            subst hc
            rfl
          · rfl
        rw [e2] at h
        exact .inr (.inl ⟨z, w, rfl, rfl, h⟩)
    | _ => simp [inB] at e
  | list ys =>
    have e' : (if (SeqAt.shaped dx && SeqAt.shaped (.list ys)) = true then some (ys.any fun z => PyData.eqv z dx) else none) = some b := by
      cases dx <;> exact e
    by_cases hs : (SeqAt.shaped dx && SeqAt.shaped (.list ys)) = true
    · rw [if_pos hs] at e'
      rw [Bool.and_eq_true] at hs
      have e2 := Option.some.inj e'
      subst e2
      exact .inr (.inr (.inr ⟨dx, ys, rx.dp (SeqAt.canLay_of_shaped hs.1), ry.dp (SeqAt.canLay_of_shaped hs.2), hs.1, hs.2, h⟩))
    · rw [if_neg hs] at e'; cases e'
  | tuple ys =>
    have e' : (if (flatD dx && ys.all flatD) = true then some (ys.any fun z => PyData.eqv z dx) else none) = some b := by
      cases dx <;> exact e
    by_cases hs : (flatD dx && ys.all flatD) = true
    · rw [if_pos hs] at e'
      rw [Bool.and_eq_true] at hs
      have e2 := Option.some.inj e'
      subst e2
      obtain ⟨a, xs, rfl, h1, _, h4⟩ := ry.tupI
      refine .inr (.inr (.inl ⟨a, xs, rfl, .inr h1, by rw [rx.flat]; exact hs.1, by rw [h4.flat]; exact hs.2, ?_⟩))
      rw [RpA.inV rx hs.1 h4 hs.2]
      exact h
    · rw [if_neg hs] at e'; cases e'
  | _ => cases dx <;> simp [inB] at e
theorem gIn_ok : OpD K (rInA K false) gIn := by
  intro O H x y dx dy Q l rx ry h
  unfold gIn at h
  cases q : inB dx dy with
  | none => rw [q] at h; exact h.elim
  | some b => rw [q] at h; exact inA_ok rx ry q (h.okE (.bl _))
theorem gNotIn_ok : OpD K (rInA K true) gNotIn := by
  intro O H x y dx dy Q l rx ry h
  unfold gNotIn at h
  cases q : inB dx dy with
  | none => rw [q] at h; exact h.elim
  | some b => rw [q] at h; exact inA_ok rx ry q (h.okE (.bl _))

/-! ### items and slices -/
def gIx : PyData → PyData → Res PyData
  | .list xs, .int i => match atI xs i with
    | some d => .ok d
    | none => .bad
  | .tuple xs, .int i => match atI xs i with
    | some d => .ok d
    | none => .bad
  | .str z, .int i => match atI z.cps.toList i with
    | some c => .ok (.str ⟨#[c]⟩)
    | none => .bad
  | _, _ => .bad
theorem RpA.atI {vs : List V} {ds : List PyData} {i : Int} {d : PyData} (r : RpA K O H vs ds) (h : L2.atI ds i = some d) : ∃ v, L2.atI vs i = some v ∧ Rp K O H v d := by
  unfold L2.atI at h ⊢
  rw [r.length]
  cases q : ixN ds.length i with
  | none => rw [q] at h; cases h
  | some j =>
    rw [q] at h
    obtain ⟨v, h1, h2⟩ := r.getD (i := j) (d := d) h
    exact ⟨v, h1, h2⟩
theorem gIx_ok : OpD K (rIx K) gIx := by
  intro O H x y dx dy Q l rx ry h
  cases dy with
  | int i =>
    cases ry
    cases dx with
    | list ds =>
      obtain ⟨a, xs, rfl, h1, _, _, h4⟩ := rx.lstI
      simp only [gIx] at h
      cases q : L2.atI ds i with
      | none => rw [q] at h; exact h.elim
      | some d =>
        rw [q] at h
        obtain ⟨v, e1, e2⟩ := h4.atI q
        exact .inl ⟨a, xs, i, v, rfl, rfl, .inl (.inl h1), e1, h.okE e2⟩
    | tuple ds =>
      obtain ⟨a, xs, rfl, h1, _, h4⟩ := rx.tupI
      simp only [gIx] at h
      cases q : L2.atI ds i with
      | none => rw [q] at h; exact h.elim
      | some d =>
        rw [q] at h
        obtain ⟨v, e1, e2⟩ := h4.atI q
        exact .inr (.inl ⟨a, xs, i, v, rfl, rfl, h1, e1, h.okE e2⟩)
    | str z =>
      obtain ⟨rfl, z1⟩ := rx.strI
      simp only [gIx] at h
      cases q : L2.atI z.cps.toList i with
      | none => rw [q] at h; exact h.elim
      | some c =>
        rw [q] at h
        exact .inr (.inr ⟨z, i, c, rfl, rfl, z1, q, h.okE (.str _ (by show 1 ≤ sizeLine; decide))⟩)
    | _ => exact h.elim
  | _ => cases dx <;> exact h.elim
def cutD {α : Type} (xs : List α) (lo hi : Option Int) : List α := (xs.drop (HT.sIx xs.length 0 lo)).take (HT.sIx xs.length xs.length hi - HT.sIx xs.length 0 lo)
theorem cutD_len {α : Type} (xs : List α) (lo hi : Option Int) : (cutD xs lo hi).length ≤ xs.length := by
  unfold cutD
  rw [List.length_take, List.length_drop]
  omega
theorem RpA.cut {vs : List V} {ds : List PyData} (r : RpA K O H vs ds) (lo hi : Option Int) : RpA K O H (cutV vs lo hi) (cutD ds lo hi) := by
  unfold cutV cutD
  rw [r.length]
  exact (r.drop _).take _
def gSl : PyData → Option Int → Option Int → Res PyData
  | .list xs, lo, hi => .ok (.list (cutD xs lo hi))
  | .tuple xs, lo, hi => .ok (.tuple (cutD xs lo hi))
  | .str z, lo, hi => .ok (.str (cutS z lo hi))
  | _, _, _ => .bad
abbrev rSlD (K : PySem.W.Frag) : V → Option Int → Option Int → Hp → VK → Prop := fun x lo hi H Q => rSlL K x lo hi H Q ∨ rSlA K x lo hi H Q ∨ rSlS x lo hi H Q
theorem sl_D {X : Cx} : SlR X (rSlD X.K) := by
  intro pins s σ H x v vl vu lo hi sl Q I rx hs pl pu h
  rcases h with h | h | h
  · exact sl_list pins s σ H x v vl vu lo hi sl Q I rx hs pl pu h
  · exact sl_tupA pins s σ H x v vl vu lo hi sl Q I rx hs pl pu h
  · exact sl_str pins s σ H x v vl vu lo hi sl Q I rx hs pl pu h
theorem gSl_ok : SlD K (rSlD K) gSl := by
  intro O H x dx lo hi Q l rx h
  cases dx with
  | list ds =>
    obtain ⟨a, xs, rfl, h1, _, h3, h4⟩ := rx.lstI
    refine .inl ⟨a, xs, rfl, .inl (.inl h1), fun p hp => h _ _ (same_new hp) (Rp.newL l hp ?_ (h4.cut lo hi))⟩
    have := cutD_len xs lo hi
    exact Nat.le_trans this h3
  | tuple ds =>
    obtain ⟨a, xs, rfl, h1, h3, h4⟩ := rx.tupI
    refine .inr (.inl ⟨a, xs, rfl, h1, fun e => ?_, fun _ p hp => h _ _ (same_new hp) (Rp.newT l hp ?_ (h4.cut lo hi))⟩)
    · refine h.okE ?_
      have e2 : cutD ds lo hi = ds := by
        unfold cutD
        rw [h4.length] at e
        rw [e.1, e.2, List.drop_zero, Nat.sub_zero, List.take_length]
      rw [e2]
      exact rx
    · have := cutD_len xs lo hi
      exact Nat.le_trans this h3
  | str z =>
    obtain ⟨rfl, z1⟩ := rx.strI
    refine .inr (.inr ⟨z, rfl, z1, h.okE (.str _ ?_)⟩)
    have := cutD_len z.cps.toList lo hi
    unfold cutD at this
    show (cutS z lo hi).cps.size ≤ sizeLine
    unfold cutS
    rw [List.size_toArray]
    exact Nat.le_trans this (by rw [Array.length_toList]; exact z1)
  | _ => exact h.elim
end
end EL
namespace EL
open PySem PySem.Spec PyProof.Rows L2

/-! ### repr, str -/
mutual
theorem Dp_nodict {K : PySem.W.Frag} {H : Hp} : ∀ {v : V} {d : PyData}, Dp K H v d → d.hasDict = false
  | _, _, .non => rfl
  | _, _, .bl _ => rfl
  | _, _, .int _ => rfl
  | _, _, .str _ => rfl
  | _, _, .lst _ h => by simp only [PyData.hasDict]; exact DpA_nodict h
  | _, _, .tup _ h => by simp only [PyData.hasDict]; exact DpA_nodict h
theorem DpA_nodict {K : PySem.W.Frag} {H : Hp} : ∀ {v : List V} {d : List PyData}, DpAll K H v d → PyData.hasDictAll d = false
  | _, _, .nil => rfl
  | _, _, .cons a b => by simp only [PyData.hasDictAll, Dp_nodict a, DpA_nodict b]; rfl
end
section
variable {X : Cx}
theorem call_reprD (hg : X.A.guards = some []) (hu : X.A.units + 66 < cLine) : CallR X (.builtin "repr") (fun xs H Q => ∃ x d, xs = [x] ∧ Dp X.K H x d ∧ d.showable = true ∧ d.depth ≤ 64 ∧ d.shown.length ≤ sizeLine ∧ Q (.str d.shown) H) := by
  intro pins s σ H xs us Q I r h
  obtain ⟨x, d, rfl, hd, hs, hp, hz, q⟩ := h
  obtain ⟨u, rfl, ru⟩ := vals1 r
  obtain ⟨as, rd⟩ := Dp.reads I d x u hd ru
  cases d with
  | none => cases hd; cases ru; exact PySem.P.repr_of_none ⟨.str _, H, I.tok _, ⟨_, rfl⟩, q⟩
  | bool b => cases hd; cases ru; exact PySem.P.repr_of_bool ⟨.str _, H, I.tok _, ⟨_, rfl⟩, q⟩
  | int i =>
    cases hd
    obtain ⟨t, rfl⟩ := ru
    exact PySem.P.repr_of_int (by simpa [PyData.showable] using hs) ⟨.str _, H, I.tok _, ⟨_, rfl⟩, q⟩
  | str z =>
    cases hd
    obtain ⟨t, rfl⟩ := ru
    exact PySem.P.repr_of_str ⟨.str _, H, I.tok _, ⟨_, rfl⟩, q⟩ hz
  | list ds =>
    cases hd with
    | lst h1 h2 =>
      cases ru
      refine repr_of_reads' rd hs (fun e => ?_) hg (by omega) (fun _ _ e => e) (fun h' t tk hk => ⟨.str _, H, I.kept (t' := tk) hk, ⟨_, rfl⟩, q⟩) hz
      exact absurd e (by rw [Dp_nodict (.lst h1 h2)]; exact Bool.false_ne_true)
  | tuple ds =>
    cases hd with
    | tup h1 h2 =>
      cases ru
      refine repr_of_reads' rd hs (fun e => ?_) hg (by omega) (fun _ _ e => e) (fun h' t tk hk => ⟨.str _, H, I.kept (t' := tk) hk, ⟨_, rfl⟩, q⟩) hz
      exact absurd e (by rw [Dp_nodict (.tup h1 h2)]; exact Bool.false_ne_true)
  | dict _ => cases hd
end
end EL
namespace EL
open PySem PySem.Spec PyProof.Rows L2

/-! ### slots set -/
theorem set_some {α : Type} {l : List α} {i j : Nat} {x y : α} (h : (l.set i x)[j]? = some y) : (i = j ∧ x = y ∧ i < l.length) ∨ (i ≠ j ∧ l[j]? = some y) := by
  rw [List.getElem?_set] at h
  split at h
  · rename_i e
    split at h
    · rename_i hl
      exact .inl ⟨e, Option.some.inj h, hl⟩
    · cases h
  · rename_i e
    exact .inr ⟨e, h⟩
section
variable {c : Fc} {O O' : List Addr} {H H' : Hp} {σ : L2.St} {en : En} {i : Nat} {v : V} {d : PyData}
/-- a slot holds data -/
theorem RS.set_sh (r : RS c O H σ en) (h : Rp c.K O H v d) : RS c O H (σ.set i (some v)) (en.set i (.sh d)) where
  len := by simp [r.len]
  keep := r.keep
  pin := r.pin
  sub := r.sub
  live := r.live
  sh := fun j e q => by
    rcases set_some q with ⟨rfl, e1, hl⟩ | ⟨ne, q'⟩
    · cases e1
      exact ⟨v, by rw [List.getElem?_set_self (by rw [r.len]; exact hl)], h⟩
    · obtain ⟨u, h1, h2⟩ := r.sh j e q'
      exact ⟨u, by rw [List.getElem?_set_ne ne]; exact h1, h2⟩
  ow := fun j e q => by
    rcases set_some q with ⟨rfl, e1, hl⟩ | ⟨ne, q'⟩
    · cases e1
    · obtain ⟨u, h1, h2⟩ := r.ow j e q'
      exact ⟨u, by rw [List.getElem?_set_ne ne]; exact h1, h2⟩
  dist := fun j k e f a q1 q2 s1 s2 => by
    rcases set_some q1 with ⟨rfl, e1, hl⟩ | ⟨n1, q1'⟩
    · cases e1
    rcases set_some q2 with ⟨rfl, e2, hl⟩ | ⟨n2, q2'⟩
    · cases e2
    rw [List.getElem?_set_ne n1] at s1
    rw [List.getElem?_set_ne n2] at s2
    exact r.dist j k e f a q1' q2' s1 s2
/-- a slot is forgotten, whatever it holds -/
theorem RS.set_no (r : RS c O H σ en) (o : Option V) : RS c O H (σ.set i o) (en.set i .no) where
  len := by simp [r.len]
  keep := r.keep
  pin := r.pin
  sub := r.sub
  live := r.live
  sh := fun j e q => by
    rcases set_some q with ⟨rfl, e1, hl⟩ | ⟨ne, q'⟩
    · cases e1
    · obtain ⟨u, h1, h2⟩ := r.sh j e q'
      exact ⟨u, by rw [List.getElem?_set_ne ne]; exact h1, h2⟩
  ow := fun j e q => by
    rcases set_some q with ⟨rfl, e1, hl⟩ | ⟨ne, q'⟩
    · cases e1
    · obtain ⟨u, h1, h2⟩ := r.ow j e q'
      exact ⟨u, by rw [List.getElem?_set_ne ne]; exact h1, h2⟩
  dist := fun j k e f a q1 q2 s1 s2 => by
    rcases set_some q1 with ⟨rfl, e1, hl⟩ | ⟨n1, q1'⟩
    · cases e1
    rcases set_some q2 with ⟨rfl, e2, hl⟩ | ⟨n2, q2'⟩
    · cases e2
    rw [List.getElem?_set_ne n1] at s1
    rw [List.getElem?_set_ne n2] at s2
    exact r.dist j k e f a q1' q2' s1 s2
/-- what is known is forgotten, slot by slot -/
theorem RS.drop (r : RS c O H σ en) : RS c O H σ (en.set i .no) where
  len := by simp [r.len]
  keep := r.keep
  pin := r.pin
  sub := r.sub
  live := r.live
  sh := fun j e q => by
    rcases set_some q with ⟨rfl, e1, hl⟩ | ⟨ne, q'⟩
    · cases e1
    · exact r.sh j e q'
  ow := fun j e q => by
    rcases set_some q with ⟨rfl, e1, hl⟩ | ⟨ne, q'⟩
    · cases e1
    · exact r.ow j e q'
  dist := fun j k e f a q1 q2 s1 s2 => by
    rcases set_some q1 with ⟨rfl, e1, hl⟩ | ⟨n1, q1'⟩
    · cases e1
    rcases set_some q2 with ⟨rfl, e2, hl⟩ | ⟨n2, q2'⟩
    · cases e2
    exact r.dist j k e f a q1' q2' s1 s2
theorem RS.newp (r : RS c O H σ en) {p : Addr} (h : H p = none) : p ∉ O ∧ p ∉ c.Oe ∧ p ∉ c.P ∧ c.He p = none := by
  have h1 : p ∉ O := fun z => r.live p z h
  have h2 : p ∉ c.Oe := fun z => h1 (r.sub p z)
  have h3 : p ∉ c.P := fun z => h2 (r.pin p z)
  refine ⟨h1, h2, h3, ?_⟩
  cases q : c.He p with
  | none => rfl
  | some x => rw [r.keep p x h3 q] at h; cases h
/-- a new object is laid that may change -/
theorem RS.lay (r : RS c O H σ en) {p : Addr} {o : HO} (h : H p = none) : RS c (p :: O) (upd H p o) σ en where
  len := r.len
  keep := r.keep.trans (.of_same (same_new h))
  pin := r.pin
  sub := fun a ha => List.mem_cons_of_mem _ (r.sub a ha)
  live := fun a ha => by
    rcases List.mem_cons.mp ha with e | ha
    · subst e; rw [upd_same]; exact fun z => nomatch z
    · have := r.live a ha
      rw [upd_ne (fun e => this (by rw [e]; exact h))]
      exact this
  sh := fun i d q => by
    obtain ⟨v, h1, h2⟩ := r.sh i d q
    exact ⟨v, h1, (h2.more h).keep (keep_new h)⟩
  ow := fun i d q => by
    obtain ⟨a, h1, h2, h3, h4⟩ := r.ow i d q
    have ne : a ≠ p := fun e => h2.some (e ▸ h)
    exact ⟨a, h1, (h2.more h).keep (keep_new h) (upd_ne ne), List.mem_cons_of_mem _ h3, h4⟩
  dist := r.dist
/-- the newest address is no longer one that may change; no slot has it -/
theorem RS.unlay {p : Addr} {en0 : En} {H0 : Hp} (r0 : RS c O H0 σ en0) (hp : H0 p = none) (r : RS c (p :: O) H σ en) (s : Shp en0 en) : RS c O H σ en where
  len := r.len
  keep := r.keep
  pin := r.pin
  sub := r0.sub
  live := fun a ha => r.live a (List.mem_cons_of_mem _ ha)
  sh := fun i d q => by
    obtain ⟨v, h1, h2⟩ := r.sh i d q
    exact ⟨v, h1, h2.less fun a ha => List.mem_cons_of_mem _ ha⟩
  ow := fun i d q => by
    obtain ⟨a, h1, h2, h3, h4⟩ := r.ow i d q
    obtain ⟨d', q'⟩ := s i d q
    obtain ⟨a', g1, g2, g3, g4⟩ := r0.ow i d' q'
    rw [h1] at g1
    cases g1
    refine ⟨a, h1, ?_, g3, h4⟩
    cases d with
    | list ds => obtain ⟨xs, e1, e2, e3⟩ := h2; exact ⟨xs, e1, e2, e3.less fun a ha => List.mem_cons_of_mem _ ha⟩
    | dict ds => obtain ⟨xs, e1, e2, e3⟩ := h2; exact ⟨xs, e1, e2, e3.less fun a ha => List.mem_cons_of_mem _ ha⟩
    | _ => exact h2.elim
  dist := r.dist
/-- a slot holds a new object that may change -/
theorem RS.set_ow {p : Addr} {en0 : En} {H0 : Hp} (hi : i ≠ 0) (r0 : RS c O H0 σ en0) (hp : H0 p = none) (r : RS c (p :: O) H σ en) (s : Shp en0 en) (h : OwR c.K (p :: O) H p d) : RS c (p :: O) H (σ.set i (some (.ref p))) (en.set i (.ow d)) where
  len := by simp [r.len]
  keep := r.keep
  pin := r.pin
  sub := r.sub
  live := r.live
  sh := fun j e q => by
    rcases set_some q with ⟨rfl, e1, hl⟩ | ⟨ne, q'⟩
    · cases e1
    · obtain ⟨u, h1, h2⟩ := r.sh j e q'
      exact ⟨u, by rw [List.getElem?_set_ne ne]; exact h1, h2⟩
  ow := fun j e q => by
    rcases set_some q with ⟨rfl, e1, hl⟩ | ⟨ne, q'⟩
    · cases e1
      obtain ⟨_, n2, _, n4⟩ := r0.newp hp
      exact ⟨p, by rw [List.getElem?_set_self (by rw [r.len]; exact hl)], h, List.mem_cons_self, .inr ⟨n4, n2, hi⟩⟩
    · obtain ⟨u, h1, h2⟩ := r.ow j e q'
      exact ⟨u, by rw [List.getElem?_set_ne ne]; exact h1, h2⟩
  dist := fun j k e f a q1 q2 s1 s2 => by
    have old : ∀ (m : Nat) (g : PyData), en[m]? = some (Sl.ow g) → σ[m]? ≠ some (some (V.ref p)) := fun m g e z => by
      obtain ⟨g', e'⟩ := s m g e
      obtain ⟨a', h1, h2, _⟩ := r0.ow m g' e'
      rw [h1] at z
      cases z
      exact h2.some hp
    rcases set_some q1 with ⟨rfl, e1, hl⟩ | ⟨n1, q1'⟩
    · rcases set_some q2 with ⟨rfl, _, _⟩ | ⟨n2, q2'⟩
      · rfl
      · rw [List.getElem?_set_self (by rw [r.len]; exact hl)] at s1
        cases s1
        rw [List.getElem?_set_ne n2] at s2
        exact (old k f q2' s2).elim
    · rw [List.getElem?_set_ne n1] at s1
      rcases set_some q2 with ⟨rfl, e2, hl⟩ | ⟨n2, q2'⟩
      · rw [List.getElem?_set_self (by rw [r.len]; exact hl)] at s2
        cases s2
        exact (old j e q1' s1).elim
      · rw [List.getElem?_set_ne n2] at s2
        exact r.dist j k e f a q1' q2' s1 s2
/-- the object of a slot has changed, and nothing else (but new things) -/
theorem RS.turn {p : Addr} {d' : PyData} (r : RS c O H σ en) (hi : en[i]? = some (.ow d)) (hp : σ[i]? = some (some (.ref p))) (k : Keep [p] H H') (h : OwR c.K O H' p d') : RS c O H' σ (en.set i (.ow d')) := by
  obtain ⟨a, g1, g2, g3, g4⟩ := r.ow i d hi
  rw [hp] at g1
  cases g1
  have kO : Keep O H H' := k.mono fun b hb => by
    have e : b = p := by simpa using hb
    rw [e]; exact g3
  refine ⟨by simp [r.len], fun b x n e => ?_, r.pin, r.sub, fun b hb => ?_, fun j e q => ?_, fun j e q => ?_, fun j m e f b q1 q2 s1 s2 => ?_⟩
  · have hb : H b = some x := r.keep b x n e
    refine k b x (fun z => ?_) hb
    have e1 : b = p := by simpa using z
    subst e1
    rcases g4 with ⟨g4, _⟩ | ⟨g4, _⟩
    · exact n g4
    · rw [g4] at e; cases e
  · by_cases e1 : b = p
    · subst e1; exact h.some
    · cases q : H b with
      | none => exact (r.live b hb q).elim
      | some x => rw [k b x (by simpa using e1) q]; exact fun z => nomatch z
  · rcases set_some q with ⟨rfl, e1, hl⟩ | ⟨ne, q'⟩
    · cases e1
    · obtain ⟨u, h1, h2⟩ := r.sh j e q'
      exact ⟨u, h1, h2.keep kO⟩
  · rcases set_some q with ⟨rfl, e1, hl⟩ | ⟨ne, q'⟩
    · cases e1
      exact ⟨p, hp, h, g3, g4⟩
    · obtain ⟨u, h1, h2, h3, h4⟩ := r.ow j e q'
      have nu : u ≠ p := fun z => ne (r.dist i j d e p hi q' hp (z ▸ h1))
      refine ⟨u, h1, h2.keep kO ?_, h3, h4⟩
      cases q2 : H u with
      | none => exact (h2.some q2).elim
      | some x => exact k u x (by simpa using nu) q2
  · rcases set_some q1 with ⟨rfl, e1, hl⟩ | ⟨n1, q1'⟩
    · rcases set_some q2 with ⟨rfl, _, _⟩ | ⟨n2, q2'⟩
      · rfl
      · exact r.dist i m d f b hi q2' s1 s2
    · rcases set_some q2 with ⟨rfl, e2, hl⟩ | ⟨n2, q2'⟩
      · exact r.dist j i e d b q1' hi s1 s2
      · exact r.dist j m e f b q1' q2' s1 s2
/-- the object of a slot no longer changes -/
theorem RS.freeze {p : Addr} (r : RS c O H σ en) (hi : en[i]? = some (.ow d)) (hp : σ[i]? = some (some (.ref p))) (hn : p ∉ c.Oe) : RS c (O.filter fun a => decide (a ≠ p)) H σ (en.set i (.sh d)) ∧ Rp c.K (O.filter fun a => decide (a ≠ p)) H (.ref p) d := by
  obtain ⟨a, g1, g2, g3, g4⟩ := r.ow i d hi
  rw [hp] at g1
  cases g1
  have sb : ∀ a ∈ O.filter (fun a => decide (a ≠ p)), a ∈ O := fun a ha => (List.mem_filter.mp ha).1
  have np : p ∉ O.filter (fun a => decide (a ≠ p)) := fun z => by
    have := (List.mem_filter.mp z).2
    simp at this
  have hr : Rp c.K (O.filter fun a => decide (a ≠ p)) H (.ref p) d := by
    cases d with
    | list ds => obtain ⟨xs, e1, e2, e3⟩ := g2; exact .lst e1 np e2 (e3.less sb)
    | dict ds => obtain ⟨xs, e1, e2, e3⟩ := g2; exact .dic e1 np e2 (e3.less sb)
    | _ => exact g2.elim
  refine ⟨⟨by simp [r.len], r.keep, r.pin, fun a ha => List.mem_filter.mpr ⟨r.sub a ha, ?_⟩, fun a ha => r.live a (sb a ha), fun j e q => ?_, fun j e q => ?_, fun j m e f b q1 q2 s1 s2 => ?_⟩, hr⟩
  · exact decide_eq_true (fun z => hn (z ▸ ha))
  · rcases set_some q with ⟨rfl, e1, hl⟩ | ⟨ne, q'⟩
    · cases e1
      exact ⟨.ref p, hp, hr⟩
    · obtain ⟨u, h1, h2⟩ := r.sh j e q'
      exact ⟨u, h1, h2.less sb⟩
  · rcases set_some q with ⟨rfl, e1, hl⟩ | ⟨ne, q'⟩
    · cases e1
    · obtain ⟨u, h1, h2, h3, h4⟩ := r.ow j e q'
      have nu : u ≠ p := fun z => ne (r.dist i j d e p hi q' hp (z ▸ h1))
      refine ⟨u, h1, ?_, List.mem_filter.mpr ⟨h3, decide_eq_true nu⟩, h4⟩
      cases e with
      | list ds => obtain ⟨xs, e1, e2, e3⟩ := h2; exact ⟨xs, e1, e2, e3.less sb⟩
      | dict ds => obtain ⟨xs, e1, e2, e3⟩ := h2; exact ⟨xs, e1, e2, e3.less sb⟩
      | _ => exact h2.elim
  · rcases set_some q1 with ⟨rfl, e1, hl⟩ | ⟨n1, q1'⟩
    · cases e1
    rcases set_some q2 with ⟨rfl, e2, hl⟩ | ⟨n2, q2'⟩
    · cases e2
    exact r.dist j m e f b q1' q2' s1 s2
end
end EL
namespace EL
open PySem PySem.Spec PyProof.Rows L2

/-! ### defs called -/
/-- data in, data out -/
def spM (m : List PyData → Res PyData) (n : Nat) (K : PySem.W.Frag) : Sp := fun vs H Q _ => vs.length = n ∧ ∃ ds O, RpA K O H vs ds ∧ (∀ a ∈ O, H a ≠ none) ∧ PoV K O H (m ds) Q
/-- the first argument is changed -/
def spP (m : PyData → List PyData → Res (PyData × PyData)) (n : Nat) (K : PySem.W.Frag) : Sp := fun vs H Q _ => vs.length = n ∧ ∃ p vs' pd ds O, vs = .ref p :: vs' ∧ p ∈ O ∧ OwR K O H p pd ∧ RpA K O H vs' ds ∧ (∀ a ∈ O, H a ≠ none) ∧
  match m pd ds with
  | .ok (d, pd') => ∀ v H', Keep [p] H H' → OwR K O H' p pd' → Rp K O H' v d → Q v H'
  | _ => False
/-- .. with so many arguments -/
def gN (n : Nat) (m : List PyData → Res PyData) (ds : List PyData) : Res PyData := if ds.length = n then m ds else .bad
section
variable {X : Cx} {pos : Pos} {a b e : Expr} {es : List Expr}
theorem ev_call {K : PySem.W.Frag} {m : List PyData → Res PyData} {n : Nat} {E : XK} {t : TA} {f : An} (ea : EvA K t f) : EvE K (tCall (spM m n K) [] E t) (dApp (gN n m) f) := by
  intro c O H σ en Q hc rs h
  refine ea c O H σ en _ hc rs (Po.bind h fun d1 en1 v1 H1 _ rs1 k1 r1 h1 => ?_)
  unfold gN at h1
  by_cases hn : d1.length = n
  · rw [if_pos hn] at h1
    have hv := PoV.of h1 rs1
    rw [hc] at hv r1
    refine ⟨by rw [List.append_nil, r1.length]; exact hn, d1, O, by rw [List.append_nil]; exact r1, rs1.live, hv⟩
  · rw [if_neg hn] at h1; exact h1.elim
theorem de_call {CX : CXT} {k : Nat} {f : Addr} {fd : FuncData} {ps : List Str} {m : List PyData → Res PyData} {n : Nat} {E : XK} {x : Str} {p : Pos} {g : An} (F : FnOk X.prog X.w X.K X.mg X.base CX k f fd ps (spM m n X.K)) (hr : Room k X.A) (hg : Gl X x) (hm : X.mg x = some (.ref f)) (hk : PySem.W.keepIn X.K (.ref f) = true) (hb : Binds X.K fd ps []) (hx : Passes CX X E)
    (ha : DA X (e :: es) g) (hs : starEach (e :: es) X.env = (false, eval e X.env) :: starEach es X.env := by rfl) (hpl : (backTo pos (starEach es X.env)).any (·.1) = false := by rfl) (hd : (x == ("__debug__" : Str)) = false := by decide) :
    DE X (.Call (.Name x p) (e :: es) [] pos) (dApp (gN n m) g) := by
  obtain ⟨t, pa, ev⟩ := ha
  exact ⟨_, pe_call F hr hg hm hk hb .nil hx pa hd hs hpl, ev_call ev⟩

/-- f(x, ..), x the slot i, which f changes -/
def callP (m : PyData → List PyData → Res (PyData × PyData)) (n i : Nat) (xs : List PyData) : Dn := fun en => if xs.length + 1 = n then (match en[i]? with
  | some (.ow pd) => (m pd xs).bind fun p => .ok (p.1, en.set i (.ow p.2))
  | _ => .bad) else .bad
def dCallP (m : PyData → List PyData → Res (PyData × PyData)) (n i : Nat) (r : An) : Dn := fun en => match en[i]? with
  | some (.ow _) => bnd r (callP m n i) en
  | _ => .bad
theorem ev_callP {K : PySem.W.Frag} {m : PyData → List PyData → Res (PyData × PyData)} {n i : Nat} {E : XK} {t : TA} {f : An} (ea : EvA K t f) : EvE K (tCall (spP m n K) [] E (tCons (tVar i) t)) (dCallP m n i f) := by
  intro c O H σ en Q hc rs h
  unfold dCallP at h
  cases q : en[i]? with
  | none => rw [q] at h; exact h.elim
  | some s =>
    rw [q] at h
    cases s with
    | no => exact h.elim
    | sh _ => exact h.elim
    | ow pd0 =>
      obtain ⟨p, hp, _⟩ := rs.ow i pd0 q
      refine ⟨.ref p, hp, ea c O H σ en _ hc rs (Po.bind h fun d1 en1 v1 H1 _ rs1 k1 r1 h1 => ?_)⟩
      unfold callP at h1
      by_cases hn : d1.length + 1 = n
      · rw [if_pos hn] at h1
        cases q1 : en1[i]? with
        | none => rw [q1] at h1; exact h1.elim
        | some s1 =>
          rw [q1] at h1
          cases s1 with
          | no => exact h1.elim
          | sh _ => exact h1.elim
          | ow pd =>
            obtain ⟨p', hp', ho, hO, _⟩ := rs1.ow i pd q1
            rw [hp] at hp'
            cases hp'
            rw [hc] at ho r1
            refine ⟨by simp [r1.length, hn], p, v1, pd, d1, O, by simp, hO, ho, r1, rs1.live, ?_⟩
            have h1' : PoE c O H1 σ en1 ((m pd d1).bind fun p => .ok (p.1, en1.set i (.ow p.2))) Q := h1
            cases q2 : m pd d1 with
            | exc _ _ => rw [q2] at h1'; exact h1'.elim
            | bad => rw [q2] at h1'; exact h1'.elim
            | ok r2 =>
              obtain ⟨d2, pd2⟩ := r2
              rw [q2] at h1'
              intro v H' kp hw hr
              rw [← hc] at hw hr
              refine h1' v H' (rs1.turn q1 hp kp hw) ⟨kp.mono fun b hb => ?_, fun j d e => ?_, fun a x fr ha => kp a x (fun z => ?_) ha⟩ hr
              · have e : b = p := by simpa using hb
                rw [e]; exact hO
              · rcases set_some e with ⟨rfl, _, _⟩ | ⟨_, e'⟩
                · exact ⟨pd, q1⟩
                · exact ⟨d, e'⟩
              · have e : a = p := by simpa using z
                exact fr i pd q1 (by rw [e]; exact hp)
      · rw [if_neg hn] at h1; exact h1.elim
theorem de_callP {CX : CXT} {k : Nat} {f : Addr} {fd : FuncData} {ps : List Str} {m : PyData → List PyData → Res (PyData × PyData)} {n : Nat} {E : XK} {x y : Str} {p p2 : Pos} {g : An} (i : Nat) (F : FnOk X.prog X.w X.K X.mg X.base CX k f fd ps (spP m n X.K)) (hr : Room k X.A) (hg : Gl X x) (hm : X.mg x = some (.ref f)) (hk : PySem.W.keepIn X.K (.ref f) = true) (hb : Binds X.K fd ps []) (hx : Passes CX X E)
    (ha : DA X es g) (hN : X.N[i]? = some y := by rfl) (hv : Vis X.env.scope y := by first | exact Or.inl rfl | exact Or.inr (Or.inl rfl) | exact Or.inr (Or.inr rfl))
    (hs : starEach (.Name y p2 :: es) X.env = (false, eval (.Name y p2) X.env) :: starEach es X.env := by rfl) (hpl : (backTo pos (starEach es X.env)).any (·.1) = false := by rfl) (hd : (x == ("__debug__" : Str)) = false := by decide) (hdy : (y == ("__debug__" : Str)) = false := by decide)
    (hcd : (y == ("__classdict__" : Str)) = false := by decide) : DE X (.Call (.Name x p) (.Name y p2 :: es) [] pos) (dCallP m n i g) := by
  obtain ⟨t, pa, ev⟩ := ha
  exact ⟨_, pe_call F hr hg hm hk hb .nil hx (pa_cons (pe_var hN hv hdy hcd) pa hs) hd hs hpl, ev_callP ev⟩
end
end EL
namespace EL
open PySem PySem.Spec PyProof.Rows L2

/-! ### statements -/
inductive Fl where
  | nx | bk | ct
  | rt (d : PyData)
abbrev Sn := En → Res (Fl × En)
/-- on from (O, H) to (O', H') -/
structure Stp (O : List Addr) (H : Hp) (O' : List Addr) (H' : Hp) : Prop where
  keep : Keep O H H'
  grow : ∀ a ∈ O', a ∈ O ∨ H a = none
theorem Stp.refl {O : List Addr} {H : Hp} : Stp O H O H := ⟨.refl _, fun _ h => .inl h⟩
theorem Stp.of {O : List Addr} {H H' : Hp} (k : Keep O H H') : Stp O H O H' := ⟨k, fun _ h => .inl h⟩
theorem Stp.trans {O O1 O2 : List Addr} {H H1 H2 : Hp} (a : Stp O H O1 H1) (b : Stp O1 H1 O2 H2) : Stp O H O2 H2 := by
  refine ⟨fun x y n e => ?_, fun x hx => ?_⟩
  · refine b.keep x y (fun z => ?_) (a.keep x y n e)
    rcases a.grow x z with h | h
    · exact n h
    · rw [h] at e; cases e
  · rcases b.grow x hx with h | h
    · exact a.grow x h
    · by_cases hO : x ∈ O
      · exact .inl hO
      · refine .inr ?_
        cases q : H x with
        | none => rfl
        | some y => rw [a.keep x y hO q] at h; cases h
def PoS (c : Fc) (O : List Addr) (H : Hp) (r : Res (Fl × En)) (D : Ends) : Prop :=
  match r with
  | .ok (.nx, en') => ∀ σ' H' O', RS c O' H' σ' en' → Stp O H O' H' → D.nx σ' H'
  | .ok (.bk, en') => ∀ σ' H' O', RS c O' H' σ' en' → Stp O H O' H' → D.bk σ' H'
  | .ok (.ct, en') => ∀ σ' H' O', RS c O' H' σ' en' → Stp O H O' H' → D.ct σ' H'
  | .ok (.rt d, en') => ∀ v σ' H' O', RS c O' H' σ' en' → Stp O H O' H' → Rp c.K O' H' v d → D.rt v H'
  | _ => False
def EvS (K : PySem.W.Frag) (t : TS) (f : Sn) : Prop := ∀ (c : Fc) (O : List Addr) (H : Hp) (σ : L2.St) (en : En) (D : Ends), c.K = K → RS c O H σ en → PoS c O H (f en) D → t D σ H
def DS (X : Cx) (st : Stmt) (f : Sn) : Prop := ∃ t, PS X st t ∧ EvS X.K t f
def DSs (X : Cx) (st : List Stmt) (f : Sn) : Prop := ∃ t, PSs X st t ∧ EvS X.K t f

def sNext : Sn := fun en => .ok (.nx, en)
def seqK (g : Sn) : Fl → Sn
  | .nx => g
  | .bk => fun en => .ok (.bk, en)
  | .ct => fun en => .ok (.ct, en)
  | .rt d => fun en => .ok (.rt d, en)
def sSeq (f g : Sn) : Sn := bnd f (seqK g)
def sSet (i : Nat) (f : Dn) : Sn := bnd f fun d en => .ok (.nx, en.set i (.sh d))
def sRet (f : Dn) : Sn := bnd f fun d en => .ok (.rt d, en)
def sDrop (f : Dn) : Sn := bnd f fun _ en => .ok (.nx, en)
def sIf (c : Tn) (f g : Sn) : Sn := bnd c fun b => if b = true then f else g
/-- the slot i no longer changes -/
def sFrz (i : Nat) (f : Sn) : Sn := fun en => match en[i]? with
  | some (.ow d) => f (en.set i (.sh d))
  | _ => .bad

theorem PoS.later {c : Fc} {O O1 : List Addr} {H H1 : Hp} {r : Res (Fl × En)} {D : Ends} (h : PoS c O H r D) (s : Stp O H O1 H1) : PoS c O1 H1 r D := by
  cases r with
  | ok p =>
    obtain ⟨f, en⟩ := p
    cases f with
    | nx => exact fun σ' H' O' rs st => h σ' H' O' rs (s.trans st)
    | bk => exact fun σ' H' O' rs st => h σ' H' O' rs (s.trans st)
    | ct => exact fun σ' H' O' rs st => h σ' H' O' rs (s.trans st)
    | rt d => exact fun v σ' H' O' rs st => h v σ' H' O' rs (s.trans st)
  | exc _ _ => exact h
  | bad => exact h
/-- behind an expression -/
theorem Po.bindS {α β : Type} {c : Fc} {O : List Addr} {H : Hp} {σ : L2.St} {R : Hp → β → α → Prop} {f : En → Res (α × En)} {en : En} {k : α → Sn} {D : Ends} {Q' : β → Hp → Prop}
    (h : PoS c O H (bnd f k en) D) (hk : ∀ d en' v H1, f en = .ok (d, en') → RS c O H1 σ en' → Go σ O H en H1 en' → R H1 v d → PoS c O H1 (k d en') D → Q' v H1) : Po c O H σ en R (f en) Q' := by
  unfold bnd at h
  generalize hr : f en = r at h hk
  cases r with
  | ok p =>
    obtain ⟨d, en'⟩ := p
    intro v H1 rs go hr
    have h' : PoS c O H (k d en') D := h
    exact hk d en' v H1 rfl rs go hr (h'.later (.of go.keep))
  | exc _ _ => exact h
  | bad => exact h
/-- behind a statement -/
theorem PoS.bind {c : Fc} {O : List Addr} {H : Hp} {f g : Sn} {en : En} {D : Ends} {N : L2.St → Hp → Prop} (h : PoS c O H (sSeq f g en) D) (hN : ∀ σ' H' O' en', RS c O' H' σ' en' → Stp O H O' H' → PoS c O' H' (g en') D → N σ' H') : PoS c O H (f en) { D with nx := N } := by
  unfold sSeq bnd at h
  generalize f en = r at h
  cases r with
  | ok p =>
    obtain ⟨fl, en'⟩ := p
    cases fl with
    | nx => exact fun σ' H' O' rs st => hN σ' H' O' en' rs st (PoS.later (show PoS c O H (g en') D from h) st)
    | bk => exact h
    | ct => exact h
    | rt d => exact h
  | exc _ _ => exact h
  | bad => exact h

section
variable {X : Cx} {pos : Pos} {a b e : Expr} {es : List Expr} {st : Stmt} {sts : List Stmt}
theorem dss_nil : DSs X [] sNext := ⟨_, pss_nil, fun c O H σ en D hc rs h => h σ H O rs .refl⟩
theorem dss_one {f : Sn} (h : DS X st f) : DSs X [st] f := let ⟨t, p, e⟩ := h; ⟨t, pss_one p, e⟩
theorem dss_cons {f g : Sn} (h : DS X st f) (h2 : DSs X sts g) : DSs X (st :: sts) (sSeq f g) := by
  obtain ⟨t, p, ev⟩ := h
  obtain ⟨t2, p2, ev2⟩ := h2
  refine ⟨_, pss_cons p p2, ?_⟩
  intro c O H σ en D hc rs hp
  exact ev c O H σ en _ hc rs (hp.bind fun σ' H' O' en' rs' st' hp' => ev2 c O' H' σ' en' D hc rs' hp')
theorem dss_frz {f : Sn} (i : Nat) (h : DSs X sts f) (hi : i ≠ 0 := by decide) : DSs X sts (sFrz i f) := by
  obtain ⟨t, p, ev⟩ := h
  refine ⟨t, p, ?_⟩
  intro c O H σ en D hc rs hp
  unfold sFrz at hp
  cases q : en[i]? with
  | none => rw [q] at hp; exact hp.elim
  | some s =>
    rw [q] at hp
    cases s with
    | no => exact hp.elim
    | sh _ => exact hp.elim
    | ow d =>
      obtain ⟨u, h1, h2, h3, h4⟩ := rs.ow i d q
      rcases h4 with ⟨_, z⟩ | ⟨_, hn, _⟩
      · exact (hi z).elim
      · obtain ⟨rs', _⟩ := rs.freeze q h1 hn
        exact ev c _ H σ _ D hc rs' (hp.later ⟨.refl _, fun x hx => .inl (List.mem_filter.mp hx).1⟩)

theorem ds_set {x : Str} {p : Pos} {f : Dn} (i : Nat) (he : DE X e f) (hN : X.N.Nodup) (hi : X.N[i]? = some x := by rfl) (hx : Loc X.env.scope x := by first | exact Or.inl rfl | exact Or.inr rfl) (hs : swapsWith e (some (.Name x p)) pos.line X.env = pure false := by rfl)
    (hf : X.fn x = true ∨ X.env.scope.names.lookup x = some .local := by first | exact .inl rfl | exact .inr rfl) : DS X (.Assign [.Name x p] e pos) (sSet i f) := by
  obtain ⟨t, pe, ev⟩ := he
  refine ⟨_, ps_set hN hi hx pe hs hf, ?_⟩
  intro c O H σ en D hc rs h
  refine ev c O H σ en _ hc rs (Po.bindS h fun d1 en1 v1 H1 _ rs1 k1 r1 h1 => ?_)
  exact h1 _ H1 O (rs1.set_sh r1) .refl
theorem ds_ret {f : Dn} (he : DE X e f) : DS X (.Return (some e) pos) (sRet f) := by
  obtain ⟨t, pe, ev⟩ := he
  refine ⟨_, ps_ret pe, ?_⟩
  intro c O H σ en D hc rs h
  refine ev c O H σ en _ hc rs (Po.bindS h fun d1 en1 v1 H1 _ rs1 k1 r1 h1 => ?_)
  exact h1 v1 σ H1 O rs1 .refl r1
def sRetN : Sn := fun en => .ok (.rt .none, en)
theorem ds_retN : DS X (.Return none pos) sRetN := ⟨_, ps_retN, fun c O H σ en D hc rs h => h .non σ H O rs .refl .non⟩
theorem ds_expr {f : Dn} (he : DE X e f) (hs : swapsWith e none pos.line X.env = pure false := by rfl) : DS X (.Expr e pos) (sDrop f) := by
  obtain ⟨t, pe, ev⟩ := he
  refine ⟨_, ps_expr pe hs, ?_⟩
  intro c O H σ en D hc rs h
  refine ev c O H σ en _ hc rs (Po.bindS h fun d1 en1 v1 H1 _ rs1 k1 r1 h1 => ?_)
  exact h1 _ H1 O rs1 .refl
theorem ds_pass : DS X (.Pass pos) sNext := ⟨_, ps_pass, fun c O H σ en D hc rs h => h σ H O rs .refl⟩
def sBreak : Sn := fun en => .ok (.bk, en)
def sCont : Sn := fun en => .ok (.ct, en)
theorem ds_break : DS X (.Break pos) sBreak := ⟨_, ps_break, fun c O H σ en D hc rs h => h σ H O rs .refl⟩
theorem ds_continue : DS X (.Continue pos) sCont := ⟨_, ps_continue, fun c O H σ en D hc rs h => h σ H O rs .refl⟩
theorem ds_if {cnd : Expr} {l1 l2 : List Stmt} {k : Tn} {f g : Sn} (h : DT X cnd k) (h1 : DSs X l1 f) (h2 : DSs X l2 g) : DS X (.If cnd l1 l2 pos) (sIf k f g) := by
  obtain ⟨t, p, ev⟩ := h
  obtain ⟨t1, p1, ev1⟩ := h1
  obtain ⟨t2, p2, ev2⟩ := h2
  refine ⟨_, ps_if p p1 p2, ?_⟩
  intro c O H σ en D hc rs hp
  refine ev c O H σ en _ hc rs (Po.bindS hp fun d1 en1 v1 H1 _ rs1 k1 r1 h1 => ?_)
  subst r1
  cases v1 with
  | true => rw [if_pos rfl]; exact ev1 c O H1 σ en1 _ hc rs1 h1
  | false => rw [if_neg Bool.false_ne_true]; exact ev2 c O H1 σ en1 _ hc rs1 h1
/-- what the proof never comes to -/
def sNever : Sn := fun _ => .bad
theorem ds_never : DS X st sNever := ⟨_, ps_never, fun c O H σ en D hc rs h => h.elim⟩

/-! ### new objects that may change -/
def EvF (K : PySem.W.Frag) (t : TE) (f : Dn) : Prop := ∀ (c : Fc) (O : List Addr) (H : Hp) (σ : L2.St) (en : En) (Q : V → Hp → Prop), c.K = K → RS c O H σ en →
  (match f en with
    | .ok (d, en') => ∀ p H0 H', H0 p = none → RS c O H0 σ en → Keep O H H0 → RS c (p :: O) H' σ en' → Go σ O H en H' en' → OwR c.K (p :: O) H' p d → Q (.ref p) H'
    | _ => False) → t σ H Q
def DF (X : Cx) (e : Expr) (f : Dn) : Prop := ∃ t, PE X e t ∧ EvF X.K t f
def sSetO (i : Nat) (f : Dn) : Sn := bnd f fun d en => .ok (.nx, en.set i (.ow d))
theorem ds_setO {x : Str} {p : Pos} {f : Dn} (i : Nat) (he : DF X e f) (hN : X.N.Nodup) (h0 : i ≠ 0 := by decide) (hi : X.N[i]? = some x := by rfl) (hx : Loc X.env.scope x := by first | exact Or.inl rfl | exact Or.inr rfl) (hs : swapsWith e (some (.Name x p)) pos.line X.env = pure false := by rfl)
    (hf : X.fn x = true ∨ X.env.scope.names.lookup x = some .local := by first | exact .inl rfl | exact .inr rfl) : DS X (.Assign [.Name x p] e pos) (sSetO i f) := by
  obtain ⟨t, pe, ev⟩ := he
  refine ⟨_, ps_set hN hi hx pe hs hf, ?_⟩
  intro c O H σ en D hc rs h
  refine ev c O H σ en _ hc rs ?_
  unfold sSetO bnd at h
  generalize hr : f en = r at h
  cases r with
  | ok q =>
    obtain ⟨d, en'⟩ := q
    intro p H0 H' hp0 rs0 k0 rs1 g1 ow
    have hH : H p = none := by
      cases q : H p with
      | none => rfl
      | some x => rw [k0 p x (rs0.newp hp0).1 q] at hp0; cases hp0
    exact h _ H' (p :: O) (RS.set_ow h0 rs0 hp0 rs1 g1.shp ow) ⟨g1.keep, fun a ha => (List.mem_cons.mp ha).elim (fun e => .inr (by rw [e]; exact hH)) .inl⟩
  | exc _ _ => exact h
  | bad => exact h
theorem df_lst {f : An} (h : DA X es f) : DF X (.List es pos) (dApp gLst f) := by
  obtain ⟨t, p, ev⟩ := h
  refine ⟨_, pe_lst p, ?_⟩
  intro c O H σ en Q hc rs hp
  refine ev c O H σ en _ hc rs ?_
  unfold dApp bnd at hp
  generalize hr : f en = r at hp
  cases r with
  | exc _ _ => exact hp
  | bad => exact hp
  | ok q =>
    obtain ⟨ds, en1⟩ := q
    intro v1 H1 rs1 g1 r1
    have hp' : (match (lft (gLst ds) en1 : Res (PyData × En)) with
      | .ok (d, en') => ∀ p H0 H', H0 p = none → RS c O H0 σ en → Keep O H H0 → RS c (p :: O) H' σ en' → Go σ O H en H' en' → OwR c.K (p :: O) H' p d → Q (.ref p) H'
      | _ => False) := hp
    unfold gLst at hp'
    by_cases hz : ds.length ≤ sizeLine
    · rw [if_pos hz] at hp'
      refine ⟨by rw [r1.length]; exact hz, fun q hq => ?_⟩
      have hH : H q = none := by
        cases e : H q with
        | none => rfl
        | some x => rw [g1.keep q x (rs1.newp hq).1 e] at hq; cases hq
      exact hp' q H _ hH rs (.refl _) (rs1.lay hq) (g1.trans (.same (same_new hq))) ⟨v1, upd_same, by rw [r1.length]; exact hz, (r1.more hq).keep (keep_new hq)⟩
    · rw [if_neg hz] at hp'; exact hp'.elim
end
end EL
namespace EL
open PySem PySem.Spec PyProof.Rows L2

/-! ### data over statements -/
theorem stp_out {O O' : List Addr} {H H' : Hp} {a : Addr} {x : HO} (s : Stp O H O' H') (n : a ∉ O) (h : H a = some x) : a ∉ O' ∧ H' a = some x :=
  ⟨fun z => (s.grow a z).elim n (fun e => by rw [e] at h; cases h), s.keep a x n h⟩
section
variable {K : PySem.W.Frag} {O O' : List Addr} {H H' : Hp}
mutual
theorem Rp.stp (s : Stp O H O' H') : ∀ {v : V} {d : PyData}, Rp K O H v d → Rp K O' H' v d
  | _, _, .non => .non
  | _, _, .bl b => .bl b
  | _, _, .int i => .int i
  | _, _, .str x z => .str x z
  | _, _, .lst r n z a => .lst (stp_out s n r).2 (stp_out s n r).1 z (RpA.stp s a)
  | _, _, .tup r n z a => .tup (stp_out s n r).2 (stp_out s n r).1 z (RpA.stp s a)
  | _, _, .tupK r z a => .tupK r z (RpA.stp s a)
  | _, _, .dic r n z a => .dic (stp_out s n r).2 (stp_out s n r).1 z (RpD.stp s a)
theorem RpA.stp (s : Stp O H O' H') : ∀ {vs : List V} {ds : List PyData}, RpA K O H vs ds → RpA K O' H' vs ds
  | _, _, .nil => .nil
  | _, _, .cons a b => .cons (Rp.stp s a) (RpA.stp s b)
theorem RpD.stp (s : Stp O H O' H') : ∀ {kvs : List (Key × V)} {ds : List (PyData × PyData)}, RpD K O H kvs ds → RpD K O' H' kvs ds
  | _, _, .nil => .nil
  | _, _, .cons a b => .cons (Rp.stp s a) (RpD.stp s b)
end
end

/-! ### what is walked -/
def ItD (K : PySem.W.Frag) (O : List Addr) (H0 : Hp) (J : It) (ds : List PyData) : Prop := ∀ (i : Nat) (O' : List Addr) (H : Hp), Stp O H0 O' H → (∀ a ∈ O', H a ≠ none) →
  (∀ d, ds[i]? = some d → J.go i H ∧ ∀ x H', J.yld i H x H' → Same H H' ∧ Rp K O' H' x d) ∧ (i = ds.length → J.stop i H)
def EvI (K : PySem.W.Frag) (wi : TI) (f : An) : Prop := ∀ (c : Fc) (O : List Addr) (H : Hp) (σ : L2.St) (en : En) (R : It → Hp → Prop), c.K = K → RS c O H σ en →
  (match f en with
    | .ok (ds, en') => ∀ J H', RS c O H' σ en' → Go σ O H en H' en' → ds.length ≤ sizeLine → ItD K O H' J ds → R J H'
    | _ => False) → wi σ H R
def DI (X : Cx) (tg iter : Expr) (f : An) : Prop := ∃ wi, PI X tg iter wi ∧ EvI X.K wi f
/-- the parts of data that is walked -/
def parts : PyData → Res (List PyData)
  | .list ds => .ok ds
  | .tuple ds => .ok ds
  | .str x => .ok (x.cps.toList.map fun c => .str ⟨#[c]⟩)
  | _ => .bad
def iOf (f : Dn) : An := bnd f fun d => lft (parts d)
theorem pi_or {X : Cx} {tg it : Expr} {w1 w2 : TI} (h1 : PI X tg it w1) (h2 : PI X tg it w2) : PI X tg it (fun σ H R => w1 σ H R ∨ w2 σ H R) := ⟨fun pins s σ H R I h => h.elim (h1.run pins s σ H R I) (h2.run pins s σ H R I)⟩
section
variable {X : Cx} {pos : Pos} {a b e tg : Expr} {es : List Expr} {st : Stmt} {sts : List Stmt}
theorem it_list {K : PySem.W.Frag} {O : List Addr} {H : Hp} {a : Addr} {xs : List V} {ds : List PyData} (h : H a = some (.lst xs)) (n : a ∉ O) (r : RpA K O H xs ds) : ItD K O H (Itl K a) ds := by
  intro i O' H1 s l
  have e := (stp_out s n h).2
  have q : SqL K H1 a xs := .inl (.inl e)
  refine ⟨fun d hd => ?_, fun hi => ⟨xs, q, by rw [r.length, hi]; exact Nat.le_refl _⟩⟩
  obtain ⟨v, h1, h2⟩ := r.getD hd
  refine ⟨⟨xs, v, q, h1⟩, fun x H' y => ?_⟩
  obtain ⟨e1, y⟩ := y
  subst e1
  have := y xs q
  rw [h1] at this
  cases this
  exact ⟨Same.refl _, h2.stp s⟩
theorem it_tup {K : PySem.W.Frag} {O : List Addr} {H : Hp} {a : Addr} {xs : List V} {ds : List PyData} (h : ∀ O' H', Stp O H O' H' → SqT K H' a xs) (r : RpA K O H xs ds) (inj : ∀ O' H' ys, Stp O H O' H' → SqT K H' a ys → True) : ItD K O H (Itt K a) ds := by
  intro i O' H1 s l
  have q : SqT K H1 a xs := h O' H1 s
  refine ⟨fun d hd => ?_, fun hi => ⟨xs, q, by rw [r.length, hi]; exact Nat.le_refl _⟩⟩
  obtain ⟨v, h1, h2⟩ := r.getD hd
  refine ⟨⟨xs, v, q, h1⟩, fun x H' y => ?_⟩
  obtain ⟨e1, y⟩ := y
  subst e1
  have := y xs q
  rw [h1] at this
  cases this
  exact ⟨Same.refl _, h2.stp s⟩
theorem Rp.tupS {K : PySem.W.Frag} {O : List Addr} {H : Hp} {v : V} {ds : List PyData} (h : Rp K O H v (.tuple ds)) : ∃ a xs, v = .ref a ∧ (∀ O' H', Stp O H O' H' → SqT K H' a xs) ∧ xs.length ≤ sizeLine ∧ RpA K O H xs ds := by
  cases h with
  | tup h1 h2 h3 h4 => exact ⟨_, _, rfl, fun O' H' s => .inl (.inl (stp_out s h2 h1).2), h3, h4⟩
  | tupK h1 h3 h4 => exact ⟨_, _, rfl, fun O' H' s => h1 H', h3, h4⟩
theorem di_of {f : Dn} (h : DE X e f) : DI X tg e (iOf f) := by
  obtain ⟨t, p, ev⟩ := h
  refine ⟨_, pi_or (pi_list p) (pi_or (pi_tup p) (pi_str p)), ?_⟩
  intro c O H σ en R hc rs hp
  unfold iOf bnd at hp
  generalize hr : f en = r at hp
  cases r with
  | exc _ _ => exact hp.elim
  | bad => exact hp.elim
  | ok q =>
    obtain ⟨d, en1⟩ := q
    have hp' : (match (lft (parts d) en1 : Res (List PyData × En)) with
      | .ok (ds, en') => ∀ J H', RS c O H' σ en' → Go σ O H en H' en' → ds.length ≤ sizeLine → ItD X.K O H' J ds → R J H'
      | _ => False) := hp
    cases d with
    | list ds =>
      refine .inl (ev c O H σ en _ hc rs ?_)
      rw [hr]
      intro v H' rs' go rp
      rw [hc] at rp
      obtain ⟨a, xs, rfl, h1, h2, h3, h4⟩ := rp.lstI
      exact ⟨a, rfl, ⟨xs, .inl (.inl h1)⟩, hp' _ H' rs' go (by rw [← h4.length]; exact h3) (it_list h1 h2 h4)⟩
    | tuple ds =>
      refine .inr (.inl (ev c O H σ en _ hc rs ?_))
      rw [hr]
      intro v H' rs' go rp
      rw [hc] at rp
      obtain ⟨a, xs, rfl, h1, h3, h4⟩ := rp.tupS
      exact ⟨a, rfl, ⟨xs, h1 _ _ .refl⟩, hp' _ H' rs' go (by rw [← h4.length]; exact h3) (it_tup h1 h4 fun _ _ _ _ _ => trivial)⟩
    | str x =>
      refine .inr (.inr (ev c O H σ en _ hc rs ?_))
      rw [hr]
      intro v H' rs' go rp
      obtain ⟨rfl, z1⟩ := rp.strI
      refine ⟨x, rfl, hp' _ H' rs' go (by rw [List.length_map, Array.length_toList]; exact z1) ?_⟩
      intro i O' H1 s l
      refine ⟨fun d hd => ?_, fun hi => ?_⟩
      · rw [List.getElem?_map] at hd
        cases hq : x.cps.toList[i]? with
        | none => rw [hq] at hd; cases hd
        | some ch =>
          rw [hq] at hd
          cases hd
          have hx : x.cps[i]? = some ch := by rw [← Array.getElem?_toList]; exact hq
          refine ⟨(Array.getElem?_eq_some_iff.mp hx).1, fun v H' y => ?_⟩
          obtain ⟨e1, cc, e2, e3⟩ := y
          subst e1
          rw [hx] at e2
          cases e2
          subst e3
          exact ⟨Same.refl _, .str _ (by show 1 ≤ sizeLine; decide)⟩
      · show x.cps.size ≤ i
        rw [hi, List.length_map, Array.length_toList]
        exact Nat.le_refl _
    | _ => exact hp'.elim

/-! ### targets -/
abbrev Gn := PyData → En → Res En
/-- σ' is σ but for these slots -/
def But (vs : List Nat) (σ σ' : L2.St) : Prop := σ'.length = σ.length ∧ ∀ j, j ∉ vs → σ'[j]? = σ[j]?
def EvG (K : PySem.W.Frag) (vs : List Nat) (t : TG) (g : Gn) : Prop := ∀ (c : Fc) (O : List Addr) (H : Hp) (σ : L2.St) (en : En) (v : V) (d : PyData) (Q : L2.St → Hp → Prop), c.K = K → RS c O H σ en → Rp c.K O H v d →
  (match g d en with
    | .ok en' => ∀ σ', RS c O H σ' en' → But vs σ σ' → Shp en en' → Q σ' H
    | _ => False) → t v σ H Q
def DG (X : Cx) (vs : List Nat) (tg : Expr) (g : Gn) : Prop := ∃ t, PG X tg t ∧ EvG X.K vs t g
def gNm (i : Nat) : Gn := fun d en => .ok (en.set i (.sh d))
theorem But.refl {vs : List Nat} {σ : L2.St} : But vs σ σ := ⟨rfl, fun _ _ => rfl⟩
theorem But.trans {vs : List Nat} {a b c : L2.St} (x : But vs a b) (y : But vs b c) : But vs a c := ⟨y.1.trans x.1, fun j h => (y.2 j h).trans (x.2 j h)⟩
theorem shp_sh {en : En} {i : Nat} {d : PyData} : Shp en (en.set i (.sh d)) := fun j e h => by
  rcases set_some h with ⟨_, e1, _⟩ | ⟨_, e1⟩
  · cases e1
  · exact ⟨e, e1⟩
theorem dg_name {x : Str} {vs : List Nat} (i : Nat) (hN : X.N.Nodup) (hv : i ∈ vs := by decide) (hi : X.N[i]? = some x := by rfl) (hx : Loc X.env.scope x := by first | exact Or.inl rfl | exact Or.inr rfl) (hf : X.fn x = true ∨ X.env.scope.names.lookup x = some .local := by first | exact .inl rfl | exact .inr rfl) : DG X vs (.Name x pos) (gNm i) := by
  refine ⟨_, pg_name hN hi hx hf, ?_⟩
  intro c O H σ en v d Q hc rs rp h
  refine h _ (rs.set_sh rp) ⟨by simp, fun j hj => ?_⟩ shp_sh
  rw [List.getElem?_set_ne (fun e => hj (by rw [← e]; exact hv))]
def DGs (X : Cx) (vs : List Nat) (ts : List Expr) (g : List PyData → En → Res En) : Prop := ∃ t, PGs X ts t ∧ ∀ (c : Fc) (O : List Addr) (H : Hp) (σ : L2.St) (en : En) (us : List V) (ds : List PyData) (Q : L2.St → Hp → Prop), c.K = X.K → RS c O H σ en → RpA c.K O H us ds →
  (match g ds en with
    | .ok en' => ∀ σ', RS c O H σ' en' → But vs σ σ' → Shp en en' → Q σ' H
    | _ => False) → t us σ H Q
def gNl : List PyData → En → Res En
  | [], en => .ok en
  | _ :: _, _ => .bad
def gCn (g : Gn) (r : List PyData → En → Res En) : List PyData → En → Res En
  | [], _ => .bad
  | d :: ds, en => (g d en).bind (r ds)
theorem dgs_nil {vs : List Nat} : DGs X vs [] gNl := by
  refine ⟨_, pgs_nil, ?_⟩
  intro c O H σ en us ds Q hc rs ra h
  cases ra with
  | nil => exact ⟨rfl, h σ rs .refl (.refl _)⟩
  | cons _ _ => exact h.elim
theorem dgs_cons {vs : List Nat} {g : Gn} {r : List PyData → En → Res En} (h1 : DG X vs e g) (h2 : DGs X vs es r) (hs : (assignEach (e :: es) X.env).map (·.2) = assign e X.env :: (assignEach es X.env).map (·.2) := by rfl) : DGs X vs (e :: es) (gCn g r) := by
  obtain ⟨t1, p1, ev1⟩ := h1
  obtain ⟨t2, p2, ev2⟩ := h2
  refine ⟨_, pgs_cons p1 p2 hs, ?_⟩
  intro c O H σ en us ds Q hc rs ra h
  cases ra with
  | nil => exact h.elim
  | @cons v vs' d ds' rv rt =>
    refine ⟨v, vs', rfl, ev1 c O H σ en v d _ hc rs rv ?_⟩
    have h' : (match (g d en).bind (r ds') with
      | .ok en' => ∀ σ', RS c O H σ' en' → But vs σ σ' → Shp en en' → Q σ' H
      | _ => False) := h
    cases q : g d en with
    | exc _ _ => rw [q] at h'; exact h'
    | bad => rw [q] at h'; exact h'
    | ok en1 =>
      rw [q] at h'
      have h2 : (match r ds' en1 with
        | .ok en' => ∀ σ', RS c O H σ' en' → But vs σ σ' → Shp en en' → Q σ' H
        | _ => False) := h'
      intro σ1 rs1 b1 s1
      refine ev2 c O H σ1 en1 vs' ds' _ hc rs1 rt ?_
      cases q2 : r ds' en1 with
      | exc _ _ => rw [q2] at h2; exact h2
      | bad => rw [q2] at h2; exact h2
      | ok en2 =>
        rw [q2] at h2
        exact fun σ2 rs2 b2 s2 => h2 σ2 rs2 (b1.trans b2) (s1.trans s2)
def gTp (n : Nat) (r : List PyData → En → Res En) : Gn := fun d en => match d with
  | .tuple ds => if ds.length = n then r ds en else .bad
  | _ => .bad
theorem dg_tup {vs : List Nat} {k n : Nat} {r : List PyData → En → Res En} (hc : X.calm = true) (h : DGs X vs es r) (hn : (assignEach es X.env).length = n := by rfl) (hst : (assignEach es X.env).findIdx? (·.1) = none := by rfl) : DG X vs (.Tuple es k pos) (gTp n r) := by
  obtain ⟨t, p, ev⟩ := h
  refine ⟨_, L2.pg_tup hc p hn hst, ?_⟩
  intro c O H σ en v d Q hK rs rp hq
  cases d with
  | tuple ds =>
    obtain ⟨a, xs, rfl, h1, _, h4⟩ := rp.tupI
    simp only [gTp] at hq
    by_cases hl : ds.length = n
    · rw [if_pos hl] at hq
      rw [hK] at h1
      exact ⟨a, xs, rfl, h1, by rw [h4.length]; exact hl, ev c O H σ en xs ds Q hK rs h4 hq⟩
    · rw [if_neg hl] at hq; exact hq.elim
  | _ => exact hq.elim
def sAsg (f : Dn) (g : Gn) : Sn := bnd f fun d en => (g d en).bind fun en' => .ok (.nx, en')
theorem ds_asg {vs : List Nat} {f : Dn} {g : Gn} (he : DE X e f) (hg : DG X vs tg g) (hs : swapsWithSole [tg] e pos.line X.env = pure false := by rfl) (hw : swappedStores [tg] e X.env = pure none := by rfl)
    (h1 : (assignEach [tg] X.env).map (·.2) = [assign tg X.env] := by rfl) : DS X (.Assign [tg] e pos) (sAsg f g) := by
  obtain ⟨t, p, ev⟩ := he
  obtain ⟨t2, p2, ev2⟩ := hg
  refine ⟨_, ps_asg p p2 hs hw h1, ?_⟩
  intro c O H σ en D hc rs h
  refine ev c O H σ en _ hc rs (Po.bindS h fun d1 en1 v1 H1 _ rs1 k1 r1 h1 => ?_)
  refine ev2 c O H1 σ en1 v1 d1 _ hc rs1 r1 ?_
  cases q : g d1 en1 with
  | exc _ _ => rw [q] at h1; exact h1
  | bad => rw [q] at h1; exact h1
  | ok en2 =>
    rw [q] at h1
    exact fun σ' rs' _ _ => h1 σ' H1 O rs' .refl
end
end EL
namespace EL
open PySem PySem.Spec PyProof.Rows L2

/-! ### for -/
def loopK (k : Sn) : Fl → Sn
  | .nx => k
  | .ct => k
  | .bk => fun en => .ok (.nx, en)
  | .rt d => fun en => .ok (.rt d, en)
def loopF (g : Gn) (body : Sn) : List PyData → Sn
  | [] => sNext
  | d :: ds => fun en => (g d en).bind fun en1 => bnd body (loopK (loopF g body ds)) en1
def sFor (f : An) (g : Gn) (body : Sn) : Sn := bnd f (loopF g body)
theorem drop_cons {α : Type} {l : List α} {i : Nat} {x : α} (h : l[i]? = some x) : l.drop i = x :: l.drop (i + 1) := by
  obtain ⟨hi, e⟩ := List.getElem?_eq_some_iff.mp h
  rw [List.drop_eq_getElem_cons hi, e]
section
variable {X : Cx} {pos : Pos} {a b e tg iter : Expr} {es : List Expr} {st : Stmt} {sts body : List Stmt}
theorem ds_for {vs : List Nat} {f : An} {g : Gn} {fb : Sn} (hp : PassesOwn (model X.prog X.w) X.A X.env X.xe) (hc : X.calm = true) (hi : DI X tg iter f) (hg : DG X vs tg g) (hb : DSs X body fb) (hs : ∀ x, foldedSetIterable iter X.env x = pure x := by intro _; rfl) :
    DS X (.For tg iter body [] pos) (sFor f g fb) := by
  obtain ⟨wi, pi, ei⟩ := hi
  obtain ⟨tg', pg, eg⟩ := hg
  obtain ⟨tb, pb, eb⟩ := hb
  refine ⟨_, ps_for hp hc pi pg pb hs, ?_⟩
  intro c O H σ en D hK rs h
  refine ei c O H σ en _ hK rs ?_
  unfold sFor bnd at h
  generalize hr : f en = r at h
  cases r with
  | exc _ _ => exact h
  | bad => exact h
  | ok q =>
    obtain ⟨ds, en1⟩ := q
    intro J H1 rs1 go1 hz it
    have h1 : PoS c O H1 (loopF g fb ds en1) D := PoS.later (show PoS c O H (loopF g fb ds en1) D from h) (.of go1.keep)
    refine ⟨fun i m σ' H' => m = ds.length - i ∧ i ≤ ds.length ∧ ∃ O' en', RS c O' H' σ' en' ∧ Stp O H1 O' H' ∧ PoS c O' H' (loopF g fb (ds.drop i) en') D, ⟨_, rfl, Nat.zero_le _, O, en1, rs1, .refl, h1⟩, ?_⟩
    rintro i m σ2 H2 ⟨rfl, hi, O2, en2, rs2, st2, h2⟩
    obtain ⟨it1, it2⟩ := it i O2 H2 st2 rs2.live
    by_cases hlt : i < ds.length
    · have hd : ds[i]? = some ds[i] := List.getElem?_eq_getElem hlt
      obtain ⟨go, yl⟩ := it1 _ hd
      rw [drop_cons hd] at h2
      refine .inr ⟨go, fun σ' H' => ∃ O' en', RS c O' H' σ' en' ∧ Stp O H1 O' H' ∧ PoS c O' H' (loopF g fb (ds.drop (i + 1)) en') D, fun σ' H' ⟨O', en', q1, q2, q3⟩ => ⟨ds.length - (i + 1), by omega, rfl, hlt, O', en', q1, q2, q3⟩, fun x H3 y => ?_⟩
      obtain ⟨sm, rp⟩ := yl x H3 y
      rw [← hK] at rp
      have rs3 := rs2.same sm
      have st3 : Stp O H1 O2 H3 := st2.trans (.of (.of_same sm))
      have h3 : PoS c O2 H3 ((g ds[i] en2).bind fun en1 => bnd fb (loopK (loopF g fb (ds.drop (i + 1)))) en1) D := PoS.later h2 (.of (.of_same sm))
      refine eg c O2 H3 σ2 en2 x _ _ hK rs3 rp ?_
      cases q : g ds[i] en2 with
      | exc _ _ => rw [q] at h3; exact h3
      | bad => rw [q] at h3; exact h3
      | ok en4 =>
        rw [q] at h3
        have h4 : PoS c O2 H3 (bnd fb (loopK (loopF g fb (ds.drop (i + 1)))) en4) D := h3
        intro σ4 rs4 b4 s4
        refine eb c O2 H3 σ4 en4 _ hK rs4 ?_
        unfold bnd at h4
        cases q2 : fb en4 with
        | exc _ _ => rw [q2] at h4; exact h4
        | bad => rw [q2] at h4; exact h4
        | ok p5 =>
          obtain ⟨fl, en5⟩ := p5
          rw [q2] at h4
          cases fl with
          | nx => exact fun σ' H' O' rs' st' => ⟨O', en5, rs', st3.trans st', PoS.later (show PoS c O2 H3 (loopF g fb (ds.drop (i + 1)) en5) D from h4) st'⟩
          | ct => exact fun σ' H' O' rs' st' => ⟨O', en5, rs', st3.trans st', PoS.later (show PoS c O2 H3 (loopF g fb (ds.drop (i + 1)) en5) D from h4) st'⟩
          | bk => exact fun σ' H' O' rs' st' => (show PoS c O2 H3 (.ok (.nx, en5)) D from h4) σ' H' O' rs' st'
          | rt d => exact fun v σ' H' O' rs' st' => (show PoS c O2 H3 (.ok (.rt d, en5)) D from h4) v σ' H' O' rs' st'
    · have e : i = ds.length := by omega
      refine .inl ⟨it2 e, ?_⟩
      rw [e, List.drop_length] at h2
      exact h2 σ2 H2 O2 rs2 .refl

/-! ### ranges -/
def gRange1 : List PyData → Res (List PyData)
  | [.int n] => if (decide (-(2 ^ 62) ≤ n) && decide (n < 2 ^ 62) && decide (n.toNat ≤ sizeLine)) = true then .ok ((List.range n.toNat).map fun i => .int (i : Nat)) else .bad
  | _ => .bad
def gRange2 : List PyData → Res (List PyData)
  | [.int a, .int b] => if (decide (-(2 ^ 62) ≤ a) && decide (a < 2 ^ 62) && decide (-(2 ^ 62) ≤ b) && decide (b < 2 ^ 62) && decide ((b - a).toNat ≤ sizeLine)) = true then .ok ((List.range (b - a).toNat).map fun i => .int (a + (i : Nat))) else .bad
  | _ => .bad
def iRange (g : List PyData → Res (List PyData)) (r : An) : An := bnd r fun xs => lft (g xs)
theorem it_range {K : PySem.W.Frag} {O : List Addr} {H : Hp} {lo : Int} {n : Nat} {ds : List PyData} (hd : ds = (List.range n).map fun i => .int (lo + (i : Nat))) : ItD K O H (Itr lo n) ds := by
  subst hd
  intro i O' H1 s l
  refine ⟨fun d hd => ?_, fun hi => ?_⟩
  · rw [List.getElem?_map] at hd
    cases q : (List.range n)[i]? with
    | none => rw [q] at hd; cases hd
    | some j =>
      rw [q] at hd
      have hj := List.getElem?_eq_some_iff.mp q
      obtain ⟨h1, h2⟩ := hj
      rw [List.getElem_range] at h2
      subst h2
      cases hd
      refine ⟨(show i < n by simpa using h1), fun x H' y => ?_⟩
      obtain ⟨e1, e2⟩ := y
      subst e1 e2
      exact ⟨Same.refl _, .int _⟩
  · show n ≤ i
    rw [hi, List.length_map, List.length_range]
    exact Nat.le_refl _
theorem di_range1 {p : Pos} {f : An} (hg : Gl X "range") (hm : X.mg "range" = none) (ha : DA X [a] f) (hs : starEach [a] X.env = [(false, eval a X.env)] := by rfl) : DI X tg (.Call (.Name "range" p) [a] [] pos) (iRange gRange1 f) := by
  obtain ⟨t, pa, ev⟩ := ha
  refine ⟨_, pi_range1 hg hm pa hs, ?_⟩
  intro c O H σ en R hK rs h
  refine ev c O H σ en _ hK rs ?_
  unfold iRange bnd at h
  generalize hr : f en = r at h
  cases r with
  | exc _ _ => exact h
  | bad => exact h
  | ok q =>
    obtain ⟨ds, en1⟩ := q
    intro vs H1 rs1 go1 ra
    have h' : (match (lft (gRange1 ds) en1 : Res (List PyData × En)) with
      | .ok (ds, en') => ∀ J H', RS c O H' σ en' → Go σ O H en H' en' → ds.length ≤ sizeLine → ItD X.K O H' J ds → R J H'
      | _ => False) := h
    cases ra with
    | nil => exact h'.elim
    | @cons v vs d ds rv rt =>
      cases rt with
      | cons _ _ => cases d <;> exact h'.elim
      | nil =>
        cases d with
        | int n =>
          cases rv
          simp only [gRange1] at h'
          by_cases hb : (decide (-(2 ^ 62) ≤ n) && decide (n < 2 ^ 62) && decide (n.toNat ≤ sizeLine)) = true
          · rw [if_pos hb] at h'
            simp only [Bool.and_eq_true, decide_eq_true_eq] at hb
            exact ⟨n, rfl, hb.1.1, hb.1.2, h' _ H1 rs1 go1 (by rw [List.length_map, List.length_range]; exact hb.2) (it_range (by simp))⟩
          · rw [if_neg hb] at h'; exact h'.elim
        | _ => exact h'.elim
theorem di_range2 {p : Pos} {f : An} (hg : Gl X "range") (hm : X.mg "range" = none) (ha : DA X [a, b] f) (hs : starEach [a, b] X.env = [(false, eval a X.env), (false, eval b X.env)] := by rfl) (hs2 : starEach [b] X.env = [(false, eval b X.env)] := by rfl) : DI X tg (.Call (.Name "range" p) [a, b] [] pos) (iRange gRange2 f) := by
  obtain ⟨t, pa, ev⟩ := ha
  refine ⟨_, pi_range2 hg hm pa hs hs2, ?_⟩
  intro c O H σ en R hK rs h
  refine ev c O H σ en _ hK rs ?_
  unfold iRange bnd at h
  generalize hr : f en = r at h
  cases r with
  | exc _ _ => exact h
  | bad => exact h
  | ok q =>
    obtain ⟨ds, en1⟩ := q
    intro vs H1 rs1 go1 ra
    have h' : (match (lft (gRange2 ds) en1 : Res (List PyData × En)) with
      | .ok (ds, en') => ∀ J H', RS c O H' σ en' → Go σ O H en H' en' → ds.length ≤ sizeLine → ItD X.K O H' J ds → R J H'
      | _ => False) := h
    cases ra with
    | nil => exact h'.elim
    | @cons v vs d ds rv rt =>
      cases rt with
      | nil => cases d <;> exact h'.elim
      | @cons v2 vs2 d2 ds2 rv2 rt2 =>
        cases rt2 with
        | cons _ _ => cases d <;> cases d2 <;> exact h'.elim
        | nil =>
          cases d with
          | int i =>
            cases d2 with
            | int j =>
              cases rv
              cases rv2
              simp only [gRange2] at h'
              by_cases hb : (decide (-(2 ^ 62) ≤ i) && decide (i < 2 ^ 62) && decide (-(2 ^ 62) ≤ j) && decide (j < 2 ^ 62) && decide ((j - i).toNat ≤ sizeLine)) = true
              · rw [if_pos hb] at h'
                simp only [Bool.and_eq_true, decide_eq_true_eq] at hb
                exact ⟨i, j, rfl, ⟨hb.1.1.1.1, hb.1.1.1.2, hb.1.1.2, hb.1.2⟩, h' _ H1 rs1 go1 (by rw [List.length_map, List.length_range]; exact hb.2) (it_range rfl)⟩
              · rw [if_neg hb] at h'; exact h'.elim
            | _ => exact h'.elim
          | _ => exact h'.elim

/-! ### comprehensions -/
def wipeE (en : En) : List Nat → En
  | [] => en
  | v :: vs => (wipeE en vs).set v .no
def lcF (g : Gn) (tt : Tn) (te : Dn) (vs : List Nat) : List PyData → List PyData → Dn
  | [], acc, en => .ok (.list acc, en)
  | d :: ds, acc, en => (g d en).bind fun en1 => bnd tt (fun b => if b = true then bnd te fun y en3 => lcF g tt te vs ds (acc ++ [y]) (wipeE en3 vs) else fun en2 => lcF g tt te vs ds acc (wipeE en2 vs)) en1
def dLc (f : An) (g : Gn) (tt : Tn) (te : Dn) (vs : List Nat) : Dn := bnd f fun ds en => lcF g tt te vs ds [] (wipeE en vs)
theorem wipeE_len (en : En) : ∀ vs, (wipeE en vs).length = en.length
  | [] => rfl
  | v :: vs => by unfold wipeE; rw [List.length_set, wipeE_len en vs]
theorem RS.wipe {c : Fc} {O : List Addr} {H : Hp} {σ : L2.St} {en : En} (r : RS c O H σ en) : ∀ vs, RS c O H (L2.wipe σ vs) (wipeE en vs)
  | [] => r
  | v :: vs => (RS.wipe r vs).set_no none
theorem shp_wipe (en : En) : ∀ vs, Shp en (wipeE en vs)
  | [] => .refl _
  | v :: vs => fun j e h => by
    unfold wipeE at h
    rcases set_some h with ⟨_, e1, _⟩ | ⟨_, e1⟩
    · cases e1
    · exact shp_wipe en vs j e e1
theorem wipe_none {σ : L2.St} : ∀ {vs : List Nat} {i : Nat}, i ∈ vs → i < σ.length → (L2.wipe σ vs)[i]? = some none
  | v :: vs, i, h, hl => by
    unfold L2.wipe
    by_cases e : v = i
    · subst e
      rw [List.getElem?_set_self (by rw [wipe_length]; exact hl)]
    · rw [List.getElem?_set_ne e]
      exact wipe_none ((List.mem_cons.mp h).resolve_left (Ne.symm e)) hl
theorem wipe_out {σ : L2.St} : ∀ {vs : List Nat} {i : Nat}, i ∉ vs → (L2.wipe σ vs)[i]? = σ[i]?
  | [], _, _ => rfl
  | v :: vs, i, h => by
    unfold L2.wipe
    rw [List.getElem?_set_ne (fun e => h (by rw [e]; exact List.mem_cons_self))]
    exact wipe_out fun z => h (List.mem_cons_of_mem _ z)
theorem wipe_but {vs : List Nat} {σ σ' : L2.St} (b : But vs (L2.wipe σ vs) σ') : L2.wipe σ' vs = L2.wipe σ vs := by
  have hl : σ'.length = σ.length := by rw [b.1, wipe_length]
  apply List.ext_getElem?
  intro i
  by_cases hi : i ∈ vs
  · by_cases h2 : i < σ.length
    · rw [wipe_none hi h2, wipe_none hi (by rw [hl]; exact h2)]
    · rw [List.getElem?_eq_none (by rw [wipe_length]; omega), List.getElem?_eq_none (by rw [wipe_length]; omega)]
  · rw [wipe_out hi, b.2 i hi]
/-- what holds of the wiped slots holds of them as they were -/
theorem RS.unwipe {c : Fc} {O : List Addr} {H : Hp} {σ : L2.St} {vs : List Nat} {en : En} (r : RS c O H (L2.wipe σ vs) en) : RS c O H σ en where
  len := by have := r.len; rw [wipe_length] at this; exact this
  keep := r.keep
  pin := r.pin
  sub := r.sub
  live := r.live
  sh := fun i d q => by
    obtain ⟨v, h1, h2⟩ := r.sh i d q
    exact ⟨v, (wipe_some h1).1, h2⟩
  ow := fun i d q => by
    obtain ⟨v, h1, h2⟩ := r.ow i d q
    exact ⟨v, (wipe_some h1).1, h2⟩
  dist := fun i j d f a q1 q2 s1 s2 => by
    obtain ⟨a1, h1, _⟩ := r.ow i d q1
    obtain ⟨a2, h2, _⟩ := r.ow j f q2
    have e1 := (wipe_some h1).1
    have e2 := (wipe_some h2).1
    rw [s1] at e1
    rw [s2] at e2
    cases e1
    cases e2
    exact r.dist i j d f a q1 q2 h1 h2
def DTs (X : Cx) (ifs : List Expr) (f : Tn) : Prop := ∃ t, PTs X ifs t ∧ EvT X.K t f
def tYesD : Tn := lft (.ok true)
theorem dts_nil : DTs X [] tYesD := ⟨_, pts_nil, fun c O H σ en Q hc rs h => h true H rs .refl rfl⟩
theorem dts_one {f : Tn} (h : DT X a f) : DTs X [a] f := let ⟨t, p, e⟩ := h; ⟨t, pts_one p, e⟩
end
end EL
namespace EL
open PySem PySem.Spec PyProof.Rows L2

/-! ### one reading for a meaning -/
def tOf (K : PySem.W.Frag) (f : Dn) : TE := fun σ H Q => ∃ (c : Fc) (O : List Addr) (en : En), c.K = K ∧ RS c O H σ en ∧ PoE c O H σ en (f en) Q
def ttOf (K : PySem.W.Frag) (f : Tn) : TT := fun σ H Q => ∃ (c : Fc) (O : List Addr) (en : En), c.K = K ∧ RS c O H σ en ∧ PoT c O H σ en (f en) Q
def tgOf (K : PySem.W.Frag) (vs : List Nat) (g : Gn) : TG := fun v σ H Q => ∃ (c : Fc) (O : List Addr) (en : En) (d : PyData), c.K = K ∧ RS c O H σ en ∧ Rp c.K O H v d ∧
  (match g d en with
    | .ok en' => ∀ σ', RS c O H σ' en' → But vs σ σ' → Shp en en' → Q σ' H
    | _ => False)
theorem DE.pe {X : Cx} {e : Expr} {f : Dn} (h : DE X e f) : PE X e (tOf X.K f) := by
  obtain ⟨t, p, ev⟩ := h
  exact ⟨fun pins s σ H Q I ⟨c, O, en, hc, rs, hp⟩ => p.run pins s σ H Q I (ev c O H σ en Q hc rs hp)⟩
theorem DTs.pt {X : Cx} {e : List Expr} {f : Tn} (h : DTs X e f) : PTs X e (ttOf X.K f) := by
  obtain ⟨t, p, ev⟩ := h
  exact ⟨fun pins s σ H Q I ⟨c, O, en, hc, rs, hp⟩ => p.run pins s σ H Q I (ev c O H σ en Q hc rs hp)⟩
theorem DG.pg {X : Cx} {vs : List Nat} {e : Expr} {g : Gn} (h : DG X vs e g) : PG X e (tgOf X.K vs g) := by
  obtain ⟨t, p, ev⟩ := h
  exact ⟨fun pins s σ H v u Q I r ⟨c, O, en, d, hc, rs, rp, hp⟩ => p.run pins s σ H v u Q I r (ev c O H σ en v d Q hc rs rp hp)⟩
theorem ev_of (K : PySem.W.Frag) (f : Dn) : EvE K (tOf K f) f := fun c O H σ en Q hc rs h => ⟨c, O, en, hc, rs, h⟩
theorem evt_of (K : PySem.W.Frag) (f : Tn) : EvT K (ttOf K f) f := fun c O H σ en Q hc rs h => ⟨c, O, en, hc, rs, h⟩
theorem evg_of (K : PySem.W.Frag) (vs : List Nat) (g : Gn) : EvG K vs (tgOf K vs g) g := fun c O H σ en v d Q hc rs rp h => ⟨c, O, en, d, hc, rs, rp, h⟩

/-! ### a comprehension's reading -/
/-- a write to what was not there at the entry -/
theorem Keep.trans' {P : List Addr} {He H : Hp} {o : HO} (k : Keep P He H) {D : Addr} (h : ∃ p, p = D ∧ He p = none) : Keep P He (upd H D o) := fun a x n e => by
  obtain ⟨p, rfl, hp⟩ := h
  have ne : a ≠ p := fun z => by rw [z, hp] at e; cases e
  rw [upd_ne ne]; exact k a x n e
section
variable {X : Cx} {pos : Pos}
theorem free_new {c : Fc} {O : List Addr} {H : Hp} {σ : L2.St} {en : En} {p : Addr} (rs : RS c O H σ en) (h : H p = none) : Free σ en p := fun i d e z => by
  obtain ⟨a, h1, h2, _⟩ := rs.ow i d e
  rw [h1] at z
  cases z
  exact h2.some h
theorem free_wipe {σ : L2.St} {en : En} {p : Addr} {vs : List Nat} (h : Free σ en p) : Free (L2.wipe σ vs) en p := fun i d e z => h i d e (wipe_some z).1
theorem ev_lc {K : PySem.W.Frag} {vs : List Nat} {wi : TI} {g : TG} {tt : TT} {te : TE} {f : An} {gD : Gn} {tD : Tn} {eD : Dn} (ei : EvI K wi f) (eg : EvG K vs g gD) (et : EvT K tt tD) (ee : EvE K te eD) : EvF K (tLc wi g tt te vs) (dLc f gD tD eD vs) := by
  intro c O H σ en Q hK rs h
  refine ei c O H σ en _ hK rs ?_
  unfold dLc bnd at h
  generalize hr : f en = r at h
  cases r with
  | exc _ _ => exact h
  | bad => exact h
  | ok q =>
  obtain ⟨ds, en1⟩ := q
  intro J H1 rs1 go1 hz it D hD
  have hHD : H D = none := by
    cases e : H D with
    | none => rfl
    | some x => rw [go1.keep D x (rs1.newp hD).1 e] at hD; cases hD
  have frD : Free σ en D := free_new rs hHD
  -- what is wanted behind the rest
  let Fin : Res (PyData × En) → Prop := fun r => match r with
    | .ok (d, en'') => ∀ H', RS c (D :: O) H' (L2.wipe σ vs) en'' → Shp en en'' → Keep O H1 H' → (∀ a x, Free σ en a → a ≠ D → H1 a = some x → H' a = some x) → OwR c.K (D :: O) H' D d → Q (.ref D) H'
    | _ => False
  have hF : Fin (lcF gD tD eD vs ds [] (wipeE en1 vs)) := by
    have h' : (match lcF gD tD eD vs ds [] (wipeE en1 vs) with
      | .ok (d, en') => ∀ p H0 H', H0 p = none → RS c O H0 σ en → Keep O H H0 → RS c (p :: O) H' σ en' → Go σ O H en H' en' → OwR c.K (p :: O) H' p d → Q (.ref p) H'
      | _ => False) := h
    revert h'
    generalize lcF gD tD eD vs ds [] (wipeE en1 vs) = rr
    intro h'
    cases rr with
    | exc _ _ => exact h'
    | bad => exact h'
    | ok p =>
      obtain ⟨d, en''⟩ := p
      intro H' rs' sh kp hd ow
      refine h' D H H' hHD rs (.refl _) rs'.unwipe ⟨go1.keep.trans kp, sh, fun a x fr ha => ?_⟩ ow
      exact hd a x fr (fun e => by rw [e, hHD] at ha; cases ha) (go1.held a x fr ha)
  refine ⟨fun i m H' => m = ds.length - i ∧ i ≤ ds.length ∧ ∃ en' acc accV, RS c (D :: O) H' (L2.wipe σ vs) en' ∧ Shp en en' ∧ Keep O H1 H' ∧ (∀ a x, Free σ en a → a ≠ D → H1 a = some x → H' a = some x) ∧ H' D = some (.lst accV) ∧ RpA c.K (D :: O) H' accV acc ∧ acc.length ≤ i ∧ Fin (lcF gD tD eD vs (ds.drop i) acc en'),
    ⟨_, rfl, Nat.zero_le _, wipeE en1 vs, [], [], (rs1.lay hD).wipe vs, go1.shp.trans (shp_wipe _ _), keep_new hD, fun a x _ ne e => by rw [upd_ne ne]; exact e, upd_same, .nil, Nat.le_refl _, hF⟩, ?_⟩
  rintro i m H2 ⟨rfl, hi, en2, acc, accV, rs2, sh2, kp2, hd2, hDv, hacc, hlen, hf⟩
  have st2 : Stp O H1 (D :: O) H2 := ⟨kp2, fun a ha => (List.mem_cons.mp ha).elim (fun e => .inr (by rw [e]; exact hD)) .inl⟩
  obtain ⟨it1, it2⟩ := it i (D :: O) H2 st2 rs2.live
  by_cases hlt : i < ds.length
  · have hdi : ds[i]? = some ds[i] := List.getElem?_eq_getElem hlt
    obtain ⟨go, yl⟩ := it1 _ hdi
    rw [drop_cons hdi] at hf
    refine .inr ⟨go, fun H' => ∃ en' acc accV, RS c (D :: O) H' (L2.wipe σ vs) en' ∧ Shp en en' ∧ Keep O H1 H' ∧ (∀ a x, Free σ en a → a ≠ D → H1 a = some x → H' a = some x) ∧ H' D = some (.lst accV) ∧ RpA c.K (D :: O) H' accV acc ∧ acc.length ≤ i + 1 ∧ Fin (lcF gD tD eD vs (ds.drop (i + 1)) acc en'),
      fun H' w => ⟨ds.length - (i + 1), by omega, rfl, hlt, w⟩, fun x H3 y => ?_⟩
    obtain ⟨sm, rp⟩ := yl x H3 y
    rw [← hK] at rp
    have rs3 := rs2.same sm
    refine eg c (D :: O) H3 (L2.wipe σ vs) en2 x _ _ hK rs3 rp ?_
    have hf3 : Fin ((gD ds[i] en2).bind fun en1 => bnd tD (fun b => if b = true then bnd eD fun y en3 => lcF gD tD eD vs (ds.drop (i + 1)) (acc ++ [y]) (wipeE en3 vs) else fun en2 => lcF gD tD eD vs (ds.drop (i + 1)) acc (wipeE en2 vs)) en1) := hf
    cases q : gD ds[i] en2 with
    | exc _ _ => rw [q] at hf3; exact hf3
    | bad => rw [q] at hf3; exact hf3
    | ok en4 =>
      rw [q] at hf3
      have hf4 : Fin (bnd tD (fun b => if b = true then bnd eD fun y en3 => lcF gD tD eD vs (ds.drop (i + 1)) (acc ++ [y]) (wipeE en3 vs) else fun en2 => lcF gD tD eD vs (ds.drop (i + 1)) acc (wipeE en2 vs)) en4) := hf3
      intro σ4 rs4 b4 s4
      have w4 : L2.wipe σ4 vs = L2.wipe σ vs := wipe_but b4
      have out4 : ∀ a, Free σ en a → Free σ4 en4 a := fun a fr j d e z => by
        obtain ⟨d2, e2⟩ := s4 j d e
        obtain ⟨a2, g1, _⟩ := rs2.ow j d2 e2
        have hj : j ∉ vs := fun hj => by
          have hl : j < σ.length := by
            have := (List.getElem?_eq_some_iff.mp g1).1
            rw [wipe_length] at this
            exact this
          rw [wipe_none hj hl] at g1
          cases g1
        rw [b4.2 j hj] at z
        obtain ⟨d3, e3⟩ := sh2 j d2 e2
        exact fr j d3 e3 (wipe_some z).1
      refine ⟨w4, et c (D :: O) H3 σ4 en4 _ hK rs4 ?_⟩
      unfold bnd at hf4
      cases q5 : tD en4 with
      | exc _ _ => rw [q5] at hf4; exact hf4
      | bad => rw [q5] at hf4; exact hf4
      | ok p5 =>
        obtain ⟨b, en5⟩ := p5
        rw [q5] at hf4
        intro b' H5 rs5 go5 eb
        subst eb
        have keep5 : Keep O H1 H5 := fun a x n e => by
          by_cases ha : a = D
          · rw [ha, hD] at e; cases e
          · exact go5.keep a x (fun z => (List.mem_cons.mp z).elim ha n) (sm a x (kp2 a x n e))
        have held5 : ∀ a x, Free σ en a → a ≠ D → H1 a = some x → H5 a = some x := fun a x fr ne e => go5.held a x (out4 a fr) (sm a x (hd2 a x fr ne e))
        have frD4 : Free σ4 en4 D := out4 D frD
        have hD5 : H5 D = some (.lst accV) := go5.held D _ frD4 (sm D _ hDv)
        have same35 : ∀ {v : V} {d : PyData}, Rp c.K (D :: O) H2 v d → Rp c.K (D :: O) H5 v d := fun h => (h.keep (.of_same sm)).keep go5.keep
        have acc5 : RpA c.K (D :: O) H5 accV acc := (hacc.keep (.of_same sm)).keep go5.keep
        cases b' with
        | false =>
          rw [if_neg Bool.false_ne_true]
          have w5 : RS c (D :: O) H5 (L2.wipe σ vs) (wipeE en5 vs) := by rw [← w4]; exact rs5.wipe vs
          exact ⟨wipeE en5 vs, acc, accV, w5, ((sh2.trans s4).trans go5.shp).trans (shp_wipe _ _), keep5, held5, hD5, acc5, by omega, hf4⟩
        | true =>
          rw [if_pos rfl]
          refine ee c (D :: O) H5 σ4 en5 _ hK rs5 ?_
          have hf5 : Fin (bnd eD (fun y en3 => lcF gD tD eD vs (ds.drop (i + 1)) (acc ++ [y]) (wipeE en3 vs)) en5) := hf4
          unfold bnd at hf5
          cases q6 : eD en5 with
          | exc _ _ => rw [q6] at hf5; exact hf5
          | bad => rw [q6] at hf5; exact hf5
          | ok p6 =>
            obtain ⟨yd, en6⟩ := p6
            rw [q6] at hf5
            intro yv H6 rs6 go6 ry
            have keep6 : Keep O H1 H6 := fun a x n e => by
              by_cases ha : a = D
              · rw [ha, hD] at e; cases e
              · exact go6.keep a x (fun z => (List.mem_cons.mp z).elim ha n) (keep5 a x n e)
            have fr5 : ∀ a, Free σ en a → Free σ4 en5 a := fun a fr => (out4 a fr).shp go5.shp
            have held6 : ∀ a x, Free σ en a → a ≠ D → H1 a = some x → H6 a = some x := fun a x fr ne e => go6.held a x (fr5 a fr) (held5 a x fr ne e)
            have hD6 : H6 D = some (.lst accV) := go6.held D _ (fr5 D frD) hD5
            have hl : accV.length < sizeLine := by
              rw [hacc.length]
              omega
            refine ⟨accV, hD6, hl, wipeE en6 vs, acc ++ [yd], accV ++ [yv], ?_, (((sh2.trans s4).trans go5.shp).trans go6.shp).trans (shp_wipe _ _), ?_, ?_, upd_same, ?_, by rw [List.length_append]; simp; omega, hf5⟩
            · have w6 : RS c (D :: O) H6 (L2.wipe σ vs) (wipeE en6 vs) := by rw [← w4]; exact rs6.wipe vs
              refine ⟨w6.len, ?_, w6.pin, w6.sub, fun a ha => ?_, fun j d e => ?_, fun j d e => ?_, w6.dist⟩
              · refine w6.keep.trans' ?_
                exact ⟨D, rfl, (rs1.newp hD).2.2.2⟩
              · by_cases e : a = D
                · rw [e, upd_same]; exact fun z => nomatch z
                · rw [upd_ne e]; exact w6.live a ha
              · obtain ⟨v, e1, e2⟩ := w6.sh j d e
                exact ⟨v, e1, e2.keep (keep_upd List.mem_cons_self)⟩
              · obtain ⟨a, e1, e2, e3, e4⟩ := w6.ow j d e
                have ne : a ≠ D := fun z => by
                  have s6 : Shp en (wipeE en6 vs) := (((sh2.trans s4).trans go5.shp).trans go6.shp).trans (shp_wipe _ _)
                  obtain ⟨d', e'⟩ := s6 j d e
                  exact frD j d' e' (by rw [← z]; exact (wipe_some e1).1)
                exact ⟨a, e1, e2.keep (keep_upd List.mem_cons_self) (upd_ne ne), e3, e4⟩
            · exact fun a x n e => by
                have ne : a ≠ D := fun z => by rw [z, hD] at e; cases e
                rw [upd_ne ne]; exact keep6 a x n e
            · exact fun a x fr ne e => by rw [upd_ne ne]; exact held6 a x fr ne e
            · exact ((acc5.keep go6.keep).keep (keep_upd List.mem_cons_self)).append (.cons (ry.keep (keep_upd List.mem_cons_self)) .nil)
  · have e : i = ds.length := by omega
    refine .inl ⟨it2 e, ?_⟩
    rw [e, List.drop_length] at hf
    exact hf H2 rs2 sh2 kp2 hd2 ⟨accV, hDv, by rw [hacc.length]; omega, hacc⟩
end
end EL
namespace EL
open PySem PySem.Spec PyProof.Rows L2

section
variable {X : Cx} {pos : Pos} {a b e tg iter elt : Expr} {es : List Expr} {st : Stmt} {sts body : List Stmt}
theorem OwR.rp {K : PySem.W.Frag} {O : List Addr} {H : Hp} {p : Addr} {d : PyData} (n : p ∉ O) (h : OwR K (p :: O) H p d) : Rp K O H (.ref p) d := by
  have sb : ∀ a ∈ O, a ∈ p :: O := fun a ha => List.mem_cons_of_mem _ ha
  cases d with
  | list ds => obtain ⟨xs, e1, e2, e3⟩ := h; exact .lst e1 n e2 (e3.less sb)
  | dict ds => obtain ⟨xs, e1, e2, e3⟩ := h; exact .dic e1 n e2 (e3.less sb)
  | _ => exact h.elim
theorem ev_fresh {K : PySem.W.Frag} {t : TE} {f : Dn} (h : EvF K t f) : EvE K t f := by
  intro c O H σ en Q hc rs hp
  refine h c O H σ en Q hc rs ?_
  cases q : f en with
  | exc _ _ => rw [q] at hp; exact hp
  | bad => rw [q] at hp; exact hp
  | ok p =>
    obtain ⟨d, en'⟩ := p
    rw [q] at hp
    intro p H0 H' h0 rs0 k0 rs1 g1 ow
    exact hp (.ref p) H' (rs0.unlay h0 rs1 g1.shp) g1 (ow.rp (rs0.newp h0).1)
theorem de_new {f : Dn} (h : DF X e f) : DE X e f := let ⟨t, p, ev⟩ := h; ⟨t, p, ev_fresh ev⟩

theorem df_lc {ifs : List Expr} {scope : Scope} (own : List (Str × Nat)) {f : An} {gD : Gn} {tD : Tn} {eD : Dn} (hc : X.calm = true) (hN : X.N.Nodup) (hi : DI X tg iter f) (ok : BlkOk X.N X.env.scope scope own)
    (hg : ∀ (s : Shared) (H : Hp) (C : Addr) (cl : List (Str × Addr)) (fp : List Addr), DG (X.blk s H scope (compEnvC scope cl C X.env) fp) (own.map (·.2)) tg gD) (ht : ∀ (s : Shared) (H : Hp) (C : Addr) (cl : List (Str × Addr)) (fp : List Addr), DTs (X.blk s H scope (compEnvC scope cl C X.env) fp) ifs tD)
    (he : ∀ (s : Shared) (H : Hp) (C : Addr) (cl : List (Str × Addr)) (fp : List Addr), DE (X.blk s H scope (compEnvC scope cl C X.env) fp) elt eD) (hs : ∀ x, foldedSetIterable iter X.env x = pure x := by intro _; rfl) :
    DF X (.ListComp elt [⟨tg, iter, ifs, 0⟩] scope pos) (dLc f gD tD eD (own.map (·.2))) := by
  obtain ⟨wi, pi, ei⟩ := hi
  exact ⟨_, pe_lc hc hN pi ok (fun s H C cl fp => (hg s H C cl fp).pg) (fun s H C cl fp => (ht s H C cl fp).pt) (fun s H C cl fp => (he s H C cl fp).pe) hs, ev_lc ei (evg_of X.K _ _) (evt_of X.K _) (ev_of X.K _)⟩
/-- y = [..] on one line -/
theorem ps_lc {y : Str} {py spos : Pos} {ifs : List Expr} {scope : Scope} (i : Nat) (own : List (Str × Nat)) {f : An} {gD : Gn} {tD : Tn} {eD : Dn} (hc : X.calm = true) (hN : X.N.Nodup) (hi : DI X tg iter f) (ok : BlkOk X.N X.env.scope scope own)
    (hg : ∀ (s : Shared) (H : Hp) (C : Addr) (cl : List (Str × Addr)) (fp : List Addr), DG (X.blk s H scope (compEnvC scope cl C X.env) fp) (own.map (·.2)) tg gD) (ht : ∀ (s : Shared) (H : Hp) (C : Addr) (cl : List (Str × Addr)) (fp : List Addr), DTs (X.blk s H scope (compEnvC scope cl C X.env) fp) ifs tD)
    (he : ∀ (s : Shared) (H : Hp) (C : Addr) (cl : List (Str × Addr)) (fp : List Addr), DE (X.blk s H scope (compEnvC scope cl C X.env) fp) elt eD)
    (hsw : swapsWith (.ListComp elt [⟨tg, iter, ifs, 0⟩] scope pos) (some (.Name y py)) spos.line X.env = pure true) (hy : X.N[i]? = some y := by rfl) (hyl : X.env.scope.names.lookup y = some .local := by rfl)
    (hs : ∀ x, foldedSetIterable iter X.env x = pure x := by intro _; rfl) :
    ∃ t, PS X (.Assign [.Name y py] (.ListComp elt [⟨tg, iter, ifs, 0⟩] scope pos) spos) (tAsg t (L2.gName i)) ∧ EvF X.K t (dLc f gD tD eD (own.map (·.2))) := by
  obtain ⟨wi, pi, ei⟩ := hi
  exact ⟨_, ps_setLc hc hN hy hyl hsw pi ok (fun s H C cl fp => (hg s H C cl fp).pg) (fun s H C cl fp => (ht s H C cl fp).pt) (fun s H C cl fp => (he s H C cl fp).pe) hs, ev_lc ei (evg_of X.K _ _) (evt_of X.K _) (ev_of X.K _)⟩
theorem ds_ofS {i : Nat} {f : Dn} (h : ∃ t, PS X st (tAsg t (L2.gName i)) ∧ EvF X.K t f) : DS X st (sSet i f) := by
  obtain ⟨t, p, ev⟩ := h
  refine ⟨_, p, ?_⟩
  intro c O H σ en D hc rs h
  refine ev_fresh ev c O H σ en _ hc rs (Po.bindS h fun d1 en1 v1 H1 _ rs1 k1 r1 h1 => ?_)
  exact h1 _ H1 O (rs1.set_sh r1) .refl
theorem ds_ofO {i : Nat} {f : Dn} (h : ∃ t, PS X st (tAsg t (L2.gName i)) ∧ EvF X.K t f) (hi : i ≠ 0 := by decide) : DS X st (sSetO i f) := by
  obtain ⟨t, p, ev⟩ := h
  refine ⟨_, p, ?_⟩
  intro c O H σ en D hc rs h
  refine ev c O H σ en _ hc rs ?_
  unfold sSetO bnd at h
  generalize hr : f en = r at h
  cases r with
  | ok q =>
    obtain ⟨d, en'⟩ := q
    intro p H0 H' h0 rs0 k0 rs1 g1 ow
    have hH : H p = none := by
      cases q : H p with
      | none => rfl
      | some x => rw [k0 p x (rs0.newp h0).1 q] at h0; cases h0
    exact h _ H' (p :: O) (RS.set_ow hi rs0 h0 rs1 g1.shp ow) ⟨g1.keep, fun a ha => (List.mem_cons.mp ha).elim (fun e => .inr (by rw [e]; exact hH)) .inl⟩
  | exc _ _ => exact h
  | bad => exact h

/-! ### a list that may change -/
def appK (i : Nat) (d : PyData) : Sn := fun en => match en[i]? with
  | some (.ow (.list xs)) => if xs.length < sizeLine then .ok (.nx, en.set i (.ow (.list (xs ++ [d])))) else .bad
  | _ => .bad
def sApp (i : Nat) (f : Dn) : Sn := fun en => match en[i]? with
  | some (.ow (.list _)) => bnd f (appK i) en
  | _ => .bad
theorem ds_append {x : Str} {p apos cpos : Pos} {f : Dn} (i : Nat) (he : DE X e f) (hN : X.N[i]? = some x := by rfl) (hv : Vis X.env.scope x := by first | exact Or.inl rfl | exact Or.inr (Or.inl rfl) | exact Or.inr (Or.inr rfl))
    (hfew : ((backTo cpos (starEach [e] X.env)).all (fun x => !x.1) && (backToKw cpos (keywordEach [] X.env)).all (fun x => x.1.isSome) && decide ([e].length + ([] : List Keyword).length + (if ([] : List Keyword).isEmpty then 0 else 1) < 30)) = true := by rfl)
    (hline : (apos.endLine == cpos.line) = true := by rfl) (hs : starEach [e] X.env = (false, eval e X.env) :: starEach [] X.env := by rfl) (hsw : swapsWith (.Call (.Attribute (.Name x p) "append" apos) [e] [] cpos) none pos.line X.env = pure false := by rfl)
    (hd : (x == ("__debug__" : Str)) = false := by decide) (hcd : (x == ("__classdict__" : Str)) = false := by decide) (hbase : attributeBase (.Name x p) "append" X.env (eval (.Name x p) X.env) = eval (.Name x p) X.env := by rfl) (hpl : (backTo cpos (starEach [] X.env)).any (·.1) = false := by rfl) :
    DS X (.Expr (.Call (.Attribute (.Name x p) "append" apos) [e] [] cpos) pos) (sApp i f) := by
  obtain ⟨t, pe, ev⟩ := he
  refine ⟨_, ps_expr (pe_bm PySem.F.plainAttrs_list PySem.F.slot_list_append PySem.F.type_list_append mt_append (pe_var hN hv hd hcd) (pa_cons pe pa_nil hs) hbase hfew hline hs hpl) hsw, ?_⟩
  intro c O H σ en D hK rs h
  unfold sApp at h
  cases q : en[i]? with
  | none => rw [q] at h; exact h.elim
  | some s =>
    rw [q] at h
    cases s with
    | no => exact h.elim
    | sh _ => exact h.elim
    | ow d0 =>
      cases d0 with
      | list ds0 =>
        obtain ⟨p, hp, ⟨xs0, g1, _⟩, _⟩ := rs.ow i _ q
        refine ⟨.ref p, hp, .inl ⟨rfl, xs0, .inl (.inl g1)⟩, ev c O H σ en _ hK rs (Po.bindS (show PoS c O H (bnd f (appK i) en) D from h) fun d1 en1 v1 H1 _ rs1 k1 r1 h1 => ?_)⟩
        unfold appK at h1
        cases q1 : en1[i]? with
        | none => rw [q1] at h1; exact h1.elim
        | some s1 =>
          rw [q1] at h1
          cases s1 with
          | no => exact h1.elim
          | sh _ => exact h1.elim
          | ow d2 =>
            cases d2 with
            | list ds =>
              obtain ⟨p', hp', ⟨xs, e1, e2, e3⟩, hO, _⟩ := rs1.ow i _ q1
              rw [hp] at hp'
              cases hp'
              have h2 : PoS c O H1 (if ds.length < sizeLine then .ok (.nx, en1.set i (.ow (.list (ds ++ [d1])))) else .bad) D := h1
              by_cases hz : ds.length < sizeLine
              · rw [if_pos hz] at h2
                have hz' : xs.length < sizeLine := by rw [e3.length]; exact hz
                refine ⟨p, xs, v1, rfl, rfl, e1, hz', h2 σ _ O (rs1.turn q1 hp (keep_upd (by simp)) ?_) (.of (keep_upd hO))⟩
                exact ⟨xs ++ [v1], upd_same, by rw [List.length_append]; simp; omega, (e3.keep (keep_upd hO)).append (.cons (r1.keep (keep_upd hO)) .nil)⟩
              · rw [if_neg hz] at h2; exact h2.elim
            | _ => exact h1.elim
      | _ => exact h.elim
/-- x[k] = e, x a list that may change -/
def putK (i : Nat) (d : PyData) (k : PyData) : Sn := fun en => match en[i]?, k with
  | some (.ow (.list xs)), .int z => (match ixN xs.length z with
    | some j => .ok (.nx, en.set i (.ow (.list (xs.set j d))))
    | none => .bad)
  | _, _ => .bad
def putK0 (i : Nat) (fk : Dn) (d : PyData) : Sn := fun en => match en[i]? with
  | some (.ow (.list _)) => bnd fk (putK i d) en
  | _ => .bad
def sPut (i : Nat) (f fk : Dn) : Sn := bnd f (putK0 i fk)
theorem RpA.set {K : PySem.W.Frag} {O : List Addr} {H : Hp} {v : V} {d : PyData} (r : Rp K O H v d) : ∀ {vs : List V} {ds : List PyData} (j : Nat), RpA K O H vs ds → RpA K O H (vs.set j v) (ds.set j d)
  | _, _, _, .nil => .nil
  | _, _, 0, .cons _ t => .cons r t
  | _, _, j + 1, .cons q t => .cons q (RpA.set r j t)
theorem ds_put {x : Str} {p p2 : Pos} {k : Expr} {f fk : Dn} (i : Nat) (he : DE X e f) (hk : DE X k fk) (hN : X.N[i]? = some x := by rfl) (hv : Vis X.env.scope x := by first | exact Or.inl rfl | exact Or.inr (Or.inl rfl) | exact Or.inr (Or.inr rfl))
    (ha : ∀ v, assign (.Subscript (.Name x p) k p2) X.env v = (do
      let ov ← holding [v] (eval (.Name x p) X.env)
      let iv ← holding [v, ov] (eval k X.env)
      standAt p2
      holding [v, ov, iv] (setItem ov iv v)
      release [v, ov, iv] []) := by intro _; rfl)
    (hs : swapsWithSole [.Subscript (.Name x p) k p2] e pos.line X.env = pure false := by rfl) (hw : swappedStores [.Subscript (.Name x p) k p2] e X.env = pure none := by rfl)
    (h1 : (assignEach [.Subscript (.Name x p) k p2] X.env).map (·.2) = [assign (.Subscript (.Name x p) k p2) X.env] := by rfl) (hd : (x == ("__debug__" : Str)) = false := by decide) (hcd : (x == ("__classdict__" : Str)) = false := by decide) :
    DS X (.Assign [.Subscript (.Name x p) k p2] e pos) (sPut i f fk) := by
  obtain ⟨t, pe, ev⟩ := he
  obtain ⟨tk, pk, evk⟩ := hk
  refine ⟨_, ps_asg pe (pg_sub (pe_var hN hv hd hcd) pk set_list ha) hs hw h1, ?_⟩
  intro c O H σ en D hK rs h
  refine ev c O H σ en _ hK rs (Po.bindS h fun d1 en1 v1 H1 _ rs1 k1 r1 h1 => ?_)
  unfold putK0 at h1
  cases q : en1[i]? with
  | none => rw [q] at h1; exact h1.elim
  | some s =>
    rw [q] at h1
    cases s with
    | no => exact h1.elim
    | sh _ => exact h1.elim
    | ow d0 =>
      cases d0 with
      | list ds0 =>
        obtain ⟨p, hp, ⟨xs0, g1, _⟩, _⟩ := rs1.ow i _ q
        refine ⟨.ref p, hp, evk c O H1 σ en1 _ hK rs1 (Po.bindS (show PoS c O H1 (bnd fk (putK i d1) en1) D from h1) fun d2 en2 v2 H2 _ rs2 k2 r2 h2 => ?_)⟩
        unfold putK at h2
        cases q1 : en2[i]? with
        | none => rw [q1] at h2; exact h2.elim
        | some s1 =>
          rw [q1] at h2
          cases s1 with
          | no => exact h2.elim
          | sh _ => exact h2.elim
          | ow d3 =>
            cases d3 with
            | list ds =>
              cases d2 with
              | int z =>
                cases r2
                obtain ⟨p', hp', ⟨xs, e1, e2, e3⟩, hO, _⟩ := rs2.ow i _ q1
                rw [hp] at hp'
                cases hp'
                have h3 : PoS c O H2 (match ixN ds.length z with
                  | some j => .ok (.nx, en2.set i (.ow (.list (ds.set j d1))))
                  | none => .bad) D := h2
                cases q4 : ixN ds.length z with
                | none => rw [q4] at h3; exact h3.elim
                | some j =>
                  rw [q4] at h3
                  refine ⟨p, xs, z, j, rfl, rfl, e1, by rw [e3.length]; exact q4, h3 σ _ O (rs2.turn q1 hp (keep_upd (by simp)) ?_) (.of (keep_upd hO))⟩
                  exact ⟨xs.set j v1, upd_same, by rw [List.length_set]; exact e2, RpA.set ((r1.keep k2.keep).keep (keep_upd hO)) j (e3.keep (keep_upd hO))⟩
              | _ => exact h2.elim
            | _ => exact h2.elim
      | _ => exact h1.elim
end
end EL
namespace EL
open PySem PySem.Spec PyProof.Rows L2

/-! ### a def by its body's meaning -/
def startE (n : Nat) (ds : List PyData) : En := ds.map Sl.sh ++ List.replicate (n - ds.length) .no
def runM (body : Sn) (n : Nat) (ds : List PyData) : Res PyData := match body (startE n ds) with
  | .ok (.rt d, _) => .ok d
  | .ok (.nx, _) => .ok .none
  | .exc c fs => .exc c fs
  | _ => .bad
def startP (n : Nat) (pd : PyData) (ds : List PyData) : En := .ow pd :: (ds.map Sl.sh ++ List.replicate (n - (ds.length + 1)) .no)
def endP (en : En) (d : PyData) : Res (PyData × PyData) := match (en[(0 : Nat)]? : Option Sl) with
  | some (Sl.ow pd) => .ok (d, pd)
  | _ => .bad
def runP (body : Sn) (n : Nat) (pd : PyData) (ds : List PyData) : Res (PyData × PyData) := match body (startP n pd ds) with
  | .ok (.rt d, en) => endP en d
  | .ok (.nx, en) => endP en .none
  | .exc c fs => .exc c fs
  | _ => .bad
theorem rs_start {K : PySem.W.Frag} {O : List Addr} {H : Hp} {N : List Str} {vs : List V} {ds : List PyData} (ra : RpA K O H vs ds) (lv : ∀ a ∈ O, H a ≠ none) (hl : vs.length ≤ N.length) : RS ⟨K, H, [], O⟩ O H (L2.start N vs) (startE N.length ds) where
  len := by
    unfold L2.start startE
    simp only [List.length_append, List.length_map, List.length_replicate]
    rw [ra.length]
  keep := .refl _
  pin := fun a ha => by cases ha
  sub := fun a ha => ha
  live := lv
  sh := fun i d q => by
    unfold startE at q
    unfold L2.start
    by_cases hi : i < ds.length
    · rw [List.getElem?_append_left (by simpa using hi), List.getElem?_map] at q
      cases e : ds[i]? with
      | none => rw [e] at q; cases q
      | some x =>
        rw [e] at q
        cases q
        obtain ⟨v, h1, h2⟩ := ra.getD e
        exact ⟨v, by rw [List.getElem?_append_left (by rw [List.length_map, ra.length]; exact hi), List.getElem?_map, h1]; rfl, h2⟩
    · rw [List.getElem?_append_right (by simpa using hi)] at q
      have := List.mem_of_getElem? q
      rw [List.mem_replicate] at this
      cases this.2
  ow := fun i d q => by
    have hm := List.mem_of_getElem? q
    unfold startE at hm
    rcases List.mem_append.mp hm with h | h
    · obtain ⟨x, _, e⟩ := List.mem_map.mp h
      cases e
    · rw [List.mem_replicate] at h
      cases h.2
  dist := fun i j d e a q1 => by
    have hm := List.mem_of_getElem? q1
    unfold startE at hm
    rcases List.mem_append.mp hm with h | h
    · obtain ⟨x, _, e⟩ := List.mem_map.mp h
      cases e
    · rw [List.mem_replicate] at h
      cases h.2
theorem rs_startP {K : PySem.W.Frag} {O : List Addr} {H : Hp} {N : List Str} {p : Addr} {pd : PyData} {vs : List V} {ds : List PyData} (hp : p ∈ O) (ho : OwR K O H p pd) (ra : RpA K O H vs ds) (lv : ∀ a ∈ O, H a ≠ none) : RS ⟨K, H, [p], O⟩ O H (L2.start N (.ref p :: vs)) (startP N.length pd ds) where
  len := by
    unfold L2.start startP
    simp only [List.length_append, List.length_map, List.length_replicate, List.length_cons]
    rw [ra.length]
    omega
  keep := .refl _
  pin := fun a ha => by
    have e : a = p := by simpa using ha
    rw [e]; exact hp
  sub := fun a ha => ha
  live := lv
  sh := fun i d q => by
    unfold startP at q
    unfold L2.start
    cases i with
    | zero => cases q
    | succ i =>
      rw [List.getElem?_cons_succ] at q
      rw [List.map_cons, List.cons_append, List.getElem?_cons_succ]
      by_cases hi : i < ds.length
      · rw [List.getElem?_append_left (by simpa using hi), List.getElem?_map] at q
        cases e : ds[i]? with
        | none => rw [e] at q; cases q
        | some x =>
          rw [e] at q
          cases q
          obtain ⟨v, h1, h2⟩ := ra.getD e
          exact ⟨v, by rw [List.getElem?_append_left (by rw [List.length_map, ra.length]; exact hi), List.getElem?_map, h1]; rfl, h2⟩
      · rw [List.getElem?_append_right (by simpa using hi)] at q
        have := List.mem_of_getElem? q
        rw [List.mem_replicate] at this
        cases this.2
  ow := fun i d q => by
    unfold startP at q
    cases i with
    | zero =>
      cases q
      exact ⟨p, rfl, ho, hp, .inl ⟨by simp, rfl⟩⟩
    | succ i =>
      rw [List.getElem?_cons_succ] at q
      have hm := List.mem_of_getElem? q
      rcases List.mem_append.mp hm with h | h
      · obtain ⟨x, _, e⟩ := List.mem_map.mp h
        cases e
      · rw [List.mem_replicate] at h
        cases h.2
  dist := fun i j d e a q1 q2 => by
    have z : ∀ (m : Nat) (f : PyData), (startP N.length pd ds)[m]? = some (Sl.ow f) → m = 0 := fun m f q => by
      unfold startP at q
      cases m with
      | zero => rfl
      | succ m =>
        rw [List.getElem?_cons_succ] at q
        have hm := List.mem_of_getElem? q
        rcases List.mem_append.mp hm with h | h
        · obtain ⟨x, _, e⟩ := List.mem_map.mp h
          cases e
        · rw [List.mem_replicate] at h
          cases h.2
    intro _ _
    rw [z i d q1, z j e q2]
/-- what a body's meaning gives for the promise -/
theorem body_M {K : PySem.W.Frag} {O : List Addr} {H : Hp} {n : Nat} {ds : List PyData} {body : Sn} {Q : VK} (h : PoV K O H (runM body n ds) Q) : PoS ⟨K, H, [], O⟩ O H (body (startE n ds)) { nx := fun _ H' => Q .non H', rt := Q } := by
  unfold runM at h
  cases q : body (startE n ds) with
  | exc _ _ => rw [q] at h; exact h
  | bad => rw [q] at h; exact h
  | ok p =>
    obtain ⟨fl, en'⟩ := p
    rw [q] at h
    cases fl with
    | nx => exact fun σ' H' O' rs st => h .non H' (fun a x e => rs.keep a x (by simp) e) .non
    | rt d => exact fun v σ' H' O' rs st rp => h v H' (fun a x e => rs.keep a x (by simp) e) (rp.less rs.sub)
    | bk => exact h.elim
    | ct => exact h.elim
theorem body_P {K : PySem.W.Frag} {O : List Addr} {H : Hp} {n : Nat} {p : Addr} {pd : PyData} {ds : List PyData} {body : Sn} {Q : VK} (h : match runP body n pd ds with
      | .ok (d, pd') => ∀ v H', Keep [p] H H' → OwR K O H' p pd' → Rp K O H' v d → Q v H'
      | _ => False) : PoS ⟨K, H, [p], O⟩ O H (body (startP n pd ds)) { nx := fun _ H' => Q .non H', rt := Q } := by
  have own : ∀ (O' : List Addr) (H' : Hp) (σ' : L2.St) (en' : En) (d : PyData), RS ⟨K, H, [p], O⟩ O' H' σ' en' → en'[0]? = some (Sl.ow d) → OwR K O H' p d := fun O' H' σ' en' d rs e => by
    obtain ⟨a, _, h2, _, h4⟩ := rs.ow 0 d e
    rcases h4 with ⟨h4, _⟩ | ⟨_, _, h4⟩
    · have e : a = p := by simpa using h4
      subst e
      cases d with
      | list ds => obtain ⟨xs, e1, e2, e3⟩ := h2; exact ⟨xs, e1, e2, e3.less rs.sub⟩
      | dict ds => obtain ⟨xs, e1, e2, e3⟩ := h2; exact ⟨xs, e1, e2, e3.less rs.sub⟩
      | _ => exact h2.elim
    · exact absurd rfl h4
  unfold runP at h
  cases q : body (startP n pd ds) with
  | exc _ _ => rw [q] at h; exact h
  | bad => rw [q] at h; exact h
  | ok r =>
    obtain ⟨fl, en'⟩ := r
    rw [q] at h
    cases fl with
    | bk => exact h.elim
    | ct => exact h.elim
    | nx =>
      have h' : (match endP en' .none with
        | .ok (d, pd') => ∀ v H', Keep [p] H H' → OwR K O H' p pd' → Rp K O H' v d → Q v H'
        | _ => False) := h
      unfold endP at h'
      intro σ' H' O' rs st
      cases q0 : en'[0]? with
      | none => rw [q0] at h'; exact h'.elim
      | some s =>
        rw [q0] at h'
        cases s with
        | no => exact h'.elim
        | sh _ => exact h'.elim
        | ow d' => exact h' .non H' rs.keep (own O' H' σ' en' d' rs q0) .non
    | rt d =>
      have h' : (match endP en' d with
        | .ok (d, pd') => ∀ v H', Keep [p] H H' → OwR K O H' p pd' → Rp K O H' v d → Q v H'
        | _ => False) := h
      unfold endP at h'
      intro v σ' H' O' rs st rp
      cases q0 : en'[0]? with
      | none => rw [q0] at h'; exact h'.elim
      | some s =>
        rw [q0] at h'
        cases s with
        | no => exact h'.elim
        | sh _ => exact h'.elim
        | ow d' => exact h' v H' rs.keep (own O' H' σ' en' d' rs q0) (rp.less rs.sub)

section
variable {P : Program} {w : World} {K : PySem.W.Frag} {mg : Str → Option Value} {base : Heap}
theorem fn_pure {x qual : Str} {st : Stmt} {f : Addr} {fd : FuncData} {N ps : List Str} {k : Nat} {body : Sn} (F : Fun K x qual st f fd) (S : FnScope N ps (defScope st))
    (hb : ∀ (cdv : Value) (A : Around) (outer : List Env) (s : Shared) (H : Hp) (E : XK), Room k (A.deeper (envOfC qual (defScope st) s.heap.objs.size f cdv)) → DSs (cxOf CX0 P w K mg base N qual (defScope st) f cdv A outer s H E).nox (defBody st) body)
    : FnOk P w K mg base CX0 (k + 1) f fd ps (spM (runM body N.length) ps.length K) := by
  refine F.ok S (fun vs H Q E h => h.1) (fun cdv A outer s H vs Q E hr h => ?_)
  obtain ⟨hl, ds, O, ra, lv, hv⟩ := h
  obtain ⟨t, p, ev⟩ := hb cdv A outer s H E hr
  have hpl : ps.length ≤ N.length := by have := congrArg List.length S.pre; rw [List.length_take] at this; omega
  exact ⟨t, p, ev ⟨K, H, [], O⟩ O H (L2.start N vs) (startE N.length ds) _ rfl (rs_start ra lv (by omega)) (body_M hv)⟩
theorem fn_pen {x qual : Str} {st : Stmt} {f : Addr} {fd : FuncData} {N ps : List Str} {k : Nat} {body : Sn} (F : Fun K x qual st f fd) (S : FnScope N ps (defScope st))
    (hb : ∀ (cdv : Value) (A : Around) (outer : List Env) (s : Shared) (H : Hp) (E : XK), Room k (A.deeper (envOfC qual (defScope st) s.heap.objs.size f cdv)) → DSs (cxOf CX0 P w K mg base N qual (defScope st) f cdv A outer s H E).nox (defBody st) body)
    : FnOk P w K mg base CX0 (k + 1) f fd ps (spP (runP body N.length) ps.length K) := by
  refine F.ok S (fun vs H Q E h => h.1) (fun cdv A outer s H vs Q E hr h => ?_)
  obtain ⟨hl, p, vs', pd, ds, O, rfl, hp, ho, ra, lv, hv⟩ := h
  obtain ⟨t, pp, ev⟩ := hb cdv A outer s H E hr
  exact ⟨t, pp, ev ⟨K, H, [p], O⟩ O H (L2.start N (.ref p :: vs')) (startP N.length pd ds) _ rfl (rs_startP hp ho ra lv) (body_P hv)⟩
end
end EL
namespace EL
open PySem PySem.Spec PyProof.Rows L2

/-! ### promises of defs that run where no repr runs -/
structure FnG (P : Program) (w : World) (K : PySem.W.Frag) (mg : Str → Option Value) (base : Heap) (k : Nat) (f : Addr) (fd : FuncData) (ps : List Str) (sp : Sp) : Prop where
  len : ∀ vs H Q E, sp vs H Q E → vs.length = ps.length
  run : ∀ (A : Around) (outer : List Env) (s : Shared) (H : Hp) (args : Args) (us : List Value) (vs : List V) (Q : VK) (E : XK), A.guards = some [] → Room k A → Env0 P w K mg base A outer s H →
    BindsTo s fd args (ps.zip us) → Vals vs us → sp vs H Q E → codeAny (model P w) A (.call (.ref f) args) (CR CX0 outer P w H s Q E) s
section
variable {P : Program} {w : World} {K : PySem.W.Frag} {mg : Str → Option Value} {base : Heap}
theorem FnG.of {k : Nat} {f : Addr} {fd : FuncData} {ps : List Str} {sp : Sp} (F : FnOk P w K mg base CX0 k f fd ps sp) : FnG P w K mg base k f fd ps sp := ⟨F.len, fun A outer s H args us vs Q E _ => F.run A outer s H args us vs Q E⟩
theorem fn_body {x qual : Str} {st : Stmt} {f : Addr} {fd : FuncData} {N ps : List Str} {k : Nat} {sp : Sp} (F : Fun K x qual st f fd) (S : FnScope N ps (defScope st)) (hlen : ∀ vs H Q E, sp vs H Q E → vs.length = ps.length)
    (hb : ∀ (cdv : Value) (A : Around) (outer : List Env) (s : Shared) (H : Hp) (vs : List V) (Q : VK) (E : XK), A.guards = some [] → Room k (A.deeper (envOfC qual (defScope st) s.heap.objs.size f cdv)) → sp vs H Q E →
      ∃ t, PSs (cxOf CX0 P w K mg base N qual (defScope st) f cdv A outer s H E).nox (defBody st) t ∧ t { nx := fun _ H' => Q .non H', rt := Q } (L2.start N vs) H) : FnG P w K mg base (k + 1) f fd ps sp := by
  obtain ⟨oc, od, kV, doc, pm, an, cdv, ct, osl, hfd, hlk, hcode⟩ := F.ex
  subst hfd
  refine ⟨hlen, ?_⟩
  intro A outer s H args us vs Q E hgd hroom env0 hbind rvals hq
  have nlen := hlen _ _ _ _ hq
  have inK : K.In s.heap := env0.mod.kin.keeps (fun b o e => (env0.bs b o e).1)
  have noLim : s.heap.NoLimit := env0.mod.nolimit.keeps (fun b o e => (env0.bs b o e).1)
  have kinds : ∀ y ∈ ps.zip us, (defScope st).names.lookup y.1 = some .local ∨ ((defScope st).names.lookup y.1 = some .cell ∧
      ((cellsFrom (s.heap.objs.size + 1) (defScope st).names []).lookup y.1).isSome = true) := by
    rintro ⟨nm, vl⟩ hy
    rcases S.par nm (List.of_mem_zip hy).1 with hk | hk
    · exact Or.inl hk
    · exact Or.inr ⟨hk, PySem.W.cellsFrom_some _ _ _ (Or.inl hk)⟩
  refine codeAny_call_function hroom.depth (inK _ _ hlk) rfl S.co S.gen rfl (PySem.W.codeRec_of inK hcode) (hbind _ _ _ _ ?_)
  refine wpAny_newFunctionEnv_cells S.kind kinds ?_
  intro env henv s1 made
  subst henv
  refine ⟨noLim.keeps made.toInCall.keep, codeAny_func ?_⟩
  obtain ⟨t, pt, ht⟩ := hb cdv A outer s H vs Q E hgd (hroom.deeper _) hq
  have inv0 : Inv (cxOf CX0 P w K mg base N qual (defScope st) f cdv A outer s H E) [] (L2.start N vs) H s1 := inv_start S hroom.hd env0 nlen rvals made
  refine wpAny_mono (pt.nox.run [] s1 (L2.start N vs) H _ inv0 ht) ?_ (fun _ _ z => z)
  intro fl s' post
  cases fl with
  | ret u =>
    obtain ⟨v, σ', H', J, rv, q⟩ := post
    exact ⟨v, H', J.os, J.bare, J.base, J.hok, rv, q⟩
  | next =>
    obtain ⟨σ', H', J, q⟩ := post
    exact ⟨V.non, H', J.os, J.bare, J.base, J.hok, rfl, q⟩
  | brk => obtain ⟨_, _, _, z⟩ := post; exact z.elim
  | cont => obtain ⟨_, _, _, z⟩ := post; exact z.elim
theorem fn_pureG {x qual : Str} {st : Stmt} {f : Addr} {fd : FuncData} {N ps : List Str} {k : Nat} {body : Sn} (F : Fun K x qual st f fd) (S : FnScope N ps (defScope st))
    (hb : ∀ (cdv : Value) (A : Around) (outer : List Env) (s : Shared) (H : Hp) (E : XK), A.guards = some [] → Room k (A.deeper (envOfC qual (defScope st) s.heap.objs.size f cdv)) → DSs (cxOf CX0 P w K mg base N qual (defScope st) f cdv A outer s H E).nox (defBody st) body)
    : FnG P w K mg base (k + 1) f fd ps (spM (runM body N.length) ps.length K) := by
  refine fn_body F S (fun vs H Q E h => h.1) (fun cdv A outer s H vs Q E hg hr h => ?_)
  obtain ⟨hl, ds, O, ra, lv, hv⟩ := h
  obtain ⟨t, p, ev⟩ := hb cdv A outer s H E hg hr
  have hpl : ps.length ≤ N.length := by have := congrArg List.length S.pre; rw [List.length_take] at this; omega
  exact ⟨t, p, ev ⟨K, H, [], O⟩ O H (L2.start N vs) (startE N.length ds) _ rfl (rs_start ra lv (by omega)) (body_M hv)⟩
theorem fn_penG {x qual : Str} {st : Stmt} {f : Addr} {fd : FuncData} {N ps : List Str} {k : Nat} {body : Sn} (F : Fun K x qual st f fd) (S : FnScope N ps (defScope st))
    (hb : ∀ (cdv : Value) (A : Around) (outer : List Env) (s : Shared) (H : Hp) (E : XK), A.guards = some [] → Room k (A.deeper (envOfC qual (defScope st) s.heap.objs.size f cdv)) → DSs (cxOf CX0 P w K mg base N qual (defScope st) f cdv A outer s H E).nox (defBody st) body)
    : FnG P w K mg base (k + 1) f fd ps (spP (runP body N.length) ps.length K) := by
  refine fn_body F S (fun vs H Q E h => h.1) (fun cdv A outer s H vs Q E hg hr h => ?_)
  obtain ⟨hl, p, vs', pd, ds, O, rfl, hp, ho, ra, lv, hv⟩ := h
  obtain ⟨t, pp, ev⟩ := hb cdv A outer s H E hg hr
  exact ⟨t, pp, ev ⟨K, H, [p], O⟩ O H (L2.start N (.ref p :: vs')) (startP N.length pd ds) _ rfl (rs_startP hp ho ra lv) (body_P hv)⟩
end
section
variable {X : Cx} {pos : Pos} {a b e : Expr} {es : List Expr} {k : Nat} {f : Addr} {fd : FuncData} {ps : List Str} {sp : Sp} {x : Str} {p : Pos} {t : TA}
theorem FnG.call {pins : List (Addr × Obj)} {σ : L2.St} {H : Hp} {s : Shared} {Q : VK} {us : List Value} {vs : List V} {E : XK} (F : FnG X.prog X.w X.K X.mg X.base k f fd ps sp) (hgd : X.A.guards = some []) (hr : Room k X.A) (hb : Binds X.K fd ps []) (I : Inv X pins σ H s) (r : Vals vs us) (h : sp vs H Q E) :
    wpAny (model X.prog X.w) X.A (call (.ref f) us) (EP X pins σ Q) X.xe s := by
  have hl : (us ++ []).length = ps.length := by rw [List.append_nil, ← r.length]; exact F.len _ _ _ _ h
  have hbd := hb s us I.kIn hl
  rw [List.append_nil] at hbd
  refine wpAny_call (codeAny_mono (F.run X.A X.stack s H ⟨us, []⟩ us vs Q E hgd hr I.env0 hbd r h) ?_)
  intro res s' post
  cases res with
  | error er => exact (show False from post).elim
  | ok fl =>
    cases fl with
    | ret u => exact I.after post
    | next => exact (show False from post).elim
    | brk => exact (show False from post).elim
    | cont => exact (show False from post).elim
theorem pe_callG {E : XK} (F : FnG X.prog X.w X.K X.mg X.base k f fd ps sp) (hgd : X.A.guards = some []) (hr : Room k X.A) (hg : Gl X x) (hm : X.mg x = some (.ref f)) (hk : PySem.W.keepIn X.K (.ref f) = true) (hb : Binds X.K fd ps [])
    (ha : PA X (e :: es) t) (hdb : (x == ("__debug__" : Str)) = false) (he : starEach (e :: es) X.env = (false, eval e X.env) :: starEach es X.env) (hpl : (backTo pos (starEach es X.env)).any (·.1) = false) :
    PE X (.Call (.Name x p) (e :: es) [] pos) (tCall sp [] E t) := by
  constructor
  intro pins s σ H Q I h
  refine wpAny_Call_Name_kw (ld_glob I hg hm ?_ hdb)
  refine PySem.W.callWith_K (h₀ := X.base) I.ok.mod.kin hk (thn (ha.run pos pins s σ H _ I h) ?_) he hpl
  rintro us s1 ⟨vs, H1, I1, r, q⟩
  rw [List.append_nil] at q
  exact ⟨I1.kIn, F.call hgd hr hb I1 r q⟩
theorem de_callG {m : List PyData → Res PyData} {n : Nat} {g : An} (F : FnG X.prog X.w X.K X.mg X.base k f fd ps (spM m n X.K)) (hgd : X.A.guards = some []) (hr : Room k X.A) (hg : Gl X x) (hm : X.mg x = some (.ref f)) (hk : PySem.W.keepIn X.K (.ref f) = true) (hb : Binds X.K fd ps [])
    (ha : DA X (e :: es) g) (hs : starEach (e :: es) X.env = (false, eval e X.env) :: starEach es X.env := by rfl) (hpl : (backTo pos (starEach es X.env)).any (·.1) = false := by rfl) (hd : (x == ("__debug__" : Str)) = false := by decide) :
    DE X (.Call (.Name x p) (e :: es) [] pos) (dApp (gN n m) g) := by
  obtain ⟨t, pa, ev⟩ := ha
  exact ⟨_, pe_callG (E := E0) F hgd hr hg hm hk hb pa hd hs hpl, ev_call ev⟩
theorem de_callPG {m : PyData → List PyData → Res (PyData × PyData)} {n : Nat} {y : Str} {p2 : Pos} {g : An} (i : Nat) (F : FnG X.prog X.w X.K X.mg X.base k f fd ps (spP m n X.K)) (hgd : X.A.guards = some []) (hr : Room k X.A) (hg : Gl X x) (hm : X.mg x = some (.ref f)) (hk : PySem.W.keepIn X.K (.ref f) = true) (hb : Binds X.K fd ps [])
    (ha : DA X es g) (hN : X.N[i]? = some y := by rfl) (hv : Vis X.env.scope y := by first | exact Or.inl rfl | exact Or.inr (Or.inl rfl) | exact Or.inr (Or.inr rfl))
    (hs : starEach (.Name y p2 :: es) X.env = (false, eval (.Name y p2) X.env) :: starEach es X.env := by rfl) (hpl : (backTo pos (starEach es X.env)).any (·.1) = false := by rfl) (hd : (x == ("__debug__" : Str)) = false := by decide) (hdy : (y == ("__debug__" : Str)) = false := by decide)
    (hcd : (y == ("__classdict__" : Str)) = false := by decide) : DE X (.Call (.Name x p) (.Name y p2 :: es) [] pos) (dCallP m n i g) := by
  obtain ⟨t, pa, ev⟩ := ha
  exact ⟨_, pe_callG (E := E0) F hgd hr hg hm hk hb (pa_cons (pe_var hN hv hdy hcd) pa hs) hd hs hpl, ev_callP ev⟩
end
end EL
namespace EL
open PySem PySem.Spec PyProof.Rows L2

/-! ### enumerate(tuple) -/
theorem enumT_new (l : Addr) (items : Array Value) (n : Nat) (dct : Option Addr) (sl : Array (Option Value)) :
    Meets (Builtin.«enumerate.__new__» ⟨[.type "enumerate", .ref l], []⟩) (fun _ R s => s.heap.get? l = some { cls := .type "tuple", dict := dct, data := .seq items n, slots := sl } ∧
      R (.ok (.ret (.ref (s.heap.push { cls := .type "tuple_iterator", data := .fields #[.ref l, .int 0 0] }).objs.size)))
        { s with heap := (s.heap.push { cls := .type "tuple_iterator", data := .fields #[.ref l, .int 0 0] }).push { cls := .type "enumerate", data := .fields #[.none, .bool false, .ref s.heap.objs.size, rawInt 0, .none, .none] } }) :=
  .of_wp fun prog w A R s h => by
    obtain ⟨hp, gn, dr, tk, os⟩ := s
    obtain ⟨hl, h⟩ := h
    have hsub := PySem.sub_enumerate
    have hT : Heap.IsTuple (Shared.heap ⟨hp, gn, dr, tk, os⟩) l items := ⟨_, hl, rfl, n, rfl⟩
    wp_walk using PySem.AutoSeq1.wpAny_loadPart' hl
    refine wpAny_stack_any fun st => wpAny_pure ?_
    split
    · rename_i cl _ _ _ _ _
      cases (cl == Value.type "enumerate") <;>
        (wp_walk using PySem.AutoSeq1.wpAny_loadPart' hl, wpAny_pyIter_tuple hT; exact ⟨_, rfl, h⟩)
    · wp_walk using PySem.AutoSeq1.wpAny_loadPart' hl, wpAny_pyIter_tuple hT
      exact ⟨_, rfl, h⟩

section
variable {prog : Program} {w : World} {A : Around} {E : Value → Shared → Prop} {s : Shared}
theorem enumT_call {l : Addr} {items : Array Value} {Q : Value → Shared → Prop} (hL : s.heap.IsTuple l items)
    (h : ∀ h', IsEnum h' (s.heap.objs.size + 1) s.heap.objs.size 0 .none → h'.IsTupleIter s.heap.objs.size l 0 → h'.objs.size = s.heap.objs.size + 2 →
      (∀ b o, s.heap.get? b = some o → h'.get? b = some o) → Q (.ref (s.heap.objs.size + 1)) { s with heap := h' }) : wpAny (model prog w) A (call (.type "enumerate") [.ref l]) Q E s := by
  obtain ⟨⟨oc, od, dt, sl⟩, hl, e1, n, e2⟩ := hL
  simp only at e1 e2
  subst e1 e2
  refine callType_new F.called_enumerate (by decide) (F.typeCall_enumerate_1 _) (F.newCall_enumerate_1 _) (fun obj => F.args_object_init_2 obj _) F.entry_enumerate_new (enumT_new l items n od sl) ⟨hl, ?_⟩
  have sz : (s.heap.push { cls := .type "tuple_iterator", data := .fields #[.ref l, .int 0 0] }).objs.size = s.heap.objs.size + 1 := Heap.size_push ..
  show _ ∧ _
  rw [sz]
  have made : IsEnum ((s.heap.push { cls := .type "tuple_iterator", data := .fields #[.ref l, .int 0 0] }).push { cls := .type "enumerate", data := .fields #[.none, .bool false, .ref s.heap.objs.size, rawInt 0, .none, .none] }) (s.heap.objs.size + 1) s.heap.objs.size 0 .none := by
    have z := Heap.get?_push_size (s.heap.push { cls := .type "tuple_iterator", data := .fields #[.ref l, .int 0 0] }) (o := { cls := .type "enumerate", data := .fields #[.none, .bool false, .ref s.heap.objs.size, rawInt 0, .none, .none] }) rfl
    rw [sz] at z
    exact z
  exact ⟨⟨_, made, rfl⟩, h _ made ⟨_, Heap.get?_push_of_some _ (Heap.get?_push_size _ rfl), rfl, rfl⟩ (by rw [Heap.size_push, sz]) fun b o q => Heap.get?_push_of_some _ (Heap.get?_push_of_some _ q)⟩
end
/-- the tuple at a, each item in a new pair -/
def ItE (K : PySem.W.Frag) (a : Addr) : It :=
  ⟨fun i H => ∃ (xs : List V) (x : V), SqT K H a xs ∧ xs[i]? = some x, fun i H v H' => ∃ T x, v = .ref T ∧ H T = none ∧ H' = upd H T (.tup [.int (i : Nat), x]) ∧ ∀ xs, SqT K H a xs → xs[i]? = some x, fun i H => ∃ xs : List V, SqT K H a xs ∧ xs.length = i⟩
theorem turn_enumT {P : Program} {w : World} {K : PySem.W.Frag} {elts : List Expr} {kk : Nat} {tpos : Pos} (a e it : Addr) : Turn P w K (.Tuple elts kk tpos) (ItE K a) [e, it] e (fun i h => (∃ old, IsEnum h e it ((i : Nat) : Int) old) ∧ h.IsTupleIter it a i ∧ e ≠ it) where
  mem := by simp
  obj := fun i h st b hb => by
    obtain ⟨⟨old, he⟩, ⟨o, ho, _, hd⟩, _⟩ := st
    rcases (show b = e ∨ b = it by simpa using hb) with rfl | rfl
    · exact ⟨_, he, fun v q => nomatch q⟩
    · exact ⟨o, ho, fun v q => by rw [hd] at q; cases q⟩
  keep := fun i h h' st k => let ⟨⟨old, he⟩, hi, hne⟩ := st; ⟨⟨old, k e (by simp) _ he⟩, hi.at (fun o q => k it (by simp) o q), hne⟩
  item := by
    intro X hP hw hK hc i pins s σ H E I hf st hg
    subst hP hw hK
    obtain ⟨⟨old, he⟩, hit, hne⟩ := st
    obtain ⟨xs, x, hq, hx⟩ := hg
    obtain ⟨its, rv, tp, hz⟩ := I.tuple hq
    obtain ⟨u, hu, ru⟩ := rv.get hx
    have hel : e < s.heap.objs.size := Heap.lt_size he
    have hil : it < s.heap.objs.size := by obtain ⟨_, q, _⟩ := hit; exact Heap.lt_size q
    have tp' : s.heap.IsTuple a its.toArray := tp
    have nea : a ≠ it := fun z => by
      obtain ⟨o, ho, hco, _⟩ := hit
      obtain ⟨o2, ho2, hc2, _⟩ := tp'
      rw [z, ho] at ho2
      cases ho2
      rw [hco] at hc2
      exact absurd (Value.type.inj hc2) (by decide)
    have nee : e ≠ a := fun z => by
      obtain ⟨o2, ho2, hc2, _⟩ := tp'
      rw [← z] at ho2
      have he' : s.heap.get? e = some _ := he
      rw [he'] at ho2
      cases ho2
      exact absurd (Value.type.inj hc2) (by decide)
    have hlt : i < its.toArray.size := by
      have := (List.getElem?_eq_some_iff.mp hu).1
      simpa using this
    refine wpAny_pyNext_enum_itemD (Draws.tuple (prog := X.prog) (w := X.w) (A := X.A.in1) (I.ok.hd hc) it a nea its.toArray) he ⟨hit, tp'⟩ hlt hne (by simp [hne, nee]) fun y h' tk hy ho hst hT hsz hk => ?_
    have ey : y = u := by
      rw [List.getElem?_toArray, hu] at hy
      exact (Option.some.inj hy).symm
    subst ey
    refine ⟨_, rfl, wpAny_letOwnedTupleGo_enum (s := { s with heap := h', toks := tk + 1 }) ho fun h'' he' sb => ?_⟩
    have hT2 : h''.get? s.heap.objs.size = some { cls := .type "tuple", data := .seq #[.int i tk, y] } := (sb.2 _ (Nat.ne_of_gt hel)).trans hT
    have new : ObjOk X.prog X.w (upd H s.heap.objs.size (.tup [.int (i : Nat), x])) h'' s.heap.objs.size (.tup [.int (i : Nat), x]) :=
      ⟨by show 2 ≤ sizeLine; decide, [.int i tk, y], .cons ⟨_, rfl⟩ (.cons ru .nil), ⟨_, hT2, rfl, _, rfl⟩⟩
    have I1 : Inv X pins σ (upd H s.heap.objs.size (.tup [.int (i : Nat), x])) { s with heap := h'', toks := tk + 1 } :=
      I.turnedNew (ch := [e, it]) (fun b ob hb q => (sb.2 b (fun z => hb (by simp [z]))).trans (hk b ob (fun z => hb (by simp [z])) (fun z => hb (by simp [z])) q)) hf (Nat.le_refl _) new
    refine ⟨.ref s.heap.objs.size, _, I1, rfl, ⟨_, x, rfl, I.hok.fresh (Nat.le_refl _), rfl, fun ys hy => by rw [I.tuple_inj hy hq]; exact hx⟩, ⟨⟨y, ?_⟩, hst.1.at (fun o q => (sb.2 it (Ne.symm hne)).trans q), hne⟩, fun b hb => ?_⟩
    · rw [show ((i + 1 : Nat) : Int) = (i : Int) + 1 by omega]; exact he'
    · have hb' : b < s.heap.objs.size := by
        rcases (show b = e ∨ b = it by simpa using hb) with rfl | rfl
        · exact hel
        · exact hil
      rw [upd_ne (Nat.ne_of_lt hb')]
      exact (hf b hb).1
  done := by
    intro X hP hw hK hc i pins s σ H E I hf st hg
    subst hP hw hK
    obtain ⟨⟨old, he⟩, hit, hne⟩ := st
    obtain ⟨xs, hq, hx⟩ := hg
    obtain ⟨its, rv, tp, hz⟩ := I.tuple hq
    have tp' : s.heap.IsTuple a its.toArray := tp
    obtain ⟨f0, f1, f2, f3, f4, f5⟩ := hf it (by simp)
    have nea : a ≠ it := fun z => by
      obtain ⟨o, ho, hco, _⟩ := hit
      obtain ⟨o2, ho2, hc2, _⟩ := tp'
      rw [z, ho] at ho2
      cases ho2
      rw [hco] at hc2
      exact absurd (Value.type.inj hc2) (by decide)
    have hl := rv.length
    have hs : i = its.toArray.size := by rw [List.size_toArray]; omega
    refine wpAny_pyNext_enum_endD (Draws.tuple (prog := X.prog) (w := X.w) (A := X.A.in1) (I.ok.hd hc) it a nea its.toArray) he ⟨?_, tp'⟩ fun h' eb => ⟨rfl, I.turned (t' := s.toks) (fun b o hb q => eb b o hb q) f0 f1 f3 f4 f5⟩
    rw [← hs]; exact hit
  self := fun A i s Q E st h => let ⟨⟨_, he⟩, _⟩ := st; wpAny_pyIter_enum he h

def iEnT (K : PySem.W.Frag) (ta : TA) : TI := fun σ H R => ta σ H fun vs H1 => ∃ a xs, vs = [.ref a] ∧ SqT K H1 a xs ∧ R (ItE K a) H1
theorem pi_enumT {X : Cx} {e : Expr} {ta : TA} {p pos tpos : Pos} {elts : List Expr} {kk : Nat} (hg : Gl X "enumerate") (hm : X.mg "enumerate" = none) (ha : PA X [e] ta) (hs : starEach [e] X.env = [(false, eval e X.env)] := by rfl) :
    PI X (.Tuple elts kk tpos) (.Call (.Name "enumerate" p) [e] [] pos) (iEnT X.K ta) := by
  constructor
  intro pins s σ H R I h
  refine Call_ (ld_blt I hg hm boot_enumerate (PyProof.Rows.callWith_type1 (thn (ha.run pos pins s σ H _ I h) ?_) hs rfl))
  rintro us s1 ⟨vs, H1, I1, r1, a, xs, rfl, hq, q⟩
  cases r1 with
  | cons r rr =>
    cases rr
    cases r
    obtain ⟨its, rv, tp, hz⟩ := I1.tuple hq
    refine enumT_call (show s1.heap.IsTuple a its.toArray from tp) fun h' he hit hsz hk => wpAny_pyIter_enum he ?_
    have I2 : Inv X pins σ H1 { s1 with heap := h' } := I1.kept (t' := s1.toks) hk
    refine ⟨s1.heap.objs.size + 1, [s1.heap.objs.size + 1, s1.heap.objs.size], _, _, H1, rfl, I2, turn_enumT a (s1.heap.objs.size + 1) s1.heap.objs.size, ⟨⟨.none, he⟩, hit, Nat.succ_ne_self _⟩, ?_, q⟩
    intro b hb
    have hle : s1.heap.objs.size ≤ b := by
      rcases (show b = s1.heap.objs.size + 1 ∨ b = s1.heap.objs.size by simpa using hb) with z | z
      · rw [z]; exact Nat.le_add_right _ _
      · rw [z]; exact Nat.le_refl _
    exact I1.fpOk hle (I1.hok.fresh hle)

/-! ### enumerate, zip as data -/
def enumD : Nat → List PyData → List PyData
  | _, [] => []
  | k, d :: ds => .tuple [.int (k : Nat), d] :: enumD (k + 1) ds
theorem enumD_len : ∀ (ds : List PyData) (k : Nat), (enumD k ds).length = ds.length
  | [], _ => rfl
  | _ :: ds, k => by simp only [enumD, List.length_cons, enumD_len ds (k + 1)]
theorem enumD_get : ∀ (ds : List PyData) (k i : Nat), (enumD k ds)[i]? = (ds[i]?).map fun d => .tuple [.int ((k + i : Nat) : Int), d]
  | [], _, _ => by simp [enumD]
  | d :: ds, k, 0 => by simp [enumD]
  | d :: ds, k, i + 1 => by
    simp only [enumD, List.getElem?_cons_succ]
    rw [enumD_get ds (k + 1) i]
    congr 1
    funext d
    rw [show k + 1 + i = k + (i + 1) by omega]
def gEnum : List PyData → Res (List PyData)
  | [.list ds] => .ok (enumD 0 ds)
  | [.tuple ds] => .ok (enumD 0 ds)
  | _ => .bad
def zipD : List PyData → List PyData → List PyData
  | a :: as, b :: bs => .tuple [a, b] :: zipD as bs
  | _, _ => []
theorem zipD_len : ∀ (as bs : List PyData), (zipD as bs).length = min as.length bs.length
  | [], bs => by simp [zipD]
  | a :: as, [] => by simp [zipD]
  | a :: as, b :: bs => by simp only [zipD, List.length_cons, zipD_len as bs]; omega
theorem zipD_get : ∀ (as bs : List PyData) (i : Nat) (d : PyData), (zipD as bs)[i]? = some d → ∃ x y, as[i]? = some x ∧ bs[i]? = some y ∧ d = .tuple [x, y]
  | [], bs, i, d, h => by simp [zipD] at h
  | a :: as, [], i, d, h => by simp [zipD] at h
  | a :: as, b :: bs, 0, d, h => by
    simp only [zipD, List.getElem?_cons_zero, Option.some.injEq] at h
    exact ⟨a, b, rfl, rfl, h.symm⟩
  | a :: as, b :: bs, i + 1, d, h => by
    simp only [zipD, List.getElem?_cons_succ] at h
    obtain ⟨x, y, h1, h2, h3⟩ := zipD_get as bs i d h
    exact ⟨x, y, by simpa using h1, by simpa using h2, h3⟩
def gZip : List PyData → Res (List PyData)
  | [.list as, .list bs] => .ok (zipD as bs)
  | [.tuple as, .tuple bs] => .ok (zipD as bs)
  | _ => .bad
section
variable {X : Cx} {pos tpos : Pos} {a b e : Expr} {es elts : List Expr} {kk : Nat}
theorem ita_of {K : PySem.W.Frag} {f : An} {g : List PyData → Res (List PyData)} {t : TA} {B : (It → Hp → Prop) → List V → Hp → Prop} (ev : EvA K t f)
    (h : ∀ (R : It → Hp → Prop) (vs : List V) (H1 : Hp) (O : List Addr) (ds rs : List PyData), g ds = .ok rs → RpA K O H1 vs ds → (∀ a ∈ O, H1 a ≠ none) → (rs.length ≤ sizeLine → ∀ J, ItD K O H1 J rs → R J H1) → B R vs H1) : EvI K (fun σ H R => t σ H fun vs H1 => B R vs H1) (iRange g f) := by
  intro c O H σ en R hK rs hp
  refine ev c O H σ en _ hK rs ?_
  unfold iRange bnd at hp
  generalize hr : f en = r at hp
  cases r with
  | exc _ _ => exact hp
  | bad => exact hp
  | ok q =>
    obtain ⟨ds, en1⟩ := q
    have hp' : (match (lft (g ds) en1 : Res (List PyData × En)) with
      | .ok (ds, en') => ∀ J H', RS c O H' σ en' → Go σ O H en H' en' → ds.length ≤ sizeLine → ItD K O H' J ds → R J H'
      | _ => False) := hp
    intro vs H1 rs1 go1 ra
    cases q2 : g ds with
    | exc _ _ => rw [q2] at hp'; exact hp'.elim
    | bad => rw [q2] at hp'; exact hp'.elim
    | ok rs' =>
      rw [q2] at hp'
      rw [hK] at ra
      exact h R vs H1 O ds rs' q2 ra rs1.live fun hz J it => hp' J H1 rs1 go1 hz it
theorem it_enumL {K : PySem.W.Frag} {O : List Addr} {H : Hp} {a : Addr} {xs : List V} {ds : List PyData} (h : H a = some (.lst xs)) (n : a ∉ O) (r : RpA K O H xs ds) : ItD K O H (Ite K a) (enumD 0 ds) := by
  intro i O' H1 s l
  have q : SqL K H1 a xs := .inl (.inl (stp_out s n h).2)
  refine ⟨fun d hd => ?_, fun hi => ⟨xs, q, by rw [r.length, hi, enumD_len]; exact Nat.le_refl _⟩⟩
  rw [enumD_get, Option.map_eq_some_iff] at hd
  obtain ⟨d0, hd0, rfl⟩ := hd
  obtain ⟨v, h1, h2⟩ := r.getD hd0
  refine ⟨⟨xs, v, q, h1⟩, fun x H' y => ?_⟩
  obtain ⟨T, x1, rfl, hT, rfl, y⟩ := y
  have := y xs q
  rw [h1] at this
  cases this
  refine ⟨same_new hT, Rp.newT l hT (by show 2 ≤ sizeLine; decide) (.cons ?_ (.cons (h2.stp s) .nil))⟩
  rw [Nat.zero_add]
  exact .int _
theorem it_enumT {K : PySem.W.Frag} {O : List Addr} {H : Hp} {a : Addr} {xs : List V} {ds : List PyData} (h : ∀ O' H', Stp O H O' H' → SqT K H' a xs) (r : RpA K O H xs ds) : ItD K O H (ItE K a) (enumD 0 ds) := by
  intro i O' H1 s l
  have q : SqT K H1 a xs := h O' H1 s
  refine ⟨fun d hd => ?_, fun hi => ⟨xs, q, by rw [r.length, hi, enumD_len]⟩⟩
  rw [enumD_get, Option.map_eq_some_iff] at hd
  obtain ⟨d0, hd0, rfl⟩ := hd
  obtain ⟨v, h1, h2⟩ := r.getD hd0
  refine ⟨⟨xs, v, q, h1⟩, fun x H' y => ?_⟩
  obtain ⟨T, x1, rfl, hT, rfl, y⟩ := y
  have := y xs q
  rw [h1] at this
  cases this
  refine ⟨same_new hT, Rp.newT l hT (by show 2 ≤ sizeLine; decide) (.cons ?_ (.cons (h2.stp s) .nil))⟩
  rw [Nat.zero_add]
  exact .int _
theorem di_enum {p : Pos} {f : An} (hg : Gl X "enumerate") (hm : X.mg "enumerate" = none) (ha : DA X [e] f) (hs : starEach [e] X.env = [(false, eval e X.env)] := by rfl) : DI X (.Tuple elts kk tpos) (.Call (.Name "enumerate" p) [e] [] pos) (iRange gEnum f) := by
  obtain ⟨t, pa, ev⟩ := ha
  have pi : PI X (.Tuple elts kk tpos) (.Call (.Name "enumerate" p) [e] [] pos) (fun σ H R => t σ H fun vs H1 => (∃ a xs, vs = [V.ref a] ∧ SqL X.K H1 a xs ∧ R (Ite X.K a) H1) ∨ ∃ a xs, vs = [V.ref a] ∧ SqT X.K H1 a xs ∧ R (ItE X.K a) H1) := by
    constructor
    intro pins s σ H R I h
    refine Call_ (ld_blt I hg hm boot_enumerate (PyProof.Rows.callWith_type1 (thn (pa.run pos pins s σ H _ I h) ?_) hs rfl))
    rintro us s1 ⟨vs, H1, I1, r1, q1 | q1⟩
    · obtain ⟨a, xs, rfl, hq, q⟩ := q1
      cases r1 with
      | cons r rr =>
        cases rr
        cases r
        obtain ⟨its, rv, pl, hz⟩ := I1.list hq
        refine call_enumerate_list pl.isList fun h' he hit hsz hk => wpAny_pyIter_enum he ?_
        refine ⟨s1.heap.objs.size + 1, [s1.heap.objs.size + 1, s1.heap.objs.size], _, _, H1, rfl, I1.kept (t' := s1.toks) hk, turn_enum a (s1.heap.objs.size + 1) s1.heap.objs.size, ⟨⟨.none, he⟩, hit, Nat.succ_ne_self _⟩, ?_, q⟩
        intro b hb
        have hle : s1.heap.objs.size ≤ b := by
          rcases (show b = s1.heap.objs.size + 1 ∨ b = s1.heap.objs.size by simpa using hb) with z | z
          · rw [z]; exact Nat.le_add_right _ _
          · rw [z]; exact Nat.le_refl _
        exact I1.fpOk hle (I1.hok.fresh hle)
    · obtain ⟨a, xs, rfl, hq, q⟩ := q1
      cases r1 with
      | cons r rr =>
        cases rr
        cases r
        obtain ⟨its, rv, tp, hz⟩ := I1.tuple hq
        refine enumT_call (show s1.heap.IsTuple a its.toArray from tp) fun h' he hit hsz hk => wpAny_pyIter_enum he ?_
        refine ⟨s1.heap.objs.size + 1, [s1.heap.objs.size + 1, s1.heap.objs.size], _, _, H1, rfl, I1.kept (t' := s1.toks) hk, turn_enumT a (s1.heap.objs.size + 1) s1.heap.objs.size, ⟨⟨.none, he⟩, hit, Nat.succ_ne_self _⟩, ?_, q⟩
        intro b hb
        have hle : s1.heap.objs.size ≤ b := by
          rcases (show b = s1.heap.objs.size + 1 ∨ b = s1.heap.objs.size by simpa using hb) with z | z
          · rw [z]; exact Nat.le_add_right _ _
          · rw [z]; exact Nat.le_refl _
        exact I1.fpOk hle (I1.hok.fresh hle)
  refine ⟨_, pi, ita_of ev ?_⟩
  intro R vs H1 O ds rs hg ra lv hR
  cases ra with
  | nil => cases hg
  | @cons v vs d ds rv rt =>
    cases rt with
    | cons _ _ => cases d <;> cases hg
    | nil =>
      cases d with
      | list as =>
        cases hg
        obtain ⟨a, xs, rfl, h1, h2, h3, h4⟩ := rv.lstI
        exact .inl ⟨a, xs, rfl, .inl (.inl h1), hR (by rw [enumD_len, ← h4.length]; exact h3) _ (it_enumL h1 h2 h4)⟩
      | tuple as =>
        cases hg
        obtain ⟨a, xs, rfl, h1, h3, h4⟩ := rv.tupS
        exact .inr ⟨a, xs, rfl, h1 _ _ .refl, hR (by rw [enumD_len, ← h4.length]; exact h3) _ (it_enumT h1 h4)⟩
      | _ => cases hg
theorem di_zip {e2 : Expr} {p : Pos} {f : An} (hg : Gl X "zip") (hm : X.mg "zip" = none) (ha : DA X [e, e2] f) (hs : starEach [e, e2] X.env = (false, eval e X.env) :: starEach [e2] X.env := by rfl) (hpl : (backTo pos (starEach [e2] X.env)).any (·.1) = false := by rfl) :
    DI X (.Tuple elts kk tpos) (.Call (.Name "zip" p) [e, e2] [] pos) (iRange gZip f) := by
  obtain ⟨t, pa, ev⟩ := ha
  refine ⟨_, RZ.pi_zipA hg hm pa hs hpl, ita_of ev ?_⟩
  intro R vs H1 O ds rs hg ra lv hR
  cases ra with
  | nil => cases hg
  | @cons v vs d ds rv rt =>
    cases rt with
    | nil => cases d <;> cases hg
    | @cons v2 vs2 d2 ds2 rv2 rt2 =>
      cases rt2 with
      | cons _ _ => cases d <;> cases d2 <;> cases hg
      | nil =>
        cases d with
        | list as =>
          cases d2 with
          | list bs =>
            cases hg
            obtain ⟨a, xs, rfl, h1, h2, h3, h4⟩ := rv.lstI
            obtain ⟨b, ys, rfl, g1, g2, g3, g4⟩ := rv2.lstI
            refine ⟨a, b, xs, ys, rfl, .inl ⟨.inl (.inl h1), .inl (.inl g1), hR ?_ _ ?_⟩⟩
            · rw [zipD_len, ← h4.length, ← g4.length]; omega
            · intro i O' H2 s l
              have q1 : SqL X.K H2 a xs := .inl (.inl (stp_out s h2 h1).2)
              have q2 : SqL X.K H2 b ys := .inl (.inl (stp_out s g2 g1).2)
              refine ⟨fun d hd => ?_, fun hi => ⟨xs, ys, q1, q2, ?_⟩⟩
              · obtain ⟨x, y, e1, e2, rfl⟩ := zipD_get as bs i d hd
                obtain ⟨v1, k1, k2⟩ := h4.getD e1
                obtain ⟨v2, l1, l2⟩ := g4.getD e2
                refine ⟨⟨xs, ys, v1, v2, q1, q2, k1, l1⟩, fun z H' yl => ?_⟩
                obtain ⟨T, z1, z2, rfl, hT, rfl, f1, f2⟩ := yl
                have e1 := f1 xs q1
                have e2 := f2 ys q2
                rw [k1] at e1
                rw [l1] at e2
                cases e1
                cases e2
                exact ⟨same_new hT, Rp.newT l hT (by show 2 ≤ sizeLine; decide) (.cons (k2.stp s) (.cons (l2.stp s) .nil))⟩
              · rw [zipD_len] at hi
                have := h4.length
                have := g4.length
                omega
          | _ => cases hg
        | tuple as =>
          cases d2 with
          | tuple bs =>
            cases hg
            obtain ⟨a, xs, rfl, h1, h3, h4⟩ := rv.tupS
            obtain ⟨b, ys, rfl, g1, g3, g4⟩ := rv2.tupS
            refine ⟨a, b, xs, ys, rfl, .inr ⟨h1 _ _ .refl, g1 _ _ .refl, hR ?_ _ ?_⟩⟩
            · rw [zipD_len, ← h4.length, ← g4.length]; omega
            · intro i O' H2 s l
              have q1 : SqT X.K H2 a xs := h1 _ _ s
              have q2 : SqT X.K H2 b ys := g1 _ _ s
              refine ⟨fun d hd => ?_, fun hi => ⟨xs, ys, q1, q2, ?_⟩⟩
              · obtain ⟨x, y, e1, e2, rfl⟩ := zipD_get as bs i d hd
                obtain ⟨v1, k1, k2⟩ := h4.getD e1
                obtain ⟨v2, l1, l2⟩ := g4.getD e2
                refine ⟨⟨xs, ys, v1, v2, q1, q2, k1, l1⟩, fun z H' yl => ?_⟩
                obtain ⟨T, z1, z2, rfl, hT, rfl, f1, f2⟩ := yl
                have e1 := f1 xs q1
                have e2 := f2 ys q2
                rw [k1] at e1
                rw [l1] at e2
                cases e1
                cases e2
                exact ⟨same_new hT, Rp.newT l hT (by show 2 ≤ sizeLine; decide) (.cons (k2.stp s) (.cons (l2.stp s) .nil))⟩
              · rw [zipD_len] at hi
                have := h4.length
                have := g4.length
                omega
          | _ => cases hg
        | _ => cases hg
end
end EL
namespace EL
open PySem PySem.Spec PyProof.Rows L2

/-! ### dicts as data -/
def keyOf : PyData → Option Key
  | .int i => some (.inl i)
  | .str x => some (.inr x)
  | _ => none
def lookD (kds : List (PyData × PyData)) (k : Key) : Option PyData := (kds.find? fun p => decide (keyOf p.1 = some k)).map (·.2)
def putD (kds : List (PyData × PyData)) (k : Key) (d : PyData) : List (PyData × PyData) :=
  if (kds.any fun p => decide (keyOf p.1 = some k)) = true then kds.map (fun p => if keyOf p.1 = some k then (p.1, d) else p) else kds ++ [(kD k, d)]
theorem keyOf_kD (k : Key) : keyOf (kD k) = some k := by cases k <;> rfl
section
variable {K : PySem.W.Frag} {O : List Addr} {H : Hp}
theorem dec_kD (k k' : Key) : decide (keyOf (kD k) = some k') = decide (k = k') := by
  rw [keyOf_kD]
  by_cases h : k = k'
  · rw [h]; simp
  · rw [decide_eq_false h, decide_eq_false (fun e => h (Option.some.inj e))]
theorem RpD.look {k : Key} : ∀ {kvs : List (Key × V)} {kds : List (PyData × PyData)}, RpD K O H kvs kds → (valV kvs k = none ∧ lookD kds k = none) ∨ ∃ v d, valV kvs k = some v ∧ lookD kds k = some d ∧ Rp K O H v d
  | _, _, .nil => .inl ⟨rfl, rfl⟩
  | _, _, .cons (k := k0) (v := v0) (d := d0) r t => by
    by_cases e : k0 = k
    · refine .inr ⟨v0, d0, ?_, ?_, r⟩
      · unfold valV; rw [List.find?_cons]; simp [e]
      · unfold lookD; rw [List.find?_cons, dec_kD]; simp [e]
    · have h := RpD.look (k := k) t
      have e1 : ∀ (r : List (Key × V)), valV ((k0, v0) :: r) k = valV r k := fun r => by unfold valV; rw [List.find?_cons]; simp [e]
      have e2 : ∀ (r : List (PyData × PyData)), lookD ((kD k0, d0) :: r) k = lookD r k := fun r => by unfold lookD; rw [List.find?_cons, dec_kD]; simp [e]
      rw [e1, e2]; exact h
theorem RpD.append : ∀ {a b : List (Key × V)} {x y : List (PyData × PyData)}, RpD K O H a x → RpD K O H b y → RpD K O H (a ++ b) (x ++ y)
  | _, _, _, _, .nil, h => h
  | _, _, _, _, .cons a b, h => .cons a (RpD.append b h)
theorem RpD.any {k : Key} : ∀ {kvs : List (Key × V)} {kds : List (PyData × PyData)}, RpD K O H kvs kds → (kvs.any fun kv => decide (kv.1 = k)) = kds.any fun p => decide (keyOf p.1 = some k)
  | _, _, .nil => rfl
  | _, _, .cons (k := k0) r t => by simp only [List.any_cons, dec_kD, RpD.any t]
theorem RpD.map {k : Key} {v : V} {d : PyData} (r : Rp K O H v d) : ∀ {kvs : List (Key × V)} {kds : List (PyData × PyData)}, RpD K O H kvs kds → RpD K O H (kvs.map (fun kv => if kv.1 = k then (kv.1, v) else kv)) (kds.map (fun p => if keyOf p.1 = some k then (p.1, d) else p))
  | _, _, .nil => .nil
  | _, _, .cons (k := k0) q t => by
    rw [List.map_cons, List.map_cons]
    simp only [keyOf_kD, Option.some.injEq]
    by_cases e : k0 = k
    · rw [if_pos e, if_pos e]; exact .cons r (RpD.map r t)
    · rw [if_neg e, if_neg e]; exact .cons q (RpD.map r t)
theorem RpD.put {k : Key} {v : V} {d : PyData} (r : Rp K O H v d) {kvs : List (Key × V)} {kds : List (PyData × PyData)} (h : RpD K O H kvs kds) : RpD K O H (L2.putK kvs k v) (putD kds k d) := by
  unfold L2.putK putD
  rw [h.any]
  split
  · exact h.map r
  · exact h.append (.cons r .nil)
def mergeD (kds more : List (PyData × PyData)) : List (PyData × PyData) := more.foldl (fun acc p => match keyOf p.1 with
  | some k => putD acc k p.2
  | none => acc) kds
theorem RpD.merge : ∀ {more : List (Key × V)} {ms : List (PyData × PyData)} {kvs : List (Key × V)} {kds : List (PyData × PyData)}, RpD K O H more ms → RpD K O H kvs kds → RpD K O H (mergeK kvs more) (mergeD kds ms)
  | _, _, _, _, .nil, h => h
  | _, _, _, _, .cons (k := k0) r t, h => by
    unfold mergeK mergeD
    rw [List.foldl_cons, List.foldl_cons]
    simp only [keyOf_kD]
    exact RpD.merge t (h.put r)
theorem RpD.length : ∀ {kvs : List (Key × V)} {kds : List (PyData × PyData)}, RpD K O H kvs kds → kvs.length = kds.length
  | _, _, .nil => rfl
  | _, _, .cons _ t => by simp [RpD.length t]
theorem Rp.key {v : V} {d : PyData} {k : Key} (r : Rp K O H v d) (h : keyOf d = some k) : v = kV k := by
  cases r <;> simp [keyOf] at h <;> subst h <;> rfl
end
section
variable {X : Cx} {pos : Pos} {a b e : Expr} {es : List Expr}
/-- two readings of one expression, chosen by what its parts are -/
theorem pe_or2 {e : Expr} {t1 t2 : TE} (h1 : PE X e t1) (h2 : PE X e t2) : PE X e (fun σ H Q => t1 σ H Q ∨ t2 σ H Q) := ⟨fun pins s σ H Q I h => h.elim (h1.run pins s σ H Q I) (h2.run pins s σ H Q I)⟩
/-- x[k] of a sequence or a dict -/
def gIxA : PyData → PyData → Res PyData
  | .dict kds, k => match keyOf k with
    | some q => (match lookD kds q with
      | some d => .ok d
      | none => .bad)
    | none => .bad
  | x, k => gIx x k
theorem gIxA_seq {x : PyData} (h : ∀ kds, x ≠ .dict kds) (k : PyData) : gIxA x k = gIx x k := by
  cases x with
  | dict kds => exact absurd rfl (h kds)
  | _ => rfl
theorem de_ixA {fa fb : Dn} (hu : X.A.units + 1 < cLine) (ha : DE X a fa) (hb : DE X b fb) (hs : PlainIx b := by exact fun _ _ => rfl) : DE X (.Subscript a b pos) (dOp gIxA fa fb) := by
  obtain ⟨ta, pa, ea⟩ := ha
  obtain ⟨tb, pb, eb⟩ := hb
  refine ⟨_, pe_or2 (pe_ix ix_seq pa pb hs) (pe_dget hu pa pb hs), ?_⟩
  intro c O H σ en Q hc rs h
  cases q1 : fa en with
  | exc _ _ => unfold dOp bnd at h; rw [q1] at h; exact h.elim
  | bad => unfold dOp bnd at h; rw [q1] at h; exact h.elim
  | ok p =>
    obtain ⟨dx, en1⟩ := p
    by_cases hd : ∃ kds, dx = .dict kds
    · obtain ⟨kds, rfl⟩ := hd
      refine .inr (ea c O H σ en _ hc rs (Po.bind h fun d1 en1' v1 H1 e1 rs1 k1 r1 h1 => ?_))
      rw [q1] at e1
      cases e1
      refine eb c O H1 σ en1 _ hc rs1 (Po.bind h1 fun d2 en2 v2 H2 _ rs2 k2 r2 h2 => ?_)
      have hv := PoV.of h2 rs2
      simp only [gIxA] at hv
      cases q : keyOf d2 with
      | none => rw [q] at hv; exact hv.elim
      | some k =>
        rw [q] at hv
        simp only at hv
        obtain ⟨x, kvs, rfl, g1, _, _, g4⟩ := (r1.keep k2.keep).dicI
        rcases g4.look (k := k) with ⟨_, z⟩ | ⟨v, d, z1, z2, z3⟩
        · rw [z] at hv; exact hv.elim
        · rw [z2] at hv
          exact ⟨x, v, rfl, .inl ⟨kvs, k, .inl g1, r2.key q, z1.symm⟩, hv.okE z3⟩
    · refine .inl ?_
      have h' : PoE c O H σ en (dOp gIx fa fb en) Q := by
        unfold dOp bnd at h ⊢
        rw [q1] at h ⊢
        simp only [Res.bind] at h ⊢
        simp only [gIxA_seq (fun kds e => hd ⟨kds, e⟩)] at h
        exact h
      exact ev_op gIx_ok ea eb c O H σ en Q hc rs h'
/-- k in d -/
def gInA : PyData → PyData → Res PyData
  | k, .dict kds => match keyOf k with
    | some q => .ok (.bool (lookD kds q).isSome)
    | none => .bad
  | x, y => gIn x y
def gNotInA : PyData → PyData → Res PyData
  | k, .dict kds => match keyOf k with
    | some q => .ok (.bool (!(lookD kds q).isSome))
    | none => .bad
  | x, y => gNotIn x y
theorem look_isSome {K : PySem.W.Frag} {O : List Addr} {H : Hp} {kvs : List (Key × V)} {kds : List (PyData × PyData)} (h : RpD K O H kvs kds) (k : Key) : (valV kvs k).isSome = (lookD kds k).isSome := by
  rcases h.look (k := k) with ⟨z1, z2⟩ | ⟨v, d, z1, z2, _⟩ <;> rw [z1, z2] <;> rfl
theorem ev_inA {K : PySem.W.Frag} {ta tb t : TE} {fa fb : Dn} {g gA : PyData → PyData → Res PyData} {neg : Bool} (hg : ∀ x y, (∀ kds, y ≠ .dict kds) → gA x y = g x y) (hgd : ∀ x kds, gA x (.dict kds) = match keyOf x with
      | some q => .ok (.bool (if neg then !(lookD kds q).isSome else (lookD kds q).isSome))
      | none => .bad) (ea : EvE K ta fa) (eb : EvE K tb fb) (h1 : EvE K t (dOp g fa fb)) :
    EvE K (fun σ H Q => t σ H Q ∨ ta σ H fun y H1 => tb σ H1 fun x H2 => ∃ a o, x = V.ref a ∧ DGet H2 a y o ∧ Q (V.bl (if neg then !o.isSome else o.isSome)) H2) (dOp gA fa fb) := by
  intro c O H σ en Q hc rs h
  cases q1 : fa en with
  | exc _ _ => unfold dOp bnd at h; rw [q1] at h; exact h.elim
  | bad => unfold dOp bnd at h; rw [q1] at h; exact h.elim
  | ok p =>
    obtain ⟨dx, en1⟩ := p
    cases q2 : fb en1 with
    | exc _ _ => unfold dOp bnd at h; rw [q1] at h; simp only [Res.bind] at h; rw [q2] at h; exact h.elim
    | bad => unfold dOp bnd at h; rw [q1] at h; simp only [Res.bind] at h; rw [q2] at h; exact h.elim
    | ok p2 =>
      obtain ⟨dy, en2⟩ := p2
      by_cases hd : ∃ kds, dy = .dict kds
      · obtain ⟨kds, rfl⟩ := hd
        refine .inr (ea c O H σ en _ hc rs (Po.bind h fun d1 en1' v1 H1 e1 rs1 k1 r1 h1 => ?_))
        rw [q1] at e1
        cases e1
        refine eb c O H1 σ en1 _ hc rs1 (Po.bind h1 fun d2 en2' v2 H2 e2 rs2 k2 r2 h2 => ?_)
        rw [q2] at e2
        cases e2
        have hv := PoV.of h2 rs2
        rw [hgd] at hv
        cases q : keyOf dx with
        | none => rw [q] at hv; exact hv.elim
        | some k =>
          rw [q] at hv
          obtain ⟨x, kvs, rfl, g1, _, _, g4⟩ := r2.dicI
          refine ⟨x, valV kvs k, rfl, .inl ⟨kvs, k, .inl g1, (r1.keep k2.keep).key q, rfl⟩, ?_⟩
          rw [look_isSome g4]
          exact PoV.okE hv (.bl _)
      · refine .inl (h1 c O H σ en Q hc rs ?_)
        unfold dOp bnd at h ⊢
        rw [q1] at h ⊢
        simp only [Res.bind] at h ⊢
        rw [q2] at h ⊢
        simp only [hg dx dy (fun kds e => hd ⟨kds, e⟩)] at h
        exact h
theorem de_inA {fa fb : Dn} (hu : X.A.units + 65 < cLine) (ha : DE X a fa) (hb : DE X b fb) (hm : behindInMarks .In b = false := by rfl) : DE X (.Compare a [.In] [b] pos) (dOp gInA fa fb) := by
  obtain ⟨ta, pa, ea⟩ := ha
  obtain ⟨tb, pb, eb⟩ := hb
  refine ⟨_, pe_or2 (pe_cmpR (op_inA hu) pa pb hm) (pe_cmp (pc_din (by omega) pa pb) hm), ?_⟩
  exact ev_inA (neg := false) (fun x y h => by cases y <;> first | rfl | exact absurd rfl (h _)) (fun x kds => by simp only [gInA]; cases keyOf x <;> rfl) ea eb (ev_op gIn_ok ea eb)
theorem de_notInA {fa fb : Dn} (hu : X.A.units + 65 < cLine) (ha : DE X a fa) (hb : DE X b fb) (hm : behindInMarks .NotIn b = false := by rfl) : DE X (.Compare a [.NotIn] [b] pos) (dOp gNotInA fa fb) := by
  obtain ⟨ta, pa, ea⟩ := ha
  obtain ⟨tb, pb, eb⟩ := hb
  refine ⟨_, pe_or2 (pe_cmpR (op_notInA hu) pa pb hm) (pe_cmp (pc_dnotin (by omega) pa pb) hm), ?_⟩
  exact ev_inA (neg := true) (fun x y h => by cases y <;> first | rfl | exact absurd rfl (h _)) (fun x kds => by simp only [gNotInA]; cases keyOf x <;> rfl) ea eb (ev_op gNotIn_ok ea eb)
/-- the same as a test -/
theorem pt_or2 {e : Expr} {t1 t2 : TT} (h1 : PT X e t1) (h2 : PT X e t2) : PT X e (fun σ H Q => t1 σ H Q ∨ t2 σ H Q) := ⟨fun pins s σ H Q I h => h.elim (h1.run pins s σ H Q I) (h2.run pins s σ H Q I)⟩
theorem dt_inA {fa fb : Dn} (hu : X.A.units + 65 < cLine) (ha : DE X a fa) (hb : DE X b fb) (hm : behindInMarks .In b = false := by rfl) : DT X (.Compare a [.In] [b] pos) (EL.tB (dOp gInA fa fb)) := by
  obtain ⟨ta, pa, ea⟩ := ha
  obtain ⟨tb, pb, eb⟩ := hb
  refine ⟨_, pt_or2 (pt_cmpR (op_inA hu) pa pb hm) (pt_cmp (pc_din (by omega) pa pb) hm), ?_⟩
  exact ev_test (ev_inA (neg := false) (fun x y h => by cases y <;> first | rfl | exact absurd rfl (h _)) (fun x kds => by simp only [gInA]; cases keyOf x <;> rfl) ea eb (ev_op gIn_ok ea eb))
theorem dt_notInA {fa fb : Dn} (hu : X.A.units + 65 < cLine) (ha : DE X a fa) (hb : DE X b fb) (hm : behindInMarks .NotIn b = false := by rfl) : DT X (.Compare a [.NotIn] [b] pos) (EL.tB (dOp gNotInA fa fb)) := by
  obtain ⟨ta, pa, ea⟩ := ha
  obtain ⟨tb, pb, eb⟩ := hb
  refine ⟨_, pt_or2 (pt_cmpR (op_notInA hu) pa pb hm) (pt_cmp (pc_dnotin (by omega) pa pb) hm), ?_⟩
  exact ev_test (ev_inA (neg := true) (fun x y h => by cases y <;> first | rfl | exact absurd rfl (h _)) (fun x kds => by simp only [gNotInA]; cases keyOf x <;> rfl) ea eb (ev_op gNotIn_ok ea eb))

/-! ### a dict of the module with text keys -/
structure DictC (K : PySem.W.Frag) (w : World) (d : Addr) (tbl : List (Str × PyData)) : Prop where
  ex : ∃ (es : Array DictEntry) (n : Nat), KDict K w d es n ∧ Paired (fun (e : DictEntry) (p : Str × PyData) => (∃ t, e.key = .str p.1 t) ∧ ∃ v, RelV v e.val ∧ ∀ O H, Rp K O H v p.2) es.toList tbl
def tblOf (tbl : List (Str × PyData)) (z : Str) : Option PyData := (tbl.find? fun p => decide (p.1 = z)).map (·.2)
theorem kd_find {K : PySem.W.Frag} (z : Str) : ∀ {es : List DictEntry} {tbl : List (Str × PyData)}, Paired (fun (e : DictEntry) (p : Str × PyData) => (∃ t, e.key = .str p.1 t) ∧ ∃ v, RelV v e.val ∧ ∀ O H, Rp K O H v p.2) es tbl →
    es.any (·.refKey) = false ∧ ((es.find? (·.key.isStr z) = none ∧ tblOf tbl z = none) ∨ ∃ e v d, es.find? (·.key.isStr z) = some e ∧ tblOf tbl z = some d ∧ RelV v e.val ∧ ∀ O H, Rp K O H v d)
  | _, _, .nil => ⟨rfl, .inl ⟨rfl, rfl⟩⟩
  | _, _, .cons (a := e) (b := p) ⟨⟨t, hk⟩, v, hv, hr⟩ r => by
    obtain ⟨h1, h2⟩ := kd_find z r
    have k1 : e.refKey = false := by simp [DictEntry.refKey, hk]
    have k2 : e.key.isStr z = decide (p.1 = z) := by
      rw [PySem.W.isStr_of, hk]
      simp only [Value.isStrOf]
      by_cases q : p.1 = z
      · simp [q]
      · simp [q]
    refine ⟨by rw [List.any_cons, k1, h1]; rfl, ?_⟩
    by_cases q : p.1 = z
    · refine .inr ⟨e, v, p.2, ?_, ?_, hv, hr⟩
      · rw [List.find?_cons, k2]; simp [q]
      · unfold tblOf; rw [List.find?_cons]; simp [q]
    · have e1 : ∀ l, tblOf (p :: l) z = tblOf l z := fun l => by unfold tblOf; rw [List.find?_cons]; simp [q]
      rw [List.find?_cons, k2, e1]
      simp only [q, decide_false]
      exact h2

theorem DictC.at {K : PySem.W.Frag} {w : World} {d : Addr} {tbl : List (Str × PyData)} (D : DictC K w d tbl) (z : Str) : ∃ es n, KDict K w d es n ∧ ((PySem.W.nsIn K d z = some none ∧ tblOf tbl z = none) ∨ ∃ u v x, PySem.W.nsIn K d z = some (some u) ∧ tblOf tbl z = some x ∧ RelV v u ∧ ∀ O H, Rp K O H v x) := by
  obtain ⟨es, n, kd, pr⟩ := D.ex
  refine ⟨es, n, kd, ?_⟩
  obtain ⟨h1, h2⟩ := kd_find z pr
  unfold PySem.W.nsIn
  rw [kd.at_]
  rcases h2 with ⟨e1, e2⟩ | ⟨e, v, x, e1, e2, e3, e4⟩
  · refine .inl ⟨?_, e2⟩
    simp only [e1, h1]
    rfl
  · refine .inr ⟨e.val, v, x, ?_, e2, e3, e4⟩
    simp only [e1]
def gInK (tbl : List (Str × PyData)) : PyData → Res PyData
  | .str z => .ok (.bool (tblOf tbl z).isSome)
  | _ => .bad
def gNotInK (tbl : List (Str × PyData)) : PyData → Res PyData
  | .str z => .ok (.bool (!(tblOf tbl z).isSome))
  | _ => .bad
def gIxK (tbl : List (Str × PyData)) : PyData → Res PyData
  | .str z => match tblOf tbl z with
    | some d => .ok d
    | none => .bad
  | _ => .bad
theorem pe_inK {x : Str} {p : Pos} {d : Addr} {tbl : List (Str × PyData)} {fa : Dn} {t : TE} (D : DictC X.K X.w d tbl) (hg : Gl X x) (hm : X.mg x = some (.ref d)) (pa : PE X a t) (ev : EvE X.K t fa) (hdb : (x == ("__debug__" : Str)) = false) (hmk : behindInMarks .In (.Name x p) = false) : ∃ es n, ∃ D' : KDict X.K X.w d es n, PE X (.Compare a [.In] [.Name x p] pos) (tOp (fun x y H Q => ∃ (z : Str) (r : Option Value), x = .str z ∧ y = .ref d ∧ PySem.W.nsIn X.K d z = some r ∧ Q (.bl r.isSome) H) t (tC (.ref d))) := by
  obtain ⟨es, n, kd, _⟩ := D.at ""
  exact ⟨es, n, kd, pe_cmpR (op_in_kd kd) pa (pe_glob (v := .ref d) hg hm rfl hdb) hmk⟩
theorem de_inK {x : Str} {p : Pos} {d : Addr} {tbl : List (Str × PyData)} {fa : Dn} (D : DictC X.K X.w d tbl) (hg : Gl X x) (hm : X.mg x = some (.ref d)) (ha : DE X a fa) (hdb : (x == ("__debug__" : Str)) = false := by decide) (hmk : behindInMarks .In (.Name x p) = false := by rfl) : DE X (.Compare a [.In] [.Name x p] pos) (dUn (gInK tbl) fa) := by
  obtain ⟨t, pa, ev⟩ := ha
  obtain ⟨es, n, kd, _⟩ := D.at ""
  refine ⟨_, pe_cmpR (op_in_kd kd) pa (pe_glob (v := .ref d) hg hm rfl hdb) hmk, ?_⟩
  intro c O H σ en Q hc rs h
  refine ev c O H σ en _ hc rs (Po.bind h fun d1 en1 v1 H1 _ rs1 k1 r1 h1 => ?_)
  have hv := PoV.of h1 rs1
  cases d1 with
  | str z =>
    obtain ⟨rfl, _⟩ := r1.strI
    obtain ⟨_, _, _, q⟩ := D.at z
    simp only [gInK] at hv
    rcases q with ⟨q1, q2⟩ | ⟨u, v, y, q1, q2, _, _⟩
    · exact ⟨z, _, rfl, rfl, q1, by rw [q2] at hv; exact hv.okE (.bl _)⟩
    · exact ⟨z, _, rfl, rfl, q1, by rw [q2] at hv; exact hv.okE (.bl _)⟩
  | _ => exact hv.elim
theorem ev_notInK {d : Addr} {tbl : List (Str × PyData)} {fa : Dn} {t : TE} (D : DictC X.K X.w d tbl) (ev : EvE X.K t fa) : EvE X.K (tOp (fun x y H Q => ∃ (z : Str) (r : Option Value), x = .str z ∧ y = .ref d ∧ PySem.W.nsIn X.K d z = some r ∧ Q (.bl (!r.isSome)) H) t (tC (.ref d))) (dUn (gNotInK tbl) fa) := by
  intro c O H σ en Q hc rs h
  refine ev c O H σ en _ hc rs (Po.bind h fun d1 en1 v1 H1 _ rs1 k1 r1 h1 => ?_)
  have hv := PoV.of h1 rs1
  cases d1 with
  | str z =>
    obtain ⟨rfl, _⟩ := r1.strI
    obtain ⟨_, _, _, q⟩ := D.at z
    simp only [gNotInK] at hv
    rcases q with ⟨q1, q2⟩ | ⟨u, v, y, q1, q2, _, _⟩
    · exact ⟨z, _, rfl, rfl, q1, by rw [q2] at hv; exact hv.okE (.bl _)⟩
    · exact ⟨z, _, rfl, rfl, q1, by rw [q2] at hv; exact hv.okE (.bl _)⟩
  | _ => exact hv.elim
theorem dt_notInK {x : Str} {p : Pos} {d : Addr} {tbl : List (Str × PyData)} {fa : Dn} (D : DictC X.K X.w d tbl) (hg : Gl X x) (hm : X.mg x = some (.ref d)) (ha : DE X a fa) (hdb : (x == ("__debug__" : Str)) = false := by decide) (hmk : behindInMarks .NotIn (.Name x p) = false := by rfl) : DT X (.Compare a [.NotIn] [.Name x p] pos) (EL.tB (dUn (gNotInK tbl) fa)) := by
  obtain ⟨t, pa, ev⟩ := ha
  obtain ⟨es, n, kd, _⟩ := D.at ""
  exact ⟨_, pt_cmpR (op_notIn_kd kd) pa (pe_glob (v := .ref d) hg hm rfl hdb) hmk, ev_test (ev_notInK D ev)⟩
theorem de_ixK {x : Str} {p : Pos} {d : Addr} {tbl : List (Str × PyData)} {fa : Dn} (D : DictC X.K X.w d tbl) (hg : Gl X x) (hm : X.mg x = some (.ref d)) (ha : DE X a fa) (hdb : (x == ("__debug__" : Str)) = false := by decide) (hs : PlainIx a := by exact fun _ _ => rfl) : DE X (.Subscript (.Name x p) a pos) (dUn (gIxK tbl) fa) := by
  obtain ⟨t, pa, ev⟩ := ha
  refine ⟨_, pe_ix ix_kdict (pe_glob (v := .ref d) hg hm rfl hdb) pa hs, ?_⟩
  intro c O H σ en Q hc rs h
  refine ev c O H σ en _ hc rs (Po.bind h fun d1 en1 v1 H1 _ rs1 k1 r1 h1 => ?_)
  have hv := PoV.of h1 rs1
  cases d1 with
  | str z =>
    obtain ⟨rfl, _⟩ := r1.strI
    obtain ⟨es, n, kd, q⟩ := D.at z
    simp only [gIxK] at hv
    rcases q with ⟨q1, q2⟩ | ⟨u, v, y, q1, q2, q3, q4⟩
    · rw [q2] at hv; exact hv.elim
    · rw [q2] at hv
      exact ⟨d, z, v, rfl, rfl, ⟨es, n, u, kd.at_, kd.lit, q1, q3⟩, hv.okE (by rw [hc]; exact q4 _ _)⟩
  | _ => exact hv.elim

/-! ### text methods, str, repr -/
def gSplit : PyData → PyData → Res PyData
  | .str x, .str y => if (!(y.length == 0) && decide (x.length + 2 ≤ sizeLine) && decide ((Txt.split x y).length ≤ sizeLine) && (Txt.split x y).all fun z => decide (z.length ≤ sizeLine)) = true then .ok (.list ((Txt.split x y).map .str)) else .bad
  | _, _ => .bad
theorem rp_strs {K : PySem.W.Frag} {O : List Addr} {H : Hp} : ∀ (l : List Str), (l.all fun z => decide (z.length ≤ sizeLine)) = true → RpA K O H (l.map V.str) (l.map .str)
  | [], _ => .nil
  | x :: l, h => by
    simp only [List.all_cons, Bool.and_eq_true, decide_eq_true_eq] at h
    exact .cons (.str x h.1) (rp_strs l h.2)
theorem de_split {apos : Pos} {fa fb : Dn} (ha : DE X a fa) (hb : DE X b fb) (hs : starEach [b] X.env = [(false, eval b X.env)] := by rfl) (hbase : attributeBase a "split" X.env (eval a X.env) = eval a X.env := by rfl) (hline : (apos.endLine == pos.line) = true := by rfl) :
    DE X (.Call (.Attribute a "split" apos) [b] [] pos) (dOp gSplit fa fb) := by
  obtain ⟨ta, pa, ea⟩ := ha
  obtain ⟨tb, pb, eb⟩ := hb
  refine ⟨_, pe_split pa pb hs hbase hline, ?_⟩
  intro c O H σ en Q hc rs h
  cases q1 : fa en with
  | exc _ _ => unfold dOp bnd at h; rw [q1] at h; exact h.elim
  | bad => unfold dOp bnd at h; rw [q1] at h; exact h.elim
  | ok p =>
    obtain ⟨dx, en1⟩ := p
    refine ea c O H σ en _ hc rs (Po.bind h fun d1 en1' v1 H1 e1 rs1 k1 r1 h1 => ?_)
    cases d1 with
    | str x =>
      obtain ⟨rfl, _⟩ := r1.strI
      refine ⟨⟨x, rfl⟩, eb c O H1 σ en1' _ hc rs1 (Po.bind h1 fun d2 en2 v2 H2 _ rs2 k2 r2 h2 => ?_)⟩
      have hv := PoV.of h2 rs2
      cases d2 with
      | str y =>
        obtain ⟨rfl, _⟩ := r2.strI
        simp only [gSplit] at hv
        by_cases hz : (!(y.length == 0) && decide (x.length + 2 ≤ sizeLine) && decide ((Txt.split x y).length ≤ sizeLine) && (Txt.split x y).all fun z => decide (z.length ≤ sizeLine)) = true
        · rw [if_pos hz] at hv
          simp only [Bool.and_eq_true, Bool.not_eq_true', decide_eq_true_eq] at hz
          obtain ⟨⟨⟨z1, z2⟩, z3⟩, z4⟩ := hz
          exact ⟨x, y, rfl, rfl, z1, z2, fun p hp => hv _ _ (same_new hp) (Rp.newL rs2.live hp (by rw [List.length_map]; exact z3) (rp_strs _ z4))⟩
        · rw [if_neg hz] at hv; exact hv.elim
      | _ => exact hv.elim
    | _ =>
      exfalso
      unfold bnd at h1
      cases q2 : fb en1' with
      | exc _ _ => rw [q2] at h1; exact h1
      | bad => rw [q2] at h1; exact h1
      | ok p2 => rw [q2] at h1; exact h1
def strsOf : List PyData → Option (List Str)
  | [] => some []
  | .str x :: r => (strsOf r).map (x :: ·)
  | _ :: _ => none
theorem strs_ok {K : PySem.W.Frag} {O : List Addr} {H : Hp} : ∀ {xs : List V} {ds : List PyData} {ss : List Str}, RpA K O H xs ds → strsOf ds = some ss → xs = ss.map V.str
  | _, _, _, .nil, e => by cases e; rfl
  | _, _, ss, .cons (d := d) r t, e => by
    cases d with
    | str x =>
      obtain ⟨rfl, _⟩ := r.strI
      simp only [strsOf, Option.map_eq_some_iff] at e
      obtain ⟨ss', e1, rfl⟩ := e
      rw [strs_ok t e1]; rfl
    | _ => simp [strsOf] at e
def joinS (x : Str) (ss : List Str) : Res PyData := if (decide ((ss.map (·.length)).sum + ss.length * x.length ≤ 16777216) && decide ((Txt.join x ss).length ≤ sizeLine)) = true then .ok (.str (Txt.join x ss)) else .bad
def gJoin : PyData → PyData → Res PyData
  | .str x, .list ds => match strsOf ds with
    | some ss => joinS x ss
    | none => .bad
  | .str x, .tuple ds => match strsOf ds with
    | some ss => joinS x ss
    | none => .bad
  | _, _ => .bad
theorem de_join {apos : Pos} {fa fb : Dn} (ha : DE X a fa) (hb : DE X b fb) (hs : starEach [b] X.env = [(false, eval b X.env)] := by rfl) (hbase : attributeBase a "join" X.env (eval a X.env) = eval a X.env := by rfl) (hline : (apos.endLine == pos.line) = true := by rfl) :
    DE X (.Call (.Attribute a "join" apos) [b] [] pos) (dOp gJoin fa fb) := by
  obtain ⟨ta, pa, ea⟩ := ha
  obtain ⟨tb, pb, eb⟩ := hb
  refine ⟨_, pe_join pa pb hs hbase hline, ?_⟩
  intro c O H σ en Q hc rs h
  refine ea c O H σ en _ hc rs (Po.bind h fun d1 en1' v1 H1 e1 rs1 k1 r1 h1 => ?_)
  cases d1 with
  | str x =>
    obtain ⟨rfl, _⟩ := r1.strI
    refine ⟨⟨x, rfl⟩, eb c O H1 σ en1' _ hc rs1 (Po.bind h1 fun d2 en2 v2 H2 _ rs2 k2 r2 h2 => ?_)⟩
    have hv := PoV.of h2 rs2
    have fin : ∀ (p : Addr) (xs : List V) (ds : List PyData) (ss : List Str), RpA c.K O H2 xs ds → strsOf ds = some ss → (SqL X.K H2 p xs ∨ SqT X.K H2 p xs) → PoV c.K O H2 (joinS x ss) Q → ∃ a q, ∃ ys : List Str, V.str x = V.str a ∧ [V.ref p] = [V.ref q] ∧ (SqL X.K H2 q (ys.map V.str) ∨ SqT X.K H2 q (ys.map V.str)) ∧ (ys.map (·.length)).sum + ys.length * a.length ≤ 16777216 ∧ Q (.str (Txt.join a ys)) H2 := by
      intro p xs ds ss ra e sq hj
      unfold joinS at hj
      by_cases hz : (decide ((ss.map (·.length)).sum + ss.length * x.length ≤ 16777216) && decide ((Txt.join x ss).length ≤ sizeLine)) = true
      · rw [if_pos hz] at hj
        simp only [Bool.and_eq_true, decide_eq_true_eq] at hz
        rw [strs_ok ra e] at sq
        exact ⟨x, p, ss, rfl, rfl, sq, hz.1, hj.okE (.str _ hz.2)⟩
      · rw [if_neg hz] at hj; exact hj.elim
    cases d2 with
    | list ds =>
      obtain ⟨p, xs, rfl, g1, _, _, g4⟩ := r2.lstI
      simp only [gJoin] at hv
      cases q : strsOf ds with
      | none => rw [q] at hv; exact hv.elim
      | some ss => rw [q] at hv; exact fin p xs ds ss g4 q (.inl (.inl (.inl g1))) hv
    | tuple ds =>
      obtain ⟨p, xs, rfl, g1, _, g4⟩ := r2.tupI
      simp only [gJoin] at hv
      cases q : strsOf ds with
      | none => rw [q] at hv; exact hv.elim
      | some ss => rw [q] at hv; exact fin p xs ds ss g4 q (.inr (by rw [← hc]; exact g1)) hv
    | _ => exact hv.elim
  | _ =>
    exfalso
    unfold bnd at h1
    cases q2 : fb en1' with
    | exc _ _ => rw [q2] at h1; exact h1
    | bad => rw [q2] at h1; exact h1
    | ok p2 => rw [q2] at h1; cases p2; rename_i d2 _; cases d2 <;> exact h1
def gStr : PyData → Res PyData
  | .int i => if (decide (i.natAbs.log2 < 1920) && decide (Str.length (toString i : String) ≤ sizeLine)) = true then .ok (.str (toString i : String)) else .bad
  | .str x => .ok (.str x)
  | _ => .bad
theorem call_strD : CallR X (.type "str") (fun xs H Q => (∃ i, xs = [V.int i] ∧ i.natAbs.log2 < 1920 ∧ Q (.str (toString i)) H) ∨ ∃ a, xs = [V.str a] ∧ Q (.str a) H) := by
  intro pins s σ H xs us Q I r h
  rcases h with h | h
  · exact call_str_int pins s σ H xs us Q I r h
  · exact SkE.call_str_str pins s σ H xs us Q I r h
theorem gStr_ok {K : PySem.W.Frag} : CalD K (fun xs H Q => (∃ i, xs = [V.int i] ∧ i.natAbs.log2 < 1920 ∧ Q (.str (toString i)) H) ∨ ∃ a, xs = [V.str a] ∧ Q (.str a) H) (g1 gStr) := g1_ok fun O H x d Q l r h => by
  cases d with
  | int i =>
    cases r
    simp only [gStr] at h
    by_cases hz : (decide (i.natAbs.log2 < 1920) && decide (Str.length (toString i : String) ≤ sizeLine)) = true
    · rw [if_pos hz] at h
      simp only [Bool.and_eq_true, decide_eq_true_eq] at hz
      exact .inl ⟨i, rfl, hz.1, h.okE (.str _ hz.2)⟩
    · rw [if_neg hz] at h; exact h.elim
  | str x =>
    obtain ⟨rfl, z⟩ := r.strI
    exact .inr ⟨x, rfl, h.okE r⟩
  | _ => exact h.elim
def gRepr (d : PyData) : Res PyData := if (d.canLay0 && d.showable && decide (d.depth ≤ 64) && decide (d.shown.length ≤ sizeLine)) = true then .ok (.str d.shown) else .bad
theorem gRepr_ok {K : PySem.W.Frag} : CalD K (fun xs H Q => ∃ x d, xs = [x] ∧ Dp K H x d ∧ d.showable = true ∧ d.depth ≤ 64 ∧ d.shown.length ≤ sizeLine ∧ Q (.str d.shown) H) (g1 gRepr) := g1_ok fun O H x d Q l r h => by
  unfold gRepr at h
  by_cases hz : (d.canLay0 && d.showable && decide (d.depth ≤ 64) && decide (d.shown.length ≤ sizeLine)) = true
  · rw [if_pos hz] at h
    simp only [Bool.and_eq_true, decide_eq_true_eq] at hz
    obtain ⟨⟨⟨z1, z2⟩, z3⟩, z4⟩ := hz
    exact ⟨x, d, rfl, r.dp z1, z2, z3, z4, h.okE (.str _ z4)⟩
  · rw [if_neg hz] at h; exact h.elim
end
end EL
namespace EL
open PySem PySem.Spec PyProof.Rows L2
section
variable {X : Cx} {pos : Pos} {a b e : Expr} {es : List Expr} {st : Stmt} {sts : List Stmt}
/-! ### *e in a display -/
def starP : PyData → Res (List PyData)
  | .list ds => .ok ds
  | .tuple ds => .ok ds
  | _ => .bad
def dStar (f : Dn) (r : An) : An := bnd f fun d => bnd (lft (starP d)) fun xs => bnd r fun ys => lft (.ok (xs ++ ys))
theorem da_star {p : Pos} {f : Dn} {g : An} (ha : DE X e f) (hr : DA X es g) (hs : starEach (.Starred e p :: es) X.env = (true, eval e X.env) :: starEach es X.env := by rfl) : DA X (.Starred e p :: es) (dStar f g) := by
  obtain ⟨ta, pa, ea⟩ := ha
  obtain ⟨tr, pr, er⟩ := hr
  refine ⟨_, StX.pa_star pa pr hs, ?_⟩
  intro c O H σ en Q hc rs h
  refine ea c O H σ en _ hc rs (Po.bind h fun d1 en1 v1 H1 _ rs1 k1 r1 h1 => ?_)
  have h1' : PoA c O H1 σ en1 (bnd (lft (starP d1)) (fun xs => bnd g fun ys => lft (.ok (xs ++ ys))) en1) Q := h1
  have fin : ∀ (p : Addr) (xs : List V) (ds : List PyData), RpA c.K O H1 xs ds → (SqT X.K H1 p xs ∨ SqL X.K H1 p xs) → PoA c O H1 σ en1 (bnd g (fun ys => lft (.ok (ds ++ ys))) en1) Q → ∃ a zs, V.ref p = V.ref a ∧ (SqT X.K H1 a zs ∨ SqL X.K H1 a zs) ∧ tr σ H1 fun ys H2 => Q (zs ++ ys) H2 := by
    intro p xs ds ra sq hq
    refine ⟨p, xs, rfl, sq, er c O H1 σ en1 _ hc rs1 (Po.bind hq fun d2 en2 v2 H2 _ rs2 k2 r2 h2 => ?_)⟩
    exact h2 (xs ++ v2) H2 rs2 .refl ((ra.keep k2.keep).append r2)
  cases d1 with
  | list ds =>
    obtain ⟨p, xs, rfl, g1, _, _, g4⟩ := r1.lstI
    exact fin p xs ds g4 (.inr (.inl (.inl g1))) h1'
  | tuple ds =>
    obtain ⟨p, xs, rfl, g1, _, g4⟩ := r1.tupI
    exact fin p xs ds g4 (.inl (by rw [← hc]; exact g1)) h1'
  | _ => exact h1'.elim

/-! ### reading a list that may change -/
def ixOK (i : Nat) (k : PyData) : Dn := fun en => match en[i]?, k with
  | some (.ow (.list xs)), .int z => (match atI xs z with
    | some d => .ok (d, en)
    | none => .bad)
  | _, _ => .bad
def dIxO (i : Nat) (fk : Dn) : Dn := fun en => match en[i]? with
  | some (.ow (.list _)) => bnd fk (ixOK i) en
  | _ => .bad
theorem de_ixO {x : Str} {p : Pos} {fk : Dn} (i : Nat) (hk : DE X b fk) (hN : X.N[i]? = some x := by rfl) (hv : Vis X.env.scope x := by first | exact Or.inl rfl | exact Or.inr (Or.inl rfl) | exact Or.inr (Or.inr rfl)) (hs : PlainIx b := by exact fun _ _ => rfl)
    (hd : (x == ("__debug__" : Str)) = false := by decide) (hcd : (x == ("__classdict__" : Str)) = false := by decide) : DE X (.Subscript (.Name x p) b pos) (dIxO i fk) := by
  obtain ⟨t, pk, ev⟩ := hk
  refine ⟨_, pe_ix ix_list (pe_var hN hv hd hcd) pk hs, ?_⟩
  intro c O H σ en Q hc rs h
  unfold dIxO at h
  cases q : en[i]? with
  | none => rw [q] at h; exact h.elim
  | some s =>
    rw [q] at h
    cases s with
    | no => exact h.elim
    | sh _ => exact h.elim
    | ow d0 =>
      cases d0 with
      | list ds0 =>
        obtain ⟨p, hp, _⟩ := rs.ow i _ q
        refine ⟨.ref p, hp, ev c O H σ en _ hc rs (Po.bind (show PoE c O H σ en (bnd fk (ixOK i) en) Q from h) fun d1 en1 v1 H1 _ rs1 k1 r1 h1 => ?_)⟩
        unfold ixOK at h1
        cases q1 : en1[i]? with
        | none => rw [q1] at h1; exact h1.elim
        | some s1 =>
          rw [q1] at h1
          cases s1 with
          | no => exact h1.elim
          | sh _ => exact h1.elim
          | ow d2 =>
            cases d2 with
            | list ds =>
              cases d1 with
              | int z =>
                cases r1
                obtain ⟨p', hp', ⟨xs, e1, e2, e3⟩, hO, _⟩ := rs1.ow i _ q1
                rw [hp] at hp'
                cases hp'
                have h2 : PoE c O H1 σ en1 (match atI ds z with
                  | some d => .ok (d, en1)
                  | none => .bad) Q := h1
                cases q4 : atI ds z with
                | none => rw [q4] at h2; exact h2.elim
                | some d =>
                  rw [q4] at h2
                  obtain ⟨v, k1, k2⟩ := e3.atI q4
                  exact ⟨p, xs, z, v, rfl, rfl, .inl (.inl e1), k1, h2 v H1 rs1 .refl k2⟩
              | _ => exact h1.elim
            | _ => exact h1.elim
      | _ => exact h.elim

/-! ### keywords -/
def DK (X : Cx) (kws : List Keyword) (f : An) : Prop := ∃ t, PK X kws t ∧ EvA X.K t f
theorem dk_nil : DK X [] dNil := ⟨_, pk_nil, fun c O H σ en Q hc rs h => h [] H rs .refl .nil⟩
theorem dk_cons {nm : Option Str} {kpos : Pos} {kws : List Keyword} {f : Dn} {g : An} (ha : DE X e f) (hr : DK X kws g) : DK X (⟨nm, e, kpos⟩ :: kws) (dCons f g) := by
  obtain ⟨ta, pa, ea⟩ := ha
  obtain ⟨tr, pr, er⟩ := hr
  refine ⟨_, pk_cons pa pr, ?_⟩
  intro c O H σ en Q hc rs h
  refine ea c O H σ en _ hc rs (Po.bind h fun d1 en1 v1 H1 _ rs1 k1 r1 h1 => ?_)
  refine er c O H1 σ en1 _ hc rs1 (Po.bind h1 fun d2 en2 v2 H2 _ rs2 k2 r2 h2 => ?_)
  exact h2 (v1 :: v2) H2 rs2 .refl (.cons (r1.keep k2.keep) r2)
/-- f(k = e, ..), all parameters by name, in their order -/
theorem de_callK {k : Nat} {f : Addr} {fd : FuncData} {ps : List Str} {m : List PyData → Res PyData} {n : Nat} {x : Str} {p : Pos} {g : An} {kws : List Keyword} (F : FnOk X.prog X.w X.K X.mg X.base CX0 k f fd ps (spM m n X.K)) (hr : Room k X.A) (hg : Gl X x) (hm : X.mg x = some (.ref f)) (hk : PySem.W.keepIn X.K (.ref f) = true)
    (hb : ∀ (s : Shared) (ws : List Value), ws.length = ps.length → BindsTo s fd ⟨[], ps.zip ws⟩ (ps.zip ws)) (ha : DK X kws g)
    (hall : (backToKw pos (keywordEach kws X.env)).all (·.1.isSome) = true := by rfl) (hks : (backToKw pos (keywordEach kws X.env)).filterMap (·.1) = ps := by rfl) (hdb : (x == ("__debug__" : Str)) = false := by decide)
    (hpl : ((backTo pos (starEach [] X.env)).any (·.1) || (backToKw pos (keywordEach kws X.env)).any (·.1.isNone)) = false := by rfl) : DE X (.Call (.Name x p) [] kws pos) (dApp (gN n m) g) := by
  obtain ⟨t, pa, ev⟩ := ha
  refine ⟨tCall (spM m n X.K) [] E0 t, ?_, ev_call ev⟩
  constructor
  intro pins s σ H Q I h
  refine wpAny_Call_Name_kw (ld_glob I hg hm ?_ hdb)
  refine PySem.W.callWith_KW0 (h₀ := X.base) I.ok.mod.kin hk hall ?_ hpl
  refine thn (pa.run pos pins s σ H _ I h) ?_
  rintro ws s2 ⟨zs, H2, I2, rz, q2⟩
  refine ⟨I2.kIn, ?_⟩
  rw [hks]
  rw [List.append_nil] at q2
  have hl : ws.length = ps.length := by rw [← rz.length]; exact F.len _ _ _ _ q2
  show wpAny _ _ (call (.ref f) [] (ps.zip ws)) _ _ _
  refine wpAny_call (codeAny_mono (F.run X.A X.stack s2 H2 ⟨[], ps.zip ws⟩ ws zs Q E0 hr I2.env0 (hb s2 ws hl) rz q2) ?_)
  intro res s' post
  cases res with
  | error er => exact (show False from post).elim
  | ok fl =>
    cases fl with
    | ret u => exact I2.after post
    | next => exact (show False from post).elim
    | brk => exact (show False from post).elim
    | cont => exact (show False from post).elim

/-! ### a, b = x, y -/
def sPar (i j : Nat) (f g : Dn) : Sn := bnd f fun x => bnd g fun y en => .ok (.nx, (en.set i (.sh x)).set j (.sh y))
theorem ds_par {x y : Str} {px py pt pt2 : Pos} {kt k2 : Nat} {f g : Dn} (i j : Nat) (hc : X.calm = true) (hN : X.N.Nodup) (ha : DE X a f) (hb : DE X b g) (hij : i ≠ j := by decide) (hi : X.N[i]? = some x := by rfl) (hj : X.N[j]? = some y := by rfl)
    (hx : X.env.scope.names.lookup x = some .local := by rfl) (hy : X.env.scope.names.lookup y = some .local := by rfl)
    (hw : swappedStores [.Tuple [.Name x px, .Name y py] kt pt] (.Tuple [a, b] k2 pt2) X.env = pure (some [x, y]) := by rfl) (hs : swapsWithSole [.Tuple [.Name x px, .Name y py] kt pt] (.Tuple [a, b] k2 pt2) pos.line X.env = pure false := by rfl)
    (h1 : starEach [a, b] X.env = (false, eval a X.env) :: starEach [b] X.env := by rfl) (h2 : starEach [b] X.env = (false, eval b X.env) :: starEach [] X.env := by rfl) :
    DS X (.Assign [.Tuple [.Name x px, .Name y py] kt pt] (.Tuple [a, b] k2 pt2) pos) (sPar i j f g) := by
  obtain ⟨ta, pa, ea⟩ := ha
  obtain ⟨tb, pb, eb⟩ := hb
  refine ⟨_, ps_par hc hN hi hj hij hx hy (pa_cons pa (pa_cons pb pa_nil h2) h1) hw hs, ?_⟩
  intro c O H σ en D hK rs h
  refine ea c O H σ en _ hK rs (Po.bindS h fun d1 en1 v1 H1 _ rs1 k1 r1 h1 => ?_)
  refine eb c O H1 σ en1 _ hK rs1 (Po.bindS h1 fun d2 en2 v2 H2 _ rs2 k2 r2 h2 => ?_)
  exact ⟨v1, v2, rfl, h2 _ H2 O ((rs2.set_sh (r1.keep k2.keep)).set_sh r2) .refl⟩
def sParO (i j : Nat) (f g : Dn) : Sn := bnd f fun x => bnd g fun y en => .ok (.nx, (en.set i (.sh x)).set j (.ow y))
theorem ds_parO {x y : Str} {px py pt pt2 : Pos} {kt k2 : Nat} {f g : Dn} (i j : Nat) (hc : X.calm = true) (hN : X.N.Nodup) (ha : DE X a f) (hb : DF X b g) (hij : i ≠ j := by decide) (hj0 : j ≠ 0 := by decide) (hi : X.N[i]? = some x := by rfl) (hj : X.N[j]? = some y := by rfl)
    (hx : X.env.scope.names.lookup x = some .local := by rfl) (hy : X.env.scope.names.lookup y = some .local := by rfl)
    (hw : swappedStores [.Tuple [.Name x px, .Name y py] kt pt] (.Tuple [a, b] k2 pt2) X.env = pure (some [x, y]) := by rfl) (hs : swapsWithSole [.Tuple [.Name x px, .Name y py] kt pt] (.Tuple [a, b] k2 pt2) pos.line X.env = pure false := by rfl)
    (h1 : starEach [a, b] X.env = (false, eval a X.env) :: starEach [b] X.env := by rfl) (h2 : starEach [b] X.env = (false, eval b X.env) :: starEach [] X.env := by rfl) :
    DS X (.Assign [.Tuple [.Name x px, .Name y py] kt pt] (.Tuple [a, b] k2 pt2) pos) (sParO i j f g) := by
  obtain ⟨ta, pa, ea⟩ := ha
  obtain ⟨tb, pb, eb⟩ := hb
  refine ⟨_, ps_par hc hN hi hj hij hx hy (pa_cons pa (pa_cons pb pa_nil h2) h1) hw hs, ?_⟩
  intro c O H σ en D hK rs h
  refine ea c O H σ en _ hK rs (Po.bindS h fun d1 en1 v1 H1 _ rs1 k1 r1 h1 => ?_)
  refine eb c O H1 σ en1 _ hK rs1 ?_
  have h1' : PoS c O H1 (bnd g (fun y en => .ok (.nx, (en.set i (.sh d1)).set j (.ow y))) en1) D := h1
  unfold bnd at h1'
  cases q : g en1 with
  | exc _ _ => rw [q] at h1'; exact h1'
  | bad => rw [q] at h1'; exact h1'
  | ok p2 =>
    obtain ⟨d2, en2⟩ := p2
    rw [q] at h1'
    intro p H0 H' hp0 rs0 k0 rs2 g2 ow
    have hH : H1 p = none := by
      cases e : H1 p with
      | none => rfl
      | some x => rw [k0 p x (rs0.newp hp0).1 e] at hp0; cases hp0
    have r1' : Rp c.K (p :: O) H' v1 d1 := (r1.more hH).keep (fun a x n e => g2.keep a x (fun z => n (List.mem_cons_of_mem _ z)) e)
    have rs3 : RS c (p :: O) H' (σ.set i (some v1)) (en2.set i (.sh d1)) := rs2.set_sh r1'
    have rs0' : RS c O H0 (σ.set i (some v1)) (en1.set i .no) := rs0.set_no _
    have sh3 : Shp (en1.set i .no) (en2.set i (.sh d1)) := fun m d e => by
      rcases set_some e with ⟨_, z, _⟩ | ⟨ne, z⟩
      · cases z
      · obtain ⟨d', e'⟩ := g2.shp m d z
        exact ⟨d', by rw [List.getElem?_set_ne ne]; exact e'⟩
    exact ⟨v1, .ref p, rfl, h1' _ H' (p :: O) (RS.set_ow hj0 rs0' hp0 rs3 sh3 ow) ⟨g2.keep, fun a ha => (List.mem_cons.mp ha).elim (fun e => .inr (by rw [e]; exact hH)) .inl⟩⟩
end
end EL
namespace EL
open PySem PySem.Spec PyProof.Rows L2

/-! ### dict displays -/
def dPairs : List (Dn × Dn) → En → Res (List (PyData × PyData) × En)
  | [] => fun en => .ok ([], en)
  | (k, v) :: r => bnd k fun x => bnd v fun y => bnd (dPairs r) fun ps => lft (.ok ((x, y) :: ps))
inductive RpP (K : PySem.W.Frag) (O : List Addr) (H : Hp) : List (V × V) → List (PyData × PyData) → Prop
  | nil : RpP K O H [] []
  | cons {k v : V} {ps : List (V × V)} {x y : PyData} {ds : List (PyData × PyData)} : Rp K O H k x → Rp K O H v y → RpP K O H ps ds → RpP K O H ((k, v) :: ps) ((x, y) :: ds)
def EvP (K : PySem.W.Frag) (trs : List (TE × TE)) (fs : List (Dn × Dn)) : Prop := ∀ (c : Fc) (O : List Addr) (H : Hp) (σ : L2.St) (en : En) (Q : List (V × V) → Hp → Prop), c.K = K → RS c O H σ en →
  Po (α := List (PyData × PyData)) (β := List (V × V)) c O H σ en (fun H' v d => RpP c.K O H' v d) (dPairs fs en) Q → tPairs trs σ H Q
def DPs (X : Cx) (pos : Pos) (ks : List (Option Expr)) (vs : List Expr) (fs : List (Dn × Dn)) : Prop := ∃ trs, PPs X pos ks vs trs ∧ EvP X.K trs fs
def keysOk : List (PyData × PyData) → Bool
  | [] => true
  | (k, _) :: r => (keyOf k).isSome && keysOk r
def gDisp (ps : List (PyData × PyData)) : Res PyData := if (keysOk ps && decide (ps.length ≤ 15)) = true then .ok (.dict (mergeD [] ps)) else .bad
def dDisp (fs : List (Dn × Dn)) : Dn := bnd (dPairs fs) fun ps => lft (gDisp ps)
theorem RpP.keyed {K : PySem.W.Frag} {O : List Addr} {H : Hp} : ∀ {ps : List (V × V)} {ds : List (PyData × PyData)}, RpP K O H ps ds → keysOk ds = true → ∃ kvs : List (Key × V), ps = kvs.map (fun kv => (kV kv.1, kv.2)) ∧ RpD K O H kvs ds
  | _, _, .nil, _ => ⟨[], rfl, .nil⟩
  | _, _, .cons (x := x) rk rv t, h => by
    simp only [keysOk, Bool.and_eq_true] at h
    obtain ⟨kvs, e, r⟩ := RpP.keyed t h.2
    cases q : keyOf x with
    | none => rw [q] at h; cases h.1
    | some k =>
      have hx : x = kD k := by
        cases x <;> simp [keyOf] at q <;> subst q <;> rfl
      subst hx
      exact ⟨(k, _) :: kvs, by rw [List.map_cons, ← e, rk.key q], .cons rv r⟩
theorem RpP.keep {K : PySem.W.Frag} {O : List Addr} {H H' : Hp} (k : Keep O H H') : ∀ {ps : List (V × V)} {ds : List (PyData × PyData)}, RpP K O H ps ds → RpP K O H' ps ds
  | _, _, .nil => .nil
  | _, _, .cons a b t => .cons (a.keep k) (b.keep k) (RpP.keep k t)
theorem putK_len (kvs : List (Key × V)) (k : Key) (v : V) : (L2.putK kvs k v).length ≤ kvs.length + 1 := by
  unfold L2.putK
  split
  · rw [List.length_map]; omega
  · rw [List.length_append]; simp
theorem mergeK_len : ∀ (more kvs : List (Key × V)), (mergeK kvs more).length ≤ kvs.length + more.length
  | [], kvs => Nat.le_refl _
  | m :: more, kvs => by
    unfold mergeK
    rw [List.foldl_cons]
    have h := mergeK_len more (L2.putK kvs m.1 m.2)
    have h2 := putK_len kvs m.1 m.2
    unfold mergeK at h
    rw [List.length_cons]
    omega
section
variable {X : Cx} {pos : Pos} {a b e : Expr} {es : List Expr} {st : Stmt} {sts : List Stmt}
theorem dps_nil : DPs X pos [] [] [] := ⟨_, pps_nil, fun c O H σ en Q hc rs h => h [] H rs .refl .nil⟩
theorem dps_cons {ks : List (Option Expr)} {vs : List Expr} {fk fv : Dn} {fs : List (Dn × Dn)} (hk : DE X a fk) (hv : DE X b fv) (hr : DPs X pos ks vs fs) : DPs X pos (some a :: ks) (b :: vs) ((fk, fv) :: fs) := by
  obtain ⟨tk, pk, ek⟩ := hk
  obtain ⟨tv, pv, ev⟩ := hv
  obtain ⟨tr, pr, er⟩ := hr
  refine ⟨_, pps_cons pk pv pr, ?_⟩
  intro c O H σ en Q hc rs h
  refine ek c O H σ en _ hc rs (Po.bind h fun d1 en1 v1 H1 _ rs1 k1 r1 h1 => ?_)
  refine ev c O H1 σ en1 _ hc rs1 (Po.bind h1 fun d2 en2 v2 H2 _ rs2 k2 r2 h2 => ?_)
  refine er c O H2 σ en2 _ hc rs2 (Po.bind h2 fun d3 en3 v3 H3 _ rs3 k3 r3 h3 => ?_)
  exact h3 ((v1, v2) :: v3) H3 rs3 .refl (.cons ((r1.keep k2.keep).keep k3.keep) (r2.keep k3.keep) r3)
theorem RS.upd_top {c : Fc} {O : List Addr} {H H0 : Hp} {σ : L2.St} {en en0 : En} {p : Addr} {o : HO} (r0 : RS c O H0 σ en0) (hp : H0 p = none) (sh : Shp en0 en) (r : RS c (p :: O) H σ en) : RS c (p :: O) (upd H p o) σ en where
  len := r.len
  keep := r.keep.trans' ⟨p, rfl, (r0.newp hp).2.2.2⟩
  pin := r.pin
  sub := r.sub
  live := fun a ha => by
    by_cases e : a = p
    · rw [e, upd_same]; exact fun z => nomatch z
    · rw [upd_ne e]; exact r.live a ha
  sh := fun i d q => by
    obtain ⟨v, h1, h2⟩ := r.sh i d q
    exact ⟨v, h1, h2.keep (keep_upd List.mem_cons_self)⟩
  ow := fun i d q => by
    obtain ⟨u, h1, h2, h3, h4⟩ := r.ow i d q
    have ne : u ≠ p := fun z => by
      obtain ⟨d', e'⟩ := sh i d q
      obtain ⟨u', g1, g2, _⟩ := r0.ow i d' e'
      rw [h1] at g1
      cases g1
      exact g2.some (z ▸ hp)
    exact ⟨u, h1, h2.keep (keep_upd List.mem_cons_self) (upd_ne ne), h3, h4⟩
  dist := r.dist
theorem df_disp {keys : List (Option Expr)} {values : List Expr} {fs : List (Dn × Dn)} (h : DPs X pos keys values fs) (hall : keys.all (·.isSome) = true := by rfl) (hl : keys.length = values.length := by rfl) (h0 : keys ≠ [] := by exact fun z => nomatch z) (h15 : keys.length ≤ 15 := by decide) : DF X (.Dict keys values pos) (dDisp fs) := by
  obtain ⟨trs, pp, ev⟩ := h
  refine ⟨_, pe_disp pp hall hl h0 h15, ?_⟩
  intro c O H σ en Q hc rs hq
  intro p hp
  refine ev c (p :: O) _ σ en _ hc (rs.lay hp) ?_
  unfold dDisp bnd at hq
  cases q : dPairs fs en with
  | exc _ _ => rw [q] at hq; exact hq
  | bad => rw [q] at hq; exact hq
  | ok r =>
    obtain ⟨ps, en1⟩ := r
    rw [q] at hq
    have hq' : (match (lft (gDisp ps) en1 : Res (PyData × En)) with
      | .ok (d, en') => ∀ p H0 H', H0 p = none → RS c O H0 σ en → Keep O H H0 → RS c (p :: O) H' σ en' → Go σ O H en H' en' → OwR c.K (p :: O) H' p d → Q (.ref p) H'
      | _ => False) := hq
    intro vs H2 rs2 go2 rp
    have fr : Free σ en p := free_new rs hp
    have e2 : H2 p = some (.dK []) := go2.held p _ fr upd_same
    unfold gDisp at hq'
    by_cases hz : (keysOk ps && decide (ps.length ≤ 15)) = true
    · rw [if_pos hz] at hq'
      simp only [Bool.and_eq_true, decide_eq_true_eq] at hz
      obtain ⟨kvs, e, rd⟩ := rp.keyed hz.1
      have hlen : kvs.length ≤ 15 := by rw [rd.length]; exact hz.2
      refine ⟨e2, kvs, e, hlen, ?_⟩
      have kp : Keep O H (upd H2 p (.dK (mergeK [] kvs))) := fun a x n ea => by
        have ne : a ≠ p := fun z => by rw [z, hp] at ea; cases ea
        rw [upd_ne ne]
        refine go2.keep a x (fun z => (List.mem_cons.mp z).elim ne n) ?_
        rw [upd_ne ne]; exact ea
      refine hq' p H _ hp rs (.refl _) (RS.upd_top rs hp go2.shp rs2) ⟨kp, go2.shp, fun a x fa ea => ?_⟩ ?_
      · have ne : a ≠ p := fun z => by rw [z, hp] at ea; cases ea
        rw [upd_ne ne]
        refine go2.held a x fa ?_
        rw [upd_ne ne]; exact ea
      · refine ⟨mergeK [] kvs, upd_same, ?_, ?_⟩
        · have := mergeK_len kvs []
          rw [sizeLine_eq]
          simp at this
          omega
        · exact (RpD.merge rd .nil).keep (keep_upd List.mem_cons_self)
    · rw [if_neg hz] at hq'; exact hq'.elim
theorem df_dict0 : DF X (.Dict [] [] pos) (dCst (.dict [])) := by
  refine ⟨_, pe_dnewK, ?_⟩
  intro c O H σ en Q hc rs hq
  intro p hp
  have hq' : (∀ p H0 H', H0 p = none → RS c O H0 σ en → Keep O H H0 → RS c (p :: O) H' σ en → Go σ O H en H' en → OwR c.K (p :: O) H' p (.dict []) → Q (.ref p) H') := hq
  exact hq' p H _ hp rs (.refl _) (rs.lay hp) (.same (same_new hp)) ⟨[], upd_same, Nat.zero_le _, .nil⟩

/-! ### d.update(e), d a dict that may change -/
theorem mt_update : MtR X "dict.update" (fun x xs H Q => ∃ p b kvs more, x = V.ref p ∧ xs = [V.ref b] ∧ p ≠ b ∧ H p = some (.dK kvs) ∧ H b = some (.dK more) ∧ kvs.length + more.length ≤ sizeLine ∧ Q .non (upd H p (.dK (mergeK kvs more)))) := by
  intro pins s σ H x xs v us Q I rx rs h
  obtain ⟨p, b, kvs, more, rfl, rfl, ne, h1, h2, hz, q⟩ := h
  cases rx
  cases rs with
  | cons r1 rs =>
    cases rs
    cases r1
    obtain ⟨z1, d1, vs, rel1, dd1⟩ := dk_of I.hok h1
    obtain ⟨z2, d2, ws, rel2, dd2⟩ := dk_of I.hok h2
    have l1 : kvs.length = vs.length := Paired.length rel1
    have l2 : more.length = ws.length := Paired.length rel2
    refine call_meetsIn PySem.F.slot_dict_update dd1.typeIs PySem.F.entry_dict_update (PySem.F.args_dict_update_2 _ _) (meets_dict_update (mixKind X.prog X.w) p b ne d2) ⟨vs, ws, dd1, dd2, by omega, fun h' dd' _ hs => ?_⟩
    have he : ∃ q, h'.get? p = some q := let ⟨q, _, _, hq, _⟩ := dd'; ⟨q, hq⟩
    have hl : (mergeK kvs more).length ≤ sizeLine := Nat.le_trans (mergeK_len more kvs) hz
    exact ⟨.non, _, d_write (t' := s.toks) I (by rw [h1]; exact True.intro) hs he (dk_new hl d1 (KV.merge rel2 rel1) dd'), rfl, q⟩
def updK (i : Nat) (d : PyData) : Sn := fun en => match en[i]?, d with
  | some (.ow (.dict kds)), .dict more => if kds.length + more.length ≤ sizeLine then .ok (.nx, en.set i (.ow (.dict (mergeD kds more)))) else .bad
  | _, _ => .bad
def sUpd (i : Nat) (f : Dn) : Sn := fun en => match en[i]? with
  | some (.ow (.dict _)) => bnd f (updK i) en
  | _ => .bad
theorem ds_update {x : Str} {p apos cpos : Pos} {f : Dn} (i : Nat) (he : DE X e f) (hN : X.N[i]? = some x := by rfl) (hv : Vis X.env.scope x := by first | exact Or.inl rfl | exact Or.inr (Or.inl rfl) | exact Or.inr (Or.inr rfl))
    (hfew : ((backTo cpos (starEach [e] X.env)).all (fun x => !x.1) && (backToKw cpos (keywordEach [] X.env)).all (fun x => x.1.isSome) && decide ([e].length + ([] : List Keyword).length + (if ([] : List Keyword).isEmpty then 0 else 1) < 30)) = true := by rfl)
    (hline : (apos.endLine == cpos.line) = true := by rfl) (hs : starEach [e] X.env = (false, eval e X.env) :: starEach [] X.env := by rfl) (hsw : swapsWith (.Call (.Attribute (.Name x p) "update" apos) [e] [] cpos) none pos.line X.env = pure false := by rfl)
    (hd : (x == ("__debug__" : Str)) = false := by decide) (hcd : (x == ("__classdict__" : Str)) = false := by decide) (hbase : attributeBase (.Name x p) "update" X.env (eval (.Name x p) X.env) = eval (.Name x p) X.env := by rfl) (hpl : (backTo cpos (starEach [] X.env)).any (·.1) = false := by rfl) :
    DS X (.Expr (.Call (.Attribute (.Name x p) "update" apos) [e] [] cpos) pos) (sUpd i f) := by
  obtain ⟨t, pe, ev⟩ := he
  refine ⟨_, ps_expr (pe_bm PySem.F.plainAttrs_dict PySem.F.slot_dict_update PySem.F.type_dict_update mt_update (pe_var hN hv hd hcd) (pa_cons pe pa_nil hs) hbase hfew hline hs hpl) hsw, ?_⟩
  intro c O H σ en D hK rs h
  unfold sUpd at h
  cases q : en[i]? with
  | none => rw [q] at h; exact h.elim
  | some s =>
    rw [q] at h
    cases s with
    | no => exact h.elim
    | sh _ => exact h.elim
    | ow d0 =>
      cases d0 with
      | dict ds0 =>
        obtain ⟨p, hp, ⟨kvs0, g1, _⟩, _⟩ := rs.ow i _ q
        refine ⟨.ref p, hp, .inr (.inr (.inl ⟨rfl, .inl ⟨kvs0, g1⟩⟩)), ev c O H σ en _ hK rs (Po.bindS (show PoS c O H (bnd f (updK i) en) D from h) fun d1 en1 v1 H1 _ rs1 k1 r1 h1 => ?_)⟩
        unfold updK at h1
        cases q1 : en1[i]? with
        | none => rw [q1] at h1; exact h1.elim
        | some s1 =>
          rw [q1] at h1
          cases s1 with
          | no => exact h1.elim
          | sh _ => exact h1.elim
          | ow d2 =>
            cases d2 with
            | dict kds =>
              cases d1 with
              | dict ms =>
                obtain ⟨p', hp', ⟨kvs, e1, e2, e3⟩, hO, _⟩ := rs1.ow i _ q1
                rw [hp] at hp'
                cases hp'
                obtain ⟨b, more, rfl, m1, m2, m3, m4⟩ := r1.dicI
                have h2 : PoS c O H1 (if kds.length + ms.length ≤ sizeLine then .ok (.nx, en1.set i (.ow (.dict (mergeD kds ms)))) else .bad) D := h1
                by_cases hz : kds.length + ms.length ≤ sizeLine
                · rw [if_pos hz] at h2
                  have hz' : kvs.length + more.length ≤ sizeLine := by rw [e3.length, m4.length]; exact hz
                  refine ⟨p, b, kvs, more, rfl, rfl, fun z => m2 (z ▸ hO), e1, m1, hz', h2 σ _ O (rs1.turn q1 hp (keep_upd (by simp)) ?_) (.of (keep_upd hO))⟩
                  exact ⟨mergeK kvs more, upd_same, Nat.le_trans (mergeK_len more kvs) hz', (RpD.merge m4 e3).keep (keep_upd hO)⟩
                · rw [if_neg hz] at h2; exact h2.elim
              | _ => exact h1.elim
            | _ => exact h1.elim
      | _ => exact h.elim
end
end EL
namespace EL
open PySem PySem.Spec PyProof.Rows L2

/-! ### list(x) -/
def keyFits : PyData → Bool
  | .str x => decide (x.length ≤ sizeLine)
  | _ => true
def gListOf : PyData → Res PyData
  | .list ds => .ok (.list ds)
  | .tuple ds => .ok (.list ds)
  | .dict kds => if (kds.all fun p => keyFits p.1) = true then .ok (.list (kds.map (·.1))) else .bad
  | _ => .bad
theorem RpD.keysA {K : PySem.W.Frag} {O : List Addr} {H : Hp} : ∀ {kvs : List (Key × V)} {kds : List (PyData × PyData)}, RpD K O H kvs kds → (kds.all fun p => keyFits p.1) = true → RpA K O H (kvs.map fun kv => kV kv.1) (kds.map (·.1))
  | _, _, .nil, _ => .nil
  | _, _, .cons (k := k) r t, h => by
    simp only [List.all_cons, Bool.and_eq_true] at h
    refine .cons ?_ (RpD.keysA t h.2)
    cases k with
    | inl i => exact .int i
    | inr x => exact .str x (of_decide_eq_true h.1)
section
variable {X : Cx} {pos : Pos} {a b e : Expr} {es : List Expr}
theorem call_listD (hc : X.calm = true) : CallR X (.type "list") (fun xs H Q => (∃ p ys, xs = [V.ref p] ∧ (SqL X.K H p ys ∨ SqT X.K H p ys) ∧ ∀ l, H l = none → Q (.ref l) (upd H l (.lst ys))) ∨ rListD xs H Q) := by
  intro pins s σ H xs us Q I r h
  rcases h with h | h
  · exact call_list_of pins s σ H xs us Q I r h
  · exact call_list_dK hc pins s σ H xs us Q I r h
/-- list(e) as a new list that may change -/
theorem df_list {p : Pos} {f : Dn} (hc : X.calm = true) (hg : Gl X "list") (hm : X.mg "list" = none) (ha : DE X a f) (he : starEach [a] X.env = (false, eval a X.env) :: starEach [] X.env := by rfl) (hpl : (backTo pos (starEach [] X.env)).any (·.1) = false := by rfl) :
    DF X (.Call (.Name "list" p) [a] [] pos) (dUn gListOf f) := by
  obtain ⟨t, pa, ev⟩ := ha
  refine ⟨_, pe_callTy (call_listD hc) hg hm (by decide +kernel) (pa_cons pa pa_nil he) (by decide) (by decide) he hpl, ?_⟩
  intro c O H σ en Q hK rs hq
  refine ev c O H σ en _ hK rs ?_
  unfold dUn bnd at hq
  cases q : f en with
  | exc _ _ => rw [q] at hq; exact hq
  | bad => rw [q] at hq; exact hq
  | ok r =>
    obtain ⟨d, en1⟩ := r
    rw [q] at hq
    have hq' : (match (lft (gListOf d) en1 : Res (PyData × En)) with
      | .ok (d, en') => ∀ p H0 H', H0 p = none → RS c O H0 σ en → Keep O H H0 → RS c (p :: O) H' σ en' → Go σ O H en H' en' → OwR c.K (p :: O) H' p d → Q (.ref p) H'
      | _ => False) := hq
    intro v H1 rs1 go1 rp
    have fin : ∀ (ys : List V) (ds : List PyData) (l : Addr), ys.length ≤ sizeLine → RpA c.K O H1 ys ds → H1 l = none → (∀ p H0 H', H0 p = none → RS c O H0 σ en → Keep O H H0 → RS c (p :: O) H' σ en1 → Go σ O H en H' en1 → OwR c.K (p :: O) H' p (.list ds) → Q (.ref p) H') → Q (.ref l) (upd H1 l (.lst ys)) := by
      intro ys ds l hz ra hl hk
      have hH : H l = none := by
        cases e : H l with
        | none => rfl
        | some x => rw [go1.keep l x (rs1.newp hl).1 e] at hl; cases hl
      exact hk l H _ hH rs (.refl _) (rs1.lay hl) (go1.trans (.same (same_new hl))) ⟨ys, upd_same, hz, (ra.more hl).keep (keep_new hl)⟩
    cases d with
    | list ds =>
      obtain ⟨p, xs, rfl, g1, _, g3, g4⟩ := rp.lstI
      exact .inl ⟨p, xs, rfl, .inl (.inl (.inl g1)), fun l hl => fin xs ds l g3 g4 hl hq'⟩
    | tuple ds =>
      obtain ⟨p, xs, rfl, g1, g3, g4⟩ := rp.tupI
      exact .inl ⟨p, xs, rfl, .inr (by rw [← hK]; exact g1), fun l hl => fin xs ds l g3 g4 hl hq'⟩
    | dict kds =>
      obtain ⟨p, kvs, rfl, g1, _, g3, g4⟩ := rp.dicI
      simp only [gListOf] at hq'
      by_cases hz : (kds.all fun p => keyFits p.1) = true
      · rw [if_pos hz] at hq'
        exact .inr ⟨p, kvs, rfl, g1, fun l hl => fin _ _ l (by rw [List.length_map]; exact g3) (g4.keysA hz) hl hq'⟩
      · rw [if_neg hz] at hq'; exact hq'.elim
    | _ => exact hq'.elim

/-! ### sorted(texts) -/
def leS (x y : Str) : Bool := !decide (y.cps.toList < x.cps.toList)
def insS (x : Str) : List Str → List Str
  | [] => [x]
  | y :: r => if leS x y = true then x :: y :: r else y :: insS x r
def sortS : List Str → List Str
  | [] => []
  | x :: r => insS x (sortS r)
end
end EL
namespace EL
open PySem PySem.Spec PyProof.Rows L2
/-! ### sorted -/
def LeS (x y : Str) : Prop := x.cps.toList ≤ y.cps.toList
theorem leS_iff {x y : Str} : leS x y = true ↔ LeS x y := by
  unfold leS LeS
  rw [Bool.not_eq_true', decide_eq_false_iff_not]
  exact List.not_lt
theorem LeS.trans {x y z : Str} (a : LeS x y) (b : LeS y z) : LeS x z := List.le_trans a b
theorem LeS.anti {x y : Str} (a : LeS x y) (b : LeS y x) : x = y := Str.ext' (Array.toList_inj.mp (List.le_antisymm a b))
theorem LeS.total (x y : Str) : LeS x y ∨ LeS y x := List.le_total _ _
theorem insS_perm (x : Str) : ∀ l, (insS x l).Perm (x :: l)
  | [] => .refl _
  | y :: r => by
    unfold insS
    split
    · exact .refl _
    · exact ((insS_perm x r).cons y).trans (.swap x y r)
theorem sortS_perm : ∀ l, (sortS l).Perm l
  | [] => .refl _
  | x :: r => (insS_perm x _).trans ((sortS_perm r).cons x)
theorem insS_sorted (x : Str) : ∀ {l : List Str}, l.Pairwise LeS → (insS x l).Pairwise LeS
  | [], _ => by unfold insS; exact List.pairwise_singleton _ _
  | y :: r, h => by
    have h' := List.pairwise_cons.mp h
    unfold insS
    split
    · rename_i hxy
      refine List.pairwise_cons.mpr ⟨fun z hz => ?_, h⟩
      rcases List.mem_cons.mp hz with e | e
      · rw [e]; exact leS_iff.mp hxy
      · exact (leS_iff.mp hxy).trans (h'.1 z e)
    · rename_i hxy
      have hyx : LeS y x := (LeS.total x y).resolve_left fun q => hxy (leS_iff.mpr q)
      refine List.pairwise_cons.mpr ⟨fun z hz => ?_, insS_sorted x h'.2⟩
      rcases List.mem_cons.mp ((insS_perm x r).mem_iff.mp hz) with e | e
      · rw [e]; exact hyx
      · exact h'.1 z e
theorem sortS_sorted : ∀ l, (sortS l).Pairwise LeS
  | [] => List.Pairwise.nil
  | x :: r => insS_sorted x (sortS_sorted r)
theorem rising_le : ∀ {l : List Str} {p : Str}, risingS p l = true → ∀ z ∈ l, LeS p z
  | [], _, _, _, h => nomatch h
  | x :: r, p, h, z, hz => by
    simp only [risingS, Bool.and_eq_true, Bool.not_eq_true'] at h
    have e : LeS p x := by
      have h1 := h.1
      rw [ltCps_eq] at h1
      exact leS_iff.mp (by unfold leS; rw [h1]; rfl)
    rcases List.mem_cons.mp hz with q | q
    · rw [q]; exact e
    · exact e.trans (rising_le h.2 z q)
theorem rising_pw : ∀ {l : List Str} {p : Str}, risingS p l = true → (p :: l).Pairwise LeS
  | [], _, _ => List.pairwise_singleton _ _
  | x :: r, p, h => by
    have h2 := h
    simp only [risingS, Bool.and_eq_true] at h2
    exact List.pairwise_cons.mpr ⟨fun z hz => rising_le h z hz, rising_pw h2.2⟩
theorem sorted_pw : ∀ {l : List Str}, sortedS l = true → l.Pairwise LeS
  | [], _ => .nil
  | _ :: _, h => rising_pw h
theorem sortS_only {xs ys : List Str} (p : ys.Perm xs) (h : sortedS ys = true) : ys = sortS xs :=
  List.Perm.eq_of_pairwise (le := LeS) (fun _ _ _ _ a b => a.anti b) (sorted_pw h) (sortS_sorted xs) (p.trans (sortS_perm xs).symm)
/-- ints -/
def insI (x : Int) : List Int → List Int
  | [] => [x]
  | y :: r => if x ≤ y then x :: y :: r else y :: insI x r
def sortI : List Int → List Int
  | [] => []
  | x :: r => insI x (sortI r)
theorem insI_perm (x : Int) : ∀ l, (insI x l).Perm (x :: l)
  | [] => .refl _
  | y :: r => by
    unfold insI
    split
    · exact .refl _
    · exact ((insI_perm x r).cons y).trans (.swap x y r)
theorem sortI_perm : ∀ l, (sortI l).Perm l
  | [] => .refl _
  | x :: r => (insI_perm x _).trans ((sortI_perm r).cons x)
theorem insI_sorted (x : Int) : ∀ {l : List Int}, l.Pairwise (· ≤ ·) → (insI x l).Pairwise (· ≤ ·)
  | [], _ => by unfold insI; exact List.pairwise_singleton _ _
  | y :: r, h => by
    have h' := List.pairwise_cons.mp h
    unfold insI
    split
    · rename_i hxy
      refine List.pairwise_cons.mpr ⟨fun z hz => ?_, h⟩
      rcases List.mem_cons.mp hz with e | e
      · rw [e]; exact hxy
      · exact Int.le_trans hxy (h'.1 z e)
    · rename_i hxy
      refine List.pairwise_cons.mpr ⟨fun z hz => ?_, insI_sorted x h'.2⟩
      rcases List.mem_cons.mp ((insI_perm x r).mem_iff.mp hz) with e | e
      · rw [e]; omega
      · exact h'.1 z e
theorem sortI_sorted : ∀ l, (sortI l).Pairwise (· ≤ ·)
  | [] => List.Pairwise.nil
  | x :: r => insI_sorted x (sortI_sorted r)
theorem sortI_only {xs ys : List Int} (p : ys.Perm xs) (h : ys.Pairwise (· ≤ ·)) : ys = sortI xs :=
  List.Perm.eq_of_pairwise (le := (· ≤ ·)) (fun _ _ _ _ a b => Int.le_antisymm a b) h (sortI_sorted xs) (p.trans (sortI_perm xs).symm)
def intsOf : List PyData → Option (List Int)
  | [] => some []
  | .int x :: r => (intsOf r).map (x :: ·)
  | _ :: _ => none
def gSorted : PyData → Res PyData
  | .list ds => if ds.length < 64 then (match strsOf ds with
    | some ss => .ok (.list ((sortS ss).map .str))
    | none => match intsOf ds with
      | some ns => .ok (.list ((sortI ns).map .int))
      | none => .bad) else .bad
  | _ => .bad
section
variable {K : PySem.W.Frag} {O : List Addr} {H : Hp}
theorem ints_ok : ∀ {xs : List V} {ds : List PyData} {ns : List Int}, RpA K O H xs ds → intsOf ds = some ns → xs = ns.map V.int
  | _, _, _, .nil, h => by cases h; rfl
  | _, _, _, .cons (d := d) a b, h => by
    cases d with
    | int i =>
      simp only [intsOf, Option.map_eq_some_iff] at h
      obtain ⟨r, h1, rfl⟩ := h
      cases a
      rw [ints_ok b h1]; rfl
    | _ => cases h
theorem ints_rp : ∀ (ns : List Int), RpA K O H (ns.map V.int) (ns.map .int)
  | [] => .nil
  | i :: r => .cons (.int i) (ints_rp r)
end
end EL
namespace EL
open PySem PySem.Spec PyProof.Rows L2
section
variable {K : PySem.W.Frag} {O : List Addr} {H : Hp}
theorem strs_fit : ∀ {xs : List V} {ds : List PyData} {ss : List Str}, RpA K O H xs ds → strsOf ds = some ss → ∀ z ∈ ss, z.length ≤ sizeLine
  | _, _, _, .nil, h, z, hz => by cases h; cases hz
  | _, _, _, .cons (d := d) a b, h, z, hz => by
    cases d with
    | str i =>
      simp only [strsOf, Option.map_eq_some_iff] at h
      obtain ⟨r, h1, rfl⟩ := h
      cases a with
      | str _ q =>
        rcases List.mem_cons.mp hz with e | e
        · rw [e]; exact q
        · exact strs_fit b h1 z e
    | _ => cases h
theorem call_sortedD {X : Cx} : CallR X (.builtin "sorted") (fun vs H Q => rSortedS X.K vs H Q ∨ rSorted X.K vs H Q) := by
  intro pins s σ H xs us Q I r h
  rcases h with h | h
  · exact cr_sortedS pins s σ H xs us Q I r h
  · exact cr_sorted pins s σ H xs us Q I r h
theorem gSorted_ok : CalD K (fun vs H Q => rSortedS K vs H Q ∨ rSorted K vs H Q) (g1 gSorted) := g1_ok fun O H x d Q l r h => by
  cases d with
  | list ds =>
    obtain ⟨a, xs, rfl, h1, _, _, h4⟩ := r.lstI
    unfold gSorted at h
    by_cases hz : ds.length < 64
    · simp only [if_pos hz] at h
      cases q : strsOf ds with
      | some ss =>
        simp only [q] at h
        have e := strs_ok h4 q
        subst e
        have hl : ss.length < 64 := by
          have := h4.length
          rw [List.length_map] at this
          omega
        refine .inl ⟨a, ss, rfl, .inl (.inl h1), hl, fun ys p hp hs hn => ?_⟩
        rw [sortS_only hp hs]
        have fit := strs_fit h4 q
        have hall : ((sortS ss).all fun z => decide (z.length ≤ sizeLine)) = true := List.all_eq_true.mpr fun z hz => decide_eq_true (fit z ((sortS_perm ss).mem_iff.mp hz))
        have hlen : ((sortS ss).map V.str).length ≤ sizeLine := by
          rw [List.length_map, (sortS_perm ss).length_eq]; exact small64 hl
        exact h _ _ (same_new hn) (Rp.newL l hn hlen (rp_strs _ hall))
      | none =>
        simp only [q] at h
        cases q2 : intsOf ds with
        | none => simp only [q2] at h; exact h.elim
        | some ns =>
          simp only [q2] at h
          have e := ints_ok h4 q2
          subst e
          have hl : ns.length < 64 := by
            have := h4.length
            rw [List.length_map] at this
            omega
          refine .inr ⟨a, ns, rfl, .inl (.inl h1), hl, fun ys p hp hs hn => ?_⟩
          rw [sortI_only hp hs]
          have hlen : ((sortI ns).map V.int).length ≤ sizeLine := by
            rw [List.length_map, (sortI_perm ns).length_eq]; exact small64 hl
          exact h _ _ (same_new hn) (Rp.newL l hn hlen (ints_rp _))
    · simp only [if_neg hz] at h; exact h.elim
  | _ => exact h.elim
abbrev gFdiv := gI (fun _ j => decide (0 < j) && decide (j.natAbs.log2 < 9000)) fun i j => .int (i / j)
theorem gFdiv_ok : OpD K (rI CDivW fun i j => V.int (i / j)) gFdiv := gI_ok (fun i j h => by
  rw [Bool.and_eq_true] at h
  exact ⟨of_decide_eq_true h.1, of_decide_eq_true h.2⟩) fun _ _ _ _ => .int _
abbrev gPow := gI (fun i j => decide (0 ≤ j) && decide (j ≤ 1000000) && decide (i.natAbs < 2 ^ 64)) fun i j => .int (i ^ j.toNat)
theorem gPow_ok : OpD K (rI CPow fun i j => V.int (i ^ j.toNat)) gPow := gI_ok (fun i j h => by
  rw [Bool.and_eq_true, Bool.and_eq_true] at h
  exact ⟨of_decide_eq_true h.1.1, of_decide_eq_true h.1.2, of_decide_eq_true h.2⟩) fun _ _ _ _ => .int _
def gNeg : PyData → Res PyData
  | .int i => .ok (.int (-i))
  | _ => .bad
theorem gNeg_ok : UnD K (rU fun i => V.int (-i)) gNeg := fun O H x d Q l r h => by
  cases d with
  | int i => cases r; exact ⟨i, rfl, h.okE (.int _)⟩
  | _ => exact h.elim
end
section
variable {X : Cx} {pos : Pos} {a b e : Expr} {es : List Expr}
/-- tuple(range(e)) -/
def rgD (n : Int) : List PyData := (List.range n.toNat).map fun i => .int (i : Nat)
def gTupRg : PyData → Res PyData
  | .int n => if (decide (0 ≤ n) && decide (n ≤ 1000000)) = true then .ok (.tuple (rgD n)) else .bad
  | _ => .bad
theorem rg_rp {K : PySem.W.Frag} {O : List Addr} {H : Hp} (l : List Nat) : RpA K O H (l.map fun i => V.int (0 + ((i : Nat) : Int))) (l.map fun i => .int ((i : Nat) : Int)) := by
  induction l with
  | nil => exact .nil
  | cons x r ih =>
    refine .cons ?_ ih
    show Rp K O H (V.int (0 + ((x : Nat) : Int))) (.int ((x : Nat) : Int))
    rw [Int.zero_add]
    exact .int _
theorem de_tupRg {p p2 pos2 : Pos} {f : Dn} (hc : X.calm = true) (hg : Gl X "tuple") (hm : X.mg "tuple" = none) (hg2 : Gl X "range") (hm2 : X.mg "range" = none) (ha : DE X a f) (na : starEach [a] X.env = (false, eval a X.env) :: starEach [] X.env := by rfl)
    (na2 : starEach [.Call (.Name "range" p2) [a] [] pos2] X.env = (false, eval (.Call (.Name "range" p2) [a] [] pos2) X.env) :: starEach [] X.env := by rfl) :
    DE X (.Call (.Name "tuple" p) [.Call (.Name "range" p2) [a] [] pos2] [] pos) (dUn gTupRg f) := by
  obtain ⟨t, pa, ev⟩ := ha
  refine ⟨_, pe_tupRg hc hg hm (prg_1 hg2 hm2 pa na) na2, ?_⟩
  intro c O H σ en Q hK rs hq
  refine ev c O H σ en _ hK rs ?_
  refine Po.bind (k := fun x => lft (gTupRg x)) (R' := fun H' v d => Rp c.K O H' v d) hq fun d en' v H1 _ rs1 go1 rp hq1 => ?_
  cases d with
  | int n =>
    cases rp
    simp only [gTupRg] at hq1
    by_cases hz : (decide (0 ≤ n) && decide (n ≤ 1000000)) = true
    · rw [if_pos hz] at hq1
      rw [Bool.and_eq_true] at hz
      have z1 := of_decide_eq_true hz.1
      have z2 := of_decide_eq_true hz.2
      refine ⟨n, rfl, RgOk.of_le (by omega) (by omega) (by omega) (by omega), fun q hn => ?_⟩
      have hlen : (rgV 0 n).length ≤ sizeLine := by rw [rgV_length, sizeLine_eq]; omega
      refine hq1 _ _ (rs1.same (same_new hn)) (.same (same_new hn)) ?_
      refine Rp.newT rs1.live hn hlen ?_
      unfold rgV rgD
      rw [Int.sub_zero]
      exact rg_rp _
    · rw [if_neg hz] at hq1; exact hq1.elim
  | _ => exact hq1.elim
end
end EL
namespace EL
open PySem PySem.Spec PyProof.Rows L2
/-! ### the pen -/
def penD (ns : List Int) : PyData := .list [.list (ns.map .int), .int 0, .int 0]
def spPen (K : PySem.W.Frag) : Sp := fun vs H Q _ => ∃ (a : Addr) (ns : List Int), vs = [.ref a] ∧ SqL K H a (ns.map V.int) ∧ ns.length ≤ 63 ∧
  ∀ (p q : Addr) (H' : Hp), Same H H' → H p = none → p ≠ q → H' q = some (.lst (ns.map V.int)) → H' p = some (.lst [.ref q, .int 0, .int 0]) → Q (.ref p) H'
/-! ### the law -/
def lawEnd (r : Res (Fl × En)) : Res PyData := match r with
  | .ok (.rt d, _) => .ok d
  | _ => .bad
def startL (n : Nat) (ns : List Int) : En := .no :: .ow (penD ns) :: List.replicate (n - 2) .no
def spLaw (body : Sn) (n : Nat) (K : PySem.W.Frag) : Sp := fun vs H Q _ => ∃ (a : Addr) (ns : List Int), vs = [.ref a] ∧ SqL K H a (ns.map V.int) ∧ ns.length ≤ 63 ∧
  lawEnd (body (startL n ns)) = .ok (.bool true) ∧ ∀ H', Q (.bl true) H'
section
variable {P : Program} {w : World} {K : PySem.W.Frag} {mg : Str → Option Value} {base : Heap}
theorem rs_law {H H' : Hp} {p q : Addr} {ns : List Int} {v0 : V} {n : Nat} (hn : 2 ≤ n) (hl : ns.length ≤ 63) (sm : Same H H') (hp : H p = none) (hne : p ≠ q) (eq : H' q = some (.lst (ns.map V.int))) (ep : H' p = some (.lst [.ref q, .int 0, .int 0])) :
    RS ⟨K, H, [], []⟩ [p] H' (some v0 :: some (.ref p) :: List.replicate (n - 2) none) (startL n ns) where
  len := by simp [startL]
  keep := .of_same sm
  pin := fun a h => nomatch h
  sub := fun a h => nomatch h
  live := fun a h => by
    rcases List.mem_singleton.mp h with rfl
    rw [ep]; exact fun z => nomatch z
  sh := fun i d e => by
    match i, e with
    | 0, e => cases e
    | 1, e => cases e
    | i + 2, e =>
      have e' : (List.replicate (n - 2) Sl.no)[i]? = some (Sl.sh d) := e
      have := List.eq_of_mem_replicate (List.mem_of_getElem? e')
      cases this
  ow := fun i d e => by
    match i, e with
    | 0, e => cases e
    | 1, e =>
      have e' : some (Sl.ow (penD ns)) = some (Sl.ow d) := e
      cases e'
      refine ⟨p, rfl, ⟨_, ep, ?_, ?_⟩, List.mem_singleton.mpr rfl, .inr ⟨hp, (fun h => nomatch h), by decide⟩⟩
      · show 3 ≤ sizeLine
        decide
      · refine .cons (.lst eq (fun h => hne (List.mem_singleton.mp h).symm) ?_ (ints_rp ns)) (.cons (.int 0) (.cons (.int 0) .nil))
        rw [List.length_map]
        exact Nat.le_trans hl (by decide)
    | i + 2, e =>
      have e' : (List.replicate (n - 2) Sl.no)[i]? = some (Sl.ow d) := e
      have := List.eq_of_mem_replicate (List.mem_of_getElem? e')
      cases this
  dist := fun i j d e a h1 h2 _ _ => by
    have one : ∀ (i : Nat) (d : PyData), (startL n ns)[i]? = some (Sl.ow d) → i = 1 := fun i d h => by
      match i, h with
      | 0, h => cases h
      | 1, h => rfl
      | i + 2, h =>
        have e' : (List.replicate (n - 2) Sl.no)[i]? = some (Sl.ow d) := h
        have := List.eq_of_mem_replicate (List.mem_of_getElem? e')
        cases this
    rw [one i d h1, one j e h2]
theorem fn_law {x qual y : Str} {st : Stmt} {f : Addr} {fd : FuncData} {N : List Str} {k : Nat} {body : Sn} {st1 : Stmt} {rest : List Stmt} (F : Fun K x qual st f fd) (S : FnScope N [y] (defScope st)) (hn : 2 ≤ N.length) (hst : defBody st = st1 :: rest)
    (h1 : ∀ (cdv : Value) (A : Around) (outer : List Env) (s : Shared) (H : Hp) (E : XK), A.guards = some [] → Room k (A.deeper (envOfC qual (defScope st) s.heap.objs.size f cdv)) → ∃ E', PS (cxOf CX0 P w K mg base N qual (defScope st) f cdv A outer s H E).nox st1 (tAsg (tCall (spPen K) [] E' (tCons (tVar 0) tNil)) (L2.gName 1)))
    (hb : ∀ (cdv : Value) (A : Around) (outer : List Env) (s : Shared) (H : Hp) (E : XK), A.guards = some [] → Room k (A.deeper (envOfC qual (defScope st) s.heap.objs.size f cdv)) → DSs (cxOf CX0 P w K mg base N qual (defScope st) f cdv A outer s H E).nox rest body)
    : FnG P w K mg base (k + 1) f fd [y] (spLaw body N.length K) := by
  refine fn_body F S (fun vs H Q E h => ?_) (fun cdv A outer s H vs Q E hg hr h => ?_)
  · obtain ⟨a, ns, rfl, _⟩ := h
    rfl
  · obtain ⟨a, ns, rfl, hS, hl, hv, hq⟩ := h
    obtain ⟨E', p1⟩ := h1 cdv A outer s H E hg hr
    obtain ⟨t, pt, ev⟩ := hb cdv A outer s H E hg hr
    rw [hst]
    refine ⟨_, pss_cons p1 pt, ?_⟩
    show (tCall (spPen K) [] E' (tCons (tVar 0) tNil)) (L2.start N [.ref a]) H _
    have e0 : L2.start N [V.ref a] = some (.ref a) :: none :: List.replicate (N.length - 2) none := by
      unfold L2.start
      obtain ⟨m, hm⟩ : ∃ m, N.length = m + 2 := ⟨N.length - 2, by omega⟩
      rw [hm]
      rfl
    rw [e0]
    refine ⟨.ref a, rfl, a, ns, rfl, hS, hl, fun p q H' sm hp hne eq ep => ?_⟩
    refine ev ⟨K, H, [], []⟩ [p] H' _ (startL N.length ns) _ rfl (rs_law hn hl sm hp hne eq ep) ?_
    unfold lawEnd at hv
    generalize body (startL N.length ns) = r at hv
    match r, hv with
    | .ok (.rt d, en), hv =>
      cases hv
      intro v σ' H2 O' _ _ rp
      cases rp
      exact hq H2
end
/-! ### the end -/
theorem law_callG {P : Program} {w : World} {K : PySem.W.Frag} {mg mb : Str → Option Value} {k : Nat} {fa a : Addr} {fd : FuncData} {x : Str} {sp : Sp} {t : Shared} {vs : List Value} {ns : List Int}
    (kin : K.In t.heap) (nsg : t.heap.Ns mainGlobals mg) (nsb : t.heap.Ns builtinsNs mb) (bb : ∀ x : Str, x ≠ "__name__" → mb x = bootBuiltins x) (lim : t.heap.NoLimit) (gen : t.gens = #[])
    (obj : t.heap.get? a = some { cls := .type "list", data := .seq vs.toArray }) (isI : IntsAre vs ns) (len : ns.length ≤ sizeLine) (room : Room k callerA)
    (F : ∀ base : Heap, K.In base → base.Ns mainGlobals mg → FnG P w K mg base k fa fd [x] sp) (bind : ∀ (s : Shared) (u : Value), BindsTo s fd ⟨[u], []⟩ [(x, u)])
    (hsp : ∀ H : Hp, Only H → SqL K H a (ns.map V.int) → sp [.ref a] H (fun v _ => v = .bl true) fun _ _ _ => False) :
    codeAny (model P w) callerA (.call (.ref fa) ⟨[.ref a], []⟩) (fun r u => r = .ok (.ret (.bool true)) ∧ OldK t.heap u.heap ∧ u.os = t.os ∧ AllBare u.gens) t := by
  have rel := vals_ints isI
  have size := isI.length
  have main : ∀ H : Hp, Only H → SqL K H a (ns.map V.int) → HOk P w H t.heap → (∀ b, H b ≠ none → b = a) → (H a ≠ none → K.lookup a = none) →
      codeAny (model P w) callerA (.call (.ref fa) ⟨[.ref a], []⟩) (fun r u => r = .ok (.ret (.bool true)) ∧ OldK t.heap u.heap ∧ u.os = t.os ∧ AllBare u.gens) t := by
    intro H only sq hok only_a free_a
    have dictFree : ∀ {b : Addr} {o : Obj} {es : Array DictEntry} {ep : Nat}, t.heap.get? b = some o → o.data = .dict es ep → H b = none := by
      intro b o es ep e d
      cases q : H b with
      | none => rfl
      | some u =>
        obtain rfl : b = a := only_a b (by rw [q]; exact fun z => nomatch z)
        rw [obj] at e
        cases e
        cases (show Data.seq vs.toArray _ = Data.dict es ep from d)
    have spaces : ∀ {b : Addr} {m : Str → Option Value}, t.heap.Ns b m → (hidT t.heap H).Ns b m := by
      rintro b m ⟨o, es, ep, e, d, r⟩
      exact ⟨o, es, ep, hidT_get e (dictFree e d), d, r⟩
    have kin' : K.In (hidT t.heap H) := by
      intro b o e
      refine hidT_get (kin b o e) ?_
      cases q : H b with
      | none => rfl
      | some u =>
        obtain rfl : b = a := only_a b (by rw [q]; exact fun z => nomatch z)
        rw [free_a (by rw [q]; exact fun z => nomatch z)] at e
        cases e
    have lim' : (hidT t.heap H).NoLimit := by
      obtain ⟨mc, l1, l2⟩ := lim
      exact ⟨mc, spaces l1, l2⟩
    have around : Env0 P w K mg (hidT t.heap H) callerA [] t H :=
      ⟨rfl, ⟨kin', spaces nsg, ⟨mb, spaces nsb, bb⟩, lim'⟩, fun b o e => of_hidT e, Nat.le_of_eq (hidT_size _ _), trivial, (fun b hb => nomatch (show b ∈ ([] : List Addr) from hb)), hok, .of_eq gen⟩
    have ran := (F _ kin' (spaces nsg)).run callerA [] t H ⟨[.ref a], []⟩ [.ref a] [.ref a] _ _ rfl room around (bind t (.ref a)) (.cons rfl .nil) (hsp H only sq)
    refine codeAny_mono ran fun r u h => ?_
    match r, h with
    | .error e, h => exact (show False from h).elim
    | .ok .next, h => exact (show False from h).elim
    | .ok .brk, h => exact (show False from h).elim
    | .ok .cont, h => exact (show False from h).elim
    | .ok (.ret z), h =>
      obtain ⟨v, H', os, bare, un, hok', r', q⟩ := h
      obtain rfl : v = .bl true := q
      obtain rfl : z = Value.bool true := r'
      refine ⟨rfl, OldK.of_keep fun b o e => ?_, os, bare⟩
      rcases only b with n | ⟨ob, xs, n⟩
      · exact un.keep b o e n (fun z => nomatch (show b ∈ ([] : List Addr) from z)) (fun z => nomatch z)
      · have g1 := (hok b _ n).1
        have g2 := (hok' b _ (un.frzs b ob _ n)).1
        rw [e] at g1
        cases g1
        exact g2
  cases hk : K.lookup a with
  | some o =>
    have e := kin a o hk
    rw [obj] at e
    cases e
    refine main (fun _ => none) (fun _ => .inl rfl) (.inr ⟨_, vs.toArray, _, hk, rfl, rfl, rfl, ?_, ?_⟩) (fun b u z => ?_) (fun b z => absurd rfl z) fun z => absurd rfl z
    · rw [List.size_toArray, size]; exact len
    · simpa using rel
    · cases (show (none : Option HO) = some u from z)
  | none =>
    have at_a : (if a = a then some (HO.frz { cls := .type "list", data := .seq vs.toArray } (.lst (ns.map V.int))) else none) = some (HO.frz { cls := .type "list", data := .seq vs.toArray } (.lst (ns.map V.int))) := if_pos rfl
    refine main (fun b => if b = a then some (HO.frz { cls := .type "list", data := .seq vs.toArray } (.lst (ns.map V.int))) else none) (fun b => ?_) (.inl (.inr ⟨_, at_a⟩)) (fun b u z => ?_) (fun b z => ?_) fun _ => hk
    · by_cases hb : b = a
      · exact .inr ⟨_, _, if_pos hb⟩
      · exact .inl (if_neg hb)
    · by_cases hb : b = a
      · subst hb
        cases (at_a.symm.trans z)
        exact ⟨obj, by rw [List.length_map]; exact len, vs, _, rel, obj⟩
      · cases ((if_neg hb).symm.trans z)
    · exact Decidable.byContradiction fun hb => z (if_neg hb)
theorem walk_G {l : PySem.W.OpenLaw} {n k : Nat} {q : Program} {loose : List Str} {XP : (Str → Option Value) → Heap → Prop} {YP : World → Heap → Prop} {d : DefRec} {K : Params → PySem.W.Frag} {sp : World → Sp} {x : Str}
    (most : l.most = some n) (small : n ≤ sizeLine) (plain : d.params.defaults = []) (room : Room k callerA) (part : ∀ (w : World) (h : Heap), YP w h → (K w.params).In h)
    (F : ∀ (w : World) (mg : Str → Option Value) (fa : Addr) (h : Heap), (K w.params).In h → h.Ns mainGlobals mg → mg d.name = some (.ref fa) →
      ∃ fd : FuncData, (∀ (s : Shared) (u : Value), BindsTo s fd ⟨[u], []⟩ [(x, u)]) ∧ ∀ base : Heap, (K w.params).In base → base.Ns mainGlobals mg → FnG l.prog w (K w.params) mg base k fa fd [x] (sp w))
    (hsp : ∀ (w : World) (H : Hp) (a : Addr) (ns : List Int), ns.length ≤ n → Only H → SqL (K w.params) H a (ns.map V.int) → sp w [.ref a] H (fun v _ => v = .bl true) fun _ _ _ => False) :
    PySem.W.WalkO q loose XP YP l.row.toRowW d [] (fun f vs => PySem.call f vs) :=
  Att.attach_call most plain fun w s₀ t mg mb fa o pm cd doc a vs ns G Y ho hd hcd hmg hobj hints hlen hg => by
    have kin := part w _ Y
    obtain ⟨fd, hb, hF⟩ := F w mg fa _ kin G.T.g hmg
    exact law_callG kin G.T.g G.T.b G.T.builtins G.T.nolimit hg hobj hints (Nat.le_trans hlen small) room hF hb fun H hO hS => hsp w H a ns hlen hO hS
end EL
namespace EL
open PySem PySem.Spec PyProof.Rows L2
theorem h1 {k : Nat} {A : Around} (r : Room k A) : A.units + 1 < cLine := by have := r.un; omega
theorem h64 {k : Nat} {A : Around} (r : Room k A) : A.units + 64 < cLine := by have := r.un; omega
theorem h65 {k : Nat} {A : Around} (r : Room k A) : A.units + 65 < cLine := by have := r.un; omega
theorem h66 {k : Nat} {A : Around} (r : Room k A) : A.units + 66 < cLine := by have := r.un; omega
/-! ### ==, != -/
def gEqA : PyData → PyData → Res PyData
  | .str x, .str y => .ok (.bool (decide (x = y)))
  | x, y => gEq x y
def gNeA : PyData → PyData → Res PyData
  | .str x, .str y => .ok (.bool (!decide (x = y)))
  | x, y => gNe x y
abbrev rEqA (K : PySem.W.Frag) : R2 := fun x y H Q => rEq x y H Q ∨ rEqD K x y H Q
abbrev rNeA (K : PySem.W.Frag) : R2 := fun x y H Q => rNe x y H Q ∨ rNeD K x y H Q
theorem op_eqA {X : Cx} (hu : X.A.units + 64 < cLine) : OpR X (compareOp .Eq) (rEqA X.K) := op_eq.or (op_eqD hu)
theorem op_neA {X : Cx} (hu : X.A.units + 64 < cLine) : OpR X (compareOp .NotEq) (rNeA X.K) := op_ne.or (op_neD hu)
theorem dec_str {x y : Str} : decide (V.str x = V.str y) = decide (x = y) := by
  by_cases h : x = y
  · subst h; simp
  · rw [decide_eq_false h]
    exact decide_eq_false fun z => h (V.str.inj z)
theorem gEqA_ok {K : PySem.W.Frag} : OpD K (rEqA K) gEqA := by
  intro O H x y dx dy Q l rx ry h
  by_cases hs : ∃ a b, dx = .str a ∧ dy = .str b
  · obtain ⟨a, b, rfl, rfl⟩ := hs
    cases rx
    cases ry
    refine .inl ⟨rfl, ?_⟩
    rw [dec_str]
    exact h.okE (.bl _)
  · refine .inr (gEq_ok O H x y dx dy Q l rx ry ?_)
    have e : gEqA dx dy = gEq dx dy := by
      unfold gEqA
      split
      · exact (hs ⟨_, _, rfl, rfl⟩).elim
      · rfl
    rw [← e]
    exact h
theorem gNeA_ok {K : PySem.W.Frag} : OpD K (rNeA K) gNeA := by
  intro O H x y dx dy Q l rx ry h
  by_cases hs : ∃ a b, dx = .str a ∧ dy = .str b
  · obtain ⟨a, b, rfl, rfl⟩ := hs
    cases rx
    cases ry
    refine .inl ⟨rfl, ?_⟩
    rw [dec_str]
    exact h.okE (.bl _)
  · refine .inr (gNe_ok O H x y dx dy Q l rx ry ?_)
    have e : gNeA dx dy = gNe dx dy := by
      unfold gNeA
      split
      · exact (hs ⟨_, _, rfl, rfl⟩).elim
      · rfl
    rw [← e]
    exact h
theorem bindsK {K : PySem.W.Frag} {x qual : Str} {st : Stmt} {f : Addr} {fd : FuncData} {ps : List Str} (F : Fun K x qual st f fd)
    (h : ∀ (kV doc pm : Value) (an : Option Addr) (cdv ct : Value) (us : List Value), us.length = ps.length → bindArgs (PySem.W.fnOf x qual (defArgs st) (defBody st) (defScope st) .none kV doc pm an cdv ct) ⟨[], ps.zip us⟩ = pure (ps.zip us)) :
    ∀ (s : Shared) (ws : List Value), ws.length = ps.length → BindsTo s fd ⟨[], ps.zip ws⟩ (ps.zip ws) := by
  obtain ⟨oc, od, kV, doc, pm, an, cdv, ct, osl, rfl, lk, hcd⟩ := F.ex
  intro s ws hl
  exact .of_eq (h kV doc pm an cdv ct ws hl)
theorem cut63 {xs : List V} (h : xs.length ≤ 63) : cutV xs none (some 63) = xs := by
  unfold cutV
  rw [HT.sIx_none, show HT.sIx xs.length xs.length (some 63) = min 63 xs.length from HT.sIx_nat xs.length xs.length 63, show min 63 xs.length = xs.length by omega, List.drop_zero, Nat.sub_zero]
  exact List.take_length
section
variable {X : Cx} {pos p1 p2 p3 p4 p5 p6 p7 p8 p9 : Pos} {j1 j2 j3 : Nat}
/-- [list(script[:63]), 0, 0] -/
theorem pen_body (hn : X.mg "list" = none) (hg : Gl X "list") (h0 : X.N[(0 : Nat)]? = some "_law_script") (hv : Vis X.env.scope "_law_script")
    (e1 : starEach [Expr.Subscript (.Name "_law_script" p2) (.Slice none (some (.Constant (.int 63) j1 p3)) none p4) p5] X.env = (false, eval (Expr.Subscript (.Name "_law_script" p2) (.Slice none (some (.Constant (.int 63) j1 p3)) none p4) p5) X.env) :: starEach [] X.env := by rfl) :
    ∃ t, PSs X [.Return (some (.List [.Call (.Name "list" p1) [Expr.Subscript (.Name "_law_script" p2) (.Slice none (some (.Constant (.int 63) j1 p3)) none p4) p5] [] p6, .Constant (.int 0) j2 p7, .Constant (.int 0) j3 p8] p9)) pos] t ∧
      ∀ (a : Addr) (ns : List Int) (σ : L2.St) (H : Hp) (D : Ends), σ[(0 : Nat)]? = some (some (.ref a)) → SqL X.K H a (ns.map V.int) → ns.length ≤ 63 →
        (∀ (p q : Addr) (H' : Hp), Same H H' → H p = none → p ≠ q → H' q = some (.lst (ns.map V.int)) → H' p = some (.lst [.ref q, .int 0, .int 0]) → D.rt (.ref p) H') → t D σ H := by
  refine ⟨_, pss_one (ps_ret (pe_lst (pa_cons (pe_callTy call_list_of hg hn boot_list (pa_cons (pe_slice sl_list (pe_var h0 hv) po_none (po_some pe_int)) pa_nil) (by decide) (by decide) rfl rfl) (pa_cons pe_int (pa_cons pe_int pa_nil))))), ?_⟩
  intro a ns σ H D hσ hS hl hq
  refine ⟨.ref a, hσ, 63, rfl, a, ns.map V.int, rfl, hS, fun c nc => ?_⟩
  refine ⟨c, _, rfl, .inl (.inl (.inl upd_same)), fun l nl => ⟨by show 3 ≤ sizeLine; decide, fun p np => ?_⟩⟩
  have ncl : c ≠ l := fun z => by rw [← z, upd_same] at nl; cases nl
  have ncp : c ≠ p := fun z => by rw [← z, upd_ne ncl, upd_same] at np; cases np
  have nlp : l ≠ p := fun z => by rw [← z, upd_same] at np; cases np
  have s1 : Same H (upd H c (.lst (cutV (ns.map V.int) none (some 63)))) := same_new nc
  have hp : H p = none := by
    rw [upd_ne nlp.symm, upd_ne ncp.symm] at np
    exact np
  refine hq p l _ ((s1.trans (same_new nl)).trans (same_new np)) hp nlp.symm ?_ upd_same
  rw [upd_ne nlp, upd_same, cut63 (by rw [List.length_map]; exact hl)]
end
end EL
namespace EL
open PySem PySem.Spec PyProof.Rows L2
/-! ### constants of the module -/
def valB : Value → PyData → Bool
  | .none, .none => true
  | .bool b, .bool c => b == c
  | .int i _, .int j => decide (i = j)
  | .str x _, .str y => decide (x = y) && decide (x.length ≤ sizeLine)
  | _, _ => false
def valsB : List Value → List PyData → Bool
  | [], [] => true
  | v :: vs, d :: ds => valB v d && valsB vs ds
  | _, _ => false
theorem valB_ok {K : PySem.W.Frag} : ∀ {u : Value} {d : PyData}, valB u d = true → ∃ v, RelV v u ∧ ∀ O H, Rp K O H v d
  | .none, .none, _ => ⟨.non, rfl, fun _ _ => .non⟩
  | .bool b, .bool c, h => by
    obtain rfl : b = c := eq_of_beq h
    exact ⟨.bl b, rfl, fun _ _ => .bl b⟩
  | .int i t, .int j, h => by
    obtain rfl : i = j := of_decide_eq_true h
    exact ⟨.int i, ⟨t, rfl⟩, fun _ _ => .int i⟩
  | .str x t, .str y, h => by
    have h' : (decide (x = y) && decide (x.length ≤ sizeLine)) = true := h
    rw [Bool.and_eq_true] at h'
    obtain rfl : x = y := of_decide_eq_true h'.1
    exact ⟨.str x, ⟨t, rfl⟩, fun _ _ => .str x (of_decide_eq_true h'.2)⟩
theorem valsB_ok {K : PySem.W.Frag} : ∀ {us : List Value} {ds : List PyData}, valsB us ds = true → ∃ vs, Vals vs us ∧ ∀ O H, RpA K O H vs ds
  | [], [], _ => ⟨[], .nil, fun _ _ => .nil⟩
  | u :: us, d :: ds, h => by
    have h' : (valB u d && valsB us ds) = true := h
    rw [Bool.and_eq_true] at h'
    obtain ⟨v, r, p⟩ := valB_ok (K := K) h'.1
    obtain ⟨vs, rs, ps⟩ := valsB_ok (K := K) h'.2
    exact ⟨v :: vs, .cons r rs, fun O H => .cons (p O H) (ps O H)⟩
section
variable {K : PySem.W.Frag} {w : World}
abbrev CE (K : PySem.W.Frag) (e : DictEntry) (p : Str × PyData) : Prop := (∃ t, e.key = .str p.1 t) ∧ ∃ v, RelV v e.val ∧ ∀ O H, Rp K O H v p.2
/-- a tuple of the module -/
theorem tupC {a : Addr} {od : Option Addr} {its : Array Value} {m : Nat} {sl : Array (Option Value)} {ds : List PyData} (h : K.lookup a = some ⟨.type "tuple", od, .seq its m, sl⟩) (c : valsB its.toList ds = true) (hy : ds.length ≤ sizeLine) : ∀ O H, Rp K O H (.ref a) (.tuple ds) := by
  obtain ⟨vs, rv, rp⟩ := valsB_ok (K := K) c
  have hl : vs.length = its.size := by rw [rv.length, Array.length_toList]
  have hz : its.size ≤ sizeLine := by rw [← hl, (rp [] (fun _ => none)).length]; exact hy
  exact fun O H => .tupK (fun H' => .inr ⟨_, its, m, h, rfl, rfl, hz, rv⟩) (by rw [hl]; exact hz) (rp O H)
theorem ce_tup {a : Addr} {od : Option Addr} {its : Array Value} {m : Nat} {sl : Array (Option Value)} {x : Str} {t : Tok} {hh : Int} {ds : List PyData} (h : K.lookup a = some ⟨.type "tuple", od, .seq its m, sl⟩) (c : valsB its.toList ds = true) (hz : ds.length ≤ sizeLine) :
    CE K ⟨hh, .str x t, .ref a⟩ (x, .tuple ds) := ⟨⟨t, rfl⟩, .ref a, rfl, tupC h c hz⟩
theorem ce_val {u : Value} {x : Str} {t : Tok} {hh : Int} {d : PyData} (c : valB u d = true) : CE K ⟨hh, .str x t, u⟩ (x, d) := ⟨⟨t, rfl⟩, valB_ok c⟩
theorem dictC {d : Addr} {n : Nat} {es : Array DictEntry} {tbl : List (Str × PyData)} (l : K.lookup d = some ⟨.type "dict", none, .dict es n, #[]⟩) (hl : PySem.W.KeysLit w.params es.toList) (low : (d == sysModules) = false) (pr : Paired (CE K) es.toList tbl) : DictC K w d tbl :=
  ⟨es, n, ⟨l, hl, low⟩, pr⟩
end
end EL
namespace EL
open PySem PySem.Spec PyProof.Rows L2
/-! ### the draw -/
def bDraw (a0 a1 a2 a3 a4 a5 a6 : Int) : Sn := (sSeq (sIf (EL.tB (dOp gGt (dIxO 0 (dCst (.int (2)))) (dCst (.int (0))))) (sSeq (sSet 5 (dOp gMod (dApp (g1 gInt) (dCons (dIxO 0 (dCst (.int (2)))) dNil)) (dVar 1)))
    (sSeq (sPut 0 (dOp gFdiv (dIxO 0 (dCst (.int (2)))) (dVar 1)) (dCst (.int (2))))
    (sRet (dVar 5)))) sNext)
    (sSeq (sSet 2 (dIxO 0 (dCst (.int (1)))))
    (sSeq (sPut 0 (dOp gAdd (dVar 2) (dCst (.int (1)))) (dCst (.int (1))))
    (sSeq (sSet 3 (dOp gAdd (dOp gMul (dCst (.int a0)) (dVar 2)) (dCst (.int a1))))
    (sSeq (sIf (EL.tB (dOp gNeA (dIxO 0 (dCst (.int (0)))) (dApp gLst dNil))) (sSet 3 (dOp gIxA (dIxO 0 (dCst (.int (0)))) (dOp gMod (dApp (g1 gInt) (dCons (dVar 2) dNil)) (dApp (g1 gLen) (dCons (dIxO 0 (dCst (.int (0)))) dNil))))) sNext)
    (sSeq (sIf (tAndD (EL.tB (dOp gLt (dVar 2) (dApp (g1 gLen) (dCons (dIxO 0 (dCst (.int (0)))) dNil)))) (EL.tB (dOp gGe (dApp (g1 gAbs) (dCons (dVar 3) dNil)) (dOp gPow (dCst (.int (10))) (dCst (.int (18))))))) (sSeq (sSet 6 (dOp gAdd (dOp gMul (dCst (.int (2))) (dOp gSub (dApp (g1 gAbs) (dCons (dVar 3) dNil)) (dOp gPow (dCst (.int (10))) (dCst (.int (18)))))) (dApp (g1 gInt) (dCons (dOp gLt (dVar 3) (dCst (.int (0)))) dNil))))
    (sSeq (sPut 0 (dOp gFdiv (dVar 6) (dVar 1)) (dCst (.int (2))))
    (sRet (dOp gMod (dApp (g1 gInt) (dCons (dVar 6) dNil)) (dVar 1))))) sNext)
    (sSeq (sSet 4 (dOp gMod (dApp (g1 gInt) (dCons (dOp gPow (dOp gAdd (dOp gAdd (dOp gMod (dApp (g1 gInt) (dCons (dVar 3) dNil)) (dCst (.int (2147483549)))) (dOp gMul (dCst (.int a2)) (dVar 2))) (dCst (.int a3))) (dCst (.int (5)))) dNil)) (dCst (.int (2147483629)))))
    (sSeq (sSet 4 (dOp gMod (dApp (g1 gInt) (dCons (dOp gPow (dOp gAdd (dOp gAdd (dOp gMul (dVar 4) (dOp gAdd (dOp gMul (dCst (.int (2))) (dVar 2)) (dCst (.int a4)))) (dOp gMul (dOp gMul (dCst (.int a5)) (dVar 2)) (dVar 2))) (dCst (.int a6))) (dCst (.int (3)))) dNil)) (dCst (.int (2147483587)))))
    (sRet (dOp gMod (dApp (g1 gInt) (dCons (dOp gFdiv (dVar 4) (dCst (.int (32)))) dNil)) (dVar 1)))))))))))
def penOf (ns : List Int) (t g : Int) : PyData := .list [.list (ns.map .int), .int t, .int g]
def PenOk (n : Nat) (pd : PyData) : Prop := ∃ (ns : List Int) (t g : Int), pd = penOf ns t g ∧ ns.length ≤ 63 ∧ 0 ≤ t ∧ t ≤ n
theorem gMod_pos {i j : Int} (h : 0 < j) : gMod (.int i) (.int j) = .ok (.int (i % j)) := by
  show (if decide (0 < j) = true then Res.ok (PyData.int (i % j)) else .bad) = _
  rw [if_pos (decide_eq_true h)]
theorem gFdiv_pos {i j : Int} (h : 0 < j) (h2 : j ≤ 2 ^ 40) : gFdiv (.int i) (.int j) = .ok (.int (i / j)) := by
  have h3 : j.natAbs.log2 < 9000 := by
    have h4 : j.natAbs < 2 ^ 41 := by omega
    exact Nat.lt_of_lt_of_le ((Nat.log2_lt (by omega)).mpr h4) (by decide)
  show (if (decide (0 < j) && decide (j.natAbs.log2 < 9000)) = true then Res.ok (PyData.int (i / j)) else .bad) = _
  rw [if_pos (by rw [decide_eq_true h, decide_eq_true h3]; rfl)]
theorem gMul_small {i j : Int} (h : -(2 ^ 64) < i ∧ i < 2 ^ 64) : gMul (.int i) (.int j) = .ok (.int (i * j)) := by
  show (if ((decide (-(2 ^ 64) < i) && decide (i < 2 ^ 64)) || (decide (-(2 ^ 64) < j) && decide (j < 2 ^ 64))) = true then Res.ok (PyData.int (i * j)) else .bad) = _
  rw [if_pos (by rw [decide_eq_true h.1, decide_eq_true h.2]; rfl)]
theorem gPow_small {i j : Int} (h0 : 0 ≤ i) (h : i < 2 ^ 64) (h1 : 0 ≤ j) (h2 : j ≤ 1000000) : gPow (.int i) (.int j) = .ok (.int (i ^ j.toNat)) := by
  have h3 : i.natAbs < 2 ^ 64 := by omega
  show (if (decide (0 ≤ j) && decide (j ≤ 1000000) && decide (i.natAbs < 2 ^ 64)) = true then Res.ok (PyData.int (i ^ j.toNat)) else .bad) = _
  rw [if_pos (by rw [decide_eq_true h1, decide_eq_true h2, decide_eq_true h3]; rfl)]
theorem ints_lay : ∀ ns : List Int, PyData.canLayAll0 (ns.map .int) = true
  | [] => rfl
  | n :: r => by simp only [List.map_cons, PyData.canLayAll0, PyData.canLay0, ints_lay r, Bool.and_self]
theorem ints_depth : ∀ ns : List Int, PyData.depthAll (ns.map .int) = 0
  | [] => rfl
  | n :: r => by simp only [List.map_cons, PyData.depthAll, PyData.depth, ints_depth r, Nat.max_self]
theorem ints_shaped (ns : List Int) : SeqAt.shaped (.list (ns.map .int)) = true := by
  simp only [SeqAt.shaped, PyData.canLay0, PyData.depth, ints_lay, ints_depth, Bool.true_and]
  rfl
theorem ne_nil_ints (ns : List Int) : gNeA (.list (ns.map .int)) (.list []) = .ok (.bool (!ns.isEmpty)) := by
  show gNe _ _ = _
  unfold gNe
  rw [ints_shaped, show SeqAt.shaped (.list []) = true from rfl]
  cases ns <;> rfl
theorem gt_int (i j : Int) : gGt (.int i) (.int j) = .ok (.bool (decide (j < i))) := rfl
theorem ge_int (i j : Int) : gGe (.int i) (.int j) = .ok (.bool (decide (j ≤ i))) := rfl
theorem lt_int (i j : Int) : gLt (.int i) (.int j) = .ok (.bool (decide (i < j))) := rfl
theorem add_int (i j : Int) : gAdd (.int i) (.int j) = .ok (.int (i + j)) := rfl
theorem sub_int' (i j : Int) : gSub (.int i) (.int j) = .ok (.int (i - j)) := rfl
theorem gInt_int (i : Int) : gInt (.int i) = .ok (.int i) := rfl
theorem gInt_bool (b : Bool) : gInt (.bool b) = .ok (.int (if b then 1 else 0)) := rfl
theorem gAbs_int (i : Int) : gAbs (.int i) = .ok (.int (if i < 0 then -i else i)) := rfl
theorem gLen_list (xs : List PyData) : gLen (.list xs) = .ok (.int xs.length) := rfl
/-! ### readings run -/
def kRet {α : Type} (en : En) (d : α) : Res (α × En) := .ok (d, en)
def kUn (g : PyData → Res PyData) : PyData × En → Res (PyData × En) := fun p => (g p.1).bind (kRet p.2)
def kOp2 (g : PyData → PyData → Res PyData) (x : PyData) : PyData × En → Res (PyData × En) := fun q => (g x q.1).bind (kRet q.2)
def kOp (g : PyData → PyData → Res PyData) (b : Dn) : PyData × En → Res (PyData × En) := fun p => (b p.2).bind (kOp2 g p.1)
def kCons2 (x : PyData) : List PyData × En → Res (List PyData × En) := fun q => .ok (x :: q.1, q.2)
def kCons (r : An) : PyData × En → Res (List PyData × En) := fun p => (r p.2).bind (kCons2 p.1)
def kApp (g : List PyData → Res PyData) : List PyData × En → Res (PyData × En) := fun p => (g p.1).bind (kRet p.2)
def kB : PyData × En → Res (Bool × En) := fun p => (isB p.1).bind (kRet p.2)
def kNot : Bool × En → Res (Bool × En) := fun p => .ok (!p.1, p.2)
def kAnd (b : Tn) : Bool × En → Res (Bool × En)
  | (true, e) => b e
  | (false, e) => .ok (false, e)
def kOr (b : Tn) : Bool × En → Res (Bool × En)
  | (true, e) => .ok (true, e)
  | (false, e) => b e
def kIf {α : Type} (a b : En → Res α) : Bool × En → Res α
  | (true, e) => a e
  | (false, e) => b e
def kDAnd (b : Dn) : PyData × En → Res (PyData × En)
  | (.bool true, e) => b e
  | (.bool false, e) => .ok (.bool false, e)
  | _ => .bad
def kDOr (b : Dn) : PyData × En → Res (PyData × En)
  | (.bool true, e) => .ok (.bool true, e)
  | (.bool false, e) => b e
  | _ => .bad
def kDNot : PyData × En → Res (PyData × En)
  | (.bool b, e) => .ok (.bool (!b), e)
  | _ => .bad
def kChain3 (g' : PyData → PyData → Res PyData) (y : PyData) (c : Dn) (e : En) : PyData → Res (PyData × En)
  | .bool true => (c e).bind (kOp2 g' y)
  | .bool false => .ok (.bool false, e)
  | _ => .bad
def kChain2 (g g' : PyData → PyData → Res PyData) (x : PyData) (c : Dn) : PyData × En → Res (PyData × En) := fun q => (g x q.1).bind (kChain3 g' q.1 c q.2)
def kChain (g g' : PyData → PyData → Res PyData) (b c : Dn) : PyData × En → Res (PyData × En) := fun p => (b p.2).bind (kChain2 g g' p.1 c)
def kSeq (g : Sn) : Fl × En → Res (Fl × En)
  | (.nx, e) => g e
  | (.bk, e) => .ok (.bk, e)
  | (.ct, e) => .ok (.ct, e)
  | (.rt d, e) => .ok (.rt d, e)
def kSet (i : Nat) : PyData × En → Res (Fl × En) := fun p => .ok (.nx, p.2.set i (.sh p.1))
def kSetO (i : Nat) : PyData × En → Res (Fl × En) := fun p => .ok (.nx, p.2.set i (.ow p.1))
def kRt : PyData × En → Res (Fl × En) := fun p => .ok (.rt p.1, p.2)
def kVar (en : En) : Option Sl → Res (PyData × En)
  | some (.sh d) => .ok (d, en)
  | _ => .bad
def kFrz (i : Nat) (f : Sn) (en : En) : Option Sl → Res (Fl × En)
  | some (.ow d) => f (en.set i (.sh d))
  | _ => .bad
def kSome (en : En) : Option PyData → Res (PyData × En)
  | some d => .ok (d, en)
  | none => .bad
def kIx3 (en : En) : PyData → Option Sl → Res (PyData × En)
  | .int z, some (.ow (.list xs)) => kSome en (atI xs z)
  | _, _ => .bad
def kIx2 (i : Nat) : PyData × En → Res (PyData × En) := fun p => kIx3 p.2 p.1 p.2[i]?
def kIx (i : Nat) (fk : Dn) (en : En) : Option Sl → Res (PyData × En)
  | some (.ow (.list _)) => (fk en).bind (kIx2 i)
  | _ => .bad
def kPut4 (i : Nat) (d : PyData) (en : En) (xs : List PyData) : Option Nat → Res (Fl × En)
  | some j => .ok (.nx, en.set i (.ow (.list (xs.set j d))))
  | none => .bad
def kPut3 (i : Nat) (d : PyData) (en : En) : PyData → Option Sl → Res (Fl × En)
  | .int z, some (.ow (.list xs)) => kPut4 i d en xs (ixN xs.length z)
  | _, _ => .bad
def kPut2 (i : Nat) (d : PyData) : PyData × En → Res (Fl × En) := fun q => kPut3 i d q.2 q.1 q.2[i]?
def kPut1 (i : Nat) (fk : Dn) (d : PyData) (en : En) : Option Sl → Res (Fl × En)
  | some (.ow (.list _)) => (fk en).bind (kPut2 i d)
  | _ => .bad
def kPut (i : Nat) (fk : Dn) : PyData × En → Res (Fl × En) := fun p => kPut1 i fk p.1 p.2 p.2[i]?
section
variable (en : En)
theorem ap_var (i : Nat) : dVar i en = kVar en en[i]? := by
  unfold dVar kVar
  split <;> simp_all
theorem kVar_sh (d : PyData) : kVar en (some (.sh d)) = .ok (d, en) := rfl
theorem ap_cst (d : PyData) : dCst d en = .ok (d, en) := rfl
theorem ap_ret1 {α : Type} (d : α) : kRet en d = .ok (d, en) := rfl
theorem ap_un (g : PyData → Res PyData) (a : Dn) : dUn g a en = (a en).bind (kUn g) := rfl
theorem kUn_ap (g : PyData → Res PyData) (x : PyData) : kUn g (x, en) = (g x).bind (kRet en) := rfl
theorem ap_op (g : PyData → PyData → Res PyData) (a b : Dn) : dOp g a b en = (a en).bind (kOp g b) := rfl
theorem kOp_ap (g : PyData → PyData → Res PyData) (b : Dn) (x : PyData) : kOp g b (x, en) = (b en).bind (kOp2 g x) := rfl
theorem kOp2_ap (g : PyData → PyData → Res PyData) (x y : PyData) : kOp2 g x (y, en) = (g x y).bind (kRet en) := rfl
theorem ap_nil : dNil en = .ok ([], en) := rfl
theorem ap_cons (a : Dn) (r : An) : dCons a r en = (a en).bind (kCons r) := rfl
theorem kCons_ap (r : An) (x : PyData) : kCons r (x, en) = (r en).bind (kCons2 x) := rfl
theorem kCons2_ap (x : PyData) (xs : List PyData) : kCons2 x (xs, en) = .ok (x :: xs, en) := rfl
theorem ap_app (g : List PyData → Res PyData) (r : An) : dApp g r en = (r en).bind (kApp g) := rfl
theorem kApp_ap (g : List PyData → Res PyData) (xs : List PyData) : kApp g (xs, en) = (g xs).bind (kRet en) := rfl
theorem ap_tB (a : Dn) : EL.tB a en = (a en).bind kB := rfl
theorem kB_ap (b : Bool) : kB (.bool b, en) = .ok (b, en) := rfl
theorem ap_not (a : Tn) : tNotD a en = (a en).bind kNot := rfl
theorem kNot_ap (b : Bool) : kNot (b, en) = .ok (!b, en) := rfl
theorem ap_and (a b : Tn) : tAndD a b en = (a en).bind (kAnd b) := by
  show Res.bind (a en) _ = Res.bind (a en) _
  congr 1; funext p; obtain ⟨x, e⟩ := p; cases x <;> rfl
theorem kAnd_t (b : Tn) : kAnd b (true, en) = b en := rfl
theorem kAnd_f (b : Tn) : kAnd b (false, en) = .ok (false, en) := rfl
theorem ap_or (a b : Tn) : tOrD a b en = (a en).bind (kOr b) := by
  show Res.bind (a en) _ = Res.bind (a en) _
  congr 1; funext p; obtain ⟨x, e⟩ := p; cases x <;> rfl
theorem kOr_t (b : Tn) : kOr b (true, en) = .ok (true, en) := rfl
theorem kOr_f (b : Tn) : kOr b (false, en) = b en := rfl
theorem ap_dAnd (a b : Dn) : dAnd a b en = (a en).bind (kDAnd b) := by
  show Res.bind (a en) _ = Res.bind (a en) _
  congr 1; funext p; obtain ⟨x, e⟩ := p
  cases x with
  | bool c => cases c <;> rfl
  | _ => rfl
theorem kDAnd_t (b : Dn) : kDAnd b (.bool true, en) = b en := rfl
theorem kDAnd_f (b : Dn) : kDAnd b (.bool false, en) = .ok (.bool false, en) := rfl
theorem ap_dOr (a b : Dn) : dOr a b en = (a en).bind (kDOr b) := by
  show Res.bind (a en) _ = Res.bind (a en) _
  congr 1; funext p; obtain ⟨x, e⟩ := p
  cases x with
  | bool c => cases c <;> rfl
  | _ => rfl
theorem kDOr_t (b : Dn) : kDOr b (.bool true, en) = .ok (.bool true, en) := rfl
theorem kDOr_f (b : Dn) : kDOr b (.bool false, en) = b en := rfl
theorem ap_dNot (a : Dn) : dNot a en = (a en).bind kDNot := by
  show Res.bind (a en) _ = Res.bind (a en) _
  congr 1; funext p; obtain ⟨x, e⟩ := p; cases x <;> rfl
theorem kDNot_ap (b : Bool) : kDNot (.bool b, en) = .ok (.bool (!b), en) := rfl
theorem ap_dIf (c : Tn) (a b : Dn) : dIf c a b en = (c en).bind (kIf a b) := by
  show Res.bind (c en) _ = Res.bind (c en) _
  congr 1; funext p; obtain ⟨x, e⟩ := p; cases x <;> rfl
theorem ap_if (c : Tn) (f g : Sn) : sIf c f g en = (c en).bind (kIf f g) := by
  show Res.bind (c en) _ = Res.bind (c en) _
  congr 1; funext p; obtain ⟨x, e⟩ := p; cases x <;> rfl
theorem kIf_t {α : Type} (a b : En → Res α) : kIf a b (true, en) = a en := rfl
theorem kIf_f {α : Type} (a b : En → Res α) : kIf a b (false, en) = b en := rfl
theorem ap_chain (g g' : PyData → PyData → Res PyData) (a b c : Dn) : dChain g g' a b c en = (a en).bind (kChain g g' b c) := by
  show Res.bind (a en) _ = Res.bind (a en) _
  congr 1; funext p
  show Res.bind (b p.2) _ = Res.bind (b p.2) _
  congr 1; funext q
  show Res.bind (Res.bind (g p.1 q.1) fun d => Res.ok (d, q.2)) (fun z => chainK _ z.1 z.2) = Res.bind (g p.1 q.1) _
  cases g p.1 q.1 with
  | ok z =>
    cases z with
    | bool x => cases x <;> rfl
    | _ => rfl
  | exc _ _ => rfl
  | bad => rfl
theorem kChain_ap (g g' : PyData → PyData → Res PyData) (b c : Dn) (x : PyData) : kChain g g' b c (x, en) = (b en).bind (kChain2 g g' x c) := rfl
theorem kChain2_ap (g g' : PyData → PyData → Res PyData) (x y : PyData) (c : Dn) : kChain2 g g' x c (y, en) = (g x y).bind (kChain3 g' y c en) := rfl
theorem kChain3_t (g' : PyData → PyData → Res PyData) (y : PyData) (c : Dn) : kChain3 g' y c en (.bool true) = (c en).bind (kOp2 g' y) := rfl
theorem kChain3_f (g' : PyData → PyData → Res PyData) (y : PyData) (c : Dn) : kChain3 g' y c en (.bool false) = .ok (.bool false, en) := rfl
theorem ap_seq (f g : Sn) : sSeq f g en = (f en).bind (kSeq g) := by
  show Res.bind (f en) _ = Res.bind (f en) _
  congr 1; funext p; obtain ⟨x, e⟩ := p; cases x <;> rfl
theorem kSeq_nx (g : Sn) : kSeq g (.nx, en) = g en := rfl
theorem kSeq_rt (g : Sn) (d : PyData) : kSeq g (.rt d, en) = .ok (.rt d, en) := rfl
theorem kSeq_bk (g : Sn) : kSeq g (.bk, en) = .ok (.bk, en) := rfl
theorem kSeq_ct (g : Sn) : kSeq g (.ct, en) = .ok (.ct, en) := rfl
theorem ap_next : sNext en = .ok (.nx, en) := rfl
theorem ap_set (i : Nat) (f : Dn) : sSet i f en = (f en).bind (kSet i) := rfl
theorem kSet_ap (i : Nat) (d : PyData) : kSet i (d, en) = .ok (.nx, en.set i (.sh d)) := rfl
theorem ap_setO (i : Nat) (f : Dn) : sSetO i f en = (f en).bind (kSetO i) := rfl
theorem kSetO_ap (i : Nat) (d : PyData) : kSetO i (d, en) = .ok (.nx, en.set i (.ow d)) := rfl
theorem ap_ret (f : Dn) : sRet f en = (f en).bind kRt := rfl
theorem kRt_ap (d : PyData) : kRt (d, en) = .ok (.rt d, en) := rfl
theorem ap_frz (i : Nat) (f : Sn) : sFrz i f en = kFrz i f en en[i]? := by
  unfold sFrz kFrz
  split <;> simp_all
theorem kFrz_ow (i : Nat) (f : Sn) (d : PyData) : kFrz i f en (some (.ow d)) = f (en.set i (.sh d)) := rfl
theorem kSome_s (d : PyData) : kSome en (some d) = .ok (d, en) := rfl
theorem ap_ixO (i : Nat) (fk : Dn) : dIxO i fk en = kIx i fk en en[i]? := by
  unfold dIxO
  generalize en[i]? = o0
  cases o0 with
  | none => rfl
  | some sl0 =>
    cases sl0 with
    | ow d0 =>
      cases d0 with
      | list xs0 =>
        refine congrArg (Res.bind (fk en)) (funext fun p => ?_)
        obtain ⟨x, e2⟩ := p
        show ixOK i x e2 = kIx3 e2 x e2[i]?
        unfold ixOK
        generalize e2[i]? = o
        cases o with
        | none => cases x <;> rfl
        | some sl =>
          cases sl with
          | ow d =>
            cases d with
            | list ys =>
              cases x with
              | int z => show (match atI ys z with | some d => Res.ok (d, e2) | none => .bad) = kSome e2 (atI ys z); cases atI ys z <;> rfl
              | _ => rfl
            | _ => cases x <;> rfl
          | _ => cases x <;> rfl
      | _ => rfl
    | _ => rfl
theorem kIx_ow (i : Nat) (fk : Dn) (xs : List PyData) : kIx i fk en (some (.ow (.list xs))) = (fk en).bind (kIx2 i) := rfl
theorem kIx2_ap (i : Nat) (x : PyData) : kIx2 i (x, en) = kIx3 en x en[i]? := rfl
theorem kIx3_ap (z : Int) (xs : List PyData) : kIx3 en (.int z) (some (.ow (.list xs))) = kSome en (atI xs z) := rfl
theorem ap_put (i : Nat) (f fk : Dn) : sPut i f fk en = (f en).bind (kPut i fk) := by
  refine congrArg (Res.bind (f en)) (funext fun p => ?_)
  show putK0 i fk p.1 p.2 = kPut1 i fk p.1 p.2 p.2[i]?
  unfold putK0
  generalize p.2[i]? = o0
  cases o0 with
  | none => rfl
  | some sl0 =>
    cases sl0 with
    | ow d0 =>
      cases d0 with
      | list xs0 =>
        refine congrArg (Res.bind (fk p.2)) (funext fun q => ?_)
        obtain ⟨x, e2⟩ := q
        show putK i p.1 x e2 = kPut3 i p.1 e2 x e2[i]?
        unfold putK
        generalize e2[i]? = o
        cases o with
        | none => cases x <;> rfl
        | some sl =>
          cases sl with
          | ow d =>
            cases d with
            | list ys =>
              cases x with
              | int z => show (match ixN ys.length z with | some j => Res.ok (Fl.nx, e2.set i (.ow (.list (ys.set j p.1)))) | none => .bad) = kPut4 i p.1 e2 ys (ixN ys.length z); cases ixN ys.length z <;> rfl
              | _ => rfl
            | _ => cases x <;> rfl
          | _ => cases x <;> rfl
      | _ => rfl
    | _ => rfl
theorem kPut_ap (i : Nat) (fk : Dn) (d : PyData) : kPut i fk (d, en) = kPut1 i fk d en en[i]? := rfl
theorem kPut1_ow (i : Nat) (fk : Dn) (d : PyData) (xs : List PyData) : kPut1 i fk d en (some (.ow (.list xs))) = (fk en).bind (kPut2 i d) := rfl
theorem kPut2_ap (i : Nat) (d x : PyData) : kPut2 i d (x, en) = kPut3 i d en x en[i]? := rfl
theorem kPut3_ap (i : Nat) (d : PyData) (z : Int) (xs : List PyData) : kPut3 i d en (.int z) (some (.ow (.list xs))) = kPut4 i d en xs (ixN xs.length z) := rfl
theorem kPut4_s (i j : Nat) (d : PyData) (xs : List PyData) : kPut4 i d en xs (some j) = .ok (.nx, en.set i (.ow (.list (xs.set j d)))) := rfl
end
end EL
namespace EL
open PySem PySem.Spec PyProof.Rows L2
theorem atI3_0 (a b c : PyData) : atI [a, b, c] 0 = some a := rfl
theorem atI3_1 (a b c : PyData) : atI [a, b, c] 1 = some b := rfl
theorem atI3_2 (a b c : PyData) : atI [a, b, c] 2 = some c := rfl
theorem g1_one (g : PyData → Res PyData) (x : PyData) : g1 g [x] = g x := rfl
theorem gLst_nil : gLst [] = .ok (.list []) := rfl
theorem kPut4_1 (i : Nat) (en : En) (d a b c : PyData) : kPut4 i d en [a, b, c] (ixN [a, b, c].length 1) = .ok (.nx, en.set i (.ow (.list [a, d, c]))) := rfl
theorem kPut4_2 (i : Nat) (en : En) (d a b c : PyData) : kPut4 i d en [a, b, c] (ixN [a, b, c].length 2) = .ok (.nx, en.set i (.ow (.list [a, b, d]))) := rfl
theorem startP1 (pd x : PyData) : startP 7 pd [x] = [.ow pd, .sh x, .no, .no, .no, .no, .no] := rfl
def endR (r : Res (Fl × En)) : Res (PyData × PyData) := match r with
  | .ok (.rt d, en) => endP en d
  | .ok (.nx, en) => endP en .none
  | .exc c fs => .exc c fs
  | _ => .bad
theorem ap_runP (b : Sn) (n : Nat) (pd : PyData) (ds : List PyData) : runP b n pd ds = endR (b (startP n pd ds)) := by
  unfold runP endR
  rfl
theorem endR_rt (d pd : PyData) (r : En) : endR (.ok (.rt d, .ow pd :: r)) = .ok (d, pd) := rfl
theorem endR_nx (pd : PyData) (r : En) : endR (.ok (.nx, .ow pd :: r)) = .ok (.none, pd) := rfl
theorem ix_mod {ns : List Int} {t : Int} (h0 : 0 ≤ t) (hne : ns ≠ []) : ∃ c, gIxA (.list (ns.map .int)) (.int (t % (ns.map PyData.int).length)) = .ok (.int c) := by
  have hl : 0 < ns.length := List.length_pos_iff.mpr hne
  rw [List.length_map]
  have b1 : 0 ≤ t % (ns.length : Int) := Int.emod_nonneg _ (by omega)
  have b2 : t % (ns.length : Int) < ns.length := Int.emod_lt_of_pos _ (by omega)
  obtain ⟨j, hj⟩ := Int.eq_ofNat_of_zero_le b1
  have hj2 : j < ns.length := by omega
  refine ⟨ns[j], ?_⟩
  rw [hj]
  have e : atI (ns.map PyData.int) ((j : Nat) : Int) = some (.int ns[j]) := atI_nat (by rw [List.getElem?_map, List.getElem?_eq_getElem hj2]; rfl)
  show (match atI (ns.map PyData.int) ((j : Nat) : Int) with
    | some d => Res.ok d
    | none => .bad) = _
  rw [e]
theorem pow18 : gPow (.int 10) (.int 18) = .ok (.int 1000000000000000000) := rfl
theorem draw_ok {a0 a1 a2 a3 a4 a5 a6 : Int} (hc : (0 ≤ a0 ∧ a0 < 2 ^ 20) ∧ (0 ≤ a1 ∧ a1 < 2 ^ 20) ∧ (0 ≤ a2 ∧ a2 < 2 ^ 20) ∧ (0 ≤ a3 ∧ a3 < 2 ^ 20) ∧ (0 ≤ a4 ∧ a4 < 2 ^ 20) ∧ (0 ≤ a5 ∧ a5 < 2 ^ 20) ∧ (0 ≤ a6 ∧ a6 < 2 ^ 20))
    {pd : PyData} {n : Nat} {many : Int} (hp : PenOk n pd) (hn : n < 1000000) (hm : 0 < many) (hm2 : many ≤ 1000000) :
    ∃ r pd', runP (bDraw a0 a1 a2 a3 a4 a5 a6) 7 pd [.int many] = .ok (.int r, pd') ∧ 0 ≤ r ∧ r < many ∧ PenOk (n + 1) pd' := by
  obtain ⟨ns, t, g, rfl, hl, h0, h1⟩ := hp
  obtain ⟨c0, c1, c2, c3, c4, c5, c6⟩ := hc
  have many40 : many ≤ 2 ^ 40 := by omega
  by_cases hg : 0 < g
  · refine ⟨g % many, penOf ns t (g / many), ?_, Int.emod_nonneg _ (by omega), Int.emod_lt_of_pos _ hm, ns, t, g / many, rfl, hl, h0, by omega⟩
    have e1 : decide (0 < g) = true := decide_eq_true hg
    simp only [ap_runP, startP1, penOf, bDraw, gt_int, e1, atI3_0, atI3_1, atI3_2, g1_one, gInt_int, gMod_pos hm, gFdiv_pos hm many40, kPut4_1, kPut4_2, endR_rt, ap_var, kVar_sh, ap_cst, ap_ret1, ap_un, kUn_ap, ap_op, kOp_ap, kOp2_ap, ap_nil, ap_cons, kCons_ap, kCons2_ap, ap_app, kApp_ap, ap_tB, kB_ap, ap_not, kNot_ap, ap_and, kAnd_t, kAnd_f, ap_or, kOr_t, kOr_f, ap_dAnd, kDAnd_t, kDAnd_f, ap_dOr, kDOr_t, kDOr_f, ap_dNot, kDNot_ap, ap_dIf, ap_if, kIf_t, kIf_f, ap_chain, kChain_ap, kChain2_ap, kChain3_t, kChain3_f, ap_seq, kSeq_nx, kSeq_rt, kSeq_bk, kSeq_ct, ap_next, ap_set, kSet_ap, ap_setO, kSetO_ap, ap_ret, kRt_ap, ap_frz, kFrz_ow, kSome_s, ap_ixO, kIx_ow, kIx2_ap, kIx3_ap, ap_put, kPut_ap, kPut1_ow, kPut2_ap, kPut3_ap, kPut4_s, res_bind_ok, List.getElem?_cons_zero, List.getElem?_cons_succ, List.set_cons_zero, List.set_cons_succ]
  · have e1 : decide (0 < g) = false := decide_eq_false hg
    have e2 : ∀ c : Int, ∃ r pd', endR ((sSeq (sIf (tAndD (EL.tB (dOp gLt (dVar 2) (dApp (g1 gLen) (dCons (dIxO 0 (dCst (.int (0)))) dNil)))) (EL.tB (dOp gGe (dApp (g1 gAbs) (dCons (dVar 3) dNil)) (dOp gPow (dCst (.int (10))) (dCst (.int (18))))))) (sSeq (sSet 6 (dOp gAdd (dOp gMul (dCst (.int (2))) (dOp gSub (dApp (g1 gAbs) (dCons (dVar 3) dNil)) (dOp gPow (dCst (.int (10))) (dCst (.int (18)))))) (dApp (g1 gInt) (dCons (dOp gLt (dVar 3) (dCst (.int (0)))) dNil))))
    (sSeq (sPut 0 (dOp gFdiv (dVar 6) (dVar 1)) (dCst (.int (2))))
    (sRet (dOp gMod (dApp (g1 gInt) (dCons (dVar 6) dNil)) (dVar 1))))) sNext)
    (sSeq (sSet 4 (dOp gMod (dApp (g1 gInt) (dCons (dOp gPow (dOp gAdd (dOp gAdd (dOp gMod (dApp (g1 gInt) (dCons (dVar 3) dNil)) (dCst (.int (2147483549)))) (dOp gMul (dCst (.int a2)) (dVar 2))) (dCst (.int a3))) (dCst (.int (5)))) dNil)) (dCst (.int (2147483629)))))
    (sSeq (sSet 4 (dOp gMod (dApp (g1 gInt) (dCons (dOp gPow (dOp gAdd (dOp gAdd (dOp gMul (dVar 4) (dOp gAdd (dOp gMul (dCst (.int (2))) (dVar 2)) (dCst (.int a4)))) (dOp gMul (dOp gMul (dCst (.int a5)) (dVar 2)) (dVar 2))) (dCst (.int a6))) (dCst (.int (3)))) dNil)) (dCst (.int (2147483587)))))
    (sRet (dOp gMod (dApp (g1 gInt) (dCons (dOp gFdiv (dVar 4) (dCst (.int (32)))) dNil)) (dVar 1)))))) [.ow (penOf ns (t + 1) g), .sh (.int many), .sh (.int t), .sh (.int c), .no, .no, .no]) = .ok (.int r, pd') ∧ 0 ≤ r ∧ r < many ∧ PenOk (n + 1) pd' := by
      intro c
      by_cases hb : (decide (t < ((ns.map PyData.int).length : Int)) && decide (1000000000000000000 ≤ (if c < 0 then -c else c))) = true
      · rw [Bool.and_eq_true] at hb
        refine ⟨(2 * ((if c < 0 then -c else c) - 1000000000000000000) + (if decide (c < 0) then 1 else 0)) % many, penOf ns (t + 1) ((2 * ((if c < 0 then -c else c) - 1000000000000000000) + (if decide (c < 0) then 1 else 0)) / many), ?_, Int.emod_nonneg _ (by omega), Int.emod_lt_of_pos _ hm, ns, t + 1, _, rfl, hl, by omega, by omega⟩
        simp only [penOf, lt_int, ge_int, gLen_list, gAbs_int, add_int, sub_int', gInt_bool, pow18, hb.1, hb.2, gMul_small (i := 2) (by decide), atI3_0, atI3_1, atI3_2, g1_one, gInt_int, gMod_pos hm, gFdiv_pos hm many40, kPut4_1, kPut4_2, endR_rt, ap_var, kVar_sh, ap_cst, ap_ret1, ap_un, kUn_ap, ap_op, kOp_ap, kOp2_ap, ap_nil, ap_cons, kCons_ap, kCons2_ap, ap_app, kApp_ap, ap_tB, kB_ap, ap_not, kNot_ap, ap_and, kAnd_t, kAnd_f, ap_or, kOr_t, kOr_f, ap_dAnd, kDAnd_t, kDAnd_f, ap_dOr, kDOr_t, kDOr_f, ap_dNot, kDNot_ap, ap_dIf, ap_if, kIf_t, kIf_f, ap_chain, kChain_ap, kChain2_ap, kChain3_t, kChain3_f, ap_seq, kSeq_nx, kSeq_rt, kSeq_bk, kSeq_ct, ap_next, ap_set, kSet_ap, ap_setO, kSetO_ap, ap_ret, kRt_ap, ap_frz, kFrz_ow, kSome_s, ap_ixO, kIx_ow, kIx2_ap, kIx3_ap, ap_put, kPut_ap, kPut1_ow, kPut2_ap, kPut3_ap, kPut4_s, res_bind_ok, List.getElem?_cons_zero, List.getElem?_cons_succ, List.set_cons_zero, List.set_cons_succ]
      · have m1 : 0 ≤ c % 2147483549 := Int.emod_nonneg _ (by decide)
        have m2 : c % 2147483549 < 2147483549 := Int.emod_lt_of_pos _ (by decide)
        have p1 : 0 ≤ a2 * t := Int.mul_nonneg c2.1 h0
        have p2 : a2 * t ≤ 2 ^ 20 * 1000000 := Int.mul_le_mul (by omega) (by omega) h0 (by decide)
        have q1 := gPow_small (i := c % 2147483549 + a2 * t + a3) (j := 5) (by omega) (by omega) (by decide) (by decide)
        generalize hx : (c % 2147483549 + a2 * t + a3) ^ (5 : Int).toNat % 2147483629 = x at *
        have x1 : 0 ≤ x := by rw [← hx]; exact Int.emod_nonneg _ (by decide)
        have x2 : x < 2147483629 := by rw [← hx]; exact Int.emod_lt_of_pos _ (by decide)
        have r1 : 0 ≤ x * (2 * t + a4) := Int.mul_nonneg x1 (by omega)
        have r2 : x * (2 * t + a4) ≤ 2147483629 * 4000000 := Int.mul_le_mul (by omega) (by omega) (by omega) (by decide)
        have s1 : 0 ≤ a5 * t := Int.mul_nonneg c5.1 h0
        have s2 : a5 * t ≤ 2 ^ 20 * 1000000 := Int.mul_le_mul (by omega) (by omega) h0 (by decide)
        have s3 : 0 ≤ a5 * t * t := Int.mul_nonneg s1 h0
        have s4 : a5 * t * t ≤ 2 ^ 20 * 1000000 * 1000000 := Int.mul_le_mul (by omega) (by omega) h0 (by decide)
        have q2 := gPow_small (i := x * (2 * t + a4) + a5 * t * t + a6) (j := 3) (by omega) (by omega) (by decide) (by decide)
        have hb' : decide (t < ((ns.map PyData.int).length : Int)) = false ∨ (decide (t < ((ns.map PyData.int).length : Int)) = true ∧ decide (1000000000000000000 ≤ (if c < 0 then -c else c)) = false) := by
          cases u : decide (t < ((ns.map PyData.int).length : Int)) with
          | false => exact .inl rfl
          | true =>
            refine .inr ⟨rfl, ?_⟩
            cases v : decide (1000000000000000000 ≤ (if c < 0 then -c else c)) with
            | false => rfl
            | true => exact absurd (by rw [u, v]; rfl) hb
        refine ⟨((x * (2 * t + a4) + a5 * t * t + a6) ^ (3 : Int).toNat % 2147483587 / 32) % many, penOf ns (t + 1) g, ?_, Int.emod_nonneg _ (by omega), Int.emod_lt_of_pos _ hm, ns, t + 1, _, rfl, hl, by omega, by omega⟩
        rcases hb' with hb' | ⟨hb1, hb2⟩
        · simp only [penOf, lt_int, ge_int, gLen_list, gAbs_int, add_int, sub_int', gInt_bool, pow18, hb', gMul_small (i := 2) (by decide), gMul_small (i := a2) (by omega), gMul_small (i := a5) (by omega), gMul_small (i := a5 * t) (by omega), gMul_small (i := x) (by omega), atI3_0, atI3_1, atI3_2, g1_one, gInt_int, q1, hx, q2, gMod_pos hm, gMod_pos (j := 2147483549) (by decide), gMod_pos (j := 2147483629) (by decide), gMod_pos (j := 2147483587) (by decide), gFdiv_pos (j := 32) (by decide) (by decide), kPut4_1, kPut4_2, endR_rt, ap_var, kVar_sh, ap_cst, ap_ret1, ap_un, kUn_ap, ap_op, kOp_ap, kOp2_ap, ap_nil, ap_cons, kCons_ap, kCons2_ap, ap_app, kApp_ap, ap_tB, kB_ap, ap_not, kNot_ap, ap_and, kAnd_t, kAnd_f, ap_or, kOr_t, kOr_f, ap_dAnd, kDAnd_t, kDAnd_f, ap_dOr, kDOr_t, kDOr_f, ap_dNot, kDNot_ap, ap_dIf, ap_if, kIf_t, kIf_f, ap_chain, kChain_ap, kChain2_ap, kChain3_t, kChain3_f, ap_seq, kSeq_nx, kSeq_rt, kSeq_bk, kSeq_ct, ap_next, ap_set, kSet_ap, ap_setO, kSetO_ap, ap_ret, kRt_ap, ap_frz, kFrz_ow, kSome_s, ap_ixO, kIx_ow, kIx2_ap, kIx3_ap, ap_put, kPut_ap, kPut1_ow, kPut2_ap, kPut3_ap, kPut4_s, res_bind_ok, List.getElem?_cons_zero, List.getElem?_cons_succ, List.set_cons_zero, List.set_cons_succ]
        · simp only [penOf, lt_int, ge_int, gLen_list, gAbs_int, add_int, sub_int', gInt_bool, pow18, hb1, hb2, gMul_small (i := 2) (by decide), gMul_small (i := a2) (by omega), gMul_small (i := a5) (by omega), gMul_small (i := a5 * t) (by omega), gMul_small (i := x) (by omega), atI3_0, atI3_1, atI3_2, g1_one, gInt_int, q1, hx, q2, gMod_pos hm, gMod_pos (j := 2147483549) (by decide), gMod_pos (j := 2147483629) (by decide), gMod_pos (j := 2147483587) (by decide), gFdiv_pos (j := 32) (by decide) (by decide), kPut4_1, kPut4_2, endR_rt, ap_var, kVar_sh, ap_cst, ap_ret1, ap_un, kUn_ap, ap_op, kOp_ap, kOp2_ap, ap_nil, ap_cons, kCons_ap, kCons2_ap, ap_app, kApp_ap, ap_tB, kB_ap, ap_not, kNot_ap, ap_and, kAnd_t, kAnd_f, ap_or, kOr_t, kOr_f, ap_dAnd, kDAnd_t, kDAnd_f, ap_dOr, kDOr_t, kDOr_f, ap_dNot, kDNot_ap, ap_dIf, ap_if, kIf_t, kIf_f, ap_chain, kChain_ap, kChain2_ap, kChain3_t, kChain3_f, ap_seq, kSeq_nx, kSeq_rt, kSeq_bk, kSeq_ct, ap_next, ap_set, kSet_ap, ap_setO, kSetO_ap, ap_ret, kRt_ap, ap_frz, kFrz_ow, kSome_s, ap_ixO, kIx_ow, kIx2_ap, kIx3_ap, ap_put, kPut_ap, kPut1_ow, kPut2_ap, kPut3_ap, kPut4_s, res_bind_ok, List.getElem?_cons_zero, List.getElem?_cons_succ, List.set_cons_zero, List.set_cons_succ]
    by_cases hne : ns = []
    · subst hne
      have e3 := e2 (a0 * t + a1)
      simp only [penOf] at e3
      have e4 : gNeA (.list (([] : List Int).map .int)) (.list []) = .ok (.bool false) := rfl
      simp only [ap_runP, startP1, penOf, bDraw, gt_int, e1, e4, add_int, gLst_nil, gMul_small (i := a0) (by omega), atI3_0, atI3_1, atI3_2, g1_one, gInt_int, gMod_pos hm, kPut4_1, kPut4_2, ap_var, kVar_sh, ap_cst, ap_ret1, ap_un, kUn_ap, ap_op, kOp_ap, kOp2_ap, ap_nil, ap_cons, kCons_ap, kCons2_ap, ap_app, kApp_ap, ap_tB, kB_ap, ap_not, kNot_ap, ap_and, kAnd_t, kAnd_f, ap_or, kOr_t, kOr_f, ap_dAnd, kDAnd_t, kDAnd_f, ap_dOr, kDOr_t, kDOr_f, ap_dNot, kDNot_ap, ap_dIf, ap_if, kIf_t, kIf_f, ap_chain, kChain_ap, kChain2_ap, kChain3_t, kChain3_f, ap_seq, kSeq_nx, kSeq_rt, kSeq_bk, kSeq_ct, ap_next, ap_set, kSet_ap, ap_setO, kSetO_ap, ap_ret, kRt_ap, ap_frz, kFrz_ow, kSome_s, ap_ixO, kIx_ow, kIx2_ap, kIx3_ap, ap_put, kPut_ap, kPut1_ow, kPut2_ap, kPut3_ap, kPut4_s, res_bind_ok, List.getElem?_cons_zero, List.getElem?_cons_succ, List.set_cons_zero, List.set_cons_succ] at e3 ⊢
      exact e3
    · obtain ⟨c, hcx⟩ := ix_mod h0 hne
      have e3 := e2 c
      simp only [penOf] at e3
      have e4 : gNeA (.list (ns.map .int)) (.list []) = .ok (.bool true) := by
        rw [ne_nil_ints]
        cases ns with
        | nil => exact absurd rfl hne
        | cons a b => rfl
      have e5 : (0 : Int) < ((ns.map PyData.int).length : Nat) := by
        have := List.length_pos_iff.mpr hne
        rw [List.length_map]
        omega
      simp only [ap_runP, startP1, penOf, bDraw, gt_int, e1, e4, hcx, gLen_list, add_int, gLst_nil, gMul_small (i := a0) (by omega), atI3_0, atI3_1, atI3_2, g1_one, gInt_int, gMod_pos e5, kPut4_1, kPut4_2, ap_var, kVar_sh, ap_cst, ap_ret1, ap_un, kUn_ap, ap_op, kOp_ap, kOp2_ap, ap_nil, ap_cons, kCons_ap, kCons2_ap, ap_app, kApp_ap, ap_tB, kB_ap, ap_not, kNot_ap, ap_and, kAnd_t, kAnd_f, ap_or, kOr_t, kOr_f, ap_dAnd, kDAnd_t, kDAnd_f, ap_dOr, kDOr_t, kDOr_f, ap_dNot, kDNot_ap, ap_dIf, ap_if, kIf_t, kIf_f, ap_chain, kChain_ap, kChain2_ap, kChain3_t, kChain3_f, ap_seq, kSeq_nx, kSeq_rt, kSeq_bk, kSeq_ct, ap_next, ap_set, kSet_ap, ap_setO, kSetO_ap, ap_ret, kRt_ap, ap_frz, kFrz_ow, kSome_s, ap_ixO, kIx_ow, kIx2_ap, kIx3_ap, ap_put, kPut_ap, kPut1_ow, kPut2_ap, kPut3_ap, kPut4_s, res_bind_ok, List.getElem?_cons_zero, List.getElem?_cons_succ, List.set_cons_zero, List.set_cons_succ] at e3 ⊢
      exact e3
end EL
namespace EL
open PySem PySem.Spec PyProof.Rows L2
/-! ### calls, loops, comprehensions run -/
def kCal4 (i : Nat) (e : En) : PyData × PyData → Res (PyData × En) := fun p => .ok (p.1, e.set i (.ow p.2))
def kCal3 (m : PyData → List PyData → Res (PyData × PyData)) (i : Nat) (xs : List PyData) (e : En) : Option Sl → Res (PyData × En)
  | some (.ow pd) => (m pd xs).bind (kCal4 i e)
  | _ => .bad
def kCal2 (m : PyData → List PyData → Res (PyData × PyData)) (n i : Nat) : List PyData × En → Res (PyData × En) := fun q => if q.1.length + 1 = n then kCal3 m i q.1 q.2 q.2[i]? else .bad
def kCal (m : PyData → List PyData → Res (PyData × PyData)) (n i : Nat) (r : An) (en : En) : Option Sl → Res (PyData × En)
  | some (.ow _) => (r en).bind (kCal2 m n i)
  | _ => .bad
def kLc (g : Gn) (tt : Tn) (te : Dn) (vs : List Nat) : List PyData × En → Res (PyData × En) := fun p => lcF g tt te vs p.1 [] (wipeE p.2 vs)
def kFor (g : Gn) (b : Sn) : List PyData × En → Res (Fl × En) := fun p => loopF g b p.1 p.2
def kIof : PyData × En → Res (List PyData × En) := fun p => (parts p.1).bind (kRet p.2)
def kRg (g : List PyData → Res (List PyData)) : List PyData × En → Res (List PyData × En) := fun p => (g p.1).bind (kRet p.2)
def kPar2 (i j : Nat) (x : PyData) : PyData × En → Res (Fl × En) := fun p => .ok (.nx, (p.2.set i (.sh x)).set j (.sh p.1))
def kPar (i j : Nat) (g : Dn) : PyData × En → Res (Fl × En) := fun p => (g p.2).bind (kPar2 i j p.1)
def kParO2 (i j : Nat) (x : PyData) : PyData × En → Res (Fl × En) := fun p => .ok (.nx, (p.2.set i (.sh x)).set j (.ow p.1))
def kParO (i j : Nat) (g : Dn) : PyData × En → Res (Fl × En) := fun p => (g p.2).bind (kParO2 i j p.1)
def kAsg (g : Gn) : PyData × En → Res (Fl × En) := fun p => (g p.1 p.2).bind fun e => .ok (.nx, e)
def kApd3 (i : Nat) (d : PyData) (e : En) : Option Sl → Res (Fl × En)
  | some (.ow (.list xs)) => if xs.length < sizeLine then .ok (.nx, e.set i (.ow (.list (xs ++ [d])))) else .bad
  | _ => .bad
def kApd2 (i : Nat) : PyData × En → Res (Fl × En) := fun p => kApd3 i p.1 p.2 p.2[i]?
def kApd (i : Nat) (f : Dn) (en : En) : Option Sl → Res (Fl × En)
  | some (.ow (.list _)) => (f en).bind (kApd2 i)
  | _ => .bad
def kStar3 (xs : List PyData) : List PyData × En → Res (List PyData × En) := fun q => .ok (xs ++ q.1, q.2)
def kStar (r : An) : PyData × En → Res (List PyData × En) := fun p => (starP p.1).bind fun xs => (r p.2).bind (kStar3 xs)
section
variable (en : En)
theorem ap_callP (m : PyData → List PyData → Res (PyData × PyData)) (n i : Nat) (r : An) : dCallP m n i r en = kCal m n i r en en[i]? := by
  unfold dCallP
  generalize en[i]? = o0
  cases o0 with
  | none => rfl
  | some sl0 =>
    cases sl0 with
    | ow d0 =>
      refine congrArg (Res.bind (r en)) (funext fun q => ?_)
      obtain ⟨xs, e2⟩ := q
      show callP m n i xs e2 = if xs.length + 1 = n then kCal3 m i xs e2 e2[i]? else .bad
      unfold callP
      by_cases h : xs.length + 1 = n
      · rw [if_pos h, if_pos h]
        generalize e2[i]? = o
        cases o with
        | none => rfl
        | some sl => cases sl <;> rfl
      · rw [if_neg h, if_neg h]
    | _ => rfl
theorem kCal_ow (m : PyData → List PyData → Res (PyData × PyData)) (n i : Nat) (r : An) (pd : PyData) : kCal m n i r en (some (.ow pd)) = (r en).bind (kCal2 m n i) := rfl
theorem kCal2_0 (m : PyData → List PyData → Res (PyData × PyData)) (i : Nat) : kCal2 m 1 i ([], en) = kCal3 m i [] en en[i]? := rfl
theorem kCal2_1 (m : PyData → List PyData → Res (PyData × PyData)) (i : Nat) (x : PyData) : kCal2 m 2 i ([x], en) = kCal3 m i [x] en en[i]? := rfl
theorem kCal2_2 (m : PyData → List PyData → Res (PyData × PyData)) (i : Nat) (x y : PyData) : kCal2 m 3 i ([x, y], en) = kCal3 m i [x, y] en en[i]? := rfl
theorem kCal3_ow (m : PyData → List PyData → Res (PyData × PyData)) (i : Nat) (xs : List PyData) (pd : PyData) : kCal3 m i xs en (some (.ow pd)) = (m pd xs).bind (kCal4 i en) := rfl
theorem kCal4_ap (i : Nat) (d pd : PyData) : kCal4 i en (d, pd) = .ok (d, en.set i (.ow pd)) := rfl
theorem ap_lc (f : An) (g : Gn) (tt : Tn) (te : Dn) (vs : List Nat) : dLc f g tt te vs en = (f en).bind (kLc g tt te vs) := rfl
theorem kLc_ap (g : Gn) (tt : Tn) (te : Dn) (vs : List Nat) (ds : List PyData) : kLc g tt te vs (ds, en) = lcF g tt te vs ds [] (wipeE en vs) := rfl
theorem ap_for (f : An) (g : Gn) (b : Sn) : sFor f g b en = (f en).bind (kFor g b) := rfl
theorem kFor_ap (g : Gn) (b : Sn) (ds : List PyData) : kFor g b (ds, en) = loopF g b ds en := rfl
theorem ap_iOf (f : Dn) : iOf f en = (f en).bind kIof := rfl
theorem kIof_l (ds : List PyData) : kIof (.list ds, en) = .ok (ds, en) := rfl
theorem kIof_t (ds : List PyData) : kIof (.tuple ds, en) = .ok (ds, en) := rfl
theorem ap_rg (g : List PyData → Res (List PyData)) (r : An) : iRange g r en = (r en).bind (kRg g) := rfl
theorem kRg_ap (g : List PyData → Res (List PyData)) (xs : List PyData) : kRg g (xs, en) = (g xs).bind (kRet en) := rfl
theorem ap_par (i j : Nat) (f g : Dn) : sPar i j f g en = (f en).bind (kPar i j g) := rfl
theorem kPar_ap (i j : Nat) (g : Dn) (x : PyData) : kPar i j g (x, en) = (g en).bind (kPar2 i j x) := rfl
theorem kPar2_ap (i j : Nat) (x y : PyData) : kPar2 i j x (y, en) = .ok (.nx, (en.set i (.sh x)).set j (.sh y)) := rfl
theorem ap_parO (i j : Nat) (f g : Dn) : sParO i j f g en = (f en).bind (kParO i j g) := rfl
theorem kParO_ap (i j : Nat) (g : Dn) (x : PyData) : kParO i j g (x, en) = (g en).bind (kParO2 i j x) := rfl
theorem kParO2_ap (i j : Nat) (x y : PyData) : kParO2 i j x (y, en) = .ok (.nx, (en.set i (.sh x)).set j (.ow y)) := rfl
theorem ap_asg (f : Dn) (g : Gn) : sAsg f g en = (f en).bind (kAsg g) := rfl
theorem ap_apd (i : Nat) (f : Dn) : sApp i f en = kApd i f en en[i]? := by
  unfold sApp
  generalize en[i]? = o0
  cases o0 with
  | none => rfl
  | some sl0 =>
    cases sl0 with
    | ow d0 =>
      cases d0 with
      | list xs0 =>
        refine congrArg (Res.bind (f en)) (funext fun q => ?_)
        obtain ⟨d, e2⟩ := q
        show appK i d e2 = kApd3 i d e2 e2[i]?
        unfold appK
        generalize e2[i]? = o
        cases o with
        | none => rfl
        | some sl =>
          cases sl with
          | ow d => cases d <;> rfl
          | _ => rfl
      | _ => rfl
    | _ => rfl
theorem kApd_ow (i : Nat) (f : Dn) (xs : List PyData) : kApd i f en (some (.ow (.list xs))) = (f en).bind (kApd2 i) := rfl
theorem kApd2_ap (i : Nat) (d : PyData) : kApd2 i (d, en) = kApd3 i d en en[i]? := rfl
theorem kApd3_ap (i : Nat) (d : PyData) (xs : List PyData) (h : xs.length < 1000) : kApd3 i d en (some (.ow (.list xs))) = .ok (.nx, en.set i (.ow (.list (xs ++ [d])))) := by
  unfold kApd3
  have h2 : xs.length < sizeLine := small1000 (by omega)
  simp only [if_pos h2]
theorem ap_star (f : Dn) (r : An) : dStar f r en = (f en).bind (kStar r) := by
  show Res.bind (f en) _ = Res.bind (f en) _
  congr 1
  funext p
  obtain ⟨d, e⟩ := p
  show Res.bind (Res.bind (starP d) _) _ = _
  cases q : starP d with
  | ok x =>
    show Res.bind (r e) _ = _
    unfold kStar
    simp only [q]
    rfl
  | exc _ _ =>
    unfold kStar
    simp only [q]
    rfl
  | bad =>
    unfold kStar
    simp only [q]
    rfl
theorem kStar_l (r : An) (xs : List PyData) : kStar r (.list xs, en) = (r en).bind (kStar3 xs) := rfl
theorem kStar3_ap (xs ys : List PyData) : kStar3 xs (ys, en) = .ok (xs ++ ys, en) := rfl
end
theorem gN_1 (m : List PyData → Res PyData) (a : PyData) : gN 1 m [a] = m [a] := rfl
theorem gN_2 (m : List PyData → Res PyData) (a b : PyData) : gN 2 m [a, b] = m [a, b] := rfl
theorem gN_3 (m : List PyData → Res PyData) (a b c : PyData) : gN 3 m [a, b, c] = m [a, b, c] := rfl
def endM (r : Res (Fl × En)) : Res PyData := match r with
  | .ok (.rt d, _) => .ok d
  | .ok (.nx, _) => .ok .none
  | .exc c fs => .exc c fs
  | _ => .bad
theorem ap_runM (b : Sn) (n : Nat) (ds : List PyData) : runM b n ds = endM (b (startE n ds)) := by
  unfold runM endM
  rfl
theorem endM_rt (d : PyData) (r : En) : endM (.ok (.rt d, r)) = .ok d := rfl
/-- a comprehension that keeps all else -/
theorem lc_map {g : Gn} {te : Dn} {vs : List Nat} {E : En} {F : PyData → PyData} : ∀ {ds : List PyData} (acc : List PyData), (∀ d ∈ ds, ∃ e1 e2, g d E = .ok e1 ∧ te e1 = .ok (F d, e2) ∧ wipeE e2 vs = E) → lcF g tYesD te vs ds acc E = .ok (.list (acc ++ ds.map F), E)
  | [], acc, _ => by
    show Res.ok (PyData.list acc, E) = _
    rw [List.map_nil, List.append_nil]
  | d :: ds, acc, h => by
    obtain ⟨e1, e2, h1, h2, h3⟩ := h d List.mem_cons_self
    have ih := lc_map (ds := ds) (acc ++ [F d]) fun x hx => h x (List.mem_cons_of_mem _ hx)
    show Res.bind (g d E) _ = _
    rw [h1]
    show Res.bind (te e1) _ = _
    rw [h2]
    show lcF g tYesD te vs ds (acc ++ [F d]) (wipeE e2 vs) = _
    rw [h3, ih, List.map_cons, List.append_assoc]
    rfl
/-- .. that moves on, state by state -/
theorem lc_go {g : Gn} {te : Dn} {vs : List Nat} {I : Nat → En → Prop} {R : PyData → Prop} : ∀ {ds : List PyData} (acc : List PyData) (k : Nat) (E : En), I k E → (∀ x ∈ acc, R x) → (∀ d ∈ ds, ∀ k E, I k E → ∃ e1 y e2, g d E = .ok e1 ∧ te e1 = .ok (y, e2) ∧ R y ∧ I (k + 1) (wipeE e2 vs)) →
    ∃ ys E', lcF g tYesD te vs ds acc E = .ok (.list ys, E') ∧ ys.length = acc.length + ds.length ∧ (∀ y ∈ ys, R y) ∧ I (k + ds.length) E'
  | [], acc, k, E, hI, ha, _ => ⟨acc, E, rfl, rfl, ha, hI⟩
  | d :: ds, acc, k, E, hI, ha, h => by
    obtain ⟨e1, y, e2, h1, h2, h3, h4⟩ := h d List.mem_cons_self k E hI
    obtain ⟨ys, E', i1, i2, i3, i4⟩ := lc_go (ds := ds) (acc ++ [y]) (k + 1) (wipeE e2 vs) h4 (fun x hx => by
      rcases List.mem_append.mp hx with q | q
      · exact ha x q
      · rw [List.mem_singleton.mp q]; exact h3) fun x hx => h x (List.mem_cons_of_mem _ hx)
    refine ⟨ys, E', ?_, by rw [i2, List.length_append, List.length_cons, List.length_cons, List.length_nil]; omega, i3, by rw [List.length_cons, show k + (ds.length + 1) = k + 1 + ds.length by omega]; exact i4⟩
    show Res.bind (g d E) _ = _
    rw [h1]
    show Res.bind (te e1) _ = _
    rw [h2]
    exact i1
/-- a loop, state by state -/
theorem loop_go {g : Gn} {b : Sn} {I : Nat → En → Prop} : ∀ {ds : List PyData} (k : Nat) (E : En), I k E → (∀ d ∈ ds, ∀ k E, I k E → ∃ e1 e2, g d E = .ok e1 ∧ b e1 = .ok (.nx, e2) ∧ I (k + 1) e2) → ∃ E', loopF g b ds E = .ok (.nx, E') ∧ I (k + ds.length) E'
  | [], k, E, hI, _ => ⟨E, rfl, hI⟩
  | d :: ds, k, E, hI, h => by
    obtain ⟨e1, e2, h1, h2, h3⟩ := h d List.mem_cons_self k E hI
    obtain ⟨E', i1, i2⟩ := loop_go (ds := ds) (k + 1) e2 h3 fun x hx => h x (List.mem_cons_of_mem _ hx)
    refine ⟨E', ?_, by rw [List.length_cons, show k + (ds.length + 1) = k + 1 + ds.length by omega]; exact i2⟩
    show Res.bind (g d E) _ = _
    rw [h1]
    show Res.bind (b e1) _ = _
    rw [h2]
    exact i1
/-! ### reprs -/
mutual
def nice : PyData → Bool
  | .none => true
  | .bool _ => true
  | .int i => decide (i.natAbs < 10 ^ 12)
  | .str x => PyData.strOk x
  | .list xs => niceA xs
  | .tuple xs => niceA xs
  | .dict _ => false
def niceA : List PyData → Bool
  | [] => true
  | x :: xs => nice x && niceA xs
end
mutual
theorem nice_ok : ∀ d : PyData, nice d = true → d.canLay0 = true ∧ d.intsShort 13 = true ∧ d.showable = true
  | .none, _ => ⟨rfl, rfl, rfl⟩
  | .bool _, _ => ⟨rfl, rfl, rfl⟩
  | .str x, h => ⟨by simpa only [nice, PyData.canLay0] using h, rfl, rfl⟩
  | .int i, h => by
    simp only [nice, decide_eq_true_eq] at h
    refine ⟨rfl, ?_, ?_⟩
    · simp only [PyData.intsShort, decide_eq_true_eq]
      exact PyData.shown_int_le h
    · simp only [PyData.showable, decide_eq_true_eq]
      by_cases z : i.natAbs = 0
      · rw [z]; decide
      · have h2 : i.natAbs < 2 ^ 41 := Nat.lt_trans h (by decide)
        exact Nat.lt_of_lt_of_le ((Nat.log2_lt z).mpr h2) (by decide)
  | .list xs, h => by
    simp only [PyData.canLay0, PyData.intsShort, PyData.showable]
    exact niceA_ok xs (by simpa only [nice] using h)
  | .tuple xs, h => by
    simp only [PyData.canLay0, PyData.intsShort, PyData.showable]
    exact niceA_ok xs (by simpa only [nice] using h)
  | .dict _, h => by simp only [nice] at h; exact nomatch h
theorem niceA_ok : ∀ xs : List PyData, niceA xs = true → PyData.canLayAll0 xs = true ∧ PyData.intsShortAll 13 xs = true ∧ PyData.showableAll xs = true
  | [], _ => ⟨rfl, rfl, rfl⟩
  | x :: xs, h => by
    simp only [niceA, Bool.and_eq_true] at h
    simp only [PyData.canLayAll0, PyData.intsShortAll, PyData.showableAll, Bool.and_eq_true]
    have a := nice_ok x h.1
    have b := niceA_ok xs h.2
    exact ⟨⟨a.1, b.1⟩, ⟨a.2.1, b.2.1⟩, ⟨a.2.2, b.2.2⟩⟩
end
theorem repr_nice {d : PyData} (h : nice d = true) (hd : d.depth ≤ 64) (hw : d.weight ≤ 2 ^ 20) : gRepr d = .ok (.str d.shown) := by
  obtain ⟨h1, h2, h3⟩ := nice_ok d h
  have hl : d.layable0 = true := by
    unfold PyData.layable0
    rw [h1, decide_eq_true hd, decide_eq_true hw]
    rfl
  have h4 := PyData.shown_fits_of_layable0 (B := 13) (by decide) (by decide) hl h2
  unfold gRepr
  rw [h1, h3, decide_eq_true hd, decide_eq_true h4]
  rfl
theorem niceA_of {xs : List PyData} (h : ∀ x ∈ xs, nice x = true) : niceA xs = true := by
  induction xs with
  | nil => rfl
  | cons x r ih =>
    simp only [niceA, Bool.and_eq_true]
    exact ⟨h x List.mem_cons_self, ih fun y hy => h y (List.mem_cons_of_mem _ hy)⟩
theorem depthA_of {xs : List PyData} {k : Nat} (h : ∀ x ∈ xs, x.depth ≤ k) : PyData.depthAll xs ≤ k := by
  induction xs with
  | nil => exact Nat.zero_le _
  | cons x r ih =>
    simp only [PyData.depthAll]
    exact Nat.max_le.mpr ⟨h x List.mem_cons_self, ih fun y hy => h y (List.mem_cons_of_mem _ hy)⟩
theorem weightA_of {xs : List PyData} {k : Nat} (h : ∀ x ∈ xs, x.weight ≤ k) : PyData.weightAll xs ≤ (k + 1) * xs.length := by
  induction xs with
  | nil => exact Nat.zero_le _
  | cons x r ih =>
    simp only [PyData.weightAll, List.length_cons]
    have a := h x List.mem_cons_self
    have b := ih fun y hy => h y (List.mem_cons_of_mem _ hy)
    rw [Nat.mul_add]
    omega
theorem ne_str (x : Str) : gNeA (.str x) (.str x) = .ok (.bool false) := by
  show Res.ok (PyData.bool (!decide (x = x))) = _
  rw [decide_eq_true rfl]
  rfl
theorem eq_str (x : Str) : gEqA (.str x) (.str x) = .ok (.bool true) := by
  show Res.ok (PyData.bool (decide (x = x))) = _
  rw [decide_eq_true rfl]
theorem eq_strN {x y : Str} (h : x ≠ y) : gEqA (.str x) (.str y) = .ok (.bool false) := by
  show Res.ok (PyData.bool (decide (x = y))) = _
  rw [decide_eq_false h]
end EL
namespace EL
open PySem PySem.Spec PyProof.Rows L2 TL
/-! ### exact equality of data, by running -/
mutual
def same : PyData → PyData → Bool
  | .none, .none => true
  | .bool a, .bool b => a == b
  | .int i, .int j => decide (i = j)
  | .str x, .str y => decide (x = y)
  | .list xs, .list ys => sameA xs ys
  | .tuple xs, .tuple ys => sameA xs ys
  | _, _ => false
def sameA : List PyData → List PyData → Bool
  | [], [] => true
  | x :: xs, y :: ys => same x y && sameA xs ys
  | _, _ => false
end
mutual
theorem same_eq : ∀ x y : PyData, same x y = true → x = y
  | .none, y, h => by cases y <;> first | rfl | (simp [same] at h)
  | .bool a, y, h => by
    cases y with
    | bool b => rw [show a = b from eq_of_beq (by simpa only [same] using h)]
    | _ => simp [same] at h
  | .int a, y, h => by
    cases y with
    | int b => rw [show a = b from of_decide_eq_true (by simpa only [same] using h)]
    | _ => simp [same] at h
  | .str a, y, h => by
    cases y with
    | str b => rw [show a = b from of_decide_eq_true (by simpa only [same] using h)]
    | _ => simp [same] at h
  | .list a, y, h => by
    cases y with
    | list b => rw [sameA_eq a b (by simpa only [same] using h)]
    | _ => simp [same] at h
  | .tuple a, y, h => by
    cases y with
    | tuple b => rw [sameA_eq a b (by simpa only [same] using h)]
    | _ => simp [same] at h
  | .dict a, y, h => by cases y <;> simp [same] at h
theorem sameA_eq : ∀ x y : List PyData, sameA x y = true → x = y
  | [], y, h => by
    cases y with
    | nil => rfl
    | cons _ _ => simp [sameA] at h
  | x :: xs, y, h => by
    cases y with
    | nil => simp [sameA] at h
    | cons z zs =>
      simp only [sameA, Bool.and_eq_true] at h
      rw [same_eq x z h.1, sameA_eq xs zs h.2]
end
def isD (r : Res PyData) (d : PyData) : Bool := match r with
  | .ok x => same x d
  | _ => false
theorem isD_eq {r : Res PyData} {d : PyData} (h : isD r d = true) : r = .ok d := by
  cases r with
  | ok x => rw [same_eq x d h]
  | _ => cases h
/-! ### joins -/
theorem tl_len (x : Str) : (tl x).length = x.length := by
  show x.cps.toList.length = x.cps.size
  exact Array.length_toList
theorem joinL_len {s : List Nat} {B : Nat} : ∀ {ps : List (List Nat)}, (∀ p ∈ ps, p.length ≤ B) → (joinL s ps).length ≤ ps.length * (B + s.length)
  | [], _ => by simp [joinL]
  | [p], h => by
    have := h p List.mem_cons_self
    simp only [joinL, List.length_cons, List.length_nil]
    omega
  | p :: q :: r, h => by
    have a := h p List.mem_cons_self
    have b := joinL_len (s := s) (ps := q :: r) fun z hz => h z (List.mem_cons_of_mem _ hz)
    have e : joinL s (p :: q :: r) = p ++ (s ++ joinL s (q :: r)) := rfl
    rw [e, List.length_append, List.length_append, List.length_cons (a := p), Nat.add_mul]
    omega
theorem join_len {x : Str} {ss : List Str} {B : Nat} (h : ∀ s ∈ ss, s.length ≤ B) : (Txt.join x ss).length ≤ ss.length * (B + x.length) := by
  rw [join_eq, ← tl_len, tl_join, ← tl_len x]
  have := joinL_len (s := tl x) (ps := ss.map tl) (B := B) fun p hp => by
    obtain ⟨z, hz, rfl⟩ := List.mem_map.mp hp
    rw [tl_len]
    exact h z hz
  rw [List.length_map] at this
  exact this
theorem sum_le {ss : List Str} {B : Nat} (h : ∀ s ∈ ss, s.length ≤ B) : (ss.map (·.length)).sum ≤ ss.length * B := by
  induction ss with
  | nil => simp
  | cons x r ih =>
    have a := h x List.mem_cons_self
    have b := ih fun s hs => h s (List.mem_cons_of_mem _ hs)
    rw [List.map_cons, List.sum_cons, List.length_cons, Nat.add_mul]
    omega
theorem join_ok {x : Str} {ss : List Str} {B : Nat} (h : ∀ s ∈ ss, s.length ≤ B) (hb : ss.length * (B + x.length) ≤ 1000000) : joinS x ss = .ok (.str (Txt.join x ss)) := by
  have h1 := sum_le h
  have h2 := join_len (x := x) h
  have h3 : (ss.map (·.length)).sum + ss.length * x.length ≤ 16777216 := by
    rw [Nat.mul_add] at hb
    omega
  have h4 : (Txt.join x ss).length ≤ sizeLine := by rw [sizeLine_eq]; omega
  unfold joinS
  rw [decide_eq_true h3, decide_eq_true h4]
  rfl
theorem strsOf_map : ∀ ss : List Str, strsOf (ss.map .str) = some ss
  | [] => rfl
  | x :: r => by
    rw [List.map_cons]
    show (strsOf (r.map .str)).map (x :: ·) = _
    rw [strsOf_map r]
    rfl
theorem gJoin_l {x : Str} {ss : List Str} {B : Nat} (h : ∀ s ∈ ss, s.length ≤ B) (hb : ss.length * (B + x.length) ≤ 1000000) : gJoin (.str x) (.list (ss.map .str)) = .ok (.str (Txt.join x ss)) := by
  show (match strsOf (ss.map .str) with
    | some ss => joinS x ss
    | none => .bad) = _
  rw [strsOf_map]
  exact join_ok h hb
theorem gSplit_join {x : Str} {c : Nat} {ss : List Str} {B : Nat} (ex : tl x = [c]) (hk : x.cps.all (· < 256) = true) (hne : ss ≠ []) (hc : ∀ s ∈ ss, c ∉ tl s) (h : ∀ s ∈ ss, s.length ≤ B) (hb : ss.length * (B + x.length) ≤ 1000000) (hB : B ≤ 1000000) :
    gSplit (.str (Txt.join x ss)) (.str x) = .ok (.list (ss.map .str)) := by
  have e := split_join (y := x) (s := c) (S := []) ex hk hne hc
  have hx : x.length = 1 := by rw [← tl_len, ex]; rfl
  have h2 := join_len (x := x) h
  have h3 : (Txt.join x ss).length + 2 ≤ sizeLine := by rw [sizeLine_eq]; omega
  have h4 : ss.length ≤ sizeLine := by
    rw [hx, Nat.mul_add] at hb
    rw [sizeLine_eq]; omega
  have h5 : (ss.all fun z => decide (z.length ≤ sizeLine)) = true := List.all_eq_true.mpr fun z hz => decide_eq_true (by have := h z hz; rw [sizeLine_eq]; omega)
  unfold gSplit
  simp only [e]
  rw [hx, decide_eq_true h3, decide_eq_true h4, h5]
  rfl
end EL
namespace EL
open PySem PySem.Spec PyProof.Rows L2
def topS (i : Nat) : Stmt := PySem.Challenge.pw_everlit_k92_texts_of_moves_and_plans.main.body.getD i (.Pass ⟨0, 0, 0, 0⟩)
def tb_BOUNDS : List (Str × PyData) := [("length", (.tuple [(.int (1)), (.int (10000))])), ("reach", (.tuple [(.int (1)), (.int (160000))])), ("factor", (.tuple [(.int (1)), (.int (8))])), ("band", (.tuple [(.int (1)), (.int (64))])), ("rate", (.tuple [(.int (1)), (.int (16))])), ("place", (.tuple [(.int (0)), (.int (63))]))]
def tb_MOVE_FORMS : List (Str × PyData) := [("slide", (.tuple [(.str "item"), (.str "step")])), ("light", (.tuple [(.str "name"), (.str "route"), (.str "place")])), ("out", (.tuple [(.str "name")])), ("quit", (.tuple [(.str "name")])), ("move", (.tuple [(.str "name"), (.str "route"), (.str "place")])), ("begin", (.tuple [(.str "name"), (.str "rate"), (.str "route"), (.str "place")])), ("end", (.tuple [(.str "name")])), ("guard", (.tuple [(.str "name"), (.str "route"), (.str "place")])), ("drop", (.tuple [(.str "name")]))]
/-- what the top has left -/
structure Md (K : PySem.W.Frag) (w : World) (mg : Str → Option Value) where
  n_isinstance : mg "isinstance" = none
  n_bool : mg "bool" = none
  n_int : mg "int" = none
  n_len : mg "len" = none
  n_str : mg "str" = none
  n_all : mg "all" = none
  n_tuple : mg "tuple" = none
  n_enumerate : mg "enumerate" = none
  n_zip : mg "zip" = none
  n_list : mg "list" = none
  n_abs : mg "abs" = none
  n_sorted : mg "sorted" = none
  n_range : mg "range" = none
  n_repr : mg "repr" = none
  t_MOST_LETTERS : Tok
  c_MOST_LETTERS : mg "MOST_LETTERS" = some (.int (8) t_MOST_LETTERS)
  t_LETTERS : Tok
  c_LETTERS : mg "LETTERS" = some (.str "abcdefghijklmnopqrstuvwxyz" t_LETTERS)
  t_TWIN : Tok
  c_TWIN : mg "TWIN" = some (.str "+" t_TWIN)
  t_RESERVE : Tok
  c_RESERVE : mg "RESERVE" = some (.str "*" t_RESERVE)
  t_DIGITS : Tok
  c_DIGITS : mg "DIGITS" = some (.str "0123456789" t_DIGITS)
  t_MOST_DIGITS : Tok
  c_MOST_DIGITS : mg "MOST_DIGITS" = some (.int (6) t_MOST_DIGITS)
  t_MOST_FIBRES : Tok
  c_MOST_FIBRES : mg "MOST_FIBRES" = some (.int (16) t_MOST_FIBRES)
  t_UP : Tok
  c_UP : mg "UP" = some (.str "up" t_UP)
  t_DOWN : Tok
  c_DOWN : mg "DOWN" = some (.str "down" t_DOWN)
  t_MOST_PARTS : Tok
  c_MOST_PARTS : mg "MOST_PARTS" = some (.int (16) t_MOST_PARTS)
  t_MOST_FIBRE : Tok
  c_MOST_FIBRE : mg "MOST_FIBRE" = some (.int (15) t_MOST_FIBRE)
  t_MOST_RATE : Tok
  c_MOST_RATE : mg "MOST_RATE" = some (.int (16) t_MOST_RATE)
  t_MOST_PLACE : Tok
  c_MOST_PLACE : mg "MOST_PLACE" = some (.int (63) t_MOST_PLACE)
  a_BOUNDS : Addr
  g_BOUNDS : mg "BOUNDS" = some (.ref a_BOUNDS)
  D_BOUNDS : DictC K w a_BOUNDS tb_BOUNDS
  a_MOVE_FORMS : Addr
  g_MOVE_FORMS : mg "MOVE_FORMS" = some (.ref a_MOVE_FORMS)
  D_MOVE_FORMS : DictC K w a_MOVE_FORMS tb_MOVE_FORMS
  a_is_between : Addr
  d_is_between : FuncData
  F_is_between : Fun K "is_between" "is_between" (topS 8) a_is_between d_is_between
  g_is_between : mg "is_between" = some (.ref a_is_between)
  a_is_name : Addr
  d_is_name : FuncData
  F_is_name : Fun K "is_name" "is_name" (topS 9) a_is_name d_is_name
  g_is_name : mg "is_name" = some (.ref a_is_name)
  a_is_light : Addr
  d_is_light : FuncData
  F_is_light : Fun K "is_light" "is_light" (topS 10) a_is_light d_is_light
  g_is_light : mg "is_light" = some (.ref a_is_light)
  a_is_twin : Addr
  d_is_twin : FuncData
  F_is_twin : Fun K "is_twin" "is_twin" (topS 11) a_is_twin d_is_twin
  g_is_twin : mg "is_twin" = some (.ref a_is_twin)
  a_is_reserve : Addr
  d_is_reserve : FuncData
  F_is_reserve : Fun K "is_reserve" "is_reserve" (topS 12) a_is_reserve d_is_reserve
  g_is_reserve : mg "is_reserve" = some (.ref a_is_reserve)
  a_is_item : Addr
  d_is_item : FuncData
  F_is_item : Fun K "is_item" "is_item" (topS 13) a_is_item d_is_item
  g_is_item : mg "is_item" = some (.ref a_is_item)
  a_number_in : Addr
  d_number_in : FuncData
  F_number_in : Fun K "number_in" "number_in" (topS 22) a_number_in d_number_in
  g_number_in : mg "number_in" = some (.ref a_number_in)
  a_route_in : Addr
  d_route_in : FuncData
  F_route_in : Fun K "route_in" "route_in" (topS 23) a_route_in d_route_in
  g_route_in : mg "route_in" = some (.ref a_route_in)
  a_step_in : Addr
  d_step_in : FuncData
  F_step_in : Fun K "step_in" "step_in" (topS 24) a_step_in d_step_in
  g_step_in : mg "step_in" = some (.ref a_step_in)
  a_value_in : Addr
  d_value_in : FuncData
  F_value_in : Fun K "value_in" "value_in" (topS 25) a_value_in d_value_in
  g_value_in : mg "value_in" = some (.ref a_value_in)
  a_values_in : Addr
  d_values_in : FuncData
  F_values_in : Fun K "values_in" "values_in" (topS 26) a_values_in d_values_in
  g_values_in : mg "values_in" = some (.ref a_values_in)
  a_lines_of : Addr
  d_lines_of : FuncData
  F_lines_of : Fun K "lines_of" "lines_of" (topS 27) a_lines_of d_lines_of
  g_lines_of : mg "lines_of" = some (.ref a_lines_of)
  a_move_in : Addr
  d_move_in : FuncData
  F_move_in : Fun K "move_in" "move_in" (topS 28) a_move_in d_move_in
  g_move_in : mg "move_in" = some (.ref a_move_in)
  a_route_word : Addr
  d_route_word : FuncData
  F_route_word : Fun K "route_word" "route_word" (topS 29) a_route_word d_route_word
  g_route_word : mg "route_word" = some (.ref a_route_word)
  a_part_word : Addr
  d_part_word : FuncData
  F_part_word : Fun K "part_word" "part_word" (topS 30) a_part_word d_part_word
  g_part_word : mg "part_word" = some (.ref a_part_word)
  a_move_line : Addr
  d_move_line : FuncData
  F_move_line : Fun K "move_line" "move_line" (topS 31) a_move_line d_move_line
  g_move_line : mg "move_line" = some (.ref a_move_line)
  a_move_text : Addr
  d_move_text : FuncData
  F_move_text : Fun K "move_text" "move_text" (topS 33) a_move_text d_move_text
  g_move_text : mg "move_text" = some (.ref a_move_text)
  a_plan_text : Addr
  d_plan_text : FuncData
  F_plan_text : Fun K "plan_text" "plan_text" (topS 34) a_plan_text d_plan_text
  g_plan_text : mg "plan_text" = some (.ref a_plan_text)
  a_is_route_form : Addr
  d_is_route_form : FuncData
  F_is_route_form : Fun K "is_route_form" "is_route_form" (topS 40) a_is_route_form d_is_route_form
  g_is_route_form : mg "is_route_form" = some (.ref a_is_route_form)
  a_is_part : Addr
  d_is_part : FuncData
  F_is_part : Fun K "is_part" "is_part" (topS 41) a_is_part d_is_part
  g_is_part : mg "is_part" = some (.ref a_is_part)
  a_is_move : Addr
  d_is_move : FuncData
  F_is_move : Fun K "is_move" "is_move" (topS 42) a_is_move d_is_move
  g_is_move : mg "is_move" = some (.ref a_is_move)
  a_read_move : Addr
  d_read_move : FuncData
  F_read_move : Fun K "read_move" "read_move" (topS 44) a_read_move d_read_move
  g_read_move : mg "read_move" = some (.ref a_read_move)
  a_read_plan : Addr
  d_read_plan : FuncData
  F_read_plan : Fun K "read_plan" "read_plan" (topS 45) a_read_plan d_read_plan
  g_read_plan : mg "read_plan" = some (.ref a_read_plan)
  a__law_pen : Addr
  d__law_pen : FuncData
  F__law_pen : Fun K "_law_pen" "_law_pen" (topS 47) a__law_pen d__law_pen
  g__law_pen : mg "_law_pen" = some (.ref a__law_pen)
  a__law_draw : Addr
  d__law_draw : FuncData
  F__law_draw : Fun K "_law_draw" "_law_draw" (topS 48) a__law_draw d__law_draw
  g__law_draw : mg "_law_draw" = some (.ref a__law_draw)
  a__law_pick : Addr
  d__law_pick : FuncData
  F__law_pick : Fun K "_law_pick" "_law_pick" (topS 49) a__law_pick d__law_pick
  g__law_pick : mg "_law_pick" = some (.ref a__law_pick)
  a__law_drawn : Addr
  d__law_drawn : FuncData
  F__law_drawn : Fun K "_law_drawn" "_law_drawn" (topS 50) a__law_drawn d__law_drawn
  g__law_drawn : mg "_law_drawn" = some (.ref a__law_drawn)
  a_law : Addr
  d_law : FuncData
  F_law : Fun K "law" "law" (topS 51) a_law d_law
  g_law : mg "law" = some (.ref a_law)
section
variable {P : Program} {w : World} {K : PySem.W.Frag} {mg : Str → Option Value} {base : Heap}
/-! ### is_between -/
/- line 16 -/
def s_is_between_0 : Sn := sRet (dAnd (dUn (gIsi .int) (dVar 0)) (dAnd (dNot (dUn (gIsi .bool) (dVar 0))) (dChain gLe gLe (dVar 1) (dVar 0) (dVar 2))))
def b_is_between : Sn := s_is_between_0
theorem S_is_between : FnScope ["value", "least", "most"] ["value", "least", "most"] (defScope (topS 8)) := ⟨rfl, rfl, rfl, by decide +kernel, rfl, by decide +kernel, by decide +kernel⟩
theorem B_is_between (M : Md K w mg) : Binds K M.d_is_between ["value", "least", "most"] [] := M.F_is_between.binds fun _ _ _ _ _ _ us hl => match us, hl with | [_, _, _], _ => rfl
def m_is_between : List PyData → Res PyData := runM b_is_between 3
theorem ok_is_between (M : Md K w mg) {k : Nat} : FnOk P w K mg base CX0 (k + 1) M.a_is_between M.d_is_between ["value", "least", "most"] (spM m_is_between 3 K) :=
  fn_pure (k := k) M.F_is_between S_is_between (fun cdv A outer s H E hr => (dss_one (ds_ret (de_and (de_isi .int (by rfl) M.n_isinstance (by rfl) M.n_int boot_int (de_var 0)) (de_and (de_not (de_isi .bool (by rfl) M.n_isinstance (by rfl) M.n_bool boot_bool (de_var 0))) (de_one (de_chain op_leD op_leD gOrd_ok gOrd_ok (de_var 1) (de_var 0) (de_var 2))))))))
/-! ### is_name -/
/- line 19 -/
def s_is_name_0 : Sn := sRet (dCst (.bool false))
/- line 18 -/
def s_is_name_1 : Sn := sIf (tOrD (tNotD (EL.tB (dUn (gIsi .str) (dVar 0)))) (tNotD (EL.tB (dChain gLe gLe (dCst (.int (1))) (dApp (g1 gLen) (dCons (dVar 0) dNil)) (dCst (.int (8))))))) s_is_name_0 sNext
/- line 20 -/
def s_is_name_2 : Sn := sRet (dApp (g1 gAll) (dCons (dLc (iOf (dVar 0)) (gNm 1) tYesD (dOp gInA (dVar 1) (dCst (.str "abcdefghijklmnopqrstuvwxyz"))) [1]) dNil))
def b_is_name : Sn := (sSeq s_is_name_1
    s_is_name_2)
theorem S_is_name : FnScope ["value", "sign"] ["value"] (defScope (topS 9)) := ⟨rfl, rfl, rfl, by decide +kernel, rfl, by decide +kernel, by decide +kernel⟩
theorem B_is_name (M : Md K w mg) : Binds K M.d_is_name ["value"] [] := M.F_is_name.binds fun _ _ _ _ _ _ us hl => match us, hl with | [_], _ => rfl
def m_is_name : List PyData → Res PyData := runM b_is_name 2
theorem ok_is_name (M : Md K w mg) {k : Nat} : FnOk P w K mg base CX0 (k + 1) M.a_is_name M.d_is_name ["value"] (spM m_is_name 1 K) :=
  fn_pure (k := k) M.F_is_name S_is_name (fun cdv A outer s H E hr => (dss_cons (ds_if (dt_w (dw_or (dt_not (dt_val (de_isi .str (by rfl) M.n_isinstance (by rfl) M.n_str boot_str (de_var 0)))) (dw_or1 (dt_not (dt_chain op_leD op_leD gOrd_ok gOrd_ok de_int (de_callB call_len gLen_ok (by rfl) M.n_len boot_len (da_cons (de_var 0) da_nil)) (de_glob (v := .int (8)) (by rfl) M.c_MOST_LETTERS ⟨_, rfl⟩ (fun _ _ => .int _))))))) (dss_one (ds_ret de_bl)) dss_nil)
    (dss_one (ds_ret (de_callB (cr_all rfl) gBs_ok (by rfl) M.n_all boot_all (da_cons (de_new (df_lc [("sign", 1)] rfl S_is_name.nd (di_of (de_var 0)) (blkOk_by (by rfl)) (fun _ _ _ _ _ => (dg_name 1 S_is_name.nd)) (fun _ _ _ _ _ => dts_nil) (fun _ _ _ _ _ => (de_inA (h65 hr) (de_var 1) (de_glob (v := .str "abcdefghijklmnopqrstuvwxyz") (by rfl) M.c_LETTERS ⟨_, rfl⟩ (fun _ _ => .str _ (by decide +kernel))))))) da_nil))))))
/-! ### is_light -/
/- line 22 -/
def s_is_light_0 : Sn := sRet (dApp (gN 1 m_is_name) (dCons (dVar 0) dNil))
def b_is_light : Sn := s_is_light_0
theorem S_is_light : FnScope ["value"] ["value"] (defScope (topS 10)) := ⟨rfl, rfl, rfl, by decide +kernel, rfl, by decide +kernel, by decide +kernel⟩
theorem B_is_light (M : Md K w mg) : Binds K M.d_is_light ["value"] [] := M.F_is_light.binds fun _ _ _ _ _ _ us hl => match us, hl with | [_], _ => rfl
def m_is_light : List PyData → Res PyData := runM b_is_light 1
theorem ok_is_light (M : Md K w mg) {k : Nat} : FnOk P w K mg base CX0 (k + 2) M.a_is_light M.d_is_light ["value"] (spM m_is_light 1 K) :=
  fn_pure (k := k + 1) M.F_is_light S_is_light (fun cdv A outer s H E hr => (dss_one (ds_ret (de_call (ok_is_name M (k := k)) (hr.mono (by omega)) (by rfl) M.g_is_name M.F_is_name.kp (B_is_name M) pass0 (da_cons (de_var 0) da_nil)))))
/-! ### is_twin -/
/- line 24 -/
def s_is_twin_0 : Sn := sRet (dAnd (dUn (gIsi .str) (dVar 0)) (dAnd (dOp gEqA (dSlice gSl (dVar 0) (eS (dUn gNeg (dCst (.int (1))))) eN) (dCst (.str "+"))) (dApp (gN 1 m_is_name) (dCons (dSlice gSl (dVar 0) eN (eS (dUn gNeg (dCst (.int (1)))))) dNil))))
def b_is_twin : Sn := s_is_twin_0
theorem S_is_twin : FnScope ["value"] ["value"] (defScope (topS 11)) := ⟨rfl, rfl, rfl, by decide +kernel, rfl, by decide +kernel, by decide +kernel⟩
theorem B_is_twin (M : Md K w mg) : Binds K M.d_is_twin ["value"] [] := M.F_is_twin.binds fun _ _ _ _ _ _ us hl => match us, hl with | [_], _ => rfl
def m_is_twin : List PyData → Res PyData := runM b_is_twin 1
theorem ok_is_twin (M : Md K w mg) {k : Nat} : FnOk P w K mg base CX0 (k + 2) M.a_is_twin M.d_is_twin ["value"] (spM m_is_twin 1 K) :=
  fn_pure (k := k + 1) M.F_is_twin S_is_twin (fun cdv A outer s H E hr => (dss_one (ds_ret (de_and (de_isi .str (by rfl) M.n_isinstance (by rfl) M.n_str boot_str (de_var 0)) (de_and (de_cmp (op_eqA (h64 hr)) gEqA_ok (de_slice sl_D gSl_ok (de_var 0) (do_some (de_un un_neg gNeg_ok de_int)) do_none) (de_glob (v := .str "+") (by rfl) M.c_TWIN ⟨_, rfl⟩ (fun _ _ => .str _ (by decide +kernel))) (nomark _)) (de_one (de_call (ok_is_name M (k := k)) (hr.mono (by omega)) (by rfl) M.g_is_name M.F_is_name.kp (B_is_name M) pass0 (da_cons (de_slice sl_D gSl_ok (de_var 0) do_none (do_some (de_un un_neg gNeg_ok de_int))) da_nil))))))))
/-! ### is_reserve -/
/- line 26 -/
def s_is_reserve_0 : Sn := sRet (dAnd (dUn (gIsi .str) (dVar 0)) (dAnd (dOp gEqA (dSlice gSl (dVar 0) (eS (dUn gNeg (dCst (.int (1))))) eN) (dCst (.str "*"))) (dApp (gN 1 m_is_name) (dCons (dSlice gSl (dVar 0) eN (eS (dUn gNeg (dCst (.int (1)))))) dNil))))
def b_is_reserve : Sn := s_is_reserve_0
theorem S_is_reserve : FnScope ["value"] ["value"] (defScope (topS 12)) := ⟨rfl, rfl, rfl, by decide +kernel, rfl, by decide +kernel, by decide +kernel⟩
theorem B_is_reserve (M : Md K w mg) : Binds K M.d_is_reserve ["value"] [] := M.F_is_reserve.binds fun _ _ _ _ _ _ us hl => match us, hl with | [_], _ => rfl
def m_is_reserve : List PyData → Res PyData := runM b_is_reserve 1
theorem ok_is_reserve (M : Md K w mg) {k : Nat} : FnOk P w K mg base CX0 (k + 2) M.a_is_reserve M.d_is_reserve ["value"] (spM m_is_reserve 1 K) :=
  fn_pure (k := k + 1) M.F_is_reserve S_is_reserve (fun cdv A outer s H E hr => (dss_one (ds_ret (de_and (de_isi .str (by rfl) M.n_isinstance (by rfl) M.n_str boot_str (de_var 0)) (de_and (de_cmp (op_eqA (h64 hr)) gEqA_ok (de_slice sl_D gSl_ok (de_var 0) (do_some (de_un un_neg gNeg_ok de_int)) do_none) (de_glob (v := .str "*") (by rfl) M.c_RESERVE ⟨_, rfl⟩ (fun _ _ => .str _ (by decide +kernel))) (nomark _)) (de_one (de_call (ok_is_name M (k := k)) (hr.mono (by omega)) (by rfl) M.g_is_name M.F_is_name.kp (B_is_name M) pass0 (da_cons (de_slice sl_D gSl_ok (de_var 0) do_none (do_some (de_un un_neg gNeg_ok de_int))) da_nil))))))))
/-! ### is_item -/
/- line 28 -/
def s_is_item_0 : Sn := sRet (dOr (dApp (gN 1 m_is_light) (dCons (dVar 0) dNil)) (dOr (dApp (gN 1 m_is_twin) (dCons (dVar 0) dNil)) (dApp (gN 1 m_is_reserve) (dCons (dVar 0) dNil))))
def b_is_item : Sn := s_is_item_0
theorem S_is_item : FnScope ["value"] ["value"] (defScope (topS 13)) := ⟨rfl, rfl, rfl, by decide +kernel, rfl, by decide +kernel, by decide +kernel⟩
theorem B_is_item (M : Md K w mg) : Binds K M.d_is_item ["value"] [] := M.F_is_item.binds fun _ _ _ _ _ _ us hl => match us, hl with | [_], _ => rfl
def m_is_item : List PyData → Res PyData := runM b_is_item 1
theorem ok_is_item (M : Md K w mg) {k : Nat} : FnOk P w K mg base CX0 (k + 3) M.a_is_item M.d_is_item ["value"] (spM m_is_item 1 K) :=
  fn_pure (k := k + 2) M.F_is_item S_is_item (fun cdv A outer s H E hr => (dss_one (ds_ret (de_or (de_call (ok_is_light M (k := k)) (hr.mono (by omega)) (by rfl) M.g_is_light M.F_is_light.kp (B_is_light M) pass0 (da_cons (de_var 0) da_nil)) (de_or (de_call (ok_is_twin M (k := k)) (hr.mono (by omega)) (by rfl) M.g_is_twin M.F_is_twin.kp (B_is_twin M) pass0 (da_cons (de_var 0) da_nil)) (de_one (de_call (ok_is_reserve M (k := k)) (hr.mono (by omega)) (by rfl) M.g_is_reserve M.F_is_reserve.kp (B_is_reserve M) pass0 (da_cons (de_var 0) da_nil))))))))
/-! ### number_in -/
/- line 39 -/
def s_number_in_0 : Sn := sRet (dCst .none)
/- line 38 -/
def s_number_in_1 : Sn := sIf (tOrD (tNotD (EL.tB (dChain gLe gLe (dCst (.int (1))) (dApp (g1 gLen) (dCons (dVar 0) dNil)) (dCst (.int (6)))))) (tNotD (EL.tB (dApp (g1 gAll) (dCons (dLc (iOf (dVar 0)) (gNm 4) tYesD (dOp gInA (dVar 4) (dCst (.str "0123456789"))) [4]) dNil))))) s_number_in_0 sNext
/- line 41 -/
def s_number_in_2 : Sn := sRet (dCst .none)
/- line 40 -/
def s_number_in_3 : Sn := sIf (tAndD (EL.tB (dOp gEqA (dOp gIxA (dVar 0) (dCst (.int (0)))) (dCst (.str "0")))) (EL.tB (dOp gNeA (dVar 0) (dCst (.str "0"))))) s_number_in_2 sNext
/- line 42 -/
def s_number_in_4 : Sn := sSet 3 (dApp (g1 gInt) (dCons (dVar 0) dNil))
/- line 43 -/
def s_number_in_5 : Sn := sRet (dIf (EL.tB (dChain gLe gLe (dVar 1) (dVar 3) (dVar 2))) (dVar 3) (dCst .none))
def b_number_in : Sn := (sSeq s_number_in_1
    (sSeq s_number_in_3
    (sSeq s_number_in_4
    s_number_in_5)))
theorem S_number_in : FnScope ["word", "least", "most", "number", "sign"] ["word", "least", "most"] (defScope (topS 22)) := ⟨rfl, rfl, rfl, by decide +kernel, rfl, by decide +kernel, by decide +kernel⟩
theorem B_number_in (M : Md K w mg) : Binds K M.d_number_in ["word", "least", "most"] [] := M.F_number_in.binds fun _ _ _ _ _ _ us hl => match us, hl with | [_, _, _], _ => rfl
def m_number_in : List PyData → Res PyData := runM b_number_in 5
theorem ok_number_in (M : Md K w mg) {k : Nat} : FnOk P w K mg base CX0 (k + 1) M.a_number_in M.d_number_in ["word", "least", "most"] (spM m_number_in 3 K) :=
  fn_pure (k := k) M.F_number_in S_number_in (fun cdv A outer s H E hr => (dss_cons (ds_if (dt_w (dw_or (dt_not (dt_chain op_leD op_leD gOrd_ok gOrd_ok de_int (de_callB call_len gLen_ok (by rfl) M.n_len boot_len (da_cons (de_var 0) da_nil)) (de_glob (v := .int (6)) (by rfl) M.c_MOST_DIGITS ⟨_, rfl⟩ (fun _ _ => .int _)))) (dw_or1 (dt_not (dt_val (de_callB (cr_all rfl) gBs_ok (by rfl) M.n_all boot_all (da_cons (de_new (df_lc [("sign", 4)] rfl S_number_in.nd (di_of (de_var 0)) (blkOk_by (by rfl)) (fun _ _ _ _ _ => (dg_name 4 S_number_in.nd)) (fun _ _ _ _ _ => dts_nil) (fun _ _ _ _ _ => (de_inA (h65 hr) (de_var 4) (de_glob (v := .str "0123456789") (by rfl) M.c_DIGITS ⟨_, rfl⟩ (fun _ _ => .str _ (by decide +kernel))))))) da_nil))))))) (dss_one (ds_ret de_non)) dss_nil)
    (dss_cons (ds_if (dt_w (dw_and (dt_cmp (op_eqA (h64 hr)) gEqA_ok (de_ixA (h1 hr) (de_var 0) de_int) de_str (nomark _)) (dw_and1 (dt_cmp (op_neA (h64 hr)) gNeA_ok (de_var 0) de_str (nomark _))))) (dss_one (ds_ret de_non)) dss_nil)
    (dss_cons (ds_set 3 (de_callTy call_intD gInt_ok (by rfl) M.n_int boot_int (da_cons (de_var 0) da_nil)) S_number_in.nd)
    (dss_one (ds_ret (de_if (dt_chain op_leD op_leD gOrd_ok gOrd_ok (de_var 1) (de_var 3) (de_var 2)) (de_var 3) de_non)))))))
/-! ### route_in -/
/- line 45 -/
def s_route_in_0 : Sn := sSet 1 (dLc (iOf (dOp gSplit (dVar 0) (dCst (.str ",")))) (gNm 2) tYesD (dApp (gN 3 m_number_in) (dCons (dVar 2) (dCons (dCst (.int (0))) (dCons (dOp gSub (dCst (.int (16))) (dCst (.int (1)))) dNil)))) [2])
/- line 46 -/
def s_route_in_1 : Sn := sRet (dIf (tOrD (EL.tB (dOp gInA (dCst .none) (dVar 1))) (EL.tB (dOp gGt (dApp (g1 gLen) (dCons (dVar 1) dNil)) (dCst (.int (16)))))) (dCst .none) (dApp (g1 gTupOf) (dCons (dVar 1) dNil)))
def b_route_in : Sn := (sSeq s_route_in_0
    s_route_in_1)
theorem S_route_in : FnScope ["word", "found", "part"] ["word"] (defScope (topS 23)) := ⟨rfl, rfl, rfl, by decide +kernel, rfl, by decide +kernel, by decide +kernel⟩
theorem B_route_in (M : Md K w mg) : Binds K M.d_route_in ["word"] [] := M.F_route_in.binds fun _ _ _ _ _ _ us hl => match us, hl with | [_], _ => rfl
def m_route_in : List PyData → Res PyData := runM b_route_in 3
theorem ok_route_in (M : Md K w mg) {k : Nat} : FnOk P w K mg base CX0 (k + 2) M.a_route_in M.d_route_in ["word"] (spM m_route_in 1 K) :=
  fn_pure (k := k + 1) M.F_route_in S_route_in (fun cdv A outer s H E hr => (dss_cons (ds_ofS (ps_lc 1 [("part", 2)] rfl S_route_in.nd (di_of (de_split (de_var 0) de_str)) (blkOk_by (by rfl)) (fun _ _ _ _ _ => (dg_name 2 S_route_in.nd)) (fun _ _ _ _ _ => dts_nil) (fun _ _ _ _ _ => (de_call (ok_number_in M (k := k)) (hr.mono (by omega)) (by rfl) M.g_number_in M.F_number_in.kp (B_number_in M) pass0 (da_cons (de_var 2) (da_cons de_int (da_cons (de_op op_sub gSub_ok (de_glob (v := .int (16)) (by rfl) M.c_MOST_FIBRES ⟨_, rfl⟩ (fun _ _ => .int _)) de_int) da_nil))))) (by rfl)))
    (dss_one (ds_ret (de_if (dt_w (dw_or (dt_inA (h65 hr) de_non (de_var 1)) (dw_or1 (dt_cmp op_gtD gOrd_ok (de_callB call_len gLen_ok (by rfl) M.n_len boot_len (da_cons (de_var 1) da_nil)) (de_glob (v := .int (16)) (by rfl) M.c_MOST_FIBRES ⟨_, rfl⟩ (fun _ _ => .int _)) (nomark _))))) de_non (de_callTy call_tuple_of gTupOf_ok (by rfl) M.n_tuple boot_tuple (da_cons (de_var 1) da_nil)))))))
/-! ### step_in -/
/- line 49 -/
def s_step_in_0 : Sn := sRet (dCst (.int (1)))
/- line 48 -/
def s_step_in_1 : Sn := sIf (EL.tB (dOp gEqA (dVar 0) (dCst (.str "up")))) s_step_in_0 sNext
/- line 50 -/
def s_step_in_2 : Sn := sRet (dIf (EL.tB (dOp gEqA (dVar 0) (dCst (.str "down")))) (dUn gNeg (dCst (.int (1)))) (dCst .none))
def b_step_in : Sn := (sSeq s_step_in_1
    s_step_in_2)
theorem S_step_in : FnScope ["word"] ["word"] (defScope (topS 24)) := ⟨rfl, rfl, rfl, by decide +kernel, rfl, by decide +kernel, by decide +kernel⟩
theorem B_step_in (M : Md K w mg) : Binds K M.d_step_in ["word"] [] := M.F_step_in.binds fun _ _ _ _ _ _ us hl => match us, hl with | [_], _ => rfl
def m_step_in : List PyData → Res PyData := runM b_step_in 1
theorem ok_step_in (M : Md K w mg) {k : Nat} : FnOk P w K mg base CX0 (k + 1) M.a_step_in M.d_step_in ["word"] (spM m_step_in 1 K) :=
  fn_pure (k := k) M.F_step_in S_step_in (fun cdv A outer s H E hr => (dss_cons (ds_if (dt_cmp (op_eqA (h64 hr)) gEqA_ok (de_var 0) (de_glob (v := .str "up") (by rfl) M.c_UP ⟨_, rfl⟩ (fun _ _ => .str _ (by decide +kernel))) (nomark _)) (dss_one (ds_ret de_int)) dss_nil)
    (dss_one (ds_ret (de_if (dt_cmp (op_eqA (h64 hr)) gEqA_ok (de_var 0) (de_glob (v := .str "down") (by rfl) M.c_DOWN ⟨_, rfl⟩ (fun _ _ => .str _ (by decide +kernel))) (nomark _)) (de_un un_neg gNeg_ok de_int) de_non)))))
/-! ### value_in -/
/- line 53 -/
def s_value_in_0 : Sn := sRet (dIf (EL.tB (dApp (gN 1 m_is_name) (dCons (dVar 1) dNil))) (dVar 1) (dCst .none))
/- line 52 -/
def s_value_in_1 : Sn := sIf (EL.tB (dOp gEqA (dVar 0) (dCst (.str "name")))) s_value_in_0 sNext
/- line 55 -/
def s_value_in_2 : Sn := sRet (dIf (EL.tB (dApp (gN 1 m_is_item) (dCons (dVar 1) dNil))) (dVar 1) (dCst .none))
/- line 54 -/
def s_value_in_3 : Sn := sIf (EL.tB (dOp gEqA (dVar 0) (dCst (.str "item")))) s_value_in_2 sNext
/- line 57 -/
def s_value_in_4 : Sn := sRet (dApp (gN 1 m_route_in) (dCons (dVar 1) dNil))
/- line 56 -/
def s_value_in_5 : Sn := sIf (EL.tB (dOp gEqA (dVar 0) (dCst (.str "route")))) s_value_in_4 sNext
/- line 59 -/
def s_value_in_6 : Sn := sRet (dApp (gN 1 m_step_in) (dCons (dVar 1) dNil))
/- line 58 -/
def s_value_in_7 : Sn := sIf (EL.tB (dOp gEqA (dVar 0) (dCst (.str "step")))) s_value_in_6 sNext
/- line 60 -/
def s_value_in_8 : Sn := sAsg (dUn (gIxK tb_BOUNDS) (dVar 0)) (gTp 2 (gCn (gNm 2) (gCn (gNm 3) gNl)))
/- line 61 -/
def s_value_in_9 : Sn := sRet (dApp (gN 3 m_number_in) (dCons (dVar 1) (dCons (dVar 2) (dCons (dVar 3) dNil))))
def b_value_in : Sn := (sSeq s_value_in_1
    (sSeq s_value_in_3
    (sSeq s_value_in_5
    (sSeq s_value_in_7
    (sSeq s_value_in_8
    s_value_in_9)))))
theorem S_value_in : FnScope ["kind", "word", "least", "most"] ["kind", "word"] (defScope (topS 25)) := ⟨rfl, rfl, rfl, by decide +kernel, rfl, by decide +kernel, by decide +kernel⟩
theorem B_value_in (M : Md K w mg) : Binds K M.d_value_in ["kind", "word"] [] := M.F_value_in.binds fun _ _ _ _ _ _ us hl => match us, hl with | [_, _], _ => rfl
def m_value_in : List PyData → Res PyData := runM b_value_in 4
theorem ok_value_in (M : Md K w mg) {k : Nat} : FnOk P w K mg base CX0 (k + 4) M.a_value_in M.d_value_in ["kind", "word"] (spM m_value_in 2 K) :=
  fn_pure (k := k + 3) M.F_value_in S_value_in (fun cdv A outer s H E hr => (dss_cons (ds_if (dt_cmp (op_eqA (h64 hr)) gEqA_ok (de_var 0) de_str (nomark _)) (dss_one (ds_ret (de_if (dt_val (de_call (ok_is_name M (k := k + 2)) (hr.mono (by omega)) (by rfl) M.g_is_name M.F_is_name.kp (B_is_name M) pass0 (da_cons (de_var 1) da_nil))) (de_var 1) de_non))) dss_nil)
    (dss_cons (ds_if (dt_cmp (op_eqA (h64 hr)) gEqA_ok (de_var 0) de_str (nomark _)) (dss_one (ds_ret (de_if (dt_val (de_call (ok_is_item M (k := k)) (hr.mono (by omega)) (by rfl) M.g_is_item M.F_is_item.kp (B_is_item M) pass0 (da_cons (de_var 1) da_nil))) (de_var 1) de_non))) dss_nil)
    (dss_cons (ds_if (dt_cmp (op_eqA (h64 hr)) gEqA_ok (de_var 0) de_str (nomark _)) (dss_one (ds_ret (de_call (ok_route_in M (k := k + 1)) (hr.mono (by omega)) (by rfl) M.g_route_in M.F_route_in.kp (B_route_in M) pass0 (da_cons (de_var 1) da_nil)))) dss_nil)
    (dss_cons (ds_if (dt_cmp (op_eqA (h64 hr)) gEqA_ok (de_var 0) de_str (nomark _)) (dss_one (ds_ret (de_call (ok_step_in M (k := k + 2)) (hr.mono (by omega)) (by rfl) M.g_step_in M.F_step_in.kp (B_step_in M) pass0 (da_cons (de_var 1) da_nil)))) dss_nil)
    (dss_cons (ds_asg (vs := [2, 3]) (de_ixK M.D_BOUNDS (by rfl) M.g_BOUNDS (de_var 0)) (dg_tup rfl (dgs_cons (dg_name 2 S_value_in.nd) (dgs_cons (dg_name 3 S_value_in.nd) dgs_nil))))
    (dss_one (ds_ret (de_call (ok_number_in M (k := k + 2)) (hr.mono (by omega)) (by rfl) M.g_number_in M.F_number_in.kp (B_number_in M) pass0 (da_cons (de_var 1) (da_cons (de_var 2) (da_cons (de_var 3) da_nil))))))))))))
/-! ### values_in -/
/- line 63 -/
def s_values_in_0 : Sn := sSetO 3 (dApp gLst dNil)
/- line 66 -/
def s_values_in_1 : Sn := sNever
/- line 65 -/
def s_values_in_2 : Sn := sIf (EL.tB (dOp gEqA (dOp gAdd (dVar 4) (dCst (.int (1)))) (dApp (g1 gLen) (dCons (dVar 1) dNil)))) s_values_in_1 sNext
/- line 67 -/
def s_values_in_3 : Sn := sSet 6 (dApp (gN 2 m_value_in) (dCons (dVar 5) (dCons (dOp gIxA (dVar 1) (dOp gAdd (dVar 4) (dCst (.int (1))))) dNil)))
/- line 69 -/
def s_values_in_4 : Sn := sNever
/- line 68 -/
def s_values_in_5 : Sn := sIf (EL.tB (dOp gIsN (dVar 6) (dCst .none))) s_values_in_4 sNext
/- line 70 -/
def s_values_in_6 : Sn := sApp 3 (dVar 6)
/- line 64 -/
def s_values_in_7 : Sn := sFor (iRange gEnum (dCons (dVar 0) dNil)) (gTp 2 (gCn (gNm 4) (gCn (gNm 5) gNl))) (sSeq s_values_in_2
    (sSeq s_values_in_3
    (sSeq s_values_in_5
    s_values_in_6)))
/- line 72 -/
def s_values_in_8 : Sn := sNever
/- line 71 -/
def s_values_in_9 : Sn := sIf (EL.tB (dOp gGt (dApp (g1 gLen) (dCons (dVar 1) dNil)) (dOp gAdd (dApp (g1 gLen) (dCons (dVar 0) dNil)) (dCst (.int (1)))))) s_values_in_8 sNext
/- line 73 -/
def s_values_in_10 : Sn := sRet (dVar 3)
def b_values_in : Sn := (sSeq s_values_in_0
    (sSeq s_values_in_7
    (sFrz 3 (sSeq s_values_in_9
    s_values_in_10))))
theorem S_values_in : FnScope ["form", "words", "line", "found", "at", "kind", "value"] ["form", "words", "line"] (defScope (topS 26)) := ⟨rfl, rfl, rfl, by decide +kernel, rfl, by decide +kernel, by decide +kernel⟩
theorem B_values_in (M : Md K w mg) : Binds K M.d_values_in ["form", "words", "line"] [] := M.F_values_in.binds fun _ _ _ _ _ _ us hl => match us, hl with | [_, _, _], _ => rfl
def m_values_in : List PyData → Res PyData := runM b_values_in 7
theorem ok_values_in (M : Md K w mg) {k : Nat} : FnOk P w K mg base CX0 (k + 5) M.a_values_in M.d_values_in ["form", "words", "line"] (spM m_values_in 3 K) :=
  fn_pure (k := k + 4) M.F_values_in S_values_in (fun cdv A outer s H E hr => (dss_cons (ds_setO 3 (df_lst da_nil) S_values_in.nd)
    (dss_cons (ds_for (vs := [4, 5]) PassesOwn.never rfl (di_enum (by rfl) M.n_enumerate (da_cons (de_var 0) da_nil)) (dg_tup rfl (dgs_cons (dg_name 4 S_values_in.nd) (dgs_cons (dg_name 5 S_values_in.nd) dgs_nil))) (dss_cons (ds_if (dt_cmp (op_eqA (h64 hr)) gEqA_ok (de_op op_addD gAdd_ok (de_var 4) de_int) (de_callB call_len gLen_ok (by rfl) M.n_len boot_len (da_cons (de_var 1) da_nil)) (nomark _)) (dss_one ds_never) dss_nil)
    (dss_cons (ds_set 6 (de_call (ok_value_in M (k := k)) (hr.mono (by omega)) (by rfl) M.g_value_in M.F_value_in.kp (B_value_in M) pass0 (da_cons (de_var 5) (da_cons (de_ixA (h1 hr) (de_var 1) (de_op op_addD gAdd_ok (de_var 4) de_int)) da_nil))) S_values_in.nd)
    (dss_cons (ds_if (dt_cmp op_isN gIsN_ok (de_var 6) de_non (nomark _)) (dss_one ds_never) dss_nil)
    (dss_one (ds_append 3 (de_var 6)))))))
    (dss_frz 3 (dss_cons (ds_if (dt_cmp op_gtD gOrd_ok (de_callB call_len gLen_ok (by rfl) M.n_len boot_len (da_cons (de_var 1) da_nil)) (de_op op_addD gAdd_ok (de_callB call_len gLen_ok (by rfl) M.n_len boot_len (da_cons (de_var 0) da_nil)) de_int) (nomark _)) (dss_one ds_never) dss_nil)
    (dss_one (ds_ret (de_var 3))))))))
/-! ### lines_of -/
/- line 76 -/
def s_lines_of_0 : Sn := sNever
/- line 75 -/
def s_lines_of_1 : Sn := sIf (tOrD (tNotD (EL.tB (dUn (gIsi .str) (dVar 0)))) (EL.tB (dOp gEqA (dVar 0) (dCst (.str ""))))) s_lines_of_0 sNext
/- line 77 -/
def s_lines_of_2 : Sn := sRet (dOp gSplit (dVar 0) (dCst (.str "\n")))
def b_lines_of : Sn := (sSeq s_lines_of_1
    s_lines_of_2)
theorem S_lines_of : FnScope ["text"] ["text"] (defScope (topS 27)) := ⟨rfl, rfl, rfl, by decide +kernel, rfl, by decide +kernel, by decide +kernel⟩
theorem B_lines_of (M : Md K w mg) : Binds K M.d_lines_of ["text"] [] := M.F_lines_of.binds fun _ _ _ _ _ _ us hl => match us, hl with | [_], _ => rfl
def m_lines_of : List PyData → Res PyData := runM b_lines_of 1
theorem ok_lines_of (M : Md K w mg) {k : Nat} : FnOk P w K mg base CX0 (k + 1) M.a_lines_of M.d_lines_of ["text"] (spM m_lines_of 1 K) :=
  fn_pure (k := k) M.F_lines_of S_lines_of (fun cdv A outer s H E hr => (dss_cons (ds_if (dt_w (dw_or (dt_not (dt_val (de_isi .str (by rfl) M.n_isinstance (by rfl) M.n_str boot_str (de_var 0)))) (dw_or1 (dt_cmp (op_eqA (h64 hr)) gEqA_ok (de_var 0) de_str (nomark _))))) (dss_one ds_never) dss_nil)
    (dss_one (ds_ret (de_split (de_var 0) de_str)))))
/-! ### move_in -/
/- line 79 -/
def s_move_in_0 : Sn := sSet 2 (dOp gSplit (dVar 0) (dCst (.str " ")))
/- line 81 -/
def s_move_in_1 : Sn := sNever
/- line 80 -/
def s_move_in_2 : Sn := sIf (EL.tB (dUn (gNotInK tb_MOVE_FORMS) (dOp gIxA (dVar 2) (dCst (.int (0)))))) s_move_in_1 sNext
/- line 82 -/
def s_move_in_3 : Sn := sRet (dApp gTup (dCons (dOp gIxA (dVar 2) (dCst (.int (0)))) (dStar (dApp (gN 3 m_values_in) (dCons (dUn (gIxK tb_MOVE_FORMS) (dOp gIxA (dVar 2) (dCst (.int (0))))) (dCons (dVar 2) (dCons (dVar 1) dNil)))) dNil)))
def b_move_in : Sn := (sSeq s_move_in_0
    (sSeq s_move_in_2
    s_move_in_3))
theorem S_move_in : FnScope ["row", "line", "words"] ["row", "line"] (defScope (topS 28)) := ⟨rfl, rfl, rfl, by decide +kernel, rfl, by decide +kernel, by decide +kernel⟩
theorem B_move_in (M : Md K w mg) : Binds K M.d_move_in ["row", "line"] [] := M.F_move_in.binds fun _ _ _ _ _ _ us hl => match us, hl with | [_, _], _ => rfl
def m_move_in : List PyData → Res PyData := runM b_move_in 3
theorem ok_move_in (M : Md K w mg) {k : Nat} : FnOk P w K mg base CX0 (k + 6) M.a_move_in M.d_move_in ["row", "line"] (spM m_move_in 2 K) :=
  fn_pure (k := k + 5) M.F_move_in S_move_in (fun cdv A outer s H E hr => (dss_cons (ds_set 2 (de_split (de_var 0) de_str) S_move_in.nd)
    (dss_cons (ds_if (dt_notInK M.D_MOVE_FORMS (by rfl) M.g_MOVE_FORMS (de_ixA (h1 hr) (de_var 2) de_int)) (dss_one ds_never) dss_nil)
    (dss_one (ds_ret (de_tup (da_cons (de_ixA (h1 hr) (de_var 2) de_int) (da_star (de_call (ok_values_in M (k := k)) (hr.mono (by omega)) (by rfl) M.g_values_in M.F_values_in.kp (B_values_in M) pass0 (da_cons (de_ixK M.D_MOVE_FORMS (by rfl) M.g_MOVE_FORMS (de_ixA (h1 hr) (de_var 2) de_int)) (da_cons (de_var 2) (da_cons (de_var 1) da_nil)))) da_nil))))))))
/-! ### route_word -/
/- line 84 -/
def s_route_word_0 : Sn := sRet (dOp gJoin (dCst (.str ",")) (dLc (iOf (dVar 0)) (gNm 1) tYesD (dApp (g1 gStr) (dCons (dVar 1) dNil)) [1]))
def b_route_word : Sn := s_route_word_0
theorem S_route_word : FnScope ["route", "number"] ["route"] (defScope (topS 29)) := ⟨rfl, rfl, rfl, by decide +kernel, rfl, by decide +kernel, by decide +kernel⟩
theorem B_route_word (M : Md K w mg) : Binds K M.d_route_word ["route"] [] := M.F_route_word.binds fun _ _ _ _ _ _ us hl => match us, hl with | [_], _ => rfl
def m_route_word : List PyData → Res PyData := runM b_route_word 2
theorem ok_route_word (M : Md K w mg) {k : Nat} : FnOk P w K mg base CX0 (k + 1) M.a_route_word M.d_route_word ["route"] (spM m_route_word 1 K) :=
  fn_pure (k := k) M.F_route_word S_route_word (fun cdv A outer s H E hr => (dss_one (ds_ret (de_join de_str (de_new (df_lc [("number", 1)] rfl S_route_word.nd (di_of (de_var 0)) (blkOk_by (by rfl)) (fun _ _ _ _ _ => (dg_name 1 S_route_word.nd)) (fun _ _ _ _ _ => dts_nil) (fun _ _ _ _ _ => (de_callTy call_strD gStr_ok (by rfl) M.n_str boot_str (da_cons (de_var 1) da_nil)))))))))
/-! ### part_word -/
/- line 87 -/
def s_part_word_0 : Sn := sRet (dApp (gN 1 m_route_word) (dCons (dVar 1) dNil))
/- line 86 -/
def s_part_word_1 : Sn := sIf (EL.tB (dOp gEqA (dVar 0) (dCst (.str "route")))) s_part_word_0 sNext
/- line 89 -/
def s_part_word_2 : Sn := sRet (dIf (EL.tB (dOp gEqA (dVar 1) (dCst (.int (1))))) (dCst (.str "up")) (dCst (.str "down")))
/- line 88 -/
def s_part_word_3 : Sn := sIf (EL.tB (dOp gEqA (dVar 0) (dCst (.str "step")))) s_part_word_2 sNext
/- line 90 -/
def s_part_word_4 : Sn := sRet (dApp (g1 gStr) (dCons (dVar 1) dNil))
def b_part_word : Sn := (sSeq s_part_word_1
    (sSeq s_part_word_3
    s_part_word_4))
theorem S_part_word : FnScope ["kind", "part"] ["kind", "part"] (defScope (topS 30)) := ⟨rfl, rfl, rfl, by decide +kernel, rfl, by decide +kernel, by decide +kernel⟩
theorem B_part_word (M : Md K w mg) : Binds K M.d_part_word ["kind", "part"] [] := M.F_part_word.binds fun _ _ _ _ _ _ us hl => match us, hl with | [_, _], _ => rfl
def m_part_word : List PyData → Res PyData := runM b_part_word 2
theorem ok_part_word (M : Md K w mg) {k : Nat} : FnOk P w K mg base CX0 (k + 2) M.a_part_word M.d_part_word ["kind", "part"] (spM m_part_word 2 K) :=
  fn_pure (k := k + 1) M.F_part_word S_part_word (fun cdv A outer s H E hr => (dss_cons (ds_if (dt_cmp (op_eqA (h64 hr)) gEqA_ok (de_var 0) de_str (nomark _)) (dss_one (ds_ret (de_call (ok_route_word M (k := k)) (hr.mono (by omega)) (by rfl) M.g_route_word M.F_route_word.kp (B_route_word M) pass0 (da_cons (de_var 1) da_nil)))) dss_nil)
    (dss_cons (ds_if (dt_cmp (op_eqA (h64 hr)) gEqA_ok (de_var 0) de_str (nomark _)) (dss_one (ds_ret (de_if (dt_cmp (op_eqA (h64 hr)) gEqA_ok (de_var 1) de_int (nomark _)) (de_glob (v := .str "up") (by rfl) M.c_UP ⟨_, rfl⟩ (fun _ _ => .str _ (by decide +kernel))) (de_glob (v := .str "down") (by rfl) M.c_DOWN ⟨_, rfl⟩ (fun _ _ => .str _ (by decide +kernel)))))) dss_nil)
    (dss_one (ds_ret (de_callTy call_strD gStr_ok (by rfl) M.n_str boot_str (da_cons (de_var 1) da_nil)))))))
/-! ### move_line -/
/- line 92 -/
def s_move_line_0 : Sn := sSet 1 (dLc (iRange gZip (dCons (dUn (gIxK tb_MOVE_FORMS) (dOp gIxA (dVar 0) (dCst (.int (0))))) (dCons (dSlice gSl (dVar 0) (eS (dCst (.int (1)))) eN) dNil))) (gTp 2 (gCn (gNm 2) (gCn (gNm 3) gNl))) tYesD (dApp (gN 2 m_part_word) (dCons (dVar 2) (dCons (dVar 3) dNil))) [2, 3])
/- line 93 -/
def s_move_line_1 : Sn := sRet (dOp gJoin (dCst (.str " ")) (dOp gAdd (dApp gLst (dCons (dOp gIxA (dVar 0) (dCst (.int (0)))) dNil)) (dVar 1)))
def b_move_line : Sn := (sSeq s_move_line_0
    s_move_line_1)
theorem S_move_line : FnScope ["move", "parts", "kind", "part"] ["move"] (defScope (topS 31)) := ⟨rfl, rfl, rfl, by decide +kernel, rfl, by decide +kernel, by decide +kernel⟩
theorem B_move_line (M : Md K w mg) : Binds K M.d_move_line ["move"] [] := M.F_move_line.binds fun _ _ _ _ _ _ us hl => match us, hl with | [_], _ => rfl
def m_move_line : List PyData → Res PyData := runM b_move_line 4
theorem ok_move_line (M : Md K w mg) {k : Nat} : FnOk P w K mg base CX0 (k + 3) M.a_move_line M.d_move_line ["move"] (spM m_move_line 1 K) :=
  fn_pure (k := k + 2) M.F_move_line S_move_line (fun cdv A outer s H E hr => (dss_cons (ds_ofS (ps_lc 1 [("kind", 2), ("part", 3)] rfl S_move_line.nd (di_zip (by rfl) M.n_zip (da_cons (de_ixK M.D_MOVE_FORMS (by rfl) M.g_MOVE_FORMS (de_ixA (h1 hr) (de_var 0) de_int)) (da_cons (de_slice sl_D gSl_ok (de_var 0) (do_some de_int) do_none) da_nil))) (blkOk_by (by rfl)) (fun _ _ _ _ _ => (dg_tup rfl (dgs_cons (dg_name 2 S_move_line.nd) (dgs_cons (dg_name 3 S_move_line.nd) dgs_nil)))) (fun _ _ _ _ _ => dts_nil) (fun _ _ _ _ _ => (de_call (ok_part_word M (k := k)) (hr.mono (by omega)) (by rfl) M.g_part_word M.F_part_word.kp (B_part_word M) pass0 (da_cons (de_var 2) (da_cons (de_var 3) da_nil)))) (by rfl)))
    (dss_one (ds_ret (de_join de_str (de_op op_addD gAdd_ok (de_lst (da_cons (de_ixA (h1 hr) (de_var 0) de_int) da_nil)) (de_var 1)))))))
/-! ### move_text -/
/- line 96 -/
def s_move_text_0 : Sn := sRet (dApp (gN 1 m_move_line) (dCons (dVar 0) dNil))
def b_move_text : Sn := s_move_text_0
theorem S_move_text : FnScope ["move"] ["move"] (defScope (topS 33)) := ⟨rfl, rfl, rfl, by decide +kernel, rfl, by decide +kernel, by decide +kernel⟩
theorem B_move_text (M : Md K w mg) : Binds K M.d_move_text ["move"] [] := M.F_move_text.binds fun _ _ _ _ _ _ us hl => match us, hl with | [_], _ => rfl
theorem K_move_text (M : Md K w mg) : ∀ (s : Shared) (ws : List Value), ws.length = 1 → BindsTo s M.d_move_text ⟨[], List.zip ["move"] ws⟩ (List.zip ["move"] ws) := bindsK (ps := ["move"]) M.F_move_text fun _ _ _ _ _ _ us hl => match us, hl with | [_], _ => rfl
def m_move_text : List PyData → Res PyData := runM b_move_text 1
theorem ok_move_text (M : Md K w mg) {k : Nat} : FnOk P w K mg base CX0 (k + 4) M.a_move_text M.d_move_text ["move"] (spM m_move_text 1 K) :=
  fn_pure (k := k + 3) M.F_move_text S_move_text (fun cdv A outer s H E hr => (dss_one (ds_ret (de_call (ok_move_line M (k := k)) (hr.mono (by omega)) (by rfl) M.g_move_line M.F_move_line.kp (B_move_line M) pass0 (da_cons (de_var 0) da_nil)))))
/-! ### plan_text -/
/- line 98 -/
def s_plan_text_0 : Sn := sRet (dOp gJoin (dCst (.str "\n")) (dLc (iOf (dVar 0)) (gNm 1) tYesD (dApp (gN 1 m_move_line) (dCons (dVar 1) dNil)) [1]))
def b_plan_text : Sn := s_plan_text_0
theorem S_plan_text : FnScope ["moves", "move"] ["moves"] (defScope (topS 34)) := ⟨rfl, rfl, rfl, by decide +kernel, rfl, by decide +kernel, by decide +kernel⟩
theorem B_plan_text (M : Md K w mg) : Binds K M.d_plan_text ["moves"] [] := M.F_plan_text.binds fun _ _ _ _ _ _ us hl => match us, hl with | [_], _ => rfl
theorem K_plan_text (M : Md K w mg) : ∀ (s : Shared) (ws : List Value), ws.length = 1 → BindsTo s M.d_plan_text ⟨[], List.zip ["moves"] ws⟩ (List.zip ["moves"] ws) := bindsK (ps := ["moves"]) M.F_plan_text fun _ _ _ _ _ _ us hl => match us, hl with | [_], _ => rfl
def m_plan_text : List PyData → Res PyData := runM b_plan_text 2
theorem ok_plan_text (M : Md K w mg) {k : Nat} : FnOk P w K mg base CX0 (k + 4) M.a_plan_text M.d_plan_text ["moves"] (spM m_plan_text 1 K) :=
  fn_pure (k := k + 3) M.F_plan_text S_plan_text (fun cdv A outer s H E hr => (dss_one (ds_ret (de_join de_str (de_new (df_lc [("move", 1)] rfl S_plan_text.nd (di_of (de_var 0)) (blkOk_by (by rfl)) (fun _ _ _ _ _ => (dg_name 1 S_plan_text.nd)) (fun _ _ _ _ _ => dts_nil) (fun _ _ _ _ _ => (de_call (ok_move_line M (k := k)) (hr.mono (by omega)) (by rfl) M.g_move_line M.F_move_line.kp (B_move_line M) pass0 (da_cons (de_var 1) da_nil)))))))))
/-! ### is_route_form -/
/- line 106 -/
def s_is_route_form_0 : Sn := sRet (dCst (.bool false))
/- line 105 -/
def s_is_route_form_1 : Sn := sIf (tOrD (tNotD (EL.tB (dUn (gIsi .tuple) (dVar 0)))) (tNotD (EL.tB (dChain gLe gLe (dCst (.int (1))) (dApp (g1 gLen) (dCons (dVar 0) dNil)) (dCst (.int (16))))))) s_is_route_form_0 sNext
/- line 107 -/
def s_is_route_form_2 : Sn := sRet (dApp (g1 gAll) (dCons (dLc (iOf (dVar 0)) (gNm 1) tYesD (dApp (gN 3 m_is_between) (dCons (dVar 1) (dCons (dCst (.int (0))) (dCons (dCst (.int (15))) dNil)))) [1]) dNil))
def b_is_route_form : Sn := (sSeq s_is_route_form_1
    s_is_route_form_2)
theorem S_is_route_form : FnScope ["value", "part"] ["value"] (defScope (topS 40)) := ⟨rfl, rfl, rfl, by decide +kernel, rfl, by decide +kernel, by decide +kernel⟩
theorem B_is_route_form (M : Md K w mg) : Binds K M.d_is_route_form ["value"] [] := M.F_is_route_form.binds fun _ _ _ _ _ _ us hl => match us, hl with | [_], _ => rfl
def m_is_route_form : List PyData → Res PyData := runM b_is_route_form 2
theorem ok_is_route_form (M : Md K w mg) {k : Nat} : FnOk P w K mg base CX0 (k + 2) M.a_is_route_form M.d_is_route_form ["value"] (spM m_is_route_form 1 K) :=
  fn_pure (k := k + 1) M.F_is_route_form S_is_route_form (fun cdv A outer s H E hr => (dss_cons (ds_if (dt_w (dw_or (dt_not (dt_val (de_isi .tuple (by rfl) M.n_isinstance (by rfl) M.n_tuple boot_tuple (de_var 0)))) (dw_or1 (dt_not (dt_chain op_leD op_leD gOrd_ok gOrd_ok de_int (de_callB call_len gLen_ok (by rfl) M.n_len boot_len (da_cons (de_var 0) da_nil)) (de_glob (v := .int (16)) (by rfl) M.c_MOST_PARTS ⟨_, rfl⟩ (fun _ _ => .int _))))))) (dss_one (ds_ret de_bl)) dss_nil)
    (dss_one (ds_ret (de_callB (cr_all rfl) gBs_ok (by rfl) M.n_all boot_all (da_cons (de_new (df_lc [("part", 1)] rfl S_is_route_form.nd (di_of (de_var 0)) (blkOk_by (by rfl)) (fun _ _ _ _ _ => (dg_name 1 S_is_route_form.nd)) (fun _ _ _ _ _ => dts_nil) (fun _ _ _ _ _ => (de_call (ok_is_between M (k := k)) (hr.mono (by omega)) (by rfl) M.g_is_between M.F_is_between.kp (B_is_between M) pass0 (da_cons (de_var 1) (da_cons de_int (da_cons (de_glob (v := .int (15)) (by rfl) M.c_MOST_FIBRE ⟨_, rfl⟩ (fun _ _ => .int _)) da_nil))))))) da_nil))))))
/-! ### is_part -/
/- line 110 -/
def s_is_part_0 : Sn := sRet (dApp (gN 1 m_is_name) (dCons (dVar 1) dNil))
/- line 109 -/
def s_is_part_1 : Sn := sIf (EL.tB (dOp gEqA (dVar 0) (dCst (.str "name")))) s_is_part_0 sNext
/- line 112 -/
def s_is_part_2 : Sn := sRet (dApp (gN 1 m_is_item) (dCons (dVar 1) dNil))
/- line 111 -/
def s_is_part_3 : Sn := sIf (EL.tB (dOp gEqA (dVar 0) (dCst (.str "item")))) s_is_part_2 sNext
/- line 114 -/
def s_is_part_4 : Sn := sRet (dApp (gN 1 m_is_route_form) (dCons (dVar 1) dNil))
/- line 113 -/
def s_is_part_5 : Sn := sIf (EL.tB (dOp gEqA (dVar 0) (dCst (.str "route")))) s_is_part_4 sNext
/- line 116 -/
def s_is_part_6 : Sn := sRet (dAnd (dApp (gN 3 m_is_between) (dCons (dVar 1) (dCons (dUn gNeg (dCst (.int (1)))) (dCons (dCst (.int (1))) dNil)))) (dOp gNeA (dVar 1) (dCst (.int (0)))))
/- line 115 -/
def s_is_part_7 : Sn := sIf (EL.tB (dOp gEqA (dVar 0) (dCst (.str "step")))) s_is_part_6 sNext
/- line 117 -/
def s_is_part_8 : Sn := sRet (dIf (EL.tB (dOp gEqA (dVar 0) (dCst (.str "rate")))) (dApp (gN 3 m_is_between) (dCons (dVar 1) (dCons (dCst (.int (1))) (dCons (dCst (.int (16))) dNil)))) (dApp (gN 3 m_is_between) (dCons (dVar 1) (dCons (dCst (.int (0))) (dCons (dCst (.int (63))) dNil)))))
def b_is_part : Sn := (sSeq s_is_part_1
    (sSeq s_is_part_3
    (sSeq s_is_part_5
    (sSeq s_is_part_7
    s_is_part_8))))
theorem S_is_part : FnScope ["kind", "value"] ["kind", "value"] (defScope (topS 41)) := ⟨rfl, rfl, rfl, by decide +kernel, rfl, by decide +kernel, by decide +kernel⟩
theorem B_is_part (M : Md K w mg) : Binds K M.d_is_part ["kind", "value"] [] := M.F_is_part.binds fun _ _ _ _ _ _ us hl => match us, hl with | [_, _], _ => rfl
def m_is_part : List PyData → Res PyData := runM b_is_part 2
theorem ok_is_part (M : Md K w mg) {k : Nat} : FnOk P w K mg base CX0 (k + 4) M.a_is_part M.d_is_part ["kind", "value"] (spM m_is_part 2 K) :=
  fn_pure (k := k + 3) M.F_is_part S_is_part (fun cdv A outer s H E hr => (dss_cons (ds_if (dt_cmp (op_eqA (h64 hr)) gEqA_ok (de_var 0) de_str (nomark _)) (dss_one (ds_ret (de_call (ok_is_name M (k := k + 2)) (hr.mono (by omega)) (by rfl) M.g_is_name M.F_is_name.kp (B_is_name M) pass0 (da_cons (de_var 1) da_nil)))) dss_nil)
    (dss_cons (ds_if (dt_cmp (op_eqA (h64 hr)) gEqA_ok (de_var 0) de_str (nomark _)) (dss_one (ds_ret (de_call (ok_is_item M (k := k)) (hr.mono (by omega)) (by rfl) M.g_is_item M.F_is_item.kp (B_is_item M) pass0 (da_cons (de_var 1) da_nil)))) dss_nil)
    (dss_cons (ds_if (dt_cmp (op_eqA (h64 hr)) gEqA_ok (de_var 0) de_str (nomark _)) (dss_one (ds_ret (de_call (ok_is_route_form M (k := k + 1)) (hr.mono (by omega)) (by rfl) M.g_is_route_form M.F_is_route_form.kp (B_is_route_form M) pass0 (da_cons (de_var 1) da_nil)))) dss_nil)
    (dss_cons (ds_if (dt_cmp (op_eqA (h64 hr)) gEqA_ok (de_var 0) de_str (nomark _)) (dss_one (ds_ret (de_and (de_call (ok_is_between M (k := k + 2)) (hr.mono (by omega)) (by rfl) M.g_is_between M.F_is_between.kp (B_is_between M) pass0 (da_cons (de_var 1) (da_cons (de_un un_neg gNeg_ok de_int) (da_cons de_int da_nil)))) (de_one (de_cmp (op_neA (h64 hr)) gNeA_ok (de_var 1) de_int (nomark _)))))) dss_nil)
    (dss_one (ds_ret (de_if (dt_cmp (op_eqA (h64 hr)) gEqA_ok (de_var 0) de_str (nomark _)) (de_call (ok_is_between M (k := k + 2)) (hr.mono (by omega)) (by rfl) M.g_is_between M.F_is_between.kp (B_is_between M) pass0 (da_cons (de_var 1) (da_cons de_int (da_cons (de_glob (v := .int (16)) (by rfl) M.c_MOST_RATE ⟨_, rfl⟩ (fun _ _ => .int _)) da_nil)))) (de_call (ok_is_between M (k := k + 2)) (hr.mono (by omega)) (by rfl) M.g_is_between M.F_is_between.kp (B_is_between M) pass0 (da_cons (de_var 1) (da_cons de_int (da_cons (de_glob (v := .int (63)) (by rfl) M.c_MOST_PLACE ⟨_, rfl⟩ (fun _ _ => .int _)) da_nil))))))))))))
/-! ### is_move -/
/- line 120 -/
def s_is_move_0 : Sn := sRet (dCst (.bool false))
/- line 119 -/
def s_is_move_1 : Sn := sIf (tOrD (tNotD (EL.tB (dUn (gIsi .tuple) (dVar 0)))) (tOrD (EL.tB (dOp gLt (dApp (g1 gLen) (dCons (dVar 0) dNil)) (dCst (.int (2))))) (tOrD (tNotD (EL.tB (dUn (gIsi .str) (dOp gIxA (dVar 0) (dCst (.int (0))))))) (EL.tB (dUn (gNotInK tb_MOVE_FORMS) (dOp gIxA (dVar 0) (dCst (.int (0))))))))) s_is_move_0 sNext
/- line 121 -/
def s_is_move_2 : Sn := sSet 1 (dUn (gIxK tb_MOVE_FORMS) (dOp gIxA (dVar 0) (dCst (.int (0)))))
/- line 122 -/
def s_is_move_3 : Sn := sRet (dAnd (dOp gEqA (dApp (g1 gLen) (dCons (dVar 0) dNil)) (dOp gAdd (dApp (g1 gLen) (dCons (dVar 1) dNil)) (dCst (.int (1))))) (dApp (g1 gAll) (dCons (dLc (iRange gZip (dCons (dVar 1) (dCons (dSlice gSl (dVar 0) (eS (dCst (.int (1)))) eN) dNil))) (gTp 2 (gCn (gNm 2) (gCn (gNm 3) gNl))) tYesD (dApp (gN 2 m_is_part) (dCons (dVar 2) (dCons (dVar 3) dNil))) [2, 3]) dNil)))
def b_is_move : Sn := (sSeq s_is_move_1
    (sSeq s_is_move_2
    s_is_move_3))
theorem S_is_move : FnScope ["value", "form", "kind", "part"] ["value"] (defScope (topS 42)) := ⟨rfl, rfl, rfl, by decide +kernel, rfl, by decide +kernel, by decide +kernel⟩
theorem B_is_move (M : Md K w mg) : Binds K M.d_is_move ["value"] [] := M.F_is_move.binds fun _ _ _ _ _ _ us hl => match us, hl with | [_], _ => rfl
def m_is_move : List PyData → Res PyData := runM b_is_move 4
theorem ok_is_move (M : Md K w mg) {k : Nat} : FnOk P w K mg base CX0 (k + 5) M.a_is_move M.d_is_move ["value"] (spM m_is_move 1 K) :=
  fn_pure (k := k + 4) M.F_is_move S_is_move (fun cdv A outer s H E hr => (dss_cons (ds_if (dt_w (dw_or (dt_not (dt_val (de_isi .tuple (by rfl) M.n_isinstance (by rfl) M.n_tuple boot_tuple (de_var 0)))) (dw_or (dt_cmp op_ltD gOrd_ok (de_callB call_len gLen_ok (by rfl) M.n_len boot_len (da_cons (de_var 0) da_nil)) de_int (nomark _)) (dw_or (dt_not (dt_val (de_isi .str (by rfl) M.n_isinstance (by rfl) M.n_str boot_str (de_ixA (h1 hr) (de_var 0) de_int)))) (dw_or1 (dt_notInK M.D_MOVE_FORMS (by rfl) M.g_MOVE_FORMS (de_ixA (h1 hr) (de_var 0) de_int))))))) (dss_one (ds_ret de_bl)) dss_nil)
    (dss_cons (ds_set 1 (de_ixK M.D_MOVE_FORMS (by rfl) M.g_MOVE_FORMS (de_ixA (h1 hr) (de_var 0) de_int)) S_is_move.nd)
    (dss_one (ds_ret (de_and (de_cmp (op_eqA (h64 hr)) gEqA_ok (de_callB call_len gLen_ok (by rfl) M.n_len boot_len (da_cons (de_var 0) da_nil)) (de_op op_addD gAdd_ok (de_callB call_len gLen_ok (by rfl) M.n_len boot_len (da_cons (de_var 1) da_nil)) de_int) (nomark _)) (de_one (de_callB (cr_all rfl) gBs_ok (by rfl) M.n_all boot_all (da_cons (de_new (df_lc [("kind", 2), ("part", 3)] rfl S_is_move.nd (di_zip (by rfl) M.n_zip (da_cons (de_var 1) (da_cons (de_slice sl_D gSl_ok (de_var 0) (do_some de_int) do_none) da_nil))) (blkOk_by (by rfl)) (fun _ _ _ _ _ => (dg_tup rfl (dgs_cons (dg_name 2 S_is_move.nd) (dgs_cons (dg_name 3 S_is_move.nd) dgs_nil)))) (fun _ _ _ _ _ => dts_nil) (fun _ _ _ _ _ => (de_call (ok_is_part M (k := k)) (hr.mono (by omega)) (by rfl) M.g_is_part M.F_is_part.kp (B_is_part M) pass0 (da_cons (de_var 2) (da_cons (de_var 3) da_nil)))))) da_nil)))))))))
/-! ### read_move -/
/- line 126 -/
def s_read_move_0 : Sn := sNever
/- line 125 -/
def s_read_move_1 : Sn := sIf (tNotD (EL.tB (dUn (gIsi .str) (dVar 0)))) s_read_move_0 sNext
/- line 127 -/
def s_read_move_2 : Sn := sRet (dApp (gN 2 m_move_in) (dCons (dVar 0) (dCons (dCst (.int (0))) dNil)))
def b_read_move : Sn := (sSeq s_read_move_1
    s_read_move_2)
theorem S_read_move : FnScope ["text"] ["text"] (defScope (topS 44)) := ⟨rfl, rfl, rfl, by decide +kernel, rfl, by decide +kernel, by decide +kernel⟩
theorem B_read_move (M : Md K w mg) : Binds K M.d_read_move ["text"] [] := M.F_read_move.binds fun _ _ _ _ _ _ us hl => match us, hl with | [_], _ => rfl
theorem K_read_move (M : Md K w mg) : ∀ (s : Shared) (ws : List Value), ws.length = 1 → BindsTo s M.d_read_move ⟨[], List.zip ["text"] ws⟩ (List.zip ["text"] ws) := bindsK (ps := ["text"]) M.F_read_move fun _ _ _ _ _ _ us hl => match us, hl with | [_], _ => rfl
def m_read_move : List PyData → Res PyData := runM b_read_move 1
theorem ok_read_move (M : Md K w mg) {k : Nat} : FnOk P w K mg base CX0 (k + 7) M.a_read_move M.d_read_move ["text"] (spM m_read_move 1 K) :=
  fn_pure (k := k + 6) M.F_read_move S_read_move (fun cdv A outer s H E hr => (dss_cons (ds_if (dt_not (dt_val (de_isi .str (by rfl) M.n_isinstance (by rfl) M.n_str boot_str (de_var 0)))) (dss_one ds_never) dss_nil)
    (dss_one (ds_ret (de_call (ok_move_in M (k := k)) (hr.mono (by omega)) (by rfl) M.g_move_in M.F_move_in.kp (B_move_in M) pass0 (da_cons (de_var 0) (da_cons de_int da_nil)))))))
/-! ### read_plan -/
/- line 130 -/
def s_read_plan_0 : Sn := sRet (dApp gTup dNil)
/- line 129 -/
def s_read_plan_1 : Sn := sIf (EL.tB (dOp gEqA (dVar 0) (dCst (.str "")))) s_read_plan_0 sNext
/- line 131 -/
def s_read_plan_2 : Sn := sRet (dApp (g1 gTupOf) (dCons (dLc (iRange gEnum (dCons (dApp (gN 1 m_lines_of) (dCons (dVar 0) dNil)) dNil)) (gTp 2 (gCn (gNm 1) (gCn (gNm 2) gNl))) tYesD (dApp (gN 2 m_move_in) (dCons (dVar 2) (dCons (dVar 1) dNil))) [1, 2]) dNil))
def b_read_plan : Sn := (sSeq s_read_plan_1
    s_read_plan_2)
theorem S_read_plan : FnScope ["text", "line", "row"] ["text"] (defScope (topS 45)) := ⟨rfl, rfl, rfl, by decide +kernel, rfl, by decide +kernel, by decide +kernel⟩
theorem B_read_plan (M : Md K w mg) : Binds K M.d_read_plan ["text"] [] := M.F_read_plan.binds fun _ _ _ _ _ _ us hl => match us, hl with | [_], _ => rfl
theorem K_read_plan (M : Md K w mg) : ∀ (s : Shared) (ws : List Value), ws.length = 1 → BindsTo s M.d_read_plan ⟨[], List.zip ["text"] ws⟩ (List.zip ["text"] ws) := bindsK (ps := ["text"]) M.F_read_plan fun _ _ _ _ _ _ us hl => match us, hl with | [_], _ => rfl
def m_read_plan : List PyData → Res PyData := runM b_read_plan 3
theorem ok_read_plan (M : Md K w mg) {k : Nat} : FnOk P w K mg base CX0 (k + 7) M.a_read_plan M.d_read_plan ["text"] (spM m_read_plan 1 K) :=
  fn_pure (k := k + 6) M.F_read_plan S_read_plan (fun cdv A outer s H E hr => (dss_cons (ds_if (dt_cmp (op_eqA (h64 hr)) gEqA_ok (de_var 0) de_str (nomark _)) (dss_one (ds_ret (de_tup da_nil))) dss_nil)
    (dss_one (ds_ret (de_callTy call_tuple_of gTupOf_ok (by rfl) M.n_tuple boot_tuple (da_cons (de_new (df_lc [("line", 1), ("row", 2)] rfl S_read_plan.nd (di_enum (by rfl) M.n_enumerate (da_cons (de_call (ok_lines_of M (k := k + 5)) (hr.mono (by omega)) (by rfl) M.g_lines_of M.F_lines_of.kp (B_lines_of M) pass0 (da_cons (de_var 0) da_nil)) da_nil)) (blkOk_by (by rfl)) (fun _ _ _ _ _ => (dg_tup rfl (dgs_cons (dg_name 1 S_read_plan.nd) (dgs_cons (dg_name 2 S_read_plan.nd) dgs_nil)))) (fun _ _ _ _ _ => dts_nil) (fun _ _ _ _ _ => (de_call (ok_move_in M (k := k)) (hr.mono (by omega)) (by rfl) M.g_move_in M.F_move_in.kp (B_move_in M) pass0 (da_cons (de_var 2) (da_cons (de_var 1) da_nil)))))) da_nil))))))
/-! ### _law_pen -/
theorem S__law_pen : FnScope ["_law_script"] ["_law_script"] (defScope (topS 47)) := ⟨rfl, rfl, rfl, by decide +kernel, rfl, by decide +kernel, by decide +kernel⟩
theorem B__law_pen (M : Md K w mg) : Binds K M.d__law_pen ["_law_script"] [] := M.F__law_pen.binds fun _ _ _ _ _ _ us hl => match us, hl with | [_], _ => rfl
theorem ok__law_pen (M : Md K w mg) {k : Nat} : FnOk P w K mg base CX0 (k + 1) M.a__law_pen M.d__law_pen ["_law_script"] (spPen K) := by
  refine M.F__law_pen.ok S__law_pen (fun vs H Q E h => ?_) (fun cdv A outer s H vs Q E hr h => ?_)
  · obtain ⟨a, ns, rfl, _⟩ := h
    rfl
  · obtain ⟨a, ns, rfl, hS, hl, hq⟩ := h
    obtain ⟨t, pt, ev⟩ := pen_body (X := (cxOf CX0 P w K mg base ["_law_script"] "_law_pen" (defScope (topS 47)) M.a__law_pen cdv A outer s H E).nox) M.n_list (by rfl) rfl (Or.inl rfl)
    exact ⟨t, pt, ev a ns _ H _ rfl hS hl fun p q H' => hq p q H'⟩
/-! ### _law_draw -/
/- line 137 -/
def s__law_draw_0 : Sn := sSet 5 (dOp gMod (dApp (g1 gInt) (dCons (dIxO 0 (dCst (.int (2)))) dNil)) (dVar 1))
/- line 138 -/
def s__law_draw_1 : Sn := sPut 0 (dOp gFdiv (dIxO 0 (dCst (.int (2)))) (dVar 1)) (dCst (.int (2)))
/- line 139 -/
def s__law_draw_2 : Sn := sRet (dVar 5)
/- line 136 -/
def s__law_draw_3 : Sn := sIf (EL.tB (dOp gGt (dIxO 0 (dCst (.int (2)))) (dCst (.int (0))))) (sSeq s__law_draw_0
    (sSeq s__law_draw_1
    s__law_draw_2)) sNext
/- line 140 -/
def s__law_draw_4 : Sn := sSet 2 (dIxO 0 (dCst (.int (1))))
/- line 141 -/
def s__law_draw_5 : Sn := sPut 0 (dOp gAdd (dVar 2) (dCst (.int (1)))) (dCst (.int (1)))
/- line 142 -/
def s__law_draw_6 : Sn := sSet 3 (dOp gAdd (dOp gMul (dCst (.int (70393))) (dVar 2)) (dCst (.int (107))))
/- line 144 -/
def s__law_draw_7 : Sn := sSet 3 (dOp gIxA (dIxO 0 (dCst (.int (0)))) (dOp gMod (dApp (g1 gInt) (dCons (dVar 2) dNil)) (dApp (g1 gLen) (dCons (dIxO 0 (dCst (.int (0)))) dNil))))
/- line 143 -/
def s__law_draw_8 : Sn := sIf (EL.tB (dOp gNeA (dIxO 0 (dCst (.int (0)))) (dApp gLst dNil))) s__law_draw_7 sNext
/- line 146 -/
def s__law_draw_9 : Sn := sSet 6 (dOp gAdd (dOp gMul (dCst (.int (2))) (dOp gSub (dApp (g1 gAbs) (dCons (dVar 3) dNil)) (dOp gPow (dCst (.int (10))) (dCst (.int (18)))))) (dApp (g1 gInt) (dCons (dOp gLt (dVar 3) (dCst (.int (0)))) dNil)))
/- line 147 -/
def s__law_draw_10 : Sn := sPut 0 (dOp gFdiv (dVar 6) (dVar 1)) (dCst (.int (2)))
/- line 148 -/
def s__law_draw_11 : Sn := sRet (dOp gMod (dApp (g1 gInt) (dCons (dVar 6) dNil)) (dVar 1))
/- line 145 -/
def s__law_draw_12 : Sn := sIf (tAndD (EL.tB (dOp gLt (dVar 2) (dApp (g1 gLen) (dCons (dIxO 0 (dCst (.int (0)))) dNil)))) (EL.tB (dOp gGe (dApp (g1 gAbs) (dCons (dVar 3) dNil)) (dOp gPow (dCst (.int (10))) (dCst (.int (18))))))) (sSeq s__law_draw_9
    (sSeq s__law_draw_10
    s__law_draw_11)) sNext
/- line 149 -/
def s__law_draw_13 : Sn := sSet 4 (dOp gMod (dApp (g1 gInt) (dCons (dOp gPow (dOp gAdd (dOp gAdd (dOp gMod (dApp (g1 gInt) (dCons (dVar 3) dNil)) (dCst (.int (2147483549)))) (dOp gMul (dCst (.int (50273))) (dVar 2))) (dCst (.int (71)))) (dCst (.int (5)))) dNil)) (dCst (.int (2147483629))))
/- line 150 -/
def s__law_draw_14 : Sn := sSet 4 (dOp gMod (dApp (g1 gInt) (dCons (dOp gPow (dOp gAdd (dOp gAdd (dOp gMul (dVar 4) (dOp gAdd (dOp gMul (dCst (.int (2))) (dVar 2)) (dCst (.int (67))))) (dOp gMul (dOp gMul (dCst (.int (40241))) (dVar 2)) (dVar 2))) (dCst (.int (7)))) (dCst (.int (3)))) dNil)) (dCst (.int (2147483587))))
/- line 151 -/
def s__law_draw_15 : Sn := sRet (dOp gMod (dApp (g1 gInt) (dCons (dOp gFdiv (dVar 4) (dCst (.int (32)))) dNil)) (dVar 1))
def b__law_draw : Sn := (sSeq s__law_draw_3
    (sSeq s__law_draw_4
    (sSeq s__law_draw_5
    (sSeq s__law_draw_6
    (sSeq s__law_draw_8
    (sSeq s__law_draw_12
    (sSeq s__law_draw_13
    (sSeq s__law_draw_14
    s__law_draw_15))))))))
theorem S__law_draw : FnScope ["_law_pen_here", "_law_many", "_law_at", "_law_cell", "_law_mixed", "_law_digit", "_law_great"] ["_law_pen_here", "_law_many"] (defScope (topS 48)) := ⟨rfl, rfl, rfl, by decide +kernel, rfl, by decide +kernel, by decide +kernel⟩
theorem B__law_draw (M : Md K w mg) : Binds K M.d__law_draw ["_law_pen_here", "_law_many"] [] := M.F__law_draw.binds fun _ _ _ _ _ _ us hl => match us, hl with | [_, _], _ => rfl
def m__law_draw : PyData → List PyData → Res (PyData × PyData) := runP b__law_draw 7
theorem ok__law_draw (M : Md K w mg) {k : Nat} : FnOk P w K mg base CX0 (k + 1) M.a__law_draw M.d__law_draw ["_law_pen_here", "_law_many"] (spP m__law_draw 2 K) :=
  fn_pen (k := k) M.F__law_draw S__law_draw (fun cdv A outer s H E hr => (dss_cons (ds_if (dt_cmp op_gtD gOrd_ok (de_ixO 0 de_int) de_int (nomark _)) (dss_cons (ds_set 5 (de_op op_mod gMod_ok (de_callTy call_intD gInt_ok (by rfl) M.n_int boot_int (da_cons (de_ixO 0 de_int) da_nil)) (de_var 1)) S__law_draw.nd)
    (dss_cons (ds_put 0 (de_op op_fdivW gFdiv_ok (de_ixO 0 de_int) (de_var 1)) de_int)
    (dss_one (ds_ret (de_var 5))))) dss_nil)
    (dss_cons (ds_set 2 (de_ixO 0 de_int) S__law_draw.nd)
    (dss_cons (ds_put 0 (de_op op_addD gAdd_ok (de_var 2) de_int) de_int)
    (dss_cons (ds_set 3 (de_op op_addD gAdd_ok (de_op op_mul gMul_ok de_int (de_var 2)) de_int) S__law_draw.nd)
    (dss_cons (ds_if (dt_cmp (op_neA (h64 hr)) gNeA_ok (de_ixO 0 de_int) (de_lst da_nil) (nomark _)) (dss_one (ds_set 3 (de_ixA (h1 hr) (de_ixO 0 de_int) (de_op op_mod gMod_ok (de_callTy call_intD gInt_ok (by rfl) M.n_int boot_int (da_cons (de_var 2) da_nil)) (de_callB call_len gLen_ok (by rfl) M.n_len boot_len (da_cons (de_ixO 0 de_int) da_nil)))) S__law_draw.nd)) dss_nil)
    (dss_cons (ds_if (dt_w (dw_and (dt_cmp op_ltD gOrd_ok (de_var 2) (de_callB call_len gLen_ok (by rfl) M.n_len boot_len (da_cons (de_ixO 0 de_int) da_nil)) (nomark _)) (dw_and1 (dt_cmp op_geD gOrd_ok (de_callB call_abs gAbs_ok (by rfl) M.n_abs boot_abs (da_cons (de_var 3) da_nil)) (de_op op_pow gPow_ok de_int de_int) (nomark _))))) (dss_cons (ds_set 6 (de_op op_addD gAdd_ok (de_op op_mul gMul_ok de_int (de_op op_sub gSub_ok (de_callB call_abs gAbs_ok (by rfl) M.n_abs boot_abs (da_cons (de_var 3) da_nil)) (de_op op_pow gPow_ok de_int de_int))) (de_callTy call_intD gInt_ok (by rfl) M.n_int boot_int (da_cons (de_cmp op_ltD gOrd_ok (de_var 3) de_int (nomark _)) da_nil))) S__law_draw.nd)
    (dss_cons (ds_put 0 (de_op op_fdivW gFdiv_ok (de_var 6) (de_var 1)) de_int)
    (dss_one (ds_ret (de_op op_mod gMod_ok (de_callTy call_intD gInt_ok (by rfl) M.n_int boot_int (da_cons (de_var 6) da_nil)) (de_var 1)))))) dss_nil)
    (dss_cons (ds_set 4 (de_op op_mod gMod_ok (de_callTy call_intD gInt_ok (by rfl) M.n_int boot_int (da_cons (de_op op_pow gPow_ok (de_op op_addD gAdd_ok (de_op op_addD gAdd_ok (de_op op_mod gMod_ok (de_callTy call_intD gInt_ok (by rfl) M.n_int boot_int (da_cons (de_var 3) da_nil)) de_int) (de_op op_mul gMul_ok de_int (de_var 2))) de_int) de_int) da_nil)) de_int) S__law_draw.nd)
    (dss_cons (ds_set 4 (de_op op_mod gMod_ok (de_callTy call_intD gInt_ok (by rfl) M.n_int boot_int (da_cons (de_op op_pow gPow_ok (de_op op_addD gAdd_ok (de_op op_addD gAdd_ok (de_op op_mul gMul_ok (de_var 4) (de_op op_addD gAdd_ok (de_op op_mul gMul_ok de_int (de_var 2)) de_int)) (de_op op_mul gMul_ok (de_op op_mul gMul_ok de_int (de_var 2)) (de_var 2))) de_int) de_int) da_nil)) de_int) S__law_draw.nd)
    (dss_one (ds_ret (de_op op_mod gMod_ok (de_callTy call_intD gInt_ok (by rfl) M.n_int boot_int (da_cons (de_op op_fdivW gFdiv_ok (de_var 4) de_int) da_nil)) (de_var 1)))))))))))))
/-! ### _law_pick -/
/- line 153 -/
def s__law_pick_0 : Sn := sRet (dOp gIxA (dVar 1) (dCallP m__law_draw 2 0 (dCons (dApp (g1 gLen) (dCons (dVar 1) dNil)) dNil)))
def b__law_pick : Sn := s__law_pick_0
theorem S__law_pick : FnScope ["_law_pen_here", "_law_some"] ["_law_pen_here", "_law_some"] (defScope (topS 49)) := ⟨rfl, rfl, rfl, by decide +kernel, rfl, by decide +kernel, by decide +kernel⟩
theorem B__law_pick (M : Md K w mg) : Binds K M.d__law_pick ["_law_pen_here", "_law_some"] [] := M.F__law_pick.binds fun _ _ _ _ _ _ us hl => match us, hl with | [_, _], _ => rfl
def m__law_pick : PyData → List PyData → Res (PyData × PyData) := runP b__law_pick 2
theorem ok__law_pick (M : Md K w mg) {k : Nat} : FnOk P w K mg base CX0 (k + 2) M.a__law_pick M.d__law_pick ["_law_pen_here", "_law_some"] (spP m__law_pick 2 K) :=
  fn_pen (k := k + 1) M.F__law_pick S__law_pick (fun cdv A outer s H E hr => (dss_one (ds_ret (de_ixA (h1 hr) (de_var 1) (de_callP 0 (ok__law_draw M (k := k)) (hr.mono (by omega)) (by rfl) M.g__law_draw M.F__law_draw.kp (B__law_draw M) pass0 (da_cons (de_callB call_len gLen_ok (by rfl) M.n_len boot_len (da_cons (de_var 1) da_nil)) da_nil))))))
/-! ### _law_drawn -/
/- line 155 -/
def s__law_drawn_0 : Sn := sSetO 1 (dDisp [((dCst (.str "slide")), (dCst (.str "is"))), ((dCst (.str "light")), (dCst (.str "ntp"))), ((dCst (.str "out")), (dCst (.str "n"))), ((dCst (.str "quit")), (dCst (.str "n"))), ((dCst (.str "move")), (dCst (.str "ntp"))), ((dCst (.str "begin")), (dCst (.str "nrtp"))), ((dCst (.str "end")), (dCst (.str "n")))])
/- line 156 -/
def s__law_drawn_1 : Sn := sUpd 1 (dDisp [((dCst (.str "guard")), (dCst (.str "ntp"))), ((dCst (.str "drop")), (dCst (.str "n")))])
/- line 157 -/
def s__law_drawn_2 : Sn := sSet 2 (dCallP m__law_pick 2 0 (dCons (dApp (g1 gSorted) (dCons (dUn gListOf (dVar 1)) dNil)) dNil))
/- line 158 -/
def s__law_drawn_3 : Sn := sSet 3 (dApp gLst (dCons (dCst (.str "a")) (dCons (dCst (.str "zzzzzzzz")) (dCons (dCst (.str "up")) (dCons (dCst (.str "down")) (dCons (dCst (.str "slide")) (dCons (dCst (.str "end")) (dCons (dCst (.str "abcdefgh")) (dCons (dCst (.str "move")) (dCons (dCst (.str "q")) dNil))))))))))
/- line 159 -/
def s__law_drawn_4 : Sn := sSetO 4 (dDisp [((dCst (.str "n")), (dVar 3)), ((dCst (.str "i")), (dOp gAdd (dOp gAdd (dVar 3) (dLc (iOf (dVar 3)) (gNm 9) tYesD (dOp gAdd (dVar 9) (dCst (.str "+"))) [9])) (dLc (iOf (dVar 3)) (gNm 9) tYesD (dOp gAdd (dVar 9) (dCst (.str "*"))) [9]))), ((dCst (.str "s")), (dApp gLst (dCons (dCst (.int (1))) (dCons (dUn gNeg (dCst (.int (1)))) dNil))))])
/- line 160 -/
def s__law_drawn_5 : Sn := sUpd 4 (dDisp [((dCst (.str "r")), (dApp gLst (dCons (dCst (.int (1))) (dCons (dCst (.int (16))) (dCons (dCst (.int (9))) (dCons (dCst (.int (10))) dNil)))))), ((dCst (.str "p")), (dApp gLst (dCons (dCst (.int (0))) (dCons (dCst (.int (63))) (dCons (dCst (.int (10))) (dCons (dCst (.int (7))) dNil)))))), ((dCst (.str "t")), (dApp gLst (dCons (dApp gTup (dCons (dCst (.int (0))) dNil)) (dCons (dApp gTup (dCons (dCst (.int (15))) dNil)) (dCons (dApp gTup (dCons (dCst (.int (0))) (dCons (dCst (.int (3))) (dCons (dCst (.int (4))) dNil)))) (dCons (dApp gTup (dCons (dCst (.int (10))) (dCons (dCst (.int (9))) (dCons (dCst (.int (1))) dNil)))) (dCons (dUn gTupRg (dCst (.int (16)))) dNil)))))))])
/- line 161 -/
def s__law_drawn_6 : Sn := sParO 6 7 (dApp gTup (dCons (dVar 2) dNil)) (dApp gLst (dCons (dVar 2) dNil))
/- line 163 -/
def s__law_drawn_7 : Sn := sSet 8 (dCallP m__law_pick 2 0 (dCons (dOp gIxA (dVar 4) (dVar 5)) dNil))
/- line 164 -/
def s__law_drawn_8 : Sn := sSet 6 (dOp gAdd (dVar 6) (dApp gTup (dCons (dVar 8) dNil)))
/- line 166 -/
def s__law_drawn_9 : Sn := sApp 7 (dOp gJoin (dCst (.str ",")) (dLc (iOf (dVar 8)) (gNm 10) tYesD (dApp (g1 gStr) (dCons (dVar 10) dNil)) [10]))
/- line 168 -/
def s__law_drawn_10 : Sn := sApp 7 (dOp gIxA (dDisp [((dCst (.int (1))), (dCst (.str "up"))), ((dUn gNeg (dCst (.int (1)))), (dCst (.str "down")))]) (dVar 8))
/- line 170 -/
def s__law_drawn_11 : Sn := sApp 7 (dApp (g1 gStr) (dCons (dVar 8) dNil))
/- line 167 -/
def s__law_drawn_12 : Sn := sIf (EL.tB (dOp gEqA (dVar 5) (dCst (.str "s")))) s__law_drawn_10 s__law_drawn_11
/- line 165 -/
def s__law_drawn_13 : Sn := sIf (EL.tB (dOp gEqA (dVar 5) (dCst (.str "t")))) s__law_drawn_9 s__law_drawn_12
/- line 162 -/
def s__law_drawn_14 : Sn := sFor (iOf (dOp gIxA (dVar 1) (dVar 2))) (gNm 5) (sSeq s__law_drawn_7
    (sSeq s__law_drawn_8
    s__law_drawn_13))
/- line 171 -/
def s__law_drawn_15 : Sn := sRet (dApp gTup (dCons (dVar 6) (dCons (dOp gJoin (dCst (.str " ")) (dVar 7)) dNil)))
def b__law_drawn : Sn := (sSeq s__law_drawn_0
    (sSeq s__law_drawn_1
    (sFrz 1 (sSeq s__law_drawn_2
    (sSeq s__law_drawn_3
    (sSeq s__law_drawn_4
    (sSeq s__law_drawn_5
    (sFrz 4 (sSeq s__law_drawn_6
    (sSeq s__law_drawn_14
    (sFrz 7 s__law_drawn_15)))))))))))
theorem S__law_drawn : FnScope ["_law_pen_here", "_law_forms", "_law_word", "_law_names", "_law_some", "_law_kind", "_law_found", "_law_texts", "_law_part", "_law_name", "_law_fibre"] ["_law_pen_here"] (defScope (topS 50)) := ⟨rfl, rfl, rfl, by decide +kernel, rfl, by decide +kernel, by decide +kernel⟩
theorem B__law_drawn (M : Md K w mg) : Binds K M.d__law_drawn ["_law_pen_here"] [] := M.F__law_drawn.binds fun _ _ _ _ _ _ us hl => match us, hl with | [_], _ => rfl
def m__law_drawn : PyData → List PyData → Res (PyData × PyData) := runP b__law_drawn 11
theorem ok__law_drawn (M : Md K w mg) {k : Nat} : FnOk P w K mg base CX0 (k + 3) M.a__law_drawn M.d__law_drawn ["_law_pen_here"] (spP m__law_drawn 1 K) :=
  fn_pen (k := k + 2) M.F__law_drawn S__law_drawn (fun cdv A outer s H E hr => (dss_cons (ds_setO 1 (df_disp (dps_cons de_str de_str (dps_cons de_str de_str (dps_cons de_str de_str (dps_cons de_str de_str (dps_cons de_str de_str (dps_cons de_str de_str (dps_cons de_str de_str dps_nil)))))))) S__law_drawn.nd)
    (dss_cons (ds_update 1 (de_new (df_disp (dps_cons de_str de_str (dps_cons de_str de_str dps_nil)))))
    (dss_frz 1 (dss_cons (ds_set 2 (de_callP 0 (ok__law_pick M (k := k)) (hr.mono (by omega)) (by rfl) M.g__law_pick M.F__law_pick.kp (B__law_pick M) pass0 (da_cons (de_callB call_sortedD gSorted_ok (by rfl) M.n_sorted boot_sorted (da_cons (de_new (df_list rfl (by rfl) M.n_list (de_var 1))) da_nil)) da_nil)) S__law_drawn.nd)
    (dss_cons (ds_set 3 (de_lst (da_cons de_str (da_cons de_str (da_cons de_str (da_cons de_str (da_cons de_str (da_cons de_str (da_cons de_str (da_cons de_str (da_cons de_str da_nil)))))))))) S__law_drawn.nd)
    (dss_cons (ds_setO 4 (df_disp (dps_cons de_str (de_var 3) (dps_cons de_str (de_op op_addD gAdd_ok (de_op op_addD gAdd_ok (de_var 3) (de_new (df_lc [("_law_name", 9)] rfl S__law_drawn.nd (di_of (de_var 3)) (blkOk_by (by rfl)) (fun _ _ _ _ _ => (dg_name 9 S__law_drawn.nd)) (fun _ _ _ _ _ => dts_nil) (fun _ _ _ _ _ => (de_op op_addD gAdd_ok (de_var 9) de_str))))) (de_new (df_lc [("_law_name", 9)] rfl S__law_drawn.nd (di_of (de_var 3)) (blkOk_by (by rfl)) (fun _ _ _ _ _ => (dg_name 9 S__law_drawn.nd)) (fun _ _ _ _ _ => dts_nil) (fun _ _ _ _ _ => (de_op op_addD gAdd_ok (de_var 9) de_str))))) (dps_cons de_str (de_lst (da_cons de_int (da_cons (de_un un_neg gNeg_ok de_int) da_nil))) dps_nil)))) S__law_drawn.nd)
    (dss_cons (ds_update 4 (de_new (df_disp (dps_cons de_str (de_lst (da_cons de_int (da_cons de_int (da_cons de_int (da_cons de_int da_nil))))) (dps_cons de_str (de_lst (da_cons de_int (da_cons de_int (da_cons de_int (da_cons de_int da_nil))))) (dps_cons de_str (de_lst (da_cons (de_tup (da_cons de_int da_nil)) (da_cons (de_tup (da_cons de_int da_nil)) (da_cons (de_tup (da_cons de_int (da_cons de_int (da_cons de_int da_nil)))) (da_cons (de_tup (da_cons de_int (da_cons de_int (da_cons de_int da_nil)))) (da_cons (de_tupRg rfl (by rfl) M.n_tuple (by rfl) M.n_range de_int) da_nil)))))) dps_nil))))))
    (dss_frz 4 (dss_cons (ds_parO 6 7 rfl S__law_drawn.nd (de_tup (da_cons (de_var 2) da_nil)) (df_lst (da_cons (de_var 2) da_nil)))
    (dss_cons (ds_for (vs := [5]) PassesOwn.never rfl (di_of (de_ixA (h1 hr) (de_var 1) (de_var 2))) (dg_name 5 S__law_drawn.nd) (dss_cons (ds_set 8 (de_callP 0 (ok__law_pick M (k := k)) (hr.mono (by omega)) (by rfl) M.g__law_pick M.F__law_pick.kp (B__law_pick M) pass0 (da_cons (de_ixA (h1 hr) (de_var 4) (de_var 5)) da_nil)) S__law_drawn.nd)
    (dss_cons (ds_set 6 (de_op op_addD gAdd_ok (de_var 6) (de_tup (da_cons (de_var 8) da_nil))) S__law_drawn.nd)
    (dss_one (ds_if (dt_cmp (op_eqA (h64 hr)) gEqA_ok (de_var 5) de_str (nomark _)) (dss_one (ds_append 7 (de_join de_str (de_new (df_lc [("_law_fibre", 10)] rfl S__law_drawn.nd (di_of (de_var 8)) (blkOk_by (by rfl)) (fun _ _ _ _ _ => (dg_name 10 S__law_drawn.nd)) (fun _ _ _ _ _ => dts_nil) (fun _ _ _ _ _ => (de_callTy call_strD gStr_ok (by rfl) M.n_str boot_str (da_cons (de_var 10) da_nil)))))))) (dss_one (ds_if (dt_cmp (op_eqA (h64 hr)) gEqA_ok (de_var 5) de_str (nomark _)) (dss_one (ds_append 7 (de_ixA (h1 hr) (de_new (df_disp (dps_cons de_int de_str (dps_cons (de_un un_neg gNeg_ok de_int) de_str dps_nil)))) (de_var 8)))) (dss_one (ds_append 7 (de_callTy call_strD gStr_ok (by rfl) M.n_str boot_str (da_cons (de_var 8) da_nil)))))))))))
    (dss_frz 7 (dss_one (ds_ret (de_tup (da_cons (de_var 6) (da_cons (de_join de_str (de_var 7)) da_nil)))))))))))))))))
/-! ### law -/
/- line 175 -/
def s_law_0 : Sn := sSet 3 (dLc (iRange gRange1 (dCons (dCallP m__law_draw 2 1 (dCons (dCst (.int (10))) dNil)) dNil)) (gNm 9) tYesD (dCallP m__law_drawn 1 1 dNil) [9])
/- line 177 -/
def s_law_1 : Sn := sSet 4 (dApp gLst (dCons (dApp (gN 1 m_move_text) (dCons (dVar 5) dNil)) (dCons (dApp (gN 1 m_move_text) (dCons (dVar 5) dNil)) (dCons (dApp (gN 1 m_read_move) (dCons (dVar 6) dNil)) dNil))))
/- line 179 -/
def s_law_2 : Sn := sRet (dCst (.bool false))
/- line 178 -/
def s_law_3 : Sn := sIf (tOrD (EL.tB (dOp gNeA (dApp (g1 gRepr) (dCons (dVar 4) dNil)) (dApp (g1 gRepr) (dCons (dApp gLst (dCons (dVar 6) (dCons (dVar 6) (dCons (dVar 5) dNil)))) dNil)))) (tNotD (EL.tB (dApp (gN 1 m_is_move) (dCons (dApp (gN 1 m_read_move) (dCons (dVar 6) dNil)) dNil))))) s_law_2 sNext
/- line 176 -/
def s_law_4 : Sn := sFor (iOf (dVar 3)) (gTp 2 (gCn (gNm 5) (gCn (gNm 6) gNl))) (sSeq s_law_1
    s_law_3)
/- line 180 -/
def s_law_5 : Sn := sPar 7 8 (dLc (iOf (dVar 3)) (gTp 2 (gCn (gNm 5) (gCn (gNm 6) gNl))) tYesD (dVar 5) [5, 6]) (dOp gJoin (dCst (.str "\n")) (dLc (iOf (dVar 3)) (gTp 2 (gCn (gNm 5) (gCn (gNm 6) gNl))) tYesD (dVar 6) [5, 6]))
/- line 181 -/
def s_law_6 : Sn := sSet 4 (dApp gLst (dCons (dApp (gN 1 m_plan_text) (dCons (dVar 7) dNil)) (dCons (dApp (gN 1 m_plan_text) (dCons (dApp (g1 gTupOf) (dCons (dVar 7) dNil)) dNil)) (dCons (dApp (gN 1 m_read_plan) (dCons (dVar 8) dNil)) (dCons (dApp (gN 1 m_read_plan) (dCons (dVar 8) dNil)) dNil)))))
/- line 183 -/
def s_law_7 : Sn := sRet (dCst (.bool false))
/- line 182 -/
def s_law_8 : Sn := sIf (EL.tB (dOp gNeA (dApp (g1 gRepr) (dCons (dVar 4) dNil)) (dApp (g1 gRepr) (dCons (dApp gLst (dCons (dVar 8) (dCons (dVar 8) (dCons (dApp (g1 gTupOf) (dCons (dVar 7) dNil)) (dCons (dApp (g1 gTupOf) (dCons (dVar 7) dNil)) dNil))))) dNil)))) s_law_7 sNext
/- line 174 -/
def s_law_9 : Sn := sFor (iRange gRange1 (dCons (dCst (.int (6))) dNil)) (gNm 2) (sSeq s_law_0
    (sSeq s_law_4
    (sSeq s_law_5
    (sSeq s_law_6
    s_law_8))))
/- line 184 -/
def s_law_10 : Sn := sRet (dOp gEqA (dApp (g1 gRepr) (dCons (dApp gLst (dCons (dApp (gN 1 m_plan_text) (dCons (dApp gTup dNil) dNil)) (dCons (dApp (gN 1 m_read_plan) (dCons (dCst (.str "")) dNil)) dNil))) dNil)) (dApp (g1 gRepr) (dCons (dApp gLst (dCons (dCst (.str "")) (dCons (dApp gTup dNil) dNil))) dNil)))
def b_law : Sn := (sSeq s_law_9
    s_law_10)
theorem S_law : FnScope ["_law_script", "_law_pen_here", "_law_turn", "_law_rows", "_law_told", "_law_deed", "_law_words", "_law_deeds", "_law_page", "_law_k"] ["_law_script"] (defScope (topS 51)) := ⟨rfl, rfl, rfl, by decide +kernel, rfl, by decide +kernel, by decide +kernel⟩
theorem B_law (M : Md K w mg) : Binds K M.d_law ["_law_script"] [] := M.F_law.binds fun _ _ _ _ _ _ us hl => match us, hl with | [_], _ => rfl
theorem ok_law (M : Md K w mg) {k : Nat} : FnG P w K mg base (k + 8) M.a_law M.d_law ["_law_script"] (spLaw b_law 10 K) :=
  fn_law (k := k + 7) M.F_law S_law (by decide) rfl (fun cdv A outer s H E hgd hr => ⟨_, ps_set (i := 1) S_law.nd rfl (by first | exact Or.inl rfl | exact Or.inr rfl) (pe_call (ok__law_pen M (k := k + 6)) (hr.mono (by omega)) (by rfl) M.g__law_pen M.F__law_pen.kp (B__law_pen M) .nil pass0 (pa_cons (pv 0) pa_nil))⟩)
    (fun cdv A outer s H E hgd hr => (dss_cons (ds_for (vs := [2]) PassesOwn.never rfl (di_range1 (by rfl) M.n_range (da_cons de_int da_nil)) (dg_name 2 S_law.nd) (dss_cons (ds_ofS (ps_lc 3 [("_law_k", 9)] rfl S_law.nd (di_range1 (by rfl) M.n_range (da_cons (de_callP 1 (ok__law_draw M (k := k + 6)) (hr.mono (by omega)) (by rfl) M.g__law_draw M.F__law_draw.kp (B__law_draw M) pass0 (da_cons de_int da_nil)) da_nil)) (blkOk_by (by rfl)) (fun _ _ _ _ _ => (dg_name 9 S_law.nd)) (fun _ _ _ _ _ => dts_nil) (fun _ _ _ _ _ => (de_callP 1 (ok__law_drawn M (k := k + 4)) (hr.mono (by omega)) (by rfl) M.g__law_drawn M.F__law_drawn.kp (B__law_drawn M) pass0 da_nil)) (by rfl)))
    (dss_cons (ds_for (vs := [5, 6]) PassesOwn.never rfl (di_of (de_var 3)) (dg_tup rfl (dgs_cons (dg_name 5 S_law.nd) (dgs_cons (dg_name 6 S_law.nd) dgs_nil))) (dss_cons (ds_set 4 (de_lst (da_cons (de_call (ok_move_text M (k := k + 3)) (hr.mono (by omega)) (by rfl) M.g_move_text M.F_move_text.kp (B_move_text M) pass0 (da_cons (de_var 5) da_nil)) (da_cons (de_callK (ok_move_text M (k := k + 3)) (hr.mono (by omega)) (by rfl) M.g_move_text M.F_move_text.kp (K_move_text M) (dk_cons (de_var 5) dk_nil)) (da_cons (de_call (ok_read_move M (k := k)) (hr.mono (by omega)) (by rfl) M.g_read_move M.F_read_move.kp (B_read_move M) pass0 (da_cons (de_var 6) da_nil)) da_nil)))) S_law.nd)
    (dss_one (ds_if (dt_w (dw_or (dt_cmp (op_neA (h64 hr)) gNeA_ok (de_callB (call_reprD hgd (h66 hr)) gRepr_ok (by rfl) M.n_repr boot_repr (da_cons (de_var 4) da_nil)) (de_callB (call_reprD hgd (h66 hr)) gRepr_ok (by rfl) M.n_repr boot_repr (da_cons (de_lst (da_cons (de_var 6) (da_cons (de_var 6) (da_cons (de_var 5) da_nil)))) da_nil)) (nomark _)) (dw_or1 (dt_not (dt_val (de_call (ok_is_move M (k := k + 2)) (hr.mono (by omega)) (by rfl) M.g_is_move M.F_is_move.kp (B_is_move M) pass0 (da_cons (de_callK (ok_read_move M (k := k)) (hr.mono (by omega)) (by rfl) M.g_read_move M.F_read_move.kp (K_read_move M) (dk_cons (de_var 6) dk_nil)) da_nil))))))) (dss_one (ds_ret de_bl)) dss_nil))))
    (dss_cons (ds_par 7 8 rfl S_law.nd (de_new (df_lc [("_law_deed", 5), ("_law_words", 6)] rfl S_law.nd (di_of (de_var 3)) (blkOk_by (by rfl)) (fun _ _ _ _ _ => (dg_tup rfl (dgs_cons (dg_name 5 S_law.nd) (dgs_cons (dg_name 6 S_law.nd) dgs_nil)))) (fun _ _ _ _ _ => dts_nil) (fun _ _ _ _ _ => (de_var 5)))) (de_join de_str (de_new (df_lc [("_law_deed", 5), ("_law_words", 6)] rfl S_law.nd (di_of (de_var 3)) (blkOk_by (by rfl)) (fun _ _ _ _ _ => (dg_tup rfl (dgs_cons (dg_name 5 S_law.nd) (dgs_cons (dg_name 6 S_law.nd) dgs_nil)))) (fun _ _ _ _ _ => dts_nil) (fun _ _ _ _ _ => (de_var 6))))))
    (dss_cons (ds_set 4 (de_lst (da_cons (de_call (ok_plan_text M (k := k + 3)) (hr.mono (by omega)) (by rfl) M.g_plan_text M.F_plan_text.kp (B_plan_text M) pass0 (da_cons (de_var 7) da_nil)) (da_cons (de_callK (ok_plan_text M (k := k + 3)) (hr.mono (by omega)) (by rfl) M.g_plan_text M.F_plan_text.kp (K_plan_text M) (dk_cons (de_callTy call_tuple_of gTupOf_ok (by rfl) M.n_tuple boot_tuple (da_cons (de_var 7) da_nil)) dk_nil)) (da_cons (de_call (ok_read_plan M (k := k)) (hr.mono (by omega)) (by rfl) M.g_read_plan M.F_read_plan.kp (B_read_plan M) pass0 (da_cons (de_var 8) da_nil)) (da_cons (de_callK (ok_read_plan M (k := k)) (hr.mono (by omega)) (by rfl) M.g_read_plan M.F_read_plan.kp (K_read_plan M) (dk_cons (de_var 8) dk_nil)) da_nil))))) S_law.nd)
    (dss_one (ds_if (dt_cmp (op_neA (h64 hr)) gNeA_ok (de_callB (call_reprD hgd (h66 hr)) gRepr_ok (by rfl) M.n_repr boot_repr (da_cons (de_var 4) da_nil)) (de_callB (call_reprD hgd (h66 hr)) gRepr_ok (by rfl) M.n_repr boot_repr (da_cons (de_lst (da_cons (de_var 8) (da_cons (de_var 8) (da_cons (de_callTy call_tuple_of gTupOf_ok (by rfl) M.n_tuple boot_tuple (da_cons (de_var 7) da_nil)) (da_cons (de_callTy call_tuple_of gTupOf_ok (by rfl) M.n_tuple boot_tuple (da_cons (de_var 7) da_nil)) da_nil))))) da_nil)) (nomark _)) (dss_one (ds_ret de_bl)) dss_nil)))))))
    (dss_one (ds_ret (de_cmp (op_eqA (h64 hr)) gEqA_ok (de_callB (call_reprD hgd (h66 hr)) gRepr_ok (by rfl) M.n_repr boot_repr (da_cons (de_lst (da_cons (de_call (ok_plan_text M (k := k + 3)) (hr.mono (by omega)) (by rfl) M.g_plan_text M.F_plan_text.kp (B_plan_text M) pass0 (da_cons (de_tup da_nil) da_nil)) (da_cons (de_call (ok_read_plan M (k := k)) (hr.mono (by omega)) (by rfl) M.g_read_plan M.F_read_plan.kp (B_read_plan M) pass0 (da_cons de_str da_nil)) da_nil))) da_nil)) (de_callB (call_reprD hgd (h66 hr)) gRepr_ok (by rfl) M.n_repr boot_repr (da_cons (de_lst (da_cons de_str (da_cons (de_tup da_nil) da_nil))) da_nil)) (nomark _))))))
end
end EL
namespace EL
open PySem PySem.Spec PyProof.Rows L2 TL
theorem draw92 {pd : PyData} {n : Nat} {many : Int} (hp : PenOk n pd) (hn : n < 1000000) (hm : 0 < many) (hm2 : many ≤ 1000000) :
    ∃ r pd', m__law_draw pd [.int many] = .ok (.int r, pd') ∧ 0 ≤ r ∧ r < many ∧ PenOk (n + 1) pd' :=
  draw_ok (a0 := 70393) (a1 := 107) (a2 := 50273) (a3 := 71) (a4 := 67) (a5 := 40241) (a6 := 7) (by decide) hp hn hm hm2
theorem startP2 (pd x : PyData) : startP 2 pd [x] = [.ow pd, .sh x] := rfl
theorem gIxA_at {ds : List PyData} {j : Nat} (h : j < ds.length) : gIxA (.list ds) (.int (j : Nat)) = .ok ds[j] := by
  have e : atI ds ((j : Nat) : Int) = some ds[j] := atI_nat (List.getElem?_eq_getElem h)
  show (match atI ds ((j : Nat) : Int) with
    | some d => Res.ok d
    | none => .bad) = _
  rw [e]
theorem pick92 {pd : PyData} {n : Nat} {ds : List PyData} (hp : PenOk n pd) (hn : n < 1000000) (h0 : 0 < ds.length) (h1 : ds.length ≤ 1000) :
    ∃ d pd', m__law_pick pd [.list ds] = .ok (d, pd') ∧ d ∈ ds ∧ PenOk (n + 1) pd' := by
  obtain ⟨r, pd', e, r0, r1, hp'⟩ := draw92 (many := ((ds.length : Nat) : Int)) hp hn (by omega) (by omega)
  obtain ⟨j, rfl⟩ := Int.eq_ofNat_of_zero_le r0
  have hj : j < ds.length := by omega
  refine ⟨ds[j], pd', ?_, List.getElem_mem hj, hp'⟩
  have e2 := gIxA_at hj
  simp only [m__law_pick, b__law_pick, s__law_pick_0, startP2, gLen_list, e, e2, ap_var, kVar_sh, ap_cst, ap_ret1, ap_un, kUn_ap, ap_op, kOp_ap, kOp2_ap, ap_nil, ap_cons, kCons_ap, kCons2_ap, ap_app, kApp_ap, ap_tB, kB_ap, ap_not, kNot_ap, ap_and, kAnd_t, kAnd_f, ap_or, kOr_t, kOr_f, ap_dAnd, kDAnd_t, kDAnd_f, ap_dOr, kDOr_t, kDOr_f, ap_dNot, kDNot_ap, ap_dIf, ap_if, kIf_t, kIf_f, ap_chain, kChain_ap, kChain2_ap, kChain3_t, kChain3_f, ap_seq, kSeq_nx, kSeq_rt, kSeq_bk, kSeq_ct, ap_next, ap_set, kSet_ap, ap_setO, kSetO_ap, ap_ret, kRt_ap, ap_frz, kFrz_ow, kSome_s, ap_ixO, kIx_ow, kIx2_ap, kIx3_ap, ap_put, kPut_ap, kPut1_ow, kPut2_ap, kPut3_ap, kPut4_s, res_bind_ok, List.getElem?_cons_zero, List.getElem?_cons_succ, List.set_cons_zero, List.set_cons_succ, ap_callP, kCal_ow, kCal2_0, kCal2_1, kCal2_2, kCal3_ow, kCal4_ap, ap_lc, kLc_ap, ap_for, kFor_ap, ap_iOf, kIof_l, kIof_t, ap_rg, kRg_ap, ap_par, kPar_ap, kPar2_ap, ap_parO, kParO_ap, kParO2_ap, ap_apd, kApd_ow, kApd2_ap, ap_star, kStar_l, kStar3_ap, gN_1, gN_2, gN_3, g1_one, endM_rt, endR_rt, ap_runM, ap_runP]
/-! ### menus -/
abbrev Menu := List (PyData × Str)
def nms : List Str := ["a", "zzzzzzzz", "up", "down", "slide", "end", "abcdefgh", "move", "q"]
def menN : Menu := nms.map fun s => (.str s, s)
def menI : Menu := (nms ++ nms.map (· ++ ("+" : Str)) ++ nms.map (· ++ ("*" : Str))).map fun s => (.str s, s)
def menS : Menu := [(.int 1, "up"), (.int (-1), "down")]
def menR : Menu := [(.int 1, "1"), (.int 16, "16"), (.int 9, "9"), (.int 10, "10")]
def menP : Menu := [(.int 0, "0"), (.int 63, "63"), (.int 10, "10"), (.int 7, "7")]
def menT : Menu := [(.tuple [.int 0], "0"), (.tuple [.int 15], "15"), (.tuple [.int 0, .int 3, .int 4], "0,3,4"), (.tuple [.int 10, .int 9, .int 1], "10,9,1"), (.tuple (rgD 16), "0,1,2,3,4,5,6,7,8,9,10,11,12,13,14,15")]
def formsD : PyData := .dict [(.str "slide", .str "is"), (.str "light", .str "ntp"), (.str "out", .str "n"), (.str "quit", .str "n"), (.str "move", .str "ntp"), (.str "begin", .str "nrtp"), (.str "end", .str "n"), (.str "guard", .str "ntp"), (.str "drop", .str "n")]
def fst (m : Menu) : List PyData := m.map (·.1)
def someD : PyData := .dict [(.str "n", .list (fst menN)), (.str "i", .list (fst menI)), (.str "s", .list (fst menS)), (.str "r", .list (fst menR)), (.str "p", .list (fst menP)), (.str "t", .list (fst menT))]
def wordsL : List PyData := [.str "begin", .str "drop", .str "end", .str "guard", .str "light", .str "move", .str "out", .str "quit", .str "slide"]
def nmsD : PyData := .list (nms.map .str)
/-- the env before the loop -/
def envD (pd w : PyData) : En := [.ow pd, .sh formsD, .sh w, .sh nmsD, .sh someD, .no, .sh (.tuple [w]), .ow (.list [w]), .no, .no, .no]
theorem pre_a (pd : PyData) : (sSeq s__law_drawn_0 s__law_drawn_1) [.ow pd, .no, .no, .no, .no, .no, .no, .no, .no, .no, .no] = .ok (.nx, [.ow pd, .ow formsD, .no, .no, .no, .no, .no, .no, .no, .no, .no]) := by kernel_rfl
theorem pre_b (pd : PyData) : (dApp (g1 gSorted) (dCons (dUn gListOf (dVar 1)) dNil)) [.ow pd, .sh formsD, .no, .no, .no, .no, .no, .no, .no, .no, .no] = .ok (.list wordsL, [.ow pd, .sh formsD, .no, .no, .no, .no, .no, .no, .no, .no, .no]) := by kernel_rfl
theorem pre_c (pd w : PyData) : (sSeq s__law_drawn_3 (sSeq s__law_drawn_4 (sSeq s__law_drawn_5 (sFrz 4 s__law_drawn_6)))) [.ow pd, .sh formsD, .sh w, .no, .no, .no, .no, .no, .no, .no, .no] = .ok (.nx, envD pd w) := by kernel_rfl
end EL
namespace EL
open PySem PySem.Spec PyProof.Rows L2 TL
def envL (pd w x5 f t x8 x9 x10 : Sl) : En := [pd, .sh formsD, w, .sh nmsD, .sh someD, x5, f, t, x8, x9, x10]
abbrev bodyD : Sn := sSeq s__law_drawn_7 (sSeq s__law_drawn_8 s__law_drawn_13)
def KindOk (k : Str) (m : Menu) : Prop := ∀ (pd : PyData) (n : Nat) (w : PyData) (f t : List PyData) (x8 x9 x10 : Sl), PenOk n pd → n < 999000 → f.length < 100 → t.length < 100 →
  ∃ q ∈ m, ∃ pd' x8' x10', PenOk (n + 1) pd' ∧ bodyD (envL (.ow pd) (.sh w) (.sh (.str k)) (.sh (.tuple f)) (.ow (.list t)) x8 x9 x10) =
    .ok (.nx, envL (.ow pd') (.sh w) (.sh (.str k)) (.sh (.tuple (f ++ [q.1]))) (.ow (.list (t ++ [.str q.2]))) x8' x9 x10')
theorem gAdd_tup {xs : List PyData} {y : PyData} (h : xs.length < 100) : gAdd (.tuple xs) (.tuple [y]) = .ok (.tuple (xs ++ [y])) := by
  have h2 : xs.length + [y].length ≤ sizeLine := by
    show xs.length + 1 ≤ sizeLine
    rw [sizeLine_eq]; omega
  show (if xs.length + [y].length ≤ sizeLine then Res.ok (PyData.tuple (xs ++ [y])) else .bad) = _
  rw [if_pos h2]
theorem gTup_1 (y : PyData) : gTup [y] = .ok (.tuple [y]) := rfl
theorem kind_ok {k : Str} {m : Menu} (hix : gIxA someD (.str k) = .ok (.list (fst m))) (h0 : 0 < m.length) (h1 : m.length ≤ 1000)
    (htx : ∀ q ∈ m, ∀ (pd w : PyData) (f t : List PyData) (x9 x10 : Sl), t.length < 100 → ∃ x10', s__law_drawn_13 (envL (.ow pd) (.sh w) (.sh (.str k)) (.sh (.tuple f)) (.ow (.list t)) (.sh q.1) x9 x10) =
      .ok (.nx, envL (.ow pd) (.sh w) (.sh (.str k)) (.sh (.tuple f)) (.ow (.list (t ++ [.str q.2]))) (.sh q.1) x9 x10')) : KindOk k m := by
  intro pd n w f t x8 x9 x10 hp hn hf ht
  obtain ⟨d, pd', e, hd, hp'⟩ := pick92 (ds := fst m) hp (by omega) (by unfold fst; rw [List.length_map]; exact h0) (by unfold fst; rw [List.length_map]; exact h1)
  obtain ⟨q, hq, rfl⟩ := List.mem_map.mp hd
  obtain ⟨x10', e2⟩ := htx q hq pd' w (f ++ [q.1]) t x9 x10 ht
  refine ⟨q, hq, pd', .sh q.1, x10', hp', ?_⟩
  unfold envL at e2 ⊢
  simp only [bodyD, s__law_drawn_7, s__law_drawn_8, hix, e, gAdd_tup hf, gTup_1, e2, ap_var, kVar_sh, ap_cst, ap_ret1, ap_un, kUn_ap, ap_op, kOp_ap, kOp2_ap, ap_nil, ap_cons, kCons_ap, kCons2_ap, ap_app, kApp_ap, ap_tB, kB_ap, ap_not, kNot_ap, ap_and, kAnd_t, kAnd_f, ap_or, kOr_t, kOr_f, ap_dAnd, kDAnd_t, kDAnd_f, ap_dOr, kDOr_t, kDOr_f, ap_dNot, kDNot_ap, ap_dIf, ap_if, kIf_t, kIf_f, ap_chain, kChain_ap, kChain2_ap, kChain3_t, kChain3_f, ap_seq, kSeq_nx, kSeq_rt, kSeq_bk, kSeq_ct, ap_next, ap_set, kSet_ap, ap_setO, kSetO_ap, ap_ret, kRt_ap, ap_frz, kFrz_ow, kSome_s, ap_ixO, kIx_ow, kIx2_ap, kIx3_ap, ap_put, kPut_ap, kPut1_ow, kPut2_ap, kPut3_ap, kPut4_s, res_bind_ok, List.getElem?_cons_zero, List.getElem?_cons_succ, List.set_cons_zero, List.set_cons_succ, ap_callP, kCal_ow, kCal2_0, kCal2_1, kCal2_2, kCal3_ow, kCal4_ap, ap_lc, kLc_ap, ap_for, kFor_ap, ap_iOf, kIof_l, kIof_t, ap_rg, kRg_ap, ap_par, kPar_ap, kPar2_ap, ap_parO, kParO_ap, kParO2_ap, ap_apd, kApd_ow, kApd2_ap, ap_star, kStar_l, kStar3_ap, gN_1, gN_2, gN_3, g1_one, endM_rt, endR_rt, ap_runM, ap_runP]
theorem s13_str {k : Str} {q : PyData × Str} (hs : gStr q.1 = .ok (.str q.2)) (h1 : gEqA (.str k) (.str "t") = .ok (.bool false)) (h2 : gEqA (.str k) (.str "s") = .ok (.bool false)) (pd w : PyData) (f t : List PyData) (x9 x10 : Sl) (ht : t.length < 100) :
    s__law_drawn_13 (envL (.ow pd) (.sh w) (.sh (.str k)) (.sh (.tuple f)) (.ow (.list t)) (.sh q.1) x9 x10) = .ok (.nx, envL (.ow pd) (.sh w) (.sh (.str k)) (.sh (.tuple f)) (.ow (.list (t ++ [.str q.2]))) (.sh q.1) x9 x10) := by
  unfold envL
  have h3 : t.length < 1000 := by omega
  simp only [s__law_drawn_13, s__law_drawn_12, s__law_drawn_11, h1, h2, hs, kApd3_ap _ _ _ t h3, ap_var, kVar_sh, ap_cst, ap_ret1, ap_un, kUn_ap, ap_op, kOp_ap, kOp2_ap, ap_nil, ap_cons, kCons_ap, kCons2_ap, ap_app, kApp_ap, ap_tB, kB_ap, ap_not, kNot_ap, ap_and, kAnd_t, kAnd_f, ap_or, kOr_t, kOr_f, ap_dAnd, kDAnd_t, kDAnd_f, ap_dOr, kDOr_t, kDOr_f, ap_dNot, kDNot_ap, ap_dIf, ap_if, kIf_t, kIf_f, ap_chain, kChain_ap, kChain2_ap, kChain3_t, kChain3_f, ap_seq, kSeq_nx, kSeq_rt, kSeq_bk, kSeq_ct, ap_next, ap_set, kSet_ap, ap_setO, kSetO_ap, ap_ret, kRt_ap, ap_frz, kFrz_ow, kSome_s, ap_ixO, kIx_ow, kIx2_ap, kIx3_ap, ap_put, kPut_ap, kPut1_ow, kPut2_ap, kPut3_ap, kPut4_s, res_bind_ok, List.getElem?_cons_zero, List.getElem?_cons_succ, List.set_cons_zero, List.set_cons_succ, ap_callP, kCal_ow, kCal2_0, kCal2_1, kCal2_2, kCal3_ow, kCal4_ap, ap_lc, kLc_ap, ap_for, kFor_ap, ap_iOf, kIof_l, kIof_t, ap_rg, kRg_ap, ap_par, kPar_ap, kPar2_ap, ap_parO, kParO_ap, kParO2_ap, ap_apd, kApd_ow, kApd2_ap, ap_star, kStar_l, kStar3_ap, gN_1, gN_2, gN_3, g1_one, endM_rt, endR_rt, ap_runM, ap_runP]
theorem all_isD {m : Menu} {F : PyData → Res PyData} {G : Str → PyData} (h : (m.all fun q => isD (F q.1) (G q.2)) = true) : ∀ q ∈ m, F q.1 = .ok (G q.2) := fun q hq => isD_eq (List.all_eq_true.mp h q hq)
theorem kN : KindOk "n" menN := kind_ok (by kernel_rfl) (by decide) (by decide) fun q hq pd w f t x9 x10 ht => ⟨x10, s13_str (all_isD (G := .str) (m := menN) (F := gStr) (by decide +kernel) q hq) (by kernel_rfl) (by kernel_rfl) pd w f t x9 x10 ht⟩
theorem kI : KindOk "i" menI := kind_ok (by kernel_rfl) (by decide) (by decide) fun q hq pd w f t x9 x10 ht => ⟨x10, s13_str (all_isD (G := .str) (m := menI) (F := gStr) (by decide +kernel) q hq) (by kernel_rfl) (by kernel_rfl) pd w f t x9 x10 ht⟩
theorem kR : KindOk "r" menR := kind_ok (by kernel_rfl) (by decide) (by decide) fun q hq pd w f t x9 x10 ht => ⟨x10, s13_str (all_isD (G := .str) (m := menR) (F := gStr) (by decide +kernel) q hq) (by kernel_rfl) (by kernel_rfl) pd w f t x9 x10 ht⟩
theorem kP : KindOk "p" menP := kind_ok (by kernel_rfl) (by decide) (by decide) fun q hq pd w f t x9 x10 ht => ⟨x10, s13_str (all_isD (G := .str) (m := menP) (F := gStr) (by decide +kernel) q hq) (by kernel_rfl) (by kernel_rfl) pd w f t x9 x10 ht⟩
theorem upD (en : En) : dDisp [((dCst (.int (1))), (dCst (.str "up"))), ((dUn gNeg (dCst (.int (1)))), (dCst (.str "down")))] en = .ok (.dict [(.int 1, .str "up"), (.int (-1), .str "down")], en) := by kernel_rfl
theorem kS : KindOk "s" menS := kind_ok (by kernel_rfl) (by decide) (by decide) fun q hq pd w f t x9 x10 ht => by
  have h1 : gEqA (.str "s") (.str "t") = .ok (.bool false) := by kernel_rfl
  have h2 : gEqA (.str "s") (.str "s") = .ok (.bool true) := by kernel_rfl
  have h3 : t.length < 1000 := by omega
  have h4 : gIxA (.dict [(.int 1, .str "up"), (.int (-1), .str "down")]) q.1 = .ok (.str q.2) := all_isD (G := .str) (m := menS) (F := gIxA (.dict [(.int 1, .str "up"), (.int (-1), .str "down")])) (by decide +kernel) q hq
  refine ⟨x10, ?_⟩
  unfold envL
  simp only [s__law_drawn_13, s__law_drawn_12, s__law_drawn_10, h1, h2, upD, h4, kApd3_ap _ _ _ t h3, ap_var, kVar_sh, ap_cst, ap_ret1, ap_un, kUn_ap, ap_op, kOp_ap, kOp2_ap, ap_nil, ap_cons, kCons_ap, kCons2_ap, ap_app, kApp_ap, ap_tB, kB_ap, ap_not, kNot_ap, ap_and, kAnd_t, kAnd_f, ap_or, kOr_t, kOr_f, ap_dAnd, kDAnd_t, kDAnd_f, ap_dOr, kDOr_t, kDOr_f, ap_dNot, kDNot_ap, ap_dIf, ap_if, kIf_t, kIf_f, ap_chain, kChain_ap, kChain2_ap, kChain3_t, kChain3_f, ap_seq, kSeq_nx, kSeq_rt, kSeq_bk, kSeq_ct, ap_next, ap_set, kSet_ap, ap_setO, kSetO_ap, ap_ret, kRt_ap, ap_frz, kFrz_ow, kSome_s, ap_ixO, kIx_ow, kIx2_ap, kIx3_ap, ap_put, kPut_ap, kPut1_ow, kPut2_ap, kPut3_ap, kPut4_s, res_bind_ok, List.getElem?_cons_zero, List.getElem?_cons_succ, List.set_cons_zero, List.set_cons_succ, ap_callP, kCal_ow, kCal2_0, kCal2_1, kCal2_2, kCal3_ow, kCal4_ap, ap_lc, kLc_ap, ap_for, kFor_ap, ap_iOf, kIof_l, kIof_t, ap_rg, kRg_ap, ap_par, kPar_ap, kPar2_ap, ap_parO, kParO_ap, kParO2_ap, ap_apd, kApd_ow, kApd2_ap, ap_star, kStar_l, kStar3_ap, gN_1, gN_2, gN_3, g1_one, endM_rt, endR_rt, ap_runM, ap_runP]
theorem kT : KindOk "t" menT := kind_ok (by kernel_rfl) (by decide) (by decide) fun q hq pd w f t x9 x10 ht => by
  have h1 : gEqA (.str "t") (.str "t") = .ok (.bool true) := by kernel_rfl
  have h3 : t.length < 1000 := by omega
  have h4 : ∀ q ∈ menT, (dOp gJoin (dCst (.str ",")) (dLc (iOf (dVar 8)) (gNm 10) tYesD (dApp (g1 gStr) (dCons (dVar 10) dNil)) [10])) [.ow pd, .sh formsD, .sh w, .sh nmsD, .sh someD, .sh (.str "t"), .sh (.tuple f), .ow (.list t), .sh q.1, x9, x10] =
      .ok (.str q.2, [.ow pd, .sh formsD, .sh w, .sh nmsD, .sh someD, .sh (.str "t"), .sh (.tuple f), .ow (.list t), .sh q.1, x9, .no]) := by
    intro q hq
    rcases List.mem_cons.mp hq with rfl | hq
    · kernel_rfl
    rcases List.mem_cons.mp hq with rfl | hq
    · kernel_rfl
    rcases List.mem_cons.mp hq with rfl | hq
    · kernel_rfl
    rcases List.mem_cons.mp hq with rfl | hq
    · kernel_rfl
    rcases List.mem_cons.mp hq with rfl | hq
    · kernel_rfl
    cases hq
  have h5 := h4 q hq
  refine ⟨.no, ?_⟩
  unfold envL
  simp only [s__law_drawn_13, s__law_drawn_9, h1, ap_if, ap_tB, ap_op _ gEqA, ap_var, kVar_sh, ap_cst, kOp_ap, kOp2_ap, res_bind_ok, ap_ret1, kB_ap, kIf_t, List.getElem?_cons_zero, List.getElem?_cons_succ, ap_apd, kApd_ow, h5, kApd2_ap, kApd3_ap _ _ _ t h3, List.set_cons_zero, List.set_cons_succ]
inductive Picks : List (Str × Menu) → Menu → Prop
  | nil : Picks [] []
  | cons {k : Str} {m : Menu} {q : PyData × Str} {r : List (Str × Menu)} {s : Menu} : q ∈ m → Picks r s → Picks ((k, m) :: r) (q :: s)
theorem loop_ok : ∀ (kms : List (Str × Menu)), (∀ km ∈ kms, KindOk km.1 km.2) → ∀ (pd : PyData) (n : Nat) (w : PyData) (f t : List PyData) (x5 x8 x9 x10 : Sl), PenOk n pd → n + kms.length < 999000 → f.length + kms.length < 100 → t.length + kms.length < 100 →
    ∃ qs pd' x5' x8' x10', Picks kms qs ∧ PenOk (n + kms.length) pd' ∧ loopF (gNm 5) bodyD (kms.map fun km => .str km.1) (envL (.ow pd) (.sh w) x5 (.sh (.tuple f)) (.ow (.list t)) x8 x9 x10) =
      .ok (.nx, envL (.ow pd') (.sh w) x5' (.sh (.tuple (f ++ qs.map (·.1)))) (.ow (.list (t ++ qs.map fun q => .str q.2))) x8' x9 x10')
  | [], _, pd, n, w, f, t, x5, x8, x9, x10, hp, _, _, _ => ⟨[], pd, x5, x8, x10, .nil, hp, by simp only [List.map_nil, List.append_nil]; rfl⟩
  | km :: r, h, pd, n, w, f, t, x5, x8, x9, x10, hp, h1, h2, h3 => by
    obtain ⟨k, m⟩ := km
    rw [List.length_cons] at h1 h2 h3
    obtain ⟨q, hq, pd1, x8', x10', hp1, e1⟩ := h (k, m) List.mem_cons_self pd n w f t x8 x9 x10 hp (by omega) (by omega) (by omega)
    obtain ⟨qs, pd', x5', x8'', x10'', hP, hp', e2⟩ := loop_ok r (fun z hz => h z (List.mem_cons_of_mem _ hz)) pd1 (n + 1) w (f ++ [q.1]) (t ++ [.str q.2]) (.sh (.str k)) x8' x9 x10' hp1 (by omega) (by rw [List.length_append]; show f.length + 1 + _ < _; omega) (by rw [List.length_append]; show t.length + 1 + _ < _; omega)
    refine ⟨q :: qs, pd', x5', x8'', x10'', .cons hq hP, by rw [List.length_cons, show n + (r.length + 1) = n + 1 + r.length by omega]; exact hp', ?_⟩
    rw [List.append_assoc, List.append_assoc] at e2
    show Res.bind (bodyD (envL (.ow pd) (.sh w) (.sh (.str k)) (.sh (.tuple f)) (.ow (.list t)) x8 x9 x10)) _ = _
    rw [e1]
    exact e2
/-- words and their kinds -/
def wordT : List (Str × List (Str × Menu)) := [("begin", [("n", menN), ("r", menR), ("t", menT), ("p", menP)]), ("drop", [("n", menN)]), ("end", [("n", menN)]), ("guard", [("n", menN), ("t", menT), ("p", menP)]), ("light", [("n", menN), ("t", menT), ("p", menP)]),
  ("move", [("n", menN), ("t", menT), ("p", menP)]), ("out", [("n", menN)]), ("quit", [("n", menN)]), ("slide", [("i", menI), ("s", menS)])]
theorem wordT_ok : ∀ x ∈ wordT, (∀ km ∈ x.2, KindOk km.1 km.2) ∧ gIxA formsD (.str x.1) = .ok (.str (Txt.join "" (x.2.map (·.1)))) ∧ parts (.str (Txt.join "" (x.2.map (·.1)))) = .ok (x.2.map fun km => .str km.1) ∧ x.2.length ≤ 4 ∧ x.1.length ≤ 40 := by
  intro x hx
  simp only [wordT, List.mem_cons, List.not_mem_nil, or_false] at hx
  rcases hx with rfl | rfl | rfl | rfl | rfl | rfl | rfl | rfl | rfl
  all_goals refine ⟨?_, by kernel_rfl, by kernel_rfl, by decide, by decide⟩
  all_goals simp only [List.forall_mem_cons]
  · exact ⟨kN, kR, kT, kP, (fun _ h => nomatch h)⟩
  · exact ⟨kN, (fun _ h => nomatch h)⟩
  · exact ⟨kN, (fun _ h => nomatch h)⟩
  · exact ⟨kN, kT, kP, (fun _ h => nomatch h)⟩
  · exact ⟨kN, kT, kP, (fun _ h => nomatch h)⟩
  · exact ⟨kN, kT, kP, (fun _ h => nomatch h)⟩
  · exact ⟨kN, (fun _ h => nomatch h)⟩
  · exact ⟨kN, (fun _ h => nomatch h)⟩
  · exact ⟨kI, kS, (fun _ h => nomatch h)⟩
end EL
namespace EL
open PySem PySem.Spec PyProof.Rows L2 TL
def formsD0 : PyData := .dict [(.str "slide", .str "is"), (.str "light", .str "ntp"), (.str "out", .str "n"), (.str "quit", .str "n"), (.str "move", .str "ntp"), (.str "begin", .str "nrtp"), (.str "end", .str "n")]
def someD0 : PyData := .dict [(.str "n", .list (fst menN)), (.str "i", .list (fst menI)), (.str "s", .list (fst menS))]
theorem pre0 (pd : PyData) : s__law_drawn_0 [.ow pd, .no, .no, .no, .no, .no, .no, .no, .no, .no, .no] = .ok (.nx, [.ow pd, .ow formsD0, .no, .no, .no, .no, .no, .no, .no, .no, .no]) := by kernel_rfl
theorem pre1 (pd : PyData) : s__law_drawn_1 [.ow pd, .ow formsD0, .no, .no, .no, .no, .no, .no, .no, .no, .no] = .ok (.nx, [.ow pd, .ow formsD, .no, .no, .no, .no, .no, .no, .no, .no, .no]) := by kernel_rfl
theorem pre3 (pd w : PyData) : s__law_drawn_3 [.ow pd, .sh formsD, .sh w, .no, .no, .no, .no, .no, .no, .no, .no] = .ok (.nx, [.ow pd, .sh formsD, .sh w, .sh nmsD, .no, .no, .no, .no, .no, .no, .no]) := by kernel_rfl
theorem pre4 (pd w : PyData) : s__law_drawn_4 [.ow pd, .sh formsD, .sh w, .sh nmsD, .no, .no, .no, .no, .no, .no, .no] = .ok (.nx, [.ow pd, .sh formsD, .sh w, .sh nmsD, .ow someD0, .no, .no, .no, .no, .no, .no]) := by kernel_rfl
theorem pre5 (pd w : PyData) : s__law_drawn_5 [.ow pd, .sh formsD, .sh w, .sh nmsD, .ow someD0, .no, .no, .no, .no, .no, .no] = .ok (.nx, [.ow pd, .sh formsD, .sh w, .sh nmsD, .ow someD, .no, .no, .no, .no, .no, .no]) := by kernel_rfl
theorem pre6 (pd w : PyData) : s__law_drawn_6 [.ow pd, .sh formsD, .sh w, .sh nmsD, .sh someD, .no, .no, .no, .no, .no, .no] = .ok (.nx, [.ow pd, .sh formsD, .sh w, .sh nmsD, .sh someD, .no, .sh (.tuple [w]), .ow (.list [w]), .no, .no, .no]) := by kernel_rfl
theorem kIof_s (en : En) (z : Str) : kIof (.str z, en) = (parts (.str z)).bind (kRet en) := rfl
theorem gTup_2 (x y : PyData) : gTup [x, y] = .ok (.tuple [x, y]) := rfl
theorem startP11 (pd : PyData) : startP 11 pd [] = [.ow pd, .no, .no, .no, .no, .no, .no, .no, .no, .no, .no] := rfl
theorem PenOk.mono {n m : Nat} {pd : PyData} (h : PenOk n pd) (l : n ≤ m) : PenOk m pd := by
  obtain ⟨ns, t, g, e, h1, h2, h3⟩ := h
  exact ⟨ns, t, g, e, h1, h2, by omega⟩
theorem Picks.len {kms : List (Str × Menu)} {qs : Menu} (h : Picks kms qs) : qs.length = kms.length := by
  induction h with
  | nil => rfl
  | cons _ _ ih => rw [List.length_cons, List.length_cons, ih]
theorem Picks.all {kms : List (Str × Menu)} {qs : Menu} {P : PyData × Str → Prop} (h : Picks kms qs) (a : ∀ km ∈ kms, ∀ q ∈ km.2, P q) : ∀ q ∈ qs, P q := by
  induction h with
  | nil => intro q h; cases h
  | cons hq _ ih =>
    intro q h
    rcases List.mem_cons.mp h with rfl | h
    · exact a _ List.mem_cons_self q hq
    · exact ih (fun km hk => a km (List.mem_cons_of_mem _ hk)) q h
def plainT (s : Str) : Bool := decide (s.length ≤ 40) && decide (32 ∉ tl s) && decide (10 ∉ tl s) && decide (s.length ≠ 0) && PyData.strOk s
def plainQ (q : PyData × Str) : Bool := plainT q.2 && nice q.1 && decide (q.1.depth ≤ 1) && decide (q.1.weight ≤ 150)
theorem wordT_plain : (wordT.all fun x => plainT x.1 && x.2.all fun km => km.2.all plainQ) = true := by decide +kernel
theorem word_plain {x : Str × List (Str × Menu)} (h : x ∈ wordT) : plainT x.1 = true ∧ ∀ km ∈ x.2, ∀ q ∈ km.2, plainQ q = true := by
  have h1 := List.all_eq_true.mp wordT_plain x h
  rw [Bool.and_eq_true] at h1
  exact ⟨h1.1, fun km hk q hq => List.all_eq_true.mp (List.all_eq_true.mp h1.2 km hk) q hq⟩
theorem plain_parts {s : Str} (h : plainT s = true) : s.length ≤ 40 ∧ 32 ∉ tl s ∧ 10 ∉ tl s ∧ s.length ≠ 0 ∧ PyData.strOk s = true := by
  unfold plainT at h
  simp only [Bool.and_eq_true, decide_eq_true_eq] at h
  exact ⟨h.1.1.1.1, h.1.1.1.2, h.1.1.2, h.1.2, h.2⟩
theorem plainQ_parts {q : PyData × Str} (h : plainQ q = true) : plainT q.2 = true ∧ nice q.1 = true ∧ q.1.depth ≤ 1 ∧ q.1.weight ≤ 150 := by
  unfold plainQ at h
  simp only [Bool.and_eq_true, decide_eq_true_eq] at h
  exact ⟨h.1.1.1, h.1.1.2, h.1.2, h.2⟩
/-- the row's texts -/
def rowS (word : Str) (qs : Menu) : List Str := word :: qs.map (·.2)
def rowD (word : Str) (qs : Menu) : PyData := .tuple (.str word :: qs.map (·.1))
structure IsRow (word : Str) (kms : List (Str × Menu)) (qs : Menu) : Prop where
  inT : (word, kms) ∈ wordT
  pk : Picks kms qs
theorem IsRow.texts {word : Str} {kms : List (Str × Menu)} {qs : Menu} (h : IsRow word kms qs) : ∀ s ∈ rowS word qs, plainT s = true := by
  have h1 := word_plain h.inT
  have h2 := h.pk.all h1.2
  intro s hs
  rcases List.mem_cons.mp hs with rfl | hs
  · exact h1.1
  · obtain ⟨q, hq, rfl⟩ := List.mem_map.mp hs
    exact (plainQ_parts (h2 q hq)).1
theorem IsRow.few {word : Str} {kms : List (Str × Menu)} {qs : Menu} (h : IsRow word kms qs) : qs.length ≤ 4 := by
  rw [h.pk.len]
  exact (wordT_ok _ h.inT).2.2.2.1
theorem IsRow.joins {word : Str} {kms : List (Str × Menu)} {qs : Menu} (h : IsRow word kms qs) : gJoin (.str " ") (.list ((rowS word qs).map .str)) = .ok (.str (Txt.join " " (rowS word qs))) := by
  refine gJoin_l (B := 40) (fun s hs => (plain_parts (h.texts s hs)).1) ?_
  have := h.few
  show (qs.map (·.2)).length.succ * (40 + 1) ≤ 1000000
  rw [List.length_map]
  omega
theorem drawn_ok {pd : PyData} {n : Nat} (hp : PenOk n pd) (hn : n < 900000) :
    ∃ word kms qs pd', IsRow word kms qs ∧ PenOk (n + 5) pd' ∧ m__law_drawn pd [] = .ok (.tuple [rowD word qs, .str (Txt.join " " (rowS word qs))], pd') := by
  obtain ⟨w, pd1, e1, hw, hp1⟩ := pick92 (ds := wordsL) hp (by omega) (by decide) (by decide)
  obtain ⟨x, hx, rfl⟩ : ∃ x ∈ wordT, w = .str x.1 := by
    have e : wordsL = wordT.map fun x => .str x.1 := rfl
    rw [e] at hw
    obtain ⟨x, hx, rfl⟩ := List.mem_map.mp hw
    exact ⟨x, hx, rfl⟩
  obtain ⟨word, kms⟩ := x
  obtain ⟨hk, h2, h3, h4, h5⟩ := wordT_ok _ hx
  obtain ⟨qs, pd2, x5, x8, x10, hP, hp2, e2⟩ := loop_ok kms hk pd1 (n + 1) (.str word) [.str word] [.str word] .no .no .no .no hp1 (by have : kms.length ≤ 4 := h4; omega) (by have : kms.length ≤ 4 := h4; show 1 + _ < _; omega) (by have : kms.length ≤ 4 := h4; show 1 + _ < _; omega)
  have hr : IsRow word kms qs := ⟨hx, hP⟩
  have e3 := hr.joins
  have e4 : [PyData.str word] ++ qs.map (fun q => .str q.2) = (rowS word qs).map .str := by
    unfold rowS
    rw [List.map_cons, List.map_map]
    rfl
  rw [e4] at e2
  unfold envL at e2
  refine ⟨word, kms, qs, pd2, hr, hp2.mono (by have : kms.length ≤ 4 := h4; omega), ?_⟩
  simp only [] at h2 h3 e1
  simp only [bodyD, List.singleton_append] at e2
  have p1 : gListOf formsD = .ok (.list [.str "slide", .str "light", .str "out", .str "quit", .str "move", .str "begin", .str "end", .str "guard", .str "drop"]) := by kernel_rfl
  have p2 : gSorted (.list [.str "slide", .str "light", .str "out", .str "quit", .str "move", .str "begin", .str "end", .str "guard", .str "drop"]) = .ok (.list wordsL) := by kernel_rfl
  simp only [m__law_drawn, b__law_drawn, startP11, pre0, pre1, pre3, pre4, pre5, pre6, s__law_drawn_2, p1, p2, e1, s__law_drawn_14, s__law_drawn_15, h2, kIof_s, h3, e2, e3, gTup_2, rowD, List.singleton_append, ap_var, kVar_sh, ap_cst, ap_ret1, ap_un, kUn_ap, ap_op, kOp_ap, kOp2_ap, ap_nil, ap_cons, kCons_ap, kCons2_ap, ap_app, kApp_ap, ap_tB, kB_ap, ap_not, kNot_ap, ap_and, kAnd_t, kAnd_f, ap_or, kOr_t, kOr_f, ap_dAnd, kDAnd_t, kDAnd_f, ap_dOr, kDOr_t, kDOr_f, ap_dNot, kDNot_ap, ap_dIf, ap_if, kIf_t, kIf_f, ap_chain, kChain_ap, kChain2_ap, kChain3_t, kChain3_f, ap_seq, kSeq_nx, kSeq_rt, kSeq_bk, kSeq_ct, ap_next, ap_set, kSet_ap, ap_setO, kSetO_ap, ap_ret, kRt_ap, ap_frz, kFrz_ow, kSome_s, ap_ixO, kIx_ow, kIx2_ap, kIx3_ap, ap_put, kPut_ap, kPut1_ow, kPut2_ap, kPut3_ap, kPut4_s, res_bind_ok, List.getElem?_cons_zero, List.getElem?_cons_succ, List.set_cons_zero, List.set_cons_succ, ap_callP, kCal_ow, kCal2_0, kCal2_1, kCal2_2, kCal3_ow, kCal4_ap, ap_lc, kLc_ap, ap_for, kFor_ap, ap_iOf, kIof_l, kIof_t, ap_rg, kRg_ap, ap_par, kPar_ap, kPar2_ap, ap_parO, kParO_ap, kParO2_ap, ap_apd, kApd_ow, kApd2_ap, ap_star, kStar_l, kStar3_ap, gN_1, gN_2, gN_3, g1_one, endM_rt, endR_rt, ap_runM, ap_runP]
end EL
namespace EL
open PySem PySem.Spec PyProof.Rows L2 TL
/-! ### a row's parts, with the names of their kinds -/
abbrev Tri := Str × (PyData × Str)
def kname (k : Str) : Str := if k = "n" then "name" else if k = "i" then "item" else if k = "s" then "step" else if k = "r" then "rate" else if k = "t" then "route" else "place"
structure GoodT (x : Tri) : Prop where
  w : m_part_word [.str x.1, x.2.1] = .ok (.str x.2.2)
  v : m_value_in [.str x.1, .str x.2.2] = .ok x.2.1
  p : m_is_part [.str x.1, x.2.1] = .ok (.bool true)
  n : isNone x.2.1 = false
def goodB (k : Str) (q : PyData × Str) : Bool := isD (m_part_word [.str (kname k), q.1]) (.str q.2) && isD (m_value_in [.str (kname k), .str q.2]) q.1 && isD (m_is_part [.str (kname k), q.1]) (.bool true) && !isNone q.1
theorem kinds_good : ∀ km ∈ ([("n", menN), ("r", menR), ("t", menT), ("p", menP), ("i", menI), ("s", menS)] : List (Str × Menu)), (km.2.all (goodB km.1)) = true := by
  simp only [List.forall_mem_cons]
  exact ⟨by decide +kernel, by decide +kernel, by decide +kernel, by decide +kernel, by decide +kernel, by decide +kernel, fun _ h => nomatch h⟩
theorem good_of {k : Str} {q : PyData × Str} (h : goodB k q = true) : GoodT (kname k, q) := by
  unfold goodB at h
  simp only [Bool.and_eq_true, Bool.not_eq_true'] at h
  exact ⟨isD_eq h.1.1.1, isD_eq h.1.1.2, isD_eq h.1.2, h.2⟩
theorem wordT_in : ∀ x ∈ wordT, ∀ km ∈ x.2, (km.2.all (goodB km.1)) = true := by
  have e := kinds_good
  simp only [List.forall_mem_cons] at e
  obtain ⟨hN, hR, hT, hP, hI, hS, _⟩ := e
  simp only [wordT, List.forall_mem_cons]
  exact ⟨⟨hN, hR, hT, hP, fun _ h => nomatch h⟩, ⟨hN, fun _ h => nomatch h⟩, ⟨hN, fun _ h => nomatch h⟩, ⟨hN, hT, hP, fun _ h => nomatch h⟩, ⟨hN, hT, hP, fun _ h => nomatch h⟩, ⟨hN, hT, hP, fun _ h => nomatch h⟩, ⟨hN, fun _ h => nomatch h⟩, ⟨hN, fun _ h => nomatch h⟩, ⟨hI, hS, fun _ h => nomatch h⟩, fun _ h => nomatch h⟩
theorem wordT_form : ∀ x ∈ wordT, gIxK tb_MOVE_FORMS (.str x.1) = .ok (.tuple (x.2.map fun km => .str (kname km.1))) ∧ gNotInK tb_MOVE_FORMS (.str x.1) = .ok (.bool false) := by
  simp only [wordT, List.forall_mem_cons]
  refine ⟨⟨by kernel_rfl, by kernel_rfl⟩, ⟨by kernel_rfl, by kernel_rfl⟩, ⟨by kernel_rfl, by kernel_rfl⟩, ⟨by kernel_rfl, by kernel_rfl⟩, ⟨by kernel_rfl, by kernel_rfl⟩, ⟨by kernel_rfl, by kernel_rfl⟩, ⟨by kernel_rfl, by kernel_rfl⟩, ⟨by kernel_rfl, by kernel_rfl⟩, ⟨by kernel_rfl, by kernel_rfl⟩, fun _ h => nomatch h⟩
theorem picks_tri : ∀ {kms : List (Str × Menu)} {qs : Menu}, Picks kms qs → (∀ km ∈ kms, (km.2.all (goodB km.1)) = true) → ∃ T : List Tri, T.map (·.2) = qs ∧ T.map (·.1) = kms.map (fun km => kname km.1) ∧ ∀ x ∈ T, GoodT x
  | _, _, .nil, _ => ⟨[], rfl, rfl, fun _ h => nomatch h⟩
  | _, _, .cons (k := k) (q := q) hq r, h => by
    obtain ⟨T, h1, h2, h3⟩ := picks_tri r fun km hk => h km (List.mem_cons_of_mem _ hk)
    refine ⟨(kname k, q) :: T, by rw [List.map_cons, h1], by rw [List.map_cons, List.map_cons, h2], fun x hx => ?_⟩
    rcases List.mem_cons.mp hx with rfl | hx
    · exact good_of (List.all_eq_true.mp (h _ List.mem_cons_self) q hq)
    · exact h3 x hx
/-- what a row is, in plain words -/
structure Row (word : Str) (T : List Tri) : Prop where
  good : ∀ x ∈ T, GoodT x
  few : T.length ≤ 4
  some_ : 1 ≤ T.length
  form : gIxK tb_MOVE_FORMS (.str word) = .ok (.tuple (T.map fun x => .str x.1))
  known : gNotInK tb_MOVE_FORMS (.str word) = .ok (.bool false)
  plain : ∀ s ∈ word :: T.map (·.2.2), plainT s = true
  nice_ : ∀ x ∈ T, nice x.2.1 = true ∧ x.2.1.depth ≤ 1 ∧ x.2.1.weight ≤ 150
def Row.D (word : Str) (T : List Tri) : PyData := .tuple (.str word :: T.map (·.2.1))
def Row.S (word : Str) (T : List Tri) : List Str := word :: T.map (·.2.2)
def Row.X (word : Str) (T : List Tri) : Str := Txt.join " " (Row.S word T)
theorem IsRow.row {word : Str} {kms : List (Str × Menu)} {qs : Menu} (h : IsRow word kms qs) : ∃ T, Row word T ∧ rowD word qs = Row.D word T ∧ rowS word qs = Row.S word T := by
  obtain ⟨T, h1, h2, h3⟩ := picks_tri h.pk (wordT_in _ h.inT)
  have hl : T.length = kms.length := by
    have := congrArg List.length h2
    rwa [List.length_map, List.length_map] at this
  have hf := wordT_form _ h.inT
  have ht := h.texts
  have hw := word_plain h.inT
  have hq := h.pk.all hw.2
  have e1 : qs.map (·.2) = T.map (·.2.2) := by rw [← h1, List.map_map]; rfl
  have e2 : qs.map (·.1) = T.map (·.2.1) := by rw [← h1, List.map_map]; rfl
  have h1l : ∀ x ∈ wordT, 1 ≤ x.2.length := by decide +kernel
  refine ⟨T, ⟨h3, by rw [hl]; exact (wordT_ok _ h.inT).2.2.2.1, by rw [hl]; exact h1l _ h.inT, ?_, hf.2, ?_, ?_⟩, ?_, ?_⟩
  · have e : (kms.map fun km => PyData.str (kname km.1)) = T.map fun x => .str x.1 := by
      have := congrArg (List.map PyData.str) h2
      rw [List.map_map, List.map_map] at this
      exact this.symm
    rw [← e]
    exact hf.1
  · intro s hs
    rw [← e1] at hs
    exact ht s hs
  · intro x hx
    have := hq x.2 (by rw [← h1]; exact List.mem_map_of_mem hx)
    exact (plainQ_parts this).2
  · unfold rowD Row.D; rw [e2]
  · unfold rowS Row.S; rw [e1]
/-! ### runs over them -/
theorem lc_mapT {α : Type} {g : Gn} {te : Dn} {vs : List Nat} {E : En} {A B : α → PyData} : ∀ {T : List α} (acc : List PyData), (∀ x ∈ T, ∃ e1 e2, g (A x) E = .ok e1 ∧ te e1 = .ok (B x, e2) ∧ wipeE e2 vs = E) → lcF g tYesD te vs (T.map A) acc E = .ok (.list (acc ++ T.map B), E)
  | [], acc, _ => by
    show Res.ok (PyData.list acc, E) = _
    rw [List.map_nil, List.append_nil]
  | x :: T, acc, h => by
    obtain ⟨e1, e2, h1, h2, h3⟩ := h x List.mem_cons_self
    have ih := lc_mapT (T := T) (acc ++ [B x]) fun y hy => h y (List.mem_cons_of_mem _ hy)
    show Res.bind (g (A x) E) _ = _
    rw [h1]
    show Res.bind (te e1) _ = _
    rw [h2]
    show lcF g tYesD te vs (T.map A) (acc ++ [B x]) (wipeE e2 vs) = _
    rw [h3, ih, List.map_cons, List.append_assoc]
    rfl
theorem ix0 (x : PyData) (r : List PyData) : gIxA (.tuple (x :: r)) (.int 0) = .ok x := by
  have e : atI (x :: r) ((0 : Nat) : Int) = some x := atI_nat rfl
  show (match atI (x :: r) ((0 : Nat) : Int) with
    | some d => Res.ok d
    | none => .bad) = _
  rw [e]
theorem ix0l (x : PyData) (r : List PyData) : gIxA (.list (x :: r)) (.int 0) = .ok x := by
  have e : atI (x :: r) ((0 : Nat) : Int) = some x := atI_nat rfl
  show (match atI (x :: r) ((0 : Nat) : Int) with
    | some d => Res.ok d
    | none => .bad) = _
  rw [e]
theorem cut1 {α : Type} (x : α) (r : List α) : cutD (x :: r) (some 1) none = r := by
  unfold cutD
  rw [show HT.sIx (x :: r).length 0 (some 1) = min 1 (x :: r).length from HT.sIx_nat (x :: r).length 0 1, HT.sIx_none]
  rw [show min 1 (x :: r).length = 1 by rw [List.length_cons]; omega]
  show (List.take ((x :: r).length - 1) r) = r
  rw [List.length_cons, Nat.add_sub_cancel]
  exact List.take_length
theorem sl1 (x : PyData) (r : List PyData) : gSl (.tuple (x :: r)) (some 1) none = .ok (.tuple r) := by
  show Res.ok (PyData.tuple (cutD (x :: r) (some 1) none)) = _
  rw [cut1]
theorem zip_tri (T : List Tri) : zipD (T.map fun x => .str x.1) (T.map fun x => x.2.1) = T.map fun x => .tuple [.str x.1, x.2.1] := by
  induction T with
  | nil => rfl
  | cons x r ih =>
    simp only [List.map_cons, zipD, ih]
def kSl2 (g : PyData → Option Int → Option Int → Res PyData) (x : PyData) (l : Option Int) : Option Int × En → Res (PyData × En) := fun p => (g x l p.1).bind (kRet p.2)
def kSl1 (g : PyData → Option Int → Option Int → Res PyData) (hi : En → Res (Option Int × En)) (x : PyData) : Option Int × En → Res (PyData × En) := fun p => (hi p.2).bind (kSl2 g x p.1)
def kSl (g : PyData → Option Int → Option Int → Res PyData) (lo hi : En → Res (Option Int × En)) : PyData × En → Res (PyData × En) := fun p => (lo p.2).bind (kSl1 g hi p.1)
theorem ap_sl (en : En) (g : PyData → Option Int → Option Int → Res PyData) (a : Dn) (lo hi : En → Res (Option Int × En)) : dSlice g a lo hi en = (a en).bind (kSl g lo hi) := rfl
theorem kSl_ap (en : En) (g : PyData → Option Int → Option Int → Res PyData) (lo hi : En → Res (Option Int × En)) (x : PyData) : kSl g lo hi (x, en) = (lo en).bind (kSl1 g hi x) := rfl
theorem kSl1_ap (en : En) (g : PyData → Option Int → Option Int → Res PyData) (hi : En → Res (Option Int × En)) (x : PyData) (l : Option Int) : kSl1 g hi x (l, en) = (hi en).bind (kSl2 g x l) := rfl
theorem kSl2_ap (en : En) (g : PyData → Option Int → Option Int → Res PyData) (x : PyData) (l h : Option Int) : kSl2 g x l (h, en) = (g x l h).bind (kRet en) := rfl
theorem ap_eN (en : En) : eN en = .ok (none, en) := rfl
theorem ap_eS1 (en : En) : eS (dCst (.int (1))) en = .ok (some 1, en) := rfl
theorem gZip_tri (T : List Tri) : gZip [.tuple (T.map fun x => .str x.1), .tuple (T.map fun x => x.2.1)] = .ok (T.map fun x => .tuple [.str x.1, x.2.1]) := by
  show Res.ok (zipD _ _) = _
  rw [zip_tri]
theorem gLst_1 (x : PyData) : gLst [x] = .ok (.list [x]) := rfl
theorem gAdd_l1 {x : PyData} {xs : List PyData} (h : xs.length < 100) : gAdd (.list [x]) (.list xs) = .ok (.list (x :: xs)) := by
  have h2 : [x].length + xs.length ≤ sizeLine := by
    show 1 + xs.length ≤ sizeLine
    rw [sizeLine_eq]; omega
  show (if [x].length + xs.length ≤ sizeLine then Res.ok (PyData.list ([x] ++ xs)) else .bad) = _
  rw [if_pos h2]
  rfl
theorem Row.joins {word : Str} {T : List Tri} (h : Row word T) : gJoin (.str " ") (.list ((Row.S word T).map .str)) = .ok (.str (Row.X word T)) := by
  refine gJoin_l (B := 40) (fun s hs => (plain_parts (h.plain s hs)).1) ?_
  have := h.few
  show (T.map (·.2.2)).length.succ * (40 + 1) ≤ 1000000
  rw [List.length_map]
  omega
theorem startE4 (x : PyData) : startE 4 [x] = [.sh x, .no, .no, .no] := rfl
theorem line_ok {word : Str} {T : List Tri} (h : Row word T) : m_move_line [Row.D word T] = .ok (.str (Row.X word T)) := by
  have e1 := h.form
  have e2 : lcF (gTp 2 (gCn (gNm 2) (gCn (gNm 3) gNl))) tYesD (dApp (gN 2 m_part_word) (dCons (dVar 2) (dCons (dVar 3) dNil))) [2, 3] (T.map fun x => .tuple [.str x.1, x.2.1]) [] [.sh (Row.D word T), .no, .no, .no] = .ok (.list ([] ++ T.map fun x => .str x.2.2), [.sh (Row.D word T), .no, .no, .no]) := by
    refine lc_mapT (A := fun x : Tri => .tuple [.str x.1, x.2.1]) (B := fun x : Tri => .str x.2.2) [] fun x hx => ⟨[.sh (Row.D word T), .no, .sh (.str x.1), .sh x.2.1], [.sh (Row.D word T), .no, .sh (.str x.1), .sh x.2.1], rfl, ?_, rfl⟩
    have := (h.good x hx).w
    simp only [this, ap_var, kVar_sh, ap_cst, ap_ret1, ap_un, kUn_ap, ap_op, kOp_ap, kOp2_ap, ap_nil, ap_cons, kCons_ap, kCons2_ap, ap_app, kApp_ap, ap_tB, kB_ap, ap_not, kNot_ap, ap_and, kAnd_t, kAnd_f, ap_or, kOr_t, kOr_f, ap_dAnd, kDAnd_t, kDAnd_f, ap_dOr, kDOr_t, kDOr_f, ap_dNot, kDNot_ap, ap_dIf, ap_if, kIf_t, kIf_f, ap_chain, kChain_ap, kChain2_ap, kChain3_t, kChain3_f, ap_seq, kSeq_nx, kSeq_rt, kSeq_bk, kSeq_ct, ap_next, ap_set, kSet_ap, ap_setO, kSetO_ap, ap_ret, kRt_ap, ap_frz, kFrz_ow, kSome_s, ap_ixO, kIx_ow, kIx2_ap, kIx3_ap, ap_put, kPut_ap, kPut1_ow, kPut2_ap, kPut3_ap, kPut4_s, res_bind_ok, List.getElem?_cons_zero, List.getElem?_cons_succ, List.set_cons_zero, List.set_cons_succ, ap_callP, kCal_ow, kCal2_0, kCal2_1, kCal2_2, kCal3_ow, kCal4_ap, ap_lc, kLc_ap, ap_for, kFor_ap, ap_iOf, kIof_l, kIof_t, ap_rg, kRg_ap, ap_par, kPar_ap, kPar2_ap, ap_parO, kParO_ap, kParO2_ap, ap_apd, kApd_ow, kApd2_ap, ap_star, kStar_l, kStar3_ap, gN_1, gN_2, gN_3, g1_one, endM_rt, endR_rt, ap_runM, ap_runP]
  have e3 := h.joins
  have e4 : (T.map fun x => PyData.str x.2.2).length < 100 := by rw [List.length_map]; have := h.few; omega
  have e5 : (Row.S word T).map PyData.str = .str word :: T.map fun x => .str x.2.2 := by
    unfold Row.S
    rw [List.map_cons, List.map_map]
    rfl
  rw [e5] at e3
  have w1 : wipeE [Sl.sh (Row.D word T), .no, .no, .no] [2, 3] = [.sh (Row.D word T), .no, .no, .no] := rfl
  rw [List.nil_append] at e2
  unfold Row.D at e2 w1 ⊢
  simp only [m_move_line, b_move_line, s_move_line_0, s_move_line_1, startE4, ix0, sl1, e1, gZip_tri, w1, e2, gLst_1, gAdd_l1 e4, e3, ap_sl, kSl_ap, kSl1_ap, kSl2_ap, ap_eN, ap_eS1, ap_var, kVar_sh, ap_cst, ap_ret1, ap_un, kUn_ap, ap_op, kOp_ap, kOp2_ap, ap_nil, ap_cons, kCons_ap, kCons2_ap, ap_app, kApp_ap, ap_tB, kB_ap, ap_not, kNot_ap, ap_and, kAnd_t, kAnd_f, ap_or, kOr_t, kOr_f, ap_dAnd, kDAnd_t, kDAnd_f, ap_dOr, kDOr_t, kDOr_f, ap_dNot, kDNot_ap, ap_dIf, ap_if, kIf_t, kIf_f, ap_chain, kChain_ap, kChain2_ap, kChain3_t, kChain3_f, ap_seq, kSeq_nx, kSeq_rt, kSeq_bk, kSeq_ct, ap_next, ap_set, kSet_ap, ap_setO, kSetO_ap, ap_ret, kRt_ap, ap_frz, kFrz_ow, kSome_s, ap_ixO, kIx_ow, kIx2_ap, kIx3_ap, ap_put, kPut_ap, kPut1_ow, kPut2_ap, kPut3_ap, kPut4_s, res_bind_ok, List.getElem?_cons_zero, List.getElem?_cons_succ, List.set_cons_zero, List.set_cons_succ, ap_callP, kCal_ow, kCal2_0, kCal2_1, kCal2_2, kCal3_ow, kCal4_ap, ap_lc, kLc_ap, ap_for, kFor_ap, ap_iOf, kIof_l, kIof_t, ap_rg, kRg_ap, ap_par, kPar_ap, kPar2_ap, ap_parO, kParO_ap, kParO2_ap, ap_apd, kApd_ow, kApd2_ap, ap_star, kStar_l, kStar3_ap, gN_1, gN_2, gN_3, g1_one, endM_rt, endR_rt, ap_runM, ap_runP]
theorem startE1 (x : PyData) : startE 1 [x] = [.sh x] := rfl
theorem text_ok {word : Str} {T : List Tri} (h : Row word T) : m_move_text [Row.D word T] = .ok (.str (Row.X word T)) := by
  have e := line_ok h
  simp only [m_move_text, b_move_text, s_move_text_0, startE1, e, ap_var, kVar_sh, ap_cst, ap_ret1, ap_un, kUn_ap, ap_op, kOp_ap, kOp2_ap, ap_nil, ap_cons, kCons_ap, kCons2_ap, ap_app, kApp_ap, ap_tB, kB_ap, ap_not, kNot_ap, ap_and, kAnd_t, kAnd_f, ap_or, kOr_t, kOr_f, ap_dAnd, kDAnd_t, kDAnd_f, ap_dOr, kDOr_t, kDOr_f, ap_dNot, kDNot_ap, ap_dIf, ap_if, kIf_t, kIf_f, ap_chain, kChain_ap, kChain2_ap, kChain3_t, kChain3_f, ap_seq, kSeq_nx, kSeq_rt, kSeq_bk, kSeq_ct, ap_next, ap_set, kSet_ap, ap_setO, kSetO_ap, ap_ret, kRt_ap, ap_frz, kFrz_ow, kSome_s, ap_ixO, kIx_ow, kIx2_ap, kIx3_ap, ap_put, kPut_ap, kPut1_ow, kPut2_ap, kPut3_ap, kPut4_s, res_bind_ok, List.getElem?_cons_zero, List.getElem?_cons_succ, List.set_cons_zero, List.set_cons_succ, ap_callP, kCal_ow, kCal2_0, kCal2_1, kCal2_2, kCal3_ow, kCal4_ap, ap_lc, kLc_ap, ap_for, kFor_ap, ap_iOf, kIof_l, kIof_t, ap_rg, kRg_ap, ap_par, kPar_ap, kPar2_ap, ap_parO, kParO_ap, kParO2_ap, ap_apd, kApd_ow, kApd2_ap, ap_star, kStar_l, kStar3_ap, gN_1, gN_2, gN_3, g1_one, endM_rt, endR_rt, ap_runM, ap_runP]
theorem bools_true (T : List Tri) : bools (T.map fun _ => .bool true) = some (T.map fun _ => true) := by
  induction T with
  | nil => rfl
  | cons x r ih =>
    rw [List.map_cons, List.map_cons]
    show (bools (r.map fun _ => .bool true)).map (true :: ·) = _
    rw [ih]
    rfl
theorem gAll_true (T : List Tri) : gAll (.list (T.map fun _ => .bool true)) = .ok (.bool true) := by
  show (match bools (T.map fun _ => .bool true) with
    | some bs => Res.ok (PyData.bool (bs.all id))
    | none => .bad) = _
  rw [bools_true]
  show Res.ok (PyData.bool ((T.map fun _ => true).all id)) = _
  have : (T.map fun _ => true).all id = true := by
    rw [List.all_eq_true]
    intro b hb
    obtain ⟨_, _, rfl⟩ := List.mem_map.mp hb
    rfl
  rw [this]
theorem eq_intA (a b : Int) : gEqA (.int a) (.int b) = .ok (.bool (a == b)) := rfl
theorem gLen_tup (xs : List PyData) : gLen (.tuple xs) = .ok (.int xs.length) := rfl
theorem isi_tup (xs : List PyData) : gIsi .tuple (.tuple xs) = .ok (.bool true) := rfl
theorem isi_str (x : Str) : gIsi .str (.str x) = .ok (.bool true) := rfl
theorem move_ok {word : Str} {T : List Tri} (h : Row word T) : m_is_move [Row.D word T] = .ok (.bool true) := by
  have e1 := h.form
  have e6 := h.known
  have n1 := h.some_
  have e2 : lcF (gTp 2 (gCn (gNm 2) (gCn (gNm 3) gNl))) tYesD (dApp (gN 2 m_is_part) (dCons (dVar 2) (dCons (dVar 3) dNil))) [2, 3] (T.map fun x => .tuple [.str x.1, x.2.1]) [] [.sh (Row.D word T), .sh (.tuple (T.map fun x => .str x.1)), .no, .no] = .ok (.list ([] ++ T.map fun _ => .bool true), [.sh (Row.D word T), .sh (.tuple (T.map fun x => .str x.1)), .no, .no]) := by
    refine lc_mapT (A := fun x : Tri => .tuple [.str x.1, x.2.1]) (B := fun _ : Tri => .bool true) [] fun x hx => ⟨[.sh (Row.D word T), .sh (.tuple (T.map fun x => .str x.1)), .sh (.str x.1), .sh x.2.1], [.sh (Row.D word T), .sh (.tuple (T.map fun x => .str x.1)), .sh (.str x.1), .sh x.2.1], rfl, ?_, rfl⟩
    have := (h.good x hx).p
    simp only [this, ap_var, kVar_sh, ap_cst, ap_ret1, ap_un, kUn_ap, ap_op, kOp_ap, kOp2_ap, ap_nil, ap_cons, kCons_ap, kCons2_ap, ap_app, kApp_ap, ap_tB, kB_ap, ap_not, kNot_ap, ap_and, kAnd_t, kAnd_f, ap_or, kOr_t, kOr_f, ap_dAnd, kDAnd_t, kDAnd_f, ap_dOr, kDOr_t, kDOr_f, ap_dNot, kDNot_ap, ap_dIf, ap_if, kIf_t, kIf_f, ap_chain, kChain_ap, kChain2_ap, kChain3_t, kChain3_f, ap_seq, kSeq_nx, kSeq_rt, kSeq_bk, kSeq_ct, ap_next, ap_set, kSet_ap, ap_setO, kSetO_ap, ap_ret, kRt_ap, ap_frz, kFrz_ow, kSome_s, ap_ixO, kIx_ow, kIx2_ap, kIx3_ap, ap_put, kPut_ap, kPut1_ow, kPut2_ap, kPut3_ap, kPut4_s, res_bind_ok, List.getElem?_cons_zero, List.getElem?_cons_succ, List.set_cons_zero, List.set_cons_succ, ap_callP, kCal_ow, kCal2_0, kCal2_1, kCal2_2, kCal3_ow, kCal4_ap, ap_lc, kLc_ap, ap_for, kFor_ap, ap_iOf, kIof_l, kIof_t, ap_rg, kRg_ap, ap_par, kPar_ap, kPar2_ap, ap_parO, kParO_ap, kParO2_ap, ap_apd, kApd_ow, kApd2_ap, ap_star, kStar_l, kStar3_ap, gN_1, gN_2, gN_3, g1_one, endM_rt, endR_rt, ap_runM, ap_runP]
  have w1 : wipeE [Sl.sh (Row.D word T), .sh (.tuple (T.map fun x => .str x.1)), .no, .no] [2, 3] = [.sh (Row.D word T), .sh (.tuple (T.map fun x => .str x.1)), .no, .no] := rfl
  rw [List.nil_append] at e2
  unfold Row.D at e2 w1 ⊢
  have l1 : decide ((((PyData.str word :: T.map fun x => x.2.1).length : Nat) : Int) < 2) = false := by
    refine decide_eq_false ?_
    rw [List.length_cons, List.length_map]
    omega
  have l2 : ((((PyData.str word :: T.map fun x => x.2.1).length : Nat) : Int) == (((T.map fun x => PyData.str x.1).length : Nat) : Int) + 1) = true := by
    rw [List.length_cons, List.length_map, List.length_map, beq_iff_eq]
    omega
  simp only [m_is_move, b_is_move, s_is_move_1, s_is_move_2, s_is_move_3, startE4, isi_tup, isi_str, gLen_tup, lt_int, l1, l2, Bool.not_true, Bool.not_false, add_int, eq_intA, ix0, sl1, e1, e6, gZip_tri, w1, e2, gAll_true, ap_sl, kSl_ap, kSl1_ap, kSl2_ap, ap_eN, ap_eS1, ap_var, kVar_sh, ap_cst, ap_ret1, ap_un, kUn_ap, ap_op, kOp_ap, kOp2_ap, ap_nil, ap_cons, kCons_ap, kCons2_ap, ap_app, kApp_ap, ap_tB, kB_ap, ap_not, kNot_ap, ap_and, kAnd_t, kAnd_f, ap_or, kOr_t, kOr_f, ap_dAnd, kDAnd_t, kDAnd_f, ap_dOr, kDOr_t, kDOr_f, ap_dNot, kDNot_ap, ap_dIf, ap_if, kIf_t, kIf_f, ap_chain, kChain_ap, kChain2_ap, kChain3_t, kChain3_f, ap_seq, kSeq_nx, kSeq_rt, kSeq_bk, kSeq_ct, ap_next, ap_set, kSet_ap, ap_setO, kSetO_ap, ap_ret, kRt_ap, ap_frz, kFrz_ow, kSome_s, ap_ixO, kIx_ow, kIx2_ap, kIx3_ap, ap_put, kPut_ap, kPut1_ow, kPut2_ap, kPut3_ap, kPut4_s, res_bind_ok, List.getElem?_cons_zero, List.getElem?_cons_succ, List.set_cons_zero, List.set_cons_succ, ap_callP, kCal_ow, kCal2_0, kCal2_1, kCal2_2, kCal3_ow, kCal4_ap, ap_lc, kLc_ap, ap_for, kFor_ap, ap_iOf, kIof_l, kIof_t, ap_rg, kRg_ap, ap_par, kPar_ap, kPar2_ap, ap_parO, kParO_ap, kParO2_ap, ap_apd, kApd_ow, kApd2_ap, ap_star, kStar_l, kStar3_ap, gN_1, gN_2, gN_3, g1_one, endM_rt, endR_rt, ap_runM, ap_runP]
end EL
namespace EL
open PySem PySem.Spec PyProof.Rows L2 TL
abbrev bodyV : Sn := sSeq s_values_in_2 (sSeq s_values_in_3 (sSeq s_values_in_5 s_values_in_6))
abbrev tgV : Gn := gTp 2 (gCn (gNm 4) (gCn (gNm 5) gNl))
theorem gIsN_n (x : PyData) : gIsN x .none = .ok (.bool (isNone x)) := rfl
def wordsD (word : Str) (T : List Tri) : List PyData := (Row.S word T).map .str
theorem words_at {word : Str} {T1 T2 : List Tri} {x : Tri} : gIxA (.list (wordsD word (T1 ++ x :: T2))) (.int ((T1.length : Nat) + 1)) = .ok (.str x.2.2) := by
  have e : atI (wordsD word (T1 ++ x :: T2)) (((T1.length + 1 : Nat)) : Int) = some (.str x.2.2) := atI_nat (by
    unfold wordsD Row.S
    rw [List.map_cons, List.getElem?_cons_succ, List.map_map, List.map_append, List.map_cons, List.getElem?_append_right (by rw [List.length_map]; exact Nat.le_refl _), List.length_map, Nat.sub_self]
    rfl)
  show (match atI (wordsD word (T1 ++ x :: T2)) ((T1.length : Nat) + 1 : Int) with
    | some d => Res.ok d
    | none => .bad) = _
  rw [show ((T1.length : Nat) + 1 : Int) = ((T1.length + 1 : Nat) : Int) by omega, e]
theorem wordsD_len (word : Str) (T : List Tri) : (wordsD word T).length = T.length + 1 := by
  unfold wordsD Row.S
  rw [List.length_map, List.length_cons, List.length_map]
theorem vloop {word : Str} {fm ln : Sl} : ∀ (T2 T1 : List Tri) (x4 x5 x6 : Sl), (∀ x ∈ T2, GoodT x) → T1.length + T2.length < 100 →
    ∃ x4' x5' x6', loopF tgV bodyV (enumD T1.length (T2.map fun x => .str x.1)) [fm, .sh (.list (wordsD word (T1 ++ T2))), ln, .ow (.list (T1.map (·.2.1))), x4, x5, x6] = .ok (.nx, [fm, .sh (.list (wordsD word (T1 ++ T2))), ln, .ow (.list ((T1 ++ T2).map (·.2.1))), x4', x5', x6'])
  | [], T1, x4, x5, x6, _, _ => ⟨x4, x5, x6, by rw [List.append_nil]; rfl⟩
  | x :: T2, T1, x4, x5, x6, h, hl => by
    have e0 : T1 ++ x :: T2 = (T1 ++ [x]) ++ T2 := by rw [List.append_assoc]; rfl
    have g := h x List.mem_cons_self
    rw [List.length_cons] at hl
    obtain ⟨y4, y5, y6, ih⟩ := vloop (word := word) (fm := fm) (ln := ln) T2 (T1 ++ [x]) (.sh (.int (T1.length : Nat))) (.sh (.str x.1)) (.sh x.2.1) (fun z hz => h z (List.mem_cons_of_mem _ hz)) (by rw [List.length_append]; show T1.length + 1 + _ < _; omega)
    rw [← e0, List.length_append, show ([x] : List Tri).length = 1 from rfl] at ih
    refine ⟨y4, y5, y6, ?_⟩
    rw [← ih]
    have b1 : (((T1.length : Nat) : Int) + 1 == (((wordsD word (T1 ++ x :: T2)).length : Nat) : Int)) = false := by
      rw [wordsD_len, List.length_append, List.length_cons, beq_eq_false_iff_ne]
      omega
    have b2 := words_at (word := word) (T1 := T1) (T2 := T2) (x := x)
    have b3 := g.v
    have b4 : (T1.map fun x => x.2.1).length < 1000 := by rw [List.length_map]; omega
    have body : bodyV [fm, .sh (.list (wordsD word (T1 ++ x :: T2))), ln, .ow (.list (T1.map (·.2.1))), .sh (.int (T1.length : Nat)), .sh (.str x.1), x6] = .ok (.nx, [fm, .sh (.list (wordsD word (T1 ++ x :: T2))), ln, .ow (.list ((T1 ++ [x]).map (·.2.1))), .sh (.int (T1.length : Nat)), .sh (.str x.1), .sh x.2.1]) := by
      simp only [bodyV, s_values_in_2, s_values_in_3, s_values_in_5, s_values_in_6, add_int, gLen_list, eq_intA, b1, b2, b3, gIsN_n, g.n, kApd3_ap _ _ _ _ b4, List.map_append, List.map_cons, List.map_nil, ap_var, kVar_sh, ap_cst, ap_ret1, ap_un, kUn_ap, ap_op, kOp_ap, kOp2_ap, ap_nil, ap_cons, kCons_ap, kCons2_ap, ap_app, kApp_ap, ap_tB, kB_ap, ap_not, kNot_ap, ap_and, kAnd_t, kAnd_f, ap_or, kOr_t, kOr_f, ap_dAnd, kDAnd_t, kDAnd_f, ap_dOr, kDOr_t, kDOr_f, ap_dNot, kDNot_ap, ap_dIf, ap_if, kIf_t, kIf_f, ap_chain, kChain_ap, kChain2_ap, kChain3_t, kChain3_f, ap_seq, kSeq_nx, kSeq_rt, kSeq_bk, kSeq_ct, ap_next, ap_set, kSet_ap, ap_setO, kSetO_ap, ap_ret, kRt_ap, ap_frz, kFrz_ow, kSome_s, ap_ixO, kIx_ow, kIx2_ap, kIx3_ap, ap_put, kPut_ap, kPut1_ow, kPut2_ap, kPut3_ap, kPut4_s, res_bind_ok, List.getElem?_cons_zero, List.getElem?_cons_succ, List.set_cons_zero, List.set_cons_succ, ap_callP, kCal_ow, kCal2_0, kCal2_1, kCal2_2, kCal3_ow, kCal4_ap, ap_lc, kLc_ap, ap_for, kFor_ap, ap_iOf, kIof_l, kIof_t, ap_rg, kRg_ap, ap_par, kPar_ap, kPar2_ap, ap_parO, kParO_ap, kParO2_ap, ap_apd, kApd_ow, kApd2_ap, ap_star, kStar_l, kStar3_ap, gN_1, gN_2, gN_3, g1_one, endM_rt, endR_rt, ap_runM, ap_runP]
    show Res.bind (bodyV [fm, .sh (.list (wordsD word (T1 ++ x :: T2))), ln, .ow (.list (T1.map (·.2.1))), .sh (.int (T1.length : Nat)), .sh (.str x.1), x6]) _ = _
    rw [body]
    rfl
theorem startE7 (x y z : PyData) : startE 7 [x, y, z] = [.sh x, .sh y, .sh z, .no, .no, .no, .no] := rfl
theorem gEnum_t (ds : List PyData) : gEnum [.tuple ds] = .ok (enumD 0 ds) := rfl
theorem gEnum_l (ds : List PyData) : gEnum [.list ds] = .ok (enumD 0 ds) := rfl
theorem values_ok {word : Str} {T : List Tri} (h : Row word T) (ln : PyData) : m_values_in [.tuple (T.map fun x => .str x.1), .list (wordsD word T), ln] = .ok (.list (T.map (·.2.1))) := by
  obtain ⟨y4, y5, y6, e⟩ := vloop (word := word) (fm := .sh (.tuple (T.map fun x => .str x.1))) (ln := .sh ln) T [] .no .no .no h.good (by have := h.few; show 0 + _ < _; omega)
  simp only [List.length_nil, List.nil_append, List.map_nil] at e
  have b : decide ((((T.map fun x => PyData.str x.1).length : Nat) : Int) + 1 < (((wordsD word T).length : Nat) : Int)) = false := by
    refine decide_eq_false ?_
    rw [wordsD_len, List.length_map]
    omega
  simp only [bodyV, tgV] at e
  simp only [m_values_in, b_values_in, s_values_in_0, s_values_in_7, s_values_in_9, s_values_in_10, startE7, gLst_nil, gEnum_t, e, gLen_list, gLen_tup, add_int, gt_int, b, ap_var, kVar_sh, ap_cst, ap_ret1, ap_un, kUn_ap, ap_op, kOp_ap, kOp2_ap, ap_nil, ap_cons, kCons_ap, kCons2_ap, ap_app, kApp_ap, ap_tB, kB_ap, ap_not, kNot_ap, ap_and, kAnd_t, kAnd_f, ap_or, kOr_t, kOr_f, ap_dAnd, kDAnd_t, kDAnd_f, ap_dOr, kDOr_t, kDOr_f, ap_dNot, kDNot_ap, ap_dIf, ap_if, kIf_t, kIf_f, ap_chain, kChain_ap, kChain2_ap, kChain3_t, kChain3_f, ap_seq, kSeq_nx, kSeq_rt, kSeq_bk, kSeq_ct, ap_next, ap_set, kSet_ap, ap_setO, kSetO_ap, ap_ret, kRt_ap, ap_frz, kFrz_ow, kSome_s, ap_ixO, kIx_ow, kIx2_ap, kIx3_ap, ap_put, kPut_ap, kPut1_ow, kPut2_ap, kPut3_ap, kPut4_s, res_bind_ok, List.getElem?_cons_zero, List.getElem?_cons_succ, List.set_cons_zero, List.set_cons_succ, ap_callP, kCal_ow, kCal2_0, kCal2_1, kCal2_2, kCal3_ow, kCal4_ap, ap_lc, kLc_ap, ap_for, kFor_ap, ap_iOf, kIof_l, kIof_t, ap_rg, kRg_ap, ap_par, kPar_ap, kPar2_ap, ap_parO, kParO_ap, kParO2_ap, ap_apd, kApd_ow, kApd2_ap, ap_star, kStar_l, kStar3_ap, gN_1, gN_2, gN_3, g1_one, endM_rt, endR_rt, ap_runM, ap_runP]
theorem startE32 (x y : PyData) : startE 3 [x, y] = [.sh x, .sh y, .no] := rfl
theorem gTup_few {x : PyData} {xs : List PyData} (h : xs.length < 100) : gTup (x :: xs) = .ok (.tuple (x :: xs)) := by
  have h2 : (x :: xs).length ≤ sizeLine := by rw [List.length_cons, sizeLine_eq]; omega
  unfold gTup
  rw [if_pos h2]
theorem Row.split {word : Str} {T : List Tri} (h : Row word T) : gSplit (.str (Row.X word T)) (.str " ") = .ok (.list (wordsD word T)) := by
  refine gSplit_join (c := 32) (B := 40) (by decide +kernel) (by decide +kernel) (fun e => nomatch e) (fun s hs => (plain_parts (h.plain s hs)).2.1) (fun s hs => (plain_parts (h.plain s hs)).1) ?_ (by decide)
  have := h.few
  show (T.map (·.2.2)).length.succ * (40 + 1) ≤ 1000000
  rw [List.length_map]
  omega
theorem in_ok {word : Str} {T : List Tri} (h : Row word T) (ln : PyData) : m_move_in [.str (Row.X word T), ln] = .ok (Row.D word T) := by
  have e1 := h.form
  have e2 := h.known
  have e3 := h.split
  have e4 := values_ok h ln
  have e5 : wordsD word T = .str word :: (T.map (·.2.2)).map .str := rfl
  have e6 : gIxA (.list (wordsD word T)) (.int 0) = .ok (.str word) := by rw [e5]; exact ix0l _ _
  have e7 : (T.map fun x => x.2.1).length < 100 := by rw [List.length_map]; have := h.few; omega
  unfold Row.D
  simp only [m_move_in, b_move_in, s_move_in_0, s_move_in_2, s_move_in_3, startE32, e3, e6, e2, e1, e4, List.append_nil, gTup_few e7, ap_var, kVar_sh, ap_cst, ap_ret1, ap_un, kUn_ap, ap_op, kOp_ap, kOp2_ap, ap_nil, ap_cons, kCons_ap, kCons2_ap, ap_app, kApp_ap, ap_tB, kB_ap, ap_not, kNot_ap, ap_and, kAnd_t, kAnd_f, ap_or, kOr_t, kOr_f, ap_dAnd, kDAnd_t, kDAnd_f, ap_dOr, kDOr_t, kDOr_f, ap_dNot, kDNot_ap, ap_dIf, ap_if, kIf_t, kIf_f, ap_chain, kChain_ap, kChain2_ap, kChain3_t, kChain3_f, ap_seq, kSeq_nx, kSeq_rt, kSeq_bk, kSeq_ct, ap_next, ap_set, kSet_ap, ap_setO, kSetO_ap, ap_ret, kRt_ap, ap_frz, kFrz_ow, kSome_s, ap_ixO, kIx_ow, kIx2_ap, kIx3_ap, ap_put, kPut_ap, kPut1_ow, kPut2_ap, kPut3_ap, kPut4_s, res_bind_ok, List.getElem?_cons_zero, List.getElem?_cons_succ, List.set_cons_zero, List.set_cons_succ, ap_callP, kCal_ow, kCal2_0, kCal2_1, kCal2_2, kCal3_ow, kCal4_ap, ap_lc, kLc_ap, ap_for, kFor_ap, ap_iOf, kIof_l, kIof_t, ap_rg, kRg_ap, ap_par, kPar_ap, kPar2_ap, ap_parO, kParO_ap, kParO2_ap, ap_apd, kApd_ow, kApd2_ap, ap_star, kStar_l, kStar3_ap, gN_1, gN_2, gN_3, g1_one, endM_rt, endR_rt, ap_runM, ap_runP]
theorem read_ok {word : Str} {T : List Tri} (h : Row word T) : m_read_move [.str (Row.X word T)] = .ok (Row.D word T) := by
  have e := in_ok h (.int 0)
  simp only [m_read_move, b_read_move, s_read_move_1, s_read_move_2, startE1, isi_str, Bool.not_true, e, ap_var, kVar_sh, ap_cst, ap_ret1, ap_un, kUn_ap, ap_op, kOp_ap, kOp2_ap, ap_nil, ap_cons, kCons_ap, kCons2_ap, ap_app, kApp_ap, ap_tB, kB_ap, ap_not, kNot_ap, ap_and, kAnd_t, kAnd_f, ap_or, kOr_t, kOr_f, ap_dAnd, kDAnd_t, kDAnd_f, ap_dOr, kDOr_t, kDOr_f, ap_dNot, kDNot_ap, ap_dIf, ap_if, kIf_t, kIf_f, ap_chain, kChain_ap, kChain2_ap, kChain3_t, kChain3_f, ap_seq, kSeq_nx, kSeq_rt, kSeq_bk, kSeq_ct, ap_next, ap_set, kSet_ap, ap_setO, kSetO_ap, ap_ret, kRt_ap, ap_frz, kFrz_ow, kSome_s, ap_ixO, kIx_ow, kIx2_ap, kIx3_ap, ap_put, kPut_ap, kPut1_ow, kPut2_ap, kPut3_ap, kPut4_s, res_bind_ok, List.getElem?_cons_zero, List.getElem?_cons_succ, List.set_cons_zero, List.set_cons_succ, ap_callP, kCal_ow, kCal2_0, kCal2_1, kCal2_2, kCal3_ow, kCal4_ap, ap_lc, kLc_ap, ap_for, kFor_ap, ap_iOf, kIof_l, kIof_t, ap_rg, kRg_ap, ap_par, kPar_ap, kPar2_ap, ap_parO, kParO_ap, kParO2_ap, ap_apd, kApd_ow, kApd2_ap, ap_star, kStar_l, kStar3_ap, gN_1, gN_2, gN_3, g1_one, endM_rt, endR_rt, ap_runM, ap_runP]
/-! ### plans -/
abbrev Rw := Str × List Tri
def Rw.D (r : Rw) : PyData := Row.D r.1 r.2
def Rw.X (r : Rw) : Str := Row.X r.1 r.2
theorem join_tl {x : Str} {ss : List Str} {c : Nat} (h : ∀ s ∈ ss, c ∉ tl s) (hx : c ∉ tl x) : c ∉ tl (Txt.join x ss) := by
  rw [join_eq, tl_join]
  generalize hT : ss.map tl = ps
  have hp : ∀ p ∈ ps, c ∉ p := fun p hp => by
    rw [← hT] at hp
    obtain ⟨s, hs, rfl⟩ := List.mem_map.mp hp
    exact h s hs
  clear hT
  induction ps with
  | nil => intro q; cases q
  | cons p r ih =>
    cases r with
    | nil => exact hp p List.mem_cons_self
    | cons q r =>
      intro z
      rcases List.mem_append.mp z with z | z
      · exact hp p List.mem_cons_self z
      · rcases List.mem_append.mp z with z | z
        · exact hx z
        · exact ih (fun y hy => hp y (List.mem_cons_of_mem _ hy)) z
theorem join_pos {x s : Str} {ss : List Str} (h : s.length ≠ 0) : (Txt.join x (s :: ss)).length ≠ 0 := by
  rw [join_eq, ← tl_len, tl_join, List.map_cons]
  rw [← tl_len] at h
  cases ss with
  | nil => exact h
  | cons q r =>
    rw [List.map_cons]
    show (tl s ++ (tl x ++ joinL (tl x) (tl q :: r.map tl))).length ≠ 0
    rw [List.length_append]
    omega
theorem Row.x10 {word : Str} {T : List Tri} (h : Row word T) : 10 ∉ tl (Row.X word T) := join_tl (fun s hs => (plain_parts (h.plain s hs)).2.2.1) (by decide +kernel)
theorem Row.xlen {word : Str} {T : List Tri} (h : Row word T) : (Row.X word T).length ≤ 205 := by
  have := join_len (x := " ") (ss := Row.S word T) (B := 40) fun s hs => (plain_parts (h.plain s hs)).1
  have e : (Row.S word T).length * (40 + Str.length " ") ≤ 205 := by
    show (T.map (·.2.2)).length.succ * (40 + 1) ≤ 205
    rw [List.length_map]
    have := h.few
    omega
  exact Nat.le_trans this e
theorem Row.xpos {word : Str} {T : List Tri} (h : Row word T) : (Row.X word T).length ≠ 0 := join_pos (plain_parts (h.plain word List.mem_cons_self)).2.2.2.1
def pageX (rs : List Rw) : Str := Txt.join "\n" (rs.map Rw.X)
section
variable {rs : List Rw} (hr : ∀ r ∈ rs, Row r.1 r.2) (hl : rs.length ≤ 10)
include hr hl
theorem page_join : gJoin (.str "\n") (.list (rs.map fun r => .str r.X)) = .ok (.str (pageX rs)) := by
  have e : (rs.map fun r => PyData.str r.X) = (rs.map Rw.X).map .str := by rw [List.map_map]; rfl
  rw [e]
  refine gJoin_l (B := 205) (fun s hs => ?_) ?_
  · obtain ⟨r, h, rfl⟩ := List.mem_map.mp hs
    exact (hr r h).xlen
  · show (rs.map Rw.X).length * (205 + 1) ≤ 1000000
    rw [List.length_map]
    omega
theorem page_split (h0 : rs ≠ []) : gSplit (.str (pageX rs)) (.str "\n") = .ok (.list ((rs.map Rw.X).map .str)) := by
  refine gSplit_join (c := 10) (B := 205) (by decide +kernel) (by decide +kernel) (fun e => h0 (List.map_eq_nil_iff.mp e)) (fun s hs => ?_) (fun s hs => ?_) ?_ (by decide)
  · obtain ⟨r, h, rfl⟩ := List.mem_map.mp hs
    exact (hr r h).x10
  · obtain ⟨r, h, rfl⟩ := List.mem_map.mp hs
    exact (hr r h).xlen
  · show (rs.map Rw.X).length * (205 + 1) ≤ 1000000
    rw [List.length_map]
    omega
theorem startE2 (x : PyData) : startE 2 [x] = [.sh x, .no] := rfl
theorem plan_lc (d : PyData) : lcF (gNm 1) tYesD (dApp (gN 1 m_move_line) (dCons (dVar 1) dNil)) [1] (rs.map Rw.D) [] [.sh d, .no] = .ok (.list ([] ++ rs.map fun r => .str r.X), [.sh d, .no]) := by
  refine lc_mapT (A := Rw.D) (B := fun r => .str r.X) [] fun r h => ⟨[.sh d, .sh r.D], [.sh d, .sh r.D], rfl, ?_, rfl⟩
  have e := line_ok (hr r h)
  have e' : m_move_line [r.D] = .ok (.str r.X) := e
  simp only [e', ap_var, kVar_sh, ap_cst, ap_ret1, ap_un, kUn_ap, ap_op, kOp_ap, kOp2_ap, ap_nil, ap_cons, kCons_ap, kCons2_ap, ap_app, kApp_ap, ap_tB, kB_ap, ap_not, kNot_ap, ap_and, kAnd_t, kAnd_f, ap_or, kOr_t, kOr_f, ap_dAnd, kDAnd_t, kDAnd_f, ap_dOr, kDOr_t, kDOr_f, ap_dNot, kDNot_ap, ap_dIf, ap_if, kIf_t, kIf_f, ap_chain, kChain_ap, kChain2_ap, kChain3_t, kChain3_f, ap_seq, kSeq_nx, kSeq_rt, kSeq_bk, kSeq_ct, ap_next, ap_set, kSet_ap, ap_setO, kSetO_ap, ap_ret, kRt_ap, ap_frz, kFrz_ow, kSome_s, ap_ixO, kIx_ow, kIx2_ap, kIx3_ap, ap_put, kPut_ap, kPut1_ow, kPut2_ap, kPut3_ap, kPut4_s, res_bind_ok, List.getElem?_cons_zero, List.getElem?_cons_succ, List.set_cons_zero, List.set_cons_succ, ap_callP, kCal_ow, kCal2_0, kCal2_1, kCal2_2, kCal3_ow, kCal4_ap, ap_lc, kLc_ap, ap_for, kFor_ap, ap_iOf, kIof_l, kIof_t, ap_rg, kRg_ap, ap_par, kPar_ap, kPar2_ap, ap_parO, kParO_ap, kParO2_ap, ap_apd, kApd_ow, kApd2_ap, ap_star, kStar_l, kStar3_ap, gN_1, gN_2, gN_3, g1_one, endM_rt, endR_rt, ap_runM, ap_runP]
theorem plan_l : m_plan_text [.list (rs.map Rw.D)] = .ok (.str (pageX rs)) := by
  have e1 := plan_lc hr hl (.list (rs.map Rw.D))
  rw [List.nil_append] at e1
  have e2 := page_join hr hl
  have w1 : wipeE [Sl.sh (.list (rs.map Rw.D)), .no] [1] = [.sh (.list (rs.map Rw.D)), .no] := rfl
  have s2 : startE 2 [PyData.list (rs.map Rw.D)] = [.sh (.list (rs.map Rw.D)), .no] := rfl
  simp only [m_plan_text, b_plan_text, s_plan_text_0, s2, w1, e1, e2, ap_var, kVar_sh, ap_cst, ap_ret1, ap_un, kUn_ap, ap_op, kOp_ap, kOp2_ap, ap_nil, ap_cons, kCons_ap, kCons2_ap, ap_app, kApp_ap, ap_tB, kB_ap, ap_not, kNot_ap, ap_and, kAnd_t, kAnd_f, ap_or, kOr_t, kOr_f, ap_dAnd, kDAnd_t, kDAnd_f, ap_dOr, kDOr_t, kDOr_f, ap_dNot, kDNot_ap, ap_dIf, ap_if, kIf_t, kIf_f, ap_chain, kChain_ap, kChain2_ap, kChain3_t, kChain3_f, ap_seq, kSeq_nx, kSeq_rt, kSeq_bk, kSeq_ct, ap_next, ap_set, kSet_ap, ap_setO, kSetO_ap, ap_ret, kRt_ap, ap_frz, kFrz_ow, kSome_s, ap_ixO, kIx_ow, kIx2_ap, kIx3_ap, ap_put, kPut_ap, kPut1_ow, kPut2_ap, kPut3_ap, kPut4_s, res_bind_ok, List.getElem?_cons_zero, List.getElem?_cons_succ, List.set_cons_zero, List.set_cons_succ, ap_callP, kCal_ow, kCal2_0, kCal2_1, kCal2_2, kCal3_ow, kCal4_ap, ap_lc, kLc_ap, ap_for, kFor_ap, ap_iOf, kIof_l, kIof_t, ap_rg, kRg_ap, ap_par, kPar_ap, kPar2_ap, ap_parO, kParO_ap, kParO2_ap, ap_apd, kApd_ow, kApd2_ap, ap_star, kStar_l, kStar3_ap, gN_1, gN_2, gN_3, g1_one, endM_rt, endR_rt, ap_runM, ap_runP]
theorem plan_t : m_plan_text [.tuple (rs.map Rw.D)] = .ok (.str (pageX rs)) := by
  have e1 := plan_lc hr hl (.tuple (rs.map Rw.D))
  rw [List.nil_append] at e1
  have e2 := page_join hr hl
  have w1 : wipeE [Sl.sh (.tuple (rs.map Rw.D)), .no] [1] = [.sh (.tuple (rs.map Rw.D)), .no] := rfl
  have s2 : startE 2 [PyData.tuple (rs.map Rw.D)] = [.sh (.tuple (rs.map Rw.D)), .no] := rfl
  simp only [m_plan_text, b_plan_text, s_plan_text_0, s2, w1, e1, e2, ap_var, kVar_sh, ap_cst, ap_ret1, ap_un, kUn_ap, ap_op, kOp_ap, kOp2_ap, ap_nil, ap_cons, kCons_ap, kCons2_ap, ap_app, kApp_ap, ap_tB, kB_ap, ap_not, kNot_ap, ap_and, kAnd_t, kAnd_f, ap_or, kOr_t, kOr_f, ap_dAnd, kDAnd_t, kDAnd_f, ap_dOr, kDOr_t, kDOr_f, ap_dNot, kDNot_ap, ap_dIf, ap_if, kIf_t, kIf_f, ap_chain, kChain_ap, kChain2_ap, kChain3_t, kChain3_f, ap_seq, kSeq_nx, kSeq_rt, kSeq_bk, kSeq_ct, ap_next, ap_set, kSet_ap, ap_setO, kSetO_ap, ap_ret, kRt_ap, ap_frz, kFrz_ow, kSome_s, ap_ixO, kIx_ow, kIx2_ap, kIx3_ap, ap_put, kPut_ap, kPut1_ow, kPut2_ap, kPut3_ap, kPut4_s, res_bind_ok, List.getElem?_cons_zero, List.getElem?_cons_succ, List.set_cons_zero, List.set_cons_succ, ap_callP, kCal_ow, kCal2_0, kCal2_1, kCal2_2, kCal3_ow, kCal4_ap, ap_lc, kLc_ap, ap_for, kFor_ap, ap_iOf, kIof_l, kIof_t, ap_rg, kRg_ap, ap_par, kPar_ap, kPar2_ap, ap_parO, kParO_ap, kParO2_ap, ap_apd, kApd_ow, kApd2_ap, ap_star, kStar_l, kStar3_ap, gN_1, gN_2, gN_3, g1_one, endM_rt, endR_rt, ap_runM, ap_runP]
end
theorem enum_lc {rs : List Rw} (hr : ∀ r ∈ rs, Row r.1 r.2) (d : PyData) : ∀ (k : Nat) (acc : List PyData), lcF (gTp 2 (gCn (gNm 1) (gCn (gNm 2) gNl))) tYesD (dApp (gN 2 m_move_in) (dCons (dVar 2) (dCons (dVar 1) dNil))) [1, 2] (enumD k ((rs.map Rw.X).map .str)) acc [.sh d, .no, .no] = .ok (.list (acc ++ rs.map Rw.D), [.sh d, .no, .no]) := by
  induction rs with
  | nil =>
    intro k acc
    show Res.ok (PyData.list acc, _) = _
    rw [List.map_nil, List.append_nil]
  | cons r rs ih =>
    intro k acc
    have e := in_ok (hr r List.mem_cons_self) (.int (k : Nat))
    have e' : m_move_in [.str r.X, .int (k : Nat)] = .ok r.D := e
    have e2 : (dApp (gN 2 m_move_in) (dCons (dVar 2) (dCons (dVar 1) dNil))) [.sh d, .sh (.int (k : Nat)), .sh (.str r.X)] = .ok (r.D, [.sh d, .sh (.int (k : Nat)), .sh (.str r.X)]) := by
      simp only [e', ap_var, kVar_sh, ap_cst, ap_ret1, ap_un, kUn_ap, ap_op, kOp_ap, kOp2_ap, ap_nil, ap_cons, kCons_ap, kCons2_ap, ap_app, kApp_ap, ap_tB, kB_ap, ap_not, kNot_ap, ap_and, kAnd_t, kAnd_f, ap_or, kOr_t, kOr_f, ap_dAnd, kDAnd_t, kDAnd_f, ap_dOr, kDOr_t, kDOr_f, ap_dNot, kDNot_ap, ap_dIf, ap_if, kIf_t, kIf_f, ap_chain, kChain_ap, kChain2_ap, kChain3_t, kChain3_f, ap_seq, kSeq_nx, kSeq_rt, kSeq_bk, kSeq_ct, ap_next, ap_set, kSet_ap, ap_setO, kSetO_ap, ap_ret, kRt_ap, ap_frz, kFrz_ow, kSome_s, ap_ixO, kIx_ow, kIx2_ap, kIx3_ap, ap_put, kPut_ap, kPut1_ow, kPut2_ap, kPut3_ap, kPut4_s, res_bind_ok, List.getElem?_cons_zero, List.getElem?_cons_succ, List.set_cons_zero, List.set_cons_succ, ap_callP, kCal_ow, kCal2_0, kCal2_1, kCal2_2, kCal3_ow, kCal4_ap, ap_lc, kLc_ap, ap_for, kFor_ap, ap_iOf, kIof_l, kIof_t, ap_rg, kRg_ap, ap_par, kPar_ap, kPar2_ap, ap_parO, kParO_ap, kParO2_ap, ap_apd, kApd_ow, kApd2_ap, ap_star, kStar_l, kStar3_ap, gN_1, gN_2, gN_3, g1_one, endM_rt, endR_rt, ap_runM, ap_runP]
    have ih' := ih (fun x hx => hr x (List.mem_cons_of_mem _ hx)) (k + 1) (acc ++ [r.D])
    show Res.bind ((dApp (gN 2 m_move_in) (dCons (dVar 2) (dCons (dVar 1) dNil))) [.sh d, .sh (.int (k : Nat)), .sh (.str r.X)]) _ = _
    rw [e2]
    rw [List.append_assoc] at ih'
    exact ih'
theorem startE3 (x : PyData) : startE 3 [x] = [.sh x, .no, .no] := rfl
theorem gTupOf_l (xs : List PyData) : gTupOf (.list xs) = .ok (.tuple xs) := rfl
theorem page_ne {rs : List Rw} (hr : ∀ r ∈ rs, Row r.1 r.2) (h0 : rs ≠ []) : pageX rs ≠ "" := by
  cases rs with
  | nil => exact absurd rfl h0
  | cons r rs =>
    intro e
    have := join_pos (x := "\n") (ss := rs.map Rw.X) (hr r List.mem_cons_self).xpos
    have e2 : (Txt.join "\n" (Rw.X r :: rs.map Rw.X)).length = 0 := by
      have e3 : Txt.join "\n" (Rw.X r :: rs.map Rw.X) = "" := e
      rw [e3]
      rfl
    exact this e2
theorem page_read {rs : List Rw} (hr : ∀ r ∈ rs, Row r.1 r.2) (hl : rs.length ≤ 10) : m_read_plan [.str (pageX rs)] = .ok (.tuple (rs.map Rw.D)) := by
  by_cases h0 : rs = []
  · subst h0
    kernel_rfl
  · have e1 := eq_strN (page_ne hr h0)
    have e2 := page_split hr hl h0
    have e3 : m_lines_of [.str (pageX rs)] = .ok (.list ((rs.map Rw.X).map .str)) := by
      simp only [m_lines_of, b_lines_of, s_lines_of_1, s_lines_of_2, startE1, isi_str, Bool.not_true, e1, e2, ap_var, kVar_sh, ap_cst, ap_ret1, ap_un, kUn_ap, ap_op, kOp_ap, kOp2_ap, ap_nil, ap_cons, kCons_ap, kCons2_ap, ap_app, kApp_ap, ap_tB, kB_ap, ap_not, kNot_ap, ap_and, kAnd_t, kAnd_f, ap_or, kOr_t, kOr_f, ap_dAnd, kDAnd_t, kDAnd_f, ap_dOr, kDOr_t, kDOr_f, ap_dNot, kDNot_ap, ap_dIf, ap_if, kIf_t, kIf_f, ap_chain, kChain_ap, kChain2_ap, kChain3_t, kChain3_f, ap_seq, kSeq_nx, kSeq_rt, kSeq_bk, kSeq_ct, ap_next, ap_set, kSet_ap, ap_setO, kSetO_ap, ap_ret, kRt_ap, ap_frz, kFrz_ow, kSome_s, ap_ixO, kIx_ow, kIx2_ap, kIx3_ap, ap_put, kPut_ap, kPut1_ow, kPut2_ap, kPut3_ap, kPut4_s, res_bind_ok, List.getElem?_cons_zero, List.getElem?_cons_succ, List.set_cons_zero, List.set_cons_succ, ap_callP, kCal_ow, kCal2_0, kCal2_1, kCal2_2, kCal3_ow, kCal4_ap, ap_lc, kLc_ap, ap_for, kFor_ap, ap_iOf, kIof_l, kIof_t, ap_rg, kRg_ap, ap_par, kPar_ap, kPar2_ap, ap_parO, kParO_ap, kParO2_ap, ap_apd, kApd_ow, kApd2_ap, ap_star, kStar_l, kStar3_ap, gN_1, gN_2, gN_3, g1_one, endM_rt, endR_rt, ap_runM, ap_runP]
    have e4 := enum_lc hr (.str (pageX rs)) 0 []
    rw [List.nil_append] at e4
    have w1 : wipeE [Sl.sh (.str (pageX rs)), .no, .no] [1, 2] = [.sh (.str (pageX rs)), .no, .no] := rfl
    simp only [m_read_plan, b_read_plan, s_read_plan_1, s_read_plan_2, startE3, e1, e3, gEnum_l, w1, e4, gTupOf_l, ap_var, kVar_sh, ap_cst, ap_ret1, ap_un, kUn_ap, ap_op, kOp_ap, kOp2_ap, ap_nil, ap_cons, kCons_ap, kCons2_ap, ap_app, kApp_ap, ap_tB, kB_ap, ap_not, kNot_ap, ap_and, kAnd_t, kAnd_f, ap_or, kOr_t, kOr_f, ap_dAnd, kDAnd_t, kDAnd_f, ap_dOr, kDOr_t, kDOr_f, ap_dNot, kDNot_ap, ap_dIf, ap_if, kIf_t, kIf_f, ap_chain, kChain_ap, kChain2_ap, kChain3_t, kChain3_f, ap_seq, kSeq_nx, kSeq_rt, kSeq_bk, kSeq_ct, ap_next, ap_set, kSet_ap, ap_setO, kSetO_ap, ap_ret, kRt_ap, ap_frz, kFrz_ow, kSome_s, ap_ixO, kIx_ow, kIx2_ap, kIx3_ap, ap_put, kPut_ap, kPut1_ow, kPut2_ap, kPut3_ap, kPut4_s, res_bind_ok, List.getElem?_cons_zero, List.getElem?_cons_succ, List.set_cons_zero, List.set_cons_succ, ap_callP, kCal_ow, kCal2_0, kCal2_1, kCal2_2, kCal3_ow, kCal4_ap, ap_lc, kLc_ap, ap_for, kFor_ap, ap_iOf, kIof_l, kIof_t, ap_rg, kRg_ap, ap_par, kPar_ap, kPar2_ap, ap_parO, kParO_ap, kParO2_ap, ap_apd, kApd_ow, kApd2_ap, ap_star, kStar_l, kStar3_ap, gN_1, gN_2, gN_3, g1_one, endM_rt, endR_rt, ap_runM, ap_runP]
end EL
namespace EL
open PySem PySem.Spec PyProof.Rows L2 TL
theorem join_all {x : Str} {ss : List Str} {P : Nat → Prop} (h : ∀ s ∈ ss, ∀ c ∈ tl s, P c) (hx : ∀ c ∈ tl x, P c) : ∀ c ∈ tl (Txt.join x ss), P c := by
  rw [join_eq, tl_join]
  generalize hT : ss.map tl = ps
  have hp : ∀ p ∈ ps, ∀ c ∈ p, P c := fun p hp => by
    rw [← hT] at hp
    obtain ⟨s, hs, rfl⟩ := List.mem_map.mp hp
    exact h s hs
  clear hT
  induction ps with
  | nil => intro c q; cases q
  | cons p r ih =>
    cases r with
    | nil => exact hp p List.mem_cons_self
    | cons q r =>
      intro c z
      rcases List.mem_append.mp z with z | z
      · exact hp p List.mem_cons_self c z
      · rcases List.mem_append.mp z with z | z
        · exact hx c z
        · exact ih (fun y hy => hp y (List.mem_cons_of_mem _ hy)) c z
theorem strOk_iff {x : Str} : PyData.strOk x = true ↔ ∀ c ∈ tl x, c < 0x110000 := by
  unfold PyData.strOk
  rw [Array.all_eq_true_iff_forall_mem]
  constructor
  · intro h c hc
    simpa using h c (Array.mem_toList_iff.mp hc)
  · intro h c hc
    simpa using h c (Array.mem_toList_iff.mpr hc)
theorem join_strOk {x : Str} {ss : List Str} (h : ∀ s ∈ ss, PyData.strOk s = true) (hx : PyData.strOk x = true) : PyData.strOk (Txt.join x ss) = true :=
  strOk_iff.mpr (join_all (fun s hs => strOk_iff.mp (h s hs)) (strOk_iff.mp hx))
theorem Row.xok {word : Str} {T : List Tri} (h : Row word T) : PyData.strOk (Row.X word T) = true := join_strOk (fun s hs => (plain_parts (h.plain s hs)).2.2.2.2) (by decide +kernel)
theorem Row.dn {word : Str} {T : List Tri} (h : Row word T) : nice (Row.D word T) = true ∧ (Row.D word T).depth ≤ 2 ∧ (Row.D word T).weight ≤ 700 := by
  have w := plain_parts (h.plain word List.mem_cons_self)
  have ih : ∀ y ∈ T.map (·.2.1), nice y = true ∧ y.depth ≤ 1 ∧ y.weight ≤ 150 := fun y hy => by
    obtain ⟨x, hx, rfl⟩ := List.mem_map.mp hy
    exact h.nice_ x hx
  have n1 := niceA_of fun y hy => (ih y hy).1
  have n2 := depthA_of fun y hy => (ih y hy).2.1
  have n3 := weightA_of fun y hy => (ih y hy).2.2
  rw [List.length_map] at n3
  have hf := h.few
  unfold Row.D
  refine ⟨?_, ?_, ?_⟩
  · simp only [nice, niceA, w.2.2.2.2, n1, Bool.and_self]
  · simp only [PyData.depth, PyData.depthAll]
    omega
  · simp only [PyData.weight, PyData.weightAll]
    have : word.cps.size ≤ 40 := w.1
    omega
theorem repr_row {word : Str} {T : List Tri} (h : Row word T) : gRepr (.list [.str (Row.X word T), .str (Row.X word T), Row.D word T]) = .ok (.str (PyData.shown (.list [.str (Row.X word T), .str (Row.X word T), Row.D word T]))) := by
  have d := h.dn
  have x := h.xok
  have l : (Row.X word T).cps.size ≤ 205 := h.xlen
  refine repr_nice ?_ ?_ ?_
  · simp only [nice, niceA, x, d.1, Bool.and_self]
  · simp only [PyData.depth, PyData.depthAll]
    omega
  · simp only [PyData.weight, PyData.weightAll]
    omega
theorem repr_page {rs : List Rw} (hr : ∀ r ∈ rs, Row r.1 r.2) (hl : rs.length ≤ 10) : gRepr (.list [.str (pageX rs), .str (pageX rs), .tuple (rs.map Rw.D), .tuple (rs.map Rw.D)]) = .ok (.str (PyData.shown (.list [.str (pageX rs), .str (pageX rs), .tuple (rs.map Rw.D), .tuple (rs.map Rw.D)]))) := by
  have ih : ∀ y ∈ rs.map Rw.D, nice y = true ∧ y.depth ≤ 2 ∧ y.weight ≤ 700 := fun y hy => by
    obtain ⟨r, h, rfl⟩ := List.mem_map.mp hy
    exact (hr r h).dn
  have n1 := niceA_of fun y hy => (ih y hy).1
  have n2 := depthA_of fun y hy => (ih y hy).2.1
  have n3 := weightA_of fun y hy => (ih y hy).2.2
  rw [List.length_map] at n3
  have x : PyData.strOk (pageX rs) = true := join_strOk (fun s hs => by
    obtain ⟨r, h, rfl⟩ := List.mem_map.mp hs
    exact (hr r h).xok) (by decide +kernel)
  have l : (pageX rs).cps.size ≤ 2060 := by
    have := join_len (x := "\n") (ss := rs.map Rw.X) (B := 205) fun s hs => by
      obtain ⟨r, h, rfl⟩ := List.mem_map.mp hs
      exact (hr r h).xlen
    have e : (rs.map Rw.X).length * (205 + Str.length "\n") ≤ 2060 := by
      show (rs.map Rw.X).length * (205 + 1) ≤ 2060
      rw [List.length_map]
      omega
    exact Nat.le_trans this e
  refine repr_nice ?_ ?_ ?_
  · simp only [nice, niceA, x, n1, Bool.and_self]
  · simp only [PyData.depth, PyData.depthAll]
    omega
  · simp only [PyData.weight, PyData.weightAll]
    omega
theorem gather {α : Type} {P : α → Prop} {f : α → PyData} : ∀ {ys : List PyData}, (∀ y ∈ ys, ∃ r, P r ∧ y = f r) → ∃ rs : List α, (∀ r ∈ rs, P r) ∧ ys = rs.map f
  | [], _ => ⟨[], (fun _ h => nomatch h), rfl⟩
  | y :: ys, h => by
    obtain ⟨r, p, rfl⟩ := h y List.mem_cons_self
    obtain ⟨rs, h1, rfl⟩ := gather (ys := ys) fun z hz => h z (List.mem_cons_of_mem _ hz)
    refine ⟨r :: rs, fun x hx => ?_, rfl⟩
    rcases List.mem_cons.mp hx with rfl | hx
    · exact p
    · exact h1 x hx
abbrev RP (r : Rw) : Prop := Row r.1 r.2
def rwD (r : Rw) : PyData := .tuple [r.D, .str r.X]
theorem gRange_ok {r : Int} (h0 : 0 ≤ r) (h1 : r < 10) : gRange1 [.int r] = .ok ((List.range r.toNat).map fun i => .int (i : Nat)) := by
  have a : decide (-(2 ^ 62) ≤ r) = true := decide_eq_true (by omega)
  have b : decide (r < 2 ^ 62) = true := decide_eq_true (by omega)
  have c : decide (r.toNat ≤ sizeLine) = true := decide_eq_true (by rw [sizeLine_eq]; omega)
  show (if (decide (-(2 ^ 62) ≤ r) && decide (r < 2 ^ 62) && decide (r.toNat ≤ sizeLine)) = true then Res.ok ((List.range r.toNat).map fun i => PyData.int (i : Nat)) else .bad) = _
  rw [a, b, c]
  rfl
theorem lc_goB {g : Gn} {te : Dn} {vs : List Nat} {I : Nat → En → Prop} {R : PyData → Prop} {M : Nat} : ∀ {ds : List PyData} (acc : List PyData) (k : Nat) (E : En), k + ds.length ≤ M → I k E → (∀ x ∈ acc, R x) → (∀ d ∈ ds, ∀ k E, k < M → I k E → ∃ e1 y e2, g d E = .ok e1 ∧ te e1 = .ok (y, e2) ∧ R y ∧ I (k + 1) (wipeE e2 vs)) →
    ∃ ys E', lcF g tYesD te vs ds acc E = .ok (.list ys, E') ∧ ys.length = acc.length + ds.length ∧ (∀ y ∈ ys, R y) ∧ I (k + ds.length) E'
  | [], acc, k, E, _, hI, ha, _ => ⟨acc, E, rfl, rfl, ha, hI⟩
  | d :: ds, acc, k, E, hM, hI, ha, h => by
    rw [List.length_cons] at hM
    obtain ⟨e1, y, e2, h1, h2, h3, h4⟩ := h d List.mem_cons_self k E (by omega) hI
    obtain ⟨ys, E', i1, i2, i3, i4⟩ := lc_goB (M := M) (ds := ds) (acc ++ [y]) (k + 1) (wipeE e2 vs) (by omega) h4 (fun x hx => by
      rcases List.mem_append.mp hx with q | q
      · exact ha x q
      · rw [List.mem_singleton.mp q]; exact h3) fun x hx => h x (List.mem_cons_of_mem _ hx)
    refine ⟨ys, E', ?_, by rw [i2, List.length_append, List.length_cons, List.length_cons, List.length_nil]; omega, i3, by rw [List.length_cons, show k + (ds.length + 1) = k + 1 + ds.length by omega]; exact i4⟩
    show Res.bind (g d E) _ = _
    rw [h1]
    show Res.bind (te e1) _ = _
    rw [h2]
    exact i1
theorem loop_goB {g : Gn} {b : Sn} {I : Nat → En → Prop} {M : Nat} : ∀ {ds : List PyData} (k : Nat) (E : En), k + ds.length ≤ M → I k E → (∀ d ∈ ds, ∀ k E, k < M → I k E → ∃ e1 e2, g d E = .ok e1 ∧ b e1 = .ok (.nx, e2) ∧ I (k + 1) e2) → ∃ E', loopF g b ds E = .ok (.nx, E') ∧ I (k + ds.length) E'
  | [], k, E, _, hI, _ => ⟨E, rfl, hI⟩
  | d :: ds, k, E, hM, hI, h => by
    rw [List.length_cons] at hM
    obtain ⟨e1, e2, h1, h2, h3⟩ := h d List.mem_cons_self k E (by omega) hI
    obtain ⟨E', i1, i2⟩ := loop_goB (M := M) (ds := ds) (k + 1) e2 (by omega) h3 fun x hx => h x (List.mem_cons_of_mem _ hx)
    refine ⟨E', ?_, by rw [List.length_cons, show k + (ds.length + 1) = k + 1 + ds.length by omega]; exact i2⟩
    show Res.bind (g d E) _ = _
    rw [h1]
    show Res.bind (b e1) _ = _
    rw [h2]
    exact i1
theorem rows_ok {pd : PyData} {n : Nat} (s2 s3 s4 s5 s6 s7 s8 s9 : Sl) (hp : PenOk n pd) (hn : n < 10000) :
    ∃ (rs : List Rw) (pd' : PyData), (∀ r ∈ rs, RP r) ∧ rs.length ≤ 10 ∧ PenOk (n + 60) pd' ∧ s_law_0 [.no, .ow pd, s2, s3, s4, s5, s6, s7, s8, s9] = .ok (.nx, [.no, .ow pd', s2, .sh (.list (rs.map rwD)), s4, s5, s6, s7, s8, .no]) := by
  obtain ⟨r, pd1, e1, r0, r1, hp1⟩ := draw92 (many := 10) hp (by omega) (by decide) (by decide)
  have e2 := gRange_ok r0 r1
  obtain ⟨ys, E', i1, i2, i3, i4⟩ := lc_goB (M := 10) (g := gNm 9) (te := dCallP m__law_drawn 1 1 dNil) (vs := [9]) (I := fun k E => ∃ pd, PenOk (n + 1 + 5 * k) pd ∧ E = [.no, .ow pd, s2, s3, s4, s5, s6, s7, s8, .no]) (R := fun y => ∃ r, RP r ∧ y = rwD r)
    (ds := (List.range r.toNat).map fun i => .int (i : Nat)) [] 0 [.no, .ow pd1, s2, s3, s4, s5, s6, s7, s8, .no] (by rw [List.length_map, List.length_range]; omega) ⟨pd1, hp1, rfl⟩ (fun _ h => nomatch h) (fun d hd k E hkM hI => by
      obtain ⟨pdk, hpk, rfl⟩ := hI
      obtain ⟨word, kms, qs, pd', hr, hp', e⟩ := drawn_ok hpk (by omega)
      obtain ⟨T, hT, eD, eS⟩ := hr.row
      rw [eD, eS] at e
      refine ⟨[.no, .ow pdk, s2, s3, s4, s5, s6, s7, s8, .sh d], rwD (word, T), [.no, .ow pd', s2, s3, s4, s5, s6, s7, s8, .sh d], rfl, ?_, ⟨(word, T), hT, rfl⟩, pd', hp'.mono (by omega), rfl⟩
      have e' : m__law_drawn pdk [] = .ok (rwD (word, T), pd') := e
      simp only [e', ap_var, kVar_sh, ap_cst, ap_ret1, ap_un, kUn_ap, ap_op, kOp_ap, kOp2_ap, ap_nil, ap_cons, kCons_ap, kCons2_ap, ap_app, kApp_ap, ap_tB, kB_ap, ap_not, kNot_ap, ap_and, kAnd_t, kAnd_f, ap_or, kOr_t, kOr_f, ap_dAnd, kDAnd_t, kDAnd_f, ap_dOr, kDOr_t, kDOr_f, ap_dNot, kDNot_ap, ap_dIf, ap_if, kIf_t, kIf_f, ap_chain, kChain_ap, kChain2_ap, kChain3_t, kChain3_f, ap_seq, kSeq_nx, kSeq_rt, kSeq_bk, kSeq_ct, ap_next, ap_set, kSet_ap, ap_setO, kSetO_ap, ap_ret, kRt_ap, ap_frz, kFrz_ow, kSome_s, ap_ixO, kIx_ow, kIx2_ap, kIx3_ap, ap_put, kPut_ap, kPut1_ow, kPut2_ap, kPut3_ap, kPut4_s, res_bind_ok, List.getElem?_cons_zero, List.getElem?_cons_succ, List.set_cons_zero, List.set_cons_succ, ap_callP, kCal_ow, kCal2_0, kCal2_1, kCal2_2, kCal3_ow, kCal4_ap, ap_lc, kLc_ap, ap_for, kFor_ap, ap_iOf, kIof_l, kIof_t, ap_rg, kRg_ap, ap_par, kPar_ap, kPar2_ap, ap_parO, kParO_ap, kParO2_ap, ap_apd, kApd_ow, kApd2_ap, ap_star, kStar_l, kStar3_ap, gN_1, gN_2, gN_3, g1_one, endM_rt, endR_rt, ap_runM, ap_runP])
  rw [List.length_map, List.length_range] at i2 i4
  obtain ⟨rs, h1, rfl⟩ := gather i3
  obtain ⟨pd', hp', rfl⟩ := i4
  rw [List.length_map] at i2
  refine ⟨rs, pd', h1, by rw [i2]; show 0 + _ ≤ _; omega, hp'.mono (by omega), ?_⟩
  have w1 : wipeE [Sl.no, .ow pd1, s2, s3, s4, s5, s6, s7, s8, s9] [9] = [.no, .ow pd1, s2, s3, s4, s5, s6, s7, s8, .no] := rfl
  simp only [s_law_0, e1, e2, w1, i1, ap_var, kVar_sh, ap_cst, ap_ret1, ap_un, kUn_ap, ap_op, kOp_ap, kOp2_ap, ap_nil, ap_cons, kCons_ap, kCons2_ap, ap_app, kApp_ap, ap_tB, kB_ap, ap_not, kNot_ap, ap_and, kAnd_t, kAnd_f, ap_or, kOr_t, kOr_f, ap_dAnd, kDAnd_t, kDAnd_f, ap_dOr, kDOr_t, kDOr_f, ap_dNot, kDNot_ap, ap_dIf, ap_if, kIf_t, kIf_f, ap_chain, kChain_ap, kChain2_ap, kChain3_t, kChain3_f, ap_seq, kSeq_nx, kSeq_rt, kSeq_bk, kSeq_ct, ap_next, ap_set, kSet_ap, ap_setO, kSetO_ap, ap_ret, kRt_ap, ap_frz, kFrz_ow, kSome_s, ap_ixO, kIx_ow, kIx2_ap, kIx3_ap, ap_put, kPut_ap, kPut1_ow, kPut2_ap, kPut3_ap, kPut4_s, res_bind_ok, List.getElem?_cons_zero, List.getElem?_cons_succ, List.set_cons_zero, List.set_cons_succ, ap_callP, kCal_ow, kCal2_0, kCal2_1, kCal2_2, kCal3_ow, kCal4_ap, ap_lc, kLc_ap, ap_for, kFor_ap, ap_iOf, kIof_l, kIof_t, ap_rg, kRg_ap, ap_par, kPar_ap, kPar2_ap, ap_parO, kParO_ap, kParO2_ap, ap_apd, kApd_ow, kApd2_ap, ap_star, kStar_l, kStar3_ap, gN_1, gN_2, gN_3, g1_one, endM_rt, endR_rt, ap_runM, ap_runP]
/-! ### one row, one turn -/
theorem gTp56 (a b : PyData) (s0 s1 s2 s3 s4 s5 s6 s7 s8 s9 : Sl) : gTp 2 (gCn (gNm 5) (gCn (gNm 6) gNl)) (.tuple [a, b]) [s0, s1, s2, s3, s4, s5, s6, s7, s8, s9] = .ok [s0, s1, s2, s3, s4, .sh a, .sh b, s7, s8, s9] := rfl
theorem gLst_3 (x y z : PyData) : gLst [x, y, z] = .ok (.list [x, y, z]) := rfl
theorem gLst_4 (x y z u : PyData) : gLst [x, y, z, u] = .ok (.list [x, y, z, u]) := rfl
theorem row_turn {r : Rw} (h : RP r) (s0 s1 s2 s3 s4 s7 s8 s9 : Sl) : (sSeq s_law_1 s_law_3) [s0, s1, s2, s3, s4, .sh r.D, .sh (.str r.X), s7, s8, s9] = .ok (.nx, [s0, s1, s2, s3, .sh (.list [.str r.X, .str r.X, r.D]), .sh r.D, .sh (.str r.X), s7, s8, s9]) := by
  have e1 : m_move_text [r.D] = .ok (.str r.X) := text_ok h
  have e2 : m_read_move [.str r.X] = .ok r.D := read_ok h
  have e3 : m_is_move [r.D] = .ok (.bool true) := move_ok h
  have e4 : gRepr (.list [.str r.X, .str r.X, r.D]) = .ok (.str (PyData.shown (.list [.str r.X, .str r.X, r.D]))) := repr_row h
  simp only [s_law_1, s_law_3, e1, e2, e3, gLst_3, e4, ne_str, Bool.not_true, ap_var, kVar_sh, ap_cst, ap_ret1, ap_un, kUn_ap, ap_op, kOp_ap, kOp2_ap, ap_nil, ap_cons, kCons_ap, kCons2_ap, ap_app, kApp_ap, ap_tB, kB_ap, ap_not, kNot_ap, ap_and, kAnd_t, kAnd_f, ap_or, kOr_t, kOr_f, ap_dAnd, kDAnd_t, kDAnd_f, ap_dOr, kDOr_t, kDOr_f, ap_dNot, kDNot_ap, ap_dIf, ap_if, kIf_t, kIf_f, ap_chain, kChain_ap, kChain2_ap, kChain3_t, kChain3_f, ap_seq, kSeq_nx, kSeq_rt, kSeq_bk, kSeq_ct, ap_next, ap_set, kSet_ap, ap_setO, kSetO_ap, ap_ret, kRt_ap, ap_frz, kFrz_ow, kSome_s, ap_ixO, kIx_ow, kIx2_ap, kIx3_ap, ap_put, kPut_ap, kPut1_ow, kPut2_ap, kPut3_ap, kPut4_s, res_bind_ok, List.getElem?_cons_zero, List.getElem?_cons_succ, List.set_cons_zero, List.set_cons_succ, ap_callP, kCal_ow, kCal2_0, kCal2_1, kCal2_2, kCal3_ow, kCal4_ap, ap_lc, kLc_ap, ap_for, kFor_ap, ap_iOf, kIof_l, kIof_t, ap_rg, kRg_ap, ap_par, kPar_ap, kPar2_ap, ap_parO, kParO_ap, kParO2_ap, ap_apd, kApd_ow, kApd2_ap, ap_star, kStar_l, kStar3_ap, gN_1, gN_2, gN_3, g1_one, endM_rt, endR_rt, ap_runM, ap_runP]
theorem rows_turn {rs : List Rw} (hr : ∀ r ∈ rs, RP r) (s0 s1 s2 s4 s5 s6 s7 s8 s9 : Sl) : ∃ t4 t5 t6, s_law_4 [s0, s1, s2, .sh (.list (rs.map rwD)), s4, s5, s6, s7, s8, s9] = .ok (.nx, [s0, s1, s2, .sh (.list (rs.map rwD)), t4, t5, t6, s7, s8, s9]) := by
  obtain ⟨E', e, t4, t5, t6, rfl⟩ := loop_go (g := gTp 2 (gCn (gNm 5) (gCn (gNm 6) gNl))) (b := sSeq s_law_1 s_law_3) (I := fun _ E => ∃ t4 t5 t6, E = [s0, s1, s2, .sh (.list (rs.map rwD)), t4, t5, t6, s7, s8, s9]) (ds := rs.map rwD) 0 [s0, s1, s2, .sh (.list (rs.map rwD)), s4, s5, s6, s7, s8, s9] ⟨s4, s5, s6, rfl⟩
    (fun d hd k E hI => by
      obtain ⟨t4, t5, t6, rfl⟩ := hI
      obtain ⟨r, hrs, rfl⟩ := List.mem_map.mp hd
      exact ⟨_, _, gTp56 _ _ _ _ _ _ _ _ _ _ _ _, row_turn (hr r hrs) _ _ _ _ _ _ _ _, _, _, _, rfl⟩)
  refine ⟨t4, t5, t6, ?_⟩
  simp only [s_law_4, e, ap_var, kVar_sh, ap_cst, ap_ret1, ap_un, kUn_ap, ap_op, kOp_ap, kOp2_ap, ap_nil, ap_cons, kCons_ap, kCons2_ap, ap_app, kApp_ap, ap_tB, kB_ap, ap_not, kNot_ap, ap_and, kAnd_t, kAnd_f, ap_or, kOr_t, kOr_f, ap_dAnd, kDAnd_t, kDAnd_f, ap_dOr, kDOr_t, kDOr_f, ap_dNot, kDNot_ap, ap_dIf, ap_if, kIf_t, kIf_f, ap_chain, kChain_ap, kChain2_ap, kChain3_t, kChain3_f, ap_seq, kSeq_nx, kSeq_rt, kSeq_bk, kSeq_ct, ap_next, ap_set, kSet_ap, ap_setO, kSetO_ap, ap_ret, kRt_ap, ap_frz, kFrz_ow, kSome_s, ap_ixO, kIx_ow, kIx2_ap, kIx3_ap, ap_put, kPut_ap, kPut1_ow, kPut2_ap, kPut3_ap, kPut4_s, res_bind_ok, List.getElem?_cons_zero, List.getElem?_cons_succ, List.set_cons_zero, List.set_cons_succ, ap_callP, kCal_ow, kCal2_0, kCal2_1, kCal2_2, kCal3_ow, kCal4_ap, ap_lc, kLc_ap, ap_for, kFor_ap, ap_iOf, kIof_l, kIof_t, ap_rg, kRg_ap, ap_par, kPar_ap, kPar2_ap, ap_parO, kParO_ap, kParO2_ap, ap_apd, kApd_ow, kApd2_ap, ap_star, kStar_l, kStar3_ap, gN_1, gN_2, gN_3, g1_one, endM_rt, endR_rt, ap_runM, ap_runP]
theorem deeds_lc {rs : List Rw} (s0 s1 s2 s3 s4 s7 s8 s9 : Sl) : lcF (gTp 2 (gCn (gNm 5) (gCn (gNm 6) gNl))) tYesD (dVar 5) [5, 6] (rs.map rwD) [] [s0, s1, s2, s3, s4, .no, .no, s7, s8, s9] = .ok (.list ([] ++ rs.map Rw.D), [s0, s1, s2, s3, s4, .no, .no, s7, s8, s9]) :=
  lc_mapT (A := rwD) (B := Rw.D) [] fun r _ => ⟨_, _, gTp56 _ _ _ _ _ _ _ _ _ _ _ _, rfl, rfl⟩
theorem words_lc {rs : List Rw} (s0 s1 s2 s3 s4 s7 s8 s9 : Sl) : lcF (gTp 2 (gCn (gNm 5) (gCn (gNm 6) gNl))) tYesD (dVar 6) [5, 6] (rs.map rwD) [] [s0, s1, s2, s3, s4, .no, .no, s7, s8, s9] = .ok (.list ([] ++ rs.map fun r => .str r.X), [s0, s1, s2, s3, s4, .no, .no, s7, s8, s9]) :=
  lc_mapT (A := rwD) (B := fun r => .str r.X) [] fun r _ => ⟨_, _, gTp56 _ _ _ _ _ _ _ _ _ _ _ _, rfl, rfl⟩
theorem wipe56 (s0 s1 s2 s3 s4 s5 s6 s7 s8 s9 : Sl) : wipeE [s0, s1, s2, s3, s4, s5, s6, s7, s8, s9] [5, 6] = [s0, s1, s2, s3, s4, .no, .no, s7, s8, s9] := rfl
theorem turn_ok {pd : PyData} {n : Nat} (s2 s3 s4 s5 s6 s7 s8 s9 : Sl) (hp : PenOk n pd) (hn : n < 10000) :
    ∃ pd' t3 t4 t5 t6 t7 t8 t9, PenOk (n + 60) pd' ∧ (sSeq s_law_0 (sSeq s_law_4 (sSeq s_law_5 (sSeq s_law_6 s_law_8)))) [.no, .ow pd, s2, s3, s4, s5, s6, s7, s8, s9] = .ok (.nx, [.no, .ow pd', s2, t3, t4, t5, t6, t7, t8, t9]) := by
  obtain ⟨rs, pd', hr, hl, hp', e0⟩ := rows_ok s2 s3 s4 s5 s6 s7 s8 s9 hp hn
  obtain ⟨t4, t5, t6, e4⟩ := rows_turn hr .no (.ow pd') s2 s4 s5 s6 s7 s8 .no
  have d1 := deeds_lc (rs := rs) .no (.ow pd') s2 (.sh (.list (rs.map rwD))) t4 s7 s8 .no
  have d2 := words_lc (rs := rs) .no (.ow pd') s2 (.sh (.list (rs.map rwD))) t4 s7 s8 .no
  rw [List.nil_append] at d1 d2
  have p1 := page_join hr hl
  have p2 := plan_l hr hl
  have p3 := plan_t hr hl
  have p4 := page_read hr hl
  have p5 := repr_page hr hl
  refine ⟨pd', .sh (.list (rs.map rwD)), .sh (.list [.str (pageX rs), .str (pageX rs), .tuple (rs.map Rw.D), .tuple (rs.map Rw.D)]), .no, .no, .sh (.list (rs.map Rw.D)), .sh (.str (pageX rs)), .no, hp', ?_⟩
  simp only [e0, e4, s_law_5, s_law_6, s_law_8, wipe56, d1, d2, p1, p2, p3, p4, gTupOf_l, gLst_4, p5, ne_str, ap_var, kVar_sh, ap_cst, ap_ret1, ap_un, kUn_ap, ap_op, kOp_ap, kOp2_ap, ap_nil, ap_cons, kCons_ap, kCons2_ap, ap_app, kApp_ap, ap_tB, kB_ap, ap_not, kNot_ap, ap_and, kAnd_t, kAnd_f, ap_or, kOr_t, kOr_f, ap_dAnd, kDAnd_t, kDAnd_f, ap_dOr, kDOr_t, kDOr_f, ap_dNot, kDNot_ap, ap_dIf, ap_if, kIf_t, kIf_f, ap_chain, kChain_ap, kChain2_ap, kChain3_t, kChain3_f, ap_seq, kSeq_nx, kSeq_rt, kSeq_bk, kSeq_ct, ap_next, ap_set, kSet_ap, ap_setO, kSetO_ap, ap_ret, kRt_ap, ap_frz, kFrz_ow, kSome_s, ap_ixO, kIx_ow, kIx2_ap, kIx3_ap, ap_put, kPut_ap, kPut1_ow, kPut2_ap, kPut3_ap, kPut4_s, res_bind_ok, List.getElem?_cons_zero, List.getElem?_cons_succ, List.set_cons_zero, List.set_cons_succ, ap_callP, kCal_ow, kCal2_0, kCal2_1, kCal2_2, kCal3_ow, kCal4_ap, ap_lc, kLc_ap, ap_for, kFor_ap, ap_iOf, kIof_l, kIof_t, ap_rg, kRg_ap, ap_par, kPar_ap, kPar2_ap, ap_parO, kParO_ap, kParO2_ap, ap_apd, kApd_ow, kApd2_ap, ap_star, kStar_l, kStar3_ap, gN_1, gN_2, gN_3, g1_one, endM_rt, endR_rt, ap_runM, ap_runP]
theorem last_ok (E : En) : s_law_10 E = .ok (.rt (.bool true), E) := by kernel_rfl
theorem gRange_6 : gRange1 [.int 6] = .ok ((List.range 6).map fun i => .int (i : Nat)) := rfl
theorem law_true (ns : List Int) (h : ns.length ≤ 63) : lawEnd (b_law (startL 10 ns)) = .ok (.bool true) := by
  have hs : startL 10 ns = [.no, .ow (penOf ns 0 0), .no, .no, .no, .no, .no, .no, .no, .no] := rfl
  obtain ⟨E', e, _⟩ := loop_goB (M := 6) (g := gNm 2) (b := sSeq s_law_0 (sSeq s_law_4 (sSeq s_law_5 (sSeq s_law_6 s_law_8)))) (I := fun k E => ∃ pd s2 s3 s4 s5 s6 s7 s8 s9, PenOk (60 * k) pd ∧ E = [.no, .ow pd, s2, s3, s4, s5, s6, s7, s8, s9])
    (ds := (List.range 6).map fun i => .int (i : Nat)) 0 (startL 10 ns) (by decide) ⟨penOf ns 0 0, .no, .no, .no, .no, .no, .no, .no, .no, ⟨ns, 0, 0, rfl, h, by decide, by decide⟩, hs⟩
    (fun d hd k E hk hI => by
      obtain ⟨pd, s2, s3, s4, s5, s6, s7, s8, s9, hp, rfl⟩ := hI
      obtain ⟨pd', t3, t4, t5, t6, t7, t8, t9, hp', e⟩ := turn_ok (.sh d) s3 s4 s5 s6 s7 s8 s9 hp (by omega)
      exact ⟨[.no, .ow pd, .sh d, s3, s4, s5, s6, s7, s8, s9], _, rfl, e, pd', .sh d, t3, t4, t5, t6, t7, t8, t9, hp'.mono (by omega), rfl⟩)
  have e2 : s_law_9 (startL 10 ns) = .ok (.nx, E') := by
    simp only [s_law_9, gRange_6, e, ap_var, kVar_sh, ap_cst, ap_ret1, ap_un, kUn_ap, ap_op, kOp_ap, kOp2_ap, ap_nil, ap_cons, kCons_ap, kCons2_ap, ap_app, kApp_ap, ap_tB, kB_ap, ap_not, kNot_ap, ap_and, kAnd_t, kAnd_f, ap_or, kOr_t, kOr_f, ap_dAnd, kDAnd_t, kDAnd_f, ap_dOr, kDOr_t, kDOr_f, ap_dNot, kDNot_ap, ap_dIf, ap_if, kIf_t, kIf_f, ap_chain, kChain_ap, kChain2_ap, kChain3_t, kChain3_f, ap_seq, kSeq_nx, kSeq_rt, kSeq_bk, kSeq_ct, ap_next, ap_set, kSet_ap, ap_setO, kSetO_ap, ap_ret, kRt_ap, ap_frz, kFrz_ow, kSome_s, ap_ixO, kIx_ow, kIx2_ap, kIx3_ap, ap_put, kPut_ap, kPut1_ow, kPut2_ap, kPut3_ap, kPut4_s, res_bind_ok, List.getElem?_cons_zero, List.getElem?_cons_succ, List.set_cons_zero, List.set_cons_succ, ap_callP, kCal_ow, kCal2_0, kCal2_1, kCal2_2, kCal3_ow, kCal4_ap, ap_lc, kLc_ap, ap_for, kFor_ap, ap_iOf, kIof_l, kIof_t, ap_rg, kRg_ap, ap_par, kPar_ap, kPar2_ap, ap_parO, kParO_ap, kParO2_ap, ap_apd, kApd_ow, kApd2_ap, ap_star, kStar_l, kStar3_ap, gN_1, gN_2, gN_3, g1_one, endM_rt, endR_rt, ap_runM, ap_runP]
  unfold lawEnd b_law
  rw [ap_seq, e2, res_bind_ok, kSeq_nx, last_ok]
end EL
namespace EL
open PySem PySem.Spec PyProof.Rows L2
theorem all_mk {P : Program} {w : World} {K : PySem.W.Frag} {h : Heap} {mg : Str → Option Value} {fa : Addr} (X : K.In h) (G : h.Ns mainGlobals mg) (hfa : mg "law" = some (.ref fa))
    {t_MOST_LETTERS : Tok}
    {t_LETTERS : Tok}
    {t_TWIN : Tok}
    {t_RESERVE : Tok}
    {t_DIGITS : Tok}
    {t_MOST_DIGITS : Tok}
    {t_MOST_FIBRES : Tok}
    {t_UP : Tok}
    {t_DOWN : Tok}
    {t_MOST_PARTS : Tok}
    {t_MOST_FIBRE : Tok}
    {t_MOST_RATE : Tok}
    {t_MOST_PLACE : Tok}
    {a_BOUNDS n_BOUNDS : Nat}
    {t_BOUNDS_5 : Tok} {h_BOUNDS_5 : Int}
    {a_BOUNDS_5 m_BOUNDS_5 : Nat} {o_BOUNDS_5 : Option Addr} {s_BOUNDS_5 : Array (Option Value)}
    {t_BOUNDS_5_0 : Tok}
    {t_BOUNDS_5_1 : Tok}
    {t_BOUNDS_4 : Tok} {h_BOUNDS_4 : Int}
    {a_BOUNDS_4 m_BOUNDS_4 : Nat} {o_BOUNDS_4 : Option Addr} {s_BOUNDS_4 : Array (Option Value)}
    {t_BOUNDS_4_0 : Tok}
    {t_BOUNDS_4_1 : Tok}
    {t_BOUNDS_3 : Tok} {h_BOUNDS_3 : Int}
    {a_BOUNDS_3 m_BOUNDS_3 : Nat} {o_BOUNDS_3 : Option Addr} {s_BOUNDS_3 : Array (Option Value)}
    {t_BOUNDS_3_0 : Tok}
    {t_BOUNDS_3_1 : Tok}
    {t_BOUNDS_2 : Tok} {h_BOUNDS_2 : Int}
    {a_BOUNDS_2 m_BOUNDS_2 : Nat} {o_BOUNDS_2 : Option Addr} {s_BOUNDS_2 : Array (Option Value)}
    {t_BOUNDS_2_0 : Tok}
    {t_BOUNDS_2_1 : Tok}
    {t_BOUNDS_1 : Tok} {h_BOUNDS_1 : Int}
    {a_BOUNDS_1 m_BOUNDS_1 : Nat} {o_BOUNDS_1 : Option Addr} {s_BOUNDS_1 : Array (Option Value)}
    {t_BOUNDS_1_0 : Tok}
    {t_BOUNDS_1_1 : Tok}
    {t_BOUNDS_0 : Tok} {h_BOUNDS_0 : Int}
    {a_BOUNDS_0 m_BOUNDS_0 : Nat} {o_BOUNDS_0 : Option Addr} {s_BOUNDS_0 : Array (Option Value)}
    {t_BOUNDS_0_0 : Tok}
    {t_BOUNDS_0_1 : Tok}
    {a_MOVE_FORMS n_MOVE_FORMS : Nat}
    {t_MOVE_FORMS_8 : Tok} {h_MOVE_FORMS_8 : Int}
    {a_MOVE_FORMS_8 m_MOVE_FORMS_8 : Nat} {o_MOVE_FORMS_8 : Option Addr} {s_MOVE_FORMS_8 : Array (Option Value)}
    {t_MOVE_FORMS_8_0 : Tok}
    {t_MOVE_FORMS_7 : Tok} {h_MOVE_FORMS_7 : Int}
    {a_MOVE_FORMS_7 m_MOVE_FORMS_7 : Nat} {o_MOVE_FORMS_7 : Option Addr} {s_MOVE_FORMS_7 : Array (Option Value)}
    {t_MOVE_FORMS_7_0 : Tok}
    {t_MOVE_FORMS_7_1 : Tok}
    {t_MOVE_FORMS_7_2 : Tok}
    {t_MOVE_FORMS_6 : Tok} {h_MOVE_FORMS_6 : Int}
    {a_MOVE_FORMS_6 m_MOVE_FORMS_6 : Nat} {o_MOVE_FORMS_6 : Option Addr} {s_MOVE_FORMS_6 : Array (Option Value)}
    {t_MOVE_FORMS_6_0 : Tok}
    {t_MOVE_FORMS_5 : Tok} {h_MOVE_FORMS_5 : Int}
    {a_MOVE_FORMS_5 m_MOVE_FORMS_5 : Nat} {o_MOVE_FORMS_5 : Option Addr} {s_MOVE_FORMS_5 : Array (Option Value)}
    {t_MOVE_FORMS_5_0 : Tok}
    {t_MOVE_FORMS_5_1 : Tok}
    {t_MOVE_FORMS_5_2 : Tok}
    {t_MOVE_FORMS_5_3 : Tok}
    {t_MOVE_FORMS_4 : Tok} {h_MOVE_FORMS_4 : Int}
    {a_MOVE_FORMS_4 m_MOVE_FORMS_4 : Nat} {o_MOVE_FORMS_4 : Option Addr} {s_MOVE_FORMS_4 : Array (Option Value)}
    {t_MOVE_FORMS_4_0 : Tok}
    {t_MOVE_FORMS_4_1 : Tok}
    {t_MOVE_FORMS_4_2 : Tok}
    {t_MOVE_FORMS_3 : Tok} {h_MOVE_FORMS_3 : Int}
    {a_MOVE_FORMS_3 m_MOVE_FORMS_3 : Nat} {o_MOVE_FORMS_3 : Option Addr} {s_MOVE_FORMS_3 : Array (Option Value)}
    {t_MOVE_FORMS_3_0 : Tok}
    {t_MOVE_FORMS_2 : Tok} {h_MOVE_FORMS_2 : Int}
    {a_MOVE_FORMS_2 m_MOVE_FORMS_2 : Nat} {o_MOVE_FORMS_2 : Option Addr} {s_MOVE_FORMS_2 : Array (Option Value)}
    {t_MOVE_FORMS_2_0 : Tok}
    {t_MOVE_FORMS_1 : Tok} {h_MOVE_FORMS_1 : Int}
    {a_MOVE_FORMS_1 m_MOVE_FORMS_1 : Nat} {o_MOVE_FORMS_1 : Option Addr} {s_MOVE_FORMS_1 : Array (Option Value)}
    {t_MOVE_FORMS_1_0 : Tok}
    {t_MOVE_FORMS_1_1 : Tok}
    {t_MOVE_FORMS_1_2 : Tok}
    {t_MOVE_FORMS_0 : Tok} {h_MOVE_FORMS_0 : Int}
    {a_MOVE_FORMS_0 m_MOVE_FORMS_0 : Nat} {o_MOVE_FORMS_0 : Option Addr} {s_MOVE_FORMS_0 : Array (Option Value)}
    {t_MOVE_FORMS_0_0 : Tok}
    {t_MOVE_FORMS_0_1 : Tok}
    {a_is_between : Addr} {od_is_between an_is_between : Option Addr} {sl_is_between : Array (Option Value)} {oc_is_between kV_is_between dc_is_between pm_is_between cd_is_between ct_is_between : Value}
    {a_is_name : Addr} {od_is_name an_is_name : Option Addr} {sl_is_name : Array (Option Value)} {oc_is_name kV_is_name dc_is_name pm_is_name cd_is_name ct_is_name : Value}
    {a_is_light : Addr} {od_is_light an_is_light : Option Addr} {sl_is_light : Array (Option Value)} {oc_is_light kV_is_light dc_is_light pm_is_light cd_is_light ct_is_light : Value}
    {a_is_twin : Addr} {od_is_twin an_is_twin : Option Addr} {sl_is_twin : Array (Option Value)} {oc_is_twin kV_is_twin dc_is_twin pm_is_twin cd_is_twin ct_is_twin : Value}
    {a_is_reserve : Addr} {od_is_reserve an_is_reserve : Option Addr} {sl_is_reserve : Array (Option Value)} {oc_is_reserve kV_is_reserve dc_is_reserve pm_is_reserve cd_is_reserve ct_is_reserve : Value}
    {a_is_item : Addr} {od_is_item an_is_item : Option Addr} {sl_is_item : Array (Option Value)} {oc_is_item kV_is_item dc_is_item pm_is_item cd_is_item ct_is_item : Value}
    {a_number_in : Addr} {od_number_in an_number_in : Option Addr} {sl_number_in : Array (Option Value)} {oc_number_in kV_number_in dc_number_in pm_number_in cd_number_in ct_number_in : Value}
    {a_route_in : Addr} {od_route_in an_route_in : Option Addr} {sl_route_in : Array (Option Value)} {oc_route_in kV_route_in dc_route_in pm_route_in cd_route_in ct_route_in : Value}
    {a_step_in : Addr} {od_step_in an_step_in : Option Addr} {sl_step_in : Array (Option Value)} {oc_step_in kV_step_in dc_step_in pm_step_in cd_step_in ct_step_in : Value}
    {a_value_in : Addr} {od_value_in an_value_in : Option Addr} {sl_value_in : Array (Option Value)} {oc_value_in kV_value_in dc_value_in pm_value_in cd_value_in ct_value_in : Value}
    {a_values_in : Addr} {od_values_in an_values_in : Option Addr} {sl_values_in : Array (Option Value)} {oc_values_in kV_values_in dc_values_in pm_values_in cd_values_in ct_values_in : Value}
    {a_lines_of : Addr} {od_lines_of an_lines_of : Option Addr} {sl_lines_of : Array (Option Value)} {oc_lines_of kV_lines_of dc_lines_of pm_lines_of cd_lines_of ct_lines_of : Value}
    {a_move_in : Addr} {od_move_in an_move_in : Option Addr} {sl_move_in : Array (Option Value)} {oc_move_in kV_move_in dc_move_in pm_move_in cd_move_in ct_move_in : Value}
    {a_route_word : Addr} {od_route_word an_route_word : Option Addr} {sl_route_word : Array (Option Value)} {oc_route_word kV_route_word dc_route_word pm_route_word cd_route_word ct_route_word : Value}
    {a_part_word : Addr} {od_part_word an_part_word : Option Addr} {sl_part_word : Array (Option Value)} {oc_part_word kV_part_word dc_part_word pm_part_word cd_part_word ct_part_word : Value}
    {a_move_line : Addr} {od_move_line an_move_line : Option Addr} {sl_move_line : Array (Option Value)} {oc_move_line kV_move_line dc_move_line pm_move_line cd_move_line ct_move_line : Value}
    {a_move_text : Addr} {od_move_text an_move_text : Option Addr} {sl_move_text : Array (Option Value)} {oc_move_text kV_move_text dc_move_text pm_move_text cd_move_text ct_move_text : Value}
    {a_plan_text : Addr} {od_plan_text an_plan_text : Option Addr} {sl_plan_text : Array (Option Value)} {oc_plan_text kV_plan_text dc_plan_text pm_plan_text cd_plan_text ct_plan_text : Value}
    {a_is_route_form : Addr} {od_is_route_form an_is_route_form : Option Addr} {sl_is_route_form : Array (Option Value)} {oc_is_route_form kV_is_route_form dc_is_route_form pm_is_route_form cd_is_route_form ct_is_route_form : Value}
    {a_is_part : Addr} {od_is_part an_is_part : Option Addr} {sl_is_part : Array (Option Value)} {oc_is_part kV_is_part dc_is_part pm_is_part cd_is_part ct_is_part : Value}
    {a_is_move : Addr} {od_is_move an_is_move : Option Addr} {sl_is_move : Array (Option Value)} {oc_is_move kV_is_move dc_is_move pm_is_move cd_is_move ct_is_move : Value}
    {a_read_move : Addr} {od_read_move an_read_move : Option Addr} {sl_read_move : Array (Option Value)} {oc_read_move kV_read_move dc_read_move pm_read_move cd_read_move ct_read_move : Value}
    {a_read_plan : Addr} {od_read_plan an_read_plan : Option Addr} {sl_read_plan : Array (Option Value)} {oc_read_plan kV_read_plan dc_read_plan pm_read_plan cd_read_plan ct_read_plan : Value}
    {a__law_pen : Addr} {od__law_pen an__law_pen : Option Addr} {sl__law_pen : Array (Option Value)} {oc__law_pen kV__law_pen dc__law_pen pm__law_pen cd__law_pen ct__law_pen : Value}
    {a__law_draw : Addr} {od__law_draw an__law_draw : Option Addr} {sl__law_draw : Array (Option Value)} {oc__law_draw kV__law_draw dc__law_draw pm__law_draw cd__law_draw ct__law_draw : Value}
    {a__law_pick : Addr} {od__law_pick an__law_pick : Option Addr} {sl__law_pick : Array (Option Value)} {oc__law_pick kV__law_pick dc__law_pick pm__law_pick cd__law_pick ct__law_pick : Value}
    {a__law_drawn : Addr} {od__law_drawn an__law_drawn : Option Addr} {sl__law_drawn : Array (Option Value)} {oc__law_drawn kV__law_drawn dc__law_drawn pm__law_drawn cd__law_drawn ct__law_drawn : Value}
    {a_law : Addr} {od_law an_law : Option Addr} {sl_law : Array (Option Value)} {oc_law kV_law dc_law pm_law cd_law ct_law : Value}
    (z_isinstance : PySem.W.nsIn K mainGlobals "isinstance" = some none)
    (z_bool : PySem.W.nsIn K mainGlobals "bool" = some none)
    (z_int : PySem.W.nsIn K mainGlobals "int" = some none)
    (z_len : PySem.W.nsIn K mainGlobals "len" = some none)
    (z_str : PySem.W.nsIn K mainGlobals "str" = some none)
    (z_all : PySem.W.nsIn K mainGlobals "all" = some none)
    (z_tuple : PySem.W.nsIn K mainGlobals "tuple" = some none)
    (z_enumerate : PySem.W.nsIn K mainGlobals "enumerate" = some none)
    (z_zip : PySem.W.nsIn K mainGlobals "zip" = some none)
    (z_list : PySem.W.nsIn K mainGlobals "list" = some none)
    (z_abs : PySem.W.nsIn K mainGlobals "abs" = some none)
    (z_sorted : PySem.W.nsIn K mainGlobals "sorted" = some none)
    (z_range : PySem.W.nsIn K mainGlobals "range" = some none)
    (z_repr : PySem.W.nsIn K mainGlobals "repr" = some none)
    (z_MOST_LETTERS : PySem.W.nsIn K mainGlobals "MOST_LETTERS" = some (some (.int (8) t_MOST_LETTERS)))
    (z_LETTERS : PySem.W.nsIn K mainGlobals "LETTERS" = some (some (.str "abcdefghijklmnopqrstuvwxyz" t_LETTERS)))
    (z_TWIN : PySem.W.nsIn K mainGlobals "TWIN" = some (some (.str "+" t_TWIN)))
    (z_RESERVE : PySem.W.nsIn K mainGlobals "RESERVE" = some (some (.str "*" t_RESERVE)))
    (z_DIGITS : PySem.W.nsIn K mainGlobals "DIGITS" = some (some (.str "0123456789" t_DIGITS)))
    (z_MOST_DIGITS : PySem.W.nsIn K mainGlobals "MOST_DIGITS" = some (some (.int (6) t_MOST_DIGITS)))
    (z_MOST_FIBRES : PySem.W.nsIn K mainGlobals "MOST_FIBRES" = some (some (.int (16) t_MOST_FIBRES)))
    (z_UP : PySem.W.nsIn K mainGlobals "UP" = some (some (.str "up" t_UP)))
    (z_DOWN : PySem.W.nsIn K mainGlobals "DOWN" = some (some (.str "down" t_DOWN)))
    (z_MOST_PARTS : PySem.W.nsIn K mainGlobals "MOST_PARTS" = some (some (.int (16) t_MOST_PARTS)))
    (z_MOST_FIBRE : PySem.W.nsIn K mainGlobals "MOST_FIBRE" = some (some (.int (15) t_MOST_FIBRE)))
    (z_MOST_RATE : PySem.W.nsIn K mainGlobals "MOST_RATE" = some (some (.int (16) t_MOST_RATE)))
    (z_MOST_PLACE : PySem.W.nsIn K mainGlobals "MOST_PLACE" = some (some (.int (63) t_MOST_PLACE)))
    (z_BOUNDS : PySem.W.nsIn K mainGlobals "BOUNDS" = some (some (.ref a_BOUNDS)))
    (l_BOUNDS : K.lookup a_BOUNDS = some ⟨.type "dict", none, .dict #[⟨h_BOUNDS_0, .str "length" t_BOUNDS_0, .ref a_BOUNDS_0⟩, ⟨h_BOUNDS_1, .str "reach" t_BOUNDS_1, .ref a_BOUNDS_1⟩, ⟨h_BOUNDS_2, .str "factor" t_BOUNDS_2, .ref a_BOUNDS_2⟩, ⟨h_BOUNDS_3, .str "band" t_BOUNDS_3, .ref a_BOUNDS_3⟩, ⟨h_BOUNDS_4, .str "rate" t_BOUNDS_4, .ref a_BOUNDS_4⟩, ⟨h_BOUNDS_5, .str "place" t_BOUNDS_5, .ref a_BOUNDS_5⟩] n_BOUNDS, #[]⟩)
    (b_BOUNDS : (a_BOUNDS == sysModules) = false)
    (e_BOUNDS_0 : h_BOUNDS_0 = PyData.keyHash w.params "length")
    (l_BOUNDS_0 : K.lookup a_BOUNDS_0 = some ⟨.type "tuple", o_BOUNDS_0, .seq #[.int (1) t_BOUNDS_0_0, .int (10000) t_BOUNDS_0_1] m_BOUNDS_0, s_BOUNDS_0⟩)
    (e_BOUNDS_1 : h_BOUNDS_1 = PyData.keyHash w.params "reach")
    (l_BOUNDS_1 : K.lookup a_BOUNDS_1 = some ⟨.type "tuple", o_BOUNDS_1, .seq #[.int (1) t_BOUNDS_1_0, .int (160000) t_BOUNDS_1_1] m_BOUNDS_1, s_BOUNDS_1⟩)
    (e_BOUNDS_2 : h_BOUNDS_2 = PyData.keyHash w.params "factor")
    (l_BOUNDS_2 : K.lookup a_BOUNDS_2 = some ⟨.type "tuple", o_BOUNDS_2, .seq #[.int (1) t_BOUNDS_2_0, .int (8) t_BOUNDS_2_1] m_BOUNDS_2, s_BOUNDS_2⟩)
    (e_BOUNDS_3 : h_BOUNDS_3 = PyData.keyHash w.params "band")
    (l_BOUNDS_3 : K.lookup a_BOUNDS_3 = some ⟨.type "tuple", o_BOUNDS_3, .seq #[.int (1) t_BOUNDS_3_0, .int (64) t_BOUNDS_3_1] m_BOUNDS_3, s_BOUNDS_3⟩)
    (e_BOUNDS_4 : h_BOUNDS_4 = PyData.keyHash w.params "rate")
    (l_BOUNDS_4 : K.lookup a_BOUNDS_4 = some ⟨.type "tuple", o_BOUNDS_4, .seq #[.int (1) t_BOUNDS_4_0, .int (16) t_BOUNDS_4_1] m_BOUNDS_4, s_BOUNDS_4⟩)
    (e_BOUNDS_5 : h_BOUNDS_5 = PyData.keyHash w.params "place")
    (l_BOUNDS_5 : K.lookup a_BOUNDS_5 = some ⟨.type "tuple", o_BOUNDS_5, .seq #[.int (0) t_BOUNDS_5_0, .int (63) t_BOUNDS_5_1] m_BOUNDS_5, s_BOUNDS_5⟩)
    (z_MOVE_FORMS : PySem.W.nsIn K mainGlobals "MOVE_FORMS" = some (some (.ref a_MOVE_FORMS)))
    (l_MOVE_FORMS : K.lookup a_MOVE_FORMS = some ⟨.type "dict", none, .dict #[⟨h_MOVE_FORMS_0, .str "slide" t_MOVE_FORMS_0, .ref a_MOVE_FORMS_0⟩, ⟨h_MOVE_FORMS_1, .str "light" t_MOVE_FORMS_1, .ref a_MOVE_FORMS_1⟩, ⟨h_MOVE_FORMS_2, .str "out" t_MOVE_FORMS_2, .ref a_MOVE_FORMS_2⟩, ⟨h_MOVE_FORMS_3, .str "quit" t_MOVE_FORMS_3, .ref a_MOVE_FORMS_3⟩, ⟨h_MOVE_FORMS_4, .str "move" t_MOVE_FORMS_4, .ref a_MOVE_FORMS_4⟩, ⟨h_MOVE_FORMS_5, .str "begin" t_MOVE_FORMS_5, .ref a_MOVE_FORMS_5⟩, ⟨h_MOVE_FORMS_6, .str "end" t_MOVE_FORMS_6, .ref a_MOVE_FORMS_6⟩, ⟨h_MOVE_FORMS_7, .str "guard" t_MOVE_FORMS_7, .ref a_MOVE_FORMS_7⟩, ⟨h_MOVE_FORMS_8, .str "drop" t_MOVE_FORMS_8, .ref a_MOVE_FORMS_8⟩] n_MOVE_FORMS, #[]⟩)
    (b_MOVE_FORMS : (a_MOVE_FORMS == sysModules) = false)
    (e_MOVE_FORMS_0 : h_MOVE_FORMS_0 = PyData.keyHash w.params "slide")
    (l_MOVE_FORMS_0 : K.lookup a_MOVE_FORMS_0 = some ⟨.type "tuple", o_MOVE_FORMS_0, .seq #[.str "item" t_MOVE_FORMS_0_0, .str "step" t_MOVE_FORMS_0_1] m_MOVE_FORMS_0, s_MOVE_FORMS_0⟩)
    (e_MOVE_FORMS_1 : h_MOVE_FORMS_1 = PyData.keyHash w.params "light")
    (l_MOVE_FORMS_1 : K.lookup a_MOVE_FORMS_1 = some ⟨.type "tuple", o_MOVE_FORMS_1, .seq #[.str "name" t_MOVE_FORMS_1_0, .str "route" t_MOVE_FORMS_1_1, .str "place" t_MOVE_FORMS_1_2] m_MOVE_FORMS_1, s_MOVE_FORMS_1⟩)
    (e_MOVE_FORMS_2 : h_MOVE_FORMS_2 = PyData.keyHash w.params "out")
    (l_MOVE_FORMS_2 : K.lookup a_MOVE_FORMS_2 = some ⟨.type "tuple", o_MOVE_FORMS_2, .seq #[.str "name" t_MOVE_FORMS_2_0] m_MOVE_FORMS_2, s_MOVE_FORMS_2⟩)
    (e_MOVE_FORMS_3 : h_MOVE_FORMS_3 = PyData.keyHash w.params "quit")
    (l_MOVE_FORMS_3 : K.lookup a_MOVE_FORMS_3 = some ⟨.type "tuple", o_MOVE_FORMS_3, .seq #[.str "name" t_MOVE_FORMS_3_0] m_MOVE_FORMS_3, s_MOVE_FORMS_3⟩)
    (e_MOVE_FORMS_4 : h_MOVE_FORMS_4 = PyData.keyHash w.params "move")
    (l_MOVE_FORMS_4 : K.lookup a_MOVE_FORMS_4 = some ⟨.type "tuple", o_MOVE_FORMS_4, .seq #[.str "name" t_MOVE_FORMS_4_0, .str "route" t_MOVE_FORMS_4_1, .str "place" t_MOVE_FORMS_4_2] m_MOVE_FORMS_4, s_MOVE_FORMS_4⟩)
    (e_MOVE_FORMS_5 : h_MOVE_FORMS_5 = PyData.keyHash w.params "begin")
    (l_MOVE_FORMS_5 : K.lookup a_MOVE_FORMS_5 = some ⟨.type "tuple", o_MOVE_FORMS_5, .seq #[.str "name" t_MOVE_FORMS_5_0, .str "rate" t_MOVE_FORMS_5_1, .str "route" t_MOVE_FORMS_5_2, .str "place" t_MOVE_FORMS_5_3] m_MOVE_FORMS_5, s_MOVE_FORMS_5⟩)
    (e_MOVE_FORMS_6 : h_MOVE_FORMS_6 = PyData.keyHash w.params "end")
    (l_MOVE_FORMS_6 : K.lookup a_MOVE_FORMS_6 = some ⟨.type "tuple", o_MOVE_FORMS_6, .seq #[.str "name" t_MOVE_FORMS_6_0] m_MOVE_FORMS_6, s_MOVE_FORMS_6⟩)
    (e_MOVE_FORMS_7 : h_MOVE_FORMS_7 = PyData.keyHash w.params "guard")
    (l_MOVE_FORMS_7 : K.lookup a_MOVE_FORMS_7 = some ⟨.type "tuple", o_MOVE_FORMS_7, .seq #[.str "name" t_MOVE_FORMS_7_0, .str "route" t_MOVE_FORMS_7_1, .str "place" t_MOVE_FORMS_7_2] m_MOVE_FORMS_7, s_MOVE_FORMS_7⟩)
    (e_MOVE_FORMS_8 : h_MOVE_FORMS_8 = PyData.keyHash w.params "drop")
    (l_MOVE_FORMS_8 : K.lookup a_MOVE_FORMS_8 = some ⟨.type "tuple", o_MOVE_FORMS_8, .seq #[.str "name" t_MOVE_FORMS_8_0] m_MOVE_FORMS_8, s_MOVE_FORMS_8⟩)
    (z_is_between : PySem.W.nsIn K mainGlobals "is_between" = some (some (.ref a_is_between)))
    (l_is_between : K.lookup a_is_between = some ⟨oc_is_between, od_is_between, .func (PySem.W.fnOf "is_between" "is_between" (defArgs (topS 8)) (defBody (topS 8)) (defScope (topS 8)) .none kV_is_between dc_is_between pm_is_between an_is_between cd_is_between ct_is_between), sl_is_between⟩)
    (c_is_between : PySem.W.codeIn K cd_is_between "is_between" = true)
    (k_is_between : PySem.W.keepIn K (.ref a_is_between) = true)
    (z_is_name : PySem.W.nsIn K mainGlobals "is_name" = some (some (.ref a_is_name)))
    (l_is_name : K.lookup a_is_name = some ⟨oc_is_name, od_is_name, .func (PySem.W.fnOf "is_name" "is_name" (defArgs (topS 9)) (defBody (topS 9)) (defScope (topS 9)) .none kV_is_name dc_is_name pm_is_name an_is_name cd_is_name ct_is_name), sl_is_name⟩)
    (c_is_name : PySem.W.codeIn K cd_is_name "is_name" = true)
    (k_is_name : PySem.W.keepIn K (.ref a_is_name) = true)
    (z_is_light : PySem.W.nsIn K mainGlobals "is_light" = some (some (.ref a_is_light)))
    (l_is_light : K.lookup a_is_light = some ⟨oc_is_light, od_is_light, .func (PySem.W.fnOf "is_light" "is_light" (defArgs (topS 10)) (defBody (topS 10)) (defScope (topS 10)) .none kV_is_light dc_is_light pm_is_light an_is_light cd_is_light ct_is_light), sl_is_light⟩)
    (c_is_light : PySem.W.codeIn K cd_is_light "is_light" = true)
    (k_is_light : PySem.W.keepIn K (.ref a_is_light) = true)
    (z_is_twin : PySem.W.nsIn K mainGlobals "is_twin" = some (some (.ref a_is_twin)))
    (l_is_twin : K.lookup a_is_twin = some ⟨oc_is_twin, od_is_twin, .func (PySem.W.fnOf "is_twin" "is_twin" (defArgs (topS 11)) (defBody (topS 11)) (defScope (topS 11)) .none kV_is_twin dc_is_twin pm_is_twin an_is_twin cd_is_twin ct_is_twin), sl_is_twin⟩)
    (c_is_twin : PySem.W.codeIn K cd_is_twin "is_twin" = true)
    (k_is_twin : PySem.W.keepIn K (.ref a_is_twin) = true)
    (z_is_reserve : PySem.W.nsIn K mainGlobals "is_reserve" = some (some (.ref a_is_reserve)))
    (l_is_reserve : K.lookup a_is_reserve = some ⟨oc_is_reserve, od_is_reserve, .func (PySem.W.fnOf "is_reserve" "is_reserve" (defArgs (topS 12)) (defBody (topS 12)) (defScope (topS 12)) .none kV_is_reserve dc_is_reserve pm_is_reserve an_is_reserve cd_is_reserve ct_is_reserve), sl_is_reserve⟩)
    (c_is_reserve : PySem.W.codeIn K cd_is_reserve "is_reserve" = true)
    (k_is_reserve : PySem.W.keepIn K (.ref a_is_reserve) = true)
    (z_is_item : PySem.W.nsIn K mainGlobals "is_item" = some (some (.ref a_is_item)))
    (l_is_item : K.lookup a_is_item = some ⟨oc_is_item, od_is_item, .func (PySem.W.fnOf "is_item" "is_item" (defArgs (topS 13)) (defBody (topS 13)) (defScope (topS 13)) .none kV_is_item dc_is_item pm_is_item an_is_item cd_is_item ct_is_item), sl_is_item⟩)
    (c_is_item : PySem.W.codeIn K cd_is_item "is_item" = true)
    (k_is_item : PySem.W.keepIn K (.ref a_is_item) = true)
    (z_number_in : PySem.W.nsIn K mainGlobals "number_in" = some (some (.ref a_number_in)))
    (l_number_in : K.lookup a_number_in = some ⟨oc_number_in, od_number_in, .func (PySem.W.fnOf "number_in" "number_in" (defArgs (topS 22)) (defBody (topS 22)) (defScope (topS 22)) .none kV_number_in dc_number_in pm_number_in an_number_in cd_number_in ct_number_in), sl_number_in⟩)
    (c_number_in : PySem.W.codeIn K cd_number_in "number_in" = true)
    (k_number_in : PySem.W.keepIn K (.ref a_number_in) = true)
    (z_route_in : PySem.W.nsIn K mainGlobals "route_in" = some (some (.ref a_route_in)))
    (l_route_in : K.lookup a_route_in = some ⟨oc_route_in, od_route_in, .func (PySem.W.fnOf "route_in" "route_in" (defArgs (topS 23)) (defBody (topS 23)) (defScope (topS 23)) .none kV_route_in dc_route_in pm_route_in an_route_in cd_route_in ct_route_in), sl_route_in⟩)
    (c_route_in : PySem.W.codeIn K cd_route_in "route_in" = true)
    (k_route_in : PySem.W.keepIn K (.ref a_route_in) = true)
    (z_step_in : PySem.W.nsIn K mainGlobals "step_in" = some (some (.ref a_step_in)))
    (l_step_in : K.lookup a_step_in = some ⟨oc_step_in, od_step_in, .func (PySem.W.fnOf "step_in" "step_in" (defArgs (topS 24)) (defBody (topS 24)) (defScope (topS 24)) .none kV_step_in dc_step_in pm_step_in an_step_in cd_step_in ct_step_in), sl_step_in⟩)
    (c_step_in : PySem.W.codeIn K cd_step_in "step_in" = true)
    (k_step_in : PySem.W.keepIn K (.ref a_step_in) = true)
    (z_value_in : PySem.W.nsIn K mainGlobals "value_in" = some (some (.ref a_value_in)))
    (l_value_in : K.lookup a_value_in = some ⟨oc_value_in, od_value_in, .func (PySem.W.fnOf "value_in" "value_in" (defArgs (topS 25)) (defBody (topS 25)) (defScope (topS 25)) .none kV_value_in dc_value_in pm_value_in an_value_in cd_value_in ct_value_in), sl_value_in⟩)
    (c_value_in : PySem.W.codeIn K cd_value_in "value_in" = true)
    (k_value_in : PySem.W.keepIn K (.ref a_value_in) = true)
    (z_values_in : PySem.W.nsIn K mainGlobals "values_in" = some (some (.ref a_values_in)))
    (l_values_in : K.lookup a_values_in = some ⟨oc_values_in, od_values_in, .func (PySem.W.fnOf "values_in" "values_in" (defArgs (topS 26)) (defBody (topS 26)) (defScope (topS 26)) .none kV_values_in dc_values_in pm_values_in an_values_in cd_values_in ct_values_in), sl_values_in⟩)
    (c_values_in : PySem.W.codeIn K cd_values_in "values_in" = true)
    (k_values_in : PySem.W.keepIn K (.ref a_values_in) = true)
    (z_lines_of : PySem.W.nsIn K mainGlobals "lines_of" = some (some (.ref a_lines_of)))
    (l_lines_of : K.lookup a_lines_of = some ⟨oc_lines_of, od_lines_of, .func (PySem.W.fnOf "lines_of" "lines_of" (defArgs (topS 27)) (defBody (topS 27)) (defScope (topS 27)) .none kV_lines_of dc_lines_of pm_lines_of an_lines_of cd_lines_of ct_lines_of), sl_lines_of⟩)
    (c_lines_of : PySem.W.codeIn K cd_lines_of "lines_of" = true)
    (k_lines_of : PySem.W.keepIn K (.ref a_lines_of) = true)
    (z_move_in : PySem.W.nsIn K mainGlobals "move_in" = some (some (.ref a_move_in)))
    (l_move_in : K.lookup a_move_in = some ⟨oc_move_in, od_move_in, .func (PySem.W.fnOf "move_in" "move_in" (defArgs (topS 28)) (defBody (topS 28)) (defScope (topS 28)) .none kV_move_in dc_move_in pm_move_in an_move_in cd_move_in ct_move_in), sl_move_in⟩)
    (c_move_in : PySem.W.codeIn K cd_move_in "move_in" = true)
    (k_move_in : PySem.W.keepIn K (.ref a_move_in) = true)
    (z_route_word : PySem.W.nsIn K mainGlobals "route_word" = some (some (.ref a_route_word)))
    (l_route_word : K.lookup a_route_word = some ⟨oc_route_word, od_route_word, .func (PySem.W.fnOf "route_word" "route_word" (defArgs (topS 29)) (defBody (topS 29)) (defScope (topS 29)) .none kV_route_word dc_route_word pm_route_word an_route_word cd_route_word ct_route_word), sl_route_word⟩)
    (c_route_word : PySem.W.codeIn K cd_route_word "route_word" = true)
    (k_route_word : PySem.W.keepIn K (.ref a_route_word) = true)
    (z_part_word : PySem.W.nsIn K mainGlobals "part_word" = some (some (.ref a_part_word)))
    (l_part_word : K.lookup a_part_word = some ⟨oc_part_word, od_part_word, .func (PySem.W.fnOf "part_word" "part_word" (defArgs (topS 30)) (defBody (topS 30)) (defScope (topS 30)) .none kV_part_word dc_part_word pm_part_word an_part_word cd_part_word ct_part_word), sl_part_word⟩)
    (c_part_word : PySem.W.codeIn K cd_part_word "part_word" = true)
    (k_part_word : PySem.W.keepIn K (.ref a_part_word) = true)
    (z_move_line : PySem.W.nsIn K mainGlobals "move_line" = some (some (.ref a_move_line)))
    (l_move_line : K.lookup a_move_line = some ⟨oc_move_line, od_move_line, .func (PySem.W.fnOf "move_line" "move_line" (defArgs (topS 31)) (defBody (topS 31)) (defScope (topS 31)) .none kV_move_line dc_move_line pm_move_line an_move_line cd_move_line ct_move_line), sl_move_line⟩)
    (c_move_line : PySem.W.codeIn K cd_move_line "move_line" = true)
    (k_move_line : PySem.W.keepIn K (.ref a_move_line) = true)
    (z_move_text : PySem.W.nsIn K mainGlobals "move_text" = some (some (.ref a_move_text)))
    (l_move_text : K.lookup a_move_text = some ⟨oc_move_text, od_move_text, .func (PySem.W.fnOf "move_text" "move_text" (defArgs (topS 33)) (defBody (topS 33)) (defScope (topS 33)) .none kV_move_text dc_move_text pm_move_text an_move_text cd_move_text ct_move_text), sl_move_text⟩)
    (c_move_text : PySem.W.codeIn K cd_move_text "move_text" = true)
    (k_move_text : PySem.W.keepIn K (.ref a_move_text) = true)
    (z_plan_text : PySem.W.nsIn K mainGlobals "plan_text" = some (some (.ref a_plan_text)))
    (l_plan_text : K.lookup a_plan_text = some ⟨oc_plan_text, od_plan_text, .func (PySem.W.fnOf "plan_text" "plan_text" (defArgs (topS 34)) (defBody (topS 34)) (defScope (topS 34)) .none kV_plan_text dc_plan_text pm_plan_text an_plan_text cd_plan_text ct_plan_text), sl_plan_text⟩)
    (c_plan_text : PySem.W.codeIn K cd_plan_text "plan_text" = true)
    (k_plan_text : PySem.W.keepIn K (.ref a_plan_text) = true)
    (z_is_route_form : PySem.W.nsIn K mainGlobals "is_route_form" = some (some (.ref a_is_route_form)))
    (l_is_route_form : K.lookup a_is_route_form = some ⟨oc_is_route_form, od_is_route_form, .func (PySem.W.fnOf "is_route_form" "is_route_form" (defArgs (topS 40)) (defBody (topS 40)) (defScope (topS 40)) .none kV_is_route_form dc_is_route_form pm_is_route_form an_is_route_form cd_is_route_form ct_is_route_form), sl_is_route_form⟩)
    (c_is_route_form : PySem.W.codeIn K cd_is_route_form "is_route_form" = true)
    (k_is_route_form : PySem.W.keepIn K (.ref a_is_route_form) = true)
    (z_is_part : PySem.W.nsIn K mainGlobals "is_part" = some (some (.ref a_is_part)))
    (l_is_part : K.lookup a_is_part = some ⟨oc_is_part, od_is_part, .func (PySem.W.fnOf "is_part" "is_part" (defArgs (topS 41)) (defBody (topS 41)) (defScope (topS 41)) .none kV_is_part dc_is_part pm_is_part an_is_part cd_is_part ct_is_part), sl_is_part⟩)
    (c_is_part : PySem.W.codeIn K cd_is_part "is_part" = true)
    (k_is_part : PySem.W.keepIn K (.ref a_is_part) = true)
    (z_is_move : PySem.W.nsIn K mainGlobals "is_move" = some (some (.ref a_is_move)))
    (l_is_move : K.lookup a_is_move = some ⟨oc_is_move, od_is_move, .func (PySem.W.fnOf "is_move" "is_move" (defArgs (topS 42)) (defBody (topS 42)) (defScope (topS 42)) .none kV_is_move dc_is_move pm_is_move an_is_move cd_is_move ct_is_move), sl_is_move⟩)
    (c_is_move : PySem.W.codeIn K cd_is_move "is_move" = true)
    (k_is_move : PySem.W.keepIn K (.ref a_is_move) = true)
    (z_read_move : PySem.W.nsIn K mainGlobals "read_move" = some (some (.ref a_read_move)))
    (l_read_move : K.lookup a_read_move = some ⟨oc_read_move, od_read_move, .func (PySem.W.fnOf "read_move" "read_move" (defArgs (topS 44)) (defBody (topS 44)) (defScope (topS 44)) .none kV_read_move dc_read_move pm_read_move an_read_move cd_read_move ct_read_move), sl_read_move⟩)
    (c_read_move : PySem.W.codeIn K cd_read_move "read_move" = true)
    (k_read_move : PySem.W.keepIn K (.ref a_read_move) = true)
    (z_read_plan : PySem.W.nsIn K mainGlobals "read_plan" = some (some (.ref a_read_plan)))
    (l_read_plan : K.lookup a_read_plan = some ⟨oc_read_plan, od_read_plan, .func (PySem.W.fnOf "read_plan" "read_plan" (defArgs (topS 45)) (defBody (topS 45)) (defScope (topS 45)) .none kV_read_plan dc_read_plan pm_read_plan an_read_plan cd_read_plan ct_read_plan), sl_read_plan⟩)
    (c_read_plan : PySem.W.codeIn K cd_read_plan "read_plan" = true)
    (k_read_plan : PySem.W.keepIn K (.ref a_read_plan) = true)
    (z__law_pen : PySem.W.nsIn K mainGlobals "_law_pen" = some (some (.ref a__law_pen)))
    (l__law_pen : K.lookup a__law_pen = some ⟨oc__law_pen, od__law_pen, .func (PySem.W.fnOf "_law_pen" "_law_pen" (defArgs (topS 47)) (defBody (topS 47)) (defScope (topS 47)) .none kV__law_pen dc__law_pen pm__law_pen an__law_pen cd__law_pen ct__law_pen), sl__law_pen⟩)
    (c__law_pen : PySem.W.codeIn K cd__law_pen "_law_pen" = true)
    (k__law_pen : PySem.W.keepIn K (.ref a__law_pen) = true)
    (z__law_draw : PySem.W.nsIn K mainGlobals "_law_draw" = some (some (.ref a__law_draw)))
    (l__law_draw : K.lookup a__law_draw = some ⟨oc__law_draw, od__law_draw, .func (PySem.W.fnOf "_law_draw" "_law_draw" (defArgs (topS 48)) (defBody (topS 48)) (defScope (topS 48)) .none kV__law_draw dc__law_draw pm__law_draw an__law_draw cd__law_draw ct__law_draw), sl__law_draw⟩)
    (c__law_draw : PySem.W.codeIn K cd__law_draw "_law_draw" = true)
    (k__law_draw : PySem.W.keepIn K (.ref a__law_draw) = true)
    (z__law_pick : PySem.W.nsIn K mainGlobals "_law_pick" = some (some (.ref a__law_pick)))
    (l__law_pick : K.lookup a__law_pick = some ⟨oc__law_pick, od__law_pick, .func (PySem.W.fnOf "_law_pick" "_law_pick" (defArgs (topS 49)) (defBody (topS 49)) (defScope (topS 49)) .none kV__law_pick dc__law_pick pm__law_pick an__law_pick cd__law_pick ct__law_pick), sl__law_pick⟩)
    (c__law_pick : PySem.W.codeIn K cd__law_pick "_law_pick" = true)
    (k__law_pick : PySem.W.keepIn K (.ref a__law_pick) = true)
    (z__law_drawn : PySem.W.nsIn K mainGlobals "_law_drawn" = some (some (.ref a__law_drawn)))
    (l__law_drawn : K.lookup a__law_drawn = some ⟨oc__law_drawn, od__law_drawn, .func (PySem.W.fnOf "_law_drawn" "_law_drawn" (defArgs (topS 50)) (defBody (topS 50)) (defScope (topS 50)) .none kV__law_drawn dc__law_drawn pm__law_drawn an__law_drawn cd__law_drawn ct__law_drawn), sl__law_drawn⟩)
    (c__law_drawn : PySem.W.codeIn K cd__law_drawn "_law_drawn" = true)
    (k__law_drawn : PySem.W.keepIn K (.ref a__law_drawn) = true)
    (z_law : PySem.W.nsIn K mainGlobals "law" = some (some (.ref a_law)))
    (l_law : K.lookup a_law = some ⟨oc_law, od_law, .func (PySem.W.fnOf "law" "law" (defArgs (topS 51)) (defBody (topS 51)) (defScope (topS 51)) .none kV_law dc_law pm_law an_law cd_law ct_law), sl_law⟩)
    (c_law : PySem.W.codeIn K cd_law "law" = true)
    (k_law : PySem.W.keepIn K (.ref a_law) = true)
    : ∃ fd : FuncData, (∀ (s : Shared) (v : Value), BindsTo s fd ⟨[v], []⟩ [("_law_script", v)]) ∧ ∀ base : Heap, K.In base → base.Ns mainGlobals mg → FnG P w K mg base 8 fa fd ["_law_script"] (spLaw b_law 10 K) := by
  have e : a_law = fa := by
    have e := hfa.symm.trans (PySem.W.mg_of X G z_law)
    cases e
    rfl
  subst e
  let M : Md K w mg := ⟨PySem.W.mg_none_of X G z_isinstance,
    PySem.W.mg_none_of X G z_bool,
    PySem.W.mg_none_of X G z_int,
    PySem.W.mg_none_of X G z_len,
    PySem.W.mg_none_of X G z_str,
    PySem.W.mg_none_of X G z_all,
    PySem.W.mg_none_of X G z_tuple,
    PySem.W.mg_none_of X G z_enumerate,
    PySem.W.mg_none_of X G z_zip,
    PySem.W.mg_none_of X G z_list,
    PySem.W.mg_none_of X G z_abs,
    PySem.W.mg_none_of X G z_sorted,
    PySem.W.mg_none_of X G z_range,
    PySem.W.mg_none_of X G z_repr,
    t_MOST_LETTERS,
    PySem.W.mg_of X G z_MOST_LETTERS,
    t_LETTERS,
    PySem.W.mg_of X G z_LETTERS,
    t_TWIN,
    PySem.W.mg_of X G z_TWIN,
    t_RESERVE,
    PySem.W.mg_of X G z_RESERVE,
    t_DIGITS,
    PySem.W.mg_of X G z_DIGITS,
    t_MOST_DIGITS,
    PySem.W.mg_of X G z_MOST_DIGITS,
    t_MOST_FIBRES,
    PySem.W.mg_of X G z_MOST_FIBRES,
    t_UP,
    PySem.W.mg_of X G z_UP,
    t_DOWN,
    PySem.W.mg_of X G z_DOWN,
    t_MOST_PARTS,
    PySem.W.mg_of X G z_MOST_PARTS,
    t_MOST_FIBRE,
    PySem.W.mg_of X G z_MOST_FIBRE,
    t_MOST_RATE,
    PySem.W.mg_of X G z_MOST_RATE,
    t_MOST_PLACE,
    PySem.W.mg_of X G z_MOST_PLACE,
    a_BOUNDS,
    PySem.W.mg_of X G z_BOUNDS,
    dictC l_BOUNDS ⟨⟨_, _, rfl, e_BOUNDS_0⟩, ⟨⟨_, _, rfl, e_BOUNDS_1⟩, ⟨⟨_, _, rfl, e_BOUNDS_2⟩, ⟨⟨_, _, rfl, e_BOUNDS_3⟩, ⟨⟨_, _, rfl, e_BOUNDS_4⟩, ⟨⟨_, _, rfl, e_BOUNDS_5⟩, trivial⟩⟩⟩⟩⟩⟩ b_BOUNDS (.cons (ce_tup l_BOUNDS_0 rfl (by decide)) (.cons (ce_tup l_BOUNDS_1 rfl (by decide)) (.cons (ce_tup l_BOUNDS_2 rfl (by decide)) (.cons (ce_tup l_BOUNDS_3 rfl (by decide)) (.cons (ce_tup l_BOUNDS_4 rfl (by decide)) (.cons (ce_tup l_BOUNDS_5 rfl (by decide)) .nil)))))),
    a_MOVE_FORMS,
    PySem.W.mg_of X G z_MOVE_FORMS,
    dictC l_MOVE_FORMS ⟨⟨_, _, rfl, e_MOVE_FORMS_0⟩, ⟨⟨_, _, rfl, e_MOVE_FORMS_1⟩, ⟨⟨_, _, rfl, e_MOVE_FORMS_2⟩, ⟨⟨_, _, rfl, e_MOVE_FORMS_3⟩, ⟨⟨_, _, rfl, e_MOVE_FORMS_4⟩, ⟨⟨_, _, rfl, e_MOVE_FORMS_5⟩, ⟨⟨_, _, rfl, e_MOVE_FORMS_6⟩, ⟨⟨_, _, rfl, e_MOVE_FORMS_7⟩, ⟨⟨_, _, rfl, e_MOVE_FORMS_8⟩, trivial⟩⟩⟩⟩⟩⟩⟩⟩⟩ b_MOVE_FORMS (.cons (ce_tup l_MOVE_FORMS_0 rfl (by decide)) (.cons (ce_tup l_MOVE_FORMS_1 rfl (by decide)) (.cons (ce_tup l_MOVE_FORMS_2 rfl (by decide)) (.cons (ce_tup l_MOVE_FORMS_3 rfl (by decide)) (.cons (ce_tup l_MOVE_FORMS_4 rfl (by decide)) (.cons (ce_tup l_MOVE_FORMS_5 rfl (by decide)) (.cons (ce_tup l_MOVE_FORMS_6 rfl (by decide)) (.cons (ce_tup l_MOVE_FORMS_7 rfl (by decide)) (.cons (ce_tup l_MOVE_FORMS_8 rfl (by decide)) .nil))))))))),
    a_is_between,
    _,
    fun_mk l_is_between c_is_between k_is_between,
    PySem.W.mg_of X G z_is_between,
    a_is_name,
    _,
    fun_mk l_is_name c_is_name k_is_name,
    PySem.W.mg_of X G z_is_name,
    a_is_light,
    _,
    fun_mk l_is_light c_is_light k_is_light,
    PySem.W.mg_of X G z_is_light,
    a_is_twin,
    _,
    fun_mk l_is_twin c_is_twin k_is_twin,
    PySem.W.mg_of X G z_is_twin,
    a_is_reserve,
    _,
    fun_mk l_is_reserve c_is_reserve k_is_reserve,
    PySem.W.mg_of X G z_is_reserve,
    a_is_item,
    _,
    fun_mk l_is_item c_is_item k_is_item,
    PySem.W.mg_of X G z_is_item,
    a_number_in,
    _,
    fun_mk l_number_in c_number_in k_number_in,
    PySem.W.mg_of X G z_number_in,
    a_route_in,
    _,
    fun_mk l_route_in c_route_in k_route_in,
    PySem.W.mg_of X G z_route_in,
    a_step_in,
    _,
    fun_mk l_step_in c_step_in k_step_in,
    PySem.W.mg_of X G z_step_in,
    a_value_in,
    _,
    fun_mk l_value_in c_value_in k_value_in,
    PySem.W.mg_of X G z_value_in,
    a_values_in,
    _,
    fun_mk l_values_in c_values_in k_values_in,
    PySem.W.mg_of X G z_values_in,
    a_lines_of,
    _,
    fun_mk l_lines_of c_lines_of k_lines_of,
    PySem.W.mg_of X G z_lines_of,
    a_move_in,
    _,
    fun_mk l_move_in c_move_in k_move_in,
    PySem.W.mg_of X G z_move_in,
    a_route_word,
    _,
    fun_mk l_route_word c_route_word k_route_word,
    PySem.W.mg_of X G z_route_word,
    a_part_word,
    _,
    fun_mk l_part_word c_part_word k_part_word,
    PySem.W.mg_of X G z_part_word,
    a_move_line,
    _,
    fun_mk l_move_line c_move_line k_move_line,
    PySem.W.mg_of X G z_move_line,
    a_move_text,
    _,
    fun_mk l_move_text c_move_text k_move_text,
    PySem.W.mg_of X G z_move_text,
    a_plan_text,
    _,
    fun_mk l_plan_text c_plan_text k_plan_text,
    PySem.W.mg_of X G z_plan_text,
    a_is_route_form,
    _,
    fun_mk l_is_route_form c_is_route_form k_is_route_form,
    PySem.W.mg_of X G z_is_route_form,
    a_is_part,
    _,
    fun_mk l_is_part c_is_part k_is_part,
    PySem.W.mg_of X G z_is_part,
    a_is_move,
    _,
    fun_mk l_is_move c_is_move k_is_move,
    PySem.W.mg_of X G z_is_move,
    a_read_move,
    _,
    fun_mk l_read_move c_read_move k_read_move,
    PySem.W.mg_of X G z_read_move,
    a_read_plan,
    _,
    fun_mk l_read_plan c_read_plan k_read_plan,
    PySem.W.mg_of X G z_read_plan,
    a__law_pen,
    _,
    fun_mk l__law_pen c__law_pen k__law_pen,
    PySem.W.mg_of X G z__law_pen,
    a__law_draw,
    _,
    fun_mk l__law_draw c__law_draw k__law_draw,
    PySem.W.mg_of X G z__law_draw,
    a__law_pick,
    _,
    fun_mk l__law_pick c__law_pick k__law_pick,
    PySem.W.mg_of X G z__law_pick,
    a__law_drawn,
    _,
    fun_mk l__law_drawn c__law_drawn k__law_drawn,
    PySem.W.mg_of X G z__law_drawn,
    a_law,
    _,
    fun_mk l_law c_law k_law,
    PySem.W.mg_of X G z_law⟩
  exact ⟨M.d_law, fun s v => .of_eq rfl, fun base _ _ => ok_law M (k := 0)⟩
end EL
open PySem PySem.W PyProof.Rows
set_option maxHeartbeats 0 in
theorem PySem.Challenge.cw_everlit_k92_texts_of_moves_and_plans_holds : PySem.Challenge.rw_everlit_k92_texts_of_moves_and_plans.Holds := by
  w_on; o_law; k_head; (case hw => w_witness2)
  k_fill
  refine EL.walk_G (l := PySem.Challenge.rw_everlit_k92_texts_of_moves_and_plans) (n := 63) (k := 8) (x := "_law_script") (sp := fun w => EL.spLaw EL.b_law 10 _) rfl (by decide) rfl ⟨rfl, by decide, by decide⟩ (fun w h Y => PySem.W.kIn_of Y) ?F (fun _ _ a ns hl _ hS => ⟨a, ns, rfl, hS, hl, EL.law_true ns hl, fun _ => rfl⟩)
  case F =>
    intro w mg fa h KX G hmg
    refine' EL.all_mk KX G hmg ?z_isinstance ?z_bool ?z_int ?z_len ?z_str ?z_all ?z_tuple ?z_enumerate ?z_zip ?z_list ?z_abs ?z_sorted ?z_range ?z_repr ?z_MOST_LETTERS ?z_LETTERS ?z_TWIN ?z_RESERVE ?z_DIGITS ?z_MOST_DIGITS ?z_MOST_FIBRES ?z_UP ?z_DOWN ?z_MOST_PARTS ?z_MOST_FIBRE ?z_MOST_RATE ?z_MOST_PLACE ?z_BOUNDS ?l_BOUNDS ?b_BOUNDS ?e_BOUNDS_0 ?l_BOUNDS_0 ?e_BOUNDS_1 ?l_BOUNDS_1 ?e_BOUNDS_2 ?l_BOUNDS_2 ?e_BOUNDS_3 ?l_BOUNDS_3 ?e_BOUNDS_4 ?l_BOUNDS_4 ?e_BOUNDS_5 ?l_BOUNDS_5 ?z_MOVE_FORMS ?l_MOVE_FORMS ?b_MOVE_FORMS ?e_MOVE_FORMS_0 ?l_MOVE_FORMS_0 ?e_MOVE_FORMS_1 ?l_MOVE_FORMS_1 ?e_MOVE_FORMS_2 ?l_MOVE_FORMS_2 ?e_MOVE_FORMS_3 ?l_MOVE_FORMS_3 ?e_MOVE_FORMS_4 ?l_MOVE_FORMS_4 ?e_MOVE_FORMS_5 ?l_MOVE_FORMS_5 ?e_MOVE_FORMS_6 ?l_MOVE_FORMS_6 ?e_MOVE_FORMS_7 ?l_MOVE_FORMS_7 ?e_MOVE_FORMS_8 ?l_MOVE_FORMS_8 ?z_is_between ?l_is_between ?c_is_between ?k_is_between ?z_is_name ?l_is_name ?c_is_name ?k_is_name ?z_is_light ?l_is_light ?c_is_light ?k_is_light ?z_is_twin ?l_is_twin ?c_is_twin ?k_is_twin ?z_is_reserve ?l_is_reserve ?c_is_reserve ?k_is_reserve ?z_is_item ?l_is_item ?c_is_item ?k_is_item ?z_number_in ?l_number_in ?c_number_in ?k_number_in ?z_route_in ?l_route_in ?c_route_in ?k_route_in ?z_step_in ?l_step_in ?c_step_in ?k_step_in ?z_value_in ?l_value_in ?c_value_in ?k_value_in ?z_values_in ?l_values_in ?c_values_in ?k_values_in ?z_lines_of ?l_lines_of ?c_lines_of ?k_lines_of ?z_move_in ?l_move_in ?c_move_in ?k_move_in ?z_route_word ?l_route_word ?c_route_word ?k_route_word ?z_part_word ?l_part_word ?c_part_word ?k_part_word ?z_move_line ?l_move_line ?c_move_line ?k_move_line ?z_move_text ?l_move_text ?c_move_text ?k_move_text ?z_plan_text ?l_plan_text ?c_plan_text ?k_plan_text ?z_is_route_form ?l_is_route_form ?c_is_route_form ?k_is_route_form ?z_is_part ?l_is_part ?c_is_part ?k_is_part ?z_is_move ?l_is_move ?c_is_move ?k_is_move ?z_read_move ?l_read_move ?c_read_move ?k_read_move ?z_read_plan ?l_read_plan ?c_read_plan ?k_read_plan ?z__law_pen ?l__law_pen ?c__law_pen ?k__law_pen ?z__law_draw ?l__law_draw ?c__law_draw ?k__law_draw ?z__law_pick ?l__law_pick ?c__law_pick ?k__law_pick ?z__law_drawn ?l__law_drawn ?c__law_drawn ?k__law_drawn ?z_law ?l_law ?c_law ?k_law
    (case z_isinstance => k_is)
    (case z_bool => k_is)
    (case z_int => k_is)
    (case z_len => k_is)
    (case z_str => k_is)
    (case z_all => k_is)
    (case z_tuple => k_is)
    (case z_enumerate => k_is)
    (case z_zip => k_is)
    (case z_list => k_is)
    (case z_abs => k_is)
    (case z_sorted => k_is)
    (case z_range => k_is)
    (case z_repr => k_is)
    (case z_MOST_LETTERS => k_is)
    (case z_LETTERS => k_is)
    (case z_TWIN => k_is)
    (case z_RESERVE => k_is)
    (case z_DIGITS => k_is)
    (case z_MOST_DIGITS => k_is)
    (case z_MOST_FIBRES => k_is)
    (case z_UP => k_is)
    (case z_DOWN => k_is)
    (case z_MOST_PARTS => k_is)
    (case z_MOST_FIBRE => k_is)
    (case z_MOST_RATE => k_is)
    (case z_MOST_PLACE => k_is)
    (case z_BOUNDS => k_is)
    (case l_BOUNDS => k_is)
    (case b_BOUNDS => exact rfl)
    (case e_BOUNDS_0 => exact rfl)
    (case l_BOUNDS_0 => k_is)
    (case e_BOUNDS_1 => exact rfl)
    (case l_BOUNDS_1 => k_is)
    (case e_BOUNDS_2 => exact rfl)
    (case l_BOUNDS_2 => k_is)
    (case e_BOUNDS_3 => exact rfl)
    (case l_BOUNDS_3 => k_is)
    (case e_BOUNDS_4 => exact rfl)
    (case l_BOUNDS_4 => k_is)
    (case e_BOUNDS_5 => exact rfl)
    (case l_BOUNDS_5 => k_is)
    (case z_MOVE_FORMS => k_is)
    (case l_MOVE_FORMS => k_is)
    (case b_MOVE_FORMS => exact rfl)
    (case e_MOVE_FORMS_0 => exact rfl)
    (case l_MOVE_FORMS_0 => k_is)
    (case e_MOVE_FORMS_1 => exact rfl)
    (case l_MOVE_FORMS_1 => k_is)
    (case e_MOVE_FORMS_2 => exact rfl)
    (case l_MOVE_FORMS_2 => k_is)
    (case e_MOVE_FORMS_3 => exact rfl)
    (case l_MOVE_FORMS_3 => k_is)
    (case e_MOVE_FORMS_4 => exact rfl)
    (case l_MOVE_FORMS_4 => k_is)
    (case e_MOVE_FORMS_5 => exact rfl)
    (case l_MOVE_FORMS_5 => k_is)
    (case e_MOVE_FORMS_6 => exact rfl)
    (case l_MOVE_FORMS_6 => k_is)
    (case e_MOVE_FORMS_7 => exact rfl)
    (case l_MOVE_FORMS_7 => k_is)
    (case e_MOVE_FORMS_8 => exact rfl)
    (case l_MOVE_FORMS_8 => k_is)
    (case z_is_between => k_is)
    (case l_is_between => k_is)
    (case c_is_between => k_is)
    (case k_is_between => k_is)
    (case z_is_name => k_is)
    (case l_is_name => k_is)
    (case c_is_name => k_is)
    (case k_is_name => k_is)
    (case z_is_light => k_is)
    (case l_is_light => k_is)
    (case c_is_light => k_is)
    (case k_is_light => k_is)
    (case z_is_twin => k_is)
    (case l_is_twin => k_is)
    (case c_is_twin => k_is)
    (case k_is_twin => k_is)
    (case z_is_reserve => k_is)
    (case l_is_reserve => k_is)
    (case c_is_reserve => k_is)
    (case k_is_reserve => k_is)
    (case z_is_item => k_is)
    (case l_is_item => k_is)
    (case c_is_item => k_is)
    (case k_is_item => k_is)
    (case z_number_in => k_is)
    (case l_number_in => k_is)
    (case c_number_in => k_is)
    (case k_number_in => k_is)
    (case z_route_in => k_is)
    (case l_route_in => k_is)
    (case c_route_in => k_is)
    (case k_route_in => k_is)
    (case z_step_in => k_is)
    (case l_step_in => k_is)
    (case c_step_in => k_is)
    (case k_step_in => k_is)
    (case z_value_in => k_is)
    (case l_value_in => k_is)
    (case c_value_in => k_is)
    (case k_value_in => k_is)
    (case z_values_in => k_is)
    (case l_values_in => k_is)
    (case c_values_in => k_is)
    (case k_values_in => k_is)
    (case z_lines_of => k_is)
    (case l_lines_of => k_is)
    (case c_lines_of => k_is)
    (case k_lines_of => k_is)
    (case z_move_in => k_is)
    (case l_move_in => k_is)
    (case c_move_in => k_is)
    (case k_move_in => k_is)
    (case z_route_word => k_is)
    (case l_route_word => k_is)
    (case c_route_word => k_is)
    (case k_route_word => k_is)
    (case z_part_word => k_is)
    (case l_part_word => k_is)
    (case c_part_word => k_is)
    (case k_part_word => k_is)
    (case z_move_line => k_is)
    (case l_move_line => k_is)
    (case c_move_line => k_is)
    (case k_move_line => k_is)
    (case z_move_text => k_is)
    (case l_move_text => k_is)
    (case c_move_text => k_is)
    (case k_move_text => k_is)
    (case z_plan_text => k_is)
    (case l_plan_text => k_is)
    (case c_plan_text => k_is)
    (case k_plan_text => k_is)
    (case z_is_route_form => k_is)
    (case l_is_route_form => k_is)
    (case c_is_route_form => k_is)
    (case k_is_route_form => k_is)
    (case z_is_part => k_is)
    (case l_is_part => k_is)
    (case c_is_part => k_is)
    (case k_is_part => k_is)
    (case z_is_move => k_is)
    (case l_is_move => k_is)
    (case c_is_move => k_is)
    (case k_is_move => k_is)
    (case z_read_move => k_is)
    (case l_read_move => k_is)
    (case c_read_move => k_is)
    (case k_read_move => k_is)
    (case z_read_plan => k_is)
    (case l_read_plan => k_is)
    (case c_read_plan => k_is)
    (case k_read_plan => k_is)
    (case z__law_pen => k_is)
    (case l__law_pen => k_is)
    (case c__law_pen => k_is)
    (case k__law_pen => k_is)
    (case z__law_draw => k_is)
    (case l__law_draw => k_is)
    (case c__law_draw => k_is)
    (case k__law_draw => k_is)
    (case z__law_pick => k_is)
    (case l__law_pick => k_is)
    (case c__law_pick => k_is)
    (case k__law_pick => k_is)
    (case z__law_drawn => k_is)
    (case l__law_drawn => k_is)
    (case c__law_drawn => k_is)
    (case k__law_drawn => k_is)
    (case z_law => k_is)
    (case l_law => k_is)
    (case c_law => k_is)
    (case k_law => k_is)
