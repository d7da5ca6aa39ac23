import PyProof.Rows.All
import Wide.All
import OpenK.AllK
import Wide.FinOn
import HandS.ForMost
import HandS.Walk
import HandS.Zip
import HandS.Deep
import HandS.Flow
import HandS.WordsExc
import HandS.IsInst
import HandS.Lambda
import HandS.TupAny
import HandS.TupLe
import HandS.TupMul
import HandS.Wide
import HandS.Style
import HandS.Star
import HandS.SortInts
import HandS.RaiseMore
import HandS.CallSlots
import HandS.ExcOwn
import HandS.Ends
import HandS.HeadEnd
import HandS.Defaults
import PyProof.ReprRoads
import HandS.Head0
import HandS.Head1
import HandS.Head2
import HandS.Head3
import HandS.HeadHook1
import HandS.HeadHook2
import KE.KDictDisplayH
import HandS.TryOnly
import HandS.DictComp
import KE.GoesEnum
import HandS.Flt
import KE.KExcSuper
import KE.KExcIs
import KE.KExcInit
import HandS.ExcField
import HandS.TryMany
import HandS.Text
import HandS.Conv
import PyProof.AutoSeq1
import HandS.Dict
import HandS.Small
import HandS.Iter
import HandS.EndTab
import KE.KNestM
import PySem.Challenge.RW_boxeffects_k35_gauges_by_their_forms
set_option Elab.async false
set_option linter.all false
set_option maxRecDepth 100000
set_option maxHeartbeats 2000000
/-! VL: a layer by values over HandS: data (PyData) in the place of addresses; slots that own a mutable list or dict. -/
namespace VL
open PySem PySem.Spec PyProof.Rows L2

abbrev D := PyData
abbrev Frag := PySem.W.Frag
abbrev AS := Addr → Prop

/-! ### what a value reads as -/
def WrL (K : Frag) (a : Addr) (xs : List V) : Prop :=
  ∃ (o : Obj) (its : Array Value) (n : Nat), K.lookup a = some o ∧ o.cls = .type "list" ∧ o.dict = none ∧ o.data = .seq its n ∧ its.size ≤ sizeLine ∧ Vals xs its.toList
/-- a list that nobody changes any more (A), or a written one (the script may be one) -/
def LsOk (K : Frag) (A : AS) (H : Hp) (a : Addr) (xs : List V) : Prop := (A a ∧ Rd H a (.lst xs)) ∨ WrL K a xs
theorem LsOk.sq {K : Frag} {A : AS} {H : Hp} {a : Addr} {xs : List V} (h : LsOk K A H a xs) : SqL K H a xs := h.imp (·.2) id
def keyD : Key → D
  | .inl i => .int i
  | .inr x => .str x
section
variable (K : Frag) (A : AS) (H : Hp)
mutual
def Rp : D → V → Prop
  | .none, v => v = .non
  | .bool b, v => v = .bl b
  | .int i, v => v = .int i
  | .str x, v => v = .str x
  | .list ds, v => ∃ a xs, v = .ref a ∧ LsOk K A H a xs ∧ RpL ds xs
  | .tuple ds, v => ∃ a xs, v = .ref a ∧ SqT K H a xs ∧ RpL ds xs
  | .dict kvs, v => ∃ a, v = .ref a ∧ A a ∧ ((∃ ks, Rd H a (.dK ks) ∧ RpK kvs ks) ∨ (∃ ks, Rd H a (.dT ks) ∧ RpT0 kvs ks))
def RpL : List D → List V → Prop
  | [], vs => vs = []
  | d :: ds, vs => ∃ v r, vs = v :: r ∧ Rp d v ∧ RpL ds r
def RpK : List (D × D) → List (Key × V) → Prop
  | [], ks => ks = []
  | (k, d) :: r, ks => ∃ k' v r', ks = (k', v) :: r' ∧ k = keyD k' ∧ Rp d v ∧ RpK r r'
/-- a dict with tuples as keys is told with a mark ahead: (none, none) -/
def RpT0 : List (D × D) → List (List Key × V) → Prop
  | [], _ => False
  | (k, _) :: r, ks => k = .none ∧ RpT r ks
def RpT : List (D × D) → List (List Key × V) → Prop
  | [], ks => ks = []
  | (k, d) :: r, ks => ∃ k' v r', ks = (k', v) :: r' ∧ k = .tuple (k'.map keyD) ∧ Rp d v ∧ RpT r r'
end
end
/-- what never changes -/
def IsT : HO → Prop
  | .tup _ => True
  | .frz _ _ => True
  | _ => False
/-- a dict -/
def IsDk : HO → Prop
  | .dK _ => True
  | .dT _ => True
  | _ => False
/-- a table of code objects -/
def TbO : HO → Prop
  | .tbl _ => True
  | _ => False
/-- what is neither owned nor written -/
def IsX : HO → Prop
  | .tup _ => True
  | .frz _ _ => True
  | .tbl _ => True
  | .ext _ => True
  | _ => False
theorem IsT.x {o : HO} (h : IsT o) : IsX o := by cases o <;> first | trivial | exact h.elim
/-- kept: a dict may be locked, a table may grow -/
def Up (H' : Hp) (a : Addr) (o : HO) : Prop := H' a = some o ∨ (IsDk o ∧ ∃ b, H' a = some (.frz b o)) ∨ (TbO o ∧ H' a ≠ none)
theorem Up.eq {H' : Hp} {a : Addr} {o : HO} (h : Up H' a o) (n1 : ¬ IsDk o) (n2 : ¬ TbO o) : H' a = some o := h.elim id fun z => z.elim (fun z => (n1 z.1).elim) fun z => (n2 z.1).elim
def Kp (A : AS) (H H' : Hp) : Prop := ∀ a o, H a = some o → (A a ∨ IsT o) → Up H' a o
section
variable {K : Frag} {A A' : AS} {H H' : Hp}
theorem rd_kp {a : Addr} {u : HO} (k : Kp A H H') (hA : A a ∨ IsT u) (h : Rd H a u) (nt : ¬ TbO u := by exact fun z => z) : Rd H' a u := by
  rcases h with h | ⟨o, h⟩
  · rcases k a _ h hA with z | ⟨_, b, z⟩ | z
    · exact .inl z
    · exact .inr ⟨b, z⟩
    · exact (nt z.1).elim
  · exact .inr ⟨o, (k a (.frz o u) h (.inr trivial)).eq (fun z => z) fun z => z⟩
mutual
theorem Rp.mono (hA : ∀ a, A a → A' a) (k : Kp A H H') : ∀ (d : D) (v : V), Rp K A H d v → Rp K A' H' d v
  | .none, v, h => by simpa only [Rp] using h
  | .bool b, v, h => by simpa only [Rp] using h
  | .int i, v, h => by simpa only [Rp] using h
  | .str x, v, h => by simpa only [Rp] using h
  | .list ds, v, h => by
    simp only [Rp] at h ⊢
    obtain ⟨a, xs, e, l, r⟩ := h
    exact ⟨a, xs, e, l.imp (fun z => ⟨hA a z.1, rd_kp k (.inl z.1) z.2⟩) id, RpL.mono hA k ds xs r⟩
  | .tuple ds, v, h => by
    simp only [Rp] at h ⊢
    obtain ⟨a, xs, e, l, r⟩ := h
    exact ⟨a, xs, e, l.imp (fun z => rd_kp (u := .tup xs) k (.inr trivial) z) id, RpL.mono hA k ds xs r⟩
  | .dict kvs, v, h => by
    simp only [Rp] at h ⊢
    obtain ⟨a, e, z, l⟩ := h
    refine ⟨a, e, hA a z, ?_⟩
    rcases l with ⟨ks, l, r⟩ | ⟨ks, l, r⟩
    · exact .inl ⟨ks, rd_kp k (.inl z) l, RpK.mono hA k kvs ks r⟩
    · exact .inr ⟨ks, rd_kp k (.inl z) l, RpT0.mono hA k kvs ks r⟩
theorem RpL.mono (hA : ∀ a, A a → A' a) (k : Kp A H H') : ∀ (ds : List D) (vs : List V), RpL K A H ds vs → RpL K A' H' ds vs
  | [], vs, h => by simpa only [RpL] using h
  | d :: ds, vs, h => by
    simp only [RpL] at h ⊢
    obtain ⟨v, r, e, h1, h2⟩ := h
    exact ⟨v, r, e, Rp.mono hA k d v h1, RpL.mono hA k ds r h2⟩
theorem RpK.mono (hA : ∀ a, A a → A' a) (k : Kp A H H') : ∀ (ds : List (D × D)) (vs : List (Key × V)), RpK K A H ds vs → RpK K A' H' ds vs
  | [], vs, h => by simpa only [RpK] using h
  | (x, d) :: ds, vs, h => by
    simp only [RpK] at h ⊢
    obtain ⟨k', v, r, e, e2, h1, h2⟩ := h
    exact ⟨k', v, r, e, e2, Rp.mono hA k d v h1, RpK.mono hA k ds r h2⟩
theorem RpT0.mono (hA : ∀ a, A a → A' a) (k : Kp A H H') : ∀ (ds : List (D × D)) (vs : List (List Key × V)), RpT0 K A H ds vs → RpT0 K A' H' ds vs
  | [], vs, h => by simp only [RpT0] at h
  | (x, d) :: ds, vs, h => by
    simp only [RpT0] at h ⊢
    exact ⟨h.1, RpT.mono hA k ds vs h.2⟩
theorem RpT.mono (hA : ∀ a, A a → A' a) (k : Kp A H H') : ∀ (ds : List (D × D)) (vs : List (List Key × V)), RpT K A H ds vs → RpT K A' H' ds vs
  | [], vs, h => by simpa only [RpT] using h
  | (x, d) :: ds, vs, h => by
    simp only [RpT] at h ⊢
    obtain ⟨k', v, r, e, e2, h1, h2⟩ := h
    exact ⟨k', v, r, e, e2, Rp.mono hA k d v h1, RpT.mono hA k ds r h2⟩
end
theorem RpL.nil : RpL K A H [] [] := by simp only [RpL]
theorem RpL.cons {d : D} {v : V} {ds : List D} {vs : List V} (h : Rp K A H d v) (t : RpL K A H ds vs) : RpL K A H (d :: ds) (v :: vs) := by
  simp only [RpL]; exact ⟨v, vs, rfl, h, t⟩
theorem RpL.inv_nil {vs : List V} (h : RpL K A H [] vs) : vs = [] := by simpa only [RpL] using h
theorem RpL.inv_cons {d : D} {ds : List D} {vs : List V} (h : RpL K A H (d :: ds) vs) : ∃ v r, vs = v :: r ∧ Rp K A H d v ∧ RpL K A H ds r := by
  simpa only [RpL] using h
theorem RpL.length : ∀ {ds : List D} {vs : List V}, RpL K A H ds vs → ds.length = vs.length
  | [], _, h => by rw [h.inv_nil]; rfl
  | _ :: _, _, h => by obtain ⟨v, r, rfl, _, t⟩ := h.inv_cons; simp [t.length]
theorem RpL.get : ∀ {ds : List D} {vs : List V} {i : Nat} {d : D}, RpL K A H ds vs → ds[i]? = some d → ∃ v, vs[i]? = some v ∧ Rp K A H d v
  | [], _, _, _, _, e => by simp at e
  | _ :: _, _, 0, _, h, e => by obtain ⟨v, r, rfl, h1, _⟩ := h.inv_cons; simp at e; subst e; exact ⟨v, rfl, h1⟩
  | _ :: _, _, i + 1, _, h, e => by
    obtain ⟨v, r, rfl, _, t⟩ := h.inv_cons
    obtain ⟨w, h1, h2⟩ := RpL.get (i := i) t (by simpa using e)
    exact ⟨w, by simpa using h1, h2⟩
theorem RpL.at' : ∀ {ds : List D} {vs : List V} {i : Nat} {v : V}, RpL K A H ds vs → vs[i]? = some v → ∃ d, ds[i]? = some d ∧ Rp K A H d v
  | [], _, _, _, h, e => by rw [h.inv_nil] at e; simp at e
  | _ :: _, _, 0, _, h, e => by obtain ⟨v, r, rfl, h1, _⟩ := h.inv_cons; simp at e; subst e; exact ⟨_, rfl, h1⟩
  | _ :: _, _, i + 1, _, h, e => by
    obtain ⟨v, r, rfl, _, t⟩ := h.inv_cons
    obtain ⟨w, h1, h2⟩ := RpL.at' (i := i) t (by simpa using e)
    exact ⟨w, by simpa using h1, h2⟩
theorem RpL.append : ∀ {ds es : List D} {vs us : List V}, RpL K A H ds vs → RpL K A H es us → RpL K A H (ds ++ es) (vs ++ us)
  | [], _, _, _, h, g => by rw [h.inv_nil]; exact g
  | _ :: _, _, _, _, h, g => by obtain ⟨v, r, rfl, h1, t⟩ := h.inv_cons; exact .cons h1 (t.append g)
theorem RpL.take : ∀ {ds : List D} {vs : List V} (n : Nat), RpL K A H ds vs → RpL K A H (ds.take n) (vs.take n)
  | _, _, 0, _ => by simp only [List.take_zero]; exact .nil
  | [], _, _ + 1, h => by rw [h.inv_nil]; exact .nil
  | _ :: _, _, n + 1, h => by obtain ⟨v, r, rfl, h1, t⟩ := h.inv_cons; exact .cons h1 (t.take n)
theorem RpL.drop : ∀ {ds : List D} {vs : List V} (n : Nat), RpL K A H ds vs → RpL K A H (ds.drop n) (vs.drop n)
  | _, _, 0, h => h
  | [], _, _ + 1, h => by rw [h.inv_nil]; exact .nil
  | _ :: _, _, n + 1, h => by obtain ⟨v, r, rfl, _, t⟩ := h.inv_cons; exact t.drop n
theorem RpL.reverse : ∀ {ds : List D} {vs : List V}, RpL K A H ds vs → RpL K A H ds.reverse vs.reverse
  | [], _, h => by rw [h.inv_nil]; exact .nil
  | _ :: _, _, h => by
    obtain ⟨v, r, rfl, h1, t⟩ := h.inv_cons
    simp only [List.reverse_cons]
    exact t.reverse.append (.cons h1 .nil)
theorem RpL.set : ∀ {ds : List D} {vs : List V} (i : Nat) {d : D} {v : V}, RpL K A H ds vs → Rp K A H d v → RpL K A H (ds.set i d) (vs.set i v)
  | [], _, _, _, _, h, _ => by rw [h.inv_nil]; exact .nil
  | _ :: _, _, 0, _, _, h, g => by obtain ⟨v, r, rfl, _, t⟩ := h.inv_cons; exact .cons g t
  | _ :: _, _, i + 1, _, _, h, g => by obtain ⟨v, r, rfl, h1, t⟩ := h.inv_cons; exact .cons h1 (t.set i g)

/-- all of data, read at once (for HandS's rules on data) -/
def noDict : D → Bool
  | .dict _ => false
  | _ => true
mutual
theorem Rp.dp : ∀ (d : D) (v : V), Rp K A H d v → d.canLay0 = true → Dp K H v d
  | .none, v, h, _ => by simp only [Rp] at h; subst h; exact .non
  | .bool b, v, h, _ => by simp only [Rp] at h; subst h; exact .bl b
  | .int i, v, h, _ => by simp only [Rp] at h; subst h; exact .int i
  | .str x, v, h, _ => by simp only [Rp] at h; subst h; exact .str x
  | .list ds, v, h, c => by
    simp only [Rp] at h
    obtain ⟨a, xs, rfl, l, r⟩ := h
    exact .lst l.sq (RpL.dp ds xs r (by simpa [PyData.canLay0] using c))
  | .tuple ds, v, h, c => by
    simp only [Rp] at h
    obtain ⟨a, xs, rfl, l, r⟩ := h
    exact .tup l (RpL.dp ds xs r (by simpa [PyData.canLay0] using c))
  | .dict kvs, v, h, c => by simp [PyData.canLay0] at c
theorem RpL.dp : ∀ (ds : List D) (vs : List V), RpL K A H ds vs → PyData.canLayAll0 ds = true → DpAll K H vs ds
  | [], vs, h, _ => by rw [h.inv_nil]; exact .nil
  | d :: ds, vs, h, c => by
    obtain ⟨v, r, rfl, h1, t⟩ := h.inv_cons
    simp only [PyData.canLayAll0, Bool.and_eq_true] at c
    exact .cons (Rp.dp d v h1 c.1) (RpL.dp ds r t c.2)
end
end

/-! ### slots -/
inductive Sl where
  | un | sh (d : D) | ow (d : D) | io (d : D) | iz (d : D)
abbrev En := List Sl
inductive Rv where
  | sh (d : D) | tm (d : D) | bo (i : Nat)
def Sl.rd : Sl → Option D
  | .un => none
  | .sh d => some d
  | .ow d => some d
  | .io d => some d
  | .iz d => some d
def rdAt (env : En) (i : Nat) : Option D := match env[i]? with
  | some s => s.rd
  | none => none
/-- what a result reads as now -/
def rd (env : En) : Rv → Option D
  | .sh d => some d
  | .tm d => some d
  | .bo i => rdAt env i

structure Xc where
  cls : Str
  fld : Str
  told : D
inductive Rs (α : Type) where
  | ok (a : α) (e : En)
  | ex (x : Xc) (e : En)
  | no
def Rs.bind {α β : Type} (r : Rs α) (k : α → En → Rs β) : Rs β := match r with
  | .ok a e => k a e
  | .ex x e => .ex x e
  | .no => .no

/-- an owned list or dict at a -/
def Ob (K : Frag) (A : AS) (H : Hp) (a : Addr) : D → Prop
  | .list ds => ∃ xs, H a = some (.lst xs) ∧ RpL K A H ds xs
  | .dict kvs => (∃ ks, H a = some (.dK ks) ∧ RpK K A H kvs ks) ∨ (∃ ks, H a = some (.dT ks) ∧ RpT0 K A H kvs ks)
  | _ => False
def isOwn (env : En) (i : Nat) (d : D) : Prop := env[i]? = some (Sl.ow d) ∨ env[i]? = some (Sl.io d)
def Owi (σ : L2.St) (env : En) (i : Nat) (a : Addr) : Prop := (∃ d, isOwn env i d) ∧ σ[i]? = some (some (.ref a))
def Ow (σ : L2.St) (env : En) : AS := fun a => ∃ i, Owi σ env i a

/-- the tables of code objects that lambdas of this law may write: their addresses, the names -/
class TbP where
  T : List (Addr × Str)
variable [TbP]
structure Rel (K : Frag) (A : AS) (σ : L2.St) (H : Hp) (env : En) : Prop where
  len : σ.length = env.length
  sh : ∀ (i : Nat) (d : D), (env[i]? = some (Sl.sh d) ∨ env[i]? = some (Sl.iz d)) → ∃ v, σ[i]? = some (some v) ∧ Rp K A H d v
  ow : ∀ (i : Nat) (d : D), isOwn env i d → ∃ a, σ[i]? = some (some (.ref a)) ∧ ¬ A a ∧ Ob K A H a d
  ap : ∀ i j a, Owi σ env i a → Owi σ env j a → i = j
  dom : ∀ a, A a → H a ≠ none
  fz : ∀ (i : Nat) (d : D), env[i]? = some (Sl.iz d) → ∃ a, σ[i]? = some (some (.ref a)) ∧ A a
  tb : LamX.Tabs TbP.T H

structure Ext (O A : AS) (H : Hp) (A' : AS) (H' : Hp) : Prop where
  fr : ∀ a, A a → A' a
  keep : ∀ a o, H a = some o → ¬ O a → H' a = some o ∨ (IsDk o ∧ A' a ∧ ∃ b, H' a = some (.frz b o)) ∨ (TbO o ∧ H' a ≠ none)
  old : ∀ a, A' a → A a ∨ H a = none ∨ O a
  al : ∀ a, H a ≠ none → H' a ≠ none
  tab : LamX.Tabs TbP.T H → LamX.Tabs TbP.T H'
theorem Ext.keepA {O A A' : AS} {H H' : Hp} (x : Ext O A H A' H') {a : Addr} {o : HO} (e : H a = some o) (n : ¬ O a) (na : ¬ A' a) (nt : ¬ IsX o) : H' a = some o := by
  rcases x.keep a o e n with z | ⟨_, z, _⟩ | ⟨z, _⟩
  · exact z
  · exact (na z).elim
  · cases o <;> first | exact (nt trivial).elim | exact z.elim
theorem Ext.keepN {O A A' : AS} {H H' : Hp} (x : Ext O A H A' H') {a : Addr} {o : HO} (e : H a = some o) (n : ¬ O a) (n1 : ¬ IsDk o := by exact fun z => z) (n2 : ¬ TbO o := by exact fun z => z) : H' a = some o := by
  rcases x.keep a o e n with z | ⟨z, _⟩ | ⟨z, _⟩
  · exact z
  · exact (n1 z).elim
  · exact (n2 z).elim
theorem tab_same {H H' : Hp} (s : ∀ a o, H a = some o → H' a = some o) (P : Addr) (q : Str) (t : LamX.TabS H P q) : LamX.TabS H' P q := t.ext s
/-- another thing's place is written -/
theorem tab_upd {H : Hp} {a : Addr} {o0 o : HO} (e : H a = some o0) (nx : ¬ IsX o0) (P : Addr) (q : Str) (t : LamX.TabS H P q) : LamX.TabS (upd H a o) P q := by
  obtain ⟨ps, h1, h2, h3⟩ := t
  have at_ : ∀ b u, H b = some u → IsX u → upd H a o b = some u := fun b u eb xb => by
    rw [upd_ne (fun z => by rw [z, e] at eb; cases eb; exact nx xb)]
    exact eb
  refine ⟨ps, at_ _ _ h1 trivial, h2, fun pos cv hc => ?_⟩
  obtain ⟨c, e1, e2⟩ := h3 pos cv hc
  exact ⟨c, e1, at_ _ _ e2 trivial⟩

def Io (σ : L2.St) (env : En) (σ' : L2.St) (env' : En) : Prop :=
  ∀ (i : Nat) (d : D), (env[i]? = some (Sl.io d) ∨ env[i]? = some (Sl.iz d)) → σ'[i]? = σ[i]? ∧ ∃ d' : D, env'[i]? = some (Sl.io d') ∨ env'[i]? = some (Sl.iz d')

structure Stp (K : Frag) (A : AS) (σ : L2.St) (H : Hp) (env : En) (A' : AS) (σ' : L2.St) (H' : Hp) (env' : En) : Prop where
  ext : Ext (Ow σ env) A H A' H'
  rel : Rel K A' σ' H' env'
  sub : ∀ a, Ow σ' env' a → Ow σ env a ∨ H a = none
  io : Io σ env σ' env'
  rdb : ∀ i, rdAt env i ≠ none → rdAt env' i ≠ none

section
variable {K : Frag} {A A1 A2 : AS} {σ σ1 σ2 : L2.St} {H H1 H2 : Hp} {env e1 e2 : En}
theorem Ob.some {a : Addr} {d : D} (h : Ob K A H a d) : ∃ o, H a = some o ∧ ¬ IsX o := by
  cases d with
  | list ds => obtain ⟨xs, e, _⟩ := h; exact ⟨_, e, fun z => z⟩
  | dict kvs =>
    rcases h with ⟨ks, e, _⟩ | ⟨ks, e, _⟩
    · exact ⟨_, e, fun z => z⟩
    · exact ⟨_, e, fun z => z⟩
  | _ => exact h.elim
theorem Ob.mono (hA : ∀ a, A a → A1 a) (k : Kp A H H1) {a : Addr} {d : D} (h : Ob K A H a d) (e : ∀ o, H a = Option.some o → H1 a = Option.some o) : Ob K A1 H1 a d := by
  cases d with
  | list ds => obtain ⟨xs, q, r⟩ := h; exact ⟨xs, e _ q, r.mono hA k⟩
  | dict kvs =>
    rcases h with ⟨ks, q, r⟩ | ⟨ks, q, r⟩
    · exact .inl ⟨ks, e _ q, r.mono hA k⟩
    · exact .inr ⟨ks, e _ q, r.mono hA k⟩
  | _ => exact h.elim
theorem Rel.owok (r : Rel K A σ H env) {a : Addr} (h : Ow σ env a) : ¬ A a ∧ ∃ o, H a = some o ∧ ¬ IsX o := by
  obtain ⟨i, ⟨d, hd⟩, e⟩ := h
  obtain ⟨b, e2, na, ob⟩ := r.ow i d hd
  rw [e] at e2
  cases e2
  exact ⟨na, ob.some⟩
theorem Ext.kp (x : Ext (Ow σ env) A H A1 H1) (r : Rel K A σ H env) : Kp A H H1 := fun a o e z => by
  rcases x.keep a o e fun w => by
    obtain ⟨na, o', e', nt⟩ := r.owok w
    rw [e] at e'
    cases e'
    exact z.elim na fun w => nt w.x with z | ⟨z, _, w⟩ | z
  · exact .inl z
  · exact .inr (.inl ⟨z, w⟩)
  · exact .inr (.inr z)
theorem Ext.refl {O : AS} : Ext O A H A H := ⟨fun _ h => h, fun _ _ h _ => .inl h, fun _ h => .inl h, fun _ h => h, fun t => t⟩
theorem Stp.refl (r : Rel K A σ H env) : Stp K A σ H env A σ H env :=
  ⟨Ext.refl, r, fun _ h => .inl h, fun i d h => ⟨rfl, d, h⟩, fun _ h => h⟩
theorem Stp.trans (a : Stp K A σ H env A1 σ1 H1 e1) (b : Stp K A1 σ1 H1 e1 A2 σ2 H2 e2) : Stp K A σ H env A2 σ2 H2 e2 where
  ext := {
    fr := fun x h => b.ext.fr x (a.ext.fr x h)
    keep := fun x o h n => by
      have nw : ¬ Ow σ1 e1 x := fun w => (a.sub x w).elim n fun z => by rw [h] at z; cases z
      rcases a.ext.keep x o h n with z | ⟨z1, z2, bb, z3⟩ | ⟨z1, z2⟩
      · exact b.ext.keep x o z nw
      · exact .inr (.inl ⟨z1, b.ext.fr x z2, bb, b.ext.keepN z3 nw⟩)
      · exact .inr (.inr ⟨z1, b.ext.al x z2⟩)
    old := fun x h => by
      rcases b.ext.old x h with h | h | h
      · exact a.ext.old x h
      · refine .inr (.inl ?_)
        cases e : H x with
        | none => rfl
        | some o => exact absurd h (a.ext.al x (by rw [e]; simp))
      · exact .inr ((a.sub x h).symm)
    al := fun x h => b.ext.al x (a.ext.al x h)
    tab := fun t => b.ext.tab (a.ext.tab t) }
  rel := b.rel
  sub := fun x h => by
    rcases b.sub x h with h | h
    · exact a.sub x h
    · refine .inr ?_
      cases e : H x with
      | none => rfl
      | some o => exact absurd h (a.ext.al x (by rw [e]; simp))
  io := fun i d h => by
    obtain ⟨q1, d1, h1⟩ := a.io i d h
    obtain ⟨q2, d2, h2⟩ := b.io i d1 h1
    exact ⟨q2.trans q1, d2, h2⟩
  rdb := fun i h => b.rdb i (a.rdb i h)
/-- a heap that only grows -/
theorem Stp.same (r : Rel K A σ H env) (s : Same H H1) : Stp K A σ H env A σ H1 env := by
  have k : Kp A H H1 := fun a o e _ => .inl (s a o e)
  refine ⟨⟨fun _ h => h, fun a o e _ => .inl (s a o e), fun _ h => .inl h, fun a h => ?_, fun t p hp => tab_same s p.1 p.2 (t p hp)⟩, ⟨r.len, fun i d h => ?_, fun i d h => ?_, r.ap, fun a h => ?_, r.fz, fun p hp => tab_same s p.1 p.2 (r.tb p hp)⟩, fun _ h => .inl h, fun i d h => ⟨rfl, d, h⟩, fun _ h => h⟩
  · cases e : H a with
    | none => exact absurd e h
    | some o => rw [s a o e]; simp
  · obtain ⟨v, e, q⟩ := r.sh i d h
    exact ⟨v, e, q.mono (fun _ z => z) k⟩
  · obtain ⟨a, e, na, ob⟩ := r.ow i d h
    exact ⟨a, e, na, ob.mono (fun _ z => z) k fun o z => s a o z⟩
  · cases e : H a with
    | none => exact absurd e (r.dom a h)
    | some o => rw [s a o e]; simp
end

/-! ### results of expressions -/
def RvOk (K : Frag) (A : AS) (σ : L2.St) (H : Hp) (env : En) (F : AS) : Rv → V → Prop
  | .sh d, v => Rp K A H d v
  | .tm d, v => ∃ a, v = .ref a ∧ ¬ A a ∧ ¬ Ow σ env a ∧ F a ∧ Ob K A H a d
  | .bo i, v => σ[i]? = some (some v) ∧ rdAt env i ≠ none
theorem RvOk.step {K : Frag} {A A1 : AS} {σ : L2.St} {H H1 : Hp} {env e1 : En} {F : AS} {r : Rv} {v : V} (h : RvOk K A σ H env F r v) (rel : Rel K A σ H env) (s : Stp K A σ H env A1 σ H1 e1) : RvOk K A1 σ H1 e1 F r v := by
  cases r with
  | sh d => exact h.mono s.ext.fr (s.ext.kp rel)
  | tm d =>
    obtain ⟨a, e, na, no, f, ob⟩ := h
    obtain ⟨o, eo, nx⟩ := ob.some
    have na1 : ¬ A1 a := fun z => by
      rcases s.ext.old a z with z | z | z
      · exact na z
      · rw [eo] at z; cases z
      · exact no z
    refine ⟨a, e, na1, fun z => ?_, f, ob.mono s.ext.fr (s.ext.kp rel) fun o e => s.ext.keepA e no na1 (by rw [eo] at e; cases e; exact nx)⟩
    · rcases s.sub a z with z | z
      · exact no z
      · rw [eo] at z; cases z
  | bo i => exact ⟨h.1, s.rdb i h.2⟩

/-- the ground: the written part, the module's names, what is wished of an exception -/
structure Gd where
  K : Frag
  M : Str → Option Value
  W : WX
def XOk (G : Gd) (A : AS) (H : Hp) (x : Xc) (c : Value) (d : Option Addr) : Prop :=
  ∃ C dd v, G.M x.cls = some (.ref C) ∧ c = .ref C ∧ d = some dd ∧ H dd = some (.xd [(x.fld, v)]) ∧ Rp G.K A H x.told v

def Post {α : Type} (G : Gd) (A : AS) (σ : L2.St) (H : Hp) (env : En) (out : Rs α) (P : α → En → AS → Hp → Prop) : Prop := match out with
  | .ok a e => ∀ A' H', Stp G.K A σ H env A' σ H' e → P a e A' H'
  | .ex x e => ∀ A' H' c d, Stp G.K A σ H env A' σ H' e → XOk G A' H' x c d → G.W c d σ H'
  | .no => False
section
variable {α β : Type} {G : Gd} {A : AS} {σ : L2.St} {H : Hp} {env : En}
theorem Post.bind {out : Rs α} {k : α → En → Rs β} {P : β → En → AS → Hp → Prop} (h : Post G A σ H env (out.bind k) P) : Post G A σ H env out fun a e A' H' => Post G A' σ H' e (k a e) P := by
  cases out with
  | ok a e =>
    intro A1 H1 s1
    simp only [Rs.bind] at h
    cases hk : k a e with
    | ok b e2 =>
      rw [hk] at h
      exact fun A2 H2 s2 => h A2 H2 (s1.trans s2)
    | ex x e2 =>
      rw [hk] at h
      exact fun A2 H2 c d s2 => h A2 H2 c d (s1.trans s2)
    | no =>
      rw [hk] at h
      exact h
  | ex x e => exact h
  | no => exact h
theorem Post.imp {out : Rs α} {P P' : α → En → AS → Hp → Prop} (h : Post G A σ H env out P) (i : ∀ a e A' H', Stp G.K A σ H env A' σ H' e → P a e A' H' → P' a e A' H') : Post G A σ H env out P' := by
  cases out with
  | ok a e => exact fun A1 H1 s1 => i a e A1 H1 s1 (h A1 H1 s1)
  | ex x e => exact h
  | no => exact h
end

/-- the readings -/
def EQ (G : Gd) (σ : L2.St) (H : Hp) (Q : VK) : Rv → En → AS → Hp → Prop := fun r e A' H' => ∀ v, RvOk G.K A' σ H' e (fun a => H a = none) r v → Q v H'
abbrev EF := En → Rs Rv
abbrev TF := En → Rs Bool
def tE (G : Gd) (f : EF) : TE := fun σ H Q => ∃ A env, Rel G.K A σ H env ∧ Post G A σ H env (f env) (EQ G σ H Q)
def tT (G : Gd) (f : TF) : TT := fun σ H Q => ∃ A env, Rel G.K A σ H env ∧ Post G A σ H env (f env) fun b _ _ H' => Q b H'

theorem PE.imp {X : Cx} {e : Expr} {t t' : TE} (h : PE X e t) (i : ∀ σ H Q, t' σ H Q → t σ H Q) : PE X e t' := ⟨fun pins s σ H Q I q => h.run pins s σ H Q I (i σ H Q q)⟩
theorem PT.imp {X : Cx} {e : Expr} {t t' : TT} (h : PT X e t) (i : ∀ σ H Q, t' σ H Q → t σ H Q) : PT X e t' := ⟨fun pins s σ H Q I q => h.run pins s σ H Q I (i σ H Q q)⟩
theorem PW.imp {X : Cx} {e : Expr} {t t' : TT} (h : PW X e t) (i : ∀ σ H Q, t' σ H Q → t σ H Q) : PW X e t' := ⟨fun w pins s σ H Q I q => h.run w pins s σ H Q I (i σ H Q q)⟩
theorem PA.imp {X : Cx} {e : List Expr} {t t' : TA} (h : PA X e t) (i : ∀ σ H Q, t' σ H Q → t σ H Q) : PA X e t' := ⟨fun p pins s σ H Q I q => h.run p pins s σ H Q I (i σ H Q q)⟩
theorem PS.imp {X : Cx} {e : Stmt} {t t' : TS} (h : PS X e t) (i : ∀ D σ H, t' D σ H → t D σ H) : PS X e t' := ⟨fun pins s σ H D I q => h.run pins s σ H D I (i D σ H q)⟩
theorem PSs.imp {X : Cx} {e : List Stmt} {t t' : TS} (h : PSs X e t) (i : ∀ D σ H, t' D σ H → t D σ H) : PSs X e t' := ⟨fun pins s σ H D I q => h.run pins s σ H D I (i D σ H q)⟩

/-! ### names, constants -/
def nmF (i : Nat) : EF := fun env => match env[i]? with
  | some (.sh d) => .ok (.sh d) env
  | some (.iz d) => .ok (.sh d) env
  | some (.ow _) => .ok (.bo i) env
  | some (.io _) => .ok (.bo i) env
  | _ => .no
def cF (d : D) : EF := fun env => .ok (.sh d) env
section
variable {X : Cx} {W : WX}
abbrev gd (X : Cx) (W : WX) : Gd := ⟨X.K, X.mg, W⟩
theorem e_nm (i : Nat) {x : Str} {pos : Pos} (hN : X.N[i]? = some x := by rfl) (hv : Vis X.env.scope x := by first | exact Or.inl rfl | exact Or.inr (Or.inl rfl) | exact Or.inr (Or.inr rfl)) (hd : (x == ("__debug__" : Str)) = false := by decide)
    (hcd : (x == ("__classdict__" : Str)) = false := by decide) : PE X (.Name x pos) (tE (gd X W) (nmF i)) := by
  refine PE.imp (pv i hN hv hd hcd) fun σ H Q h => ?_
  obtain ⟨A, env, rel, h⟩ := h
  unfold nmF at h
  cases q : env[i]? with
  | none => rw [q] at h; exact h.elim
  | some s =>
    rw [q] at h
    cases s with
    | un => exact h.elim
    | sh d =>
      obtain ⟨v, e, r⟩ := rel.sh i d (.inl q)
      exact ⟨v, e, h A H (.refl rel) v r⟩
    | iz d =>
      obtain ⟨v, e, r⟩ := rel.sh i d (.inr q)
      exact ⟨v, e, h A H (.refl rel) v r⟩
    | ow d =>
      obtain ⟨a, e, _⟩ := rel.ow i d (.inl q)
      exact ⟨.ref a, e, h A H (.refl rel) (.ref a) ⟨e, by simp [rdAt, q, Sl.rd]⟩⟩
    | io d =>
      obtain ⟨a, e, _⟩ := rel.ow i d (.inr q)
      exact ⟨.ref a, e, h A H (.refl rel) (.ref a) ⟨e, by simp [rdAt, q, Sl.rd]⟩⟩
theorem e_c {e : Expr} {v : V} {d : D} (h : PE X e (tC v)) (hr : ∀ A H, Rp X.K A H d v) : PE X e (tE (gd X W) (cF d)) := by
  refine PE.imp h fun σ H Q h => ?_
  obtain ⟨A, env, rel, h⟩ := h
  exact h A H (.refl rel) v (hr A H)
theorem e_int {i j pos} : PE X (.Constant (.int i) j pos) (tE (gd X W) (cF (.int i))) := e_c pe_int fun _ _ => by simp only [Rp]
theorem e_bl {b j pos} : PE X (.Constant (.bool b) j pos) (tE (gd X W) (cF (.bool b))) := e_c pe_bl fun _ _ => by simp only [Rp]
theorem e_non {j pos} : PE X (.Constant .none j pos) (tE (gd X W) (cF .none)) := e_c pe_non fun _ _ => by simp only [Rp]
theorem e_str {x j pos} : PE X (.Constant (.str x) j pos) (tE (gd X W) (cF (.str x))) := e_c pe_str fun _ _ => by simp only [Rp]
end
end VL


set_option Elab.async false
set_option linter.all false
set_option maxRecDepth 100000
set_option maxHeartbeats 2000000
namespace VL
open PySem PySem.Spec PyProof.Rows L2
variable [TbP]

abbrev LIM : Nat := 16777216
theorem lim_eq : sizeLine = LIM := sizeLine_eq
theorem le_line {n : Nat} (h : n ≤ LIM) : n ≤ sizeLine := by rw [lim_eq]; exact h

/-! ### arguments -/
def Rv.isTm : Rv → Bool
  | .tm _ => true
  | _ => false
def RvsOk (K : Frag) (A : AS) (σ : L2.St) (H : Hp) (env : En) : AS → List Rv → List V → Prop
  | _, [], vs => vs = []
  | F, r :: rs, vs => ∃ v t, vs = v :: t ∧ RvOk K A σ H env F r v ∧ RvsOk K A σ H env (fun a => F a ∧ (r.isTm = true → v ≠ .ref a)) rs t
theorem RvOk.weak {K : Frag} {A : AS} {σ : L2.St} {H : Hp} {env : En} {F F' : AS} {r : Rv} {v : V} (h : RvOk K A σ H env F r v) (i : ∀ a o, H a = some o → F a → F' a) : RvOk K A σ H env F' r v := by
  cases r with
  | sh d => exact h
  | tm d =>
    obtain ⟨a, e, n1, n2, f, ob⟩ := h
    obtain ⟨o, eo, _⟩ := ob.some
    exact ⟨a, e, n1, n2, i a o eo f, ob⟩
  | bo j => exact h
theorem RvsOk.weak {K : Frag} {A : AS} {σ : L2.St} {H : Hp} {env : En} : ∀ {F F' : AS} {rs : List Rv} {vs : List V}, RvsOk K A σ H env F rs vs → (∀ a o, H a = some o → F a → F' a) → RvsOk K A σ H env F' rs vs
  | _, _, [], _, h, _ => h
  | _, _, _ :: _, _, h, i => by
    obtain ⟨v, t, e, h1, h2⟩ := h
    exact ⟨v, t, e, h1.weak i, h2.weak fun a o ho z => ⟨i a o ho z.1, z.2⟩⟩
theorem RvsOk.step {K : Frag} {A A1 : AS} {σ : L2.St} {H H1 : Hp} {env e1 : En} (rel : Rel K A σ H env) (s : Stp K A σ H env A1 σ H1 e1) : ∀ {F : AS} {rs : List Rv} {vs : List V}, RvsOk K A σ H env F rs vs → RvsOk K A1 σ H1 e1 F rs vs
  | _, [], _, h => h
  | _, _ :: _, _, h => by
    obtain ⟨v, t, e, h1, h2⟩ := h
    exact ⟨v, t, e, h1.step rel s, h2.step rel s⟩
abbrev AF := En → Rs (List Rv)
def tA (G : Gd) (f : AF) : TA := fun σ H Q => ∃ A env, Rel G.K A σ H env ∧ Post G A σ H env (f env) fun rs e A' H' => ∀ vs, RvsOk G.K A' σ H' e (fun a => H a = none) rs vs → Q vs H'
def nilF : AF := fun env => .ok [] env
def consF (f : EF) (g : AF) : AF := fun env => (f env).bind fun r e => (g e).bind fun rs e2 => .ok (r :: rs) e2
section
variable {X : Cx} {W : WX} {e : Expr} {es : List Expr} {f : EF} {g : AF}
theorem a_nil : PA X [] (tA (gd X W) nilF) := PA.imp pa_nil fun σ H Q h => by
  obtain ⟨A, env, rel, h⟩ := h
  exact h A H (.refl rel) [] rfl
theorem a_cons (he : PE X e (tE (gd X W) f)) (hr : PA X es (tA (gd X W) g)) (hs : starEach (e :: es) X.env = (false, eval e X.env) :: starEach es X.env := by rfl) : PA X (e :: es) (tA (gd X W) (consF f g)) :=
  PA.imp (pa_cons he hr hs) fun σ H Q h => by
    obtain ⟨A, env, rel, h⟩ := h
    refine ⟨A, env, rel, (Post.bind h).imp fun r e1 A1 H1 s1 h1 v hv => ?_⟩
    refine ⟨A1, e1, s1.rel, (Post.bind h1).imp fun rs e2 A2 H2 s2 h2 vs hvs => ?_⟩
    refine h2 A2 H2 (.refl s2.rel) (v :: vs) ⟨v, vs, rfl, hv.step s1.rel s2, hvs.weak fun a o ho z => ⟨?_, fun it q => ?_⟩⟩
    · cases q : H a with
      | none => exact q
      | some u => exact absurd z (s1.ext.al a (by rw [q]; simp))
    · subst q
      cases r with
      | tm d =>
        obtain ⟨b, e, _, _, _, ob⟩ := hv
        cases e
        obtain ⟨o', eo, _⟩ := ob.some
        rw [eo] at z; cases z
      | sh d => cases it
      | bo i => cases it
end

/-! ### operations on values -/
/-- what may be read now: shared, or an owned thing -/
def Rq (K : Frag) (A : AS) (H : Hp) (d : D) (v : V) : Prop := Rp K A H d v ∨ ∃ a, v = .ref a ∧ Ob K A H a d
section
variable {K : Frag} {A : AS} {H : Hp} {d : D} {v : V}
theorem Rq.non (h : Rq K A H .none v) : v = .non := by
  rcases h with h | ⟨a, _, h⟩
  · simpa only [Rp] using h
  · exact h.elim
theorem Rq.bl {b : Bool} (h : Rq K A H (.bool b) v) : v = .bl b := by
  rcases h with h | ⟨a, _, h⟩
  · simpa only [Rp] using h
  · exact h.elim
theorem Rq.int {i : Int} (h : Rq K A H (.int i) v) : v = .int i := by
  rcases h with h | ⟨a, _, h⟩
  · simpa only [Rp] using h
  · exact h.elim
theorem Rq.str {x : Str} (h : Rq K A H (.str x) v) : v = .str x := by
  rcases h with h | ⟨a, _, h⟩
  · simpa only [Rp] using h
  · exact h.elim
theorem Rq.lst {ds : List D} (h : Rq K A H (.list ds) v) : ∃ a xs, v = .ref a ∧ SqL K H a xs ∧ RpL K A H ds xs := by
  rcases h with h | ⟨a, e, xs, q, r⟩
  · simp only [Rp] at h
    obtain ⟨a, xs, e, l, r⟩ := h
    exact ⟨a, xs, e, l.sq, r⟩
  · exact ⟨a, xs, e, SqL.of q, r⟩
theorem Rq.tup {ds : List D} (h : Rq K A H (.tuple ds) v) : ∃ a xs, v = .ref a ∧ SqT K H a xs ∧ RpL K A H ds xs := by
  rcases h with h | ⟨a, _, h⟩
  · simpa only [Rp] using h
  · exact h.elim
theorem Rq.dct {ds : List (D × D)} (h : Rq K A H (.dict ds) v) : ∃ a, v = .ref a ∧ ((∃ ks, Rd H a (.dK ks) ∧ RpK K A H ds ks) ∨ (∃ ks, Rd H a (.dT ks) ∧ RpT0 K A H ds ks)) := by
  rcases h with h | ⟨a, e, h⟩
  · simp only [Rp] at h
    obtain ⟨a, e, _, l⟩ := h
    exact ⟨a, e, l⟩
  · refine ⟨a, e, h.imp (fun ⟨ks, q, r⟩ => ⟨ks, .inl q, r⟩) fun ⟨ks, q, r⟩ => ⟨ks, .inl q, r⟩⟩
theorem Rq.dp (h : Rq K A H d v) (c : d.canLay0 = true) : Dp K H v d := by
  rcases h with h | ⟨a, e, h⟩
  · exact Rp.dp d v h c
  · subst e
    cases d with
    | list ds =>
      obtain ⟨xs, q, r⟩ := h
      exact .lst (SqL.of q) (RpL.dp ds xs r (by simpa [PyData.canLay0] using c))
    | dict kvs => simp [PyData.canLay0] at c
    | _ => exact h.elim
theorem RvOk.rq {σ : L2.St} {env : En} {F : AS} {r : Rv} (rel : Rel K A σ H env) (h : RvOk K A σ H env F r v) (e : rd env r = some d) : Rq K A H d v := by
  cases r with
  | sh d' => cases e; exact .inl h
  | tm d' =>
    cases e
    obtain ⟨a, ea, _, _, _, ob⟩ := h
    exact .inr ⟨a, ea, ob⟩
  | bo i =>
    obtain ⟨hs, _⟩ := h
    have e : rdAt env i = some d := e
    unfold rdAt at e
    cases q : env[i]? with
    | none => rw [q] at e; cases e
    | some s =>
      rw [q] at e
      cases s with
      | un => cases e
      | sh d' =>
        cases e
        obtain ⟨w, e2, r2⟩ := rel.sh i d (.inl q)
        rw [hs] at e2; cases e2
        exact .inl r2
      | iz d' =>
        cases e
        obtain ⟨w, e2, r2⟩ := rel.sh i d (.inr q)
        rw [hs] at e2; cases e2
        exact .inl r2
      | ow d' =>
        cases e
        obtain ⟨a, e2, _, ob⟩ := rel.ow i d (.inl q)
        rw [hs] at e2; cases e2
        exact .inr ⟨a, rfl, ob⟩
      | io d' =>
        cases e
        obtain ⟨a, e2, _, ob⟩ := rel.ow i d (.inr q)
        rw [hs] at e2; cases e2
        exact .inr ⟨a, rfl, ob⟩
end
/-- a new result of an operation -/
def Rz (K : Frag) (A : AS) (H0 H : Hp) : Rv → V → Prop
  | .sh d, v => Rp K A H d v
  | .tm d, v => ∃ a, v = .ref a ∧ H0 a = none ∧ Ob K A H a d
  | .bo _, _ => False
theorem Rz.rv {K : Frag} {A A1 : AS} {σ : L2.St} {H H1 H2 : Hp} {env e1 : En} {r : Rv} {v : V} (s : Stp K A σ H env A1 σ H1 e1) (h : Rz K A1 H1 H2 r v) : RvOk K A1 σ H2 e1 (fun a => H a = none) r v := by
  cases r with
  | sh d => exact h
  | tm d =>
    obtain ⟨a, e, n, ob⟩ := h
    refine ⟨a, e, fun z => s.rel.dom a z n, fun z => ?_, ?_, ob⟩
    · obtain ⟨_, o, eo, _⟩ := s.rel.owok z
      rw [n] at eo; cases eo
    · cases q : H a with
      | none => exact q
      | some o => exact absurd n (s.ext.al a (by rw [q]; simp))
  | bo i => exact h.elim
abbrev G2 := D → D → Option Rv
abbrev G1 := D → Option Rv
def OpA (K : Frag) (r : R2) (g : G2) : Prop := ∀ (A : AS) (H : Hp) (x y : D) (vx vy : V) (z : Rv) (Q : VK), (∀ a, A a → H a ≠ none) → g x y = some z → Rq K A H x vx → Rq K A H y vy →
  (∀ v' H', Same H H' → Rz K A H H' z v' → Q v' H') → r vx vy H Q
def UnA (K : Frag) (r : V → Hp → VK → Prop) (g : G1) : Prop := ∀ (A : AS) (H : Hp) (x : D) (vx : V) (z : Rv) (Q : VK), (∀ a, A a → H a ≠ none) → g x = some z → Rq K A H x vx →
  (∀ v' H', Same H H' → Rz K A H H' z v' → Q v' H') → r vx H Q
def orG (g g' : G2) : G2 := fun x y => match g x y with
  | some z => some z
  | none => g' x y
theorem OpA.or {K : Frag} {r r' : R2} {g g' : G2} (h : OpA K r g) (h' : OpA K r' g') : OpA K (fun x y H Q => r x y H Q ∨ r' x y H Q) (orG g g') := by
  intro A H x y vx vy z Q hd e hx hy q
  unfold orG at e
  cases q1 : g x y with
  | some z' => rw [q1] at e; cases e; exact .inl (h A H x y vx vy z Q hd q1 hx hy q)
  | none => rw [q1] at e; exact .inr (h' A H x y vx vy z Q hd e hx hy q)
def out1 (o : Option Rv) (env : En) : Rs Rv := match o with
  | some z => .ok z env
  | none => .no
def opF (g : G2) (fa fb : EF) : EF := fun env => (fa env).bind fun r1 e1 => (fb e1).bind fun r2 e2 => match rd e2 r1, rd e2 r2 with
  | some x, some y => out1 (g x y) e2
  | _, _ => .no
def unF (g : G1) (fa : EF) : EF := fun env => (fa env).bind fun r1 e1 => match rd e1 r1 with
  | some x => out1 (g x) e1
  | none => .no
section
variable {G : Gd} {r : R2} {g : G2} {fa fb : EF}
/-- at the end of a reading: a new result over the state as it is -/
theorem fin1 {A A1 : AS} {σ : L2.St} {H H1 : Hp} {env e1 : En} {z : Rv} {Q : VK} {v' : V} {H' : Hp} (s : Stp G.K A σ H env A1 σ H1 e1) (h : Post G A1 σ H1 e1 (Rs.ok z e1) (EQ G σ H Q)) (sm : Same H1 H') (hz : Rz G.K A1 H1 H' z v') : Q v' H' :=
  h A1 H' (Stp.same s.rel sm) v' (hz.rv s)
theorem opF_sound (ha : OpA G.K r g) {σ : L2.St} {H : Hp} {Q : VK} (h : tE G (opF g fa fb) σ H Q) : tOp r (tE G fa) (tE G fb) σ H Q := by
  obtain ⟨A, env, rel, h⟩ := h
  refine ⟨A, env, rel, (Post.bind h).imp fun r1 e1 A1 H1 s1 h1 v1 hv1 => ?_⟩
  refine ⟨A1, e1, s1.rel, (Post.bind h1).imp fun r2 e2 A2 H2 s2 h2 v2 hv2 => ?_⟩
  have hv1' := hv1.step s1.rel s2
  cases q1 : rd e2 r1 with
  | none => rw [q1] at h2; exact h2.elim
  | some x =>
    cases q2 : rd e2 r2 with
    | none => rw [q1, q2] at h2; exact h2.elim
    | some y =>
      rw [q1, q2] at h2
      dsimp only at h2
      unfold out1 at h2
      cases q3 : g x y with
      | none => rw [q3] at h2; exact h2.elim
      | some z =>
        rw [q3] at h2
        exact ha A2 H2 x y v1 v2 z Q s2.rel.dom q3 (hv1'.rq s2.rel q1) (hv2.rq s2.rel q2) fun v' H' sm hz => fin1 (s1.trans s2) h2 sm hz
theorem unF_sound {r : V → Hp → VK → Prop} {g : G1} (ha : UnA G.K r g) {σ : L2.St} {H : Hp} {Q : VK} (h : tE G (unF g fa) σ H Q) : tUn r (tE G fa) σ H Q := by
  obtain ⟨A, env, rel, h⟩ := h
  refine ⟨A, env, rel, (Post.bind h).imp fun r1 e1 A1 H1 s1 h1 v1 hv1 => ?_⟩
  cases q1 : rd e1 r1 with
  | none => rw [q1] at h1; exact h1.elim
  | some x =>
    rw [q1] at h1
    dsimp only at h1
    unfold out1 at h1
    cases q3 : g x with
    | none => rw [q3] at h1; exact h1.elim
    | some z =>
      rw [q3] at h1
      exact ha A1 H1 x v1 z Q s1.rel.dom q3 (hv1.rq s1.rel q1) fun v' H' sm hz => fin1 s1 h1 sm hz
end
section
variable {X : Cx} {W : WX} {a b : Expr} {fa fb : EF} {pos : Pos} {r : R2} {g : G2}
theorem e_op {op : Operator} (ho : OpR X (binaryOp op) r) (hA : OpA X.K r g) (ha : PE X a (tE (gd X W) fa)) (hb : PE X b (tE (gd X W) fb)) : PE X (.BinOp a op b pos) (tE (gd X W) (opF g fa fb)) :=
  PE.imp (pe_op ho ha hb) fun _ _ _ h => opF_sound (G := gd X W) hA h
theorem e_cmp {op : CmpOp} (ho : OpR X (compareOp op) r) (hA : OpA X.K r g) (ha : PE X a (tE (gd X W) fa)) (hb : PE X b (tE (gd X W) fb)) (hm : behindInMarks op b = false) : PE X (.Compare a [op] [b] pos) (tE (gd X W) (opF g fa fb)) :=
  PE.imp (pe_cmpR ho ha hb hm) fun _ _ _ h => opF_sound (G := gd X W) hA h
theorem e_un {op : UnaryOp} {r : V → Hp → VK → Prop} {g : G1} (ho : UnR X (unaryOp op) r) (hA : UnA X.K r g) (ha : PE X a (tE (gd X W) fa)) : PE X (.UnaryOp op a pos) (tE (gd X W) (unF g fa)) :=
  PE.imp (pe_un ho ha) fun _ _ _ h => unF_sound (G := gd X W) hA h
end

/-! ### single operations -/
theorem rp_int {K : Frag} {A : AS} {H : Hp} {i : Int} : Rp K A H (.int i) (.int i) := by simp only [Rp]
theorem rp_bl {K : Frag} {A : AS} {H : Hp} {i : Bool} : Rp K A H (.bool i) (.bl i) := by simp only [Rp]
theorem rp_str {K : Frag} {A : AS} {H : Hp} {i : Str} : Rp K A H (.str i) (.str i) := by simp only [Rp]
theorem rp_non {K : Frag} {A : AS} {H : Hp} : Rp K A H .none .non := by simp only [Rp]
theorem rz_int {K : Frag} {A : AS} {H0 H : Hp} {i : Int} : Rz K A H0 H (.sh (.int i)) (.int i) := rp_int (K := K) (A := A) (H := H)
theorem rz_bl {K : Frag} {A : AS} {H0 H : Hp} {i : Bool} : Rz K A H0 H (.sh (.bool i)) (.bl i) := rp_bl (K := K) (A := A) (H := H)
theorem rz_str {K : Frag} {A : AS} {H0 H : Hp} {i : Str} : Rz K A H0 H (.sh (.str i)) (.str i) := rp_str (K := K) (A := A) (H := H)
theorem rz_non {K : Frag} {A : AS} {H0 H : Hp} : Rz K A H0 H (.sh .none) .non := rp_non (K := K) (A := A) (H := H)
theorem same_upd {H : Hp} {p : Addr} {o : HO} (h : H p = none) : Same H (upd H p o) := fun b x e => by
  rw [upd_ne (ne_of_none e h)]
  exact e
theorem same_kp {A : AS} {H H' : Hp} (s : Same H H') : Kp A H H' := fun a o e _ => .inl (s a o e)
theorem rp_tup {K : Frag} {A : AS} {H : Hp} {p : Addr} {ds : List D} {xs : List V} (n : H p = none) (r : RpL K A H ds xs) : Rp K A (upd H p (.tup xs)) (.tuple ds) (.ref p) := by
  simp only [Rp]
  exact ⟨p, xs, rfl, SqT.of upd_same, r.mono (fun _ z => z) (same_kp (same_upd n))⟩
theorem rz_lst {K : Frag} {A : AS} {H : Hp} {p : Addr} {ds : List D} {xs : List V} (n : H p = none) (r : RpL K A H ds xs) : Rz K A H (upd H p (.lst xs)) (.tm (.list ds)) (.ref p) :=
  ⟨p, rfl, n, xs, upd_same, r.mono (fun _ z => z) (same_kp (same_upd n))⟩

def intG (C : Int → Int → Bool) (f : Int → Int → D) : G2
  | .int i, .int j => if C i j then some (.sh (f i j)) else none
  | _, _ => none
theorem int_A0 {K : Frag} {f : Int → Int → V} {fd : Int → Int → D} (hf : ∀ A H i j, Rp K A H (fd i j) (f i j)) : OpA K (rI0 f) (intG (fun _ _ => true) fd) := by
  intro A H x y vx vy z Q hd e hx hy q
  cases x <;> try (cases e; done)
  cases y <;> try (cases e; done)
  rename_i i j
  cases e
  have e1 := hx.int
  have e2 := hy.int
  subst e1 e2
  exact ⟨i, j, rfl, rfl, q _ _ (Same.refl H) (hf A H i j)⟩
theorem int_A {K : Frag} {C : Int → Int → Prop} {Cb : Int → Int → Bool} {f : Int → Int → V} {fd : Int → Int → D} (hc : ∀ i j, Cb i j = true → C i j) (hf : ∀ A H i j, Rp K A H (fd i j) (f i j)) : OpA K (rI C f) (intG Cb fd) := by
  intro A H x y vx vy z Q hd e hx hy q
  cases x <;> try (cases e; done)
  cases y <;> try (cases e; done)
  rename_i i j
  unfold intG at e
  by_cases c : Cb i j = true
  · dsimp only at e
    rw [if_pos c] at e
    cases e
    have e1 := hx.int
    have e2 := hy.int
    subst e1 e2
    exact ⟨i, j, rfl, rfl, hc i j c, q _ _ (Same.refl H) (hf A H i j)⟩
  · dsimp only at e
    rw [if_neg c] at e; cases e
def strCatG : G2
  | .str x, .str y => if x.length + y.length ≤ LIM then some (.sh (.str (x ++ y))) else none
  | _, _ => none
def lstCatG : G2
  | .list x, .list y => if x.length + y.length ≤ LIM then some (.tm (.list (x ++ y))) else none
  | _, _ => none
def tupCatG : G2
  | .tuple x, .tuple y => if x.length + y.length ≤ LIM then some (.sh (.tuple (x ++ y))) else none
  | _, _ => none
theorem strCat_A {K : Frag} : OpA K (fun x y H Q => ∃ i j, x = .str i ∧ y = .str j ∧ i.length + j.length ≤ sizeLine ∧ Q (.str (i ++ j)) H) strCatG := by
  intro A H x y vx vy z Q hd e hx hy q
  cases x <;> try (cases e; done)
  cases y <;> try (cases e; done)
  rename_i i j
  unfold strCatG at e
  dsimp only at e
  split at e
  · rename_i c
    cases e
    have e1 := hx.str
    have e2 := hy.str
    subst e1 e2
    exact ⟨i, j, rfl, rfl, le_line c, q _ _ (Same.refl H) rz_str⟩
  · cases e
/-- list + list, whatever may be read -/
def rCatR (K : Frag) : R2 := fun x y H Q => ∃ l b xs zs, x = .ref l ∧ y = .ref b ∧ SqL K H l xs ∧ SqL K H b zs ∧ xs.length + zs.length ≤ sizeLine ∧ ∀ p, H p = none → Q (.ref p) (upd H p (.lst (xs ++ zs)))
theorem op_catR {X : Cx} : OpR X (binaryOp .Add) (rCatR X.K) := by
  intro pins s σ H x y v u Q I rx ry h
  obtain ⟨l, b, xs, zs, rfl, rfl, hH, hB, hz, q⟩ := h
  cases rx
  cases ry
  obtain ⟨its, r, hl, z⟩ := I.list hH
  obtain ⟨its2, r2, hl2, z2⟩ := I.list hB
  have e1 := r.length
  have e2 := r2.length
  obtain ⟨⟨cls, dd, data, sl⟩, ho, hc, n, hd⟩ := hl.isList
  obtain ⟨⟨cls2, dd2, data2, sl2⟩, ho2, hc2, n2, hd2⟩ := hl2.isList
  simp only at hc hd hc2 hd2
  subst hc hd hc2 hd2
  have e : its.toArray ++ its2.toArray = (its ++ its2).toArray := by simp
  refine concat_meets ⟨_, ho, rfl⟩ ⟨_, ho2, rfl⟩ noFill_list_add seq_list_add PySem.F.slot_list_add PySem.F.entry_list_add (PySem.F.args_list_add_2 _ _) (list_addW l b its.toArray its2.toArray n n2 dd dd2 sl sl2 (by simp only [List.size_toArray]; omega)) ⟨ho, ho2, ?_⟩
  rw [e]
  exact ⟨.ref _, _, I.lnew (t' := s.toks) (r.append r2) (by rw [List.length_append]; omega), rfl, q _ I.fresh⟩
theorem lstCat_A {K : Frag} : OpA K (rCatR K) lstCatG := by
  intro A H x y vx vy z Q hd e hx hy q
  cases x <;> try (cases e; done)
  cases y <;> try (cases e; done)
  rename_i i j
  unfold lstCatG at e
  dsimp only at e
  split at e
  · rename_i c
    cases e
    obtain ⟨a, xs, e1, l1, r1⟩ := hx.lst
    obtain ⟨b, ys, e2, l2, r2⟩ := hy.lst
    exact ⟨a, b, xs, ys, e1, e2, l1, l2, by rw [← r1.length, ← r2.length]; exact le_line c, fun p n => q _ _ (same_upd n) (rz_lst n (r1.append r2))⟩
  · cases e
theorem tupCat_A {K : Frag} : OpA K (rCatA K) tupCatG := by
  intro A H x y vx vy z Q hd e hx hy q
  cases x <;> try (cases e; done)
  cases y <;> try (cases e; done)
  rename_i i j
  unfold tupCatG at e
  dsimp only at e
  split at e
  · rename_i c
    cases e
    obtain ⟨a, xs, e1, l1, r1⟩ := hx.tup
    obtain ⟨b, ys, e2, l2, r2⟩ := hy.tup
    subst e1 e2
    refine ⟨a, b, xs, ys, rfl, rfl, l1, l2, by rw [← r1.length, ← r2.length]; exact le_line c, fun e0 => ?_, fun _ e0 => ?_, fun _ _ p n => ?_⟩
    · subst e0
      have : i = [] := by cases i with
        | nil => rfl
        | cons _ _ => have := r1.length; simp at this
      subst this
      refine q _ _ (Same.refl H) ?_
      show Rp K A H (.tuple ([] ++ j)) _
      simp only [Rp]
      exact ⟨b, ys, rfl, l2, r2⟩
    · subst e0
      have : j = [] := by cases j with
        | nil => rfl
        | cons _ _ => have := r2.length; simp at this
      subst this
      refine q _ _ (Same.refl H) ?_
      show Rp K A H (.tuple (i ++ [])) _
      rw [List.append_nil]
      simp only [Rp]
      exact ⟨a, xs, rfl, l1, r1⟩
    · exact q _ _ (same_upd n) (rp_tup n (r1.append r2))
  · cases e
def addG : G2 := orG (intG (fun _ _ => true) fun i j => .int (i + j)) (orG strCatG (orG lstCatG tupCatG))
def subG : G2 := intG (fun _ _ => true) fun i j => .int (i - j)
def mulOk (i j : Int) : Bool := decide ((-(2 ^ 64) < i ∧ i < 2 ^ 64) ∨ (-(2 ^ 64) < j ∧ j < 2 ^ 64)) || decide (i.natAbs.log2 + j.natAbs.log2 < 1000000)
def mulG : G2 := intG mulOk fun i j => .int (i * j)
def fdivG : G2 := intG (fun _ j => decide (0 < j) && decide (j.natAbs.log2 < 9000)) fun i j => .int (i / j)
def modG : G2 := intG (fun _ j => decide (0 < j)) fun i j => .int (i % j)
def powG : G2 := intG (fun i j => decide (0 ≤ j) && decide (j ≤ 1000000) && decide (i.natAbs < 2 ^ 64)) fun i j => .int (i ^ j.toNat)
section
variable {X : Cx} {W : WX} {a b : Expr} {fa fb : EF} {pos : Pos}
theorem e_add (ha : PE X a (tE (gd X W) fa)) (hb : PE X b (tE (gd X W) fb)) : PE X (.BinOp a .Add b pos) (tE (gd X W) (opF addG fa fb)) :=
  e_op (op_add.or (op_add_str.or (op_catR.or op_catA))) ((int_A0 fun A H _ _ => rp_int (K := X.K) (A := A) (H := H)).or (strCat_A.or (lstCat_A.or tupCat_A))) ha hb
theorem e_sub (ha : PE X a (tE (gd X W) fa)) (hb : PE X b (tE (gd X W) fb)) : PE X (.BinOp a .Sub b pos) (tE (gd X W) (opF subG fa fb)) := e_op op_sub (int_A0 fun A H _ _ => rp_int (K := X.K) (A := A) (H := H)) ha hb
theorem op_mulA : OpR X (binaryOp .Mult) (rI (fun i j => CMul i j ∨ CMulW i j) fun i j => .int (i * j)) := opI fun _ _ _ _ _ _ _ hc q => mul_int q (hc.elim CMul.ok CMulW.ok)
theorem e_mul (ha : PE X a (tE (gd X W) fa)) (hb : PE X b (tE (gd X W) fb)) : PE X (.BinOp a .Mult b pos) (tE (gd X W) (opF mulG fa fb)) := e_op op_mulA (int_A (fun i j h => by
  unfold mulOk at h
  rw [Bool.or_eq_true] at h
  exact h.imp (fun z => of_decide_eq_true (p := (-(2 ^ 64) < i ∧ i < 2 ^ 64) ∨ (-(2 ^ 64) < j ∧ j < 2 ^ 64)) z) fun z => of_decide_eq_true (p := i.natAbs.log2 + j.natAbs.log2 < 1000000) z) fun A H _ _ => rp_int (K := X.K) (A := A) (H := H)) ha hb
theorem e_fdiv (ha : PE X a (tE (gd X W) fa)) (hb : PE X b (tE (gd X W) fb)) : PE X (.BinOp a .FloorDiv b pos) (tE (gd X W) (opF fdivG fa fb)) := e_op op_fdivW (int_A (fun i j h => by
  rw [Bool.and_eq_true] at h
  exact ⟨of_decide_eq_true h.1, of_decide_eq_true h.2⟩) fun A H _ _ => rp_int (K := X.K) (A := A) (H := H)) ha hb
theorem e_mod (ha : PE X a (tE (gd X W) fa)) (hb : PE X b (tE (gd X W) fb)) : PE X (.BinOp a .Mod b pos) (tE (gd X W) (opF modG fa fb)) := e_op op_mod (int_A (fun i j h => of_decide_eq_true h) fun A H _ _ => rp_int (K := X.K) (A := A) (H := H)) ha hb
theorem e_pow (ha : PE X a (tE (gd X W) fa)) (hb : PE X b (tE (gd X W) fb)) : PE X (.BinOp a .Pow b pos) (tE (gd X W) (opF powG fa fb)) := e_op op_pow (int_A (fun i j h => by
  rw [Bool.and_eq_true, Bool.and_eq_true] at h
  exact ⟨of_decide_eq_true h.1.1, of_decide_eq_true h.1.2, of_decide_eq_true h.2⟩) fun A H _ _ => rp_int (K := X.K) (A := A) (H := H)) ha hb
def negG : G1
  | .int i => some (.sh (.int (-i)))
  | _ => none
theorem e_neg (ha : PE X a (tE (gd X W) fa)) : PE X (.UnaryOp .USub a pos) (tE (gd X W) (unF negG fa)) := e_un un_neg (by
  intro A H x vx z Q hd e hx q
  cases x <;> try (cases e; done)
  rename_i i
  cases e
  have e1 := hx.int
  subst e1
  exact ⟨i, rfl, q _ _ (Same.refl H) rz_int⟩) ha
end
end VL


set_option Elab.async false
set_option linter.all false
set_option maxRecDepth 100000
set_option maxHeartbeats 2000000
namespace VL
open PySem PySem.Spec PyProof.Rows L2
variable [TbP]

/-! ### freezing -/
def frz (e : En) : Rv → Option (D × En)
  | .sh d => some (d, e)
  | .tm d => some (d, e)
  | .bo i => match e[i]? with
    | some (.sh d) => some (d, e)
    | some (.iz d) => some (d, e)
    | some (.ow d) => some (d, e.set i (.sh d))
    | some (.io d) => some (d, e.set i (.iz d))
    | _ => none
theorem Ob.rp {K : Frag} {A : AS} {H : Hp} {a : Addr} {d : D} (h : Ob K A H a d) (hA : A a) : Rp K A H d (.ref a) := by
  cases d with
  | list ds =>
    obtain ⟨xs, e, r⟩ := h
    simp only [Rp]
    exact ⟨a, xs, rfl, .inl ⟨hA, .inl e⟩, r⟩
  | dict kvs =>
    simp only [Rp]
    exact ⟨a, rfl, hA, h.imp (fun ⟨ks, e, r⟩ => ⟨ks, .inl e, r⟩) fun ⟨ks, e, r⟩ => ⟨ks, .inl e, r⟩⟩
  | _ => exact h.elim
theorem kp_refl {A : AS} {H : Hp} : Kp A H H := fun _ _ e _ => .inl e
section
variable {K : Frag} {A A1 : AS} {σ σ1 : L2.St} {H H1 : Hp} {env e1 e2 : En} {r : Rv} {v : V} {d : D}
/-- an address that was fresh, or owned by a slot, is shared from now on -/
theorem Rel.add {a : Addr} (rel : Rel K A1 σ1 H1 e1) (no : ¬ Ow σ1 e1 a) (hs : H1 a ≠ none) : Rel K (fun x => A1 x ∨ x = a) σ1 H1 e1 := by
  refine ⟨rel.len, fun i d h => ?_, fun i d h => ?_, rel.ap, fun x h => ?_, fun i d h => (let ⟨b, e, z⟩ := rel.fz i d h; ⟨b, e, .inl z⟩), rel.tb⟩
  · obtain ⟨v, e, q⟩ := rel.sh i d h
    exact ⟨v, e, q.mono (fun _ z => .inl z) kp_refl⟩
  · obtain ⟨b, e, na, ob⟩ := rel.ow i d h
    refine ⟨b, e, fun z => z.elim na fun z => ?_, ob.mono (fun _ z => .inl z) kp_refl fun _ z => z⟩
    subst z
    exact no ⟨i, ⟨d, h⟩, e⟩
  · rcases h with h | h
    · exact rel.dom x h
    · subst h; exact hs
theorem isOwn_set {i j : Nat} {s : Sl} {d : D} (h : isOwn (e1.set i s) j d) (hs : ∀ d, s ≠ .ow d ∧ s ≠ .io d) : j ≠ i ∧ isOwn e1 j d := by
  by_cases q : j = i
  · subst q
    exfalso
    have lt : j < e1.length := by
      rcases h with h | h <;>
      · have := (List.getElem?_eq_some_iff.mp h).1
        simpa using this
    rcases h with h | h
    · rw [List.getElem?_set_self lt] at h
      exact (hs d).1 (Option.some.inj h)
    · rw [List.getElem?_set_self lt] at h
      exact (hs d).2 (Option.some.inj h)
  · refine ⟨q, ?_⟩
    unfold isOwn at h ⊢
    rw [List.getElem?_set_ne (Ne.symm q)] at h
    exact h
/-- the slot i, that owned d at a, shares it from now on -/
theorem Rel.share {i : Nat} {a : Addr} {s : Sl} (rel : Rel K A1 σ1 H1 e1) (ho : isOwn e1 i d) (ha : σ1[i]? = some (some (.ref a))) (hs : s = .sh d ∨ s = .iz d) :
    Rel K (fun x => A1 x ∨ x = a) σ1 H1 (e1.set i s) ∧ (∀ x, Ow σ1 (e1.set i s) x → Ow σ1 e1 x ∧ x ≠ a) := by
  have hns : ∀ d, s ≠ .ow d ∧ s ≠ .io d := fun d => by rcases hs with rfl | rfl <;> (constructor <;> (intro z; cases z))
  obtain ⟨b, eb, na, ob⟩ := rel.ow i d ho
  rw [ha] at eb; cases eb
  obtain ⟨o, eo, _⟩ := ob.some
  have lt : i < e1.length := by
    rcases ho with h | h <;> exact (List.getElem?_eq_some_iff.mp h).1
  have sub : ∀ x, Ow σ1 (e1.set i s) x → Ow σ1 e1 x ∧ x ≠ a := fun x ⟨j, ⟨d', hd⟩, e⟩ => by
    obtain ⟨ne, hj⟩ := isOwn_set hd hns
    refine ⟨⟨j, ⟨d', hj⟩, e⟩, fun z => ne ?_⟩
    subst z
    exact rel.ap j i x ⟨⟨d', hj⟩, e⟩ ⟨⟨d, ho⟩, ha⟩
  refine ⟨⟨by simpa using rel.len, fun j d' h => ?_, fun j d' h => ?_, fun j k x hj hk => ?_, fun x h => ?_, fun j d' h => ?_, rel.tb⟩, sub⟩
  · by_cases q : j = i
    · subst q
      rw [List.getElem?_set_self lt] at h
      have : d' = d := by
        rcases hs with rfl | rfl <;> rcases h with h | h <;> cases h <;> rfl
      subst this
      exact ⟨.ref a, ha, (ob.mono (A1 := fun x => A1 x ∨ x = a) (fun _ z => .inl z) kp_refl fun _ z => z).rp (.inr rfl)⟩
    · rw [List.getElem?_set_ne (Ne.symm q)] at h
      obtain ⟨w, e, r⟩ := rel.sh j d' h
      exact ⟨w, e, r.mono (fun _ z => .inl z) kp_refl⟩
  · obtain ⟨ne, hj⟩ := isOwn_set h hns
    obtain ⟨b, e, nb, ob'⟩ := rel.ow j d' hj
    refine ⟨b, e, fun z => z.elim nb fun z => ?_, ob'.mono (fun _ z => .inl z) kp_refl fun _ z => z⟩
    subst z
    exact ne (rel.ap j i b ⟨⟨d', hj⟩, e⟩ ⟨⟨d, ho⟩, ha⟩)
  · obtain ⟨⟨d1, h1⟩, e1'⟩ := hj
    obtain ⟨⟨d2, h2⟩, e2'⟩ := hk
    exact rel.ap j k x ⟨⟨d1, (isOwn_set h1 hns).2⟩, e1'⟩ ⟨⟨d2, (isOwn_set h2 hns).2⟩, e2'⟩
  · rcases h with h | h
    · exact rel.dom x h
    · subst h; rw [eo]; simp
  · by_cases q : j = i
    · subst q
      exact ⟨a, ha, .inr rfl⟩
    · rw [List.getElem?_set_ne (Ne.symm q)] at h
      obtain ⟨b, e, z⟩ := rel.fz j d' h
      exact ⟨b, e, .inl z⟩
theorem rdAt_set {i j : Nat} {s : Sl} (hs : s.rd ≠ none) (h : rdAt e1 j ≠ none) : rdAt (e1.set i s) j ≠ none := by
  unfold rdAt at h ⊢
  by_cases q : j = i
  · subst q
    by_cases lt : j < e1.length
    · rw [List.getElem?_set_self lt]; exact hs
    · rw [List.getElem?_eq_none (by omega)] at h; exact absurd rfl h
  · rw [List.getElem?_set_ne (Ne.symm q)]; exact h
theorem frz_ok (s : Stp K A σ H env A1 σ1 H1 e1) (hv : RvOk K A1 σ1 H1 e1 (fun a => H a = none) r v) (q : frz e1 r = some (d, e2)) :
    ∃ A2, Stp K A σ H env A2 σ1 H1 e2 ∧ (∀ a, A1 a → A2 a) ∧ Rp K A2 H1 d v ∧
      (∀ (F : AS) (r' : Rv) (v' : V), (∀ a, F a → r.isTm = true → v ≠ .ref a) → RvOk K A1 σ1 H1 e1 F r' v' → RvOk K A2 σ1 H1 e2 F r' v') := by
  cases r with
  | sh d' =>
    cases q
    exact ⟨A1, s, fun _ z => z, hv, fun _ _ _ _ z => z⟩
  | tm d' =>
    cases q
    obtain ⟨a, e, na, no, f, ob⟩ := hv
    obtain ⟨o, eo, _⟩ := ob.some
    subst e
    refine ⟨fun x => A1 x ∨ x = a, ⟨⟨fun x z => .inl (s.ext.fr x z), fun x o e n => (s.ext.keep x o e n).imp id (Or.imp (fun z => ⟨z.1, .inl z.2.1, z.2.2⟩) id), fun x z => z.elim (s.ext.old x) fun z => ?_, s.ext.al, s.ext.tab⟩, s.rel.add no (by rw [eo]; simp), s.sub, s.io, s.rdb⟩,
      fun _ z => .inl z, (ob.mono (A1 := fun x => A1 x ∨ x = a) (fun _ z => .inl z) kp_refl fun _ z => z).rp (.inr rfl), fun F r' v' hF h => ?_⟩
    · subst z; exact .inr (.inl f)
    · cases r' with
      | sh d' => exact h.mono (fun _ z => .inl z) kp_refl
      | tm d' =>
        obtain ⟨b, e, nb, nob, fb, obb⟩ := h
        refine ⟨b, e, fun z => z.elim nb fun z => ?_, nob, fb, obb.mono (fun _ z => .inl z) kp_refl fun _ z => z⟩
        subst z
        exact hF b fb rfl rfl
      | bo j => exact h
  | bo i =>
    obtain ⟨hs, _⟩ := hv
    unfold frz at q
    dsimp only at q
    cases q0 : e1[i]? with
    | none => rw [q0] at q; cases q
    | some sl =>
      rw [q0] at q
      have go : ∀ (sl' : Sl), isOwn e1 i d → (sl' = .sh d ∨ sl' = .iz d) → (∀ d', env[i]? = some (Sl.io d') ∨ env[i]? = some (Sl.iz d') → sl' = .iz d) → e2 = e1.set i sl' → ∃ A2, Stp K A σ H env A2 σ1 H1 e2 ∧ (∀ a, A1 a → A2 a) ∧ Rp K A2 H1 d v ∧
            (∀ (F : AS) (r' : Rv) (v' : V), (∀ b, F b → (Rv.bo i).isTm = true → v ≠ .ref b) → RvOk K A1 σ1 H1 e1 F r' v' → RvOk K A2 σ1 H1 e2 F r' v') := fun sl' ho hsl hio e2e => by
        obtain ⟨a, ea, na, ob⟩ := s.rel.ow i d ho
        rw [hs] at ea; cases ea
        obtain ⟨rel2, sub2⟩ := s.rel.share ho hs hsl
        subst e2e
        have hrd : sl'.rd ≠ none := by rcases hsl with rfl | rfl <;> simp [Sl.rd]
        have lt : i < e1.length := by
          rcases ho with h | h <;> exact (List.getElem?_eq_some_iff.mp h).1
        refine ⟨fun x => A1 x ∨ x = a, ⟨⟨fun x z => .inl (s.ext.fr x z), fun x o e n => (s.ext.keep x o e n).imp id (Or.imp (fun z => ⟨z.1, .inl z.2.1, z.2.2⟩) id), fun x z => z.elim (s.ext.old x) fun z => ?_, s.ext.al, s.ext.tab⟩, rel2, fun x z => s.sub x (sub2 x z).1, fun j d' hj => ?_, fun j z => rdAt_set hrd (s.rdb j z)⟩,
          fun _ z => .inl z, (ob.mono (A1 := fun x => A1 x ∨ x = a) (fun _ z => .inl z) kp_refl fun _ z => z).rp (.inr rfl), fun F r' v' hF h => ?_⟩
        · subst z
          exact .inr ((s.sub x ⟨i, ⟨d, ho⟩, hs⟩).symm)
        · obtain ⟨q1, d1, q2⟩ := s.io j d' hj
          refine ⟨q1, ?_⟩
          by_cases ji : j = i
          · subst ji
            rw [List.getElem?_set_self lt, hio d' hj]
            exact ⟨d, .inr rfl⟩
          · rw [List.getElem?_set_ne (Ne.symm ji)]
            exact ⟨d1, q2⟩
        · cases r' with
          | sh d' => exact h.mono (fun _ z => .inl z) kp_refl
          | tm d' =>
            obtain ⟨b, e, nb, nob, fb, obb⟩ := h
            refine ⟨b, e, fun z => z.elim nb fun z => ?_, fun z => nob (sub2 b z).1, fb, obb.mono (fun _ z => .inl z) kp_refl fun _ z => z⟩
            subst z
            exact nob ⟨i, ⟨d, ho⟩, hs⟩
          | bo j => exact ⟨h.1, rdAt_set hrd h.2⟩
      cases sl with
      | un => cases q
      | sh d' =>
        cases q
        obtain ⟨w, e, rp⟩ := s.rel.sh i d (.inl q0)
        rw [hs] at e; cases e
        exact ⟨A1, s, fun _ z => z, rp, fun _ _ _ _ z => z⟩
      | iz d' =>
        cases q
        obtain ⟨w, e, rp⟩ := s.rel.sh i d (.inr q0)
        rw [hs] at e; cases e
        exact ⟨A1, s, fun _ z => z, rp, fun _ _ _ _ z => z⟩
      | ow d' =>
        cases q
        have ho : isOwn e1 i d := .inl q0
        obtain ⟨a, ea, _⟩ := s.rel.ow i d ho
        rw [hs] at ea; cases ea
        exact go (.sh d) ho (.inl rfl) (fun d' hj => by
          obtain ⟨_, d1, q2⟩ := s.io i d' hj
          rw [q0] at q2
          rcases q2 with q2 | q2 <;> cases q2) rfl
      | io d' =>
        cases q
        have ho : isOwn e1 i d := .inr q0
        obtain ⟨a, ea, _⟩ := s.rel.ow i d ho
        rw [hs] at ea; cases ea
        exact go (.iz d) ho (.inr rfl) (fun _ _ => rfl) rfl
def frzAll : En → List Rv → Option (List D × En)
  | e, [] => some ([], e)
  | e, r :: rs => match frz e r with
    | some (d, e2) => (match frzAll e2 rs with
      | some (ds, e3) => some (d :: ds, e3)
      | none => none)
    | none => none
theorem RvsOk.keep {A1 A2 : AS} {F : AS} (hk : ∀ (F' : AS) (r' : Rv) (v' : V), (∀ a, F' a → F a) → RvOk K A1 σ1 H1 e1 F' r' v' → RvOk K A2 σ1 H1 e2 F' r' v') : ∀ {F' : AS} {rs : List Rv} {vs : List V}, (∀ a, F' a → F a) → RvsOk K A1 σ1 H1 e1 F' rs vs → RvsOk K A2 σ1 H1 e2 F' rs vs
  | _, [], _, _, h => h
  | _, _ :: _, _, i, h => by
    obtain ⟨v, t, e, h1, h2⟩ := h
    exact ⟨v, t, e, hk _ _ _ i h1, h2.keep hk fun a z => i a z.1⟩
theorem frzAll_ok : ∀ {rs : List Rv} {vs : List V} {ds : List D} {A1 : AS} {e1 e2 : En} {F : AS}, Stp K A σ H env A1 σ1 H1 e1 → (∀ a, F a → H a = none) → RvsOk K A1 σ1 H1 e1 F rs vs → frzAll e1 rs = some (ds, e2) →
    ∃ A2, Stp K A σ H env A2 σ1 H1 e2 ∧ (∀ a, A1 a → A2 a) ∧ RpL K A2 H1 ds vs
  | [], vs, ds, A1, e1, e2, F, s, hF, h, q => by
    cases q
    have : vs = [] := h
    subst this
    exact ⟨A1, s, fun _ z => z, .nil⟩
  | r :: rs, vs, ds, A1, e1, e2, F, s, hF, h, q => by
    obtain ⟨v, t, rfl, h1, h2⟩ := h
    unfold frzAll at q
    cases q1 : frz e1 r with
    | none => rw [q1] at q; cases q
    | some p =>
      obtain ⟨d, e3⟩ := p
      rw [q1] at q
      dsimp only at q
      cases q2 : frzAll e3 rs with
      | none => rw [q2] at q; cases q
      | some p =>
        obtain ⟨ds', e4⟩ := p
        rw [q2] at q
        cases q
        obtain ⟨A2, s2, f2, rp, k⟩ := frz_ok s (h1.weak fun a _ _ z => hF a z) q1
        have h2' : RvsOk K A2 σ1 H1 e3 (fun a => F a ∧ (r.isTm = true → v ≠ .ref a)) rs t := h2.keep (F := fun a => F a ∧ (r.isTm = true → v ≠ .ref a)) (fun F' r' v' i z => k F' r' v' (fun a fa it => (i a fa).2 it) z) fun _ z => z
        obtain ⟨A3, s3, f3, rpl⟩ := frzAll_ok s2 (fun a z => hF a z.1) h2' q2
        exact ⟨A3, s3, fun a z => f3 a (f2 a z), .cons (rp.mono f3 kp_refl) rpl⟩
end

/-! ### displays -/
def tupF (fs : AF) : EF := fun env => (fs env).bind fun rs e => match frzAll e rs with
  | some (ds, e2) => if ds.length ≤ LIM then .ok (.sh (.tuple ds)) e2 else .no
  | none => .no
def lstF (fs : AF) : EF := fun env => (fs env).bind fun rs e => match frzAll e rs with
  | some (ds, e2) => if ds.length ≤ LIM then .ok (.tm (.list ds)) e2 else .no
  | none => .no
theorem Post.cut {α β : Type} {G : Gd} {A : AS} {σ : L2.St} {H : Hp} {env : En} {out : Rs α} {k : α → En → Rs β} {P : β → En → AS → Hp → Prop} {P1 : α → En → AS → Hp → Prop} (h : Post G A σ H env (out.bind k) P)
    (i : ∀ a e A' H', Stp G.K A σ H env A' σ H' e → Post G A σ H env (k a e) P → P1 a e A' H') : Post G A σ H env out P1 := by
  cases out with
  | ok a e => exact fun A1 H1 s1 => i a e A1 H1 s1 h
  | ex x e => exact h
  | no => exact h
section
variable {X : Cx} {W : WX} {es : List Expr} {fs : AF} {pos : Pos}
theorem e_tup {x1} (h : PA X es (tA (gd X W) fs)) : PE X (.Tuple es x1 pos) (tE (gd X W) (tupF fs)) := PE.imp (pe_tup h) fun σ H Q h => by
  obtain ⟨A, env, rel, h⟩ := h
  refine ⟨A, env, rel, Post.cut h fun rs e1 A1 H1 s1 h1 vs hvs => ?_⟩
  cases q : frzAll e1 rs with
  | none => rw [q] at h1; exact h1.elim
  | some p =>
    obtain ⟨ds, e2⟩ := p
    rw [q] at h1
    dsimp only at h1
    obtain ⟨A2, s2, f2, rpl⟩ := frzAll_ok s1 (fun _ z => z) hvs q
    split at h1
    · rename_i c
      refine ⟨by rw [← rpl.length]; exact le_line c, fun p n => ?_⟩
      have st := Stp.same s2.rel (same_upd (o := .tup vs) n)
      exact h1 A2 _ (s2.trans st) (.ref p) (rp_tup n rpl)
    · exact h1.elim
theorem e_lst (h : PA X es (tA (gd X W) fs)) : PE X (.List es pos) (tE (gd X W) (lstF fs)) := PE.imp (pe_lst h) fun σ H Q h => by
  obtain ⟨A, env, rel, h⟩ := h
  refine ⟨A, env, rel, Post.cut h fun rs e1 A1 H1 s1 h1 vs hvs => ?_⟩
  cases q : frzAll e1 rs with
  | none => rw [q] at h1; exact h1.elim
  | some p =>
    obtain ⟨ds, e2⟩ := p
    rw [q] at h1
    dsimp only at h1
    obtain ⟨A2, s2, f2, rpl⟩ := frzAll_ok s1 (fun _ z => z) hvs q
    split at h1
    · rename_i c
      refine ⟨by rw [← rpl.length]; exact le_line c, fun p n => ?_⟩
      have st := Stp.same s2.rel (same_upd (o := .lst vs) n)
      exact h1 A2 _ (s2.trans st) (.ref p) ((rz_lst n rpl).rv s2)
    · exact h1.elim
end
end VL


set_option Elab.async false
set_option linter.all false
set_option maxRecDepth 100000
set_option maxHeartbeats 2000000
namespace VL
open PySem PySem.Spec PyProof.Rows L2
variable [TbP]

/-! ### equality, order, membership -/
def eqG : G2 := fun x y => if SeqAt.shaped x && SeqAt.shaped y then some (.sh (.bool (PyData.eqv x y))) else none
def neG : G2 := fun x y => if SeqAt.shaped x && SeqAt.shaped y then some (.sh (.bool (!PyData.eqv x y))) else none
theorem shaped_lay {d : D} (h : SeqAt.shaped d = true) : d.canLay0 = true := SeqAt.canLay_of_shaped h
theorem eq_A {K : Frag} : OpA K (rEqD K) eqG := by
  intro A H x y vx vy z Q hd e hx hy q
  unfold eqG at e
  by_cases c : (SeqAt.shaped x && SeqAt.shaped y) = true
  · rw [if_pos c] at e
    cases e
    rw [Bool.and_eq_true] at c
    exact ⟨x, y, hx.dp (shaped_lay c.1), hy.dp (shaped_lay c.2), c.1, c.2, q _ _ (Same.refl H) rz_bl⟩
  · rw [if_neg c] at e; cases e
theorem ne_A {K : Frag} : OpA K (rNeD K) neG := by
  intro A H x y vx vy z Q hd e hx hy q
  unfold neG at e
  by_cases c : (SeqAt.shaped x && SeqAt.shaped y) = true
  · rw [if_pos c] at e
    cases e
    rw [Bool.and_eq_true] at c
    exact ⟨x, y, hx.dp (shaped_lay c.1), hy.dp (shaped_lay c.2), c.1, c.2, q _ _ (Same.refl H) rz_bl⟩
  · rw [if_neg c] at e; cases e
theorem room64 {k : Nat} {A : Around} (h : Room k A) : A.units + 64 < cLine := by have := h.un; omega
theorem room65 {k : Nat} {A : Around} (h : Room k A) : A.units + 65 < cLine := by have := h.un; omega
theorem room1 {k : Nat} {A : Around} (h : Room k A) : A.units + 1 < cLine := by have := h.un; omega
def strLtG : G2
  | .str x, .str y => some (.sh (.bool (decide (x.cps.toList < y.cps.toList))))
  | _, _ => none
theorem strLt_A {K : Frag} : OpA K (fun x y H Q => ∃ i j, x = .str i ∧ y = .str j ∧ Q (.bl (decide (i.cps.toList < j.cps.toList))) H) strLtG := by
  intro A H x y vx vy z Q hd e hx hy q
  cases x <;> try (cases e; done)
  cases y <;> try (cases e; done)
  rename_i i j
  cases e
  have e1 := hx.str
  have e2 := hy.str
  subst e1 e2
  exact ⟨i, j, rfl, rfl, q _ _ (Same.refl H) rz_bl⟩
def ltG : G2 := orG (intG (fun _ _ => true) fun i j => .bool (decide (i < j))) strLtG
def leG : G2 := intG (fun _ _ => true) fun i j => .bool (decide (i ≤ j))
def gtG : G2 := intG (fun _ _ => true) fun i j => .bool (decide (j < i))
def geG : G2 := intG (fun _ _ => true) fun i j => .bool (decide (j ≤ i))
theorem cmpI_A {K : Frag} {p : Int → Int → Bool} : OpA K (rI0 fun i j => .bl (p i j)) (intG (fun _ _ => true) fun i j => .bool (p i j)) := int_A0 fun A H _ _ => rp_bl (K := K) (A := A) (H := H)
/-- is, of None and of truths -/
def isG (n : Bool) : G2
  | .none, .none => some (.sh (.bool (!n)))
  | .bool _, .none => some (.sh (.bool n))
  | .int _, .none => some (.sh (.bool n))
  | .str _, .none => some (.sh (.bool n))
  | .list _, .none => some (.sh (.bool n))
  | .tuple _, .none => some (.sh (.bool n))
  | .dict _, .none => some (.sh (.bool n))
  | .bool a, .bool b => some (.sh (.bool (if n then !decide (a = b) else decide (a = b))))
  | _, _ => none
theorem not_non {K : Frag} {A : AS} {H : Hp} {d : D} {v : V} (h : Rq K A H d v) (hd : d ≠ .none) : decide (v = .non) = false := by
  refine decide_eq_false fun e => ?_
  subst e
  cases d with
  | none => exact hd rfl
  | bool b => have := h.bl; cases this
  | int b => have := h.int; cases this
  | str b => have := h.str; cases this
  | list b => obtain ⟨_, _, e, _⟩ := h.lst; cases e
  | tuple b => obtain ⟨_, _, e, _⟩ := h.tup; cases e
  | dict b => obtain ⟨_, e, _⟩ := h.dct; cases e
abbrev rIsN : R2 := fun x y H Q => y = .non ∧ Q (.bl (decide (x = .non))) H
abbrev rNotN : R2 := fun x y H Q => y = .non ∧ Q (.bl (!decide (x = .non))) H
abbrev rIsT : R2 := fun x y H Q => ∃ a b, x = .bl a ∧ y = .bl b ∧ Q (.bl (decide (a = b))) H
abbrev rIsnT : R2 := fun x y H Q => ∃ a b, x = .bl a ∧ y = .bl b ∧ Q (.bl (!decide (a = b))) H
theorem is_A {K : Frag} : OpA K (fun x y H Q => rIsN x y H Q ∨ rIsT x y H Q) (isG false) := by
  intro A H x y vx vy z Q hd e hx hy q
  cases y with
  | none =>
    refine .inl ⟨hy.non, ?_⟩
    cases x with
    | none =>
      cases e
      rw [hx.non]
      exact q _ _ (Same.refl H) rz_bl
    | _ =>
      rw [not_non hx (by intro z; cases z)]
      cases e
      exact q _ _ (Same.refl H) rz_bl
  | bool b =>
    cases x with
    | bool a =>
      cases e
      exact .inr ⟨a, b, hx.bl, hy.bl, q _ _ (Same.refl H) rz_bl⟩
    | _ => cases e
  | _ => cases x <;> cases e
theorem isn_A {K : Frag} : OpA K (fun x y H Q => rNotN x y H Q ∨ rIsnT x y H Q) (isG true) := by
  intro A H x y vx vy z Q hd e hx hy q
  cases y with
  | none =>
    refine .inl ⟨hy.non, ?_⟩
    cases x with
    | none =>
      cases e
      rw [hx.non]
      exact q _ _ (Same.refl H) rz_bl
    | _ =>
      rw [not_non hx (by intro z; cases z)]
      cases e
      exact q _ _ (Same.refl H) rz_bl
  | bool b =>
    cases x with
    | bool a =>
      cases e
      exact .inr ⟨a, b, hx.bl, hy.bl, q _ _ (Same.refl H) rz_bl⟩
    | _ => cases e
  | _ => cases x <;> cases e

/-! in -/
def inStr (x y : Str) : Bool := !(Builtin.Str.occurrences y x 0 y.length 1).isEmpty
def inStrG (n : Bool) : G2
  | .str x, .str y => some (.sh (.bool (if n then !inStr x y else inStr x y)))
  | _, _ => none
def inSeqG (n : Bool) : G2
  | x, .list ds => if SeqAt.shaped x && SeqAt.shaped (.list ds) then some (.sh (.bool (if n then !ds.any fun z => PyData.eqv z x else ds.any fun z => PyData.eqv z x))) else none
  | x, .tuple ds => if SeqAt.shaped x && SeqAt.shaped (.tuple ds) then some (.sh (.bool (if n then !ds.any fun z => PyData.eqv z x else ds.any fun z => PyData.eqv z x))) else none
  | _, _ => none
def rInS (K : Frag) (n : Bool) : R2 := fun x y H Q => ∃ d ds, Dp K H x d ∧ (Dp K H y (.list ds) ∨ Dp K H y (.tuple ds)) ∧ SeqAt.shaped d = true ∧ SeqAt.shaped (.list ds) = true ∧
  Q (.bl (if n then !ds.any fun z => PyData.eqv z d else ds.any fun z => PyData.eqv z d)) H
theorem shaped_lt {ds : List D} (h : SeqAt.shaped (.tuple ds) = true) : SeqAt.shaped (.list ds) = true := by
  simpa [SeqAt.shaped, PyData.canLay0, PyData.depth] using h
theorem room_in {X : Cx} {d : D} {ds : List D} (sd : SeqAt.shaped d = true) (hu : X.A.units + 65 < cLine) : X.A.units + 1 + min (PyData.depthAll ds) d.depth < cLine := by
  have h1 := SeqAt.depth_of_shaped sd
  have h2 : min (PyData.depthAll ds) d.depth ≤ d.depth := Nat.min_le_right _ _
  omega
section
variable {X : Cx}
theorem op_inS (hu : X.A.units + 65 < cLine) : OpR X (compareOp .In) (rInS X.K false) := by
  intro pins s σ H x y v u Q I rx ry h
  obtain ⟨d, ds, hd, he, sd, se, q⟩ := h
  obtain ⟨as, r1⟩ := Dp.reads I d x v hd rx
  rcases he with he | he
  · obtain ⟨bs, r2⟩ := Dp.reads I (.list ds) y u he ry
    exact SeqAt.in_list_reads r2 r1 (by simpa [PyData.canLay0] using shaped_lay se) (shaped_lay sd) (room_in sd hu) ⟨.bl _, H, I, rfl, q⟩
  · obtain ⟨bs, r2⟩ := Dp.reads I (.tuple ds) y u he ry
    exact SeqAt.in_tuple_reads r2 r1 (by simpa [PyData.canLay0] using shaped_lay se) (shaped_lay sd) (room_in sd hu) ⟨.bl _, H, I, rfl, q⟩
theorem op_notInS (hu : X.A.units + 65 < cLine) : OpR X (compareOp .NotIn) (rInS X.K true) := by
  intro pins s σ H x y v u Q I rx ry h
  obtain ⟨d, ds, hd, he, sd, se, q⟩ := h
  obtain ⟨as, r1⟩ := Dp.reads I d x v hd rx
  rcases he with he | he
  · obtain ⟨bs, r2⟩ := Dp.reads I (.list ds) y u he ry
    exact SeqAt.notIn_list_reads r2 r1 (by simpa [PyData.canLay0] using shaped_lay se) (shaped_lay sd) (room_in sd hu) ⟨.bl _, H, I, rfl, q⟩
  · obtain ⟨bs, r2⟩ := Dp.reads I (.tuple ds) y u he ry
    exact SeqAt.notIn_tuple_reads r2 r1 (by simpa [PyData.canLay0] using shaped_lay se) (shaped_lay sd) (room_in sd hu) ⟨.bl _, H, I, rfl, q⟩
end
theorem inSeq_A {K : Frag} {n : Bool} : OpA K (rInS K n) (inSeqG n) := by
  intro A H x y vx vy z Q hd e hx hy q
  cases y with
  | list ds =>
    simp only [inSeqG] at e
    by_cases c : (SeqAt.shaped x && SeqAt.shaped (.list ds)) = true
    · rw [if_pos c] at e
      cases e
      rw [Bool.and_eq_true] at c
      exact ⟨x, ds, hx.dp (shaped_lay c.1), .inl (hy.dp (shaped_lay c.2)), c.1, c.2, q _ _ (Same.refl H) rz_bl⟩
    · rw [if_neg c] at e; cases e
  | tuple ds =>
    simp only [inSeqG] at e
    by_cases c : (SeqAt.shaped x && SeqAt.shaped (.tuple ds)) = true
    · rw [if_pos c] at e
      cases e
      rw [Bool.and_eq_true] at c
      exact ⟨x, ds, hx.dp (shaped_lay c.1), .inr (hy.dp (shaped_lay c.2)), c.1, shaped_lt c.2, q _ _ (Same.refl H) rz_bl⟩
    · rw [if_neg c] at e; cases e
  | _ => cases x <;> cases e
theorem inStr_A {K : Frag} : OpA K (fun x y H Q => ∃ i j, x = .str i ∧ y = .str j ∧ Q (.bl (!(Builtin.Str.occurrences j i 0 j.length 1).isEmpty)) H) (inStrG false) := by
  intro A H x y vx vy z Q hd e hx hy q
  cases x <;> try (cases e; done)
  cases y <;> try (cases e; done)
  rename_i i j
  cases e
  exact ⟨i, j, hx.str, hy.str, q _ _ (Same.refl H) rz_bl⟩
theorem notInStr_A {K : Frag} : OpA K (fun x y H Q => ∃ i j, x = .str i ∧ y = .str j ∧ Q (.bl (!(!(Builtin.Str.occurrences j i 0 j.length 1).isEmpty))) H) (inStrG true) := by
  intro A H x y vx vy z Q hd e hx hy q
  cases x <;> try (cases e; done)
  cases y <;> try (cases e; done)
  rename_i i j
  cases e
  exact ⟨i, j, hx.str, hy.str, q _ _ (Same.refl H) rz_bl⟩
/-! dicts -/
/-- a key as data -/
def key1 : D → Option Key
  | PyData.int i => some (Sum.inl i)
  | PyData.str x => some (Sum.inr x)
  | _ => none
def keysOf : List D → Option (List Key)
  | [] => some []
  | d :: ds => match key1 d, keysOf ds with
    | some k, some ks => some (k :: ks)
    | _, _ => none
def isKey1 (d : D) : Bool := (key1 d).isSome
def isKeyT : D → Bool
  | .tuple ds => (keysOf ds).isSome
  | _ => false
theorem key1_spec {d : D} {k : Key} (h : key1 d = some k) : d = keyD k := by
  cases d <;> simp [key1] at h <;> subst h <;> rfl
theorem keysOf_spec : ∀ {ds : List D} {ks : List Key}, keysOf ds = some ks → ds = ks.map keyD
  | [], _, h => by cases h; rfl
  | d :: ds, ks, h => by
    unfold keysOf at h
    cases h1 : key1 d with
    | none => rw [h1] at h; simp at h
    | some k =>
      cases h2 : keysOf ds with
      | none => rw [h1, h2] at h; simp at h
      | some r =>
        rw [h1, h2] at h
        cases h
        rw [List.map_cons, ← key1_spec h1, ← keysOf_spec h2]
theorem rp_key {K : Frag} {A : AS} {H : Hp} {k : Key} {v : V} (h : Rp K A H (keyD k) v) : v = kV k := by
  cases k with
  | inl i => exact (show v = V.int i from h)
  | inr i => exact (show v = V.str i from h)
theorem rpl_keys {K : Frag} {A : AS} {H : Hp} : ∀ {ks : List Key} {vs : List V}, RpL K A H (ks.map keyD) vs → vs = ks.map kV
  | [], _, h => h.inv_nil
  | k :: ks, _, h => by
    obtain ⟨v, r, e, h1, h2⟩ := h.inv_cons
    rw [e, rp_key h1, rpl_keys h2]; rfl
theorem key_rp {K : Frag} {A : AS} {H : Hp} {k : Key} : Rp K A H (keyD k) (kV k) := by
  cases k with
  | inl i => exact rp_int (K := K) (A := A) (H := H)
  | inr i => exact rp_str (K := K) (A := A) (H := H)
theorem eqv_key (a b : Key) : PyData.eqv (keyD a) (keyD b) = decide (a = b) := by
  cases a <;> cases b <;> simp [keyD, PyData.eqv] <;> exact Bool.beq_eq_decide_eq _ _
theorem eqv_keys : ∀ a b : List Key, PyData.eqvAll (a.map keyD) (b.map keyD) = decide (a = b)
  | [], [] => by simp [PyData.eqvAll]
  | [], _ :: _ => by simp [PyData.eqvAll]
  | _ :: _, [] => by simp [PyData.eqvAll]
  | x :: a, y :: b => by
    simp only [List.map_cons, PyData.eqvAll, eqv_key, eqv_keys a b, List.cons.injEq]
    by_cases h1 : x = y <;> by_cases h2 : a = b <;> simp [h1, h2]
def dfind (kvs : List (D × D)) (k : D) : Option D := match kvs with
  | [] => none
  | (x, d) :: r => if PyData.eqv x k then some d else dfind r k
/-- what is told of an optional value -/
def RpO (K : Frag) (A : AS) (H : Hp) : Option D → Option V → Prop
  | some d, some v => Rp K A H d v
  | none, none => True
  | _, _ => False
theorem RpK.find {K : Frag} {A : AS} {H : Hp} {k : Key} : ∀ {kvs : List (D × D)} {ks : List (Key × V)}, RpK K A H kvs ks → RpO K A H (dfind kvs (keyD k)) (valV ks k)
  | [], _, h => by
    simp only [RpK] at h; subst h
    exact trivial
  | (x, d) :: r, _, h => by
    simp only [RpK] at h
    obtain ⟨k', v, r', rfl, rfl, h1, h2⟩ := h
    unfold dfind
    by_cases e : k' = k
    · rw [valV_pos (p := (k', v)) e, eqv_key, if_pos (decide_eq_true e)]
      exact h1
    · rw [valV_neg (p := (k', v)) e, eqv_key, if_neg (by simpa using e)]
      exact RpK.find h2
theorem RpT.find {K : Frag} {A : AS} {H : Hp} {k : List Key} : ∀ {kvs : List (D × D)} {ks : List (List Key × V)}, RpT K A H kvs ks → RpO K A H (dfind kvs (.tuple (k.map keyD))) (valV ks k)
  | [], _, h => by
    simp only [RpT] at h; subst h
    exact trivial
  | (x, d) :: r, _, h => by
    simp only [RpT] at h
    obtain ⟨k', v, r', rfl, rfl, h1, h2⟩ := h
    unfold dfind
    have e0 : PyData.eqv (.tuple (k'.map keyD)) (.tuple (k.map keyD)) = decide (k' = k) := by rw [PyData.eqv, eqv_keys]
    by_cases e : k' = k
    · rw [valV_pos (p := (k', v)) e, e0, if_pos (decide_eq_true e)]
      exact h1
    · rw [valV_neg (p := (k', v)) e, e0, if_neg (by simpa using e)]
      exact RpT.find h2
theorem RpT0.find {K : Frag} {A : AS} {H : Hp} {k : List Key} : ∀ {kvs : List (D × D)} {ks : List (List Key × V)}, RpT0 K A H kvs ks → RpO K A H (dfind kvs (.tuple (k.map keyD))) (valV ks k)
  | [], _, h => by simp only [RpT0] at h
  | (x, d) :: r, ks, h => by
    simp only [RpT0] at h
    obtain ⟨rfl, h⟩ := h
    unfold dfind
    rw [show PyData.eqv PyData.none (.tuple (k.map keyD)) = false from by simp only [PyData.eqv], if_neg Bool.false_ne_true]
    exact RpT.find h
/-- what the dict at a holds at the key y (a tuple: tracked or written) -/
def DGetS (K : Frag) (H : Hp) (a : Addr) (y : V) (r : Option V) : Prop :=
  (∃ kvs k, Rd H a (.dK kvs) ∧ y = kV k ∧ r = valV kvs k) ∨ ∃ kvs k b, Rd H a (.dT kvs) ∧ y = .ref b ∧ SqT K H b (k.map kV) ∧ r = valV kvs k
section
variable {X : Cx} {pins : List (Addr × Obj)} {σ : L2.St} {H : Hp} {s : Shared} {a : Addr} {y v : V} {u r : Value} {o : Option V} {A : Around} {E : Value → Shared → Prop}
theorem key_ofS {ks : List Key} {b : Addr} (I : Inv X pins σ H s) (e : SqT X.K H b (ks.map kV)) : (tupleKind (mixKind X.prog X.w)).is s.heap ks b := by
  obtain ⟨its, r, ⟨ob, h1, h2, n, h3⟩, _⟩ := I.tuple e
  exact ⟨ob, its.toArray, n, h1, h2, h3, by simpa using items_are r⟩
theorem dS_getItem {Q : Value → Shared → Prop} (hu : A.units + 1 < cLine) (I : Inv X pins σ H s) (g : DGetS X.K H a y (some v)) (ry : RelV y u) (h : ∀ w' s', Inv X pins σ H s' → RelV v w' → Q w' s') :
    wpAny (model X.prog X.w) A (getItem (.ref a) u) Q E s := by
  rcases g with ⟨kvs, k, e, ey, l⟩ | ⟨kvs, k, b, e, ey, eb, l⟩
  · exact d_getItem hu I (.inl ⟨kvs, k, e, ey, l⟩) ry h
  · subst ey
    cases (show u = Value.ref b from ry)
    obtain ⟨z, hd, xs, rel, dd⟩ := dt_rd I.hok e
    obtain ⟨w', hw, rw'⟩ := RelO.some_of (v := v) (o := (atKey xs k).map (·.2)) (by rw [l]; exact rel.val k)
    obtain ⟨p, hp, hp2⟩ := Option.map_eq_some_iff.mp hw
    refine wpAny_getItem_heap (tupleKind_room_in1 hu) (key_ofS I eb) dd hp ?_
    rw [hp2]
    exact h w' _ (I.tok _) rw'
theorem dS_in {Q : Value → Shared → Prop} (hu : A.units + 1 < cLine) (I : Inv X pins σ H s) (g : DGetS X.K H a y o) (ry : RelV y u) (h : ∀ s', Inv X pins σ H s' → Q (.bool o.isSome) s') :
    wpAny (model X.prog X.w) A (compareOp .In u (.ref a)) Q E s := by
  rcases g with ⟨kvs, k, e, ey, l⟩ | ⟨kvs, k, b, e, ey, eb, l⟩
  · exact d_in hu I (.inl ⟨kvs, k, e, ey, l⟩) ry h
  · subst ey
    cases (show u = Value.ref b from ry)
    obtain ⟨z, hd, xs, rel, dd⟩ := dt_rd I.hok e
    refine wpAny_in_heap (tupleKind_room_in1 hu) (key_ofS I eb) hd dd ?_
    have q := (rel.val k).isSome_eq
    rw [Option.isSome_map] at q
    rw [← q, ← l]
    exact h _ (I.tok _)
theorem dS_notIn {Q : Value → Shared → Prop} (hu : A.units + 1 < cLine) (I : Inv X pins σ H s) (g : DGetS X.K H a y o) (ry : RelV y u) (h : ∀ s', Inv X pins σ H s' → Q (.bool (!o.isSome)) s') :
    wpAny (model X.prog X.w) A (compareOp .NotIn u (.ref a)) Q E s := by
  rcases g with ⟨kvs, k, e, ey, l⟩ | ⟨kvs, k, b, e, ey, eb, l⟩
  · exact d_notIn hu I (.inl ⟨kvs, k, e, ey, l⟩) ry h
  · subst ey
    cases (show u = Value.ref b from ry)
    obtain ⟨z, hd, xs, rel, dd⟩ := dt_rd I.hok e
    refine wpAny_notIn_heap (tupleKind_room_in1 hu) (key_ofS I eb) hd dd ?_
    have q := (rel.val k).isSome_eq
    rw [Option.isSome_map] at q
    rw [← q, ← l]
    exact h _ (I.tok _)
end
def rDIn (K : Frag) (n : Bool) : R2 := fun x y H Q => ∃ a o, y = .ref a ∧ DGetS K H a x o ∧ Q (.bl (if n then !o.isSome else o.isSome)) H
section
variable {X : Cx}
theorem op_dIn (hu : X.A.units + 1 < cLine) : OpR X (compareOp .In) (rDIn X.K false) := by
  intro pins s σ H x y v u Q I rx ry h
  obtain ⟨a, o, rfl, g, q⟩ := h
  cases ry
  exact dS_in hu I g rx fun s' I' => ⟨.bl _, H, I', rfl, q⟩
theorem op_dNotIn (hu : X.A.units + 1 < cLine) : OpR X (compareOp .NotIn) (rDIn X.K true) := by
  intro pins s σ H x y v u Q I rx ry h
  obtain ⟨a, o, rfl, g, q⟩ := h
  cases ry
  exact dS_notIn hu I g rx fun s' I' => ⟨.bl _, H, I', rfl, q⟩
end
/-- the dict's kind: its keys are all tuples, or none is -/
def kindT : List (D × D) → Bool
  | (PyData.none, _) :: _ => true
  | _ => false
def inDctG (n : Bool) : G2
  | x, .dict kvs => if (isKey1 x && !kindT kvs) || (isKeyT x && kindT kvs) then some (.sh (.bool (if n then !(dfind kvs x).isSome else (dfind kvs x).isSome))) else none
  | _, _ => none
theorem RpO.isSome {K : Frag} {A : AS} {H : Hp} {o : Option D} {v : Option V} (h : RpO K A H o v) : o.isSome = v.isSome := by
  cases o <;> cases v <;> first | rfl | exact h.elim
/-- a look-up by data is one by values -/
theorem dget_of {K : Frag} {A : AS} {H : Hp} {kvs : List (D × D)} {x : D} {vx vy : V} (c : ((isKey1 x && !kindT kvs) || (isKeyT x && kindT kvs)) = true) (hx : Rq K A H x vx) (hy : Rq K A H (.dict kvs) vy) :
    ∃ a o, vy = .ref a ∧ DGetS K H a vx o ∧ RpO K A H (dfind kvs x) o := by
  obtain ⟨a, ev, hy2⟩ := hy.dct
  subst ev
  have kt : ∀ ks, RpT0 K A H kvs ks → kindT kvs = true := fun ks h => by
    cases kvs with
    | nil => simp only [RpT0] at h
    | cons p q =>
      obtain ⟨p1, p2⟩ := p
      simp only [RpT0] at h
      obtain ⟨rfl, _⟩ := h
      rfl
  have kk : ∀ ks, RpK K A H kvs ks → kindT kvs = false := fun ks h => by
    cases kvs with
    | nil => rfl
    | cons p q =>
      obtain ⟨p1, p2⟩ := p
      simp only [RpK] at h
      obtain ⟨k', _, _, _, rfl, _⟩ := h
      cases k' <;> rfl
  rw [Bool.or_eq_true, Bool.and_eq_true, Bool.and_eq_true] at c
  rcases c with ⟨c1, c2⟩ | ⟨c1, c2⟩
  · obtain ⟨k, hk⟩ := Option.isSome_iff_exists.mp c1
    have e := key1_spec hk
    subst e
    have ev : vx = kV k := by
      cases k with
      | inl i => exact hx.int
      | inr z => exact hx.str
    subst ev
    rcases hy2 with ⟨ks, r, h⟩ | ⟨ks, r, h⟩
    · exact ⟨a, _, rfl, .inl ⟨ks, k, r, rfl, rfl⟩, h.find⟩
    · rw [kt ks h] at c2; cases c2
  · cases x with
    | tuple ds =>
      obtain ⟨k, hk⟩ := Option.isSome_iff_exists.mp (show (keysOf ds).isSome = true from c1)
      have e := keysOf_spec hk
      subst e
      obtain ⟨b, vs, rfl, sq, rl⟩ := hx.tup
      have ev := rpl_keys rl
      subst ev
      rcases hy2 with ⟨ks, r, h⟩ | ⟨ks, r, h⟩
      · rw [kk ks h] at c2; cases c2
      · exact ⟨a, _, rfl, .inr ⟨ks, k, b, r, rfl, sq, rfl⟩, h.find⟩
    | _ => cases c1
theorem inDct_A {K : Frag} {n : Bool} : OpA K (rDIn K n) (inDctG n) := by
  intro A H x y vx vy z Q hd e hx hy q
  cases y with
  | dict kvs =>
    simp only [inDctG] at e
    by_cases c : ((isKey1 x && !kindT kvs) || (isKeyT x && kindT kvs)) = true
    · rw [if_pos c] at e
      cases e
      obtain ⟨a, o, ea, g, ro⟩ := dget_of c hx hy
      rw [ro.isSome] at q
      exact ⟨a, o, ea, g, q _ _ (Same.refl H) rz_bl⟩
    · rw [if_neg c] at e; cases e
  | _ => cases x <;> cases e
def inG (n : Bool) : G2 := orG (inSeqG n) (orG (inStrG n) (inDctG n))

/-! ### comparisons as values, as tests -/
def boolF (f : EF) : TF := fun env => (f env).bind fun r e => match rd e r with
  | some (.bool b) => .ok b e
  | _ => .no
theorem boolF_sound {G : Gd} {f : EF} {σ : L2.St} {H : Hp} {Q : Bool → Hp → Prop} (h : tT G (boolF f) σ H Q) : tE G f σ H fun x H' => ∃ k, x = .bl k ∧ Q k H' := by
  obtain ⟨A, env, rel, h⟩ := h
  refine ⟨A, env, rel, (Post.bind h).imp fun r e A' H' s h1 v hv => ?_⟩
  cases q : rd e r with
  | none => rw [q] at h1; exact h1.elim
  | some d =>
    rw [q] at h1
    cases d with
    | bool b => exact ⟨b, (hv.rq s.rel q).bl, h1 A' H' (.refl s.rel)⟩
    | _ => exact h1.elim
section
variable {X : Cx} {W : WX} {a b c : Expr} {fa fb fc : EF} {pos : Pos} {r r' : R2} {g g' : G2}
theorem t_cmp {op : CmpOp} (ho : OpR X (compareOp op) r) (hA : OpA X.K r g) (ha : PE X a (tE (gd X W) fa)) (hb : PE X b (tE (gd X W) fb)) (hm : behindInMarks op b = false) : PT X (.Compare a [op] [b] pos) (tT (gd X W) (boolF (opF g fa fb))) :=
  PT.imp (pt_cmpR ho ha hb hm) fun _ _ _ h => opF_sound (G := gd X W) hA (boolF_sound h)
/-- a op b op' c: c is asked only where the first holds -/
def chF (g g' : G2) (fa fb fc : EF) : EF := fun env => (fa env).bind fun r1 e1 => (fb e1).bind fun r2 e2 => match rd e2 r1, rd e2 r2 with
  | some x, some y => (match g x y with
    | some (.sh (.bool true)) => (fc e2).bind fun r3 e3 => (match rd e3 r2, rd e3 r3 with
      | some y', some z => out1 (g' y' z) e3
      | _, _ => .no)
    | some (.sh (.bool false)) => .ok (.sh (.bool false)) e2
    | _ => .no)
  | _, _ => .no
theorem chF_sound {G : Gd} (hA : OpA G.K r g) (hA' : OpA G.K r' g') {σ : L2.St} {H : Hp} {Q : VK} (h : tE G (chF g g' fa fb fc) σ H Q) : tChain r r' (tE G fa) (tE G fb) (tE G fc) σ H Q := by
  obtain ⟨A, env, rel, h⟩ := h
  refine ⟨A, env, rel, (Post.bind h).imp fun r1 e1 A1 H1 s1 h1 v1 hv1 => ?_⟩
  refine ⟨A1, e1, s1.rel, (Post.bind h1).imp fun r2 e2 A2 H2 s2 h2 v2 hv2 => ?_⟩
  have hv1' := hv1.step s1.rel s2
  cases q1 : rd e2 r1 with
  | none => rw [q1] at h2; exact h2.elim
  | some x =>
    cases q2 : rd e2 r2 with
    | none => rw [q1, q2] at h2; exact h2.elim
    | some y =>
      rw [q1, q2] at h2
      dsimp only at h2
      cases q3 : g x y with
      | none => rw [q3] at h2; exact h2.elim
      | some z =>
        rw [q3] at h2
        refine hA A2 H2 x y v1 v2 z _ s2.rel.dom q3 (hv1'.rq s2.rel q1) (hv2.rq s2.rel q2) fun v' H' sm hz => ?_
        cases z with
        | sh d =>
          cases d with
          | bool k =>
            have ev : v' = .bl k := hz
            refine ⟨k, ev, ?_⟩
            have s3 := Stp.same s2.rel sm
            cases k with
            | false => exact h2 A2 H' s3 (.bl false) (rp_bl (K := G.K) (A := A2) (H := H'))
            | true =>
              rw [if_pos rfl]
              dsimp only at h2
              have h3 : Post G A2 σ H' e2 ((fc e2).bind fun r3 e3 => (match rd e3 r2, rd e3 r3 with
                  | some y', some z => out1 (g' y' z) e3
                  | _, _ => .no)) (EQ G σ H Q) := by
                cases q5 : ((fc e2).bind fun r3 e3 => (match rd e3 r2, rd e3 r3 with
                  | some y', some z => out1 (g' y' z) e3
                  | _, _ => .no)) with
                | ok r e => rw [q5] at h2; exact fun A' H'' s => h2 A' H'' (s3.trans s)
                | ex x e => rw [q5] at h2; exact fun A' H'' c d s => h2 A' H'' c d (s3.trans s)
                | no => rw [q5] at h2; exact h2
              refine ⟨A2, e2, s3.rel, (Post.bind h3).imp fun r3 e3 A3 H3 s4 h4 v3 hv3 => ?_⟩
              have hv2' := (hv2.step s2.rel s3).step s3.rel s4
              cases q5 : rd e3 r2 with
              | none => rw [q5] at h4; exact h4.elim
              | some y' =>
                cases q6 : rd e3 r3 with
                | none => rw [q5, q6] at h4; exact h4.elim
                | some zz =>
                  rw [q5, q6] at h4
                  dsimp only at h4
                  unfold out1 at h4
                  cases q7 : g' y' zz with
                  | none => rw [q7] at h4; exact h4.elim
                  | some o =>
                    rw [q7] at h4
                    exact hA' A3 H3 y' zz v2 v3 o Q s4.rel.dom q7 (hv2'.rq s4.rel q5) (hv3.rq s4.rel q6) fun v' H'' sm' hz' => fin1 (((s1.trans s2).trans s3).trans s4) h4 sm' hz'
          | _ => exact h2.elim
        | _ => exact h2.elim
theorem e_chain {op op' : CmpOp} (ho : OpR X (compareOp op) r) (ho' : OpR X (compareOp op') r') (hA : OpA X.K r g) (hA' : OpA X.K r' g') (ha : PE X a (tE (gd X W) fa)) (hb : PE X b (tE (gd X W) fb)) (hc : PE X c (tE (gd X W) fc))
    (hm : lastMarks [op, op'] [b, c] = false := by with_unfolding_all rfl) : PE X (.Compare a [op, op'] [b, c] pos) (tE (gd X W) (chF g g' fa fb fc)) :=
  PE.imp (pe_chain ho ho' ha hb hc hm) fun _ _ _ h => chF_sound (G := gd X W) hA hA' h
theorem t_chain {op op' : CmpOp} (ho : OpR X (compareOp op) r) (ho' : OpR X (compareOp op') r') (hA : OpA X.K r g) (hA' : OpA X.K r' g') (ha : PE X a (tE (gd X W) fa)) (hb : PE X b (tE (gd X W) fb)) (hc : PE X c (tE (gd X W) fc))
    (hm : lastMarks [op, op'] [b, c] = false := by with_unfolding_all rfl) : PT X (.Compare a [op, op'] [b, c] pos) (tT (gd X W) (boolF (chF g g' fa fb fc))) :=
  PT.imp (pt_chain ho ho' ha hb hc hm) fun _ _ _ h => chF_sound (G := gd X W) hA hA' (boolF_sound h)
end
/-! by the operator: the rule and its adequacy -/
section
variable {X : Cx} {k : Nat}
structure CmpR (X : Cx) (op : CmpOp) (g : G2) : Prop where
  ex : ∃ r, OpR X (compareOp op) r ∧ OpA X.K r g
theorem c_eq (hr : Room k X.A) : CmpR X .Eq eqG := ⟨_, op_eqD (room64 hr), eq_A⟩
theorem c_ne (hr : Room k X.A) : CmpR X .NotEq neG := ⟨_, op_neD (room64 hr), ne_A⟩
theorem c_lt (hr : Room k X.A) : CmpR X .Lt ltG := ⟨_, op_lt.or op_lt_str, cmpI_A.or strLt_A⟩
theorem c_le (hr : Room k X.A) : CmpR X .LtE leG := ⟨_, op_le, cmpI_A⟩
theorem c_gt (hr : Room k X.A) : CmpR X .Gt gtG := ⟨_, op_gt, cmpI_A⟩
theorem c_ge (hr : Room k X.A) : CmpR X .GtE geG := ⟨_, op_ge, cmpI_A⟩
theorem c_is (hr : Room k X.A) : CmpR X .Is (isG false) := ⟨_, op_isN.or op_is_bl, is_A⟩
theorem c_isn (hr : Room k X.A) : CmpR X .IsNot (isG true) := ⟨_, op_notN.or op_isnot_bl, isn_A⟩
theorem c_in (hr : Room k X.A) : CmpR X .In (inG false) := ⟨_, (op_inS (room65 hr)).or (op_in_str.or (op_dIn (room1 hr))), inSeq_A.or (inStr_A.or inDct_A)⟩
theorem c_nin (hr : Room k X.A) : CmpR X .NotIn (inG true) := ⟨_, (op_notInS (room65 hr)).or (L2.op_notIn_str.or (op_dNotIn (room1 hr))), inSeq_A.or (notInStr_A.or inDct_A)⟩
variable {W : WX} {a b c : Expr} {fa fb fc : EF} {pos : Pos} {g g' : G2} {op op' : CmpOp}
theorem ec (h : CmpR X op g) (ha : PE X a (tE (gd X W) fa)) (hb : PE X b (tE (gd X W) fb)) (hm : behindInMarks op b = false := by first | exact nomark _ | rfl) : PE X (.Compare a [op] [b] pos) (tE (gd X W) (opF g fa fb)) :=
  let ⟨_, h1, h2⟩ := h.ex; e_cmp h1 h2 ha hb hm
theorem tc (h : CmpR X op g) (ha : PE X a (tE (gd X W) fa)) (hb : PE X b (tE (gd X W) fb)) (hm : behindInMarks op b = false := by first | exact nomark _ | rfl) : PT X (.Compare a [op] [b] pos) (tT (gd X W) (boolF (opF g fa fb))) :=
  let ⟨_, h1, h2⟩ := h.ex; t_cmp h1 h2 ha hb hm
theorem ech (h : CmpR X op g) (h' : CmpR X op' g') (ha : PE X a (tE (gd X W) fa)) (hb : PE X b (tE (gd X W) fb)) (hc : PE X c (tE (gd X W) fc)) (hm : lastMarks [op, op'] [b, c] = false := by with_unfolding_all rfl) :
    PE X (.Compare a [op, op'] [b, c] pos) (tE (gd X W) (chF g g' fa fb fc)) :=
  let ⟨_, h1, h2⟩ := h.ex; let ⟨_, h3, h4⟩ := h'.ex; e_chain h1 h3 h2 h4 ha hb hc hm
theorem tch (h : CmpR X op g) (h' : CmpR X op' g') (ha : PE X a (tE (gd X W) fa)) (hb : PE X b (tE (gd X W) fb)) (hc : PE X c (tE (gd X W) fc)) (hm : lastMarks [op, op'] [b, c] = false := by with_unfolding_all rfl) :
    PT X (.Compare a [op, op'] [b, c] pos) (tT (gd X W) (boolF (chF g g' fa fb fc))) :=
  let ⟨_, h1, h2⟩ := h.ex; let ⟨_, h3, h4⟩ := h'.ex; t_chain h1 h3 h2 h4 ha hb hc hm
end
end VL


set_option Elab.async false
set_option linter.all false
set_option maxRecDepth 100000
set_option maxHeartbeats 2000000
namespace VL
open PySem PySem.Spec PyProof.Rows L2
variable [TbP]

/-! ### truth, and/or/not, if-else -/
def truD : D → Option Bool
  | .none => some false
  | .bool b => some b
  | .int i => some (i != 0)
  | .str y => if y.length ≤ LIM then some ((y.length : Int) != 0) else none
  | .list ds => some (!ds.isEmpty)
  | .tuple ds => some (!ds.isEmpty)
  | .dict _ => none
theorem RpL.isEmpty {K : Frag} {A : AS} {H : Hp} {ds : List D} {xs : List V} (h : RpL K A H ds xs) : (!ds.isEmpty) = !xs.isEmpty := by
  cases ds with
  | nil => rw [h.inv_nil]; rfl
  | cons d ds => obtain ⟨v, r, rfl, _, _⟩ := h.inv_cons; rfl
theorem truD_ok {K : Frag} {A : AS} {H : Hp} {d : D} {v : V} {k : Bool} (h : Rq K A H d v) (e : truD d = some k) : TruV K v H k := by
  cases d with
  | none => cases e; rw [h.non]; exact rfl
  | bool b => cases e; rw [h.bl]; exact rfl
  | int i => cases e; rw [h.int]; exact rfl
  | str y =>
    dsimp only [truD] at e
    by_cases c : y.length ≤ LIM
    · rw [if_pos c] at e
      cases e
      rw [h.str]
      exact ⟨le_line c, rfl⟩
    · rw [if_neg c] at e; cases e
  | list ds =>
    cases e
    obtain ⟨a, xs, rfl, l, r⟩ := h.lst
    exact .inl ⟨xs, l, r.isEmpty⟩
  | tuple ds =>
    cases e
    obtain ⟨a, xs, rfl, l, r⟩ := h.tup
    exact .inr (.inl ⟨xs, l, r.isEmpty⟩)
  | dict kvs => cases e
def truR (r : Rv) (e : En) : Rs Bool := match rd e r with
  | some d => (match truD d with
    | some b => .ok b e
    | none => .no)
  | none => .no
def truF (f : EF) : TF := fun env => (f env).bind truR
theorem eq_later {G : Gd} {A A1 A' : AS} {σ σ1 : L2.St} {H H1 H' : Hp} {env e1 e : En} {Q : VK} {r : Rv} (s : Stp G.K A σ H env A1 σ1 H1 e1) (h : EQ G σ H Q r e A' H') : EQ G σ H1 Q r e A' H' := fun v hv => h v (hv.weak fun a o _ z => by
  cases q : H a with
  | none => rfl
  | some u => exact absurd z (s.ext.al a (by rw [q]; simp)))
theorem Post.later {G : Gd} {A A1 : AS} {σ : L2.St} {H H1 : Hp} {env e1 : En} {Q : VK} {out : Rs Rv} (s : Stp G.K A σ H env A1 σ H1 e1) (h : Post G A1 σ H1 e1 out (EQ G σ H Q)) : Post G A1 σ H1 e1 out (EQ G σ H1 Q) :=
  h.imp fun _ _ _ _ _ q => eq_later s q
theorem truR_ok {G : Gd} {A1 : AS} {σ : L2.St} {H1 : Hp} {e1 : En} {F : AS} {α : Type} {r : Rv} {v : V} {k : Bool → En → Rs α} {P : α → En → AS → Hp → Prop} (rel : Rel G.K A1 σ H1 e1) (hv : RvOk G.K A1 σ H1 e1 F r v) (h : Post G A1 σ H1 e1 ((truR r e1).bind k) P) :
    ∃ b, TruV G.K v H1 b ∧ Post G A1 σ H1 e1 (k b e1) P := by
  unfold truR at h
  cases q : rd e1 r with
  | none => rw [q] at h; exact h.elim
  | some d =>
    rw [q] at h
    dsimp only at h
    cases q2 : truD d with
    | none => rw [q2] at h; exact h.elim
    | some b => rw [q2] at h; exact ⟨b, truD_ok (hv.rq rel q) q2, h⟩
theorem bind_ok {α : Type} {r : Rs α} : (r.bind fun b e => .ok b e) = r := by cases r <;> rfl
section
variable {X : Cx} {W : WX} {a b c : Expr} {rest : List Expr} {fa fb fc : EF} {ta tb tc : TF} {pos : Pos}
theorem t_tru (ha : PE X a (tE (gd X W) fa)) (he : ∀ whole, isTrue a X.env whole = (do let v ← whole; standAt a.pos; holding [v] (truthy v)) := by intro _; rfl) : PT X a (tT (gd X W) (truF fa)) :=
  PT.imp (pt_truth ha he) fun σ H Q h => by
    obtain ⟨A, env, rel, h⟩ := h
    refine ⟨A, env, rel, (Post.bind h).imp fun r e1 A1 H1 s1 h1 v hv => ?_⟩
    rw [← bind_ok (r := truR r e1)] at h1
    obtain ⟨b, t, h2⟩ := truR_ok s1.rel hv h1
    exact ⟨b, t, h2 A1 H1 (.refl s1.rel)⟩
def andT (f g : TF) : TF := fun env => (f env).bind fun b e => if b = true then g e else .ok false e
def orT (f g : TF) : TF := fun env => (f env).bind fun b e => if b = true then .ok true e else g e
def notT (f : TF) : TF := fun env => (f env).bind fun b e => .ok (!b) e
theorem w_and1 (ha : PT X a (tT (gd X W) ta)) : PW X (.BoolOp .And [a] pos) (tT (gd X W) ta) := pw_and1 ha
theorem w_or1 (ha : PT X a (tT (gd X W) ta)) : PW X (.BoolOp .Or [a] pos) (tT (gd X W) ta) := pw_or1 ha
theorem w_and (ha : PT X a (tT (gd X W) ta)) (hb : PW X (.BoolOp .And (b :: rest) pos) (tT (gd X W) tb)) : PW X (.BoolOp .And (a :: b :: rest) pos) (tT (gd X W) (andT ta tb)) :=
  PW.imp (pw_and ha hb) fun σ H Q h => by
    obtain ⟨A, env, rel, h⟩ := h
    refine ⟨A, env, rel, (Post.bind h).imp fun k e1 A1 H1 s1 h1 => ?_⟩
    cases k with
    | true => exact ⟨A1, e1, s1.rel, h1⟩
    | false => exact h1 A1 H1 (.refl s1.rel)
theorem w_or (ha : PT X a (tT (gd X W) ta)) (hb : PW X (.BoolOp .Or (b :: rest) pos) (tT (gd X W) tb)) : PW X (.BoolOp .Or (a :: b :: rest) pos) (tT (gd X W) (orT ta tb)) :=
  PW.imp (pw_or ha hb) fun σ H Q h => by
    obtain ⟨A, env, rel, h⟩ := h
    refine ⟨A, env, rel, (Post.bind h).imp fun k e1 A1 H1 s1 h1 => ?_⟩
    cases k with
    | false => exact ⟨A1, e1, s1.rel, h1⟩
    | true => exact h1 A1 H1 (.refl s1.rel)
theorem t_w (h : PW X a (tT (gd X W) ta)) : PT X a (tT (gd X W) ta) := h.pt
theorem t_not (ha : PT X a (tT (gd X W) ta)) : PT X (.UnaryOp .Not a pos) (tT (gd X W) (notT ta)) :=
  PT.imp (pt_not ha) fun σ H Q h => by
    obtain ⟨A, env, rel, h⟩ := h
    refine ⟨A, env, rel, (Post.bind h).imp fun k e1 A1 H1 s1 h1 => ?_⟩
    exact h1 A1 H1 (.refl s1.rel)
def ifE (t : TF) (f g : EF) : EF := fun env => (t env).bind fun k e => if k = true then f e else g e
theorem e_if (hc : PT X c (tT (gd X W) tc)) (ha : PE X a (tE (gd X W) fa)) (hb : PE X b (tE (gd X W) fb)) : PE X (.IfExp c a b pos) (tE (gd X W) (ifE tc fa fb)) :=
  PE.imp (pe_ifExp hc ha hb) fun σ H Q h => by
    obtain ⟨A, env, rel, h⟩ := h
    refine ⟨A, env, rel, (Post.bind h).imp fun k e1 A1 H1 s1 h1 => ?_⟩
    cases k with
    | true => exact ⟨A1, e1, s1.rel, h1.later s1⟩
    | false => exact ⟨A1, e1, s1.rel, h1.later s1⟩
def andE (f g : EF) : EF := fun env => (f env).bind fun r e => (truR r e).bind fun b e => if b = true then g e else .ok r e
def orE (f g : EF) : EF := fun env => (f env).bind fun r e => (truR r e).bind fun b e => if b = true then .ok r e else g e
def notE (f : EF) : EF := fun env => (f env).bind fun r e => (truR r e).bind fun b e => .ok (.sh (.bool (!b))) e
theorem e_one {op} (ha : PE X a (tE (gd X W) fa)) : PE X (.BoolOp op [a] pos) (tE (gd X W) fa) := pe_one ha
theorem e_and (ha : PE X a (tE (gd X W) fa)) (hb : PE X (.BoolOp .And (b :: rest) pos) (tE (gd X W) fb)) : PE X (.BoolOp .And (a :: b :: rest) pos) (tE (gd X W) (andE fa fb)) :=
  PE.imp (pe_andT ha hb) fun σ H Q h => by
    obtain ⟨A, env, rel, h⟩ := h
    refine ⟨A, env, rel, (Post.bind h).imp fun r e1 A1 H1 s1 h1 v hv => ?_⟩
    obtain ⟨k, t, h2⟩ := truR_ok s1.rel hv h1
    refine ⟨k, t, ?_⟩
    cases k with
    | true => exact ⟨A1, e1, s1.rel, h2.later s1⟩
    | false => exact h2 A1 H1 (.refl s1.rel) v hv
theorem e_or (ha : PE X a (tE (gd X W) fa)) (hb : PE X (.BoolOp .Or (b :: rest) pos) (tE (gd X W) fb)) : PE X (.BoolOp .Or (a :: b :: rest) pos) (tE (gd X W) (orE fa fb)) :=
  PE.imp (pe_orT ha hb) fun σ H Q h => by
    obtain ⟨A, env, rel, h⟩ := h
    refine ⟨A, env, rel, (Post.bind h).imp fun r e1 A1 H1 s1 h1 v hv => ?_⟩
    obtain ⟨k, t, h2⟩ := truR_ok s1.rel hv h1
    refine ⟨k, t, ?_⟩
    cases k with
    | false => exact ⟨A1, e1, s1.rel, h2.later s1⟩
    | true => exact h2 A1 H1 (.refl s1.rel) v hv
theorem e_not (ha : PE X a (tE (gd X W) fa)) : PE X (.UnaryOp .Not a pos) (tE (gd X W) (notE fa)) :=
  PE.imp (pe_notT ha) fun σ H Q h => by
    obtain ⟨A, env, rel, h⟩ := h
    refine ⟨A, env, rel, (Post.bind h).imp fun r e1 A1 H1 s1 h1 v hv => ?_⟩
    obtain ⟨k, t, h2⟩ := truR_ok s1.rel hv h1
    exact ⟨k, t, h2 A1 H1 (.refl s1.rel) (.bl (!k)) (rp_bl (K := X.K) (A := A1) (H := H1))⟩
end

/-! ### statements -/
inductive Rb where
  | nx (e : En) | bk (e : En) | ct (e : En) | rt (r : Rv) (e : En) | ex (x : Xc) (e : En) | no
abbrev SF := En → Rb
def Rs.st {α : Type} (r : Rs α) (k : α → En → Rb) : Rb := match r with
  | .ok a e => k a e
  | .ex x e => .ex x e
  | .no => .no
def SPost (G : Gd) (A : AS) (σ : L2.St) (H : Hp) (env : En) (out : Rb) (Z : Ends) : Prop := match out with
  | .nx e => ∀ A' σ' H', Stp G.K A σ H env A' σ' H' e → Z.nx σ' H'
  | .bk e => ∀ A' σ' H', Stp G.K A σ H env A' σ' H' e → Z.bk σ' H'
  | .ct e => ∀ A' σ' H', Stp G.K A σ H env A' σ' H' e → Z.ct σ' H'
  | .rt r e => ∀ A' σ' H' v, Stp G.K A σ H env A' σ' H' e → RvOk G.K A' σ' H' e (fun a => H a = none) r v → Z.rt v H'
  | .ex x e => ∀ A' σ' H' c d, Stp G.K A σ H env A' σ' H' e → XOk G A' H' x c d → G.W c d σ' H'
  | .no => False
def tS (G : Gd) (g : SF) : TS := fun Z σ H => ∃ A env, Rel G.K A σ H env ∧ SPost G A σ H env (g env) Z
section
variable {G : Gd} {A A1 : AS} {σ σ1 : L2.St} {H H1 : Hp} {env e1 : En} {Z Z' : Ends} {out : Rb}
theorem SPost.move (s : Stp G.K A σ H env A1 σ1 H1 e1) (h : SPost G A σ H env out Z) : SPost G A1 σ1 H1 e1 out Z := by
  cases out with
  | nx e => exact fun A' σ' H' t => h A' σ' H' (s.trans t)
  | bk e => exact fun A' σ' H' t => h A' σ' H' (s.trans t)
  | ct e => exact fun A' σ' H' t => h A' σ' H' (s.trans t)
  | rt r e => exact fun A' σ' H' v t hv => h A' σ' H' v (s.trans t) (hv.weak fun a o _ z => by
      cases q : H a with
      | none => rfl
      | some u => exact absurd z (s.ext.al a (by rw [q]; simp)))
  | ex x e => exact fun A' σ' H' c d t => h A' σ' H' c d (s.trans t)
  | no => exact h
theorem SPost.cut {α : Type} {o : Rs α} {k : α → En → Rb} {P1 : α → En → AS → Hp → Prop} (h : SPost G A σ H env (o.st k) Z)
    (i : ∀ a e A' H', Stp G.K A σ H env A' σ H' e → SPost G A σ H env (k a e) Z → P1 a e A' H') : Post G A σ H env o P1 := by
  cases o with
  | ok a e => exact fun A1 H1 s1 => i a e A1 H1 s1 h
  | ex x e => exact fun A' H' c d s => h A' σ H' c d s
  | no => exact h
theorem SPost.bind {α : Type} {o : Rs α} {k : α → En → Rb} (h : SPost G A σ H env (o.st k) Z) : Post G A σ H env o fun a e A' H' => SPost G A' σ H' e (k a e) Z :=
  h.cut fun _ _ _ _ s q => q.move s
/-- other ends -/
theorem SPost.ends (h : SPost G A σ H env out Z) (i : SPost G A σ H env out Z → SPost G A σ H env out Z') : SPost G A σ H env out Z' := i h
def passF : SF := .nx
def Rb.seq (r : Rb) (k : En → Rb) : Rb := match r with
  | .nx e => k e
  | r => r
def seqF (f g : SF) : SF := fun env => (f env).seq g
theorem seq_sound {f g : SF} (h : tS G (seqF f g) Z σ H) : tSeq (tS G f) (tS G g) Z σ H := by
  obtain ⟨A, env, rel, h⟩ := h
  refine ⟨A, env, rel, ?_⟩
  unfold seqF at h
  cases q : f env with
  | nx e =>
    rw [q] at h
    intro A' σ' H' s
    exact ⟨A', e, s.rel, SPost.move s h⟩
  | bk e => rw [q] at h; exact h
  | ct e => rw [q] at h; exact h
  | rt r e => rw [q] at h; exact h
  | ex x e => rw [q] at h; exact h
  | no => rw [q] at h; exact h
end
section
variable {X : Cx} {W : WX} {st : Stmt} {sts : List Stmt} {f g : SF} {pos : Pos}
theorem s_nil : PSs X [] (tS (gd X W) passF) := PSs.imp pss_nil fun Z σ H h => by
  obtain ⟨A, env, rel, h⟩ := h
  exact h A σ H (.refl rel)
theorem s_cons (h1 : PS X st (tS (gd X W) f)) (h2 : PSs X sts (tS (gd X W) g)) : PSs X (st :: sts) (tS (gd X W) (seqF f g)) := PSs.imp (pss_cons h1 h2) fun Z σ H h => seq_sound h
theorem s_one (h1 : PS X st (tS (gd X W) f)) : PSs X [st] (tS (gd X W) f) := pss_one h1
theorem s_pass : PS X (.Pass pos) (tS (gd X W) passF) := PS.imp ps_pass fun Z σ H h => by
  obtain ⟨A, env, rel, h⟩ := h
  exact h A σ H (.refl rel)
theorem s_doc {x j pos pos'} : PS X (.Expr (.Constant (.str x) j pos) pos') (tS (gd X W) passF) := PS.imp ps_doc fun Z σ H h => by
  obtain ⟨A, env, rel, h⟩ := h
  exact h A σ H (.refl rel)
def brkF : SF := .bk
def contF : SF := .ct
theorem s_brk : PS X (.Break pos) (tS (gd X W) brkF) := PS.imp ps_break fun Z σ H h => by
  obtain ⟨A, env, rel, h⟩ := h
  exact h A σ H (.refl rel)
theorem s_cont : PS X (.Continue pos) (tS (gd X W) contF) := PS.imp ps_continue fun Z σ H h => by
  obtain ⟨A, env, rel, h⟩ := h
  exact h A σ H (.refl rel)
variable {e c : Expr} {fe : EF} {tc : TF} {p q : List Stmt}
def retF (f : EF) : SF := fun env => (f env).st fun r e => .rt r e
theorem s_ret (he : PE X e (tE (gd X W) fe)) : PS X (.Return (some e) pos) (tS (gd X W) (retF fe)) := PS.imp (ps_ret he) fun Z σ H h => by
  obtain ⟨A, env, rel, h⟩ := h
  exact ⟨A, env, rel, SPost.cut h fun r e1 A1 H1 s1 h1 v hv => h1 A1 σ H1 v s1 hv⟩
theorem s_retN : PS X (.Return none pos) (tS (gd X W) (retF (cF .none))) := PS.imp ps_retN fun Z σ H h => by
  obtain ⟨A, env, rel, h⟩ := h
  exact h A σ H .non (.refl rel) (rp_non (K := X.K) (A := A) (H := H))
def exprF (f : EF) : SF := fun env => (f env).st fun _ e => .nx e
theorem s_expr (he : PE X e (tE (gd X W) fe)) (hs : swapsWith e none pos.line X.env = pure false := by rfl) : PS X (.Expr e pos) (tS (gd X W) (exprF fe)) := PS.imp (ps_expr he hs) fun Z σ H h => by
  obtain ⟨A, env, rel, h⟩ := h
  exact ⟨A, env, rel, SPost.cut h fun r e1 A1 H1 s1 h1 v hv => h1 A1 σ H1 s1⟩
def ifS (t : TF) (f g : SF) : SF := fun env => (t env).st fun b e => if b = true then f e else g e
theorem s_if (hc : PT X c (tT (gd X W) tc)) (ha : PSs X p (tS (gd X W) f)) (hb : PSs X q (tS (gd X W) g)) : PS X (.If c p q pos) (tS (gd X W) (ifS tc f g)) := PS.imp (ps_if hc ha hb) fun Z σ H h => by
  obtain ⟨A, env, rel, h⟩ := h
  refine ⟨A, env, rel, (SPost.bind h).imp fun b e1 A1 H1 s1 h1 => ?_⟩
  cases b with
  | true => exact ⟨A1, e1, s1.rel, h1⟩
  | false => exact ⟨A1, e1, s1.rel, h1⟩
end

/-! ### a name is set -/
def Sl.isIo : Sl → Bool
  | .io _ => true
  | .iz _ => true
  | _ => false
def putS (e : En) (i : Nat) (s : Sl) : Option En := match e[i]? with
  | some t => if t.isIo = true then none else some (e.set i s)
  | none => none
/-- what may be put into a slot: a slot and a value -/
def PutOk (K : Frag) (A : AS) (σ : L2.St) (H0 H : Hp) (env : En) (s : Sl) (v : V) : Prop :=
  (∃ d, s = .sh d ∧ Rp K A H d v) ∨ ∃ d a, s = .ow d ∧ v = .ref a ∧ ¬ A a ∧ ¬ Ow σ env a ∧ H0 a = none ∧ Ob K A H a d
section
variable {K : Frag} {A A1 : AS} {σ σ1 : L2.St} {H H1 : Hp} {env e1 e2 : En} {i : Nat} {s : Sl} {v : V}
theorem PutOk.rd (h : PutOk K A σ H H1 env s v) : s.rd ≠ none := by
  rcases h with ⟨d, rfl, _⟩ | ⟨d, a, rfl, _⟩ <;> simp [Sl.rd]
theorem PutOk.noIo (h : PutOk K A σ H H1 env s v) (d : D) : s ≠ .io d ∧ s ≠ .iz d := by
  rcases h with ⟨d, rfl, _⟩ | ⟨d, a, rfl, _⟩ <;> (constructor <;> (intro z; cases z))
theorem Stp.put (st : Stp K A σ H env A1 σ1 H1 e1) (h : PutOk K A1 σ1 H H1 e1 s v) (q : putS e1 i s = some e2) : Stp K A σ H env A1 (σ1.set i (some v)) H1 e2 := by
  unfold putS at q
  cases q0 : e1[i]? with
  | none => rw [q0] at q; cases q
  | some t =>
    rw [q0] at q
    dsimp only at q
    split at q
    · cases q
    rename_i hio
    cases q
    have lt : i < e1.length := (List.getElem?_eq_some_iff.mp q0).1
    have lt2 : i < σ1.length := by rw [st.rel.len]; exact lt
    -- who owns what afterwards
    have own : ∀ j x, Owi (σ1.set i (some v)) (e1.set i s) j x → (j ≠ i ∧ Owi σ1 e1 j x) ∨ (j = i ∧ v = .ref x ∧ ¬ A1 x ∧ ¬ Ow σ1 e1 x ∧ H x = none ∧ ∃ d, s = .ow d ∧ Ob K A1 H1 x d) := fun j x hj => by
      obtain ⟨⟨d, hd⟩, e⟩ := hj
      by_cases ji : j = i
      · subst ji
        refine .inr ⟨rfl, ?_⟩
        unfold isOwn at hd
        rw [List.getElem?_set_self lt] at hd
        rw [List.getElem?_set_self lt2] at e
        have e := Option.some.inj (Option.some.inj e)
        rcases h with ⟨d', rfl, _⟩ | ⟨d', a, rfl, ea, na, no, fr, ob⟩
        · rcases hd with hd | hd <;> cases hd
        · rw [ea] at e; cases e
          exact ⟨ea, na, no, fr, d', rfl, ob⟩
      · refine .inl ⟨ji, ⟨d, ?_⟩, ?_⟩
        · unfold isOwn at hd ⊢
          rw [List.getElem?_set_ne (Ne.symm ji)] at hd
          exact hd
        · rw [List.getElem?_set_ne (Ne.symm ji)] at e
          exact e
    refine ⟨st.ext, ⟨by simpa using st.rel.len, fun j d hj => ?_, fun j d hj => ?_, fun j k x hj hk => ?_, st.rel.dom, fun j d hj => ?_, st.rel.tb⟩, fun x ⟨j, hj⟩ => ?_, fun j d hj => ?_, fun j hj => rdAt_set h.rd (st.rdb j hj)⟩
    · by_cases ji : j = i
      · subst ji
        rw [List.getElem?_set_self lt] at hj
        rw [List.getElem?_set_self lt2]
        rcases h with ⟨d', rfl, r⟩ | ⟨d', a, rfl, _⟩
        · rcases hj with hj | hj <;> cases hj
          exact ⟨v, rfl, r⟩
        · rcases hj with hj | hj <;> cases hj
      · rw [List.getElem?_set_ne (Ne.symm ji)] at hj
        rw [List.getElem?_set_ne (Ne.symm ji)]
        exact st.rel.sh j d hj
    · by_cases ji : j = i
      · subst ji
        unfold isOwn at hj
        rw [List.getElem?_set_self lt] at hj
        rw [List.getElem?_set_self lt2]
        rcases h with ⟨d', rfl, r⟩ | ⟨d', a, rfl, ea, na, no, fr, ob⟩
        · rcases hj with hj | hj <;> cases hj
        · rcases hj with hj | hj <;> cases hj
          exact ⟨a, by rw [ea], na, ob⟩
      · unfold isOwn at hj
        rw [List.getElem?_set_ne (Ne.symm ji)] at hj
        rw [List.getElem?_set_ne (Ne.symm ji)]
        exact st.rel.ow j d hj
    · rcases own j x hj with ⟨n1, o1⟩ | ⟨rfl, z1⟩
      · rcases own k x hk with ⟨n2, o2⟩ | ⟨rfl, z2⟩
        · exact st.rel.ap j k x o1 o2
        · exact absurd ⟨j, o1⟩ z2.2.2.1
      · rcases own k x hk with ⟨n2, o2⟩ | ⟨rfl, z2⟩
        · exact absurd ⟨k, o2⟩ z1.2.2.1
        · rfl
    · by_cases ji : j = i
      · subst ji
        rw [List.getElem?_set_self lt] at hj
        exact absurd (Option.some.inj hj) (h.noIo d).2
      · rw [List.getElem?_set_ne (Ne.symm ji)] at hj
        rw [List.getElem?_set_ne (Ne.symm ji)]
        exact st.rel.fz j d hj
    · rcases own j x hj with ⟨n1, o1⟩ | ⟨rfl, z1⟩
      · exact st.sub x ⟨j, o1⟩
      · exact .inr z1.2.2.2.1
    · obtain ⟨q1, d1, q2⟩ := st.io j d hj
      have ji : j ≠ i := fun z => by
        subst z
        rw [q0] at q2
        rcases q2 with q2 | q2 <;> (cases q2; simp [Sl.isIo] at hio)
      rw [List.getElem?_set_ne (Ne.symm ji), List.getElem?_set_ne (Ne.symm ji)]
      exact ⟨q1, d1, q2⟩
end
/-- name i = r -/
def asgS (i : Nat) (r : Rv) (e : En) : Rb := match r with
  | .tm d => (match putS e i (.ow d) with
    | some e2 => .nx e2
    | none => .no)
  | r => (match frz e r with
    | some (d, e2) => (match putS e2 i (.sh d) with
      | some e3 => .nx e3
      | none => .no)
    | none => .no)
theorem asg_ok {G : Gd} {A A1 : AS} {σ σ1 : L2.St} {H H1 : Hp} {env e1 : En} {i : Nat} {r : Rv} {v : V} {Z : Ends} (st : Stp G.K A σ H env A1 σ1 H1 e1) (hv : RvOk G.K A1 σ1 H1 e1 (fun a => H a = none) r v)
    (h : SPost G A σ H env (asgS i r e1) Z) : Z.nx (σ1.set i (some v)) H1 := by
  have sh : ∀ (h : SPost G A σ H env (match frz e1 r with
    | some (d, e2) => (match putS e2 i (.sh d) with
      | some e3 => Rb.nx e3
      | none => .no)
    | none => .no) Z), Z.nx (σ1.set i (some v)) H1 := fun h => by
    cases q : frz e1 r with
    | none => rw [q] at h; exact h.elim
    | some p =>
      obtain ⟨d, e2⟩ := p
      rw [q] at h
      dsimp only at h
      obtain ⟨A2, s2, f2, rp, _⟩ := frz_ok st hv q
      cases q2 : putS e2 i (.sh d) with
      | none => rw [q2] at h; exact h.elim
      | some e3 =>
        rw [q2] at h
        exact h A2 _ H1 (s2.put (.inl ⟨d, rfl, rp⟩) q2)
  cases r with
  | tm d =>
    unfold asgS at h
    dsimp only at h
    cases q2 : putS e1 i (.ow d) with
    | none => rw [q2] at h; exact h.elim
    | some e3 =>
      rw [q2] at h
      obtain ⟨a, ea, na, no, f, ob⟩ := hv
      exact h A1 _ H1 (st.put (.inr ⟨d, a, rfl, ea, na, no, f, ob⟩) q2)
  | sh d => exact sh h
  | bo j => exact sh h
section
variable {X : Cx} {W : WX} {e : Expr} {fe : EF} {pos : Pos} {i : Nat} {x : Str} {pos' : Pos}
def setF (i : Nat) (f : EF) : SF := fun env => (f env).st fun r e => asgS i r e
theorem s_set (i : Nat) (hN : X.N.Nodup) (he : PE X e (tE (gd X W) fe)) (hi : X.N[i]? = some x := by rfl) (hx : Loc X.env.scope x := by first | exact Or.inl rfl | exact Or.inr rfl)
    (hs : swapsWith e (some (.Name x pos')) pos.line X.env = pure false := by rfl) (hf : X.fn x = true ∨ X.env.scope.names.lookup x = some .local := by first | exact .inl rfl | exact .inr rfl | assumption) :
    PS X (.Assign [.Name x pos'] e pos) (tS (gd X W) (setF i fe)) := PS.imp (ps_set hN hi hx he hs hf) fun Z σ H h => by
  obtain ⟨A, env, rel, h⟩ := h
  exact ⟨A, env, rel, SPost.cut h fun r e1 A1 H1 s1 h1 v hv => asg_ok s1 hv h1⟩
end
end VL


set_option Elab.async false
set_option linter.all false
set_option maxRecDepth 100000
set_option maxHeartbeats 2000000
namespace VL
open PySem PySem.Spec PyProof.Rows L2
variable [TbP]

/-! ### calls of built-ins -/
def RqAll (K : Frag) (A : AS) (H : Hp) : List D → List V → Prop
  | [], vs => vs = []
  | d :: ds, vs => ∃ v t, vs = v :: t ∧ Rq K A H d v ∧ RqAll K A H ds t
def rdAll (e : En) : List Rv → Option (List D)
  | [] => some []
  | r :: rs => match rd e r, rdAll e rs with
    | some d, some ds => some (d :: ds)
    | _, _ => none
theorem RvsOk.rq {K : Frag} {A : AS} {σ : L2.St} {H : Hp} {e : En} (rel : Rel K A σ H e) : ∀ {F : AS} {rs : List Rv} {vs : List V} {ds : List D}, RvsOk K A σ H e F rs vs → rdAll e rs = some ds → RqAll K A H ds vs
  | _, [], _, _, h, q => by cases q; exact h
  | _, r :: rs, _, _, h, q => by
    obtain ⟨v, t, rfl, h1, h2⟩ := h
    unfold rdAll at q
    cases q1 : rd e r with
    | none => rw [q1] at q; cases q
    | some d =>
      cases q2 : rdAll e rs with
      | none => rw [q1, q2] at q; cases q
      | some ds =>
        rw [q1, q2] at q
        cases q
        exact ⟨v, t, rfl, h1.rq rel q1, h2.rq rel q2⟩
abbrev GC := List D → Option Rv
abbrev RC := List V → Hp → VK → Prop
def CbA (K : Frag) (r : RC) (g : GC) : Prop := ∀ (A : AS) (H : Hp) (ds : List D) (vs : List V) (z : Rv) (Q : VK), (∀ a, A a → H a ≠ none) → g ds = some z → RqAll K A H ds vs →
  (∀ v' H', Same H H' → Rz K A H H' z v' → Q v' H') → r vs H Q
def orC (g g' : GC) : GC := fun ds => match g ds with
  | some z => some z
  | none => g' ds
theorem CbA.or {K : Frag} {r r' : RC} {g g' : GC} (h : CbA K r g) (h' : CbA K r' g') : CbA K (fun xs H Q => r xs H Q ∨ r' xs H Q) (orC g g') := by
  intro A H ds vs z Q hd e hx q
  unfold orC at e
  cases q1 : g ds with
  | some z' => rw [q1] at e; cases e; exact .inl (h A H ds vs z Q hd q1 hx q)
  | none => rw [q1] at e; exact .inr (h' A H ds vs z Q hd e hx q)
def cbF (g : GC) (fs : AF) : EF := fun env => (fs env).bind fun rs e => match rdAll e rs with
  | some ds => out1 (g ds) e
  | none => .no
theorem cbF_sound {G : Gd} {r : RC} {g : GC} {fs : AF} (ha : CbA G.K r g) {σ : L2.St} {H : Hp} {Q : VK} (h : tE G (cbF g fs) σ H Q) : tCB r (tA G fs) σ H Q := by
  obtain ⟨A, env, rel, h⟩ := h
  refine ⟨A, env, rel, Post.cut h fun rs e1 A1 H1 s1 h1 vs hvs => ?_⟩
  cases q1 : rdAll e1 rs with
  | none => rw [q1] at h1; exact h1.elim
  | some ds =>
    rw [q1] at h1
    dsimp only at h1
    unfold out1 at h1
    cases q3 : g ds with
    | none => rw [q3] at h1; exact h1.elim
    | some z =>
      rw [q3] at h1
      exact ha A1 H1 ds vs z Q s1.rel.dom q3 (hvs.rq s1.rel q1) fun v' H' sm hz => h1 A1 H' (s1.trans (Stp.same s1.rel sm)) v' (hz.rv s1)
section
variable {X : Cx} {W : WX} {x : Str} {p pos : Pos} {e : Expr} {es : List Expr} {fs : AF} {id T : String} {r : RC} {g : GC}
theorem e_cb (hc : CallR X (.builtin id) r) (hA : CbA X.K r g) (hv : bootBuiltins x = some (.builtin id)) (hg : Gl X x) (hm : X.mg x = none) (ha : PA X (e :: es) (tA (gd X W) fs)) (hn : x ≠ "__name__" := by decide) (hdb : (x == ("__debug__" : Str)) = false := by decide)
    (he : starEach (e :: es) X.env = (false, eval e X.env) :: starEach es X.env := by rfl) (hpl : (backTo pos (starEach es X.env)).any (·.1) = false := by rfl) : PE X (.Call (.Name x p) (e :: es) [] pos) (tE (gd X W) (cbF g fs)) :=
  PE.imp (pe_callB hc hg hm hv ha hn hdb he hpl) fun _ _ _ h => cbF_sound (G := gd X W) hA h
theorem e_cty (hc : CallR X (.type T) r) (hA : CbA X.K r g) (hv : bootBuiltins x = some (.type T)) (hg : Gl X x) (hm : X.mg x = none) (ha : PA X (e :: es) (tA (gd X W) fs)) (hn : x ≠ "__name__" := by decide) (hdb : (x == ("__debug__" : Str)) = false := by decide)
    (he : starEach (e :: es) X.env = (false, eval e X.env) :: starEach es X.env := by rfl) (hpl : (backTo pos (starEach es X.env)).any (·.1) = false := by rfl) : PE X (.Call (.Name x p) (e :: es) [] pos) (tE (gd X W) (cbF g fs)) :=
  PE.imp (pe_callTy hc hg hm hv ha hn hdb he hpl) fun _ _ _ h => cbF_sound (G := gd X W) hA h
end
theorem RqAll.one {K : Frag} {A : AS} {H : Hp} {d : D} {vs : List V} (h : RqAll K A H [d] vs) : ∃ v, vs = [v] ∧ Rq K A H d v := by
  obtain ⟨v, t, rfl, h1, h2⟩ := h
  have : t = [] := h2
  subst this
  exact ⟨v, rfl, h1⟩
theorem RqAll.two {K : Frag} {A : AS} {H : Hp} {d d' : D} {vs : List V} (h : RqAll K A H [d, d'] vs) : ∃ v v', vs = [v, v'] ∧ Rq K A H d v ∧ Rq K A H d' v' := by
  obtain ⟨v, t, rfl, h1, h2⟩ := h
  obtain ⟨v', rfl, h3⟩ := h2.one
  exact ⟨v, v', rfl, h1, h3⟩
/-- len -/
def lenD : D → Option Nat
  | .str y => if y.length ≤ LIM then some y.length else none
  | .list ds => some ds.length
  | .tuple ds => some ds.length
  | _ => none
def lenG : GC
  | [d] => (lenD d).map fun (n : Nat) => Rv.sh (.int (n : Int))
  | _ => none
theorem lenD_ok {K : Frag} {A : AS} {H : Hp} {d : D} {v : V} {n : Nat} (e : lenD d = some n) (h : Rq K A H d v) : LenV K v H n := by
  cases d with
  | str y =>
    dsimp only [lenD] at e
    by_cases c : y.length ≤ LIM
    · rw [if_pos c] at e
      cases e
      rw [h.str]
      exact ⟨le_line c, rfl⟩
    · rw [if_neg c] at e; cases e
  | list ds =>
    cases e
    obtain ⟨a, xs, rfl, l, r⟩ := h.lst
    exact .inl ⟨xs, l, r.length⟩
  | tuple ds =>
    cases e
    obtain ⟨a, xs, rfl, l, r⟩ := h.tup
    exact .inr ⟨xs, l, r.length⟩
  | _ => cases e
theorem len_A {K : Frag} : CbA K (fun xs H Q => ∃ x n, xs = [x] ∧ LenV K x H n ∧ Q (.int n) H) lenG := by
  intro A H ds vs z Q hd e hx q
  match ds, e with
  | [d], e =>
    obtain ⟨v, rfl, h⟩ := hx.one
    dsimp only [lenG] at e
    cases q1 : lenD d with
    | none => rw [q1] at e; cases e
    | some n =>
      rw [q1] at e
      cases e
      exact ⟨v, n, rfl, lenD_ok q1 h, q _ _ (Same.refl H) rz_int⟩
/-- int of an int or a bool -/
def intC : GC
  | [.int i] => some (.sh (.int i))
  | [.bool b] => some (.sh (.int (if b then 1 else 0)))
  | _ => none
theorem intC_A {K : Frag} : CbA K (fun xs H Q => (∃ i, xs = [.int i] ∧ Q (.int i) H) ∨ ∃ k, xs = [.bl k] ∧ Q (.int (if k then 1 else 0)) H) intC := by
  intro A H ds vs z Q hd e hx q
  match ds, e with
  | [.int i], e =>
    cases e
    obtain ⟨v, rfl, h⟩ := hx.one
    rw [h.int]
    exact .inl ⟨i, rfl, q _ _ (Same.refl H) rz_int⟩
  | [.bool b], e =>
    cases e
    obtain ⟨v, rfl, h⟩ := hx.one
    rw [h.bl]
    exact .inr ⟨b, rfl, q _ _ (Same.refl H) rz_int⟩
def ii2 (f : Int → Int → Int) : GC
  | [.int i, .int j] => some (.sh (.int (f i j)))
  | _ => none
theorem ii2_A {K : Frag} {f : Int → Int → Int} : CbA K (fun xs H Q => ∃ i j, xs = [.int i, .int j] ∧ Q (.int (f i j)) H) (ii2 f) := by
  intro A H ds vs z Q hd e hx q
  match ds, e with
  | [.int i, .int j], e =>
    cases e
    obtain ⟨v, v', rfl, h, h'⟩ := hx.two
    rw [h.int, h'.int]
    exact ⟨i, j, rfl, q _ _ (Same.refl H) rz_int⟩
def absC : GC
  | [.int i] => some (.sh (.int (if i < 0 then -i else i)))
  | _ => none
theorem abs_A {K : Frag} : CbA K (fun xs H Q => ∃ i, xs = [.int i] ∧ Q (.int (if i < 0 then -i else i)) H) absC := by
  intro A H ds vs z Q hd e hx q
  match ds, e with
  | [.int i], e =>
    cases e
    obtain ⟨v, rfl, h⟩ := hx.one
    rw [h.int]
    exact ⟨i, rfl, q _ _ (Same.refl H) rz_int⟩
def boolsD : List D → Option (List Bool)
  | [] => some []
  | .bool b :: r => (boolsD r).map (b :: ·)
  | _ => none
theorem boolsD_ok {K : Frag} {A : AS} {H : Hp} : ∀ {ds : List D} {bs : List Bool} {vs : List V}, boolsD ds = some bs → RpL K A H ds vs → vs = bs.map V.bl
  | [], bs, vs, e, h => by cases e; exact h.inv_nil
  | d :: r, bs, vs, e, h => by
    obtain ⟨v, t, rfl, h1, h2⟩ := h.inv_cons
    cases d with
    | bool b =>
      unfold boolsD at e
      cases q : boolsD r with
      | none => rw [q] at e; cases e
      | some bs' =>
        rw [q] at e
        cases e
        rw [boolsD_ok q h2]
        simp only [Rp] at h1
        rw [h1]
        rfl
    | _ => cases e
def intsD : List D → Option (List Int)
  | [] => some []
  | .int b :: r => (intsD r).map (b :: ·)
  | _ => none
theorem intsD_ok {K : Frag} {A : AS} {H : Hp} : ∀ {ds : List D} {bs : List Int} {vs : List V}, intsD ds = some bs → RpL K A H ds vs → vs = bs.map V.int
  | [], bs, vs, e, h => by cases e; exact h.inv_nil
  | d :: r, bs, vs, e, h => by
    obtain ⟨v, t, rfl, h1, h2⟩ := h.inv_cons
    cases d with
    | int b =>
      unfold intsD at e
      cases q : intsD r with
      | none => rw [q] at e; cases e
      | some bs' =>
        rw [q] at e
        cases e
        rw [intsD_ok q h2]
        simp only [Rp] at h1
        rw [h1]
        rfl
    | _ => cases e
def strsD : List D → Option (List Str)
  | [] => some []
  | .str b :: r => (strsD r).map (b :: ·)
  | _ => none
theorem strsD_ok {K : Frag} {A : AS} {H : Hp} : ∀ {ds : List D} {bs : List Str} {vs : List V}, strsD ds = some bs → RpL K A H ds vs → vs = bs.map V.str
  | [], bs, vs, e, h => by cases e; exact h.inv_nil
  | d :: r, bs, vs, e, h => by
    obtain ⟨v, t, rfl, h1, h2⟩ := h.inv_cons
    cases d with
    | str b =>
      unfold strsD at e
      cases q : strsD r with
      | none => rw [q] at e; cases e
      | some bs' =>
        rw [q] at e
        cases e
        rw [strsD_ok q h2]
        simp only [Rp] at h1
        rw [h1]
        rfl
    | _ => cases e
theorem boolsD_map (l : List Bool) : boolsD (l.map PyData.bool) = some l := by
  induction l with
  | nil => rfl
  | cons b r ih => simp [boolsD, ih]
theorem intsD_map (l : List Int) : intsD (l.map PyData.int) = some l := by
  induction l with
  | nil => rfl
  | cons b r ih => simp [intsD, ih]
theorem strsD_map (l : List Str) : strsD (l.map PyData.str) = some l := by
  induction l with
  | nil => rfl
  | cons b r ih => simp [strsD, ih]
def bbC (f : List Bool → Bool) : GC
  | [.list ds] => (boolsD ds).map fun bs => .sh (.bool (f bs))
  | _ => none
theorem bb_A {K : Frag} {f : List Bool → Bool} : CbA K (fun vs H Q => ∃ (a : Addr) (bs : List Bool), vs = [V.ref a] ∧ SqL K H a (bs.map V.bl) ∧ Q (.bl (f bs)) H) (bbC f) := by
  intro A H ds vs z Q hd e hx q
  match ds, e with
  | [.list l], e =>
    obtain ⟨v, rfl, h⟩ := hx.one
    dsimp only [bbC] at e
    cases q1 : boolsD l with
    | none => rw [q1] at e; cases e
    | some bs =>
      rw [q1] at e
      cases e
      obtain ⟨a, xs, rfl, sl, r⟩ := h.lst
      rw [boolsD_ok q1 r] at sl
      exact ⟨a, bs, rfl, sl, q _ _ (Same.refl H) rz_bl⟩
def allC : GC := bbC fun bs => bs.all id
def anyC : GC := bbC fun bs => bs.any id
def sumC : GC
  | [.list ds] => (intsD ds).map fun bs => .sh (.int bs.sum)
  | _ => none
theorem sum_A {K : Frag} : CbA K (rSum K) sumC := by
  intro A H ds vs z Q hd e hx q
  match ds, e with
  | [.list l], e =>
    obtain ⟨v, rfl, h⟩ := hx.one
    dsimp only [sumC] at e
    cases q1 : intsD l with
    | none => rw [q1] at e; cases e
    | some bs =>
      rw [q1] at e
      cases e
      obtain ⟨a, xs, rfl, sl, r⟩ := h.lst
      rw [intsD_ok q1 r] at sl
      exact ⟨a, bs, rfl, sl, q _ _ (Same.refl H) rz_int⟩
def sortI (l : List Int) : List Int := l.mergeSort (fun a b => decide (a ≤ b))
theorem sortI_spec {l l' : List Int} (p : l'.Perm l) (s : l'.Pairwise (· ≤ ·)) : l' = sortI l := by
  have h1 : (sortI l).Pairwise (· ≤ ·) := by
    have := List.pairwise_mergeSort (le := fun a b : Int => decide (a ≤ b)) (fun a b c h1 h2 => by simp at *; omega) (fun a b => by simp; omega) l
    exact this.imp fun h => by simpa using h
  have h2 : (sortI l).Perm l := List.mergeSort_perm l _
  exact List.Perm.eq_of_pairwise (le := (· ≤ ·)) (fun a b _ _ h1 h2 => Int.le_antisymm h1 h2) s h1 (p.trans h2.symm)
def sortedC : GC
  | [.list ds] => (intsD ds).map fun bs => .tm (.list ((sortI bs).map PyData.int))
  | _ => none
theorem rpl_ints {K : Frag} {A : AS} {H : Hp} : ∀ (l : List Int), RpL K A H (l.map PyData.int) (l.map V.int)
  | [] => .nil
  | _ :: r => .cons rp_int (rpl_ints r)
theorem rpl_strs {K : Frag} {A : AS} {H : Hp} : ∀ (l : List Str), RpL K A H (l.map PyData.str) (l.map V.str)
  | [] => .nil
  | _ :: r => .cons rp_str (rpl_strs r)
theorem sorted_A {K : Frag} : CbA K (rSortedI K) sortedC := by
  intro A H ds vs z Q hd e hx q
  match ds, e with
  | [.list l], e =>
    obtain ⟨v, rfl, h⟩ := hx.one
    dsimp only [sortedC] at e
    cases q1 : intsD l with
    | none => rw [q1] at e; cases e
    | some bs =>
      rw [q1] at e
      cases e
      obtain ⟨a, xs, rfl, sl, r⟩ := h.lst
      rw [intsD_ok q1 r] at sl
      refine ⟨a, bs, rfl, sl, fun ns' p pm pw n => q _ _ (same_upd n) ?_⟩
      rw [sortI_spec pm pw]
      exact rz_lst n (rpl_ints _)
/-- list(x), tuple(x) -/
def listC : GC
  | [.list ds] => some (.tm (.list ds))
  | [.tuple ds] => some (.tm (.list ds))
  | _ => none
theorem list_A {K : Frag} : CbA K (fun xs H Q => ∃ p ys, xs = [V.ref p] ∧ (SqL K H p ys ∨ SqT K H p ys) ∧ ∀ l, H l = none → Q (.ref l) (upd H l (.lst ys))) listC := by
  intro A H ds vs z Q hd e hx q
  match ds, e with
  | [.list l], e =>
    cases e
    obtain ⟨v, rfl, h⟩ := hx.one
    obtain ⟨a, xs, rfl, sl, r⟩ := h.lst
    exact ⟨a, xs, rfl, .inl sl, fun p n => q _ _ (same_upd n) (rz_lst n r)⟩
  | [.tuple l], e =>
    cases e
    obtain ⟨v, rfl, h⟩ := hx.one
    obtain ⟨a, xs, rfl, sl, r⟩ := h.tup
    exact ⟨a, xs, rfl, .inr sl, fun p n => q _ _ (same_upd n) (rz_lst n r)⟩
def tupleC : GC
  | [.list ds] => some (.sh (.tuple ds))
  | [.tuple ds] => some (.sh (.tuple ds))
  | _ => none
theorem tuple_A {K : Frag} : CbA K (fun xs H Q => ∃ p ys, xs = [V.ref p] ∧ ((SqL K H p ys ∧ ∀ l, H l = none → Q (.ref l) (upd H l (.tup ys))) ∨ (SqT K H p ys ∧ Q (.ref p) H))) tupleC := by
  intro A H ds vs z Q hd e hx q
  match ds, e with
  | [.list l], e =>
    cases e
    obtain ⟨v, rfl, h⟩ := hx.one
    obtain ⟨a, xs, rfl, sl, r⟩ := h.lst
    exact ⟨a, xs, rfl, .inl ⟨sl, fun p n => q _ _ (same_upd n) (rp_tup n r)⟩⟩
  | [.tuple l], e =>
    cases e
    obtain ⟨v, rfl, h⟩ := hx.one
    obtain ⟨a, xs, rfl, sl, r⟩ := h.tup
    refine ⟨a, xs, rfl, .inr ⟨sl, q _ _ (Same.refl H) ?_⟩⟩
    show Rp K A H (.tuple l) _
    simp only [Rp]
    exact ⟨a, xs, rfl, sl, r⟩
/-- str(x), x a str -/
def strC : GC
  | [.str x] => some (.sh (.str x))
  | _ => none
theorem strC_A {K : Frag} : CbA K (fun xs H Q => ∃ a, xs = [V.str a] ∧ Q (.str a) H) strC := by
  intro A H ds vs z Q hd e hx q
  match ds, e with
  | [.str i], e =>
    cases e
    obtain ⟨v, rfl, h⟩ := hx.one
    rw [h.str]
    exact ⟨i, rfl, q _ _ (Same.refl H) rz_str⟩
theorem boot_len' : bootBuiltins "len" = some (.builtin "len") := by decide +kernel
theorem boot_int' : bootBuiltins "int" = some (.type "int") := by decide +kernel
theorem boot_max' : bootBuiltins "max" = some (.builtin "max") := by decide +kernel
theorem boot_min' : bootBuiltins "min" = some (.builtin "min") := by decide +kernel
theorem boot_abs' : bootBuiltins "abs" = some (.builtin "abs") := by decide +kernel
theorem boot_all' : bootBuiltins "all" = some (.builtin "all") := by decide +kernel
theorem boot_any' : bootBuiltins "any" = some (.builtin "any") := by decide +kernel
theorem boot_sum' : bootBuiltins "sum" = some (.builtin "sum") := by decide +kernel
theorem boot_sorted' : bootBuiltins "sorted" = some (.builtin "sorted") := by decide +kernel
theorem boot_list' : bootBuiltins "list" = some (.type "list") := by decide +kernel
theorem boot_tuple' : bootBuiltins "tuple" = some (.type "tuple") := by decide +kernel
theorem boot_str' : bootBuiltins "str" = some (.type "str") := by decide +kernel
theorem boot_bool' : bootBuiltins "bool" = some (.type "bool") := by decide +kernel
theorem boot_dict' : bootBuiltins "dict" = some (.type "dict") := by decide +kernel
theorem boot_isinstance' : bootBuiltins "isinstance" = some (.builtin "isinstance") := by decide +kernel
def maxI (i j : Int) : Int := if j > i then j else i
def minI (i j : Int) : Int := if j < i then j else i
/-! by name: the rule and its adequacy, as one -/
structure BI (X : Cx) (x : Str) (g : GC) : Prop where
  ex : ∃ (f : Value) (r : RC), CallR X f r ∧ CbA X.K r g ∧ bootBuiltins x = some f ∧ ((∃ id, f = .builtin id) ∨ ∃ T, f = .type T)
  nn : x ≠ "__name__"
  nd : (x == ("__debug__" : Str)) = false
section
variable {X : Cx} {W : WX} {x : Str} {p pos : Pos} {e : Expr} {es : List Expr} {fs : AF} {g : GC}
theorem e_bi (b : BI X x g) (hm : X.mg x = none) (ha : PA X (e :: es) (tA (gd X W) fs)) (hg : Gl X x := by rfl)
    (he : starEach (e :: es) X.env = (false, eval e X.env) :: starEach es X.env := by rfl) (hpl : (backTo pos (starEach es X.env)).any (·.1) = false := by rfl) : PE X (.Call (.Name x p) (e :: es) [] pos) (tE (gd X W) (cbF g fs)) := by
  obtain ⟨⟨f, r, h1, h2, h3, h4⟩, nn, nd⟩ := b
  rcases h4 with ⟨id, rfl⟩ | ⟨T, rfl⟩
  · exact e_cb h1 h2 h3 hg hm ha nn nd he hpl
  · exact e_cty h1 h2 h3 hg hm ha nn nd he hpl
theorem b_len : BI X "len" lenG := ⟨⟨_, _, call_len, len_A, boot_len', .inl ⟨_, rfl⟩⟩, by decide, by decide⟩
theorem b_int : BI X "int" intC := ⟨⟨_, _, call_int1, intC_A, boot_int', .inr ⟨_, rfl⟩⟩, by decide, by decide⟩
theorem b_max (hc : X.calm = true) : BI X "max" (ii2 maxI) := ⟨⟨_, _, call_max2 hc, ii2_A, boot_max', .inl ⟨_, rfl⟩⟩, by decide, by decide⟩
theorem b_min (hc : X.calm = true) : BI X "min" (ii2 minI) := ⟨⟨_, _, call_min2 hc, ii2_A, boot_min', .inl ⟨_, rfl⟩⟩, by decide, by decide⟩
theorem b_abs : BI X "abs" absC := ⟨⟨_, _, call_abs, abs_A, boot_abs', .inl ⟨_, rfl⟩⟩, by decide, by decide⟩
theorem b_all (hc : X.calm = true) : BI X "all" allC := ⟨⟨_, _, cr_all hc, bb_A, boot_all', .inl ⟨_, rfl⟩⟩, by decide, by decide⟩
theorem b_any (hc : X.calm = true) : BI X "any" anyC := ⟨⟨_, _, cr_any hc, bb_A, boot_any', .inl ⟨_, rfl⟩⟩, by decide, by decide⟩
theorem b_sum (hc : X.calm = true) : BI X "sum" sumC := ⟨⟨_, _, cr_sum hc, sum_A, boot_sum', .inl ⟨_, rfl⟩⟩, by decide, by decide⟩
theorem b_sorted : BI X "sorted" sortedC := ⟨⟨_, _, cr_sortedI, sorted_A, boot_sorted', .inl ⟨_, rfl⟩⟩, by decide, by decide⟩
theorem b_list : BI X "list" listC := ⟨⟨_, _, call_list_of, list_A, boot_list', .inr ⟨_, rfl⟩⟩, by decide, by decide⟩
theorem b_tuple : BI X "tuple" tupleC := ⟨⟨_, _, call_tuple_of, tuple_A, boot_tuple', .inr ⟨_, rfl⟩⟩, by decide, by decide⟩
theorem b_str : BI X "str" strC := ⟨⟨_, _, SkE.call_str_str, strC_A, boot_str', .inr ⟨_, rfl⟩⟩, by decide, by decide⟩
end

/-! ### isinstance -/
def tyD : D → String
  | .none => "NoneType"
  | .bool _ => "bool"
  | .int _ => "int"
  | .str _ => "str"
  | .list _ => "list"
  | .tuple _ => "tuple"
  | .dict _ => "dict"
def isiTb (t T : String) : Bool := t == T || (t == "bool" && T == "int")
def tyNames : List String := ["NoneType", "bool", "int", "str", "list", "tuple", "dict"]
def clNames : List String := ["bool", "int", "str", "list", "tuple", "dict"]
theorem kitB_tab : (tyNames.all fun t => clNames.all fun T => kitB t T == some (isiTb t T)) = true := by decide +kernel
theorem tyD_mem (d : D) : tyD d ∈ tyNames := by cases d <;> simp [tyD, tyNames]
theorem kitB_ok {d : D} {T : String} (h : T ∈ clNames) : kitB (tyD d) T = some (isiTb (tyD d) T) := by
  have := List.all_eq_true.mp (List.all_eq_true.mp kitB_tab _ (tyD_mem d)) T h
  simpa using this
/-- what isinstance can tell: dicts with tuples as keys are left out -/
def isiOk : D → Bool
  | .dict kvs => !kindT kvs
  | _ => true
theorem sql_ty {K : Frag} {H : Hp} {a : Addr} {xs : List V} (h : SqL K H a xs) : TyX K H (.ref a) (.type "list") := by
  rcases h with (h | ⟨o, h⟩) | ⟨o, its, n, h, hc, _⟩
  · exact .base (.lst h)
  · exact .base (.frz h)
  · exact .kList h hc
theorem sqt_ty {K : Frag} {H : Hp} {a : Addr} {xs : List V} (h : SqT K H a xs) : TyX K H (.ref a) (.type "tuple") := by
  rcases h with (h | ⟨o, h⟩) | ⟨o, its, n, h, hc, _⟩
  · exact .base (.tup h)
  · exact .fTuple h
  · exact .kTuple h hc
theorem kk_kind {K : Frag} {A : AS} {H : Hp} {kvs : List (D × D)} {ks : List (List Key × V)} (h : RpT0 K A H kvs ks) : kindT kvs = true := by
  cases kvs with
  | nil => simp only [RpT0] at h
  | cons p q =>
    obtain ⟨p1, p2⟩ := p
    simp only [RpT0] at h
    obtain ⟨rfl, _⟩ := h
    rfl
theorem ty_ok {K : Frag} {A : AS} {H : Hp} {d : D} {v : V} (h : Rq K A H d v) (c : isiOk d = true) : TyX K H v (.type (tyD d)) := by
  cases d with
  | none => rw [h.non]; exact .base .non
  | bool b => rw [h.bl]; exact .base (.bl b)
  | int i => rw [h.int]; exact .base (.int i)
  | str x => rw [h.str]; exact .base (.str x)
  | list ds => obtain ⟨a, xs, rfl, l, r⟩ := h.lst; exact sql_ty l
  | tuple ds => obtain ⟨a, xs, rfl, l, r⟩ := h.tup; exact sqt_ty l
  | dict kvs =>
    obtain ⟨a, rfl, l⟩ := h.dct
    rcases l with ⟨ks, l, r⟩ | ⟨ks, l, r⟩
    · rcases l with l | ⟨o, l⟩
      · exact .base (.dK l)
      · exact .fDict l
    · have := kk_kind r
      simp only [isiOk, this] at c
      cases c
def isiG (T : String) : G1 := fun d => if isiOk d = true then some (.sh (.bool (isiTb (tyD d) T))) else none
def isiF (T : String) (f : EF) : EF := unF (isiG T) f
/-- isinstance(e, (T1, T2)) -/
def isi2G (T U : String) : G1 := fun d => if isiOk d = true then some (.sh (.bool (isiTb (tyD d) T || isiTb (tyD d) U))) else none
section
variable {X : Cx} {W : WX} {e : Expr} {f : EF} {p p2 p3 p4 pos : Pos} {x y : Str} {T U : String}
theorem e_isi (hi : X.mg "isinstance" = none) (hT : X.mg x = none) (hv : bootBuiltins x = some (.type T)) (hc : T ∈ clNames) (he : PE X e (tE (gd X W) f)) (hg : Gl X "isinstance" := by rfl) (hgT : Gl X x := by rfl) (hn : x ≠ "__name__" := by decide) (hdb : (x == ("__debug__" : Str)) = false := by decide)
    (hs : starEach [e, .Name x p2] X.env = (false, eval e X.env) :: starEach [.Name x p2] X.env := by rfl) (hs2 : starEach [.Name x p2] X.env = (false, eval (.Name x p2) X.env) :: starEach [] X.env := by rfl)
    (hpl : (backTo pos (starEach [.Name x p2] X.env)).any (·.1) = false := by rfl) : PE X (.Call (.Name "isinstance" p) [e, .Name x p2] [] pos) (tE (gd X W) (isiF T f)) :=
  PE.imp (pe_callB call_isi hg hi boot_isinstance' (pa_cons he (pa_cons (pe_bltn (v := .ty T) hgT hT hv rfl hn hdb) pa_nil hs2) hs) (by decide) (by decide) hs hpl) fun σ H Q h => by
    obtain ⟨A, env, rel, h⟩ := h
    refine ⟨A, env, rel, (Post.bind h).imp fun r1 e1 A1 H1 s1 h1 v hv => ?_⟩
    cases q1 : rd e1 r1 with
    | none => rw [q1] at h1; exact h1.elim
    | some d =>
      rw [q1] at h1
      dsimp only [isiG] at h1
      by_cases c : isiOk d = true
      · rw [if_pos c] at h1
        refine ⟨v, .ty T, .type (tyD d), .type T, isiTb (tyD d) T, rfl, .ty T, ty_ok (hv.rq s1.rel q1) c, kit_ty (kitB_ok hc), ?_⟩
        exact fin1 s1 h1 (Same.refl H1) rz_bl
      · rw [if_neg c] at h1; exact h1.elim
theorem e_isi2 {k : Nat} (hi : X.mg "isinstance" = none) (hT : X.mg x = none) (hU : X.mg y = none) (hv : bootBuiltins x = some (.type T)) (hw : bootBuiltins y = some (.type U)) (hc : T ∈ clNames) (hd : U ∈ clNames) (he : PE X e (tE (gd X W) f)) (hg : Gl X "isinstance" := by rfl)
    (hgT : Gl X x := by rfl) (hgU : Gl X y := by rfl) (hn : x ≠ "__name__" := by decide) (hdb : (x == ("__debug__" : Str)) = false := by decide) (hn2 : y ≠ "__name__" := by decide) (hdb2 : (y == ("__debug__" : Str)) = false := by decide)
    (hs : starEach [e, .Tuple [.Name x p2, .Name y p3] k p4] X.env = (false, eval e X.env) :: starEach [.Tuple [.Name x p2, .Name y p3] k p4] X.env := by rfl)
    (hs2 : starEach [.Tuple [.Name x p2, .Name y p3] k p4] X.env = (false, eval (.Tuple [.Name x p2, .Name y p3] k p4) X.env) :: starEach [] X.env := by rfl)
    (hs3 : starEach [.Name x p2, .Name y p3] X.env = (false, eval (.Name x p2) X.env) :: starEach [.Name y p3] X.env := by rfl) (hs4 : starEach [.Name y p3] X.env = (false, eval (.Name y p3) X.env) :: starEach [] X.env := by rfl)
    (hpl : (backTo pos (starEach [.Tuple [.Name x p2, .Name y p3] k p4] X.env)).any (·.1) = false := by rfl) : PE X (.Call (.Name "isinstance" p) [e, .Tuple [.Name x p2, .Name y p3] k p4] [] pos) (tE (gd X W) (unF (isi2G T U) f)) :=
  PE.imp (pe_callB call_isiT hg hi boot_isinstance' (pa_cons he (pa_cons (pe_tup (pa_cons (pe_bltn (v := .ty T) hgT hT hv rfl hn hdb) (pa_cons (pe_bltn (v := .ty U) hgU hU hw rfl hn2 hdb2) pa_nil hs4) hs3)) pa_nil hs2) hs) (by decide) (by decide) hs hpl) fun σ H Q h => by
    obtain ⟨A, env, rel, h⟩ := h
    refine ⟨A, env, rel, (Post.bind h).imp fun r1 e1 A1 H1 s1 h1 v hv => ⟨le_line (show 2 ≤ LIM by decide), fun q n => ?_⟩⟩
    cases q1 : rd e1 r1 with
    | none => rw [q1] at h1; exact h1.elim
    | some d =>
      rw [q1] at h1
      dsimp only [isi2G] at h1
      by_cases c : isiOk d = true
      · rw [if_pos c] at h1
        have sm : Same H1 (upd H1 q (.tup [.ty T, .ty U])) := same_upd n
        have st := Stp.same s1.rel sm
        have k1 := kitB_ok (d := d) hc
        have k2 := kitB_ok (d := d) hd
        refine ⟨v, q, [.ty T, .ty U], .type (tyD d), [.type T, .type U], isiTb (tyD d) T || isiTb (tyD d) U, rfl, upd_same, .cons (.ty T) (.cons (.ty U) .nil), ty_ok ((hv.step s1.rel st).rq st.rel q1) c, ?_, ?_⟩
        · refine kitAny_cons (kit_ty k1) (fun z => ?_) fun z => by rw [z]; rfl
          rw [z, Bool.false_or]
          exact kitAny_cons (kit_ty k2) (fun z => by rw [z]; exact kitAny_nil) fun z => z
        · exact fin1 s1 h1 sm rz_bl
      · rw [if_neg c] at h1; exact h1.elim
end
end VL


set_option Elab.async false
set_option linter.all false
set_option maxRecDepth 100000
set_option maxHeartbeats 2000000
namespace VL
open PySem PySem.Spec PyProof.Rows L2
variable [TbP]

/-! ### names of the module -/
def GlD (K : Frag) (mg : Str → Option Value) (x : Str) (d : D) : Prop := ∃ v u, mg x = some u ∧ RelV v u ∧ ∀ A H, Rp K A H d v
section
variable {X : Cx} {W : WX} {pos : Pos} {x : Str} {d : D}
theorem e_gl (h : GlD X.K X.mg x d) (hg : Gl X x := by rfl) (hd : (x == ("__debug__" : Str)) = false := by decide) : PE X (.Name x pos) (tE (gd X W) (cF d)) := by
  obtain ⟨v, u, hm, r, hr⟩ := h
  exact e_c (pe_glob hg hm r hd) hr
end

/-! ### subscripts -/
def ixSeqG : G2
  | .list ds, .int i => (atI ds i).map .sh
  | .tuple ds, .int i => (atI ds i).map .sh
  | .str z, .int i => if z.length ≤ LIM then (atI z.cps.toList i).map fun c => .sh (.str ⟨#[c]⟩) else none
  | _, _ => none
theorem RpL.atI {K : Frag} {A : AS} {H : Hp} {ds : List D} {vs : List V} {i : Int} {d : D} (h : RpL K A H ds vs) (e : L2.atI ds i = some d) : ∃ v, L2.atI vs i = some v ∧ Rp K A H d v := by
  unfold L2.atI at e ⊢
  rw [← h.length]
  cases q : ixN ds.length i with
  | none => rw [q] at e; cases e
  | some j =>
    rw [q] at e
    exact h.get (by simpa using e)
theorem ixSeq_A {K : Frag} : OpA K (rIx K) ixSeqG := by
  intro A H x y vx vy z Q hd e hx hy q
  match x, y, e with
  | .list ds, .int i, e =>
    dsimp only [ixSeqG] at e
    cases q1 : atI ds i with
    | none => rw [q1] at e; cases e
    | some d =>
      rw [q1] at e
      cases e
      obtain ⟨a, xs, rfl, sl, r⟩ := hx.lst
      obtain ⟨v, e2, rv⟩ := r.atI q1
      exact .inl ⟨a, xs, i, v, rfl, hy.int, sl, e2, q _ _ (Same.refl H) rv⟩
  | .tuple ds, .int i, e =>
    dsimp only [ixSeqG] at e
    cases q1 : atI ds i with
    | none => rw [q1] at e; cases e
    | some d =>
      rw [q1] at e
      cases e
      obtain ⟨a, xs, rfl, sl, r⟩ := hx.tup
      obtain ⟨v, e2, rv⟩ := r.atI q1
      exact .inr (.inl ⟨a, xs, i, v, rfl, hy.int, sl, e2, q _ _ (Same.refl H) rv⟩)
  | .str s, .int i, e =>
    dsimp only [ixSeqG] at e
    by_cases c : s.length ≤ LIM
    · rw [if_pos c] at e
      cases q1 : atI s.cps.toList i with
      | none => rw [q1] at e; cases e
      | some d =>
        rw [q1] at e
        cases e
        exact .inr (.inr ⟨s, i, d, hx.str, hy.int, le_line c, q1, q _ _ (Same.refl H) rz_str⟩)
    · rw [if_neg c] at e; cases e
/-- d[k] of a dict -/
def rIxDS (K : Frag) : R2 := fun x y H Q => ∃ a v, x = .ref a ∧ DGetS K H a y (some v) ∧ Q v H
theorem ix_dict {X : Cx} (hu : X.A.units + 1 < cLine) : IxR X (rIxDS X.K) := by
  intro value slice pins s σ H x y v u Q I rx ry h hs
  obtain ⟨p, w, rfl, g, q⟩ := h
  obtain rfl : v = Value.ref p := rx
  have ty : s.TypeIs (.ref p) "dict" := by
    rcases g with ⟨kvs, k, e, _⟩ | ⟨kvs, k, b, e, _⟩
    · rcases e with e | ⟨ob, e⟩
      · obtain ⟨_, _, vs, _, o, es, ep, h1, h2, _⟩ := (show ObjOk X.prog X.w H s.heap p (.dK kvs) from I.hok p _ e)
        exact ⟨o, h1, h2.1⟩
      · obtain ⟨_, _, _, vs, _, o, es, ep, h1, h2, _⟩ := (show ObjOk X.prog X.w H s.heap p (.frz ob (.dK kvs)) from I.hok p _ e)
        exact ⟨o, h1, h2.1⟩
    · obtain ⟨z, hd, xs, rel, dd⟩ := dt_rd I.hok e
      exact dd.typeIs
  exact tail_any ty slot_dict_getitem.lookup (dS_getItem hu I g ry fun w' s' I' r' => ⟨w, H, I', r', q⟩) hs
def ixDctG : G2
  | .dict kvs, x => if (isKey1 x && !kindT kvs) || (isKeyT x && kindT kvs) then (dfind kvs x).map .sh else none
  | _, _ => none
theorem ixDct_A {K : Frag} : OpA K (rIxDS K) ixDctG := by
  intro A H x y vx vy z Q hd e hx hy q
  cases x with
  | dict kvs =>
    simp only [ixDctG] at e
    by_cases c : ((isKey1 y && !kindT kvs) || (isKeyT y && kindT kvs)) = true
    · rw [if_pos c] at e
      obtain ⟨a, o, ea, g, ro⟩ := dget_of c hy hx
      cases q1 : dfind kvs y with
      | none => rw [q1] at e; cases e
      | some d =>
        rw [q1] at e ro
        cases e
        cases o with
        | none => exact ro.elim
        | some v => exact ⟨a, v, ea, g, q _ _ (Same.refl H) ro⟩
    · rw [if_neg c] at e; cases e
  | _ => cases y <;> cases e
def ixG : G2 := orG ixSeqG ixDctG
section
variable {X : Cx} {W : WX} {a b : Expr} {fa fb : EF} {pos : Pos} {k : Nat}
theorem e_ix (hr : Room k X.A) (ha : PE X a (tE (gd X W) fa)) (hb : PE X b (tE (gd X W) fb)) (hs : PlainIx b := by intro _ _; rfl) : PE X (.Subscript a b pos) (tE (gd X W) (opF ixG fa fb)) :=
  PE.imp (pe_ix (ix_seq.or (ix_dict (room1 hr))) ha hb hs) fun _ _ _ h => opF_sound (G := gd X W) (ixSeq_A.or ixDct_A) h
end

/-! ### slices -/
def cutX {α : Type} (xs : List α) (lo hi : Option Int) : List α := (xs.drop (HT.sIx xs.length 0 lo)).take (HT.sIx xs.length xs.length hi - HT.sIx xs.length 0 lo)
abbrev OF := En → Rs (Option Int)
def tO (G : Gd) (f : OF) : TO := fun σ H Q => ∃ A env, Rel G.K A σ H env ∧ Post G A σ H env (f env) fun o _ _ H' => Q o H'
def noneF : OF := fun env => .ok none env
def someF (f : EF) : OF := fun env => (f env).bind fun r e => match rd e r with
  | some (.int i) => .ok (some i) e
  | _ => .no
theorem PO.imp {X : Cx} {e : Option Expr} {t t' : TO} (h : PO X e t) (i : ∀ σ H Q, t' σ H Q → t σ H Q) : PO X e t' := ⟨fun pins s σ H Q I q => h.run pins s σ H Q I (i σ H Q q)⟩
def sliceG (d : D) (lo hi : Option Int) : Option Rv := match d with
  | .list ds => some (.tm (.list (cutX ds lo hi)))
  | .tuple ds => some (.sh (.tuple (cutX ds lo hi)))
  | .str z => if z.length ≤ LIM then some (.sh (.str (cutS z lo hi))) else none
  | _ => none
def slF (f : EF) (l h : OF) : EF := fun env => (f env).bind fun r e1 => (l e1).bind fun lo e2 => (h e2).bind fun hi e3 => match rd e3 r with
  | some d => out1 (sliceG d lo hi) e3
  | none => .no
theorem RpL.cut {K : Frag} {A : AS} {H : Hp} {ds : List D} {vs : List V} {lo hi : Option Int} (h : RpL K A H ds vs) : RpL K A H (cutX ds lo hi) (cutV vs lo hi) := by
  unfold cutX cutV
  rw [← h.length]
  exact (h.drop _).take _
section
variable {X : Cx} {W : WX} {e : Expr} {lo hi : Option Expr} {f : EF} {fl fh : OF} {pos p2 p1 p3 : Pos}
theorem o_none : PO X none (tO (gd X W) noneF) := PO.imp po_none fun σ H Q h => by
  obtain ⟨A, env, rel, h⟩ := h
  exact h A H (.refl rel)
theorem o_some (h : PE X e (tE (gd X W) f)) : PO X (some e) (tO (gd X W) (someF f)) := PO.imp (po_some h) fun σ H Q h => by
  obtain ⟨A, env, rel, h⟩ := h
  refine ⟨A, env, rel, (Post.bind h).imp fun r e1 A1 H1 s1 h1 v hv => ?_⟩
  cases q : rd e1 r with
  | none => rw [q] at h1; exact h1.elim
  | some d =>
    rw [q] at h1
    cases d with
    | int i => exact ⟨i, (hv.rq s1.rel q).int, h1 A1 H1 (.refl s1.rel)⟩
    | _ => exact h1.elim
theorem e_sl (he : PE X e (tE (gd X W) f)) (hl : PO X lo (tO (gd X W) fl)) (hu : PO X hi (tO (gd X W) fh)) : PE X (.Subscript e (.Slice lo hi none p2) pos) (tE (gd X W) (slF f fl fh)) :=
  PE.imp (pe_slice (sl_list.or (sl_tupA.or sl_str)) he hl hu) fun σ H Q h => by
    obtain ⟨A, env, rel, h⟩ := h
    refine ⟨A, env, rel, (Post.bind h).imp fun r e1 A1 H1 s1 h1 v hv => ?_⟩
    refine ⟨A1, e1, s1.rel, (Post.bind h1).imp fun lo e2 A2 H2 s2 h2 => ?_⟩
    refine ⟨A2, e2, s2.rel, (Post.bind h2).imp fun hi e3 A3 H3 s3 h3 => ?_⟩
    have hv3 := (hv.step s1.rel s2).step s2.rel s3
    cases q : rd e3 r with
    | none => rw [q] at h3; exact h3.elim
    | some d =>
      rw [q] at h3
      dsimp only at h3
      have rq := hv3.rq s3.rel q
      have st := (s1.trans s2).trans s3
      match d, h3, rq with
      | .list ds, h3, rq =>
        obtain ⟨a, xs, rfl, sl, r⟩ := rq.lst
        exact .inl ⟨a, xs, rfl, sl, fun p n => fin1 st h3 (same_upd n) (rz_lst n r.cut)⟩
      | .tuple ds, h3, rq =>
        obtain ⟨a, xs, rfl, sl, r⟩ := rq.tup
        refine .inr (.inl ⟨a, xs, rfl, sl, fun w => ?_, fun w p n => fin1 st h3 (same_upd n) (rp_tup n r.cut)⟩)
        refine fin1 st h3 (Same.refl H3) ?_
        have ec : cutX ds lo hi = ds := by
          unfold cutX
          rw [r.length, w.1, w.2]
          simp [← r.length]
        show Rp X.K A3 H3 (.tuple (cutX ds lo hi)) _
        rw [ec]
        simp only [Rp]
        exact ⟨a, xs, rfl, sl, r⟩
      | .str z, h3, rq =>
        dsimp only [sliceG] at h3
        by_cases c : z.length ≤ LIM
        · rw [if_pos c] at h3
          exact .inr (.inr ⟨z, rq.str, le_line c, fin1 st h3 (Same.refl H3) rz_str⟩)
        · rw [if_neg c] at h3; exact h3.elim
      | .none, h3, _ => exact h3.elim
      | .bool _, h3, _ => exact h3.elim
      | .int _, h3, _ => exact h3.elim
      | .dict _, h3, _ => exact h3.elim
/-- e[::-1], a list -/
def revG : G1
  | .list ds => some (.tm (.list ds.reverse))
  | _ => none
theorem e_rev {k : Nat} (he : PE X e (tE (gd X W) f)) : PE X (.Subscript e (.Slice none none (some (.UnaryOp .USub (.Constant (.int 1) k p1) p2)) p3) pos) (tE (gd X W) (unF revG f)) :=
  PE.imp (pe_revL he) fun σ H Q h => by
    obtain ⟨A, env, rel, h⟩ := h
    refine ⟨A, env, rel, (Post.bind h).imp fun r e1 A1 H1 s1 h1 v hv => ?_⟩
    cases q : rd e1 r with
    | none => rw [q] at h1; exact h1.elim
    | some d =>
      rw [q] at h1
      have rq := hv.rq s1.rel q
      match d, h1, rq with
      | .list ds, h1, rq =>
        obtain ⟨a, xs, rfl, sl, r⟩ := rq.lst
        exact ⟨a, xs, rfl, sl, fun p n => fin1 s1 h1 (same_upd n) (rz_lst n r.reverse)⟩
      | .none, h1, _ => exact h1.elim
      | .bool _, h1, _ => exact h1.elim
      | .int _, h1, _ => exact h1.elim
      | .str _, h1, _ => exact h1.elim
      | .tuple _, h1, _ => exact h1.elim
      | .dict _, h1, _ => exact h1.elim
end

/-! ### change in place -/
/-- what the slot i owns, and how it is put back -/
def mutS (e : En) (i : Nat) : Option D := match e[i]? with
  | some (.ow d) => some d
  | some (.io d) => some d
  | _ => none
def mutP (e : En) (i : Nat) (d : D) : En := match e[i]? with
  | some (.ow _) => e.set i (.ow d)
  | some (.io _) => e.set i (.io d)
  | _ => e
section
variable {K : Frag} {A A1 : AS} {σ σ1 : L2.St} {H H1 : Hp} {env e1 : En} {i : Nat} {d d' : D} {a : Addr} {o : HO}
theorem mutS_own (h : mutS e1 i = some d) : isOwn e1 i d := by
  unfold mutS at h
  cases q : e1[i]? with
  | none => rw [q] at h; cases h
  | some s =>
    rw [q] at h
    cases s with
    | ow d => cases h; exact .inl q
    | io d => cases h; exact .inr q
    | _ => cases h
theorem Stp.mut (st : Stp K A σ H env A1 σ1 H1 e1) (ho : mutS e1 i = some d) (ha : σ1[i]? = some (some (.ref a))) (hob : Ob K A1 (upd H1 a o) a d') : Stp K A σ H env A1 σ1 (upd H1 a o) (mutP e1 i d') := by
  have hown := mutS_own ho
  obtain ⟨b, eb, na, ob⟩ := st.rel.ow i d hown
  rw [ha] at eb; cases eb
  obtain ⟨o0, eo, nt⟩ := ob.some
  have kp : Kp A1 H1 (upd H1 a o) := fun x u e z => by
    have : x ≠ a := fun q => by
      subst q
      rw [eo] at e; cases e
      exact z.elim na fun z => nt z.x
    refine .inl ?_
    rw [upd_ne this]; exact e
  have lt : i < e1.length := by rcases hown with h | h <;> exact (List.getElem?_eq_some_iff.mp h).1
  -- the changed environment
  have hk : ∃ s', mutP e1 i d' = e1.set i s' ∧ ((e1[i]? = some (.ow d) ∧ s' = .ow d') ∨ (e1[i]? = some (.io d) ∧ s' = .io d')) := by
    unfold mutP
    rcases hown with h | h
    · rw [h]; exact ⟨_, rfl, .inl ⟨rfl, rfl⟩⟩
    · rw [h]; exact ⟨_, rfl, .inr ⟨rfl, rfl⟩⟩
  obtain ⟨s', e', hs⟩ := hk
  rw [e']
  have iso : ∀ j d2, isOwn (e1.set i s') j d2 → (j = i ∧ d2 = d') ∨ (j ≠ i ∧ isOwn e1 j d2) := fun j d2 h => by
    by_cases ji : j = i
    · subst ji
      unfold isOwn at h
      rw [List.getElem?_set_self lt] at h
      rcases hs with ⟨_, rfl⟩ | ⟨_, rfl⟩ <;> rcases h with h | h <;> (cases h <;> exact .inl ⟨rfl, rfl⟩)
    · refine .inr ⟨ji, ?_⟩
      unfold isOwn at h ⊢
      rw [List.getElem?_set_ne (Ne.symm ji)] at h
      exact h
  have owi : ∀ j x, Owi σ1 (e1.set i s') j x → Owi σ1 e1 j x := fun j x ⟨⟨d2, h⟩, e⟩ => by
    rcases iso j d2 h with ⟨rfl, rfl⟩ | ⟨_, h⟩
    · exact ⟨⟨d, hown⟩, e⟩
    · exact ⟨⟨d2, h⟩, e⟩
  refine ⟨⟨st.ext.fr, fun x u e n => ?_, st.ext.old, fun x h => ?_, fun t p hp => tab_upd eo nt p.1 p.2 (st.ext.tab t p hp)⟩, ⟨by simpa using st.rel.len, fun j d2 hj => ?_, fun j d2 hj => ?_, fun j k x hj hk => st.rel.ap j k x (owi j x hj) (owi k x hk), fun x h => ?_, fun j d2 hj => ?_, fun p hp => tab_upd eo nt p.1 p.2 (st.rel.tb p hp)⟩, fun x ⟨j, hj⟩ => st.sub x ⟨j, owi j x hj⟩, fun j d2 hj => ?_, fun j hj => rdAt_set (by rcases hs with ⟨_, rfl⟩ | ⟨_, rfl⟩ <;> simp [Sl.rd]) (st.rdb j hj)⟩
  · have ne : x ≠ a := fun q => by
      subst q
      rcases st.sub x ⟨i, ⟨d, hown⟩, ha⟩ with z | z
      · exact n z
      · rw [e] at z; cases z
    rw [upd_ne ne]
    exact st.ext.keep x u e n
  · by_cases q : x = a
    · subst q; rw [upd_same]; simp
    · rw [upd_ne q]; exact st.ext.al x h
  · have ji : j ≠ i := fun z => by
      subst z
      rw [List.getElem?_set_self lt] at hj
      rcases hs with ⟨_, rfl⟩ | ⟨_, rfl⟩ <;> rcases hj with hj | hj <;> cases hj
    rw [List.getElem?_set_ne (Ne.symm ji)] at hj
    obtain ⟨v, e, r⟩ := st.rel.sh j d2 hj
    exact ⟨v, e, r.mono (fun _ z => z) kp⟩
  · rcases iso j d2 hj with ⟨rfl, rfl⟩ | ⟨ji, h⟩
    · exact ⟨a, ha, na, hob⟩
    · obtain ⟨b, e, nb, ob2⟩ := st.rel.ow j d2 h
      have ne : b ≠ a := fun q => by
        subst q
        exact ji (st.rel.ap j i b ⟨⟨d2, h⟩, e⟩ ⟨⟨d, hown⟩, ha⟩)
      exact ⟨b, e, nb, ob2.mono (fun _ z => z) kp fun u z => by rw [upd_ne ne]; exact z⟩
  · by_cases q : x = a
    · subst q; rw [upd_same]; simp
    · rw [upd_ne q]; exact st.rel.dom x h
  · have ji : j ≠ i := fun z => by
      subst z
      rw [List.getElem?_set_self lt] at hj
      rcases hs with ⟨_, rfl⟩ | ⟨_, rfl⟩ <;> cases hj
    rw [List.getElem?_set_ne (Ne.symm ji)] at hj
    exact st.rel.fz j d2 hj
  · obtain ⟨q1, d1, q2⟩ := st.io j d2 hj
    refine ⟨q1, ?_⟩
    by_cases ji : j = i
    · subst ji
      rw [List.getElem?_set_self lt]
      rcases hs with ⟨h, rfl⟩ | ⟨h, rfl⟩
      · rw [h] at q2
        rcases q2 with q2 | q2 <;> cases q2
      · exact ⟨d', .inl rfl⟩
    · rw [List.getElem?_set_ne (Ne.symm ji)]
      exact ⟨d1, q2⟩
theorem Ob.tyV {K : Frag} {A : AS} {H : Hp} {a : Addr} {d : D} (h : Ob K A H a d) : L2.tyV K (tyD d) (.ref a) H := by
  cases d with
  | list ds =>
    obtain ⟨xs, e, _⟩ := h
    exact .inl ⟨rfl, xs, SqL.of e⟩
  | dict kvs =>
    rcases h with ⟨ks, e, _⟩ | ⟨ks, e, _⟩
    · exact .inr (.inr (.inl ⟨rfl, .inl ⟨ks, e⟩⟩))
    · exact .inr (.inr (.inl ⟨rfl, .inr ⟨ks, e⟩⟩))
  | _ => exact h.elim
end
abbrev GM := D → List D → Option (D × D)
/-- a method that changes: from what is owned and the arguments, its result and what is owned then -/
def MuA (K : Frag) (r : V → List V → Hp → VK → Prop) (g : GM) : Prop := ∀ (A : AS) (H : Hp) (a : Addr) (d : D) (ds : List D) (xs : List V) (res d' : D) (Q : VK), ¬ A a → Ob K A H a d → RpL K A H ds xs → g d ds = some (res, d') →
  (∀ (o : HO) (v : V), Ob K A (upd H a o) a d' → Rp K A (upd H a o) res v → Q v (upd H a o)) → r (.ref a) xs H Q
def muF (T : String) (g : GM) (f : EF) (fs : AF) : EF := fun env => (f env).bind fun r e1 => match r with
  | .bo i => (match mutS e1 i with
    | some d0 => if tyD d0 = T then (fs e1).bind fun rs e2 => (match frzAll e2 rs with
      | some (ds, e3) => (match mutS e3 i with
        | some d => (match g d ds with
          | some (res, d') => .ok (.sh res) (mutP e3 i d')
          | none => .no)
        | none => .no)
      | none => .no) else .no
    | none => .no)
  | _ => .no
theorem Kp.upd {A : AS} {H : Hp} {a : Addr} {o o0 : HO} (e : H a = some o0) (na : ¬ A a) (nt : ¬ IsT o0) : Kp A H (upd H a o) := fun x u ex z => by
  have : x ≠ a := fun q => by
    subst q
    rw [e] at ex; cases ex
    exact z.elim na nt
  refine .inl ?_
  rw [upd_ne this]; exact ex
theorem mu_core {G : Gd} {A1 : AS} {σ : L2.St} {H H1 : Hp} {e1 : En} {T : String} {g : GM} {fs : AF} {r : Rv} {v : V} {rr : V → List V → Hp → VK → Prop} {Q : VK} {P : Prop} {A : AS} {env : En} (hA : MuA G.K rr g) (s1 : Stp G.K A σ H env A1 σ H1 e1)
    (hv : RvOk G.K A1 σ H1 e1 (fun a => H a = none) r v)
    (h1 : Post G A1 σ H1 e1 (match r with
      | .bo i => (match mutS e1 i with
        | some d0 => if tyD d0 = T then (fs e1).bind fun rs e2 => (match frzAll e2 rs with
          | some (ds, e3) => (match mutS e3 i with
            | some d => (match g d ds with
              | some (res, d') => .ok (.sh res) (mutP e3 i d')
              | none => .no)
            | none => .no)
          | none => .no) else .no
        | none => .no)
      | _ => .no) (EQ G σ H Q)) (ht : ∀ (A1 : AS) (e1 : En), Rel G.K A1 σ H1 e1 → (∃ i, r = .bo i ∧ ∃ d0, mutS e1 i = some d0 ∧ tyD d0 = T ∧ L2.tyV G.K T v H1) →
        tA G fs σ H1 (fun xs H2 => rr v xs H2 Q) → P) : P := by
  cases r with
  | sh d => exact h1.elim
  | tm d => exact h1.elim
  | bo i =>
    dsimp only at h1
    obtain ⟨hs, _⟩ := hv
    cases q0 : mutS e1 i with
    | none => rw [q0] at h1; exact h1.elim
    | some d0 =>
      rw [q0] at h1
      dsimp only at h1
      by_cases c : tyD d0 = T
      · rw [if_pos c] at h1
        obtain ⟨a, ea, na, ob⟩ := s1.rel.ow i d0 (mutS_own q0)
        rw [hs] at ea; cases ea
        refine ht A1 e1 s1.rel ⟨i, rfl, d0, q0, c, c ▸ ob.tyV⟩ ⟨A1, e1, s1.rel, Post.cut h1 fun rs e2 A2 H2 s2 h2 vs hvs => ?_⟩
        cases q : frzAll e2 rs with
        | none => rw [q] at h2; exact h2.elim
        | some p =>
          obtain ⟨ds, e3⟩ := p
          rw [q] at h2
          dsimp only at h2
          obtain ⟨A3, s3, f3, rpl⟩ := frzAll_ok s2 (fun _ z => z) hvs q
          cases q2 : mutS e3 i with
          | none => rw [q2] at h2; exact h2.elim
          | some d =>
            rw [q2] at h2
            dsimp only at h2
            cases q3 : g d ds with
            | none => rw [q3] at h2; exact h2.elim
            | some p =>
              obtain ⟨res, d'⟩ := p
              rw [q3] at h2
              obtain ⟨b, eb, nb, ob3⟩ := s3.rel.ow i d (mutS_own q2)
              rw [hs] at eb; cases eb
              refine hA A3 H2 a d ds vs res d' Q nb ob3 rpl q3 fun o w ob' rp => ?_
              exact h2 A3 _ (s3.mut q2 hs ob') w rp
      · rw [if_neg c] at h1; exact h1.elim
section
variable {X : Cx} {W : WX} {o e : Expr} {es : List Expr} {f : EF} {fs : AF} {name : Str} {apos cpos : Pos} {T id : String} {r : V → List V → Hp → VK → Prop} {g : GM}
theorem e_mu (pa : PlainAttrs T) (slot : PySem.Slot T name id) (hty : typeOf (.builtin id) = pure (.type "method_descriptor")) (hm : MtR X id r) (hA : MuA X.K r g) (ho : PE X o (tE (gd X W) f)) (ha : PA X (e :: es) (tA (gd X W) fs))
    (hbase : attributeBase o name X.env (eval o X.env) = eval o X.env := by rfl)
    (hfew : ((backTo cpos (starEach (e :: es) X.env)).all (fun x => !x.1) && (backToKw cpos (keywordEach [] X.env)).all (fun x => x.1.isSome)
      && decide ((e :: es).length + ([] : List Keyword).length + (if ([] : List Keyword).isEmpty then 0 else 1) < 30)) = true := by rfl)
    (hline : (apos.endLine == cpos.line) = true := by rfl) (hs : starEach (e :: es) X.env = (false, eval e X.env) :: starEach es X.env := by rfl) (hplain : (backTo cpos (starEach es X.env)).any (·.1) = false := by rfl) :
    PE X (.Call (.Attribute o name apos) (e :: es) [] cpos) (tE (gd X W) (muF T g f fs)) :=
  PE.imp (pe_bm pa slot hty hm ho ha hbase hfew hline hs hplain) fun σ H Q h => by
    obtain ⟨A, env, rel, h⟩ := h
    refine ⟨A, env, rel, Post.imp (Post.bind h) fun r1 e1 A1 H1 s1 h1 v hv => ?_⟩
    exact mu_core (G := gd X W) hA s1 hv h1 fun A1 e1 rel1 ⟨i, _, d0, _, _, ty⟩ h => ⟨ty, h⟩
theorem e_mu0 (pa : PlainAttrs T) (slot : PySem.Slot T name id) (hty : typeOf (.builtin id) = pure (.type "method_descriptor")) (hm : MtR X id r) (hA : MuA X.K r g) (ho : PE X o (tE (gd X W) f))
    (hbase : attributeBase o name X.env (eval o X.env) = eval o X.env := by rfl) (hline : (apos.endLine == cpos.line) = true := by rfl) : PE X (.Call (.Attribute o name apos) [] [] cpos) (tE (gd X W) (muF T g f nilF)) :=
  PE.imp (pe_bm0 pa slot hty hm ho hbase hline) fun σ H Q h => by
    obtain ⟨A, env, rel, h⟩ := h
    refine ⟨A, env, rel, Post.imp (Post.bind h) fun r1 e1 A1 H1 s1 h1 v hv => ?_⟩
    refine mu_core (G := gd X W) hA s1 hv h1 fun A2 e2 rel1 ⟨i, _, d0, _, _, ty⟩ h => ⟨ty, ?_⟩
    obtain ⟨A3, e3, rel3, h⟩ := h
    exact h A3 H1 (.refl rel3) [] rfl
end
def appG : GM
  | .list ds, [d] => if ds.length < LIM then some (.none, .list (ds ++ [d])) else none
  | _, _ => none
theorem app_A {K : Frag} : MuA K rAppend appG := by
  intro A H a d ds xs res d' Q na ob rl e q
  match d, ds, e, ob with
  | .list l, [x], e, ob =>
    dsimp only [appG] at e
    by_cases c : l.length < LIM
    · rw [if_pos c] at e
      cases e
      obtain ⟨ys, ea, r⟩ := ob
      obtain ⟨v, t, rfl, h1, h2⟩ := rl.inv_cons
      rw [h2.inv_nil]
      have kp : Kp A H (upd H a (.lst (ys ++ [v]))) := Kp.upd ea na fun z => z
      exact ⟨a, ys, v, rfl, rfl, ea, by rw [← r.length, lim_eq]; exact c, q _ _ ⟨_, upd_same, (r.append (.cons h1 .nil)).mono (fun _ z => z) kp⟩ rp_non⟩
    · rw [if_neg c] at e; cases e
def popG : GM
  | .list ds, [] => (ds[ds.length - 1]?).map fun d => (d, .list ds.dropLast)
  | _, _ => none
theorem RpL.dropLast {K : Frag} {A : AS} {H : Hp} {ds : List D} {vs : List V} (h : RpL K A H ds vs) : RpL K A H ds.dropLast vs.dropLast := by
  rw [List.dropLast_eq_take, List.dropLast_eq_take, h.length]
  exact h.take _
theorem pop_A {K : Frag} : MuA K rPop popG := by
  intro A H a d ds xs res d' Q na ob rl e q
  match d, ds, e, ob with
  | .list l, [], e, ob =>
    dsimp only [popG] at e
    cases q1 : l[l.length - 1]? with
    | none => rw [q1] at e; cases e
    | some x =>
      rw [q1] at e
      cases e
      obtain ⟨ys, ea, r⟩ := ob
      have : xs = [] := rl.inv_nil
      subst this
      obtain ⟨v, ev, rv⟩ := r.get q1
      have kp : Kp A H (upd H a (.lst ys.dropLast)) := Kp.upd ea na fun z => z
      exact ⟨a, ys, v, rfl, rfl, ea, by rw [← r.length]; exact ev, q _ _ ⟨_, upd_same, r.dropLast.mono (fun _ z => z) kp⟩ (rv.mono (fun _ z => z) kp)⟩
def popAtG : GM
  | .list ds, [.int i] => if -(2 ^ 63) ≤ i ∧ i < 2 ^ 63 then (match seqIndex? i ds.length with
    | some k => (ds[k]?).map fun d => (d, .list (ds.eraseIdx k))
    | none => none) else none
  | _, _ => none
theorem RpL.eraseIdx {K : Frag} {A : AS} {H : Hp} : ∀ {ds : List D} {vs : List V} (k : Nat), RpL K A H ds vs → RpL K A H (ds.eraseIdx k) (vs.eraseIdx k)
  | [], _, _, h => by rw [h.inv_nil]; exact .nil
  | _ :: _, _, 0, h => by obtain ⟨v, r, rfl, _, t⟩ := h.inv_cons; exact t
  | _ :: _, _, k + 1, h => by obtain ⟨v, r, rfl, h1, t⟩ := h.inv_cons; exact .cons h1 (t.eraseIdx k)
theorem popAt_A {K : Frag} : MuA K rPopAt popAtG := by
  intro A H a d ds xs res d' Q na ob rl e q
  match d, ds, e, ob with
  | .list l, [.int i], e, ob =>
    dsimp only [popAtG] at e
    by_cases c : -(2 ^ 63) ≤ i ∧ i < 2 ^ 63
    · rw [if_pos c] at e
      cases q0 : seqIndex? i l.length with
      | none => rw [q0] at e; cases e
      | some k =>
        rw [q0] at e
        dsimp only at e
        cases q1 : l[k]? with
        | none => rw [q1] at e; cases e
        | some x =>
          rw [q1] at e
          cases e
          obtain ⟨ys, ea, r⟩ := ob
          obtain ⟨v, t, rfl, h1, h2⟩ := rl.inv_cons
          rw [h2.inv_nil]
          simp only [Rp] at h1
          subst h1
          obtain ⟨w, ev, rv⟩ := r.get q1
          have kp : Kp A H (upd H a (.lst (ys.eraseIdx k))) := Kp.upd ea na fun z => z
          exact ⟨a, ys, i, k, w, rfl, rfl, ea, c.1, c.2, by rw [← r.length]; exact q0, ev, q _ _ ⟨_, upd_same, (r.eraseIdx k).mono (fun _ z => z) kp⟩ (rv.mono (fun _ z => z) kp)⟩
    · rw [if_neg c] at e; cases e
section
variable {X : Cx} {W : WX} {o e : Expr} {f : EF} {fs : AF} {apos cpos : Pos}
theorem e_append (ho : PE X o (tE (gd X W) f)) (ha : PA X [e] (tA (gd X W) fs))
    (hbase : attributeBase o "append" X.env (eval o X.env) = eval o X.env := by rfl)
    (hfew : ((backTo cpos (starEach [e] X.env)).all (fun x => !x.1) && (backToKw cpos (keywordEach [] X.env)).all (fun x => x.1.isSome)
      && decide ([e].length + ([] : List Keyword).length + (if ([] : List Keyword).isEmpty then 0 else 1) < 30)) = true := by rfl)
    (hline : (apos.endLine == cpos.line) = true := by rfl) (hs : starEach [e] X.env = (false, eval e X.env) :: starEach [] X.env := by rfl) (hplain : (backTo cpos (starEach [] X.env)).any (·.1) = false := by rfl) :
    PE X (.Call (.Attribute o "append" apos) [e] [] cpos) (tE (gd X W) (muF "list" appG f fs)) := e_mu PySem.F.plainAttrs_list PySem.F.slot_list_append PySem.F.type_list_append mt_append app_A ho ha hbase hfew hline hs hplain
theorem e_popAt (ho : PE X o (tE (gd X W) f)) (ha : PA X [e] (tA (gd X W) fs))
    (hbase : attributeBase o "pop" X.env (eval o X.env) = eval o X.env := by rfl)
    (hfew : ((backTo cpos (starEach [e] X.env)).all (fun x => !x.1) && (backToKw cpos (keywordEach [] X.env)).all (fun x => x.1.isSome)
      && decide ([e].length + ([] : List Keyword).length + (if ([] : List Keyword).isEmpty then 0 else 1) < 30)) = true := by rfl)
    (hline : (apos.endLine == cpos.line) = true := by rfl) (hs : starEach [e] X.env = (false, eval e X.env) :: starEach [] X.env := by rfl) (hplain : (backTo cpos (starEach [] X.env)).any (·.1) = false := by rfl) :
    PE X (.Call (.Attribute o "pop" apos) [e] [] cpos) (tE (gd X W) (muF "list" popAtG f fs)) := e_mu PySem.F.plainAttrs_list PySem.F.slot_list_pop PySem.F.type_list_pop mt_popAt popAt_A ho ha hbase hfew hline hs hplain
theorem e_pop (ho : PE X o (tE (gd X W) f)) (hbase : attributeBase o "pop" X.env (eval o X.env) = eval o X.env := by rfl) (hline : (apos.endLine == cpos.line) = true := by rfl) :
    PE X (.Call (.Attribute o "pop" apos) [] [] cpos) (tE (gd X W) (muF "list" popG f nilF)) := e_mu0 PySem.F.plainAttrs_list PySem.F.slot_list_pop PySem.F.type_list_pop mt_pop pop_A ho hbase hline
end

/-! ### methods that only read -/
abbrev GR := D → List D → Option Rv
def RdA (K : Frag) (r : V → List V → Hp → VK → Prop) (g : GR) : Prop := ∀ (A : AS) (H : Hp) (d : D) (v : V) (ds : List D) (xs : List V) (z : Rv) (Q : VK), (∀ a, A a → H a ≠ none) → g d ds = some z → Rq K A H d v → RqAll K A H ds xs →
  (∀ v' H', Same H H' → Rz K A H H' z v' → Q v' H') → r v xs H Q
def rmF (T : String) (g : GR) (f : EF) (fs : AF) : EF := fun env => (f env).bind fun r e1 => match rd e1 r with
  | some d0 => if tyD d0 = T ∧ (T = "str" ∨ T = "list") then (fs e1).bind fun rs e2 => (match rd e2 r, rdAll e2 rs with
    | some d, some ds => out1 (g d ds) e2
    | _, _ => .no) else .no
  | none => .no
theorem Rq.tyV {K : Frag} {A : AS} {H : Hp} {d : D} {v : V} (h : Rq K A H d v) (c : tyD d = "str" ∨ tyD d = "list") : L2.tyV K (tyD d) v H := by
  cases d with
  | str x => rw [h.str]; rfl
  | list ds =>
    obtain ⟨a, xs, rfl, l, r⟩ := h.lst
    exact .inl ⟨rfl, xs, l⟩
  | none => rcases c with c | c <;> exact absurd c (by simp [tyD])
  | bool b => rcases c with c | c <;> exact absurd c (by simp [tyD])
  | int b => rcases c with c | c <;> exact absurd c (by simp [tyD])
  | tuple b => rcases c with c | c <;> exact absurd c (by simp [tyD])
  | dict b => rcases c with c | c <;> exact absurd c (by simp [tyD])
section
variable {X : Cx} {W : WX} {o e : Expr} {es : List Expr} {f : EF} {fs : AF} {name : Str} {apos cpos : Pos} {T id : String} {r : V → List V → Hp → VK → Prop} {g : GR}
theorem e_rm (pa : PlainAttrs T) (slot : PySem.Slot T name id) (hty : typeOf (.builtin id) = pure (.type "method_descriptor")) (hm : MtR X id r) (hA : RdA X.K r g) (ho : PE X o (tE (gd X W) f)) (ha : PA X (e :: es) (tA (gd X W) fs))
    (hbase : attributeBase o name X.env (eval o X.env) = eval o X.env := by rfl)
    (hfew : ((backTo cpos (starEach (e :: es) X.env)).all (fun x => !x.1) && (backToKw cpos (keywordEach [] X.env)).all (fun x => x.1.isSome)
      && decide ((e :: es).length + ([] : List Keyword).length + (if ([] : List Keyword).isEmpty then 0 else 1) < 30)) = true := by rfl)
    (hline : (apos.endLine == cpos.line) = true := by rfl) (hs : starEach (e :: es) X.env = (false, eval e X.env) :: starEach es X.env := by rfl) (hplain : (backTo cpos (starEach es X.env)).any (·.1) = false := by rfl) :
    PE X (.Call (.Attribute o name apos) (e :: es) [] cpos) (tE (gd X W) (rmF T g f fs)) :=
  PE.imp (pe_bm pa slot hty hm ho ha hbase hfew hline hs hplain) fun σ H Q h => by
    obtain ⟨A, env, rel, h⟩ := h
    refine ⟨A, env, rel, Post.imp (Post.bind h) fun r1 e1 A1 H1 s1 h1 v hv => ?_⟩
    cases q0 : rd e1 r1 with
    | none => rw [q0] at h1; exact h1.elim
    | some d0 =>
      rw [q0] at h1
      dsimp only at h1
      by_cases c : tyD d0 = T ∧ (T = "str" ∨ T = "list")
      · rw [if_pos c] at h1
        obtain ⟨rfl, c⟩ := c
        refine ⟨(hv.rq s1.rel q0).tyV c, A1, e1, s1.rel, Post.imp (Post.bind h1) fun rs e2 A2 H2 s2 h2 vs hvs => ?_⟩
        cases q1 : rd e2 r1 with
        | none => rw [q1] at h2; exact h2.elim
        | some d =>
          cases q2 : rdAll e2 rs with
          | none => rw [q1, q2] at h2; exact h2.elim
          | some ds =>
            rw [q1, q2] at h2
            dsimp only at h2
            unfold out1 at h2
            cases q3 : g d ds with
            | none => rw [q3] at h2; exact h2.elim
            | some z =>
              rw [q3] at h2
              exact hA A2 H2 d v ds vs z Q s2.rel.dom q3 ((hv.step s1.rel s2).rq s2.rel q1) (hvs.rq s2.rel q2) fun v' H' sm hz => fin1 (s1.trans s2) h2 sm hz
      · rw [if_neg c] at h1; exact h1.elim
end
def joinG : GR
  | .str a, [.list ds] => (match strsD ds with
    | some ys => if (ys.map (·.length)).sum + ys.length * a.length ≤ 16777216 then some (.sh (.str (Txt.join a ys))) else none
    | none => none)
  | _, _ => none
theorem join_A {K : Frag} : RdA K (fun x xs H Q => ∃ a p, ∃ ys : List Str, x = V.str a ∧ xs = [.ref p] ∧ (SqL K H p (ys.map V.str) ∨ SqT K H p (ys.map V.str)) ∧
    (ys.map (·.length)).sum + ys.length * a.length ≤ 16777216 ∧ Q (.str (Txt.join a ys)) H) joinG := by
  intro A H d v ds xs z Q hd e hx hxs q
  match d, ds, e, hx with
  | .str a, [.list l], e, hx =>
    dsimp only [joinG] at e
    cases q1 : strsD l with
    | none => rw [q1] at e; cases e
    | some ys =>
      rw [q1] at e
      dsimp only at e
      by_cases c : (ys.map (·.length)).sum + ys.length * a.length ≤ 16777216
      · rw [if_pos c] at e
        cases e
        obtain ⟨w, rfl, h⟩ := hxs.one
        obtain ⟨p, vs, rfl, sl, r⟩ := h.lst
        rw [strsD_ok q1 r] at sl
        exact ⟨a, p, ys, hx.str, rfl, .inl sl, c, q _ _ (Same.refl H) rz_str⟩
      · rw [if_neg c] at e; cases e
theorem e_join {X : Cx} {W : WX} {o e : Expr} {f : EF} {fs : AF} {apos cpos : Pos} (ho : PE X o (tE (gd X W) f)) (ha : PA X [e] (tA (gd X W) fs))
    (hbase : attributeBase o "join" X.env (eval o X.env) = eval o X.env := by rfl)
    (hfew : ((backTo cpos (starEach [e] X.env)).all (fun x => !x.1) && (backToKw cpos (keywordEach [] X.env)).all (fun x => x.1.isSome)
      && decide ([e].length + ([] : List Keyword).length + (if ([] : List Keyword).isEmpty then 0 else 1) < 30)) = true := by rfl)
    (hline : (apos.endLine == cpos.line) = true := by rfl) (hs : starEach [e] X.env = (false, eval e X.env) :: starEach [] X.env := by rfl) (hplain : (backTo cpos (starEach [] X.env)).any (·.1) = false := by rfl) :
    PE X (.Call (.Attribute o "join" apos) [e] [] cpos) (tE (gd X W) (rmF "str" joinG f fs)) := e_rm PySem.F.plainAttrs_str PySem.F.slot_str_join PySem.F.type_str_join mt_join join_A ho ha hbase hfew hline hs hplain
end VL


set_option Elab.async false
set_option linter.all false
set_option maxRecDepth 100000
set_option maxHeartbeats 2000000
namespace VL
open PySem PySem.Spec PyProof.Rows L2
variable [TbP]

/-! ### targets -/
abbrev GF := D → En → Option En
/-- what a target does with a value that is shared -/
def TgOk (G : Gd) (g : TG) (t : GF) (vs : List Nat) : Prop := ∀ (A A1 : AS) (σ σ1 : L2.St) (H H1 : Hp) (env e1 e2 : En) (d : D) (x : V) (P : L2.St → Hp → Prop), Stp G.K A σ H env A1 σ1 H1 e1 → Rp G.K A1 H1 d x → t d e1 = some e2 →
  (∀ σ2, Stp G.K A σ H env A1 σ2 H1 e2 → σ2.length = σ1.length → (∀ j, j ∉ vs → σ2[j]? = σ1[j]?) → P σ2 H1) → g x σ1 H1 P
def TgsOk (G : Gd) (g : TGs) (t : List D → En → Option En) (vs : List Nat) : Prop := ∀ (A A1 : AS) (σ σ1 : L2.St) (H H1 : Hp) (env e1 e2 : En) (d : List D) (x : List V) (P : L2.St → Hp → Prop), Stp G.K A σ H env A1 σ1 H1 e1 → RpL G.K A1 H1 d x → t d e1 = some e2 →
  (∀ σ2, Stp G.K A σ H env A1 σ2 H1 e2 → σ2.length = σ1.length → (∀ j, j ∉ vs → σ2[j]? = σ1[j]?) → P σ2 H1) → g x σ1 H1 P
def tgN (i : Nat) : GF := fun d e => putS e i (.sh d)
def tgsNil : List D → En → Option En
  | [], e => some e
  | _, _ => none
def tgsCons (t : GF) (u : List D → En → Option En) : List D → En → Option En
  | d :: ds, e => (t d e).bind (u ds)
  | _, _ => none
def tgT (n : Nat) (u : List D → En → Option En) : GF
  | .tuple ds, e => if ds.length = n then u ds e else none
  | _, _ => none
section
variable {G : Gd}
theorem tg_name {i : Nat} : TgOk G (gName i) (tgN i) [i] := by
  intro A A1 σ σ1 H H1 env e1 e2 d x P s r q h
  refine h _ (s.put (.inl ⟨d, rfl, r⟩) q) (by simp) fun j hj => ?_
  rw [List.getElem?_set_ne]
  intro z; subst z; exact hj (by simp)
theorem tgs_nil : TgsOk G gNil tgsNil [] := by
  intro A A1 σ σ1 H H1 env e1 e2 d x P s r q h
  cases d with
  | nil =>
    cases q
    exact ⟨r.inv_nil, h _ s rfl fun _ _ => rfl⟩
  | cons _ _ => cases q
theorem tgs_cons {g : TG} {t : GF} {gs : TGs} {u : List D → En → Option En} {vs ws : List Nat} (h1 : TgOk G g t vs) (h2 : TgsOk G gs u ws) : TgsOk G (gCons g gs) (tgsCons t u) (vs ++ ws) := by
  intro A A1 σ σ1 H H1 env e1 e2 d x P s r q h
  cases d with
  | nil => cases q
  | cons d ds =>
    obtain ⟨v, t', rfl, r1, r2⟩ := r.inv_cons
    simp only [tgsCons] at q
    cases q1 : t d e1 with
    | none => rw [q1] at q; cases q
    | some e3 =>
      rw [q1] at q
      refine ⟨v, t', rfl, h1 A A1 σ σ1 H H1 env e1 e3 d v _ s r1 q1 fun σ2 s2 l2 o2 => ?_⟩
      refine h2 A A1 σ σ2 H H1 env e3 e2 ds t' P s2 r2 q fun σ3 s3 l3 o3 => h σ3 s3 (l3.trans l2) fun j hj => ?_
      rw [List.mem_append, not_or] at hj
      exact (o3 j hj.2).trans (o2 j hj.1)
theorem tg_tup {n : Nat} {gs : TGs} {u : List D → En → Option En} {vs : List Nat} (h : TgsOk G gs u vs) : TgOk G (gTup G.K n gs) (tgT n u) vs := by
  intro A A1 σ σ1 H H1 env e1 e2 d x P s r q k
  cases d with
  | tuple ds =>
    simp only [tgT] at q
    by_cases c : ds.length = n
    · rw [if_pos c] at q
      simp only [Rp] at r
      obtain ⟨a, xs, rfl, sq, rl⟩ := r
      exact ⟨a, xs, rfl, sq, by rw [← rl.length]; exact c, h A A1 σ σ1 H H1 env e1 e2 ds xs P s rl q k⟩
    · rw [if_neg c] at q; cases q
  | _ => cases q
end
/-- target = value, the value shared -/
def asgF (f : EF) (t : GF) : SF := fun env => (f env).st fun r e => match frz e r with
  | some (d, e2) => (match t d e2 with
    | some e3 => .nx e3
    | none => .no)
  | none => .no
section
variable {X : Cx} {W : WX} {tg e : Expr} {f : EF} {g : TG} {t : GF} {vs : List Nat} {pos : Pos}
theorem s_asg (he : PE X e (tE (gd X W) f)) (hg : PG X tg g) (ht : TgOk (gd X W) g t vs) (hs : swapsWithSole [tg] e pos.line X.env = pure false := by rfl) (hw : swappedStores [tg] e X.env = pure none := by rfl)
    (h1 : (assignEach [tg] X.env).map (·.2) = [assign tg X.env] := by rfl) : PS X (.Assign [tg] e pos) (tS (gd X W) (asgF f t)) := PS.imp (ps_asg he hg hs hw h1) fun Z σ H h => by
  obtain ⟨A, env, rel, h⟩ := h
  refine ⟨A, env, rel, SPost.cut h fun r e1 A1 H1 s1 h1 v hv => ?_⟩
  cases q : frz e1 r with
  | none => rw [q] at h1; exact h1.elim
  | some p =>
    obtain ⟨d, e2⟩ := p
    rw [q] at h1
    dsimp only at h1
    obtain ⟨A2, s2, f2, rp, _⟩ := frz_ok s1 hv q
    cases q2 : t d e2 with
    | none => rw [q2] at h1; exact h1.elim
    | some e3 =>
      rw [q2] at h1
      exact ht A A2 σ σ H H1 env e2 e3 d v _ s2 rp q2 fun σ2 s3 _ _ => h1 A2 σ2 H1 s3
end

theorem SPost.cutAt {α : Type} {G : Gd} {A A1 : AS} {σ : L2.St} {H H1 : Hp} {env e1 : En} {Z : Ends} {o : Rs α} {k : α → En → Rb} {P1 : α → En → AS → Hp → Prop} (s : Stp G.K A σ H env A1 σ H1 e1) (h : SPost G A σ H env (o.st k) Z)
    (i : ∀ a e A' H', Stp G.K A1 σ H1 e1 A' σ H' e → SPost G A σ H env (k a e) Z → P1 a e A' H') : Post G A1 σ H1 e1 o P1 := by
  cases o with
  | ok a e => exact fun A1 H1 s1 => i a e A1 H1 s1 h
  | ex x e => exact fun A' H' c d t => h A' σ H' c d (s.trans t)
  | no => exact h
theorem Post.cutAt {α β : Type} {G : Gd} {A A1 : AS} {σ : L2.St} {H H1 : Hp} {env e1 : En} {o : Rs α} {k : α → En → Rs β} {P : β → En → AS → Hp → Prop} {P1 : α → En → AS → Hp → Prop} (s : Stp G.K A σ H env A1 σ H1 e1) (h : Post G A σ H env (o.bind k) P)
    (i : ∀ a e A' H', Stp G.K A1 σ H1 e1 A' σ H' e → Post G A σ H env (k a e) P → P1 a e A' H') : Post G A1 σ H1 e1 o P1 := by
  cases o with
  | ok a e => exact fun A1 H1 s1 => i a e A1 H1 s1 h
  | ex x e => exact fun A' H' c d t => h A' H' c d (s.trans t)
  | no => exact h
/-! ### x[i] = e -/
def stoG : D → D → D → Option D
  | .list ds, .int k, d => (ixN ds.length k).map fun j => .list (ds.set j d)
  | _, _, _ => none
/-- the owned thing's slot is asked; then the index; then the value is shared -/
def stoF (f fo fi : EF) : SF := fun env => (f env).st fun r e1 => (fo e1).st fun ro e2 => match ro with
  | .bo i => (fi e2).st fun ri e3 => (match rd e3 ri, frz e3 r with
    | some ix, some (d, e4) => (match mutS e4 i with
      | some d0 => (match stoG d0 ix d with
        | some d' => .nx (mutP e4 i d')
        | none => .no)
      | none => .no)
    | _, _ => .no)
  | _ => .no
section
variable {X : Cx} {W : WX} {e o i : Expr} {f fo fi : EF} {pos tpos : Pos}
theorem s_sto (he : PE X e (tE (gd X W) f)) (ho : PE X o (tE (gd X W) fo)) (hi : PE X i (tE (gd X W) fi))
    (ha : ∀ v, assign (.Subscript o i tpos) X.env v = (do
      let ov ← holding [v] (eval o X.env)
      let iv ← holding [v, ov] (eval i X.env)
      standAt tpos
      holding [v, ov, iv] (setItem ov iv v)
      release [v, ov, iv] []) := by intro _; rfl)
    (hs : swapsWithSole [.Subscript o i tpos] e pos.line X.env = pure false := by rfl) (hw : swappedStores [.Subscript o i tpos] e X.env = pure none := by rfl)
    (h1 : (assignEach [.Subscript o i tpos] X.env).map (·.2) = [assign (.Subscript o i tpos) X.env] := by rfl) : PS X (.Assign [.Subscript o i tpos] e pos) (tS (gd X W) (stoF f fo fi)) :=
  PS.imp (ps_asg he (pg_sub ho hi set_list ha) hs hw h1) fun Z σ H h => by
    obtain ⟨A, env, rel, h⟩ := h
    refine ⟨A, env, rel, SPost.cut h fun r e1 A1 H1 s1 h1 v hv => ?_⟩
    refine ⟨A1, e1, s1.rel, SPost.cutAt s1 h1 fun ro e2 A2 H2 s2 h2 ov hov => ?_⟩
    cases ro with
    | sh d => exact h2.elim
    | tm d => exact h2.elim
    | bo j =>
      dsimp only at h2
      refine ⟨A2, e2, s2.rel, SPost.cutAt (s1.trans s2) h2 fun ri e3 A3 H3 s3 h3 iv hiv => ?_⟩
      have s23 := s2.trans s3
      have st := s1.trans s23
      cases q1 : rd e3 ri with
      | none => rw [q1] at h3; exact h3.elim
      | some ix =>
        cases q2 : frz e3 r with
        | none => rw [q1, q2] at h3; exact h3.elim
        | some p =>
          obtain ⟨d, e4⟩ := p
          rw [q1, q2] at h3
          dsimp only at h3
          have rix := hiv.rq s3.rel q1
          have hv3 := hv.step s1.rel s23
          obtain ⟨A4, s4, f4, rp, _⟩ := frz_ok st hv3 q2
          cases q3 : mutS e4 j with
          | none => rw [q3] at h3; exact h3.elim
          | some d0 =>
            rw [q3] at h3
            dsimp only at h3
            cases q4 : stoG d0 ix d with
            | none => rw [q4] at h3; exact h3.elim
            | some d' =>
              rw [q4] at h3
              obtain ⟨a, ea, na, ob⟩ := s4.rel.ow j d0 (mutS_own q3)
              have eo : ov = .ref a := by
                have := hov.1
                rw [ea] at this
                exact (Option.some.inj (Option.some.inj this)).symm
              match d0, ix, q4, ob, rix with
              | .list ds, .int k, q4, ob, rix =>
                dsimp only [stoG] at q4
                cases q5 : ixN ds.length k with
                | none => rw [q5] at q4; cases q4
                | some jj =>
                  rw [q5] at q4
                  cases q4
                  obtain ⟨ys, ey, ry⟩ := ob
                  refine ⟨a, ys, k, jj, eo, rix.int, ey, by rw [← ry.length]; exact q5, ?_⟩
                  have kp : Kp A4 H3 (upd H3 a (.lst (ys.set jj v))) := Kp.upd ey na fun z => z
                  exact h3 A4 σ _ (s4.mut q3 ea ⟨_, upd_same, (ry.set jj rp).mono (fun _ z => z) kp⟩)
end

/-! ### several names at once -/
def settle : En → List Rv → Option (List Rv × En)
  | e, [] => some ([], e)
  | e, .bo i :: rs => (match frz e (.bo i) with
    | some (d, e2) => (match settle e2 rs with
      | some (rs', e3) => some (.sh d :: rs', e3)
      | none => none)
    | none => none)
  | e, r :: rs => (match settle e rs with
    | some (rs', e3) => some (r :: rs', e3)
    | none => none)
def putAll : En → List Nat → List Rv → Option En
  | e, [], [] => some e
  | e, i :: is, .sh d :: rs => (putS e i (.sh d)).bind fun e2 => putAll e2 is rs
  | e, i :: is, .tm d :: rs => (putS e i (.ow d)).bind fun e2 => putAll e2 is rs
  | _, _, _ => none
def sets (σ : L2.St) : List Nat → List V → L2.St
  | i :: is, v :: vs => sets (σ.set i (some v)) is vs
  | _, _ => σ
theorem settle_ok {K : Frag} {A : AS} {σ σ1 : L2.St} {H H1 : Hp} {env : En} : ∀ {rs rs' : List Rv} {vs : List V} {A1 : AS} {e1 e2 : En} {F : AS}, Stp K A σ H env A1 σ1 H1 e1 → (∀ a, F a → H a = none) → RvsOk K A1 σ1 H1 e1 F rs vs → settle e1 rs = some (rs', e2) →
    ∃ A2, Stp K A σ H env A2 σ1 H1 e2 ∧ (∀ (F' : AS) (r' : Rv) (v' : V), RvOk K A1 σ1 H1 e1 F' r' v' → RvOk K A2 σ1 H1 e2 F' r' v') ∧ RvsOk K A2 σ1 H1 e2 F rs' vs
  | [], rs', vs, A1, e1, e2, F, s, hF, h, q => by
    cases q
    exact ⟨A1, s, fun _ _ _ z => z, h⟩
  | r :: rs, rs', vs, A1, e1, e2, F, s, hF, h, q => by
    obtain ⟨v, t, rfl, h1, h2⟩ := h
    cases r with
    | bo i =>
      unfold settle at q
      cases q1 : frz e1 (.bo i) with
      | none => rw [q1] at q; cases q
      | some p =>
        obtain ⟨d, e3⟩ := p
        rw [q1] at q
        dsimp only at q
        cases q2 : settle e3 rs with
        | none => rw [q2] at q; cases q
        | some p =>
          obtain ⟨rs2, e4⟩ := p
          rw [q2] at q
          cases q
          obtain ⟨A2, s2, f2, rp, k⟩ := frz_ok s (h1.weak fun a _ _ z => hF a z) q1
          have k' : ∀ (F' : AS) (r' : Rv) (v' : V), RvOk K A1 σ1 H1 e1 F' r' v' → RvOk K A2 σ1 H1 e3 F' r' v' := fun F' r' v' z => k F' r' v' (fun _ _ it => by cases it) z
          have h2' : RvsOk K A2 σ1 H1 e3 (fun a => F a ∧ ((Rv.bo i).isTm = true → v ≠ .ref a)) rs t := h2.keep (F := fun _ => True) (fun F' r' v' _ z => k' F' r' v' z) fun _ _ => trivial
          obtain ⟨A3, s3, k3, h3⟩ := settle_ok s2 (fun a z => hF a z.1) h2' q2
          refine ⟨A3, s3, fun F' r' v' z => k3 F' r' v' (k' F' r' v' z), v, t, rfl, k3 F (.sh d) v rp, h3.weak fun a o _ z => ⟨z.1, fun it => by cases it⟩⟩
    | sh d =>
      unfold settle at q
      cases q2 : settle e1 rs with
      | none => rw [q2] at q; cases q
      | some p =>
        obtain ⟨rs2, e4⟩ := p
        rw [q2] at q
        cases q
        obtain ⟨A3, s3, k3, h3⟩ := settle_ok s (fun a z => hF a z.1) h2 q2
        exact ⟨A3, s3, k3, v, t, rfl, k3 _ _ _ h1, h3⟩
    | tm d =>
      unfold settle at q
      cases q2 : settle e1 rs with
      | none => rw [q2] at q; cases q
      | some p =>
        obtain ⟨rs2, e4⟩ := p
        rw [q2] at q
        cases q
        obtain ⟨A3, s3, k3, h3⟩ := settle_ok s (fun a z => hF a z.1) h2 q2
        exact ⟨A3, s3, k3, v, t, rfl, k3 _ _ _ h1, h3⟩
theorem putAll_ok {K : Frag} {A : AS} {σ : L2.St} {H H1 : Hp} {env : En} : ∀ {rs : List Rv} {vs : List V} {is : List Nat} {A1 : AS} {σ1 : L2.St} {e1 e2 : En} {F : AS}, Stp K A σ H env A1 σ1 H1 e1 → (∀ a, F a → H a = none) → RvsOk K A1 σ1 H1 e1 F rs vs → putAll e1 is rs = some e2 →
    Stp K A σ H env A1 (sets σ1 is vs) H1 e2 ∧ is.length = vs.length
  | [], vs, is, A1, σ1, e1, e2, F, s, hF, h, q => by
    have : vs = [] := h
    subst this
    cases is with
    | nil => cases q; exact ⟨s, rfl⟩
    | cons _ _ => cases q
  | r :: rs, vs, [], A1, σ1, e1, e2, F, s, hF, h, q => by cases r <;> cases q
  | r :: rs, vs, i :: is, A1, σ1, e1, e2, F, s, hF, h, q => by
    obtain ⟨v, t, rfl, h1, h2⟩ := h
    have go : ∀ (sl : Sl) (e3 : En), putS e1 i sl = some e3 → PutOk K A1 σ1 H H1 e1 sl v → (∀ d, sl = .ow d → r.isTm = true) → r ≠ .bo 0 → (∀ r' ∈ rs, ∀ j, r' ≠ .bo j) → putAll e3 is rs = some e2 → Stp K A σ H env A1 (sets σ1 (i :: is) (v :: t)) H1 e2 ∧ (i :: is).length = (v :: t).length := fun sl e3 p po ht _ nb q2 => by
      have s2 := s.put po p
      have ow : ∀ x, Ow (σ1.set i (some v)) e3 x → Ow σ1 e1 x ∨ (v = .ref x ∧ r.isTm = true) := fun x ⟨j, ⟨d, hd⟩, e⟩ => by
        unfold putS at p
        cases q0 : e1[i]? with
        | none => rw [q0] at p; cases p
        | some t0 =>
          rw [q0] at p
          dsimp only at p
          split at p
          · cases p
          cases p
          have lt : i < e1.length := (List.getElem?_eq_some_iff.mp q0).1
          have lt2 : i < σ1.length := by rw [s.rel.len]; exact lt
          by_cases ji : j = i
          · subst ji
            unfold isOwn at hd
            rw [List.getElem?_set_self lt] at hd
            rw [List.getElem?_set_self lt2] at e
            refine .inr ⟨Option.some.inj (Option.some.inj e), ?_⟩
            rcases hd with hd | hd
            · exact ht d (Option.some.inj hd)
            · exact absurd (Option.some.inj hd) (po.noIo d).1
          · unfold isOwn at hd
            rw [List.getElem?_set_ne (Ne.symm ji)] at hd
            rw [List.getElem?_set_ne (Ne.symm ji)] at e
            exact .inl ⟨j, ⟨d, hd⟩, e⟩
      have mv : ∀ {F' : AS} {rs0 : List Rv} {vs0 : List V}, (∀ r' ∈ rs0, ∀ j, r' ≠ .bo j) → (∀ a, F' a → r.isTm = true → v ≠ .ref a) → RvsOk K A1 σ1 H1 e1 F' rs0 vs0 → RvsOk K A1 (σ1.set i (some v)) H1 e3 F' rs0 vs0 := fun {F' rs0} => by
        induction rs0 generalizing F' with
        | nil => exact fun _ _ h => h
        | cons r0 rs0 ih =>
          intro vs0 nb hf h
          obtain ⟨w, t0, rfl, g1, g2⟩ := h
          refine ⟨w, t0, rfl, ?_, ih (fun r' hr => nb r' (List.mem_cons_of_mem _ hr)) (fun a z => hf a z.1) g2⟩
          cases r0 with
          | sh d => exact g1
          | tm d =>
            obtain ⟨a, ea, na, no, f, ob⟩ := g1
            refine ⟨a, ea, na, fun z => ?_, f, ob⟩
            rcases ow a z with z | ⟨z, it⟩
            · exact no z
            · exact hf a f it z
          | bo j => exact absurd rfl (nb _ (List.mem_cons_self) j)
      obtain ⟨s3, l3⟩ := putAll_ok s2 (fun a z => hF a z.1) (mv nb (fun a z => z.2) h2) q2
      exact ⟨s3, by simp [l3]⟩
    have nobo : ∀ {rs : List Rv} {is : List Nat} {e e' : En}, putAll e is rs = some e' → ∀ r' ∈ rs, ∀ j, r' ≠ .bo j := fun {rs} => by
      induction rs with
      | nil => intro _ _ _ _ r' hr; cases hr
      | cons r0 rs ih =>
        intro is e e' q r' hr j z
        cases is with
        | nil => cases r0 <;> cases q
        | cons i0 is =>
          rcases List.mem_cons.mp hr with e0 | hr2
          · subst e0; subst z; cases q
          · cases r0 with
            | bo k => cases q
            | sh d =>
              simp only [putAll] at q
              cases q1 : putS e i0 (.sh d) with
              | none => rw [q1] at q; cases q
              | some e5 => rw [q1] at q; exact ih q r' hr2 j z
            | tm d =>
              simp only [putAll] at q
              cases q1 : putS e i0 (.ow d) with
              | none => rw [q1] at q; cases q
              | some e5 => rw [q1] at q; exact ih q r' hr2 j z
    cases r with
    | bo j => cases q
    | sh d =>
      simp only [putAll] at q
      cases q1 : putS e1 i (.sh d) with
      | none => rw [q1] at q; cases q
      | some e3 =>
        rw [q1] at q
        exact go _ e3 q1 (.inl ⟨d, rfl, h1⟩) (fun d' z => by cases z) (fun z => by cases z) (nobo q) q
    | tm d =>
      simp only [putAll] at q
      cases q1 : putS e1 i (.ow d) with
      | none => rw [q1] at q; cases q
      | some e3 =>
        rw [q1] at q
        obtain ⟨a, ea, na, no, f, ob⟩ := h1
        exact go _ e3 q1 (.inr ⟨d, a, rfl, ea, na, no, hF a f, ob⟩) (fun d' z => rfl) (fun z => by cases z) (nobo q) q
def parF (is : List Nat) (fs : AF) : SF := fun env => (fs env).st fun rs e => match settle e rs with
  | some (rs', e2) => (match putAll e2 is rs' with
    | some e3 => .nx e3
    | none => .no)
  | none => .no
theorem par_core {G : Gd} {A A1 : AS} {σ : L2.St} {H H1 : Hp} {env e1 : En} {is : List Nat} {rs : List Rv} {vs : List V} {Z : Ends} (s1 : Stp G.K A σ H env A1 σ H1 e1) (hv : RvsOk G.K A1 σ H1 e1 (fun a => H a = none) rs vs)
    (h1 : SPost G A σ H env (match settle e1 rs with
      | some (rs', e2) => (match putAll e2 is rs' with
        | some e3 => Rb.nx e3
        | none => .no)
      | none => .no) Z) : is.length = vs.length ∧ Z.nx (sets σ is vs) H1 := by
  cases q : settle e1 rs with
  | none => rw [q] at h1; exact h1.elim
  | some p =>
    obtain ⟨rs', e2⟩ := p
    rw [q] at h1
    dsimp only at h1
    obtain ⟨A2, s2, _, h2⟩ := settle_ok s1 (fun _ z => z) hv q
    cases q2 : putAll e2 is rs' with
    | none => rw [q2] at h1; exact h1.elim
    | some e3 =>
      rw [q2] at h1
      obtain ⟨s3, l⟩ := putAll_ok s2 (fun _ z => z) h2 q2
      exact ⟨l, h1 A2 _ H1 s3⟩
section
variable {X : Cx} {W : WX} {fs : AF} {pos : Pos}
theorem s_par (i j : Nat) {x y : Str} {a b : Expr} {px py pt : Pos} {kt k2 pt2} (hc : X.calm = true) (hN : X.N.Nodup) (ha : PA X [a, b] (tA (gd X W) fs)) (hi : X.N[i]? = some x := by rfl) (hj : X.N[j]? = some y := by rfl) (hij : i ≠ j := by decide)
    (hx : X.env.scope.names.lookup x = some .local := by rfl) (hy : X.env.scope.names.lookup y = some .local := by rfl)
    (hw : swappedStores [.Tuple [.Name x px, .Name y py] kt pt] (.Tuple [a, b] k2 pt2) X.env = pure (some [x, y]) := by rfl)
    (hs : swapsWithSole [.Tuple [.Name x px, .Name y py] kt pt] (.Tuple [a, b] k2 pt2) pos.line X.env = pure false := by rfl) :
    PS X (.Assign [.Tuple [.Name x px, .Name y py] kt pt] (.Tuple [a, b] k2 pt2) pos) (tS (gd X W) (parF [i, j] fs)) :=
  PS.imp (ps_par hc hN hi hj hij hx hy ha hw hs) fun Z σ H h => by
    obtain ⟨A, env, rel, h⟩ := h
    refine ⟨A, env, rel, SPost.cut h fun rs e1 A1 H1 s1 h1 vs hvs => ?_⟩
    obtain ⟨l, z⟩ := par_core s1 hvs h1
    match vs, l, z with
    | [v, w], _, z => exact ⟨v, w, rfl, z⟩
theorem s_par3 (i j l : Nat) {x y z : Str} {a b c : Expr} {px py pz pt : Pos} {kt k2 pt2} (hc : X.calm = true) (hN : X.N.Nodup) (ha : PA X [a, b, c] (tA (gd X W) fs)) (hi : X.N[i]? = some x := by rfl) (hj : X.N[j]? = some y := by rfl) (hl : X.N[l]? = some z := by rfl) (hij : i ≠ j := by decide) (hil : i ≠ l := by decide) (hjl : j ≠ l := by decide)
    (hx : X.env.scope.names.lookup x = some .local := by rfl) (hy : X.env.scope.names.lookup y = some .local := by rfl) (hz : X.env.scope.names.lookup z = some .local := by rfl)
    (hw : swappedStores [.Tuple [.Name x px, .Name y py, .Name z pz] kt pt] (.Tuple [a, b, c] k2 pt2) X.env = pure (some [x, y, z]) := by rfl)
    (hs : swapsWithSole [.Tuple [.Name x px, .Name y py, .Name z pz] kt pt] (.Tuple [a, b, c] k2 pt2) pos.line X.env = pure false := by rfl) :
    PS X (.Assign [.Tuple [.Name x px, .Name y py, .Name z pz] kt pt] (.Tuple [a, b, c] k2 pt2) pos) (tS (gd X W) (parF [i, j, l] fs)) :=
  PS.imp (ps_par3 hc hN hi hj hl hij hil hjl hx hy hz ha hw hs) fun Z σ H h => by
    obtain ⟨A, env, rel, h⟩ := h
    refine ⟨A, env, rel, SPost.cut h fun rs e1 A1 H1 s1 h1 vs hvs => ?_⟩
    obtain ⟨l, z⟩ := par_core s1 hvs h1
    match vs, l, z with
    | [u, v, w], _, z => exact ⟨u, v, w, rfl, z⟩
/-- name += e, ints -/
def augF (i : Nat) (g : Int → Int → Int) (f : EF) : SF := fun env => match rdAt env i with
  | some (.int a) => (f env).st fun r e => (match rd e r with
    | some (.int b) => (match putS e i (.sh (.int (g a b))) with
      | some e2 => .nx e2
      | none => .no)
    | _ => .no)
  | _ => .no
theorem s_aug (i : Nat) {x : Str} {e : Expr} {fe : EF} {op : Operator} {g : Int → Int → Int} {pos' : Pos} (ho : PIp X op (ipI g)) (hN : X.N.Nodup) (he : PE X e (tE (gd X W) fe)) (hi : X.N[i]? = some x := by rfl) (hx : Loc X.env.scope x := by first | exact Or.inl rfl | exact Or.inr rfl)
    (hf : X.fn x = true ∨ X.env.scope.names.lookup x = some .local := by first | exact .inl rfl | exact .inr rfl | assumption) :
    PS X (.AugAssign (.Name x pos') op e pos) (tS (gd X W) (augF i g fe)) := PS.imp (ps_aug hN hi hx he ho hf) fun Z σ H h => by
  obtain ⟨A, env, rel, h⟩ := h
  unfold augF at h
  cases q : rdAt env i with
  | none => rw [q] at h; exact h.elim
  | some d =>
    rw [q] at h
    cases d with
    | int a =>
      dsimp only at h
      have hσ : σ[i]? = some (some (.int a)) := by
        unfold rdAt at q
        cases q0 : env[i]? with
        | none => rw [q0] at q; cases q
        | some s =>
          rw [q0] at q
          cases s with
          | un => cases q
          | sh d => cases q; obtain ⟨v, e, r⟩ := rel.sh i _ (.inl q0); simp only [Rp] at r; rw [e, r]
          | iz d => cases q; obtain ⟨v, e, r⟩ := rel.sh i _ (.inr q0); simp only [Rp] at r; rw [e, r]
          | ow d => cases q; obtain ⟨v, e, _, r⟩ := rel.ow i _ (.inl q0); exact r.elim
          | io d => cases q; obtain ⟨v, e, _, r⟩ := rel.ow i _ (.inr q0); exact r.elim
      refine ⟨_, hσ, A, env, rel, SPost.cut h fun r e1 A1 H1 s1 h1 v hv => ?_⟩
      cases q1 : rd e1 r with
      | none => rw [q1] at h1; exact h1.elim
      | some d =>
        rw [q1] at h1
        cases d with
        | int b =>
          dsimp only at h1
          cases q2 : putS e1 i (.sh (.int (g a b))) with
          | none => rw [q2] at h1; exact h1.elim
          | some e2 =>
            rw [q2] at h1
            exact ⟨a, b, rfl, (hv.rq s1.rel q1).int, h1 A1 _ H1 (s1.put (.inl ⟨_, rfl, rp_int⟩) q2)⟩
        | _ => exact h1.elim
    | _ => exact h.elim
end
end VL


set_option Elab.async false
set_option linter.all false
set_option maxRecDepth 100000
set_option maxHeartbeats 2000000
namespace VL
open PySem PySem.Spec PyProof.Rows L2
variable [TbP]

/-! ### what is gone through -/
/-- the items that an iterator gives from here on -/
def Itm (K : Frag) (A : AS) (H : Hp) (J : It) (items : List D) : Prop :=
  ∃ (Gh : Hp → Prop) (Y : Nat → Hp → V → Hp → Prop), Walk J items.length Gh Y ∧ (∀ (A' : AS) (H' : Hp), (∀ a, A a → A' a) → Kp A H H' → Gh H') ∧
    ∀ (i : Nat) (A' : AS) (H' : Hp) (x : V) (H2 : Hp), (∀ a, A a → A' a) → Kp A H H' → Y i H' x H2 → Same H' H2 ∧ ∃ d, items[i]? = some d ∧ Rp K A' H2 d x
abbrev IF := En → Rs (List D)
def tI (G : Gd) (f : IF) : TI := fun σ H R => ∃ A env, Rel G.K A σ H env ∧ Post G A σ H env (f env) fun items e A' H' => ∀ J, Itm G.K A' H' J items → R J H'
theorem PI.imp {X : Cx} {tg e : Expr} {t t' : TI} (h : PI X tg e t) (i : ∀ σ H Q, t' σ H Q → t σ H Q) : PI X tg e t' := ⟨fun pins s σ H Q I q => h.run pins s σ H Q I (i σ H Q q)⟩
theorem PI.or {X : Cx} {tg e : Expr} {t t' : TI} (h : PI X tg e t) (h' : PI X tg e t') : PI X tg e (fun σ H Q => t σ H Q ∨ t' σ H Q) :=
  ⟨fun pins s σ H Q I q => q.elim (h.run pins s σ H Q I) (h'.run pins s σ H Q I)⟩
theorem sql_kp {K : Frag} {A : AS} {H H' : Hp} {a : Addr} {xs : List V} (h : LsOk K A H a xs) (k : Kp A H H') : SqL K H' a xs := by
  rcases h with ⟨z, h⟩ | h
  · exact .inl (rd_kp k (.inl z) h)
  · exact .inr h
theorem sqt_kp {K : Frag} {A : AS} {H H' : Hp} {a : Addr} {xs : List V} (h : SqT K H a xs) (k : Kp A H H') : SqT K H' a xs := h.imp (fun z => rd_kp (u := .tup xs) k (.inr trivial) z) id
theorem itm_list {K : Frag} {A : AS} {H : Hp} {a : Addr} {ds : List D} {xs : List V} (l : LsOk K A H a xs) (r : RpL K A H ds xs) : Itm K A H (Itl K a) ds :=
  ⟨_, _, by rw [r.length]; exact walk_list (xs := xs), fun A' H' fr k => sql_kp l k, fun i A' H' x H2 fr k y => by
    obtain ⟨rfl, e⟩ := y
    obtain ⟨d, e1, e2⟩ := (r.mono fr k).at' e
    exact ⟨Same.refl _, d, e1, e2⟩⟩
theorem itm_tup {K : Frag} {A : AS} {H : Hp} {a : Addr} {ds : List D} {xs : List V} (l : SqT K H a xs) (r : RpL K A H ds xs) : Itm K A H (Itt K a) ds :=
  ⟨_, _, by rw [r.length]; exact walk_tup (xs := xs), fun A' H' fr k => sqt_kp l k, fun i A' H' x H2 fr k y => by
    obtain ⟨rfl, e⟩ := y
    obtain ⟨d, e1, e2⟩ := (r.mono fr k).at' e
    exact ⟨Same.refl _, d, e1, e2⟩⟩
def signsD (z : Str) : List D := z.cps.toList.map fun c => PyData.str ⟨#[c]⟩
theorem itm_str {K : Frag} {A : AS} {H : Hp} {z : Str} : Itm K A H (Its z) (signsD z) :=
  ⟨_, _, by simpa [signsD] using walk_str (z := z), fun A' H' fr k => trivial, fun i A' H' x H2 fr k y => by
    obtain ⟨rfl, c, e, rfl⟩ := y
    refine ⟨Same.refl _, .str ⟨#[c]⟩, ?_, rp_str⟩
    simp only [signsD, List.getElem?_map]
    rw [show z.cps.toList[i]? = some c by simpa using e]
    rfl⟩
def rangeD (lo : Int) (n : Nat) : List D := (List.range n).map fun (i : Nat) => PyData.int (lo + (i : Int))
theorem itm_range {K : Frag} {A : AS} {H : Hp} {lo : Int} {n : Nat} : Itm K A H (Itr lo n) (rangeD lo n) :=
  ⟨fun _ => True, fun i H' x H2 => i < n ∧ H2 = H' ∧ x = .int (lo + i), by
    have w := (walk_range (lo := lo) (n := n))
    have : (rangeD lo n).length = n := by simp [rangeD]
    rw [this]
    exact ⟨w.goes, w.stops, fun i H x H' hi g y => ⟨hi, w.yields i H x H' hi g y⟩⟩, fun A' H' fr k => trivial, fun i A' H' x H2 fr k y => by
    obtain ⟨hi, rfl, rfl⟩ := y
    exact ⟨Same.refl _, .int (lo + i), by simp [rangeD, hi], rp_int⟩⟩
def range3D (lo c : Int) (n : Nat) : List D := (List.range n).map fun (i : Nat) => PyData.int (lo + (i : Int) * c)
theorem itm_range3 {K : Frag} {A : AS} {H : Hp} {lo c : Int} {n : Nat} : Itm K A H (Itc lo c n) (range3D lo c n) :=
  ⟨fun _ => True, fun i H' x H2 => i < n ∧ H2 = H' ∧ x = .int (lo + (i : Nat) * c), by
    have w := (walk_rangeC (lo := lo) (c := c) (n := n))
    have : (range3D lo c n).length = n := by simp [range3D]
    rw [this]
    exact ⟨w.goes, w.stops, fun i H x H' hi g y => ⟨hi, w.yields i H x H' hi g y⟩⟩, fun A' H' fr k => trivial, fun i A' H' x H2 fr k y => by
    obtain ⟨hi, rfl, rfl⟩ := y
    exact ⟨Same.refl _, .int (lo + (i : Nat) * c), by simp [range3D, hi], rp_int⟩⟩
theorem rp_pair {K : Frag} {A : AS} {H : Hp} {T : Addr} {d1 d2 : D} {x y : V} (n : H T = none) (h1 : Rp K A H d1 x) (h2 : Rp K A H d2 y) : Rp K A (upd H T (.tup [x, y])) (.tuple [d1, d2]) (.ref T) := rp_tup n (.cons h1 (.cons h2 .nil))
def enumD (ds : List D) : List D := ds.mapIdx fun (i : Nat) d => PyData.tuple [.int (i : Int), d]
theorem itm_enum {K : Frag} {A : AS} {H : Hp} {a : Addr} {ds : List D} {xs : List V} (l : LsOk K A H a xs) (r : RpL K A H ds xs) : Itm K A H (Ite K a) (enumD ds) :=
  ⟨_, _, by
    have : (enumD ds).length = xs.length := by simp [enumD, r.length]
    rw [this]; exact walk_enum (xs := xs), fun A' H' fr k => sql_kp l k, fun i A' H' x H2 fr k y => by
    obtain ⟨T, x', y', rfl, hn, rfl, e1, e2⟩ := y
    cases e1
    obtain ⟨d, q1, q2⟩ := (r.mono fr k).at' e2
    exact ⟨same_upd hn, .tuple [.int i, d], by simp [enumD, q1], rp_pair hn rp_int q2⟩⟩
def zipD (ds es : List D) : List D := List.zipWith (fun a b => PyData.tuple [a, b]) ds es
theorem zipD_get {ds es : List D} {i : Nat} {d e : D} (h1 : ds[i]? = some d) (h2 : es[i]? = some e) : (zipD ds es)[i]? = some (.tuple [d, e]) := by
  simp [zipD, List.getElem?_zipWith, h1, h2]
theorem itm_zipL {K : Frag} {A : AS} {H : Hp} {a b : Addr} {ds es : List D} {xs ys : List V} (l : LsOk K A H a xs) (r : RpL K A H ds xs) (l2 : LsOk K A H b ys) (r2 : RpL K A H es ys) : Itm K A H (Itz K a b) (zipD ds es) :=
  ⟨_, _, walk_zip (xs := xs) (ys := ys) (by simp [zipD, r.length, r2.length]), fun A' H' fr k => ⟨sql_kp l k, sql_kp l2 k⟩, fun i A' H' x H2 fr k y => by
    obtain ⟨T, x', y', rfl, hn, rfl, e1, e2⟩ := y
    obtain ⟨d, q1, q2⟩ := (r.mono fr k).at' e1
    obtain ⟨d', q3, q4⟩ := (r2.mono fr k).at' e2
    exact ⟨same_upd hn, .tuple [d, d'], zipD_get q1 q3, rp_pair hn q2 q4⟩⟩
theorem walk_zipT {K : Frag} {a b : Addr} {xs ys : List V} {n : Nat} (hn : n = min xs.length ys.length) : Walk (RZ.ItzT K a b) n (fun H => SqT K H a xs ∧ SqT K H b ys) (YPair (fun i => xs[i]?) (fun i => ys[i]?)) := by
  subst hn
  refine ⟨fun i _ hi q => ?_, fun _ q => ⟨xs, ys, q.1, q.2, by omega⟩, fun i H v H' _ q y => ?_⟩
  · have h1 : i < xs.length := by omega
    have h2 : i < ys.length := by omega
    exact ⟨xs, ys, xs[i], ys[i], q.1, q.2, by simp [h1], by simp [h2]⟩
  · obtain ⟨T, x, z, h1, h2, h3, h4, h5⟩ := y
    exact ⟨T, x, z, h1, h2, h3, h4 xs q.1, h5 ys q.2⟩
theorem itm_zipT {K : Frag} {A : AS} {H : Hp} {a b : Addr} {ds es : List D} {xs ys : List V} (l : SqT K H a xs) (r : RpL K A H ds xs) (l2 : SqT K H b ys) (r2 : RpL K A H es ys) : Itm K A H (RZ.ItzT K a b) (zipD ds es) :=
  ⟨_, _, walk_zipT (xs := xs) (ys := ys) (by simp [zipD, r.length, r2.length]), fun A' H' fr k => ⟨sqt_kp l k, sqt_kp l2 k⟩, fun i A' H' x H2 fr k y => by
    obtain ⟨T, x', y', rfl, hn, rfl, e1, e2⟩ := y
    obtain ⟨d, q1, q2⟩ := (r.mono fr k).at' e1
    obtain ⟨d', q3, q4⟩ := (r2.mono fr k).at' e2
    exact ⟨same_upd hn, .tuple [d, d'], zipD_get q1 q3, rp_pair hn q2 q4⟩⟩
/-! the iterables -/
def itemsD : D → Option (List D)
  | .list ds => some ds
  | .tuple ds => some ds
  | .str z => some (signsD z)
  | _ => none
def itF (f : EF) : IF := fun env => (f env).bind fun r e => match frz e r with
  | some (d, e2) => (match itemsD d with
    | some l => .ok l e2
    | none => .no)
  | none => .no
def rngF (fs : AF) : IF := fun env => (fs env).bind fun rs e => match rdAll e rs with
  | some [.int j] => if -(2 ^ 62) ≤ j ∧ j < 2 ^ 62 then .ok (rangeD 0 j.toNat) e else .no
  | _ => .no
def rng2F (fs : AF) : IF := fun env => (fs env).bind fun rs e => match rdAll e rs with
  | some [.int i, .int j] => if -(2 ^ 62) ≤ i ∧ i < 2 ^ 62 ∧ -(2 ^ 62) ≤ j ∧ j < 2 ^ 62 then .ok (rangeD i (j - i).toNat) e else .no
  | _ => .no
def enumF (fs : AF) : IF := fun env => (fs env).bind fun rs e => match frzAll e rs with
  | some ([.list ds], e2) => .ok (enumD ds) e2
  | _ => .no
def zipF (fs : AF) : IF := fun env => (fs env).bind fun rs e => match frzAll e rs with
  | some ([.list ds, .list es], e2) => .ok (zipD ds es) e2
  | some ([.tuple ds, .tuple es], e2) => .ok (zipD ds es) e2
  | _ => .no
theorem Rp.lst {K : Frag} {A : AS} {H : Hp} {ds : List D} {v : V} (h : Rp K A H (.list ds) v) : ∃ a xs, v = .ref a ∧ LsOk K A H a xs ∧ RpL K A H ds xs := by simpa only [Rp] using h
theorem Rp.tup {K : Frag} {A : AS} {H : Hp} {ds : List D} {v : V} (h : Rp K A H (.tuple ds) v) : ∃ a xs, v = .ref a ∧ SqT K H a xs ∧ RpL K A H ds xs := by simpa only [Rp] using h
section
variable {X : Cx} {W : WX} {tg e e2 : Expr} {f : EF} {fs : AF} {p pos tpos : Pos} {elts : List Expr} {kk : Nat}
theorem i_it (h : PE X e (tE (gd X W) f)) : PI X tg e (tI (gd X W) (itF f)) := PI.imp (VL.PI.or (pi_list h) (VL.PI.or (pi_tup h) (pi_str h))) fun σ H R h => by
  obtain ⟨A, env, rel, h⟩ := h
  have h' := h
  unfold itF at h
  cases q0 : f env with
  | no => rw [q0] at h; exact h.elim
  | ex x e => rw [q0] at h; exact .inl ⟨A, env, rel, by rw [q0]; exact h⟩
  | ok r e =>
    rw [q0] at h
    simp only [Rs.bind] at h
    cases q : frz e r with
    | none => rw [q] at h; exact h.elim
    | some pp =>
      obtain ⟨d, e2⟩ := pp
      rw [q] at h
      dsimp only at h
      match d, h, q with
      | .list ds, h, q =>
        refine .inl ⟨A, env, rel, ?_⟩
        rw [q0]
        intro A' H' s v hv
        obtain ⟨A2, s2, f2, rp, _⟩ := frz_ok s hv q
        obtain ⟨a, xs, rfl, l, r⟩ := rp.lst
        exact ⟨a, rfl, ⟨xs, l.sq⟩, h A2 H' s2 _ (itm_list l r)⟩
      | .tuple ds, h, q =>
        refine .inr (.inl ⟨A, env, rel, ?_⟩)
        rw [q0]
        intro A' H' s v hv
        obtain ⟨A2, s2, f2, rp, _⟩ := frz_ok s hv q
        obtain ⟨a, xs, rfl, l, r⟩ := rp.tup
        exact ⟨a, rfl, ⟨xs, l⟩, h A2 H' s2 _ (itm_tup l r)⟩
      | .str z, h, q =>
        refine .inr (.inr ⟨A, env, rel, ?_⟩)
        rw [q0]
        intro A' H' s v hv
        obtain ⟨A2, s2, f2, rp, _⟩ := frz_ok s hv q
        simp only [Rp] at rp
        exact ⟨z, rp, h A2 H' s2 _ itm_str⟩
      | .none, h, _ => exact h.elim
      | .bool _, h, _ => exact h.elim
      | .int _, h, _ => exact h.elim
      | .dict _, h, _ => exact h.elim
theorem i_rng1 {a : Expr} (hm : X.mg "range" = none) (ha : PA X [a] (tA (gd X W) fs)) (hg : Gl X "range" := by rfl) (hs : starEach [a] X.env = [(false, eval a X.env)] := by rfl) : PI X tg (.Call (.Name "range" p) [a] [] pos) (tI (gd X W) (rngF fs)) :=
  PI.imp ((pi_range1 hg hm ha hs)) fun σ H R h => by
    obtain ⟨A, env, rel, h⟩ := h
    refine ⟨A, env, rel, Post.cut h fun rs e1 A1 H1 s1 h1 vs hvs => ?_⟩
    cases q1 : rdAll e1 rs with
    | none => rw [q1] at h1; exact h1.elim
    | some ds =>
      rw [q1] at h1
      have rq := hvs.rq s1.rel q1
      match ds, h1, rq with
      | [.int j], h1, rq =>
        dsimp only at h1
        by_cases c : -(2 ^ 62) ≤ j ∧ j < 2 ^ 62
        · rw [if_pos c] at h1
          obtain ⟨v, rfl, r⟩ := rq.one
          exact ⟨j, by rw [r.int], c.1, c.2, h1 A1 H1 s1 _ itm_range⟩
        · rw [if_neg c] at h1; exact h1.elim
      | [], h1, _ => exact h1.elim
      | [.none], h1, _ => exact h1.elim
      | [.bool _], h1, _ => exact h1.elim
      | [.str _], h1, _ => exact h1.elim
      | [.list _], h1, _ => exact h1.elim
      | [.tuple _], h1, _ => exact h1.elim
      | [.dict _], h1, _ => exact h1.elim
      | d1 :: d2 :: rr, h1, rq => exact absurd h1 (by simp [Post])
theorem i_rng2 {a b : Expr} (hm : X.mg "range" = none) (ha : PA X [a, b] (tA (gd X W) fs)) (hg : Gl X "range" := by rfl) (hs : starEach [a, b] X.env = [(false, eval a X.env), (false, eval b X.env)] := by rfl) (hs2 : starEach [b] X.env = [(false, eval b X.env)] := by rfl) : PI X tg (.Call (.Name "range" p) [a, b] [] pos) (tI (gd X W) (rng2F fs)) :=
  PI.imp ((pi_range2 hg hm ha hs hs2)) fun σ H R h => by
    obtain ⟨A, env, rel, h⟩ := h
    refine ⟨A, env, rel, Post.cut h fun rs e1 A1 H1 s1 h1 vs hvs => ?_⟩
    cases q1 : rdAll e1 rs with
    | none => rw [q1] at h1; exact h1.elim
    | some ds =>
      rw [q1] at h1
      have rq := hvs.rq s1.rel q1
      dsimp only at h1
      split at h1
      · rename_i i j e
        cases e
        by_cases c : -(2 ^ 62) ≤ i ∧ i < 2 ^ 62 ∧ -(2 ^ 62) ≤ j ∧ j < 2 ^ 62
        · rw [if_pos c] at h1
          obtain ⟨v, v', rfl, r, r'⟩ := rq.two
          exact ⟨i, j, by rw [r.int, r'.int], c, h1 A1 H1 s1 _ itm_range⟩
        · rw [if_neg c] at h1; exact h1.elim
      · exact h1.elim
theorem i_enum (hm : X.mg "enumerate" = none) (ha : PA X [e] (tA (gd X W) fs)) (hg : Gl X "enumerate" := by rfl) (hs : starEach [e] X.env = [(false, eval e X.env)] := by rfl) : PI X (.Tuple elts kk tpos) (.Call (.Name "enumerate" p) [e] [] pos) (tI (gd X W) (enumF fs)) :=
  PI.imp (pi_enum hg hm ha hs) fun σ H R h => by
    obtain ⟨A, env, rel, h⟩ := h
    refine ⟨A, env, rel, Post.cut h fun rs e1 A1 H1 s1 h1 vs hvs => ?_⟩
    dsimp only at h1
    split at h1
    · rename_i ds e2 q
      obtain ⟨A2, s2, f2, rpl⟩ := frzAll_ok s1 (fun _ z => z) hvs q
      obtain ⟨v, t, rfl, r1, r2⟩ := rpl.inv_cons
      rw [r2.inv_nil]
      obtain ⟨a, xs, rfl, l, r⟩ := r1.lst
      exact ⟨a, xs, rfl, l.sq, h1 A2 H1 s2 _ (itm_enum l r)⟩
    · exact h1.elim
theorem i_zip (hm : X.mg "zip" = none) (ha : PA X [e, e2] (tA (gd X W) fs)) (hg : Gl X "zip" := by rfl) (hs : starEach [e, e2] X.env = (false, eval e X.env) :: starEach [e2] X.env := by rfl) (hpl : (backTo pos (starEach [e2] X.env)).any (·.1) = false := by rfl) :
    PI X (.Tuple elts kk tpos) (.Call (.Name "zip" p) [e, e2] [] pos) (tI (gd X W) (zipF fs)) :=
  PI.imp (RZ.pi_zipA hg hm ha hs hpl) fun σ H R h => by
    obtain ⟨A, env, rel, h⟩ := h
    refine ⟨A, env, rel, Post.cut h fun rs e1 A1 H1 s1 h1 vs hvs => ?_⟩
    dsimp only at h1
    split at h1
    · rename_i ds es e2 q
      obtain ⟨A2, s2, f2, rpl⟩ := frzAll_ok s1 (fun _ z => z) hvs q
      obtain ⟨v, t, rfl, r1, r2⟩ := rpl.inv_cons
      obtain ⟨v2, t2, rfl, r3, r4⟩ := r2.inv_cons
      rw [r4.inv_nil]
      obtain ⟨a, xs, rfl, l, r⟩ := r1.lst
      obtain ⟨b, ys, rfl, l2, r2⟩ := r3.lst
      exact ⟨a, b, xs, ys, rfl, .inl ⟨l.sq, l2.sq, h1 A2 H1 s2 _ (itm_zipL l r l2 r2)⟩⟩
    · rename_i ds es e2 q
      obtain ⟨A2, s2, f2, rpl⟩ := frzAll_ok s1 (fun _ z => z) hvs q
      obtain ⟨v, t, rfl, r1, r2⟩ := rpl.inv_cons
      obtain ⟨v2, t2, rfl, r3, r4⟩ := r2.inv_cons
      rw [r4.inv_nil]
      obtain ⟨a, xs, rfl, l, r⟩ := r1.tup
      obtain ⟨b, ys, rfl, l2, r2⟩ := r3.tup
      exact ⟨a, b, xs, ys, rfl, .inr ⟨l, l2, h1 A2 H1 s2 _ (itm_zipT l r l2 r2)⟩⟩
    · exact h1.elim
end

/-! ### for -/
def forGo (tgt : GF) (body : SF) : List D → En → Rb
  | [], e => .nx e
  | d :: ds, e => match tgt d e with
    | some e1 => (match body e1 with
      | .nx e2 => forGo tgt body ds e2
      | .ct e2 => forGo tgt body ds e2
      | .bk e2 => .nx e2
      | r => r)
    | none => .no
def forF (it : IF) (tgt : GF) (body : SF) : SF := fun env => (it env).st fun items e => forGo tgt body items e
theorem drop_cons {α : Type} : ∀ {l : List α} {i : Nat} {x : α}, l[i]? = some x → l.drop i = x :: l.drop (i + 1)
  | [], i, x, h => by simp at h
  | a :: l, 0, x, h => by simp at h; subst h; rfl
  | a :: l, i + 1, x, h => by simpa using drop_cons (l := l) (i := i) (by simpa using h)
section
variable {X : Cx} {W : WX} {tg iter : Expr} {body : List Stmt} {it : IF} {g : TG} {t : GF} {vs : List Nat} {fb : SF} {pos : Pos}
theorem s_for (hp : PassesOwn (model X.prog X.w) X.A X.env X.xe) (hc : X.calm = true) (hi : PI X tg iter (tI (gd X W) it)) (hg : PG X tg g) (ht : TgOk (gd X W) g t vs) (hb : PSs X body (tS (gd X W) fb)) (hs : ∀ x, foldedSetIterable iter X.env x = pure x := by intro _; rfl) :
    PS X (.For tg iter body [] pos) (tS (gd X W) (forF it t fb)) := PS.imp (ps_for hp hc hi hg hb hs) fun Z σ H h => by
  obtain ⟨A, env, rel, h⟩ := h
  refine ⟨A, env, rel, (SPost.bind h).imp fun items e1 A1 H1 s1 h1 J hJ => ?_⟩
  obtain ⟨Gh, Y, w, hG, hY⟩ := hJ
  refine for_it w (fun i σ' H' => ∃ A' e', Stp X.K A1 σ H1 e1 A' σ' H' e' ∧ SPost (gd X W) A1 σ H1 e1 (forGo t fb (items.drop i) e') Z) ⟨A1, e1, .refl s1.rel, h1⟩
    (fun i σ' H' _ ⟨A', e', s, _⟩ => hG A' H' s.ext.fr (s.ext.kp s1.rel)) (fun i x σ' H' H2 hi ⟨A', e', s, q⟩ y => ?_) fun σ' H' ⟨A', e', s, q⟩ => ?_
  · obtain ⟨sm, d, ed, rp⟩ := hY i A' H' x H2 s.ext.fr (s.ext.kp s1.rel) y
    rw [drop_cons ed] at q
    unfold forGo at q
    have s' := s.trans (Stp.same s.rel sm)
    cases q1 : t d e' with
    | none => rw [q1] at q; exact q.elim
    | some e2 =>
      rw [q1] at q
      dsimp only at q
      refine ht A1 A' σ σ' H1 H2 e1 e' e2 d x _ s' rp q1 fun σ2 s2 _ _ => ⟨A', e2, s2.rel, ?_⟩
      cases q2 : fb e2 with
      | nx e3 =>
        rw [q2] at q
        exact fun A3 σ3 H3 s3 => ⟨A3, e3, s2.trans s3, q⟩
      | ct e3 =>
        rw [q2] at q
        exact fun A3 σ3 H3 s3 => ⟨A3, e3, s2.trans s3, q⟩
      | bk e3 =>
        rw [q2] at q
        exact fun A3 σ3 H3 s3 => q A3 σ3 H3 (s2.trans s3)
      | rt r e3 =>
        rw [q2] at q
        exact SPost.move (Z := { Z with nx := _, ct := _, bk := _ }) s2 (show SPost (gd X W) A1 σ H1 e1 (.rt r e3) { Z with nx := _, ct := _, bk := _ } from q)
      | ex x e3 =>
        rw [q2] at q
        exact SPost.move (Z := { Z with nx := _, ct := _, bk := _ }) s2 (show SPost (gd X W) A1 σ H1 e1 (.ex x e3) { Z with nx := _, ct := _, bk := _ } from q)
      | no => rw [q2] at q; exact q.elim
  · rw [List.drop_length] at q
    exact q A' σ' H' s
end

/-! ### while -/
def whGo (c : TF) (body : SF) : Nat → En → Rb
  | 0, _ => .no
  | n + 1, e => (c e).st fun b e1 => if b = true then (match body e1 with
      | .nx e2 => whGo c body n e2
      | .ct e2 => whGo c body n e2
      | .bk e2 => .nx e2
      | r => r) else .nx e1
/-- so many turns that no loop here is longer -/
def whF (fuel : Nat) (c : TF) (body : SF) : SF := whGo c body fuel
section
variable {X : Cx} {W : WX} {c : Expr} {body : List Stmt} {fc : TF} {fb : SF} {pos : Pos}
theorem s_while {fuel : Nat} (hp : PassesOwn (model X.prog X.w) X.A X.env X.xe) (hc : PT X c (tT (gd X W) fc)) (hb : PSs X body (tS (gd X W) fb)) : PS X (.While c body [] pos) (tS (gd X W) (whF fuel fc fb)) := PS.imp (ps_while hp hc hb) fun Z σ H h => by
  obtain ⟨A, env, rel, h⟩ := h
  refine ⟨fun m σ' H' => ∃ A' e', Stp X.K A σ H env A' σ' H' e' ∧ SPost (gd X W) A σ H env (whGo fc fb m e') Z, ⟨fuel, A, env, .refl rel, h⟩, fun m σ' H' ⟨A', e', s, q⟩ => ?_⟩
  cases m with
  | zero => exact q.elim
  | succ m =>
    unfold whGo at q
    refine ⟨A', e', s.rel, ?_⟩
    cases q0 : fc e' with
    | no => rw [q0] at q; exact q.elim
    | ex x e2 => rw [q0] at q; exact fun A2 H2 c d s2 => q A2 σ' H2 c d (s.trans s2)
    | ok b e2 =>
      rw [q0] at q
      simp only [Rs.st] at q
      intro A2 H2 s2
      have s' := s.trans s2
      cases b with
      | false =>
        rw [if_neg Bool.false_ne_true] at q
        exact q A2 σ' H2 s'
      | true =>
        rw [if_pos rfl] at q
        show if true = true then _ else _
        rw [if_pos rfl]
        refine ⟨fun σ3 H3 => ∃ A3 e3, Stp X.K A σ H env A3 σ3 H3 e3 ∧ SPost (gd X W) A σ H env (whGo fc fb m e3) Z, fun σ3 H3 z => ⟨m, Nat.lt_succ_self m, z⟩, A2, e2, s'.rel, ?_⟩
        cases q2 : fb e2 with
        | nx e3 =>
          rw [q2] at q
          exact fun A3 σ3 H3 s3 => ⟨A3, e3, s'.trans s3, q⟩
        | ct e3 =>
          rw [q2] at q
          exact fun A3 σ3 H3 s3 => ⟨A3, e3, s'.trans s3, q⟩
        | bk e3 =>
          rw [q2] at q
          exact fun A3 σ3 H3 s3 => q A3 σ3 H3 (s'.trans s3)
        | rt r e3 =>
          rw [q2] at q
          exact SPost.move (Z := { Z with nx := _, ct := _, bk := _ }) s' (show SPost (gd X W) A σ H env (.rt r e3) { Z with nx := _, ct := _, bk := _ } from q)
        | ex x e3 =>
          rw [q2] at q
          exact SPost.move (Z := { Z with nx := _, ct := _, bk := _ }) s' (show SPost (gd X W) A σ H env (.ex x e3) { Z with nx := _, ct := _, bk := _ } from q)
        | no => rw [q2] at q; exact q.elim
end
end VL


set_option Elab.async false
set_option linter.all false
set_option maxRecDepth 100000
set_option maxHeartbeats 2000000
namespace VL
open PySem PySem.Spec PyProof.Rows L2
variable [TbP]

/-! ### list comprehensions -/
def wipeE (e : En) : List Nat → En
  | [] => e
  | v :: vs => (wipeE e vs).set v .un
def unwipe (env e : En) : List Nat → En
  | [] => e
  | v :: vs => (unwipe env e vs).set v ((env[v]?).getD .un)
def cleanS : Option Sl → Bool
  | some .un => true
  | some (.sh _) => true
  | none => true
  | _ => false
def clean (env : En) (vs : List Nat) : Bool := vs.all fun v => cleanS env[v]?
theorem wipe_get {σ : L2.St} {j : Nat} : ∀ {vs : List Nat}, j ∉ vs → (wipe σ vs)[j]? = σ[j]?
  | [], _ => rfl
  | v :: vs, h => by
    rw [List.mem_cons, not_or] at h
    unfold wipe
    rw [List.getElem?_set_ne (Ne.symm h.1)]
    exact wipe_get h.2
theorem wipe_in {σ : L2.St} {j : Nat} : ∀ {vs : List Nat}, j ∈ vs → j < σ.length → (wipe σ vs)[j]? = some none
  | v :: vs, h, l => by
    unfold wipe
    by_cases q : v = j
    · subst q
      rw [List.getElem?_set_self (by rw [wipe_length]; exact l)]
    · rw [List.getElem?_set_ne q]
      exact wipe_in ((List.mem_cons.mp h).resolve_left (Ne.symm q)) l
theorem wipeE_length {e : En} : ∀ {vs : List Nat}, (wipeE e vs).length = e.length
  | [] => rfl
  | v :: vs => by unfold wipeE; rw [List.length_set, wipeE_length]
theorem wipeE_get {e : En} {j : Nat} : ∀ {vs : List Nat}, j ∉ vs → (wipeE e vs)[j]? = e[j]?
  | [], _ => rfl
  | v :: vs, h => by
    rw [List.mem_cons, not_or] at h
    unfold wipeE
    rw [List.getElem?_set_ne (Ne.symm h.1)]
    exact wipeE_get h.2
theorem wipeE_in {e : En} {j : Nat} {s : Sl} : ∀ {vs : List Nat}, j ∈ vs → (wipeE e vs)[j]? = some s → s = .un
  | v :: vs, h, q => by
    unfold wipeE at q
    by_cases c : v = j
    · subst c
      by_cases l : v < (wipeE e vs).length
      · rw [List.getElem?_set_self l] at q
        exact (Option.some.inj q).symm
      · rw [List.getElem?_eq_none (by rw [List.length_set]; omega)] at q; cases q
    · rw [List.getElem?_set_ne c] at q
      exact wipeE_in ((List.mem_cons.mp h).resolve_left (Ne.symm c)) q
theorem unwipe_length {env e : En} : ∀ {vs : List Nat}, (unwipe env e vs).length = e.length
  | [] => rfl
  | v :: vs => by unfold unwipe; rw [List.length_set, unwipe_length]
theorem unwipe_get {env e : En} {j : Nat} : ∀ {vs : List Nat}, j ∉ vs → (unwipe env e vs)[j]? = e[j]?
  | [], _ => rfl
  | v :: vs, h => by
    rw [List.mem_cons, not_or] at h
    unfold unwipe
    rw [List.getElem?_set_ne (Ne.symm h.1)]
    exact unwipe_get h.2
theorem unwipe_in {env e : En} {j : Nat} : ∀ {vs : List Nat}, j ∈ vs → env.length = e.length → (unwipe env e vs)[j]? = env[j]?
  | v :: vs, h, l => by
    unfold unwipe
    by_cases c : v = j
    · subst c
      by_cases lt : v < env.length
      · rw [List.getElem?_set_self (by rw [unwipe_length]; omega)]
        simp [lt]
      · rw [List.getElem?_eq_none (by rw [List.length_set, unwipe_length]; omega), List.getElem?_eq_none (by omega)]
    · rw [List.getElem?_set_ne c]
      exact unwipe_in ((List.mem_cons.mp h).resolve_left (Ne.symm c)) l
section
variable {K : Frag} {A A' : AS} {σ σ2 : L2.St} {H H' : Hp} {env e2 : En} {vs : List Nat}
theorem wipe_own {j : Nat} {d : D} (h : isOwn (wipeE env vs) j d) : j ∉ vs ∧ isOwn env j d := by
  have n : j ∉ vs := fun z => by
    rcases h with h | h
    · cases wipeE_in z h
    · cases wipeE_in z h
  refine ⟨n, ?_⟩
  unfold isOwn at h ⊢
  rw [wipeE_get n] at h
  exact h
theorem wipe_owi {j : Nat} {a : Addr} (h : Owi (wipe σ vs) (wipeE env vs) j a) : Owi σ env j a := by
  obtain ⟨⟨d, hd⟩, e⟩ := h
  obtain ⟨n, hd⟩ := wipe_own hd
  rw [wipe_get n] at e
  exact ⟨⟨d, hd⟩, e⟩
theorem Rel.wipe (r : Rel K A σ H env) : Rel K A (L2.wipe σ vs) H (wipeE env vs) := by
  refine ⟨by rw [wipe_length, wipeE_length]; exact r.len, fun i d h => ?_, fun i d h => ?_, fun i j a h1 h2 => r.ap i j a (wipe_owi h1) (wipe_owi h2), r.dom, fun i d h => ?_, r.tb⟩
  · have n : i ∉ vs := fun z => by
      rcases h with h | h
      · cases wipeE_in z h
      · cases wipeE_in z h
    rw [wipeE_get n] at h
    rw [wipe_get n]
    exact r.sh i d h
  · obtain ⟨n, h⟩ := wipe_own h
    rw [wipe_get n]
    exact r.ow i d h
  · have n : i ∉ vs := fun z => by cases wipeE_in z h
    rw [wipeE_get n] at h
    rw [wipe_get n]
    exact r.fz i d h
theorem clean_at (c : clean env vs = true) {j : Nat} (h : j ∈ vs) : cleanS env[j]? = true := List.all_eq_true.mp c j h
theorem clean_own (c : clean env vs = true) {j : Nat} {d : D} (h : isOwn env j d) : j ∉ vs := fun z => by
  have := clean_at c z
  rcases h with h | h <;> (rw [h] at this; cases this)
theorem Stp.unwipe (r : Rel K A σ H env) (c : clean env vs = true) (s : Stp K A (wipe σ vs) H (wipeE env vs) A' σ2 H' e2) (hl : σ2.length = σ.length) (off : ∀ j, j ∉ vs → σ2[j]? = (wipe σ vs)[j]?) : Stp K A σ H env A' σ H' (VL.unwipe env e2 vs) := by
  have len2 : σ2.length = e2.length := s.rel.len
  have lenE : env.length = e2.length := by rw [← len2, hl, r.len]
  have owO : ∀ a, Ow (wipe σ vs) (wipeE env vs) a → Ow σ env a := fun a ⟨j, h⟩ => ⟨j, wipe_owi h⟩
  have off' : ∀ j, j ∉ vs → σ2[j]? = σ[j]? := fun j h => (off j h).trans (wipe_get h)
  have uo : ∀ j d, isOwn (VL.unwipe env e2 vs) j d → j ∉ vs ∧ isOwn e2 j d := fun j d h => by
    have n : j ∉ vs := fun z => by
      have q := clean_at c z
      unfold isOwn at h
      rw [unwipe_in z lenE] at h
      rcases h with h | h <;> (rw [h] at q; cases q)
    refine ⟨n, ?_⟩
    unfold isOwn at h ⊢
    rw [unwipe_get n] at h
    exact h
  have uow : ∀ j a, Owi σ (VL.unwipe env e2 vs) j a → Owi σ2 e2 j a := fun j a ⟨⟨d, h⟩, e⟩ => by
    obtain ⟨n, h⟩ := uo j d h
    exact ⟨⟨d, h⟩, by rw [off' j n]; exact e⟩
  have kp : Kp A H H' := s.ext.kp r.wipe
  refine ⟨⟨s.ext.fr, fun a o e n => s.ext.keep a o e fun z => n (owO a z), fun a h => (s.ext.old a h).imp id fun z => z.imp id (owO a), s.ext.al, s.ext.tab⟩, ⟨by rw [unwipe_length, ← lenE]; exact r.len, fun i d h => ?_, fun i d h => ?_, fun i j a h1 h2 => s.rel.ap i j a (uow i a h1) (uow j a h2), s.rel.dom, fun i d h => ?_, s.rel.tb⟩,
    fun a ⟨j, h⟩ => (s.sub a ⟨j, uow j a h⟩).imp (owO a) id, fun i d h => ?_, fun i h => ?_⟩
  · by_cases z : i ∈ vs
    · rw [unwipe_in z lenE] at h
      obtain ⟨v, e, q⟩ := r.sh i d h
      exact ⟨v, e, q.mono s.ext.fr kp⟩
    · rw [unwipe_get z] at h
      rw [← off' i z]
      exact s.rel.sh i d h
  · obtain ⟨n, h⟩ := uo i d h
    rw [← off' i n]
    exact s.rel.ow i d h
  · have n : i ∉ vs := fun z => by
      have q := clean_at c z
      rw [unwipe_in z lenE] at h
      rw [h] at q; cases q
    rw [unwipe_get n] at h
    rw [← off' i n]
    exact s.rel.fz i d h
  · have n : i ∉ vs := fun z => by
      have q := clean_at c z
      rcases h with h | h <;> (rw [h] at q; cases q)
    rw [← wipeE_get n] at h
    obtain ⟨_, d', q⟩ := s.io i d h
    rw [unwipe_get n]
    exact ⟨rfl, d', q⟩
  · by_cases z : i ∈ vs
    · unfold rdAt at h ⊢
      rw [unwipe_in z lenE]
      exact h
    · have := s.rdb i (by unfold rdAt at h ⊢; rw [wipeE_get z]; exact h)
      unfold rdAt at this ⊢
      rw [unwipe_get z]
      exact this
/-- an address that belongs to nobody stays as it is -/
theorem Stp.keepD {σ' : L2.St} {e' : En} {a : Addr} {o : HO} (s : Stp K A σ H env A' σ' H' e') (na : ¬ A a) (no : ¬ Ow σ env a) (h : H a = some o) (nt : ¬ IsX o := by exact fun z => z) : ¬ A' a ∧ ¬ Ow σ' e' a ∧ H' a = some o := by
  have na1 : ¬ A' a := fun z => by
    rcases s.ext.old a z with z | z | z
    · exact na z
    · rw [h] at z; cases z
    · exact no z
  refine ⟨na1, fun z => ?_, s.ext.keepA h no na1 nt⟩
  · rcases s.sub a z with z | z
    · exact no z
    · rw [h] at z; cases z
/-- .. and may be changed, if it was not there at first -/
theorem Stp.updD {σ' : L2.St} {e' : En} {a : Addr} {o o' : HO} (s : Stp K A σ H env A' σ' H' e') (n : H a = none) (na : ¬ A' a) (no : ¬ Ow σ' e' a) (h : H' a = some o) (nt : ¬ IsX o) : Stp K A σ H env A' σ' (upd H' a o') e' := by
  have kp : Kp A' H' (upd H' a o') := Kp.upd h na fun z => nt z.x
  refine ⟨⟨s.ext.fr, fun x u e z => ?_, s.ext.old, fun x h => ?_, fun t p hp => tab_upd h nt p.1 p.2 (s.ext.tab t p hp)⟩, ⟨s.rel.len, fun i d h => ?_, fun i d h => ?_, s.rel.ap, fun x h => ?_, s.rel.fz, fun p hp => tab_upd h nt p.1 p.2 (s.rel.tb p hp)⟩, s.sub, s.io, s.rdb⟩
  · have : x ≠ a := fun q => by subst q; rw [n] at e; cases e
    rw [upd_ne this]
    exact s.ext.keep x u e z
  · by_cases q : x = a
    · subst q; rw [upd_same]; simp
    · rw [upd_ne q]; exact s.ext.al x h
  · obtain ⟨v, e, q⟩ := s.rel.sh i d h
    exact ⟨v, e, q.mono (fun _ z => z) kp⟩
  · obtain ⟨b, e, nb, ob⟩ := s.rel.ow i d h
    have : b ≠ a := fun q => no ⟨i, ⟨d, h⟩, by rw [← q]; exact e⟩
    exact ⟨b, e, nb, ob.mono (fun _ z => z) kp fun u z => by rw [upd_ne this]; exact z⟩
  · by_cases q : x = a
    · subst q; rw [upd_same]; simp
    · rw [upd_ne q]; exact s.rel.dom x h
end
abbrev W0 : WX := fun _ _ _ _ => False
/-- one turn: what is put to the list, if anything -/
def lcStep (vs : List Nat) (tgt : GF) (tt : TF) (el : EF) (d : D) (env : En) : Option (Option D × En) :=
  if clean env vs = true then (match tgt d (wipeE env vs) with
    | some e1 => (match tt e1 with
      | .ok true e2 => (match el e2 with
        | .ok r e3 => (match frz e3 r with
          | some (y, e4) => some (some y, unwipe env e4 vs)
          | none => none)
        | _ => none)
      | .ok false e2 => some (none, unwipe env e2 vs)
      | _ => none)
    | none => none) else none
def lcGo (f : D → En → Option (Option D × En)) : List D → En → List D → Option (List D × En)
  | [], e, acc => some (acc, e)
  | d :: ds, e, acc => match f d e with
    | some (some y, e2) => if acc.length < LIM then lcGo f ds e2 (acc ++ [y]) else none
    | some (none, e2) => lcGo f ds e2 acc
    | none => none
def lcF (it : IF) (vs : List Nat) (tgt : GF) (tt : TF) (el : EF) : EF := fun env => (it env).bind fun items e => match lcGo (lcStep vs tgt tt el) items e [] with
  | some (acc, e2) => .ok (.tm (.list acc)) e2
  | none => .no
theorem wipe_eq {σ σ2 : L2.St} {vs : List Nat} (hl : σ2.length = σ.length) (off : ∀ j, j ∉ vs → σ2[j]? = (wipe σ vs)[j]?) : wipe σ2 vs = wipe σ vs := by
  refine List.ext_getElem? fun j => ?_
  by_cases h : j ∈ vs
  · by_cases l : j < σ.length
    · rw [wipe_in h l, wipe_in h (by omega)]
    · rw [List.getElem?_eq_none (by rw [wipe_length]; omega), List.getElem?_eq_none (by rw [wipe_length]; omega)]
  · rw [wipe_get h, off j h]
theorem lc_sound {X : Cx} {W : WX} {it : IF} {g : TG} {tgt : GF} {vs : List Nat} {tt : TF} {el : EF} (ht : TgOk (gd X W0) g tgt vs) {σ : L2.St} {H : Hp} {Q : VK} (h : tE (gd X W) (lcF it vs tgt tt el) σ H Q) :
    tLc (tI (gd X W) it) g (tT (gd X W0) tt) (tE (gd X W0) el) vs σ H Q := by
  obtain ⟨A, env, rel, h⟩ := h
  refine ⟨A, env, rel, (Post.cut h fun items e1 A1 H1 s1 h1 J hJ => ?_)⟩
  intro L hL
  obtain ⟨Gh, Y, w, hG, hY⟩ := hJ
  cases q0 : lcGo (lcStep vs tgt tt el) items e1 [] with
  | none => rw [q0] at h1; exact h1.elim
  | some p =>
    obtain ⟨accF, eF⟩ := p
    rw [q0] at h1
    have sL : Stp X.K A1 σ H1 e1 A1 σ (upd H1 L (.lst [])) e1 := Stp.same s1.rel (same_upd hL)
    refine lc_it w (fun i H' => ∃ A' e' acc xs, Stp X.K A1 σ H1 e1 A' σ H' e' ∧ H' L = some (.lst xs) ∧ RpL X.K A' H' acc xs ∧ ¬ A' L ∧ ¬ Ow σ e' L ∧ lcGo (lcStep vs tgt tt el) (items.drop i) e' acc = some (accF, eF)) ?_ ?_ ?_ ?_
    · refine ⟨A1, e1, [], [], sL, upd_same, .nil, fun z => s1.rel.dom L z hL, fun z => ?_, q0⟩
      obtain ⟨_, o, eo, _⟩ := s1.rel.owok z
      rw [hL] at eo; cases eo
    · rintro i H' _ ⟨A', e', acc, xs, s, _⟩
      exact hG A' H' s.ext.fr (s.ext.kp s1.rel)
    · rintro i x H' H2 hi ⟨A', e', acc, xs, s, hl, rl, na, no, q⟩ y
      obtain ⟨sm, d, ed, rp⟩ := hY i A' H' x H2 s.ext.fr (s.ext.kp s1.rel) y
      rw [drop_cons ed] at q
      have sS := Stp.same s.rel sm
      have s' := s.trans sS
      obtain ⟨na2, no2, hl2⟩ := sS.keepD na no hl
      have rl2 := rl.mono sS.ext.fr (sS.ext.kp s.rel)
      unfold lcGo at q
      cases q1 : lcStep vs tgt tt el d e' with
      | none => rw [q1] at q; cases q
      | some pr =>
        obtain ⟨oy, e''⟩ := pr
        rw [q1] at q
        unfold lcStep at q1
        by_cases c : clean e' vs = true
        · rw [if_pos c] at q1
          cases q2 : tgt d (wipeE e' vs) with
          | none => rw [q2] at q1; cases q1
          | some e2 =>
            rw [q2] at q1
            dsimp only at q1
            have rw0 := s'.rel.wipe (vs := vs)
            have now : ¬ Ow (wipe σ vs) (wipeE e' vs) L := fun ⟨j, z⟩ => no2 ⟨j, wipe_owi z⟩
            refine ht A' A' (wipe σ vs) (wipe σ vs) H2 H2 (wipeE e' vs) (wipeE e' vs) e2 d x _ (.refl rw0) rp q2 fun σ2 s2 l2 off => ?_
            have l2' : σ2.length = σ.length := l2.trans (wipe_length σ vs)
            refine ⟨wipe_eq l2' off, A', e2, s2.rel, ?_⟩
            cases q3 : tt e2 with
            | no => rw [q3] at q1; cases q1
            | ex _ _ => rw [q3] at q1; cases q1
            | ok b e3 =>
              rw [q3] at q1
              intro A3 H3 s3
              have s23 := s2.trans s3
              show if b = true then _ else _
              cases b with
              | false =>
                rw [if_neg Bool.false_ne_true]
                cases q1
                dsimp only at q
                have sU := Stp.unwipe s'.rel c s23 l2' off
                obtain ⟨na3, no3, hl3⟩ := sU.keepD na2 no2 hl2
                exact ⟨A3, _, acc, xs, s'.trans sU, hl3, rl2.mono sU.ext.fr (sU.ext.kp s'.rel), na3, no3, q⟩
              | true =>
                rw [if_pos rfl]
                dsimp only at q1
                refine ⟨A3, e3, s3.rel, ?_⟩
                cases q4 : el e3 with
                | no => rw [q4] at q1; cases q1
                | ex _ _ => rw [q4] at q1; cases q1
                | ok r e4 =>
                  rw [q4] at q1
                  dsimp only at q1
                  intro A4 H4 s4 v hv
                  cases q5 : frz e4 r with
                  | none => rw [q5] at q1; cases q1
                  | some pr =>
                    obtain ⟨y, e5⟩ := pr
                    rw [q5] at q1
                    cases q1
                    dsimp only at q
                    obtain ⟨A5, s5, f5, rpy, _⟩ := frz_ok s4 hv q5
                    have sU := Stp.unwipe s'.rel c (s23.trans s5) l2' off
                    obtain ⟨na5, no5, hl5⟩ := sU.keepD na2 no2 hl2
                    have st := s'.trans sU
                    have rl5 := rl2.mono sU.ext.fr (sU.ext.kp s'.rel)
                    by_cases cl : acc.length < LIM
                    · rw [if_pos cl] at q
                      have kp : Kp A5 H4 (upd H4 L (.lst (xs ++ [v]))) := Kp.upd hl5 na5 fun z => z
                      exact ⟨xs, hl5, by rw [← rl5.length, lim_eq]; exact cl, A5, _, acc ++ [y], xs ++ [v], st.updD hL na5 no5 hl5 (fun z => z), upd_same, (rl5.append (.cons rpy .nil)).mono (fun _ z => z) kp, na5, no5, q⟩
                    · rw [if_neg cl] at q; cases q
        · rw [if_neg c] at q1; cases q1
    · rintro H' ⟨A', e', acc, xs, s, hl, rl, na, no, q⟩
      rw [List.drop_length] at q
      cases q
      refine h1 A' H' (s1.trans s) (.ref L) ⟨L, rfl, na, no, ?_, xs, hl, rl⟩
      show H L = none
      cases q : H L with
      | none => rfl
      | some u => exact absurd hL (s1.ext.al L (by rw [q]; simp))
def yesF : TF := fun env => .ok true env
section
variable {X : Cx} {W : WX} {elt tg iter c : Expr} {ifs : List Expr} {scope : Scope} {own : List (Str × Nat)} {pos spos : Pos} {it : IF} {g : TG} {t : GF} {tt : TF} {el : EF}
theorem c_nil : PTs X [] (tT (gd X W) yesF) := ⟨fun pins s σ H Q I h => pts_nil.run pins s σ H Q I (by
  obtain ⟨A, env, rel, h⟩ := h
  exact h A H (.refl rel))⟩
theorem c_one (h : PT X c (tT (gd X W) tt)) : PTs X [c] (tT (gd X W) tt) := pts_one h
theorem e_lc (hc : X.calm = true) (hN : X.N.Nodup) (hi : PI X tg iter (tI (gd X W) it)) (ok : BlkOk X.N X.env.scope scope own) (ht : TgOk (gd X W0) g t (own.map (·.2)))
    (hb : ∀ (s : Shared) (H : Hp) (C : Addr) (cl : List (Str × Addr)) (fp : List Addr), PG (X.blk s H scope (compEnvC scope cl C X.env) fp) tg g ∧ PTs (X.blk s H scope (compEnvC scope cl C X.env) fp) ifs (tT (gd X W0) tt) ∧ PE (X.blk s H scope (compEnvC scope cl C X.env) fp) elt (tE (gd X W0) el))
    (hs : ∀ x, foldedSetIterable iter X.env x = pure x := by intro _; rfl) :
    PE X (.ListComp elt [⟨tg, iter, ifs, 0⟩] scope pos) (tE (gd X W) (lcF it (own.map (·.2)) t tt el)) :=
  PE.imp (pe_lc hc hN hi ok (fun s H C cl fp => (hb s H C cl fp).1) (fun s H C cl fp => (hb s H C cl fp).2.1) (fun s H C cl fp => (hb s H C cl fp).2.2) hs) fun σ H Q h => lc_sound ht h
theorem s_setLc (i : Nat) {y : Str} {py : Pos} (hc : X.calm = true) (hN : X.N.Nodup) (hi : PI X tg iter (tI (gd X W) it)) (ok : BlkOk X.N X.env.scope scope own) (ht : TgOk (gd X W0) g t (own.map (·.2)))
    (hb : ∀ (s : Shared) (H : Hp) (C : Addr) (cl : List (Str × Addr)) (fp : List Addr), PG (X.blk s H scope (compEnvC scope cl C X.env) fp) tg g ∧ PTs (X.blk s H scope (compEnvC scope cl C X.env) fp) ifs (tT (gd X W0) tt) ∧ PE (X.blk s H scope (compEnvC scope cl C X.env) fp) elt (tE (gd X W0) el))
    (hy : X.N[i]? = some y := by rfl) (hyl : X.env.scope.names.lookup y = some .local := by rfl)
    (hsw : swapsWith (.ListComp elt [⟨tg, iter, ifs, 0⟩] scope pos) (some (.Name y py)) spos.line X.env = pure true := by rfl)
    (hs : ∀ x, foldedSetIterable iter X.env x = pure x := by intro _; rfl) :
    PS X (.Assign [.Name y py] (.ListComp elt [⟨tg, iter, ifs, 0⟩] scope pos) spos) (tS (gd X W) (setF i (lcF it (own.map (·.2)) t tt el))) :=
  PS.imp (ps_setLc hc hN hy hyl hsw hi ok (fun s H C cl fp => (hb s H C cl fp).1) (fun s H C cl fp => (hb s H C cl fp).2.1) (fun s H C cl fp => (hb s H C cl fp).2.2) hs) fun Z σ H h => by
    obtain ⟨A, env, rel, h⟩ := h
    exact lc_sound (W := W) ht ⟨A, env, rel, SPost.cut h fun r e1 A1 H1 s1 h1 v hv => asg_ok s1 hv h1⟩
end
end VL


set_option Elab.async false
set_option linter.all false
set_option maxRecDepth 100000
set_option maxHeartbeats 2000000
namespace VL
open PySem PySem.Spec PyProof.Rows L2
variable [TbP]

/-! ### functions: what is handed in, what comes back -/
inductive Ag where
  | sh (d : D) | ob (d : D)
def Ag.sl : Ag → Sl
  | .sh d => .sh d
  | .ob d => .io d
inductive Fr where
  | ret (own : Bool) (d : D) (e : En) | exc (x : Xc) (e : En) | no
def pick : Ag → Sl → Sl
  | .ob _, s => s
  | .sh d, _ => .sh d
def outE (as : List Ag) (e : En) : En := List.zipWith pick as e
def runF (np n : Nat) (body : SF) (as : List Ag) : Fr := if as.length = np then (match body (as.map Ag.sl ++ List.replicate (n - np) .un) with
  | .nx e => .ret false .none (outE as e)
  | .rt (.sh d) e => .ret false d (outE as e)
  | .rt (.tm d) e => .ret true d (outE as e)
  | .rt (.bo j) e => (match e[j]? with
    | some (.ow d) => .ret true d (outE as e)
    | _ => (match frz e (.bo j) with
      | some (d, e2) => .ret false d (outE as e2)
      | none => .no))
  | .ex x e => .exc x (outE as e)
  | _ => .no) else .no
abbrev FD := List Ag → Fr
def ResOk (K : Frag) (A' : AS) (H H' : Hp) (vs : List V) (e : En) (own : Bool) (d : D) (v : V) : Prop := match own with
  | true => ∃ a, v = .ref a ∧ ¬ A' a ∧ H a = none ∧ ¬ Ow (vs.map some) e a ∧ Ob K A' H' a d
  | false => Rp K A' H' d v
def spF (K : Frag) (mg : Str → Option Value) (F : FD) : Sp := fun vs H Q E => ∃ A as, Rel K A (vs.map some) H (as.map Ag.sl) ∧ match F as with
  | .ret own d e => ∀ A' H' v, Stp K A (vs.map some) H (as.map Ag.sl) A' (vs.map some) H' e → ResOk K A' H H' vs e own d v → Q v H'
  | .exc x e => ∀ A' H' c dd, Stp K A (vs.map some) H (as.map Ag.sl) A' (vs.map some) H' e → XOk ⟨K, mg, W0⟩ A' H' x c dd → E c dd H'
  | .no => False
theorem pad_get {α : Type} {l : List α} {m i : Nat} {x : α} (h : i < l.length) : (l ++ List.replicate m x)[i]? = l[i]? := by rw [List.getElem?_append_left h]
theorem pad_in {α : Type} {l : List α} {m i : Nat} {x y : α} (h : (l ++ List.replicate m x)[i]? = some y) : l[i]? = some y ∨ (l.length ≤ i ∧ y = x) := by
  by_cases c : i < l.length
  · rw [pad_get c] at h; exact .inl h
  · rw [List.getElem?_append_right (by omega), List.getElem?_replicate] at h
    split at h
    · exact .inr ⟨by omega, (Option.some.inj h).symm⟩
    · cases h
section
variable {K : Frag} {A A' : AS} {σ σ' : L2.St} {H H' : Hp} {env e' : En} {m : Nat}
theorem pad_owi {i : Nat} {a : Addr} : Owi (σ ++ List.replicate m none) (env ++ List.replicate m .un) i a → Owi σ env i a := fun ⟨⟨d, h⟩, e⟩ => by
  have h' : isOwn env i d := by
    rcases h with h | h
    · rcases pad_in h with h | ⟨_, h⟩
      · exact .inl h
      · cases h
    · rcases pad_in h with h | ⟨_, h⟩
      · exact .inr h
      · cases h
  rcases pad_in e with e | ⟨_, e⟩
  · exact ⟨⟨d, h'⟩, e⟩
  · cases e
theorem Rel.pad (r : Rel K A σ H env) : Rel K A (σ ++ List.replicate m none) H (env ++ List.replicate m .un) := by
  have up : ∀ {i : Nat} {x : Option V}, σ[i]? = some x → (σ ++ List.replicate m none)[i]? = some x := fun {i x} h => by
    rw [pad_get (List.getElem?_eq_some_iff.mp h).1]; exact h
  refine ⟨by simp [r.len], fun i d h => ?_, fun i d h => ?_, fun i j a h1 h2 => r.ap i j a (pad_owi h1) (pad_owi h2), r.dom, fun i d h => ?_, r.tb⟩
  · have h' : env[i]? = some (.sh d) ∨ env[i]? = some (.iz d) := by
      rcases h with h | h
      · rcases pad_in h with h | ⟨_, h⟩
        · exact .inl h
        · cases h
      · rcases pad_in h with h | ⟨_, h⟩
        · exact .inr h
        · cases h
    obtain ⟨v, e, q⟩ := r.sh i d h'
    exact ⟨v, up e, q⟩
  · have h' : isOwn env i d := by
      rcases h with h | h
      · rcases pad_in h with h | ⟨_, h⟩
        · exact .inl h
        · cases h
      · rcases pad_in h with h | ⟨_, h⟩
        · exact .inr h
        · cases h
    obtain ⟨a, e, q⟩ := r.ow i d h'
    exact ⟨a, up e, q⟩
  · rcases pad_in h with h | ⟨_, h⟩
    · obtain ⟨a, e, q⟩ := r.fz i d h
      exact ⟨a, up e, q⟩
    · cases h
theorem outE_get {as : List Ag} {e : En} {i : Nat} {s : Sl} (h : (outE as e)[i]? = some s) : ∃ a t, as[i]? = some a ∧ e[i]? = some t ∧ s = pick a t := by
  unfold outE at h
  rw [List.getElem?_zipWith] at h
  cases q1 : as[i]? with
  | none => rw [q1] at h; cases h
  | some a =>
    cases q2 : e[i]? with
    | none => rw [q1, q2] at h; cases h
    | some t => rw [q1, q2] at h; cases h; exact ⟨a, t, rfl, rfl, rfl⟩
theorem outE_at {as : List Ag} {e : En} {i : Nat} {a : Ag} {t : Sl} (h1 : as[i]? = some a) (h2 : e[i]? = some t) : (outE as e)[i]? = some (pick a t) := by
  unfold outE
  rw [List.getElem?_zipWith, h1, h2]
/-- what of a callee's end its caller sees -/
theorem Stp.pars {vs : List V} {as : List Ag} (r : Rel K A (vs.map some) H (as.map Ag.sl)) (s : Stp K A (vs.map some ++ List.replicate m none) H (as.map Ag.sl ++ List.replicate m .un) A' σ' H' e') : Stp K A (vs.map some) H (as.map Ag.sl) A' (vs.map some) H' (outE as e') := by
  have len : vs.length = as.length := by simpa using r.len
  have rp := r.pad (m := m)
  have kp : Kp A H H' := s.ext.kp rp
  have owO : ∀ a, Ow (vs.map some ++ List.replicate m none) (as.map Ag.sl ++ List.replicate m .un) a → Ow (vs.map some) (as.map Ag.sl) a := fun a ⟨i, h⟩ => ⟨i, pad_owi h⟩
  -- an ob's slot
  have ob : ∀ (i : Nat) (d : D), as[i]? = some (Ag.ob d) → σ'[i]? = (vs.map some)[i]? ∧ ∃ d' : D, e'[i]? = some (Sl.io d') ∨ e'[i]? = some (Sl.iz d') := fun i d h => by
    have lt : i < as.length := (List.getElem?_eq_some_iff.mp h).1
    have e1 : (as.map Ag.sl ++ List.replicate m .un)[i]? = some (.io d) := by
      rw [pad_get (by simpa using lt), List.getElem?_map, h]; rfl
    obtain ⟨q, z⟩ := s.io i d (.inl e1)
    exact ⟨by rw [q, pad_get (by simpa [len] using lt)], z⟩
  have own : ∀ (i : Nat) (d : D), isOwn (outE as e') i d → (∃ d0, as[i]? = some (Ag.ob d0)) ∧ e'[i]? = some (Sl.io d) := fun i d h => by
    rcases h with h | h
    · obtain ⟨a, t, h1, h2, h3⟩ := outE_get h
      cases a with
      | sh d0 => cases h3
      | ob d0 =>
        obtain ⟨_, d', z⟩ := ob i d0 h1
        have h3' : t = .ow d := h3.symm
        rw [h2, h3'] at z
        rcases z with z | z <;> cases z
    · obtain ⟨a, t, h1, h2, h3⟩ := outE_get h
      cases a with
      | sh d0 => cases h3
      | ob d0 =>
        have h3' : t = .io d := h3.symm
        exact ⟨⟨d0, h1⟩, by rw [h2, h3']⟩
  have owi : ∀ i a, Owi (vs.map some) (outE as e') i a → Owi σ' e' i a := fun i a ⟨⟨d, h⟩, e⟩ => by
    obtain ⟨⟨d0, h1⟩, h2⟩ := own i d h
    obtain ⟨q, _⟩ := ob i d0 h1
    exact ⟨⟨d, .inr h2⟩, by rw [q]; exact e⟩
  have lenE : as.length ≤ e'.length := by
    rcases Nat.lt_or_ge e'.length as.length with c | c
    · exfalso
      -- the slot of a parameter stands
      have h0 : ∃ a, as[e'.length]? = some a := ⟨_, List.getElem?_eq_getElem c⟩
      obtain ⟨a, h0⟩ := h0
      have e1 : (as.map Ag.sl ++ List.replicate m .un)[e'.length]? = some a.sl := by
        rw [pad_get (by simpa using c), List.getElem?_map, h0]; rfl
      have := s.rdb e'.length (by unfold rdAt; rw [e1]; cases a <;> simp [Ag.sl, Sl.rd])
      unfold rdAt at this
      rw [List.getElem?_eq_none (Nat.le_refl _)] at this
      exact this rfl
    · exact c
  refine ⟨⟨s.ext.fr, fun a o e n => s.ext.keep a o e fun z => n (owO a z), fun a h => (s.ext.old a h).imp id fun z => z.imp id (owO a), s.ext.al, s.ext.tab⟩, ⟨by simp [outE, len]; omega, fun i d h => ?_, fun i d h => ?_, fun i j a h1 h2 => s.rel.ap i j a (owi i a h1) (owi j a h2), s.rel.dom, fun i d h => ?_, s.rel.tb⟩,
    fun a ⟨i, h⟩ => (s.sub a ⟨i, owi i a h⟩).imp (owO a) id, fun i d h => ?_, fun i h => ?_⟩
  · rcases h with h | h
    · obtain ⟨a, t, h1, h2, h3⟩ := outE_get h
      cases a with
      | sh d0 =>
        cases h3
        obtain ⟨v, e, q⟩ := r.sh i d (.inl (by rw [List.getElem?_map, h1]; rfl))
        exact ⟨v, e, q.mono s.ext.fr kp⟩
      | ob d0 =>
        obtain ⟨_, d', z⟩ := ob i d0 h1
        have h3' : t = .sh d := h3.symm
        rw [h2, h3'] at z
        rcases z with z | z <;> cases z
    · obtain ⟨a, t, h1, h2, h3⟩ := outE_get h
      cases a with
      | sh d0 => cases h3
      | ob d0 =>
        have h3' : t = .iz d := h3.symm
        obtain ⟨q, _⟩ := ob i d0 h1
        rw [← q]
        exact s.rel.sh i d (.inr (by rw [h2, h3']))
  · obtain ⟨⟨d0, h1⟩, h2⟩ := own i d h
    obtain ⟨q, _⟩ := ob i d0 h1
    rw [← q]
    exact s.rel.ow i d (.inr h2)
  · obtain ⟨a, t, h1, h2, h3⟩ := outE_get h
    cases a with
    | sh d0 => cases h3
    | ob d0 =>
      have h3' : t = .iz d := h3.symm
      obtain ⟨q, _⟩ := ob i d0 h1
      rw [← q]
      exact s.rel.fz i d (by rw [h2, h3'])
  · refine ⟨rfl, ?_⟩
    have : ∃ d0, as[i]? = some (.ob d0) := by
      rw [List.getElem?_map] at h
      cases q : as[i]? with
      | none => rw [q] at h; rcases h with h | h <;> cases h
      | some a =>
        rw [q] at h
        cases a with
        | sh d0 => rcases h with h | h <;> cases h
        | ob d0 => exact ⟨d0, rfl⟩
    obtain ⟨d0, h1⟩ := this
    obtain ⟨_, d', z⟩ := ob i d0 h1
    rcases z with z | z
    · exact ⟨d', .inl (outE_at h1 z)⟩
    · exact ⟨d', .inr (outE_at h1 z)⟩
  · unfold rdAt at h ⊢
    rw [List.getElem?_map] at h
    cases q : as[i]? with
    | none => rw [q] at h; exact absurd rfl h
    | some a =>
      have lt : i < as.length := (List.getElem?_eq_some_iff.mp q).1
      obtain ⟨t, ht⟩ : ∃ t, e'[i]? = some t := ⟨_, List.getElem?_eq_getElem (by omega)⟩
      rw [outE_at q ht]
      cases a with
      | sh d0 => simp [pick, Sl.rd]
      | ob d0 =>
        obtain ⟨_, d', z⟩ := ob i d0 q
        rw [ht] at z
        rcases z with z | z <;> (cases z; simp [pick, Sl.rd])
end
theorem spF_len {K : Frag} {mg : Str → Option Value} {np n : Nat} {body : SF} {vs : List V} {H : Hp} {Q : VK} {E : XK} (h : spF K mg (runF np n body) vs H Q E) : vs.length = np := by
  obtain ⟨A, as, r, h⟩ := h
  have len : vs.length = as.length := by simpa using r.len
  by_cases c : as.length = np
  · omega
  · rw [runF, if_neg c] at h; exact h.elim
theorem body_end {K : Frag} {mg : Str → Option Value} {N : List Str} {body : SF} {ps : List Str} {vs : List V} {H : Hp} {Q : VK} {E : XK} (h : spF K mg (runF ps.length N.length body) vs H Q E) :
    tS ⟨K, mg, fun cls d _ H => E cls d H⟩ body { nx := fun _ H' => Q .non H', rt := Q } (L2.start N vs) H := by
  have hl := spF_len h
  obtain ⟨B, as, r, h⟩ := h
  have len : vs.length = as.length := by simpa using r.len
  have c : as.length = ps.length := by omega
  rw [runF, if_pos c] at h
  have est : L2.start N vs = vs.map some ++ List.replicate (N.length - ps.length) none := by unfold L2.start; rw [hl]
  rw [est]
  refine ⟨B, as.map Ag.sl ++ List.replicate (N.length - ps.length) .un, r.pad, ?_⟩
  cases q : body (as.map Ag.sl ++ List.replicate (N.length - ps.length) .un) with
  | nx e =>
    rw [q] at h
    exact fun A' σ' H' s' => h A' H' .non (Stp.pars r s') (rp_non (K := K) (A := A') (H := H'))
  | bk e => rw [q] at h; exact h.elim
  | ct e => rw [q] at h; exact h.elim
  | no => rw [q] at h; exact h.elim
  | ex x e =>
    rw [q] at h
    exact fun A' σ' H' c d s' hx => h A' H' c d (Stp.pars r s') hx
  | rt rv e =>
    rw [q] at h
    intro A' σ' H' v s' hv
    have subO : ∀ a, Ow (vs.map some) (outE as e) a → Ow σ' e a := fun a ⟨i, ⟨d, hd⟩, ea⟩ => by
      have sp := Stp.pars r s'
      -- the slot is a parameter's, in the callee's own slots
      rcases hd with hd | hd
      · obtain ⟨ag, t, h1, h2, h3⟩ := outE_get hd
        cases ag with
        | sh d0 => cases h3
        | ob d0 =>
          have h3' : t = .ow d := h3.symm
          have lt : i < as.length := (List.getElem?_eq_some_iff.mp h1).1
          have e1 : (as.map Ag.sl ++ List.replicate (N.length - ps.length) .un)[i]? = some (.io d0) := by
            rw [pad_get (by simpa using lt), List.getElem?_map, h1]; rfl
          obtain ⟨_, d', z⟩ := s'.io i d0 (.inl e1)
          rw [h2, h3'] at z
          rcases z with z | z <;> cases z
      · obtain ⟨ag, t, h1, h2, h3⟩ := outE_get hd
        cases ag with
        | sh d0 => cases h3
        | ob d0 =>
          have h3' : t = .io d := h3.symm
          have lt : i < as.length := (List.getElem?_eq_some_iff.mp h1).1
          have e1 : (as.map Ag.sl ++ List.replicate (N.length - ps.length) .un)[i]? = some (.io d0) := by
            rw [pad_get (by simpa using lt), List.getElem?_map, h1]; rfl
          obtain ⟨qq, _⟩ := s'.io i d0 (.inl e1)
          rw [pad_get (by simpa [len] using lt)] at qq
          exact ⟨i, ⟨d, .inr (by rw [h2, h3'])⟩, by rw [qq]; exact ea⟩
    cases rv with
    | sh d => exact h A' H' v (Stp.pars r s') hv
    | tm d =>
      obtain ⟨a, ea, na, no, fr, ob⟩ := hv
      exact h A' H' v (Stp.pars r s') ⟨a, ea, na, fr, fun z => no (subO a z), ob⟩
    | bo j =>
      dsimp only at h
      have fz : ∀ (h : (match (match frz e (.bo j) with
          | some (d, e2) => Fr.ret false d (outE as e2)
          | none => .no) with
        | .ret own d e => ∀ A' H' v, Stp K B (vs.map some) H (as.map Ag.sl) A' (vs.map some) H' e → ResOk K A' H H' vs e own d v → Q v H'
        | .exc x e => ∀ A' H' c dd, Stp K B (vs.map some) H (as.map Ag.sl) A' (vs.map some) H' e → XOk ⟨K, mg, W0⟩ A' H' x c dd → E c dd H'
        | .no => False)), Q v H' := fun h => by
        cases q2 : frz e (.bo j) with
        | none => rw [q2] at h; exact h.elim
        | some p =>
          obtain ⟨d, e2⟩ := p
          rw [q2] at h
          obtain ⟨A2, s2, f2, rp, _⟩ := frz_ok s' hv q2
          exact h A2 H' v (Stp.pars r s2) rp
      cases q2 : e[j]? with
      | none => rw [q2] at h; exact fz h
      | some sl =>
        rw [q2] at h
        cases sl with
        | un => exact fz h
        | sh d => exact fz h
        | io d => exact fz h
        | iz d => exact fz h
        | ow d =>
          dsimp only at h
          obtain ⟨a, ea, na, ob⟩ := s'.rel.ow j d (.inl q2)
          have ev : v = .ref a := by
            have := hv.1
            rw [ea] at this
            exact (Option.some.inj (Option.some.inj this)).symm
          refine h A' H' v (Stp.pars r s') ⟨a, ev, na, ?_, fun z => ?_, ob⟩
          · rcases s'.sub a ⟨j, ⟨d, .inl q2⟩, ea⟩ with z | z
            · exfalso
              obtain ⟨i, ⟨d0, hd⟩, e0⟩ := z
              have hio : ∃ d0, (as.map Ag.sl ++ List.replicate (N.length - ps.length) .un)[i]? = some (.io d0) := by
                rcases hd with hd | hd
                · rcases pad_in hd with h1 | ⟨_, h1⟩
                  · rw [List.getElem?_map] at h1
                    cases q3 : as[i]? with
                    | none => rw [q3] at h1; cases h1
                    | some ag => rw [q3] at h1; cases ag <;> cases h1
                  · cases h1
                · exact ⟨d0, hd⟩
              obtain ⟨d1, hio⟩ := hio
              obtain ⟨qq, d', z⟩ := s'.io i d1 (.inl hio)
              rw [e0] at qq
              rcases z with z | z
              · have := s'.rel.ap i j a ⟨⟨d', .inr z⟩, qq⟩ ⟨⟨d, .inl q2⟩, ea⟩
                subst this
                rw [q2] at z; cases z
              · obtain ⟨b, eb, hA⟩ := s'.rel.fz i d' z
                rw [qq] at eb; cases eb
                exact na hA
            · exact z
          · obtain ⟨i, ⟨d0, hd⟩, e0⟩ := z
            rcases hd with hd | hd
            · obtain ⟨ag, t, h1, h2, h3⟩ := outE_get hd
              cases ag with
              | sh d0 => cases h3
              | ob d1 =>
                have h3' : t = .ow d0 := h3.symm
                have lt : i < as.length := (List.getElem?_eq_some_iff.mp h1).1
                have e1 : (as.map Ag.sl ++ List.replicate (N.length - ps.length) .un)[i]? = some (.io d1) := by
                  rw [pad_get (by simpa using lt), List.getElem?_map, h1]; rfl
                obtain ⟨_, d', z⟩ := s'.io i d1 (.inl e1)
                rw [h2, h3'] at z
                rcases z with z | z <;> cases z
            · obtain ⟨ag, t, h1, h2, h3⟩ := outE_get hd
              cases ag with
              | sh d0 => cases h3
              | ob d1 =>
                have h3' : t = .io d0 := h3.symm
                have lt : i < as.length := (List.getElem?_eq_some_iff.mp h1).1
                have e1 : (as.map Ag.sl ++ List.replicate (N.length - ps.length) .un)[i]? = some (.io d1) := by
                  rw [pad_get (by simpa using lt), List.getElem?_map, h1]; rfl
                obtain ⟨qq, _⟩ := s'.io i d1 (.inl e1)
                rw [pad_get (by simpa [len] using lt)] at qq
                have := s'.rel.ap i j a ⟨⟨d0, .inr (by rw [h2, h3'])⟩, by rw [qq]; exact e0⟩ ⟨⟨d, .inl q2⟩, ea⟩
                subst this
                rw [h2, h3'] at q2; cases q2
/-- a def's body keeps what the def promises -/
theorem fn_ok {P : Program} {w : World} {K : Frag} {mg : Str → Option Value} {base : Heap} {x qual : Str} {st : Stmt} {f : Addr} {fd : FuncData} {N ps : List Str} {k : Nat} {body : SF} {np n : Nat} (F : Fun K x qual st f fd) (S : FnScope N ps (defScope st)) (hnp : ps.length = np) (hn : N.length = n)
    (hb : ∀ (cdv : Value) (A : Around) (outer : List Env) (s : Shared) (H : Hp) (E : XK), Room k (A.deeper (envOfC qual (defScope st) s.heap.objs.size f cdv)) →
      PSs (cxOf (L2.CX P w) P w K mg base N qual (defScope st) f cdv A outer s H E) (defBody st) (tS ⟨K, mg, fun cls d _ H => E cls d H⟩ body)) : FnOk P w K mg base (L2.CX P w) (k + 1) f fd ps (spF K mg (runF np n body)) := by
  subst hnp hn
  refine F.okX S (fun vs H Q E h => spF_len h) fun cdv A outer s H vs Q E hr h => ⟨_, hb cdv A outer s H E hr, body_end h⟩
end VL


set_option Elab.async false
set_option linter.all false
set_option maxRecDepth 100000
set_option maxHeartbeats 2000000
namespace VL
open PySem PySem.Spec PyProof.Rows L2
variable [TbP]

/-! ### calls -/
def agOf (e : En) : Rv → Option Ag
  | .sh d => some (.sh d)
  | .tm d => some (.ob d)
  | .bo i => match e[i]? with
    | some (.ow d) => some (.ob d)
    | some (.io d) => some (.ob d)
    | some (.sh d) => some (.sh d)
    | some (.iz d) => some (.sh d)
    | _ => none
def agsOf (e : En) : List Rv → Option (List Ag)
  | [] => some []
  | r :: rs => match agOf e r, agsOf e rs with
    | some a, some as => some (a :: as)
    | _, _ => none
def isBo (i : Nat) : Rv → Bool
  | .bo j => i == j
  | _ => false
/-- no owned thing is handed in twice -/
def once (e : En) : List Rv → Bool
  | [] => true
  | .bo i :: rs => ((mutS e i).isNone || !(rs.any (isBo i))) && once e rs
  | _ :: rs => once e rs
def lookB (j : Nat) : List Rv → En → Option Sl
  | .bo i :: rs, s :: ss => if i = j then some s else lookB j rs ss
  | _ :: rs, _ :: ss => lookB j rs ss
  | _, _ => none
def backS (s0 : Sl) (o : Option Sl) : Sl := match s0, o with
  | .ow _, some (.io d) => .ow d
  | .ow _, some (.iz d) => .sh d
  | .io _, some (.io d) => .io d
  | .io _, some (.iz d) => .iz d
  | s, _ => s
def backE (e : En) (rs : List Rv) (ss : En) : En := e.mapIdx fun j s => backS s (lookB j rs ss)
def callF (F : FD) (fs : AF) : EF := fun env => (fs env).bind fun rs e => match agsOf e rs with
  | some as => if once e rs = true then (match F as with
    | .ret true d ss => .ok (.tm d) (backE e rs ss)
    | .ret false d ss => .ok (.sh d) (backE e rs ss)
    | .exc x ss => .ex x (backE e rs ss)
    | .no => .no) else .no
  | none => .no
theorem agsOf_len {e : En} : ∀ {rs : List Rv} {as : List Ag}, agsOf e rs = some as → as.length = rs.length
  | [], as, h => by cases h; rfl
  | r :: rs, as, h => by
    unfold agsOf at h
    cases q1 : agOf e r with
    | none => rw [q1] at h; cases h
    | some a =>
      cases q2 : agsOf e rs with
      | none => rw [q1, q2] at h; cases h
      | some as' => rw [q1, q2] at h; cases h; simp [agsOf_len q2]
theorem agsOf_at {e : En} : ∀ {rs : List Rv} {as : List Ag} {k : Nat} {a : Ag}, agsOf e rs = some as → as[k]? = some a → ∃ r, rs[k]? = some r ∧ agOf e r = some a
  | [], as, k, a, h, q => by cases h; simp at q
  | r :: rs, as, k, a, h, q => by
    unfold agsOf at h
    cases q1 : agOf e r with
    | none => rw [q1] at h; cases h
    | some a0 =>
      cases q2 : agsOf e rs with
      | none => rw [q1, q2] at h; cases h
      | some as' =>
        rw [q1, q2] at h; cases h
        cases k with
        | zero => simp at q; subst q; exact ⟨r, rfl, q1⟩
        | succ k => exact agsOf_at (k := k) q2 (by simpa using q)
theorem once_spec {e : En} {i : Nat} : ∀ {rs : List Rv} {k l : Nat}, once e rs = true → rs[k]? = some (.bo i) → rs[l]? = some (.bo i) → (mutS e i).isSome = true → k = l
  | [], k, l, _, h, _, _ => by simp at h
  | r :: rs, k, l, o, h1, h2, m => by
    have o' : once e rs = true := by
      cases r with
      | bo j => unfold once at o; rw [Bool.and_eq_true] at o; exact o.2
      | sh d => exact o
      | tm d => exact o
    have key : ∀ {n : Nat}, r = .bo i → rs[n]? = some (.bo i) → False := fun {n} er hn => by
      subst er
      unfold once at o
      rw [Bool.and_eq_true, Bool.or_eq_true] at o
      rcases o.1 with z | z
      · rw [Option.isNone_iff_eq_none] at z; rw [z] at m; cases m
      · have : rs.any (isBo i) = true := List.any_eq_true.mpr ⟨_, List.mem_of_getElem? hn, by simp [isBo]⟩
        rw [this] at z; cases z
    cases k with
    | zero =>
      cases l with
      | zero => rfl
      | succ l => exact (key (Option.some.inj h1) (by simpa using h2)).elim
    | succ k =>
      cases l with
      | zero => exact (key (Option.some.inj h2) (by simpa using h1)).elim
      | succ l => exact congrArg (· + 1) (once_spec (k := k) (l := l) o' (by simpa using h1) (by simpa using h2) m)
section
variable {K : Frag} {A A' A1 : AS} {σ : L2.St} {H H' H1 : Hp} {env e1 : En}
theorem rvs_at : ∀ {rs : List Rv} {vs : List V} {k : Nat} {r : Rv} {F : AS}, RvsOk K A σ H env F rs vs → rs[k]? = some r → ∃ v, vs[k]? = some v ∧ RvOk K A σ H env F r v
  | [], _, _, _, _, _, q => by simp at q
  | r0 :: rs, vs, k, r, F, h, q => by
    obtain ⟨v, t, rfl, h1, h2⟩ := h
    cases k with
    | zero => simp at q; subst q; exact ⟨v, rfl, h1⟩
    | succ k =>
      obtain ⟨w, e, g⟩ := rvs_at (k := k) h2 (by simpa using q)
      exact ⟨w, by simpa using e, g.weak fun a _ _ z => z.1⟩
theorem rvs_len : ∀ {rs : List Rv} {vs : List V} {F : AS}, RvsOk K A σ H env F rs vs → vs.length = rs.length
  | [], vs, _, h => by
    have h2 : vs = [] := h
    simp [h2]
  | _ :: _, _, _, h => by obtain ⟨v, t, rfl, _, h2⟩ := h; simp [rvs_len h2]
theorem rvs_ne : ∀ {rs : List Rv} {vs : List V} {F : AS} {k l : Nat} {d d' : D} {a : Addr}, RvsOk K A σ H env F rs vs → rs[k]? = some (.tm d) → rs[l]? = some (.tm d') → vs[k]? = some (.ref a) → vs[l]? = some (.ref a) → k = l
  | [], _, _, _, _, _, _, _, _, h, _, _, _ => by simp at h
  | r :: rs, vs, F, k, l, d, d', a, h, h1, h2, h3, h4 => by
    obtain ⟨v, t, rfl, g1, g2⟩ := h
    have key : ∀ {n : Nat} {d0 : D}, r.isTm = true → v = .ref a → rs[n]? = some (.tm d0) → t[n]? = some (.ref a) → False := fun {n d0} it ev q1 q2 => by
      obtain ⟨w, e, g⟩ := rvs_at g2 q1
      rw [q2] at e; cases e
      obtain ⟨b, eb, _, _, f, _⟩ := g
      cases eb
      exact f.2 it ev
    cases k with
    | zero =>
      cases l with
      | zero => rfl
      | succ l =>
        simp at h1 h3
        subst h1 h3
        exact (key rfl rfl (by simpa using h2) (by simpa using h4)).elim
    | succ k =>
      cases l with
      | zero =>
        simp at h2 h4
        subst h2 h4
        exact (key rfl rfl (by simpa using h1) (by simpa using h3)).elim
      | succ l => rw [rvs_ne g2 (k := k) (l := l) (by simpa using h1) (by simpa using h2) (by simpa using h3) (by simpa using h4)]
variable {rs : List Rv} {vs : List V} {as : List Ag}
/-- an argument that is owned -/
theorem arg_ob (rel : Rel K A1 σ H1 e1) (hv : RvsOk K A1 σ H1 e1 (fun a => H a = none) rs vs) (ha : agsOf e1 rs = some as) {k : Nat} {d : D} (h : as[k]? = some (.ob d)) :
    ∃ a, vs[k]? = some (.ref a) ∧ ¬ A1 a ∧ Ob K A1 H1 a d ∧ ((rs[k]? = some (.tm d) ∧ H a = none ∧ ¬ Ow σ e1 a) ∨ ∃ i, rs[k]? = some (.bo i) ∧ isOwn e1 i d ∧ Owi σ e1 i a) := by
  obtain ⟨r, hr, hg⟩ := agsOf_at ha h
  obtain ⟨v, ev, g⟩ := rvs_at hv hr
  cases r with
  | sh d' => cases hg
  | tm d' =>
    cases hg
    obtain ⟨a, ea, na, no, f, ob⟩ := g
    subst ea
    exact ⟨a, ev, na, ob, .inl ⟨hr, f, no⟩⟩
  | bo i =>
    have ho : isOwn e1 i d := by
      unfold agOf at hg
      dsimp only at hg
      cases q : e1[i]? with
      | none => rw [q] at hg; cases hg
      | some s =>
        rw [q] at hg
        cases s with
        | ow d' => cases hg; exact .inl q
        | io d' => cases hg; exact .inr q
        | _ => cases hg
    obtain ⟨a, ea, na, ob⟩ := rel.ow i d ho
    rw [g.1] at ea; cases ea
    exact ⟨a, ev, na, ob, .inr ⟨i, hr, ho, ⟨⟨d, ho⟩, g.1⟩⟩⟩
theorem arg_sh (rel : Rel K A1 σ H1 e1) (hv : RvsOk K A1 σ H1 e1 (fun a => H a = none) rs vs) (ha : agsOf e1 rs = some as) {k : Nat} {d : D} (h : as[k]? = some (.sh d)) : ∃ v, vs[k]? = some v ∧ Rp K A1 H1 d v := by
  obtain ⟨r, hr, hg⟩ := agsOf_at ha h
  obtain ⟨v, ev, g⟩ := rvs_at hv hr
  cases r with
  | sh d' => cases hg; exact ⟨v, ev, g⟩
  | tm d' => cases hg
  | bo i =>
    unfold agOf at hg
    dsimp only at hg
    cases q : e1[i]? with
    | none => rw [q] at hg; cases hg
    | some s =>
      rw [q] at hg
      cases s with
      | sh d' =>
        cases hg
        obtain ⟨w, ew, r⟩ := rel.sh i d (.inl q)
        rw [g.1] at ew; cases ew
        exact ⟨v, ev, r⟩
      | iz d' =>
        cases hg
        obtain ⟨w, ew, r⟩ := rel.sh i d (.inr q)
        rw [g.1] at ew; cases ew
        exact ⟨v, ev, r⟩
      | _ => cases hg
theorem obs_slot {i : Nat} {d : D} (h : isOwn (as.map Ag.sl) i d) : as[i]? = some (.ob d) := by
  unfold isOwn at h
  rw [List.getElem?_map] at h
  cases q : as[i]? with
  | none => rw [q] at h; rcases h with h | h <;> cases h
  | some a =>
    rw [q] at h
    cases a with
    | sh d' => rcases h with h | h <;> cases h
    | ob d' => rcases h with h | h <;> cases h; rfl
theorem vs_map {i : Nat} {v : V} : (vs.map some)[i]? = some (some v) ↔ vs[i]? = some v := by
  rw [List.getElem?_map]
  cases vs[i]? <;> simp
/-- the callee's parameters, as they are handed in -/
theorem Rel.args (rel : Rel K A1 σ H1 e1) (hv : RvsOk K A1 σ H1 e1 (fun a => H a = none) rs vs) (ha : agsOf e1 rs = some as) (ho : once e1 rs = true) : Rel K A1 (vs.map some) H1 (as.map Ag.sl) := by
  have l1 := rvs_len hv
  have l2 := agsOf_len ha
  refine ⟨by simp [l1, l2], fun i d h => ?_, fun i d h => ?_, fun i j a ⟨⟨d1, h1⟩, e1'⟩ ⟨⟨d2, h2⟩, e2'⟩ => ?_, rel.dom, fun i d h => ?_, rel.tb⟩
  · have : as[i]? = some (.sh d) := by
      rw [List.getElem?_map] at h
      cases q : as[i]? with
      | none => rw [q] at h; rcases h with h | h <;> cases h
      | some a =>
        rw [q] at h
        cases a with
        | sh d' => rcases h with h | h <;> cases h; rfl
        | ob d' => rcases h with h | h <;> cases h
    obtain ⟨v, ev, r⟩ := arg_sh rel hv ha this
    exact ⟨v, vs_map.mpr ev, r⟩
  · obtain ⟨a, ev, na, ob, _⟩ := arg_ob rel hv ha (obs_slot h)
    exact ⟨a, vs_map.mpr ev, na, ob⟩
  · obtain ⟨b, ev, _, _, w1⟩ := arg_ob rel hv ha (obs_slot h1)
    obtain ⟨c, ev2, _, _, w2⟩ := arg_ob rel hv ha (obs_slot h2)
    rw [vs_map] at e1' e2'
    rw [e1'] at ev; cases ev
    rw [e2'] at ev2; cases ev2
    rcases w1 with ⟨r1, f1, no1⟩ | ⟨i1, r1, o1, w1⟩
    · rcases w2 with ⟨r2, f2, no2⟩ | ⟨i2, r2, o2, w2⟩
      · exact rvs_ne hv r1 r2 e1' e2'
      · exact absurd ⟨i2, w2⟩ no1
    · rcases w2 with ⟨r2, f2, no2⟩ | ⟨i2, r2, o2, w2⟩
      · exact absurd ⟨i1, w1⟩ no2
      · have := rel.ap i1 i2 a w1 w2
        subst this
        refine once_spec ho r1 r2 ?_
        unfold mutS
        rcases o1 with z | z <;> (rw [z]; rfl)
  · rw [List.getElem?_map] at h
    cases q : as[i]? with
    | none => rw [q] at h; cases h
    | some a => rw [q] at h; cases a <;> cases h
theorem lookB_some {j : Nat} : ∀ {rs : List Rv} {ss : En} {s : Sl}, lookB j rs ss = some s → ∃ k : Nat, rs[k]? = some (Rv.bo j) ∧ ss[k]? = some s
  | [], _, s, h => by cases h
  | r :: rs, [], s, h => by cases r <;> cases h
  | r :: rs, s0 :: ss, s, h => by
    have up : lookB j rs ss = some s → ∃ k : Nat, (r :: rs)[k]? = some (Rv.bo j) ∧ (s0 :: ss)[k]? = some s := fun h => by
      obtain ⟨k, h1, h2⟩ := lookB_some h
      exact ⟨k + 1, by simpa using h1, by simpa using h2⟩
    cases r with
    | sh d => exact up h
    | tm d => exact up h
    | bo i =>
      unfold lookB at h
      by_cases c : i = j
      · rw [if_pos c] at h
        cases h
        subst c
        exact ⟨0, rfl, rfl⟩
      · rw [if_neg c] at h
        exact up h
theorem lookB_none {j : Nat} : ∀ {rs : List Rv} {ss : En} {k : Nat}, lookB j rs ss = none → ss.length = rs.length → rs[k]? ≠ some (.bo j)
  | [], _, k, _, _ => by simp
  | r :: rs, [], k, _, l => by simp at l
  | r :: rs, s0 :: ss, k, h, l => by
    have l' : ss.length = rs.length := by simpa using l
    cases k with
    | zero =>
      intro z
      have z := Option.some.inj z
      subst z
      unfold lookB at h
      rw [if_pos rfl] at h; cases h
    | succ k =>
      have h' : lookB j rs ss = none := by
        cases r with
        | sh d => exact h
        | tm d => exact h
        | bo i =>
          unfold lookB at h
          by_cases c : i = j
          · rw [if_pos c] at h; cases h
          · rw [if_neg c] at h; exact h
      simpa using lookB_none (k := k) h' l'
theorem backE_get {e ss : En} {j : Nat} : (backE e rs ss)[j]? = (e[j]?).map fun s => backS s (lookB j rs ss) := by
  unfold backE
  rw [List.getElem?_mapIdx]
/-- behind a call -/
theorem call_stp {ss : En} (s1 : Stp K A σ H env A1 σ H1 e1) (hv : RvsOk K A1 σ H1 e1 (fun a => H a = none) rs vs) (ha : agsOf e1 rs = some as) (ho : once e1 rs = true)
    (sc : Stp K A1 (vs.map some) H1 (as.map Ag.sl) A' (vs.map some) H' ss) : Stp K A σ H env A' σ H' (backE e1 rs ss) := by
  have rel := s1.rel
  have ra := rel.args hv ha ho
  have kp : Kp A1 H1 H' := sc.ext.kp ra
  have lss : ss.length = rs.length := by
    have := sc.rel.len
    simp at this
    rw [← this, rvs_len hv]
  have las := agsOf_len ha
  -- who is handed in
  have obA : ∀ a, Ow (vs.map some) (as.map Ag.sl) a → Ow σ e1 a ∨ H a = none := fun a ⟨k, ⟨d, hd⟩, e⟩ => by
    obtain ⟨b, ev, _, _, w⟩ := arg_ob rel hv ha (obs_slot hd)
    rw [vs_map] at e
    rw [e] at ev; cases ev
    rcases w with ⟨_, f, _⟩ | ⟨i, _, _, w⟩
    · exact .inr f
    · exact .inl ⟨i, w⟩
  -- an owned slot's way back
  have io : ∀ (k : Nat) (d : D), as[k]? = some (Ag.ob d) → ∃ d' : D, ss[k]? = some (Sl.io d') ∨ ss[k]? = some (Sl.iz d') := fun k d h => by
    obtain ⟨_, d', z⟩ := sc.io k d (.inl (by rw [List.getElem?_map, h]; rfl))
    exact ⟨d', z⟩
  have agB : ∀ {k j : Nat} {d : D}, rs[k]? = some (.bo j) → isOwn e1 j d → as[k]? = some (.ob d) := fun {k j d} hr ho => by
    have lt : k < as.length := by rw [las]; exact (List.getElem?_eq_some_iff.mp hr).1
    obtain ⟨a, hk⟩ : ∃ a, as[k]? = some a := ⟨_, List.getElem?_eq_getElem lt⟩
    obtain ⟨r, hr2, hg⟩ := agsOf_at ha hk
    rw [hr] at hr2; cases hr2
    rw [hk]
    unfold agOf at hg
    dsimp only at hg
    rcases ho with z | z <;> (rw [z] at hg; cases hg; rfl)
  -- the slots behind
  have bk : ∀ (j : Nat) (d : D), isOwn e1 j d → (lookB j rs ss = none ∧ (backE e1 rs ss)[j]? = e1[j]?) ∨ ∃ (k : Nat) (d' : D), rs[k]? = some (Rv.bo j) ∧ as[k]? = some (Ag.ob d) ∧ ((ss[k]? = some (Sl.io d') ∧ ((e1[j]? = some (Sl.ow d) ∧ (backE e1 rs ss)[j]? = some (Sl.ow d')) ∨ (e1[j]? = some (Sl.io d) ∧ (backE e1 rs ss)[j]? = some (Sl.io d')))) ∨
      (ss[k]? = some (Sl.iz d') ∧ ((e1[j]? = some (Sl.ow d) ∧ (backE e1 rs ss)[j]? = some (Sl.sh d')) ∨ (e1[j]? = some (Sl.io d) ∧ (backE e1 rs ss)[j]? = some (Sl.iz d'))))) := fun j d hd => by
    cases q : lookB j rs ss with
    | none =>
      refine .inl ⟨rfl, ?_⟩
      rw [backE_get, q]
      rcases hd with z | z <;> (rw [z]; rfl)
    | some s =>
      obtain ⟨k, h1, h2⟩ := lookB_some q
      have hk := agB h1 hd
      obtain ⟨d', z⟩ := io k d hk
      refine .inr ⟨k, d', h1, hk, ?_⟩
      rcases z with z | z
      · rw [h2] at z; cases z
        refine .inl ⟨h2, ?_⟩
        rw [backE_get, q]
        rcases hd with w | w
        · exact .inl ⟨w, by rw [w]; rfl⟩
        · exact .inr ⟨w, by rw [w]; rfl⟩
      · rw [h2] at z; cases z
        refine .inr ⟨h2, ?_⟩
        rw [backE_get, q]
        rcases hd with w | w
        · exact .inl ⟨w, by rw [w]; rfl⟩
        · exact .inr ⟨w, by rw [w]; rfl⟩
  -- a slot that owns nothing stays
  have nb : ∀ {j : Nat} {s : Sl}, e1[j]? = some s → (∀ d, s ≠ .ow d ∧ s ≠ .io d) → (backE e1 rs ss)[j]? = some s := fun {j s} h n => by
    rw [backE_get, h]
    cases s with
    | ow d => exact absurd rfl (n d).1
    | io d => exact absurd rfl (n d).2
    | _ => rfl
  -- whoever owns behind, owned ahead
  have own : ∀ (j : Nat) (d' : D), isOwn (backE e1 rs ss) j d' → ∃ d, isOwn e1 j d ∧ ((lookB j rs ss = none ∧ d' = d) ∨ ∃ k : Nat, rs[k]? = some (Rv.bo j) ∧ as[k]? = some (Ag.ob d) ∧ ss[k]? = some (Sl.io d')) := fun j d' h => by
    have : ∃ d, isOwn e1 j d := by
      unfold isOwn at h
      rw [backE_get] at h
      cases q : e1[j]? with
      | none => rw [q] at h; rcases h with h | h <;> cases h
      | some s =>
        rw [q] at h
        cases s with
        | ow d => exact ⟨d, .inl q⟩
        | io d => exact ⟨d, .inr q⟩
        | _ => rcases h with h | h <;> cases h
    obtain ⟨d, hd⟩ := this
    refine ⟨d, hd, ?_⟩
    rcases bk j d hd with ⟨z, w⟩ | ⟨k, d2, h1, h2, z⟩
    · refine .inl ⟨z, ?_⟩
      unfold isOwn at h
      rw [w] at h
      rcases hd with q | q <;> (rw [q] at h; rcases h with h | h <;> cases h <;> rfl)
    · refine .inr ⟨k, h1, h2, ?_⟩
      unfold isOwn at h
      rcases z with ⟨z, ⟨_, w⟩ | ⟨_, w⟩⟩ | ⟨z, ⟨_, w⟩ | ⟨_, w⟩⟩ <;> (rw [w] at h; rcases h with h | h <;> cases h <;> exact z)
  have owi : ∀ j a, Owi σ (backE e1 rs ss) j a → Owi σ e1 j a := fun j a ⟨⟨d', h⟩, e⟩ => by
    obtain ⟨d, hd, _⟩ := own j d' h
    exact ⟨⟨d, hd⟩, e⟩
  -- an owned thing that was not handed in
  have far : ∀ {j : Nat} {a : Addr} {d : D}, isOwn e1 j d → σ[j]? = some (some (.ref a)) → lookB j rs ss = none → ¬ Ow (vs.map some) (as.map Ag.sl) a := fun {j a d} hd e q ⟨k, ⟨d0, h0⟩, e0⟩ => by
    obtain ⟨b, ev, _, _, w⟩ := arg_ob rel hv ha (obs_slot h0)
    rw [vs_map] at e0
    rw [e0] at ev; cases ev
    rcases w with ⟨_, _, no⟩ | ⟨i, hr, ho', w⟩
    · exact no ⟨j, ⟨d, hd⟩, e⟩
    · have := rel.ap i j a w ⟨⟨d, hd⟩, e⟩
      subst this
      exact lookB_none q lss hr
  -- the address of what was handed in
  have adr : ∀ {j k : Nat} {a : Addr} {d : D}, rs[k]? = some (.bo j) → as[k]? = some (.ob d) → σ[j]? = some (some (.ref a)) → vs[k]? = some (.ref a) := fun {j k a d} hr hk e => by
    obtain ⟨v, ev, g⟩ := rvs_at hv hr
    rw [g.1] at e
    rw [ev, Option.some.inj (Option.some.inj e)]
  refine ⟨⟨fun a h => sc.ext.fr a (s1.ext.fr a h), fun a o e n => ?_, fun a h => ?_, fun a h => sc.ext.al a (s1.ext.al a h), fun t => sc.ext.tab (s1.ext.tab t)⟩, ⟨?_, fun i d h => ?_, fun i d h => ?_, fun i j a h1 h2 => rel.ap i j a (owi i a h1) (owi j a h2), sc.rel.dom, fun i d h => ?_, sc.rel.tb⟩, fun a ⟨j, h⟩ => s1.sub a ⟨j, owi j a h⟩, fun i d h => ?_, fun i h => ?_⟩
  · have nz : ¬ _ := fun z => by
      rcases obA a z with z | z
      · rcases s1.sub a z with z | z
        · exact n z
        · rw [e] at z; cases z
      · rw [e] at z; cases z
    rcases s1.ext.keep a o e n with z | ⟨z1, z2, b, z3⟩ | ⟨z1, z2⟩
    · exact sc.ext.keep a o z nz
    · exact .inr (.inl ⟨z1, sc.ext.fr a z2, b, sc.ext.keepN z3 nz⟩)
    · exact .inr (.inr ⟨z1, sc.ext.al a z2⟩)
  · rcases sc.ext.old a h with h | h | h
    · exact s1.ext.old a h
    · refine .inr (.inl ?_)
      cases q : H a with
      | none => rfl
      | some u => exact absurd h (s1.ext.al a (by rw [q]; simp))
    · rcases obA a h with z | z
      · exact .inr ((s1.sub a z).symm)
      · exact .inr (.inl z)
  · rw [rel.len]; unfold backE; simp
  · -- shared slots
    rw [backE_get] at h
    cases q : e1[i]? with
    | none => rw [q] at h; rcases h with h | h <;> cases h
    | some s =>
      rw [q] at h
      cases s with
      | un => rcases h with h | h <;> cases h
      | sh d0 =>
        have : d0 = d := by rcases h with h | h <;> cases h; rfl
        subst this
        obtain ⟨v, e, r⟩ := rel.sh i d0 (.inl q)
        exact ⟨v, e, r.mono sc.ext.fr kp⟩
      | iz d0 =>
        have : d0 = d := by rcases h with h | h <;> cases h; rfl
        subst this
        obtain ⟨v, e, r⟩ := rel.sh i d0 (.inr q)
        exact ⟨v, e, r.mono sc.ext.fr kp⟩
      | ow d0 =>
        have hd : isOwn e1 i d0 := .inl q
        obtain ⟨a, ea, _⟩ := rel.ow i d0 hd
        cases q2 : lookB i rs ss with
        | none => rw [q2] at h; rcases h with h | h <;> cases h
        | some s2 =>
          rw [q2] at h
          obtain ⟨k, h1, h2⟩ := lookB_some q2
          have hk := agB h1 hd
          cases s2 with
          | iz d2 =>
            have : d2 = d := by rcases h with h | h <;> cases h; rfl
            subst this
            obtain ⟨v, ev, r⟩ := sc.rel.sh k d2 (.inr h2)
            rw [vs_map, adr h1 hk ea] at ev
            cases ev
            exact ⟨_, ea, r⟩
          | _ => rcases h with h | h <;> cases h
      | io d0 =>
        have hd : isOwn e1 i d0 := .inr q
        obtain ⟨a, ea, _⟩ := rel.ow i d0 hd
        cases q2 : lookB i rs ss with
        | none => rw [q2] at h; rcases h with h | h <;> cases h
        | some s2 =>
          rw [q2] at h
          obtain ⟨k, h1, h2⟩ := lookB_some q2
          have hk := agB h1 hd
          cases s2 with
          | iz d2 =>
            have : d2 = d := by rcases h with h | h <;> cases h; rfl
            subst this
            obtain ⟨v, ev, r⟩ := sc.rel.sh k d2 (.inr h2)
            rw [vs_map, adr h1 hk ea] at ev
            cases ev
            exact ⟨_, ea, r⟩
          | _ => rcases h with h | h <;> cases h
  · obtain ⟨d0, hd, w⟩ := own i d h
    obtain ⟨a, ea, na, ob⟩ := rel.ow i d0 hd
    refine ⟨a, ea, ?_⟩
    rcases w with ⟨z, rfl⟩ | ⟨k, h1, hk, h2⟩
    · have nf := far hd ea z
      obtain ⟨o, eo, nt⟩ := ob.some
      have na1 : ¬ _ := fun z => by
        rcases sc.ext.old a z with z | z | z
        · exact na z
        · rw [eo] at z; cases z
        · exact nf z
      exact ⟨na1, ob.mono sc.ext.fr kp fun o e => sc.ext.keepA e nf na1 (by rw [eo] at e; cases e; exact nt)⟩
    · obtain ⟨b, eb, nb', ob'⟩ := sc.rel.ow k d (.inr h2)
      rw [vs_map, adr h1 hk ea] at eb
      cases eb
      exact ⟨nb', ob'⟩
  · rw [backE_get] at h
    cases q : e1[i]? with
    | none => rw [q] at h; cases h
    | some s =>
      rw [q] at h
      cases s with
      | un => cases h
      | sh d0 => cases h
      | iz d0 =>
        cases h
        obtain ⟨a, ea, z⟩ := rel.fz i d q
        exact ⟨a, ea, sc.ext.fr a z⟩
      | ow d0 =>
        cases q2 : lookB i rs ss with
        | none => rw [q2] at h; cases h
        | some s2 => rw [q2] at h; cases s2 <;> cases h
      | io d0 =>
        have hd : isOwn e1 i d0 := .inr q
        obtain ⟨a, ea, _⟩ := rel.ow i d0 hd
        cases q2 : lookB i rs ss with
        | none => rw [q2] at h; cases h
        | some s2 =>
          rw [q2] at h
          obtain ⟨k, h1, h2⟩ := lookB_some q2
          have hk := agB h1 hd
          cases s2 with
          | iz d2 =>
            obtain ⟨b, eb, z⟩ := sc.rel.fz k d2 h2
            rw [vs_map, adr h1 hk ea] at eb
            cases eb
            exact ⟨a, ea, z⟩
          | _ => cases h
  · obtain ⟨q1, d1, q2⟩ := s1.io i d h
    refine ⟨q1, ?_⟩
    rcases q2 with q2 | q2
    · rcases bk i d1 (.inr q2) with ⟨_, w⟩ | ⟨k, d', _, _, w⟩
      · exact ⟨d1, .inl (by rw [w, q2])⟩
      · rcases w with ⟨_, ⟨z, _⟩ | ⟨_, z⟩⟩ | ⟨_, ⟨z, _⟩ | ⟨_, z⟩⟩
        · rw [q2] at z; cases z
        · exact ⟨d', .inl z⟩
        · rw [q2] at z; cases z
        · exact ⟨d', .inr z⟩
    · exact ⟨d1, .inr (nb q2 fun d => ⟨fun z => (by cases z), fun z => (by cases z)⟩)⟩
  · have h' := s1.rdb i h
    unfold rdAt at h' ⊢
    rw [backE_get]
    cases q : e1[i]? with
    | none => rw [q] at h'; exact absurd rfl h'
    | some s =>
      rw [q] at h'
      cases s with
      | un => exact absurd rfl h'
      | sh d => simp [backS, Sl.rd]
      | iz d => simp [backS, Sl.rd]
      | ow d =>
        cases q2 : lookB i rs ss with
        | none => simp [backS, Sl.rd]
        | some s2 => cases s2 <;> simp [backS, Sl.rd]
      | io d =>
        cases q2 : lookB i rs ss with
        | none => simp [backS, Sl.rd]
        | some s2 => cases s2 <;> simp [backS, Sl.rd]
theorem backE_sub {ss : En} {a : Addr} (h : Ow σ (backE e1 rs ss) a) : Ow σ e1 a := by
  obtain ⟨j, ⟨d', h⟩, e⟩ := h
  refine ⟨j, ?_, e⟩
  unfold isOwn at h
  rw [backE_get] at h
  cases q : e1[j]? with
  | none => rw [q] at h; rcases h with h | h <;> cases h
  | some s =>
    rw [q] at h
    cases s with
    | ow d => exact ⟨d, .inl q⟩
    | io d => exact ⟨d, .inr q⟩
    | _ => rcases h with h | h <;> cases h
end
theorem callF_sound {G : Gd} {F : FD} {fs : AF} {σ : L2.St} {H : Hp} {Q : VK} (h : tE G (callF F fs) σ H Q) : tCallSD (spF G.K G.M F) [] (WE G.W) (tA G fs) σ H Q := by
  obtain ⟨A, env, rel, h⟩ := h
  refine ⟨A, env, rel, Post.cut h fun rs e1 A1 H1 s1 h1 vs hvs => ?_⟩
  cases q1 : agsOf e1 rs with
  | none => rw [q1] at h1; exact h1.elim
  | some as =>
    rw [q1] at h1
    dsimp only at h1
    by_cases ho : once e1 rs = true
    · rw [if_pos ho] at h1
      rw [List.append_nil]
      refine ⟨A1, as, s1.rel.args hvs q1 ho, ?_⟩
      cases q2 : F as with
      | no => rw [q2] at h1; exact h1.elim
      | exc x ss =>
        rw [q2] at h1
        exact fun A' H' c dd sc hx => h1 A' H' c dd (call_stp s1 hvs q1 ho sc) hx
      | ret own d ss =>
        rw [q2] at h1
        intro A' H' v sc hv
        have st := call_stp s1 hvs q1 ho sc
        cases own with
        | false => exact h1 A' H' st v hv
        | true =>
          obtain ⟨a, ea, na, fr, _, ob⟩ := hv
          refine h1 A' H' st v ⟨a, ea, na, fun z => ?_, ?_, ob⟩
          · obtain ⟨_, o, eo, _⟩ := s1.rel.owok (backE_sub z)
            rw [fr] at eo; cases eo
          · show H a = none
            cases q : H a with
            | none => rfl
            | some u => exact absurd fr (s1.ext.al a (by rw [q]; simp))
    · rw [if_neg ho] at h1; exact h1.elim
/-- what a caller knows of a def -/
structure Def (P : Program) (w : World) (K : Frag) (mg : Str → Option Value) (base : Heap) (k : Nat) (x : Str) (np : Nat) (F : FD) : Prop where
  ex : ∃ (f : Addr) (fd : FuncData) (ps : List Str), FnOk P w K mg base (L2.CX P w) k f fd ps (spF K mg F) ∧ mg x = some (.ref f) ∧ PySem.W.keepIn K (.ref f) = true ∧ Binds K fd ps [] ∧ ps.length = np
section
variable {X : Cx} {W : WX} {x : Str} {p pos : Pos} {e : Expr} {es : List Expr} {fs : AF} {F : FD} {k np : Nat}
theorem e_call (D : Def X.prog X.w X.K X.mg X.base k x np F) (hr : Room k X.A) (tk : Takes X W) (ha : PA X (e :: es) (tA (gd X W) fs)) (hg : Gl X x := by rfl) (hdb : (x == ("__debug__" : Str)) = false := by decide)
    (he : starEach (e :: es) X.env = (false, eval e X.env) :: starEach es X.env := by rfl) (hpl : (backTo pos (starEach es X.env)).any (·.1) = false := by rfl) : PE X (.Call (.Name x p) (e :: es) [] pos) (tE (gd X W) (callF F fs)) := by
  obtain ⟨f, fd, ps, F', hm, hk, hb, _⟩ := D.ex
  exact PE.imp (pe_callSD F' hr hg hm hk hb .nil (fun σ => passAt tk σ) ha hdb he hpl) fun _ _ _ h => callF_sound (G := gd X W) h
end
end VL


set_option Elab.async false
set_option linter.all false
set_option maxRecDepth 100000
set_option maxHeartbeats 2000000
namespace VL
open PySem PySem.Spec PyProof.Rows L2
variable [TbP]

/-! ### what is not reached; loops' fuel; defs by their text -/
def noS : SF := fun _ => .no
def FUEL : Nat := 10 ^ 40
theorem s_no {X : Cx} {W : WX} {st : Stmt} : PS X st (tS (gd X W) noS) := PS.imp ps_never fun Z σ H h => by
  obtain ⟨A, env, rel, h⟩ := h
  exact h
theorem tgw {G : Gd} {g : TG} {t : GF} {vs ws : List Nat} (h : TgOk G g t vs) (c : vs.all (fun v => ws.contains v) = true) : TgOk G g t ws := by
  intro A A1 σ σ1 H H1 env e1 e2 d x P s r q k
  refine h A A1 σ σ1 H H1 env e1 e2 d x P s r q fun σ2 s2 l2 o2 => k σ2 s2 l2 fun j hj => o2 j fun z => hj ?_
  have := List.all_eq_true.mp c j z
  simpa using this
/-- a def as the module holds it -/
structure Here (K : Frag) (mg : Str → Option Value) (x : Str) (st : Stmt) (ps : List Str) : Prop where
  ex : ∃ (f : Addr) (fd : FuncData), mg x = some (.ref f) ∧ Fun K x x st f fd ∧ PySem.W.keepIn K (.ref f) = true ∧ Binds K fd ps []
theorem Here.def {P : Program} {w : World} {K : Frag} {mg : Str → Option Value} {base : Heap} {x : Str} {st : Stmt} {ps N : List Str} {k np n : Nat} {body : SF} (h : Here K mg x st ps) (S : FnScope N ps (defScope st)) (hnp : ps.length = np) (hn : N.length = n)
    (hb : ∀ (f : Addr) (cdv : Value) (A : Around) (outer : List Env) (s : Shared) (H : Hp) (E : XK), Room k (A.deeper (envOfC x (defScope st) s.heap.objs.size f cdv)) →
      PSs (cxOf (L2.CX P w) P w K mg base N x (defScope st) f cdv A outer s H E) (defBody st) (tS (gd (cxOf (L2.CX P w) P w K mg base N x (defScope st) f cdv A outer s H E) (fun cls d _ H => E cls d H)) body)) : Def P w K mg base (k + 1) x np (runF np n body) := by
  obtain ⟨f, fd, hm, F, hk, hbd⟩ := h.ex
  exact ⟨f, fd, ps, fn_ok F S hnp hn (hb f), hm, hk, hbd, hnp⟩
theorem Here.mk' {K : Frag} {mg : Str → Option Value} {h : Heap} {x : Str} {st : Stmt} {ps : List Str} {f : Addr} {oc : Value} {od an : Option Addr} {osl : Array (Option Value)} {kV doc pm cdv ct : Value} (X : K.In h) (G : h.Ns mainGlobals mg)
    (a : PySem.W.nsIn K mainGlobals x = some (some (.ref f))) (l : K.lookup f = some ⟨oc, od, .func (PySem.W.fnOf x x (defArgs st) (defBody st) (defScope st) .none kV doc pm an cdv ct), osl⟩) (c : PySem.W.codeIn K cdv x = true) (k : PySem.W.keepIn K (.ref f) = true)
    (b : ∀ (kV doc pm : Value) (an : Option Addr) (cdv ct : Value) (us : List Value), us.length = ps.length → bindArgs (PySem.W.fnOf x x (defArgs st) (defBody st) (defScope st) .none kV doc pm an cdv ct) ⟨us, []⟩ = pure (ps.zip us)) : Here K mg x st ps := by
  have F := fun_mk (st := st) l c k
  exact ⟨f, _, PySem.W.mg_of X G a, F, k, F.binds b⟩

/-! ### name *= e -/
def mulIp : TIp := fun x y H Q => ∃ i j, x = .int i ∧ y = .int j ∧ (CMul i j ∨ CMulW i j) ∧ Q (.int (i * j)) H
theorem ip_mul {X : Cx} : PIp X .Mult mulIp := by
  intro pins s σ H x y v u Q I r1 r2 h
  obtain ⟨i, j, e1, e2, hc, q⟩ := h
  subst e1; subst e2
  obtain ⟨t, rfl⟩ := r1
  obtain ⟨t', rfl⟩ := r2
  exact imul_int ⟨.int _, H, I.tok _, ⟨_, rfl⟩, q⟩ (hc.elim CMul.ok CMulW.ok)
theorem mulOk_of {i j : Int} (h : mulOk i j = true) : CMul i j ∨ CMulW i j := by
  unfold mulOk at h
  rw [Bool.or_eq_true] at h
  exact h.imp (fun z => of_decide_eq_true (p := (-(2 ^ 64) < i ∧ i < 2 ^ 64) ∨ (-(2 ^ 64) < j ∧ j < 2 ^ 64)) z) fun z => of_decide_eq_true (p := i.natAbs.log2 + j.natAbs.log2 < 1000000) z
def augG (i : Nat) (g : Int → Int → Option Int) (f : EF) : SF := fun env => match rdAt env i with
  | some (.int a) => (f env).st fun r e => (match rd e r with
    | some (.int b) => (match g a b with
      | some c => (match putS e i (.sh (.int c)) with
        | some e2 => .nx e2
        | none => .no)
      | none => .no)
    | _ => .no)
  | _ => .no
def mulO (a b : Int) : Option Int := if mulOk a b = true then some (a * b) else none
theorem s_augMul (i : Nat) {X : Cx} {W : WX} {x : Str} {e : Expr} {fe : EF} {pos pos' : Pos} (hN : X.N.Nodup) (he : PE X e (tE (gd X W) fe)) (hi : X.N[i]? = some x := by rfl) (hx : Loc X.env.scope x := by first | exact Or.inl rfl | exact Or.inr rfl)
    (hf : X.fn x = true ∨ X.env.scope.names.lookup x = some .local := by first | exact .inl rfl | exact .inr rfl | assumption) :
    PS X (.AugAssign (.Name x pos') .Mult e pos) (tS (gd X W) (augG i mulO fe)) := PS.imp (ps_aug hN hi hx he ip_mul hf) fun Z σ H h => by
  obtain ⟨A, env, rel, h⟩ := h
  unfold augG at h
  cases q : rdAt env i with
  | none => rw [q] at h; exact h.elim
  | some d =>
    rw [q] at h
    cases d with
    | int a =>
      dsimp only at h
      have hσ : σ[i]? = some (some (.int a)) := by
        unfold rdAt at q
        cases q0 : env[i]? with
        | none => rw [q0] at q; cases q
        | some s =>
          rw [q0] at q
          cases s with
          | un => cases q
          | sh d => cases q; obtain ⟨v, e, r⟩ := rel.sh i _ (.inl q0); simp only [Rp] at r; rw [e, r]
          | iz d => cases q; obtain ⟨v, e, r⟩ := rel.sh i _ (.inr q0); simp only [Rp] at r; rw [e, r]
          | ow d => cases q; obtain ⟨v, e, _, r⟩ := rel.ow i _ (.inl q0); exact r.elim
          | io d => cases q; obtain ⟨v, e, _, r⟩ := rel.ow i _ (.inr q0); exact r.elim
      refine ⟨_, hσ, A, env, rel, SPost.cut h fun r e1 A1 H1 s1 h1 v hv => ?_⟩
      cases q1 : rd e1 r with
      | none => rw [q1] at h1; exact h1.elim
      | some d =>
        rw [q1] at h1
        cases d with
        | int b =>
          dsimp only at h1
          unfold mulO at h1
          by_cases c : mulOk a b = true
          · rw [if_pos c] at h1
            dsimp only at h1
            cases q2 : putS e1 i (.sh (.int (a * b))) with
            | none => rw [q2] at h1; exact h1.elim
            | some e2 =>
              rw [q2] at h1
              exact ⟨a, b, rfl, (hv.rq s1.rel q1).int, mulOk_of c, h1 A1 _ H1 (s1.put (.inl ⟨_, rfl, rp_int⟩) q2)⟩
          · rw [if_neg c] at h1; exact h1.elim
        | _ => exact h1.elim
    | _ => exact h.elim

/-! ### list * int, tuple * int -/
theorem RpL.rep {K : Frag} {A : AS} {H : Hp} {ds : List D} {vs : List V} (h : RpL K A H ds vs) : ∀ n : Nat, RpL K A H (List.replicate n ds).flatten (List.replicate n vs).flatten
  | 0 => .nil
  | n + 1 => by
    rw [List.replicate_succ, List.replicate_succ, List.flatten_cons, List.flatten_cons]
    exact h.append (h.rep n)
def tupMulG : G2
  | .tuple ds, .int k => if ds ≠ [] ∧ 2 ≤ k ∧ k ≤ 1000 ∧ ds.length ≤ 1000 then some (.sh (.tuple (List.replicate k.toNat ds).flatten)) else none
  | _, _ => none
theorem tupMul_A {K : Frag} : OpA K (rRepT K) tupMulG := by
  intro A H x y vx vy z Q hd e hx hy q
  match x, y, e with
  | .tuple ds, .int k, e =>
    dsimp only [tupMulG] at e
    by_cases c : ds ≠ [] ∧ 2 ≤ k ∧ k ≤ 1000 ∧ ds.length ≤ 1000
    · rw [if_pos c] at e
      cases e
      obtain ⟨a, xs, rfl, sl, r⟩ := hx.tup
      refine ⟨a, k, xs, rfl, hy.int, sl, fun z => c.1 ?_, c.2.1, c.2.2.1, by rw [← r.length]; exact c.2.2.2, fun p n => q _ _ (same_upd n) (rp_tup n (r.rep _))⟩
      subst z
      cases ds with
      | nil => rfl
      | cons _ _ => have := r.length; simp at this
    · rw [if_neg c] at e; cases e
def isOwned (e : En) : Rv → Bool
  | .tm _ => true
  | .bo i => (mutS e i).isSome
  | .sh _ => false
def mulG2 : G2 := orG mulG tupMulG
def mulF (fa fb : EF) : EF := fun env => (fa env).bind fun r1 e1 => (fb e1).bind fun r2 e2 => match rd e2 r1, rd e2 r2 with
  | some (.list ds), some (.int k) => if isOwned e2 r1 = true ∧ -(2 ^ 63) ≤ k ∧ k < 2 ^ 63 ∧ ds.length * k.toNat ≤ LIM then .ok (.tm (.list (List.replicate k.toNat ds).flatten)) e2 else .no
  | some x, some y => out1 (mulG2 x y) e2
  | _, _ => .no
theorem e_mulX {X : Cx} {W : WX} {a b : Expr} {fa fb : EF} {pos : Pos} (ha : PE X a (tE (gd X W) fa)) (hb : PE X b (tE (gd X W) fb)) : PE X (.BinOp a .Mult b pos) (tE (gd X W) (mulF fa fb)) :=
  PE.imp (pe_op ((op_mulA.or op_repT).or op_rep) ha hb) fun σ H Q h => by
    obtain ⟨A, env, rel, h⟩ := h
    refine ⟨A, env, rel, (Post.bind h).imp fun r1 e1 A1 H1 s1 h1 v1 hv1 => ?_⟩
    refine ⟨A1, e1, s1.rel, (Post.bind h1).imp fun r2 e2 A2 H2 s2 h2 v2 hv2 => ?_⟩
    have hv1' := hv1.step s1.rel s2
    have st := s1.trans s2
    have gen : ∀ x y, rd e2 r1 = some x → rd e2 r2 = some y → Post (gd X W) A2 σ H2 e2 (out1 (mulG2 x y) e2) (EQ (gd X W) σ H Q) →
        rI (fun i j => CMul i j ∨ CMulW i j) (fun i j => .int (i * j)) v1 v2 H2 Q ∨ rRepT X.K v1 v2 H2 Q := fun x y q1 q2 h2 => by
      unfold out1 at h2
      cases q3 : mulG2 x y with
      | none => rw [q3] at h2; exact h2.elim
      | some z =>
        rw [q3] at h2
        exact (OpA.or (int_A (fun i j h => mulOk_of h) fun A H _ _ => rp_int (K := X.K) (A := A) (H := H)) tupMul_A) A2 H2 x y v1 v2 z Q s2.rel.dom q3 (hv1'.rq s2.rel q1) (hv2.rq s2.rel q2) fun v' H' sm hz => fin1 st h2 sm hz
    cases q1 : rd e2 r1 with
    | none => rw [q1] at h2; exact h2.elim
    | some x =>
      cases q2 : rd e2 r2 with
      | none => rw [q1, q2] at h2; cases x <;> exact h2.elim
      | some y =>
        rw [q1, q2] at h2
        cases x with
        | list ds =>
          cases y with
          | int k =>
            dsimp only at h2
            by_cases c : isOwned e2 r1 = true ∧ -(2 ^ 63) ≤ k ∧ k < 2 ^ 63 ∧ ds.length * k.toNat ≤ LIM
            · rw [if_pos c] at h2
              refine .inr ?_
              have ob : ∃ a, v1 = .ref a ∧ Ob X.K A2 H2 a (.list ds) := by
                cases r1 with
                | sh d => cases c.1
                | tm d =>
                  cases q1
                  obtain ⟨a, ea, _, _, _, ob⟩ := hv1'
                  exact ⟨a, ea, ob⟩
                | bo i =>
                  obtain ⟨d, hd⟩ := Option.isSome_iff_exists.mp (show (mutS e2 i).isSome = true from c.1)
                  have ho := mutS_own hd
                  obtain ⟨a, ea, na, ob⟩ := s2.rel.ow i d ho
                  rw [hv1'.1] at ea
                  have ed : d = .list ds := by
                    have q1 : rdAt e2 i = some (.list ds) := q1
                    unfold rdAt at q1
                    rcases ho with z | z <;> (rw [z] at q1; exact Option.some.inj q1)
                  subst ed
                  exact ⟨a, Option.some.inj (Option.some.inj ea), ob⟩
              obtain ⟨a, ea, ys, ey, ry⟩ := ob
              exact ⟨a, k, ys, ea, (hv2.rq s2.rel q2).int, ey, c.2.1, c.2.2.1, by rw [← ry.length, lim_eq]; exact c.2.2.2, fun p n => fin1 st h2 (same_upd n) (rz_lst n (ry.rep _))⟩
            · rw [if_neg c] at h2; exact h2.elim
          | _ => exact .inl (gen _ _ q1 q2 h2)
        | none => exact .inl (gen _ _ q1 q2 h2)
        | bool _ => exact .inl (gen _ _ q1 q2 h2)
        | int _ => exact .inl (gen _ _ q1 q2 h2)
        | str _ => exact .inl (gen _ _ q1 q2 h2)
        | tuple _ => exact .inl (gen _ _ q1 q2 h2)
        | dict _ => exact .inl (gen _ _ q1 q2 h2)
end VL


set_option Elab.async false
set_option linter.all false
set_option maxRecDepth 100000
set_option maxHeartbeats 2000000
/-! VL14: promises of defs where no repr is under way (for repr of tuples and lists). -/
namespace VL
open PySem PySem.Spec PyProof.Rows L2
variable [TbP]
/-- a def's promise below callers that stand in no repr -/
structure FnG (P : Program) (w : World) (K : Frag) (mg : Str → Option Value) (base : Heap) (CX : CXT) (k : Nat) (f : Addr) (fd : FuncData) (ps : List Str) (sp : Sp) : Prop where
  len : ∀ vs H Q E, sp vs H Q E → vs.length = ps.length
  run : ∀ (A : Around) (outer : List Env) (s : Shared) (H : Hp) (args : Args) (us : List Value) (vs : List V) (Q : VK) (E : XK), Room k A → A.guards = some [] → Env0 P w K mg base A outer s H → BindsTo s fd args (ps.zip us) → Vals vs us → sp vs H Q E →
    codeAny (model P w) A (.call (.ref f) args) (CR CX outer P w H s Q E) s
/-- such a def, by its body -/
theorem fnG_of {CX : CXT} {P : Program} {w : World} {K : Frag} {mg : Str → Option Value} {base : Heap} {k : Nat} {f : Addr} {x qual : Str} {params : Arguments} {body : List Stmt} {scope : Scope} {kws : List (Str × V)} {fd : FuncData} {N ps : List Str} {sp : Sp}
    (F : FunD K x qual params body scope [] kws f fd) (S : FnScope N ps scope) (len : ∀ vs H Q E, sp vs H Q E → vs.length = ps.length)
    (hb : ∀ (cdv : Value) (A : Around) (outer : List Env) (s : Shared) (H : Hp) (vs : List V) (Q : VK) (E : XK), Room k (A.deeper (envOfC qual scope s.heap.objs.size f cdv)) → A.guards = some [] → sp vs H Q E →
      ∃ t, PSs (cxOf CX P w K mg base N qual scope f cdv A outer s H E) body t ∧ t { nx := fun _ H' => Q .non H', rt := Q } (L2.start N vs) H) : FnG P w K mg base CX (k + 1) f fd ps sp := by
  obtain ⟨oc, od, dV, kV, doc, pm, an, cdv, ct, osl, rfl, lk, hcd, _, _⟩ := F.ex
  refine ⟨len, fun A outer s H args us vs Q E hr hgd e0 hbd rv hsp => ?_⟩
  have up : ∀ b o, base.get? b = some o → s.heap.get? b = some o := fun b o e => (e0.bs b o e).1
  have hloc : ∀ y ∈ ps.zip us, scope.names.lookup y.1 = some .local ∨ (scope.names.lookup y.1 = some .cell ∧ ((cellsFrom (s.heap.objs.size + 1) scope.names []).lookup y.1).isSome = true) := by
    rintro ⟨n, v⟩ hy
    exact (S.par n (List.of_mem_zip hy).1).imp id fun q => ⟨q, PySem.W.cellsFrom_some _ _ _ (.inl q)⟩
  refine codeAny_call_function hr.depth ((e0.mod.kin.keeps up) _ _ lk) rfl S.co S.gen rfl (PySem.W.codeRec_of (e0.mod.kin.keeps up) hcd) (hbd _ _ _ _ (wpAny_newFunctionEnv_cells S.kind hloc fun env he s1 x => ?_))
  subst he
  obtain ⟨t, ht, hq⟩ := hb cdv A outer s H vs Q E (hr.deeper _) hgd hsp
  refine ⟨(e0.mod.nolimit.keeps up).keeps x.toInCall.keep, codeAny_func (wpAny_mono (ht.run [] s1 (L2.start N vs) H _ (inv_start S hr.hd e0 (len _ _ _ _ hsp) rv x) hq) (fun fl s' hs => ?_) fun e s' hs => hs)⟩
  cases fl with
  | ret u =>
    obtain ⟨v, _, H', J, r, q⟩ := hs
    exact ⟨v, H', J.os, J.bare, J.base, J.hok, r, q⟩
  | next =>
    obtain ⟨_, H', J, q⟩ := hs
    exact ⟨.non, H', J.os, J.bare, J.base, J.hok, rfl, q⟩
  | brk =>
    obtain ⟨_, _, _, q⟩ := hs
    exact q.elim
  | cont =>
    obtain ⟨_, _, _, q⟩ := hs
    exact q.elim
section
variable {X : Cx} {W : WX} {x : Str} {p pos : Pos} {e : Expr} {es : List Expr} {k : Nat} {f : Addr} {fd : FuncData} {ps : List Str} {sp : Sp} {t : TA} {E : L2.St → XK}
theorem pe_callG (F : FnG X.prog X.w X.K X.mg X.base (L2.CX X.prog X.w) k f fd ps sp) (hr : Room k X.A) (hgd : X.A.guards = some []) (hg : Gl X x) (hm : X.mg x = some (.ref f)) (hk : PySem.W.keepIn X.K (.ref f) = true) (hb : Binds X.K fd ps []) (hx : ∀ σ, PassesAt (L2.CX X.prog X.w) X σ (E σ))
    (ha : PA X (e :: es) t) (hdb : (x == ("__debug__" : Str)) = false := by decide) (he : starEach (e :: es) X.env = (false, eval e X.env) :: starEach es X.env := by rfl) (hpl : (backTo pos (starEach es X.env)).any (·.1) = false := by rfl) :
    PE X (.Call (.Name x p) (e :: es) [] pos) (tCallSD sp [] E t) := by
  refine ⟨fun pins s σ H Q I h => wpAny_Call_Name_kw (ld_glob I hg hm ?_ hdb)⟩
  refine PySem.W.callWith_K (h₀ := X.base) I.ok.mod.kin hk (thn (ha.run pos pins s σ H _ I h) fun us s1 ⟨vs, H1, I1, r, q⟩ => ⟨I1.kIn, ?_⟩) he hpl
  have r2 : Vals (vs ++ []) (us ++ []) := r.append .nil
  have hl : (us ++ []).length = ps.length := by rw [← r2.length]; exact F.len _ _ _ _ q
  refine wpAny_call (codeAny_mono (F.run X.A X.stack s1 H1 ⟨us, []⟩ (us ++ []) (vs ++ []) Q (E σ) hr hgd I1.env0 (hb s1 us I1.kIn hl) r2 q) fun r s' hq => ?_)
  cases r with
  | error e => exact hx σ pins H1 s1 e s' I1 hq
  | ok fl =>
    cases fl with
    | ret u => exact I1.after hq
    | next => exact False.elim hq
    | brk => exact False.elim hq
    | cont => exact False.elim hq
end
end VL


set_option Elab.async false
set_option linter.all false
set_option maxRecDepth 100000
set_option maxHeartbeats 2000000
namespace VL
open PySem PySem.Spec PyProof.Rows L2
variable [TbP]
/-- what a caller knows of a def -/
structure DefG (P : Program) (w : World) (K : Frag) (mg : Str → Option Value) (base : Heap) (k : Nat) (x : Str) (np : Nat) (F : FD) : Prop where
  ex : ∃ (f : Addr) (fd : FuncData) (ps : List Str), FnG P w K mg base (L2.CX P w) k f fd ps (spF K mg F) ∧ mg x = some (.ref f) ∧ PySem.W.keepIn K (.ref f) = true ∧ Binds K fd ps [] ∧ ps.length = np
section
variable {X : Cx} {W : WX} {x : Str} {p pos : Pos} {e : Expr} {es : List Expr} {fs : AF} {F : FD} {k np : Nat}
theorem e_cg (D : DefG X.prog X.w X.K X.mg X.base k x np F) (hr : Room k X.A) (hgd : X.A.guards = some []) (tk : Takes X W) (ha : PA X (e :: es) (tA (gd X W) fs)) (hg : Gl X x := by rfl) (hdb : (x == ("__debug__" : Str)) = false := by decide)
    (he : starEach (e :: es) X.env = (false, eval e X.env) :: starEach es X.env := by rfl) (hpl : (backTo pos (starEach es X.env)).any (·.1) = false := by rfl) : PE X (.Call (.Name x p) (e :: es) [] pos) (tE (gd X W) (callF F fs)) := by
  obtain ⟨f, fd, ps, F', hm, hk, hb, _⟩ := D.ex
  exact PE.imp (pe_callG F' hr hgd hg hm hk hb (fun σ => passAt tk σ) ha hdb he hpl) fun _ _ _ h => callF_sound (G := gd X W) h
end
/-- a def as the module holds it -/
structure HereG (K : Frag) (mg : Str → Option Value) (x : Str) (st : Stmt) (ps : List Str) : Prop where
  ex : ∃ (f : Addr) (fd : FuncData), mg x = some (.ref f) ∧ FunD K x x (defArgs st) (defBody st) (defScope st) [] [] f fd ∧ Binds K fd ps []
theorem HereG.def {P : Program} {w : World} {K : Frag} {mg : Str → Option Value} {base : Heap} {x : Str} {st : Stmt} {ps N : List Str} {k np n : Nat} {body : SF} (h : HereG K mg x st ps) (S : FnScope N ps (defScope st)) (hnp : ps.length = np) (hn : N.length = n)
    (hb : ∀ (f : Addr) (cdv : Value) (A : Around) (outer : List Env) (s : Shared) (H : Hp) (E : XK), Room k (A.deeper (envOfC x (defScope st) s.heap.objs.size f cdv)) → (A.deeper (envOfC x (defScope st) s.heap.objs.size f cdv)).guards = some [] →
      PSs (cxOf (L2.CX P w) P w K mg base N x (defScope st) f cdv A outer s H E) (defBody st) (tS (gd (cxOf (L2.CX P w) P w K mg base N x (defScope st) f cdv A outer s H E) (fun cls d _ H => E cls d H)) body)) : DefG P w K mg base (k + 1) x np (runF np n body) := by
  subst hnp hn
  obtain ⟨f, fd, hm, F, hbd⟩ := h.ex
  exact ⟨f, fd, ps, fnG_of F S (fun vs H Q E h => spF_len h) fun cdv A outer s H vs Q E hr hgd h => ⟨_, hb f cdv A outer s H E hr hgd, body_end h⟩, hm, F.kp, hbd, rfl⟩
/-- from a head's facts -/
theorem HereG.of {K : Frag} {mg : Str → Option Value} {x : Str} {st : Stmt} {ps : List Str} {f : Addr} {fd : FuncData} (hm : mg x = some (.ref f)) (F : FunD K x x (defArgs st) (defBody st) (defScope st) [] [] f fd)
    (b : ∀ (kV doc pm : Value) (an : Option Addr) (cdv ct : Value) (us : List Value), us.length = ps.length → bindArgs (PySem.W.fnOf x x (defArgs st) (defBody st) (defScope st) .none kV doc pm an cdv ct) ⟨us, []⟩ = pure (ps.zip us)) : HereG K mg x st ps :=
  ⟨f, fd, hm, F, F.bindsN b⟩
/-! ### repr -/
def reprC : GC
  | [d] => if d.canLay0 = true ∧ d.showable = true ∧ d.depth ≤ 60 ∧ d.shown.length ≤ LIM then some (.sh (.str d.shown)) else none
  | _ => none
def rRepr (K : Frag) : RC := fun xs H Q => ∃ x d, xs = [x] ∧ Dp K H x d ∧ d.canLay0 = true ∧ d.showable = true ∧ d.depth ≤ 60 ∧ d.shown.length ≤ sizeLine ∧ Q (.str d.shown) H
theorem repr_noDict {d : D} (h : d.canLay0 = true) (h2 : d.hasDict = true) : False := by
  rw [PyData.hasDict_of_canLay d h] at h2; cases h2
theorem call_repr {X : Cx} {k : Nat} (hr : Room k X.A) (hgd : X.A.guards = some []) : CallR X (.builtin "repr") (rRepr X.K) := by
  intro pins s σ H xs us Q I r h
  obtain ⟨x, d, rfl, hd, hc, hs, hz, hl, q⟩ := h
  obtain ⟨u, rfl, rx⟩ := vals1 r
  obtain ⟨as, rd⟩ := Dp.reads I d x u hd rx
  have hu := hr.units
  cases hd with
  | non => cases rx; exact PySem.P.repr_of_none ⟨.str _, H, I.tok _, ⟨_, rfl⟩, q⟩
  | bl b => cases rx; exact PySem.P.repr_of_bool ⟨.str _, H, I.tok _, ⟨_, rfl⟩, q⟩
  | int i =>
    obtain ⟨t, rfl⟩ := rx
    simp only [PyData.showable, decide_eq_true_eq] at hs
    exact PySem.P.repr_of_int hs ⟨.str _, H, I.tok _, ⟨_, rfl⟩, q⟩
  | str y => obtain ⟨t, rfl⟩ := rx; exact PySem.P.repr_of_str ⟨.str _, H, I.tok _, ⟨_, rfl⟩, q⟩ hl
  | lst a b => cases rx; exact repr_of_reads' rd hs (fun z => (repr_noDict hc z).elim) hgd (by omega) (fun _ _ e => e) (fun h' u tk k => ⟨.str _, H, I.kept k, ⟨u, rfl⟩, q⟩) hl
  | tup a b => cases rx; exact repr_of_reads' rd hs (fun z => (repr_noDict hc z).elim) hgd (by omega) (fun _ _ e => e) (fun h' u tk k => ⟨.str _, H, I.kept k, ⟨u, rfl⟩, q⟩) hl
theorem repr_A {K : Frag} : CbA K (rRepr K) reprC := by
  intro A H ds vs z Q hd e hx q
  match ds, e with
  | [d], e =>
    obtain ⟨v, rfl, h⟩ := hx.one
    dsimp only [reprC] at e
    by_cases c : d.canLay0 = true ∧ d.showable = true ∧ d.depth ≤ 60 ∧ d.shown.length ≤ LIM
    · rw [if_pos c] at e
      cases e
      exact ⟨v, d, rfl, h.dp c.1, c.1, c.2.1, c.2.2.1, le_line c.2.2.2, q _ _ (Same.refl H) rz_str⟩
    · rw [if_neg c] at e; cases e
theorem boot_repr' : bootBuiltins "repr" = some (.builtin "repr") := by decide +kernel
theorem b_repr {X : Cx} {k : Nat} (hr : Room k X.A) (hgd : X.A.guards = some []) : BI X "repr" reprC := ⟨⟨_, _, call_repr hr hgd, repr_A, boot_repr', .inl ⟨_, rfl⟩⟩, by decide, by decide⟩
end VL


set_option Elab.async false
set_option linter.all false
set_option maxRecDepth 100000
set_option maxHeartbeats 2000000
/-! HD1: what a display of a dict with tuples of texts as keys does, told exactly, the heap as a tree. -/
namespace HDK
open PySem PySem.W PySem.Calls PyProof.Rows

/-! ### small changes of a state -/
def pushO (o : Obj) (x : SharedT) : Option SharedT := match ((x.tree.ins x.n o).get x.n).isSome with
  | true => some ⟨x.tree.ins x.n o, x.n + 1, x.life, x.gens, x.drawn, x.toks, x.os⟩
  | false => none
def setO (a : Addr) (f : Obj → Obj) (x : SharedT) : Option SharedT := match Nat.blt a x.n with
  | true => (match x.tree.get a with
    | some _ => some ⟨x.tree.set a f, x.n, x.life, x.gens, x.drawn, x.toks, x.os⟩
    | none => none)
  | false => none
def tokO (k : Nat) (x : SharedT) : SharedT := ⟨x.tree, x.n, x.life, x.gens, x.drawn, x.toks + k, x.os⟩
theorem size_abs (x : SharedT) : x.abs.heap.objs.size = x.n := absHeap_size _ _ _
theorem pushO_ok {o : Obj} {x y : SharedT} (h : pushO o x = some y) : y.abs = { x.abs with heap := x.abs.heap.push o } := by
  unfold pushO at h
  cases g : ((x.tree.ins x.n o).get x.n).isSome with
  | false => rw [g] at h; cases h
  | true =>
    rw [g] at h
    cases h
    show (⟨absHeap (x.tree.ins x.n o) (x.n + 1) x.life, x.gens, x.drawn, x.toks, x.os⟩ : Shared) = _
    rw [absHeap_ins g]
    rfl
theorem setO_ok {a : Addr} {f : Obj → Obj} {x y : SharedT} (h : setO a f x = some y) : y.abs = { x.abs with heap := x.abs.heap.update a f } := by
  unfold setO at h
  cases g : Nat.blt a x.n with
  | false => rw [g] at h; cases h
  | true =>
    rw [g] at h
    dsimp only at h
    cases q : x.tree.get a with
    | none => rw [q] at h; cases h
    | some o =>
      rw [q] at h
      cases h
      show (⟨absHeap (x.tree.set a f) x.n x.life, x.gens, x.drawn, x.toks, x.os⟩ : Shared) = _
      rw [absHeap_set q]
      rfl
theorem tokO_ok (k : Nat) (x : SharedT) : (tokO k x).abs = { x.abs with toks := x.abs.toks + k } := rfl

/-! ### a tuple of texts -/
def strsFrom (t : Nat) : List Str → List Value
  | [] => []
  | s :: r => .str s t :: strsFrom (t + 1) r
def tupO (vs : List Value) : Obj := { cls := .type "tuple", data := .seq vs.toArray }
def tupE (ss : List Str) (x : SharedT) : Option SharedT := pushO (tupO (strsFrom x.toks ss)) (tokO ss.length x)
/-- elements that are written texts -/
inductive Texts : List Expr → List Str → Prop where
  | nil : Texts [] []
  | cons {s : Str} {j : Nat} {p : Pos} {es : List Expr} {ss : List Str} (t : Texts es ss) : Texts (.Constant (.str s) j p :: es) (s :: ss)
section
variable {prog : Program} {w : World} {A : Around} {E : Value → Shared → Prop} {env : Env}
theorem texts_wp {Q : List Value → Shared → Prop} {pos : Pos} : ∀ {es : List Expr} {ss : List Str} {x : SharedT}, Texts es ss → Q (strsFrom x.toks ss) (tokO ss.length x).abs → wpAny (model prog w) A (spliced (backTo pos (starEach es env))) Q E x.abs
  | [], _, x, .nil, h => Calls.spliced_nil h
  | _ :: es, _, x, .cons (s := s) (ss := ss) t, h => by
    show wpAny _ _ (spliced ((false, eval _ env) :: backTo pos (starEach es env))) _ _ _
    refine Calls.spliced_cons (Calls.Constant_str ?_)
    show wpAny (model prog w) A (spliced (backTo pos (starEach es env))) (fun vs s₂ => Q (.str s x.toks :: vs) s₂) E (tokO 1 x).abs
    refine texts_wp t ?_
    have e : tokO ss.length (tokO 1 x) = tokO (s :: ss).length x := by
      unfold tokO
      simp only [List.length_cons]
      congr 1
      omega
    rw [e]
    exact h
theorem tup_wp {es : List Expr} {ss : List Str} {k : Nat} {pos : Pos} {x y : SharedT} {Q : Value → Shared → Prop} (t : Texts es ss) (hl : ss.length ≤ 1000) (h : tupE ss x = some y) (hQ : Q (.ref x.n) y.abs) :
    wpAny (model prog w) A (eval (.Tuple es k pos) env) Q E x.abs := by
  refine Tuple_ (texts_wp t ?_)
  refine wpAny_newObj_type ?_ ?_
  · have e := pushO_ok h
    rw [size_abs]
    show Q (.ref x.n) _
    rw [e] at hQ
    exact hQ
  · have lens : ∀ (t : Nat) (l : List Str), (strsFrom t l).length = l.length := fun t l => by
      induction l generalizing t with
      | nil => rfl
      | cons a l ih => simp [strsFrom, ih]
    show (strsFrom x.toks ss).toArray.size ≤ sizeLine
    rw [List.size_toArray, lens, sizeLine_eq]
    omega
end

/-! ### a dict with such keys -/
abbrev kd (prog : Program) (w : World) : HeapKind prog w (List Str) := tupleKind (strKind prog w)
def grows (h h' : Heap) : Prop := ∀ b o, h.get? b = some o → h'.get? b = some o
section
variable {prog : Program} {w : World} {A : Around} {E : Value → Shared → Prop} {env : Env}
theorem isT_grows {h h' : Heap} {ks : List Str} {a : Addr} (g : grows h h') (x : (kd prog w).is h ks a) : (kd prog w).is h' ks a := by
  obtain ⟨o, items, n, h1, h2, h3, h4⟩ := x
  exact ⟨o, items, n, g _ _ h1, h2, h3, h4⟩
theorem dict_grows {h h' : Heap} {d : Addr} {xs : List (List Str × Addr × Value)} (g : grows h h') (x : h.DictOfH (kd prog w) d xs) : h'.DictOfH (kd prog w) d xs := by
  obtain ⟨o, es, ep, h1, h2, h3, h4, h5, h6⟩ := x
  exact ⟨o, es, ep, g _ _ h1, h2, h3, h4, fun y hy => isT_grows g (h5 y hy), h6⟩
theorem push_grows {h : Heap} {o : Obj} : grows h (h.push o) := fun _ _ e => Heap.get?_push_of_some _ e
theorem items_are : ∀ (t : Nat) (ss : List Str), ItemsAre (strKind prog w) ss (strsFrom t ss)
  | _, [] => .nil
  | t, s :: r => .cons (show Value.isStrOf s (.str s t) = true by simp [Value.isStrOf]) (items_are (t + 1) r)
theorem tupE_grows {ss : List Str} {x y : SharedT} (h : tupE ss x = some y) : grows x.abs.heap y.abs.heap := by
  have e := pushO_ok h
  rw [e]
  exact push_grows
theorem tupE_is {ss : List Str} {x y : SharedT} (h : tupE ss x = some y) : (kd prog w).is y.abs.heap ss x.n := by
  have e := pushO_ok h
  rw [e]
  refine ⟨tupO (strsFrom x.toks ss), (strsFrom x.toks ss).toArray, 0, ?_, rfl, rfl, by simpa using items_are x.toks ss⟩
  show ((tokO ss.length x).abs.heap.push (tupO (strsFrom x.toks ss))).get? x.n = _
  have z : (tokO ss.length x).abs.heap.objs.size = x.n := size_abs _
  rw [← z]
  exact Heap.get?_push_size _ rfl
/-- d[ks] = v, ks new, the key's tuple at a, its hash reckoned or known -/
def entO (hs : Int) (d a : Addr) (v : Value) (x : SharedT) : Option SharedT := setO d (Obj.mapDictKeys (·.push ⟨hs, .ref a, v⟩)) x
theorem find_none {d a : Addr} {xs : List (List Str × Addr × Value)} {ks : List Str} {s : Shared} {Q : Option Nat → Shared → Prop} (hu : A.units < cLine) (hkey : (kd prog w).is s.heap ks a) (hm : s.heap.DictOfH (kd prog w) d xs) (hn : ks ∉ xs.map (·.1)) (h : Q none s) :
    wpAny (model prog w) A (dictFind d (.ref a) ((kd prog w).hash ks)) Q E s := by
  obtain ⟨o, es, ep, ho, hc, hd, he, his, hnd⟩ := hm
  refine wpAny_dictFind_heap (knd := kd prog w) hu hkey ho hd he his hnd (fun _ => h) fun j p hj => ?_
  exact absurd (List.mem_map.mpr ⟨_, List.mem_of_getElem? hj, rfl⟩) hn
theorem ent_wp {part : Option Value} {d a : Addr} {xs : List (List Str × Addr × Value)} {ks : List Str} {v : Value} {x y : SharedT} {Q : Unit → Shared → Prop} (hkey : (kd prog w).is x.abs.heap ks a) (hm : x.abs.heap.DictOfH (kd prog w) d xs) (hn : ks ∉ xs.map (·.1)) (hz : xs.length ≤ 1000)
    (h : entO ((kd prog w).hash ks) d a v x = some y) (hQ : y.abs.heap.DictOfH (kd prog w) d (xs ++ [(ks, a, v)]) → Heap.SameBut d x.abs.heap y.abs.heap → Q () y.abs) :
    wpAny (model prog w) A (updateDictKeys d (·.push ⟨(kd prog w).hash ks, .ref a, v⟩) part) Q E x.abs := by
  obtain ⟨o, es, ep, ho, hc, hd, he, his, hnd⟩ := hm
  have e := setO_ok h
  refine wpAny_updateDictKeys (hz := by have e := size_of_entries he; rw [sizeLine_eq]; omega) ho hd ?_
  rw [e] at hQ
  refine hQ ⟨_, _, ep + 1, Heap.get?_update_self _ ho (Obj.isFreed_of_dict (Obj.data_mapDictKeys hd _)), hc.mapDictKeys _, Obj.data_mapDictKeys hd _, ?_, ?_, ?_⟩ (Heap.SameBut.update ..)
  · simp [he, entryOfKey]
  · intro z hz
    rcases List.mem_append.mp hz with hz | hz
    · exact (kd prog w).keeps (his z hz) ho hd (Heap.SameBut.update ..)
    · simp only [List.mem_singleton] at hz
      subst hz
      exact (kd prog w).keeps hkey ho hd (Heap.SameBut.update ..)
  · rw [List.map_append, List.nodup_append]
    refine ⟨hnd, by simp, ?_⟩
    intro z hz y hy
    simp only [List.map_cons, List.map_nil, List.mem_singleton] at hy
    subst hy
    exact fun e => hn (e ▸ hz)
/-- one pair of a display: both tuples, then the entry -/
def pairO (prog : Program) (w : World) (d : Addr) (p : List Str × List Str) (x : SharedT) : Option SharedT := match tupE p.1 x with
  | some x1 => (match tupE p.2 x1 with
    | some x2 => entO ((kd prog w).hash p.1) d x.n (.ref x1.n) (tokO (p.1.length + 1) x2)
    | none => none)
  | none => none
def pairsO (prog : Program) (w : World) (d : Addr) : List (List Str × List Str) → SharedT → Option SharedT
  | [], x => some x
  | p :: ps, x => (match pairO prog w d p x with
    | some y => pairsO prog w d ps y
    | none => none)
/-- an expression pair that is two tuples of texts -/
inductive IsPair : Expr × Expr → List Str × List Str → Prop where
  | mk {es fs : List Expr} {ks vs : List Str} {k1 k2 : Nat} {p1 p2 : Pos} (h1 : Texts es ks) (h2 : Texts fs vs) (l1 : ks.length ≤ 1000) (l2 : vs.length ≤ 1000) : IsPair (.Tuple es k1 p1, .Tuple fs k2 p2) (ks, vs)
inductive ArePairs : List (Expr × Expr) → List (List Str × List Str) → Prop where
  | nil : ArePairs [] []
  | cons {e : Expr × Expr} {p : List Str × List Str} {es : List (Expr × Expr)} {ps : List (List Str × List Str)} (i : IsPair e p) (t : ArePairs es ps) : ArePairs (e :: es) (p :: ps)
abbrev semP (env : Env) (pos : Pos) (p : Expr × Expr) : Sem Value × Sem Value := (eval p.1 env, do let x ← eval p.2 env; standAt pos; pure x)
theorem pair_wp {d : Addr} {xs : List (List Str × Addr × Value)} {e : Expr × Expr} {p : List Str × List Str} {pos : Pos} {x y : SharedT} {Q : Unit → Shared → Prop} (hu : A.units < cLine) (ip : IsPair e p) (hm : x.abs.heap.DictOfH (kd prog w) d xs) (hn : p.1 ∉ xs.map (·.1)) (hz : xs.length ≤ 1000)
    (h : pairO prog w d p x = some y) (hQ : ∀ v, y.abs.heap.DictOfH (kd prog w) d (xs ++ [(p.1, v)]) → Q () y.abs) :
    wpAny (model prog w) A (do let kv ← (semP env pos e).1; let vv ← holding [kv] (semP env pos e).2; holding [kv, vv] (dictSet d kv vv)) Q E x.abs := by
  obtain ⟨h1, h2, l1, l2⟩ := ip
  unfold pairO at h
  rename_i es fs ks vs k1 k2 p1 p2
  dsimp only at h
  cases q1 : tupE ks x with
  | none => rw [q1] at h; cases h
  | some x1 =>
    rw [q1] at h
    dsimp only at h
    cases q2 : tupE vs x1 with
    | none => rw [q2] at h; cases h
    | some x2 =>
      rw [q2] at h
      refine wpAny_bind (tup_wp (k := k1) h1 l1 q1 (wpAny_bind (wpAny_holding (wpAny_bind (tup_wp (k := k2) h2 l2 q2 (wpAny_bind (wpAny_standAt (wpAny_pure (wpAny_holding ?_)))))))))
      have g2 := tupE_grows q2
      have hkey : (kd prog w).is x2.abs.heap ks x.n := isT_grows g2 (tupE_is q1)
      have hm2 := dict_grows g2 (dict_grows (tupE_grows q1) hm)
      unfold dictSet
      refine wpAny_holding ?_
      refine wpAny_bind ((kd prog w).pyHash hu hkey ?_)
      unfold dictSetHashed
      refine wpAny_holding ?_
      refine wpAny_bind (find_none (s := { x2.abs with toks := x2.abs.toks + (kd prog w).draws ks }) hu hkey hm2 hn ?_)
      refine wpAny_bind (wpAny_rule ?_)
      show wpAny (model prog w) A _ _ _ (tokO (ks.length + 1) x2).abs
      exact ent_wp (x := tokO (ks.length + 1) x2) hkey hm2 hn hz h fun z _ => hQ _ z
theorem pairs_wp {d : Addr} {pos : Pos} : ∀ {es : List (Expr × Expr)} {ps : List (List Str × List Str)} {xs : List (List Str × Addr × Value)} {x y : SharedT} {Q : PUnit → Shared → Prop}, A.units < cLine → ArePairs es ps → x.abs.heap.DictOfH (kd prog w) d xs → (xs.map (·.1) ++ ps.map (·.1)).Nodup → xs.length + ps.length ≤ 1000 →
    pairsO prog w d ps x = some y → (∀ xs', xs'.map (·.1) = xs.map (·.1) ++ ps.map (·.1) → y.abs.heap.DictOfH (kd prog w) d xs' → Q ⟨⟩ y.abs) →
    wpAny (model prog w) A (forIn (es.map (semP env pos)) PUnit.unit fun (p : Sem Value × Sem Value) (_ : PUnit) => (do let kv ← p.1; let vv ← holding [kv] p.2; holding [kv, vv] (dictSet d kv vv); pure (ForInStep.yield PUnit.unit) : Sem (ForInStep PUnit))) Q E x.abs
  | [], _, xs, x, y, Q, hu, .nil, hm, hn, hz, h, hQ => by
    cases h
    simp only [List.map_nil, List.forIn_nil]
    exact wpAny_pure (hQ xs (by simp) hm)
  | e :: es, _, xs, x, y, Q, hu, .cons (p := p) (ps := ps) i t, hm, hn, hz, h, hQ => by
    unfold pairsO at h
    cases q : pairO prog w d p x with
    | none => rw [q] at h; cases h
    | some x1 =>
      rw [q] at h
      dsimp only at h
      simp only [List.length_cons] at hz
      have hk : p.1 ∉ xs.map (·.1) := fun z => by
        rw [List.nodup_append] at hn
        exact hn.2.2 p.1 z p.1 (by simp) rfl
      rw [List.map_cons, List.forIn_cons]
      have step := pair_wp (E := E) (env := env) (pos := pos) (Q := fun _ s' => wpAny (model prog w) A (forIn (es.map (semP env pos)) PUnit.unit fun (p : Sem Value × Sem Value) (_ : PUnit) => (do let kv ← p.1; let vv ← holding [kv] p.2; holding [kv, vv] (dictSet d kv vv); pure (ForInStep.yield PUnit.unit) : Sem (ForInStep PUnit))) Q E s') hu i hm hk (by omega) q fun v hm1 => by
        refine pairs_wp hu t hm1 ?_ (by simp; omega) h fun xs' e1 z => hQ xs' ?_ z
        · simpa using hn
        · rw [e1]; simp
      refine wpAny_bind ?_
      -- the turn, then the rest
      have e3 : (do let kv ← (semP env pos e).1; let vv ← holding [kv] (semP env pos e).2; holding [kv, vv] (dictSet d kv vv); pure (ForInStep.yield PUnit.unit) : Sem (ForInStep PUnit)) =
          ((do let kv ← (semP env pos e).1; let vv ← holding [kv] (semP env pos e).2; holding [kv, vv] (dictSet d kv vv) : Sem Unit) >>= fun _ => pure (ForInStep.yield PUnit.unit)) := by
        simp only [bind_assoc]
      rw [e3]
      exact wpAny_bind (wpAny_mono step (fun _ s' q => wpAny_pure q) fun _ _ z => z)
end
end HDK


set_option Elab.async false
set_option linter.all false
set_option maxRecDepth 100000
set_option maxHeartbeats 2000000
/-! VL16: a written dict of the module, its keys and values tuples of texts. -/
namespace VL
open PySem PySem.Spec PyProof.Rows L2 HDK
variable [TbP]
abbrev Tb := List (List Str × List Str)
inductive TabOk (K : Frag) : List (List Str × Addr × Value) → Tb → Prop where
  | nil : TabOk K [] []
  | cons {ks vs : List Str} {a T : Addr} {o : Obj} {its : Array Value} {n : Nat} {xs : List (List Str × Addr × Value)} {tb : Tb} (hT : K.lookup T = some o) (hc : o.cls = .type "tuple") (hd : o.data = .seq its n) (hz : its.size ≤ sizeLine) (hv : Vals (vs.map V.str) its.toList)
      (t : TabOk K xs tb) : TabOk K ((ks, a, .ref T) :: xs) ((ks, vs) :: tb)
structure TabT (P : Program) (w : World) (K : Frag) (mg : Str → Option Value) (x : Str) (tb : Tb) : Prop where
  ex : ∃ (d : Addr) (xs : List (List Str × Addr × Value)), mg x = some (.ref d) ∧ (d == sysModules) = false ∧ (∀ h : Heap, K.In h → h.DictOfH (kd P w) d xs) ∧ TabOk K xs tb
def tabAt (tb : Tb) (ks : List Str) : Option (List Str) := (tb.find? fun x => decide (x.1 = ks)).map (·.2)
theorem TabOk.at {K : Frag} {ks : List Str} : ∀ {xs : List (List Str × Addr × Value)} {tb : Tb}, TabOk K xs tb → (tabAt tb ks).isSome = (atKey xs ks).isSome ∧ ∀ vs, tabAt tb ks = some vs → ∃ a T, atKey xs ks = some (a, .ref T) ∧ ∀ H, SqT K H T (vs.map V.str)
  | _, _, .nil => ⟨rfl, fun vs h => by cases h⟩
  | _, _, .cons (ks := ks') (vs := us) (a := a) (T := T) (xs := xs) (tb := tb) hT hc hd hz hv t => by
    by_cases e : ks' = ks
    · have e1 : atKey ((ks', a, Value.ref T) :: xs) ks = some (a, Value.ref T) := by simp [atKey, e]
      have e2 : tabAt ((ks', us) :: tb) ks = some us := by simp [tabAt, e]
      rw [e1, e2]
      refine ⟨rfl, fun vs h => ?_⟩
      cases h
      exact ⟨_, T, rfl, fun H => .inr ⟨_, _, _, hT, hc, hd, hz, hv⟩⟩
    · have e1 : atKey ((ks', a, Value.ref T) :: xs) ks = atKey xs ks := by simp [atKey, e]
      have e2 : tabAt ((ks', us) :: tb) ks = tabAt tb ks := by simp [tabAt, e]
      rw [e2]
      have q := TabOk.at (ks := ks) t
      exact ⟨by rw [q.1, ← e1], fun vs h => by rw [e1]; exact q.2 vs h⟩
def strOf : D → Option Str
  | .str x => some x
  | _ => none
def strsOf : List D → Option (List Str)
  | [] => some []
  | d :: ds => match strOf d, strsOf ds with
    | some x, some xs => some (x :: xs)
    | _, _ => none
theorem strsOf_map : ∀ {ds : List D} {ks : List Str}, strsOf ds = some ks → ds = ks.map PyData.str
  | [], _, h => by cases h; rfl
  | d :: ds, _, h => by
    unfold strsOf at h
    cases q1 : strOf d with
    | none => rw [q1] at h; cases h
    | some x =>
      cases q2 : strsOf ds with
      | none => rw [q1, q2] at h; cases h
      | some xs =>
        rw [q1, q2] at h
        cases h
        rw [strsOf_map q2]
        cases d <;> first | cases q1 | skip
        rfl
theorem rpl_ts {K : Frag} {A : AS} {H : Hp} : ∀ {ks : List Str} {vs : List V}, RpL K A H (ks.map PyData.str) vs → vs = ks.map V.str
  | [], _, h => h.inv_nil
  | x :: ks, _, h => by
    obtain ⟨v, r, rfl, h1, h2⟩ := h.inv_cons
    have e : v = .str x := by simpa only [Rp] using h1
    rw [e, rpl_ts h2]
    rfl
theorem rpl_us {K : Frag} {A : AS} {H : Hp} : ∀ {ks : List Str}, RpL K A H (ks.map PyData.str) (ks.map V.str)
  | [] => .nil
  | x :: ks => .cons (by simp only [Rp]) rpl_us
/-- a key: a tuple of texts -/
def keyT : D → Option (List Str)
  | .tuple ds => strsOf ds
  | _ => none
theorem keyT_ok {K : Frag} {A : AS} {H : Hp} {d : D} {v : V} {ks : List Str} (e : keyT d = some ks) (h : Rq K A H d v) : ∃ t, v = .ref t ∧ SqT K H t (ks.map V.str) := by
  cases d with
  | tuple ds =>
    have e := strsOf_map e
    subst e
    obtain ⟨a, xs, rfl, l, r⟩ := h.tup
    rw [rpl_ts r] at l
    exact ⟨a, rfl, l⟩
  | _ => cases e
theorem items_of {P : Program} {w : World} : ∀ {ks : List Str} {us : List Value}, Vals (ks.map V.str) us → ItemsAre (strKind P w) ks us
  | [], _, h => by cases h; exact .nil
  | x :: ks, _, h => by
    cases h with
    | cons h1 h2 =>
      obtain ⟨t, rfl⟩ := h1
      exact .cons (show Value.isStrOf x (.str x t) = true by simp [Value.isStrOf]) (items_of h2)
section
variable {X : Cx} {W : WX} {tb : Tb} {x : Str} {d : Addr} {xs : List (List Str × Addr × Value)}
theorem key_is {pins : List (Addr × Obj)} {σ : L2.St} {H : Hp} {s : Shared} {t : Addr} {ks : List Str} (I : Inv X pins σ H s) (h : SqT X.K H t (ks.map V.str)) : (kd X.prog X.w).is s.heap ks t := by
  obtain ⟨its, r, ⟨o, e, c, n, dt⟩, _⟩ := I.tuple h
  exact ⟨o, its.toArray, n, e, c, dt, by simpa using items_of r⟩
def rNinT (K : Frag) (d : Addr) (xs : List (List Str × Addr × Value)) : R2 := fun x y H Q => ∃ t ks, x = .ref t ∧ y = .ref d ∧ SqT K H t (ks.map V.str) ∧ Q (.bl (!(atKey xs ks).isSome)) H
theorem op_ninT (hu : X.A.units + 1 < cLine) (hd : (d == sysModules) = false) (hm : ∀ h : Heap, X.K.In h → h.DictOfH (kd X.prog X.w) d xs) : OpR X (compareOp .NotIn) (rNinT X.K d xs) := by
  intro pins s σ H x y v u Q I rx ry h
  obtain ⟨t, ks, rfl, rfl, hs, q⟩ := h
  cases rx
  cases ry
  exact wpAny_notIn_heap (tupleKind_room_in1 hu) (key_is I hs) hd (hm _ I.kIn) ⟨.bl _, H, I.tok _, rfl, q⟩
def rIxT' (K : Frag) (d : Addr) (xs : List (List Str × Addr × Value)) : R2 := fun x y H Q => ∃ t ks a T, x = .ref d ∧ y = .ref t ∧ SqT K H t (ks.map V.str) ∧ atKey xs ks = some (a, .ref T) ∧ Q (.ref T) H
theorem ix_T (hu : X.A.units + 1 < cLine) (hm : ∀ h : Heap, X.K.In h → h.DictOfH (kd X.prog X.w) d xs) : IxR X (rIxT' X.K d xs) := by
  intro value slice pins s σ H x y v u Q I rx ry h hs
  obtain ⟨t, ks, a, T, rfl, rfl, hk, ha, q⟩ := h
  cases rx
  cases ry
  exact tail_any (hm _ I.kIn).typeIs slot_dict_getitem.lookup (wpAny_getItem_heap (tupleKind_room_in1 hu) (key_is I hk) (hm _ I.kIn) ha ⟨.ref T, H, I.tok _, rfl, q⟩) hs
def ninTG (tb : Tb) : G1 := fun z => match keyT z with
  | some ks => some (.sh (.bool (!(tabAt tb ks).isSome)))
  | none => none
def ixTG (tb : Tb) : G1 := fun z => match keyT z with
  | some ks => (tabAt tb ks).map fun vs => .sh (.tuple (vs.map PyData.str))
  | none => none
variable {a : Expr} {fa : EF} {pos p : Pos} {k : Nat}
/-- e not in x -/
theorem e_ninT (T : TabT X.prog X.w X.K X.mg x tb) (hr : Room k X.A) (ha : PE X a (tE (gd X W) fa)) (hg : Gl X x := by rfl) (hdb : (x == ("__debug__" : Str)) = false := by decide) :
    PE X (.Compare a [.NotIn] [.Name x p] pos) (tE (gd X W) (unF (ninTG tb) fa)) := by
  obtain ⟨d, xs, hm, hsy, hd, ok⟩ := T.ex
  refine PE.imp (pe_cmpR (op_ninT (room1 hr) hsy hd) ha (pe_glob (v := .ref d) hg hm rfl hdb) rfl) fun σ H Q h => ?_
  have h' := unF_sound (G := gd X W) (r := fun x H Q => rNinT X.K d xs x (.ref d) H Q) (fun A H y vy z Q hdm e hy q => by
    unfold ninTG at e
    cases q1 : keyT y with
    | none => rw [q1] at e; cases e
    | some ks =>
      rw [q1] at e
      cases e
      obtain ⟨t, rfl, hs⟩ := keyT_ok q1 hy
      exact ⟨t, ks, rfl, rfl, hs, by rw [← (ok.at (ks := ks)).1]; exact q _ _ (Same.refl H) rz_bl⟩) h
  exact h'
/-- x[e] -/
theorem e_ixT (T : TabT X.prog X.w X.K X.mg x tb) (hr : Room k X.A) (ha : PE X a (tE (gd X W) fa)) (hg : Gl X x := by rfl) (hs : PlainIx a := by intro _ _; rfl) (hdb : (x == ("__debug__" : Str)) = false := by decide) :
    PE X (.Subscript (.Name x p) a pos) (tE (gd X W) (unF (ixTG tb) fa)) := by
  obtain ⟨d, xs, hm, hsy, hd, ok⟩ := T.ex
  refine PE.imp (pe_ix (ix_T (room1 hr) hd) (pe_glob (v := .ref d) hg hm rfl hdb) ha hs) fun σ H Q h => ?_
  have h' := unF_sound (G := gd X W) (r := fun y H Q => rIxT' X.K d xs (.ref d) y H Q) (fun A H y vy z Q hdm e hy q => by
    unfold ixTG at e
    cases q1 : keyT y with
    | none => rw [q1] at e; cases e
    | some ks =>
      rw [q1] at e
      cases q2 : tabAt tb ks with
      | none => simp only [q2] at e; cases e
      | some vs =>
        simp only [q2] at e
        cases e
        obtain ⟨t, rfl, hs⟩ := keyT_ok q1 hy
        obtain ⟨a, T, e1, e2⟩ := (ok.at (ks := ks)).2 vs q2
        refine ⟨t, ks, a, T, rfl, rfl, hs, e1, q _ _ (Same.refl H) ?_⟩
        show Rp X.K A H (.tuple (vs.map PyData.str)) (.ref T)
        simp only [Rp]
        exact ⟨T, vs.map V.str, rfl, e2 H, rpl_us⟩) h
  exact h'
end
end VL


set_option Elab.async false
set_option linter.all false
set_option maxRecDepth 100000
set_option maxHeartbeats 2000000
/-! VL17: facts of a head: data of the module, the written dict, a Hook that tells them. -/
namespace VL
open PySem PySem.Spec PyProof.Rows L2 HDK
variable [TbP]
section
variable (K : Frag)
mutual
def gB : D → Value → Bool
  | .none, .none => true
  | .bool b, .bool c => b == c
  | .int i, .int j _ => decide (i = j)
  | .str x, .str y _ => decide (x = y)
  | .tuple ds, .ref T => (match K.lookup T with
    | some ⟨.type c, _, .seq its _, _⟩ => decide (c = "tuple") && (decide (its.size ≤ sizeLine) && gBL ds its.toList)
    | _ => false)
  | .list ds, .ref T => (match K.lookup T with
    | some ⟨.type c, none, .seq its _, _⟩ => decide (c = "list") && (decide (its.size ≤ sizeLine) && gBL ds its.toList)
    | _ => false)
  | _, _ => false
def gBL : List D → List Value → Bool
  | [], [] => true
  | d :: ds, v :: vs => gB d v && gBL ds vs
  | _, _ => false
end
end
section
variable {K : Frag}
mutual
theorem gB_ok : ∀ (d : D) (u : Value), gB K d u = true → ∃ v, RelV v u ∧ ∀ A H, Rp K A H d v
  | .none, u, h => by
    cases u <;> simp only [gB] at h <;> first | cases h | skip
    exact ⟨.non, rfl, fun A H => by simp only [Rp]⟩
  | .bool b, u, h => by
    cases u <;> simp only [gB] at h <;> first | cases h | skip
    rename_i c
    obtain rfl := eq_of_beq h
    exact ⟨.bl b, rfl, fun A H => by simp only [Rp]⟩
  | .int i, u, h => by
    cases u <;> simp only [gB] at h <;> first | cases h | skip
    rename_i j t
    obtain rfl := of_decide_eq_true h
    exact ⟨.int i, ⟨t, rfl⟩, fun A H => by simp only [Rp]⟩
  | .str x, u, h => by
    cases u <;> simp only [gB] at h <;> first | cases h | skip
    rename_i y t
    obtain rfl := of_decide_eq_true h
    exact ⟨.str x, ⟨t, rfl⟩, fun A H => by simp only [Rp]⟩
  | .tuple ds, u, h => by
    cases u <;> simp only [gB] at h <;> first | cases h | skip
    rename_i T
    cases q : K.lookup T with
    | none => rw [q] at h; cases h
    | some o =>
      obtain ⟨oc, od, dt, osl⟩ := o
      rw [q] at h
      cases oc <;> first | cases h | skip
      cases dt <;> first | cases h | skip
      rename_i c its n
      simp only [Bool.and_eq_true, decide_eq_true_eq] at h
      obtain ⟨h1, h2, h3⟩ := h
      obtain ⟨vs, r, a⟩ := gBL_ok ds its.toList h3
      refine ⟨.ref T, rfl, fun A H => ?_⟩
      simp only [Rp]
      exact ⟨T, vs, rfl, .inr ⟨_, its, n, q, congrArg Value.type h1, rfl, h2, r⟩, a A H⟩
  | .list ds, u, h => by
    cases u <;> simp only [gB] at h <;> first | cases h | skip
    rename_i T
    cases q : K.lookup T with
    | none => rw [q] at h; cases h
    | some o =>
      obtain ⟨oc, od, dt, osl⟩ := o
      rw [q] at h
      cases oc <;> cases od <;> cases dt <;> first | cases h | skip
      rename_i c its n
      simp only [Bool.and_eq_true, decide_eq_true_eq] at h
      obtain ⟨h1, h2, h3⟩ := h
      obtain ⟨vs, r, a⟩ := gBL_ok ds its.toList h3
      refine ⟨.ref T, rfl, fun A H => ?_⟩
      simp only [Rp]
      exact ⟨T, vs, rfl, .inr ⟨_, its, n, q, congrArg Value.type h1, rfl, rfl, h2, r⟩, a A H⟩
  | .dict kvs, u, h => by
    cases u <;> simp only [gB] at h <;> cases h
theorem gBL_ok : ∀ (ds : List D) (us : List Value), gBL K ds us = true → ∃ vs, Vals vs us ∧ ∀ A H, RpL K A H ds vs
  | [], us, h => by
    cases us <;> simp only [gBL] at h <;> first | cases h | skip
    exact ⟨[], .nil, fun A H => .nil⟩
  | d :: ds, us, h => by
    cases us with
    | nil => simp only [gBL] at h; cases h
    | cons u us =>
      simp only [gBL, Bool.and_eq_true] at h
      obtain ⟨v, r, a⟩ := gB_ok d u h.1
      obtain ⟨vs, rs, as⟩ := gBL_ok ds us h.2
      exact ⟨v :: vs, .cons r rs, fun A H => .cons (a A H) (as A H)⟩
end
end
/-- the module's name x stands for this datum -/
def glB (K : Frag) (p : Str × D) : Bool := match PySem.W.nsIn K mainGlobals p.1 with
  | some (some u) => gB K p.2 u
  | _ => false
theorem glB_ok {K : Frag} {h : Heap} {mg : Str → Option Value} {p : Str × D} (X : K.In h) (G : h.Ns mainGlobals mg) (c : glB K p = true) : GlD K mg p.1 p.2 := by
  unfold glB at c
  cases q : PySem.W.nsIn K mainGlobals p.1 with
  | none => rw [q] at c; cases c
  | some r =>
    cases r with
    | none => rw [q] at c; cases c
    | some u =>
      rw [q] at c
      obtain ⟨v, r, a⟩ := gB_ok _ _ c
      exact ⟨v, u, PySem.W.mg_of X G q, r, a⟩
/-! ### the written dict -/
def strsB : List Str → List Value → Bool
  | [], [] => true
  | x :: xs, .str y _ :: vs => decide (x = y) && strsB xs vs
  | _, _ => false
theorem strsB_ok : ∀ {xs : List Str} {vs : List Value}, strsB xs vs = true → Vals (xs.map V.str) vs
  | [], vs, h => by
    cases vs <;> simp only [strsB] at h <;> first | cases h | skip
    exact .nil
  | x :: xs, vs, h => by
    cases vs with
    | nil => simp only [strsB] at h; cases h
    | cons v vs =>
      cases v <;> simp only [strsB] at h <;> first | cases h | skip
      simp only [Bool.and_eq_true, decide_eq_true_eq] at h
      obtain ⟨rfl, h2⟩ := h
      exact .cons ⟨_, rfl⟩ (strsB_ok h2)
def tsB (K : Frag) (a : Addr) (ks : List Str) : Bool := match K.lookup a with
  | some ⟨.type c, _, .seq its _, _⟩ => decide (c = "tuple") && (decide (its.size ≤ sizeLine) && strsB ks its.toList)
  | _ => false
theorem tsB_ok {K : Frag} {a : Addr} {ks : List Str} (h : tsB K a ks = true) : ∃ (o : Obj) (its : Array Value) (n : Nat), K.lookup a = some o ∧ o.cls = .type "tuple" ∧ o.data = .seq its n ∧ its.size ≤ sizeLine ∧ Vals (ks.map V.str) its.toList := by
  unfold tsB at h
  cases q : K.lookup a with
  | none => rw [q] at h; cases h
  | some o =>
    obtain ⟨oc, od, dt, osl⟩ := o
    rw [q] at h
    cases oc <;> first | cases h | skip
    cases dt <;> first | cases h | skip
    rename_i c its n
    simp only [Bool.and_eq_true, decide_eq_true_eq] at h
    obtain ⟨h1, h2, h3⟩ := h
    exact ⟨_, its, n, rfl, congrArg Value.type h1, rfl, h2, strsB_ok h3⟩
def tabE (K : Frag) : Tb → List DictEntry → Bool
  | [], [] => true
  | (ks, vs) :: tb, ⟨_, .ref a, .ref T⟩ :: es => tsB K a ks && (tsB K T vs && tabE K tb es)
  | _, _ => false
theorem tabE_ok {P : Program} {w : World} {K : Frag} : ∀ {tb : Tb} {es : List DictEntry}, tabE K tb es = true → es.map (·.hash) = tb.map (fun p => (kd P w).hash p.1) →
    ∃ xs : List (List Str × Addr × Value), es = xs.map (entryOfKey (kd P w)) ∧ TabOk K xs tb ∧ (∀ x ∈ xs, ∀ h : Heap, K.In h → (kd P w).is h x.1 x.2.1) ∧ xs.map (·.1) = tb.map (·.1)
  | [], es, h, _ => by
    cases es <;> simp only [tabE] at h <;> first | cases h | skip
    exact ⟨[], rfl, .nil, (fun x hx => nomatch hx), rfl⟩
  | (ks, vs) :: tb, es, h, e => by
    cases es with
    | nil => simp only [tabE] at h; cases h
    | cons en es =>
      obtain ⟨hs, ky, vl⟩ := en
      cases ky <;> cases vl <;> simp only [tabE] at h <;> first | cases h | skip
      rename_i a T
      simp only [Bool.and_eq_true] at h
      simp only [List.map_cons, List.cons.injEq] at e
      obtain ⟨h1, h2, h3⟩ := h
      obtain ⟨xs, e1, t, k, e2⟩ := tabE_ok h3 e.2
      obtain ⟨o, its, n, l, c, dt, z, v⟩ := tsB_ok h1
      obtain ⟨o', its', n', l', c', dt', z', v'⟩ := tsB_ok h2
      refine ⟨(ks, a, .ref T) :: xs, ?_, .cons l' c' dt' z' v' t, fun x hx => ?_, by simp [e2]⟩
      · rw [List.map_cons, ← e1]
        unfold entryOfKey
        rw [e.1]
      · rcases List.mem_cons.mp hx with rfl | hx
        · exact fun h X => ⟨o, its, n, X a o l, c, dt, items_of v⟩
        · exact k x hx
def keysNd : List (List Str) → Bool
  | [] => true
  | a :: l => l.all (fun b => !(a == b)) && keysNd l
theorem keysNd_ok : ∀ {l : List (List Str)}, keysNd l = true → l.Nodup
  | [], _ => .nil
  | a :: l, h => by
    obtain ⟨h1, h2⟩ := Bool.and_eq_true_iff.mp h
    refine List.nodup_cons.mpr ⟨fun z => ?_, keysNd_ok h2⟩
    have := List.all_eq_true.mp h1 a z
    simp at this
def tabB (K : Frag) (x : Str) (tb : Tb) : Bool := match PySem.W.nsIn K mainGlobals x with
  | some (some (.ref d)) => !(d == sysModules) && (match K.lookup d with
    | some ⟨.type c, none, .dict es _, sl⟩ => decide (c = "dict") && (decide (sl.size = 0) && (tabE K tb es.toList && keysNd (tb.map (·.1))))
    | _ => false)
  | _ => false
def tabH (K : Frag) (x : Str) : List Int := match PySem.W.nsIn K mainGlobals x with
  | some (some (.ref d)) => (match K.lookup d with
    | some ⟨_, _, .dict es _, _⟩ => es.toList.map (·.hash)
    | _ => [])
  | _ => []
theorem tab_ok {P : Program} {w : World} {K : Frag} {h : Heap} {mg : Str → Option Value} {x : Str} {tb : Tb} (X : K.In h) (G : h.Ns mainGlobals mg) (c : tabB K x tb = true) (e : tabH K x = tb.map fun p => (kd P w).hash p.1) : TabT P w K mg x tb := by
  unfold tabB at c
  unfold tabH at e
  cases q : PySem.W.nsIn K mainGlobals x with
  | none => rw [q] at c; cases c
  | some r =>
    cases r with
    | none => rw [q] at c; cases c
    | some u =>
      rw [q] at c e
      cases u <;> first | cases c | skip
      rename_i d
      obtain ⟨c1, c2⟩ := Bool.and_eq_true_iff.mp c
      dsimp only at e
      cases q2 : K.lookup d with
      | none => rw [q2] at c2; cases c2
      | some o =>
        obtain ⟨oc, od, dt, osl⟩ := o
        rw [q2] at c2 e
        cases oc <;> cases od <;> cases dt <;> first | cases c2 | skip
        rename_i cc es ep
        simp only [Bool.and_eq_true, decide_eq_true_eq] at c2
        obtain ⟨k1, k2, k3, k4⟩ := c2
        obtain ⟨xs, e1, t, k, e2⟩ := tabE_ok (P := P) (w := w) k3 e
        exact ⟨d, xs, PySem.W.mg_of X G q, by simpa using c1, fun h X => ⟨_, es, ep, X d _ q2, ⟨congrArg Value.type k1, rfl, Array.eq_empty_of_size_eq_zero k2⟩, rfl, e1, fun x hx => k x hx h X, by rw [e2]; exact keysNd_ok k4⟩, t⟩
/-! ### the Hook -/
def refsX (o : Obj) : List Addr := He.refsD o ++ match o.data with
  | .dict es _ => es.toList.flatMap fun e => He.refV e.key
  | _ => []
def growX (g : Addr → Option Obj) (as : List Addr) : List Addr := (as ++ as.flatMap fun a => match g a with
  | some o => refsX o
  | none => []).eraseDups
def asX (g : Addr → Option Obj) : Nat → List Addr
  | 0 => [mainGlobals]
  | n + 1 => growX g (asX g n)
/-- what a head looks at: names and built-ins, defs, data, the written dict -/
structure Wd where
  fa : List He.Fa
  fn : List He.DefD
  gl : List (Str × D)
  tx : Str
  tb : Tb
abbrev AlX : Type := He.AlD × Bool × Bool × List Int
def obsK (z : Wd) (K : Frag) : AlX := (He.obsD z.fa z.fn K, z.gl.all (glB K), tabB K z.tx z.tb, tabH K z.tx)
def valX (P : Program) (z : Wd) (w : World) : AlX := (He.valD z.fn, true, true, z.tb.map fun p => (kd P w).hash p.1)
def obsX (n : Nat) (z : Wd) (g : Addr → Option Obj) : AlX := obsK z (He.frG g (asX g n))
def hookX (n : Nat) (P : Program) (z : Wd) : PySem.W.Hook where
  α := AlX
  obs := fun s => obsX n z s.heap.get?
  val := valX P z
  says := fun w h => ∃ K : Frag, K.In h ∧ obsK z K = valX P z w
  of := fun _ _ e => ⟨_, He.frG_in, e⟩
  keeps := fun _ _ _ ⟨K, hK, c⟩ k => ⟨K, PySem.W.Frag.In.keeps hK k, c⟩
theorem obsX_eq {n : Nat} {P : Program} {z : Wd} {g : Addr → Option Obj} {s : Shared} (h : ∀ a, g a = s.heap.get? a) : obsX n z g = (hookX n P z).obs s := by
  have e : g = s.heap.get? := funext h
  rw [e] <;> rfl
structure SaysX (P : Program) (z : Wd) (w : World) (K : Frag) : Prop where
  d : He.SaysD z.fa z.fn K
  g : ∀ p ∈ z.gl, glB K p = true
  t : tabB K z.tx z.tb = true
  h : tabH K z.tx = z.tb.map fun p => (kd P w).hash p.1
theorem says_of {P : Program} {z : Wd} {w : World} {K : Frag} (e : obsK z K = valX P z w) : SaysX P z w K := by
  have e1 : He.obsD z.fa z.fn K = He.valD z.fn := congrArg (fun a : AlX => a.1) e
  have e2 : z.gl.all (glB K) = true := congrArg (fun a : AlX => a.2.1) e
  have e3 : tabB K z.tx z.tb = true := congrArg (fun a : AlX => a.2.2.1) e
  have e4 : tabH K z.tx = z.tb.map fun p => (kd P w).hash p.1 := congrArg (fun a : AlX => a.2.2.2) e
  exact ⟨e1, fun p hp => List.all_eq_true.mp e2 p hp, e3, e4⟩
section
variable {P : Program} {z : Wd} {w : World} {K : Frag} {h : Heap} {mg : Str → Option Value}
theorem SaysX.here (s : SaysX P z w K) (X : K.In h) (G : h.Ns mainGlobals mg) (i j : Nat) {x : Str} {st : Stmt} {ps : List Str} 
    (b : ∀ (kV doc pm : Value) (an : Option Addr) (cdv ct : Value) (us : List Value), us.length = ps.length → bindArgs (PySem.W.fnOf x x (defArgs st) (defBody st) (defScope st) .none kV doc pm an cdv ct) ⟨us, []⟩ = pure (ps.zip us)) (e1 : z.fn[i]? = some ⟨(x, none), x, x, defArgs st, defBody st, defScope st, [], []⟩ := by rfl) (e2 : z.fa[j]? = some (.glo x) := by rfl) : HereG K mg x st ps := by
  obtain ⟨fd, F⟩ := s.d.def_ i e1
  exact HereG.of (He.glo_ok X G (s.d.fact j e2)) F b
theorem SaysX.free (s : SaysX P z w K) (X : K.In h) (G : h.Ns mainGlobals mg) (j : Nat) {x : Str} (e : z.fa[j]? = some (.free x) := by rfl) : mg x = none := He.free_ok X G (s.d.fact j e)
theorem SaysX.gl (s : SaysX P z w K) (X : K.In h) (G : h.Ns mainGlobals mg) (j : Nat) {x : Str} {d : D} (e : z.gl[j]? = some (x, d) := by rfl) : GlD K mg x d := glB_ok (p := (x, d)) X G (s.g _ (List.mem_of_getElem? e))
theorem SaysX.tab (s : SaysX P z w K) (X : K.In h) (G : h.Ns mainGlobals mg) : TabT P w K mg z.tx z.tb := tab_ok X G s.t s.h
end
end VL
namespace VL
open PySem PySem.Spec PyProof.Rows L2
variable [TbP]
/-- a comprehension inside another -/
def envS (sc : Scope) : Env := { scope := sc, locals := 0, globals := 0, cells := [] }
theorem relabel_envS (outer : Scope) (env : Env) : relabel outer env = relabel outer (envS env.scope) := rfl
theorem blkN {X : Cx} {s : Shared} {H : Hp} {outer scope sc0 : Scope} {C : Addr} {cl : List (Str × Addr)} {fp : List Addr} {N : List Str} {own : List (Str × Nat)} (e : X.N = N) (e0 : X.env.scope = sc0) (h : BlkOk N (relabel outer (envS sc0)) scope own) :
    BlkOk (X.blk s H outer (compEnvC outer cl C X.env) fp).N (X.blk s H outer (compEnvC outer cl C X.env) fp).env.scope scope own := by
  subst e e0
  exact h
theorem t_ninT {X : Cx} {W : WX} {tb : Tb} {x : Str} {a : Expr} {fa : EF} {pos p : Pos} {k : Nat} (T : TabT X.prog X.w X.K X.mg x tb) (hr : Room k X.A) (ha : PE X a (tE (gd X W) fa)) (hg : Gl X x := by rfl) (hdb : (x == ("__debug__" : Str)) = false := by decide) :
    PT X (.Compare a [.NotIn] [.Name x p] pos) (tT (gd X W) (boolF (unF (ninTG tb) fa))) := by
  obtain ⟨d, xs, hm, hsy, hd, ok⟩ := T.ex
  refine PT.imp (pt_cmpR (op_ninT (room1 hr) hsy hd) ha (pe_glob (v := .ref d) hg hm rfl hdb) rfl) fun σ H Q h => ?_
  have h' := unF_sound (G := gd X W) (r := fun x H Q => rNinT X.K d xs x (.ref d) H Q) (fun A H y vy z Q hdm e hy q => by
    unfold ninTG at e
    cases q1 : keyT y with
    | none => rw [q1] at e; cases e
    | some ks =>
      rw [q1] at e
      cases e
      obtain ⟨t, rfl, hs⟩ := keyT_ok q1 hy
      exact ⟨t, ks, rfl, rfl, hs, by rw [← (ok.at (ks := ks)).1]; exact q _ _ (Same.refl H) rz_bl⟩) (boolF_sound h)
  exact h'
end VL


set_option Elab.async false
set_option linter.all false
set_option maxRecDepth 100000
set_option maxHeartbeats 2000000
/-! VL18: a law's end. -/
namespace VL
open PySem PySem.Spec PyProof.Rows L2
variable [TbP]
theorem rpl_intsV {K : Frag} {A : AS} {H : Hp} : ∀ {ns : List Int}, RpL K A H (ns.map PyData.int) (ns.map V.int)
  | [] => .nil
  | n :: ns => .cons (by simp only [Rp]) rpl_intsV
/-- what the law's def is handed -/
theorem sp_law {K : Frag} {mg : Str → Option Value} {F : FD} {H : Hp} {a : Addr} {ns : List Int} {E : XK} (hO : Only H) (hS : SqL K H a (ns.map V.int)) {own : Bool} {ss : En} (h : F [.sh (.list (ns.map PyData.int))] = .ret own (.bool true) ss) (hT : TbP.T = []) :
    spF K mg F [.ref a] H (fun v _ => v = .bl true) E := by
  have hR : Rp K (fun b => H b ≠ none) H (.list (ns.map PyData.int)) (.ref a) := by
    simp only [Rp]
    refine ⟨a, ns.map V.int, rfl, ?_, rpl_intsV⟩
    rcases hS with hS | hS
    · refine .inl ⟨?_, hS⟩
      rcases hS with hS | ⟨o, hS⟩ <;> (rw [hS]; simp)
    · exact .inr hS
  have rel : Rel K (fun b => H b ≠ none) ([V.ref a].map some) H ([Ag.sh (.list (ns.map PyData.int))].map Ag.sl) := by
    have only0 : ∀ {i : Nat} {s : Sl}, ([Ag.sh (.list (ns.map PyData.int))].map Ag.sl)[i]? = some s → i = 0 ∧ s = .sh (.list (ns.map PyData.int)) := fun {i s} e => by
      cases i with
      | zero => exact ⟨rfl, (Option.some.inj e).symm⟩
      | succ j => cases e
    refine ⟨rfl, fun i d e => ?_, fun i d e => ?_, fun i j b h1 h2 => ?_, fun b hb => hb, fun i d e => ?_, fun p hp => by rw [hT] at hp; cases hp⟩
    · rcases e with e | e
      · obtain ⟨rfl, e2⟩ := only0 e
        cases e2
        exact ⟨.ref a, rfl, hR⟩
      · cases (only0 e).2
    · rcases e with e | e <;> cases (only0 e).2
    · obtain ⟨⟨d, e | e⟩, _⟩ := h1 <;> cases (only0 e).2
    · cases (only0 e).2
  refine ⟨fun b => H b ≠ none, [.sh (.list (ns.map PyData.int))], rel, ?_⟩
  rw [h]
  intro A' H' v _ hv
  cases own with
  | false => simpa only [ResOk, Rp] using hv
  | true =>
    obtain ⟨b, _, _, _, _, ob⟩ := hv
    exact ob.elim
/-- a law's call, from such a promise -/
theorem lawG' {P : Program} {w : World} {K : Frag} {mg mb : Str → Option Value} {k : Nat} {fa a : Addr} {x : Str} {F : FD} {s₁ : Shared} {vs : List Value} {ns : List Int}
    (KX : K.In s₁.heap) (hns : s₁.heap.Ns mainGlobals mg) (hb : s₁.heap.Ns builtinsNs mb) (hbb : ∀ x : Str, x ≠ "__name__" → mb x = bootBuiltins x) (hlim : s₁.heap.NoLimit) (hg : s₁.gens = #[])
    (ha : s₁.heap.get? a = some { cls := .type "list", data := .seq vs.toArray }) (hi : IntsAre vs ns) (hl : ns.length ≤ sizeLine) (hr : Room k callerA)
    (hm : mg x = some (.ref fa)) (D : ∀ base : Heap, K.In base → base.Ns mainGlobals mg → DefG P w K mg base k x 1 F)
    (hsp : ∀ H : Hp, Only H → SqL K H a (ns.map V.int) → spF K mg F [.ref a] H (fun v _ => v = .bl true) fun _ _ _ => False) :
    codeAny (model P w) callerA (.call (.ref fa) ⟨[.ref a], []⟩) (fun r s' => r = .ok (.ret (.bool true)) ∧ OldK s₁.heap s'.heap ∧ s'.os = s₁.os ∧ AllBare s'.gens) s₁ := by
  let oL : Obj := { cls := .type "list", data := .seq vs.toArray }
  have fin : ∀ H : Hp, (∀ b u, H b = some u → b = a ∧ K.lookup a = none ∧ u = .frz oL (.lst (ns.map V.int))) → SqL K H a (ns.map V.int) →
      codeAny (model P w) callerA (.call (.ref fa) ⟨[.ref a], []⟩) (fun r s' => r = .ok (.ret (.bool true)) ∧ OldK s₁.heap s'.heap ∧ s'.os = s₁.os ∧ AllBare s'.gens) s₁ := by
    intro H hH hS
    have notA : ∀ {b : Addr} {o : Obj}, s₁.heap.get? b = some o → (K.lookup b = some o ∨ ∃ es ep, o.data = .dict es ep) → H b = none := fun {b o} e d => by
      cases q : H b with
      | none => rfl
      | some u =>
        obtain ⟨e1, e2, _⟩ := hH b u q
        rw [e1] at d e
        rcases d with d | ⟨es, ep, d⟩
        · rw [e2] at d; cases d
        · rw [ha] at e; cases e; cases d
    have ns_of : ∀ {b : Addr} {m : Str → Option Value}, s₁.heap.Ns b m → (hidT s₁.heap H).Ns b m := fun ⟨o, es, ep, e, d, r⟩ => ⟨o, es, ep, hidT_get e (notA e (.inr ⟨es, ep, d⟩)), d, r⟩
    have kin : K.In (hidT s₁.heap H) := fun b o e => hidT_get (KX b o e) (notA (KX b o e) (.inl e))
    have only : Only H := fun b => by
      cases q : H b with
      | none => exact .inl rfl
      | some u => exact .inr ⟨_, _, congrArg some (hH b u q).2.2⟩
    have hok : HOk P w H s₁.heap := fun b u z => by
      obtain ⟨rfl, _, rfl⟩ := hH b u z
      exact ⟨ha, by rw [List.length_map]; exact hl, vs, _, vals_ints hi, ha⟩
    have hM : Mod K mg (hidT s₁.heap H) := ⟨kin, ns_of hns, ⟨mb, ns_of hb, hbb⟩, hlim.elim fun mc z => ⟨mc, ns_of z.1, z.2⟩⟩
    have e0 : Env0 P w K mg (hidT s₁.heap H) callerA [] s₁ H := ⟨rfl, hM, fun _ _ e => of_hidT e, Nat.le_of_eq (hidT_size _ _), trivial, (fun b hb => by cases hb), hok, .of_eq hg⟩
    obtain ⟨f0, fd, ps, FG, hm0, _, hb, hl1⟩ := (D _ kin (ns_of hns)).ex
    rw [hm] at hm0
    cases hm0
    have bnd := hb s₁ [.ref a] KX (by simpa using hl1.symm)
    refine codeAny_mono (FG.run callerA [] s₁ H ⟨[.ref a], []⟩ [.ref a] [.ref a] _ _ hr rfl e0 bnd (.cons rfl .nil) (hsp H only hS)) fun r s' h => ?_
    cases r with
    | error e => obtain ⟨_, _, _, _, _, _, _, _, _, _, _, _, z⟩ := h; exact z.elim
    | ok fl =>
      cases fl with
      | next => exact False.elim h
      | brk => exact False.elim h
      | cont => exact False.elim h
      | ret u =>
        obtain ⟨v, H', os, bare, un, hok', r', q⟩ := h
        have q : v = V.bl true := q
        subst q
        obtain rfl : u = Value.bool true := r'
        refine ⟨rfl, OldK.of_keep fun b o e => ?_, os, bare⟩
        cases q : H b with
        | none => exact un.keep b o e q (by intro z; cases z) (by simp)
        | some u =>
          obtain ⟨_, _, rfl⟩ := hH b u q
          have e1 := (hok b _ q).1
          rw [e] at e1
          cases e1
          exact (hok' b _ (un.frzs b _ _ q)).1
  cases hk : K.lookup a with
  | some o =>
    have e := KX a o hk
    rw [ha] at e
    cases e
    exact fin (fun _ => none) (fun _ _ z => by cases z) (.inr ⟨_, vs.toArray, _, hk, rfl, rfl, rfl, by rw [List.size_toArray, hi.length]; exact hl, vals_ints hi⟩)
  | none =>
    refine fin (fun b => if b = a then some (.frz oL (.lst (ns.map V.int))) else none) (fun b u z => ?_) (.inl (.inr ⟨oL, if_pos rfl⟩))
    by_cases hb : b = a
    · rw [if_pos hb] at z; cases z; exact ⟨hb, hk, rfl⟩
    · rw [if_neg hb] at z; cases z
theorem law_end {l : PySem.W.OpenLaw} {n k m : Nat} {q P : Program} {loose : List Str} {d : DefRec} {Z : Wd} {F : FD}
    (hn : l.most = some n) (hn2 : n ≤ sizeLine) (hdf : d.params.defaults = []) (hr : Room k callerA) (hname : d.name = ("law" : Str))
    (D : ∀ (w : World) (K : Frag) (mg : Str → Option Value) (h : Heap), K.In h → h.Ns mainGlobals mg → SaysX P Z w K → ∀ base : Heap, DefG l.prog w K mg base k "law" 1 F)
    (hF : ∀ ns : List Int, ns.length ≤ n → ∃ own ss, F [.sh (.list (ns.map PyData.int))] = .ret own (.bool true) ss) (hT : TbP.T = [] := by rfl) :
    PySem.W.WalkO q loose (PySem.W.XL q []) (hookX m P Z).says l.row.toRowW d [] (fun f vs => PySem.call f vs) :=
  Att.attach_call hn hdf fun w _ s₁ mg _ fa _ _ _ _ a vs ns G Y _ _ _ hmg hobj hints hlen hg => by
    obtain ⟨K, KX, e⟩ := Y
    have S := says_of e
    obtain ⟨f0, fd0, ps0, FG0, hm0, hk0, hb0, hl0⟩ := (D w K mg _ KX G.T.g S s₁.heap).ex
    rw [hname, hm0] at hmg
    cases hmg
    refine lawG' KX G.T.g G.T.b G.T.builtins G.T.nolimit hg hobj hints (Nat.le_trans hlen hn2) hr hm0 (fun base hB hN => (D w K mg _ KX G.T.g S base)) fun H hO hS => ?_
    obtain ⟨own, ss, hF⟩ := hF ns hlen
    exact sp_law hO hS hF hT
end VL


set_option Elab.async false
set_option linter.all false
set_option maxRecDepth 100000
set_option maxHeartbeats 2000000
/-! VL19: t[::-1] of a tuple; a, b, .. = a list. -/
namespace VL
open PySem PySem.Spec PyProof.Rows L2 HT
variable [TbP]
section
variable {prog : Program} {w : World} {A : Around} {E : Value → Shared → Prop} {s : Shared}
theorem fm_map {α β : Type} {f : α → Option β} {g : α → β} : ∀ {l : List α}, (∀ x ∈ l, f x = some (g x)) → l.filterMap f = l.map g
  | [], _ => rfl
  | a :: l, h => by
    rw [List.filterMap_cons, h a List.mem_cons_self]
    simp only [List.map_cons]
    rw [fm_map fun x hx => h x (List.mem_cons_of_mem _ hx)]
theorem adjust_rev (n : Nat) : Builtin.Slice.sliceAdjust none none (-1) (n : Int) = ((n : Int) - 1, -1) := by
  unfold Builtin.Slice.sliceAdjust
  simp
theorem places_rev (n : Nat) : Builtin.Slice.slicePlaces ((n : Int) - 1) (-1) (-1) = n := by
  unfold Builtin.Slice.slicePlaces
  have h1 : ¬ ((-1 : Int) > 0) := by omega
  rw [if_neg h1]
  by_cases h : (n : Int) - 1 > -1
  · rw [if_pos h]
    have : ((n : Int) - 1 - -1 - 1) / (- -1) = (n : Int) - 1 := by
      rw [show (- -1 : Int) = 1 by omega, Int.ediv_one]; omega
    rw [this]; omega
  · rw [if_neg h]; omega
theorem pick_rev (xs : Array Value) : ((List.range xs.size).filterMap fun (m : Nat) => xs[(((xs.size : Int) - 1) + (m : Int) * (-1)).toNat]?).toArray = xs.toList.reverse.toArray := by
  congr 1
  refine List.ext_getElem? fun i => ?_
  have e : (List.range xs.size).filterMap (fun (m : Nat) => xs[(((xs.size : Int) - 1) + (m : Int) * (-1)).toNat]?) = (List.range xs.size).map (fun m => xs.toList.reverse.getD m .none) := by
    refine fm_map fun m hm => ?_
    have hm := List.mem_range.mp hm
    have e1 : (((xs.size : Int) - 1) + (m : Int) * (-1)).toNat = xs.size - 1 - m := by omega
    rw [e1]
    have h2 : xs.size - 1 - m < xs.size := by omega
    rw [Array.getElem?_eq_getElem h2]
    simp [List.getD, List.getElem?_reverse, hm, h2]
  rw [e]
  by_cases h : i < xs.size
  · simp [h, List.getD]
  · simp [h]
theorem applied_rev {sl : Addr} {vs : Value} {n : Nat} {Q : Int × Int × Nat → Shared → Prop} (hs : s.heap.IsSliceOf sl .none .none vs) (ps : IsPart vs (some (-1)))
    (h : Q ((n : Int) - 1, -1, n) s) : wpAny (model prog w) A (Builtin.Slice.sliceApplied (.ref sl) (pure (n : Int))) Q E s := by
  obtain ⟨os, hos, hcs, hds⟩ := id hs
  unfold Builtin.Slice.sliceApplied Builtin.Slice.sliceFields
  refine wpAny_bind (wpAny_bind (wpAny_field hos hds (x := .none) rfl (wpAny_bind (wpAny_field hos hds (x := .none) rfl (wpAny_bind (wpAny_field hos hds (x := vs) rfl (wpAny_pure ?_)))))))
  refine wpAny_bind (slicePart_ ps ?_)
  show wpAny _ _ (if ((-1 : Int) == 0) = true then _ else _) _ _ s
  rw [if_neg (by decide)]
  refine wpAny_bind (slicePart_ .none (wpAny_bind (slicePart_ .none (wpAny_bind (wpAny_pure ?_)))))
  show wpAny _ _ (match Builtin.Slice.sliceAdjust none none (-1) (n : Int) with | (lo, hi) => pure (lo, (-1 : Int), Builtin.Slice.slicePlaces lo hi (-1))) _ _ s
  rw [adjust_rev n]
  show wpAny _ _ (pure ((n : Int) - 1, (-1 : Int), Builtin.Slice.slicePlaces ((n : Int) - 1) (-1) (-1))) _ _ s
  rw [places_rev]
  exact wpAny_pure h
theorem getItem_tuple_rev {t sl : Addr} {items : Array Value} {vs : Value} {Q : Value → Shared → Prop} (ht : IsTup s.heap t items) (hs : s.heap.IsSliceOf sl .none .none vs) (ps : IsPart vs (some (-1)))
    (h : Q (.ref s.heap.objs.size) { s with heap := s.heap.push { cls := .type "tuple", data := .seq items.toList.reverse.toArray } })
    (hsz : items.size ≤ sizeLine) : wpAny (model prog w) A (getItem (.ref t) (.ref sl)) Q E s := by
  have htake : sizeOk (.seq items.toList.reverse.toArray) := by
    show items.toList.reverse.toArray.size ≤ sizeLine
    simpa using hsz
  obtain ⟨os, hos, hcs, hds⟩ := id hs
  have hTs : s.TypeIs (.ref sl) "slice" := ⟨os, hos, hcs⟩
  unfold getItem
  try with_reducible refine wpAny_holding ?_
  first | refine wpAny_bind (wpAny_pure ?_) | skip
  refine wpAny_bind (wpAny_sequenceKey ht.typeIs (by decide) ?_)
  refine wpAny_bind (wpAny_callSpecial?_slot (name := Str.ofString "__getitem__") ht.typeIs PyProof.Rows.slot_tuple_getitem
    (wpAny_call_entry PyProof.Rows.slot_tuple_getitem ht.typeIs entry_tuple_getitem ?_ (args_tuple_getitem _ _)))
  show wpAny _ _ (Builtin.Tuple.tupleItemsOf (.ref t) >>= _) _ _ s
  refine wpAny_bind (tupleItemsOf_ ht ?_)
  refine wpAny_bind (wpAny_typeOf hTs ?_)
  rw [if_pos (by decide)]
  refine wpAny_bind (applied_rev hs ps ?_)
  have hno : ¬ ((((items.size : Int) - 1) == 0 && (-1 : Int) == 1 && items.size == items.size) = true) := by simp
  show wpAny _ _ (if (((items.size : Int) - 1) == 0 && (-1 : Int) == 1 && items.size == items.size) = true then _ else _) _ _ s
  rw [if_neg hno, pick_rev]
  first
    | exact wpAny_bind (m := Builtin.Tuple.tupleExact _) (wpAny_newObj_type (wpAny_pure ⟨_, rfl, wpAny_pure h⟩) htake)
    | exact wpAny_bind (m := Builtin.Tuple.tupleExact _) (wpAny_newObj_type (wpAny_bind (wpAny_pure (wpAny_pure ⟨_, rfl, wpAny_pure h⟩))) htake)
    | exact wpAny_bind (wpAny_bind (m := Builtin.Tuple.tupleExact _) (wpAny_newObj_type (wpAny_pure (wpAny_pure ⟨_, rfl, wpAny_pure h⟩)) htake))
    | exact wpAny_bind (wpAny_bind (m := Builtin.Tuple.tupleExact _) (wpAny_newObj_type (wpAny_pure ⟨_, rfl, wpAny_pure h⟩) htake))
end
/-! ### t[::-1] -/
def tRevT (K : Frag) (te : TE) : TE := fun σ H Q => te σ H fun x H1 => ∃ a xs, x = .ref a ∧ SqT K H1 a xs ∧ ∀ p, H1 p = none → Q (.ref p) (upd H1 p (.tup xs.reverse))
def tRev2 (K : Frag) (te : TE) : TE := fun σ H Q => te σ H fun x H1 => (∃ a xs, x = .ref a ∧ SqL K H1 a xs ∧ ∀ p, H1 p = none → Q (.ref p) (upd H1 p (.lst xs.reverse))) ∨ ∃ a xs, x = .ref a ∧ SqT K H1 a xs ∧ ∀ p, H1 p = none → Q (.ref p) (upd H1 p (.tup xs.reverse))
section
variable {X : Cx}
theorem pe_rev2 {e : Expr} {te : TE} {k : Nat} {p1 p2 p3 pos : Pos} (he : PE X e te) : PE X (.Subscript e (.Slice none none (some (.UnaryOp .USub (.Constant (.int 1) k p1) p2)) p3) pos) (tRev2 X.K te) := by
  refine ⟨fun pins s σ H Q I h => ?_⟩
  refine Subscript_ (thn (he.run pins s σ H _ I h) fun v s1 ⟨x, H1, I1, r1, q1⟩ => ?_)
  obtain ⟨a, ea⟩ : ∃ a, x = .ref a := by
    rcases q1 with ⟨a, _, e, _⟩ | ⟨a, _, e, _⟩ <;> exact ⟨a, e⟩
  subst ea
  cases r1
  have hst : PO X (some (.UnaryOp .USub (.Constant (.int 1) k p1) p2)) (tPart (tUn (rU fun i => .int (-i)) (tC (.int 1)))) := po_some (pe_un un_neg pe_int)
  refine wpAny_Slice (thn (po_none.run pins s1 σ H1 (fun o H2 => o = none ∧ H2 = H1) I1 ⟨rfl, rfl⟩) fun vl s2 ⟨l, H2, I2, pl, el, e2⟩ => ?_)
  subst el e2
  refine thn (po_none.run pins s2 σ H2 (fun o H3 => o = none ∧ H3 = H2) I2 ⟨rfl, rfl⟩) fun vu s3 ⟨u, H3, I3, pu, eu, e3⟩ => ?_
  subst eu e3
  refine thn (hst.run pins s3 σ H3 (fun o H4 => o = some (-1) ∧ H4 = H3) I3 ⟨1, rfl, -1, rfl, rfl, rfl⟩) fun vs s4 ⟨o, H4, I4, ps, eo, e4⟩ => ?_
  subst eo e4
  have I5 : Inv X pins σ H4 { s4 with heap := s4.heap.push { cls := .type "slice", data := .fields #[vl, vu, vs] } } := I4.kept (t' := s4.toks) fun b ob q => Heap.get?_push_of_some _ q
  show wpAny (model X.prog X.w) X.A (subscriptTail e (.Slice none none (some (.UnaryOp .USub (.Constant (.int 1) k p1) p2)) p3) (.ref a) (.ref s4.heap.objs.size)) (EP X pins σ Q) X.xe { s4 with heap := s4.heap.push { cls := .type "slice", data := .fields #[vl, vu, vs] } }
  rcases q1 with ⟨a', xs, e', hx, q⟩ | ⟨a', xs, e', hx, q⟩
  · cases e'
    obtain ⟨its, r, ht, hz⟩ := I5.list hx
    have hlen := r.length
    refine tail_any (ops := [.ref a, .ref s4.heap.objs.size]) ht.isList.typeIs (PySem.slot_list_getitem.lookup) ?_ (by with_unfolding_all rfl)
    refine wpAny_getItem_list_slice ht.isList (Heap.IsSliceOf.new _ vl vu vs) pl pu ps (by decide) ?_ (by rw [List.size_toArray]; omega)
    rw [PySem.W.krv_pick]
    refine ⟨.ref _, _, I5.laid (t' := s4.toks) (o := .lst xs.reverse) (fun b ob q => Heap.get?_push_of_some _ q) (Nat.le_refl _) ?_, rfl, q _ (I5.hok.fresh (Nat.le_refl _))⟩
    exact ⟨by rw [List.length_reverse]; exact hz, _, 0, r.reverse, Heap.get?_push_size _ rfl⟩
  · cases e'
    obtain ⟨its, r, ht, hz⟩ := I5.tuple hx
    have hlen := r.length
    cases pl
    cases pu
    refine tail_any (ops := [.ref a, .ref s4.heap.objs.size]) ht.typeIs (PyProof.Rows.slot_tuple_getitem.lookup) ?_ (by with_unfolding_all rfl)
    refine getItem_tuple_rev ht (Heap.IsSliceOf.new _ _ _ vs) ps ?_ (by rw [List.size_toArray]; omega)
    refine ⟨.ref _, _, I5.laid (t' := s4.toks) (o := .tup xs.reverse) (fun b ob q => Heap.get?_push_of_some _ q) (Nat.le_refl _) ?_, rfl, q _ (I5.hok.fresh (Nat.le_refl _))⟩
    exact ⟨by rw [List.length_reverse]; exact hz, _, r.reverse, IsTup.new _ _⟩
def rev2G : G1
  | .list ds => some (.tm (.list ds.reverse))
  | .tuple ds => some (.sh (.tuple ds.reverse))
  | _ => none
theorem e_rev2 {W : WX} {e : Expr} {f : EF} {k : Nat} {p1 p2 p3 pos : Pos} (he : PE X e (tE (gd X W) f)) : PE X (.Subscript e (.Slice none none (some (.UnaryOp .USub (.Constant (.int 1) k p1) p2)) p3) pos) (tE (gd X W) (unF rev2G f)) :=
  PE.imp (pe_rev2 he) fun σ H Q h => by
    obtain ⟨A, env, rel, h⟩ := h
    refine ⟨A, env, rel, (Post.bind h).imp fun r e1 A1 H1 s1 h1 v hv => ?_⟩
    cases q : rd e1 r with
    | none => rw [q] at h1; exact h1.elim
    | some d =>
      rw [q] at h1
      have rq := hv.rq s1.rel q
      match d, h1, rq with
      | .list ds, h1, rq =>
        obtain ⟨a, xs, rfl, sl, r⟩ := rq.lst
        exact .inl ⟨a, xs, rfl, sl, fun p n => fin1 s1 h1 (same_upd n) (rz_lst n r.reverse)⟩
      | .tuple ds, h1, rq =>
        obtain ⟨a, xs, rfl, sl, r⟩ := rq.tup
        exact .inr ⟨a, xs, rfl, sl, fun p n => fin1 s1 h1 (same_upd n) (rp_tup n r.reverse)⟩
      | .none, h1, _ => exact h1.elim
      | .bool _, h1, _ => exact h1.elim
      | .int _, h1, _ => exact h1.elim
      | .str _, h1, _ => exact h1.elim
      | .dict _, h1, _ => exact h1.elim
/-! ### a, b, .. = a list or a tuple -/
def gSeq (K : Frag) (n : Nat) (t : TGs) : TG := fun v σ H Q => gTup K n t v σ H Q ∨ gLst K n t v σ H Q
theorem pg_seq {es : List Expr} {k : Nat} {t : TGs} {n : Nat} {pos : Pos} (hc : X.calm = true) (h : PGs X es t)
    (hn : (assignEach es X.env).length = n := by rfl) (hst : (assignEach es X.env).findIdx? (·.1) = none := by rfl) : PG X (.Tuple es k pos) (gSeq X.K n t) :=
  ⟨fun pins s σ H v u Q I r hw => hw.elim (fun z => (pg_tup hc h hn hst).run pins s σ H v u Q I r z) fun z => (pg_lst hc h hn hst).run pins s σ H v u Q I r z⟩
def tgS (n : Nat) (u : List D → En → Option En) : GF
  | .tuple ds, e => if ds.length = n then u ds e else none
  | .list ds, e => if ds.length = n then u ds e else none
  | _, _ => none
theorem tg_seq {G : Gd} {n : Nat} {gs : TGs} {u : List D → En → Option En} {vs : List Nat} (h : TgsOk G gs u vs) : TgOk G (gSeq G.K n gs) (tgS n u) vs := by
  intro A A1 σ σ1 H H1 env e1 e2 d x P s r q k
  cases d with
  | tuple ds =>
    simp only [tgS] at q
    by_cases c : ds.length = n
    · rw [if_pos c] at q
      simp only [Rp] at r
      obtain ⟨a, xs, rfl, sq, rl⟩ := r
      exact .inl ⟨a, xs, rfl, sq, by rw [← rl.length]; exact c, h A A1 σ σ1 H H1 env e1 e2 ds xs P s rl q k⟩
    · rw [if_neg c] at q; cases q
  | list ds =>
    simp only [tgS] at q
    by_cases c : ds.length = n
    · rw [if_pos c] at q
      simp only [Rp] at r
      obtain ⟨a, xs, rfl, sq, rl⟩ := r
      exact .inr ⟨a, xs, rfl, sq.sq, by rw [← rl.length]; exact c, h A A1 σ σ1 H H1 env e1 e2 ds xs P s rl q k⟩
    · rw [if_neg c] at q; cases q
  | _ => cases q
end
end VL


set_option Elab.async false
set_option linter.all false
set_option maxRecDepth 100000
set_option maxHeartbeats 2000000
/-! VL20: what is not reached; stars in displays -/
namespace VL
open PySem PySem.Spec PyProof.Rows L2
variable [TbP]
def noE : EF := fun _ => .no
def noT : TF := fun _ => .no
def noI : IF := fun _ => .no
/-- items of a list or tuple -/
def seqD : D → Option (List D)
  | .list ds => some ds
  | .tuple ds => some ds
  | _ => none
def starF (f : EF) (g : AF) : AF := fun env => (f env).bind fun r e => match rd e r with
  | some d => (match seqD d with
    | some ds => (g e).bind fun rs e2 => .ok (ds.map .sh ++ rs) e2
    | none => .no)
  | none => .no
section
variable {X : Cx} {W : WX} {e : Expr} {es : List Expr} {f : EF} {g : AF} {p : Pos}
theorem e_no : PE X e (tE (gd X W) noE) := ⟨fun pins s σ H Q I h => by obtain ⟨A, env, rel, h⟩ := h; exact h.elim⟩
theorem t_no : PT X e (tT (gd X W) noT) := ⟨fun pins s σ H Q I h => by obtain ⟨A, env, rel, h⟩ := h; exact h.elim⟩
theorem i_no {tg : Expr} : PI X tg e (tI (gd X W) noI) := ⟨fun pins s σ H Q I h => by obtain ⟨A, env, rel, h⟩ := h; exact h.elim⟩
theorem rvs_sh {K : Frag} {A : AS} {σ : L2.St} {H : Hp} {env : En} : ∀ {ds : List D} {vs : List V} {F : AS} {rs : List Rv} {ws : List V}, RpL K A H ds vs → RvsOk K A σ H env F rs ws → RvsOk K A σ H env F (ds.map .sh ++ rs) (vs ++ ws)
  | [], vs, F, rs, ws, h, hr => by rw [h.inv_nil]; exact hr
  | d :: ds, vs, F, rs, ws, h, hr => by
    obtain ⟨v, t, rfl, h1, h2⟩ := h.inv_cons
    exact ⟨v, t ++ ws, rfl, h1, rvs_sh h2 (hr.weak fun a o _ z => ⟨z, fun q => nomatch q⟩)⟩
theorem a_star (he : PE X e (tE (gd X W) f)) (hr : PA X es (tA (gd X W) g)) (hs : starEach (.Starred e p :: es) X.env = (true, eval e X.env) :: starEach es X.env := by rfl) : PA X (.Starred e p :: es) (tA (gd X W) (starF f g)) :=
  PA.imp (StX.pa_star he hr hs) fun σ H Q h => by
    obtain ⟨A, env, rel, h⟩ := h
    refine ⟨A, env, rel, (Post.bind h).imp fun r e1 A1 H1 s1 h1 v hv => ?_⟩
    cases q : rd e1 r with
    | none => rw [q] at h1; exact h1.elim
    | some d =>
      rw [q] at h1
      have rq := hv.rq s1.rel q
      have fin : ∀ (ds : List D) (xs : List V), RpL X.K A1 H1 ds xs → Post (gd X W) A1 σ H1 e1 ((g e1).bind fun rs e2 => .ok (ds.map .sh ++ rs) e2) (fun rs e A' H' => ∀ vs, RvsOk X.K A' σ H' e (fun a => H a = none) rs vs → Q vs H') →
          tA (gd X W) g σ H1 fun ys H2 => Q (xs ++ ys) H2 := fun ds xs rp h1 => by
        refine ⟨A1, e1, s1.rel, (Post.bind h1).imp fun rs e2 A2 H2 s2 h2 vs hvs => ?_⟩
        refine h2 A2 H2 (.refl s2.rel) (xs ++ vs) (rvs_sh (rp.mono s2.ext.fr (s2.ext.kp s1.rel)) (hvs.weak fun a o ho z => ?_))
        cases q : H a with
        | none => rfl
        | some u => exact absurd z (s1.ext.al a (by rw [q]; simp))
      cases d with
      | list ds =>
        obtain ⟨a, xs, rfl, l, rp⟩ := rq.lst
        exact ⟨a, xs, rfl, .inr l, fin ds xs rp h1⟩
      | tuple ds =>
        obtain ⟨a, xs, rfl, l, rp⟩ := rq.tup
        exact ⟨a, xs, rfl, .inl l, fin ds xs rp h1⟩
      | _ => exact h1.elim
end
end VL


set_option Elab.async false
set_option linter.all false
set_option maxRecDepth 100000
set_option maxHeartbeats 2000000
/-! VL21: dict comprehensions, keys ints and texts -/
namespace VL
open PySem PySem.Spec PyProof.Rows L2
variable [TbP]
inductive RK (K : Frag) (A : AS) (H : Hp) : List (Key × D) → List (Key × V) → Prop where
  | nil : RK K A H [] []
  | cons {k : Key} {d : D} {v : V} {kvs : List (Key × D)} {ks : List (Key × V)} (h : Rp K A H d v) (t : RK K A H kvs ks) : RK K A H ((k, d) :: kvs) ((k, v) :: ks)
def putD (kvs : List (Key × D)) (k : Key) (d : D) : List (Key × D) :=
  if (kvs.any fun kv => decide (kv.1 = k)) = true then kvs.map (fun kv => if kv.1 = k then (kv.1, d) else kv) else kvs ++ [(k, d)]
def dctD (kvs : List (Key × D)) : D := .dict (kvs.map fun p => (keyD p.1, p.2))
section
variable {K : Frag} {A A' : AS} {H H' : Hp} {k : Key} {d : D} {v : V}
theorem RK.mono (hA : ∀ a, A a → A' a) (kp : Kp A H H') : ∀ {kvs : List (Key × D)} {ks : List (Key × V)}, RK K A H kvs ks → RK K A' H' kvs ks
  | _, _, .nil => .nil
  | _, _, .cons h t => .cons (h.mono hA kp) (RK.mono hA kp t)
theorem RK.rpk : ∀ {kvs : List (Key × D)} {ks : List (Key × V)}, RK K A H kvs ks → RpK K A H (kvs.map fun p => (keyD p.1, p.2)) ks
  | _, _, .nil => by simp [RpK]
  | _, _, .cons h t => by
    simp only [List.map_cons, RpK]
    exact ⟨_, _, _, rfl, rfl, h, t.rpk⟩
theorem RK.len : ∀ {kvs : List (Key × D)} {ks : List (Key × V)}, RK K A H kvs ks → kvs.length = ks.length
  | _, _, .nil => rfl
  | _, _, .cons h t => by simp [t.len]
theorem RK.any : ∀ {kvs : List (Key × D)} {ks : List (Key × V)}, RK K A H kvs ks → (kvs.any fun kv => decide (kv.1 = k)) = (ks.any fun kv => decide (kv.1 = k))
  | _, _, .nil => rfl
  | _, _, .cons h t => by simp only [List.any_cons, t.any]
theorem RK.rep (hd : Rp K A H d v) : ∀ {kvs : List (Key × D)} {ks : List (Key × V)}, RK K A H kvs ks → RK K A H (kvs.map fun kv => if kv.1 = k then (kv.1, d) else kv) (ks.map fun kv => if kv.1 = k then (kv.1, v) else kv)
  | _, _, .nil => .nil
  | _, _, .cons (k := k') h t => by
    simp only [List.map_cons]
    by_cases e : k' = k
    · rw [if_pos e, if_pos e]; exact .cons hd (t.rep hd)
    · rw [if_neg e, if_neg e]; exact .cons h (t.rep hd)
theorem RK.app (hd : Rp K A H d v) : ∀ {kvs : List (Key × D)} {ks : List (Key × V)}, RK K A H kvs ks → RK K A H (kvs ++ [(k, d)]) (ks ++ [(k, v)])
  | _, _, .nil => .cons hd .nil
  | _, _, .cons h t => .cons h (t.app hd)
theorem RK.put {kvs : List (Key × D)} {ks : List (Key × V)} (h : RK K A H kvs ks) (hd : Rp K A H d v) : RK K A H (putD kvs k d) (putK ks k v) := by
  unfold putD putK
  rw [h.any]
  split
  · exact h.rep hd
  · exact h.app hd
end
def dcStep (vs : List Nat) (tgt : GF) (tt : TF) (kf vf : EF) (d : D) (env : En) : Option (Option (Key × D) × En) :=
  if clean env vs = true then (match tgt d (wipeE env vs) with
    | some e1 => (match tt e1 with
      | .ok true e2 => (match kf e2 with
        | .ok (.sh kd) e3 => (match key1 kd with
          | some k => (match vf e3 with
            | .ok r e4 => (match frz e4 r with
              | some (y, e5) => some (some (k, y), unwipe env e5 vs)
              | none => none)
            | _ => none)
          | none => none)
        | _ => none)
      | .ok false e2 => some (none, unwipe env e2 vs)
      | _ => none)
    | none => none) else none
def dcGo (f : D → En → Option (Option (Key × D) × En)) : List D → En → List (Key × D) → Option (List (Key × D) × En)
  | [], e, acc => some (acc, e)
  | d :: ds, e, acc => match f d e with
    | some (some (k, y), e2) => if acc.length < LIM then dcGo f ds e2 (putD acc k y) else none
    | some (none, e2) => dcGo f ds e2 acc
    | none => none
def dcF (it : IF) (vs : List Nat) (tgt : GF) (tt : TF) (kf vf : EF) : EF := fun env => (it env).bind fun items e => match dcGo (dcStep vs tgt tt kf vf) items e [] with
  | some (acc, e2) => .ok (.tm (dctD acc)) e2
  | none => .no
theorem dc_it {J : It} {n : Nat} {Gh : Hp → Prop} {Y : Nat → Hp → V → Hp → Prop} (w : Walk J n Gh Y) {g : TG} {tt : TT} {tk tv : TE} {vs : List Nat} {σ : L2.St} {H1 : Hp} {Dd : Addr} {Qd : Hp → Prop} (Pv : Nat → Hp → Prop) (h0 : Pv 0 (upd H1 Dd (.dK []))) (hG : ∀ i H, i ≤ n → Pv i H → Gh H)
    (hs : ∀ i x H H', i < n → Pv i H → Y i H x H' → g x (wipe σ vs) H' fun σ2 H2 => wipe σ2 vs = wipe σ vs ∧ tt σ2 H2 fun b H3 =>
      if b = true then tk σ2 H3 fun y H4 => tv σ2 H4 fun z H5 => ∃ kvs k, y = kV k ∧ H5 Dd = some (.dK kvs) ∧ kvs.length < sizeLine ∧ Pv (i + 1) (upd H5 Dd (.dK (putK kvs k z))) else Pv (i + 1) H3) (hd : ∀ H, Pv n H → Qd H) :
    ∃ W : Nat → Nat → Hp → Prop, (∃ m, W 0 m (upd H1 Dd (.dK []))) ∧ ∀ i m H, W i m H →
      (J.stop i H ∧ Qd H) ∨ (J.go i H ∧ ∃ Nx : Hp → Prop, (∀ H', Nx H' → ∃ m', m' < m ∧ W (i + 1) m' H') ∧ ∀ x H', J.yld i H x H' → g x (wipe σ vs) H' fun σ2 H2 => wipe σ2 vs = wipe σ vs ∧ tt σ2 H2 fun b H3 =>
        if b = true then tk σ2 H3 fun y H4 => tv σ2 H4 fun z H5 => ∃ kvs k, y = kV k ∧ H5 Dd = some (.dK kvs) ∧ kvs.length < sizeLine ∧ Nx (upd H5 Dd (.dK (putK kvs k z))) else Nx H3) := by
  refine ⟨fun i m H => m = n - i ∧ i ≤ n ∧ Pv i H, ⟨n, by simp, Nat.zero_le _, h0⟩, ?_⟩
  rintro i m H ⟨rfl, hi, p⟩
  have q := hG i H hi p
  by_cases hlt : i < n
  · refine .inr ⟨w.goes i H hlt q, Pv (i + 1), fun H' p' => ⟨n - (i + 1), by omega, rfl, hlt, p'⟩, fun x H' y => hs i x H H' hlt p (w.yields i H x H' hlt q y)⟩
  · have e : i = n := by omega
    subst e
    exact .inl ⟨w.stops H q, hd H p⟩
theorem dc_sound {X : Cx} {W : WX} {it : IF} {g : TG} {tgt : GF} {vs : List Nat} {tt : TF} {kf vf : EF} (ht : TgOk (gd X W0) g tgt vs) {σ : L2.St} {H : Hp} {Q : VK} (h : tE (gd X W) (dcF it vs tgt tt kf vf) σ H Q) :
    tDc (tI (gd X W) it) g (tT (gd X W0) tt) (tE (gd X W0) kf) (tE (gd X W0) vf) vs σ H Q := by
  obtain ⟨A, env, rel, h⟩ := h
  refine ⟨A, env, rel, (Post.cut h fun items e1 A1 H1 s1 h1 J hJ => ?_)⟩
  intro L hL
  obtain ⟨Gh, Y, w, hG, hY⟩ := hJ
  cases q0 : dcGo (dcStep vs tgt tt kf vf) items e1 [] with
  | none => rw [q0] at h1; exact h1.elim
  | some p =>
    obtain ⟨accF, eF⟩ := p
    rw [q0] at h1
    have sL : Stp X.K A1 σ H1 e1 A1 σ (upd H1 L (.dK [])) e1 := Stp.same s1.rel (same_upd hL)
    refine dc_it w (fun i H' => ∃ A' e' acc ks, Stp X.K A1 σ H1 e1 A' σ H' e' ∧ H' L = some (.dK ks) ∧ RK X.K A' H' acc ks ∧ ¬ A' L ∧ ¬ Ow σ e' L ∧ dcGo (dcStep vs tgt tt kf vf) (items.drop i) e' acc = some (accF, eF)) ?_ ?_ ?_ ?_
    · refine ⟨A1, e1, [], [], sL, upd_same, .nil, fun z => s1.rel.dom L z hL, fun z => ?_, q0⟩
      obtain ⟨_, o, eo, _⟩ := s1.rel.owok z
      rw [hL] at eo; cases eo
    · rintro i H' _ ⟨A', e', acc, xs, s, _⟩
      exact hG A' H' s.ext.fr (s.ext.kp s1.rel)
    · rintro i x H' H2 hi ⟨A', e', acc, xs, s, hl, rl, na, no, q⟩ y
      obtain ⟨sm, d, ed, rp⟩ := hY i A' H' x H2 s.ext.fr (s.ext.kp s1.rel) y
      rw [drop_cons ed] at q
      have sS := Stp.same s.rel sm
      have s' := s.trans sS
      obtain ⟨na2, no2, hl2⟩ := sS.keepD na no hl
      have rl2 := rl.mono sS.ext.fr (sS.ext.kp s.rel)
      unfold dcGo at q
      cases q1 : dcStep vs tgt tt kf vf d e' with
      | none => rw [q1] at q; cases q
      | some pr =>
        obtain ⟨oy, e''⟩ := pr
        rw [q1] at q
        unfold dcStep at q1
        by_cases c : clean e' vs = true
        · rw [if_pos c] at q1
          cases q2 : tgt d (wipeE e' vs) with
          | none => rw [q2] at q1; cases q1
          | some e2 =>
            rw [q2] at q1
            dsimp only at q1
            have rw0 := s'.rel.wipe (vs := vs)
            refine ht A' A' (wipe σ vs) (wipe σ vs) H2 H2 (wipeE e' vs) (wipeE e' vs) e2 d x _ (.refl rw0) rp q2 fun σ2 s2 l2 off => ?_
            have l2' : σ2.length = σ.length := l2.trans (wipe_length σ vs)
            refine ⟨wipe_eq l2' off, A', e2, s2.rel, ?_⟩
            cases q3 : tt e2 with
            | no => rw [q3] at q1; cases q1
            | ex _ _ => rw [q3] at q1; cases q1
            | ok b e3 =>
              rw [q3] at q1
              intro A3 H3 s3
              have s23 := s2.trans s3
              show if b = true then _ else _
              cases b with
              | false =>
                rw [if_neg Bool.false_ne_true]
                cases q1
                dsimp only at q
                have sU := Stp.unwipe s'.rel c s23 l2' off
                obtain ⟨na3, no3, hl3⟩ := sU.keepD na2 no2 hl2
                exact ⟨A3, _, acc, xs, s'.trans sU, hl3, rl2.mono sU.ext.fr (sU.ext.kp s'.rel), na3, no3, q⟩
              | true =>
                rw [if_pos rfl]
                dsimp only at q1
                refine ⟨A3, e3, s3.rel, ?_⟩
                cases q4 : kf e3 with
                | no => rw [q4] at q1; cases q1
                | ex _ _ => rw [q4] at q1; cases q1
                | ok r e4 =>
                  rw [q4] at q1
                  cases r with
                  | tm _ => cases q1
                  | bo _ => cases q1
                  | sh kd =>
                    dsimp only at q1
                    cases q6 : key1 kd with
                    | none => rw [q6] at q1; cases q1
                    | some k =>
                      rw [q6] at q1
                      dsimp only at q1
                      intro A4 H4 s4 kv hkv
                      have hk : Rp X.K A4 H4 kd kv := hkv
                      rw [key1_spec q6] at hk
                      have ek := rp_key hk
                      refine ⟨A4, e4, s4.rel, ?_⟩
                      cases q7 : vf e4 with
                      | no => rw [q7] at q1; cases q1
                      | ex _ _ => rw [q7] at q1; cases q1
                      | ok r e5 =>
                        rw [q7] at q1
                        dsimp only at q1
                        intro A5 H5 s5 v hv
                        cases q5 : frz e5 r with
                        | none => rw [q5] at q1; cases q1
                        | some pr =>
                          obtain ⟨y, e6⟩ := pr
                          rw [q5] at q1
                          cases q1
                          dsimp only at q
                          obtain ⟨A6, s6, f6, rpy, _⟩ := frz_ok s5 hv q5
                          have sU := Stp.unwipe s'.rel c ((s23.trans s4).trans s6) l2' off
                          obtain ⟨na5, no5, hl5⟩ := sU.keepD na2 no2 hl2
                          have st := s'.trans sU
                          have rl5 := rl2.mono sU.ext.fr (sU.ext.kp s'.rel)
                          by_cases cl : acc.length < LIM
                          · rw [if_pos cl] at q
                            have kp : Kp A6 H5 (upd H5 L (.dK (putK xs k v))) := Kp.upd hl5 na5 fun z => z
                            exact ⟨xs, k, ek, hl5, by rw [← rl5.len, lim_eq]; exact cl, A6, _, putD acc k y, putK xs k v, st.updD hL na5 no5 hl5 (fun z => z), upd_same, (rl5.put rpy).mono (fun _ z => z) kp, na5, no5, q⟩
                          · rw [if_neg cl] at q; cases q
        · rw [if_neg c] at q1; cases q1
    · rintro H' ⟨A', e', acc, xs, s, hl, rl, na, no, q⟩
      rw [List.drop_length] at q
      cases q
      refine h1 A' H' (s1.trans s) (.ref L) ⟨L, rfl, na, no, ?_, .inl ⟨xs, hl, rl.rpk⟩⟩
      show H L = none
      cases q : H L with
      | none => rfl
      | some u => exact absurd hL (s1.ext.al L (by rw [q]; simp))
section
variable {X : Cx} {W : WX} {kx vx tg iter : Expr} {ifs : List Expr} {scope : Scope} {own : List (Str × Nat)} {pos : Pos} {it : IF} {g : TG} {t : GF} {tt : TF} {kf vf : EF}
theorem e_dc (hc : X.calm = true) (hN : X.N.Nodup) (hi : PI X tg iter (tI (gd X W) it)) (ok : BlkOk X.N X.env.scope scope own) (ht : TgOk (gd X W0) g t (own.map (·.2)))
    (hb : ∀ (s : Shared) (H : Hp) (C : Addr) (cl : List (Str × Addr)) (fp : List Addr), PG (X.blk s H scope (compEnvC scope cl C X.env) fp) tg g ∧ PTs (X.blk s H scope (compEnvC scope cl C X.env) fp) ifs (tT (gd X W0) tt) ∧ PE (X.blk s H scope (compEnvC scope cl C X.env) fp) kx (tE (gd X W0) kf) ∧ PE (X.blk s H scope (compEnvC scope cl C X.env) fp) vx (tE (gd X W0) vf))
    (hs : ∀ x, foldedSetIterable iter X.env x = pure x := by intro _; rfl) :
    PE X (.DictComp kx vx [⟨tg, iter, ifs, 0⟩] scope pos) (tE (gd X W) (dcF it (own.map (·.2)) t tt kf vf)) :=
  PE.imp (pe_dc hc hN hi ok (fun s H C cl fp => (hb s H C cl fp).1) (fun s H C cl fp => (hb s H C cl fp).2.1) (fun s H C cl fp => (hb s H C cl fp).2.2.1) (fun s H C cl fp => (hb s H C cl fp).2.2.2) hs) fun σ H Q h => dc_sound ht h
end
end VL


set_option Elab.async false
set_option linter.all false
set_option maxRecDepth 100000
set_option maxHeartbeats 4000000
/-! VL22: enumerate over a tuple -/
namespace VL
open PySem PySem.Spec PyProof.Rows L2
variable [TbP]
theorem meets_enum1 {v : Value} {o : Obj} {H : Heap → Prop} (B : Begins v o H) :
    Meets (Builtin.«enumerate.__new__» ⟨[.type "enumerate", v], []⟩) (fun _ R s => H s.heap ∧
      R (.ok (.ret (.ref (s.heap.push o).objs.size))) { s with heap := (s.heap.push o).push { cls := .type "enumerate", data := .fields #[.none, .bool false, .ref s.heap.objs.size, rawInt 0, .none, .none] } }) :=
  .of_wp fun prog w A R s h => by
    obtain ⟨hp, g, d, tk, os⟩ := s; obtain ⟨h1, h⟩ := h
    have hsub := sub_enumerate
    have q1 : ∀ {A' : Around} {E : Value → Shared → Prop} {Q : Value → Shared → Prop}, Q (.ref hp.objs.size) ⟨hp.push o, g, d, tk, os⟩ → wpAny (model prog w) A' (pyIter v) Q E ⟨hp, g, d, tk, os⟩ :=
      fun q => B.iter prog w _ _ ⟨hp, g, d, tk, os⟩ _ h1 q
    wp_walk using q1
    refine wpAny_stack_any fun st => wpAny_pure ?_
    split
    · rename_i c _ _ _ _ _
      cases (c == Value.type "enumerate")
      · wp_walk using q1
        exact ⟨_, rfl, h⟩
      · wp_walk using q1
        exact ⟨_, rfl, h⟩
    · wp_walk using q1
      exact ⟨_, rfl, h⟩
section
variable {prog : Program} {w : World} {A : Around} {E : Value → Shared → Prop} {s : Shared}
theorem call_enum_tuple {l : Addr} {items : Array Value} {Q : Value → Shared → Prop} (hL : s.heap.IsTuple l items)
    (h : ∀ h', IsEnum h' (s.heap.objs.size + 1) s.heap.objs.size 0 .none → h'.IsTupleIter s.heap.objs.size l 0 → h'.objs.size = s.heap.objs.size + 2 →
      (∀ b o, s.heap.get? b = some o → h'.get? b = some o) → Q (.ref (s.heap.objs.size + 1)) { s with heap := h' }) :
    wpAny (model prog w) A (call (.type "enumerate") [.ref l]) Q E s := by
  refine callType_new F.called_enumerate (by decide) (F.typeCall_enumerate_1 _) (F.newCall_enumerate_1 _) (fun obj => F.args_object_init_2 obj _) F.entry_enumerate_new
    (meets_enum1 (begins_tuple l items)) ⟨hL, ?_⟩
  have hz : (s.heap.push { cls := .type "tuple_iterator", data := .fields #[.ref l, .int 0 0] }).objs.size = s.heap.objs.size + 1 := Heap.size_push ..
  show _ ∧ _
  rw [hz]
  have he : IsEnum ((s.heap.push { cls := .type "tuple_iterator", data := .fields #[.ref l, .int 0 0] }).push
      { cls := .type "enumerate", data := .fields #[.none, .bool false, .ref s.heap.objs.size, rawInt 0, .none, .none] }) (s.heap.objs.size + 1) s.heap.objs.size 0 .none := by
    have := Heap.get?_push_size (s.heap.push { cls := .type "tuple_iterator", data := .fields #[.ref l, .int 0 0] })
      (o := { cls := .type "enumerate", data := .fields #[.none, .bool false, .ref s.heap.objs.size, rawInt 0, .none, .none] }) rfl
    rw [hz] at this; exact this
  refine ⟨⟨_, he, rfl⟩, h _ he ⟨_, Heap.get?_push_of_some _ (Heap.get?_push_size _ rfl), rfl, rfl⟩ (by rw [Heap.size_push, hz]) fun b o x => Heap.get?_push_of_some _ (Heap.get?_push_of_some _ x)⟩
end
/-- the tuple at a, each item in a new pair -/
def IteT (K : PySem.W.Frag) (a : Addr) : It :=
  ⟨fun i H => ∃ (xs : List V) (x : V), SqT K H a xs ∧ xs[i]? = some x, fun i H v H' => ∃ T x, v = .ref T ∧ H T = none ∧ H' = upd H T (.tup [.int (i : Nat), x]) ∧ ∀ xs, SqT K H a xs → xs[i]? = some x, fun i H => ∃ xs : List V, SqT K H a xs ∧ xs.length ≤ i⟩
theorem tup_apart {h : Heap} {a it : Addr} {items : Array Value} {i : Nat} (h1 : h.IsTuple a items) (h2 : h.IsTupleIter it a i) : a ≠ it := by
  rintro rfl
  obtain ⟨o, e, c, _⟩ := h1
  obtain ⟨o', e', c', _⟩ := h2
  rw [e] at e'
  cases e'
  rw [c] at c'
  revert c'
  decide
theorem turn_enumT {P : Program} {w : World} {K : PySem.W.Frag} {elts : List Expr} {kk : Nat} {tpos : Pos} (a e it : Addr) :
    Turn P w K (.Tuple elts kk tpos) (IteT K a) [e, it] e (fun i h => (∃ old, IsEnum h e it ((i : Nat) : Int) old) ∧ h.IsTupleIter it a i ∧ e ≠ it) where
  mem := by simp
  obj := fun i h st b hb => by
    obtain ⟨⟨old, he⟩, ⟨o, ho, hc, hd⟩, _⟩ := st
    have e' : b = e ∨ b = it := by simpa using hb
    rcases e' with z | z
    · rw [z]; exact ⟨_, he, fun v q => nomatch q⟩
    · rw [z]; exact ⟨o, ho, fun v q => by rw [hd] at q; cases q⟩
  keep := fun i h h' st k => let ⟨⟨old, he⟩, hi, hne⟩ := st; ⟨⟨old, k e (by simp) _ he⟩, hi.at fun o q => k it (by simp) o q, hne⟩
  item := by
    intro X hP hw hK hc i pins s σ H E I hf st hg
    subst hP hw hK
    obtain ⟨⟨old, he⟩, hit, hne⟩ := st
    obtain ⟨xs, x, hq, hx⟩ := hg
    obtain ⟨its, rv, p, hz⟩ := I.tuple hq
    obtain ⟨u, hu, ru⟩ := rv.get hx
    have hel : e < s.heap.objs.size := Heap.lt_size he
    have hil : it < s.heap.objs.size := by obtain ⟨_, q, _⟩ := hit; exact Heap.lt_size q
    have hp : s.heap.IsTuple a its.toArray := p
    have hap := tup_apart hp hit
    have hea : e ≠ a := by
      rintro rfl
      obtain ⟨o, e1, c1, _⟩ := hp
      have he' : s.heap.get? e = some _ := he
      rw [he'] at e1
      cases e1
      have c2 : Value.type "enumerate" = Value.type "tuple" := c1
      revert c2
      decide
    have hi : i < its.toArray.size := by
      have := List.getElem?_eq_some_iff.mp hu
      obtain ⟨q, _⟩ := this
      simpa using q
    refine wpAny_pyNext_enum_itemD (fp := [it, a]) (n := its.toArray.size) (i := i) (P := fun i v => its.toArray[i]? = some v) (St := fun i h => h.IsTupleIter it a i ∧ h.IsTuple a its.toArray) (Draws.tuple (show X.A.in1.handled = none from I.ok.hd hc) it a hap its.toArray) he ⟨hit, hp⟩ hi hne (by simp [hne, hea]) fun x' h' tk hP ho hst' hT hsz hk => ?_
    have hx' : x' = u := by
      have hP' : its.toArray[i]? = some x' := hP
      have : its[i]? = some x' := by simpa using hP'
      rw [hu] at this
      exact (Option.some.inj this).symm
    subst hx'
    obtain ⟨hit', _⟩ := hst'
    refine ⟨_, rfl, wpAny_letOwnedTupleGo_enum (s := { s with heap := h', toks := tk + 1 }) ho fun h'' he' sb => ?_⟩
    have hT2 : h''.get? s.heap.objs.size = some { cls := .type "tuple", data := .seq #[.int i tk, x'] } := (sb.2 _ (Nat.ne_of_gt hel)).trans hT
    have new : ObjOk X.prog X.w (upd H s.heap.objs.size (.tup [.int (i : Nat), x])) h'' s.heap.objs.size (.tup [.int (i : Nat), x]) :=
      ⟨by show 2 ≤ sizeLine; decide, [.int i tk, x'], .cons ⟨_, rfl⟩ (.cons ru .nil), ⟨_, hT2, rfl, _, rfl⟩⟩
    have I1 : Inv X pins σ (upd H s.heap.objs.size (.tup [.int (i : Nat), x])) { s with heap := h'', toks := tk + 1 } :=
      I.turnedNew (ch := [e, it]) (fun b ob hb q => (sb.2 b (fun z => hb (by simp [z]))).trans (hk b ob (fun z => hb (by simp [z])) (fun z => hb (by simp [z])) q)) hf (Nat.le_refl _) new
    refine ⟨.ref s.heap.objs.size, _, I1, rfl, ⟨_, x, rfl, I.hok.fresh (Nat.le_refl _), rfl, fun ys hy => by rw [I.tuple_inj hy hq]; exact hx⟩, ⟨⟨x', ?_⟩, hit'.at fun o q => (sb.2 it (Ne.symm hne)).trans q, hne⟩, fun b hb => ?_⟩
    · have e1 : ((i + 1 : Nat) : Int) = (i : Int) + 1 := by omega
      rw [e1]; exact he'
    · have hb' : b < s.heap.objs.size := by
        have e' : b = e ∨ b = it := by simpa using hb
        rcases e' with z | z
        · rw [z]; exact hel
        · rw [z]; exact hil
      rw [upd_ne (Nat.ne_of_lt hb')]
      exact (hf b hb).1
  done := by
    intro X hP hw hK hc i pins s σ H E I hf st hg
    subst hP hw hK
    obtain ⟨⟨old, he⟩, hit, hne⟩ := st
    obtain ⟨xs, hq, hx⟩ := hg
    obtain ⟨its, rv, p, hz⟩ := I.tuple hq
    obtain ⟨f0, f1, f2, f3, f4, f5⟩ := hf it (by simp)
    have hl := rv.length
    have hp : s.heap.IsTuple a its.toArray := p
    have hap := tup_apart hp hit
    have hlt : its.toArray[i]? = none := by simp; omega
    have hT : s.TypeIs (.ref e) "enumerate" := ⟨_, he, rfl⟩
    unfold pyNext
    refine wpAny_bind (wpAny_attempt (wpAny_callSpecial?_slot (name := Str.ofString "__next__") hT F.slot_enumerate_next
      (wpAny_call_entry F.slot_enumerate_next hT F.entry_enumerate_next ?_ (F.args_enumerate_next_1 _))))
    show wpAny _ _ (field (.ref e) 2 >>= _) _ _ _
    refine wpAny_bind (wpAny_field he rfl (x := .ref it) rfl ?_)
    refine wpAny_bind (wpAny_nextOf_tuple_end (show X.A.in1.handled = none from I.ok.hd hc) hit hp hlt fun h' x he' hx' => ?_)
    obtain ⟨o, ho, hc'⟩ := hx'
    refine wpAny_bind (wpAny_isInstance (T := "StopIteration") (b := true) ⟨o, ho, hc'⟩ isSubtype_stop ?_)
    exact wpAny_pure ⟨rfl, I.turned (t' := s.toks) (fun b o hb q => he' b o hb q) f0 f1 f3 f4 f5⟩
  self := fun A i s Q E st h => let ⟨⟨_, he⟩, _⟩ := st; wpAny_pyIter_enum he h
def iEnumT (K : PySem.W.Frag) (ta : TA) : TI := fun σ H R => ta σ H fun vs H1 => ∃ a xs, vs = [.ref a] ∧ SqT K H1 a xs ∧ R (IteT K a) H1
theorem pi_enumT {X : Cx} {e : Expr} {ta : TA} {p pos tpos : Pos} {elts : List Expr} {kk : Nat} (hg : Gl X "enumerate") (hm : X.mg "enumerate" = none) (ha : PA X [e] ta) (hs : starEach [e] X.env = [(false, eval e X.env)] := by rfl) :
    PI X (.Tuple elts kk tpos) (.Call (.Name "enumerate" p) [e] [] pos) (iEnumT X.K ta) := by
  refine ⟨fun pins s σ H R I h => ?_⟩
  refine Call_ (ld_blt I hg hm boot_enumerate (PyProof.Rows.callWith_type1 (thn (ha.run pos pins s σ H _ I h) fun us s1 ⟨vs, H1, I1, r1, q1⟩ => ?_) hs rfl))
  obtain ⟨a, xs, ex, hq, q⟩ := q1
  subst ex
  cases r1 with
  | cons r rr =>
    cases rr
    cases r
    obtain ⟨its, rv, p', hz⟩ := I1.tuple hq
    refine call_enum_tuple p' fun h' he hit hsz hk => wpAny_pyIter_enum he ?_
    have I2 : Inv X pins σ H1 { s1 with heap := h' } := I1.kept (t' := s1.toks) hk
    refine ⟨s1.heap.objs.size + 1, [s1.heap.objs.size + 1, s1.heap.objs.size], _, _, H1, rfl, I2, turn_enumT a (s1.heap.objs.size + 1) s1.heap.objs.size, ⟨⟨.none, he⟩, hit, Nat.succ_ne_self _⟩, fun b hb => ?_, q⟩
    have e' : b = s1.heap.objs.size + 1 ∨ b = s1.heap.objs.size := by simpa using hb
    have hle : s1.heap.objs.size ≤ b := by
      rcases e' with z | z
      · rw [z]; exact Nat.le_add_right _ _
      · rw [z]; exact Nat.le_refl _
    exact I1.fpOk hle (I1.hok.fresh hle)
theorem walk_enumT {K : PySem.W.Frag} {a : Addr} {xs : List V} : Walk (IteT K a) xs.length (fun H => SqT K H a xs) (YPair (fun i => some (.int (i : Nat))) (fun i => xs[i]?)) := by
  refine ⟨fun i _ hi q => ⟨xs, xs[i], q, by simp [hi]⟩, fun _ q => ⟨xs, q, Nat.le_refl _⟩, fun i H v H' _ q y => ?_⟩
  obtain ⟨T, x, h1, h2, h3, h4⟩ := y
  exact ⟨T, .int (i : Nat), x, h1, h2, h3, rfl, h4 xs q⟩
end VL


set_option Elab.async false
set_option linter.all false
set_option maxRecDepth 100000
set_option maxHeartbeats 2000000
/-! VL23: enumerate over lists and tuples; max, min of three and of a list -/
namespace VL
open PySem PySem.Spec PyProof.Rows L2
variable [TbP]
theorem itm_enumT {K : Frag} {A : AS} {H : Hp} {a : Addr} {ds : List D} {xs : List V} (l : SqT K H a xs) (r : RpL K A H ds xs) : Itm K A H (IteT K a) (enumD ds) :=
  ⟨_, _, by
    have e : (enumD ds).length = xs.length := by simp [enumD, r.length]
    rw [e]; exact walk_enumT (xs := xs), fun A' H' fr k => sqt_kp l k, fun i A' H' x H2 fr k y => by
    obtain ⟨T, u, v, rfl, n, rfl, e1, e2⟩ := y
    cases e1
    obtain ⟨d, e3, e4⟩ := (r.mono fr k).at' e2
    exact ⟨same_upd n, .tuple [.int i, d], by simp [enumD, e3], rp_pair n rp_int e4⟩⟩
def enum2F (fs : AF) : IF := fun env => (fs env).bind fun rs e => match frzAll e rs with
  | some ([.list ds], e2) => .ok (enumD ds) e2
  | some ([.tuple ds], e2) => .ok (enumD ds) e2
  | _ => .no
section
variable {X : Cx} {W : WX} {e : Expr} {elts : List Expr} {kk : Nat} {tpos p pos : Pos} {fs : AF}
theorem i_enum2 (hm : X.mg "enumerate" = none) (ha : PA X [e] (tA (gd X W) fs)) (hg : Gl X "enumerate" := by rfl) (hs : starEach [e] X.env = [(false, eval e X.env)] := by rfl) : PI X (.Tuple elts kk tpos) (.Call (.Name "enumerate" p) [e] [] pos) (tI (gd X W) (enum2F fs)) :=
  PI.imp (VL.PI.or (pi_enum hg hm ha hs) (pi_enumT hg hm ha hs)) fun σ H R h => by
    obtain ⟨A, env, rel, h⟩ := h
    unfold enum2F at h
    cases q0 : fs env with
    | no => rw [q0] at h; exact h.elim
    | ex x e1 =>
      rw [q0] at h
      exact .inl ⟨A, env, rel, by rw [q0]; exact h⟩
    | ok rs e1 =>
      rw [q0] at h
      simp only [Rs.bind] at h
      split at h
      · rename_i ds e2 q
        refine .inl ⟨A, env, rel, ?_⟩
        rw [q0]
        intro A1 H1 s1 vs hvs
        obtain ⟨A2, s2, f2, rpl⟩ := frzAll_ok s1 (fun _ z => z) hvs q
        obtain ⟨v, t, rfl, r1, r2⟩ := rpl.inv_cons
        rw [r2.inv_nil]
        obtain ⟨a, xs, rfl, l, r⟩ := r1.lst
        exact ⟨a, xs, rfl, l.sq, h A2 H1 s2 _ (itm_enum l r)⟩
      · rename_i ds e2 q
        refine .inr ⟨A, env, rel, ?_⟩
        rw [q0]
        intro A1 H1 s1 vs hvs
        obtain ⟨A2, s2, f2, rpl⟩ := frzAll_ok s1 (fun _ z => z) hvs q
        obtain ⟨v, t, rfl, r1, r2⟩ := rpl.inv_cons
        rw [r2.inv_nil]
        obtain ⟨a, xs, rfl, l, r⟩ := r1.tup
        exact ⟨a, xs, rfl, l, h A2 H1 s2 _ (itm_enumT l r)⟩
      · exact h.elim
end
/-! max, min -/
def ii3 (f : Int → Int → Int) : GC
  | [.int i, .int j, .int k] => some (.sh (.int (f (f i j) k)))
  | _ => none
theorem RqAll.three {K : Frag} {A : AS} {H : Hp} {d d' d'' : D} {vs : List V} (h : RqAll K A H [d, d', d''] vs) : ∃ v v' v'', vs = [v, v', v''] ∧ Rq K A H d v ∧ Rq K A H d' v' ∧ Rq K A H d'' v'' := by
  obtain ⟨v, t, rfl, h1, h2⟩ := h
  obtain ⟨v', v'', rfl, h3, h4⟩ := RqAll.two h2
  exact ⟨v, v', v'', rfl, h1, h3, h4⟩
theorem nuMax2_int (i j : Int) : L2.nuMax2 (.int i) (.int j) = some (.int (maxI i j)) := by
  show (some (decide (i < j))).map _ = _
  unfold maxI
  by_cases h : i < j
  · simp [h]
  · simp [h]
theorem nuMin2_int (i j : Int) : L2.nuMin2 (.int i) (.int j) = some (.int (minI i j)) := by
  show (some (decide (j < i))).map _ = _
  unfold minI
  by_cases h : j < i
  · simp [h]
  · simp [h]
theorem max3_A {K : Frag} : CbA K (L2.rNuC3 L2.nuMax3) (ii3 maxI) := by
  intro A H ds vs z Q hd e hx q
  match ds, e with
  | [.int i, .int j, .int k], e =>
    cases e
    obtain ⟨v, v', v'', rfl, h1, h2, h3⟩ := hx.three
    refine ⟨_, _, _, .int (maxI (maxI i j) k), rfl, ?_, q _ _ (Same.refl H) rz_int⟩
    rw [h1.int, h2.int, h3.int]
    unfold L2.nuMax3
    rw [nuMax2_int]
    exact nuMax2_int _ _
theorem min3_A {K : Frag} : CbA K (L2.rNuC3 L2.nuMin3) (ii3 minI) := by
  intro A H ds vs z Q hd e hx q
  match ds, e with
  | [.int i, .int j, .int k], e =>
    cases e
    obtain ⟨v, v', v'', rfl, h1, h2, h3⟩ := hx.three
    refine ⟨_, _, _, .int (minI (minI i j) k), rfl, ?_, q _ _ (Same.refl H) rz_int⟩
    rw [h1.int, h2.int, h3.int]
    unfold L2.nuMin3
    rw [nuMin2_int]
    exact nuMin2_int _ _
def foldL (f : Int → Int → Int) : List Int → Option Int
  | [] => none
  | a :: l => some (l.foldl f a)
theorem fold_max : ∀ (l : List Int) (a : Int), (l.foldl maxI a ∈ a :: l) ∧ ∀ y ∈ a :: l, y ≤ l.foldl maxI a
  | [], a => ⟨by simp, fun y hy => by simp at hy; subst hy; exact Int.le_refl _⟩
  | b :: l, a => by
    obtain ⟨h1, h2⟩ := fold_max l (maxI a b)
    have e : maxI a b = a ∨ maxI a b = b := by unfold maxI; split <;> simp
    have l1 : a ≤ maxI a b := by unfold maxI; split <;> omega
    have l2 : b ≤ maxI a b := by unfold maxI; split <;> omega
    refine ⟨?_, fun y hy => ?_⟩
    · rcases List.mem_cons.mp h1 with h | h
      · rw [List.foldl_cons, h]
        rcases e with e | e <;> rw [e] <;> simp
      · rw [List.foldl_cons]
        exact List.mem_cons_of_mem _ (List.mem_cons_of_mem _ h)
    · rw [List.foldl_cons]
      rcases List.mem_cons.mp hy with rfl | hy
      · exact Int.le_trans l1 (h2 _ List.mem_cons_self)
      · rcases List.mem_cons.mp hy with rfl | hy
        · exact Int.le_trans l2 (h2 _ List.mem_cons_self)
        · exact h2 _ (List.mem_cons_of_mem _ hy)
theorem fold_min : ∀ (l : List Int) (a : Int), (l.foldl minI a ∈ a :: l) ∧ ∀ y ∈ a :: l, l.foldl minI a ≤ y
  | [], a => ⟨by simp, fun y hy => by simp at hy; subst hy; exact Int.le_refl _⟩
  | b :: l, a => by
    obtain ⟨h1, h2⟩ := fold_min l (minI a b)
    have e : minI a b = a ∨ minI a b = b := by unfold minI; split <;> simp
    have l1 : minI a b ≤ a := by unfold minI; split <;> omega
    have l2 : minI a b ≤ b := by unfold minI; split <;> omega
    refine ⟨?_, fun y hy => ?_⟩
    · rcases List.mem_cons.mp h1 with h | h
      · rw [List.foldl_cons, h]
        rcases e with e | e <;> rw [e] <;> simp
      · rw [List.foldl_cons]
        exact List.mem_cons_of_mem _ (List.mem_cons_of_mem _ h)
    · rw [List.foldl_cons]
      rcases List.mem_cons.mp hy with rfl | hy
      · exact Int.le_trans (h2 _ List.mem_cons_self) l1
      · rcases List.mem_cons.mp hy with rfl | hy
        · exact Int.le_trans (h2 _ List.mem_cons_self) l2
        · exact h2 _ (List.mem_cons_of_mem _ hy)
def ofL (f : Int → Int → Int) : GC
  | [.list ds] => ((intsD ds).bind (foldL f)).map fun i => .sh (.int i)
  | _ => none
theorem maxL_A {K : Frag} : CbA K (L2.rMax K) (ofL maxI) := by
  intro A H ds vs z Q hd e hx q
  match ds, e with
  | [.list l], e =>
    obtain ⟨v, rfl, h⟩ := hx.one
    dsimp only [ofL] at e
    cases q1 : intsD l with
    | none => rw [q1] at e; cases e
    | some bs =>
      rw [q1] at e
      obtain ⟨a, xs, rfl, sl, r⟩ := h.lst
      rw [intsD_ok q1 r] at sl
      cases bs with
      | nil => cases e
      | cons b bs =>
        cases e
        refine ⟨a, b :: bs, rfl, sl, by simp, fun m hm hy => ?_⟩
        obtain ⟨f1, f2⟩ := fold_max bs b
        have : m = bs.foldl maxI b := Int.le_antisymm (f2 m hm) (hy _ f1)
        rw [this]
        exact q _ _ (Same.refl H) rz_int
theorem minL_A {K : Frag} : CbA K (L2.rMin K) (ofL minI) := by
  intro A H ds vs z Q hd e hx q
  match ds, e with
  | [.list l], e =>
    obtain ⟨v, rfl, h⟩ := hx.one
    dsimp only [ofL] at e
    cases q1 : intsD l with
    | none => rw [q1] at e; cases e
    | some bs =>
      rw [q1] at e
      obtain ⟨a, xs, rfl, sl, r⟩ := h.lst
      rw [intsD_ok q1 r] at sl
      cases bs with
      | nil => cases e
      | cons b bs =>
        cases e
        refine ⟨a, b :: bs, rfl, sl, by simp, fun m hm hy => ?_⟩
        obtain ⟨f1, f2⟩ := fold_min bs b
        have : m = bs.foldl minI b := Int.le_antisymm (hy _ f1) (f2 m hm)
        rw [this]
        exact q _ _ (Same.refl H) rz_int
section
variable {X : Cx}
theorem b_max3 (hc : X.calm = true) : BI X "max" (ii3 maxI) := ⟨⟨_, _, L2.call_max3Nu hc, max3_A, boot_max', .inl ⟨_, rfl⟩⟩, by decide, by decide⟩
theorem b_min3 (hc : X.calm = true) : BI X "min" (ii3 minI) := ⟨⟨_, _, L2.call_min3Nu hc, min3_A, boot_min', .inl ⟨_, rfl⟩⟩, by decide, by decide⟩
theorem b_maxL (hc : X.calm = true) : BI X "max" (ofL maxI) := ⟨⟨_, _, cr_max hc, maxL_A, boot_max', .inl ⟨_, rfl⟩⟩, by decide, by decide⟩
theorem b_minL (hc : X.calm = true) : BI X "min" (ofL minI) := ⟨⟨_, _, cr_min hc, minL_A, boot_min', .inl ⟨_, rfl⟩⟩, by decide, by decide⟩
end
end VL


set_option Elab.async false
set_option linter.all false
set_option maxRecDepth 100000
set_option maxHeartbeats 2000000
/-! VL24: a, b, .. = x, y, .. of more than three names -/
namespace VL
open PySem PySem.Spec PyProof.Rows L2
variable [TbP]
def gNames : List Nat → TGs
  | [] => gNil
  | i :: is => gCons (gName i) (gNames is)
theorem gNames_ok {Q : L2.St → Hp → Prop} : ∀ {is : List Nat} {vs : List V} {σ : L2.St} {H : Hp}, is.length = vs.length → Q (sets σ is vs) H → gNames is vs σ H Q
  | [], [], σ, H, _, q => ⟨rfl, q⟩
  | i :: is, v :: vs, σ, H, l, q => ⟨v, vs, rfl, gNames_ok (is := is) (by simpa using l) q⟩
  | [], _ :: _, _, _, l, _ => by simp at l
  | _ :: _, [], _, _, l, _ => by simp at l
section
variable {X : Cx} {W : WX} {fs : AF} {pos pt pt2 : Pos} {es tes : List Expr} {kt k2 : Nat}
theorem s_parN (is : List Nat) (hc : X.calm = true) (hl : is.length ≤ 100) (ha : PA X es (tA (gd X W) fs)) (g : PGs X tes (gNames is)) (hn : (assignEach tes X.env).length = is.length := by rfl) (hst : (assignEach tes X.env).findIdx? (·.1) = none := by rfl)
    (hs : swapsWithSole [.Tuple tes kt pt] (.Tuple es k2 pt2) pos.line X.env = pure false := by rfl) (hw : swappedStores [.Tuple tes kt pt] (.Tuple es k2 pt2) X.env = pure none := by rfl)
    (h1 : (assignEach [.Tuple tes kt pt] X.env).map (·.2) = [assign (.Tuple tes kt pt) X.env] := by rfl) :
    PS X (.Assign [.Tuple tes kt pt] (.Tuple es k2 pt2) pos) (tS (gd X W) (parF is fs)) :=
  PS.imp (ps_asg (pe_tup ha) (pg_tup hc g hn hst) hs hw h1) fun Z σ H h => by
    obtain ⟨A, env, rel, h⟩ := h
    refine ⟨A, env, rel, SPost.cut h fun rs e1 A1 H1 s1 h1 vs hvs => ?_⟩
    have core := par_core s1 hvs h1
    refine ⟨?_, fun p hp => ?_⟩
    · rw [← core.1]; exact le_line (Nat.le_trans hl (by decide))
    · have sm := Stp.same s1.rel (same_upd (o := .tup vs) hp)
      obtain ⟨l, z⟩ := par_core (s1.trans sm) (hvs.step s1.rel sm) h1
      exact ⟨p, vs, rfl, SqT.of upd_same, l.symm, gNames_ok l z⟩
end
end VL


set_option Elab.async false
set_option linter.all false
set_option maxRecDepth 100000
set_option maxHeartbeats 2000000
/-! VL25: calls by keywords (all parameters, in their order) -/
namespace VL
open PySem PySem.Spec PyProof.Rows L2
variable [TbP]
theorem PK.imp {X : Cx} {kws : List Keyword} {t t' : TA} (h : PK X kws t) (i : ∀ σ H Q, t' σ H Q → t σ H Q) : PK X kws t' := ⟨fun pos pins s σ H Q I q => h.run pos pins s σ H Q I (i σ H Q q)⟩
/-- what binds the keywords, as they stand, to the parameters -/
def KwB (K : Frag) (fd : FuncData) (ps : List Str) : Prop := ∀ (s : Shared) (ws : List Value), K.In s.heap → ws.length = ps.length → BindsTo s fd ⟨[], ps.zip ws⟩ (ps.zip ws)
structure DefK (P : Program) (w : World) (K : Frag) (mg : Str → Option Value) (base : Heap) (k : Nat) (x : Str) (ps : List Str) (F : FD) : Prop where
  ex : ∃ (f : Addr) (fd : FuncData), FnG P w K mg base (L2.CX P w) k f fd ps (spF K mg F) ∧ mg x = some (.ref f) ∧ PySem.W.keepIn K (.ref f) = true ∧ KwB K fd ps
structure HereK (K : Frag) (mg : Str → Option Value) (x : Str) (st : Stmt) (ps : List Str) : Prop where
  ex : ∃ (f : Addr) (fd : FuncData), mg x = some (.ref f) ∧ FunD K x x (defArgs st) (defBody st) (defScope st) [] [] f fd ∧ KwB K fd ps
theorem HereK.def {P : Program} {w : World} {K : Frag} {mg : Str → Option Value} {base : Heap} {x : Str} {st : Stmt} {ps N : List Str} {k np n : Nat} {body : SF} (h : HereK K mg x st ps) (S : FnScope N ps (defScope st)) (hnp : ps.length = np) (hn : N.length = n)
    (hb : ∀ (f : Addr) (cdv : Value) (A : Around) (outer : List Env) (s : Shared) (H : Hp) (E : XK), Room k (A.deeper (envOfC x (defScope st) s.heap.objs.size f cdv)) → (A.deeper (envOfC x (defScope st) s.heap.objs.size f cdv)).guards = some [] →
      PSs (cxOf (L2.CX P w) P w K mg base N x (defScope st) f cdv A outer s H E) (defBody st) (tS (gd (cxOf (L2.CX P w) P w K mg base N x (defScope st) f cdv A outer s H E) (fun cls d _ H => E cls d H)) body)) : DefK P w K mg base (k + 1) x ps (runF np n body) := by
  subst hnp hn
  obtain ⟨f, fd, hm, F, hbd⟩ := h.ex
  exact ⟨f, fd, fnG_of F S (fun vs H Q E h => spF_len h) fun cdv A outer s H vs Q E hr hgd h => ⟨_, hb f cdv A outer s H E hr hgd, body_end h⟩, hm, F.kp, hbd⟩
theorem FunD.kwb {K : Frag} {x qual : Str} {params : Arguments} {body : List Stmt} {scope : Scope} {f : Addr} {fd : FuncData} {ps : List Str} (F : FunD K x qual params body scope [] [] f fd)
    (h : ∀ (kV doc pm : Value) (an : Option Addr) (cdv ct : Value) (us : List Value), us.length = ps.length → bindArgs (PySem.W.fnOf x qual params body scope .none kV doc pm an cdv ct) ⟨[], ps.zip us⟩ = pure (ps.zip us)) : KwB K fd ps := by
  obtain ⟨oc, od, dV, kV, doc, pm, an, cdv, ct, osl, rfl, lk, hcd, hD, hK⟩ := F.ex
  rcases hD with ⟨_, rfl⟩ | ⟨e, _⟩
  · exact fun s ws _ hl => .of_eq (h kV doc pm an cdv ct ws hl)
  · exact absurd rfl e
theorem HereK.of {K : Frag} {mg : Str → Option Value} {x : Str} {st : Stmt} {ps : List Str} {f : Addr} {fd : FuncData} (hm : mg x = some (.ref f)) (F : FunD K x x (defArgs st) (defBody st) (defScope st) [] [] f fd)
    (b : ∀ (kV doc pm : Value) (an : Option Addr) (cdv ct : Value) (us : List Value), us.length = ps.length → bindArgs (PySem.W.fnOf x x (defArgs st) (defBody st) (defScope st) .none kV doc pm an cdv ct) ⟨[], ps.zip us⟩ = pure (ps.zip us)) : HereK K mg x st ps :=
  ⟨f, fd, hm, F, FunD.kwb F b⟩
theorem SaysX.hereK {P : Program} {z : Wd} {w : World} {K : Frag} {h : Heap} {mg : Str → Option Value} (s : SaysX P z w K) (X : K.In h) (G : h.Ns mainGlobals mg) (i j : Nat) {x : Str} {st : Stmt} {ps : List Str}
    (b : ∀ (kV doc pm : Value) (an : Option Addr) (cdv ct : Value) (us : List Value), us.length = ps.length → bindArgs (PySem.W.fnOf x x (defArgs st) (defBody st) (defScope st) .none kV doc pm an cdv ct) ⟨[], ps.zip us⟩ = pure (ps.zip us)) (e1 : z.fn[i]? = some ⟨(x, none), x, x, defArgs st, defBody st, defScope st, [], []⟩ := by rfl) (e2 : z.fa[j]? = some (.glo x) := by rfl) : HereK K mg x st ps := by
  obtain ⟨fd, F⟩ := s.d.def_ i e1
  exact HereK.of (He.glo_ok X G (s.d.fact j e2)) F b
section
variable {X : Cx} {W : WX} {f : EF} {g fs : AF} {e : Expr} {kws : List Keyword} {nm : Option Str} {kpos p pos : Pos} {x : Str} {F : FD} {k : Nat} {ps : List Str}
theorem k_nil : PK X [] (tA (gd X W) nilF) := PK.imp pk_nil fun σ H Q h => by
  obtain ⟨A, env, rel, h⟩ := h
  exact h A H (.refl rel) [] rfl
theorem k_cons (he : PE X e (tE (gd X W) f)) (hr : PK X kws (tA (gd X W) g)) : PK X (⟨nm, e, kpos⟩ :: kws) (tA (gd X W) (consF f g)) :=
  PK.imp (pk_cons he hr) fun σ H Q h => by
    obtain ⟨A, env, rel, h⟩ := h
    refine ⟨A, env, rel, (Post.bind h).imp fun r e1 A1 H1 s1 h1 v hv => ?_⟩
    refine ⟨A1, e1, s1.rel, (Post.bind h1).imp fun rs e2 A2 H2 s2 h2 vs hvs => ?_⟩
    refine h2 A2 H2 (.refl s2.rel) (v :: vs) ⟨v, vs, rfl, hv.step s1.rel s2, hvs.weak fun a o ho z => ⟨?_, fun it q => ?_⟩⟩
    · cases q : H a with
      | none => exact q
      | some u => exact absurd z (s1.ext.al a (by rw [q]; simp))
    · subst q
      cases r with
      | tm d =>
        obtain ⟨b, e, _, _, _, ob⟩ := hv
        cases e
        obtain ⟨o', eo, _⟩ := ob.some
        rw [eo] at z; cases z
      | sh d => cases it
      | bo i => cases it
theorem pe_callGK {fa : Addr} {fd : FuncData} {sp : Sp} {t : TA} {E : L2.St → XK} (F : FnG X.prog X.w X.K X.mg X.base (L2.CX X.prog X.w) k fa fd ps sp) (hr : Room k X.A) (hgd : X.A.guards = some []) (hg : Gl X x) (hm : X.mg x = some (.ref fa)) (hk : PySem.W.keepIn X.K (.ref fa) = true) (hb : KwB X.K fd ps) (hx : ∀ σ, PassesAt (L2.CX X.prog X.w) X σ (E σ))
    (ha : PK X kws t) (hdb : (x == ("__debug__" : Str)) = false := by decide) (hall : (backToKw pos (keywordEach kws X.env)).all (·.1.isSome) = true := by rfl) (hks : (backToKw pos (keywordEach kws X.env)).filterMap (·.1) = ps := by rfl)
    (hpl : ((backTo pos (starEach [] X.env)).any (·.1) || (backToKw pos (keywordEach kws X.env)).any (·.1.isNone)) = false := by rfl) :
    PE X (.Call (.Name x p) [] kws pos) (tCallSD sp [] E t) := by
  refine ⟨fun pins s σ H Q I h => wpAny_Call_Name_kw (ld_glob I hg hm ?_ hdb)⟩
  refine PySem.W.callWith_KW0 (h₀ := X.base) I.ok.mod.kin hk hall (thn (ha.run pos pins s σ H _ I h) fun ws s1 ⟨zs, H1, I1, r, q⟩ => ⟨I1.kIn, ?_⟩) hpl
  rw [hks]
  have q : sp (zs ++ []) H1 Q (E σ) := q
  rw [List.append_nil] at q
  have hl : ws.length = ps.length := by rw [← r.length]; exact F.len _ _ _ _ q
  refine wpAny_call (codeAny_mono (F.run X.A X.stack s1 H1 ⟨[], ps.zip ws⟩ ws zs Q (E σ) hr hgd I1.env0 (hb s1 ws I1.kIn hl) r q) fun r s' hq => ?_)
  cases r with
  | error e => exact hx σ pins H1 s1 e s' I1 hq
  | ok fl =>
    cases fl with
    | ret u => exact I1.after hq
    | next => exact False.elim hq
    | brk => exact False.elim hq
    | cont => exact False.elim hq
theorem e_ck (D : DefK X.prog X.w X.K X.mg X.base k x ps F) (hr : Room k X.A) (hgd : X.A.guards = some []) (tk : Takes X W) (ha : PK X kws (tA (gd X W) fs)) (hg : Gl X x := by rfl) (hdb : (x == ("__debug__" : Str)) = false := by decide)
    (hall : (backToKw pos (keywordEach kws X.env)).all (·.1.isSome) = true := by rfl) (hks : (backToKw pos (keywordEach kws X.env)).filterMap (·.1) = ps := by rfl)
    (hpl : ((backTo pos (starEach [] X.env)).any (·.1) || (backToKw pos (keywordEach kws X.env)).any (·.1.isNone)) = false := by rfl) : PE X (.Call (.Name x p) [] kws pos) (tE (gd X W) (callF F fs)) := by
  obtain ⟨f, fd, F', hm, hk, hb⟩ := D.ex
  exact PE.imp (pe_callGK F' hr hgd hg hm hk hb (fun σ => passAt tk σ) ha hdb hall hks hpl) fun _ _ _ h => callF_sound (G := gd X W) h
end
end VL


set_option Elab.async false
set_option linter.all false
set_option maxRecDepth 100000
set_option maxHeartbeats 4000000
/-! EX1: an own error over a built-in one, whose __init__ calls super's and stores one field: what the call of its class leaves. -/
namespace VL
open PySem PySem.Spec PyProof.Rows L2
/-- a built-in error under own ones -/
structure EB (B nw ini : String) (tl : List Value) : Prop where
  fx : ExcBaseFacts B nw ini tl
  kx : PySem.W.KxsFacts B ini
  ps : ∀ self, refuseLoop self "__setattr__" tl = pure ()
  ob : tl.contains (.type "object") = true
abbrev veT : List Value := [.type "ValueError", .type "Exception", .type "BaseException", .type "object"]
abbrev oeT : List Value := [.type "OverflowError", .type "ArithmeticError", .type "Exception", .type "BaseException", .type "object"]
theorem eb_VE : EB "ValueError" "ValueError.__new__" "ValueError.__init__" veT := ⟨F.excBase_ValueError, PySem.W.kxs_ValueError, F.store_ValueError.passes, by decide +kernel⟩
theorem eb_OE : EB "OverflowError" "OverflowError.__new__" "OverflowError.__init__" oeT := ⟨F.excBase_OverflowError, PySem.W.kxs_OverflowError, F.store_OverflowError.passes, by decide +kernel⟩
theorem tail_pass {tl : List Value} (self : Value) (hp : refuseLoop self "__setattr__" tl = pure ()) : ∀ l : List Value, PySem.W.excTail tl l = true → refuseLoop self "__setattr__" l = pure () := by
  intro l
  induction l with
  | nil =>
    intro e
    rcases PySem.W.excTail_cases _ e with ⟨c, r', q, h⟩ | q
    · cases q
    · rw [q]; exact hp
  | cons a r ih =>
    intro e
    rcases PySem.W.excTail_cases (a :: r) e with ⟨c, r', q, h⟩ | q
    · cases q
      rw [refuseLoop_ref]
      exact ih h
    · rw [q]; exact hp
end VL
namespace VL
open PySem PySem.Spec PyProof.Rows L2
/-- what the written part says of an own error's __init__: f the function, D the class it stands in -/
structure InitF (P : Program) (K : Frag) (f D : Addr) (qual : Str) (params : Arguments) (body : List Stmt) (scope : Scope) (x : Str) : Prop where
  lk : ∃ oc od dV kV doc pm an cda ct cc osl, K.lookup f = some ⟨oc, od, .func (PySem.W.ksFn "__init__" qual params body scope dV kV doc pm an (.ref cda) ct cc), osl⟩ ∧ PySem.W.codeIn K (.ref cda) qual = true ∧
    (∃ ccl cdd vs ccs tf, K.lookup cda = some ⟨ccl, cdd, .fields vs, ccs⟩ ∧ vs[2]? = some (.str P.main.file tf)) ∧
    (∃ cl cld csl, K.lookup cc = some ⟨cl, cld, .cell (some (.ref D)), csl⟩) ∧
    ∀ us, bindArgs (PySem.W.ksFn "__init__" qual params body scope dV kV doc pm an (.ref cda) ct cc) ⟨us, []⟩ = bindArgs (PySem.W.ksFn "__init__" qual params body scope .none kV doc pm an (.ref cda) ct cc) ⟨us, []⟩
  cD : ∃ cd, PySem.W.clsIn K D = some cd
  st : PySem.W.nsIn K cStatics "thirdparty.any" = some none
  co : scope.isCoroutine = false
  ge : scope.isGenerator = false
  kd : scope.kind = .function
  nc : ∀ y ∈ scope.names, y.2 ≠ .cell
  ks : scope.names.lookup ("super" : Str) = some .globalImplicit
  kc : scope.names.lookup ("__class__" : Str) = some .free
  k0 : scope.names.lookup ("self" : Str) = some .local
  kx : scope.names.lookup x = some .local
  hd : ∃ ar : Arg, (params.posonlyargs ++ params.args).head? = some ar ∧ ar.arg = "self"
  nx : x ≠ "self"
  nb : (x == ("__debug__" : Str)) = false
  bd : ∀ (kV doc pm : Value) (an : Option Addr) (cda ct : Value) (cc : Addr) (a b : Value), bindArgs (PySem.W.ksFn "__init__" qual params body scope .none kV doc pm an cda ct cc) ⟨[a, b], []⟩ = pure [(("self" : Str), a), (x, b)]
  tp : (P.main.scope.names.lookup ("super" : Str)).isSome = false
/-- .. of the error's class C -/
structure XcC (K : Frag) (C f D : Addr) (nw ini B : String) (tl : List Value) (fl : Str) : Prop where
  q : PySem.W.excInitIn K C tl nw = true
  ov : PySem.W.excOver K C tl = true
  dc : PySem.W.hasDictIn K C = true
  it : PySem.W.findIn K (.ref C) "__init__" = some (some (.ref f))
  ty : PySem.W.typeIn K (.ref f) = some (.type "function")
  sa : PySem.W.findIn K (.ref C) "__setattr__" = some (some (.builtin "object.__setattr__"))
  nf : PySem.W.findIn K (.ref C) fl = some none
  mr : PySem.W.mroIn K C (.ref D) = some true
  sp : PySem.W.ks_superIn K C D "__init__" = some (some (.builtin ini))
  sB : PySem.W.subIn K (.ref C) (.type B) = some true
  sx : PySem.W.subIn K (.ref C) (.type "BaseException") = some true
  tC : PySem.W.typeIn K (.ref C) = some (.type "type")
  kp : PySem.W.keepIn K (.ref C) = true
abbrev excA (C t : Addr) (dv : Option Addr) : Obj := { cls := .ref C, dict := dv, data := .fields #[.ref t, .none, .none, .none, .bool false, .none] }
section
variable {P : Program} {w : World} {A : Around} {E : Value → Shared → Prop} {R : Result → Shared → Prop} {K : Frag}
/-- the one field is stored -/
theorem field_new {hp : Heap} {g : Array GenState} {d : Drawn} {t : Nat} {os : OsState} {tl : List Value} {name : Str} {v : Value} {x C : Addr} {fv : Array Value} {Q : Unit → Shared → Prop} (hps : ∀ self, refuseLoop self "__setattr__" tl = pure ()) (hob : tl.contains (.type "object") = true)
    (X : K.In hp) (hx : hp.get? x = some { cls := .ref C, data := .fields fv }) (hov : PySem.W.excOver K C tl = true) (hdc : PySem.W.hasDictIn K C = true) (ha : PySem.W.findIn K (.ref C) name = some none) (hsa : PySem.W.findIn K (.ref C) "__setattr__" = some (some (.builtin "object.__setattr__")))
    (hq : ∀ h' tk' dx, (∀ b o, b ≠ x → hp.get? b = some o → h'.get? b = some o) → hp.objs.size ≤ dx → dx ≠ x → h'.get? x = some { cls := .ref C, dict := some dx, data := .fields fv } →
      h'.Ns1 dx (fun y => if y = name then some v else none) → Q () ⟨h', g, d, tk', os⟩) :
    wpAny (model P w) A (setAttr (.ref x) name v) Q E ⟨hp, g, d, t, os⟩ := by
  obtain ⟨cd, hcd, hh⟩ := PySem.W.any_some hdc
  have hm : PySem.W.excTail tl cd.mro = true := by
    unfold PySem.W.excOver at hov
    rw [hcd] at hov
    simp only [Option.any_some] at hov
    split at hov
    · rename_i C' bm e
      rw [e]
      exact (Bool.and_eq_true_iff.mp hov).2
    · cases hov
  have ne : cd.mro.isEmpty = false := by
    cases e : cd.mro with
    | nil =>
      rw [e] at hm
      rcases PySem.W.excTail_cases _ hm with ⟨c, r', q, h⟩ | q
      · cases q
      · rw [← q] at hob; cases hob
    | cons a r => rfl
  have I0 : PySem.W.InstAt hp x { cls := .ref C, data := .fields fv } C none := ⟨hx, rfl, rfl, trivial⟩
  refine PySem.W.set_plain X I0 hsa ?_
  have SF := PySem.F.store_object
  have hob2 : cd.mro.contains (.type "object") = true := (PySem.W.excTail_contains "object" _ hm).trans hob
  have far : x ≠ hp.objs.size := Nat.ne_of_lt (Heap.lt_size hx)
  have isObj : PySem.W.Looks (model P w) hp (isInstance (.ref x) (.type "object")) true := I0.type.andThen (PySem.W.looks_mroIn X (by unfold PySem.W.mroIn; rw [hcd, Option.bind_some, if_neg (by rw [ne]; decide), hob2]))
  refine codeAny_call_builtin SF.slot.plain SF.entry (@PySem.W.check_slot (model P w) _ _ ⟨hp, g, d, t + 1, os⟩ "object.__setattr__" "object" "__setattr__" (.ref x) [.str name t, v] [] _ SF.kind SF.split isObj (SF.args (.ref x) (.str name t) v) ?_)
  have lm : PySem.W.Looks (model P w) hp (mroOf (.ref C)) cd.mro := (PySem.W.looks_clsIn X hcd).andThen .now
  have ls : PySem.W.Looks (model P w) hp (Builtin.ObjectAttr.storeTaker? none) none := .now
  have lc : PySem.W.Looks (model P w) hp (classData C) cd := PySem.W.looks_clsIn X hcd
  rw [PySem.W.osa_eq, refuse_eq]
  refine wpAny_bind (wpAny_bind (I0.type.at (wpAny_bind (lm.at ?_))))
  rw [tail_pass _ (hps _) _ hm]
  refine wpAny_pure (wpAny_bind (I0.type.at (wpAny_bind ((PySem.W.looks_findIn X ha).at (wpAny_bind (ls.at ?_))))))
  show wpAny _ _ (Builtin.ObjectAttr.storeInOwnDict (.ref x) (.ref C) (.str name t) name v false) _ _ _
  obtain ⟨nm, bs, mro, ns, qn, hd, sn, sb, ab, col, del⟩ := cd
  dsimp only at hh
  subst hh
  unfold Builtin.ObjectAttr.storeInOwnDict Builtin.ObjectAttr.ownDictForStores
  repeat (first | with_reducible refine HandSPX.store_in_new ?_ ?_ | with_reducible refine wpAny_loadPart_at hx ?_ | with_reducible refine lc.at ?_ | wp_step)
  · exact ⟨_, #[], _, (Heap.get?_update_ne _ _ _ _ far.symm).trans (Heap.get?_push_at rfl rfl), rfl, fun e he => absurd he (by simp), fun _ => rfl⟩
  · intro h' tk' hn' hs
    have there : (hp.push { cls := .type "dict", data := .dict #[] }).get? x = some { cls := .ref C, data := .fields fv } := Heap.get?_push_of_some _ hx
    refine hq h' tk' hp.objs.size (fun b o hb ho => ?_) (Nat.le_refl _) far.symm ?_ hn'
    · exact (hs.2 b (Nat.ne_of_lt (Heap.lt_size ho))).trans ((Heap.get?_update_ne _ _ _ _ hb).trans (Heap.get?_push_of_some _ ho))
    · exact (hs.2 x far).trans (Heap.get?_update_self _ there rfl)
end
end VL
namespace VL
open PySem PySem.Spec PyProof.Rows L2
section
variable {P : Program} {w : World} {A : Around} {E : Value → Shared → Prop} {R : Result → Shared → Prop} {K : Frag} {C f D e t0 : Addr} {B nw ini : String} {tl : List Value} {fl x qual : Str} {params : Arguments} {body : List Stmt} {scope : Scope} {s : Shared} {mg mb : Str → Option Value} {u : Value} {p0 p1 p2 p3 p4 p5 p6 p7 p8 p9 : Pos}
/-- the wrapper that super gives, called: the args are laid anew -/
theorem wrap_call {hp : Heap} {g : Array GenState} {d : Drawn} {t : Nat} {os : OsState} {m : Addr} {rest : List Value} {Q : Value → Shared → Prop} (eb : EB B nw ini tl) (T : XcC K C f D nw ini B tl fl) (X : K.In hp) (hm : hp.get? m = some (PySem.W.kxs_mw ini e)) (he : hp.get? e = some (excA C t0 none)) (hz : rest.length ≤ sizeLine)
    (hq : ∀ h' t1, (∀ b o, b ≠ e → hp.get? b = some o → h'.get? b = some o) → h'.get? e = some (excA C t1 none) → Q .none ⟨h', g, d, t, os⟩) :
    wpAny (model P w) A (call (.ref m) rest) Q E ⟨hp, g, d, t, os⟩ := by
  obtain ⟨nm, N', qn, bs, bm, hdct, sn, sub, ab, col, dd, k0, k1, k2, k3, k5, hC, hT⟩ := PySem.W.excInit_of X T.q
  refine wpAny_call (codeAny_of_tree ?_)
  show wpAny _ A.in1 (callAny (.ref m) ⟨rest, []⟩) _ _ _
  simp only [callAny]
  refine wpAny_bind (wpAny_load hm ?_)
  simp only [PySem.W.kxs_mw, show (Value.type "method-wrapper" == Value.type "method" || Value.type "method-wrapper" == Value.type "builtin_function_or_method" || Value.type "method-wrapper" == Value.type "method-wrapper") = true by decide, if_true]
  refine PySem.W.KFB.if_so (by decide) ?_
  refine wpAny_bind (PySem.W.check_bound_init eb.fx.toExcCallFacts hC he rfl ?_)
  refine wpAny_bind (wpAny_pure (wpAny_pure ?_))
  refine ⟨plainId_quiet eb.fx.init.plain _, codeAny_builtin eb.fx.initEntry ?_⟩
  exact PySem.W.exc_init_tree (cls := .ref C) (t0 := t0) (dv := none) (c2 := .none) (c3 := .none) (b4 := .bool false) he hz fun h' k e' _ => hq h' _ k e'
/-- __init__(self, x): super().__init__(x); self.fl = x -/
theorem init_run (eb : EB B nw ini tl) (I : InitF P K f D qual params body scope x) (T : XcC K C f D nw ini B tl fl)
    (hb : body = [.Expr (.Call (.Attribute (.Call (.Name "super" p0) [] [] p1) "__init__" p2) [.Name x p3] [] p4) p5, .Assign [.Attribute (.Name "self" p6) fl p7] (.Name x p8) p9])
    (hc : ∀ env : Env, ∃ pl : Sem Bool, eval (.Call (.Attribute (.Call (.Name "super" p0) [] [] p1) "__init__" p2) [.Name x p3] [] p4) env = (do
      let ov ← attributeBase (.Call (.Name "super" p0) [] [] p1) "__init__" env (eval (.Call (.Name "super" p0) [] [] p1) env)
      standAt p2.atName
      let (f, first) ← holding [ov] (getMethod ov "__init__" pl)
      callWith p4 f first (backTo p4 (starEach [.Name x p3] env)) []))
    (X : K.In s.heap) (hlim : s.heap.NoLimit) (hroom : A.depth < recursionLimit) (G : s.heap.Ns mainGlobals mg) (Bn : s.heap.Ns builtinsNs mb) (hg : mg "super" = none) (hbi : mb "super" = some (.type "super"))
    (he : s.heap.get? e = some (excA C t0 none)) (hKe : K.lookup e = none)
    (hq : ∀ h' t1 dx tk, (∀ b o, b ≠ e → s.heap.get? b = some o → h'.get? b = some o) → s.heap.objs.size ≤ dx → dx ≠ e → h'.get? e = some (excA C t1 (some dx)) →
      h'.Ns1 dx (fun y => if y = fl then some u else none) → R (.ok (.ret .none)) { s with heap := h', toks := tk }) :
    codeAny (model P w) A (.call (.ref f) ⟨[.ref e, u], []⟩) R s := by
  obtain ⟨oc, od, dV, kV, doc, pm, an, cda, ct, cc, osl, hf, hcd, ⟨ccl, cdd, vs, ccs, tf, hcda, hvs⟩, ⟨cl, cld, csl, hcc⟩, hdV⟩ := I.lk
  obtain ⟨cdD, hD⟩ := I.cD
  obtain ⟨ar, har, har2⟩ := I.hd
  refine ks_codeAny_call_defAt (fd := PySem.W.ksFn "__init__" qual params body scope dV kV doc pm an (.ref cda) ct cc) (body := body) (binds := [(("self" : Str), .ref e), (x, u)]) hroom (X _ _ hf) rfl hlim (PySem.W.codeRec_of X hcd) rfl
    (BindsTo.of_eq ((hdV _).trans (I.bd kV doc pm an (.ref cda) ct cc (.ref e) u))) I.nc (fun y hy => ?_) (fun h₀ hns hk => ?_) I.co I.ge I.kd
  · simp only [List.mem_cons, List.not_mem_nil, or_false] at hy
    rcases hy with rfl | rfl
    · exact I.k0
    · exact I.kx
  have lks : (fun y : Str => ([(("self" : Str), Value.ref e), (x, u)] : List (Str × Value)).reverse.lookup y) ("self" : Str) = some (.ref e) := by
    have : (("self" : Str) == x) = false := by simpa using Ne.symm I.nx
    simp [List.lookup, this]
  have lkx : (fun y : Str => ([(("self" : Str), Value.ref e), (x, u)] : List (Str × Value)).reverse.lookup y) x = some u := by
    simp [List.lookup]
  have X0 : K.In h₀ := PySem.W.Frag.In.keeps X hk
  subst hb
  obtain ⟨oD, hD1, hD2⟩ : ∃ oD, h₀.get? D = some oD ∧ oD.data = .cls cdD := by
    unfold PySem.W.clsIn at hD
    split at hD
    · rename_i c d cd' sl ho
      cases hD
      exact ⟨_, X0 _ _ ho, rfl⟩
    · cases hD
  have he0 := hk _ _ he
  obtain ⟨hp, g, d, tk, os⟩ := s
  have hint : ∀ L : Addr, interactive (callEnv (PySem.W.ksFn "__init__" qual params [.Expr (.Call (.Attribute (.Call (.Name "super" p0) [] [] p1) "__init__" p2) [.Name x p3] [] p4) p5, .Assign [.Attribute (.Name "self" p6) fl p7] (.Name x p8) p9] scope dV kV doc pm an (.ref cda) ct cc) L f) = false := fun L => by
    have kd := I.kd
    simp only [interactive, callEnv, newEnv, kd] <;> rfl
  have hint := hint hp.objs.size
  obtain ⟨pl, hc⟩ := hc (callEnv (PySem.W.ksFn "__init__" qual params _ scope dV kV doc pm an (.ref cda) ct cc) hp.objs.size f)
  refine ks_wpAt_execs_cons (ks_wpAt_Expr_any (hi := hint) (ks_wpAt_MethodCall (pl := pl) (he := hc) (ks_wpAt_super_base (env := callEnv (PySem.W.ksFn "__init__" qual params _ scope dV kV doc pm an (.ref cda) ct cc) hp.objs.size f) I.ks I.kc (by decide) rfl (X0 _ _ hf) rfl har rfl (X0 _ _ hcda) rfl hvs (by simp) I.tp ?_)))
  refine PySem.W.ks_loadName_global I.kd I.ks (Calls.loadGlobal_builtin (G.keeps hk) hg (Bn.keeps hk) hbi ⟨rfl, ?_⟩)
  refine wpAny_loadName_free I.kd I.kc rfl ⟨_, X0 _ _ hcc, rfl⟩ ?_
  rw [har2]
  refine wpAny_loadName_local I.kd I.k0 hns lks ?_
  refine ks_wpAny_isType_cls hD1 hD2 ⟨rfl, ?_⟩
  refine ks_wpAny_call_super hD1 hD2 he0 rfl (fun c z => by cases z) (PySem.W.looks_mroIn X0 T.mr) (fun h1 hso k1 => ?_)
  have X1 : K.In h1 := PySem.W.Frag.In.keeps X0 k1
  have he1 := k1 _ _ he0
  have hns1 := Heap.Ns.keeps hns k1
  have I1 : PySem.W.InstAt h1 e (excA C t0 none) C none := ⟨he1, rfl, rfl, trivial⟩
  obtain ⟨cdC, hcC, hdC⟩ := PySem.W.any_some T.dc
  have hm := T.sp
  unfold PySem.W.ks_superIn at hm
  rw [hcC] at hm
  refine PySem.W.kxs_getMethod eb.kx hso (PySem.W.looks_opaque X1 I.st) (l₀ := cdC.mro) (fun A Q E s k q => wpAny_bind ((PySem.W.looks_clsIn X1 hcC) A _ E s k (wpAny_pure q))) rfl X1 hm (I1.type.andThen (PySem.W.looks_subIn X1 T.sB)) (PySem.W.ks_ne X1 I1 hcC) (by decide) ?_
  have k2 : ∀ b o, h1.get? b = some o → (h1.push (PySem.W.kxs_mw ini e)).get? b = some o := fun b o z => Heap.get?_push_of_some _ z
  have hw2 : (h1.push (PySem.W.kxs_mw ini e)).get? h1.objs.size = some (PySem.W.kxs_mw ini e) := Heap.get?_push_at rfl rfl
  have X2 : K.In (h1.push (PySem.W.kxs_mw ini e)) := PySem.W.Frag.In.keeps X1 k2
  have he2 := k2 _ _ he1
  have hns2 := Heap.Ns.keeps hns1 k2
  refine PySem.W.kxs_callWith (i := ini) (x := e) rfl (Calls.evalArgs_plain (Calls.spliced_cons (wpAny_Name (wpAny_loadName_local I.kd I.kx hns2 lkx ?_) I.nb)))
  refine Calls.spliced_nil ⟨hw2, ?_⟩
  refine wrap_call eb T X2 hw2 he2 (by rw [sizeLine_eq]; show 1 ≤ _; decide) fun h3 t1 k3 he3 => ?_
  have eL : hp.objs.size ≠ e := Nat.ne_of_gt (Heap.lt_size he)
  have hns3 : h3.Ns hp.objs.size (fun y : Str => ([(("self" : Str), Value.ref e), (x, u)] : List (Str × Value)).reverse.lookup y) := by
    obtain ⟨oL, es, ep, hL, r⟩ := hns2
    exact ⟨oL, es, ep, k3 _ _ eL hL, r⟩
  have X3 : K.In h3 := fun b o z => k3 b o (fun q => by rw [q, hKe] at z; cases z) (X2 b o z)
  refine ks_wpAt_execs_cons (wpAt_of_wpAny (plainObj_wpAny_Assign_Attribute (wpAny_Name (wpAny_loadName_local I.kd I.kx hns3 lkx (wpAny_Name (wpAny_loadName_local I.kd I.k0 hns3 lks ?_))) I.nb)))
  refine field_new eb.ps eb.ob X3 he3 T.ov T.dc T.nf T.sa fun h4 tk4 dx k4 dn de hx hn1 => ?_
  have up : ∀ b o, b ≠ e → hp.get? b = some o → h4.get? b = some o := fun b o nb z => k4 b o nb (k3 b o nb (k2 _ _ (k1 _ _ (hk _ _ z))))
  refine wpAt_of_wpAny (wpAny_execs_nil ?_)
  refine hq h4 t1 dx _ up ?_ de hx hn1
  obtain ⟨oL, _, _, hL, _⟩ := hns3
  exact Nat.le_trans (Nat.le_of_lt (Heap.lt_size hL)) dn
end
end VL


set_option Elab.async false
set_option linter.all false
set_option maxRecDepth 100000
set_option maxHeartbeats 4000000
/-! EX2: own errors raised and caught. -/
namespace VL
open PySem PySem.Spec PyProof.Rows L2
variable [TbP]
/-- an own error, as the module holds it: its class's name, the name of its one field -/
structure ErrT (P : Program) (K : Frag) (mg : Str → Option Value) (c fl : Str) : Prop where
  ex : ∃ (C f D : Addr) (B nw ini : String) (tl : List Value) (qual : Str) (params : Arguments) (scope : Scope) (x : Str) (p0 p1 p2 p3 p4 p5 p6 p7 p8 p9 : Pos), mg c = some (.ref C) ∧ EB B nw ini tl ∧
    InitF P K f D qual params [.Expr (.Call (.Attribute (.Call (.Name "super" p0) [] [] p1) "__init__" p2) [.Name x p3] [] p4) p5, .Assign [.Attribute (.Name "self" p6) fl p7] (.Name x p8) p9] scope x ∧
    XcC K C f D nw ini B tl fl ∧
    (∀ env : Env, ∃ pl : Sem Bool, eval (.Call (.Attribute (.Call (.Name "super" p0) [] [] p1) "__init__" p2) [.Name x p3] [] p4) env = (do
      let ov ← attributeBase (.Call (.Name "super" p0) [] [] p1) "__init__" env (eval (.Call (.Name "super" p0) [] [] p1) env)
      standAt p2.atName
      let (f, first) ← holding [ov] (getMethod ov "__init__" pl)
      callWith p4 f first (backTo p4 (starEach [.Name x p3] env)) []))
/-- the reading of C(e) -/
def tMkE (C : Addr) (fl : Str) (te : TE) : L2.St → Hp → XK → Prop := fun σ H Q => te σ H fun v H1 => ∀ dx, H1 dx = none → Q (.ref C) (some dx) (upd H1 dx (.xd [(fl, v)]))
section
variable {X : Cx} {C : Addr} {c fl : Str} {e : Expr} {te : TE} {p pos : Pos}
theorem pmk_err (T : ErrT X.prog X.K X.mg c fl) (hr : Room 1 X.A) (hm : X.mg c = some (.ref C)) (hs : X.mg "super" = none) (he : PE X e te) (hg : Gl X c := by rfl) (hdb : (c == ("__debug__" : Str)) = false := by decide)
    (hse : starEach [e] X.env = (false, eval e X.env) :: starEach [] X.env := by rfl) : PMk X (.Call (.Name c p) [e] [] pos) (tMkE C fl te) := by
  intro pins s σ H Q I h
  obtain ⟨C', f, D, B, nw, ini, tl, qual, params, scope, x, p0, p1, p2, p3, p4, p5, p6, p7, p8, p9, hm', eb, Fi, Tc, hc⟩ := T.ex
  rw [hm] at hm'; cases hm'
  refine wpAny_Call_Name_kw (ld_glob I hg hm ?_ hdb)
  refine PySem.W.callWith_K (h₀ := X.base) I.ok.mod.kin Tc.kp ?_ hse (by rfl)
  rw [hse]
  show wpAny _ _ (spliced ((false, eval e X.env) :: backTo pos (starEach [] X.env))) _ _ s
  refine Calls.spliced_cons (thn (he.run pins s σ H _ I h) fun u s1 ⟨v, H1, I1, r1, q1⟩ => ?_)
  refine Calls.spliced_nil ⟨I1.kIn, ?_⟩
  show wpAny _ _ (call (.ref C) [u]) _ _ _
  obtain ⟨nm, N', qn, bs, bm, hdct, sn, sub, ab, col, dd, k0, k1, k2, k3, k5, hC, hT⟩ := PySem.W.excInit_of I1.kIn Tc.q
  obtain ⟨hp, g, dr, tk, os⟩ := s1
  have kk : ∀ b o, hp.get? b = some o → ((hp.push (PySem.W.kdv_tup [u])).push (HandSPX.excO C hp.objs.size)).get? b = some o := fun b o z => Heap.get?_push_of_some _ (Heap.get?_push_of_some _ z)
  have hget : ((hp.push (PySem.W.kdv_tup [u])).push (HandSPX.excO C hp.objs.size)).get? (hp.objs.size + 1) = some (HandSPX.excO C hp.objs.size) := by heap_get
  have fresh : hp.get? (hp.objs.size + 1) = none := Heap.get?_none_of_le (Nat.le_add_right _ _)
  have hsz : hp.objs.size ≤ hp.objs.size + 1 := Nat.le_succ _
  have hn : H1 (hp.objs.size + 1) = none := I1.hok.fresh hsz
  refine wpAny_call (HandSPX.call_own eb.fx hT hC (PySem.W.looks_findIn I1.kIn Tc.it) (fun self => PySem.W.bind_fn I1.kIn self Tc.ty) (by rw [sizeLine_eq]; show 1 ≤ _; decide) ?_)
  have hM := I1.ok.mod
  obtain ⟨mb, hb1, hb2⟩ := hM.blt
  refine init_run (s := ⟨(hp.push (PySem.W.kdv_tup [u])).push (HandSPX.excO C hp.objs.size), g, dr, tk, os⟩) (e := hp.objs.size + 1) (t0 := hp.objs.size) eb Fi Tc rfl hc (PySem.W.Frag.In.keeps I1.kIn kk) ?_ ?_ ((hM.glob.keeps I1.bk).keeps kk) ((hb1.keeps I1.bk).keeps kk) hs ((hb2 _ (by decide)).trans PyProof.Rows.Boot.«super») hget ?_ ?_
  · exact (hM.nolimit.keeps I1.bk).keeps kk
  · exact (hr.make C [u] []).depth
  · cases q : X.K.lookup (hp.objs.size + 1) with
    | none => rfl
    | some o =>
      have z := I1.kIn _ _ q
      rw [fresh] at z; cases z
  intro h2 t1 dx tk2 up dn de hx hns
  refine ⟨rfl, ?_⟩
  have nd : hp.objs.size ≤ dx := by
    rw [Heap.size_push, Heap.size_push] at dn
    omega
  obtain ⟨Gh, g1, g2⟩ := restrict h2 fun b => decide (b ≠ hp.objs.size + 1)
  have gk : ∀ b, b ≠ hp.objs.size + 1 → Gh.get? b = h2.get? b := fun b hb => g1 b (decide_eq_true hb)
  have ge : Gh.get? (hp.objs.size + 1) = none := g2 _ (by simp)
  have old : ∀ {b : Addr} {o : Obj}, hp.get? b = some o → b ≠ hp.objs.size + 1 := fun {b o} z q => by rw [q, fresh] at z; cases z
  have kG : ∀ b o, hp.get? b = some o → Gh.get? b = some o := fun b o z => (gk b (old z)).trans (up b o (old z) (kk b o z))
  obtain ⟨oD, es, ep, hD, hrest⟩ := hns
  have J : Inv X pins σ (upd H1 dx (.xd [(fl, v)])) ⟨Gh, g, dr, tk2, os⟩ := by
    refine I1.laid (t' := tk2) (a := dx) (o := .xd [(fl, v)]) (h' := Gh) kG nd ?_
    refine ⟨fun y => if y = fl then some u else none, ⟨oD, es, ep, (gk dx de).trans hD, hrest⟩, fun y => ?_⟩
    by_cases hy : y = fl
    · subst hy
      simpa [List.lookup, RelO] using r1
    · have : (y == fl) = false := by simpa using hy
      simp [List.lookup, this, hy, RelO]
  refine ⟨hp.objs.size + 1, _, _, ⟨Gh, g, dr, tk2, os⟩, upd H1 dx (.xd [(fl, v)]), .ref C, some dx, rfl, J, fun b o z => ?_, ge, hx, ⟨rfl, rfl⟩, rfl, rfl, ?_, rfl, J.bare, raises_own Tc.sx Tc.tC, q1 dx (I1.hok.fresh nd)⟩
  · by_cases hb : b = hp.objs.size + 1
    · rw [hb, ge] at z; cases z
    · exact (gk b hb).symm.trans z
  · rw [upd_ne (Ne.symm de)]; exact hn
end
end VL


set_option Elab.async false
set_option linter.all false
set_option maxRecDepth 100000
set_option maxHeartbeats 4000000
/-! EX3: raise C(e); try with several clauses 'except C as e'. -/
namespace VL
open PySem PySem.Spec PyProof.Rows L2
variable [TbP]
def raiseF (c fl : Str) (f : EF) : SF := fun env => (f env).st fun r e => match frz e r with
  | some (d, e2) => .ex ⟨c, fl, d⟩ e2
  | none => .no
theorem s_raise {X : Cx} {W : WX} {c fl : Str} {e : Expr} {fe : EF} {p pos pos' : Pos} (T : ErrT X.prog X.K X.mg c fl) (hr : Room 1 X.A) (hs : X.mg "super" = none) (hc : X.calm = true) (tk : Takes X W) (he : PE X e (tE (gd X W) fe)) (hg : Gl X c := by rfl) (hdb : (c == ("__debug__" : Str)) = false := by decide)
    (hse : starEach [e] X.env = (false, eval e X.env) :: starEach [] X.env := by rfl) : PS X (.Raise (some (.Call (.Name c p) [e] [] pos)) none pos') (tS (gd X W) (raiseF c fl fe)) := by
  obtain ⟨C, hm⟩ : ∃ C, X.mg c = some (.ref C) := by
    obtain ⟨C, _, _, _, _, _, _, _, _, _, _, _, _, _, _, _, _, _, _, _, _, hm, _⟩ := T.ex
    exact ⟨C, hm⟩
  refine PS.imp (ps_raise hc tk (pmk_err T hr hm hs he hg hdb hse)) fun Z σ H h => ?_
  obtain ⟨A, env, rel, h⟩ := h
  refine ⟨A, env, rel, SPost.cut h fun r e1 A1 H1 s1 h1 v hv dx n => ?_⟩
  cases q : frz e1 r with
  | none => rw [q] at h1; exact h1.elim
  | some z =>
    obtain ⟨d, e2⟩ := z
    rw [q] at h1
    obtain ⟨A2, s2, f2, rp, _⟩ := frz_ok s1 hv q
    have st := Stp.same s2.rel (same_upd (o := .xd [(fl, v)]) n)
    exact h1 A2 σ _ _ _ (s2.trans st) ⟨C, dx, v, hm, rfl, rfl, upd_same, rp.mono (fun _ z => z) (st.ext.kp s2.rel)⟩

/-! ### several clauses with a name each -/
abbrev ClT : Type := Value × Nat × (Addr → Value → Option Addr → TS)
def wNs (K : Frag) (Wo : WX) (D : Ends) : List ClT → WX
  | [] => Wo
  | q :: r => fun cls d σ H => ∃ b, PySem.W.exmOne K cls q.1 = some b ∧
      (b = true → ∀ a, H a = none → q.2.2 a cls d { nx := fun σ' H' => D.nx (σ'.set q.2.1 none) H', rt := D.rt, bk := fun σ' H' => D.bk (σ'.set q.2.1 none) H', ct := fun σ' H' => D.ct (σ'.set q.2.1 none) H' } (σ.set q.2.1 (some (.ref a))) H) ∧
      (b = false → wNs K Wo D r cls d σ H)
inductive Cls (X : Cx) : List ExceptHandler → List ClT → Prop
  | nil : Cls X [] []
  | cons {x n : Str} {c : Value} {i : Nat} {ts : Addr → Value → Option Addr → TS} {b0 : Stmt} {su : List Stmt} {np ps : Pos} {hds : List ExceptHandler} {l : List ClT} (hc : Names X x c) (hi : X.N[i]? = some n) (hl : X.env.kindOf n = some .local)
      (hsu : ∀ (a : Addr) (oe : Obj) (cls : Value) (d : Option Addr) (pn : List (Addr × Obj)), Zc cls d oe → (∃ vs, oe.data = .fields vs) → PSs (X.suite a ((a, oe) :: pn)) (b0 :: su) (ts a cls d)) (r : Cls X hds l) :
      Cls X (.ExceptHandler (some (.Name x np)) (some n) (b0 :: su) ps :: hds) ((c, i, ts) :: l)
theorem ps_tries {X : Cx} {body : List Stmt} {h0 : ExceptHandler} {hds : List ExceptHandler} {l : List ClT} {pos : Pos} {tb : WX → TS} {Wo : WX} (hs : X.stack = X.env :: X.outer) (hf : X.env.frame = some X.env.locals) (hN : X.N.Nodup) (tk : Takes X Wo)
    (hb : ∀ (W : WX) (pn : List (Addr × Obj)) (xe : Value → Shared → Prop), Takes (X.tr pn xe) W → PassesOwn (model X.prog X.w) X.A X.env xe → PSs (X.tr pn xe) body (tb W)) (hh : Cls X (h0 :: hds) l) :
    PS X (.Try body (h0 :: hds) [] [] pos) (fun D σ H => tb (wNs X.K Wo D l) D σ H) := by
  refine ⟨fun pins s σ H D I h => wpAny_Try_except ?_⟩
  have ok := I.ok
  have hfr : X.A.frames = some (X.env :: X.outer) := by rw [ok.frames, hs]
  refine wpAny_mono ((hb (wNs X.K Wo D l) (X.pn ++ pins) (fun e s1 => wpAny (model X.prog X.w) X.A (noteFrame e X.env) (fun _ s2 => wpAny (model X.prog X.w) X.A (setFlight e none) (fun _ s3 =>
    wpAny (model X.prog X.w) X.A (handleBy e X.env (h0 :: hds)) (SP X pins D) X.xe s3) X.xe s2) X.xe s1) (fun u s' xx => ?_) PassesOwn.looking).run [] s σ H D (I.toTry _) h) (fun f s1 hsp => ?_) (fun e s1 he => he)
  · obtain ⟨a, B, sI, pins', σ', H', cls, d, rfl, J', nb, up, sky, na, os, ag, w⟩ := xx
    have J : Inv X pins σ' H' sI := J'.ofTry ok
    have sky2 : Sky B (X.env :: X.outer) a (Zc cls d) X.env.locals s'.heap := hs ▸ sky
    show wpAny (model X.prog X.w) X.A (noteFrame (.ref a) X.env) _ _ _
    refine Sky.land Zc.steady hfr hf sky2 fun h3 fl3 up3 => ?_
    have J3 : Inv X pins σ' H' { s' with heap := h3 } := J.landed nb fl3.1 (up.trans up3) os ag
    obtain ⟨oe3, vs3, he3, hz3, hd3⟩ := fl3.there
    have nfr : a ∉ frs (X.env :: X.outer) := fun hm => by
      obtain ⟨_, o', q1, hnf⟩ := fl3.2.2.1.mem hm
      rw [he3] at q1; cases q1
      exact hnf _ hd3
    have nL : a ≠ X.env.locals := fun z => nfr (List.mem_filterMap.mpr ⟨X.env, List.mem_cons_self, by rw [hf, z]⟩)
    have nF : a ∉ X.fs := fun hm => by
      obtain ⟨e1, he1, q1⟩ := List.mem_filterMap.mp hm
      exact nfr (List.mem_filterMap.mpr ⟨e1, List.mem_cons_of_mem _ he1, q1⟩)
    have S3 := J3.suite he3 hd3 na nL nF
    have each : ∀ {hs2 : List ExceptHandler} {l2 : List ClT}, Cls X hs2 l2 → wNs X.K Wo D l2 cls d σ' H' → wpAny (model X.prog X.w) X.A (handleBy (.ref a) X.env hs2) (SP X pins D) X.xe { s' with heap := h3 } := by
      intro hs2 l2 hk
      induction hk with
      | nil =>
        intro w
        refine wpAny_handleBy_nil ?_
        obtain ⟨z1, z2, z3, oe, vs, T, oT, ts2, ye, yz, yd, y1, yr⟩ := id fl3
        unfold PySem.passOn
        refine wpAny_bind (wpAny_field ye yd y1 ?_)
        rw [if_neg (show ¬ ((Value.ref T == Value.none) = true) from by simp)]
        have rest : wpAny (model X.prog X.w) X.A (setFlight (.ref a) X.env.frame) (fun _ s4 => wpAny (model X.prog X.w) X.A (throw (.ref a) : Sem Flow) (SP X pins D) X.xe s4) X.xe { s' with heap := h3 } := by
          rw [hf]
          refine HandSPX.setFlight_upZ fl3 fun h4 hh4 up4 => wpAny_throw (tk _ _ ?_)
          exact ⟨a, B, sI, pins, σ', H', cls, d, rfl, J, nb, (up.trans up3).trans up4, .inr (.inr (by rw [hs]; exact hh4)), na, os, ag, w⟩
        first
          | exact wpAny_bind (wpAny_pure (wpAny_bind rest))
          | exact wpAny_bind rest
      | @cons x n c i ts b0 su np ps hds2 l3 hc hi hl hsu r ih =>
        intro w
        obtain ⟨b, hb1, hyes, hno⟩ := w
        have Lt : PySem.W.Looks (model X.prog X.w) h3 (typeOf (.ref a)) cls := fun A Q E s k q => wpAny_typeOf_ref (k _ _ he3) (by rw [hz3.1]; exact q)
        have Lm := PySem.W.exm_one (M := model X.prog X.w) (J3.kIn) Lt hb1
        have asks : ∀ {Q : Value → Shared → Prop} {E : Value → Shared → Prop}, Q c { s' with heap := h3 } → wpAny (model X.prog X.w) (X.A.mark (some (.ref a))) (eval (.Name x np) X.env) Q E { s' with heap := h3 } := fun {Q E} q => by
          obtain ⟨hg, hdbg, hm | ⟨hm, hv, hnn⟩⟩ := hc
          · exact ld_glob (X := X.suite a ((a, oe3) :: (X.pn ++ pins))) S3 hg hm q hdbg
          · exact ld_blt (X := X.suite a ((a, oe3) :: (X.pn ++ pins))) S3 hg hm hv q hnn hdbg
        refine wpAny_handleBy_cons (codeAny_handlers_test (asks (Lm.here ?_))) (by intro q; cases q)
        cases b with
        | false =>
          show wpAny _ X.A (handleBy (.ref a) X.env hds2) _ _ _
          exact ih (hno rfl)
        | true =>
          refine codeAny_handlers_suite_as ?_
          refine HandSPX.lands_againZ fl3 fun h4 fl4 up4 => ?_
          have J4 : Inv X pins σ' H' { s' with heap := h4 } := J.landed nb fl4.1 ((up.trans up3).trans up4) os ag
          obtain ⟨oe4, vs4, he4, hz4, hd4⟩ := fl4.there
          have S4 := J4.suite he4 hd4 na nL nF
          refine store_ok (X := X.suite a ((a, oe4) :: (X.pn ++ pins))) (v := .ref a) S4 hN hi (.inl hl) rfl (fun s5 S5 => ?_) (.inr hl)
          refine wpAny_mono ((hsu a oe4 cls d (X.pn ++ pins) hz4 ⟨_, hd4⟩).run [] s5 _ H' _ S5 (hyes rfl a na)) (fun f s6 hsp => ?_) (fun _ _ z => False.elim z)
          have leave : ∀ {σ6 : L2.St} {H6 : Hp} {Q : Shared → Prop}, Inv (X.suite a ((a, oe4) :: (X.pn ++ pins))) [] σ6 H6 s6 → (∀ s7, Inv X pins (σ6.set i none) H6 s7 → Q s7) →
              wpAny (model X.prog X.w) X.A (do bindName X.env n .none; unbindBehindTheSuite X.env n ps) (fun _ s7 => Q s7) X.xe s6 := fun {σ6 H6 Q} S6 hq => gone_ok (S6.unsuite ok) hN hi hl hq
          cases f with
          | next =>
            obtain ⟨σ6, H6, S6, q6⟩ := hsp
            exact leave S6 fun s7 J7 => ⟨_, _, J7, q6⟩
          | brk =>
            obtain ⟨σ6, H6, S6, q6⟩ := hsp
            exact leave S6 fun s7 J7 => ⟨_, _, J7, q6⟩
          | cont =>
            obtain ⟨σ6, H6, S6, q6⟩ := hsp
            exact leave S6 fun s7 J7 => ⟨_, _, J7, q6⟩
          | ret u =>
            obtain ⟨v6, σ6, H6, S6, r6, q6⟩ := hsp
            exact leave S6 fun s7 J7 => ⟨_, _, _, J7, r6, q6⟩
    exact each hh w
  · cases f with
    | ret u =>
      obtain ⟨v, σ', H', J', r, q⟩ := hsp
      exact ⟨v, σ', H', J'.ofTry ok, r, q⟩
    | next =>
      obtain ⟨σ', H', J', q⟩ := hsp
      exact wpAny_execs_nil ⟨σ', H', J'.ofTry ok, q⟩
    | brk =>
      obtain ⟨σ', H', J', q⟩ := hsp
      exact ⟨σ', H', J'.ofTry ok, q⟩
    | cont =>
      obtain ⟨σ', H', J', q⟩ := hsp
      exact ⟨σ', H', J'.ofTry ok, q⟩
end VL


set_option Elab.async false
set_option linter.all false
set_option maxRecDepth 100000
set_option maxHeartbeats 4000000
/-! EX4: what a suite reads of the error that it holds. -/
namespace VL
open PySem PySem.Spec PyProof.Rows L2
variable [TbP]
/-- the module's own errors: name, field, own classes above (itself, too), built-in ones asked for -/
abbrev Ct : Type := List (Str × Str × List Str)
def bases : List String := ["ValueError", "OverflowError"]
/-- what isinstance asks of an error's class -/
structure IsC (K : Frag) (C : Addr) : Prop where
  cl : (PySem.W.clsIn K C).isSome = true
  hc : PySem.W.findIn K (.ref C) "__class__" = some (some (.builtin "object.__class__"))
  hn : PySem.W.specialIn K (.builtin "object.__class__") "__get__" = some (some (.builtin "getset_descriptor.__get__"))
  ht : PySem.W.takesIn K (.builtin "object.__class__") = some true
  hm : PySem.W.mroIn K C (.type "object") = some true
structure ErrS (P : Program) (K : Frag) (mg : Str → Option Value) (CT : Ct) : Prop where
  ok : ∀ p ∈ CT, ∃ C, mg p.1 = some (.ref C) ∧ ErrT P K mg p.1 p.2.1 ∧ XfC K C ∧ PySem.W.findIn K (.ref C) p.2.1 = some none ∧ IsC K C ∧
    (∀ q ∈ CT, ∃ D, mg q.1 = some (.ref D) ∧ PySem.W.exmOne K (.ref C) (.ref D) = some (p.2.2.contains q.1) ∧ PySem.W.kitOne K (.ref C) (.ref D) = some (p.2.2.contains q.1)) ∧
    (∀ T ∈ bases, PySem.W.kitOne K (.ref C) (.type T) = some (p.2.2.contains (Str.ofString T)))
def ctAt (CT : Ct) (x : Xc) : Option (Str × Str × List Str) := CT.find? fun p => decide (p.1 = x.cls) && decide (p.2.1 = x.fld)
theorem ctAt_ok {CT : Ct} {x : Xc} {p : Str × Str × List Str} (h : ctAt CT x = some p) : p ∈ CT ∧ p.1 = x.cls ∧ p.2.1 = x.fld := by
  have h1 := List.find?_some h
  simp only [Bool.and_eq_true, decide_eq_true_eq] at h1
  exact ⟨List.mem_of_find?_eq_some h, h1.1, h1.2⟩
/-- a caught error x: slot i holds it -/
structure Jx (K : Frag) (mg : Str → Option Value) (CT : Ct) (x : Xc) (i : Nat) (a : Addr) (cls : Value) (d : Option Addr) (A : AS) (σ : L2.St) (H : Hp) : Prop where
  sl : σ[i]? = some (some (.ref a))
  ct : ∃ p, ctAt CT x = some p
  ex : ∃ C dd v, mg x.cls = some (.ref C) ∧ cls = .ref C ∧ d = some dd ∧ H dd = some (.xd [(x.fld, v)]) ∧ Rp K A H x.told v
theorem Jx.step {K : Frag} {mg : Str → Option Value} {CT : Ct} {x : Xc} {i : Nat} {a : Addr} {cls : Value} {d : Option Addr} {A A' : AS} {σ : L2.St} {H H' : Hp} {env e' : En} (j : Jx K mg CT x i a cls d A σ H) (rel : Rel K A σ H env) (s : Stp K A σ H env A' σ H' e') : Jx K mg CT x i a cls d A' σ H' := by
  obtain ⟨C, dd, v, h1, h2, h3, h4, h5⟩ := j.ex
  refine ⟨j.sl, j.ct, C, dd, v, h1, h2, h3, s.ext.keepN h4 fun z => ?_, h5.mono s.ext.fr (s.ext.kp rel)⟩
  obtain ⟨k, ⟨d0, hd0⟩, e0⟩ := z
  obtain ⟨b, eb, nb, ob⟩ := rel.ow k d0 hd0
  rw [e0] at eb; cases eb
  cases d0 with
  | list ds => obtain ⟨xs, e, _⟩ := ob; rw [h4] at e; cases e
  | dict kvs =>
    rcases ob with ⟨ks, e, _⟩ | ⟨ks, e, _⟩ <;> (rw [h4] at e; cases e)
  | _ => exact ob.elim
abbrev JT : Type := AS → L2.St → Hp → Prop
def Stb (K : Frag) (J : JT) : Prop := ∀ A A' σ H H' env e', J A σ H → Rel K A σ H env → Stp K A σ H env A' σ H' e' → J A' σ H'
def tEJ (J : JT) (G : Gd) (f : EF) : TE := fun σ H Q => ∃ A env, Rel G.K A σ H env ∧ J A σ H ∧ Post G A σ H env (f env) (EQ G σ H Q)
def tAJ (J : JT) (G : Gd) (f : AF) : TA := fun σ H Q => ∃ A env, Rel G.K A σ H env ∧ J A σ H ∧ Post G A σ H env (f env) fun rs e A' H' => ∀ vs, RvsOk G.K A' σ H' e (fun a => H a = none) rs vs → Q vs H'
def tSJ (J : JT) (G : Gd) (g : SF) : TS := fun Z σ H => ∃ A env, Rel G.K A σ H env ∧ J A σ H ∧ SPost G A σ H env (g env) Z
section
variable {X : Cx} {W : WX} {J : JT} {e : Expr} {es : List Expr} {f fa fb : EF} {g : AF} {fs : AF} {pos : Pos}
theorem j_of (h : PE X e (tE (gd X W) f)) : PE X e (tEJ J (gd X W) f) := PE.imp h fun σ H Q ⟨A, env, rel, _, p⟩ => ⟨A, env, rel, p⟩
theorem ja_nil : PA X [] (tAJ J (gd X W) nilF) := PA.imp (a_nil (W := W)) fun σ H Q ⟨A, env, rel, _, p⟩ => ⟨A, env, rel, p⟩
theorem ja_cons (S : Stb X.K J) (he : PE X e (tEJ J (gd X W) f)) (hr : PA X es (tAJ J (gd X W) g)) (hs : starEach (e :: es) X.env = (false, eval e X.env) :: starEach es X.env := by rfl) : PA X (e :: es) (tAJ J (gd X W) (consF f g)) :=
  PA.imp (pa_cons he hr hs) fun σ H Q h => by
    obtain ⟨A, env, rel, j, h⟩ := h
    refine ⟨A, env, rel, j, (Post.bind h).imp fun r e1 A1 H1 s1 h1 v hv => ?_⟩
    refine ⟨A1, e1, s1.rel, S _ _ _ _ _ _ _ j rel s1, (Post.bind h1).imp fun rs e2 A2 H2 s2 h2 vs hvs => ?_⟩
    refine h2 A2 H2 (.refl s2.rel) (v :: vs) ⟨v, vs, rfl, hv.step s1.rel s2, hvs.weak fun a o ho z => ⟨?_, fun it q => ?_⟩⟩
    · cases q : H a with
      | none => exact q
      | some u => exact absurd z (s1.ext.al a (by rw [q]; simp))
    · subst q
      cases r with
      | tm d =>
        obtain ⟨b, e, _, _, _, ob⟩ := hv
        cases e
        obtain ⟨o', eo, _⟩ := ob.some
        rw [eo] at z; cases z
      | sh d => cases it
      | bo i => cases it
theorem j_tup {x1} (h : PA X es (tAJ J (gd X W) fs)) : PE X (.Tuple es x1 pos) (tEJ J (gd X W) (tupF fs)) := PE.imp (pe_tup h) fun σ H Q h => by
  obtain ⟨A, env, rel, j, h⟩ := h
  refine ⟨A, env, rel, j, Post.cut h fun rs e1 A1 H1 s1 h1 vs hvs => ?_⟩
  cases q : frzAll e1 rs with
  | none => rw [q] at h1; exact h1.elim
  | some p =>
    obtain ⟨ds, e2⟩ := p
    rw [q] at h1
    dsimp only at h1
    obtain ⟨A2, s2, f2, rpl⟩ := frzAll_ok s1 (fun _ z => z) hvs q
    split at h1
    · rename_i c
      refine ⟨by rw [← rpl.length]; exact le_line c, fun p n => ?_⟩
      have st := Stp.same s2.rel (same_upd (o := .tup vs) n)
      exact h1 A2 _ (s2.trans st) (.ref p) (rp_tup n rpl)
    · exact h1.elim
theorem j_lst (h : PA X es (tAJ J (gd X W) fs)) : PE X (.List es pos) (tEJ J (gd X W) (lstF fs)) := PE.imp (pe_lst h) fun σ H Q h => by
  obtain ⟨A, env, rel, j, h⟩ := h
  refine ⟨A, env, rel, j, Post.cut h fun rs e1 A1 H1 s1 h1 vs hvs => ?_⟩
  cases q : frzAll e1 rs with
  | none => rw [q] at h1; exact h1.elim
  | some p =>
    obtain ⟨ds, e2⟩ := p
    rw [q] at h1
    dsimp only at h1
    obtain ⟨A2, s2, f2, rpl⟩ := frzAll_ok s1 (fun _ z => z) hvs q
    split at h1
    · rename_i c
      refine ⟨by rw [← rpl.length]; exact le_line c, fun p n => ?_⟩
      have st := Stp.same s2.rel (same_upd (o := .lst vs) n)
      exact h1 A2 _ (s2.trans st) (.ref p) ((rz_lst n rpl).rv s2)
    · exact h1.elim
theorem s_retJ (he : PE X e (tEJ J (gd X W) f)) : PS X (.Return (some e) pos) (tSJ J (gd X W) (retF f)) := PS.imp (ps_ret he) fun Z σ H h => by
  obtain ⟨A, env, rel, j, h⟩ := h
  exact ⟨A, env, rel, j, SPost.cut h fun r e1 A1 H1 s1 h1 v hv => h1 A1 σ H1 v s1 hv⟩
theorem s_setJ {fe : EF} {x : Str} {pos' : Pos} (i : Nat) (hN : X.N.Nodup) (he : PE X e (tEJ J (gd X W) fe)) (hi : X.N[i]? = some x := by rfl) (hx : Loc X.env.scope x := by first | exact Or.inl rfl | exact Or.inr rfl)
    (hs : swapsWith e (some (.Name x pos')) pos.line X.env = pure false := by rfl) (hf : X.fn x = true ∨ X.env.scope.names.lookup x = some .local := by first | exact .inl rfl | exact .inr rfl | assumption) :
    PS X (.Assign [.Name x pos'] e pos) (tSJ J (gd X W) (setF i fe)) := PS.imp (ps_set hN hi hx he hs hf) fun Z σ H h => by
  obtain ⟨A, env, rel, j, h⟩ := h
  exact ⟨A, env, rel, j, SPost.cut h fun r e1 A1 H1 s1 h1 v hv => asg_ok s1 hv h1⟩
theorem cbJ_sound {G : Gd} {r : RC} {g : GC} {fs : AF} (ha : CbA G.K r g) {σ : L2.St} {H : Hp} {Q : VK} (h : tEJ J G (cbF g fs) σ H Q) : tCB r (tAJ J G fs) σ H Q := by
  obtain ⟨A, env, rel, j, h⟩ := h
  refine ⟨A, env, rel, j, Post.cut h fun rs e1 A1 H1 s1 h1 vs hvs => ?_⟩
  cases q1 : rdAll e1 rs with
  | none => rw [q1] at h1; exact h1.elim
  | some ds =>
    rw [q1] at h1
    dsimp only at h1
    unfold out1 at h1
    cases q3 : g ds with
    | none => rw [q3] at h1; exact h1.elim
    | some z =>
      rw [q3] at h1
      exact ha A1 H1 ds vs z Q s1.rel.dom q3 (hvs.rq s1.rel q1) fun v' H' sm hz => h1 A1 H' (s1.trans (Stp.same s1.rel sm)) v' (hz.rv s1)
theorem j_bi {x : Str} {p : Pos} {gc : GC} (b : BI X x gc) (hm : X.mg x = none) (ha : PA X (e :: es) (tAJ J (gd X W) fs)) (hg : Gl X x := by rfl)
    (he : starEach (e :: es) X.env = (false, eval e X.env) :: starEach es X.env := by rfl) (hpl : (backTo pos (starEach es X.env)).any (·.1) = false := by rfl) : PE X (.Call (.Name x p) (e :: es) [] pos) (tEJ J (gd X W) (cbF gc fs)) := by
  obtain ⟨⟨f, r, h1, h2, h3, h4⟩, nn, nd⟩ := b
  rcases h4 with ⟨id, rfl⟩ | ⟨T, rfl⟩
  · exact PE.imp (pe_callB h1 hg hm h3 ha nn nd he hpl) fun _ _ _ h => cbJ_sound (G := gd X W) h2 h
  · exact PE.imp (pe_callTy h1 hg hm h3 ha nn nd he hpl) fun _ _ _ h => cbJ_sound (G := gd X W) h2 h
theorem PSs.any {α : Type} {X : Cx} {b : List Stmt} {t : α → TS} (h : ∀ x, PSs X b (t x)) : PSs X b (fun D σ H => ∃ x, t x D σ H) := ⟨fun pins s σ H D I ⟨x, q⟩ => (h x).run pins s σ H D I q⟩
end

def toldF (fl : Str) (x : Xc) : EF := if x.fld = fl then cF x.told else noE
/-- isinstance(e, y), y an own error's name -/
def isxF (CT : Ct) (y : Str) (x : Xc) : EF := match ctAt CT x with
  | some p => if CT.any (fun q => decide (q.1 = y)) then cF (.bool (p.2.2.contains y)) else noE
  | none => noE
/-- .. a built-in one's -/
def isbF (CT : Ct) (T : String) (x : Xc) : EF := match ctAt CT x with
  | some p => if T ∈ bases then cF (.bool (p.2.2.contains (Str.ofString T))) else noE
  | none => noE
section
variable {X : Cx} {W : WX} {CT : Ct} {x : Xc} {i : Nat} {a : Addr} {oe : Obj} {cls : Value} {d : Option Addr} {pn : List (Addr × Obj)} {n fl : Str} {p np pos : Pos}
theorem Jx.stb : Stb X.K (Jx X.K X.mg CT x i a cls d) := fun A A' σ H H' env e' j rel s => j.step rel s
theorem j_told (S : ErrS X.prog X.K X.mg CT) (hz : Zc cls d oe) (hf : ∃ vs, oe.data = .fields vs) (hN : X.N[i]? = some n := by rfl) (hv : Vis X.env.scope n := by first | exact Or.inl rfl | exact Or.inr (Or.inl rfl) | exact Or.inr (Or.inr rfl)) (hd : (n == ("__debug__" : Str)) = false := by decide)
    (hcd : (n == ("__classdict__" : Str)) = false := by decide) (hb : attributeBase (.Name n np) fl X.env (eval (.Name n np) X.env) = eval (.Name n np) X.env := by rfl) : PE (X.suite a ((a, oe) :: pn)) (.Attribute (.Name n np) fl pos) (tEJ (Jx X.K X.mg CT x i a cls d) (gd X W) (toldF fl x)) := by
  refine ⟨fun pins s σ H Q I h => ?_⟩
  obtain ⟨A, env, rel, j, h⟩ := h
  obtain ⟨q, hq⟩ := j.ct
  obtain ⟨m1, m2, m3⟩ := ctAt_ok hq
  obtain ⟨C, dd, v, h1, h2, h3, h4, h5⟩ := j.ex
  obtain ⟨C', k1, k2, k3, k4, k5, _⟩ := S.ok q m1
  rw [m2, h1] at k1; cases k1
  by_cases e : x.fld = fl
  · subst e
    have h : Post (gd X W) A σ H env (.ok (.sh x.told) env) (EQ (gd X W) σ H Q) := by
      unfold toldF at h
      rw [if_pos rfl] at h
      exact h
    rw [m3] at k4
    refine (pe_xf (X := X) (pn := pn) k3 k4 hz hf (pe_var (X := X.suite a ((a, oe) :: pn)) hN hv hd hcd) hb).run pins s σ H Q I ⟨.ref a, j.sl, rfl, h2, dd, _, v, h3, h4, by simp [List.lookup], ?_⟩
    exact h A H (.refl rel) v h5
  · unfold toldF at h
    rw [if_neg e] at h
    exact h.elim
/-- isinstance(e, c), e the error that the suite holds, with its dict -/
def rIsX (K : Frag) (a : Addr) (cls : Value) (d : Option Addr) : List V → Hp → VK → Prop := fun xs H Q => ∃ (c : V) (cv : Value) (b : Bool) (dd : Addr) (fs : List (Str × V)), xs = [.ref a, c] ∧ (∀ u, RelV c u → u = cv) ∧ PySem.W.kitOne K cls cv = some b ∧ d = some dd ∧ H dd = some (.xd fs) ∧ Q (.bl b) H
theorem call_isX {C : Addr} (T : XfC X.K C) (Is : IsC X.K C) (hz : Zc (.ref C) d oe) (hf : ∃ vs, oe.data = .fields vs) : CallR (X.suite a ((a, oe) :: pn)) (.builtin "isinstance") (rIsX X.K a (.ref C) d) := by
  intro pins s σ H xs us Q I r h
  obtain ⟨c, cv, b, dd, fs, rfl, hcv, e, hd, hx, q⟩ := h
  cases r with
  | cons rx rr =>
    cases rr with
    | cons rt rr =>
      cases rr
      cases rx
      have ec := hcv _ rt
      subst ec
      obtain ⟨hget, _⟩ := I.pin (a, oe) (List.mem_append.mpr (.inl List.mem_cons_self))
      obtain ⟨vs, hv⟩ := hf
      have ho : ObjOk X.prog X.w H s.heap dd (.xd fs) := I.hok dd _ hx
      obtain ⟨mA, hns, hr⟩ := ho
      obtain ⟨od, hod, hl⟩ := lookIn_ns hns
      have J : PySem.W.InstAt s.heap a oe C (some od) := ⟨hget, hz.1, by unfold PySem.W.notCls; rw [hv] <;> rfl, by rw [hz.2, hd]; exact hod⟩
      exact PySem.W.kia_one (PySem.W.kitx_exc Is.cl T.ga T.gg T.exC Is.hc Is.hn Is.ht Is.hm) I.kIn J e (fun z => nomatch z) fun tk => ⟨.bl b, H, I.kept (t' := tk) fun _ _ z => z, rfl, q⟩
theorem j_is {y : Str} {yp : Pos} (S : ErrS X.prog X.K X.mg CT) (hz : Zc cls d oe) (hf : ∃ vs, oe.data = .fields vs) (hi : X.mg "isinstance" = none) (hg : Gl X "isinstance" := by rfl) (hgy : Gl X y := by rfl) (hdy : (y == ("__debug__" : Str)) = false := by decide)
    (hN : X.N[i]? = some n := by rfl) (hv : Vis X.env.scope n := by first | exact Or.inl rfl | exact Or.inr (Or.inl rfl) | exact Or.inr (Or.inr rfl)) (hd : (n == ("__debug__" : Str)) = false := by decide) (hcd : (n == ("__classdict__" : Str)) = false := by decide)
    (hs : starEach [.Name n np, .Name y yp] X.env = (false, eval (.Name n np) X.env) :: starEach [.Name y yp] X.env := by rfl) (hs2 : starEach [.Name y yp] X.env = (false, eval (.Name y yp) X.env) :: starEach [] X.env := by rfl)
    (hpl : (backTo pos (starEach [.Name y yp] X.env)).any (·.1) = false := by rfl) : PE (X.suite a ((a, oe) :: pn)) (.Call (.Name "isinstance" p) [.Name n np, .Name y yp] [] pos) (tEJ (Jx X.K X.mg CT x i a cls d) (gd X W) (isxF CT y x)) := by
  refine ⟨fun pins s σ H Q I h => ?_⟩
  obtain ⟨A, env, rel, j, h⟩ := h
  obtain ⟨q, hq⟩ := j.ct
  obtain ⟨m1, m2, m3⟩ := ctAt_ok hq
  obtain ⟨C, dd, v, h1, h2, h3, h4, h5⟩ := j.ex
  obtain ⟨C', k1, k2, k3, k4, k5, k6, _⟩ := S.ok q m1
  rw [m2, h1] at k1; cases k1
  subst h2
  unfold isxF at h
  rw [hq] at h
  dsimp only at h
  split at h
  · rename_i c
    obtain ⟨r, hr, e⟩ := List.any_eq_true.mp c
    have e := of_decide_eq_true e
    obtain ⟨D, n1, n2, n3⟩ := k6 r hr
    rw [e] at n1 n3
    have Y : PE (X.suite a ((a, oe) :: pn)) (.Name y yp) (tC (.ref D)) := pe_glob (X := X.suite a ((a, oe) :: pn)) (v := .ref D) hgy n1 rfl hdy
    refine (pe_callB (X := X.suite a ((a, oe) :: pn)) (call_isX k3 k5 hz hf) hg hi boot_isinstance' (pa_cons (pe_var (X := X.suite a ((a, oe) :: pn)) hN hv hd hcd) (pa_cons Y pa_nil hs2) hs) (by decide) (by decide) hs hpl).run pins s σ H Q I ?_
    exact ⟨.ref a, j.sl, .ref D, .ref D, _, dd, _, rfl, fun u hu => hu, n3, h3, h4, h A H (.refl rel) (.bl _) (rp_bl (K := X.K) (A := A) (H := H))⟩
  · exact h.elim
theorem j_isB {T : String} {y : Str} {yp : Pos} (S : ErrS X.prog X.K X.mg CT) (hz : Zc cls d oe) (hf : ∃ vs, oe.data = .fields vs) (hi : X.mg "isinstance" = none) (hm : X.mg y = none) (hb : bootBuiltins y = some (.type T)) (hg : Gl X "isinstance" := by rfl) (hgy : Gl X y := by rfl) (hny : y ≠ "__name__" := by decide) (hdy : (y == ("__debug__" : Str)) = false := by decide)
    (hN : X.N[i]? = some n := by rfl) (hv : Vis X.env.scope n := by first | exact Or.inl rfl | exact Or.inr (Or.inl rfl) | exact Or.inr (Or.inr rfl)) (hd : (n == ("__debug__" : Str)) = false := by decide) (hcd : (n == ("__classdict__" : Str)) = false := by decide)
    (hs : starEach [.Name n np, .Name y yp] X.env = (false, eval (.Name n np) X.env) :: starEach [.Name y yp] X.env := by rfl) (hs2 : starEach [.Name y yp] X.env = (false, eval (.Name y yp) X.env) :: starEach [] X.env := by rfl)
    (hpl : (backTo pos (starEach [.Name y yp] X.env)).any (·.1) = false := by rfl) : PE (X.suite a ((a, oe) :: pn)) (.Call (.Name "isinstance" p) [.Name n np, .Name y yp] [] pos) (tEJ (Jx X.K X.mg CT x i a cls d) (gd X W) (isbF CT T x)) := by
  refine ⟨fun pins s σ H Q I h => ?_⟩
  obtain ⟨A, env, rel, j, h⟩ := h
  obtain ⟨q, hq⟩ := j.ct
  obtain ⟨m1, m2, m3⟩ := ctAt_ok hq
  obtain ⟨C, dd, v, h1, h2, h3, h4, h5⟩ := j.ex
  obtain ⟨C', k1, k2, k3, k4, k5, _, k7⟩ := S.ok q m1
  rw [m2, h1] at k1; cases k1
  subst h2
  unfold isbF at h
  rw [hq] at h
  dsimp only at h
  split at h
  · rename_i c
    have n3 := k7 T c
    have Y : PE (X.suite a ((a, oe) :: pn)) (.Name y yp) (tC (.ty T)) := pe_bltn (X := X.suite a ((a, oe) :: pn)) (v := .ty T) hgy hm hb rfl hny hdy
    refine (pe_callB (X := X.suite a ((a, oe) :: pn)) (call_isX k3 k5 hz hf) hg hi boot_isinstance' (pa_cons (pe_var (X := X.suite a ((a, oe) :: pn)) hN hv hd hcd) (pa_cons Y pa_nil hs2) hs) (by decide) (by decide) hs hpl).run pins s σ H Q I ?_
    exact ⟨.ref a, j.sl, .ty T, .type T, _, dd, _, rfl, fun u hu => hu, n3, h3, h4, h A H (.refl rel) (.bl _) (rp_bl (K := X.K) (A := A) (H := H))⟩
  · exact h.elim
end
/-! ### rules that ask of the surroundings their units alone -/
theorem call_reprU {X : Cx} (hu : X.A.units + 64 < cLine) (hgd : X.A.guards = some []) : CallR X (.builtin "repr") (rRepr X.K) := by
  intro pins s σ H xs us Q I r h
  obtain ⟨x, d, rfl, hd, hc, hs, hz, hl, q⟩ := h
  obtain ⟨u, rfl, rx⟩ := vals1 r
  obtain ⟨as, rd⟩ := Dp.reads I d x u hd rx
  cases hd with
  | non => cases rx; exact PySem.P.repr_of_none ⟨.str _, H, I.tok _, ⟨_, rfl⟩, q⟩
  | bl b => cases rx; exact PySem.P.repr_of_bool ⟨.str _, H, I.tok _, ⟨_, rfl⟩, q⟩
  | int i =>
    obtain ⟨t, rfl⟩ := rx
    simp only [PyData.showable, decide_eq_true_eq] at hs
    exact PySem.P.repr_of_int hs ⟨.str _, H, I.tok _, ⟨_, rfl⟩, q⟩
  | str y => obtain ⟨t, rfl⟩ := rx; exact PySem.P.repr_of_str ⟨.str _, H, I.tok _, ⟨_, rfl⟩, q⟩ hl
  | lst a b => cases rx; exact repr_of_reads' rd hs (fun z => (repr_noDict hc z).elim) hgd (by omega) (fun _ _ e => e) (fun h' u tk k => ⟨.str _, H, I.kept k, ⟨u, rfl⟩, q⟩) hl
  | tup a b => cases rx; exact repr_of_reads' rd hs (fun z => (repr_noDict hc z).elim) hgd (by omega) (fun _ _ e => e) (fun h' u tk k => ⟨.str _, H, I.kept k, ⟨u, rfl⟩, q⟩) hl
theorem b_reprU {X : Cx} (hu : X.A.units + 64 < cLine) (hgd : X.A.guards = some []) : BI X "repr" reprC := ⟨⟨_, _, call_reprU hu hgd, repr_A, boot_repr', .inl ⟨_, rfl⟩⟩, by decide, by decide⟩
theorem c_eqU {X : Cx} (hu : X.A.units + 64 < cLine) : CmpR X .Eq eqG := ⟨_, op_eqD hu, eq_A⟩
theorem boot_ValueError' : bootBuiltins "ValueError" = some (.type "ValueError") := by decide +kernel
theorem boot_OverflowError' : bootBuiltins "OverflowError" = some (.type "OverflowError") := by decide +kernel
end VL




set_option Elab.async false
set_option linter.all false
set_option maxRecDepth 100000
set_option maxHeartbeats 4000000
/-! EX5: try, by meanings. -/
namespace VL
open PySem PySem.Spec PyProof.Rows L2
variable [TbP]
abbrev WN : WX := fun _ _ _ _ => False
def exMt (CT : Ct) (x : Xc) (c : Str) : Option Bool := match ctAt CT x with
  | some p => if CT.any (fun q => decide (q.1 = c)) then some (p.2.2.contains c) else none
  | none => none
def isUn : Option Sl → Bool
  | some .un => true
  | _ => false
def hdl (CT : Ct) (i : Nat) : List (Str × (Xc → SF)) → Xc → En → Rb
  | [], x, e => .ex x e
  | q :: r, x, e => match exMt CT x q.1 with
    | some true => if isUn e[i]? = true then (match q.2 x e with
      | .rt v e2 => .rt v e2
      | .nx e2 => if isUn e2[i]? = true then .nx e2 else .no
      | _ => .no) else .no
    | some false => hdl CT i r x e
    | none => .no
def tryF (CT : Ct) (i : Nat) (f : SF) (cs : List (Str × (Xc → SF))) : SF := fun env => match f env with
  | .ex x e => hdl CT i cs x e
  | r => r
section
variable {K : Frag} {A A1 : AS} {σ σ1 : L2.St} {H H1 : Hp} {env e1 : En} {i : Nat} {w : Option V}
theorem Stp.slot (s : Stp K A σ H env A1 σ1 H1 e1) (u : e1[i]? = some .un) : Stp K A σ H env A1 (σ1.set i w) H1 e1 := by
  have ne : ∀ {j : Nat} {t : Sl}, e1[j]? = some t → t ≠ .un → (σ1.set i w)[j]? = σ1[j]? := fun {j t} h n => by
    have : i ≠ j := fun z => by subst z; rw [u] at h; cases h; exact n rfl
    exact List.getElem?_set_ne this
  have own : ∀ {j : Nat} {d : D}, isOwn e1 j d → (σ1.set i w)[j]? = σ1[j]? := fun {j d} h => by
    rcases h with h | h
    · exact ne h (fun z => by cases z)
    · exact ne h (fun z => by cases z)
  have owi : ∀ {j : Nat} {a : Addr}, Owi (σ1.set i w) e1 j a → Owi σ1 e1 j a := fun {j a} ⟨⟨d, h⟩, e⟩ => ⟨⟨d, h⟩, by rw [← own h]; exact e⟩
  refine ⟨s.ext, ⟨by simpa using s.rel.len, fun j d h => ?_, fun j d h => ?_, fun j k a h1 h2 => s.rel.ap j k a (owi h1) (owi h2), s.rel.dom, fun j d h => ?_, s.rel.tb⟩, fun a ⟨j, h⟩ => s.sub a ⟨j, owi h⟩, fun j d h => ?_, s.rdb⟩
  · have e : (σ1.set i w)[j]? = σ1[j]? := by
      rcases h with h | h
      · exact ne h (fun z => by cases z)
      · exact ne h (fun z => by cases z)
    rw [e]; exact s.rel.sh j d h
  · rw [own h]; exact s.rel.ow j d h
  · rw [ne h (fun z => by cases z)]; exact s.rel.fz j d h
  · obtain ⟨q, d', z⟩ := s.io j d h
    refine ⟨?_, d', z⟩
    have e : (σ1.set i w)[j]? = σ1[j]? := by
      rcases z with z | z
      · exact ne z (fun z => by cases z)
      · exact ne z (fun z => by cases z)
    rw [e]; exact q
end
inductive ClV (X : Cx) (CT : Ct) (i : Nat) : List ExceptHandler → List (Str × (Xc → SF)) → Prop
  | nil : ClV X CT i [] []
  | cons {c n : Str} {s : Xc → SF} {b0 : Stmt} {su : List Stmt} {np ps : Pos} {hds : List ExceptHandler} {cs : List (Str × (Xc → SF))} (hg : Gl X c) (hd : (c == ("__debug__" : Str)) = false) (hi : X.N[i]? = some n) (hl : X.env.kindOf n = some .local)
      (hsu : ∀ (x : Xc) (a : Addr) (oe : Obj) (cls : Value) (d : Option Addr) (pn : List (Addr × Obj)), Zc cls d oe → (∃ vs, oe.data = .fields vs) → PSs (X.suite a ((a, oe) :: pn)) (b0 :: su) (tSJ (Jx X.K X.mg CT x i a cls d) (gd X WN) (s x))) (hc : CT.any (fun q => decide (q.1 = c)) = true) (r : ClV X CT i hds cs) :
      ClV X CT i (.ExceptHandler (some (.Name c np)) (some n) (b0 :: su) ps :: hds) ((c, s) :: cs)
theorem ClV.cls {X : Cx} {CT : Ct} {i : Nat} (S : ErrS X.prog X.K X.mg CT) : ∀ {hds : List ExceptHandler} {cs : List (Str × (Xc → SF))}, ClV X CT i hds cs → ∃ l, Cls X hds l ∧
    ∀ (Wo : WX) (D : Ends) (A0 A : AS) (σ0 σ : L2.St) (H0 H : Hp) (env0 e : En) (x : Xc) (cls : Value) (d : Option Addr), Stp X.K A0 σ0 H0 env0 A σ H e → XOk ⟨X.K, X.mg, Wo⟩ A H x cls d → SPost ⟨X.K, X.mg, Wo⟩ A0 σ0 H0 env0 (hdl CT i cs x e) D → wNs X.K Wo D l cls d σ H := by
  intro hds cs h
  induction h with
  | nil => exact ⟨[], .nil, fun Wo D A0 A σ0 σ H0 H env0 e x cls d st xo h => h A σ H cls d st xo⟩
  | @cons c n s b0 su np ps hds cs hg hd hi hl hsu hc r ih =>
    obtain ⟨l, cl, k⟩ := ih
    obtain ⟨q, hq, e⟩ := List.any_eq_true.mp hc
    have e := of_decide_eq_true e
    obtain ⟨D0, hD0, _⟩ := S.ok q hq
    rw [e] at hD0
    refine ⟨(.ref D0, i, fun a cls d Z σ H => ∃ x, tSJ (Jx X.K X.mg CT x i a cls d) (gd X WN) (s x) Z σ H) :: l, .cons ⟨hg, hd, .inl hD0⟩ hi hl (fun a oe cls d pn hz hf => PSs.any fun x => hsu x a oe cls d pn hz hf) cl, fun Wo D A0 A σ0 σ H0 H env0 e' x cls d st xo h => ?_⟩
    unfold hdl at h
    cases q1 : exMt CT x c with
    | none => rw [q1] at h; exact h.elim
    | some b =>
      rw [q1] at h
      have q2 := q1
      unfold exMt at q2
      cases q3 : ctAt CT x with
      | none => rw [q3] at q2; cases q2
      | some p =>
        rw [q3] at q2
        dsimp only at q2
        rw [if_pos hc] at q2
        obtain ⟨m1, m2, m3⟩ := ctAt_ok q3
        obtain ⟨C, hC, _, _, _, _, hall, _⟩ := S.ok p m1
        obtain ⟨D1, hD1, hex, _⟩ := hall q hq
        rw [e] at hD1 hex
        rw [hD0] at hD1; cases hD1
        obtain ⟨C1, dd, v, h1, h2, h3, h4, h5⟩ := id xo
        rw [m2] at hC
        have h1' : X.mg x.cls = some (.ref C1) := h1
        rw [hC] at h1'; cases h1'
        refine ⟨b, by rw [h2, hex]; exact q2, fun hb a na => ?_, fun hb => ?_⟩
        · subst hb
          dsimp only at h
          by_cases c1 : isUn e'[i]? = true
          · rw [if_pos c1] at h
            have un : e'[i]? = some .un := by
              cases z : e'[i]? with
              | none => rw [z] at c1; cases c1
              | some t => rw [z] at c1; cases t <;> first | rfl | cases c1
            have st2 : Stp X.K A0 σ0 H0 env0 A (σ.set i (some (.ref a))) H e' := st.slot un
            have li : i < σ.length := by
              rw [st.rel.len]
              exact (List.getElem?_eq_some_iff.mp un).1
            refine ⟨x, A, e', st2.rel, ⟨by rw [List.getElem?_set_self li], ⟨p, q3⟩, C, dd, v, hC, h2, h3, h4, h5⟩, ?_⟩
            cases q4 : s x e' with
            | rt rv e2 =>
              rw [q4] at h
              intro A' σ' H' v' s' hv
              refine h A' σ' H' v' (st2.trans s') (hv.weak fun b o ho z => ?_)
              cases q5 : H0 b with
              | none => rfl
              | some u => exact absurd z (st2.ext.al b (by rw [q5]; simp))
            | nx e2 =>
              rw [q4] at h
              dsimp only at h
              by_cases c2 : isUn e2[i]? = true
              · rw [if_pos c2] at h
                have un2 : e2[i]? = some .un := by
                  cases z : e2[i]? with
                  | none => rw [z] at c2; cases c2
                  | some t => rw [z] at c2; cases t <;> first | rfl | cases c2
                intro A' σ' H' s'
                exact h A' _ H' ((st2.trans s').slot un2)
              · rw [if_neg c2] at h; exact h.elim
            | bk e2 => rw [q4] at h; exact h.elim
            | ct e2 => rw [q4] at h; exact h.elim
            | ex x2 e2 => rw [q4] at h; exact h.elim
            | no => rw [q4] at h; exact h.elim
          · rw [if_neg c1] at h; exact h.elim
        · subst hb
          exact k Wo D A0 A σ0 σ H0 H env0 e' x cls d st xo h
theorem s_try {X : Cx} {W : WX} {CT : Ct} {i : Nat} {fb : SF} {body : List Stmt} {h0 : ExceptHandler} {hds : List ExceptHandler} {cs : List (Str × (Xc → SF))} {pos : Pos} (S : ErrS X.prog X.K X.mg CT) (hs : X.stack = X.env :: X.outer) (hf : X.env.frame = some X.env.locals) (hN : X.N.Nodup) (tk : Takes X W)
    (hb : ∀ (W' : WX) (pn : List (Addr × Obj)) (xe : Value → Shared → Prop), Takes (X.tr pn xe) W' → PassesOwn (model X.prog X.w) X.A X.env xe → PSs (X.tr pn xe) body (tS (gd (X.tr pn xe) W') fb)) (hh : ClV X CT i (h0 :: hds) cs) :
    PS X (.Try body (h0 :: hds) [] [] pos) (tS (gd X W) (tryF CT i fb cs)) := by
  obtain ⟨l, cl, k⟩ := hh.cls S
  refine PS.imp (ps_tries hs hf hN tk (tb := fun W' => tS ⟨X.K, X.mg, W'⟩ fb) hb cl) fun Z σ H h => ?_
  obtain ⟨A, env, rel, h⟩ := h
  refine ⟨A, env, rel, ?_⟩
  unfold tryF at h
  cases q : fb env with
  | ex x e =>
    rw [q] at h
    exact fun A' σ' H' c d st xo => k W Z A A' σ σ' H H' env e x c d st xo h
  | nx e => rw [q] at h; exact h
  | bk e => rw [q] at h; exact h
  | ct e => rw [q] at h; exact h
  | rt r e => rw [q] at h; exact h
  | no => rw [q] at h; exact h
end VL




set_option Elab.async false
set_option linter.all false
set_option maxRecDepth 100000
set_option maxHeartbeats 4000000
/-! EX6: the head's facts about own errors; a Hook that tells them. -/
namespace VL
open PySem PySem.Spec PyProof.Rows L2 HDK
variable [TbP]
/-- which built-in error a base is -/
structure Bs where
  B : String
  nw : String
  ini : String
  tl : List Value
def bVE : Bs := ⟨"ValueError", "ValueError.__new__", "ValueError.__init__", veT⟩
def bOE : Bs := ⟨"OverflowError", "OverflowError.__new__", "OverflowError.__init__", oeT⟩
/-- one own error: its name, field, classes above, built-in base, its __init__ -/
structure Er where
  c : Str
  fl : Str
  up : List Str
  ve : Bool
  qual : Str
  params : Arguments
  body : List Stmt
  scope : Scope
def Er.bs (r : Er) : Bs := if r.ve then bVE else bOE
def Er.ct (r : Er) : Str × Str × List Str := (r.c, r.fl, r.up)
def ctOf (l : List Er) : Ct := l.map Er.ct
abbrev InV : Type := Option (Str × Str × Arguments × FuncBody × Scope × Addr × Addr)
def inF (K : Frag) (c : Str) : Addr := He.ma K (He.ga K c) "__init__"
def inObs (K : Frag) (c : Str) : InV := match K.lookup (inF K c) with
  | some ⟨_, _, .func fd, _⟩ => some (fd.name, fd.qualname, fd.params, fd.body, fd.scope, fd.globals, fd.builtins)
  | _ => none
def Er.val (r : Er) : InV := some ("__init__", r.qual, r.params, .stmts r.body, r.scope, mainGlobals, builtinsNs)
/-- the class that the cell of __init__ holds -/
def cellD (K : Frag) (cc : Addr) : Addr := match K.lookup cc with
  | some ⟨_, _, .cell (some (.ref D)), _⟩ => D
  | _ => 0
def inD (K : Frag) (c : Str) : Addr := match K.lookup (inF K c) with
  | some ⟨_, _, .func fd, _⟩ => (match fd.closure with
    | [(_, cc)] => cellD K cc
    | _ => 0)
  | _ => 0
def fileB (P : Program) (K : Frag) (cda : Addr) : Bool := match K.lookup cda with
  | some ⟨_, _, .fields vs, _⟩ => (match (vs[2]? : Option Value) with
    | some (Value.str f _) => decide (f = P.main.file)
    | _ => false)
  | _ => false
def cellB (K : Frag) (cc D : Addr) : Bool := match K.lookup cc with
  | some ⟨_, _, .cell (some (.ref D')), _⟩ => decide (D' = D)
  | _ => false
def noneB : Value → Bool
  | .none => true
  | _ => false
def initB (P : Program) (K : Frag) (c : Str) : Bool := match K.lookup (inF K c) with
  | some ⟨_, _, .func fd, _⟩ => noneB fd.defaults && ((match fd.closure with
      | [(y, cc)] => decide (y = "__class__") && cellB K cc (inD K c)
      | _ => false) && ((match fd.code with
      | .ref cda => PySem.W.codeIn K (.ref cda) fd.qualname && fileB P K cda
      | _ => false) && ((PySem.W.clsIn K (inD K c)).isSome && He.eqO (PySem.W.nsIn K cStatics "thirdparty.any") (some none))))
  | _ => false
def xccB (K : Frag) (r : Er) : Bool :=
  let C := He.ga K r.c
  let f := inF K r.c
  PySem.W.excInitIn K C r.bs.tl r.bs.nw && (PySem.W.excOver K C r.bs.tl && (PySem.W.hasDictIn K C && (He.eqO (PySem.W.findIn K (.ref C) "__init__") (some (some (.ref f))) && (decide (PySem.W.typeIn K (.ref f) = some (.type "function")) &&
    (He.eqO (PySem.W.findIn K (.ref C) "__setattr__") (some (some (.builtin "object.__setattr__"))) && (He.eqO (PySem.W.findIn K (.ref C) r.fl) (some none) && (decide (PySem.W.mroIn K C (.ref (inD K r.c)) = some true) &&
    (He.eqO (PySem.W.ks_superIn K C (inD K r.c) "__init__") (some (some (.builtin r.bs.ini))) && (decide (PySem.W.subIn K (.ref C) (.type r.bs.B) = some true) && (decide (PySem.W.subIn K (.ref C) (.type "BaseException") = some true) &&
    (decide (PySem.W.typeIn K (.ref C) = some (.type "type")) && PySem.W.keepIn K (.ref C))))))))))))
def iscB (K : Frag) (C : Addr) : Bool := (PySem.W.clsIn K C).isSome && (He.eqO (PySem.W.findIn K (.ref C) "__class__") (some (some (.builtin "object.__class__"))) &&
  (He.eqO (PySem.W.specialIn K (.builtin "object.__class__") "__get__") (some (some (.builtin "getset_descriptor.__get__"))) && (decide (PySem.W.takesIn K (.builtin "object.__class__") = some true) && decide (PySem.W.mroIn K C (.type "object") = some true))))
def pairB (K : Frag) (r q : Er) : Bool := decide (PySem.W.exmOne K (.ref (He.ga K r.c)) (.ref (He.ga K q.c)) = some (r.up.contains q.c)) && decide (PySem.W.kitOne K (.ref (He.ga K r.c)) (.ref (He.ga K q.c)) = some (r.up.contains q.c))
def errB (P : Program) (K : Frag) (l : List Er) (r : Er) : Bool := (He.Fa.glo r.c).ok K && (initB P K r.c && (xccB K r && (xfB K (He.ga K r.c) && (iscB K (He.ga K r.c) && (l.all (pairB K r) &&
  bases.all fun T => decide (PySem.W.kitOne K (.ref (He.ga K r.c)) (.type T) = some (r.up.contains (Str.ofString T))))))))
/-- what the text says of one of them -/
structure ErOk (P : Program) (r : Er) : Prop where
  ex : ∃ (x : Str) (p0 p1 p2 p3 p4 p5 p6 p7 p8 p9 : Pos), r.body = [.Expr (.Call (.Attribute (.Call (.Name "super" p0) [] [] p1) "__init__" p2) [.Name x p3] [] p4) p5, .Assign [.Attribute (.Name "self" p6) r.fl p7] (.Name x p8) p9] ∧
    (∀ env : Env, ∃ pl : Sem Bool, eval (.Call (.Attribute (.Call (.Name "super" p0) [] [] p1) "__init__" p2) [.Name x p3] [] p4) env = (do
      let ov ← attributeBase (.Call (.Name "super" p0) [] [] p1) "__init__" env (eval (.Call (.Name "super" p0) [] [] p1) env)
      standAt p2.atName
      let (f, first) ← holding [ov] (getMethod ov "__init__" pl)
      callWith p4 f first (backTo p4 (starEach [.Name x p3] env)) [])) ∧
    r.scope.isCoroutine = false ∧ r.scope.isGenerator = false ∧ r.scope.kind = .function ∧ (∀ y ∈ r.scope.names, y.2 ≠ .cell) ∧ r.scope.names.lookup ("super" : Str) = some .globalImplicit ∧ r.scope.names.lookup ("__class__" : Str) = some .free ∧
    r.scope.names.lookup ("self" : Str) = some .local ∧ r.scope.names.lookup x = some .local ∧ (∃ ar : Arg, (r.params.posonlyargs ++ r.params.args).head? = some ar ∧ ar.arg = "self") ∧ x ≠ "self" ∧ (x == ("__debug__" : Str)) = false ∧
    (∀ (kV doc pm : Value) (an : Option Addr) (cda ct : Value) (cc : Addr) (a b : Value), bindArgs (PySem.W.ksFn "__init__" r.qual r.params r.body r.scope .none kV doc pm an cda ct cc) ⟨[a, b], []⟩ = pure [(("self" : Str), a), (x, b)]) ∧
    (P.main.scope.names.lookup ("super" : Str)).isSome = false
theorem noneB_ok {v : Value} (h : noneB v = true) : v = .none := by cases v <;> first | rfl | cases h
theorem ga_cls {K : Frag} {h : Heap} {mg : Str → Option Value} {r : Er} (X : K.In h) (G : h.Ns mainGlobals mg) (c : (He.Fa.glo r.c).ok K = true) : mg r.c = some (.ref (He.ga K r.c)) := He.glo_ok X G c
theorem init_ok {P : Program} {K : Frag} {r : Er} {x : Str} (hb : initB P K r.c = true) (ho : inObs K r.c = r.val) (co : r.scope.isCoroutine = false) (ge : r.scope.isGenerator = false) (kd : r.scope.kind = .function) (nc : ∀ y ∈ r.scope.names, y.2 ≠ .cell)
    (ks : r.scope.names.lookup ("super" : Str) = some .globalImplicit) (kc : r.scope.names.lookup ("__class__" : Str) = some .free) (k0 : r.scope.names.lookup ("self" : Str) = some .local) (kx : r.scope.names.lookup x = some .local)
    (hd : ∃ ar : Arg, (r.params.posonlyargs ++ r.params.args).head? = some ar ∧ ar.arg = "self") (nx : x ≠ "self") (nb : (x == ("__debug__" : Str)) = false)
    (bd : ∀ (kV doc pm : Value) (an : Option Addr) (cda ct : Value) (cc : Addr) (a b : Value), bindArgs (PySem.W.ksFn "__init__" r.qual r.params r.body r.scope .none kV doc pm an cda ct cc) ⟨[a, b], []⟩ = pure [(("self" : Str), a), (x, b)])
    (tp : (P.main.scope.names.lookup ("super" : Str)).isSome = false) : InitF P K (inF K r.c) (inD K r.c) r.qual r.params r.body r.scope x := by
  unfold initB at hb
  unfold inObs at ho
  cases q : K.lookup (inF K r.c) with
  | none => rw [q] at hb; cases hb
  | some o =>
    obtain ⟨oc, od, dt, osl⟩ := o
    rw [q] at hb ho
    cases dt with
    | func fd =>
      obtain ⟨n1, n2, n3, n4, n5, n6, n7, n8, n9, n10, n11, n12, n13, n14, n15⟩ := fd
      have e2 : (some (n1, n2, n3, n4, n5, n6, n15) : InV) = (some (("__init__" : Str), r.qual, r.params, FuncBody.stmts r.body, r.scope, mainGlobals, builtinsNs) : InV) := ho
      simp only [Option.some.injEq, Prod.mk.injEq] at e2
      obtain ⟨h1, h2, h3, h4, h5, h6, h7⟩ := e2
      subst h1 h2 h3 h4 h5 h6 h7
      dsimp only at hb
      obtain ⟨b1, hb⟩ := Bool.and_eq_true_iff.mp hb
      obtain ⟨b2, hb⟩ := Bool.and_eq_true_iff.mp hb
      obtain ⟨b3, hb⟩ := Bool.and_eq_true_iff.mp hb
      obtain ⟨b4, b5⟩ := Bool.and_eq_true_iff.mp hb
      have dn := noneB_ok b1
      subst dn
      match n7, b2 with
      | [(y, cc)], b2 =>
        obtain ⟨c1, c2⟩ := Bool.and_eq_true_iff.mp b2
        have c1 := of_decide_eq_true c1
        subst c1
        match n13, b3 with
        | .ref cda, b3 =>
          obtain ⟨d1, d2⟩ := Bool.and_eq_true_iff.mp b3
          refine ⟨⟨oc, od, .none, n9, n10, n11, n12, cda, n14, cc, osl, q, d1, ?_, ?_, fun _ => rfl⟩, Option.isSome_iff_exists.mp b4, He.eqO_ok b5, co, ge, kd, nc, ks, kc, k0, kx, hd, nx, nb, bd, tp⟩
          · unfold fileB at d2
            cases q2 : K.lookup cda with
            | none => rw [q2] at d2; cases d2
            | some o =>
              obtain ⟨oc2, od2, dt2, osl2⟩ := o
              rw [q2] at d2
              cases dt2 with
              | fields vs =>
                dsimp only at d2
                cases q3 : vs[2]? with
                | none => rw [q3] at d2; cases d2
                | some v =>
                  rw [q3] at d2
                  cases v with
                  | str f tf =>
                    have e := of_decide_eq_true d2
                    subst e
                    exact ⟨oc2, od2, vs, osl2, tf, rfl, q3⟩
                  | _ => cases d2
              | _ => cases d2
          · unfold cellB at c2
            cases q2 : K.lookup cc with
            | none => rw [q2] at c2; cases c2
            | some o =>
              obtain ⟨oc2, od2, dt2, osl2⟩ := o
              rw [q2] at c2
              cases dt2 with
              | cell v =>
                cases v with
                | none => cases c2
                | some v =>
                  cases v with
                  | ref D' =>
                    have e := of_decide_eq_true c2
                    rw [e]
                    exact ⟨oc2, od2, osl2, rfl⟩
                  | _ => cases c2
              | _ => cases c2
    | _ => cases hb
theorem xcc_ok {K : Frag} {r : Er} (h : xccB K r = true) : XcC K (He.ga K r.c) (inF K r.c) (inD K r.c) r.bs.nw r.bs.ini r.bs.B r.bs.tl r.fl := by
  unfold xccB at h
  dsimp only at h
  simp only [Bool.and_eq_true, decide_eq_true_eq] at h
  obtain ⟨h1, h2, h3, h4, h5, h6, h7, h8, h9, h10, h11, h12, h13⟩ := h
  exact ⟨h1, h2, h3, He.eqO_ok h4, h5, He.eqO_ok h6, He.eqO_ok h7, h8, He.eqO_ok h9, h10, h11, h12, h13⟩
theorem isc_ok {K : Frag} {C : Addr} (h : iscB K C = true) : IsC K C := by
  unfold iscB at h
  simp only [Bool.and_eq_true, decide_eq_true_eq] at h
  obtain ⟨h1, h2, h3, h4, h5⟩ := h
  exact ⟨h1, He.eqO_ok h2, He.eqO_ok h3, h4, h5⟩
theorem err_ok {P : Program} {K : Frag} {h : Heap} {mg : Str → Option Value} {l : List Er} (X : K.In h) (G : h.Ns mainGlobals mg) (hT : ∀ r ∈ l, ErOk P r) (hB : ∀ r ∈ l, errB P K l r = true) (hO : ∀ r ∈ l, inObs K r.c = r.val) : ErrS P K mg (ctOf l) := by
  have gl : ∀ r ∈ l, mg r.c = some (.ref (He.ga K r.c)) := fun r hr => by
    have hb := hB r hr
    unfold errB at hb
    exact He.glo_ok X G (Bool.and_eq_true_iff.mp hb).1
  refine ⟨fun p hp => ?_⟩
  obtain ⟨r, hr, rfl⟩ := List.mem_map.mp hp
  have hb := hB r hr
  unfold errB at hb
  simp only [Bool.and_eq_true] at hb
  obtain ⟨h1, h2, h3, h4, h5, h6, h7⟩ := hb
  have xc := xcc_ok h3
  have xf := xfB_ok h4
  refine ⟨He.ga K r.c, gl r hr, ?_, xf, xc.nf, isc_ok h5, fun q hq => ?_, fun T hT => ?_⟩
  · obtain ⟨x, p0, p1, p2, p3, p4, p5, p6, p7, p8, p9, hb, hc, a1, a2, a3, a4, a5, a6, a7, a8, a9, a10, a11, a12, a13⟩ := (hT r hr).ex
    have I := init_ok h2 (hO r hr) a1 a2 a3 a4 a5 a6 a7 a8 a9 a10 a11 a12 a13
    rw [hb] at I
    refine ⟨He.ga K r.c, inF K r.c, inD K r.c, r.bs.B, r.bs.nw, r.bs.ini, r.bs.tl, r.qual, r.params, r.scope, x, p0, p1, p2, p3, p4, p5, p6, p7, p8, p9, gl r hr, ?_, I, xc, hc⟩
    unfold Er.bs
    split
    · exact eb_VE
    · exact eb_OE
  · obtain ⟨q', hq', rfl⟩ := List.mem_map.mp hq
    have hp2 := List.all_eq_true.mp h6 q' hq'
    unfold pairB at hp2
    simp only [Bool.and_eq_true, decide_eq_true_eq] at hp2
    exact ⟨He.ga K q'.c, gl q' hq', hp2.1, hp2.2⟩
  · exact of_decide_eq_true (List.all_eq_true.mp h7 T hT)
/-! ### the Hook -/
def asY (g : Addr → Option Obj) : Nat → List Addr
  | 0 => [mainGlobals, cStatics]
  | n + 1 => growX g (asY g n)
abbrev AlY : Type := AlX × Bool × List InV
def obsYK (P : Program) (z : Wd) (l : List Er) (K : Frag) : AlY := (obsK z K, l.all (errB P K l), l.map fun r => inObs K r.c)
def valY (P : Program) (z : Wd) (l : List Er) (w : World) : AlY := (valX P z w, true, l.map Er.val)
def obsY (n : Nat) (P : Program) (z : Wd) (l : List Er) (g : Addr → Option Obj) : AlY := obsYK P z l (He.frG g (asY g n))
def hookY (n : Nat) (P : Program) (z : Wd) (l : List Er) : PySem.W.Hook where
  α := AlY
  obs := fun s => obsY n P z l s.heap.get?
  val := valY P z l
  says := fun w h => ∃ K : Frag, K.In h ∧ obsYK P z l K = valY P z l w
  of := fun _ _ e => ⟨_, He.frG_in, e⟩
  keeps := fun _ _ _ ⟨K, hK, c⟩ k => ⟨K, PySem.W.Frag.In.keeps hK k, c⟩
theorem obsY_eq {n : Nat} {P : Program} {z : Wd} {l : List Er} {g : Addr → Option Obj} {s : Shared} (h : ∀ a, g a = s.heap.get? a) : obsY n P z l g = (hookY n P z l).obs s := by
  have e : g = s.heap.get? := funext h
  rw [e] <;> rfl
structure SaysY (P : Program) (z : Wd) (l : List Er) (w : World) (K : Frag) : Prop extends SaysX P z w K where
  e : ∀ r ∈ l, errB P K l r = true
  o : ∀ r ∈ l, inObs K r.c = r.val
theorem saysY_of {P : Program} {z : Wd} {l : List Er} {w : World} {K : Frag} (e : obsYK P z l K = valY P z l w) : SaysY P z l w K := by
  have e1 : obsK z K = valX P z w := congrArg (fun a : AlY => a.1) e
  have e2 : l.all (errB P K l) = true := congrArg (fun a : AlY => a.2.1) e
  have e3 : (l.map fun r => inObs K r.c) = l.map Er.val := congrArg (fun a : AlY => a.2.2) e
  refine ⟨says_of e1, fun r hr => List.all_eq_true.mp e2 r hr, fun r hr => ?_⟩
  exact List.map_inj_left.mp e3 r hr
theorem SaysY.err {P : Program} {z : Wd} {l : List Er} {w : World} {K : Frag} {h : Heap} {mg : Str → Option Value} (s : SaysY P z l w K) (X : K.In h) (G : h.Ns mainGlobals mg) (hT : ∀ r ∈ l, ErOk P r) : ErrS P K mg (ctOf l) := err_ok X G hT s.e s.o
theorem law_endY {l : PySem.W.OpenLaw} {n k m : Nat} {q P : Program} {loose : List Str} {d : DefRec} {Z : Wd} {L : List Er} {F : FD}
    (hn : l.most = some n) (hn2 : n ≤ sizeLine) (hdf : d.params.defaults = []) (hr : Room k callerA) (hname : d.name = ("law" : Str))
    (D : ∀ (w : World) (K : Frag) (mg : Str → Option Value) (h : Heap), K.In h → h.Ns mainGlobals mg → SaysY P Z L w K → ∀ base : Heap, DefG l.prog w K mg base k "law" 1 F)
    (hF : ∀ ns : List Int, ns.length ≤ n → ∃ own ss, F [.sh (.list (ns.map PyData.int))] = .ret own (.bool true) ss) (hT : TbP.T = [] := by rfl) :
    PySem.W.WalkO q loose (PySem.W.XL q []) (hookY m P Z L).says l.row.toRowW d [] (fun f vs => PySem.call f vs) :=
  Att.attach_call hn hdf fun w _ s₁ mg _ fa _ _ _ _ a vs ns G Y _ _ _ hmg hobj hints hlen hg => by
    obtain ⟨K, KX, e⟩ := Y
    have S := saysY_of e
    obtain ⟨f0, fd0, ps0, FG0, hm0, hk0, hb0, hl0⟩ := (D w K mg _ KX G.T.g S s₁.heap).ex
    rw [hname, hm0] at hmg
    cases hmg
    refine lawG' KX G.T.g G.T.b G.T.builtins G.T.nolimit hg hobj hints (Nat.le_trans hlen hn2) hr hm0 (fun base hB hN => (D w K mg _ KX G.T.g S base)) fun H hO hS => ?_
    obtain ⟨own, ss, hF⟩ := hF ns hlen
    exact sp_law hO hS hF hT
end VL
namespace VL
variable [TbP]
theorem ErrS.er {P : PySem.Program} {K : Frag} {mg : PySem.Str → Option PySem.Value} {CT : Ct} (S : ErrS P K mg CT) {j : Nat} {c fl : PySem.Str} {up : List PySem.Str} (h : CT[j]? = some (c, fl, up)) : ErrT P K mg c fl := by
  obtain ⟨C, _, h2, _⟩ := S.ok _ (List.mem_of_getElem? h)
  exact h2
end VL


set_option Elab.async false
set_option linter.all false
set_option maxRecDepth 100000
set_option maxHeartbeats 4000000
/-! EX7: tuple * int of any size, texts compared by <=, list(range(..)). -/
namespace VL
open PySem PySem.Spec PyProof.Rows L2
variable [TbP]
theorem tup_mul_same (l : Addr) (items : Array Value) (n : Nat) (dd : Option Addr) (sl : Array (Option Value)) (x : Int) (u : Tok) (c0 : (decide (x < -(2 ^ 63)) || decide (x ≥ 2 ^ 63)) = false) (c1 : (items.isEmpty || x == 1) = true) :
    Meets (Builtin.«tuple.__mul__» ⟨[.ref l, .int x u], []⟩) (fun _ R s => s.heap.get? l = some { cls := .type "tuple", dict := dd, data := .seq items n, slots := sl } ∧ R (.ok (.ret (Value.ref l))) s) :=
  .of_wp fun prog w A R s h => by
    obtain ⟨hp, g, d, tk, os⟩ := s
    obtain ⟨hl, h⟩ := h
    have f1 := AutoSeq1.idx_int
    wp_walk using wpAny_loadPart' hl
    repeat (first
      | (refine wpAny_ite_false (decide_eq_false (by rw [c0]; exact Bool.false_ne_true)) ?_; wp_walk using wpAny_loadPart' hl)
      | (refine wpAny_ite_true (decide_eq_true (by rw [c1])) ?_; wp_walk using wpAny_loadPart' hl))
    all_goals first | exact ⟨_, rfl, h⟩ | skip
theorem tup_mul_none (l : Addr) (items : Array Value) (n : Nat) (dd : Option Addr) (sl : Array (Option Value)) (x : Int) (u : Tok) (c0 : (decide (x < -(2 ^ 63)) || decide (x ≥ 2 ^ 63)) = false) (c1 : (items.isEmpty || x == 1) = false) (c2 : (decide (x ≤ 0) || items.isEmpty) = true) :
    Meets (Builtin.«tuple.__mul__» ⟨[.ref l, .int x u], []⟩) (fun _ R s => s.heap.get? l = some { cls := .type "tuple", dict := dd, data := .seq items n, slots := sl } ∧
      R (.ok (.ret (Value.ref s.heap.objs.size))) { s with heap := s.heap.push { cls := Value.type "tuple", data := Data.seq #[] }, toks := s.toks }) :=
  .of_wp fun prog w A R s h => by
    obtain ⟨hp, g, d, tk, os⟩ := s
    obtain ⟨hl, h⟩ := h
    have f1 := AutoSeq1.idx_int
    wp_walk using wpAny_loadPart' hl
    repeat (first
      | (refine wpAny_ite_false (decide_eq_false (by rw [c0]; exact Bool.false_ne_true)) ?_; wp_walk using wpAny_loadPart' hl)
      | (refine wpAny_ite_false (decide_eq_false (by rw [c1]; exact Bool.false_ne_true)) ?_; wp_walk using wpAny_loadPart' hl)
      | (refine wpAny_ite_true (decide_eq_true (by rw [c2])) ?_; wp_walk using wpAny_loadPart' hl))
    all_goals first | exact ⟨_, rfl, h⟩ | skip
end VL
namespace VL
open PySem PySem.Spec PyProof.Rows L2
variable [TbP]
def rRepT3 (K : Frag) : R2 := fun x y H Q => ∃ l k xs, x = .ref l ∧ y = .int k ∧ SqT K H l xs ∧ -(2 ^ 63) < k ∧ k < 2 ^ 63 ∧ xs.length * k.toNat ≤ 1000000 ∧ (xs = [] ∨ k = 1 → Q (.ref l) H) ∧ (xs ≠ [] → k ≠ 1 → ∀ p, H p = none → Q (.ref p) (upd H p (.tup (List.replicate k.toNat xs).flatten)))
theorem op_repT3 {X : Cx} : OpR X (binaryOp .Mult) (rRepT3 X.K) := by
  intro pins s σ H x y v u Q I rx ry h
  obtain ⟨l, k, xs, rfl, rfl, hT, k1, k2, hz, qa, qb⟩ := h
  cases rx
  obtain ⟨t, rfl⟩ := ry
  obtain ⟨its, r, ⟨⟨cls, dd, data, sl⟩, ho, hc, n, hd⟩, hs⟩ := I.tuple hT
  simp only at hc hd
  subst hc hd
  have hle : its.length = xs.length := r.length.symm
  have hie : its.toArray.isEmpty = xs.isEmpty := by
    cases its with
    | nil => cases xs with
      | nil => rfl
      | cons a b => simp at hle
    | cons a b => cases xs with
      | nil => simp at hle
      | cons c d => rfl
  have c0 : (decide (k < -(2 ^ 63)) || decide (k ≥ 2 ^ 63)) = false := by
    rw [decide_eq_false (by omega), decide_eq_false (by omega)] <;> rfl
  have go : ∀ {P : Value → Shared → Prop}, wpAny (model X.prog X.w) X.A (call (.builtin "tuple.__mul__") [.ref l, .int k t]) P X.xe s → wpAny (model X.prog X.w) X.A (binaryOp .Mult (.ref l) (.int k t)) P X.xe s := fun {P} hcall =>
    wpAny_binaryOp_repeat_ref (T := "tuple") (U := "int") (by decide) ⟨_, ho, rfl⟩ (fun s' => typeIs_int s' k t) noFill_tuple_mul F.fills_int_mul F.slot_int_rmul repeat_tuple F.slot_int_index.lookup
      (call_meets F.slot_int_rmul (typeIs_int s k t) F.entry_int_rmul (F.args_int_rmul_2 _ _) (int_rmul_tuple k t l its.toArray n dd sl) ⟨ho, rfl, ⟨_, ho, rfl⟩, hcall⟩)
  by_cases c : xs = [] ∨ k = 1
  · have c1 : (its.toArray.isEmpty || k == 1) = true := by
      rw [hie]
      rcases c with rfl | rfl
      · rfl
      · exact Bool.or_eq_true_iff.mpr (.inr rfl)
    refine go (call_meets F.slot_tuple_mul ⟨_, ho, rfl⟩ F.entry_tuple_mul (F.args_tuple_mul_2 _ _) (tup_mul_same l its.toArray n dd sl k t c0 c1) ⟨ho, ?_⟩)
    exact ⟨.ref l, H, I, rfl, qa c⟩
  · have hne : xs ≠ [] := fun z => c (.inl z)
    have hk1 : k ≠ 1 := fun z => c (.inr z)
    have hemp : xs.isEmpty = false := by cases xs with
      | nil => exact absurd rfl hne
      | cons a b => rfl
    have c1 : (its.toArray.isEmpty || k == 1) = false := by
      rw [hie, hemp, Bool.false_or]
      exact beq_eq_false_iff_ne.mpr hk1
    by_cases cn : k ≤ 0
    · have c2 : (decide (k ≤ 0) || its.toArray.isEmpty) = true := by rw [decide_eq_true cn]; rfl
      refine go (call_meets F.slot_tuple_mul ⟨_, ho, rfl⟩ F.entry_tuple_mul (F.args_tuple_mul_2 _ _) (tup_mul_none l its.toArray n dd sl k t c0 c1 c2) ⟨ho, ?_⟩)
      have e0 : (List.replicate k.toNat xs).flatten = [] := by
        have : k.toNat = 0 := by omega
        rw [this]; rfl
      have qb := qb hne hk1
      rw [e0] at qb
      refine ⟨.ref s.heap.objs.size, _, I.laid (t' := s.toks) (o := .tup []) (fun b ob q => Heap.get?_push_of_some _ q) (Nat.le_refl _) ?_, rfl, qb _ (I.hok.fresh (Nat.le_refl _))⟩
      exact ⟨Nat.zero_le _, [], .nil, IsTup.new _ _⟩
    · have flen : (List.replicate k.toNat its).flatten.length ≤ sizeLine := by
        rw [PyProof.Rows.lm_len_rep_flat, hle, sizeLine_eq, Nat.mul_comm]
        omega
      have hsz : ((its.toArray.size : Nat) : Int) * k ≤ 1000000 := by
        rw [List.size_toArray, hle]
        have h3 : ((xs.length * k.toNat : Nat) : Int) ≤ 1000000 := Int.ofNat_le.mpr hz
        have h4 : ((k.toNat : Nat) : Int) = k := Int.toNat_of_nonneg (Int.le_of_lt (Int.not_le.mp cn))
        rw [Int.natCast_mul, h4] at h3
        exact h3
      have c2 : (decide (k ≤ 0) || its.toArray.isEmpty) = false := by
        rw [hie, hemp, Bool.or_false]
        exact decide_eq_false cn
      have c4 : Builtin.Tuple.tupleTooMany (((its.toArray.size : Nat) : Int) * k) = false := by
        unfold Builtin.Tuple.tupleTooMany
        rw [sizeLine_eq]
        exact decide_eq_false (by omega)
      refine go (call_meets F.slot_tuple_mul ⟨_, ho, rfl⟩ F.entry_tuple_mul (F.args_tuple_mul_2 _ _) (tuple_mulW l its.toArray n dd sl k t c0 c1 c2 (by omega) c4 (by rw [size_rep, List.size_toArray]; exact flen)) ⟨ho, ?_⟩)
      rw [size_rep]
      refine ⟨.ref s.heap.objs.size, _, I.laid (t' := s.toks) (o := .tup (List.replicate k.toNat xs).flatten) (fun b ob q => Heap.get?_push_of_some _ q) (Nat.le_refl _) ?_, rfl, qb hne hk1 _ (I.hok.fresh (Nat.le_refl _))⟩
      refine ⟨?_, _, r.rep k.toNat, IsTup.new _ _⟩
      rw [PyProof.Rows.lm_len_rep_flat, sizeLine_eq, Nat.mul_comm]
      omega
def tupMulG3 : G2
  | .tuple ds, .int k => if -1000000 ≤ k ∧ k ≤ 1000000 ∧ ds.length * k.toNat ≤ 1000000 then some (.sh (.tuple (List.replicate k.toNat ds).flatten)) else none
  | _, _ => none
theorem tupMul_A3 {K : Frag} : OpA K (rRepT3 K) tupMulG3 := by
  intro A H x y vx vy z Q hd e hx hy q
  match x, y, e with
  | .tuple ds, .int k, e =>
    dsimp only [tupMulG3] at e
    by_cases c : -1000000 ≤ k ∧ k ≤ 1000000 ∧ ds.length * k.toNat ≤ 1000000
    · rw [if_pos c] at e
      cases e
      obtain ⟨a, xs, rfl, sl, r⟩ := hx.tup
      refine ⟨a, k, xs, rfl, hy.int, sl, by have := c.1; omega, by have := c.2.1; omega, by rw [← r.length]; exact c.2.2, fun h => ?_, fun h1 h2 p n => q _ _ (same_upd n) (rp_tup n (r.rep _))⟩
      refine q _ _ (Same.refl H) ?_
      have e : (List.replicate k.toNat ds).flatten = ds := by
        rcases h with h | h
        · subst h
          have : ds = [] := by
            cases ds with
            | nil => rfl
            | cons _ _ => have := r.length; simp at this
          rw [this]; simp
        · subst h; simp
      show Rp K A H (.tuple (List.replicate k.toNat ds).flatten) (.ref a)
      rw [e]
      simp only [Rp]
      exact ⟨a, xs, rfl, sl, r⟩
    · rw [if_neg c] at e; cases e
def mulG3 : G2 := orG mulG tupMulG3
def mulX3 (fa fb : EF) : EF := fun env => (fa env).bind fun r1 e1 => (fb e1).bind fun r2 e2 => match rd e2 r1, rd e2 r2 with
  | some (.list ds), some (.int k) => if isOwned e2 r1 = true ∧ -(2 ^ 63) ≤ k ∧ k < 2 ^ 63 ∧ ds.length * k.toNat ≤ LIM then .ok (.tm (.list (List.replicate k.toNat ds).flatten)) e2 else .no
  | some x, some y => out1 (mulG3 x y) e2
  | _, _ => .no
theorem e_mulX3 {X : Cx} {W : WX} {a b : Expr} {fa fb : EF} {pos : Pos} (ha : PE X a (tE (gd X W) fa)) (hb : PE X b (tE (gd X W) fb)) : PE X (.BinOp a .Mult b pos) (tE (gd X W) (mulX3 fa fb)) :=
  PE.imp (pe_op ((op_mulA.or op_repT3).or op_rep) ha hb) fun σ H Q h => by
    obtain ⟨A, env, rel, h⟩ := h
    refine ⟨A, env, rel, (Post.bind h).imp fun r1 e1 A1 H1 s1 h1 v1 hv1 => ?_⟩
    refine ⟨A1, e1, s1.rel, (Post.bind h1).imp fun r2 e2 A2 H2 s2 h2 v2 hv2 => ?_⟩
    have hv1' := hv1.step s1.rel s2
    have st := s1.trans s2
    have gen : ∀ x y, rd e2 r1 = some x → rd e2 r2 = some y → Post (gd X W) A2 σ H2 e2 (out1 (mulG3 x y) e2) (EQ (gd X W) σ H Q) →
        rI (fun i j => CMul i j ∨ CMulW i j) (fun i j => .int (i * j)) v1 v2 H2 Q ∨ rRepT3 X.K v1 v2 H2 Q := fun x y q1 q2 h2 => by
      unfold out1 at h2
      cases q3 : mulG3 x y with
      | none => rw [q3] at h2; exact h2.elim
      | some z =>
        rw [q3] at h2
        exact (OpA.or (int_A (fun i j h => mulOk_of h) fun A H _ _ => rp_int (K := X.K) (A := A) (H := H)) tupMul_A3) A2 H2 x y v1 v2 z Q s2.rel.dom q3 (hv1'.rq s2.rel q1) (hv2.rq s2.rel q2) fun v' H' sm hz => fin1 st h2 sm hz
    cases q1 : rd e2 r1 with
    | none => rw [q1] at h2; exact h2.elim
    | some x =>
      cases q2 : rd e2 r2 with
      | none => rw [q1, q2] at h2; cases x <;> exact h2.elim
      | some y =>
        rw [q1, q2] at h2
        cases x with
        | list ds =>
          cases y with
          | int k =>
            dsimp only at h2
            by_cases c : isOwned e2 r1 = true ∧ -(2 ^ 63) ≤ k ∧ k < 2 ^ 63 ∧ ds.length * k.toNat ≤ LIM
            · rw [if_pos c] at h2
              refine .inr ?_
              have ob : ∃ a, v1 = .ref a ∧ Ob X.K A2 H2 a (.list ds) := by
                cases r1 with
                | sh d => cases c.1
                | tm d =>
                  cases q1
                  obtain ⟨a, ea, _, _, _, ob⟩ := hv1'
                  exact ⟨a, ea, ob⟩
                | bo i =>
                  obtain ⟨d, hd⟩ := Option.isSome_iff_exists.mp (show (mutS e2 i).isSome = true from c.1)
                  have ho := mutS_own hd
                  obtain ⟨a, ea, na, ob⟩ := s2.rel.ow i d ho
                  rw [hv1'.1] at ea
                  have ed : d = .list ds := by
                    have q1 : rdAt e2 i = some (.list ds) := q1
                    unfold rdAt at q1
                    rcases ho with z | z <;> (rw [z] at q1; exact Option.some.inj q1)
                  subst ed
                  exact ⟨a, Option.some.inj (Option.some.inj ea), ob⟩
              obtain ⟨a, ea, ys, ey, ry⟩ := ob
              exact ⟨a, k, ys, ea, (hv2.rq s2.rel q2).int, ey, c.2.1, c.2.2.1, by rw [← ry.length, lim_eq]; exact c.2.2.2, fun p n => fin1 st h2 (same_upd n) (rz_lst n (ry.rep _))⟩
            · rw [if_neg c] at h2; exact h2.elim
          | _ => exact .inl (gen _ _ q1 q2 h2)
        | none => exact .inl (gen _ _ q1 q2 h2)
        | bool _ => exact .inl (gen _ _ q1 q2 h2)
        | int _ => exact .inl (gen _ _ q1 q2 h2)
        | str _ => exact .inl (gen _ _ q1 q2 h2)
        | tuple _ => exact .inl (gen _ _ q1 q2 h2)
        | dict _ => exact .inl (gen _ _ q1 q2 h2)
/-! ### texts by <= and >= -/
def strLeG : G2
  | .str i, .str j => some (.sh (.bool (!decide (j.cps.toList < i.cps.toList))))
  | _, _ => none
def strGeG : G2
  | .str i, .str j => some (.sh (.bool (!decide (i.cps.toList < j.cps.toList))))
  | _, _ => none
theorem strLe_A {K : Frag} : OpA K (fun x y H Q => ∃ i j, x = .str i ∧ y = .str j ∧ Q (.bl (!decide (j.cps.toList < i.cps.toList))) H) strLeG := by
  intro A H x y vx vy z Q hd e hx hy q
  match x, y, e with
  | .str i, .str j, e =>
    cases e
    exact ⟨i, j, hx.str, hy.str, q _ _ (Same.refl H) rz_bl⟩
theorem strGe_A {K : Frag} : OpA K (fun x y H Q => ∃ i j, x = .str i ∧ y = .str j ∧ Q (.bl (!decide (i.cps.toList < j.cps.toList))) H) strGeG := by
  intro A H x y vx vy z Q hd e hx hy q
  match x, y, e with
  | .str i, .str j, e =>
    cases e
    exact ⟨i, j, hx.str, hy.str, q _ _ (Same.refl H) rz_bl⟩
theorem c_leS {X : Cx} {k : Nat} (hr : Room k X.A) : CmpR X .LtE strLeG := ⟨_, op_le_str, strLe_A⟩
theorem c_geS {X : Cx} {k : Nat} (hr : Room k X.A) : CmpR X .GtE strGeG := ⟨_, op_ge_str, strGe_A⟩
/-! ### list(range(..)), tuple(range(..)) -/
def rgD (a b : Int) : List D := (List.range (b - a).toNat).map fun i => PyData.int (a + (i : Nat))
theorem rpl_rg {K : Frag} {A : AS} {H : Hp} {a b : Int} : RpL K A H (rgD a b) (rgV a b) := by
  unfold rgD rgV
  generalize List.range (b - a).toNat = l
  induction l with
  | nil => exact .nil
  | cons i l ih => exact .cons (rp_int (K := K) (A := A) (H := H)) ih
def rgOk (a b : Int) : Bool := decide (-(2 ^ 62) ≤ a ∧ a < 2 ^ 62 ∧ -(2 ^ 62) ≤ b ∧ b < 2 ^ 62 ∧ (b - a).toNat ≤ 2 ^ 24)
def lrgF (t : Bool) (fa fb : EF) : EF := fun env => (fa env).bind fun r1 e1 => match rd e1 r1 with
  | some (.int a) => (fb e1).bind fun r2 e2 => (match rd e2 r2 with
    | some (.int b) => if rgOk a b = true then .ok (if t = true then .sh (.tuple (rgD a b)) else .tm (.list (rgD a b))) e2 else .no
    | _ => .no)
  | _ => .no
section
variable {X : Cx} {W : WX} {a b : Expr} {fa fb : EF} {p p2 pos : Pos}
theorem rg_core {t : Bool} {fa fb : EF} {σ : L2.St} {H : Hp} {Q : VK} (h : tE (gd X W) (lrgF t fa fb) σ H Q) :
    tRg2 (tE (gd X W) fa) (tE (gd X W) fb) σ H (fun a b H1 => RgOk a b ∧ ∀ q, H1 q = none → Q (.ref q) (upd H1 q (if t = true then .tup (rgV a b) else .lst (rgV a b)))) := by
  obtain ⟨A, env, rel, h⟩ := h
  refine ⟨A, env, rel, (Post.bind h).imp fun r1 e1 A1 H1 s1 h1 v1 hv1 => ?_⟩
  cases q1 : rd e1 r1 with
  | none => rw [q1] at h1; exact h1.elim
  | some d1 =>
    rw [q1] at h1
    cases d1 with
    | int i =>
      dsimp only at h1
      refine ⟨A1, e1, s1.rel, (Post.bind h1).imp fun r2 e2 A2 H2 s2 h2 v2 hv2 => ?_⟩
      cases q2 : rd e2 r2 with
      | none => rw [q2] at h2; exact h2.elim
      | some d2 =>
        rw [q2] at h2
        cases d2 with
        | int j =>
          dsimp only at h2
          by_cases c : rgOk i j = true
          · rw [if_pos c] at h2
            refine ⟨i, j, (hv1.rq s1.rel q1).int, (hv2.rq s2.rel q2).int, (by unfold rgOk at c; have c2 := of_decide_eq_true c; exact c2), fun q n => ?_⟩
            have st := s1.trans s2
            cases t with
            | true =>
              exact h2 A2 _ (Stp.same s2.rel (same_upd n)) (.ref q) (rp_tup n rpl_rg)
            | false =>
              refine h2 A2 _ (Stp.same s2.rel (same_upd n)) (.ref q) ?_
              refine (Rz.rv (A := A) (env := env) (e1 := e2) (H := H) st (rz_lst n rpl_rg)).weak fun a o ho z => z
          · rw [if_neg c] at h2; exact h2.elim
        | _ => exact h2.elim
    | _ => exact h1.elim
theorem rg1_core {t : Bool} {σ : L2.St} {H : Hp} {Q : VK} {A : AS} {env : En} (rel : Rel X.K A σ H env) (h : Post (gd X W) A σ H env ((fa env).bind fun r2 e2 => match rd e2 r2 with
    | some (.int b) => if rgOk 0 b = true then .ok (if t = true then .sh (.tuple (rgD 0 b)) else .tm (.list (rgD 0 b))) e2 else .no
    | _ => .no) (EQ (gd X W) σ H Q)) :
    tRg1 (tE (gd X W) fa) σ H (fun a b H1 => RgOk a b ∧ ∀ q, H1 q = none → Q (.ref q) (upd H1 q (if t = true then .tup (rgV a b) else .lst (rgV a b)))) := by
  refine ⟨A, env, rel, (Post.bind h).imp fun r2 e2 A2 H2 s2 h2 v2 hv2 => ?_⟩
  cases q2 : rd e2 r2 with
  | none => rw [q2] at h2; exact h2.elim
  | some d2 =>
    rw [q2] at h2
    cases d2 with
    | int j =>
      dsimp only at h2
      by_cases c : rgOk 0 j = true
      · rw [if_pos c] at h2
        refine ⟨j, (hv2.rq s2.rel q2).int, (by unfold rgOk at c; have c2 := of_decide_eq_true c; exact c2), fun q n => ?_⟩
        cases t with
        | true => exact h2 A2 _ (Stp.same s2.rel (same_upd n)) (.ref q) (rp_tup n rpl_rg)
        | false =>
          refine h2 A2 _ (Stp.same s2.rel (same_upd n)) (.ref q) ?_
          exact (Rz.rv (A := A) (env := env) (e1 := e2) (H := H) s2 (rz_lst n rpl_rg)).weak fun a o ho z => z
      · rw [if_neg c] at h2; exact h2.elim
    | _ => exact h2.elim
variable {pos' : Pos}
theorem e_lrg1 (hc : X.calm = true) (hl : X.mg "list" = none) (hm : X.mg "range" = none) (ha : PE X a (tE (gd X W) fa)) (hg : Gl X "list" := by rfl) (hgr : Gl X "range" := by rfl) (na : starEach [a] X.env = (false, eval a X.env) :: starEach [] X.env := by rfl)
    (ne : starEach [.Call (.Name "range" p2) [a] [] pos] X.env = (false, eval (.Call (.Name "range" p2) [a] [] pos) X.env) :: starEach [] X.env := by rfl) : PE X (.Call (.Name "list" p) [.Call (.Name "range" p2) [a] [] pos] [] pos') (tE (gd X W) (lrgF false (cF (.int 0)) fa)) :=
  PE.imp (pe_listRg hc hg hl (prg_1 hgr hm ha na) ne) fun σ H Q h => by
    obtain ⟨A, env, rel, h⟩ := h
    exact rg1_core (t := false) rel h
theorem e_trg1 (hc : X.calm = true) (hl : X.mg "tuple" = none) (hm : X.mg "range" = none) (ha : PE X a (tE (gd X W) fa)) (hg : Gl X "tuple" := by rfl) (hgr : Gl X "range" := by rfl) (na : starEach [a] X.env = (false, eval a X.env) :: starEach [] X.env := by rfl)
    (ne : starEach [.Call (.Name "range" p2) [a] [] pos] X.env = (false, eval (.Call (.Name "range" p2) [a] [] pos) X.env) :: starEach [] X.env := by rfl) : PE X (.Call (.Name "tuple" p) [.Call (.Name "range" p2) [a] [] pos] [] pos') (tE (gd X W) (lrgF true (cF (.int 0)) fa)) :=
  PE.imp (pe_tupRg hc hg hl (prg_1 hgr hm ha na) ne) fun σ H Q h => by
    obtain ⟨A, env, rel, h⟩ := h
    exact rg1_core (t := true) rel h
theorem e_lrg2 (hc : X.calm = true) (hl : X.mg "list" = none) (hm : X.mg "range" = none) (ha : PE X a (tE (gd X W) fa)) (hb : PE X b (tE (gd X W) fb)) (hg : Gl X "list" := by rfl) (hgr : Gl X "range" := by rfl)
    (na : starEach [a, b] X.env = (false, eval a X.env) :: starEach [b] X.env := by rfl) (nb : starEach [b] X.env = (false, eval b X.env) :: starEach [] X.env := by rfl) (hp : (backTo pos (starEach [b] X.env)).any (·.1) = false := by rfl)
    (ne : starEach [.Call (.Name "range" p2) [a, b] [] pos] X.env = (false, eval (.Call (.Name "range" p2) [a, b] [] pos) X.env) :: starEach [] X.env := by rfl) : PE X (.Call (.Name "list" p) [.Call (.Name "range" p2) [a, b] [] pos] [] pos') (tE (gd X W) (lrgF false fa fb)) :=
  PE.imp (pe_listRg hc hg hl (prg_2 hgr hm ha hb na nb hp) ne) fun σ H Q h => rg_core (t := false) h
theorem e_trg2 (hc : X.calm = true) (hl : X.mg "tuple" = none) (hm : X.mg "range" = none) (ha : PE X a (tE (gd X W) fa)) (hb : PE X b (tE (gd X W) fb)) (hg : Gl X "tuple" := by rfl) (hgr : Gl X "range" := by rfl)
    (na : starEach [a, b] X.env = (false, eval a X.env) :: starEach [b] X.env := by rfl) (nb : starEach [b] X.env = (false, eval b X.env) :: starEach [] X.env := by rfl) (hp : (backTo pos (starEach [b] X.env)).any (·.1) = false := by rfl)
    (ne : starEach [.Call (.Name "range" p2) [a, b] [] pos] X.env = (false, eval (.Call (.Name "range" p2) [a, b] [] pos) X.env) :: starEach [] X.env := by rfl) : PE X (.Call (.Name "tuple" p) [.Call (.Name "range" p2) [a, b] [] pos] [] pos') (tE (gd X W) (lrgF true fa fb)) :=
  PE.imp (pe_tupRg hc hg hl (prg_2 hgr hm ha hb na nb hp) ne) fun σ H Q h => rg_core (t := true) h
end
end VL
namespace VL
open PySem
variable [TbP]
/-- the first statement of a class's body -/
def inSt (s : Stmt) : Stmt := match s with
  | .ClassDef _ _ _ (b :: _) _ _ _ _ _ _ _ => b
  | _ => .Pass ⟨0, 0, 0, 0⟩
end VL




set_option Elab.async false
set_option linter.all false
set_option maxRecDepth 100000
set_option maxHeartbeats 4000000
/-! EX8: in a suite: a comparison, 'and'. -/
namespace VL
open PySem PySem.Spec PyProof.Rows L2
variable [TbP]
section
variable {X : Cx} {W : WX} {J : JT} {a b : Expr} {rest : List Expr} {fa fb : EF} {pos : Pos} {g : G2} {r : R2}
theorem opJ_sound {G : Gd} (S : Stb G.K J) (hA : OpA G.K r g) {σ : L2.St} {H : Hp} {Q : VK} (h : tEJ J G (opF g fa fb) σ H Q) : tOp r (tEJ J G fa) (tEJ J G fb) σ H Q := by
  obtain ⟨A, env, rel, j, h⟩ := h
  refine ⟨A, env, rel, j, (Post.bind h).imp fun r1 e1 A1 H1 s1 h1 v1 hv1 => ?_⟩
  refine ⟨A1, e1, s1.rel, S _ _ _ _ _ _ _ j rel s1, (Post.bind h1).imp fun r2 e2 A2 H2 s2 h2 v2 hv2 => ?_⟩
  have hv1' := hv1.step s1.rel s2
  cases q1 : rd e2 r1 with
  | none => rw [q1] at h2; exact h2.elim
  | some x =>
    cases q2 : rd e2 r2 with
    | none => rw [q1, q2] at h2; exact h2.elim
    | some y =>
      rw [q1, q2] at h2
      dsimp only at h2
      unfold out1 at h2
      cases q3 : g x y with
      | none => rw [q3] at h2; exact h2.elim
      | some z =>
        rw [q3] at h2
        exact hA A2 H2 x y v1 v2 z Q s2.rel.dom q3 (hv1'.rq s2.rel q1) (hv2.rq s2.rel q2) fun v' H' sm hz => fin1 (s1.trans s2) h2 sm hz
theorem j_cmp {op : CmpOp} (S : Stb X.K J) (h : CmpR X op g) (ha : PE X a (tEJ J (gd X W) fa)) (hb : PE X b (tEJ J (gd X W) fb)) (hm : behindInMarks op b = false := by first | exact nomark _ | rfl) : PE X (.Compare a [op] [b] pos) (tEJ J (gd X W) (opF g fa fb)) := by
  obtain ⟨r, h1, h2⟩ := h.ex
  exact PE.imp (pe_cmpR h1 ha hb hm) fun σ H Q h => opJ_sound (G := gd X W) S h2 h
theorem j_one {op} (ha : PE X a (tEJ J (gd X W) fa)) : PE X (.BoolOp op [a] pos) (tEJ J (gd X W) fa) := pe_one ha
theorem j_and (S : Stb X.K J) (ha : PE X a (tEJ J (gd X W) fa)) (hb : PE X (.BoolOp .And (b :: rest) pos) (tEJ J (gd X W) fb)) : PE X (.BoolOp .And (a :: b :: rest) pos) (tEJ J (gd X W) (andE fa fb)) :=
  PE.imp (pe_andT ha hb) fun σ H Q h => by
    obtain ⟨A, env, rel, j, h⟩ := h
    refine ⟨A, env, rel, j, (Post.bind h).imp fun r e1 A1 H1 s1 h1 v hv => ?_⟩
    obtain ⟨k, t, h2⟩ := truR_ok s1.rel hv h1
    refine ⟨k, t, ?_⟩
    cases k with
    | true => exact ⟨A1, e1, s1.rel, S _ _ _ _ _ _ _ j rel s1, h2.later s1⟩
    | false => exact h2 A1 H1 (.refl s1.rel) v hv
theorem c_neU (hu : X.A.units + 64 < cLine) : CmpR X .NotEq neG := ⟨_, op_neD hu, ne_A⟩
theorem c_leU : CmpR X .LtE leG := ⟨_, op_le, cmpI_A⟩
theorem c_gtU : CmpR X .Gt gtG := ⟨_, op_gt, cmpI_A⟩
theorem c_geU : CmpR X .GtE geG := ⟨_, op_ge, cmpI_A⟩
theorem c_isU : CmpR X .Is (isG false) := ⟨_, op_isN.or op_is_bl, is_A⟩
end
end VL


set_option Elab.async false
set_option linter.all false
set_option maxRecDepth 100000
set_option maxHeartbeats 4000000
/-! EX9: a chain of three comparisons -/
namespace VL
open PySem PySem.Spec PyProof.Rows L2
variable [TbP]
section
variable {X : Cx} {W : WX} {a b c d : Expr} {ta tb tc td : TE} {fa fb fc fd : EF} {pos : Pos} {r r' r'' : R2} {g g' g'' : G2}
/-- a op1 b op2 c op3 d -/
def tChain3 (r r' r'' : R2) (ta tb tc td : TE) : TE := fun σ H Q => ta σ H fun x H1 => tb σ H1 fun y H2 => r x y H2 fun z H3 => ∃ k, z = .bl k ∧
  (if k = true then tc σ H3 fun w H4 => r' y w H4 fun z' H5 => ∃ k', z' = .bl k' ∧ (if k' = true then td σ H5 fun u H6 => r'' w u H6 Q else Q (.bl false) H5) else Q (.bl false) H3)
theorem pe_chain3 {op op' op'' : CmpOp} (ho : OpR X (compareOp op) r) (ho' : OpR X (compareOp op') r') (ho'' : OpR X (compareOp op'') r'') (ha : PE X a ta) (hb : PE X b tb) (hc : PE X c tc) (hd : PE X d td)
    (hm : lastMarks [op, op', op''] [b, c, d] = false := by with_unfolding_all rfl) : PE X (.Compare a [op, op', op''] [b, c, d] pos) (tChain3 r r' r'' ta tb tc td) := by
  refine ⟨fun pins s σ H Q I h => ?_⟩
  refine Compare_chain (thn (ha.run pins s σ H _ I h) fun v s1 ⟨x, H1, I1, r1, q1⟩ => chain_link (thn (hb.run pins s1 σ H1 _ I1 q1) fun u s2 ⟨y, H2, I2, r2, q2⟩ =>
    thn (ho pins s2 σ H2 x y v u _ I2 r1 r2 q2) fun d s3 ⟨z, H3, I3, r3, k, e, q3⟩ => ?_)) hm
  subst e
  cases r3
  refine wpAny_truthy_bool ?_
  cases k with
  | false => exact ite_ff ⟨.bl false, H3, I3, rfl, q3⟩
  | true =>
    refine ite_tt (chain_link (thn (hc.run pins s3 σ H3 _ I3 q3) fun w' s4 ⟨z', H4, I4, r4, q4⟩ => thn (ho' pins s4 σ H4 y z' u w' _ I4 r2 r4 q4) fun d s5 ⟨z2, H5, I5, r5, k2, e2, q5⟩ => ?_))
    subst e2
    cases r5
    refine wpAny_truthy_bool ?_
    cases k2 with
    | false => exact ite_ff ⟨.bl false, H5, I5, rfl, q5⟩
    | true => exact ite_tt (chain_last (thn (hd.run pins s5 σ H5 _ I5 q5) fun w2 s6 ⟨z3, H6, I6, r6, q6⟩ => ho'' pins s6 σ H6 z' z3 w' w2 Q I6 r4 r6 q6))
theorem pt_chain3 {op op' op'' : CmpOp} (ho : OpR X (compareOp op) r) (ho' : OpR X (compareOp op') r') (ho'' : OpR X (compareOp op'') r'') (ha : PE X a ta) (hb : PE X b tb) (hc : PE X c tc) (hd : PE X d td)
    (hm : lastMarks [op, op', op''] [b, c, d] = false := by with_unfolding_all rfl) : PT X (.Compare a [op, op', op''] [b, c, d] pos) (tTest (tChain3 r r' r'' ta tb tc td)) := by
  refine ⟨fun pins s σ H Q I h => ?_⟩
  refine isTrue_chain (thn (ha.run pins s σ H _ I h) fun v s1 ⟨x, H1, I1, r1, q1⟩ => test_link (thn (hb.run pins s1 σ H1 _ I1 q1) fun u s2 ⟨y, H2, I2, r2, q2⟩ =>
    thn (ho pins s2 σ H2 x y v u _ I2 r1 r2 q2) fun d s3 ⟨z, H3, I3, r3, k, e, q3⟩ => ?_)) hm
  subst e
  cases r3
  refine wpAny_truthy_bool ?_
  cases k with
  | false =>
    obtain ⟨k', e', q'⟩ := q3
    cases e'
    exact ite_ff ⟨H3, I3, q'⟩
  | true =>
    refine ite_tt (test_link (thn (hc.run pins s3 σ H3 _ I3 q3) fun w' s4 ⟨z', H4, I4, r4, q4⟩ => thn (ho' pins s4 σ H4 y z' u w' _ I4 r2 r4 q4) fun d s5 ⟨z2, H5, I5, r5, k2, e2, q5⟩ => ?_))
    subst e2
    cases r5
    refine wpAny_truthy_bool ?_
    cases k2 with
    | false =>
      obtain ⟨k', e', q'⟩ := q5
      cases e'
      exact ite_ff ⟨H5, I5, q'⟩
    | true =>
      refine ite_tt (test_last (thn (hd.run pins s5 σ H5 _ I5 q5) fun w2 s6 ⟨z3, H6, I6, r6, q6⟩ => thn (ho'' pins s6 σ H6 z' z3 w' w2 _ I6 r4 r6 q6) fun d' s7 ⟨z4, H7, I7, r7, k3, e3, q7⟩ => ?_))
      subst e3
      cases r7
      exact wpAny_truthy_bool ⟨H7, I7, q7⟩
/-- the rest of a chain behind a value -/
def lnkF (g : G2) (r1 : Rv) (fb : EF) (k : Rv → EF) : EF := fun env => (fb env).bind fun r2 e2 => match rd e2 r1, rd e2 r2 with
  | some x, some y => (match g x y with
    | some (.sh (.bool true)) => k r2 e2
    | some (.sh (.bool false)) => .ok (.sh (.bool false)) e2
    | _ => .no)
  | _, _ => .no
def lstF' (g : G2) (r1 : Rv) (fb : EF) : EF := fun env => (fb env).bind fun r2 e2 => match rd e2 r1, rd e2 r2 with
  | some x, some y => out1 (g x y) e2
  | _, _ => .no
def ch3F (g g' g'' : G2) (fa fb fc fd : EF) : EF := fun env => (fa env).bind fun r1 e1 => lnkF g r1 fb (fun r2 => lnkF g' r2 fc (fun r3 => lstF' g'' r3 fd)) e1
theorem lnk_step {G : Gd} {A0 A1 : AS} {σ : L2.St} {H H1 : Hp} {env0 e1 : En} {r1 : Rv} {v1 : V} {k : Rv → EF} {Q P : VK} {F1 : Addr → Prop} (hA : OpA G.K r g) (s1 : Stp G.K A0 σ H env0 A1 σ H1 e1) (hv1 : RvOk G.K A1 σ H1 e1 F1 r1 v1) (h1 : Post G A1 σ H1 e1 (lnkF g r1 fb k e1) (EQ G σ H Q))
    (K : ∀ A2 H2 e2 r2 v2 (F : Addr → Prop), Stp G.K A0 σ H env0 A2 σ H2 e2 → RvOk G.K A2 σ H2 e2 F r2 v2 → Post G A2 σ H2 e2 (k r2 e2) (EQ G σ H Q) → P v2 H2) :
    tE G fb σ H1 fun y H2 => r v1 y H2 fun z H3 => ∃ b, z = .bl b ∧ (if b = true then P y H3 else Q (.bl false) H3) := by
  refine ⟨A1, e1, s1.rel, (Post.bind h1).imp fun r2 e2 A2 H2 s2 h2 v2 hv2 => ?_⟩
  have hv1' := hv1.step s1.rel s2
  cases q1 : rd e2 r1 with
  | none => rw [q1] at h2; exact h2.elim
  | some x =>
    cases q2 : rd e2 r2 with
    | none => rw [q1, q2] at h2; exact h2.elim
    | some y =>
      rw [q1, q2] at h2
      dsimp only at h2
      cases q3 : g x y with
      | none => rw [q3] at h2; exact h2.elim
      | some z =>
        rw [q3] at h2
        refine hA A2 H2 x y v1 v2 z _ s2.rel.dom q3 (hv1'.rq s2.rel q1) (hv2.rq s2.rel q2) fun v' H' sm hz => ?_
        cases z with
        | sh d =>
          cases d with
          | bool k' =>
            have ev : v' = .bl k' := hz
            refine ⟨k', ev, ?_⟩
            have s3 := Stp.same s2.rel sm
            cases k' with
            | false => exact h2 A2 H' s3 (.bl false) (rp_bl (K := G.K) (A := A2) (H := H'))
            | true =>
              rw [if_pos rfl]
              dsimp only at h2
              have h3 : Post G A2 σ H' e2 (k r2 e2) (EQ G σ H Q) := by
                cases q5 : k r2 e2 with
                | ok r e => rw [q5] at h2; exact fun A' H'' s => h2 A' H'' (s3.trans s)
                | ex x e => rw [q5] at h2; exact fun A' H'' c d s => h2 A' H'' c d (s3.trans s)
                | no => rw [q5] at h2; exact h2
              exact K A2 H' e2 r2 v2 _ ((s1.trans s2).trans s3) (hv2.step s2.rel s3) h3
          | _ => exact h2.elim
        | _ => exact h2.elim
theorem lst_step {G : Gd} {A0 A1 : AS} {σ : L2.St} {H H1 : Hp} {env0 e1 : En} {r1 : Rv} {v1 : V} {Q : VK} {F1 : Addr → Prop} (hA : OpA G.K r g) (s1 : Stp G.K A0 σ H env0 A1 σ H1 e1) (hv1 : RvOk G.K A1 σ H1 e1 F1 r1 v1) (h1 : Post G A1 σ H1 e1 (lstF' g r1 fb e1) (EQ G σ H Q)) :
    tE G fb σ H1 fun y H2 => r v1 y H2 Q := by
  refine ⟨A1, e1, s1.rel, (Post.bind h1).imp fun r2 e2 A2 H2 s2 h2 v2 hv2 => ?_⟩
  have hv1' := hv1.step s1.rel s2
  cases q1 : rd e2 r1 with
  | none => rw [q1] at h2; exact h2.elim
  | some x =>
    cases q2 : rd e2 r2 with
    | none => rw [q1, q2] at h2; exact h2.elim
    | some y =>
      rw [q1, q2] at h2
      dsimp only at h2
      unfold out1 at h2
      cases q3 : g x y with
      | none => rw [q3] at h2; exact h2.elim
      | some o =>
        rw [q3] at h2
        exact hA A2 H2 x y v1 v2 o Q s2.rel.dom q3 (hv1'.rq s2.rel q1) (hv2.rq s2.rel q2) fun v' H'' sm' hz' => fin1 (s1.trans s2) h2 sm' hz'
theorem ch3F_sound {G : Gd} (hA : OpA G.K r g) (hA' : OpA G.K r' g') (hA'' : OpA G.K r'' g'') {σ : L2.St} {H : Hp} {Q : VK} (h : tE G (ch3F g g' g'' fa fb fc fd) σ H Q) : tChain3 r r' r'' (tE G fa) (tE G fb) (tE G fc) (tE G fd) σ H Q := by
  obtain ⟨A, env, rel, h⟩ := h
  refine ⟨A, env, rel, (Post.bind h).imp fun r1 e1 A1 H1 s1 h1 v1 hv1 => ?_⟩
  exact lnk_step hA s1 hv1 h1 fun A2 H2 e2 r2 v2 F s2 hv2 h2 => lnk_step hA' s2 hv2 h2 fun A3 H3 e3 r3 v3 F' s3 hv3 h3 => lst_step hA'' s3 hv3 h3
variable {k : Nat} {op op' op'' : CmpOp}
theorem ech3 (h : CmpR X op g) (h' : CmpR X op' g') (h'' : CmpR X op'' g'') (ha : PE X a (tE (gd X W) fa)) (hb : PE X b (tE (gd X W) fb)) (hc : PE X c (tE (gd X W) fc)) (hd : PE X d (tE (gd X W) fd)) (hm : lastMarks [op, op', op''] [b, c, d] = false := by with_unfolding_all rfl) :
    PE X (.Compare a [op, op', op''] [b, c, d] pos) (tE (gd X W) (ch3F g g' g'' fa fb fc fd)) := by
  obtain ⟨r, h1, h2⟩ := h.ex
  obtain ⟨r', h3, h4⟩ := h'.ex
  obtain ⟨r'', h5, h6⟩ := h''.ex
  exact PE.imp (pe_chain3 h1 h3 h5 ha hb hc hd hm) fun _ _ _ h => ch3F_sound (G := gd X W) h2 h4 h6 h
theorem tch3 (h : CmpR X op g) (h' : CmpR X op' g') (h'' : CmpR X op'' g'') (ha : PE X a (tE (gd X W) fa)) (hb : PE X b (tE (gd X W) fb)) (hc : PE X c (tE (gd X W) fc)) (hd : PE X d (tE (gd X W) fd)) (hm : lastMarks [op, op', op''] [b, c, d] = false := by with_unfolding_all rfl) :
    PT X (.Compare a [op, op', op''] [b, c, d] pos) (tT (gd X W) (boolF (ch3F g g' g'' fa fb fc fd))) := by
  obtain ⟨r, h1, h2⟩ := h.ex
  obtain ⟨r', h3, h4⟩ := h'.ex
  obtain ⟨r'', h5, h6⟩ := h''.ex
  exact PT.imp (pt_chain3 h1 h3 h5 ha hb hc hd hm) fun _ _ _ h => ch3F_sound (G := gd X W) h2 h4 h6 (boolF_sound h)
end
end VL


set_option Elab.async false
set_option linter.all false
set_option maxRecDepth 100000
set_option maxHeartbeats 4000000
/-! EX10: in a suite: an expression statement, append. -/
namespace VL
open PySem PySem.Spec PyProof.Rows L2
variable [TbP]
theorem muJ_core {J : JT} {G : Gd} {A1 : AS} {σ : L2.St} {H H1 : Hp} {e1 : En} {T : String} {g : GM} {fs : AF} {r : Rv} {v : V} {rr : V → List V → Hp → VK → Prop} {Q : VK} {P : Prop} {A : AS} {env : En} (hA : MuA G.K rr g) (s1 : Stp G.K A σ H env A1 σ H1 e1) (j1 : J A1 σ H1)
    (hv : RvOk G.K A1 σ H1 e1 (fun a => H a = none) r v)
    (h1 : Post G A1 σ H1 e1 (match r with
      | .bo i => (match mutS e1 i with
        | some d0 => if tyD d0 = T then (fs e1).bind fun rs e2 => (match frzAll e2 rs with
          | some (ds, e3) => (match mutS e3 i with
            | some d => (match g d ds with
              | some (res, d') => .ok (.sh res) (mutP e3 i d')
              | none => .no)
            | none => .no)
          | none => .no) else .no
        | none => .no)
      | _ => .no) (EQ G σ H Q)) (ht : ∀ (A1 : AS) (e1 : En), Rel G.K A1 σ H1 e1 → (∃ i, r = .bo i ∧ ∃ d0, mutS e1 i = some d0 ∧ tyD d0 = T ∧ L2.tyV G.K T v H1) →
        tAJ J G fs σ H1 (fun xs H2 => rr v xs H2 Q) → P) : P := by
  cases r with
  | sh d => exact h1.elim
  | tm d => exact h1.elim
  | bo i =>
    dsimp only at h1
    obtain ⟨hs, _⟩ := hv
    cases q0 : mutS e1 i with
    | none => rw [q0] at h1; exact h1.elim
    | some d0 =>
      rw [q0] at h1
      dsimp only at h1
      by_cases c : tyD d0 = T
      · rw [if_pos c] at h1
        obtain ⟨a, ea, na, ob⟩ := s1.rel.ow i d0 (mutS_own q0)
        rw [hs] at ea; cases ea
        refine ht A1 e1 s1.rel ⟨i, rfl, d0, q0, c, c ▸ ob.tyV⟩ ⟨A1, e1, s1.rel, j1, Post.cut h1 fun rs e2 A2 H2 s2 h2 vs hvs => ?_⟩
        cases q : frzAll e2 rs with
        | none => rw [q] at h2; exact h2.elim
        | some p =>
          obtain ⟨ds, e3⟩ := p
          rw [q] at h2
          dsimp only at h2
          obtain ⟨A3, s3, f3, rpl⟩ := frzAll_ok s2 (fun _ z => z) hvs q
          cases q2 : mutS e3 i with
          | none => rw [q2] at h2; exact h2.elim
          | some d =>
            rw [q2] at h2
            dsimp only at h2
            cases q3 : g d ds with
            | none => rw [q3] at h2; exact h2.elim
            | some p =>
              obtain ⟨res, d'⟩ := p
              rw [q3] at h2
              obtain ⟨b, eb, nb, ob3⟩ := s3.rel.ow i d (mutS_own q2)
              rw [hs] at eb; cases eb
              refine hA A3 H2 a d ds vs res d' Q nb ob3 rpl q3 fun o w ob' rp => ?_
              exact h2 A3 _ (s3.mut q2 hs ob') w rp
      · rw [if_neg c] at h1; exact h1.elim
section
variable {X : Cx} {W : WX} {o e : Expr} {es : List Expr} {f : EF} {fs : AF} {name : Str} {apos cpos : Pos} {T id : String} {r : V → List V → Hp → VK → Prop} {g : GM}
theorem j_mu {J : JT} (S : Stb X.K J) (pa : PlainAttrs T) (slot : PySem.Slot T name id) (hty : typeOf (.builtin id) = pure (.type "method_descriptor")) (hm : MtR X id r) (hA : MuA X.K r g) (ho : PE X o (tEJ J (gd X W) f)) (ha : PA X (e :: es) (tAJ J (gd X W) fs))
    (hbase : attributeBase o name X.env (eval o X.env) = eval o X.env := by rfl)
    (hfew : ((backTo cpos (starEach (e :: es) X.env)).all (fun x => !x.1) && (backToKw cpos (keywordEach [] X.env)).all (fun x => x.1.isSome)
      && decide ((e :: es).length + ([] : List Keyword).length + (if ([] : List Keyword).isEmpty then 0 else 1) < 30)) = true := by rfl)
    (hline : (apos.endLine == cpos.line) = true := by rfl) (hs : starEach (e :: es) X.env = (false, eval e X.env) :: starEach es X.env := by rfl) (hplain : (backTo cpos (starEach es X.env)).any (·.1) = false := by rfl) :
    PE X (.Call (.Attribute o name apos) (e :: es) [] cpos) (tEJ J (gd X W) (muF T g f fs)) :=
  PE.imp (pe_bm pa slot hty hm ho ha hbase hfew hline hs hplain) fun σ H Q h => by
    obtain ⟨A, env, rel, j, h⟩ := h
    refine ⟨A, env, rel, j, Post.imp (Post.bind h) fun r1 e1 A1 H1 s1 h1 v hv => ?_⟩
    exact muJ_core (G := gd X W) hA s1 (S _ _ _ _ _ _ _ j rel s1) hv h1 fun A1 e1 rel1 ⟨i, _, d0, _, _, ty⟩ h => ⟨ty, h⟩
theorem j_append {J : JT} (S : Stb X.K J) (ho : PE X o (tEJ J (gd X W) f)) (ha : PA X [e] (tAJ J (gd X W) fs))
    (hbase : attributeBase o "append" X.env (eval o X.env) = eval o X.env := by rfl)
    (hfew : ((backTo cpos (starEach [e] X.env)).all (fun x => !x.1) && (backToKw cpos (keywordEach [] X.env)).all (fun x => x.1.isSome)
      && decide ([e].length + ([] : List Keyword).length + (if ([] : List Keyword).isEmpty then 0 else 1) < 30)) = true := by rfl)
    (hline : (apos.endLine == cpos.line) = true := by rfl) (hs : starEach [e] X.env = (false, eval e X.env) :: starEach [] X.env := by rfl) (hplain : (backTo cpos (starEach [] X.env)).any (·.1) = false := by rfl) :
    PE X (.Call (.Attribute o "append" apos) [e] [] cpos) (tEJ J (gd X W) (muF "list" appG f fs)) := j_mu S PySem.F.plainAttrs_list PySem.F.slot_list_append PySem.F.type_list_append mt_append app_A ho ha hbase hfew hline hs hplain
theorem s_exprJ {J : JT} {fe : EF} {pos : Pos} (he : PE X e (tEJ J (gd X W) fe)) (hs : swapsWith e none pos.line X.env = pure false := by rfl) : PS X (.Expr e pos) (tSJ J (gd X W) (exprF fe)) := PS.imp (ps_expr he hs) fun Z σ H h => by
  obtain ⟨A, env, rel, j, h⟩ := h
  exact ⟨A, env, rel, j, SPost.cut h fun r e1 A1 H1 s1 h1 v hv => h1 A1 σ H1 s1⟩
end
end VL


set_option Elab.async false
set_option linter.all false
set_option maxRecDepth 100000
set_option maxHeartbeats 4000000
/-! EX11: for over a list handed in that is not frozen by it (read turn by turn). -/
namespace VL
open PySem PySem.Spec PyProof.Rows L2
variable [TbP]
def fLGo (i : Nat) (t : GF) (fb : SF) : Nat → Nat → En → Rb
  | 0, _, _ => .no
  | n + 1, k, e => match e[i]? with
    | some (.io (.list ds)) => (match ds[k]? with
      | some d => (match t d e with
        | some e1 => (match fb e1 with
          | .nx e2 => fLGo i t fb n (k + 1) e2
          | .ct e2 => fLGo i t fb n (k + 1) e2
          | .bk e2 => .nx e2
          | r => r)
        | none => .no)
      | none => .nx e)
    | _ => .no
def isIoL (env : En) (i : Nat) : Option (List D) := match env[i]? with
  | some (.io (.list ds)) => some ds
  | _ => none
theorem isIoL_ok {env : En} {i : Nat} {ds : List D} (h : isIoL env i = some ds) : env[i]? = some (.io (.list ds)) := by
  unfold isIoL at h
  split at h
  · rename_i q; cases h; exact q
  · cases h
def forM (i : Nat) (t : GF) (fb : SF) : SF := fun env => match isIoL env i with
  | some ds => fLGo i t fb (ds.length + 1) 0 env
  | none => forF (itF (nmF i)) t fb env
section
variable {X : Cx} {W : WX} {tg : Expr} {x : Str} {p : Pos} {body : List Stmt} {i : Nat} {g : TG} {t : GF} {vs : List Nat} {fb : SF} {pos : Pos}
theorem s_forM (hp : PassesOwn (model X.prog X.w) X.A X.env X.xe) (hc : X.calm = true) (hn : PE X (.Name x p) (tE (gd X W) (nmF i))) (hg : PG X tg g) (ht : TgOk (gd X W) g t vs) (hb : PSs X body (tS (gd X W) fb)) (hs : ∀ v, foldedSetIterable (.Name x p) X.env v = pure v := by intro _; rfl) :
    PS X (.For tg (.Name x p) body [] pos) (tS (gd X W) (forM i t fb)) := by
  have F := s_for (pos := pos) hp hc (i_it (tg := tg) hn) hg ht hb hs
  have Lv := ps_for hp hc (pi_list (tg := tg) hn) hg hb hs (pos := pos)
  refine ⟨fun pins s σ H D I h => ?_⟩
  obtain ⟨A, env, rel, h⟩ := h
  cases q : isIoL env i with
  | none =>
    refine F.run pins s σ H D I ⟨A, env, rel, ?_⟩
    unfold forM at h
    rw [q] at h
    exact h
  | some ds =>
    have eq0 := isIoL_ok q
    refine Lv.run pins s σ H D I ?_
    unfold forM at h
    rw [q] at h
    dsimp only at h
    refine ⟨A, env, rel, ?_⟩
    have nm : nmF i env = .ok (.bo i) env := by unfold nmF; rw [eq0]
    rw [nm]
    intro A1 H1 s1 v hv
    obtain ⟨hv1, _⟩ := hv
    obtain ⟨a, ea, na, ob⟩ := s1.rel.ow i (.list ds) (.inr eq0)
    rw [hv1] at ea
    cases ea
    obtain ⟨xs, hx, _⟩ := ob
    refine ⟨a, rfl, ⟨xs, .inl (.inl hx)⟩, ?_⟩
    refine ⟨fun k m σ' H' => ∃ A' e', Stp X.K A σ H env A' σ' H' e' ∧ SPost (gd X W) A σ H env (fLGo i t fb m k e') D, ⟨ds.length + 1, A1, env, s1, h⟩, ?_⟩
    rintro k m σ' H' ⟨A', e', st, q1⟩
    cases m with
    | zero => exact q1.elim
    | succ m =>
      unfold fLGo at q1
      cases q2 : e'[i]? with
      | none => rw [q2] at q1; exact q1.elim
      | some sl =>
        rw [q2] at q1
        cases sl with
        | io d =>
          cases d with
          | list ds' =>
            dsimp only at q1
            obtain ⟨es, _⟩ := st.io i (.list ds) (.inl eq0)
            obtain ⟨b, eb, nb, ob'⟩ := st.rel.ow i (.list ds') (.inr q2)
            rw [es, hv1] at eb
            cases eb
            obtain ⟨ys, hy, rp⟩ := ob'
            have sq : SqL X.K H' a ys := .inl (.inl hy)
            cases q3 : ds'[k]? with
            | none =>
              rw [q3] at q1
              refine .inl ⟨⟨ys, sq, ?_⟩, q1 A' σ' H' st⟩
              have := List.getElem?_eq_none_iff.mp q3
              have := rp.length
              omega
            | some d =>
              rw [q3] at q1
              dsimp only at q1
              have hlt := (List.getElem?_eq_some_iff.mp q3).1
              have hl := rp.length
              refine .inr ⟨⟨ys, ys[k]'(by omega), sq, List.getElem?_eq_getElem (by omega)⟩, fun σ3 H3 => ∃ A3 e3, Stp X.K A σ H env A3 σ3 H3 e3 ∧ SPost (gd X W) A σ H env (fLGo i t fb m (k + 1) e3) D, fun σ3 H3 z => ⟨m, Nat.lt_succ_self m, z⟩, fun y H2 hyl => ?_⟩
              obtain ⟨rfl, hyk⟩ := hyl
              have e1 := hyk ys sq
              obtain ⟨d', e2, rpd⟩ := rp.at' e1
              rw [q3] at e2
              cases e2
              cases q4 : t d e' with
              | none => rw [q4] at q1; exact q1.elim
              | some e2 =>
                rw [q4] at q1
                dsimp only at q1
                refine ht A A' σ σ' H H2 env e' e2 d y _ st rpd q4 fun σ2 s2 _ _ => ⟨A', e2, s2.rel, ?_⟩
                cases q5 : fb e2 with
                | nx e3 =>
                  rw [q5] at q1
                  exact fun A3 σ3 H3 s3 => ⟨A3, e3, s2.trans s3, q1⟩
                | ct e3 =>
                  rw [q5] at q1
                  exact fun A3 σ3 H3 s3 => ⟨A3, e3, s2.trans s3, q1⟩
                | bk e3 =>
                  rw [q5] at q1
                  exact fun A3 σ3 H3 s3 => q1 A3 σ3 H3 (s2.trans s3)
                | rt r e3 =>
                  rw [q5] at q1
                  exact SPost.move (Z := { D with nx := _, ct := _, bk := _ }) s2 (show SPost (gd X W) A σ H env (.rt r e3) { D with nx := _, ct := _, bk := _ } from q1)
                | ex x e3 =>
                  rw [q5] at q1
                  exact SPost.move (Z := { D with nx := _, ct := _, bk := _ }) s2 (show SPost (gd X W) A σ H env (.ex x e3) { D with nx := _, ct := _, bk := _ } from q1)
                | no => rw [q5] at q1; exact q1.elim
          | _ => exact q1.elim
        | _ => exact q1.elim
end
end VL


set_option Elab.async false
set_option linter.all false
set_option maxRecDepth 100000
set_option maxHeartbeats 4000000
/-! EX12: facts of a head that writes no such dict. -/
namespace VL
open PySem PySem.Spec PyProof.Rows L2 HDK
variable [TbP]
abbrev AlN : Type := He.AlD × Bool × Bool × List InV
def obsNK (P : Program) (z : Wd) (l : List Er) (K : Frag) : AlN := (He.obsD z.fa z.fn K, z.gl.all (glB K), l.all (errB P K l), l.map fun r => inObs K r.c)
def valN (z : Wd) (l : List Er) (_ : World) : AlN := (He.valD z.fn, true, true, l.map Er.val)
def obsN (n : Nat) (P : Program) (z : Wd) (l : List Er) (g : Addr → Option Obj) : AlN := obsNK P z l (He.frG g (asY g n))
def hookN (n : Nat) (P : Program) (z : Wd) (l : List Er) : PySem.W.Hook where
  α := AlN
  obs := fun s => obsN n P z l s.heap.get?
  val := valN z l
  says := fun w h => ∃ K : Frag, K.In h ∧ obsNK P z l K = valN z l w
  of := fun _ _ e => ⟨_, He.frG_in, e⟩
  keeps := fun _ _ _ ⟨K, hK, c⟩ k => ⟨K, PySem.W.Frag.In.keeps hK k, c⟩
theorem obsN_eq {n : Nat} {P : Program} {z : Wd} {l : List Er} {g : Addr → Option Obj} {s : Shared} (h : ∀ a, g a = s.heap.get? a) : obsN n P z l g = (hookN n P z l).obs s := by
  have e : g = s.heap.get? := funext h
  rw [e] <;> rfl
structure SaysN (P : Program) (z : Wd) (l : List Er) (w : World) (K : Frag) : Prop where
  d : He.SaysD z.fa z.fn K
  g : ∀ p ∈ z.gl, glB K p = true
  e : ∀ r ∈ l, errB P K l r = true
  o : ∀ r ∈ l, inObs K r.c = r.val
theorem saysN_of {P : Program} {z : Wd} {l : List Er} {w : World} {K : Frag} (e : obsNK P z l K = valN z l w) : SaysN P z l w K := by
  have e1 : He.obsD z.fa z.fn K = He.valD z.fn := congrArg (fun a : AlN => a.1) e
  have e2 : z.gl.all (glB K) = true := congrArg (fun a : AlN => a.2.1) e
  have e3 : l.all (errB P K l) = true := congrArg (fun a : AlN => a.2.2.1) e
  have e4 : (l.map fun r => inObs K r.c) = l.map Er.val := congrArg (fun a : AlN => a.2.2.2) e
  exact ⟨e1, fun p hp => List.all_eq_true.mp e2 p hp, fun r hr => List.all_eq_true.mp e3 r hr, fun r hr => List.map_inj_left.mp e4 r hr⟩
section
variable {P : Program} {z : Wd} {l : List Er} {w : World} {K : Frag} {h : Heap} {mg : Str → Option Value}
theorem SaysN.here (s : SaysN P z l w K) (X : K.In h) (G : h.Ns mainGlobals mg) (i j : Nat) {x : Str} {st : Stmt} {ps : List Str} 
    (b : ∀ (kV doc pm : Value) (an : Option Addr) (cdv ct : Value) (us : List Value), us.length = ps.length → bindArgs (PySem.W.fnOf x x (defArgs st) (defBody st) (defScope st) .none kV doc pm an cdv ct) ⟨us, []⟩ = pure (ps.zip us)) (e1 : z.fn[i]? = some ⟨(x, none), x, x, defArgs st, defBody st, defScope st, [], []⟩ := by rfl) (e2 : z.fa[j]? = some (.glo x) := by rfl) : HereG K mg x st ps := by
  obtain ⟨fd, F⟩ := s.d.def_ i e1
  exact HereG.of (He.glo_ok X G (s.d.fact j e2)) F b
theorem SaysN.free (s : SaysN P z l w K) (X : K.In h) (G : h.Ns mainGlobals mg) (j : Nat) {x : Str} (e : z.fa[j]? = some (.free x) := by rfl) : mg x = none := He.free_ok X G (s.d.fact j e)
theorem SaysN.gl (s : SaysN P z l w K) (X : K.In h) (G : h.Ns mainGlobals mg) (j : Nat) {x : Str} {d : D} (e : z.gl[j]? = some (x, d) := by rfl) : GlD K mg x d := glB_ok (p := (x, d)) X G (s.g _ (List.mem_of_getElem? e))
theorem SaysN.err (s : SaysN P z l w K) (X : K.In h) (G : h.Ns mainGlobals mg) (hT : ∀ r ∈ l, ErOk P r) : ErrS P K mg (ctOf l) := err_ok X G hT s.e s.o
end
theorem SaysN.hereK {P : Program} {z : Wd} {w : World} {K : Frag} {h : Heap} {mg : Str → Option Value} {l : List Er} (s : SaysN P z l w K) (X : K.In h) (G : h.Ns mainGlobals mg) (i j : Nat) {x : Str} {st : Stmt} {ps : List Str}
    (b : ∀ (kV doc pm : Value) (an : Option Addr) (cdv ct : Value) (us : List Value), us.length = ps.length → bindArgs (PySem.W.fnOf x x (defArgs st) (defBody st) (defScope st) .none kV doc pm an cdv ct) ⟨[], ps.zip us⟩ = pure (ps.zip us)) (e1 : z.fn[i]? = some ⟨(x, none), x, x, defArgs st, defBody st, defScope st, [], []⟩ := by rfl) (e2 : z.fa[j]? = some (.glo x) := by rfl) : HereK K mg x st ps := by
  obtain ⟨fd, F⟩ := s.d.def_ i e1
  exact HereK.of (He.glo_ok X G (s.d.fact j e2)) F b
theorem law_endN {l : PySem.W.OpenLaw} {n k m : Nat} {q P : Program} {loose : List Str} {d : DefRec} {Z : Wd} {L : List Er} {F : FD}
    (hn : l.most = some n) (hn2 : n ≤ sizeLine) (hdf : d.params.defaults = []) (hr : Room k callerA) (hname : d.name = ("law" : Str))
    (D : ∀ (w : World) (K : Frag) (mg : Str → Option Value) (h : Heap), K.In h → h.Ns mainGlobals mg → SaysN P Z L w K → ∀ base : Heap, DefG l.prog w K mg base k "law" 1 F)
    (hF : ∀ ns : List Int, ns.length ≤ n → ∃ own ss, F [.sh (.list (ns.map PyData.int))] = .ret own (.bool true) ss) (hT : TbP.T = [] := by rfl) :
    PySem.W.WalkO q loose (PySem.W.XL q []) (hookN m P Z L).says l.row.toRowW d [] (fun f vs => PySem.call f vs) :=
  Att.attach_call hn hdf fun w _ s₁ mg _ fa _ _ _ _ a vs ns G Y _ _ _ hmg hobj hints hlen hg => by
    obtain ⟨K, KX, e⟩ := Y
    have S := saysN_of e
    obtain ⟨f0, fd0, ps0, FG0, hm0, hk0, hb0, hl0⟩ := (D w K mg _ KX G.T.g S s₁.heap).ex
    rw [hname, hm0] at hmg
    cases hmg
    refine lawG' KX G.T.g G.T.b G.T.builtins G.T.nolimit hg hobj hints (Nat.le_trans hlen hn2) hr hm0 (fun base hB hN => (D w K mg _ KX G.T.g S base)) fun H hO hS => ?_
    obtain ⟨own, ss, hF⟩ := hF ns hlen
    exact sp_law hO hS hF hT
end VL


set_option Elab.async false
set_option linter.all false
set_option maxRecDepth 100000
set_option maxHeartbeats 4000000
/-! EX13: list.extend of a list that is not changed any more; str of an int. -/
namespace VL
open PySem PySem.Spec PyProof.Rows L2
variable [TbP]
theorem ext_meets (l : Addr) (items : Array Value) (n : Nat) (b : Addr) (items2 : Array Value) (n2 : Nat) (sl : Array (Option Value)) (hc0 : ¬(!items.isEmpty && Builtin.List.listTooLong (items.size + items2.size)) = true) (hc1 : items.size ≤ sizeLine) (hs2 : items.size + items2.size ≤ sizeLine + 1) :
    Meets (Builtin.«list.extend» ⟨[.ref l, .ref b], []⟩) (fun _ R s => s.heap.get? l = some { cls := .type "list", dict := none, data := .seq items n, slots := #[] } ∧ s.heap.get? b = some { cls := .type "list", dict := none, data := .seq items2 n2, slots := sl } ∧ R (.ok (.ret Value.none)) { s with heap := s.heap.update l (Obj.mapSeq fun x => x ++ items2), toks := s.toks }) :=
  .of_wp fun prog w A R s h => by
    obtain ⟨hp, g, d, tk, os⟩ := s; obtain ⟨hl, hb, h⟩ := h; have f1 := AutoSeq1.idx_int; have f2 := AutoSeq1.sub_tuple_tuple; have f3 := AutoSeq1.sub_list_list; have f4 := AutoSeq1.sub_tuple_list; have f5 := AutoSeq1.sub_list_tuple;
    have hz' : (items ++ items2).size ≤ sizeLine + 1 := by rw [Array.size_append]; exact hs2
    wp_walk using (wpAny_updateSeq hl rfl (hz := hc1) (_hz' := hz')), AutoSeq1.wpAny_loadPart' hl, AutoSeq1.wpAny_loadPart' hb; exact ⟨_, rfl, h⟩
def rExtS (K : Frag) : V → List V → Hp → VK → Prop := fun x vs H Q => ∃ l b xs zs, x = .ref l ∧ vs = [.ref b] ∧ H l = some (.lst xs) ∧ SqL K H b zs ∧ xs.length + zs.length ≤ sizeLine ∧ Q .non (upd H l (.lst (xs ++ zs)))
theorem mt_extS {X : Cx} : MtM X "list.extend" (rExtS X.K) := by
  intro pins s σ H x vs v us Q I rx rv h
  obtain ⟨l, b, xs, zs, rfl, rfl, hH, hB, hz, q⟩ := h
  cases rx
  obtain ⟨u, rfl, ru⟩ := rv.one
  cases ru
  obtain ⟨z, its, n, r, hl, e⟩ := I.lstM hH
  obtain ⟨its2, r2, ⟨⟨c, di, da, sl⟩, n2, e2, e3, e4, e5⟩, hl2⟩ := I.list hB
  simp only at e3 e4 e5
  subst e3; subst e4; subst e5
  have q2 := r2.length
  have hsz : its.toArray.size + its2.toArray.size ≤ sizeLine := by rw [List.size_toArray, List.size_toArray]; omega
  have hlong : ¬ (!its.toArray.isEmpty && Builtin.List.listTooLong (its.toArray.size + its2.toArray.size)) = true := by
    rw [notLongL hsz, Bool.and_false]
    exact Bool.false_ne_true
  refine call_meets F.slot_list_extend ⟨_, e, rfl⟩ F.entry_list_extend (F.args_list_extend_2 _ _)
    (ext_meets l its.toArray n b its2.toArray n2 sl hlong (by rw [List.size_toArray]; omega) (by omega)) ⟨e, e2, ?_⟩
  refine ⟨.non, _, I.lset (its' := its ++ its2) hH e (by simp) (r.append r2) ?_, rfl, q⟩
  rw [List.length_append]
  omega
def extG : GM
  | .list ds, [.list es] => if ds.length + es.length ≤ LIM then some (.none, .list (ds ++ es)) else none
  | _, _ => none
theorem ext_A {K : Frag} : MuA K (rExtS K) extG := by
  intro A H a d ds xs res d' Q na ob rl e q
  match d, ds, e, ob with
  | .list l, [.list es], e, ob =>
    dsimp only [extG] at e
    by_cases c : l.length + es.length ≤ LIM
    · rw [if_pos c] at e
      cases e
      obtain ⟨ys, ea, r⟩ := ob
      obtain ⟨v, t, rfl, h1, h2⟩ := rl.inv_cons
      rw [h2.inv_nil]
      obtain ⟨b, zs, rfl, lk, rz⟩ := h1.lst
      have kp : Kp A H (upd H a (.lst (ys ++ zs))) := Kp.upd ea na fun z => z
      exact ⟨a, b, ys, zs, rfl, rfl, ea, lk.sq, by rw [← r.length, ← rz.length, lim_eq]; exact c, q _ _ ⟨_, upd_same, (r.append rz).mono (fun _ z => z) kp⟩ rp_non⟩
    · rw [if_neg c] at e; cases e
section
variable {X : Cx} {W : WX} {o e : Expr} {f : EF} {fs : AF} {apos cpos : Pos}
theorem e_extend (ho : PE X o (tE (gd X W) f)) (ha : PA X [e] (tA (gd X W) fs))
    (hbase : attributeBase o "extend" X.env (eval o X.env) = eval o X.env := by rfl)
    (hfew : ((backTo cpos (starEach [e] X.env)).all (fun x => !x.1) && (backToKw cpos (keywordEach [] X.env)).all (fun x => x.1.isSome)
      && decide ([e].length + ([] : List Keyword).length + (if ([] : List Keyword).isEmpty then 0 else 1) < 30)) = true := by rfl)
    (hline : (apos.endLine == cpos.line) = true := by rfl) (hs : starEach [e] X.env = (false, eval e X.env) :: starEach [] X.env := by rfl) (hplain : (backTo cpos (starEach [] X.env)).any (·.1) = false := by rfl) :
    PE X (.Call (.Attribute o "extend" apos) [e] [] cpos) (tE (gd X W) (muF "list" extG f fs)) := e_mu PySem.F.plainAttrs_list PySem.F.slot_list_extend PySem.F.type_list_extend mt_extS ext_A ho ha hbase hfew hline hs hplain
end
def strIC : GC
  | [.int i] => if i.natAbs.log2 < 1920 then some (.sh (.str (toString i))) else none
  | _ => none
theorem strIC_A {K : Frag} : CbA K (fun xs H Q => ∃ i, xs = [V.int i] ∧ i.natAbs.log2 < 1920 ∧ Q (.str (toString i)) H) strIC := by
  intro A H ds vs z Q hd e hx q
  match ds, e with
  | [.int i], e =>
    dsimp only [strIC] at e
    by_cases c : i.natAbs.log2 < 1920
    · rw [if_pos c] at e
      cases e
      obtain ⟨v, rfl, h⟩ := hx.one
      rw [h.int]
      exact ⟨i, rfl, c, q _ _ (Same.refl H) rz_str⟩
    · rw [if_neg c] at e; cases e
def strC2 : GC := orC strC strIC
theorem b_str2 {X : Cx} : BI X "str" strC2 := ⟨⟨_, _, CallR.or SkE.call_str_str call_str_int, strC_A.or strIC_A, boot_str', .inr ⟨_, rfl⟩⟩, by decide, by decide⟩
end VL


set_option Elab.async false
set_option linter.all false
set_option maxRecDepth 100000
set_option maxHeartbeats 4000000
/-! EX14: dicts at run time, keys ints and texts: {}, d[k] = v, d.get, going through the keys or the pairs (the dict is locked from then on). -/
namespace VL
open PySem PySem.Spec PyProof.Rows L2
variable [TbP]
section
variable {K : Frag} {A A1 : AS} {σ σ1 : L2.St} {H H1 : Hp} {env e1 : En}
theorem Rel.notOw (rel : Rel K A σ H env) {p : Addr} (hp : H p = none) : ¬ Ow σ env p := fun z => by
  obtain ⟨_, o, eo, _⟩ := rel.owok z
  rw [hp] at eo; cases eo
theorem rk_kind : ∀ {kvs : List (D × D)} {ks : List (Key × V)}, RpK K A H kvs ks → kindT kvs = false
  | [], _, _ => rfl
  | (p1, p2) :: q, ks, h => by
    simp only [RpK] at h
    obtain ⟨k', _, _, _, rfl, _⟩ := h
    cases k' <;> rfl
theorem rt_kind : ∀ {kvs : List (D × D)} {ks : List (List Key × V)}, RpT0 K A H kvs ks → kindT kvs = true
  | [], _, h => by simp only [RpT0] at h
  | (p1, p2) :: q, ks, h => by
    simp only [RpT0] at h
    obtain ⟨rfl, _⟩ := h
    rfl
theorem RpK.length : ∀ {kvs : List (D × D)} {ks : List (Key × V)}, RpK K A H kvs ks → kvs.length = ks.length
  | [], _, h => by simp only [RpK] at h; subst h; rfl
  | (p1, p2) :: q, ks, h => by
    simp only [RpK] at h
    obtain ⟨k', v, r, rfl, _, _, t⟩ := h
    simp [RpK.length t]
theorem RpK.at' : ∀ {kvs : List (D × D)} {ks : List (Key × V)} {i : Nat} {k : Key} {v : V}, RpK K A H kvs ks → ks[i]? = some (k, v) → ∃ d, kvs[i]? = some (keyD k, d) ∧ Rp K A H d v
  | [], _, i, k, v, h, e => by simp only [RpK] at h; subst h; simp at e
  | (p1, p2) :: q, ks, i, k, v, h, e => by
    simp only [RpK] at h
    obtain ⟨k', v', r, rfl, rfl, h1, t⟩ := h
    cases i with
    | zero => simp at e; obtain ⟨rfl, rfl⟩ := e; exact ⟨p2, rfl, h1⟩
    | succ i =>
      obtain ⟨d, e1, e2⟩ := RpK.at' (i := i) t (by simpa using e)
      exact ⟨d, by simpa using e1, e2⟩
end
/-! ### {} -/
def dnewF : EF := fun env => .ok (.tm (.dict [])) env
section
variable {X : Cx} {W : WX} {pos : Pos}
theorem e_dnew : PE X (.Dict [] [] pos) (tE (gd X W) dnewF) := PE.imp pe_dnewK fun σ H Q h => by
  obtain ⟨A, env, rel, h⟩ := h
  intro p hp
  exact h A _ (Stp.same rel (same_upd hp)) (.ref p) ⟨p, rfl, fun z => rel.dom p z hp, rel.notOw hp, hp, .inl ⟨[], upd_same, by simp [RpK]⟩⟩
end
/-! ### d[k] = v -/
def dputD (kvs : List (D × D)) (k d : D) : List (D × D) :=
  if (kvs.any fun p => PyData.eqv p.1 k) = true then kvs.map (fun p => if PyData.eqv p.1 k = true then (p.1, d) else p) else kvs ++ [(k, d)]
section
variable {K : Frag} {A : AS} {H : Hp} {k : Key} {d : D} {v : V}
theorem RpK.any : ∀ {kvs : List (D × D)} {ks : List (Key × V)}, RpK K A H kvs ks → (kvs.any fun p => PyData.eqv p.1 (keyD k)) = (ks.any fun kv => decide (kv.1 = k))
  | [], _, h => by simp only [RpK] at h; subst h; rfl
  | (p1, p2) :: q, ks, h => by
    simp only [RpK] at h
    obtain ⟨k', v', r, rfl, rfl, h1, t⟩ := h
    simp only [List.any_cons, eqv_key, RpK.any t]
theorem RpK.rep (hd : Rp K A H d v) : ∀ {kvs : List (D × D)} {ks : List (Key × V)}, RpK K A H kvs ks →
    RpK K A H (kvs.map fun p => if PyData.eqv p.1 (keyD k) = true then (p.1, d) else p) (ks.map fun kv => if kv.1 = k then (kv.1, v) else kv)
  | [], _, h => by simp only [RpK] at h; subst h; simp [RpK]
  | (p1, p2) :: q, ks, h => by
    simp only [RpK] at h
    obtain ⟨k', v', r, rfl, rfl, h1, t⟩ := h
    simp only [List.map_cons, eqv_key, decide_eq_true_eq]
    by_cases e : k' = k
    · rw [if_pos e, if_pos e]
      simp only [RpK]
      exact ⟨_, _, _, rfl, rfl, hd, by simpa only [eqv_key, decide_eq_true_eq] using RpK.rep hd t⟩
    · rw [if_neg e, if_neg e]
      simp only [RpK]
      exact ⟨_, _, _, rfl, rfl, h1, by simpa only [eqv_key, decide_eq_true_eq] using RpK.rep hd t⟩
theorem RpK.app (hd : Rp K A H d v) : ∀ {kvs : List (D × D)} {ks : List (Key × V)}, RpK K A H kvs ks → RpK K A H (kvs ++ [(keyD k, d)]) (ks ++ [(k, v)])
  | [], _, h => by
    simp only [RpK] at h; subst h
    simp only [List.nil_append, RpK]
    exact ⟨_, _, _, rfl, rfl, hd, rfl⟩
  | (p1, p2) :: q, ks, h => by
    simp only [RpK] at h
    obtain ⟨k', v', r, rfl, rfl, h1, t⟩ := h
    simp only [List.cons_append, RpK]
    exact ⟨_, _, _, rfl, rfl, h1, RpK.app hd t⟩
theorem RpK.put {kvs : List (D × D)} {ks : List (Key × V)} (h : RpK K A H kvs ks) (hd : Rp K A H d v) : RpK K A H (dputD kvs (keyD k) d) (putK ks k v) := by
  unfold dputD putK
  rw [h.any]
  split
  · exact h.rep hd
  · exact h.app hd
end
def stoDG : D → D → D → Option D
  | .dict kvs, k, d => if (isKey1 k && !kindT kvs && decide (kvs.length < LIM)) = true then some (.dict (dputD kvs k d)) else none
  | _, _, _ => none
def stoDF (f fo fi : EF) : SF := fun env => (f env).st fun r e1 => (fo e1).st fun ro e2 => match ro with
  | .bo i => (fi e2).st fun ri e3 => (match rd e3 ri, frz e3 r with
    | some ix, some (d, e4) => (match mutS e4 i with
      | some d0 => (match stoDG d0 ix d with
        | some d' => .nx (mutP e4 i d')
        | none => .no)
      | none => .no)
    | _, _ => .no)
  | _ => .no
section
variable {X : Cx} {W : WX} {e o i : Expr} {f fo fi : EF} {pos tpos : Pos} {kk : Nat}
theorem s_stoD (hr : Room kk X.A) (he : PE X e (tE (gd X W) f)) (ho : PE X o (tE (gd X W) fo)) (hi : PE X i (tE (gd X W) fi))
    (ha : ∀ v, assign (.Subscript o i tpos) X.env v = (do
      let ov ← holding [v] (eval o X.env)
      let iv ← holding [v, ov] (eval i X.env)
      standAt tpos
      holding [v, ov, iv] (setItem ov iv v)
      release [v, ov, iv] []) := by intro _; rfl)
    (hs : swapsWithSole [.Subscript o i tpos] e pos.line X.env = pure false := by rfl) (hw : swappedStores [.Subscript o i tpos] e X.env = pure none := by rfl)
    (h1 : (assignEach [.Subscript o i tpos] X.env).map (·.2) = [assign (.Subscript o i tpos) X.env] := by rfl) : PS X (.Assign [.Subscript o i tpos] e pos) (tS (gd X W) (stoDF f fo fi)) :=
  PS.imp (ps_asg he (pg_sub ho hi (set_dict (room1 hr)) ha) hs hw h1) fun Z σ H h => by
    obtain ⟨A, env, rel, h⟩ := h
    refine ⟨A, env, rel, SPost.cut h fun r e1 A1 H1 s1 h1 v hv => ?_⟩
    refine ⟨A1, e1, s1.rel, SPost.cutAt s1 h1 fun ro e2 A2 H2 s2 h2 ov hov => ?_⟩
    cases ro with
    | sh d => exact h2.elim
    | tm d => exact h2.elim
    | bo j =>
      dsimp only at h2
      refine ⟨A2, e2, s2.rel, SPost.cutAt (s1.trans s2) h2 fun ri e3 A3 H3 s3 h3 iv hiv => ?_⟩
      have s23 := s2.trans s3
      have st := s1.trans s23
      cases q1 : rd e3 ri with
      | none => rw [q1] at h3; exact h3.elim
      | some ix =>
        cases q2 : frz e3 r with
        | none => rw [q1, q2] at h3; exact h3.elim
        | some p =>
          obtain ⟨d, e4⟩ := p
          rw [q1, q2] at h3
          dsimp only at h3
          have rix := hiv.rq s3.rel q1
          have hv3 := hv.step s1.rel s23
          obtain ⟨A4, s4, f4, rp, _⟩ := frz_ok st hv3 q2
          cases q3 : mutS e4 j with
          | none => rw [q3] at h3; exact h3.elim
          | some d0 =>
            rw [q3] at h3
            dsimp only at h3
            cases q4 : stoDG d0 ix d with
            | none => rw [q4] at h3; exact h3.elim
            | some d' =>
              rw [q4] at h3
              obtain ⟨a, ea, na, ob⟩ := s4.rel.ow j d0 (mutS_own q3)
              have eo : ov = .ref a := by
                have := hov.1
                rw [ea] at this
                exact (Option.some.inj (Option.some.inj this)).symm
              match d0, q4, ob with
              | .dict kvs, q4, ob =>
                dsimp only [stoDG] at q4
                by_cases c : (isKey1 ix && !kindT kvs && decide (kvs.length < LIM)) = true
                · rw [if_pos c] at q4
                  cases q4
                  simp only [Bool.and_eq_true, Bool.not_eq_true', decide_eq_true_eq] at c
                  obtain ⟨⟨c1, c2⟩, c3⟩ := c
                  obtain ⟨k, hk⟩ := Option.isSome_iff_exists.mp c1
                  have ek := key1_spec hk
                  subst ek
                  have ev : iv = kV k := by
                    cases k with
                    | inl i => exact rix.int
                    | inr z => exact rix.str
                  rcases ob with ⟨ks, ey, ry⟩ | ⟨ks, ey, ry⟩
                  · have kp : Kp A4 H3 (upd H3 a (.dK (putK ks k v))) := Kp.upd ey na fun z => z
                    exact ⟨a, _, eo, by rw [ev]; exact DPut.k ey (by rw [← ry.length, lim_eq]; exact c3), h3 A4 σ _ (s4.mut q3 ea (.inl ⟨_, upd_same, (ry.put rp).mono (fun _ z => z) kp⟩))⟩
                  · rw [rt_kind ry] at c2; cases c2
                · rw [if_neg c] at q4; cases q4
              | .list _, q4, _ => cases q4
end
/-! ### d.get(k), d.get(k, x) -/
theorem rq_isD {K : Frag} {A : AS} {H : Hp} {kvs : List (D × D)} {v : V} (h : Rq K A H (.dict kvs) v) : ∃ a, v = .ref a ∧ L2.IsD H a := by
  obtain ⟨a, rfl, h2⟩ := h.dct
  refine ⟨a, rfl, ?_⟩
  rcases h2 with ⟨ks, r, _⟩ | ⟨ks, r, _⟩
  · exact .inl ⟨ks, r⟩
  · exact .inr ⟨ks, r⟩
theorem rq_get {K : Frag} {A : AS} {H : Hp} {kvs : List (D × D)} {x : D} {vx vy : V} (c : (isKey1 x && !kindT kvs) = true) (hx : Rq K A H x vx) (hy : Rq K A H (.dict kvs) vy) : ∃ a o, vy = .ref a ∧ DGet H a vx o ∧ RpO K A H (dfind kvs x) o := by
  rw [Bool.and_eq_true] at c
  obtain ⟨c1, c2⟩ := c
  obtain ⟨a, rfl, h⟩ := hy.dct
  obtain ⟨k, hk⟩ := Option.isSome_iff_exists.mp c1
  have ek := key1_spec hk
  subst ek
  have ev : vx = kV k := by
    cases k with
    | inl i => exact hx.int
    | inr z => exact hx.str
  subst ev
  rcases h with ⟨ks, r, h⟩ | ⟨ks, r, h⟩
  · exact ⟨a, _, rfl, .inl ⟨ks, k, r, rfl, rfl⟩, h.find⟩
  · rw [rt_kind h] at c2; cases c2
def get1F (fd fy : EF) : EF := fun env => (fd env).bind fun r1 e1 => match rd e1 r1 with
  | some (.dict _) => (fy e1).bind fun r2 e2 => (match rd e2 r1, rd e2 r2 with
    | some (.dict kvs), some x => if (isKey1 x && !kindT kvs) = true then .ok (.sh ((dfind kvs x).getD .none)) e2 else .no
    | _, _ => .no)
  | _ => .no
def get2F (fd fy fx : EF) : EF := fun env => (fd env).bind fun r1 e1 => match rd e1 r1 with
  | some (.dict _) => (fy e1).bind fun r2 e2 => (fx e2).bind fun r3 e3 => (match rd e3 r1, rd e3 r2, r3 with
    | some (.dict kvs), some x, .sh y => if (isKey1 x && !kindT kvs) = true then .ok (.sh ((dfind kvs x).getD y)) e3 else .no
    | _, _, _ => .no)
  | _ => .no
section
variable {X : Cx} {W : WX} {o e f : Expr} {fd fy fx : EF} {apos cpos : Pos} {kk : Nat}
theorem e_get1 (hr : Room kk X.A) (ho : PE X o (tE (gd X W) fd)) (he : PE X e (tE (gd X W) fy)) (m : M1 X o "get" apos e cpos := by exact ⟨by rfl, by rfl, by rfl, by rfl⟩) :
    PE X (.Call (.Attribute o "get" apos) [e] [] cpos) (tE (gd X W) (get1F fd fy)) := PE.imp (pe_dget1 (room1 hr) ho he m) fun σ H Q h => by
  obtain ⟨A, env, rel, h⟩ := h
  refine ⟨A, env, rel, Post.imp (Post.bind h) fun r1 e1 A1 H1 s1 h1 v hv => ?_⟩
  cases q1 : rd e1 r1 with
  | none => rw [q1] at h1; exact h1.elim
  | some d =>
    rw [q1] at h1
    cases d with
    | dict kvs0 =>
      dsimp only at h1
      obtain ⟨a, rfl, isd⟩ := rq_isD (hv.rq s1.rel q1)
      refine ⟨a, rfl, isd, A1, e1, s1.rel, Post.imp (Post.bind h1) fun r2 e2 A2 H2 s2 h2 w hw => ?_⟩
      cases q2 : rd e2 r1 with
      | none => rw [q2] at h2; exact h2.elim
      | some d2 =>
        cases q3 : rd e2 r2 with
        | none => rw [q2, q3] at h2; cases d2 <;> exact h2.elim
        | some x =>
          rw [q2, q3] at h2
          cases d2 with
          | dict kvs =>
            dsimp only at h2
            by_cases c : (isKey1 x && !kindT kvs) = true
            · rw [if_pos c] at h2
              obtain ⟨b, ov, eb, g, ro⟩ := rq_get c (hw.rq s2.rel q3) ((hv.step s1.rel s2).rq s2.rel q2)
              cases eb
              refine ⟨ov, g, h2 A2 H2 (.refl s2.rel) _ ?_⟩
              show Rp X.K A2 H2 _ _
              cases hd : dfind kvs x with
              | none => rw [hd] at ro; cases ov with
                | none => exact rp_non
                | some _ => exact ro.elim
              | some dd => rw [hd] at ro; cases ov with
                | none => exact ro.elim
                | some _ => exact ro
            · rw [if_neg c] at h2; exact h2.elim
          | _ => exact h2.elim
    | _ => exact h1.elim
theorem e_get2 (hr : Room kk X.A) (ho : PE X o (tE (gd X W) fd)) (he : PE X e (tE (gd X W) fy)) (hf : PE X f (tE (gd X W) fx)) (m : M2 X o "get" apos e f cpos := by exact ⟨by rfl, by rfl, by rfl, by rfl⟩) :
    PE X (.Call (.Attribute o "get" apos) [e, f] [] cpos) (tE (gd X W) (get2F fd fy fx)) := PE.imp (pe_dget2 (room1 hr) ho he hf m) fun σ H Q h => by
  obtain ⟨A, env, rel, h⟩ := h
  refine ⟨A, env, rel, Post.imp (Post.bind h) fun r1 e1 A1 H1 s1 h1 v hv => ?_⟩
  cases q1 : rd e1 r1 with
  | none => rw [q1] at h1; exact h1.elim
  | some d =>
    rw [q1] at h1
    cases d with
    | dict kvs0 =>
      dsimp only at h1
      obtain ⟨a, rfl, isd⟩ := rq_isD (hv.rq s1.rel q1)
      refine ⟨a, rfl, isd, A1, e1, s1.rel, Post.imp (Post.bind h1) fun r2 e2 A2 H2 s2 h2 w hw => ?_⟩
      refine ⟨A2, e2, s2.rel, Post.imp (Post.bind h2) fun r3 e3 A3 H3 s3 h3 u hu => ?_⟩
      cases q2 : rd e3 r1 with
      | none => rw [q2] at h3; exact h3.elim
      | some d2 =>
        cases q3 : rd e3 r2 with
        | none => rw [q2, q3] at h3; cases d2 <;> exact h3.elim
        | some x =>
          rw [q2, q3] at h3
          cases r3 with
          | sh y =>
            cases d2 with
            | dict kvs =>
              dsimp only at h3
              by_cases c : (isKey1 x && !kindT kvs) = true
              · rw [if_pos c] at h3
                obtain ⟨b, ov, eb, g, ro⟩ := rq_get c ((hw.step s2.rel s3).rq s3.rel q3) (((hv.step s1.rel s2).step s2.rel s3).rq s3.rel q2)
                cases eb
                refine ⟨ov, g, h3 A3 H3 (.refl s3.rel) _ ?_⟩
                show Rp X.K A3 H3 _ _
                cases hd : dfind kvs x with
                | none => rw [hd] at ro; cases ov with
                  | none => exact hu
                  | some _ => exact ro.elim
                | some dd => rw [hd] at ro; cases ov with
                  | none => exact ro.elim
                  | some _ => exact ro
              · rw [if_neg c] at h3; exact h3.elim
            | _ => exact h3.elim
          | tm _ => cases d2 <;> exact h3.elim
          | bo _ => cases d2 <;> exact h3.elim
    | _ => exact h1.elim
end
/-! ### for k in d, for k, v in d.items() -/
def iKeysL (td : TE) : TI := fun σ H R => td σ H fun x H1 => ∃ d kvs, x = .ref d ∧ ((∃ o, H1 d = some (.frz o (.dK kvs)) ∧ R (Itk d o kvs) H1) ∨ (H1 d = some (.dK kvs) ∧ ∀ o, R (Itk d o kvs) (upd H1 d (.frz o (.dK kvs)))))
def iItemsL (td : TE) : TI := fun σ H R => td σ H fun x H1 => ∃ d kvs, x = .ref d ∧ ((∃ o, H1 d = some (.frz o (.dK kvs)) ∧ R (Iti d o kvs) H1) ∨ (H1 d = some (.dK kvs) ∧ ∀ o, R (Iti d o kvs) (upd H1 d (.frz o (.dK kvs)))))
section
variable {X : Cx} {tg e : Expr} {td : TE} {apos cpos : Pos}
theorem pi_keysL (he : PE X e td) : PI X tg e (iKeysL td) := by
  refine ⟨fun pins s σ H R I h => ?_⟩
  refine thn (he.run pins s σ H _ I h) fun u s1 ⟨x, H1, I1, rx, d, kvs, ex, q⟩ => ?_
  subst ex
  obtain rfl : u = Value.ref d := rx
  obtain ⟨o, H2, I2, hd, q⟩ : ∃ o H2, Inv X pins σ H2 s1 ∧ H2 d = some (.frz o (.dK kvs)) ∧ R (Itk d o kvs) H2 := by
    rcases q with ⟨o, hd, q⟩ | ⟨hd, q⟩
    · exact ⟨o, H1, I1, hd, q⟩
    · obtain ⟨o, I2⟩ := I1.lock hd trivial
      exact ⟨o, _, I2, upd_same, q o⟩
  obtain ⟨hs, hgd, hx, es, ep, vs, hdt, hsz, kv, hm⟩ := I2.frzK hd
  refine iter_keys hs hgd hx hdt (pi_one (tk := s1.toks) I2 _ (turn_keys _ hdt) ⟨_, Heap.get?_push_size _ rfl, rfl, ?_⟩ q)
  rw [hsz] <;> rfl
theorem pi_itemsL {elts : List Expr} {kk : Nat} {tpos : Pos} (he : PE X e td) (hbase : attributeBase e "items" X.env (eval e X.env) = eval e X.env := by rfl) (hline : (apos.endLine == cpos.line) = true := by rfl) :
    PI X (.Tuple elts kk tpos) (.Call (.Attribute e "items" apos) [] [] cpos) (iItemsL td) := by
  refine ⟨fun pins s σ H R I h => ?_⟩
  refine wpAny_Call_method (T := "dict") (id := "dict.items") hbase rfl hline F.plainAttrs_dict F.slot_dict_items F.type_dict_items (thn (he.run pins s σ H _ I h) fun u s1 ⟨x, H1, I1, rx, d, kvs, ex, q⟩ => ?_)
  subst ex
  obtain rfl : u = Value.ref d := rx
  obtain ⟨o, H2, I2', hd, q⟩ : ∃ o H2, Inv X pins σ H2 s1 ∧ H2 d = some (.frz o (.dK kvs)) ∧ R (Iti d o kvs) H2 := by
    rcases q with ⟨o, hd, q⟩ | ⟨hd, q⟩
    · exact ⟨o, H1, I1, hd, q⟩
    · obtain ⟨o, I2⟩ := I1.lock hd trivial
      exact ⟨o, _, I2, upd_same, q o⟩
  obtain ⟨hs, hgd, hx, es, ep, vs, hdt, hsz, kv, hm⟩ := I2'.frzK hd
  have hl : kvs.length = vs.length := Paired.length kv
  refine ⟨hm.dictOf.typeIs, hm.dictOf.mapOf.noDict, ?_⟩
  have I2 : Inv X pins σ H2 { s1 with heap := s1.heap.push { cls := .type "dict_items", data := .fields #[.ref d] } } := I2'.kept (t' := s1.toks) fun b ob q => Heap.get?_push_of_some _ q
  have fin : wpAny (model X.prog X.w) X.A (pyIter (.ref s1.heap.objs.size)) (PIE X pins σ (.Tuple elts kk tpos) R) X.xe { s1 with heap := s1.heap.push { cls := .type "dict_items", data := .fields #[.ref d] } } := by
    refine wpAny_pyIter_items (d := d) (knd := mixKind X.prog X.w) ⟨_, Heap.get?_push_size _ rfl, rfl, rfl⟩ (hm.push _) (pi_one (tk := s1.toks) I2 _ (turn_items _ hdt) ⟨.none, .none, ?_⟩ q)
    rw [hl]
    exact Heap.get?_push_size _ rfl
  show wpAny _ _ (callWith cpos (.builtin "dict.items") [.ref d] [] []) _ X.xe s1
  exact method_meetsIn F.slot_dict_items F.entry_dict_items rfl (PySem.evalArgs_none ⟨rfl, hm.dictOf.typeIs, F.args_dict_items_1 _, _, meets_dict_items (mixKind X.prog X.w) d hs, ⟨vs, hm.dictOf⟩, fin⟩)
end
section
variable {K : Frag} {A A1 : AS} {σ σ1 : L2.St} {H H1 : Hp} {env e1 : En}
theorem kp_lock {a : Addr} {o : Obj} {ks : List (Key × V)} (h : H a = some (.dK ks)) : Kp A H (upd H a (.frz o (.dK ks))) := fun x u ex z => by
  by_cases q : x = a
  · subst q
    rw [h] at ex; cases ex
    exact .inr (.inl ⟨trivial, o, upd_same⟩)
  · refine .inl ?_
    rw [upd_ne q]; exact ex
theorem stp_lock {a : Addr} {o : Obj} {ks : List (Key × V)} (rel : Rel K A σ H env) (hA : A a) (h : H a = some (.dK ks)) : Stp K A σ H env A σ (upd H a (.frz o (.dK ks))) env := by
  refine ⟨⟨fun _ z => z, fun x u e n => ?_, fun _ z => .inl z, fun x z => ?_, fun t p hp => tab_upd h (fun z => z) p.1 p.2 (t p hp)⟩, ⟨rel.len, fun i d z => ?_, fun i d z => ?_, rel.ap, fun x z => ?_, rel.fz, fun p hp => tab_upd h (fun z => z) p.1 p.2 (rel.tb p hp)⟩, fun _ z => .inl z, fun i d z => ⟨rfl, d, z⟩, fun _ z => z⟩
  · by_cases q : x = a
    · subst q
      rw [h] at e; cases e
      exact .inr (.inl ⟨trivial, hA, o, upd_same⟩)
    · refine .inl ?_
      rw [upd_ne q]; exact e
  · by_cases q : x = a
    · subst q; rw [upd_same]; simp
    · rw [upd_ne q]; exact z
  · obtain ⟨v, e, q⟩ := rel.sh i d z
    exact ⟨v, e, q.mono (fun _ z => z) (kp_lock h)⟩
  · obtain ⟨b, e, nb, ob⟩ := rel.ow i d z
    refine ⟨b, e, nb, ob.mono (fun _ z => z) (kp_lock h) fun o z => ?_⟩
    rw [upd_ne (fun q => nb (by rw [q]; exact hA))]; exact z
  · by_cases q : x = a
    · subst q; rw [upd_same]; simp
    · rw [upd_ne q]; exact rel.dom x z
theorem itm_keys {a : Addr} {o : Obj} {kvs : List (D × D)} {ks : List (Key × V)} (h : H a = some (.frz o (.dK ks))) (r : RpK K A H kvs ks) : Itm K A H (Itk a o ks) (kvs.map Prod.fst) :=
  ⟨_, _, by rw [List.length_map, r.length]; exact walk_keys (kvs := ks), fun A' H' fr k => (k a _ h (.inr trivial)).eq (fun z => z) fun z => z, fun i A' H' x H2 fr k y => by
    obtain ⟨rfl, kk, v, e, rfl⟩ := y
    obtain ⟨d, e1, _⟩ := r.at' e
    exact ⟨Same.refl _, keyD kk, by rw [List.getElem?_map, e1]; rfl, key_rp⟩⟩
def pairsD (kvs : List (D × D)) : List D := kvs.map fun p => PyData.tuple [p.1, p.2]
theorem itm_items {a : Addr} {o : Obj} {kvs : List (D × D)} {ks : List (Key × V)} (h : H a = some (.frz o (.dK ks))) (r : RpK K A H kvs ks) : Itm K A H (Iti a o ks) (pairsD kvs) :=
  ⟨_, _, by
    have : (pairsD kvs).length = ks.length := by simp [pairsD, r.length]
    rw [this]; exact walk_items (kvs := ks), fun A' H' fr k => (k a _ h (.inr trivial)).eq (fun z => z) fun z => z, fun i A' H' x H2 fr k y => by
    obtain ⟨T, x', y', rfl, hn, rfl, e1, e2⟩ := y
    obtain ⟨p, ep, rfl⟩ := Option.map_eq_some_iff.mp e1
    obtain ⟨p', ep', rfl⟩ := Option.map_eq_some_iff.mp e2
    rw [ep] at ep'; cases ep'
    obtain ⟨kk, v⟩ := p
    obtain ⟨d, q1, q2⟩ := (r.mono fr k).at' ep
    exact ⟨same_upd hn, .tuple [keyD kk, d], by simp [pairsD, q1], rp_pair hn key_rp q2⟩⟩
end
def keysF (f : EF) : IF := fun env => (f env).bind fun r e => match frz e r with
  | some (.dict kvs, e2) => if kindT kvs = true then .no else .ok (kvs.map Prod.fst) e2
  | _ => .no
def itemsF (f : EF) : IF := fun env => (f env).bind fun r e => match frz e r with
  | some (.dict kvs, e2) => if kindT kvs = true then .no else .ok (pairsD kvs) e2
  | _ => .no
section
variable {G : Gd} {A : AS} {σ : L2.St} {H H1 : Hp} {env e1 : En}
theorem lock_core {f : D × D → D} {kvs : List (D × D)} {A1 : AS} {r : Rv} {v : V} {e2 : En} {R : It → Hp → Prop} {Jt : Addr → Obj → List (Key × V) → It} (s1 : Stp G.K A σ H env A1 σ H1 e1) (hv : RvOk G.K A1 σ H1 e1 (fun a => H a = none) r v) (q : frz e1 r = some (.dict kvs, e2)) (c : ¬ kindT kvs = true)
    (hi : ∀ (A : AS) (H : Hp) (a : Addr) (o : Obj) (ks : List (Key × V)), H a = some (.frz o (.dK ks)) → RpK G.K A H kvs ks → Itm G.K A H (Jt a o ks) (kvs.map f))
    (h1 : ∀ A' H', Stp G.K A σ H env A' σ H' e2 → ∀ J, Itm G.K A' H' J (kvs.map f) → R J H') :
    ∃ d ks, v = .ref d ∧ ((∃ o, H1 d = some (.frz o (.dK ks)) ∧ R (Jt d o ks) H1) ∨ (H1 d = some (.dK ks) ∧ ∀ o, R (Jt d o ks) (upd H1 d (.frz o (.dK ks))))) := by
  obtain ⟨A2, s2, f2, rp, _⟩ := frz_ok s1 hv q
  simp only [Rp] at rp
  obtain ⟨a, rfl, hA, rr⟩ := rp
  rcases rr with ⟨ks, rk, rl⟩ | ⟨ks, rk, rl⟩
  · refine ⟨a, ks, rfl, ?_⟩
    rcases rk with rk | ⟨o, rk⟩
    · refine .inr ⟨rk, fun o => ?_⟩
      have sl := stp_lock (o := o) s2.rel hA rk
      exact h1 A2 _ (s2.trans sl) _ (hi A2 _ a o ks upd_same (rl.mono (fun _ z => z) (kp_lock rk)))
    · exact .inl ⟨o, rk, h1 A2 H1 s2 _ (hi A2 H1 a o ks rk rl)⟩
  · exact (c (rt_kind rl)).elim
end
section
variable {X : Cx} {W : WX} {tg e : Expr} {f : EF} {apos cpos tpos : Pos} {elts : List Expr} {kk : Nat}
theorem i_keys (h : PE X e (tE (gd X W) f)) : PI X tg e (tI (gd X W) (keysF f)) := PI.imp (pi_keysL h) fun σ H R h => by
  obtain ⟨A, env, rel, h⟩ := h
  refine ⟨A, env, rel, ?_⟩
  unfold keysF at h
  cases q0 : f env with
  | no => rw [q0] at h; exact h.elim
  | ex x e => rw [q0] at h; exact h
  | ok r1 e1 =>
    rw [q0] at h
    simp only [Rs.bind] at h
    cases q : frz e1 r1 with
    | none => rw [q] at h; exact h.elim
    | some p =>
      obtain ⟨d, e2⟩ := p
      rw [q] at h
      cases d with
      | dict kvs =>
        dsimp only at h
        by_cases c : kindT kvs = true
        · rw [if_pos c] at h; exact h.elim
        · rw [if_neg c] at h
          exact fun A1 H1 s1 v hv => lock_core (G := gd X W) s1 hv q c (fun A H a o ks z r => itm_keys z r) fun A' H' s => h A' H' s
      | _ => exact h.elim
theorem i_items (h : PE X e (tE (gd X W) f)) (hbase : attributeBase e "items" X.env (eval e X.env) = eval e X.env := by rfl) (hline : (apos.endLine == cpos.line) = true := by rfl) :
    PI X (.Tuple elts kk tpos) (.Call (.Attribute e "items" apos) [] [] cpos) (tI (gd X W) (itemsF f)) := PI.imp (pi_itemsL h hbase hline) fun σ H R h => by
  obtain ⟨A, env, rel, h⟩ := h
  refine ⟨A, env, rel, ?_⟩
  unfold itemsF at h
  cases q0 : f env with
  | no => rw [q0] at h; exact h.elim
  | ex x e => rw [q0] at h; exact h
  | ok r1 e1 =>
    rw [q0] at h
    simp only [Rs.bind] at h
    cases q : frz e1 r1 with
    | none => rw [q] at h; exact h.elim
    | some p =>
      obtain ⟨d, e2⟩ := p
      rw [q] at h
      cases d with
      | dict kvs =>
        dsimp only at h
        by_cases c : kindT kvs = true
        · rw [if_pos c] at h; exact h.elim
        · rw [if_neg c] at h
          exact fun A1 H1 s1 v hv => lock_core (G := gd X W) s1 hv q c (fun A H a o ks z r => itm_items z r) fun A' H' s => h A' H' s
      | _ => exact h.elim
end
end VL


set_option Elab.async false
set_option linter.all false
set_option maxRecDepth 100000
set_option maxHeartbeats 4000000
/-! EX15: `x(lambda: E)`, x a def that calls what it got inside of a try (turned from HandS's pe_act, pe_lamcall: with the guards told, and with the errors that E raises told by my own readings). -/
namespace VL
open PySem PySem.Spec PyProof.Rows L2 LamX
variable [TbP]
section
variable {X : Cx} {pins : List (Addr × Obj)} {σ : L2.St} {H : Hp} {s : Shared}
/-- the lambda is made: its code object is new, or found in the table -/
theorem lam_makeG {T : List (Addr × Str)} {c P : Addr} {params : Arguments} {body : Expr} {scope : Scope} {pos : Pos} {E : Value → Shared → Prop} {Q : Value → Shared → Prop} (I : Inv X pins σ H s) (TB : TabB X.base X.mg c P) (hcode : X.env.code = .ref c)
    (hm : (P, X.env.qual ++ "<lambda>") ∈ T) (hu : ∀ p ∈ T, p.1 = P → p.2 = X.env.qual ++ "<lambda>") (hT : Tabs T H) (hdef : defaultsOf params X.env = ([], [])) (hfree : ∀ y ∈ scope.names, y.2 = .free → ∃ c, X.env.cells.lookup y.1 = some c)
    (h : ∀ (f c' : Addr) (pm ctv : Value) (H1 : Hp) (s' : Shared), Inv X pins σ H1 s' → ExtN H H1 → (∀ b, H b ≠ none → H1 b ≠ none) → Tabs T H1 →
      s'.heap.get? f = some (PySem.W.kla_obj "<lambda>" (X.env.qual ++ "<lambda>") params body scope (cloFrom X.env.cells scope.names []) pm c' ctv) → H1 f = none → f ∉ frs X.stack → H1 c' = some (CodeO c' (X.env.qual ++ "<lambda>")) → Q (.ref f) s') :
    wpAny (model X.prog X.w) X.A (eval (.Lambda params body scope pos) X.env) Q E s := by
  obtain ⟨ps, hP, ht, ha⟩ := hT _ hm
  refine PySem.W.kla_eval hdef ?_
  have bP : s.heap.BuiltinsAt X.mg P := TB.bm.keeps I.bk
  have hP' : s.heap.get? P = some { cls := .none, data := .fields ps } := I.hok P _ hP
  have nofr : ∀ f, s.heap.objs.size ≤ f → f ∉ frs X.stack := fun f hf z => by
    rcases List.mem_cons.mp (I.stkSub _ z) with e | e
    · have h1 := I.lt
      rw [← e] at h1
      exact Nat.lt_irrefl _ (Nat.lt_of_lt_of_le h1 hf)
    · exact I.nofs hf e
  cases hc : codeAmong pos ps.toList with
  | none =>
    refine PySem.W.kla_makeFunction (mg := X.mg) (c := c) (P := P) (ps := ps) (closure_ok hfree) I.ok.glob (I.mod.glob.keeps I.bk) hcode (TB.code.keeps I.bk) hP' ht hc TB.gP bP fun c' ctv h' tk hx hge hlt hrec htb => ?_
    obtain ⟨c2, oc, vs, t, e2, hoc, hd, hv⟩ := hrec
    cases e2
    have hsz : s.heap.objs.size ≤ h'.objs.size := Nat.le_trans hge (Nat.le_of_lt hlt)
    have nC : H c' = none := I.hok.fresh hge
    have I1 := inv_table (t' := tk) (more := #[rawInt pos.line, rawInt pos.col, .ref c']) (h' := h'.push (PySem.W.kla_obj "<lambda>" (X.env.qual ++ "<lambda>") params body scope (cloFrom X.env.cells scope.names []) ((X.mg "__name__").getD .none) c' ctv)) I hP
      (fun b o hb e => Heap.get?_push_of_some _ (hx b o hb e)) (Heap.get?_push_of_some _ htb) hge ⟨oc, vs, t, Heap.get?_push_of_some _ hoc, hd, hv⟩
    have hE : ExtN H (upd (upd H P (.tbl (ps ++ #[rawInt pos.line, rawInt pos.col, .ref c']))) c' (CodeO c' (X.env.qual ++ "<lambda>"))) := fun b o e n => by
      rw [upd_ne (ne_of_none e nC), upd_ne (fun z => n ps (Option.some.inj (e.symm.trans (by rw [z]; exact hP))))]
      exact e
    have eL : (ps ++ #[rawInt pos.line, rawInt pos.col, .ref c']).toList = ps.toList ++ [rawInt pos.line, rawInt pos.col, .ref c'] := by simp
    refine h h'.objs.size c' ((X.mg "__name__").getD .none) ctv _ _ I1 hE (fun b nb => ?_) (fun p hp => ?_) (Heap.get?_push_size _ rfl) ?_ (nofr _ hsz) upd_same
    · by_cases q : b = c'
      · rw [q, upd_same]; simp
      · rw [upd_ne q]
        by_cases q2 : b = P
        · rw [q2, upd_same]; simp
        · rw [upd_ne q2]; exact nb
    · by_cases hb : p.1 = P
      · rw [hu p hp hb, hb]
        refine ⟨_, by rw [upd_ne (ne_of_none hP nC), upd_same], by rw [eL]; exact PySem.TriplesOk_snoc _ _ _ _ ht, fun p' cv hcv => ?_⟩
        rw [eL] at hcv
        rcases among_app _ ht hcv with z | z
        · obtain ⟨c0, e1, e2⟩ := ha p' cv z
          exact ⟨c0, e1, hE _ _ e2 codeO_ne⟩
        · exact ⟨c', z, upd_same⟩
      · obtain ⟨ps', a1, a2, a3⟩ := hT p hp
        refine ⟨ps', by rw [upd_ne (ne_of_none a1 nC), upd_ne hb]; exact a1, a2, fun p' cv hcv => ?_⟩
        obtain ⟨c0, e1, e2⟩ := a3 p' cv hcv
        exact ⟨c0, e1, hE _ _ e2 codeO_ne⟩
    · have n1 : h'.objs.size ≠ c' := Nat.ne_of_gt hlt
      have n2 : h'.objs.size ≠ P := Nat.ne_of_gt (Nat.lt_of_lt_of_le (Heap.lt_size hP') hsz)
      rw [upd_ne n1, upd_ne n2]
      exact I.hok.fresh hsz
  | some cv =>
    obtain ⟨c', e, hco⟩ := ha pos cv hc
    subst e
    refine PySem.W.kla_makeFunctionHit (mg := X.mg) (c := c) (P := P) (ps := ps) (closure_ok hfree) I.ok.glob (I.mod.glob.keeps I.bk) hcode (TB.code.keeps I.bk) hP' ht hc bP fun ctv h' tk hx hsz => ?_
    have I1 : Inv X pins σ H { s with heap := h'.push (PySem.W.kla_obj "<lambda>" (X.env.qual ++ "<lambda>") params body scope (cloFrom X.env.cells scope.names []) ((X.mg "__name__").getD .none) c' ctv), toks := tk } := I.kept fun b o e => Heap.get?_push_of_some _ (hx b o e)
    exact h h'.objs.size c' ((X.mg "__name__").getD .none) ctv H _ I1 (ExtN.refl H) (fun _ z => z) hT (Heap.get?_push_size _ rfl) (I.hok.fresh hsz) (nofr _ hsz) hco
end
theorem lam_takes {X : Cx} {A : Around} {outer : List Env} {s : Shared} {H : Hp} {E : XK} {scope : Scope} {f c' : Addr} : Takes (lamCx X A outer s H E scope f c') (fun cls d _ H' => E cls d H') :=
  takes_of rfl rfl rfl rfl
section
variable {X : Cx} {pins : List (Addr × Obj)} {σ : L2.St} {H HZ : Hp} {s s1 : Shared}
theorem pe_actG {CXg : CXT} {Eg : XK} {Ng : List Str} {qg : Str} {sg : Scope} {g f c' : Addr} {cdg pm ctv : Value} {params : Arguments} {body : Expr} {scope : Scope} {k i : Nat} {a : Str} {pn : List (Addr × Obj)} {xe : Value → Shared → Prop} {W : WX} {E : XK} {tb : TE} {p1 p2 : Pos} (hgd : X.A.guards = some [])
    (I : Inv X pins σ H s) (L : LamS X.env.scope scope) (hf : s.heap.get? f = some (PySem.W.kla_obj "<lambda>" (X.env.qual ++ "<lambda>") params body scope (cloFrom X.env.cells scope.names []) pm c' ctv)) (hfn : H f = none) (hfr : f ∉ frs X.stack)
    (hbind : bindArgs (PySem.W.kla_fn "<lambda>" (X.env.qual ++ "<lambda>") params body scope (cloFrom X.env.cells scope.names []) pm (.ref c') ctv) ⟨[], []⟩ = pure [])
    (tk : Takes ((cxOf CXg X.prog X.w X.K X.mg X.base Ng qg sg g cdg X.A X.stack s H Eg).tr pn xe) W) (hW : ∀ cls d σ' H', E cls d H' → W cls d σ' H') (hr : Room (k + 1) (X.A.deeper (envOfC qg sg s.heap.objs.size g cdg)))
    (hbody : ∀ (A : Around) (outer : List Env) (s : Shared) (H : Hp), Room k (A.deeper (lamEnv X scope s.heap.objs.size f c')) → (A.deeper (lamEnv X scope s.heap.objs.size f c')).guards = some [] → PE (lamCx X A outer s H E scope f c') body tb)
    (hN : Ng[i]? = some a) (hv : Vis sg a) (hd : (a == ("__debug__" : Str)) = false := by decide) (hcd : (a == ("__classdict__" : Str)) = false := by decide) :
    PE ((cxOf CXg X.prog X.w X.K X.mg X.base Ng qg sg g cdg X.A X.stack s H Eg).tr pn xe) (.Call (.Name a p1) [] [] p2)
      (fun σZ HZ Q => σZ[i]? = some (some (.ref f)) ∧ HZ c' = some (CodeO c' (X.env.qual ++ "<lambda>")) ∧ tb σ HZ Q) := by
  refine ⟨fun pinsZ sZ σZ HZ Q IZ h => ?_⟩
  obtain ⟨hs, hc, ht⟩ := h
  refine wpAny_Call_Name_kw (thn ((pe_var (pos := p1) (i := i) hN hv hd hcd).run pinsZ sZ σZ HZ (fun v H1 => v = .ref f ∧ H1 = HZ) IZ ⟨.ref f, hs, rfl, rfl⟩) fun u s1 ⟨v, H1, I1, r1, q1⟩ => ?_)
  obtain ⟨ev, eH⟩ := q1
  subst ev
  rw [eH] at I1
  obtain rfl : u = Value.ref f := r1
  have of1 : s1.heap.get? f = some (PySem.W.kla_obj "<lambda>" (X.env.qual ++ "<lambda>") params body scope (cloFrom X.env.cells scope.names []) pm c' ctv) := I1.base.keep f _ hf hfn hfr (fun z => nomatch (show f ∈ ([] : List Addr) from z))
  refine PySem.W.callWith_F0 ⟨_, _, _, _, of1⟩ ?_
  have un : Un (frs X.stack) [] H HZ s.heap s1.heap := I1.base
  obtain ⟨⟨oc, vs, t, hoc, hdc, hvc⟩, _, _⟩ := I1.hok c' _ hc
  have rc : codeAny (model X.prog X.w) (X.A.deeper (envOfC qg sg s.heap.objs.size g cdg)) (.call (.ref f) ⟨[], []⟩) (CR (L2.CX X.prog X.w) (envOfC qg sg s.heap.objs.size g cdg :: X.stack) X.prog X.w HZ s1 Q E) s1 := by
    refine PySem.W.kla_callFunE hr.depth of1 rfl L.co L.gen rfl ⟨c', oc, vs, t, rfl, hoc, hdc, hvc⟩ ?_
    rw [hbind]
    refine wpAny_pure (wpAny_newFunctionEnv (fun y hy => (L.own y hy).2) (fun y hy => absurd hy (by simp)) (fun h₁ hns hsb => ⟨I1.nolimit.fresh _ hsb, ?_⟩) L.kind)
    show codeAny _ _ (.expr body (lamEnv X scope s1.heap.objs.size f c')) _ _
    have kp : ∀ b o, s1.heap.get? b = some o → h₁.get? b = some o := fun b o e => hsb.extBut b o (Nat.ne_of_lt (Heap.lt_size e)) (Heap.get?_push_of_some _ e)
    have J : Inv (lamCx X (X.A.deeper (envOfC qg sg s.heap.objs.size g cdg)) (envOfC qg sg s.heap.objs.size g cdg :: X.stack) s1 HZ E scope f c') [] σ HZ { s1 with heap := h₁, toks := s1.toks + ([] : List (Str × Value)).length } :=
      lam_start2 I L I1.env0 hr.hd un hns kp
    refine PySem.W.kla_codeExpr (wpAny_mono ((hbody _ _ s1 HZ (hr.deeper _) hgd).run [] _ _ HZ Q J ht) (fun v s' hq => ?_) fun e s' hq => hq)
    obtain ⟨w', H', J', rv, q⟩ := hq
    exact ⟨w', H', J'.os, J'.bare, J'.base, J'.hok, rv, q⟩
  have hx : Passes (L2.CX X.prog X.w) ((cxOf CXg X.prog X.w X.K X.mg X.base Ng qg sg g cdg X.A X.stack s H Eg).tr pn xe) E := passes_call tk hW
  refine wpAny_call (codeAny_mono rc fun r s' hq => ?_)
  cases r with
  | error e => exact hx pinsZ σZ HZ s1 e s' I1 hq
  | ok fl =>
    cases fl with
    | ret u => exact I1.after hq
    | next => exact False.elim hq
    | brk => exact False.elim hq
    | cont => exact False.elim hq
end
def tLamG (T : List (Addr × Str)) (TT : (XK → Hp → VK → Prop) → Hp → VK → Prop) (t : XK → TE) : TE := fun σ H Q => Tabs T H ∧ ∀ H1, ExtN H H1 → (∀ b, H b ≠ none → H1 b ≠ none) → Tabs T H1 → TT (fun E H' Q' => t E σ H' Q') H1 Q
section
variable {X : Cx}
/-- x(lambda: body) -/
theorem pe_lamcallG {T : List (Addr × Str)} {TT : (XK → Hp → VK → Prop) → Hp → VK → Prop} {x a : Str} {g c P : Addr} {k : Nat} {pg : Arguments} {bg : List Stmt} {sg : Scope} {dV kV doc pm cdv ct oc : Value} {an od : Option Addr} {osl : Array (Option Value)} {Ng : List Str}
    {params : Arguments} {body : Expr} {scope : Scope} {t : XK → TE} {p lpos pos : Pos} (hgd : X.A.guards = some []) (hg : Gl X x) (hm : X.mg x = some (.ref g)) (hk : PySem.W.keepIn X.K (.ref g) = true)
    (lk : X.K.lookup g = some ⟨oc, od, .func (PySem.W.fnOf x x pg bg sg dV kV doc pm an cdv ct), osl⟩) (hcg : PySem.W.codeIn X.K cdv x = true) (hb : L2.Binds X.K (PySem.W.fnOf x x pg bg sg dV kV doc pm an cdv ct) [a] []) (Sg : FnScope Ng [a] sg) (hNg : Ng[0]? = some a) (hva : Vis sg a)
    (hG : GivesTo X Ng x sg g cdv bg a (X.env.qual ++ "<lambda>") TT)
    (TB : TabB X.base X.mg c P) (hcode : X.env.code = .ref c) (hmT : (P, X.env.qual ++ "<lambda>") ∈ T) (hu : ∀ p ∈ T, p.1 = P → p.2 = X.env.qual ++ "<lambda>") (hr : Room (k + 2) X.A) (L : LamS X.env.scope scope) (hdef : defaultsOf params X.env = ([], []))
    (hbind : ∀ (q : Str) (cl : List (Str × Addr)) (pm cv ctv : Value), bindArgs (PySem.W.kla_fn "<lambda>" q params body scope cl pm cv ctv) ⟨[], []⟩ = pure [])
    (hbody : ∀ (A : Around) (outer : List Env) (s : Shared) (H : Hp) (E : XK) (f c' : Addr), Room k (A.deeper (lamEnv X scope s.heap.objs.size f c')) → (A.deeper (lamEnv X scope s.heap.objs.size f c')).guards = some [] → PE (lamCx X A outer s H E scope f c') body (t E))
    (hdb : (x == ("__debug__" : Str)) = false := by decide) (hd : (a == ("__debug__" : Str)) = false := by decide) (hcd : (a == ("__classdict__" : Str)) = false := by decide) :
    PE X (.Call (.Name x p) [.Lambda params body scope lpos] [] pos) (tLamG T TT t) := by
  refine ⟨fun pins s σ H Q I h => ?_⟩
  obtain ⟨hT, h⟩ := h
  refine wpAny_Call_Name_kw (ld_glob I hg hm ?_ hdb)
  refine PySem.W.callWith_K (h₀ := X.base) I.ok.mod.kin hk ?_ (by rfl) (by rfl)
  show wpAny _ _ (spliced ((false, eval (.Lambda params body scope lpos) X.env) :: backTo pos (starEach [] X.env))) _ _ s
  refine Calls.spliced_cons (lam_makeG I TB hcode hmT hu hT hdef (L.has I.ok) fun f c' pm' ctv H1 s' I1 eN eA T1 hf hfn hfr hco => ?_)
  refine Calls.spliced_nil ⟨I1.kIn, ?_⟩
  have rc : codeAny (model X.prog X.w) X.A (.call (.ref g) ⟨[.ref f], []⟩) (CR C8.CX0 X.stack X.prog X.w H1 s' Q C8.E0) s' := by
    refine run_ofS (N := Ng) (ps := [a]) (us := [.ref f]) (vs := [.ref f]) lk hcg Sg hr I1.env0 (hb s' [.ref f] I1.kIn rfl) (.cons rfl .nil) rfl fun hr' => ?_
    obtain ⟨t', ht', hq'⟩ := hG f c' s' H1 Q (fun E H' Q' => t E σ H' Q') (fun W pn xe E p1 p2 tk hW => pe_actG (i := 0) hgd I1 L hf hfn hfr (hbind _ _ _ _ _) tk hW hr' (fun A outer s H hr2 hg2 => hbody A outer s H E f c' hr2 hg2) hNg hva hd hcd) hco (h H1 eN eA T1)
    exact ⟨t', ht'.nox, hq'⟩
  refine wpAny_call (codeAny_mono rc fun r s2 hq => ?_)
  cases r with
  | error e => exact (show False from hq).elim
  | ok fl =>
    cases fl with
    | ret u => exact I1.after hq
    | next => exact False.elim hq
    | brk => exact False.elim hq
    | cont => exact False.elim hq
end
end VL


set_option Elab.async false
set_option linter.all false
set_option maxRecDepth 100000
set_option maxHeartbeats 4000000
/-! EX16: the meaning of `x(lambda: E)`, x a def `try: return (w, call()) except C as e: ..`. -/
namespace VL
open PySem PySem.Spec PyProof.Rows L2 LamX
variable [TbP]
section
variable {K : Frag} {A A' : AS} {σ σi σi' : L2.St} {H H' H1 : Hp} {env ui ei : En}
/-- a lambda is made: tables grow, all else stays -/
theorem stp_lam (rel : Rel K A σ H env) (n : ExtN H H1) (al : ∀ b, H b ≠ none → H1 b ≠ none) (t : Tabs TbP.T H1) : Stp K A σ H env A σ H1 env := by
  have up : ∀ a o, H a = some o → H1 a = some o ∨ (TbO o ∧ H1 a ≠ none) := fun a o e => by
    by_cases c : TbO o
    · exact .inr ⟨c, al a (by rw [e]; simp)⟩
    · exact .inl (n a o e fun ps z => by subst z; exact c trivial)
  have kp : Kp A H H1 := fun a o e _ => (up a o e).imp id .inr
  refine ⟨⟨fun _ z => z, fun a o e _ => (up a o e).imp id .inr, fun _ z => .inl z, al, fun _ => t⟩, ⟨rel.len, fun i d z => ?_, fun i d z => ?_, rel.ap, fun x z => al x (rel.dom x z), rel.fz, t⟩, fun _ z => .inl z, fun i d z => ⟨rfl, d, z⟩, fun _ z => z⟩
  · obtain ⟨v, e, q⟩ := rel.sh i d z
    exact ⟨v, e, q.mono (fun _ z => z) kp⟩
  · obtain ⟨b, e, nb, ob⟩ := rel.ow i d z
    obtain ⟨o0, e0, nx⟩ := ob.some
    refine ⟨b, e, nb, ob.mono (fun _ z => z) kp fun o z => (up b o z).resolve_right fun w => ?_⟩
    rw [e0] at z; cases z
    cases o0 <;> first | exact nx trivial | exact w.1
/-- what another frame that owns nothing did -/
theorem Stp.outer (s : Stp K A σi H ui A' σi' H' ei) (ri : Rel K A σi H ui) (no : ∀ a, ¬ Ow σi ui a) (rel : Rel K A σ H env) : Stp K A σ H env A' σ H' env := by
  have kp : Kp A H H' := s.ext.kp ri
  refine ⟨⟨s.ext.fr, fun a o e _ => s.ext.keep a o e (no a), fun a z => (s.ext.old a z).imp id fun w => w.elim .inl fun w => (no a w).elim, s.ext.al, s.ext.tab⟩,
    ⟨rel.len, fun i d z => ?_, fun i d z => ?_, rel.ap, s.rel.dom, fun i d z => let ⟨a, e, w⟩ := rel.fz i d z; ⟨a, e, s.ext.fr a w⟩, s.rel.tb⟩, fun _ z => .inl z, fun i d z => ⟨rfl, d, z⟩, fun _ z => z⟩
  · obtain ⟨v, e, q⟩ := rel.sh i d z
    exact ⟨v, e, q.mono s.ext.fr kp⟩
  · obtain ⟨b, e, nb, ob⟩ := rel.ow i d z
    obtain ⟨o0, e0, nx⟩ := ob.some
    have nb' : ¬ A' b := fun w => by
      rcases s.ext.old b w with w | w | w
      · exact nb w
      · rw [e0] at w; cases w
      · exact no b w
    exact ⟨b, e, nb', ob.mono s.ext.fr kp fun o z => s.ext.keepA z (no b) nb' (by rw [e0] at z; cases z; exact nx)⟩
end
def unE (n : Nat) : En := List.replicate n .un
theorem un_get {n j : Nat} {s : Sl} (h : (unE n)[j]? = some s) : s = .un := by
  unfold unE at h
  rw [List.getElem?_replicate] at h
  split at h
  · exact (Option.some.inj h).symm
  · cases h
theorem un_own {n j : Nat} {d : D} : ¬ isOwn (unE n) j d := fun h => by
  rcases h with h | h <;> cases un_get h
theorem un_ow {σ : L2.St} {n : Nat} (a : Addr) : ¬ Ow σ (unE n) a := fun ⟨_, ⟨_, h⟩, _⟩ => un_own h
theorem rel_un {K : Frag} {A : AS} {σ : L2.St} {H : Hp} {n : Nat} (l : σ.length = n) (dom : ∀ a, A a → H a ≠ none) (tb : Tabs TbP.T H) : Rel K A σ H (unE n) := by
  refine ⟨by rw [l]; simp [unE], fun i d h => ?_, fun i d h => (un_own h).elim, fun i j a ⟨⟨_, h⟩, _⟩ => (un_own h).elim, dom, fun i d h => ?_, tb⟩
  · rcases h with h | h <;> cases un_get h
  · cases un_get h
theorem takes_len {X : Cx} {W : WX} (t : Takes X W) : Takes X (fun cls d σ H => σ.length = X.N.length → W cls d σ H) := fun u s' ⟨a, B, sI, pins, σ, H, cls, d, e, I, nb, up, sky, na, os, ag, w⟩ =>
  t u s' ⟨a, B, sI, pins, σ, H, cls, d, e, I, nb, up, sky, na, os, ag, w I.len⟩
/-- what the handlers do with an error that the lambda let out -/
def EchH (K : Frag) (mg : Str → Option Value) (CT : Ct) (n i : Nat) (cs : List (Str × (Xc → SF))) (Q : VK) : XK := fun cls d H' => ∃ (A : AS) (x : Xc), (∀ a, A a → H' a ≠ none) ∧ Tabs TbP.T H' ∧ XOk ⟨K, mg, WN⟩ A H' x cls d ∧
  ∀ σ' : L2.St, σ'.length = n → SPost ⟨K, mg, WN⟩ A σ' H' (unE n) (hdl CT i cs x (unE n)) { nx := fun _ H'' => Q .non H'', rt := Q }
def THeard (K : Frag) (mg : Str → Option Value) (CT : Ct) (n i : Nat) (cs : List (Str × (Xc → SF))) (w : Str) : (XK → Hp → VK → Prop) → Hp → VK → Prop := fun tl H Q =>
  ∀ Ech : XK, (∀ cls d H', EchH K mg CT n i cs Q cls d H' → Ech cls d H') → tl Ech H (fun v H' => [V.str w, v].length ≤ sizeLine ∧ ∀ T, H' T = none → Q (.ref T) (upd H' T (.tup [.str w, v])))
theorem heard_gives {X : Cx} {CT : Ct} {i j p6 : Nat} {Ng : List Str} {x a q w : Str} {sg : Scope} {g : Addr} {cdg : Value} {h0 : ExceptHandler} {hds : List ExceptHandler} {cs : List (Str × (Xc → SF))} {p1 p2 p3 p5 p7 p8 : Pos} (S : ErrS X.prog X.K X.mg CT) (hN : Ng.Nodup) (hst : ∀ f : Addr, (L2.start Ng [V.ref f])[0]? = some (some (V.ref f))) (hsl : ∀ f : Addr, (L2.start Ng [V.ref f]).length = Ng.length)
    (hh : ∀ (s : Shared) (H : Hp), ClV (cxOf C8.CX0 X.prog X.w X.K X.mg X.base Ng x sg g cdg X.A X.stack s H C8.E0).nox CT i (h0 :: hds) cs) :
    GivesTo X Ng x sg g cdg [.Try [.Return (some (.Tuple [.Constant (.str w) j p5, .Call (.Name a p1) [] [] p2] p6 p7)) p3] (h0 :: hds) [] [] p8] a q (THeard X.K X.mg CT Ng.length i cs w) := by
  intro f c' s H Q tl act hc h
  obtain ⟨l, cl, kk⟩ := ClV.cls (X := (cxOf C8.CX0 X.prog X.w X.K X.mg X.base Ng x sg g cdg X.A X.stack s H C8.E0).nox) S (hh s H)
  refine ⟨_, pss_one (ps_tries (X := (cxOf C8.CX0 X.prog X.w X.K X.mg X.base Ng x sg g cdg X.A X.stack s H C8.E0).nox) (Wo := fun _ _ _ _ => False)
      (tb := fun W D σ H => σ[0]? = some (some (.ref f)) ∧ H c' = some (CodeO c' q) ∧ tl (fun cls d H' => ∀ σ' : L2.St, σ'.length = Ng.length → W cls d σ' H') H (fun v H' => [V.str w, v].length ≤ sizeLine ∧ ∀ T, H' T = none → D.rt (.ref T) (upd H' T (.tup [.str w, v]))))
      rfl rfl hN LamX.takes0 (fun W pn xe tk _ => ?_) cl), ?_⟩
  · have tk2 := takes_len tk
    have hp := act (fun cls d σ' H' => σ'.length = Ng.length → W cls d σ' H') pn xe (fun cls d H' => ∀ σ' : L2.St, σ'.length = Ng.length → W cls d σ' H') p1 p2 tk2 (fun cls d σ' H' z => z σ')
    refine pss_one (PS.imp (ps_ret (pe_tup (pa_cons pe_str (pa_cons hp pa_nil)))) fun D σ H ⟨h1, h2, h3⟩ => ?_)
    exact ⟨h1, h2, h3⟩
  · refine ⟨hst f, hc, h _ fun cls d H' ⟨A, xx, dom, tb, xo, sp⟩ σ' hl => ?_⟩
    exact kk (fun _ _ _ _ => False) _ A A σ' σ' H' H' (unE Ng.length) (unE Ng.length) xx cls d (.refl (rel_un hl dom tb)) xo (sp σ' hl)
/-- what `x(lambda: E)` is: the result with the mark w, or what the handlers make of the error -/
def heardF (CT : Ct) (n i : Nat) (cs : List (Str × (Xc → SF))) (w : Str) (fb : EF) : EF := fun env => match fb env with
  | .ok r e => (match frz e r with
    | some (d, e2) => .ok (.sh (.tuple [.str w, d])) e2
    | none => .no)
  | .ex x e => (match hdl CT i cs x (unE n) with
    | .rt r e' => (match frz e' r with
      | some (d, _) => .ok (.sh d) e
      | none => .no)
    | _ => .no)
  | .no => .no
theorem heard_sound {X : Cx} {W : WX} {CT : Ct} {n i : Nat} {cs : List (Str × (Xc → SF))} {w : Str} {fb : EF} {t : XK → TE} (ht : ∀ E σ H Q, tE ⟨X.K, X.mg, fun cls d _ H => E cls d H⟩ fb σ H Q → t E σ H Q) {σ : L2.St} {H : Hp} {Q : VK} (h : tE (gd X W) (heardF CT n i cs w fb) σ H Q) :
    tLamG TbP.T (THeard X.K X.mg CT n i cs w) t σ H Q := by
  obtain ⟨A, env, rel, h⟩ := h
  refine ⟨rel.tb, fun H1 xN al t1 Ech hE => ht _ _ _ _ ?_⟩
  have sL := stp_lam rel xN al t1
  refine ⟨A, env, sL.rel, ?_⟩
  unfold heardF at h
  cases q : fb env with
  | no => rw [q] at h; exact h.elim
  | ok r e =>
    rw [q] at h
    dsimp only at h
    cases q1 : frz e r with
    | none => rw [q1] at h; exact h.elim
    | some p =>
      obtain ⟨d, e2⟩ := p
      rw [q1] at h
      dsimp only at h
      intro A1 H2 s1 v hv
      obtain ⟨A2, s2, f2, rp, _⟩ := frz_ok s1 hv q1
      refine ⟨by show 2 ≤ sizeLine; decide, fun T hT => ?_⟩
      have sT := Stp.same (H1 := upd H2 T (.tup [.str w, v])) s2.rel (same_upd hT)
      exact h A2 _ ((sL.trans s2).trans sT) (.ref T) (rp_tup hT (.cons rp_str (.cons rp .nil)))
  | ex x e =>
    rw [q] at h
    dsimp only at h
    intro A1 H2 c d s1 xo
    refine hE c d H2 ⟨A1, x, s1.rel.dom, s1.rel.tb, xo, fun σ' hl => ?_⟩
    cases q1 : hdl CT i cs x (unE n) with
    | rt r e' =>
      rw [q1] at h
      dsimp only at h
      cases q2 : frz e' r with
      | none => rw [q2] at h; exact h.elim
      | some p =>
        obtain ⟨dd, e2⟩ := p
        rw [q2] at h
        dsimp only at h
        intro A3 σ3 H3 v s3 hv
        obtain ⟨A4, s4, _, rp, _⟩ := frz_ok s3 hv q2
        have so := Stp.outer s4 (rel_un hl s1.rel.dom s1.rel.tb) un_ow s1.rel
        exact h A4 H3 ((sL.trans s1).trans so) v rp
    | _ => rw [q1] at h; exact h.elim
/-- the rule: x(lambda: E); st is x's def, c the maker's code object, P its table -/
theorem e_heard {X : Cx} {W : WX} {CT : Ct} {i j p6 k : Nat} {Ng : List Str} {x a w : Str} {st : Stmt} {c P : Addr} {h0 : ExceptHandler} {hds : List ExceptHandler} {cs : List (Str × (Xc → SF))} {p1 p2 p3 p5 p7 p8 p lpos pos : Pos} {params : Arguments} {body : Expr} {scope : Scope} {fb : EF} {x0 : Str}
    (hd : HereG X.K X.mg x st [a]) (hst : defBody st = [.Try [.Return (some (.Tuple [.Constant (.str w) j p5, .Call (.Name a p1) [] [] p2] p6 p7)) p3] (h0 :: hds) [] [] p8]) (Sg : FnScope Ng [a] (defScope st)) (S : ErrS X.prog X.K X.mg CT)
    (hN0 : Ng[0]? = some a) (hva : Vis (defScope st) a) (hsl : ∀ f : Addr, (L2.start Ng [V.ref f])[0]? = some (some (V.ref f)) ∧ (L2.start Ng [V.ref f]).length = Ng.length)
    (TB : TabB X.base X.mg c P) (hcode : X.env.code = .ref c) (hq : X.env.qual = x0) (hmT : (P, x0 ++ "<lambda>") ∈ TbP.T) (hu : ∀ q ∈ TbP.T, q.1 = P → q.2 = x0 ++ "<lambda>")
    (hr : Room (k + 2) X.A) (hgd : X.A.guards = some []) (L : LamS X.env.scope scope) (hg : Gl X x) (hdef : defaultsOf params X.env = ([], []))
    (hbind : ∀ (q : Str) (cl : List (Str × Addr)) (pm cv ctv : Value), bindArgs (PySem.W.kla_fn "<lambda>" q params body scope cl pm cv ctv) ⟨[], []⟩ = pure [])
    (hh : ∀ (g : Addr) (cdg : Value) (s : Shared) (H : Hp), Room k (X.A.deeper (envOfC x (defScope st) s.heap.objs.size g cdg)) → (X.A.deeper (envOfC x (defScope st) s.heap.objs.size g cdg)).guards = some [] → ClV (cxOf C8.CX0 X.prog X.w X.K X.mg X.base Ng x (defScope st) g cdg X.A X.stack s H C8.E0).nox CT i (h0 :: hds) cs)
    (hbody : ∀ (A : Around) (outer : List Env) (s : Shared) (H : Hp) (E : XK) (f c' : Addr), Room k (A.deeper (lamEnv X scope s.heap.objs.size f c')) → (A.deeper (lamEnv X scope s.heap.objs.size f c')).guards = some [] →
      PE (lamCx X A outer s H E scope f c') body (tE (gd (lamCx X A outer s H E scope f c') (fun cls d _ H => E cls d H)) fb))
    (hdb : (x == ("__debug__" : Str)) = false := by decide) (hda : (a == ("__debug__" : Str)) = false := by decide) (hcd : (a == ("__classdict__" : Str)) = false := by decide) :
    PE X (.Call (.Name x p) [.Lambda params body scope lpos] [] pos) (tE (gd X W) (heardF CT Ng.length i cs w fb)) := by
  subst hq
  obtain ⟨g, fd, hm, F, hb⟩ := hd.ex
  obtain ⟨oc, od, dV, kV, doc, pm, an, cdv, ct, osl, rfl, lk, hcg, _, _⟩ := F.ex
  have hr1 : ∀ (g : Addr) (cdg : Value) (s : Shared), Room (k + 1) (X.A.deeper (envOfC x (defScope st) s.heap.objs.size g cdg)) := fun g cdg s => hr.deeper _
  have hr0 : ∀ (g : Addr) (cdg : Value) (s : Shared), Room k (X.A.deeper (envOfC x (defScope st) s.heap.objs.size g cdg)) := fun g cdg s => (hr1 g cdg s).mono (by omega)
  have hG := heard_gives (X := X) (w := w) (q := X.env.qual ++ "<lambda>") (j := j) (p6 := p6) (p1 := p1) (p2 := p2) (p3 := p3) (p5 := p5) (p7 := p7) (p8 := p8) (x := x) (a := a) (sg := defScope st) (g := g) (cdg := cdv) (Ng := Ng) S Sg.nd (fun f => (hsl f).1) (fun f => (hsl f).2) fun s H => hh g cdv s H (hr0 g cdv s) hgd
  rw [← hst] at hG
  exact PE.imp (pe_lamcallG (t := fun E => tE ⟨X.K, X.mg, fun cls d _ H => E cls d H⟩ fb) (T := TbP.T) hgd hg hm F.kp lk hcg hb Sg hN0 hva hG TB hcode hmT hu hr L hdef hbind (fun A outer s H E f c' h1 h2 => hbody A outer s H E f c' h1 h2) hdb hda hcd) fun _ _ _ h => heard_sound (fun _ _ _ _ z => z) h
end VL


set_option Elab.async false
set_option linter.all false
set_option maxRecDepth 100000
set_option maxHeartbeats 4000000
/-! EX17: the end of a law that makes lambdas (turned from HandS's law_callTs, as VL18's lawG' from law_call): the tables of code objects are empty at first. -/
namespace VL
open PySem PySem.Spec PyProof.Rows L2 LamX
variable [TbP]
/-- what the law's def is handed -/
theorem sp_lawT {K : Frag} {mg : Str → Option Value} {F : FD} {H : Hp} {a : Addr} {ns : List Int} {E : XK} (hS : SqL K H a (ns.map V.int)) {own : Bool} {ss : En} (h : F [.sh (.list (ns.map PyData.int))] = .ret own (.bool true) ss) (hT : ∀ p ∈ TbP.T, H p.1 = some (.tbl #[])) :
    spF K mg F [.ref a] H (fun v _ => v = .bl true) E := by
  have hR : Rp K (fun b => H b ≠ none) H (.list (ns.map PyData.int)) (.ref a) := by
    simp only [Rp]
    refine ⟨a, ns.map V.int, rfl, ?_, rpl_intsV⟩
    rcases hS with hS | hS
    · refine .inl ⟨?_, hS⟩
      rcases hS with hS | ⟨o, hS⟩ <;> (rw [hS]; simp)
    · exact .inr hS
  have rel : Rel K (fun b => H b ≠ none) ([V.ref a].map some) H ([Ag.sh (.list (ns.map PyData.int))].map Ag.sl) := by
    have only0 : ∀ {i : Nat} {s : Sl}, ([Ag.sh (.list (ns.map PyData.int))].map Ag.sl)[i]? = some s → i = 0 ∧ s = .sh (.list (ns.map PyData.int)) := fun {i s} e => by
      cases i with
      | zero => exact ⟨rfl, (Option.some.inj e).symm⟩
      | succ j => cases e
    refine ⟨rfl, fun i d e => ?_, fun i d e => ?_, fun i j b h1 h2 => ?_, fun b hb => hb, fun i d e => ?_, fun p hp => .nil (hT p hp)⟩
    · rcases e with e | e
      · obtain ⟨rfl, e2⟩ := only0 e
        cases e2
        exact ⟨.ref a, rfl, hR⟩
      · cases (only0 e).2
    · rcases e with e | e <;> cases (only0 e).2
    · obtain ⟨⟨d, e | e⟩, _⟩ := h1 <;> cases (only0 e).2
    · cases (only0 e).2
  refine ⟨fun b => H b ≠ none, [.sh (.list (ns.map PyData.int))], rel, ?_⟩
  rw [h]
  intro A' H' v _ hv
  cases own with
  | false => simpa only [ResOk, Rp] using hv
  | true =>
    obtain ⟨b, _, _, _, _, ob⟩ := hv
    exact ob.elim
/-- law_call with tables: cs, the code objects and their tables -/
theorem lawGT {P : Program} {w : World} {K : PySem.W.Frag} {mg mb : Str → Option Value} {k : Nat} {fa a : Addr} {cs : List (Addr × Addr)} {x : Str} {F : FD} {s₁ : Shared} {vs : List Value} {ns : List Int}
    (KX : K.In s₁.heap) (hns : s₁.heap.Ns mainGlobals mg) (hb : s₁.heap.Ns builtinsNs mb) (hbb : ∀ x : Str, x ≠ "__name__" → mb x = bootBuiltins x) (hlim : s₁.heap.NoLimit) (hg : s₁.gens = #[])
    (hT : ∀ p ∈ cs, s₁.heap.get? p.2 = some { cls := .none, data := .fields #[] }) (nT : ∀ p ∈ cs, K.lookup p.2 = none) (C : ∀ p ∈ cs, PySem.W.CodeHd s₁.heap p.1 p.2)
    (hbm : ∃ (bm : Addr) (ob : Obj), mg "__builtins__" = some (.ref bm) ∧ bm ≠ builtinsNs ∧ s₁.heap.get? bm = some ob ∧ ob.cls = .type "module" ∧ ob.dict = some builtinsNs ∧ ob.data = .plain)
    (ha : s₁.heap.get? a = some { cls := .type "list", data := .seq vs.toArray }) (hi : IntsAre vs ns) (hl : ns.length ≤ sizeLine) (hr : Room k callerA)
    (hm : mg x = some (.ref fa)) (D : ∀ base : Heap, K.In base → base.Ns mainGlobals mg → (∀ p ∈ cs, TabB base mg p.1 p.2) → DefG P w K mg base k x 1 F)
    (hsp : ∀ H : Hp, (∀ p ∈ cs, H p.2 = some (.tbl #[])) → SqL K H a (ns.map V.int) → spF K mg F [.ref a] H (fun v _ => v = .bl true) fun _ _ _ => False) :
    codeAny (model P w) callerA (.call (.ref fa) ⟨[.ref a], []⟩) (fun r s' => r = .ok (.ret (.bool true)) ∧ OldK s₁.heap s'.heap ∧ s'.os = s₁.os ∧ AllBare s'.gens) s₁ := by
  have rv := vals_ints hi
  have lenV := hi.length
  have isT : ∀ b : Addr, b ∈ cs.map (·.2) → s₁.heap.get? b = some { cls := .none, data := .fields #[] } := fun b hb => by
    obtain ⟨p, hp, e⟩ := List.mem_map.mp hb
    rw [← e]
    exact hT p hp
  have aT : a ∉ cs.map (·.2) := fun z => by
    have q := isT a z
    rw [ha] at q
    have z' : Data.seq vs.toArray _ = Data.fields #[] := congrArg Obj.data (Option.some.inj q)
    cases z'
  have memT : ∀ p ∈ cs, p.2 ∈ cs.map (·.2) := fun p hp => List.mem_map.mpr ⟨p, hp, rfl⟩
  -- from an abstract heap in which nothing but the script and the tables may be tracked
  have core : ∀ H : Hp, (∀ p ∈ cs, H p.2 = some (.tbl #[])) → (∀ b, H b = none ∨ b ∈ cs.map (·.2) ∨ ∃ o xs, H b = some (.frz o (.lst xs))) → SqL K H a (ns.map V.int) → HOk P w H s₁.heap → (∀ b, H b ≠ none → b = a ∨ b ∈ cs.map (·.2)) → (H a ≠ none → K.lookup a = none) →
      codeAny (model P w) callerA (.call (.ref fa) ⟨[.ref a], []⟩) (fun r s' => r = .ok (.ret (.bool true)) ∧ OldK s₁.heap s'.heap ∧ s'.os = s₁.os ∧ AllBare s'.gens) s₁ := by
    intro H hH hO hS hok hA hK
    have base_of : ∀ {b : Addr} {o : Obj}, s₁.heap.get? b = some o → H b = none → (hidT s₁.heap H).get? b = some o := fun e n => hidT_get e n
    have noD : ∀ {b : Addr} {o : Obj}, s₁.heap.get? b = some o → (∀ vs n, o.data ≠ .seq vs n) → o.data ≠ .fields #[] → H b = none := fun {b o} e h1 h2 => by
      cases q : H b with
      | none => rfl
      | some u =>
        rcases hA b (by rw [q]; simp) with e' | e'
        · rw [e', ha] at e
          cases e
          exact (h1 _ _ rfl).elim
        · rw [isT b e'] at e
          cases e
          exact (h2 rfl).elim
    have noA : ∀ {b : Addr} {o : Obj} {es : Array DictEntry} {ep : Nat}, s₁.heap.get? b = some o → o.data = .dict es ep → H b = none := fun {b o es ep} e d => by
      refine noD e (fun vs n z => ?_) fun z => ?_
      · rw [d] at z
        cases z
      · rw [d] at z
        cases z
    have nsK : ∀ {b : Addr} {m : Str → Option Value}, s₁.heap.Ns b m → (hidT s₁.heap H).Ns b m := fun {b m} ⟨o, es, ep, e, d, r⟩ => ⟨o, es, ep, base_of e (noA e d), d, r⟩
    have hKb : K.In (hidT s₁.heap H) := fun b o e => base_of (KX b o e) (by
      cases q : H b with
      | none => rfl
      | some u =>
        rcases hA b (by rw [q]; simp) with e' | e'
        · rw [e'] at e q
          rw [hK (by rw [q]; simp)] at e
          cases e
        · obtain ⟨p, hp, ep⟩ := List.mem_map.mp e'
          rw [← ep, nT p hp] at e
          cases e)
    have hM : L2.Mod K mg (hidT s₁.heap H) := ⟨hKb, nsK hns, ⟨mb, nsK hb, hbb⟩, let ⟨mc, h1, h2⟩ := hlim; ⟨mc, nsK h1, h2⟩⟩
    have TB : ∀ p ∈ cs, TabB (hidT s₁.heap H) mg p.1 p.2 := fun p hp => by
      have hTp := hT p hp
      refine ⟨?_, ?_, fun z => ?_⟩
      · obtain ⟨o, us, file, tf, flags, tg, inF, text, tt, e1, r1, r2, r3, r4, r5, r6, r7, r8, hne⟩ := C p hp
        refine ⟨o, us, file, tf, flags, tg, inF, text, tt, base_of e1 (noD e1 (fun vs n z => ?_) fun z => ?_), r1, r2, r3, r4, r5, r6, r7, r8, hne⟩
        · rw [r2] at z
          cases z
        · rw [r2] at z
          cases z
          simp at r3
      · obtain ⟨bm, ob, b1, b2, b3, b4, b5, b6⟩ := hbm
        have nG : bm ≠ mainGlobals := fun q => by
          obtain ⟨o, es, ep, e, hd, _⟩ := hns
          rw [q, e] at b3
          cases b3
          rw [hd] at b6
          cases b6
        have nP : bm ≠ p.2 := fun q => by
          rw [q, hTp] at b3
          cases b3
          cases b6
        refine ⟨bm, ob, b1, b2, nG, nP, base_of b3 (noD b3 (fun vs n z => ?_) fun z => ?_), b4, b5, b6⟩
        · rw [b6] at z
          cases z
        · rw [b6] at z
          cases z
      · obtain ⟨o, es, ep, e, hd, _⟩ := hns
        rw [z, hTp] at e
        cases e
        cases hd
    have e0 : Env0 P w K mg (hidT s₁.heap H) callerA [] s₁ H := ⟨rfl, hM, fun b o e => of_hidT e, Nat.le_of_eq (hidT_size _ _), trivial, fun b hb => absurd (show b ∈ ([] : List Addr) from hb) (by simp), hok, .of_eq hg⟩
    obtain ⟨f0, fd, ps, FG, hm0, _, hb, hl1⟩ := (D _ hKb (nsK hns) TB).ex
    rw [hm] at hm0
    cases hm0
    have bnd := hb s₁ [.ref a] KX (by simpa using hl1.symm)
    refine codeAny_mono (FG.run callerA [] s₁ H ⟨[.ref a], []⟩ [.ref a] [.ref a] _ _ hr rfl e0 bnd (.cons rfl .nil) (hsp H hH hS)) fun r s' h => ?_
    cases r with
    | error e => obtain ⟨_, _, _, _, _, _, _, _, _, _, _, _, z⟩ := h; exact z.elim
    | ok fl =>
      cases fl with
      | next => exact False.elim h
      | brk => exact False.elim h
      | cont => exact False.elim h
      | ret u =>
        obtain ⟨v, H', os, bare, un, hok', r', q⟩ := h
        have q' : v = .bl true := q
        subst q'
        obtain rfl : u = Value.bool true := r'
        have key : ∀ b o, b ∉ cs.map (·.2) → s₁.heap.get? b = some o → s'.heap.get? b = some o := fun b o nb e => by
          cases q : H b with
          | none => exact un.keep b o e q (by intro z; exact absurd (show b ∈ ([] : List Addr) from z) (by simp)) (by simp)
          | some u =>
            rcases hO b with z | z | ⟨ob, xs, z⟩
            · rw [q] at z; cases z
            · exact absurd z nb
            · have z2 := un.frzs b ob _ z
              obtain ⟨e1, _⟩ := hok b _ z
              obtain ⟨e2, _⟩ := hok' b _ z2
              rw [e] at e1; cases e1
              exact e2
        have grown : ∀ p ∈ cs, ∃ more : Array Value, s'.heap.get? p.2 = some { cls := .none, data := .fields more } := fun p hp => by
          obtain ⟨more, z⟩ := un.tbls p.2 #[] (hH p hp)
          exact ⟨_, hok' p.2 _ z⟩
        refine ⟨rfl, ⟨fun b o e => ?_, fun b o e => ?_⟩, os, bare⟩
        · by_cases hb : b ∈ cs.map (·.2)
          · obtain ⟨p, hp, ep⟩ := List.mem_map.mp hb
            obtain ⟨more, hm⟩ := grown p hp
            rw [← ep] at e ⊢
            rw [hT p hp] at e
            cases e
            exact .inr (.inl ⟨((C p hp).tab (hT p hp)).isCodeTable, rfl, #[], more, rfl, by rw [Array.empty_append]; exact hm⟩)
          · exact .inl (key b o hb e)
        · by_cases hb : b ∈ cs.map (·.2)
          · obtain ⟨p, hp, ep⟩ := List.mem_map.mp hb
            obtain ⟨more, hm⟩ := grown p hp
            rw [← ep]
            exact ⟨_, hm⟩
          · exact ⟨o, key b o hb e⟩
  cases hk : K.lookup a with
  | some o =>
    have e := KX a o hk
    rw [ha] at e
    cases e
    refine core (fun b => if b ∈ cs.map (·.2) then some (.tbl #[]) else none) (fun p hp => if_pos (memT p hp)) (fun b => ?_) (.inr ⟨_, vs.toArray, _, hk, rfl, rfl, rfl, by rw [List.size_toArray, lenV]; exact hl, by simpa using rv⟩) (fun b u z => ?_) (fun b z => ?_) fun z => absurd (show (if a ∈ cs.map (·.2) then some (HO.tbl #[]) else none) = none from if_neg aT) z
    · by_cases hb : b ∈ cs.map (·.2)
      · exact .inr (.inl hb)
      · exact .inl (if_neg hb)
    · by_cases hb : b ∈ cs.map (·.2)
      · have z' := (if_pos hb).symm.trans z
        cases z'
        exact isT b hb
      · have z' := (if_neg hb).symm.trans z
        cases z'
    · by_cases hb : b ∈ cs.map (·.2)
      · exact .inr hb
      · exact absurd (if_neg hb) z
  | none =>
    refine core (fun b => if b = a then some (.frz { cls := .type "list", data := .seq vs.toArray } (.lst (ns.map V.int))) else if b ∈ cs.map (·.2) then some (.tbl #[]) else none) (fun p hp => (if_neg (show ¬ p.2 = a from fun z => aT (by rw [← z]; exact memT p hp))).trans (if_pos (memT p hp))) (fun b => ?_)
      (.inl (.inr ⟨{ cls := .type "list", data := .seq vs.toArray }, if_pos rfl⟩)) (fun b u z => ?_) (fun b z => ?_) fun _ => hk
    · by_cases hb : b = a
      · exact .inr (.inr ⟨_, _, if_pos hb⟩)
      · by_cases hb2 : b ∈ cs.map (·.2)
        · exact .inr (.inl hb2)
        · exact .inl ((if_neg hb).trans (if_neg hb2))
    · by_cases hb : b = a
      · have z' := (if_pos hb).symm.trans z
        cases z'
        rw [hb]
        exact ⟨ha, by rw [List.length_map]; exact hl, vs, _, rv, ha⟩
      · have z1 := (if_neg hb).symm.trans z
        by_cases hb2 : b ∈ cs.map (·.2)
        · have z' := (if_pos hb2).symm.trans z1
          cases z'
          exact isT b hb2
        · have z' := (if_neg hb2).symm.trans z1
          cases z'
    · by_cases hb : b = a
      · exact .inl hb
      · by_cases hb2 : b ∈ cs.map (·.2)
        · exact .inr hb2
        · exact absurd ((if_neg hb).trans (if_neg hb2)) z
end VL


set_option Elab.async false
set_option linter.all false
set_option maxRecDepth 100000
set_option maxHeartbeats 4000000
/-! EX18: a def that makes lambdas (its code object and that one's table are told), the facts of the head for it, the law's end. -/
namespace VL
open PySem PySem.Spec PyProof.Rows L2 LamX
variable [TbP]
/-- the code of the function at f -/
def CdvAt (K : Frag) (f : Addr) (cdv : Value) : Prop := ∃ (oc : Value) (od : Option Addr) (fd : FuncData) (osl : Array (Option Value)), K.lookup f = some ⟨oc, od, .func fd, osl⟩ ∧ fd.code = cdv
/-- such a def, by its body -/
theorem fnG_ofC {CX : CXT} {P : Program} {w : World} {K : Frag} {mg : Str → Option Value} {base : Heap} {k : Nat} {f : Addr} {x qual : Str} {params : Arguments} {body : List Stmt} {scope : Scope} {kws : List (Str × V)} {fd : FuncData} {N ps : List Str} {sp : Sp}
    (F : FunD K x qual params body scope [] kws f fd) (S : FnScope N ps scope) (len : ∀ vs H Q E, sp vs H Q E → vs.length = ps.length)
    (hb : ∀ (cdv : Value), CdvAt K f cdv → ∀ (A : Around) (outer : List Env) (s : Shared) (H : Hp) (vs : List V) (Q : VK) (E : XK), Room k (A.deeper (envOfC qual scope s.heap.objs.size f cdv)) → A.guards = some [] → sp vs H Q E →
      ∃ t, PSs (cxOf CX P w K mg base N qual scope f cdv A outer s H E) body t ∧ t { nx := fun _ H' => Q .non H', rt := Q } (L2.start N vs) H) : FnG P w K mg base CX (k + 1) f fd ps sp := by
  obtain ⟨oc, od, dV, kV, doc, pm, an, cdv, ct, osl, rfl, lk, hcd, _, _⟩ := F.ex
  refine ⟨len, fun A outer s H args us vs Q E hr hgd e0 hbd rv hsp => ?_⟩
  have up : ∀ b o, base.get? b = some o → s.heap.get? b = some o := fun b o e => (e0.bs b o e).1
  have hloc : ∀ y ∈ ps.zip us, scope.names.lookup y.1 = some .local ∨ (scope.names.lookup y.1 = some .cell ∧ ((cellsFrom (s.heap.objs.size + 1) scope.names []).lookup y.1).isSome = true) := by
    rintro ⟨n, v⟩ hy
    exact (S.par n (List.of_mem_zip hy).1).imp id fun q => ⟨q, PySem.W.cellsFrom_some _ _ _ (.inl q)⟩
  refine codeAny_call_function hr.depth ((e0.mod.kin.keeps up) _ _ lk) rfl S.co S.gen rfl (PySem.W.codeRec_of (e0.mod.kin.keeps up) hcd) (hbd _ _ _ _ (wpAny_newFunctionEnv_cells S.kind hloc fun env he s1 x => ?_))
  subst he
  obtain ⟨t, ht, hq⟩ := hb cdv ⟨_, _, _, _, lk, rfl⟩ A outer s H vs Q E (hr.deeper _) hgd hsp
  refine ⟨(e0.mod.nolimit.keeps up).keeps x.toInCall.keep, codeAny_func (wpAny_mono (ht.run [] s1 (L2.start N vs) H _ (inv_start S hr.hd e0 (len _ _ _ _ hsp) rv x) hq) (fun fl s' hs => ?_) fun e s' hs => hs)⟩
  cases fl with
  | ret u =>
    obtain ⟨v, _, H', J, r, q⟩ := hs
    exact ⟨v, H', J.os, J.bare, J.base, J.hok, r, q⟩
  | next =>
    obtain ⟨_, H', J, q⟩ := hs
    exact ⟨.non, H', J.os, J.bare, J.base, J.hok, rfl, q⟩
  | brk =>
    obtain ⟨_, _, _, q⟩ := hs
    exact q.elim
  | cont =>
    obtain ⟨_, _, _, q⟩ := hs
    exact q.elim
theorem HereG.defC {P : Program} {w : World} {K : Frag} {mg : Str → Option Value} {base : Heap} {x : Str} {st : Stmt} {ps N : List Str} {k np n : Nat} {body : SF} (h : HereG K mg x st ps) (S : FnScope N ps (defScope st)) (hnp : ps.length = np) (hn : N.length = n)
    (hb : ∀ (f : Addr) (cdv : Value), mg x = some (.ref f) → CdvAt K f cdv → ∀ (A : Around) (outer : List Env) (s : Shared) (H : Hp) (E : XK), Room k (A.deeper (envOfC x (defScope st) s.heap.objs.size f cdv)) → (A.deeper (envOfC x (defScope st) s.heap.objs.size f cdv)).guards = some [] →
      PSs (cxOf (L2.CX P w) P w K mg base N x (defScope st) f cdv A outer s H E) (defBody st) (tS (gd (cxOf (L2.CX P w) P w K mg base N x (defScope st) f cdv A outer s H E) (fun cls d _ H => E cls d H)) body)) : DefG P w K mg base (k + 1) x np (runF np n body) := by
  subst hnp hn
  obtain ⟨f, fd, hm, F, hbd⟩ := h.ex
  exact ⟨f, fd, ps, fnG_ofC F S (fun vs H Q E h => spF_len h) fun cdv hc A outer s H vs Q E hr hgd h => ⟨_, hb f cdv hm hc A outer s H E hr hgd, body_end h⟩, hm, F.kp, hbd, rfl⟩
/-! ### the head's facts -/
def codeA (K : Frag) (x : Str) : Addr := match K.lookup (He.ga K x) with
  | some ⟨_, _, .func fd, _⟩ => (match fd.code with
    | .ref c => c
    | _ => 0)
  | _ => 0
def tabA (K : Frag) (x : Str) : Addr := match K.lookup (codeA K x) with
  | some ⟨_, _, .fields vs, _⟩ => (match (vs[11]? : Option Value) with
    | some (.ref P) => P
    | _ => 0)
  | _ => 0
def lamB (K : Frag) (x : Str) : Bool := (match K.lookup (He.ga K x) with
  | some ⟨_, _, .func fd, _⟩ => (match fd.code with
    | .ref _ => true
    | _ => false)
  | _ => false) && (PySem.W.codeHdIn K (codeA K x) (tabA K x) && (K.lookup (tabA K x)).isNone)
def lamsB (K : Frag) (lams : List Str) : Bool := lams.all (lamB K) && lams.all fun x => lams.all fun y => decide (x = y) || !decide (tabA K x = tabA K y)
theorem lam_code {K : Frag} {x : Str} {cdv : Value} (h : lamB K x = true) (c : CdvAt K (He.ga K x) cdv) : cdv = .ref (codeA K x) := by
  obtain ⟨oc, od, fd, osl, lk, rfl⟩ := c
  unfold lamB at h
  rw [lk] at h
  unfold codeA
  rw [lk]
  simp only [Bool.and_eq_true] at h ⊢
  revert h
  cases fd.code <;> simp
/-- the reachable, but not the tables -/
def asL (n : Nat) (g : Addr → Option Obj) : List Addr := (asY g n).filter fun a => match g a with
  | some ⟨.none, _, .fields _, _⟩ => false
  | _ => true
abbrev AlL : Type := AlY × Bool × List (Option Obj)
def obsL (n : Nat) (P : Program) (z : Wd) (l : List Er) (lams : List Str) (g : Addr → Option Obj) : AlL := (obsYK P z l (He.frG g (asL n g)), lamsB (He.frG g (asL n g)) lams, lams.map fun x => g (tabA (He.frG g (asL n g)) x))
def valL (P : Program) (z : Wd) (l : List Er) (lams : List Str) (w : World) : AlL := (valY P z l w, true, lams.map fun _ => some (PySem.W.tabObj #[]))
structure SaysL (P : Program) (z : Wd) (l : List Er) (lams : List Str) (w : World) (K : Frag) (hp : Heap) : Prop extends SaysY P z l w K where
  lam : ∀ x ∈ lams, lamB K x = true
  un : ∀ x ∈ lams, ∀ y ∈ lams, x = y ∨ tabA K x ≠ tabA K y
  tab : ∀ x ∈ lams, hp.get? (tabA K x) = some (PySem.W.tabObj #[])
def hookL (n : Nat) (P : Program) (z : Wd) (l : List Er) (lams : List Str) : PySem.W.Hook where
  α := AlL
  obs := fun s => obsL n P z l lams s.heap.get?
  val := valL P z l lams
  says := fun w h => ∃ K : Frag, K.In h ∧ obsYK P z l K = valY P z l w ∧ lamsB K lams = true ∧ ∀ x ∈ lams, h.get? (tabA K x) = some (PySem.W.tabObj #[])
  of := fun _ _ e => ⟨_, He.frG_in, congrArg (fun a : AlL => a.1) e, congrArg (fun a : AlL => a.2.1) e, List.map_inj_left.mp (congrArg (fun a : AlL => a.2.2) e)⟩
  keeps := fun _ _ _ ⟨K, hK, c, c2, c3⟩ k => ⟨K, PySem.W.Frag.In.keeps hK k, c, c2, fun x hx => k _ _ (c3 x hx)⟩
theorem saysL_of {P : Program} {z : Wd} {l : List Er} {lams : List Str} {w : World} {K : Frag} {h : Heap} (e : obsYK P z l K = valY P z l w) (e2 : lamsB K lams = true) (e3 : ∀ x ∈ lams, h.get? (tabA K x) = some (PySem.W.tabObj #[])) : SaysL P z l lams w K h := by
  unfold lamsB at e2
  simp only [Bool.and_eq_true, List.all_eq_true, Bool.or_eq_true, decide_eq_true_eq, Bool.not_eq_true', decide_eq_false_iff_not] at e2
  exact { toSaysY := saysY_of e, lam := e2.1, un := e2.2, tab := e3 }
omit [TbP] in
theorem obsL_eq {n : Nat} {P : Program} {z : Wd} {l : List Er} {lams : List Str} {g : Addr → Option Obj} {s : Shared} (h : ∀ a, g a = s.heap.get? a) : obsL n P z l lams g = (hookL n P z l lams).obs s := by
  have e : g = s.heap.get? := funext h
  rw [e] <;> rfl
omit [TbP] in
theorem law_endL {l : PySem.W.OpenLaw} {n k m : Nat} {q P : Program} {loose : List Str} {d : DefRec} {Z : Wd} {L : List Er} {lams : List Str} {F : FD}
    (hn : l.most = some n) (hn2 : n ≤ sizeLine) (hdf : d.params.defaults = []) (hr : Room k callerA) (hname : d.name = ("law" : Str))
    (D : ∀ [tp : TbP] (w : World) (K : Frag) (mg : Str → Option Value) (h : Heap), K.In h → h.Ns mainGlobals mg → SaysL P Z L lams w K h → tp.T = lams.map (fun x => (tabA K x, x ++ ".<locals>." ++ "<lambda>")) → ∀ base : Heap, (∀ x ∈ lams, TabB base mg (codeA K x) (tabA K x)) → DefG l.prog w K mg base k "law" 1 F)
    (hF : ∀ ns : List Int, ns.length ≤ n → ∃ own ss, F [.sh (.list (ns.map PyData.int))] = .ret own (.bool true) ss) :
    PySem.W.WalkO q loose (PySem.W.XL q []) (hookL m P Z L lams).says l.row.toRowW d [] (fun f vs => PySem.call f vs) :=
  Att.attach_call hn hdf fun w _ s₁ mg _ fa _ _ _ _ a vs ns G Y _ _ _ hmg hobj hints hlen hg => by
    obtain ⟨K, KX, e, e2, e3⟩ := Y
    letI tp : TbP := ⟨lams.map fun x => (tabA K x, x ++ ".<locals>." ++ "<lambda>")⟩
    have S := saysL_of e e2 e3
    rw [hname] at hmg
    have mem : ∀ {p : Addr × Addr}, p ∈ lams.map (fun x => (codeA K x, tabA K x)) → ∃ x ∈ lams, p = (codeA K x, tabA K x) := fun {p} hp => by
      obtain ⟨x, hx, e⟩ := List.mem_map.mp hp
      exact ⟨x, hx, e.symm⟩
    have lam : ∀ x ∈ lams, PySem.W.codeHdIn K (codeA K x) (tabA K x) = true ∧ K.lookup (tabA K x) = none := fun x hx => by
      have z := S.lam x hx
      unfold lamB at z
      simp only [Bool.and_eq_true] at z
      exact ⟨z.2.1, Option.isNone_iff_eq_none.mp z.2.2⟩
    refine lawGT (cs := lams.map fun x => (codeA K x, tabA K x)) KX G.T.g G.T.b G.T.builtins G.T.nolimit hg (fun p hp => ?_) (fun p hp => ?_) (fun p hp => ?_) G.T.bmain hobj hints (Nat.le_trans hlen hn2) hr hmg
      (fun base hB hN TB => D w K mg _ KX G.T.g S rfl base fun x hx => TB (codeA K x, tabA K x) (List.mem_map.mpr ⟨x, hx, rfl⟩)) fun H hH hS => ?_
    · obtain ⟨x, hx, rfl⟩ := mem hp
      exact S.tab x hx
    · obtain ⟨x, hx, rfl⟩ := mem hp
      exact (lam x hx).2
    · obtain ⟨x, hx, rfl⟩ := mem hp
      exact PySem.W.codeHd_of_K KX (lam x hx).1
    · obtain ⟨own, ss, hF⟩ := hF ns hlen
      refine sp_lawT hS hF fun p hp => ?_
      obtain ⟨x, hx, rfl⟩ := List.mem_map.mp hp
      exact hH (codeA K x, tabA K x) (List.mem_map.mpr ⟨x, hx, rfl⟩)
/-- what a def that makes lambdas wants to know of itself -/
structure LamD (K : Frag) (mg : Str → Option Value) (base : Heap) (x : Str) : Prop where
  cdv : ∀ (f : Addr) (cdv : Value), mg x = some (.ref f) → CdvAt K f cdv → cdv = .ref (codeA K x)
  tb : TabB base mg (codeA K x) (tabA K x)
  mem : (tabA K x, x ++ ".<locals>." ++ "<lambda>") ∈ TbP.T
  un : ∀ q ∈ TbP.T, q.1 = tabA K x → q.2 = x ++ ".<locals>." ++ "<lambda>"
theorem SaysL.lamD {P : Program} {z : Wd} {l : List Er} {lams : List Str} {w : World} {K : Frag} {h hp base : Heap} {mg : Str → Option Value} (S : SaysL P z l lams w K hp) (X : K.In h) (G : h.Ns mainGlobals mg) (hT : TbP.T = lams.map (fun x => (tabA K x, x ++ ".<locals>." ++ "<lambda>"))) (TB : ∀ x ∈ lams, TabB base mg (codeA K x) (tabA K x)) (i j : Nat) {x : Str}
    (e : lams[i]? = some x := by rfl) (e2 : z.fa[j]? = some (.glo x) := by rfl) : LamD K mg base x := by
  have hx : x ∈ lams := List.mem_of_getElem? e
  have hm := He.glo_ok X G (S.d.fact j e2)
  refine ⟨fun f cdv hf hc => ?_, TB x hx, by rw [hT]; exact List.mem_map.mpr ⟨x, hx, rfl⟩, fun q hq e => ?_⟩
  · rw [hm] at hf
    cases hf
    exact lam_code (S.lam x hx) hc
  · rw [hT] at hq
    obtain ⟨y, hy, rfl⟩ := List.mem_map.mp hq
    rcases S.un y hy x hx with z | z
    · rw [z]
    · exact (z e).elim
end VL


set_option Elab.async false
set_option linter.all false
set_option maxRecDepth 100000
set_option maxHeartbeats 4000000
/-! EX19: EX18's facts for a head that writes no such dict. -/
namespace VL
open PySem PySem.Spec PyProof.Rows L2 LamX HDK
variable [TbP]
abbrev AlM : Type := AlN × Bool × List (Option Obj)
def obsM (n : Nat) (P : Program) (z : Wd) (l : List Er) (lams : List Str) (g : Addr → Option Obj) : AlM := (obsNK P z l (He.frG g (asL n g)), lamsB (He.frG g (asL n g)) lams, lams.map fun x => g (tabA (He.frG g (asL n g)) x))
def valM (z : Wd) (l : List Er) (lams : List Str) (w : World) : AlM := (valN z l w, true, lams.map fun _ => some (PySem.W.tabObj #[]))
structure SaysM (P : Program) (z : Wd) (l : List Er) (lams : List Str) (w : World) (K : Frag) (hp : Heap) : Prop extends SaysN P z l w K where
  lam : ∀ x ∈ lams, lamB K x = true
  un : ∀ x ∈ lams, ∀ y ∈ lams, x = y ∨ tabA K x ≠ tabA K y
  tab : ∀ x ∈ lams, hp.get? (tabA K x) = some (PySem.W.tabObj #[])
def hookM (n : Nat) (P : Program) (z : Wd) (l : List Er) (lams : List Str) : PySem.W.Hook where
  α := AlM
  obs := fun s => obsM n P z l lams s.heap.get?
  val := valM z l lams
  says := fun w h => ∃ K : Frag, K.In h ∧ obsNK P z l K = valN z l w ∧ lamsB K lams = true ∧ ∀ x ∈ lams, h.get? (tabA K x) = some (PySem.W.tabObj #[])
  of := fun _ _ e => ⟨_, He.frG_in, congrArg (fun a : AlM => a.1) e, congrArg (fun a : AlM => a.2.1) e, List.map_inj_left.mp (congrArg (fun a : AlM => a.2.2) e)⟩
  keeps := fun _ _ _ ⟨K, hK, c, c2, c3⟩ k => ⟨K, PySem.W.Frag.In.keeps hK k, c, c2, fun x hx => k _ _ (c3 x hx)⟩
theorem saysM_of {P : Program} {z : Wd} {l : List Er} {lams : List Str} {w : World} {K : Frag} {h : Heap} (e : obsNK P z l K = valN z l w) (e2 : lamsB K lams = true) (e3 : ∀ x ∈ lams, h.get? (tabA K x) = some (PySem.W.tabObj #[])) : SaysM P z l lams w K h := by
  unfold lamsB at e2
  simp only [Bool.and_eq_true, List.all_eq_true, Bool.or_eq_true, decide_eq_true_eq, Bool.not_eq_true', decide_eq_false_iff_not] at e2
  exact { toSaysN := saysN_of e, lam := e2.1, un := e2.2, tab := e3 }
omit [TbP] in
theorem obsM_eq {n : Nat} {P : Program} {z : Wd} {l : List Er} {lams : List Str} {g : Addr → Option Obj} {s : Shared} (h : ∀ a, g a = s.heap.get? a) : obsM n P z l lams g = (hookM n P z l lams).obs s := by
  have e : g = s.heap.get? := funext h
  rw [e] <;> rfl
omit [TbP] in
theorem law_endM {l : PySem.W.OpenLaw} {n k m : Nat} {q P : Program} {loose : List Str} {d : DefRec} {Z : Wd} {L : List Er} {lams : List Str} {F : FD}
    (hn : l.most = some n) (hn2 : n ≤ sizeLine) (hdf : d.params.defaults = []) (hr : Room k callerA) (hname : d.name = ("law" : Str))
    (D : ∀ [tp : TbP] (w : World) (K : Frag) (mg : Str → Option Value) (h : Heap), K.In h → h.Ns mainGlobals mg → SaysM P Z L lams w K h → tp.T = lams.map (fun x => (tabA K x, x ++ ".<locals>." ++ "<lambda>")) → ∀ base : Heap, (∀ x ∈ lams, TabB base mg (codeA K x) (tabA K x)) → DefG l.prog w K mg base k "law" 1 F)
    (hF : ∀ ns : List Int, ns.length ≤ n → ∃ own ss, F [.sh (.list (ns.map PyData.int))] = .ret own (.bool true) ss) :
    PySem.W.WalkO q loose (PySem.W.XL q []) (hookM m P Z L lams).says l.row.toRowW d [] (fun f vs => PySem.call f vs) :=
  Att.attach_call hn hdf fun w _ s₁ mg _ fa _ _ _ _ a vs ns G Y _ _ _ hmg hobj hints hlen hg => by
    obtain ⟨K, KX, e, e2, e3⟩ := Y
    letI tp : TbP := ⟨lams.map fun x => (tabA K x, x ++ ".<locals>." ++ "<lambda>")⟩
    have S := saysM_of e e2 e3
    rw [hname] at hmg
    have mem : ∀ {p : Addr × Addr}, p ∈ lams.map (fun x => (codeA K x, tabA K x)) → ∃ x ∈ lams, p = (codeA K x, tabA K x) := fun {p} hp => by
      obtain ⟨x, hx, e⟩ := List.mem_map.mp hp
      exact ⟨x, hx, e.symm⟩
    have lam : ∀ x ∈ lams, PySem.W.codeHdIn K (codeA K x) (tabA K x) = true ∧ K.lookup (tabA K x) = none := fun x hx => by
      have z := S.lam x hx
      unfold lamB at z
      simp only [Bool.and_eq_true] at z
      exact ⟨z.2.1, Option.isNone_iff_eq_none.mp z.2.2⟩
    refine lawGT (cs := lams.map fun x => (codeA K x, tabA K x)) KX G.T.g G.T.b G.T.builtins G.T.nolimit hg (fun p hp => ?_) (fun p hp => ?_) (fun p hp => ?_) G.T.bmain hobj hints (Nat.le_trans hlen hn2) hr hmg
      (fun base hB hN TB => D w K mg _ KX G.T.g S rfl base fun x hx => TB (codeA K x, tabA K x) (List.mem_map.mpr ⟨x, hx, rfl⟩)) fun H hH hS => ?_
    · obtain ⟨x, hx, rfl⟩ := mem hp
      exact S.tab x hx
    · obtain ⟨x, hx, rfl⟩ := mem hp
      exact (lam x hx).2
    · obtain ⟨x, hx, rfl⟩ := mem hp
      exact PySem.W.codeHd_of_K KX (lam x hx).1
    · obtain ⟨own, ss, hF⟩ := hF ns hlen
      refine sp_lawT hS hF fun p hp => ?_
      obtain ⟨x, hx, rfl⟩ := List.mem_map.mp hp
      exact hH (codeA K x, tabA K x) (List.mem_map.mpr ⟨x, hx, rfl⟩)
theorem SaysM.lamD {P : Program} {z : Wd} {l : List Er} {lams : List Str} {w : World} {K : Frag} {h hp base : Heap} {mg : Str → Option Value} (S : SaysM P z l lams w K hp) (X : K.In h) (G : h.Ns mainGlobals mg) (hT : TbP.T = lams.map (fun x => (tabA K x, x ++ ".<locals>." ++ "<lambda>"))) (TB : ∀ x ∈ lams, TabB base mg (codeA K x) (tabA K x)) (i j : Nat) {x : Str}
    (e : lams[i]? = some x := by rfl) (e2 : z.fa[j]? = some (.glo x) := by rfl) : LamD K mg base x := by
  have hx : x ∈ lams := List.mem_of_getElem? e
  have hm := He.glo_ok X G (S.d.fact j e2)
  refine ⟨fun f cdv hf hc => ?_, TB x hx, by rw [hT]; exact List.mem_map.mpr ⟨x, hx, rfl⟩, fun q hq e => ?_⟩
  · rw [hm] at hf
    cases hf
    exact lam_code (S.lam x hx) hc
  · rw [hT] at hq
    obtain ⟨y, hy, rfl⟩ := List.mem_map.mp hq
    rcases S.un y hy x hx with z | z
    · rw [z]
    · exact (z e).elim
end VL


set_option Elab.async false
set_option linter.all false
set_option maxRecDepth 100000
set_option maxHeartbeats 2000000
namespace HDK
open PySem PySem.W PySem.Calls PyProof.Rows
def dictObj : Obj := { cls := .type "dict", data := .dict #[] }
def subO (prog : Program) (w : World) (ps : List (List Str × List Str)) (x : SharedT) : Option SharedT := match pushO dictObj x with
  | some x0 => pairsO prog w x.n ps x0
  | none => none
section
variable {prog : Program} {w : World} {A : Around} {E : Value → Shared → Prop} {env : Env}
theorem pushO_n {o : Obj} {x y : SharedT} (h : pushO o x = some y) : y.n = x.n + 1 := by
  unfold pushO at h
  cases g : ((x.tree.ins x.n o).get x.n).isSome with
  | false => rw [g] at h; cases h
  | true => rw [g] at h; cases h; rfl
theorem new_dict {x y : SharedT} (h : pushO dictObj x = some y) : y.abs.heap.DictOfH (kd prog w) x.n [] := by
  have e := pushO_ok h
  rw [e]
  refine ⟨dictObj, #[], 0, ?_, ⟨rfl, rfl, rfl⟩, rfl, rfl, fun _ h => by simp at h, by simp⟩
  show (x.abs.heap.push dictObj).get? x.n = some dictObj
  have z : x.abs.heap.objs.size = x.n := size_abs _
  rw [← z]
  exact Heap.get?_push_size _ rfl
theorem sub_long {pos : Pos} {es : List (Expr × Expr)} {ps : List (List Str × List Str)} {x y : SharedT} {Q : Addr → Shared → Prop} (hu : A.units < cLine) (ip : ArePairs es ps) (hl : 15 < es.length) (hn : (ps.map (·.1)).Nodup) (hz : ps.length ≤ 1000)
    (h : subO prog w ps x = some y) (hQ : ∀ xs', xs'.map (·.1) = ps.map (·.1) → y.abs.heap.DictOfH (kd prog w) x.n xs' → Q x.n y.abs) :
    wpAny (model prog w) A (subDict (es.map (semP env pos))) Q E x.abs := by
  unfold subO at h
  cases q : pushO dictObj x with
  | none => rw [q] at h; cases h
  | some x0 =>
    rw [q] at h
    dsimp only at h
    have e := pushO_ok q
    unfold subDict
    refine wpAny_bind (wpAny_alloc ?_)
    rw [size_abs]
    refine wpAny_bind (wpAny_holding ?_)
    rw [if_neg (by rw [List.length_map]; omega)]
    refine wpAny_bind (wpAny_rule ?_)
    show wpAny (model prog w) A _ _ _ { x.abs with heap := x.abs.heap.push dictObj }
    rw [← e]
    exact wpAny_bind (pairs_wp (env := env) (pos := pos) hu ip (new_dict q) (by simpa using hn) (by simpa using hz) h fun xs' e1 z => wpAny_pure (wpAny_pure (hQ xs' (by simpa using e1) z)))
theorem set_wp {d : Addr} {xs : List (List Str × Addr × Value)} {ks vs : List Str} {x x1 x2 y : SharedT} {Q : Unit → Shared → Prop} (hu : A.units < cLine) (q1 : tupE ks x = some x1) (q2 : tupE vs x1 = some x2) (h : entO ((kd prog w).hash ks) d x.n (.ref x1.n) (tokO (ks.length + 1) x2) = some y)
    (hm : x.abs.heap.DictOfH (kd prog w) d xs) (hn : ks ∉ xs.map (·.1)) (hz : xs.length ≤ 1000) (hQ : y.abs.heap.DictOfH (kd prog w) d (xs ++ [(ks, x.n, .ref x1.n)]) → Q () y.abs) : wpAny (model prog w) A (dictSet d (.ref x.n) (.ref x1.n)) Q E x2.abs := by
  have g2 := tupE_grows q2
  have hkey : (kd prog w).is x2.abs.heap ks x.n := isT_grows g2 (tupE_is q1)
  have hm2 := dict_grows g2 (dict_grows (tupE_grows q1) hm)
  unfold dictSet
  refine wpAny_holding ?_
  refine wpAny_bind ((kd prog w).pyHash hu hkey ?_)
  unfold dictSetHashed
  refine wpAny_holding ?_
  refine wpAny_bind (find_none (s := { x2.abs with toks := x2.abs.toks + (kd prog w).draws ks }) hu hkey hm2 hn ?_)
  refine wpAny_bind (wpAny_rule ?_)
  show wpAny (model prog w) A _ _ _ (tokO (ks.length + 1) x2).abs
  exact ent_wp (x := tokO (ks.length + 1) x2) hkey hm2 hn hz h fun z _ => hQ z
theorem sub_one {pos : Pos} {e : Expr × Expr} {p : List Str × List Str} {x y : SharedT} {Q : Addr → Shared → Prop} (hu : A.units < cLine) (ip : IsPair e p)
    (h : subO prog w [p] x = some y) (hQ : y.abs.heap.DictOfH (kd prog w) x.n [(p.1, x.n + 1, .ref (x.n + 1 + 1))] → Q x.n y.abs) :
    wpAny (model prog w) A (subDict [semP env pos e]) Q E x.abs := by
  unfold subO at h
  cases q : pushO dictObj x with
  | none => rw [q] at h; cases h
  | some x0 =>
    rw [q] at h
    dsimp only at h
    have e0 := pushO_ok q
    unfold pairsO at h
    cases q2 : pairO prog w x.n p x0 with
    | none => rw [q2] at h; cases h
    | some x1 =>
      rw [q2] at h
      cases h
      obtain ⟨h1, h2, l1, l2⟩ := ip
      rename_i es fs ks vs k1 k2 p1 p2
      unfold pairO at q2
      dsimp only at q2
      cases q3 : tupE ks x0 with
      | none => rw [q3] at q2; cases q2
      | some y1 =>
        rw [q3] at q2
        dsimp only at q2
        cases q4 : tupE vs y1 with
        | none => rw [q4] at q2; cases q2
        | some y2 =>
          rw [q4] at q2
          unfold subDict
          refine wpAny_bind (wpAny_alloc ?_)
          rw [size_abs]
          refine wpAny_bind (wpAny_holding ?_)
          rw [if_pos (show [semP env pos (Expr.Tuple es k1 p1, Expr.Tuple fs k2 p2)].length ≤ 15 from Nat.le_of_ble_eq_true rfl)]
          show wpAny (model prog w) A _ _ _ { x.abs with heap := x.abs.heap.push dictObj }
          rw [← e0]
          refine wpAny_bind ?_
          unfold evalPairs
          refine wpAny_bind (tup_wp (k := k1) h1 l1 q3 (wpAny_bind (wpAny_holding (wpAny_bind (tup_wp (k := k2) h2 l2 q4 (wpAny_bind (wpAny_standAt (wpAny_pure ?_))))))))
          unfold evalPairs
          refine wpAny_bind (wpAny_holding (wpAny_pure (wpAny_pure ?_)))
          refine wpAny_holding ?_
          rw [List.forIn_cons]
          refine wpAny_bind (wpAny_bind (wpAny_bind (set_wp hu q3 q4 q2 (new_dict q) (by simp) (by simp) fun z => wpAny_pure ?_)))
          dsimp only
          rw [List.forIn_nil]
          have n1 := pushO_n q
          have n2 : y1.n = x0.n + 1 := pushO_n (x := tokO ks.length x0) (o := tupO (strsFrom x0.toks ks)) q3
          rw [n2, n1] at z
          exact wpAny_pure (wpAny_pure (wpAny_pure (hQ (by simpa using z))))
/-- the second part's pair is put to the first -/
theorem merge_wp {d b a : Addr} {v : Value} {xs : List (List Str × Addr × Value)} {ks : List Str} {x y : SharedT} {Q : Unit → Shared → Prop} (hu : A.units < cLine) (hb : (b == sysModules) = false) (hdb : d ≠ b) (hm : x.abs.heap.DictOfH (kd prog w) d xs) (hx : xs ≠ []) (hs : x.abs.heap.DictOfH (kd prog w) b [(ks, a, v)]) (hn : ks ∉ xs.map (·.1)) (hz : xs.length ≤ 1000)
    (h : entO ((kd prog w).hash ks) d a v x = some y) (hQ : y.abs.heap.DictOfH (kd prog w) d (xs ++ [(ks, a, v)]) → Q () y.abs) : wpAny (model prog w) A (mergeMapping d (.ref b) false) Q E x.abs := by
  obtain ⟨ob, eb, epb, hob, hcb, hdb', heb, hib, _⟩ := hs
  obtain ⟨od, ed, epd, hod, hcd, hdd, hed, hid, hnd⟩ := id hm
  have ty : x.abs.TypeIs (.ref b) "dict" := ⟨ob, hob, hcb.1⟩
  have e1 : eb = #[⟨(kd prog w).hash ks, .ref a, v⟩] := by
    have : eb.toList = [⟨(kd prog w).hash ks, .ref a, v⟩] := by rw [heb]; rfl
    exact Array.toList_inj.mp this
  subst e1
  have hkey : (kd prog w).is x.abs.heap ks a := hib (ks, a, v) (by simp)
  have hemp : ed.isEmpty = false := by
    have hl : ed.size = xs.length := size_of_entries hed
    cases xs with
    | nil => exact absurd rfl hx
    | cons _ _ =>
      simp only [Array.isEmpty, hl, List.length_cons]
      exact decide_eq_false (by omega)
  unfold mergeMapping
  refine wpAny_bind (wpAny_isInstance ty F.sub_dict_dict ?_)
  rw [if_pos rfl]
  refine wpAny_bind (wpAny_specialOf ty F.slot_dict_iter.lookup ?_)
  refine wpAny_bind (wpAny_pure ?_)
  simp only [beq_self_eq_true]
  rw [if_neg (by rw [hb]; exact Bool.false_ne_true)]
  refine wpAny_bind (wpAny_dictEntries hod hdd ?_)
  rw [if_neg (by rw [hemp]; exact Bool.false_ne_true)]
  refine wpAny_bind (wpAny_dictEntries hob hdb' ?_)
  refine wpAny_bind (wpAny_dictEpoch hob hdb' ?_)
  have e2 : List.range (#[(⟨(kd prog w).hash ks, .ref a, v⟩ : DictEntry)]).size = [0] := rfl
  rw [e2, List.forIn_cons]
  refine wpAny_bind (wpAny_bind (wpAny_bind (wpAny_dictEntries hob hdb' ?_)))
  have e3 : (#[(⟨(kd prog w).hash ks, .ref a, v⟩ : DictEntry)])[0]? = some ⟨(kd prog w).hash ks, .ref a, v⟩ := rfl
  rw [e3]
  dsimp only
  refine wpAny_bind (wpAny_holding ?_)
  rw [if_neg Bool.false_ne_true]
  unfold dictPut
  refine wpAny_bind (find_none hu hkey hm hn ?_)
  refine ent_wp hkey hm hn hz h fun z sb => ?_
  have hob' : y.abs.heap.get? b = some ob := by
    rw [setO_ok h]
    exact (Heap.get?_update_ne _ _ _ _ (Ne.symm hdb)).trans hob
  refine wpAny_bind (wpAny_dictEpoch hob' hdb' ?_)
  rw [if_neg (by simp)]
  refine wpAny_pure ?_
  dsimp only
  rw [List.forIn_nil]
  exact wpAny_pure (wpAny_pure (hQ z))
/-- the display of eighteen pairs -/
def dispO (prog : Program) (w : World) (ps : List (List Str × List Str)) (p : List Str × List Str) (x : SharedT) : Option SharedT := match subO prog w ps x with
  | some x1 => (match (x1.n == sysModules) || !Nat.blt x.n x1.n with
    | true => none
    | false => (match subO prog w [p] x1 with
      | some x2 => entO ((kd prog w).hash p.1) x.n (x1.n + 1) (.ref (x1.n + 1 + 1)) x2
      | none => none))
  | none => none
def optP (env : Env) (pos : Pos) (p : Expr × Expr) : Option (Sem Value) × Sem Value := (some (semP env pos p).1, (semP env pos p).2)
theorem gather_rest (f : (Option (Sem Value) × Sem Value) → (Option Addr × List (Sem Value × Sem Value)) → Sem (ForInStep (Option Addr × List (Sem Value × Sem Value))))
    (hf : ∀ (p : Sem Value × Sem Value) (run : List (Sem Value × Sem Value)), run.length + 1 < 17 → f (some p.1, p.2) (none, run) = pure (.yield (none, run ++ [p]))) (rest : List (Option (Sem Value) × Sem Value)) :
    ∀ (items run : List (Sem Value × Sem Value)), run.length + items.length < 17 → forIn ((items.map fun p => (some p.1, p.2)) ++ rest) ((none : Option Addr), run) f = forIn rest ((none : Option Addr), run ++ items) f
  | [], run, _ => by simp
  | p :: items, run, h => by
    rw [List.map_cons, List.cons_append, List.forIn_cons, hf p run (by simp at h; omega), pure_bind]
    have := gather_rest f hf rest items (run ++ [p]) (by simp at h ⊢; omega)
    simpa using this
theorem disp_eq (l : List (Sem Value × Sem Value)) (p q : Sem Value × Sem Value) (hl : l.length = 16) : dictDisplay ((l.map fun p => (some p.1, p.2)) ++ [(some p.1, p.2), (some q.1, q.2)]) =
    (do
      let d ← subDict (l ++ [p])
      let sub ← holding [.ref d] (subDict [q])
      (holding [.ref d, .ref sub] (mergeMapping d (.ref sub) false)).onRaise fun x => do let _ ← holding [.ref d, x] (runValue (.builtin "proto.let_go" {}))
      pure (.ref d)) := by
  unfold dictDisplay
  dsimp only
  rw [gather_rest _ (fun p run h => by
    have hne : ((run ++ [(p.1, p.2)]).length == 17) = false := by simp; omega
    simp only [hne, Bool.false_eq_true, if_false]) _ l [] (by simp [hl])]
  have h17 : ((l ++ [(p.1, p.2)]).length == 17) = true := by simp [hl]
  have hne : (l ++ [(p.1, p.2)]).isEmpty = false := by simp
  rw [List.forIn_cons]
  dsimp only
  simp only [List.nil_append, h17, hne, if_true, Bool.false_eq_true, if_false, bind_assoc, pure_bind, List.forIn_cons, List.forIn_nil]
  simp only [List.length_singleton, List.isEmpty_cons, show ((1 : Nat) == 17) = false from rfl, Bool.false_eq_true, if_false, pure_bind, bind_assoc]
  trace_state
theorem dict_same {h h' : Heap} {b d : Addr} {xs : List (List Str × Addr × Value)} {o : Obj} {es : Array DictEntry} {ep : Nat} (hd : d ≠ b) (ho : h.get? b = some o) (hdat : o.data = .dict es ep) (sb : Heap.SameBut b h h') (k : ∀ u, h.get? d = some u → h'.get? d = some u) (x : h.DictOfH (kd prog w) d xs) : h'.DictOfH (kd prog w) d xs := by
  obtain ⟨o', es', ep', h1, h2, h3, h4, h5, h6⟩ := x
  exact ⟨o', es', ep', k _ h1, h2, h3, h4, fun y hy => (kd prog w).keeps (h5 y hy) ho hdat sb, h6⟩
theorem subO_keeps {p : List Str × List Str} {d : Addr} {xs : List (List Str × Addr × Value)} {x y : SharedT} (h : subO prog w [p] x = some y) (hm : x.abs.heap.DictOfH (kd prog w) d xs) (hd : d ≠ x.n) : y.abs.heap.DictOfH (kd prog w) d xs := by
  unfold subO at h
  cases q : pushO dictObj x with
  | none => rw [q] at h; cases h
  | some x0 =>
    rw [q] at h
    dsimp only at h
    have e0 := pushO_ok q
    have nd := new_dict (prog := prog) (w := w) q
    have g0 : grows x.abs.heap x0.abs.heap := by rw [e0]; exact push_grows
    unfold pairsO at h
    cases q2 : pairO prog w x.n p x0 with
    | none => rw [q2] at h; cases h
    | some x1 =>
      rw [q2] at h
      cases h
      unfold pairO at q2
      cases q3 : tupE p.1 x0 with
      | none => rw [q3] at q2; cases q2
      | some y1 =>
        rw [q3] at q2
        dsimp only at q2
        cases q4 : tupE p.2 y1 with
        | none => rw [q4] at q2; cases q2
        | some y2 =>
          rw [q4] at q2
          dsimp only at q2
          have g1 := tupE_grows q3
          have g2 := tupE_grows q4
          obtain ⟨o, es, ep, ho, _, hdat, _⟩ := dict_grows g2 (dict_grows g1 nd)
          have hm2 := dict_grows g2 (dict_grows g1 (dict_grows g0 hm))
          have e := setO_ok q2
          rw [e]
          exact dict_same hd ho hdat (Heap.SameBut.update ..) (fun u hu => (Heap.get?_update_ne _ _ _ _ hd).trans hu) hm2
theorem disp_wp {keys : List (Option Expr)} {values : List Expr} {pos : Pos} {es : List (Expr × Expr)} {e17 e18 : Expr × Expr} {ps : List (List Str × List Str)} {p : List Str × List Str} {x y : SharedT} {Q : Value → Shared → Prop} (hu : A.units < cLine)
    (hshape : (evalEachOpt keys env).zip ((evalEach values env).map fun v => do let x ← v; standAt pos; pure x) = ((es.map (semP env pos)).map fun p => (some p.1, p.2)) ++ [(some (semP env pos e17).1, (semP env pos e17).2), (some (semP env pos e18).1, (semP env pos e18).2)])
    (hl : es.length = 16) (ip : ArePairs (es ++ [e17]) ps) (i18 : IsPair e18 p) (hn : (ps.map (·.1)).Nodup) (hn2 : p.1 ∉ ps.map (·.1)) (hz : ps.length ≤ 900) (hne : ps ≠ [])
    (h : dispO prog w ps p x = some y) (hQ : ∀ xs', xs'.map (·.1) = ps.map (·.1) ++ [p.1] → y.abs.heap.DictOfH (kd prog w) x.n xs' → Q (.ref x.n) y.abs) : wpAny (model prog w) A (eval (.Dict keys values pos) env) Q E x.abs := by
  unfold dispO at h
  cases q1 : subO prog w ps x with
  | none => rw [q1] at h; cases h
  | some x1 =>
    rw [q1] at h
    dsimp only at h
    cases c : (x1.n == sysModules) || !Nat.blt x.n x1.n with
    | true => rw [c] at h; cases h
    | false =>
      rw [c] at h
      dsimp only at h
      rw [Bool.or_eq_false_iff] at c
      obtain ⟨c1, c2⟩ := c
      have c3 : x.n < x1.n := by
        have : Nat.blt x.n x1.n = true := by simpa using c2
        exact Nat.le_of_ble_eq_true this
      cases q2 : subO prog w [p] x1 with
      | none => rw [q2] at h; cases h
      | some x2 =>
        rw [q2] at h
        dsimp only at h
        rw [arm_eval_Dict, hshape, disp_eq _ _ _ (by simp [hl])]
        refine wpAny_bind (wpAny_standAt ?_)
        have e1 : List.map (semP env pos) es ++ [semP env pos e17] = (es ++ [e17]).map (semP env pos) := by simp
        rw [e1]
        refine wpAny_bind (sub_long hu ip (by simp [hl]) hn (by omega) q1 fun xs e2 hm => ?_)
        have hm2 := subO_keeps q2 hm (Nat.ne_of_lt c3)
        refine wpAny_bind (wpAny_holding (sub_one hu i18 q2 fun hs => ?_))
        have lx : xs.length = ps.length := by simpa using congrArg List.length e2
        refine wpAny_bind (wpAny_onRaise (wpAny_holding (merge_wp hu c1 (Nat.ne_of_lt c3) hm2 (fun z => ?_) hs (by rw [e2]; exact hn2) (by omega) h fun z => wpAny_pure (hQ _ (by simp [e2]) z))))
        subst z
        cases ps with
        | nil => exact hne rfl
        | cons _ _ => simp at lx
end
end HDK


set_option Elab.async false
set_option linter.all false
set_option maxRecDepth 100000
set_option maxHeartbeats 2000000
/-! HD3: from what wp tells exactly to the machine's steps, whatever stands behind. -/
namespace HDK
open PySem PySem.W PySem.Calls PyProof.Rows
/-- n calm steps of one thread -/
def Steps (p : Program) (w : World) (n : Nat) (s : Shared) (t : Thread) (s' : Shared) (t' : Thread) : Prop :=
  runN (denote table) p w n s t = .running s' t' ∧ ∀ k, k < n → ∀ s₁ t₁, runN (denote table) p w k s t = .running s₁ t₁ → t₁.calm = true
section
variable {p : Program} {w : World}
theorem steps_sched : ∀ {n : Nat} {s s' : Shared} {t t' : Thread}, s.asleep → Steps p w n s t s' t' → schedN (denote table) p w n (.single s t) = .running (.single s' t') ∧ s'.heap.life = s.heap.life
  | 0, s, s', t, t', _, h => by
    have e : Run.running s t = .running s' t' := h.1
    cases e
    exact ⟨rfl, rfl⟩
  | n + 1, s, s', t, t', hr, ⟨h, hc⟩ => by
    have hc0 : t.calm = true := hc 0 (Nat.succ_pos n) s t rfl
    simp only [runN] at h
    cases hs : step (denote table) p w s t with
    | halt o s₁ => rw [hs] at h; cases h
    | go s₁ t₁ =>
      rw [hs] at h
      have hl := step_life (denote table) p w s s₁ t t₁ hs
      have e : sstep (denote table) p w (.single s t) = .go (.single s₁ t₁) := by
        rcases sstep_single (denote table) p w s t hc0 hr with e | e
        · rw [e, hs]; rfl
        · rw [hs] at e; cases e
      obtain ⟨h1, h2⟩ := steps_sched (Shared.asleep_of_life hl hr) (show Steps p w n s₁ t₁ s' t' from ⟨h, fun k hk s₂ t₂ h₂ => hc (k + 1) (Nat.succ_lt_succ hk) s₂ t₂ (by simp only [runN, hs]; exact h₂)⟩)
      exact ⟨by simp only [schedN, e]; exact h1, h2.trans hl⟩
variable {α : Type} {K K' : α → Sem Fin} {H H' : Value → Sem Fin} {gd : Bool → Bool} {lv : List Value → List Value} {B : List Frame} {res : α → Flow}
theorem calm_inner (hB : splitAtGen B = none) {cur : Sem Fin} {code : Code} {pos : Pos} {a b : List Frame} (F : Frames2 K K' H H' gd lv B a b) (h : Thread.calm ⟨cur, code, pos, a⟩ = true) : Thread.calm ⟨cur, code, pos, b⟩ = true := by
  have e : Thread.calm ⟨cur, code, pos, b⟩ = Thread.calm ⟨cur, code, pos, a⟩ := by
    rcases F.split hB with ⟨u, v⟩ | ⟨fs, n, k, k', c, q, ra, rb, u, v, _⟩ <;> (cases cur <;> first | rfl | simp only [Thread.calm, Thread.yieldsInsideHandler, Thread.atCollectorCode, Thread.atExit, u, v])
  rw [e]; exact h
theorem calm_outer {x : Sem α} {code : Code} {pos : Pos} (hp : ∀ a, x ≠ .pure a) (hr : ∀ e, x ≠ .raise e) (h : Thread.calm ⟨x.wrap K deadEnd gd lv, code, pos, B⟩ = true) : Thread.calm ⟨x.wrap K' H' gd lv, code, pos, B⟩ = true := by
  cases x with
  | pure a => exact absurd rfl (hp a)
  | raise e => exact absurd rfl (hr e)
  | _ => exact h
abbrev Good (B : List Frame) (th : Thread) : Prop := ¬ (th.stack.length = B.length ∧ ∃ a, th.cur = .pure a)
theorem sim (hB : splitAtGen B = none) : ∀ (n : Nat) (s : Shared) (t t' : Thread) (σ : Shared) (τ : Thread), Rel2 (fun a => .pure (.done (res a))) K' deadEnd H' gd lv B t t' → runN (denote table) p w n s t = .running σ τ →
    (∀ k, k < n → ∀ s₁ t₁, runN (denote table) p w k s t = .running s₁ t₁ → t₁.calm = true ∧ Good B t₁) → ∃ τ', Steps p w n s t' σ τ' ∧ Rel2 (fun a => .pure (.done (res a))) K' deadEnd H' gd lv B τ τ'
  | 0, s, t, t', σ, τ, R, h, _ => by
    have e : Run.running s t = .running σ τ := h
    cases e
    exact ⟨t', ⟨rfl, fun k hk => absurd hk (Nat.not_lt_zero k)⟩, R⟩
  | n + 1, s, ⟨cur, code, pos, st⟩, ⟨cur', code', pos', st'⟩, σ, τ, R, h, hc => by
    obtain ⟨e1, e2, R⟩ := R
    dsimp only at e1 e2 R
    subst e1 e2
    obtain ⟨c0, g0⟩ := hc 0 (Nat.succ_pos n) _ _ rfl
    simp only [runN] at h
    cases hs : step (denote table) p w s ⟨cur, code, pos, st⟩ with
    | halt o s₂ => rw [hs] at h; cases h
    | go s₂ t₂ =>
      rw [hs] at h
      have key : Thread.calm ⟨cur', code, pos, st'⟩ = true ∧ ∃ t₂', step (denote table) p w s ⟨cur', code, pos, st'⟩ = .go s₂ t₂' ∧ Rel2 (fun a => .pure (.done (res a))) K' deadEnd H' gd lv B t₂ t₂' := by
        rcases R with ⟨rfl, rfl, x, rfl, rfl⟩ | ⟨rfl, F⟩
        · have hp : ∀ a, x ≠ .pure a := by
            rintro a rfl
            exact g0 ⟨rfl, _, rfl⟩
          have hr : ∀ e, x ≠ .raise e := by
            rintro e rfl
            obtain ⟨heap, gens, drawn, toks, os⟩ := s
            simp only [Sem.wrap, step] at hs
            cases hs
          exact ⟨calm_outer hp hr c0, step_outer hB hp hs⟩
        · exact ⟨calm_inner hB F c0, step_inner hB F hs⟩
      obtain ⟨k1, t₂', k2, R'⟩ := key
      obtain ⟨τ', ⟨h1, h2⟩, R2⟩ := sim hB n s₂ t₂ t₂' σ τ R' h fun k hk s₁ t₁ h₁ => hc (k + 1) (Nat.succ_lt_succ hk) s₁ t₁ (by simp only [runN, hs]; exact h₁)
      refine ⟨τ', ⟨by simp only [runN, k2]; exact h1, fun k hk s₁ t₁ h₁ => ?_⟩, R2⟩
      cases k with
      | zero =>
        have e : Run.running s ⟨cur', code, pos, st'⟩ = .running s₁ t₁ := h₁
        cases e
        exact k1
      | succ k =>
        simp only [runN, k2] at h₁
        exact h2 k (Nat.lt_of_succ_lt_succ hk) s₁ t₁ h₁
end
theorem wp_wrap {α : Type} {M : Model} {Γ : Ctx} {K : α → Sem Fin} {H : Value → Sem Fin} {gd : Bool → Bool} {lv : List Value → List Value} {Q : Fin → Pos → Shared → Prop} {E : Value → Pos → Shared → Prop} (x : Sem α) : ∀ (p : Pos) (s : Shared),
    Sem.wp M Γ x (fun a p s => Sem.wp M Γ (K a) Q E p s) (fun _ _ _ => False) p s → Sem.wp M Γ (x.wrap K H gd lv) Q E p s := by
  induction x with
  | pure a => intro p s h; exact h
  | raise e => intro p s h; exact h.elim
  | unsupported _ => intro p s h; exact h.elim
  | finish _ => intro p s h; exact h.elim
  | rule tag k ih => intro p s h; exact ih () p s h
  | «at» p' k ih => intro p s h; exact ih () p' s h
  | load a q k ih =>
    intro p s h
    obtain ⟨o, e, h⟩ := h
    exact ⟨o, e, ih o p s h⟩
  | update a q f k ih =>
    intro p s h
    exact ⟨h.1, ih () p _ h.2⟩
  | loadIfAlive a k ih => intro p s h; exact ih _ p s h
  | point l k ih => intro p s h; exact ih () p s h
  | register a k ih => intro p s h; exact h.elim
  | alloc o k ih => intro p s h; exact ih _ p _ h
  | fresh k ih => intro p s h; exact ih _ p _ h
  | ask k ih => intro p s h; exact ih _ p s h
  | choose src n k ih => intro p s h; exact ⟨h.1, ih _ p _ h.2⟩
  | os q l k ih => intro p s h; exact ih _ p _ h
  | call c hd g l k ih =>
    intro p s h
    exact wpCode_mono (fun r s' h' => ih r p s' h') h
  | handled own k ih => intro p s h; exact ih _ p s h
  | genState g k ih =>
    intro p s h
    obtain ⟨st, e, h⟩ := h
    exact ⟨st, e, ih _ p s h⟩
  | newGen c k ih => intro p s h; exact ih _ p _ h
  | resume g r l k ih =>
    intro p s h
    obtain ⟨res, s', e, h⟩ := h
    exact ⟨res, s', e, ih _ p s' h⟩
  | «yield» v g l k ih => intro p s h; exact h.elim
  | stack k ih => intro p s h; exact ih _ p s h
  | fork c k ih => intro p s h; exact h.elim
  | thread k ih => intro p s h; exact ih _ p s h
  | await a f d l k ih => intro p s h; exact h.elim
theorem ni_calm {den : Code → Sem Fin} {p : Program} {w : World} : ∀ {k : Nat} {s s₂ : Shared} {t t₂ : Thread}, runNI den p w k s t = .running s₂ t₂ → (∃ s₃ t₃, runNI den p w (k + 1) s t = .running s₃ t₃) → t₂.calm = true
  | 0, s, s₂, t, t₂, h, ⟨s₃, t₃, h3⟩ => by
    have e : Run.running s t = .running s₂ t₂ := h
    cases e
    simp only [runNI] at h3
    rw [Thread.calm_eq]
    cases hl : t.loud with
    | true => rw [stepI_loud den p w hl] at h3; cases h3
    | false =>
      rw [stepI_quiet den p w hl] at h3
      cases hf : t.refused with
      | true =>
        obtain ⟨what, e⟩ := stepK_refused den p w (s := s) hf
        rw [e] at h3; cases h3
      | false => rfl
  | k + 1, s, s₂, t, t₂, h, ⟨s₃, t₃, h3⟩ => by
    simp only [runNI] at h
    cases hs : stepI den p w s t with
    | halt o s₁ => rw [hs] at h; cases h
    | go s₁ t₁ =>
      rw [hs] at h
      refine ni_calm (k := k) h ⟨s₃, t₃, ?_⟩
      simp only [runNI, hs] at h3
      simpa only [runNI] using h3
/-- an exact telling, run by the machine ahead of whatever goes on -/
theorem mid {p : Program} {w : World} {x : Sem Value} {K' : Value → Sem Fin} {H' : Value → Sem Fin} {B : List Frame} (hB : splitAtGen B = none) {c : Code} {pos : Pos} {s s' : Shared} {v0 : Value} {A : Around} (hA : (Ctx.of c B).In A)
    (h : wpAny (model p w) A x (fun v s'' => v = v0 ∧ s'' = s') (fun _ _ => False) s) (hg : s'.gens = #[]) : ∃ n pos', Steps p w n s ⟨x.wrap K' H' id id, c, pos, B⟩ s' ⟨K' v0, c, pos', B⟩ := by
  have h1 : Sem.wp (model p w) (Ctx.of c B) (x.wrap (fun a => .pure (.done (.ret a))) deadEnd id id) (fun f _ s'' => f = .done (.ret v0) ∧ s'' = s') (fun _ _ _ => False) pos s := by
    refine wp_wrap x pos s (Sem.wp_mono _ _ _ (fun a p' s'' q => ?_) (fun _ _ _ q => q) _ _ (h _ pos hA))
    obtain ⟨rfl, rfl⟩ := q
    exact ⟨rfl, rfl⟩
  obtain ⟨s1, p1, leaf, ⟨n, hn, hall⟩, hl⟩ := wp_comesBy (M := model p w) (Good := Good B) (Ctx.fits_of c B) (fun t c p ht z => by
      obtain ⟨_, a, e⟩ := z
      exact ht a e) (fun t c p pre F z => by
      have := z.1
      simp at this
      omega) _ _ _ pos s h1
  have hn' : runNI (denote table) p w n s ⟨x.wrap (fun a => .pure (.done (.ret a))) deadEnd id id, c, pos, B⟩ = .running s1 ⟨leaf, c, p1, B⟩ := hn
  obtain ⟨σ, tau, hr, hσ, htau⟩ := runNI_running_real hn'
  rcases hl with ⟨a, rfl, rfl, rfl⟩ | ⟨e, _, z⟩
  · obtain rfl := Shared.eq_of_forget_eq hσ hg
    obtain ⟨cur, code, ps, stack⟩ := tau
    simp only [Thread.forget, Thread.mk.injEq, forgetAll] at htau
    obtain ⟨e2, e3, e4, e5⟩ := htau
    subst e2 e3 e4
    have hlen : stack.length = B.length := by
      have q := congrArg List.length e5
      rw [List.length_map, List.length_map] at q
      exact q
    obtain ⟨τ', st, R⟩ := sim (p := p) (w := w) (res := Flow.ret) (K' := K') (H' := H') (gd := id) (lv := id) hB n s ⟨x.wrap (fun a => .pure (.done (.ret a))) deadEnd id id, code, pos, B⟩ ⟨x.wrap K' H' id id, code, pos, B⟩ σ ⟨.pure (.done (.ret v0)), code, ps, stack⟩ ⟨rfl, rfl, .inl ⟨rfl, rfl, x, rfl, rfl⟩⟩ hr fun k hk s₁ t₁ h₁ => by
      obtain ⟨s₂, t₂, h₂⟩ := runNI_prefix (Nat.le_of_lt hk) hn'
      obtain ⟨σ₂, tau₂, hr₂, _, htau₂⟩ := runNI_running_real h₂
      rw [hr₂] at h₁
      injection h₁ with z1 z2
      subst z1 z2
      have c2 := ni_calm h₂ (runNI_prefix (Nat.succ_le_of_lt hk) hn')
      have g2 := hall k hk s₂ t₂ h₂
      refine ⟨by rw [← Thread.calm_forget, htau₂, Thread.calm_forget]; exact c2, fun ⟨z1, z2⟩ => g2 ?_⟩
      obtain ⟨cur₂, code₂, pos₂, st₂⟩ := tau₂
      obtain ⟨cur₃, code₃, pos₃, st₃⟩ := t₂
      simp only [Thread.forget, Thread.mk.injEq, forgetAll] at htau₂
      obtain ⟨f1, f2, f3, f4⟩ := htau₂
      have l2 : st₂.length = st₃.length := by
        have q := congrArg List.length f4
        rw [List.length_map, List.length_map] at q
        exact q
      exact ⟨by simpa [l2] using z1, by simpa [f1] using z2⟩
    obtain ⟨r1, r2, R⟩ := R
    obtain ⟨cur', code', pos', st'⟩ := τ'
    dsimp only at r1 r2 R
    subst r1 r2
    rcases R with ⟨q1, q2, y, q3, q4⟩ | ⟨q, F⟩
    · subst q2
      cases y with
      | pure a =>
        have ea : a = v0 := by
          simp only [Sem.wrap, Sem.pure.injEq, Fin.done.injEq, Flow.ret.injEq] at q3
          exact q3.symm
        subst ea
        subst q4
        exact ⟨n, _, st⟩
      | _ => simp [Sem.wrap] at q3
    · have := F.longer.1
      omega
  · exact z.elim
end HDK


set_option Elab.async false
set_option linter.all false
set_option maxRecDepth 100000
set_option maxHeartbeats 2000000
/-! HD4: a top in three parts: by the machine, told exactly, by the machine. -/
namespace HDK
open PySem PySem.W PySem.Calls PyProof.Rows HandSHeadRun
/-- so many steps of the top, the heap as a tree -/
def goG (st : SharedT → Thread → Option (SharedT × Thread)) (n0 : Nat) (ann : Option Value) : Nat → SharedT → Thread → Option (SharedT × Thread)
  | 0, s, t => some (s, t)
  | m + 1, s, t => match through t with
    | true => none
    | false => match stepOk n0 ann t with
      | false => none
      | true => match st s t with
        | some (s', t') => frS s' fun s' => goG st n0 ann m s' t'
        | none => none
/-- what such a part leaves: reached by the scheduler, the frame kept -/
structure Gets (p : Program) (w : World) (n0 : Nat) (ann : Option Value) (s : Shared) (t : Thread) (s' : Shared) (t' : Thread) : Prop where
  run : ∃ m, schedN (denote table) p w m (.single s t) = .running (.single s' t')
  life : s'.heap.life = s.heap.life
  os : s'.os = s.os
  fr : ∀ b o, b < n0 → b ≠ mainNs → b ≠ cStatics → ann ≠ some (.ref b) → s.heap.get? b = some o → s'.heap.get? b = some o
theorem sched_add {den : Code → Sem Fin} {p : Program} {w : World} : ∀ {m n : Nat} {c c' : Config} {r : SRun}, schedN den p w m c = .running c' → schedN den p w n c' = r → schedN den p w (m + n) c = r
  | 0, n, c, c', r, h, k => by
    have e : SRun.running c = .running c' := h
    cases e
    rw [Nat.zero_add]; exact k
  | m + 1, n, c, c', r, h, k => by
    rw [show m + 1 + n = m + n + 1 by omega]
    simp only [schedN] at h ⊢
    cases hs : sstep den p w c with
    | halt o s => rw [hs] at h; cases h
    | go c₁ => rw [hs] at h; exact sched_add h k
section
variable {p : Program} {w : World} {n0 : Nat} {ann : Option Value}
theorem Gets.refl {s : Shared} {t : Thread} : Gets p w n0 ann s t s t := ⟨⟨0, rfl⟩, rfl, rfl, fun _ _ _ _ _ _ e => e⟩
theorem Gets.trans {s s1 s2 : Shared} {t t1 t2 : Thread} (a : Gets p w n0 ann s t s1 t1) (b : Gets p w n0 ann s1 t1 s2 t2) : Gets p w n0 ann s t s2 t2 := by
  obtain ⟨m, hm⟩ := a.run
  obtain ⟨n, hn⟩ := b.run
  exact ⟨⟨m + n, sched_add hm hn⟩, b.life.trans a.life, b.os.trans a.os, fun x o h1 h2 h3 h4 e => b.fr x o h1 h2 h3 h4 (a.fr x o h1 h2 h3 h4 e)⟩
theorem one_step {s s' : Shared} {t t' : Thread} (hr : s.asleep) (hk : stepOk n0 ann t = true) (hs : step (denote table) p w s t = .go s' t') : Gets p w n0 ann s t s' t' := by
  obtain ⟨hc, hk⟩ := Bool.and_eq_true_iff.mp hk
  have hl := step_life (denote table) p w s s' t t' hs
  have e : sstep (denote table) p w (.single s t) = .go (.single s' t') := by
    rcases sstep_single (denote table) p w s t hc hr with e | e
    · rw [e, hs]; rfl
    · rw [hs] at e; cases e
  refine ⟨⟨1, by simp only [schedN, e]⟩, hl, step_os_same hs (by revert hk; cases t.cur <;> simp), fun b o h1 h2 h3 h4 h5 => ?_⟩
  rw [step_heap (denote table) p w s s' t t' hs]
  revert hk
  cases t.cur <;> intro hk <;> try exact h5
  case update a _ f _ =>
    have : b ≠ a := by
      rintro rfl
      simp only [Bool.or_eq_true, Nat.ble_eq, beq_iff_eq] at hk
      rcases hk with ((q | q) | q) | q
      · exact absurd h1 (Nat.not_lt.mpr q)
      · exact h2 q
      · exact h3 q
      · exact h4 q
    exact (Heap.get?_update_ne _ _ _ _ this).trans h5
  case alloc x _ => exact Heap.get?_push_of_some x h5
theorem goG_gets : ∀ {m : Nat} {s s' : SharedT} {t t' : Thread}, s.abs.asleep → goG (stepT (denote table) p w) n0 ann m s t = some (s', t') → Gets p w n0 ann s.abs t s'.abs t'
  | 0, s, s', t, t', _, h => by
    cases h
    exact .refl
  | m + 1, s, s', t, t', hr, h => by
    unfold goG at h
    cases ht : through t with
    | true => rw [ht] at h; cases h
    | false =>
      rw [ht] at h
      cases hk : stepOk n0 ann t with
      | false => rw [hk] at h; cases h
      | true =>
        rw [hk] at h
        dsimp only at h
        cases hs : stepT (denote table) p w s t with
        | none => rw [hs] at h; cases h
        | some r =>
          obtain ⟨s2, t2⟩ := r
          rw [hs] at h
          dsimp only at h
          rw [frS_eq] at h
          have a := one_step (p := p) (w := w) hr hk (stepT_spec hs)
          exact a.trans (goG_gets (Shared.asleep_of_life a.life hr) h)
end
end HDK


set_option Elab.async false
set_option linter.all false
set_option maxRecDepth 100000
set_option maxHeartbeats 2000000
namespace HDK
open PySem PySem.W PySem.Calls PyProof.Rows HandSHeadRun
/-- below m all stays -/
def Low (m : Nat) (x y : SharedT) : Prop := y.os = x.os ∧ x.n ≤ y.n ∧ ∀ b o, b < m → x.abs.heap.get? b = some o → y.abs.heap.get? b = some o
theorem Low.refl {m : Nat} {x : SharedT} : Low m x x := ⟨rfl, Nat.le_refl _, fun _ _ _ e => e⟩
theorem Low.trans {m : Nat} {x y z : SharedT} (a : Low m x y) (b : Low m y z) : Low m x z := ⟨b.1.trans a.1, Nat.le_trans a.2.1 b.2.1, fun c o h e => b.2.2 c o h (a.2.2 c o h e)⟩
theorem low_push {m : Nat} {o : Obj} {x y : SharedT} (h : pushO o x = some y) : Low m x y := by
  have e := pushO_ok h
  refine ⟨congrArg Shared.os e, by rw [pushO_n h]; exact Nat.le_succ _, fun b u _ q => ?_⟩
  rw [e]
  exact Heap.get?_push_of_some _ q
theorem low_set {m : Nat} {a : Addr} {f : Obj → Obj} {x y : SharedT} (h : setO a f x = some y) (hm : m ≤ a) : Low m x y := by
  have e := setO_ok h
  have en : y.n = x.n := by rw [← size_abs, ← size_abs, e]; exact Heap.size_update ..
  refine ⟨congrArg Shared.os e, by rw [en]; exact Nat.le_refl _, fun b u hb q => ?_⟩
  rw [e]
  exact (Heap.get?_update_ne _ _ _ _ (Nat.ne_of_lt (Nat.lt_of_lt_of_le hb hm))).trans q
theorem low_tup {m : Nat} {ss : List Str} {x y : SharedT} (h : tupE ss x = some y) : Low m x y := by
  have a := low_push (m := m) (x := tokO ss.length x) h
  exact ⟨a.1, a.2.1, a.2.2⟩
section
variable {prog : Program} {w : World}
theorem low_pair {m : Nat} {d : Addr} {p : List Str × List Str} {x y : SharedT} (h : pairO prog w d p x = some y) (hm : m ≤ d) : Low m x y := by
  unfold pairO at h
  cases q1 : tupE p.1 x with
  | none => rw [q1] at h; cases h
  | some x1 =>
    rw [q1] at h
    dsimp only at h
    cases q2 : tupE p.2 x1 with
    | none => rw [q2] at h; cases h
    | some x2 =>
      rw [q2] at h
      have a := low_set (x := tokO (p.1.length + 1) x2) h hm
      exact (low_tup q1).trans ((low_tup q2).trans ⟨a.1, a.2.1, a.2.2⟩)
theorem low_pairs {m : Nat} {d : Addr} : ∀ {ps : List (List Str × List Str)} {x y : SharedT}, pairsO prog w d ps x = some y → m ≤ d → Low m x y
  | [], x, y, h, _ => by cases h; exact .refl
  | p :: ps, x, y, h, hm => by
    unfold pairsO at h
    cases q : pairO prog w d p x with
    | none => rw [q] at h; cases h
    | some x1 => rw [q] at h; exact (low_pair q hm).trans (low_pairs h hm)
theorem low_sub {m : Nat} {ps : List (List Str × List Str)} {x y : SharedT} (h : subO prog w ps x = some y) (hm : m ≤ x.n) : Low m x y := by
  unfold subO at h
  cases q : pushO dictObj x with
  | none => rw [q] at h; cases h
  | some x0 => rw [q] at h; exact (low_push q).trans (low_pairs h hm)
theorem low_disp {ps : List (List Str × List Str)} {p : List Str × List Str} {x y : SharedT} (h : dispO prog w ps p x = some y) : Low x.n x y := by
  unfold dispO at h
  cases q1 : subO prog w ps x with
  | none => rw [q1] at h; cases h
  | some x1 =>
    rw [q1] at h
    dsimp only at h
    cases c : (x1.n == sysModules) || !Nat.blt x.n x1.n with
    | true => rw [c] at h; cases h
    | false =>
      rw [c] at h
      dsimp only at h
      have a1 := low_sub (m := x.n) q1 (Nat.le_refl _)
      cases q2 : subO prog w [p] x1 with
      | none => rw [q2] at h; cases h
      | some x2 =>
        rw [q2] at h
        exact a1.trans ((low_sub q2 a1.2.1).trans (low_set h (Nat.le_refl _)))
end
/-- what a head must tell of the state behind the top -/
def Behind (p q : Program) (loose : List Str) (Xt : Shared → Bool) {α : Type} (Yf : Shared → α) (Ya : World → α) : Prop :=
  ∀ {XP : (Str → Option Value) → Heap → Prop}, (∀ s, Xt s = true → XP (s.heap.nsMap mainGlobals) s.heap) → chainsOk q = true → ∀ w : World,
    (∃ s, AfterRun (opening p) w s) ∧ ∀ s, AfterRun (opening p) w s → ∃ s₀, fenceModules? p s = some s₀ ∧ s₀.gens = #[] ∧ ∃ s₁, TopRan p w s₀ s₁ ∧ s₁.asleep ∧ (s₁.gens.size == 0) = true ∧ s₁.heap.isNs mainGlobals = true ∧
      Ground q loose [] XP w s₁ (s₁.heap.nsMap mainGlobals) (s₁.heap.nsMap builtinsNs) s₁.heap ∧ Yf s₁ = Ya w
/-- the boot's state as a tree -/
noncomputable def bootS (w : World) (os : OsState) : Option SharedT := match putAll (boot_heap w.params).objs.toList .nil 0 with
  | some (t, n) => some (bootT w os (t, n))
  | none => none
theorem bootS_ok {w : World} {os : OsState} {x : SharedT} (h : bootS w os = some x) : x.abs = ⟨boot_heap w.params, #[], boot_drawn, boot_toks, os⟩ ∧ (boot_heap w.params).objs.size = x.n := by
  unfold bootS at h
  cases e : putAll (boot_heap w.params).objs.toList .nil 0 with
  | none => rw [e] at h; cases h
  | some r =>
    obtain ⟨t, n⟩ := r
    rw [e] at h
    cases h
    have eh := putAll_heap e
    refine ⟨?_, ?_⟩
    · show (⟨absHeap t n (boot_heap w.params).life, #[], boot_drawn, boot_toks, os⟩ : Shared) = _
      rw [eh]
    · rw [← eh]
      exact absHeap_size t n _
/-- a top in three parts -/
theorem behind3 {p q : Program} {loose : List Str} {Xt : Shared → Bool} {α : Type} {Yf : Shared → α} {Ya : World → α} {x : Sem Value} {K' H' : Value → Sem Fin} {B : List Frame} {c : Code} {pa : Pos} {A : Around} {eff : World → SharedT → Option SharedT} {n1 M : Nat} (hB : splitAtGen B = none) (hA : (Ctx.of c B).In A)
    (e : opening p = plainProg p.main.scope.names) (f : ∀ s, fenceModules? p s = some s)
    (hmid : ∀ w y z, eff w y = some z → wpAny (model p w) A x (fun v s'' => v = .ref y.n ∧ s'' = z.abs) (fun _ _ => False) y.abs) (hlow : ∀ w y z, eff w y = some z → Low y.n y z)
    (run : ∀ w os, ∃ x0 sa z, bootS w os = some x0 ∧ goG (stepT (denote table) p w) x0.n (bootAnn w) n1 x0 (topStub p) = some (sa, ⟨x.wrap K' H' id id, c, pa, B⟩) ∧ eff w sa = some z ∧ z.gens = #[] ∧
      ∀ pb, ∃ s1, goF (stepT (denote table) p w) x0.n (bootAnn w) M z ⟨K' (.ref sa.n), c, pb, B⟩ = some s1 ∧ looksF p (boot_heap w.params) s1.abs = true ∧ openSeen q loose (importedModules p.main.body) Xt true s1.abs = openGood q loose ∧ Yf s1.abs = Ya w) :
    Behind p q loose Xt Yf Ya := by
  intro XP hX hch w
  obtain ⟨⟨h, gs, d, k, os⟩, a, a'⟩ := Option.map_eq_some_iff.mp (boot_open (N := 600) e (by decide) f w)
  obtain ⟨rfl, rfl, rfl, rfl⟩ : h = boot_heap w.params ∧ gs = Array.mk [] ∧ d = boot_drawn ∧ k = boot_toks := by simpa using a'
  rw [← table_eq_tree] at a
  unfold fencedOpening at a
  obtain ⟨s, h4, h5⟩ := Option.bind_eq_some_iff.mp a
  have AI := AfterImport.of_importEnds h4
  refine ⟨⟨s, AI⟩, fun s' hs' => ?_⟩
  obtain rfl : s' = s := AfterImport.unique hs' AI
  obtain ⟨x0, sa, z, b0, g1, g2, g3, g4⟩ := run w os
  obtain ⟨ex, en⟩ := bootS_ok b0
  have z0 : x0.abs.asleep := by
    rw [ex]
    exact Shared.asleep_of_life (fence_lifeW h5) AI.life
  have G1 := goG_gets z0 g1
  have za := Shared.asleep_of_life G1.life z0
  obtain ⟨n, pb, st⟩ := mid (K' := K') (H' := H') hB hA (hmid w sa z g2) (show z.abs.gens = #[] from g3)
  obtain ⟨s2, l2⟩ := steps_sched (t := ⟨x.wrap K' H' id id, c, pa, B⟩) za st
  have zz := Shared.asleep_of_life l2 za
  have lo := hlow w sa z g2
  obtain ⟨s1, g5, g6, g7, g8⟩ := g4 pb
  obtain ⟨⟨m3, t3, r3, th3⟩, l3, os3, fr3⟩ := topRun_spec _ _ _ _ zz (goF_ok g5)
  obtain ⟨m1, r1⟩ := G1.run
  have lall : s1.abs.heap.life = x0.abs.heap.life := l3.trans (l2.trans G1.life)
  have osall : s1.abs.os = x0.abs.os := os3.trans (lo.1.trans G1.os)
  have frall : ∀ b o, b < x0.n → b ≠ mainNs → b ≠ cStatics → bootAnn w ≠ some (.ref b) → x0.abs.heap.get? b = some o → s1.abs.heap.get? b = some o := fun b o h1 h2 h3 h4 he => by
    have q1 := G1.fr b o h1 h2 h3 h4 he
    have q2 : b < sa.n := by
      have := Heap.lt_size q1
      rwa [size_abs] at this
    exact fr3 b o h1 h2 h3 h4 (lo.2.2 b o q2 q1)
  obtain ⟨hs, hlk⟩ := Bool.and_eq_true_iff.mp (show (staticsOk (importedModules p.main.body) (boot_heap w.params) s1.abs.heap && namesBound p s1.abs.heap && gensDone s1.abs && laidKept (boot_heap w.params) s1.abs.heap) = true from g6)
  obtain ⟨hs, hgd⟩ := Bool.and_eq_true_iff.mp hs
  obtain ⟨hs, hnb⟩ := Bool.and_eq_true_iff.mp hs
  obtain ⟨G, b0', b1, b2, b3, b4, b5⟩ := ground_of_open (w := w) hX hch g7
  rw [ex] at lall osall frall r1
  rw [← en] at frall
  refine ⟨⟨boot_heap w.params, #[], boot_drawn, boot_toks, os⟩, h5, rfl, s1.abs, ⟨⟨m1 + (n + m3), t3, sched_add r1 (sched_add s2 r3), th3⟩, lall, Shared.rest_eq osall,
    fun b o hb hn => frall b o (Heap.lt_size hb) (fun q => hn (.inl q)) (fun q => hn (.inr (.inl q))) (fun q => hn (.inr (.inr ((Pin.globalOf_eq (boot_ns w.params) _).trans q)))) hb,
    b2, statics_of_ok hs, b3, b4, b5, gens_of_done hgd, names_of_bound hnb, laid_of_kept hlk⟩, ?_, b0', b1, G, g8⟩
  exact Shared.asleep_of_life lall (by rw [ex] at z0; exact z0)
end HDK


set_option Elab.async false
set_option linter.all false
set_option maxRecDepth 100000
set_option maxHeartbeats 2000000
/-! HD6: from such a head to the row. -/
namespace HDK
open PySem PySem.W PySem.Calls PyProof.Rows HandSHeadRun
theorem holds3 {r : OpenRow} {q : Program} {loose : List Str} {H : Hook} {d : DefRec} (left : Behind r.prog q loose (fun s => xlAt q [] s && recOk r.toRowW.records s) H.obs H.val)
    (hdef : defOf q r.name = some (d, [])) (hp : r.prog.theDef r.name = some (d.params, d.body, d.scope)) (hk : kwWritten? d.params.kwonlyargs d.params.kw_defaults = some [])
    (hwr : (!r.writes || r.records.isEmpty) = true) (k1 : r.wellSaid = true) (ok : (chainsOk q && opensWell r.prog && (frees r.toRowW && r.within.isEmpty)) = true) (hb : r.prog.bare) (hw : r.toRowW.promised)
    (call : WalkO q loose (XL q []) H.says r.toRowW d [] fun f vs => PySem.call f vs) : r.Holds := by
  obtain ⟨ok1, k5⟩ := Bool.and_eq_true_iff.mp ok
  obtain ⟨hch, o1⟩ := Bool.and_eq_true_iff.mp ok1
  obtain ⟨k5, k6⟩ := Bool.and_eq_true_iff.mp k5
  obtain ⟨hsame, hu, ha, hap, hm⟩ := frees_parts k5
  have hX : ∀ s : Shared, (fun s => xlAt q [] s && recOk r.toRowW.records s) s = true → (fun mg h => XL q [] mg h ∧ RecFacts r.toRowW.records h) (s.heap.nsMap mainGlobals) s.heap := fun s z => by
    obtain ⟨z1, z2⟩ := Bool.and_eq_true_iff.mp z
    exact ⟨xl_of s z1, recFacts_of z2⟩
  refine ⟨k1, hw, ⟨⟨hb, o1, by show r.toRowW.makers.map _ = []; rw [hm]; rfl⟩, hw.witness, fun w => ⟨(left (XP := fun mg h => XL q [] mg h ∧ RecFacts r.toRowW.records h) hX hch w).1, fun s' hs' => ?_⟩⟩⟩
  obtain ⟨s₀, hf, hg0, s, hT, hz, hgens, hg, G00, y⟩ := (left (XP := fun mg h => XL q [] mg h ∧ RecFacts r.toRowW.records h) hX hch w).2 s' hs'
  have G0 : Ground q loose [] (XL q []) w s (s.heap.nsMap mainGlobals) (s.heap.nsMap builtinsNs) s.heap := ⟨G00.T, G00.B, G00.D, G00.TE, G00.TD, G00.W, G00.X.1, G00.cls, G00.has, G00.apart, G00.once, G00.K⟩
  have RF := G00.X.2
  have hT' := hT
  refine ⟨s₀, hf, hg0, s, hT, fun n hn => ?_, RF.1, RF.2.1, ?_⟩
  · obtain rfl : n = r.name := by split at hn <;> simp_all
    exact pinned_of_view hg G0 hdef hp hk
  have hgens : s.gens = #[] := Array.eq_empty_of_size_eq_zero (beq_iff_eq.mp hgens)
  have G : Ground q loose r.toRowW.records (XL q []) w s _ _ s.heap := RF.ground G0
  refine ClaimW.callFrom_of_specG (c := r.toRowW.claim) hz hgens fun args hpre hlay ord hord => ?_
  obtain ⟨⟨vs, s₁⟩, hlaid⟩ := Option.isSome_iff_exists.mp (layAllW_isSome (P := w.params) (ord := ord) G.has args r.toRowW.args s (pre_splitW hpre).1)
  have keeps := layAllW_keeps _ _ _ hlaid
  have hal := layAllW_rest _ _ _ hlaid
  obtain ⟨as, hrd, hin, hold⟩ := reads_layAllW hord _ _ _ hlaid hlay s₁.heap (fun _ _ e => e)
  have L : Laid r.toRowW.records w s s₁ args vs as := ⟨⟨ord, hord, hlaid⟩, hrd, hin, hold, keeps, hal.1.trans hgens, hal.2.2.1⟩
  have G₁ := G.keeps XL.keeps keeps
  obtain ⟨a, o, pm, cd, doc, dV, kV, h1, h2, h3, h4, h5⟩ := G₁.fn hdef
  have h := call w s s₁ _ _ G₁ (H.keeps _ _ _ (H.of w s y) keeps) a o pm cd doc dV kV h2 h3 h4 h5 (defOf_name hdef ▸ h1) L.gens args vs as hpre hlay L.reads L.well (L.low G.low)
  have hi := ident_freeW hu ha hap
  have hwi : r.toRowW.claim.within = [] := List.isEmpty_iff.mp k6
  refine ⟨vs, s₁, hlaid, wpAny_bind (wpAny_nsGet G₁.T.g ?_)⟩
  have hnm : s.heap.nsMap mainGlobals r.name = some (.ref a) := h1
  rw [show s.heap.nsMap mainGlobals r.toRowW.name = some (.ref a) from hnm]
  refine wpAny_bind (wpAny_mono h (fun v s' g => wpAny_pure ?_) fun e s' g => ?_)
  · exact ⟨_, rfl, have z := g.laid (c := r.toRowW.claim) hsame hwi hi L; ⟨z.1, z.2.1, z.2.2, fun q => ⟨namesKept_of hT' hg _ keeps g.2.1.old, noTable hwr q⟩⟩⟩
  · exact have z := g.laid (c := r.toRowW.claim) hsame hwi hi L; ⟨z.1, z.2.1, z.2.2, fun q => ⟨namesKept_of hT' hg _ keeps g.2.1.old, noTable hwr q⟩⟩
end HDK


set_option Elab.async false
set_option linter.all false
set_option maxRecDepth 100000
set_option maxHeartbeats 2000000
/-! HD7: the parts of such a top by the place of the display's statement. -/
noncomputable section
namespace HDK
open PySem PySem.W PySem.Calls PyProof.Rows HandSHeadRun
def stAt (p : Program) (i : Nat) : Stmt := p.main.body.getD i (.Pass ⟨0, 0, 0, 0⟩)
def tgOf : Stmt → List Expr
  | .Assign t _ _ => t
  | _ => []
def valOf : Stmt → Expr
  | .Assign _ v _ => v
  | _ => .Constant .none 0 ⟨0, 0, 0, 0⟩
def posOf : Stmt → Pos
  | .Assign _ _ p => p
  | _ => ⟨0, 0, 0, 0⟩
def keysOf : Expr → List (Option Expr)
  | .Dict k _ _ => k
  | _ => []
def valsOf : Expr → List Expr
  | .Dict _ v _ => v
  | _ => []
def dposOf : Expr → Pos
  | .Dict _ _ p => p
  | _ => ⟨0, 0, 0, 0⟩
def envOf (p : Program) (code : Addr) (fr : Addr) : Env := { scope := p.main.scope, locals := mainNs, globals := mainNs, cells := [], code := .ref code, frame := some fr }
def KF (p : Program) (env : Env) (i : Nat) : Flow → Sem Fin := fun f => match f with
  | .next => (execs (p.main.body.drop (i + 1)) env).wrap doneF (leaveH env) id id
  | f => doneF f
def kA (p : Program) (env : Env) (i : Nat) (v : Value) : Sem Flow := do assignStores env v (← swappedStores (tgOf (stAt p i)) (valOf (stAt p i)) env) ((assignEach (tgOf (stAt p i)) env).map (·.2))
def KB (p : Program) (env : Env) (i : Nat) (v : Value) : Sem Fin := (kA p env i v).wrap (KF p env i) (leaveH env) id id
def xA (p : Program) (env : Env) (i : Nat) : Sem Value := do standAt (posOf (stAt p i)); eval (valOf (stAt p i)) env
def codeB (p : Program) (env : Env) : Code := .body (behindTheImports p) env
abbrev BT0 : List Frame := [topFrame ⟨0, 0, 0, 0⟩]
/-- ahead of the statement, as the machine has it -/
def TA (p : Program) (env : Env) (i : Nat) (pa : Pos) : Thread := ⟨((execs (p.main.body.drop i) env).onRaise (leaving env)).bind fun f => (Sem.pure (Fin.done f) : Sem Fin), codeB p env, pa, BT0⟩
def TB (p : Program) (env : Env) (i : Nat) (v : Value) (pb : Pos) : Thread := ⟨KB p env i v, codeB p env, pb, BT0⟩
theorem TA_eq {p : Program} {env : Env} {i : Nat} {pa : Pos} (h : p.main.body.drop i = stAt p i :: p.main.body.drop (i + 1)) (hx : exec (stAt p i) env = (xA p env i).bind (kA p env i)) :
    TA p env i pa = ⟨(xA p env i).wrap (KB p env i) (leaveH env) id id, codeB p env, pa, BT0⟩ := by
  have e : (((execs (p.main.body.drop i) env).onRaise (leaving env)).bind fun f => (Sem.pure (Fin.done f) : Sem Fin)) = (xA p env i).wrap (KB p env i) (leaveH env) id id := by
    rw [Sem.bind_eq_wrap, Sem.onRaise_eq_wrap, Sem.wrap_wrap]
    show (execs (p.main.body.drop i) env).wrap doneF (leaveH env) id id = _
    rw [h, execs_cons_wrap, hx, Sem.bind_eq_wrap, Sem.wrap_wrap]
    rfl
  unfold TA
  rw [e]
abbrev stq (p : Program) (w : World) : SharedT → Thread → Option (SharedT × Thread) := stepQ (denQ tabQ) p w
theorem st_eq (p : Program) (w : World) : stepT (denote table) p w = stq p w := by rw [table_eq_tree, stepQ_eq, denQ_eq, tabQ_eq]
def execsQ : List Stmt → Env → Sem Flow := PySem.W.Fast.tw12563942051412417395
def leavingQ : Env → Value → Sem Unit := PySem.W.Fast.tw9442747609961115081
theorem execsQ_eq : @PySem.execs = execsQ := PySem.W.Fast.te12563942051412417395
theorem leavingQ_eq : @PySem.leaving = leavingQ := PySem.W.Fast.te9442747609961115081
def TAq (p : Program) (env : Env) (i : Nat) (pa : Pos) : Thread := ⟨PySem.W.R.bindR (PySem.W.R.onRaiseR (execsQ (p.main.body.drop i) env) (leavingQ env)) fun f => (Sem.pure (Fin.done f) : Sem Fin), codeB p env, pa, BT0⟩
theorem TAq_eq {p : Program} {env : Env} {i : Nat} {pa : Pos} : TAq p env i pa = TA p env i pa := by
  unfold TAq TA
  rw [execsQ_eq, leavingQ_eq, PySem.W.R.bindR_eq, PySem.W.R.onRaiseR_eq]
def assignStoresQ : Env → Value → Option (List Str) → List (Value → Sem Unit) → Sem Flow := PySem.W.Fast.tw2470068587113613483
def swappedStoresQ : List Expr → Expr → Env → Sem (Option (List Str)) := PySem.W.Fast.tw4016559146275205325
def assignEachQ : List Expr → Env → List (Bool × (Value → Sem Unit)) := PySem.W.Fast.tw15628205474173192105
theorem assignStoresQ_eq : @PySem.assignStores = assignStoresQ := PySem.W.Fast.te2470068587113613483
theorem swappedStoresQ_eq : @PySem.swappedStores = swappedStoresQ := PySem.W.Fast.te4016559146275205325
theorem assignEachQ_eq : @PySem.assignEach = assignEachQ := PySem.W.Fast.te15628205474173192105
def kAq (p : Program) (env : Env) (i : Nat) (v : Value) : Sem Flow :=
  PySem.W.R.bindR (swappedStoresQ (tgOf (stAt p i)) (valOf (stAt p i)) env) fun s => assignStoresQ env v s (PySem.W.R.mapR (fun x => x.2) (assignEachQ (tgOf (stAt p i)) env))
def KBq (p : Program) (env : Env) (i : Nat) (v : Value) : Sem Fin :=
  PySem.W.R.bindR (PySem.W.R.onRaiseR (PySem.W.R.bindR (kAq p env i v) fun f => match f with
    | .next => execsQ (p.main.body.drop (i + 1)) env
    | f => Sem.pure f) (leavingQ env)) fun f => (Sem.pure (Fin.done f) : Sem Fin)
theorem kAq_eq {p : Program} {env : Env} {i : Nat} {v : Value} : kAq p env i v = kA p env i v := by
  unfold kAq kA
  rw [← assignStoresQ_eq, ← swappedStoresQ_eq, ← assignEachQ_eq, ← PySem.W.R.bindR_eq, ← PySem.W.R.mapR_eq]
  rfl
theorem KBq_eq {p : Program} {env : Env} {i : Nat} {v : Value} : KBq p env i v = KB p env i v := by
  unfold KBq
  rw [kAq_eq, ← execsQ_eq, ← leavingQ_eq, ← PySem.W.R.bindR_eq, ← PySem.W.R.onRaiseR_eq]
  unfold KB
  rw [Sem.bind_eq_wrap, Sem.onRaise_eq_wrap, Sem.wrap_wrap, Sem.bind_eq_wrap, Sem.wrap_wrap]
  congr 1
  funext f
  cases f <;> rfl
def TBq (p : Program) (env : Env) (i : Nat) (v : Value) (pb : Pos) : Thread := ⟨KBq p env i v, codeB p env, pb, BT0⟩
theorem TBq_eq {p : Program} {env : Env} {i : Nat} {v : Value} {pb : Pos} : TBq p env i v pb = TB p env i v pb := by
  unfold TBq TB
  rw [KBq_eq]
def partA (p : Program) (n1 : Nat) (w : World) (os : OsState) : Option (SharedT × Thread) := match bootS w os with
  | some x0 => goG (stq p w) x0.n (bootAnn w) n1 x0 (topStub p)
  | none => none
end HDK


set_option Elab.async false
set_option linter.all false
set_option maxRecDepth 100000
set_option maxHeartbeats 2000000
/-! HD8: a top with one such display, by equations that the kernel runs. -/
noncomputable section
namespace HDK
open PySem PySem.W PySem.Calls PyProof.Rows HandSHeadRun
def textOf : Expr → Str
  | .Constant (.str s) _ _ => s
  | _ => ""
def isText : Expr → Bool
  | .Constant (.str _) _ _ => true
  | _ => false
def eltsOf : Expr → List Expr
  | .Tuple es _ _ => es
  | _ => []
def isTup : Expr → Bool
  | .Tuple es _ _ => es.all isText && Nat.ble es.length 1000
  | _ => false
def pairOf (e : Expr × Expr) : List Str × List Str := ((eltsOf e.1).map textOf, (eltsOf e.2).map textOf)
def isPr (e : Expr × Expr) : Bool := isTup e.1 && isTup e.2
theorem texts_of : ∀ {es : List Expr}, es.all isText = true → Texts es (es.map textOf)
  | [], _ => .nil
  | e :: es, h => by
    simp only [List.all_cons, Bool.and_eq_true] at h
    obtain ⟨h1, h2⟩ := h
    cases e with
    | Constant c j p => cases c with
      | str s => exact .cons (texts_of h2)
      | _ => cases h1
    | _ => cases h1
theorem isPair_of {e : Expr × Expr} (h : isPr e = true) : IsPair e (pairOf e) := by
  obtain ⟨a, b⟩ := e
  obtain ⟨h1, h2⟩ := Bool.and_eq_true_iff.mp h
  cases a with
  | Tuple es j p =>
    cases b with
    | Tuple fs k q =>
      obtain ⟨t1, l1⟩ := Bool.and_eq_true_iff.mp h1
      obtain ⟨t2, l2⟩ := Bool.and_eq_true_iff.mp h2
      exact .mk (texts_of t1) (texts_of t2) (by rw [List.length_map]; exact Nat.le_of_ble_eq_true l1) (by rw [List.length_map]; exact Nat.le_of_ble_eq_true l2)
    | _ => cases h2
  | _ => cases h1
theorem arePairs_of : ∀ {es : List (Expr × Expr)}, es.all isPr = true → ArePairs es (es.map pairOf)
  | [], _ => .nil
  | e :: es, h => by
    simp only [List.all_cons, Bool.and_eq_true] at h
    exact .cons (isPair_of h.1) (arePairs_of h.2)
theorem shape_of {env : Env} {pos : Pos} : ∀ l : List (Expr × Expr), (evalEachOpt (l.map fun e => some e.1) env).zip ((evalEach (l.map fun e => e.2) env).map fun v => do let x ← v; standAt pos; pure x) = (l.map (semP env pos)).map fun p => (some p.1, p.2)
  | [] => rfl
  | e :: l => by
    exact congrArg (fun t => (some (eval e.1 env), (do let x ← eval e.2 env; standAt pos; pure x)) :: t) (shape_of l)
def pairsE (p : Program) (i : Nat) : List (Expr × Expr) := ((keysOf (valOf (stAt p i))).filterMap id).zip (valsOf (valOf (stAt p i)))
def noE : Expr := .Constant .none 0 ⟨0, 0, 0, 0⟩
def esOf (p : Program) (i : Nat) : List (Expr × Expr) := (pairsE p i).take 16
def e17 (p : Program) (i : Nat) : Expr × Expr := (pairsE p i).getD 16 (noE, noE)
def e18 (p : Program) (i : Nat) : Expr × Expr := (pairsE p i).getD 17 (noE, noE)
def psOf (p : Program) (i : Nat) : List (List Str × List Str) := (esOf p i ++ [e17 p i]).map pairOf
def prOf (p : Program) (i : Nat) : List Str × List Str := pairOf (e18 p i)
def keysNodup : List (List Str) → Bool
  | [] => true
  | a :: l => l.all (fun b => !(a == b)) && keysNodup l
theorem nodup_of : ∀ {l : List (List Str)}, keysNodup l = true → l.Nodup
  | [], _ => .nil
  | a :: l, h => by
    obtain ⟨h1, h2⟩ := Bool.and_eq_true_iff.mp h
    refine List.nodup_cons.mpr ⟨fun z => ?_, nodup_of h2⟩
    have := List.all_eq_true.mp h1 a z
    simp at this
/-- all that is checked of the display -/
def dispOk (p : Program) (i : Nat) : Bool := ((esOf p i).length == 16) && (esOf p i ++ [e17 p i]).all isPr && isPr (e18 p i) && keysNodup (((psOf p i).map (·.1)) ++ [(prOf p i).1])
abbrev SeenT : Type := PyProof.Rows.Seen × (Option PySem.Str × List (PySem.Str × PySem.Value)) × Bool × Bool × (List (Option PySem.FnShape) × Bool) × List (Option PyProof.Rows.PlainShape) × List (Option (PyProof.Rows.PlainShape × Bool)) × (List (Option PySem.FnShape) × Bool) × List (Option (List (Option PySem.FnShape) × Bool) × Option (PyProof.Rows.PlainShape × Bool))
/-- the top from the display to its end -/
def partC (r : OpenRow) (q : Program) (H : Hook) (ob : SharedT → H.α) (loose : List PySem.Str) (n1 M i : Nat) (env : Env) (w : World) (os : OsState) (pb : Pos) : Option (Bool × Bool × SeenT × H.α) := match bootS w os with
  | some x0 => (match goG (stq r.prog w) x0.n (bootAnn w) n1 x0 (topStub r.prog) with
    | some (sa, _) => (match dispO r.prog w (psOf r.prog i) (prOf r.prog i) sa with
      | some z => frS z fun z => (match goF (stq r.prog w) x0.n (bootAnn w) M z (TBq r.prog env i (.ref sa.n) pb) with
        | some s1 => some (z.gens.size == 0, looksF r.prog (boot_heap w.params) s1.abs, seenQ q loose (importedModules r.prog.main.body) (fun s => xlAt q [] s && recOk r.toRowW.records s) s1.abs, ob s1)
        | none => none)
      | none => none)
    | none => none)
  | none => none
def arOf (p : Program) (env : Env) : Around := { depth := frameCount (Ctx.of (codeB p env) BT0).below + (Ctx.of (codeB p env) BT0).code.weight, units := (Ctx.of (codeB p env) BT0).units }
theorem ar_in {p : Program} {env : Env} (h : (Ctx.of (codeB p env) BT0).handled = none) : (Ctx.of (codeB p env) BT0).In (arOf p env) :=
  ⟨h, Nat.le_refl _, (fun _ z => by cases z), (fun _ z => by cases z), Nat.le_refl _⟩
theorem behindD {r : OpenRow} {q : Program} {H : Hook} {ob : SharedT → H.α} {loose : List PySem.Str} {n1 M i : Nat} {env : Env} {pa dp : Pos} (ho : ∀ s : SharedT, ob s = H.obs s.abs)
    (e : opening r.prog = plainProg r.prog.main.scope.names) (f : ∀ s, fenceModules? r.prog s = some s)
    (h1 : ∀ w os, (partA r.prog n1 w os).map Prod.snd = some (TAq r.prog env i pa))
    (h2 : r.prog.main.body.drop i = stAt r.prog i :: r.prog.main.body.drop (i + 1))
    (h3 : exec (stAt r.prog i) env = (xA r.prog env i).bind (kA r.prog env i))
    (hh : (Ctx.of (codeB r.prog env) BT0).handled = none) (hu : Nat.blt (arOf r.prog env).units cLine = true) (hs : splitAtGen BT0 = none)
    (hd : valOf (stAt r.prog i) = .Dict ((esOf r.prog i ++ [e17 r.prog i, e18 r.prog i]).map fun e => some e.1) ((esOf r.prog i ++ [e17 r.prog i, e18 r.prog i]).map fun e => e.2) dp) (hok : dispOk r.prog i = true)
    (hrun : ∀ w os pb, partC r q H ob loose n1 M i env w os pb = some (true, true, openGood q loose, H.val w)) :
    Behind r.prog q loose (fun s => xlAt q [] s && recOk r.toRowW.records s) H.obs H.val := by
  have hu' : (arOf r.prog env).units < cLine := Nat.le_of_ble_eq_true hu
  unfold dispOk at hok
  simp only [Bool.and_eq_true, beq_iff_eq] at hok
  obtain ⟨⟨⟨c1, c2⟩, c3⟩, c4⟩ := hok
  have nd := nodup_of c4
  have nd1 : ((psOf r.prog i).map (·.1)).Nodup := (List.nodup_append.mp nd).1
  have nd2 : (prOf r.prog i).1 ∉ (psOf r.prog i).map (·.1) := fun z => (List.nodup_append.mp nd).2.2 _ z _ (List.mem_singleton.mpr rfl) rfl
  have lp : (psOf r.prog i).length = 17 := by
    unfold psOf
    simp [c1]
  intro XP hX hch w0
  refine behind3 (p := r.prog) (q := q) (loose := loose) (Xt := fun s => xlAt q [] s && recOk r.toRowW.records s) (Yf := H.obs) (Ya := H.val) (x := xA r.prog env i) (K' := KB r.prog env i) (H' := leaveH env) (B := BT0) (c := codeB r.prog env) (pa := pa) (A := arOf r.prog env) (eff := fun w y => dispO r.prog w (psOf r.prog i) (prOf r.prog i) y) (n1 := n1) (M := M) hs (ar_in hh) e f (fun w y z hz => ?_) (fun w y z hz => low_disp hz) (fun w os => ?_) hX hch w0
  · unfold xA
    refine wpAny_bind (wpAny_standAt ?_)
    rw [hd]
    exact disp_wp (es := esOf r.prog i) (e17 := e17 r.prog i) (e18 := e18 r.prog i) hu' (by rw [shape_of, List.map_append, List.map_append]; rfl) c1 (arePairs_of c2) (isPair_of c3) nd1 nd2 (by show (psOf r.prog i).length ≤ 900; omega) (fun z => by have z : psOf r.prog i = [] := z; rw [z] at lp; cases lp) hz fun _ _ _ => ⟨rfl, rfl⟩
  · have a := h1 w os
    have b := hrun w os
    unfold partA at a
    unfold partC at b
    cases eb : bootS w os with
    | none => rw [eb] at a; cases a
    | some x0 =>
      simp only [eb] at a b
      cases eg : goG (stq r.prog w) x0.n (bootAnn w) n1 x0 (topStub r.prog) with
      | none => rw [eg] at a; cases a
      | some sa =>
        obtain ⟨sa, ta⟩ := sa
        rw [eg] at a
        have ea : ta = TAq r.prog env i pa := Option.some.inj a
        subst ea
        simp only [eg] at b
        cases ed : dispO r.prog w (psOf r.prog i) (prOf r.prog i) sa with
        | none => have b := b ⟨0, 0, 0, 0⟩; rw [ed] at b; cases b
        | some z =>
          simp only [ed, frS_eq] at b
          refine ⟨x0, sa, z, rfl, ?_, ed, ?_, fun pb => ?_⟩
          · rw [← TA_eq h2 h3, ← TAq_eq, st_eq]
            exact eg
          · have b := b ⟨0, 0, 0, 0⟩
            cases ef : goF (stq r.prog w) x0.n (bootAnn w) M z (TBq r.prog env i (.ref sa.n) ⟨0, 0, 0, 0⟩) with
            | none => rw [ef] at b; cases b
            | some s1 =>
              rw [ef] at b
              have := congrArg Prod.fst (Option.some.inj b)
              exact Array.eq_empty_of_size_eq_zero (beq_iff_eq.mp this)
          · have b := b pb
            cases ef : goF (stq r.prog w) x0.n (bootAnn w) M z (TBq r.prog env i (.ref sa.n) pb) with
            | none => rw [ef] at b; cases b
            | some s1 =>
              rw [ef] at b
              have b := congrArg Prod.snd (Option.some.inj b)
              have b1 := congrArg Prod.fst b
              have b2 := congrArg (fun x => x.2.1) b
              have b3 := congrArg (fun x => x.2.2) b
              refine ⟨s1, ?_, b1, ?_, (ho s1).symm.trans b3⟩
              · rw [st_eq]
                rw [TBq_eq] at ef
                exact ef
              · dsimp only at b2
                rw [← seenQ_eq] at b2
                exact b2
end HDK


set_option Elab.async false
set_option linter.all false
set_option maxRecDepth 100000
set_option maxHeartbeats 2000000
/-! HD9: a top that the kernel runs whole. -/
noncomputable section
namespace HDK
open PySem PySem.W PySem.Calls PyProof.Rows HandSHeadRun
theorem behind1 {p q : Program} {loose : List Str} {Xt : Shared → Bool} {α : Type} {Yf : Shared → α} {Ya : World → α} {M : Nat}
    (e : opening p = plainProg p.main.scope.names) (f : ∀ s, fenceModules? p s = some s)
    (run : ∀ w os, ∃ x0 s1, bootS w os = some x0 ∧ goF (stepT (denote table) p w) x0.n (bootAnn w) M x0 (topStub p) = some s1 ∧ looksF p (boot_heap w.params) s1.abs = true ∧ openSeen q loose (importedModules p.main.body) Xt true s1.abs = openGood q loose ∧ Yf s1.abs = Ya w) :
    Behind p q loose Xt Yf Ya := by
  intro XP hX hch w
  obtain ⟨⟨h, gs, d, k, os⟩, a, a'⟩ := Option.map_eq_some_iff.mp (boot_open (N := 600) e (by decide) f w)
  obtain ⟨rfl, rfl, rfl, rfl⟩ : h = boot_heap w.params ∧ gs = Array.mk [] ∧ d = boot_drawn ∧ k = boot_toks := by simpa using a'
  rw [← table_eq_tree] at a
  unfold fencedOpening at a
  obtain ⟨s, h4, h5⟩ := Option.bind_eq_some_iff.mp a
  have AI := AfterImport.of_importEnds h4
  refine ⟨⟨s, AI⟩, fun s' hs' => ?_⟩
  obtain rfl : s' = s := AfterImport.unique hs' AI
  obtain ⟨x0, s1, b0, g5, g6, g7, g8⟩ := run w os
  obtain ⟨ex, en⟩ := bootS_ok b0
  have z0 : x0.abs.asleep := by
    rw [ex]
    exact Shared.asleep_of_life (fence_lifeW h5) AI.life
  obtain ⟨⟨m3, t3, r3, th3⟩, lall, osall, frall⟩ := topRun_spec _ _ _ _ z0 (goF_ok g5)
  obtain ⟨hs, hlk⟩ := Bool.and_eq_true_iff.mp (show (staticsOk (importedModules p.main.body) (boot_heap w.params) s1.abs.heap && namesBound p s1.abs.heap && gensDone s1.abs && laidKept (boot_heap w.params) s1.abs.heap) = true from g6)
  obtain ⟨hs, hgd⟩ := Bool.and_eq_true_iff.mp hs
  obtain ⟨hs, hnb⟩ := Bool.and_eq_true_iff.mp hs
  obtain ⟨G, b0', b1, b2, b3, b4, b5⟩ := ground_of_open (w := w) hX hch g7
  rw [ex] at lall osall frall r3
  rw [← en] at frall
  refine ⟨⟨boot_heap w.params, #[], boot_drawn, boot_toks, os⟩, h5, rfl, s1.abs, ⟨⟨m3, t3, r3, th3⟩, lall, Shared.rest_eq osall,
    fun b o hb hn => frall b o (Heap.lt_size hb) (fun q => hn (.inl q)) (fun q => hn (.inr (.inl q))) (fun q => hn (.inr (.inr ((Pin.globalOf_eq (boot_ns w.params) _).trans q)))) hb,
    b2, statics_of_ok hs, b3, b4, b5, gens_of_done hgd, names_of_bound hnb, laid_of_kept hlk⟩, ?_, b0', b1, G, g8⟩
  exact Shared.asleep_of_life lall (by rw [ex] at z0; exact z0)
def partN (r : OpenRow) (q : Program) (H : Hook) (ob : SharedT → H.α) (loose : List PySem.Str) (M : Nat) (w : World) (os : OsState) : Option (Bool × SeenT × H.α) := match bootS w os with
  | some x0 => (match goF (stq r.prog w) x0.n (bootAnn w) M x0 (topStub r.prog) with
    | some s1 => some (looksF r.prog (boot_heap w.params) s1.abs, seenQ q loose (importedModules r.prog.main.body) (fun s => xlAt q [] s && recOk r.toRowW.records s) s1.abs, ob s1)
    | none => none)
  | none => none
theorem behindN {r : OpenRow} {q : Program} {H : Hook} {ob : SharedT → H.α} {loose : List PySem.Str} {M : Nat} (ho : ∀ s : SharedT, ob s = H.obs s.abs)
    (e : opening r.prog = plainProg r.prog.main.scope.names) (f : ∀ s, fenceModules? r.prog s = some s)
    (hrun : ∀ w os, partN r q H ob loose M w os = some (true, openGood q loose, H.val w)) :
    Behind r.prog q loose (fun s => xlAt q [] s && recOk r.toRowW.records s) H.obs H.val := by
  refine behind1 (M := M) e f fun w os => ?_
  have b := hrun w os
  unfold partN at b
  cases eb : bootS w os with
  | none => rw [eb] at b; cases b
  | some x0 =>
    simp only [eb] at b
    cases ef : goF (stq r.prog w) x0.n (bootAnn w) M x0 (topStub r.prog) with
    | none => rw [ef] at b; cases b
    | some s1 =>
      rw [ef] at b
      have b := Option.some.inj b
      have b1 := congrArg Prod.fst b
      have b2 := congrArg (fun x => x.2.1) b
      have b3 := congrArg (fun x => x.2.2) b
      refine ⟨x0, s1, rfl, ?_, b1, ?_, (ho s1).symm.trans b3⟩
      · rw [st_eq]; exact ef
      · dsimp only at b2
        rw [← seenQ_eq] at b2
        exact b2
end HDK


set_option Elab.async false
set_option linter.all false
set_option maxRecDepth 100000
set_option maxHeartbeats 0
namespace S35
open PySem PySem.Spec PyProof.Rows L2 VL
variable [TbP]
def top (i : Nat) : Stmt := PySem.Challenge.pw_boxeffects_k35_gauges_by_their_forms.main.body.getD i (.Pass ⟨0, 0, 0, 0⟩)
abbrev K_ALPHABET : D := (.str "abcdefghijklmnopqrstuvwxyz")
abbrev K_GAUGE_MODES : D := (.tuple [(.str "stop"), (.str "fail")])
abbrev K_MOST_GAUGE : D := (.int (999))
abbrev K_MOST_INSERTED : D := (.int (999))
abbrev K_MOST_IN_HEAP : D := (.int (1000))
abbrev K_MOST_LETTERS : D := (.int (4000))
abbrev K_MOST_RING : D := (.int (12))
abbrev K_MOST_SIGNS : D := (.int (4))
abbrev K_MOST_STEPS : D := (.int (60))
abbrev K_RING_MODES : D := (.tuple [(.str "drop"), (.str "ignore"), (.str "fail")])
abbrev K_SIMPLE_KINDS : D := (.tuple [(.str "stack"), (.str "queue"), (.str "tape"), (.str "heap"), (.str "table")])
abbrev T_STEP_SORTS : Tb := [(["stack", "push"], ["letter"]), (["stack", "pop"], ["letter"]), (["queue", "put"], ["letter"]), (["queue", "take"], ["letter"]), (["ring", "put"], ["letter"]), (["ring", "take"], []), (["tape", "left"], []), (["tape", "right"], []), (["tape", "write"], ["letter"]), (["tape", "expect"], ["letter"]), (["heap", "insert"], ["inserted"]), (["heap", "least"], []), (["gauge", "add"], ["amount"]), (["gauge", "sub"], ["amount"]), (["table", "set"], ["letter", "letter"]), (["table", "clear"], ["letter"]), (["table", "expect"], ["letter", "letter"]), (["table", "absent"], ["letter"])]
abbrev CTL : Ct := [("BoxError", "told", ["BoxError", "ValueError"]), ("NoKind", "told", ["NoKind", "BoxError", "ValueError"]), ("NoRow", "told", ["NoRow", "BoxError", "ValueError"]), ("NoContents", "told", ["NoContents", "BoxError", "ValueError"]), ("NoForm", "told", ["NoForm", "BoxError", "ValueError"])]
/-! _law_pool -/
def B__law_pool : SF := (seqF (setF 2 (cF (.int (0))))
  (seqF (ifS (boolF (opF ltG (nmF 1) (cbF lenG (consF (nmF 0) nilF))))
  (setF 2 (opF ixG (nmF 0) (nmF 1)))
  passF)
  (seqF (setF 3 (cbF (ii2 maxI) (consF (cbF intC (consF (nmF 2) nilF)) (consF (cbF intC (consF (opF subG (unF negG (cF (.int (1)))) (nmF 2)) nilF)) nilF))))
  (seqF (setF 4 (opF modG (cbF intC (consF (mulF (opF addG (opF addG (opF addG (opF modG (cbF intC (consF (nmF 3) nilF)) (cF (.int (2147483629)))) (mulF (mulF (cF (.int (7919))) (nmF 1)) (nmF 1))) (mulF (cF (.int (31))) (nmF 1))) (cF (.int (17)))) (cF (.int (48271)))) nilF)) (cF (.int (2147483647)))))
  (retF (lstF (consF (mulF (nmF 3) (cbF intC (consF (opF geG (nmF 3) (opF powG (cF (.int (10))) (cF (.int (18))))) nilF))) (consF (nmF 4) nilF))))))))
def F__law_pool : FD := runF 2 5 B__law_pool
abbrev S__law_pool : Stmt := top 57
theorem sc__law_pool : FnScope ["_law_script", "_law_k", "_law_cell", "_law_big", "_law_mixed"] ["_law_script", "_law_k"] (defScope S__law_pool) := ⟨rfl, rfl, rfl, by decide +kernel, rfl, by decide +kernel, by decide +kernel⟩
theorem d__law_pool {P : Program} {w : World} {K : Frag} {mg : Str → Option Value} {base : Heap} (h : HereG K mg "_law_pool" S__law_pool ["_law_script", "_law_k"]) (m_len : mg "len" = none) (m_max : mg "max" = none) (m_int : mg "int" = none)   : DefG P w K mg base 1 "_law_pool" 2 F__law_pool :=
  h.def sc__law_pool rfl rfl fun fa cdv A outer s H E hr hgd =>
  (s_cons (s_set 2 sc__law_pool.nd e_int)
  (s_cons (s_if (tc (c_lt hr) (e_nm 1) (e_bi b_len m_len (a_cons (e_nm 0) a_nil)))
  (s_one (s_set 2 sc__law_pool.nd (e_ix hr (e_nm 0) (e_nm 1))))
  s_nil)
  (s_cons (s_set 3 sc__law_pool.nd (e_bi (b_max rfl) m_max (a_cons (e_bi b_int m_int (a_cons (e_nm 2) a_nil)) (a_cons (e_bi b_int m_int (a_cons (e_sub (e_neg e_int) (e_nm 2)) a_nil)) a_nil))))
  (s_cons (s_set 4 sc__law_pool.nd (e_mod (e_bi b_int m_int (a_cons (e_mulX (e_add (e_add (e_add (e_mod (e_bi b_int m_int (a_cons (e_nm 3) a_nil)) e_int) (e_mulX (e_mulX e_int (e_nm 1)) (e_nm 1))) (e_mulX e_int (e_nm 1))) e_int) e_int) a_nil)) e_int))
  (s_one (s_ret (e_lst (a_cons (e_mulX (e_nm 3) (e_bi b_int m_int (a_cons (ec (c_ge hr) (e_nm 3) (e_pow e_int e_int)) a_nil))) (a_cons (e_nm 4) a_nil)))))))))
/-! _law_take -/
def B__law_take : SF := (seqF (ifS (boolF (opF gtG (opF ixG (nmF 0) (cF (.int (0)))) (cF (.int (0)))))
  (seqF (setF 2 (opF modG (cbF intC (consF (opF ixG (nmF 0) (cF (.int (0)))) nilF)) (nmF 1)))
  (seqF (stoF (opF fdivG (opF ixG (nmF 0) (cF (.int (0)))) (nmF 1)) (nmF 0) (cF (.int (0))))
  (retF (nmF 2))))
  passF)
  (seqF (stoF (opF modG (cbF intC (consF (opF addG (mulF (opF ixG (nmF 0) (cF (.int (1)))) (cF (.int (39373)))) (cF (.int (7)))) nilF)) (cF (.int (2147483647)))) (nmF 0) (cF (.int (1))))
  (retF (opF modG (cbF intC (consF (opF fdivG (opF modG (cbF intC (consF (mulF (opF ixG (nmF 0) (cF (.int (1)))) (opF ixG (nmF 0) (cF (.int (1))))) nilF)) (cF (.int (2147483629)))) (cF (.int (32)))) nilF)) (nmF 1)))))
def F__law_take : FD := runF 2 3 B__law_take
abbrev S__law_take : Stmt := top 58
theorem sc__law_take : FnScope ["_law_source", "_law_top", "_law_drawn"] ["_law_source", "_law_top"] (defScope S__law_take) := ⟨rfl, rfl, rfl, by decide +kernel, rfl, by decide +kernel, by decide +kernel⟩
theorem d__law_take {P : Program} {w : World} {K : Frag} {mg : Str → Option Value} {base : Heap} (h : HereG K mg "_law_take" S__law_take ["_law_source", "_law_top"]) (m_int : mg "int" = none)   : DefG P w K mg base 1 "_law_take" 2 F__law_take :=
  h.def sc__law_take rfl rfl fun fa cdv A outer s H E hr hgd =>
  (s_cons (s_if (tc (c_gt hr) (e_ix hr (e_nm 0) e_int) e_int)
  (s_cons (s_set 2 sc__law_take.nd (e_mod (e_bi b_int m_int (a_cons (e_ix hr (e_nm 0) e_int) a_nil)) (e_nm 1)))
  (s_cons (s_sto (e_fdiv (e_ix hr (e_nm 0) e_int) (e_nm 1)) (e_nm 0) e_int)
  (s_one (s_ret (e_nm 2)))))
  s_nil)
  (s_cons (s_sto (e_mod (e_bi b_int m_int (a_cons (e_add (e_mulX (e_ix hr (e_nm 0) e_int) e_int) e_int) a_nil)) e_int) (e_nm 0) e_int)
  (s_one (s_ret (e_mod (e_bi b_int m_int (a_cons (e_fdiv (e_mod (e_bi b_int m_int (a_cons (e_mulX (e_ix hr (e_nm 0) e_int) (e_ix hr (e_nm 0) e_int)) a_nil)) e_int) e_int) a_nil)) (e_nm 1))))))
/-! _law_one -/
def B__law_one : SF := (retF (opF ixG (nmF 1) (callF F__law_take (consF (nmF 0) (consF (cbF lenG (consF (nmF 1) nilF)) nilF)))))
def F__law_one : FD := runF 2 2 B__law_one
abbrev S__law_one : Stmt := top 59
theorem sc__law_one : FnScope ["_law_source", "_law_things"] ["_law_source", "_law_things"] (defScope S__law_one) := ⟨rfl, rfl, rfl, by decide +kernel, rfl, by decide +kernel, by decide +kernel⟩
theorem d__law_one {P : Program} {w : World} {K : Frag} {mg : Str → Option Value} {base : Heap} (h : HereG K mg "_law_one" S__law_one ["_law_source", "_law_things"]) (d__law_take : DefG P w K mg base 1 "_law_take" 2 F__law_take) (m_len : mg "len" = none)   : DefG P w K mg base 2 "_law_one" 2 F__law_one :=
  h.def sc__law_one rfl rfl fun fa cdv A outer s H E hr hgd =>
  (s_one (s_ret (e_ix hr (e_nm 1) (e_cg d__law_take (hr.mono (by decide)) hgd (takes_of rfl rfl rfl rfl) (a_cons (e_nm 0) (a_cons (e_bi b_len m_len (a_cons (e_nm 1) a_nil)) a_nil))))))
/-! _law_gauge -/
def B__law_gauge : SF := (retF (tupF (consF (cF (.str "gauge")) (consF (callF F__law_one (consF (nmF 0) (consF (lstF (consF (cF (.int (1))) (consF (cF (.int (2))) (consF (cF (.int (3))) (consF (cF (.int (5))) (consF (cF (.int (9))) nilF)))))) nilF))) (consF (callF F__law_one (consF (nmF 0) (consF (lstF (consF (cF (.str "stop")) (consF (cF (.str "fail")) nilF))) nilF))) nilF)))))
def F__law_gauge : FD := runF 1 1 B__law_gauge
abbrev S__law_gauge : Stmt := top 64
theorem sc__law_gauge : FnScope ["_law_source"] ["_law_source"] (defScope S__law_gauge) := ⟨rfl, rfl, rfl, by decide +kernel, rfl, by decide +kernel, by decide +kernel⟩
theorem d__law_gauge {P : Program} {w : World} {K : Frag} {mg : Str → Option Value} {base : Heap} (h : HereG K mg "_law_gauge" S__law_gauge ["_law_source"]) (d__law_one : DefG P w K mg base 2 "_law_one" 2 F__law_one)   : DefG P w K mg base 3 "_law_gauge" 1 F__law_gauge :=
  h.def sc__law_gauge rfl rfl fun fa cdv A outer s H E hr hgd =>
  (s_one (s_ret (e_tup (a_cons e_str (a_cons (e_cg d__law_one (hr.mono (by decide)) hgd (takes_of rfl rfl rfl rfl) (a_cons (e_nm 0) (a_cons (e_lst (a_cons e_int (a_cons e_int (a_cons e_int (a_cons e_int (a_cons e_int a_nil)))))) a_nil))) (a_cons (e_cg d__law_one (hr.mono (by decide)) hgd (takes_of rfl rfl rfl rfl) (a_cons (e_nm 0) (a_cons (e_lst (a_cons e_str (a_cons e_str a_nil))) a_nil))) a_nil))))))
/-! is_whole -/
def B_is_whole : SF := (retF (andE (isiF "int" (nmF 0)) (notE (isiF "bool" (nmF 0)))))
def F_is_whole : FD := runF 1 1 B_is_whole
abbrev S_is_whole : Stmt := top 19
theorem sc_is_whole : FnScope ["value"] ["value"] (defScope S_is_whole) := ⟨rfl, rfl, rfl, by decide +kernel, rfl, by decide +kernel, by decide +kernel⟩
theorem d_is_whole {P : Program} {w : World} {K : Frag} {mg : Str → Option Value} {base : Heap} (h : HereG K mg "is_whole" S_is_whole ["value"]) (m_isinstance : mg "isinstance" = none) (m_int : mg "int" = none) (m_bool : mg "bool" = none)   : DefG P w K mg base 1 "is_whole" 1 F_is_whole :=
  h.def sc_is_whole rfl rfl fun fa cdv A outer s H E hr hgd =>
  (s_one (s_ret (e_and (e_isi m_isinstance m_int boot_int' (by decide) (e_nm 0)) (e_one (e_not (e_isi m_isinstance m_bool boot_bool' (by decide) (e_nm 0)))))))
/-! is_number -/
def B_is_number : SF := (retF (andE (callF F_is_whole (consF (nmF 0) nilF)) (chF leG leG (nmF 1) (nmF 0) (nmF 2))))
def F_is_number : FD := runF 3 3 B_is_number
abbrev S_is_number : Stmt := top 20
theorem sc_is_number : FnScope ["value", "low", "high"] ["value", "low", "high"] (defScope S_is_number) := ⟨rfl, rfl, rfl, by decide +kernel, rfl, by decide +kernel, by decide +kernel⟩
theorem d_is_number {P : Program} {w : World} {K : Frag} {mg : Str → Option Value} {base : Heap} (h : HereG K mg "is_number" S_is_number ["value", "low", "high"]) (d_is_whole : DefG P w K mg base 1 "is_whole" 1 F_is_whole)   : DefG P w K mg base 2 "is_number" 3 F_is_number :=
  h.def sc_is_number rfl rfl fun fa cdv A outer s H E hr hgd =>
  (s_one (s_ret (e_and (e_cg d_is_whole (hr.mono (by decide)) hgd (takes_of rfl rfl rfl rfl) (a_cons (e_nm 0) a_nil)) (e_one (ech (c_le hr) (c_le hr) (e_nm 1) (e_nm 0) (e_nm 2))))))
/-! is_one_of -/
def B_is_one_of : SF := (retF (andE (isiF "str" (nmF 0)) (opF (inG false) (nmF 0) (nmF 1))))
def F_is_one_of : FD := runF 2 2 B_is_one_of
abbrev S_is_one_of : Stmt := top 22
theorem sc_is_one_of : FnScope ["value", "words"] ["value", "words"] (defScope S_is_one_of) := ⟨rfl, rfl, rfl, by decide +kernel, rfl, by decide +kernel, by decide +kernel⟩
theorem d_is_one_of {P : Program} {w : World} {K : Frag} {mg : Str → Option Value} {base : Heap} (h : HereG K mg "is_one_of" S_is_one_of ["value", "words"]) (m_isinstance : mg "isinstance" = none) (m_str : mg "str" = none)   : DefG P w K mg base 1 "is_one_of" 2 F_is_one_of :=
  h.def sc_is_one_of rfl rfl fun fa cdv A outer s H E hr hgd =>
  (s_one (s_ret (e_and (e_isi m_isinstance m_str boot_str' (by decide) (e_nm 0)) (e_one (ec (c_in hr) (e_nm 0) (e_nm 1))))))
/-! is_kind -/
def B_is_kind : SF := (seqF (ifS (orT (notT (truF (isiF "tuple" (nmF 0)))) (orT (boolF (opF (inG true) (cbF lenG (consF (nmF 0) nilF)) (tupF (consF (cF (.int (1))) (consF (cF (.int (3))) nilF))))) (notT (truF (isiF "str" (opF ixG (nmF 0) (cF (.int (0)))))))))
  (retF (cF (.bool false)))
  passF)
  (seqF (ifS (boolF (opF eqG (cbF lenG (consF (nmF 0) nilF)) (cF (.int (1)))))
  (retF (opF (inG false) (opF ixG (nmF 0) (cF (.int (0)))) (cF K_SIMPLE_KINDS)))
  passF)
  (seqF (ifS (boolF (opF eqG (opF ixG (nmF 0) (cF (.int (0)))) (cF (.str "ring"))))
  (retF (andE (callF F_is_number (consF (opF ixG (nmF 0) (cF (.int (1)))) (consF (cF (.int (1))) (consF (cF (.int (12))) nilF)))) (callF F_is_one_of (consF (opF ixG (nmF 0) (cF (.int (2)))) (consF (cF K_RING_MODES) nilF)))))
  passF)
  (retF (andE (opF eqG (opF ixG (nmF 0) (cF (.int (0)))) (cF (.str "gauge"))) (andE (callF F_is_number (consF (opF ixG (nmF 0) (cF (.int (1)))) (consF (cF (.int (1))) (consF (cF (.int (999))) nilF)))) (callF F_is_one_of (consF (opF ixG (nmF 0) (cF (.int (2)))) (consF (cF K_GAUGE_MODES) nilF)))))))))
def F_is_kind : FD := runF 1 1 B_is_kind
abbrev S_is_kind : Stmt := top 27
theorem sc_is_kind : FnScope ["value"] ["value"] (defScope S_is_kind) := ⟨rfl, rfl, rfl, by decide +kernel, rfl, by decide +kernel, by decide +kernel⟩
theorem d_is_kind {P : Program} {w : World} {K : Frag} {mg : Str → Option Value} {base : Heap} (h : HereG K mg "is_kind" S_is_kind ["value"]) (d_is_number : DefG P w K mg base 2 "is_number" 3 F_is_number) (d_is_one_of : DefG P w K mg base 1 "is_one_of" 2 F_is_one_of) (g_SIMPLE_KINDS : GlD K mg "SIMPLE_KINDS" K_SIMPLE_KINDS) (g_MOST_RING : GlD K mg "MOST_RING" K_MOST_RING) (g_RING_MODES : GlD K mg "RING_MODES" K_RING_MODES) (g_MOST_GAUGE : GlD K mg "MOST_GAUGE" K_MOST_GAUGE) (g_GAUGE_MODES : GlD K mg "GAUGE_MODES" K_GAUGE_MODES) (m_isinstance : mg "isinstance" = none) (m_tuple : mg "tuple" = none) (m_len : mg "len" = none) (m_str : mg "str" = none)   : DefG P w K mg base 3 "is_kind" 1 F_is_kind :=
  h.def sc_is_kind rfl rfl fun fa cdv A outer s H E hr hgd =>
  (s_cons (s_if (t_w (w_or (t_not (t_tru (e_isi m_isinstance m_tuple boot_tuple' (by decide) (e_nm 0)))) (w_or (tc (c_nin hr) (e_bi b_len m_len (a_cons (e_nm 0) a_nil)) (e_tup (a_cons e_int (a_cons e_int a_nil)))) (w_or1 (t_not (t_tru (e_isi m_isinstance m_str boot_str' (by decide) (e_ix hr (e_nm 0) e_int))))))))
  (s_one (s_ret e_bl))
  s_nil)
  (s_cons (s_if (tc (c_eq hr) (e_bi b_len m_len (a_cons (e_nm 0) a_nil)) e_int)
  (s_one (s_ret (ec (c_in hr) (e_ix hr (e_nm 0) e_int) (e_gl g_SIMPLE_KINDS))))
  s_nil)
  (s_cons (s_if (tc (c_eq hr) (e_ix hr (e_nm 0) e_int) e_str)
  (s_one (s_ret (e_and (e_cg d_is_number (hr.mono (by decide)) hgd (takes_of rfl rfl rfl rfl) (a_cons (e_ix hr (e_nm 0) e_int) (a_cons e_int (a_cons (e_gl g_MOST_RING) a_nil)))) (e_one (e_cg d_is_one_of (hr.mono (by decide)) hgd (takes_of rfl rfl rfl rfl) (a_cons (e_ix hr (e_nm 0) e_int) (a_cons (e_gl g_RING_MODES) a_nil)))))))
  s_nil)
  (s_one (s_ret (e_and (ec (c_eq hr) (e_ix hr (e_nm 0) e_int) e_str) (e_and (e_cg d_is_number (hr.mono (by decide)) hgd (takes_of rfl rfl rfl rfl) (a_cons (e_ix hr (e_nm 0) e_int) (a_cons e_int (a_cons (e_gl g_MOST_GAUGE) a_nil)))) (e_one (e_cg d_is_one_of (hr.mono (by decide)) hgd (takes_of rfl rfl rfl rfl) (a_cons (e_ix hr (e_nm 0) e_int) (a_cons (e_gl g_GAUGE_MODES) a_nil)))))))))))
/-! check_gauge -/
def B_check_gauge : SF := (ifS (orT (notT (truF (callF F_is_kind (consF (nmF 0) nilF)))) (boolF (opF neG (opF ixG (nmF 0) (cF (.int (0)))) (cF (.str "gauge")))))
  (raiseF "NoKind" "told" (nmF 0))
  passF)
def F_check_gauge : FD := runF 1 1 B_check_gauge
abbrev S_check_gauge : Stmt := top 41
theorem sc_check_gauge : FnScope ["kind"] ["kind"] (defScope S_check_gauge) := ⟨rfl, rfl, rfl, by decide +kernel, rfl, by decide +kernel, by decide +kernel⟩
theorem d_check_gauge {P : Program} {w : World} {K : Frag} {mg : Str → Option Value} {base : Heap} (h : HereG K mg "check_gauge" S_check_gauge ["kind"]) (d_is_kind : DefG P w K mg base 3 "is_kind" 1 F_is_kind) (m_super : mg "super" = none) (ES : ErrS P K mg CTL)   : DefG P w K mg base 4 "check_gauge" 1 F_check_gauge :=
  h.def sc_check_gauge rfl rfl fun fa cdv A outer s H E hr hgd =>
  (s_one (s_if (t_w (w_or (t_not (t_tru (e_cg d_is_kind (hr.mono (by decide)) hgd (takes_of rfl rfl rfl rfl) (a_cons (e_nm 0) a_nil)))) (w_or1 (tc (c_ne hr) (e_ix hr (e_nm 0) e_int) e_str))))
  (s_one (s_raise (ES.er (j := 1) rfl) (hr.mono (by decide)) m_super rfl (takes_of rfl rfl rfl rfl) (e_nm 0)))
  s_nil))
/-! check_kind -/
def B_check_kind : SF := (ifS (notT (truF (callF F_is_kind (consF (nmF 0) nilF))))
  (raiseF "NoKind" "told" (nmF 0))
  passF)
def F_check_kind : FD := runF 1 1 B_check_kind
abbrev S_check_kind : Stmt := top 28
theorem sc_check_kind : FnScope ["kind"] ["kind"] (defScope S_check_kind) := ⟨rfl, rfl, rfl, by decide +kernel, rfl, by decide +kernel, by decide +kernel⟩
theorem d_check_kind {P : Program} {w : World} {K : Frag} {mg : Str → Option Value} {base : Heap} (h : HereG K mg "check_kind" S_check_kind ["kind"]) (d_is_kind : DefG P w K mg base 3 "is_kind" 1 F_is_kind) (m_super : mg "super" = none) (ES : ErrS P K mg CTL)   : DefG P w K mg base 4 "check_kind" 1 F_check_kind :=
  h.def sc_check_kind rfl rfl fun fa cdv A outer s H E hr hgd =>
  (s_one (s_if (t_not (t_tru (e_cg d_is_kind (hr.mono (by decide)) hgd (takes_of rfl rfl rfl rfl) (a_cons (e_nm 0) a_nil))))
  (s_one (s_raise (ES.er (j := 1) rfl) (hr.mono (by decide)) m_super rfl (takes_of rfl rfl rfl rfl) (e_nm 0)))
  s_nil))
/-! is_letter -/
def B_is_letter : SF := (retF (andE (isiF "str" (nmF 0)) (andE (chF leG leG (cF (.int (1))) (cbF lenG (consF (nmF 0) nilF)) (cF (.int (4)))) (cbF allC (consF (lcF (itF (nmF 0)) [1] (tgN 1) yesF (opF (inG false) (nmF 1) (cF (.str "abcdefghijklmnopqrstuvwxyz")))) nilF)))))
def F_is_letter : FD := runF 1 2 B_is_letter
abbrev S_is_letter : Stmt := top 23
theorem sc_is_letter : FnScope ["value", "sign"] ["value"] (defScope S_is_letter) := ⟨rfl, rfl, rfl, by decide +kernel, rfl, by decide +kernel, by decide +kernel⟩
theorem d_is_letter {P : Program} {w : World} {K : Frag} {mg : Str → Option Value} {base : Heap} (h : HereG K mg "is_letter" S_is_letter ["value"]) (g_MOST_SIGNS : GlD K mg "MOST_SIGNS" K_MOST_SIGNS) (g_ALPHABET : GlD K mg "ALPHABET" K_ALPHABET) (m_isinstance : mg "isinstance" = none) (m_str : mg "str" = none) (m_len : mg "len" = none) (m_all : mg "all" = none)   : DefG P w K mg base 1 "is_letter" 1 F_is_letter :=
  h.def sc_is_letter rfl rfl fun fa cdv A outer s H E hr hgd =>
  (s_one (s_ret (e_and (e_isi m_isinstance m_str boot_str' (by decide) (e_nm 0)) (e_and (ech (c_le hr) (c_le hr) e_int (e_bi b_len m_len (a_cons (e_nm 0) a_nil)) (e_gl g_MOST_SIGNS)) (e_one (e_bi (b_all rfl) m_all (a_cons (e_lc (own := [("sign", 1)]) rfl sc_is_letter.nd (i_it (e_nm 0)) (show BlkOk ["value", "sign"] (defScope S_is_letter) _ [("sign", 1)] from ⟨rfl, by decide +kernel, by decide +kernel, by decide +kernel, by decide +kernel⟩) (tgw tg_name (by decide)) (fun s H C cl fp => ⟨(pg_name (i := 1) sc_is_letter.nd rfl (by first | exact Or.inl rfl | exact Or.inr rfl)), c_nil, (ec (c_in hr) (e_nm 1) (e_gl g_ALPHABET))⟩)) a_nil)))))))
/-! is_part -/
def B_is_part : SF := (seqF (ifS (boolF (opF eqG (nmF 1) (cF (.str "letter"))))
  (retF (callF F_is_letter (consF (nmF 2) nilF)))
  passF)
  (seqF (ifS (boolF (opF eqG (nmF 1) (cF (.str "inserted"))))
  (retF (callF F_is_number (consF (nmF 2) (consF (unF negG (cF (.int (999)))) (consF (cF (.int (999))) nilF)))))
  passF)
  (retF (callF F_is_number (consF (nmF 2) (consF (cF (.int (1))) (consF (opF ixG (nmF 0) (cF (.int (1)))) nilF)))))))
def F_is_part : FD := runF 3 3 B_is_part
abbrev S_is_part : Stmt := top 29
theorem sc_is_part : FnScope ["kind", "sort", "value"] ["kind", "sort", "value"] (defScope S_is_part) := ⟨rfl, rfl, rfl, by decide +kernel, rfl, by decide +kernel, by decide +kernel⟩
theorem d_is_part {P : Program} {w : World} {K : Frag} {mg : Str → Option Value} {base : Heap} (h : HereG K mg "is_part" S_is_part ["kind", "sort", "value"]) (d_is_letter : DefG P w K mg base 1 "is_letter" 1 F_is_letter) (d_is_number : DefG P w K mg base 2 "is_number" 3 F_is_number) (g_MOST_INSERTED : GlD K mg "MOST_INSERTED" K_MOST_INSERTED)   : DefG P w K mg base 3 "is_part" 3 F_is_part :=
  h.def sc_is_part rfl rfl fun fa cdv A outer s H E hr hgd =>
  (s_cons (s_if (tc (c_eq hr) (e_nm 1) e_str)
  (s_one (s_ret (e_cg d_is_letter (hr.mono (by decide)) hgd (takes_of rfl rfl rfl rfl) (a_cons (e_nm 2) a_nil))))
  s_nil)
  (s_cons (s_if (tc (c_eq hr) (e_nm 1) e_str)
  (s_one (s_ret (e_cg d_is_number (hr.mono (by decide)) hgd (takes_of rfl rfl rfl rfl) (a_cons (e_nm 2) (a_cons (e_neg (e_gl g_MOST_INSERTED)) (a_cons (e_gl g_MOST_INSERTED) a_nil))))))
  s_nil)
  (s_one (s_ret (e_cg d_is_number (hr.mono (by decide)) hgd (takes_of rfl rfl rfl rfl) (a_cons (e_nm 2) (a_cons e_int (a_cons (e_ix hr (e_nm 0) e_int) a_nil))))))))
/-! has_step_form -/
def B_has_step_form : SF := (seqF (ifS (orT (notT (truF (isiF "tuple" (nmF 1)))) (orT (boolF (opF eqG (cbF lenG (consF (nmF 1) nilF)) (cF (.int (0))))) (notT (truF (isiF "str" (opF ixG (nmF 1) (cF (.int (0)))))))))
  (retF (cF (.bool false)))
  passF)
  (seqF (ifS (boolF (unF (ninTG T_STEP_SORTS) (tupF (consF (opF ixG (nmF 0) (cF (.int (0)))) (consF (opF ixG (nmF 1) (cF (.int (0)))) nilF)))))
  (retF (cF (.bool false)))
  passF)
  (seqF (setF 2 (unF (ixTG T_STEP_SORTS) (tupF (consF (opF ixG (nmF 0) (cF (.int (0)))) (consF (opF ixG (nmF 1) (cF (.int (0)))) nilF)))))
  (retF (andE (opF eqG (cbF lenG (consF (nmF 1) nilF)) (opF addG (cbF lenG (consF (nmF 2) nilF)) (cF (.int (1))))) (cbF allC (consF (lcF (zipF (consF (nmF 2) (consF (slF (nmF 1) (someF (cF (.int (1)))) noneF) nilF))) [3, 4] (tgS 2 (tgsCons (tgN 3) (tgsCons (tgN 4) tgsNil))) yesF (callF F_is_part (consF (nmF 0) (consF (nmF 3) (consF (nmF 4) nilF))))) nilF)))))))
def F_has_step_form : FD := runF 2 5 B_has_step_form
abbrev S_has_step_form : Stmt := top 30
theorem sc_has_step_form : FnScope ["kind", "value", "sorts", "sort", "part"] ["kind", "value"] (defScope S_has_step_form) := ⟨rfl, rfl, rfl, by decide +kernel, rfl, by decide +kernel, by decide +kernel⟩
theorem d_has_step_form {P : Program} {w : World} {K : Frag} {mg : Str → Option Value} {base : Heap} (h : HereG K mg "has_step_form" S_has_step_form ["kind", "value"]) (d_is_part : DefG P w K mg base 3 "is_part" 3 F_is_part) (t_STEP_SORTS : TabT P w K mg "STEP_SORTS" T_STEP_SORTS) (m_isinstance : mg "isinstance" = none) (m_tuple : mg "tuple" = none) (m_len : mg "len" = none) (m_str : mg "str" = none) (m_all : mg "all" = none) (m_zip : mg "zip" = none)   : DefG P w K mg base 4 "has_step_form" 2 F_has_step_form :=
  h.def sc_has_step_form rfl rfl fun fa cdv A outer s H E hr hgd =>
  (s_cons (s_if (t_w (w_or (t_not (t_tru (e_isi m_isinstance m_tuple boot_tuple' (by decide) (e_nm 1)))) (w_or (tc (c_eq hr) (e_bi b_len m_len (a_cons (e_nm 1) a_nil)) e_int) (w_or1 (t_not (t_tru (e_isi m_isinstance m_str boot_str' (by decide) (e_ix hr (e_nm 1) e_int))))))))
  (s_one (s_ret e_bl))
  s_nil)
  (s_cons (s_if (t_ninT t_STEP_SORTS hr (e_tup (a_cons (e_ix hr (e_nm 0) e_int) (a_cons (e_ix hr (e_nm 1) e_int) a_nil))))
  (s_one (s_ret e_bl))
  s_nil)
  (s_cons (s_set 2 sc_has_step_form.nd (e_ixT t_STEP_SORTS hr (e_tup (a_cons (e_ix hr (e_nm 0) e_int) (a_cons (e_ix hr (e_nm 1) e_int) a_nil)))))
  (s_one (s_ret (e_and (ec (c_eq hr) (e_bi b_len m_len (a_cons (e_nm 1) a_nil)) (e_add (e_bi b_len m_len (a_cons (e_nm 2) a_nil)) e_int)) (e_one (e_bi (b_all rfl) m_all (a_cons (e_lc (own := [("sort", 3), ("part", 4)]) rfl sc_has_step_form.nd (i_zip m_zip (a_cons (e_nm 2) (a_cons (e_sl (e_nm 1) (o_some e_int) o_none) a_nil))) (show BlkOk ["kind", "value", "sorts", "sort", "part"] (defScope S_has_step_form) _ [("sort", 3), ("part", 4)] from ⟨rfl, by decide +kernel, by decide +kernel, by decide +kernel, by decide +kernel⟩) (tgw (tg_seq (tgs_cons tg_name (tgs_cons tg_name tgs_nil))) (by decide)) (fun s H C cl fp => ⟨(pg_seq rfl (pgs_cons (pg_name (i := 3) sc_has_step_form.nd rfl (by first | exact Or.inl rfl | exact Or.inr rfl)) (pgs_cons (pg_name (i := 4) sc_has_step_form.nd rfl (by first | exact Or.inl rfl | exact Or.inr rfl)) pgs_nil))), c_nil, (e_cg d_is_part (hr.mono (by decide)) hgd takes0 (a_cons (e_nm 0) (a_cons (e_nm 3) (a_cons (e_nm 4) a_nil))))⟩)) a_nil)))))))))
/-! has_row_form -/
def B_has_row_form : SF := (retF (andE (isiF "tuple" (nmF 1)) (andE (opF leG (cbF lenG (consF (nmF 1) nilF)) (cF (.int (60)))) (cbF allC (consF (lcF (itF (nmF 1)) [2] (tgN 2) yesF (callF F_has_step_form (consF (nmF 0) (consF (nmF 2) nilF)))) nilF)))))
def F_has_row_form : FD := runF 2 3 B_has_row_form
abbrev S_has_row_form : Stmt := top 31
theorem sc_has_row_form : FnScope ["kind", "value", "step"] ["kind", "value"] (defScope S_has_row_form) := ⟨rfl, rfl, rfl, by decide +kernel, rfl, by decide +kernel, by decide +kernel⟩
theorem d_has_row_form {P : Program} {w : World} {K : Frag} {mg : Str → Option Value} {base : Heap} (h : HereG K mg "has_row_form" S_has_row_form ["kind", "value"]) (d_has_step_form : DefG P w K mg base 4 "has_step_form" 2 F_has_step_form) (g_MOST_STEPS : GlD K mg "MOST_STEPS" K_MOST_STEPS) (m_isinstance : mg "isinstance" = none) (m_tuple : mg "tuple" = none) (m_len : mg "len" = none) (m_all : mg "all" = none)   : DefG P w K mg base 5 "has_row_form" 2 F_has_row_form :=
  h.def sc_has_row_form rfl rfl fun fa cdv A outer s H E hr hgd =>
  (s_one (s_ret (e_and (e_isi m_isinstance m_tuple boot_tuple' (by decide) (e_nm 1)) (e_and (ec (c_le hr) (e_bi b_len m_len (a_cons (e_nm 1) a_nil)) (e_gl g_MOST_STEPS)) (e_one (e_bi (b_all rfl) m_all (a_cons (e_lc (own := [("step", 2)]) rfl sc_has_row_form.nd (i_it (e_nm 1)) (show BlkOk ["kind", "value", "step"] (defScope S_has_row_form) _ [("step", 2)] from ⟨rfl, by decide +kernel, by decide +kernel, by decide +kernel, by decide +kernel⟩) (tgw tg_name (by decide)) (fun s H C cl fp => ⟨(pg_name (i := 2) sc_has_row_form.nd rfl (by first | exact Or.inl rfl | exact Or.inr rfl)), c_nil, (e_cg d_has_step_form (hr.mono (by decide)) hgd takes0 (a_cons (e_nm 0) (a_cons (e_nm 2) a_nil)))⟩)) a_nil)))))))
/-! check_row_of -/
def B_check_row_of : SF := (seqF (exprF (callF F_check_kind (consF (nmF 0) nilF)))
  (ifS (notT (truF (callF F_has_row_form (consF (nmF 0) (consF (nmF 1) nilF)))))
  (raiseF "NoRow" "told" (nmF 1))
  passF))
def F_check_row_of : FD := runF 2 2 B_check_row_of
abbrev S_check_row_of : Stmt := top 39
theorem sc_check_row_of : FnScope ["kind", "row"] ["kind", "row"] (defScope S_check_row_of) := ⟨rfl, rfl, rfl, by decide +kernel, rfl, by decide +kernel, by decide +kernel⟩
theorem d_check_row_of {P : Program} {w : World} {K : Frag} {mg : Str → Option Value} {base : Heap} (h : HereG K mg "check_row_of" S_check_row_of ["kind", "row"]) (d_check_kind : DefG P w K mg base 4 "check_kind" 1 F_check_kind) (d_has_row_form : DefG P w K mg base 5 "has_row_form" 2 F_has_row_form) (m_super : mg "super" = none) (ES : ErrS P K mg CTL)   : DefG P w K mg base 6 "check_row_of" 2 F_check_row_of :=
  h.def sc_check_row_of rfl rfl fun fa cdv A outer s H E hr hgd =>
  (s_cons (s_expr (e_cg d_check_kind (hr.mono (by decide)) hgd (takes_of rfl rfl rfl rfl) (a_cons (e_nm 0) a_nil)))
  (s_one (s_if (t_not (t_tru (e_cg d_has_row_form (hr.mono (by decide)) hgd (takes_of rfl rfl rfl rfl) (a_cons (e_nm 0) (a_cons (e_nm 1) a_nil)))))
  (s_one (s_raise (ES.er (j := 2) rfl) (hr.mono (by decide)) m_super rfl (takes_of rfl rfl rfl rfl) (e_nm 1)))
  s_nil)))
/-! clamped -/
def B_clamped : SF := (retF (cbF (ii2 maxI) (consF (cbF intC (consF (opF ixG (nmF 0) (cF (.int (0)))) nilF)) (consF (cbF (ii2 minI) (consF (cbF intC (consF (opF addG (nmF 1) (opF ixG (nmF 0) (cF (.int (1))))) nilF)) (consF (cbF intC (consF (opF ixG (nmF 0) (cF (.int (2)))) nilF)) nilF))) nilF))))
def F_clamped : FD := runF 2 2 B_clamped
abbrev S_clamped : Stmt := top 45
theorem sc_clamped : FnScope ["form", "number"] ["form", "number"] (defScope S_clamped) := ⟨rfl, rfl, rfl, by decide +kernel, rfl, by decide +kernel, by decide +kernel⟩
theorem d_clamped {P : Program} {w : World} {K : Frag} {mg : Str → Option Value} {base : Heap} (h : HereG K mg "clamped" S_clamped ["form", "number"]) (m_max : mg "max" = none) (m_min : mg "min" = none) (m_int : mg "int" = none)   : DefG P w K mg base 1 "clamped" 2 F_clamped :=
  h.def sc_clamped rfl rfl fun fa cdv A outer s H E hr hgd =>
  (s_one (s_ret (e_bi (b_max rfl) m_max (a_cons (e_bi b_int m_int (a_cons (e_ix hr (e_nm 0) e_int) a_nil)) (a_cons (e_bi (b_min rfl) m_min (a_cons (e_bi b_int m_int (a_cons (e_add (e_nm 1) (e_ix hr (e_nm 0) e_int)) a_nil)) (a_cons (e_bi b_int m_int (a_cons (e_ix hr (e_nm 0) e_int) a_nil)) a_nil))) a_nil)))))
/-! clamps_joined -/
def B_clamps_joined : SF := (seqF (parF [2, 3] (consF (callF F_clamped (consF (nmF 1) (consF (opF ixG (nmF 0) (cF (.int (0)))) nilF))) (consF (callF F_clamped (consF (nmF 1) (consF (opF ixG (nmF 0) (cF (.int (2)))) nilF))) nilF)))
  (retF (tupF (consF (nmF 2) (consF (ifE (boolF (opF ltG (nmF 2) (nmF 3))) (opF addG (opF ixG (nmF 0) (cF (.int (1)))) (opF ixG (nmF 1) (cF (.int (1))))) (cF (.int (0)))) (consF (nmF 3) nilF))))))
def F_clamps_joined : FD := runF 2 4 B_clamps_joined
abbrev S_clamps_joined : Stmt := top 46
theorem sc_clamps_joined : FnScope ["one", "other", "low", "high"] ["one", "other"] (defScope S_clamps_joined) := ⟨rfl, rfl, rfl, by decide +kernel, rfl, by decide +kernel, by decide +kernel⟩
theorem d_clamps_joined {P : Program} {w : World} {K : Frag} {mg : Str → Option Value} {base : Heap} (h : HereG K mg "clamps_joined" S_clamps_joined ["one", "other"]) (d_clamped : DefG P w K mg base 1 "clamped" 2 F_clamped)   : DefG P w K mg base 2 "clamps_joined" 2 F_clamps_joined :=
  h.def sc_clamps_joined rfl rfl fun fa cdv A outer s H E hr hgd =>
  (s_cons (by first | exact (s_par 2 3 rfl sc_clamps_joined.nd (a_cons (e_cg d_clamped (hr.mono (by decide)) hgd (takes_of rfl rfl rfl rfl) (a_cons (e_nm 1) (a_cons (e_ix hr (e_nm 0) e_int) a_nil))) (a_cons (e_cg d_clamped (hr.mono (by decide)) hgd (takes_of rfl rfl rfl rfl) (a_cons (e_nm 1) (a_cons (e_ix hr (e_nm 0) e_int) a_nil))) a_nil))) | exact (s_parN [2, 3] rfl (by decide) (a_cons (e_cg d_clamped (hr.mono (by decide)) hgd (takes_of rfl rfl rfl rfl) (a_cons (e_nm 1) (a_cons (e_ix hr (e_nm 0) e_int) a_nil))) (a_cons (e_cg d_clamped (hr.mono (by decide)) hgd (takes_of rfl rfl rfl rfl) (a_cons (e_nm 1) (a_cons (e_ix hr (e_nm 0) e_int) a_nil))) a_nil)) (pgs_cons (pg_name (i := 2) sc_clamps_joined.nd rfl (by first | exact Or.inl rfl | exact Or.inr rfl)) (pgs_cons (pg_name (i := 3) sc_clamps_joined.nd rfl (by first | exact Or.inl rfl | exact Or.inr rfl)) pgs_nil))))
  (s_one (s_ret (e_tup (a_cons (e_nm 2) (a_cons (e_if (tc (c_lt hr) (e_nm 2) (e_nm 3)) (e_add (e_ix hr (e_nm 0) e_int) (e_ix hr (e_nm 1) e_int)) e_int) (a_cons (e_nm 3) a_nil)))))))
/-! spans_joined -/
def B_spans_joined : SF := (seqF (ifS (orT (boolF (opF (isG false) (nmF 0) (cF .none))) (boolF (opF (isG false) (nmF 1) (cF .none))))
  (retF (cF .none))
  passF)
  (seqF (setF 2 (cbF (ii2 maxI) (consF (cbF intC (consF (opF ixG (nmF 0) (cF (.int (0)))) nilF)) (consF (cbF intC (consF (opF subG (opF ixG (nmF 1) (cF (.int (0)))) (opF ixG (nmF 0) (cF (.int (1))))) nilF)) nilF))))
  (seqF (setF 3 (cbF (ii2 minI) (consF (cbF intC (consF (opF ixG (nmF 0) (cF (.int (2)))) nilF)) (consF (cbF intC (consF (opF subG (opF ixG (nmF 1) (cF (.int (2)))) (opF ixG (nmF 0) (cF (.int (1))))) nilF)) nilF))))
  (retF (ifE (boolF (opF leG (nmF 2) (nmF 3))) (tupF (consF (nmF 2) (consF (opF addG (opF ixG (nmF 0) (cF (.int (1)))) (opF ixG (nmF 1) (cF (.int (1))))) (consF (nmF 3) nilF)))) (cF .none))))))
def F_spans_joined : FD := runF 2 4 B_spans_joined
abbrev S_spans_joined : Stmt := top 47
theorem sc_spans_joined : FnScope ["one", "other", "first", "last"] ["one", "other"] (defScope S_spans_joined) := ⟨rfl, rfl, rfl, by decide +kernel, rfl, by decide +kernel, by decide +kernel⟩
theorem d_spans_joined {P : Program} {w : World} {K : Frag} {mg : Str → Option Value} {base : Heap} (h : HereG K mg "spans_joined" S_spans_joined ["one", "other"]) (m_max : mg "max" = none) (m_int : mg "int" = none) (m_min : mg "min" = none)   : DefG P w K mg base 1 "spans_joined" 2 F_spans_joined :=
  h.def sc_spans_joined rfl rfl fun fa cdv A outer s H E hr hgd =>
  (s_cons (s_if (t_w (w_or (tc (c_is hr) (e_nm 0) e_non) (w_or1 (tc (c_is hr) (e_nm 1) e_non))))
  (s_one (s_ret e_non))
  s_nil)
  (s_cons (s_set 2 sc_spans_joined.nd (e_bi (b_max rfl) m_max (a_cons (e_bi b_int m_int (a_cons (e_ix hr (e_nm 0) e_int) a_nil)) (a_cons (e_bi b_int m_int (a_cons (e_sub (e_ix hr (e_nm 1) e_int) (e_ix hr (e_nm 0) e_int)) a_nil)) a_nil))))
  (s_cons (s_set 3 sc_spans_joined.nd (e_bi (b_min rfl) m_min (a_cons (e_bi b_int m_int (a_cons (e_ix hr (e_nm 0) e_int) a_nil)) (a_cons (e_bi b_int m_int (a_cons (e_sub (e_ix hr (e_nm 1) e_int) (e_ix hr (e_nm 0) e_int)) a_nil)) a_nil))))
  (s_one (s_ret (e_if (tc (c_le hr) (e_nm 2) (e_nm 3)) (e_tup (a_cons (e_nm 2) (a_cons (e_add (e_ix hr (e_nm 0) e_int) (e_ix hr (e_nm 1) e_int)) (a_cons (e_nm 3) a_nil)))) e_non))))))
/-! gauges_joined -/
def B_gauges_joined : SF := (retF (ifE (boolF (opF eqG (opF ixG (nmF 0) (cF (.int (2)))) (cF (.str "stop")))) (callF F_clamps_joined (consF (nmF 1) (consF (nmF 2) nilF))) (callF F_spans_joined (consF (nmF 1) (consF (nmF 2) nilF)))))
def F_gauges_joined : FD := runF 3 3 B_gauges_joined
abbrev S_gauges_joined : Stmt := top 48
theorem sc_gauges_joined : FnScope ["kind", "one", "other"] ["kind", "one", "other"] (defScope S_gauges_joined) := ⟨rfl, rfl, rfl, by decide +kernel, rfl, by decide +kernel, by decide +kernel⟩
theorem d_gauges_joined {P : Program} {w : World} {K : Frag} {mg : Str → Option Value} {base : Heap} (h : HereG K mg "gauges_joined" S_gauges_joined ["kind", "one", "other"]) (d_clamps_joined : DefG P w K mg base 2 "clamps_joined" 2 F_clamps_joined) (d_spans_joined : DefG P w K mg base 1 "spans_joined" 2 F_spans_joined)   : DefG P w K mg base 3 "gauges_joined" 3 F_gauges_joined :=
  h.def sc_gauges_joined rfl rfl fun fa cdv A outer s H E hr hgd =>
  (s_one (s_ret (e_if (tc (c_eq hr) (e_ix hr (e_nm 0) e_int) e_str) (e_cg d_clamps_joined (hr.mono (by decide)) hgd (takes_of rfl rfl rfl rfl) (a_cons (e_nm 1) (a_cons (e_nm 2) a_nil))) (e_cg d_spans_joined (hr.mono (by decide)) hgd (takes_of rfl rfl rfl rfl) (a_cons (e_nm 1) (a_cons (e_nm 2) a_nil))))))
/-! signed_amount -/
def B_signed_amount : SF := (retF (ifE (boolF (opF eqG (opF ixG (nmF 0) (cF (.int (0)))) (cF (.str "add")))) (opF ixG (nmF 0) (cF (.int (1)))) (unF negG (opF ixG (nmF 0) (cF (.int (1)))))))
def F_signed_amount : FD := runF 1 1 B_signed_amount
abbrev S_signed_amount : Stmt := top 49
theorem sc_signed_amount : FnScope ["step"] ["step"] (defScope S_signed_amount) := ⟨rfl, rfl, rfl, by decide +kernel, rfl, by decide +kernel, by decide +kernel⟩
theorem d_signed_amount {P : Program} {w : World} {K : Frag} {mg : Str → Option Value} {base : Heap} (h : HereG K mg "signed_amount" S_signed_amount ["step"])    : DefG P w K mg base 1 "signed_amount" 1 F_signed_amount :=
  h.def sc_signed_amount rfl rfl fun fa cdv A outer s H E hr hgd =>
  (s_one (s_ret (e_if (tc (c_eq hr) (e_ix hr (e_nm 0) e_int) e_str) (e_ix hr (e_nm 0) e_int) (e_neg (e_ix hr (e_nm 0) e_int)))))
/-! gauge_step_form -/
def B_gauge_step_form : SF := (seqF (parF [2, 3] (consF (opF ixG (nmF 0) (cF (.int (1)))) (consF (callF F_signed_amount (consF (nmF 1) nilF)) nilF)))
  (seqF (ifS (boolF (opF eqG (opF ixG (nmF 0) (cF (.int (2)))) (cF (.str "fail"))))
  (retF (ifE (boolF (opF gtG (nmF 3) (cF (.int (0))))) (tupF (consF (cF (.int (0))) (consF (nmF 3) (consF (opF subG (nmF 2) (nmF 3)) nilF)))) (tupF (consF (unF negG (nmF 3)) (consF (nmF 3) (consF (nmF 2) nilF))))))
  passF)
  (seqF (asgF (ifE (boolF (opF gtG (nmF 3) (cF (.int (0))))) (tupF (consF (nmF 3) (consF (nmF 2) nilF))) (tupF (consF (cF (.int (0))) (consF (opF addG (nmF 2) (nmF 3)) nilF)))) (tgS 2 (tgsCons (tgN 4) (tgsCons (tgN 5) tgsNil))))
  (retF (tupF (consF (nmF 4) (consF (ifE (boolF (opF ltG (nmF 4) (nmF 5))) (nmF 3) (cF (.int (0)))) (consF (nmF 5) nilF))))))))
def F_gauge_step_form : FD := runF 2 6 B_gauge_step_form
abbrev S_gauge_step_form : Stmt := top 50
theorem sc_gauge_step_form : FnScope ["kind", "step", "most", "shift", "low", "high"] ["kind", "step"] (defScope S_gauge_step_form) := ⟨rfl, rfl, rfl, by decide +kernel, rfl, by decide +kernel, by decide +kernel⟩
theorem d_gauge_step_form {P : Program} {w : World} {K : Frag} {mg : Str → Option Value} {base : Heap} (h : HereG K mg "gauge_step_form" S_gauge_step_form ["kind", "step"]) (d_signed_amount : DefG P w K mg base 1 "signed_amount" 1 F_signed_amount)   : DefG P w K mg base 2 "gauge_step_form" 2 F_gauge_step_form :=
  h.def sc_gauge_step_form rfl rfl fun fa cdv A outer s H E hr hgd =>
  (s_cons (by first | exact (s_par 2 3 rfl sc_gauge_step_form.nd (a_cons (e_ix hr (e_nm 0) e_int) (a_cons (e_cg d_signed_amount (hr.mono (by decide)) hgd (takes_of rfl rfl rfl rfl) (a_cons (e_nm 1) a_nil)) a_nil))) | exact (s_parN [2, 3] rfl (by decide) (a_cons (e_ix hr (e_nm 0) e_int) (a_cons (e_cg d_signed_amount (hr.mono (by decide)) hgd (takes_of rfl rfl rfl rfl) (a_cons (e_nm 1) a_nil)) a_nil)) (pgs_cons (pg_name (i := 2) sc_gauge_step_form.nd rfl (by first | exact Or.inl rfl | exact Or.inr rfl)) (pgs_cons (pg_name (i := 3) sc_gauge_step_form.nd rfl (by first | exact Or.inl rfl | exact Or.inr rfl)) pgs_nil))))
  (s_cons (s_if (tc (c_eq hr) (e_ix hr (e_nm 0) e_int) e_str)
  (s_one (s_ret (e_if (tc (c_gt hr) (e_nm 3) e_int) (e_tup (a_cons e_int (a_cons (e_nm 3) (a_cons (e_sub (e_nm 2) (e_nm 3)) a_nil)))) (e_tup (a_cons (e_neg (e_nm 3)) (a_cons (e_nm 3) (a_cons (e_nm 2) a_nil)))))))
  s_nil)
  (s_cons (s_asg (e_if (tc (c_gt hr) (e_nm 3) e_int) (e_tup (a_cons (e_nm 3) (a_cons (e_nm 2) a_nil))) (e_tup (a_cons e_int (a_cons (e_add (e_nm 2) (e_nm 3)) a_nil)))) (pg_seq rfl (pgs_cons (pg_name (i := 4) sc_gauge_step_form.nd rfl (by first | exact Or.inl rfl | exact Or.inr rfl)) (pgs_cons (pg_name (i := 5) sc_gauge_step_form.nd rfl (by first | exact Or.inl rfl | exact Or.inr rfl)) pgs_nil))) (tg_seq (tgs_cons tg_name (tgs_cons tg_name tgs_nil))))
  (s_one (s_ret (e_tup (a_cons (e_nm 4) (a_cons (e_if (tc (c_lt hr) (e_nm 4) (e_nm 5)) (e_nm 3) e_int) (a_cons (e_nm 5) a_nil)))))))))
/-! gauge_form -/
def B_gauge_form : SF := (seqF (exprF (callF F_check_gauge (consF (nmF 0) nilF)))
  (seqF (exprF (callF F_check_row_of (consF (nmF 0) (consF (nmF 1) nilF))))
  (seqF (setF 2 (tupF (consF (cF (.int (0))) (consF (cF (.int (0))) (consF (opF ixG (nmF 0) (cF (.int (1)))) nilF)))))
  (seqF (forF (itF (nmF 1)) (tgN 3)
  (setF 2 (callF F_gauges_joined (consF (nmF 0) (consF (nmF 2) (consF (callF F_gauge_step_form (consF (nmF 0) (consF (nmF 3) nilF))) nilF))))))
  (retF (nmF 2))))))
def F_gauge_form : FD := runF 2 4 B_gauge_form
abbrev S_gauge_form : Stmt := top 51
theorem sc_gauge_form : FnScope ["kind", "row", "found", "step"] ["kind", "row"] (defScope S_gauge_form) := ⟨rfl, rfl, rfl, by decide +kernel, rfl, by decide +kernel, by decide +kernel⟩
theorem d_gauge_form {P : Program} {w : World} {K : Frag} {mg : Str → Option Value} {base : Heap} (h : HereG K mg "gauge_form" S_gauge_form ["kind", "row"]) (d_check_gauge : DefG P w K mg base 4 "check_gauge" 1 F_check_gauge) (d_check_row_of : DefG P w K mg base 6 "check_row_of" 2 F_check_row_of) (d_gauge_step_form : DefG P w K mg base 2 "gauge_step_form" 2 F_gauge_step_form) (d_gauges_joined : DefG P w K mg base 3 "gauges_joined" 3 F_gauges_joined)   : DefG P w K mg base 7 "gauge_form" 2 F_gauge_form :=
  h.def sc_gauge_form rfl rfl fun fa cdv A outer s H E hr hgd =>
  (s_cons (s_expr (e_cg d_check_gauge (hr.mono (by decide)) hgd (takes_of rfl rfl rfl rfl) (a_cons (e_nm 0) a_nil)))
  (s_cons (s_expr (e_cg d_check_row_of (hr.mono (by decide)) hgd (takes_of rfl rfl rfl rfl) (a_cons (e_nm 0) (a_cons (e_nm 1) a_nil))))
  (s_cons (s_set 2 sc_gauge_form.nd (e_tup (a_cons e_int (a_cons e_int (a_cons (e_ix hr (e_nm 0) e_int) a_nil)))))
  (s_cons (s_for (passes_of rfl) rfl (i_it (e_nm 1)) (pg_name (i := 3) sc_gauge_form.nd rfl (by first | exact Or.inl rfl | exact Or.inr rfl)) tg_name
  (s_one (s_set 2 sc_gauge_form.nd (e_cg d_gauges_joined (hr.mono (by decide)) hgd (takes_of rfl rfl rfl rfl) (a_cons (e_nm 0) (a_cons (e_nm 2) (a_cons (e_cg d_gauge_step_form (hr.mono (by decide)) hgd (takes_of rfl rfl rfl rfl) (a_cons (e_nm 0) (a_cons (e_nm 3) a_nil))) a_nil)))))))
  (s_one (s_ret (e_nm 2)))))))
/-! _law_gauge_row -/
def B__law_gauge_row : SF := (seqF (setF 3 (lstF nilF))
  (seqF (forF (rngF (consF (callF F__law_take (consF (nmF 0) (consF (opF addG (nmF 2) (cF (.int (1)))) nilF))) nilF)) (tgN 4)
  (seqF (setF 5 (ifE (boolF (opF eqG (callF F__law_take (consF (nmF 0) (consF (cF (.int (3))) nilF))) (cF (.int (0))))) (opF addG (cF (.int (1))) (callF F__law_take (consF (nmF 0) (consF (opF ixG (nmF 1) (cF (.int (1)))) nilF)))) (opF addG (cF (.int (1))) (callF F__law_take (consF (nmF 0) (consF (cbF (ii2 minI) (consF (cF (.int (2))) (consF (opF ixG (nmF 1) (cF (.int (1)))) nilF))) nilF))))))
  (exprF (muF "list" appG (nmF 3) (consF (tupF (consF (callF F__law_one (consF (nmF 0) (consF (lstF (consF (cF (.str "add")) (consF (cF (.str "sub")) nilF))) nilF))) (consF (nmF 5) nilF))) nilF)))))
  (retF (cbF tupleC (consF (nmF 3) nilF)))))
def F__law_gauge_row : FD := runF 3 6 B__law_gauge_row
abbrev S__law_gauge_row : Stmt := top 65
theorem sc__law_gauge_row : FnScope ["_law_source", "_law_kind", "_law_most", "_law_drawn", "_law_turn", "_law_amount"] ["_law_source", "_law_kind", "_law_most"] (defScope S__law_gauge_row) := ⟨rfl, rfl, rfl, by decide +kernel, rfl, by decide +kernel, by decide +kernel⟩
theorem d__law_gauge_row {P : Program} {w : World} {K : Frag} {mg : Str → Option Value} {base : Heap} (h : HereG K mg "_law_gauge_row" S__law_gauge_row ["_law_source", "_law_kind", "_law_most"]) (d__law_take : DefG P w K mg base 1 "_law_take" 2 F__law_take) (d__law_one : DefG P w K mg base 2 "_law_one" 2 F__law_one) (m_range : mg "range" = none) (m_min : mg "min" = none) (m_tuple : mg "tuple" = none)   : DefG P w K mg base 3 "_law_gauge_row" 3 F__law_gauge_row :=
  h.def sc__law_gauge_row rfl rfl fun fa cdv A outer s H E hr hgd =>
  (s_cons (s_set 3 sc__law_gauge_row.nd (e_lst a_nil))
  (s_cons (s_for (passes_of rfl) rfl (i_rng1 m_range (a_cons (e_cg d__law_take (hr.mono (by decide)) hgd (takes_of rfl rfl rfl rfl) (a_cons (e_nm 0) (a_cons (e_add (e_nm 2) e_int) a_nil))) a_nil)) (pg_name (i := 4) sc__law_gauge_row.nd rfl (by first | exact Or.inl rfl | exact Or.inr rfl)) tg_name
  (s_cons (s_set 5 sc__law_gauge_row.nd (e_if (tc (c_eq hr) (e_cg d__law_take (hr.mono (by decide)) hgd (takes_of rfl rfl rfl rfl) (a_cons (e_nm 0) (a_cons e_int a_nil))) e_int) (e_add e_int (e_cg d__law_take (hr.mono (by decide)) hgd (takes_of rfl rfl rfl rfl) (a_cons (e_nm 0) (a_cons (e_ix hr (e_nm 1) e_int) a_nil)))) (e_add e_int (e_cg d__law_take (hr.mono (by decide)) hgd (takes_of rfl rfl rfl rfl) (a_cons (e_nm 0) (a_cons (e_bi (b_min rfl) m_min (a_cons e_int (a_cons (e_ix hr (e_nm 1) e_int) a_nil))) a_nil))))))
  (s_one (s_expr (e_append (e_nm 3) (a_cons (e_tup (a_cons (e_cg d__law_one (hr.mono (by decide)) hgd (takes_of rfl rfl rfl rfl) (a_cons (e_nm 0) (a_cons (e_lst (a_cons e_str (a_cons e_str a_nil))) a_nil))) (a_cons (e_nm 5) a_nil))) a_nil))))))
  (s_one (s_ret (e_bi b_tuple m_tuple (a_cons (e_nm 3) a_nil))))))
/-! _law_line_behind -/
def B__law_line_behind : SF := (seqF (ifS (boolF (opF eqG (opF ixG (nmF 1) (cF (.int (0)))) (cF (.str "push"))))
  (retF (opF addG (tupF (consF (opF ixG (nmF 1) (cF (.int (1)))) nilF)) (nmF 2)))
  passF)
  (seqF (ifS (boolF (opF (inG false) (opF ixG (nmF 1) (cF (.int (0)))) (lstF (consF (cF (.str "pop")) (consF (cF (.str "take")) nilF)))))
  (seqF (ifS (orT (boolF (opF eqG (nmF 2) (tupF nilF))) (andT (boolF (opF gtG (cbF lenG (consF (nmF 1) nilF)) (cF (.int (1))))) (boolF (opF neG (opF ixG (nmF 2) (cF (.int (0)))) (opF ixG (nmF 1) (cF (.int (1))))))))
  (retF (cF .none))
  passF)
  (retF (slF (nmF 2) (someF (cF (.int (1)))) noneF)))
  passF)
  (seqF (ifS (andT (boolF (opF eqG (opF ixG (nmF 0) (cF (.int (0)))) (cF (.str "ring")))) (boolF (opF eqG (cbF lenG (consF (nmF 2) nilF)) (opF ixG (nmF 0) (cF (.int (1)))))))
  (seqF (ifS (boolF (opF eqG (opF ixG (nmF 0) (cF (.int (2)))) (cF (.str "fail"))))
  (retF (cF .none))
  passF)
  (retF (ifE (boolF (opF eqG (opF ixG (nmF 0) (cF (.int (2)))) (cF (.str "ignore")))) (nmF 2) (opF addG (slF (nmF 2) (someF (cF (.int (1)))) noneF) (tupF (consF (opF ixG (nmF 1) (cF (.int (1)))) nilF))))))
  passF)
  (retF (opF addG (nmF 2) (tupF (consF (opF ixG (nmF 1) (cF (.int (1)))) nilF)))))))
def F__law_line_behind : FD := runF 3 3 B__law_line_behind
abbrev S__law_line_behind : Stmt := top 61
theorem sc__law_line_behind : FnScope ["_law_kind", "_law_step", "_law_contents"] ["_law_kind", "_law_step", "_law_contents"] (defScope S__law_line_behind) := ⟨rfl, rfl, rfl, by decide +kernel, rfl, by decide +kernel, by decide +kernel⟩
theorem d__law_line_behind {P : Program} {w : World} {K : Frag} {mg : Str → Option Value} {base : Heap} (h : HereG K mg "_law_line_behind" S__law_line_behind ["_law_kind", "_law_step", "_law_contents"]) (m_len : mg "len" = none)   : DefG P w K mg base 1 "_law_line_behind" 3 F__law_line_behind :=
  h.def sc__law_line_behind rfl rfl fun fa cdv A outer s H E hr hgd =>
  (s_cons (s_if (tc (c_eq hr) (e_ix hr (e_nm 1) e_int) e_str)
  (s_one (s_ret (e_add (e_tup (a_cons (e_ix hr (e_nm 1) e_int) a_nil)) (e_nm 2))))
  s_nil)
  (s_cons (s_if (tc (c_in hr) (e_ix hr (e_nm 1) e_int) (e_lst (a_cons e_str (a_cons e_str a_nil))))
  (s_cons (s_if (t_w (w_or (tc (c_eq hr) (e_nm 2) (e_tup a_nil)) (w_or1 (t_w (w_and (tc (c_gt hr) (e_bi b_len m_len (a_cons (e_nm 1) a_nil)) e_int) (w_and1 (tc (c_ne hr) (e_ix hr (e_nm 2) e_int) (e_ix hr (e_nm 1) e_int))))))))
  (s_one (s_ret e_non))
  s_nil)
  (s_one (s_ret (e_sl (e_nm 2) (o_some e_int) o_none))))
  s_nil)
  (s_cons (s_if (t_w (w_and (tc (c_eq hr) (e_ix hr (e_nm 0) e_int) e_str) (w_and1 (tc (c_eq hr) (e_bi b_len m_len (a_cons (e_nm 2) a_nil)) (e_ix hr (e_nm 0) e_int)))))
  (s_cons (s_if (tc (c_eq hr) (e_ix hr (e_nm 0) e_int) e_str)
  (s_one (s_ret e_non))
  s_nil)
  (s_one (s_ret (e_if (tc (c_eq hr) (e_ix hr (e_nm 0) e_int) e_str) (e_nm 2) (e_add (e_sl (e_nm 2) (o_some e_int) o_none) (e_tup (a_cons (e_ix hr (e_nm 1) e_int) a_nil)))))))
  s_nil)
  (s_one (s_ret (e_add (e_nm 2) (e_tup (a_cons (e_ix hr (e_nm 1) e_int) a_nil))))))))
/-! _law_tape_behind -/
def B__law_tape_behind : SF := (seqF (asgF (nmF 1) (tgS 2 (tgsCons (tgN 4) (tgsCons (tgN 5) tgsNil))))
  (seqF (ifS (boolF (opF (inG false) (opF ixG (nmF 0) (cF (.int (0)))) (lstF (consF (cF (.str "left")) (consF (cF (.str "right")) nilF)))))
  (seqF (setF 6 (ifE (boolF (opF eqG (opF ixG (nmF 0) (cF (.int (0)))) (cF (.str "left")))) (cF (.int (1))) (unF negG (cF (.int (1))))))
  (retF (tupF (consF (cbF tupleC (consF (lcF (itF (nmF 4)) [8, 9] (tgS 2 (tgsCons (tgN 8) (tgsCons (tgN 9) tgsNil))) yesF (tupF (consF (opF addG (nmF 8) (nmF 6)) (consF (nmF 9) nilF)))) nilF)) (consF (nmF 5) nilF)))))
  passF)
  (seqF (setF 2 noE)
  (seqF (ifS (boolF (opF eqG (opF ixG (nmF 0) (cF (.int (0)))) (cF (.str "expect"))))
  (retF (ifE (boolF (opF eqG noE (opF ixG (nmF 0) (cF (.int (1)))))) (nmF 1) (cF .none)))
  passF)
  (seqF (stoF (opF ixG (nmF 0) (cF (.int (1)))) (nmF 2) (cF (.int (0))))
  (seqF (setF 3 (cbF sortedC (consF (lcF (itF (cbF listC (consF (nmF 2) nilF))) [7] (tgN 7) yesF (cbF intC (consF (nmF 7) nilF))) nilF)))
  (retF (tupF (consF (cbF tupleC (consF (lcF (itF (nmF 3)) [8] (tgN 8) (boolF (opF neG (opF ixG (nmF 2) (nmF 8)) (nmF 5))) (tupF (consF (nmF 8) (consF (opF ixG (nmF 2) (nmF 8)) nilF)))) nilF)) (consF (nmF 5) nilF))))))))))
def F__law_tape_behind : FD := runF 2 10 B__law_tape_behind
abbrev S__law_tape_behind : Stmt := top 62
theorem sc__law_tape_behind : FnScope ["_law_step", "_law_contents", "_law_told", "_law_places", "_law_pairs", "_law_rest", "_law_more", "_law_one_here", "_law_place", "_law_letter"] ["_law_step", "_law_contents"] (defScope S__law_tape_behind) := ⟨rfl, rfl, rfl, by decide +kernel, rfl, by decide +kernel, by decide +kernel⟩
theorem d__law_tape_behind {P : Program} {w : World} {K : Frag} {mg : Str → Option Value} {base : Heap} (h : HereG K mg "_law_tape_behind" S__law_tape_behind ["_law_step", "_law_contents"]) (m_tuple : mg "tuple" = none) (m_sorted : mg "sorted" = none) (m_list : mg "list" = none) (m_int : mg "int" = none)   : DefG P w K mg base 1 "_law_tape_behind" 2 F__law_tape_behind :=
  h.def sc__law_tape_behind rfl rfl fun fa cdv A outer s H E hr hgd =>
  (s_cons (s_asg (e_nm 1) (pg_seq rfl (pgs_cons (pg_name (i := 4) sc__law_tape_behind.nd rfl (by first | exact Or.inl rfl | exact Or.inr rfl)) (pgs_cons (pg_name (i := 5) sc__law_tape_behind.nd rfl (by first | exact Or.inl rfl | exact Or.inr rfl)) pgs_nil))) (tg_seq (tgs_cons tg_name (tgs_cons tg_name tgs_nil))))
  (s_cons (s_if (tc (c_in hr) (e_ix hr (e_nm 0) e_int) (e_lst (a_cons e_str (a_cons e_str a_nil))))
  (s_cons (s_set 6 sc__law_tape_behind.nd (e_if (tc (c_eq hr) (e_ix hr (e_nm 0) e_int) e_str) e_int (e_neg e_int)))
  (s_one (s_ret (e_tup (a_cons (e_bi b_tuple m_tuple (a_cons (e_lc (own := [("_law_place", 8), ("_law_letter", 9)]) rfl sc__law_tape_behind.nd (i_it (e_nm 4)) (show BlkOk ["_law_step", "_law_contents", "_law_told", "_law_places", "_law_pairs", "_law_rest", "_law_more", "_law_one_here", "_law_place", "_law_letter"] (defScope S__law_tape_behind) _ [("_law_place", 8), ("_law_letter", 9)] from ⟨rfl, by decide +kernel, by decide +kernel, by decide +kernel, by decide +kernel⟩) (tgw (tg_seq (tgs_cons tg_name (tgs_cons tg_name tgs_nil))) (by decide)) (fun s H C cl fp => ⟨(pg_seq rfl (pgs_cons (pg_name (i := 8) sc__law_tape_behind.nd rfl (by first | exact Or.inl rfl | exact Or.inr rfl)) (pgs_cons (pg_name (i := 9) sc__law_tape_behind.nd rfl (by first | exact Or.inl rfl | exact Or.inr rfl)) pgs_nil))), c_nil, (e_tup (a_cons (e_add (e_nm 8) (e_nm 6)) (a_cons (e_nm 9) a_nil)))⟩)) a_nil)) (a_cons (e_nm 5) a_nil))))))
  s_nil)
  (s_cons (s_set 2 sc__law_tape_behind.nd e_no)
  (s_cons (s_if (tc (c_eq hr) (e_ix hr (e_nm 0) e_int) e_str)
  (s_one (s_ret (e_if (tc (c_eq hr) e_no (e_ix hr (e_nm 0) e_int)) (e_nm 1) e_non)))
  s_nil)
  (s_cons (s_sto (e_ix hr (e_nm 0) e_int) (e_nm 2) e_int)
  (s_cons (s_set 3 sc__law_tape_behind.nd (e_bi b_sorted m_sorted (a_cons (e_lc (own := [("_law_one_here", 7)]) rfl sc__law_tape_behind.nd (i_it (e_bi b_list m_list (a_cons (e_nm 2) a_nil))) (show BlkOk ["_law_step", "_law_contents", "_law_told", "_law_places", "_law_pairs", "_law_rest", "_law_more", "_law_one_here", "_law_place", "_law_letter"] (defScope S__law_tape_behind) _ [("_law_one_here", 7)] from ⟨rfl, by decide +kernel, by decide +kernel, by decide +kernel, by decide +kernel⟩) (tgw tg_name (by decide)) (fun s H C cl fp => ⟨(pg_name (i := 7) sc__law_tape_behind.nd rfl (by first | exact Or.inl rfl | exact Or.inr rfl)), c_nil, (e_bi b_int m_int (a_cons (e_nm 7) a_nil))⟩)) a_nil)))
  (s_one (s_ret (e_tup (a_cons (e_bi b_tuple m_tuple (a_cons (e_lc (own := [("_law_place", 8)]) rfl sc__law_tape_behind.nd (i_it (e_nm 3)) (show BlkOk ["_law_step", "_law_contents", "_law_told", "_law_places", "_law_pairs", "_law_rest", "_law_more", "_law_one_here", "_law_place", "_law_letter"] (defScope S__law_tape_behind) _ [("_law_place", 8)] from ⟨rfl, by decide +kernel, by decide +kernel, by decide +kernel, by decide +kernel⟩) (tgw tg_name (by decide)) (fun s H C cl fp => ⟨(pg_name (i := 8) sc__law_tape_behind.nd rfl (by first | exact Or.inl rfl | exact Or.inr rfl)), (c_one (tc (c_ne hr) (e_ix hr (e_nm 2) (e_nm 8)) (e_nm 5))), (e_tup (a_cons (e_nm 8) (a_cons (e_ix hr (e_nm 2) (e_nm 8)) a_nil)))⟩)) a_nil)) (a_cons (e_nm 5) a_nil)))))))))))
/-! _law_behind -/
def B__law_behind : SF := (seqF (setF 3 (opF ixG (nmF 1) (cF (.int (0)))))
  (seqF (ifS (boolF (opF (inG false) (opF ixG (nmF 0) (cF (.int (0)))) (lstF (consF (cF (.str "stack")) (consF (cF (.str "queue")) (consF (cF (.str "ring")) nilF))))))
  (retF (callF F__law_line_behind (consF (nmF 0) (consF (nmF 1) (consF (nmF 2) nilF)))))
  passF)
  (seqF (ifS (boolF (opF eqG (opF ixG (nmF 0) (cF (.int (0)))) (cF (.str "tape"))))
  (retF (callF F__law_tape_behind (consF (nmF 1) (consF (nmF 2) nilF))))
  passF)
  (seqF (ifS (boolF (opF eqG (opF ixG (nmF 0) (cF (.int (0)))) (cF (.str "heap"))))
  (seqF (ifS (boolF (opF eqG (nmF 3) (cF (.str "insert"))))
  (retF (cbF tupleC (consF (cbF sortedC (consF (lcF (itF (opF addG (cbF listC (consF (nmF 2) nilF)) (lstF (consF (opF ixG (nmF 1) (cF (.int (1)))) nilF)))) [8] (tgN 8) yesF (cbF intC (consF (nmF 8) nilF))) nilF)) nilF)))
  passF)
  (retF (ifE (boolF (opF neG (nmF 2) (tupF nilF))) (slF (nmF 2) (someF (cF (.int (1)))) noneF) (cF .none))))
  passF)
  (seqF (ifS (boolF (opF eqG (opF ixG (nmF 0) (cF (.int (0)))) (cF (.str "gauge"))))
  (seqF (setF 5 (opF addG (nmF 2) (ifE (boolF (opF eqG (nmF 3) (cF (.str "add")))) (opF ixG (nmF 1) (cF (.int (1)))) (unF negG (opF ixG (nmF 1) (cF (.int (1))))))))
  (seqF (ifS (andT (boolF (opF eqG (opF ixG (nmF 0) (cF (.int (2)))) (cF (.str "fail")))) (notT (boolF (chF leG leG (cF (.int (0))) (nmF 5) (opF ixG (nmF 0) (cF (.int (1))))))))
  (retF (cF .none))
  passF)
  (retF (cbF (ii2 maxI) (consF (cF (.int (0))) (consF (cbF (ii2 minI) (consF (cbF intC (consF (nmF 5) nilF)) (consF (cbF intC (consF (opF ixG (nmF 0) (cF (.int (1)))) nilF)) nilF))) nilF))))))
  passF)
  (seqF (setF 4 noE)
  (seqF (ifS (boolF (opF (inG false) (nmF 3) (lstF (consF (cF (.str "expect")) (consF (cF (.str "absent")) nilF)))))
  (seqF (setF 6 (ifE (boolF (opF eqG (nmF 3) (cF (.str "expect")))) (opF ixG (nmF 1) (cF (.int (2)))) (cF (.str ""))))
  (retF (ifE (boolF (opF eqG noE (nmF 6))) (nmF 2) (cF .none))))
  passF)
  (seqF (stoF (ifE (boolF (opF eqG (nmF 3) (cF (.str "set")))) (opF ixG (nmF 1) (cF (.int (2)))) (cF (.str ""))) (nmF 4) (opF ixG (nmF 1) (cF (.int (1)))))
  (retF (cbF tupleC (consF (lcF (itF (cbF sortedC (consF (lcF (itF (cbF listC (consF (nmF 4) nilF))) [8] (tgN 8) yesF (cbF strC2 (consF (nmF 8) nilF))) nilF))) [7] (tgN 7) (boolF (opF neG (opF ixG (nmF 4) (nmF 7)) (cF (.str "")))) (tupF (consF (nmF 7) (consF (opF ixG (nmF 4) (nmF 7)) nilF)))) nilF)))))))))))
def F__law_behind : FD := runF 3 9 B__law_behind
abbrev S__law_behind : Stmt := top 60
theorem sc__law_behind : FnScope ["_law_kind", "_law_step", "_law_contents", "_law_word", "_law_told", "_law_number", "_law_due", "_law_name", "_law_one_here"] ["_law_kind", "_law_step", "_law_contents"] (defScope S__law_behind) := ⟨rfl, rfl, rfl, by decide +kernel, rfl, by decide +kernel, by decide +kernel⟩
theorem d__law_behind {P : Program} {w : World} {K : Frag} {mg : Str → Option Value} {base : Heap} (h : HereG K mg "_law_behind" S__law_behind ["_law_kind", "_law_step", "_law_contents"]) (d__law_line_behind : DefG P w K mg base 1 "_law_line_behind" 3 F__law_line_behind) (d__law_tape_behind : DefG P w K mg base 1 "_law_tape_behind" 2 F__law_tape_behind) (m_tuple : mg "tuple" = none) (m_sorted : mg "sorted" = none) (m_list : mg "list" = none) (m_int : mg "int" = none) (m_max : mg "max" = none) (m_min : mg "min" = none) (m_str : mg "str" = none)   : DefG P w K mg base 2 "_law_behind" 3 F__law_behind :=
  h.def sc__law_behind rfl rfl fun fa cdv A outer s H E hr hgd =>
  (s_cons (s_set 3 sc__law_behind.nd (e_ix hr (e_nm 1) e_int))
  (s_cons (s_if (tc (c_in hr) (e_ix hr (e_nm 0) e_int) (e_lst (a_cons e_str (a_cons e_str (a_cons e_str a_nil)))))
  (s_one (s_ret (e_cg d__law_line_behind (hr.mono (by decide)) hgd (takes_of rfl rfl rfl rfl) (a_cons (e_nm 0) (a_cons (e_nm 1) (a_cons (e_nm 2) a_nil))))))
  s_nil)
  (s_cons (s_if (tc (c_eq hr) (e_ix hr (e_nm 0) e_int) e_str)
  (s_one (s_ret (e_cg d__law_tape_behind (hr.mono (by decide)) hgd (takes_of rfl rfl rfl rfl) (a_cons (e_nm 1) (a_cons (e_nm 2) a_nil)))))
  s_nil)
  (s_cons (s_if (tc (c_eq hr) (e_ix hr (e_nm 0) e_int) e_str)
  (s_cons (s_if (tc (c_eq hr) (e_nm 3) e_str)
  (s_one (s_ret (e_bi b_tuple m_tuple (a_cons (e_bi b_sorted m_sorted (a_cons (e_lc (own := [("_law_one_here", 8)]) rfl sc__law_behind.nd (i_it (e_add (e_bi b_list m_list (a_cons (e_nm 2) a_nil)) (e_lst (a_cons (e_ix hr (e_nm 1) e_int) a_nil)))) (show BlkOk ["_law_kind", "_law_step", "_law_contents", "_law_word", "_law_told", "_law_number", "_law_due", "_law_name", "_law_one_here"] (defScope S__law_behind) _ [("_law_one_here", 8)] from ⟨rfl, by decide +kernel, by decide +kernel, by decide +kernel, by decide +kernel⟩) (tgw tg_name (by decide)) (fun s H C cl fp => ⟨(pg_name (i := 8) sc__law_behind.nd rfl (by first | exact Or.inl rfl | exact Or.inr rfl)), c_nil, (e_bi b_int m_int (a_cons (e_nm 8) a_nil))⟩)) a_nil)) a_nil))))
  s_nil)
  (s_one (s_ret (e_if (tc (c_ne hr) (e_nm 2) (e_tup a_nil)) (e_sl (e_nm 2) (o_some e_int) o_none) e_non))))
  s_nil)
  (s_cons (s_if (tc (c_eq hr) (e_ix hr (e_nm 0) e_int) e_str)
  (s_cons (s_set 5 sc__law_behind.nd (e_add (e_nm 2) (e_if (tc (c_eq hr) (e_nm 3) e_str) (e_ix hr (e_nm 1) e_int) (e_neg (e_ix hr (e_nm 1) e_int)))))
  (s_cons (s_if (t_w (w_and (tc (c_eq hr) (e_ix hr (e_nm 0) e_int) e_str) (w_and1 (t_not (tch (c_le hr) (c_le hr) e_int (e_nm 5) (e_ix hr (e_nm 0) e_int))))))
  (s_one (s_ret e_non))
  s_nil)
  (s_one (s_ret (e_bi (b_max rfl) m_max (a_cons e_int (a_cons (e_bi (b_min rfl) m_min (a_cons (e_bi b_int m_int (a_cons (e_nm 5) a_nil)) (a_cons (e_bi b_int m_int (a_cons (e_ix hr (e_nm 0) e_int) a_nil)) a_nil))) a_nil)))))))
  s_nil)
  (s_cons (s_set 4 sc__law_behind.nd e_no)
  (s_cons (s_if (tc (c_in hr) (e_nm 3) (e_lst (a_cons e_str (a_cons e_str a_nil))))
  (s_cons (s_set 6 sc__law_behind.nd (e_if (tc (c_eq hr) (e_nm 3) e_str) (e_ix hr (e_nm 1) e_int) e_str))
  (s_one (s_ret (e_if (tc (c_eq hr) e_no (e_nm 6)) (e_nm 2) e_non))))
  s_nil)
  (s_cons (s_sto (e_if (tc (c_eq hr) (e_nm 3) e_str) (e_ix hr (e_nm 1) e_int) e_str) (e_nm 4) (e_ix hr (e_nm 1) e_int))
  (s_one (s_ret (e_bi b_tuple m_tuple (a_cons (e_lc (own := [("_law_name", 7)]) rfl sc__law_behind.nd (i_it (e_bi b_sorted m_sorted (a_cons (e_lc (own := [("_law_one_here", 8)]) rfl sc__law_behind.nd (i_it (e_bi b_list m_list (a_cons (e_nm 4) a_nil))) (show BlkOk ["_law_kind", "_law_step", "_law_contents", "_law_word", "_law_told", "_law_number", "_law_due", "_law_name", "_law_one_here"] (defScope S__law_behind) _ [("_law_one_here", 8)] from ⟨rfl, by decide +kernel, by decide +kernel, by decide +kernel, by decide +kernel⟩) (tgw tg_name (by decide)) (fun s H C cl fp => ⟨(pg_name (i := 8) sc__law_behind.nd rfl (by first | exact Or.inl rfl | exact Or.inr rfl)), c_nil, (e_bi b_str2 m_str (a_cons (e_nm 8) a_nil))⟩)) a_nil))) (show BlkOk ["_law_kind", "_law_step", "_law_contents", "_law_word", "_law_told", "_law_number", "_law_due", "_law_name", "_law_one_here"] (defScope S__law_behind) _ [("_law_name", 7)] from ⟨rfl, by decide +kernel, by decide +kernel, by decide +kernel, by decide +kernel⟩) (tgw tg_name (by decide)) (fun s H C cl fp => ⟨(pg_name (i := 7) sc__law_behind.nd rfl (by first | exact Or.inl rfl | exact Or.inr rfl)), (c_one (tc (c_ne hr) (e_ix hr (e_nm 4) (e_nm 7)) e_str)), (e_tup (a_cons (e_nm 7) (a_cons (e_ix hr (e_nm 4) (e_nm 7)) a_nil)))⟩)) a_nil))))))))))))
/-! _law_left -/
def B__law_left : SF := (seqF (forF (itF (nmF 1)) (tgN 3)
  (seqF (setF 2 (callF F__law_behind (consF (nmF 0) (consF (nmF 3) (consF (nmF 2) nilF)))))
  (ifS (boolF (opF (isG false) (nmF 2) (cF .none)))
  (retF (cF .none))
  passF)))
  (retF (nmF 2)))
def F__law_left : FD := runF 3 4 B__law_left
abbrev S__law_left : Stmt := top 63
theorem sc__law_left : FnScope ["_law_kind", "_law_row", "_law_contents", "_law_step"] ["_law_kind", "_law_row", "_law_contents"] (defScope S__law_left) := ⟨rfl, rfl, rfl, by decide +kernel, rfl, by decide +kernel, by decide +kernel⟩
theorem d__law_left {P : Program} {w : World} {K : Frag} {mg : Str → Option Value} {base : Heap} (h : HereG K mg "_law_left" S__law_left ["_law_kind", "_law_row", "_law_contents"]) (d__law_behind : DefG P w K mg base 2 "_law_behind" 3 F__law_behind)   : DefG P w K mg base 3 "_law_left" 3 F__law_left :=
  h.def sc__law_left rfl rfl fun fa cdv A outer s H E hr hgd =>
  (s_cons (s_for (passes_of rfl) rfl (i_it (e_nm 1)) (pg_name (i := 3) sc__law_left.nd rfl (by first | exact Or.inl rfl | exact Or.inr rfl)) tg_name
  (s_cons (s_set 2 sc__law_left.nd (e_cg d__law_behind (hr.mono (by decide)) hgd (takes_of rfl rfl rfl rfl) (a_cons (e_nm 0) (a_cons (e_nm 3) (a_cons (e_nm 2) a_nil)))))
  (s_one (s_if (tc (c_is hr) (e_nm 2) e_non)
  (s_one (s_ret e_non))
  s_nil))))
  (s_one (s_ret (e_nm 2))))
/-! _law_map -/
def B__law_map : SF := (retF (lcF (rngF (consF (opF addG (opF ixG (nmF 0) (cF (.int (1)))) (cF (.int (1)))) nilF)) [2] (tgN 2) yesF (callF F__law_left (consF (nmF 0) (consF (nmF 1) (consF (nmF 2) nilF))))))
def F__law_map : FD := runF 2 3 B__law_map
abbrev S__law_map : Stmt := top 66
theorem sc__law_map : FnScope ["_law_kind", "_law_row", "_law_number"] ["_law_kind", "_law_row"] (defScope S__law_map) := ⟨rfl, rfl, rfl, by decide +kernel, rfl, by decide +kernel, by decide +kernel⟩
theorem d__law_map {P : Program} {w : World} {K : Frag} {mg : Str → Option Value} {base : Heap} (h : HereG K mg "_law_map" S__law_map ["_law_kind", "_law_row"]) (d__law_left : DefG P w K mg base 3 "_law_left" 3 F__law_left) (m_range : mg "range" = none)   : DefG P w K mg base 4 "_law_map" 2 F__law_map :=
  h.def sc__law_map rfl rfl fun fa cdv A outer s H E hr hgd =>
  (s_one (s_ret (e_lc (own := [("_law_number", 2)]) rfl sc__law_map.nd (i_rng1 m_range (a_cons (e_add (e_ix hr (e_nm 0) e_int) e_int) a_nil)) (show BlkOk ["_law_kind", "_law_row", "_law_number"] (defScope S__law_map) _ [("_law_number", 2)] from ⟨rfl, by decide +kernel, by decide +kernel, by decide +kernel, by decide +kernel⟩) (tgw tg_name (by decide)) (fun s H C cl fp => ⟨(pg_name (i := 2) sc__law_map.nd rfl (by first | exact Or.inl rfl | exact Or.inr rfl)), c_nil, (e_cg d__law_left (hr.mono (by decide)) hgd takes0 (a_cons (e_nm 0) (a_cons (e_nm 1) (a_cons (e_nm 2) a_nil))))⟩))))
/-! _law_told_form -/
def B__law_told_form : SF := (seqF (setF 2 (callF F__law_map (consF (nmF 0) (consF (nmF 1) nilF))))
  (seqF (ifS (boolF (opF eqG (opF ixG (nmF 0) (cF (.int (2)))) (cF (.str "fail"))))
  (seqF (setF 4 (lcF (rngF (consF (cbF lenG (consF (nmF 2) nilF)) nilF)) [5] (tgN 5) (boolF (opF (isG true) (opF ixG (nmF 2) (nmF 5)) (cF .none))) (nmF 5)))
  (retF (ifE (boolF (opF neG (nmF 4) (lstF nilF))) (tupF (consF (opF ixG (nmF 4) (cF (.int (0)))) (consF (opF subG (opF ixG (nmF 2) (opF ixG (nmF 4) (cF (.int (0))))) (opF ixG (nmF 4) (cF (.int (0))))) (consF (opF ixG (nmF 4) (unF negG (cF (.int (1))))) nilF)))) (cF .none))))
  passF)
  (seqF (ifS (boolF (opF eqG (opF ixG (nmF 2) (cF (.int (0)))) (opF ixG (nmF 2) (unF negG (cF (.int (1)))))))
  (retF (tupF (consF (opF ixG (nmF 2) (cF (.int (0)))) (consF (cF (.int (0))) (consF (opF ixG (nmF 2) (cF (.int (0)))) nilF)))))
  passF)
  (seqF (setF 3 (cbF sumC (consF (lcF (itF (nmF 1)) [6] (tgN 6) yesF (ifE (boolF (opF eqG (opF ixG (nmF 6) (cF (.int (0)))) (cF (.str "add")))) (opF ixG (nmF 6) (cF (.int (1)))) (unF negG (opF ixG (nmF 6) (cF (.int (1))))))) nilF)))
  (retF (tupF (consF (opF ixG (nmF 2) (cF (.int (0)))) (consF (nmF 3) (consF (opF ixG (nmF 2) (unF negG (cF (.int (1))))) nilF)))))))))
def F__law_told_form : FD := runF 2 7 B__law_told_form
abbrev S__law_told_form : Stmt := top 67
theorem sc__law_told_form : FnScope ["_law_kind", "_law_row", "_law_lot", "_law_shift", "_law_good", "_law_number", "_law_step"] ["_law_kind", "_law_row"] (defScope S__law_told_form) := ⟨rfl, rfl, rfl, by decide +kernel, rfl, by decide +kernel, by decide +kernel⟩
theorem d__law_told_form {P : Program} {w : World} {K : Frag} {mg : Str → Option Value} {base : Heap} (h : HereG K mg "_law_told_form" S__law_told_form ["_law_kind", "_law_row"]) (d__law_map : DefG P w K mg base 4 "_law_map" 2 F__law_map) (m_len : mg "len" = none) (m_range : mg "range" = none) (m_sum : mg "sum" = none)   : DefG P w K mg base 5 "_law_told_form" 2 F__law_told_form :=
  h.def sc__law_told_form rfl rfl fun fa cdv A outer s H E hr hgd =>
  (s_cons (s_set 2 sc__law_told_form.nd (e_cg d__law_map (hr.mono (by decide)) hgd (takes_of rfl rfl rfl rfl) (a_cons (e_nm 0) (a_cons (e_nm 1) a_nil))))
  (s_cons (s_if (tc (c_eq hr) (e_ix hr (e_nm 0) e_int) e_str)
  (s_cons (by first | exact (s_set 4 sc__law_told_form.nd (e_lc (own := [("_law_number", 5)]) rfl sc__law_told_form.nd (i_rng1 m_range (a_cons (e_bi b_len m_len (a_cons (e_nm 2) a_nil)) a_nil)) (show BlkOk ["_law_kind", "_law_row", "_law_lot", "_law_shift", "_law_good", "_law_number", "_law_step"] (defScope S__law_told_form) _ [("_law_number", 5)] from ⟨rfl, by decide +kernel, by decide +kernel, by decide +kernel, by decide +kernel⟩) (tgw tg_name (by decide)) (fun s H C cl fp => ⟨(pg_name (i := 5) sc__law_told_form.nd rfl (by first | exact Or.inl rfl | exact Or.inr rfl)), (c_one (tc (c_isn hr) (e_ix hr (e_nm 2) (e_nm 5)) e_non)), (e_nm 5)⟩))) | exact (s_setLc 4 (own := [("_law_number", 5)]) rfl sc__law_told_form.nd (i_rng1 m_range (a_cons (e_bi b_len m_len (a_cons (e_nm 2) a_nil)) a_nil)) (show BlkOk ["_law_kind", "_law_row", "_law_lot", "_law_shift", "_law_good", "_law_number", "_law_step"] (defScope S__law_told_form) _ [("_law_number", 5)] from ⟨rfl, by decide +kernel, by decide +kernel, by decide +kernel, by decide +kernel⟩) (tgw tg_name (by decide)) (fun s H C cl fp => ⟨(pg_name (i := 5) sc__law_told_form.nd rfl (by first | exact Or.inl rfl | exact Or.inr rfl)), (c_one (tc (c_isn hr) (e_ix hr (e_nm 2) (e_nm 5)) e_non)), (e_nm 5)⟩)))
  (s_one (s_ret (e_if (tc (c_ne hr) (e_nm 4) (e_lst a_nil)) (e_tup (a_cons (e_ix hr (e_nm 4) e_int) (a_cons (e_sub (e_ix hr (e_nm 2) (e_ix hr (e_nm 4) e_int)) (e_ix hr (e_nm 4) e_int)) (a_cons (e_ix hr (e_nm 4) (e_neg e_int)) a_nil)))) e_non))))
  s_nil)
  (s_cons (s_if (tc (c_eq hr) (e_ix hr (e_nm 2) e_int) (e_ix hr (e_nm 2) (e_neg e_int)))
  (s_one (s_ret (e_tup (a_cons (e_ix hr (e_nm 2) e_int) (a_cons e_int (a_cons (e_ix hr (e_nm 2) e_int) a_nil))))))
  s_nil)
  (s_cons (s_set 3 sc__law_told_form.nd (e_bi (b_sum rfl) m_sum (a_cons (e_lc (own := [("_law_step", 6)]) rfl sc__law_told_form.nd (i_it (e_nm 1)) (show BlkOk ["_law_kind", "_law_row", "_law_lot", "_law_shift", "_law_good", "_law_number", "_law_step"] (defScope S__law_told_form) _ [("_law_step", 6)] from ⟨rfl, by decide +kernel, by decide +kernel, by decide +kernel, by decide +kernel⟩) (tgw tg_name (by decide)) (fun s H C cl fp => ⟨(pg_name (i := 6) sc__law_told_form.nd rfl (by first | exact Or.inl rfl | exact Or.inr rfl)), c_nil, (e_if (tc (c_eq hr) (e_ix hr (e_nm 6) e_int) e_str) (e_ix hr (e_nm 6) e_int) (e_neg (e_ix hr (e_nm 6) e_int)))⟩)) a_nil)))
  (s_one (s_ret (e_tup (a_cons (e_ix hr (e_nm 2) e_int) (a_cons (e_nm 3) (a_cons (e_ix hr (e_nm 2) (e_neg e_int)) a_nil))))))))))
/-! _law_heard -/
def B__law_heard : SF := (tryF CTL 1 (retF (tupF (consF (cF (.str "is")) (consF noE nilF)))) (("NoKind", fun x => retF (tupF (consF (cF (.str "kind")) (consF (toldF "told" x) nilF)))) :: (("NoRow", fun x => retF (tupF (consF (cF (.str "row")) (consF (toldF "told" x) nilF)))) :: (("NoForm", fun x => retF (tupF (consF (cF (.str "form")) (consF (toldF "told" x) nilF)))) :: (("NoContents", fun x => retF (tupF (consF (cF (.str "box")) (consF (toldF "told" x) (consF (isxF CTL "BoxError" x) nilF))))) :: [])))))
def F__law_heard : FD := runF 1 2 B__law_heard
abbrev S__law_heard : Stmt := top 69
theorem sc__law_heard : FnScope ["_law_call", "e"] ["_law_call"] (defScope S__law_heard) := ⟨rfl, rfl, rfl, by decide +kernel, rfl, by decide +kernel, by decide +kernel⟩
abbrev CS__law_heard : List (Str × (Xc → SF)) := (("NoKind", fun x => retF (tupF (consF (cF (.str "kind")) (consF (toldF "told" x) nilF)))) :: (("NoRow", fun x => retF (tupF (consF (cF (.str "row")) (consF (toldF "told" x) nilF)))) :: (("NoForm", fun x => retF (tupF (consF (cF (.str "form")) (consF (toldF "told" x) nilF)))) :: (("NoContents", fun x => retF (tupF (consF (cF (.str "box")) (consF (toldF "told" x) (consF (isxF CTL "BoxError" x) nilF))))) :: []))))
theorem eh__law_heard {X : Cx} {W : WX} {k : Nat} {c P : Addr} {p lpos pos : Pos} {params : Arguments} {body : Expr} {scope : Scope} {fb : EF} {x0 : Str} (hd : HereG X.K X.mg "_law_heard" S__law_heard ["_law_call"]) (ES : ErrS X.prog X.K X.mg CTL) (m_isinstance : X.mg "isinstance" = none) (TB : LamX.TabB X.base X.mg c P) (hcode : X.env.code = .ref c) (hq : X.env.qual = x0) (hmT : (P, x0 ++ "<lambda>") ∈ TbP.T) (hu : ∀ q ∈ TbP.T, q.1 = P → q.2 = x0 ++ "<lambda>") (hr : Room (k + 2) X.A) (hgd : X.A.guards = some []) (L : LamX.LamS X.env.scope scope) (hg : Gl X "_law_heard") (hdef : defaultsOf params X.env = ([], []))
    (hbind : ∀ (q : Str) (cl : List (Str × Addr)) (pm cv ctv : Value), bindArgs (PySem.W.kla_fn "<lambda>" q params body scope cl pm cv ctv) ⟨[], []⟩ = pure [])
    (hbody : ∀ (A : Around) (outer : List Env) (s : Shared) (H : Hp) (E : XK) (f c2 : Addr), Room k (A.deeper (LamX.lamEnv X scope s.heap.objs.size f c2)) → (A.deeper (LamX.lamEnv X scope s.heap.objs.size f c2)).guards = some [] → PE (LamX.lamCx X A outer s H E scope f c2) body (tE (gd (LamX.lamCx X A outer s H E scope f c2) (fun cls d _ H => E cls d H)) fb)) :
    PE X (.Call (.Name "_law_heard" p) [.Lambda params body scope lpos] [] pos) (tE (gd X W) (heardF CTL 2 1 CS__law_heard "is" fb)) :=
  e_heard hd rfl sc__law_heard ES rfl (Or.inl rfl) (fun f => ⟨rfl, rfl⟩) TB hcode hq hmT hu hr hgd L hg hdef hbind (fun g cdg s H hr hgd => (.cons rfl (by decide) rfl rfl (fun x a oe cls d pn hz hf => pss_one (s_retJ (j_tup (ja_cons Jx.stb (j_of e_str) (ja_cons Jx.stb (j_told ES hz hf) ja_nil))))) rfl (.cons rfl (by decide) rfl rfl (fun x a oe cls d pn hz hf => pss_one (s_retJ (j_tup (ja_cons Jx.stb (j_of e_str) (ja_cons Jx.stb (j_told ES hz hf) ja_nil))))) rfl (.cons rfl (by decide) rfl rfl (fun x a oe cls d pn hz hf => pss_one (s_retJ (j_tup (ja_cons Jx.stb (j_of e_str) (ja_cons Jx.stb (j_told ES hz hf) ja_nil))))) rfl (.cons rfl (by decide) rfl rfl (fun x a oe cls d pn hz hf => pss_one (s_retJ (j_tup (ja_cons Jx.stb (j_of e_str) (ja_cons Jx.stb (j_told ES hz hf) (ja_cons Jx.stb (j_is ES hz hf m_isinstance) ja_nil)))))) rfl .nil))))) hbody
theorem d__law_heard {P : Program} {w : World} {K : Frag} {mg : Str → Option Value} {base : Heap} (h : HereG K mg "_law_heard" S__law_heard ["_law_call"]) (m_isinstance : mg "isinstance" = none) (ES : ErrS P K mg CTL)   : DefG P w K mg base 1 "_law_heard" 1 F__law_heard :=
  h.def sc__law_heard rfl rfl fun fa cdv A outer s H E hr hgd =>
  (s_one (s_try ES rfl rfl sc__law_heard.nd (takes_of rfl rfl rfl rfl) (fun W2 pn xe tk ps => (s_one (s_ret (e_tup (a_cons e_str (a_cons e_no a_nil)))))) (.cons rfl (by decide) rfl rfl (fun x a oe cls d pn hz hf => pss_one (s_retJ (j_tup (ja_cons Jx.stb (j_of e_str) (ja_cons Jx.stb (j_told ES hz hf) ja_nil))))) rfl (.cons rfl (by decide) rfl rfl (fun x a oe cls d pn hz hf => pss_one (s_retJ (j_tup (ja_cons Jx.stb (j_of e_str) (ja_cons Jx.stb (j_told ES hz hf) ja_nil))))) rfl (.cons rfl (by decide) rfl rfl (fun x a oe cls d pn hz hf => pss_one (s_retJ (j_tup (ja_cons Jx.stb (j_of e_str) (ja_cons Jx.stb (j_told ES hz hf) ja_nil))))) rfl (.cons rfl (by decide) rfl rfl (fun x a oe cls d pn hz hf => pss_one (s_retJ (j_tup (ja_cons Jx.stb (j_of e_str) (ja_cons Jx.stb (j_told ES hz hf) (ja_cons Jx.stb (j_is ES hz hf m_isinstance) ja_nil)))))) rfl .nil))))))
/-! is_clamp -/
def B_is_clamp : SF := (seqF (asgF (nmF 0) (tgS 3 (tgsCons (tgN 2) (tgsCons (tgN 3) (tgsCons (tgN 4) tgsNil)))))
  (seqF (ifS (notT (boolF (ch3F leG leG leG (cF (.int (0))) (nmF 2) (nmF 4) (nmF 1))))
  (retF (cF (.bool false)))
  passF)
  (retF (ifE (boolF (opF eqG (nmF 2) (nmF 4))) (opF eqG (nmF 3) (cF (.int (0)))) (chF leG leG (opF subG (nmF 4) (nmF 1)) (nmF 3) (nmF 2))))))
def F_is_clamp : FD := runF 2 5 B_is_clamp
abbrev S_is_clamp : Stmt := top 42
theorem sc_is_clamp : FnScope ["value", "most", "low", "shift", "high"] ["value", "most"] (defScope S_is_clamp) := ⟨rfl, rfl, rfl, by decide +kernel, rfl, by decide +kernel, by decide +kernel⟩
theorem d_is_clamp {P : Program} {w : World} {K : Frag} {mg : Str → Option Value} {base : Heap} (h : HereG K mg "is_clamp" S_is_clamp ["value", "most"])    : DefG P w K mg base 1 "is_clamp" 2 F_is_clamp :=
  h.def sc_is_clamp rfl rfl fun fa cdv A outer s H E hr hgd =>
  (s_cons (s_asg (e_nm 0) (pg_seq rfl (pgs_cons (pg_name (i := 2) sc_is_clamp.nd rfl (by first | exact Or.inl rfl | exact Or.inr rfl)) (pgs_cons (pg_name (i := 3) sc_is_clamp.nd rfl (by first | exact Or.inl rfl | exact Or.inr rfl)) (pgs_cons (pg_name (i := 4) sc_is_clamp.nd rfl (by first | exact Or.inl rfl | exact Or.inr rfl)) pgs_nil)))) (tg_seq (tgs_cons tg_name (tgs_cons tg_name (tgs_cons tg_name tgs_nil)))))
  (s_cons (s_if (t_not (tch3 (c_le hr) (c_le hr) (c_le hr) e_int (e_nm 2) (e_nm 4) (e_nm 1)))
  (s_one (s_ret e_bl))
  s_nil)
  (s_one (s_ret (e_if (tc (c_eq hr) (e_nm 2) (e_nm 4)) (ec (c_eq hr) (e_nm 3) e_int) (ech (c_le hr) (c_le hr) (e_sub (e_nm 4) (e_nm 1)) (e_nm 3) (e_nm 2)))))))
/-! is_tuple_of -/
def B_is_tuple_of : SF := (retF (andE (isiF "tuple" (nmF 0)) (opF eqG (cbF lenG (consF (nmF 0) nilF)) (nmF 1))))
def F_is_tuple_of : FD := runF 2 2 B_is_tuple_of
abbrev S_is_tuple_of : Stmt := top 21
theorem sc_is_tuple_of : FnScope ["value", "many"] ["value", "many"] (defScope S_is_tuple_of) := ⟨rfl, rfl, rfl, by decide +kernel, rfl, by decide +kernel, by decide +kernel⟩
theorem d_is_tuple_of {P : Program} {w : World} {K : Frag} {mg : Str → Option Value} {base : Heap} (h : HereG K mg "is_tuple_of" S_is_tuple_of ["value", "many"]) (m_isinstance : mg "isinstance" = none) (m_tuple : mg "tuple" = none) (m_len : mg "len" = none)   : DefG P w K mg base 1 "is_tuple_of" 2 F_is_tuple_of :=
  h.def sc_is_tuple_of rfl rfl fun fa cdv A outer s H E hr hgd =>
  (s_one (s_ret (e_and (e_isi m_isinstance m_tuple boot_tuple' (by decide) (e_nm 0)) (e_one (ec (c_eq hr) (e_bi b_len m_len (a_cons (e_nm 0) a_nil)) (e_nm 1))))))
/-! has_gauge_form -/
def B_has_gauge_form : SF := (seqF (ifS (boolF (opF (isG false) (nmF 1) (cF .none)))
  (retF (opF eqG (opF ixG (nmF 0) (cF (.int (2)))) (cF (.str "fail"))))
  passF)
  (seqF (ifS (orT (notT (truF (callF F_is_tuple_of (consF (nmF 1) (consF (cF (.int (3))) nilF))))) (notT (truF (cbF allC (consF (lcF (itF (nmF 1)) [5] (tgN 5) yesF (callF F_is_whole (consF (nmF 5) nilF))) nilF)))))
  (retF (cF (.bool false)))
  passF)
  (seqF (ifS (boolF (opF eqG (opF ixG (nmF 0) (cF (.int (2)))) (cF (.str "stop"))))
  (retF (callF F_is_clamp (consF (nmF 1) (consF (opF ixG (nmF 0) (cF (.int (1)))) nilF))))
  passF)
  (seqF (asgF (nmF 1) (tgS 3 (tgsCons (tgN 2) (tgsCons (tgN 3) (tgsCons (tgN 4) tgsNil)))))
  (retF (andE (ch3F leG leG leG (cF (.int (0))) (nmF 2) (nmF 4) (opF ixG (nmF 0) (cF (.int (1))))) (andE (opF geG (opF addG (nmF 2) (nmF 3)) (cF (.int (0)))) (opF leG (opF addG (nmF 4) (nmF 3)) (opF ixG (nmF 0) (cF (.int (1))))))))))))
def F_has_gauge_form : FD := runF 2 6 B_has_gauge_form
abbrev S_has_gauge_form : Stmt := top 43
theorem sc_has_gauge_form : FnScope ["kind", "value", "first", "shift", "last", "number"] ["kind", "value"] (defScope S_has_gauge_form) := ⟨rfl, rfl, rfl, by decide +kernel, rfl, by decide +kernel, by decide +kernel⟩
theorem d_has_gauge_form {P : Program} {w : World} {K : Frag} {mg : Str → Option Value} {base : Heap} (h : HereG K mg "has_gauge_form" S_has_gauge_form ["kind", "value"]) (d_is_tuple_of : DefG P w K mg base 1 "is_tuple_of" 2 F_is_tuple_of) (d_is_whole : DefG P w K mg base 1 "is_whole" 1 F_is_whole) (d_is_clamp : DefG P w K mg base 1 "is_clamp" 2 F_is_clamp) (m_all : mg "all" = none)   : DefG P w K mg base 2 "has_gauge_form" 2 F_has_gauge_form :=
  h.def sc_has_gauge_form rfl rfl fun fa cdv A outer s H E hr hgd =>
  (s_cons (s_if (tc (c_is hr) (e_nm 1) e_non)
  (s_one (s_ret (ec (c_eq hr) (e_ix hr (e_nm 0) e_int) e_str)))
  s_nil)
  (s_cons (s_if (t_w (w_or (t_not (t_tru (e_cg d_is_tuple_of (hr.mono (by decide)) hgd (takes_of rfl rfl rfl rfl) (a_cons (e_nm 1) (a_cons e_int a_nil))))) (w_or1 (t_not (t_tru (e_bi (b_all rfl) m_all (a_cons (e_lc (own := [("number", 5)]) rfl sc_has_gauge_form.nd (i_it (e_nm 1)) (show BlkOk ["kind", "value", "first", "shift", "last", "number"] (defScope S_has_gauge_form) _ [("number", 5)] from ⟨rfl, by decide +kernel, by decide +kernel, by decide +kernel, by decide +kernel⟩) (tgw tg_name (by decide)) (fun s H C cl fp => ⟨(pg_name (i := 5) sc_has_gauge_form.nd rfl (by first | exact Or.inl rfl | exact Or.inr rfl)), c_nil, (e_cg d_is_whole (hr.mono (by decide)) hgd takes0 (a_cons (e_nm 5) a_nil))⟩)) a_nil)))))))
  (s_one (s_ret e_bl))
  s_nil)
  (s_cons (s_if (tc (c_eq hr) (e_ix hr (e_nm 0) e_int) e_str)
  (s_one (s_ret (e_cg d_is_clamp (hr.mono (by decide)) hgd (takes_of rfl rfl rfl rfl) (a_cons (e_nm 1) (a_cons (e_ix hr (e_nm 0) e_int) a_nil)))))
  s_nil)
  (s_cons (s_asg (e_nm 1) (pg_seq rfl (pgs_cons (pg_name (i := 2) sc_has_gauge_form.nd rfl (by first | exact Or.inl rfl | exact Or.inr rfl)) (pgs_cons (pg_name (i := 3) sc_has_gauge_form.nd rfl (by first | exact Or.inl rfl | exact Or.inr rfl)) (pgs_cons (pg_name (i := 4) sc_has_gauge_form.nd rfl (by first | exact Or.inl rfl | exact Or.inr rfl)) pgs_nil)))) (tg_seq (tgs_cons tg_name (tgs_cons tg_name (tgs_cons tg_name tgs_nil)))))
  (s_one (s_ret (e_and (ech3 (c_le hr) (c_le hr) (c_le hr) e_int (e_nm 2) (e_nm 4) (e_ix hr (e_nm 0) e_int)) (e_and (ec (c_ge hr) (e_add (e_nm 2) (e_nm 3)) e_int) (e_one (ec (c_le hr) (e_add (e_nm 4) (e_nm 3)) (e_ix hr (e_nm 0) e_int)))))))))))
/-! check_gauge_form -/
def B_check_gauge_form : SF := (seqF (exprF (callF F_check_gauge (consF (nmF 0) nilF)))
  (ifS (notT (truF (callF F_has_gauge_form (consF (nmF 0) (consF (nmF 1) nilF)))))
  (raiseF "NoForm" "told" (nmF 1))
  passF))
def F_check_gauge_form : FD := runF 2 2 B_check_gauge_form
abbrev S_check_gauge_form : Stmt := top 44
theorem sc_check_gauge_form : FnScope ["kind", "form"] ["kind", "form"] (defScope S_check_gauge_form) := ⟨rfl, rfl, rfl, by decide +kernel, rfl, by decide +kernel, by decide +kernel⟩
theorem d_check_gauge_form {P : Program} {w : World} {K : Frag} {mg : Str → Option Value} {base : Heap} (h : HereG K mg "check_gauge_form" S_check_gauge_form ["kind", "form"]) (d_check_gauge : DefG P w K mg base 4 "check_gauge" 1 F_check_gauge) (d_has_gauge_form : DefG P w K mg base 2 "has_gauge_form" 2 F_has_gauge_form) (m_super : mg "super" = none) (ES : ErrS P K mg CTL)   : DefG P w K mg base 5 "check_gauge_form" 2 F_check_gauge_form :=
  h.def sc_check_gauge_form rfl rfl fun fa cdv A outer s H E hr hgd =>
  (s_cons (s_expr (e_cg d_check_gauge (hr.mono (by decide)) hgd (takes_of rfl rfl rfl rfl) (a_cons (e_nm 0) a_nil)))
  (s_one (s_if (t_not (t_tru (e_cg d_has_gauge_form (hr.mono (by decide)) hgd (takes_of rfl rfl rfl rfl) (a_cons (e_nm 0) (a_cons (e_nm 1) a_nil)))))
  (s_one (s_raise (ES.er (j := 4) rfl) (hr.mono (by decide)) m_super rfl (takes_of rfl rfl rfl rfl) (e_nm 1)))
  s_nil)))
/-! is_word -/
def B_is_word : SF := (retF (andE (isiF "tuple" (nmF 0)) (cbF allC (consF (lcF (itF (nmF 0)) [1] (tgN 1) yesF (callF F_is_letter (consF (nmF 1) nilF))) nilF))))
def F_is_word : FD := runF 1 2 B_is_word
abbrev S_is_word : Stmt := top 24
theorem sc_is_word : FnScope ["value", "letter"] ["value"] (defScope S_is_word) := ⟨rfl, rfl, rfl, by decide +kernel, rfl, by decide +kernel, by decide +kernel⟩
theorem d_is_word {P : Program} {w : World} {K : Frag} {mg : Str → Option Value} {base : Heap} (h : HereG K mg "is_word" S_is_word ["value"]) (d_is_letter : DefG P w K mg base 1 "is_letter" 1 F_is_letter) (m_isinstance : mg "isinstance" = none) (m_tuple : mg "tuple" = none) (m_all : mg "all" = none)   : DefG P w K mg base 2 "is_word" 1 F_is_word :=
  h.def sc_is_word rfl rfl fun fa cdv A outer s H E hr hgd =>
  (s_one (s_ret (e_and (e_isi m_isinstance m_tuple boot_tuple' (by decide) (e_nm 0)) (e_one (e_bi (b_all rfl) m_all (a_cons (e_lc (own := [("letter", 1)]) rfl sc_is_word.nd (i_it (e_nm 0)) (show BlkOk ["value", "letter"] (defScope S_is_word) _ [("letter", 1)] from ⟨rfl, by decide +kernel, by decide +kernel, by decide +kernel, by decide +kernel⟩) (tgw tg_name (by decide)) (fun s H C cl fp => ⟨(pg_name (i := 1) sc_is_word.nd rfl (by first | exact Or.inl rfl | exact Or.inr rfl)), c_nil, (e_cg d_is_letter (hr.mono (by decide)) hgd takes0 (a_cons (e_nm 1) a_nil))⟩)) a_nil))))))
/-! is_short_word -/
def B_is_short_word : SF := (retF (andE (isiF "tuple" (nmF 0)) (andE (opF leG (cbF lenG (consF (nmF 0) nilF)) (cF (.int (4000)))) (callF F_is_word (consF (nmF 0) nilF)))))
def F_is_short_word : FD := runF 1 1 B_is_short_word
abbrev S_is_short_word : Stmt := top 25
theorem sc_is_short_word : FnScope ["value"] ["value"] (defScope S_is_short_word) := ⟨rfl, rfl, rfl, by decide +kernel, rfl, by decide +kernel, by decide +kernel⟩
theorem d_is_short_word {P : Program} {w : World} {K : Frag} {mg : Str → Option Value} {base : Heap} (h : HereG K mg "is_short_word" S_is_short_word ["value"]) (d_is_word : DefG P w K mg base 2 "is_word" 1 F_is_word) (g_MOST_LETTERS : GlD K mg "MOST_LETTERS" K_MOST_LETTERS) (m_isinstance : mg "isinstance" = none) (m_tuple : mg "tuple" = none) (m_len : mg "len" = none)   : DefG P w K mg base 3 "is_short_word" 1 F_is_short_word :=
  h.def sc_is_short_word rfl rfl fun fa cdv A outer s H E hr hgd =>
  (s_one (s_ret (e_and (e_isi m_isinstance m_tuple boot_tuple' (by decide) (e_nm 0)) (e_and (ec (c_le hr) (e_bi b_len m_len (a_cons (e_nm 0) a_nil)) (e_gl g_MOST_LETTERS)) (e_one (e_cg d_is_word (hr.mono (by decide)) hgd (takes_of rfl rfl rfl rfl) (a_cons (e_nm 0) a_nil)))))))
/-! are_rising -/
def B_are_rising : SF := (retF (cbF allC (consF (lcF (zipF (consF (nmF 0) (consF (slF (nmF 0) (someF (cF (.int (1)))) noneF) nilF))) [1, 2] (tgS 2 (tgsCons (tgN 1) (tgsCons (tgN 2) tgsNil))) yesF (opF ltG (nmF 1) (nmF 2))) nilF)))
def F_are_rising : FD := runF 1 3 B_are_rising
abbrev S_are_rising : Stmt := top 26
theorem sc_are_rising : FnScope ["some", "one", "other"] ["some"] (defScope S_are_rising) := ⟨rfl, rfl, rfl, by decide +kernel, rfl, by decide +kernel, by decide +kernel⟩
theorem d_are_rising {P : Program} {w : World} {K : Frag} {mg : Str → Option Value} {base : Heap} (h : HereG K mg "are_rising" S_are_rising ["some"]) (m_all : mg "all" = none) (m_zip : mg "zip" = none)   : DefG P w K mg base 1 "are_rising" 1 F_are_rising :=
  h.def sc_are_rising rfl rfl fun fa cdv A outer s H E hr hgd =>
  (s_one (s_ret (e_bi (b_all rfl) m_all (a_cons (e_lc (own := [("one", 1), ("other", 2)]) rfl sc_are_rising.nd (i_zip m_zip (a_cons (e_nm 0) (a_cons (e_sl (e_nm 0) (o_some e_int) o_none) a_nil))) (show BlkOk ["some", "one", "other"] (defScope S_are_rising) _ [("one", 1), ("other", 2)] from ⟨rfl, by decide +kernel, by decide +kernel, by decide +kernel, by decide +kernel⟩) (tgw (tg_seq (tgs_cons tg_name (tgs_cons tg_name tgs_nil))) (by decide)) (fun s H C cl fp => ⟨(pg_seq rfl (pgs_cons (pg_name (i := 1) sc_are_rising.nd rfl (by first | exact Or.inl rfl | exact Or.inr rfl)) (pgs_cons (pg_name (i := 2) sc_are_rising.nd rfl (by first | exact Or.inl rfl | exact Or.inr rfl)) pgs_nil))), c_nil, (ec (c_lt hr) (e_nm 1) (e_nm 2))⟩)) a_nil))))
/-! are_tape_pairs -/
def B_are_tape_pairs : SF := (seqF (ifS (orT (notT (truF (isiF "tuple" (nmF 0)))) (notT (truF (cbF allC (consF (lcF (itF (nmF 0)) [1] (tgN 1) yesF (callF F_is_tuple_of (consF (nmF 1) (consF (cF (.int (2))) nilF)))) nilF)))))
  (retF (cF (.bool false)))
  passF)
  (seqF (ifS (notT (truF (cbF allC (consF (lcF (itF (nmF 0)) [1] (tgN 1) yesF (andE (callF F_is_whole (consF (opF ixG (nmF 1) (cF (.int (0)))) nilF)) (callF F_is_letter (consF (opF ixG (nmF 1) (cF (.int (1)))) nilF)))) nilF))))
  (retF (cF (.bool false)))
  passF)
  (retF (callF F_are_rising (consF (lcF (itF (nmF 0)) [1] (tgN 1) yesF (opF ixG (nmF 1) (cF (.int (0))))) nilF)))))
def F_are_tape_pairs : FD := runF 1 2 B_are_tape_pairs
abbrev S_are_tape_pairs : Stmt := top 32
theorem sc_are_tape_pairs : FnScope ["value", "pair"] ["value"] (defScope S_are_tape_pairs) := ⟨rfl, rfl, rfl, by decide +kernel, rfl, by decide +kernel, by decide +kernel⟩
theorem d_are_tape_pairs {P : Program} {w : World} {K : Frag} {mg : Str → Option Value} {base : Heap} (h : HereG K mg "are_tape_pairs" S_are_tape_pairs ["value"]) (d_is_tuple_of : DefG P w K mg base 1 "is_tuple_of" 2 F_is_tuple_of) (d_is_whole : DefG P w K mg base 1 "is_whole" 1 F_is_whole) (d_is_letter : DefG P w K mg base 1 "is_letter" 1 F_is_letter) (d_are_rising : DefG P w K mg base 1 "are_rising" 1 F_are_rising) (m_isinstance : mg "isinstance" = none) (m_tuple : mg "tuple" = none) (m_all : mg "all" = none)   : DefG P w K mg base 2 "are_tape_pairs" 1 F_are_tape_pairs :=
  h.def sc_are_tape_pairs rfl rfl fun fa cdv A outer s H E hr hgd =>
  (s_cons (s_if (t_w (w_or (t_not (t_tru (e_isi m_isinstance m_tuple boot_tuple' (by decide) (e_nm 0)))) (w_or1 (t_not (t_tru (e_bi (b_all rfl) m_all (a_cons (e_lc (own := [("pair", 1)]) rfl sc_are_tape_pairs.nd (i_it (e_nm 0)) (show BlkOk ["value", "pair"] (defScope S_are_tape_pairs) _ [("pair", 1)] from ⟨rfl, by decide +kernel, by decide +kernel, by decide +kernel, by decide +kernel⟩) (tgw tg_name (by decide)) (fun s H C cl fp => ⟨(pg_name (i := 1) sc_are_tape_pairs.nd rfl (by first | exact Or.inl rfl | exact Or.inr rfl)), c_nil, (e_cg d_is_tuple_of (hr.mono (by decide)) hgd takes0 (a_cons (e_nm 1) (a_cons e_int a_nil)))⟩)) a_nil)))))))
  (s_one (s_ret e_bl))
  s_nil)
  (s_cons (s_if (t_not (t_tru (e_bi (b_all rfl) m_all (a_cons (e_lc (own := [("pair", 1)]) rfl sc_are_tape_pairs.nd (i_it (e_nm 0)) (show BlkOk ["value", "pair"] (defScope S_are_tape_pairs) _ [("pair", 1)] from ⟨rfl, by decide +kernel, by decide +kernel, by decide +kernel, by decide +kernel⟩) (tgw tg_name (by decide)) (fun s H C cl fp => ⟨(pg_name (i := 1) sc_are_tape_pairs.nd rfl (by first | exact Or.inl rfl | exact Or.inr rfl)), c_nil, (e_and (e_cg d_is_whole (hr.mono (by decide)) hgd takes0 (a_cons (e_ix hr (e_nm 1) e_int) a_nil)) (e_one (e_cg d_is_letter (hr.mono (by decide)) hgd takes0 (a_cons (e_ix hr (e_nm 1) e_int) a_nil))))⟩)) a_nil))))
  (s_one (s_ret e_bl))
  s_nil)
  (s_one (s_ret (e_cg d_are_rising (hr.mono (by decide)) hgd (takes_of rfl rfl rfl rfl) (a_cons (e_lc (own := [("pair", 1)]) rfl sc_are_tape_pairs.nd (i_it (e_nm 0)) (show BlkOk ["value", "pair"] (defScope S_are_tape_pairs) _ [("pair", 1)] from ⟨rfl, by decide +kernel, by decide +kernel, by decide +kernel, by decide +kernel⟩) (tgw tg_name (by decide)) (fun s H C cl fp => ⟨(pg_name (i := 1) sc_are_tape_pairs.nd rfl (by first | exact Or.inl rfl | exact Or.inr rfl)), c_nil, (e_ix hr (e_nm 1) e_int)⟩)) a_nil))))))
/-! is_tape -/
def B_is_tape : SF := (seqF (ifS (orT (notT (truF (callF F_is_tuple_of (consF (nmF 0) (consF (cF (.int (2))) nilF))))) (orT (notT (truF (callF F_is_letter (consF (opF ixG (nmF 0) (cF (.int (1)))) nilF)))) (notT (truF (callF F_are_tape_pairs (consF (opF ixG (nmF 0) (cF (.int (0)))) nilF))))))
  (retF (cF (.bool false)))
  passF)
  (retF (andE (opF leG (cbF lenG (consF (opF ixG (nmF 0) (cF (.int (0)))) nilF)) (cF (.int (4000)))) (cbF allC (consF (lcF (itF (opF ixG (nmF 0) (cF (.int (0))))) [1] (tgN 1) yesF (opF neG (opF ixG (nmF 1) (cF (.int (1)))) (opF ixG (nmF 0) (cF (.int (1)))))) nilF)))))
def F_is_tape : FD := runF 1 2 B_is_tape
abbrev S_is_tape : Stmt := top 33
theorem sc_is_tape : FnScope ["value", "pair"] ["value"] (defScope S_is_tape) := ⟨rfl, rfl, rfl, by decide +kernel, rfl, by decide +kernel, by decide +kernel⟩
theorem d_is_tape {P : Program} {w : World} {K : Frag} {mg : Str → Option Value} {base : Heap} (h : HereG K mg "is_tape" S_is_tape ["value"]) (d_is_tuple_of : DefG P w K mg base 1 "is_tuple_of" 2 F_is_tuple_of) (d_is_letter : DefG P w K mg base 1 "is_letter" 1 F_is_letter) (d_are_tape_pairs : DefG P w K mg base 2 "are_tape_pairs" 1 F_are_tape_pairs) (g_MOST_LETTERS : GlD K mg "MOST_LETTERS" K_MOST_LETTERS) (m_len : mg "len" = none) (m_all : mg "all" = none)   : DefG P w K mg base 3 "is_tape" 1 F_is_tape :=
  h.def sc_is_tape rfl rfl fun fa cdv A outer s H E hr hgd =>
  (s_cons (s_if (t_w (w_or (t_not (t_tru (e_cg d_is_tuple_of (hr.mono (by decide)) hgd (takes_of rfl rfl rfl rfl) (a_cons (e_nm 0) (a_cons e_int a_nil))))) (w_or (t_not (t_tru (e_cg d_is_letter (hr.mono (by decide)) hgd (takes_of rfl rfl rfl rfl) (a_cons (e_ix hr (e_nm 0) e_int) a_nil)))) (w_or1 (t_not (t_tru (e_cg d_are_tape_pairs (hr.mono (by decide)) hgd (takes_of rfl rfl rfl rfl) (a_cons (e_ix hr (e_nm 0) e_int) a_nil))))))))
  (s_one (s_ret e_bl))
  s_nil)
  (s_one (s_ret (e_and (ec (c_le hr) (e_bi b_len m_len (a_cons (e_ix hr (e_nm 0) e_int) a_nil)) (e_gl g_MOST_LETTERS)) (e_one (e_bi (b_all rfl) m_all (a_cons (e_lc (own := [("pair", 1)]) rfl sc_is_tape.nd (i_it (e_ix hr (e_nm 0) e_int)) (show BlkOk ["value", "pair"] (defScope S_is_tape) _ [("pair", 1)] from ⟨rfl, by decide +kernel, by decide +kernel, by decide +kernel, by decide +kernel⟩) (tgw tg_name (by decide)) (fun s H C cl fp => ⟨(pg_name (i := 1) sc_is_tape.nd rfl (by first | exact Or.inl rfl | exact Or.inr rfl)), c_nil, (ec (c_ne hr) (e_ix hr (e_nm 1) e_int) (e_ix hr (e_nm 0) e_int))⟩)) a_nil)))))))
/-! is_heap -/
def B_is_heap : SF := (seqF (ifS (orT (notT (truF (isiF "tuple" (nmF 0)))) (boolF (opF gtG (cbF lenG (consF (nmF 0) nilF)) (cF (.int (4000))))))
  (retF (cF (.bool false)))
  passF)
  (seqF (ifS (notT (truF (cbF allC (consF (lcF (itF (nmF 0)) [1] (tgN 1) yesF (callF F_is_number (consF (nmF 1) (consF (unF negG (cF (.int (1000)))) (consF (cF (.int (1000))) nilF))))) nilF))))
  (retF (cF (.bool false)))
  passF)
  (retF (cbF allC (consF (lcF (zipF (consF (nmF 0) (consF (slF (nmF 0) (someF (cF (.int (1)))) noneF) nilF))) [2, 3] (tgS 2 (tgsCons (tgN 2) (tgsCons (tgN 3) tgsNil))) yesF (opF leG (nmF 2) (nmF 3))) nilF)))))
def F_is_heap : FD := runF 1 4 B_is_heap
abbrev S_is_heap : Stmt := top 34
theorem sc_is_heap : FnScope ["value", "number", "one", "other"] ["value"] (defScope S_is_heap) := ⟨rfl, rfl, rfl, by decide +kernel, rfl, by decide +kernel, by decide +kernel⟩
theorem d_is_heap {P : Program} {w : World} {K : Frag} {mg : Str → Option Value} {base : Heap} (h : HereG K mg "is_heap" S_is_heap ["value"]) (d_is_number : DefG P w K mg base 2 "is_number" 3 F_is_number) (g_MOST_LETTERS : GlD K mg "MOST_LETTERS" K_MOST_LETTERS) (g_MOST_IN_HEAP : GlD K mg "MOST_IN_HEAP" K_MOST_IN_HEAP) (m_isinstance : mg "isinstance" = none) (m_tuple : mg "tuple" = none) (m_len : mg "len" = none) (m_all : mg "all" = none) (m_zip : mg "zip" = none)   : DefG P w K mg base 3 "is_heap" 1 F_is_heap :=
  h.def sc_is_heap rfl rfl fun fa cdv A outer s H E hr hgd =>
  (s_cons (s_if (t_w (w_or (t_not (t_tru (e_isi m_isinstance m_tuple boot_tuple' (by decide) (e_nm 0)))) (w_or1 (tc (c_gt hr) (e_bi b_len m_len (a_cons (e_nm 0) a_nil)) (e_gl g_MOST_LETTERS)))))
  (s_one (s_ret e_bl))
  s_nil)
  (s_cons (s_if (t_not (t_tru (e_bi (b_all rfl) m_all (a_cons (e_lc (own := [("number", 1)]) rfl sc_is_heap.nd (i_it (e_nm 0)) (show BlkOk ["value", "number", "one", "other"] (defScope S_is_heap) _ [("number", 1)] from ⟨rfl, by decide +kernel, by decide +kernel, by decide +kernel, by decide +kernel⟩) (tgw tg_name (by decide)) (fun s H C cl fp => ⟨(pg_name (i := 1) sc_is_heap.nd rfl (by first | exact Or.inl rfl | exact Or.inr rfl)), c_nil, (e_cg d_is_number (hr.mono (by decide)) hgd takes0 (a_cons (e_nm 1) (a_cons (e_neg (e_gl g_MOST_IN_HEAP)) (a_cons (e_gl g_MOST_IN_HEAP) a_nil))))⟩)) a_nil))))
  (s_one (s_ret e_bl))
  s_nil)
  (s_one (s_ret (e_bi (b_all rfl) m_all (a_cons (e_lc (own := [("one", 2), ("other", 3)]) rfl sc_is_heap.nd (i_zip m_zip (a_cons (e_nm 0) (a_cons (e_sl (e_nm 0) (o_some e_int) o_none) a_nil))) (show BlkOk ["value", "number", "one", "other"] (defScope S_is_heap) _ [("one", 2), ("other", 3)] from ⟨rfl, by decide +kernel, by decide +kernel, by decide +kernel, by decide +kernel⟩) (tgw (tg_seq (tgs_cons tg_name (tgs_cons tg_name tgs_nil))) (by decide)) (fun s H C cl fp => ⟨(pg_seq rfl (pgs_cons (pg_name (i := 2) sc_is_heap.nd rfl (by first | exact Or.inl rfl | exact Or.inr rfl)) (pgs_cons (pg_name (i := 3) sc_is_heap.nd rfl (by first | exact Or.inl rfl | exact Or.inr rfl)) pgs_nil))), c_nil, (ec (c_le hr) (e_nm 2) (e_nm 3))⟩)) a_nil))))))
/-! is_table_told -/
def B_is_table_told : SF := (seqF (ifS (orT (notT (truF (isiF "tuple" (nmF 0)))) (boolF (opF gtG (cbF lenG (consF (nmF 0) nilF)) (cF (.int (4000))))))
  (retF (cF (.bool false)))
  passF)
  (seqF (ifS (notT (truF (cbF allC (consF (lcF (itF (nmF 0)) [1] (tgN 1) yesF (andE (callF F_is_tuple_of (consF (nmF 1) (consF (cF (.int (2))) nilF))) (andE (callF F_is_letter (consF (opF ixG (nmF 1) (cF (.int (0)))) nilF)) (callF F_is_letter (consF (opF ixG (nmF 1) (cF (.int (1)))) nilF))))) nilF))))
  (retF (cF (.bool false)))
  passF)
  (retF (callF F_are_rising (consF (lcF (itF (nmF 0)) [1] (tgN 1) yesF (opF ixG (nmF 1) (cF (.int (0))))) nilF)))))
def F_is_table_told : FD := runF 1 2 B_is_table_told
abbrev S_is_table_told : Stmt := top 35
theorem sc_is_table_told : FnScope ["value", "pair"] ["value"] (defScope S_is_table_told) := ⟨rfl, rfl, rfl, by decide +kernel, rfl, by decide +kernel, by decide +kernel⟩
theorem d_is_table_told {P : Program} {w : World} {K : Frag} {mg : Str → Option Value} {base : Heap} (h : HereG K mg "is_table_told" S_is_table_told ["value"]) (d_is_tuple_of : DefG P w K mg base 1 "is_tuple_of" 2 F_is_tuple_of) (d_is_letter : DefG P w K mg base 1 "is_letter" 1 F_is_letter) (d_are_rising : DefG P w K mg base 1 "are_rising" 1 F_are_rising) (g_MOST_LETTERS : GlD K mg "MOST_LETTERS" K_MOST_LETTERS) (m_isinstance : mg "isinstance" = none) (m_tuple : mg "tuple" = none) (m_len : mg "len" = none) (m_all : mg "all" = none)   : DefG P w K mg base 2 "is_table_told" 1 F_is_table_told :=
  h.def sc_is_table_told rfl rfl fun fa cdv A outer s H E hr hgd =>
  (s_cons (s_if (t_w (w_or (t_not (t_tru (e_isi m_isinstance m_tuple boot_tuple' (by decide) (e_nm 0)))) (w_or1 (tc (c_gt hr) (e_bi b_len m_len (a_cons (e_nm 0) a_nil)) (e_gl g_MOST_LETTERS)))))
  (s_one (s_ret e_bl))
  s_nil)
  (s_cons (s_if (t_not (t_tru (e_bi (b_all rfl) m_all (a_cons (e_lc (own := [("pair", 1)]) rfl sc_is_table_told.nd (i_it (e_nm 0)) (show BlkOk ["value", "pair"] (defScope S_is_table_told) _ [("pair", 1)] from ⟨rfl, by decide +kernel, by decide +kernel, by decide +kernel, by decide +kernel⟩) (tgw tg_name (by decide)) (fun s H C cl fp => ⟨(pg_name (i := 1) sc_is_table_told.nd rfl (by first | exact Or.inl rfl | exact Or.inr rfl)), c_nil, (e_and (e_cg d_is_tuple_of (hr.mono (by decide)) hgd takes0 (a_cons (e_nm 1) (a_cons e_int a_nil))) (e_and (e_cg d_is_letter (hr.mono (by decide)) hgd takes0 (a_cons (e_ix hr (e_nm 1) e_int) a_nil)) (e_one (e_cg d_is_letter (hr.mono (by decide)) hgd takes0 (a_cons (e_ix hr (e_nm 1) e_int) a_nil)))))⟩)) a_nil))))
  (s_one (s_ret e_bl))
  s_nil)
  (s_one (s_ret (e_cg d_are_rising (hr.mono (by decide)) hgd (takes_of rfl rfl rfl rfl) (a_cons (e_lc (own := [("pair", 1)]) rfl sc_is_table_told.nd (i_it (e_nm 0)) (show BlkOk ["value", "pair"] (defScope S_is_table_told) _ [("pair", 1)] from ⟨rfl, by decide +kernel, by decide +kernel, by decide +kernel, by decide +kernel⟩) (tgw tg_name (by decide)) (fun s H C cl fp => ⟨(pg_name (i := 1) sc_is_table_told.nd rfl (by first | exact Or.inl rfl | exact Or.inr rfl)), c_nil, (e_ix hr (e_nm 1) e_int)⟩)) a_nil))))))
/-! has_contents_form -/
def B_has_contents_form : SF := (seqF (ifS (boolF (opF (inG false) (opF ixG (nmF 0) (cF (.int (0)))) (tupF (consF (cF (.str "stack")) (consF (cF (.str "queue")) nilF)))))
  (retF (callF F_is_short_word (consF (nmF 1) nilF)))
  passF)
  (seqF (ifS (boolF (opF eqG (opF ixG (nmF 0) (cF (.int (0)))) (cF (.str "ring"))))
  (retF (andE (callF F_is_short_word (consF (nmF 1) nilF)) (opF leG (cbF lenG (consF (nmF 1) nilF)) (opF ixG (nmF 0) (cF (.int (1)))))))
  passF)
  (seqF (ifS (boolF (opF eqG (opF ixG (nmF 0) (cF (.int (0)))) (cF (.str "tape"))))
  (retF (callF F_is_tape (consF (nmF 1) nilF)))
  passF)
  (seqF (ifS (boolF (opF eqG (opF ixG (nmF 0) (cF (.int (0)))) (cF (.str "heap"))))
  (retF (callF F_is_heap (consF (nmF 1) nilF)))
  passF)
  (retF (ifE (boolF (opF eqG (opF ixG (nmF 0) (cF (.int (0)))) (cF (.str "gauge")))) (callF F_is_number (consF (nmF 1) (consF (cF (.int (0))) (consF (opF ixG (nmF 0) (cF (.int (1)))) nilF)))) (callF F_is_table_told (consF (nmF 1) nilF))))))))
def F_has_contents_form : FD := runF 2 2 B_has_contents_form
abbrev S_has_contents_form : Stmt := top 36
theorem sc_has_contents_form : FnScope ["kind", "value"] ["kind", "value"] (defScope S_has_contents_form) := ⟨rfl, rfl, rfl, by decide +kernel, rfl, by decide +kernel, by decide +kernel⟩
theorem d_has_contents_form {P : Program} {w : World} {K : Frag} {mg : Str → Option Value} {base : Heap} (h : HereG K mg "has_contents_form" S_has_contents_form ["kind", "value"]) (d_is_short_word : DefG P w K mg base 3 "is_short_word" 1 F_is_short_word) (d_is_tape : DefG P w K mg base 3 "is_tape" 1 F_is_tape) (d_is_heap : DefG P w K mg base 3 "is_heap" 1 F_is_heap) (d_is_number : DefG P w K mg base 2 "is_number" 3 F_is_number) (d_is_table_told : DefG P w K mg base 2 "is_table_told" 1 F_is_table_told) (m_len : mg "len" = none)   : DefG P w K mg base 4 "has_contents_form" 2 F_has_contents_form :=
  h.def sc_has_contents_form rfl rfl fun fa cdv A outer s H E hr hgd =>
  (s_cons (s_if (tc (c_in hr) (e_ix hr (e_nm 0) e_int) (e_tup (a_cons e_str (a_cons e_str a_nil))))
  (s_one (s_ret (e_cg d_is_short_word (hr.mono (by decide)) hgd (takes_of rfl rfl rfl rfl) (a_cons (e_nm 1) a_nil))))
  s_nil)
  (s_cons (s_if (tc (c_eq hr) (e_ix hr (e_nm 0) e_int) e_str)
  (s_one (s_ret (e_and (e_cg d_is_short_word (hr.mono (by decide)) hgd (takes_of rfl rfl rfl rfl) (a_cons (e_nm 1) a_nil)) (e_one (ec (c_le hr) (e_bi b_len m_len (a_cons (e_nm 1) a_nil)) (e_ix hr (e_nm 0) e_int))))))
  s_nil)
  (s_cons (s_if (tc (c_eq hr) (e_ix hr (e_nm 0) e_int) e_str)
  (s_one (s_ret (e_cg d_is_tape (hr.mono (by decide)) hgd (takes_of rfl rfl rfl rfl) (a_cons (e_nm 1) a_nil))))
  s_nil)
  (s_cons (s_if (tc (c_eq hr) (e_ix hr (e_nm 0) e_int) e_str)
  (s_one (s_ret (e_cg d_is_heap (hr.mono (by decide)) hgd (takes_of rfl rfl rfl rfl) (a_cons (e_nm 1) a_nil))))
  s_nil)
  (s_one (s_ret (e_if (tc (c_eq hr) (e_ix hr (e_nm 0) e_int) e_str) (e_cg d_is_number (hr.mono (by decide)) hgd (takes_of rfl rfl rfl rfl) (a_cons (e_nm 1) (a_cons e_int (a_cons (e_ix hr (e_nm 0) e_int) a_nil)))) (e_cg d_is_table_told (hr.mono (by decide)) hgd (takes_of rfl rfl rfl rfl) (a_cons (e_nm 1) a_nil)))))))))
/-! check_contents -/
def B_check_contents : SF := (ifS (notT (truF (callF F_has_contents_form (consF (nmF 0) (consF (nmF 1) nilF)))))
  (raiseF "NoContents" "told" (nmF 1))
  passF)
def F_check_contents : FD := runF 2 2 B_check_contents
abbrev S_check_contents : Stmt := top 37
theorem sc_check_contents : FnScope ["kind", "contents"] ["kind", "contents"] (defScope S_check_contents) := ⟨rfl, rfl, rfl, by decide +kernel, rfl, by decide +kernel, by decide +kernel⟩
theorem d_check_contents {P : Program} {w : World} {K : Frag} {mg : Str → Option Value} {base : Heap} (h : HereG K mg "check_contents" S_check_contents ["kind", "contents"]) (d_has_contents_form : DefG P w K mg base 4 "has_contents_form" 2 F_has_contents_form) (m_super : mg "super" = none) (ES : ErrS P K mg CTL)   : DefG P w K mg base 5 "check_contents" 2 F_check_contents :=
  h.def sc_check_contents rfl rfl fun fa cdv A outer s H E hr hgd =>
  (s_one (s_if (t_not (t_tru (e_cg d_has_contents_form (hr.mono (by decide)) hgd (takes_of rfl rfl rfl rfl) (a_cons (e_nm 0) (a_cons (e_nm 1) a_nil)))))
  (s_one (s_raise (ES.er (j := 3) rfl) (hr.mono (by decide)) m_super rfl (takes_of rfl rfl rfl rfl) (e_nm 1)))
  s_nil))
/-! check_gauge_contents -/
def B_check_gauge_contents : SF := (seqF (exprF (callF F_check_gauge_form (consF (nmF 0) (consF (nmF 1) nilF))))
  (exprF (callF F_check_contents (consF (nmF 0) (consF (nmF 2) nilF)))))
def F_check_gauge_contents : FD := runF 3 3 B_check_gauge_contents
abbrev S_check_gauge_contents : Stmt := top 53
theorem sc_check_gauge_contents : FnScope ["kind", "form", "contents"] ["kind", "form", "contents"] (defScope S_check_gauge_contents) := ⟨rfl, rfl, rfl, by decide +kernel, rfl, by decide +kernel, by decide +kernel⟩
theorem d_check_gauge_contents {P : Program} {w : World} {K : Frag} {mg : Str → Option Value} {base : Heap} (h : HereG K mg "check_gauge_contents" S_check_gauge_contents ["kind", "form", "contents"]) (d_check_gauge_form : DefG P w K mg base 5 "check_gauge_form" 2 F_check_gauge_form) (d_check_contents : DefG P w K mg base 5 "check_contents" 2 F_check_contents)   : DefG P w K mg base 6 "check_gauge_contents" 3 F_check_gauge_contents :=
  h.def sc_check_gauge_contents rfl rfl fun fa cdv A outer s H E hr hgd =>
  (s_cons (s_expr (e_cg d_check_gauge_form (hr.mono (by decide)) hgd (takes_of rfl rfl rfl rfl) (a_cons (e_nm 0) (a_cons (e_nm 1) a_nil))))
  (s_one (s_expr (e_cg d_check_contents (hr.mono (by decide)) hgd (takes_of rfl rfl rfl rfl) (a_cons (e_nm 0) (a_cons (e_nm 2) a_nil))))))
/-! bears -/
def B_bears : SF := (retF (orE (opF eqG (opF ixG (nmF 0) (cF (.int (2)))) (cF (.str "stop"))) (andE (opF (isG true) (nmF 1) (cF .none)) (chF leG leG (opF ixG (nmF 1) (cF (.int (0)))) (nmF 2) (opF ixG (nmF 1) (cF (.int (2))))))))
def F_bears : FD := runF 3 3 B_bears
abbrev S_bears : Stmt := top 52
theorem sc_bears : FnScope ["kind", "form", "contents"] ["kind", "form", "contents"] (defScope S_bears) := ⟨rfl, rfl, rfl, by decide +kernel, rfl, by decide +kernel, by decide +kernel⟩
theorem d_bears {P : Program} {w : World} {K : Frag} {mg : Str → Option Value} {base : Heap} (h : HereG K mg "bears" S_bears ["kind", "form", "contents"])    : DefG P w K mg base 1 "bears" 3 F_bears :=
  h.def sc_bears rfl rfl fun fa cdv A outer s H E hr hgd =>
  (s_one (s_ret (e_or (ec (c_eq hr) (e_ix hr (e_nm 0) e_int) e_str) (e_one (e_and (ec (c_isn hr) (e_nm 1) e_non) (e_one (ech (c_le hr) (c_le hr) (e_ix hr (e_nm 1) e_int) (e_nm 2) (e_ix hr (e_nm 1) e_int))))))))
/-! gauge_works -/
def B_gauge_works : SF := (seqF (exprF (callF F_check_gauge_contents (consF (nmF 0) (consF (nmF 1) (consF (nmF 2) nilF)))))
  (retF (callF F_bears (consF (nmF 0) (consF (nmF 1) (consF (nmF 2) nilF))))))
def F_gauge_works : FD := runF 3 3 B_gauge_works
abbrev S_gauge_works : Stmt := top 54
theorem sc_gauge_works : FnScope ["kind", "form", "contents"] ["kind", "form", "contents"] (defScope S_gauge_works) := ⟨rfl, rfl, rfl, by decide +kernel, rfl, by decide +kernel, by decide +kernel⟩
theorem d_gauge_works {P : Program} {w : World} {K : Frag} {mg : Str → Option Value} {base : Heap} (h : HereG K mg "gauge_works" S_gauge_works ["kind", "form", "contents"]) (d_check_gauge_contents : DefG P w K mg base 6 "check_gauge_contents" 3 F_check_gauge_contents) (d_bears : DefG P w K mg base 1 "bears" 3 F_bears)   : DefG P w K mg base 7 "gauge_works" 3 F_gauge_works :=
  h.def sc_gauge_works rfl rfl fun fa cdv A outer s H E hr hgd =>
  (s_cons (s_expr (e_cg d_check_gauge_contents (hr.mono (by decide)) hgd (takes_of rfl rfl rfl rfl) (a_cons (e_nm 0) (a_cons (e_nm 1) (a_cons (e_nm 2) a_nil)))))
  (s_one (s_ret (e_cg d_bears (hr.mono (by decide)) hgd (takes_of rfl rfl rfl rfl) (a_cons (e_nm 0) (a_cons (e_nm 1) (a_cons (e_nm 2) a_nil)))))))
/-! gauge_left -/
def B_gauge_left : SF := (seqF (exprF (callF F_check_gauge_contents (consF (nmF 0) (consF (nmF 1) (consF (nmF 2) nilF)))))
  (seqF (ifS (notT (truF (callF F_bears (consF (nmF 0) (consF (nmF 1) (consF (nmF 2) nilF))))))
  (retF (cF .none))
  passF)
  (retF (ifE (boolF (opF eqG (opF ixG (nmF 0) (cF (.int (2)))) (cF (.str "stop")))) (callF F_clamped (consF (nmF 1) (consF (nmF 2) nilF))) (opF addG (nmF 2) (opF ixG (nmF 1) (cF (.int (1)))))))))
def F_gauge_left : FD := runF 3 3 B_gauge_left
abbrev S_gauge_left : Stmt := top 55
theorem sc_gauge_left : FnScope ["kind", "form", "contents"] ["kind", "form", "contents"] (defScope S_gauge_left) := ⟨rfl, rfl, rfl, by decide +kernel, rfl, by decide +kernel, by decide +kernel⟩
theorem d_gauge_left {P : Program} {w : World} {K : Frag} {mg : Str → Option Value} {base : Heap} (h : HereG K mg "gauge_left" S_gauge_left ["kind", "form", "contents"]) (d_check_gauge_contents : DefG P w K mg base 6 "check_gauge_contents" 3 F_check_gauge_contents) (d_bears : DefG P w K mg base 1 "bears" 3 F_bears) (d_clamped : DefG P w K mg base 1 "clamped" 2 F_clamped)   : DefG P w K mg base 7 "gauge_left" 3 F_gauge_left :=
  h.def sc_gauge_left rfl rfl fun fa cdv A outer s H E hr hgd =>
  (s_cons (s_expr (e_cg d_check_gauge_contents (hr.mono (by decide)) hgd (takes_of rfl rfl rfl rfl) (a_cons (e_nm 0) (a_cons (e_nm 1) (a_cons (e_nm 2) a_nil)))))
  (s_cons (s_if (t_not (t_tru (e_cg d_bears (hr.mono (by decide)) hgd (takes_of rfl rfl rfl rfl) (a_cons (e_nm 0) (a_cons (e_nm 1) (a_cons (e_nm 2) a_nil))))))
  (s_one (s_ret e_non))
  s_nil)
  (s_one (s_ret (e_if (tc (c_eq hr) (e_ix hr (e_nm 0) e_int) e_str) (e_cg d_clamped (hr.mono (by decide)) hgd (takes_of rfl rfl rfl rfl) (a_cons (e_nm 1) (a_cons (e_nm 2) a_nil))) (e_add (e_nm 2) (e_ix hr (e_nm 1) e_int)))))))
/-! _law_called -/
def B__law_called : SF := (retF (ifE (boolF (opF eqG (nmF 0) (cF (.int (0))))) (callF F_gauge_works (consF (nmF 1) (consF (nmF 2) (consF (nmF 3) nilF)))) (callF F_gauge_left (consF (nmF 1) (consF (nmF 2) (consF (nmF 3) nilF))))))
def F__law_called : FD := runF 4 4 B__law_called
abbrev S__law_called : Stmt := top 70
theorem sc__law_called : FnScope ["_law_way", "_law_kind", "_law_form", "_law_box"] ["_law_way", "_law_kind", "_law_form", "_law_box"] (defScope S__law_called) := ⟨rfl, rfl, rfl, by decide +kernel, rfl, by decide +kernel, by decide +kernel⟩
theorem d__law_called {P : Program} {w : World} {K : Frag} {mg : Str → Option Value} {base : Heap} (h : HereG K mg "_law_called" S__law_called ["_law_way", "_law_kind", "_law_form", "_law_box"]) (d_gauge_works : DefG P w K mg base 7 "gauge_works" 3 F_gauge_works) (d_gauge_left : DefG P w K mg base 7 "gauge_left" 3 F_gauge_left)   : DefG P w K mg base 8 "_law_called" 4 F__law_called :=
  h.def sc__law_called rfl rfl fun fa cdv A outer s H E hr hgd =>
  (s_one (s_ret (e_if (tc (c_eq hr) (e_nm 0) e_int) (e_cg d_gauge_works (hr.mono (by decide)) hgd (takes_of rfl rfl rfl rfl) (a_cons (e_nm 1) (a_cons (e_nm 2) (a_cons (e_nm 3) a_nil)))) (e_cg d_gauge_left (hr.mono (by decide)) hgd (takes_of rfl rfl rfl rfl) (a_cons (e_nm 1) (a_cons (e_nm 2) (a_cons (e_nm 3) a_nil)))))))
/-! _law_refusals -/
def B__law_refusals : SF := (seqF (setF 3 (callF F__law_one (consF (nmF 0) (consF (lstF (consF (cF .none) (consF (tupF (consF (cF (.str "gauge")) (consF (cF (.int (0))) (consF (cF (.str "stop")) nilF)))) (consF (tupF (consF (cF (.str "gauge")) (consF (cF (.int (5))) (consF (cF (.str "drop")) nilF)))) (consF (tupF (consF (cF (.str "ring")) (consF (cF (.int (5))) (consF (cF (.str "fail")) nilF)))) (consF (lstF (consF (cF (.str "gauge")) (consF (cF (.int (5))) (consF (cF (.str "stop")) nilF)))) (consF (tupF (consF (cF (.str "gauge")) (consF (cF (.int (1000))) (consF (cF (.str "fail")) nilF)))) (consF (tupF (consF (cF (.str "gauge")) (consF (cF (.bool true)) (consF (cF (.str "stop")) nilF)))) (consF (tupF (consF (cF (.str "heap")) nilF)) nilF))))))))) nilF))))
  (seqF (setF 4 (callF F__law_one (consF (nmF 0) (consF (lstF (consF (cF .none) (consF (lstF (consF (tupF (consF (cF (.str "add")) (consF (cF (.int (1))) nilF))) nilF)) (consF (tupF (consF (tupF (consF (cF (.str "add")) (consF (cF (.int (0))) nilF))) nilF)) (consF (tupF (consF (tupF (consF (cF (.str "add")) (consF (opF addG (opF ixG (nmF 1) (cF (.int (1)))) (cF (.int (1)))) nilF))) nilF)) (consF (tupF (consF (tupF (consF (cF (.str "put")) (consF (cF (.str "a")) nilF))) nilF)) (consF (tupF (consF (cF (.str "add")) (consF (cF (.int (1))) nilF))) (consF (tupF (consF (tupF (consF (cF (.str "sub")) (consF (cF (.bool true)) nilF))) nilF)) (consF (mulX3 (tupF (consF (tupF (consF (cF (.str "add")) (consF (cF (.int (1))) nilF))) nilF)) (cF (.int (61)))) nilF))))))))) nilF))))
  (seqF (setF 5 (callF F__law_one (consF (nmF 0) (consF (lstF (consF (tupF (consF (cF (.int (0))) (consF (cF (.int (0))) nilF))) (consF (lstF (consF (cF (.int (0))) (consF (cF (.int (0))) (consF (cF (.int (0))) nilF)))) (consF (tupF (consF (cF (.int (0))) (consF (cF (.int (0))) (consF (opF addG (opF ixG (nmF 1) (cF (.int (1)))) (cF (.int (1)))) nilF)))) (consF (tupF (consF (unF negG (cF (.int (1)))) (consF (cF (.int (0))) (consF (cF (.int (0))) nilF)))) (consF (tupF (consF (cF (.int (1))) (consF (cF (.int (0))) (consF (cF (.int (0))) nilF)))) (consF (tupF (consF (cF (.int (0))) (consF (cF (.bool true)) (consF (opF ixG (nmF 1) (cF (.int (1)))) nilF)))) (consF (cF (.str "form")) nilF)))))))) nilF))))
  (seqF (setF 6 (callF F__law_one (consF (nmF 0) (consF (lstF (consF (cF .none) (consF (unF negG (cF (.int (1)))) (consF (opF addG (opF ixG (nmF 1) (cF (.int (1)))) (cF (.int (1)))) (consF (cF (.bool true)) (consF (tupF (consF (cF (.int (1))) nilF)) nilF)))))) nilF))))
  (seqF (ifS (boolF (opF neG (heardF CTL 2 1 CS__law_heard "is" (callF F_gauge_form (consF (nmF 3) (consF (nmF 4) nilF)))) (tupF (consF (cF (.str "kind")) (consF (nmF 3) nilF)))))
  (retF (cF (.bool false)))
  passF)
  (seqF (ifS (boolF (opF neG (heardF CTL 2 1 CS__law_heard "is" (callF F_gauge_form (consF (nmF 1) (consF (nmF 4) nilF)))) (tupF (consF (cF (.str "row")) (consF (nmF 4) nilF)))))
  (retF (cF (.bool false)))
  passF)
  (seqF (forF (rngF (consF (cF (.int (2))) nilF)) (tgN 7)
  (seqF (ifS (boolF (opF neG (heardF CTL 2 1 CS__law_heard "is" (callF F__law_called (consF (nmF 7) (consF (nmF 3) (consF (nmF 5) (consF (nmF 6) nilF)))))) (tupF (consF (cF (.str "kind")) (consF (nmF 3) nilF)))))
  (retF (cF (.bool false)))
  passF)
  (seqF (ifS (boolF (opF neG (heardF CTL 2 1 CS__law_heard "is" (callF F__law_called (consF (nmF 7) (consF (nmF 1) (consF (nmF 5) (consF (nmF 6) nilF)))))) (tupF (consF (cF (.str "form")) (consF (nmF 5) nilF)))))
  (retF (cF (.bool false)))
  passF)
  (ifS (boolF (opF neG (heardF CTL 2 1 CS__law_heard "is" (callF F__law_called (consF (nmF 7) (consF (nmF 1) (consF (nmF 2) (consF (nmF 6) nilF)))))) (tupF (consF (cF (.str "box")) (consF (nmF 6) (consF (cF (.bool true)) nilF))))))
  (retF (cF (.bool false)))
  passF))))
  (retF (cF (.bool true))))))))))
def F__law_refusals : FD := runF 3 8 B__law_refusals
abbrev S__law_refusals : Stmt := top 71
theorem sc__law_refusals : FnScope ["_law_source", "_law_kind", "_law_form", "_law_odd", "_law_row", "_law_bad", "_law_none", "_law_way"] ["_law_source", "_law_kind", "_law_form"] (defScope S__law_refusals) := ⟨rfl, rfl, rfl, by decide +kernel, rfl, by decide +kernel, by decide +kernel⟩
theorem d__law_refusals {P : Program} {w : World} {K : Frag} {mg : Str → Option Value} {base : Heap} (h : HereG K mg "_law_refusals" S__law_refusals ["_law_source", "_law_kind", "_law_form"]) (d__law_one : DefG P w K mg base 2 "_law_one" 2 F__law_one) (d_gauge_form : DefG P w K mg base 7 "gauge_form" 2 F_gauge_form) (d__law_called : DefG P w K mg base 8 "_law_called" 4 F__law_called) (m_isinstance : mg "isinstance" = none) (m_range : mg "range" = none) (ES : ErrS P K mg CTL) (hh__law_heard : HereG K mg "_law_heard" S__law_heard ["_law_call"]) (lamd : LamD K mg base "_law_refusals")   : DefG P w K mg base 11 "_law_refusals" 3 F__law_refusals :=
  h.defC sc__law_refusals rfl rfl fun fa cdv hmf hcdv A outer s H E hr hgd =>
  (s_cons (s_set 3 sc__law_refusals.nd (e_cg d__law_one (hr.mono (by decide)) hgd (takes_of rfl rfl rfl rfl) (a_cons (e_nm 0) (a_cons (e_lst (a_cons e_non (a_cons (e_tup (a_cons e_str (a_cons e_int (a_cons e_str a_nil)))) (a_cons (e_tup (a_cons e_str (a_cons e_int (a_cons e_str a_nil)))) (a_cons (e_tup (a_cons e_str (a_cons e_int (a_cons e_str a_nil)))) (a_cons (e_lst (a_cons e_str (a_cons e_int (a_cons e_str a_nil)))) (a_cons (e_tup (a_cons e_str (a_cons e_int (a_cons e_str a_nil)))) (a_cons (e_tup (a_cons e_str (a_cons e_bl (a_cons e_str a_nil)))) (a_cons (e_tup (a_cons e_str a_nil)) a_nil))))))))) a_nil))))
  (s_cons (s_set 4 sc__law_refusals.nd (e_cg d__law_one (hr.mono (by decide)) hgd (takes_of rfl rfl rfl rfl) (a_cons (e_nm 0) (a_cons (e_lst (a_cons e_non (a_cons (e_lst (a_cons (e_tup (a_cons e_str (a_cons e_int a_nil))) a_nil)) (a_cons (e_tup (a_cons (e_tup (a_cons e_str (a_cons e_int a_nil))) a_nil)) (a_cons (e_tup (a_cons (e_tup (a_cons e_str (a_cons (e_add (e_ix hr (e_nm 1) e_int) e_int) a_nil))) a_nil)) (a_cons (e_tup (a_cons (e_tup (a_cons e_str (a_cons e_str a_nil))) a_nil)) (a_cons (e_tup (a_cons e_str (a_cons e_int a_nil))) (a_cons (e_tup (a_cons (e_tup (a_cons e_str (a_cons e_bl a_nil))) a_nil)) (a_cons (e_mulX3 (e_tup (a_cons (e_tup (a_cons e_str (a_cons e_int a_nil))) a_nil)) e_int) a_nil))))))))) a_nil))))
  (s_cons (s_set 5 sc__law_refusals.nd (e_cg d__law_one (hr.mono (by decide)) hgd (takes_of rfl rfl rfl rfl) (a_cons (e_nm 0) (a_cons (e_lst (a_cons (e_tup (a_cons e_int (a_cons e_int a_nil))) (a_cons (e_lst (a_cons e_int (a_cons e_int (a_cons e_int a_nil)))) (a_cons (e_tup (a_cons e_int (a_cons e_int (a_cons (e_add (e_ix hr (e_nm 1) e_int) e_int) a_nil)))) (a_cons (e_tup (a_cons (e_neg e_int) (a_cons e_int (a_cons e_int a_nil)))) (a_cons (e_tup (a_cons e_int (a_cons e_int (a_cons e_int a_nil)))) (a_cons (e_tup (a_cons e_int (a_cons e_bl (a_cons (e_ix hr (e_nm 1) e_int) a_nil)))) (a_cons e_str a_nil)))))))) a_nil))))
  (s_cons (s_set 6 sc__law_refusals.nd (e_cg d__law_one (hr.mono (by decide)) hgd (takes_of rfl rfl rfl rfl) (a_cons (e_nm 0) (a_cons (e_lst (a_cons e_non (a_cons (e_neg e_int) (a_cons (e_add (e_ix hr (e_nm 1) e_int) e_int) (a_cons e_bl (a_cons (e_tup (a_cons e_int a_nil)) a_nil)))))) a_nil))))
  (s_cons (s_if (tc (c_ne hr) (eh__law_heard (k := 8) hh__law_heard ES m_isinstance lamd.tb (lamd.cdv _ _ hmf hcdv) rfl lamd.mem lamd.un (hr.mono (by decide)) hgd (LamX.lamS_by (show LamX.lamSB (defScope S__law_refusals) _ = true from by decide +kernel)) rfl rfl (fun _ _ _ _ _ => rfl) (fun A outer s H E f c2 hr hgd => (e_cg d_gauge_form (hr.mono (by decide)) hgd lam_takes (a_cons (e_nm 3) (a_cons (e_nm 4) a_nil))))) (e_tup (a_cons e_str (a_cons (e_nm 3) a_nil))))
  (s_one (s_ret e_bl))
  s_nil)
  (s_cons (s_if (tc (c_ne hr) (eh__law_heard (k := 8) hh__law_heard ES m_isinstance lamd.tb (lamd.cdv _ _ hmf hcdv) rfl lamd.mem lamd.un (hr.mono (by decide)) hgd (LamX.lamS_by (show LamX.lamSB (defScope S__law_refusals) _ = true from by decide +kernel)) rfl rfl (fun _ _ _ _ _ => rfl) (fun A outer s H E f c2 hr hgd => (e_cg d_gauge_form (hr.mono (by decide)) hgd lam_takes (a_cons (e_nm 1) (a_cons (e_nm 4) a_nil))))) (e_tup (a_cons e_str (a_cons (e_nm 4) a_nil))))
  (s_one (s_ret e_bl))
  s_nil)
  (s_cons (s_for (passes_of rfl) rfl (i_rng1 m_range (a_cons e_int a_nil)) (pg_name (i := 7) sc__law_refusals.nd rfl (by first | exact Or.inl rfl | exact Or.inr rfl)) tg_name
  (s_cons (s_if (tc (c_ne hr) (eh__law_heard (k := 8) hh__law_heard ES m_isinstance lamd.tb (lamd.cdv _ _ hmf hcdv) rfl lamd.mem lamd.un (hr.mono (by decide)) hgd (LamX.lamS_by (show LamX.lamSB (defScope S__law_refusals) _ = true from by decide +kernel)) rfl rfl (fun _ _ _ _ _ => rfl) (fun A outer s H E f c2 hr hgd => (e_cg d__law_called (hr.mono (by decide)) hgd lam_takes (a_cons (e_nm 7) (a_cons (e_nm 3) (a_cons (e_nm 5) (a_cons (e_nm 6) a_nil))))))) (e_tup (a_cons e_str (a_cons (e_nm 3) a_nil))))
  (s_one (s_ret e_bl))
  s_nil)
  (s_cons (s_if (tc (c_ne hr) (eh__law_heard (k := 8) hh__law_heard ES m_isinstance lamd.tb (lamd.cdv _ _ hmf hcdv) rfl lamd.mem lamd.un (hr.mono (by decide)) hgd (LamX.lamS_by (show LamX.lamSB (defScope S__law_refusals) _ = true from by decide +kernel)) rfl rfl (fun _ _ _ _ _ => rfl) (fun A outer s H E f c2 hr hgd => (e_cg d__law_called (hr.mono (by decide)) hgd lam_takes (a_cons (e_nm 7) (a_cons (e_nm 1) (a_cons (e_nm 5) (a_cons (e_nm 6) a_nil))))))) (e_tup (a_cons e_str (a_cons (e_nm 5) a_nil))))
  (s_one (s_ret e_bl))
  s_nil)
  (s_one (s_if (tc (c_ne hr) (eh__law_heard (k := 8) hh__law_heard ES m_isinstance lamd.tb (lamd.cdv _ _ hmf hcdv) rfl lamd.mem lamd.un (hr.mono (by decide)) hgd (LamX.lamS_by (show LamX.lamSB (defScope S__law_refusals) _ = true from by decide +kernel)) rfl rfl (fun _ _ _ _ _ => rfl) (fun A outer s H E f c2 hr hgd => (e_cg d__law_called (hr.mono (by decide)) hgd lam_takes (a_cons (e_nm 7) (a_cons (e_nm 1) (a_cons (e_nm 2) (a_cons (e_nm 6) a_nil))))))) (e_tup (a_cons e_str (a_cons (e_nm 6) (a_cons e_bl a_nil)))))
  (s_one (s_ret e_bl))
  s_nil)))))
  (s_one (s_ret e_bl)))))))))
/-! law -/
def B_law : SF := (seqF (forF (rngF (consF (cbF (ii2 maxI) (consF (cF (.int (1))) (consF (cbF (ii2 minI) (consF (cF (.int (2))) (consF (cbF lenG (consF (nmF 0) nilF)) nilF))) nilF))) nilF)) (tgN 1)
  (seqF (setF 2 (callF F__law_pool (consF (nmF 0) (consF (nmF 1) nilF))))
  (seqF (setF 3 (callF F__law_gauge (consF (nmF 2) nilF)))
  (seqF (parF [6, 7] (consF (callF F__law_gauge_row (consF (nmF 2) (consF (nmF 3) (consF (cF (.int (6))) nilF)))) (consF (callF F__law_gauge_row (consF (nmF 2) (consF (nmF 3) (consF (cF (.int (4))) nilF)))) nilF)))
  (seqF (setF 4 (callF F_gauge_form (consF (nmF 3) (consF (nmF 6) nilF))))
  (seqF (ifS (boolF (opF neG (nmF 4) (callF F__law_told_form (consF (nmF 3) (consF (nmF 6) nilF)))))
  (retF (cF (.bool false)))
  passF)
  (seqF (ifS (boolF (opF neG (opF eqG (nmF 4) (callF F_gauge_form (consF (nmF 3) (consF (nmF 7) nilF)))) (opF eqG (callF F__law_map (consF (nmF 3) (consF (nmF 6) nilF))) (callF F__law_map (consF (nmF 3) (consF (nmF 7) nilF))))))
  (retF (cF (.bool false)))
  passF)
  (seqF (forF (rngF (consF (opF addG (opF ixG (nmF 3) (cF (.int (1)))) (cF (.int (1)))) nilF)) (tgN 5)
  (seqF (setF 8 (callF F__law_left (consF (nmF 3) (consF (nmF 6) (consF (nmF 5) nilF)))))
  (ifS (orT (boolF (opF neG (callF F_gauge_left (consF (nmF 3) (consF (nmF 4) (consF (nmF 5) nilF)))) (nmF 8))) (boolF (opF neG (callF F_gauge_works (consF (nmF 3) (consF (nmF 4) (consF (nmF 5) nilF)))) (opF (isG true) (nmF 8) (cF .none)))))
  (retF (cF (.bool false)))
  passF)))
  (ifS (notT (truF (callF F__law_refusals (consF (nmF 2) (consF (nmF 3) (consF (nmF 4) nilF))))))
  (retF (cF (.bool false)))
  passF)))))))))
  (retF (cF (.bool true))))
def F_law : FD := runF 1 9 B_law
abbrev S_law : Stmt := top 72
theorem sc_law : FnScope ["_law_script", "_law_k", "_law_source", "_law_kind", "_law_form", "_law_number", "_law_row", "_law_second", "_law_due"] ["_law_script"] (defScope S_law) := ⟨rfl, rfl, rfl, by decide +kernel, rfl, by decide +kernel, by decide +kernel⟩
theorem d_law {P : Program} {w : World} {K : Frag} {mg : Str → Option Value} {base : Heap} (h : HereG K mg "law" S_law ["_law_script"]) (d__law_pool : DefG P w K mg base 1 "_law_pool" 2 F__law_pool) (d__law_gauge : DefG P w K mg base 3 "_law_gauge" 1 F__law_gauge) (d__law_gauge_row : DefG P w K mg base 3 "_law_gauge_row" 3 F__law_gauge_row) (d_gauge_form : DefG P w K mg base 7 "gauge_form" 2 F_gauge_form) (d__law_told_form : DefG P w K mg base 5 "_law_told_form" 2 F__law_told_form) (d__law_map : DefG P w K mg base 4 "_law_map" 2 F__law_map) (d__law_left : DefG P w K mg base 3 "_law_left" 3 F__law_left) (d_gauge_left : DefG P w K mg base 7 "gauge_left" 3 F_gauge_left) (d_gauge_works : DefG P w K mg base 7 "gauge_works" 3 F_gauge_works) (d__law_refusals : DefG P w K mg base 11 "_law_refusals" 3 F__law_refusals) (m_max : mg "max" = none) (m_min : mg "min" = none) (m_len : mg "len" = none) (m_range : mg "range" = none)   : DefG P w K mg base 12 "law" 1 F_law :=
  h.def sc_law rfl rfl fun fa cdv A outer s H E hr hgd =>
  (s_cons (s_for (passes_of rfl) rfl (i_rng1 m_range (a_cons (e_bi (b_max rfl) m_max (a_cons e_int (a_cons (e_bi (b_min rfl) m_min (a_cons e_int (a_cons (e_bi b_len m_len (a_cons (e_nm 0) a_nil)) a_nil))) a_nil))) a_nil)) (pg_name (i := 1) sc_law.nd rfl (by first | exact Or.inl rfl | exact Or.inr rfl)) tg_name
  (s_cons (s_set 2 sc_law.nd (e_cg d__law_pool (hr.mono (by decide)) hgd (takes_of rfl rfl rfl rfl) (a_cons (e_nm 0) (a_cons (e_nm 1) a_nil))))
  (s_cons (s_set 3 sc_law.nd (e_cg d__law_gauge (hr.mono (by decide)) hgd (takes_of rfl rfl rfl rfl) (a_cons (e_nm 2) a_nil)))
  (s_cons (by first | exact (s_par 6 7 rfl sc_law.nd (a_cons (e_cg d__law_gauge_row (hr.mono (by decide)) hgd (takes_of rfl rfl rfl rfl) (a_cons (e_nm 2) (a_cons (e_nm 3) (a_cons e_int a_nil)))) (a_cons (e_cg d__law_gauge_row (hr.mono (by decide)) hgd (takes_of rfl rfl rfl rfl) (a_cons (e_nm 2) (a_cons (e_nm 3) (a_cons e_int a_nil)))) a_nil))) | exact (s_parN [6, 7] rfl (by decide) (a_cons (e_cg d__law_gauge_row (hr.mono (by decide)) hgd (takes_of rfl rfl rfl rfl) (a_cons (e_nm 2) (a_cons (e_nm 3) (a_cons e_int a_nil)))) (a_cons (e_cg d__law_gauge_row (hr.mono (by decide)) hgd (takes_of rfl rfl rfl rfl) (a_cons (e_nm 2) (a_cons (e_nm 3) (a_cons e_int a_nil)))) a_nil)) (pgs_cons (pg_name (i := 6) sc_law.nd rfl (by first | exact Or.inl rfl | exact Or.inr rfl)) (pgs_cons (pg_name (i := 7) sc_law.nd rfl (by first | exact Or.inl rfl | exact Or.inr rfl)) pgs_nil))))
  (s_cons (s_set 4 sc_law.nd (e_cg d_gauge_form (hr.mono (by decide)) hgd (takes_of rfl rfl rfl rfl) (a_cons (e_nm 3) (a_cons (e_nm 6) a_nil))))
  (s_cons (s_if (tc (c_ne hr) (e_nm 4) (e_cg d__law_told_form (hr.mono (by decide)) hgd (takes_of rfl rfl rfl rfl) (a_cons (e_nm 3) (a_cons (e_nm 6) a_nil))))
  (s_one (s_ret e_bl))
  s_nil)
  (s_cons (s_if (tc (c_ne hr) (ec (c_eq hr) (e_nm 4) (e_cg d_gauge_form (hr.mono (by decide)) hgd (takes_of rfl rfl rfl rfl) (a_cons (e_nm 3) (a_cons (e_nm 7) a_nil)))) (ec (c_eq hr) (e_cg d__law_map (hr.mono (by decide)) hgd (takes_of rfl rfl rfl rfl) (a_cons (e_nm 3) (a_cons (e_nm 6) a_nil))) (e_cg d__law_map (hr.mono (by decide)) hgd (takes_of rfl rfl rfl rfl) (a_cons (e_nm 3) (a_cons (e_nm 7) a_nil)))))
  (s_one (s_ret e_bl))
  s_nil)
  (s_cons (s_for (passes_of rfl) rfl (i_rng1 m_range (a_cons (e_add (e_ix hr (e_nm 3) e_int) e_int) a_nil)) (pg_name (i := 5) sc_law.nd rfl (by first | exact Or.inl rfl | exact Or.inr rfl)) tg_name
  (s_cons (s_set 8 sc_law.nd (e_cg d__law_left (hr.mono (by decide)) hgd (takes_of rfl rfl rfl rfl) (a_cons (e_nm 3) (a_cons (e_nm 6) (a_cons (e_nm 5) a_nil)))))
  (s_one (s_if (t_w (w_or (tc (c_ne hr) (e_cg d_gauge_left (hr.mono (by decide)) hgd (takes_of rfl rfl rfl rfl) (a_cons (e_nm 3) (a_cons (e_nm 4) (a_cons (e_nm 5) a_nil)))) (e_nm 8)) (w_or1 (tc (c_ne hr) (e_cg d_gauge_works (hr.mono (by decide)) hgd (takes_of rfl rfl rfl rfl) (a_cons (e_nm 3) (a_cons (e_nm 4) (a_cons (e_nm 5) a_nil)))) (ec (c_isn hr) (e_nm 8) e_non)))))
  (s_one (s_ret e_bl))
  s_nil))))
  (s_one (s_if (t_not (t_tru (e_cg d__law_refusals (hr.mono (by decide)) hgd (takes_of rfl rfl rfl rfl) (a_cons (e_nm 2) (a_cons (e_nm 3) (a_cons (e_nm 4) a_nil))))))
  (s_one (s_ret e_bl))
  s_nil))))))))))
  (s_one (s_ret e_bl)))
end S35

noncomputable section
namespace S35
open PySem PySem.Spec PyProof.Rows L2 VL HDK
abbrev P : Program := PySem.Challenge.pw_boxeffects_k35_gauges_by_their_forms
def D__law_pool : He.DefD := ⟨("_law_pool", none), "_law_pool", "_law_pool", defArgs (top 57), defBody (top 57), defScope (top 57), [], []⟩
def D__law_take : He.DefD := ⟨("_law_take", none), "_law_take", "_law_take", defArgs (top 58), defBody (top 58), defScope (top 58), [], []⟩
def D__law_one : He.DefD := ⟨("_law_one", none), "_law_one", "_law_one", defArgs (top 59), defBody (top 59), defScope (top 59), [], []⟩
def D__law_gauge : He.DefD := ⟨("_law_gauge", none), "_law_gauge", "_law_gauge", defArgs (top 64), defBody (top 64), defScope (top 64), [], []⟩
def D_is_whole : He.DefD := ⟨("is_whole", none), "is_whole", "is_whole", defArgs (top 19), defBody (top 19), defScope (top 19), [], []⟩
def D_is_number : He.DefD := ⟨("is_number", none), "is_number", "is_number", defArgs (top 20), defBody (top 20), defScope (top 20), [], []⟩
def D_is_one_of : He.DefD := ⟨("is_one_of", none), "is_one_of", "is_one_of", defArgs (top 22), defBody (top 22), defScope (top 22), [], []⟩
def D_is_kind : He.DefD := ⟨("is_kind", none), "is_kind", "is_kind", defArgs (top 27), defBody (top 27), defScope (top 27), [], []⟩
def D_check_gauge : He.DefD := ⟨("check_gauge", none), "check_gauge", "check_gauge", defArgs (top 41), defBody (top 41), defScope (top 41), [], []⟩
def D_check_kind : He.DefD := ⟨("check_kind", none), "check_kind", "check_kind", defArgs (top 28), defBody (top 28), defScope (top 28), [], []⟩
def D_is_letter : He.DefD := ⟨("is_letter", none), "is_letter", "is_letter", defArgs (top 23), defBody (top 23), defScope (top 23), [], []⟩
def D_is_part : He.DefD := ⟨("is_part", none), "is_part", "is_part", defArgs (top 29), defBody (top 29), defScope (top 29), [], []⟩
def D_has_step_form : He.DefD := ⟨("has_step_form", none), "has_step_form", "has_step_form", defArgs (top 30), defBody (top 30), defScope (top 30), [], []⟩
def D_has_row_form : He.DefD := ⟨("has_row_form", none), "has_row_form", "has_row_form", defArgs (top 31), defBody (top 31), defScope (top 31), [], []⟩
def D_check_row_of : He.DefD := ⟨("check_row_of", none), "check_row_of", "check_row_of", defArgs (top 39), defBody (top 39), defScope (top 39), [], []⟩
def D_clamped : He.DefD := ⟨("clamped", none), "clamped", "clamped", defArgs (top 45), defBody (top 45), defScope (top 45), [], []⟩
def D_clamps_joined : He.DefD := ⟨("clamps_joined", none), "clamps_joined", "clamps_joined", defArgs (top 46), defBody (top 46), defScope (top 46), [], []⟩
def D_spans_joined : He.DefD := ⟨("spans_joined", none), "spans_joined", "spans_joined", defArgs (top 47), defBody (top 47), defScope (top 47), [], []⟩
def D_gauges_joined : He.DefD := ⟨("gauges_joined", none), "gauges_joined", "gauges_joined", defArgs (top 48), defBody (top 48), defScope (top 48), [], []⟩
def D_signed_amount : He.DefD := ⟨("signed_amount", none), "signed_amount", "signed_amount", defArgs (top 49), defBody (top 49), defScope (top 49), [], []⟩
def D_gauge_step_form : He.DefD := ⟨("gauge_step_form", none), "gauge_step_form", "gauge_step_form", defArgs (top 50), defBody (top 50), defScope (top 50), [], []⟩
def D_gauge_form : He.DefD := ⟨("gauge_form", none), "gauge_form", "gauge_form", defArgs (top 51), defBody (top 51), defScope (top 51), [], []⟩
def D__law_gauge_row : He.DefD := ⟨("_law_gauge_row", none), "_law_gauge_row", "_law_gauge_row", defArgs (top 65), defBody (top 65), defScope (top 65), [], []⟩
def D__law_line_behind : He.DefD := ⟨("_law_line_behind", none), "_law_line_behind", "_law_line_behind", defArgs (top 61), defBody (top 61), defScope (top 61), [], []⟩
def D__law_tape_behind : He.DefD := ⟨("_law_tape_behind", none), "_law_tape_behind", "_law_tape_behind", defArgs (top 62), defBody (top 62), defScope (top 62), [], []⟩
def D__law_behind : He.DefD := ⟨("_law_behind", none), "_law_behind", "_law_behind", defArgs (top 60), defBody (top 60), defScope (top 60), [], []⟩
def D__law_left : He.DefD := ⟨("_law_left", none), "_law_left", "_law_left", defArgs (top 63), defBody (top 63), defScope (top 63), [], []⟩
def D__law_map : He.DefD := ⟨("_law_map", none), "_law_map", "_law_map", defArgs (top 66), defBody (top 66), defScope (top 66), [], []⟩
def D__law_told_form : He.DefD := ⟨("_law_told_form", none), "_law_told_form", "_law_told_form", defArgs (top 67), defBody (top 67), defScope (top 67), [], []⟩
def D__law_heard : He.DefD := ⟨("_law_heard", none), "_law_heard", "_law_heard", defArgs (top 69), defBody (top 69), defScope (top 69), [], []⟩
def D_is_clamp : He.DefD := ⟨("is_clamp", none), "is_clamp", "is_clamp", defArgs (top 42), defBody (top 42), defScope (top 42), [], []⟩
def D_is_tuple_of : He.DefD := ⟨("is_tuple_of", none), "is_tuple_of", "is_tuple_of", defArgs (top 21), defBody (top 21), defScope (top 21), [], []⟩
def D_has_gauge_form : He.DefD := ⟨("has_gauge_form", none), "has_gauge_form", "has_gauge_form", defArgs (top 43), defBody (top 43), defScope (top 43), [], []⟩
def D_check_gauge_form : He.DefD := ⟨("check_gauge_form", none), "check_gauge_form", "check_gauge_form", defArgs (top 44), defBody (top 44), defScope (top 44), [], []⟩
def D_is_word : He.DefD := ⟨("is_word", none), "is_word", "is_word", defArgs (top 24), defBody (top 24), defScope (top 24), [], []⟩
def D_is_short_word : He.DefD := ⟨("is_short_word", none), "is_short_word", "is_short_word", defArgs (top 25), defBody (top 25), defScope (top 25), [], []⟩
def D_are_rising : He.DefD := ⟨("are_rising", none), "are_rising", "are_rising", defArgs (top 26), defBody (top 26), defScope (top 26), [], []⟩
def D_are_tape_pairs : He.DefD := ⟨("are_tape_pairs", none), "are_tape_pairs", "are_tape_pairs", defArgs (top 32), defBody (top 32), defScope (top 32), [], []⟩
def D_is_tape : He.DefD := ⟨("is_tape", none), "is_tape", "is_tape", defArgs (top 33), defBody (top 33), defScope (top 33), [], []⟩
def D_is_heap : He.DefD := ⟨("is_heap", none), "is_heap", "is_heap", defArgs (top 34), defBody (top 34), defScope (top 34), [], []⟩
def D_is_table_told : He.DefD := ⟨("is_table_told", none), "is_table_told", "is_table_told", defArgs (top 35), defBody (top 35), defScope (top 35), [], []⟩
def D_has_contents_form : He.DefD := ⟨("has_contents_form", none), "has_contents_form", "has_contents_form", defArgs (top 36), defBody (top 36), defScope (top 36), [], []⟩
def D_check_contents : He.DefD := ⟨("check_contents", none), "check_contents", "check_contents", defArgs (top 37), defBody (top 37), defScope (top 37), [], []⟩
def D_check_gauge_contents : He.DefD := ⟨("check_gauge_contents", none), "check_gauge_contents", "check_gauge_contents", defArgs (top 53), defBody (top 53), defScope (top 53), [], []⟩
def D_bears : He.DefD := ⟨("bears", none), "bears", "bears", defArgs (top 52), defBody (top 52), defScope (top 52), [], []⟩
def D_gauge_works : He.DefD := ⟨("gauge_works", none), "gauge_works", "gauge_works", defArgs (top 54), defBody (top 54), defScope (top 54), [], []⟩
def D_gauge_left : He.DefD := ⟨("gauge_left", none), "gauge_left", "gauge_left", defArgs (top 55), defBody (top 55), defScope (top 55), [], []⟩
def D__law_called : He.DefD := ⟨("_law_called", none), "_law_called", "_law_called", defArgs (top 70), defBody (top 70), defScope (top 70), [], []⟩
def D__law_refusals : He.DefD := ⟨("_law_refusals", none), "_law_refusals", "_law_refusals", defArgs (top 71), defBody (top 71), defScope (top 71), [], []⟩
def D_law : He.DefD := ⟨("law", none), "law", "law", defArgs (top 72), defBody (top 72), defScope (top 72), [], []⟩
def fn : List He.DefD := [D__law_pool, D__law_take, D__law_one, D__law_gauge, D_is_whole, D_is_number, D_is_one_of, D_is_kind, D_check_gauge, D_check_kind, D_is_letter, D_is_part, D_has_step_form, D_has_row_form, D_check_row_of, D_clamped, D_clamps_joined, D_spans_joined, D_gauges_joined, D_signed_amount, D_gauge_step_form, D_gauge_form, D__law_gauge_row, D__law_line_behind, D__law_tape_behind, D__law_behind, D__law_left, D__law_map, D__law_told_form, D__law_heard, D_is_clamp, D_is_tuple_of, D_has_gauge_form, D_check_gauge_form, D_is_word, D_is_short_word, D_are_rising, D_are_tape_pairs, D_is_tape, D_is_heap, D_is_table_told, D_has_contents_form, D_check_contents, D_check_gauge_contents, D_bears, D_gauge_works, D_gauge_left, D__law_called, D__law_refusals, D_law]
def fa0 : List He.Fa := [.glo "_law_pool", .glo "_law_take", .glo "_law_one", .glo "_law_gauge", .glo "is_whole", .glo "is_number", .glo "is_one_of", .glo "is_kind", .glo "check_gauge", .glo "check_kind", .glo "is_letter", .glo "is_part", .glo "has_step_form", .glo "has_row_form", .glo "check_row_of"]
def fa1 : List He.Fa := [.glo "clamped", .glo "clamps_joined", .glo "spans_joined", .glo "gauges_joined", .glo "signed_amount", .glo "gauge_step_form", .glo "gauge_form", .glo "_law_gauge_row", .glo "_law_line_behind", .glo "_law_tape_behind", .glo "_law_behind", .glo "_law_left", .glo "_law_map", .glo "_law_told_form", .glo "_law_heard"]
def fa2 : List He.Fa := [.glo "is_clamp", .glo "is_tuple_of", .glo "has_gauge_form", .glo "check_gauge_form", .glo "is_word", .glo "is_short_word", .glo "are_rising", .glo "are_tape_pairs", .glo "is_tape", .glo "is_heap", .glo "is_table_told", .glo "has_contents_form", .glo "check_contents", .glo "check_gauge_contents", .glo "bears"]
def fa3 : List He.Fa := [.glo "gauge_works", .glo "gauge_left", .glo "_law_called", .glo "_law_refusals", .glo "law", .free "all", .free "bool", .free "int", .free "isinstance", .free "len", .free "list", .free "max", .free "min", .free "range", .free "sorted"]
def fa4 : List He.Fa := [.free "str", .free "sum", .free "super", .free "tuple", .free "zip"]
def fa : List He.Fa := fa0 ++ fa1 ++ fa2 ++ fa3 ++ fa4
def gl0 : List (Str × D) := [(("ALPHABET" : Str), (.str "abcdefghijklmnopqrstuvwxyz")), (("GAUGE_MODES" : Str), (.tuple [(.str "stop"), (.str "fail")])), (("MOST_GAUGE" : Str), (.int (999))), (("MOST_INSERTED" : Str), (.int (999))), (("MOST_IN_HEAP" : Str), (.int (1000))), (("MOST_LETTERS" : Str), (.int (4000))), (("MOST_RING" : Str), (.int (12))), (("MOST_SIGNS" : Str), (.int (4))), (("MOST_STEPS" : Str), (.int (60))), (("RING_MODES" : Str), (.tuple [(.str "drop"), (.str "ignore"), (.str "fail")])), (("SIMPLE_KINDS" : Str), (.tuple [(.str "stack"), (.str "queue"), (.str "tape"), (.str "heap"), (.str "table")]))]
def gl : List (Str × D) := gl0
def tb0 : List (List Str × List Str) := [([("stack" : Str), ("push" : Str)], [("letter" : Str)]), ([("stack" : Str), ("pop" : Str)], [("letter" : Str)]), ([("queue" : Str), ("put" : Str)], [("letter" : Str)]), ([("queue" : Str), ("take" : Str)], [("letter" : Str)]), ([("ring" : Str), ("put" : Str)], [("letter" : Str)]), ([("ring" : Str), ("take" : Str)], []), ([("tape" : Str), ("left" : Str)], []), ([("tape" : Str), ("right" : Str)], []), ([("tape" : Str), ("write" : Str)], [("letter" : Str)]), ([("tape" : Str), ("expect" : Str)], [("letter" : Str)]), ([("heap" : Str), ("insert" : Str)], [("inserted" : Str)]), ([("heap" : Str), ("least" : Str)], []), ([("gauge" : Str), ("add" : Str)], [("amount" : Str)]), ([("gauge" : Str), ("sub" : Str)], [("amount" : Str)]), ([("table" : Str), ("set" : Str)], [("letter" : Str), ("letter" : Str)])]
def tb1 : List (List Str × List Str) := [([("table" : Str), ("clear" : Str)], [("letter" : Str)]), ([("table" : Str), ("expect" : Str)], [("letter" : Str), ("letter" : Str)]), ([("table" : Str), ("absent" : Str)], [("letter" : Str)])]
def tb : List (List Str × List Str) := tb0 ++ tb1
def loose0 : List Str := [("BoxError" : Str), ("NoKind" : Str), ("NoRow" : Str), ("NoContents" : Str), ("NoForm" : Str), ("ALPHABET" : Str), ("MOST_SIGNS" : Str), ("MOST_STEPS" : Str), ("MOST_LETTERS" : Str), ("MOST_RING" : Str), ("MOST_GAUGE" : Str), ("MOST_INSERTED" : Str), ("MOST_IN_HEAP" : Str), ("RING_MODES" : Str), ("GAUGE_MODES" : Str)]
def loose1 : List Str := [("SIMPLE_KINDS" : Str), ("STEP_SORTS" : Str), ("is_whole" : Str), ("is_number" : Str), ("is_tuple_of" : Str), ("is_one_of" : Str), ("is_letter" : Str), ("is_word" : Str), ("is_short_word" : Str), ("are_rising" : Str), ("is_kind" : Str), ("check_kind" : Str), ("is_part" : Str), ("has_step_form" : Str), ("has_row_form" : Str)]
def loose2 : List Str := [("are_tape_pairs" : Str), ("is_tape" : Str), ("is_heap" : Str), ("is_table_told" : Str), ("has_contents_form" : Str), ("check_contents" : Str), ("check_row_of" : Str), ("check_gauge" : Str), ("is_clamp" : Str), ("has_gauge_form" : Str), ("check_gauge_form" : Str), ("clamped" : Str), ("clamps_joined" : Str), ("spans_joined" : Str), ("gauges_joined" : Str)]
def loose3 : List Str := [("signed_amount" : Str), ("gauge_step_form" : Str), ("gauge_form" : Str), ("bears" : Str), ("check_gauge_contents" : Str), ("gauge_works" : Str), ("gauge_left" : Str), ("_law_pool" : Str), ("_law_take" : Str), ("_law_one" : Str), ("_law_behind" : Str), ("_law_line_behind" : Str), ("_law_tape_behind" : Str), ("_law_left" : Str), ("_law_gauge" : Str)]
def loose4 : List Str := [("_law_gauge_row" : Str), ("_law_map" : Str), ("_law_told_form" : Str), ("_law_by_form" : Str), ("_law_heard" : Str), ("_law_called" : Str), ("_law_refusals" : Str)]
def loose : List Str := loose0 ++ loose1 ++ loose2 ++ loose3 ++ loose4
def Z : Wd := ⟨fa, fn, gl, "STEP_SORTS", tb⟩
def ER_BoxError : Er := ⟨"BoxError", "told", ["BoxError", "ValueError"], true, "BoxError.__init__", defArgs (inSt (top 1)), defBody (inSt (top 1)), defScope (inSt (top 1))⟩
def ER_NoKind : Er := ⟨"NoKind", "told", ["NoKind", "BoxError", "ValueError"], true, "BoxError.__init__", defArgs (inSt (top 1)), defBody (inSt (top 1)), defScope (inSt (top 1))⟩
def ER_NoRow : Er := ⟨"NoRow", "told", ["NoRow", "BoxError", "ValueError"], true, "BoxError.__init__", defArgs (inSt (top 1)), defBody (inSt (top 1)), defScope (inSt (top 1))⟩
def ER_NoContents : Er := ⟨"NoContents", "told", ["NoContents", "BoxError", "ValueError"], true, "BoxError.__init__", defArgs (inSt (top 1)), defBody (inSt (top 1)), defScope (inSt (top 1))⟩
def ER_NoForm : Er := ⟨"NoForm", "told", ["NoForm", "BoxError", "ValueError"], true, "BoxError.__init__", defArgs (inSt (top 1)), defBody (inSt (top 1)), defScope (inSt (top 1))⟩
def ERS : List Er := [ER_BoxError, ER_NoKind, ER_NoRow, ER_NoContents, ER_NoForm]
theorem er_BoxError : ErOk P ER_BoxError := ⟨"told", _, _, _, _, _, _, _, _, _, _, rfl, fun env => ⟨_, rfl⟩, rfl, rfl, rfl, by decide, rfl, rfl, rfl, rfl, ⟨_, rfl, rfl⟩, by decide, by decide, fun _ _ _ _ _ _ _ _ _ => rfl, rfl⟩
theorem er_NoKind : ErOk P ER_NoKind := ⟨"told", _, _, _, _, _, _, _, _, _, _, rfl, fun env => ⟨_, rfl⟩, rfl, rfl, rfl, by decide, rfl, rfl, rfl, rfl, ⟨_, rfl, rfl⟩, by decide, by decide, fun _ _ _ _ _ _ _ _ _ => rfl, rfl⟩
theorem er_NoRow : ErOk P ER_NoRow := ⟨"told", _, _, _, _, _, _, _, _, _, _, rfl, fun env => ⟨_, rfl⟩, rfl, rfl, rfl, by decide, rfl, rfl, rfl, rfl, ⟨_, rfl, rfl⟩, by decide, by decide, fun _ _ _ _ _ _ _ _ _ => rfl, rfl⟩
theorem er_NoContents : ErOk P ER_NoContents := ⟨"told", _, _, _, _, _, _, _, _, _, _, rfl, fun env => ⟨_, rfl⟩, rfl, rfl, rfl, by decide, rfl, rfl, rfl, rfl, ⟨_, rfl, rfl⟩, by decide, by decide, fun _ _ _ _ _ _ _ _ _ => rfl, rfl⟩
theorem er_NoForm : ErOk P ER_NoForm := ⟨"told", _, _, _, _, _, _, _, _, _, _, rfl, fun env => ⟨_, rfl⟩, rfl, rfl, rfl, by decide, rfl, rfl, rfl, rfl, ⟨_, rfl, rfl⟩, by decide, by decide, fun _ _ _ _ _ _ _ _ _ => rfl, rfl⟩
theorem ersOk : ∀ r ∈ ERS, ErOk P r := fun r hr => by
  rcases List.mem_cons.mp hr with rfl | hr
  · exact er_BoxError
  rcases List.mem_cons.mp hr with rfl | hr
  · exact er_NoKind
  rcases List.mem_cons.mp hr with rfl | hr
  · exact er_NoRow
  rcases List.mem_cons.mp hr with rfl | hr
  · exact er_NoContents
  rcases List.mem_cons.mp hr with rfl | hr
  · exact er_NoForm
  cases hr
def LAMS : List Str := ["_law_refusals"]
abbrev R : PySem.W.OpenRow := PySem.W.OpenLaw.row PySem.Challenge.rw_boxeffects_k35_gauges_by_their_forms
abbrev q : Program := PySem.W.view R.prog [72]
abbrev hk : PySem.W.Hook := hookL 4 P Z ERS LAMS
def ob (s : PySem.W.SharedT) : AlL := obsL 4 P Z ERS LAMS (HandSHeadRun.getT s)
theorem ob_eq (s : PySem.W.SharedT) : ob s = hk.obs s.abs := obsL_eq (HandSHeadRun.getT_eq s)
def E0 : Env := HDK.envOf P 13 14
theorem r1 (w : World) (os : OsState) : (partA P 1228 w os).map Prod.snd = some (TAq P E0 18 ⟨26, 0, 26, 12⟩) := by kernel_rfl
theorem r2 : P.main.body.drop 18 = stAt P 18 :: P.main.body.drop (18 + 1) := by kernel_rfl
theorem r3 : exec (stAt P 18) E0 = (xA P E0 18).bind (kA P E0 18) := by kernel_rfl
theorem run (w : World) (os : OsState) (pb : Pos) : partC R q hk ob loose 1228 20000 18 E0 w os pb = some (true, true, PySem.W.openGood q loose, hk.val w) := by kernel_rfl
end S35

namespace S35
open PySem PySem.Spec PyProof.Rows L2 VL HDK
theorem defs [TbP] {w : World} {K : Frag} {mg : Str → Option Value} {h : Heap} (X : K.In h) (G : h.Ns mainGlobals mg) (S : SaysL P Z ERS LAMS w K h) (hT : TbP.T = LAMS.map (fun x => (tabA K x, x ++ ".<locals>." ++ "<lambda>"))) (base : Heap) (TB : ∀ x ∈ LAMS, LamX.TabB base mg (codeA K x) (tabA K x)) : DefG P w K mg base 12 "law" 1 F_law := by
  have m_all : mg "all" = none := S.toSaysX.free X G 50
  have m_bool : mg "bool" = none := S.toSaysX.free X G 51
  have m_int : mg "int" = none := S.toSaysX.free X G 52
  have m_isinstance : mg "isinstance" = none := S.toSaysX.free X G 53
  have m_len : mg "len" = none := S.toSaysX.free X G 54
  have m_list : mg "list" = none := S.toSaysX.free X G 55
  have m_max : mg "max" = none := S.toSaysX.free X G 56
  have m_min : mg "min" = none := S.toSaysX.free X G 57
  have m_range : mg "range" = none := S.toSaysX.free X G 58
  have m_sorted : mg "sorted" = none := S.toSaysX.free X G 59
  have m_str : mg "str" = none := S.toSaysX.free X G 60
  have m_sum : mg "sum" = none := S.toSaysX.free X G 61
  have m_super : mg "super" = none := S.toSaysX.free X G 62
  have m_tuple : mg "tuple" = none := S.toSaysX.free X G 63
  have m_zip : mg "zip" = none := S.toSaysX.free X G 64
  have g_ALPHABET : GlD K mg "ALPHABET" K_ALPHABET := S.toSaysX.gl X G 0
  have g_GAUGE_MODES : GlD K mg "GAUGE_MODES" K_GAUGE_MODES := S.toSaysX.gl X G 1
  have g_MOST_GAUGE : GlD K mg "MOST_GAUGE" K_MOST_GAUGE := S.toSaysX.gl X G 2
  have g_MOST_INSERTED : GlD K mg "MOST_INSERTED" K_MOST_INSERTED := S.toSaysX.gl X G 3
  have g_MOST_IN_HEAP : GlD K mg "MOST_IN_HEAP" K_MOST_IN_HEAP := S.toSaysX.gl X G 4
  have g_MOST_LETTERS : GlD K mg "MOST_LETTERS" K_MOST_LETTERS := S.toSaysX.gl X G 5
  have g_MOST_RING : GlD K mg "MOST_RING" K_MOST_RING := S.toSaysX.gl X G 6
  have g_MOST_SIGNS : GlD K mg "MOST_SIGNS" K_MOST_SIGNS := S.toSaysX.gl X G 7
  have g_MOST_STEPS : GlD K mg "MOST_STEPS" K_MOST_STEPS := S.toSaysX.gl X G 8
  have g_RING_MODES : GlD K mg "RING_MODES" K_RING_MODES := S.toSaysX.gl X G 9
  have g_SIMPLE_KINDS : GlD K mg "SIMPLE_KINDS" K_SIMPLE_KINDS := S.toSaysX.gl X G 10
  have t_STEP_SORTS : TabT P w K mg "STEP_SORTS" T_STEP_SORTS := S.toSaysX.tab X G
  have ES : ErrS P K mg CTL := show ErrS P K mg (ctOf ERS) from S.err X G ersOk
  have hh__law_heard : HereG K mg "_law_heard" S__law_heard ["_law_call"] := S.toSaysX.here X G 29 29 (fun _ _ _ _ _ _ us hl => match us, hl with | [_], _ => rfl)
  have lamd__law_refusals : LamD K mg base "_law_refusals" := S.lamD X G hT TB 0 48
  have e__law_pool : DefG P w K mg base 1 "_law_pool" 2 F__law_pool := d__law_pool (S.toSaysX.here X G 0 0 (fun _ _ _ _ _ _ us hl => match us, hl with | [_, _], _ => rfl)) m_len m_max m_int
  have e__law_take : DefG P w K mg base 1 "_law_take" 2 F__law_take := d__law_take (S.toSaysX.here X G 1 1 (fun _ _ _ _ _ _ us hl => match us, hl with | [_, _], _ => rfl)) m_int
  have e__law_one : DefG P w K mg base 2 "_law_one" 2 F__law_one := d__law_one (S.toSaysX.here X G 2 2 (fun _ _ _ _ _ _ us hl => match us, hl with | [_, _], _ => rfl)) e__law_take m_len
  have e__law_gauge : DefG P w K mg base 3 "_law_gauge" 1 F__law_gauge := d__law_gauge (S.toSaysX.here X G 3 3 (fun _ _ _ _ _ _ us hl => match us, hl with | [_], _ => rfl)) e__law_one
  have e_is_whole : DefG P w K mg base 1 "is_whole" 1 F_is_whole := d_is_whole (S.toSaysX.here X G 4 4 (fun _ _ _ _ _ _ us hl => match us, hl with | [_], _ => rfl)) m_isinstance m_int m_bool
  have e_is_number : DefG P w K mg base 2 "is_number" 3 F_is_number := d_is_number (S.toSaysX.here X G 5 5 (fun _ _ _ _ _ _ us hl => match us, hl with | [_, _, _], _ => rfl)) e_is_whole
  have e_is_one_of : DefG P w K mg base 1 "is_one_of" 2 F_is_one_of := d_is_one_of (S.toSaysX.here X G 6 6 (fun _ _ _ _ _ _ us hl => match us, hl with | [_, _], _ => rfl)) m_isinstance m_str
  have e_is_kind : DefG P w K mg base 3 "is_kind" 1 F_is_kind := d_is_kind (S.toSaysX.here X G 7 7 (fun _ _ _ _ _ _ us hl => match us, hl with | [_], _ => rfl)) e_is_number e_is_one_of g_SIMPLE_KINDS g_MOST_RING g_RING_MODES g_MOST_GAUGE g_GAUGE_MODES m_isinstance m_tuple m_len m_str
  have e_check_gauge : DefG P w K mg base 4 "check_gauge" 1 F_check_gauge := d_check_gauge (S.toSaysX.here X G 8 8 (fun _ _ _ _ _ _ us hl => match us, hl with | [_], _ => rfl)) e_is_kind m_super ES
  have e_check_kind : DefG P w K mg base 4 "check_kind" 1 F_check_kind := d_check_kind (S.toSaysX.here X G 9 9 (fun _ _ _ _ _ _ us hl => match us, hl with | [_], _ => rfl)) e_is_kind m_super ES
  have e_is_letter : DefG P w K mg base 1 "is_letter" 1 F_is_letter := d_is_letter (S.toSaysX.here X G 10 10 (fun _ _ _ _ _ _ us hl => match us, hl with | [_], _ => rfl)) g_MOST_SIGNS g_ALPHABET m_isinstance m_str m_len m_all
  have e_is_part : DefG P w K mg base 3 "is_part" 3 F_is_part := d_is_part (S.toSaysX.here X G 11 11 (fun _ _ _ _ _ _ us hl => match us, hl with | [_, _, _], _ => rfl)) e_is_letter e_is_number g_MOST_INSERTED
  have e_has_step_form : DefG P w K mg base 4 "has_step_form" 2 F_has_step_form := d_has_step_form (S.toSaysX.here X G 12 12 (fun _ _ _ _ _ _ us hl => match us, hl with | [_, _], _ => rfl)) e_is_part t_STEP_SORTS m_isinstance m_tuple m_len m_str m_all m_zip
  have e_has_row_form : DefG P w K mg base 5 "has_row_form" 2 F_has_row_form := d_has_row_form (S.toSaysX.here X G 13 13 (fun _ _ _ _ _ _ us hl => match us, hl with | [_, _], _ => rfl)) e_has_step_form g_MOST_STEPS m_isinstance m_tuple m_len m_all
  have e_check_row_of : DefG P w K mg base 6 "check_row_of" 2 F_check_row_of := d_check_row_of (S.toSaysX.here X G 14 14 (fun _ _ _ _ _ _ us hl => match us, hl with | [_, _], _ => rfl)) e_check_kind e_has_row_form m_super ES
  have e_clamped : DefG P w K mg base 1 "clamped" 2 F_clamped := d_clamped (S.toSaysX.here X G 15 15 (fun _ _ _ _ _ _ us hl => match us, hl with | [_, _], _ => rfl)) m_max m_min m_int
  have e_clamps_joined : DefG P w K mg base 2 "clamps_joined" 2 F_clamps_joined := d_clamps_joined (S.toSaysX.here X G 16 16 (fun _ _ _ _ _ _ us hl => match us, hl with | [_, _], _ => rfl)) e_clamped
  have e_spans_joined : DefG P w K mg base 1 "spans_joined" 2 F_spans_joined := d_spans_joined (S.toSaysX.here X G 17 17 (fun _ _ _ _ _ _ us hl => match us, hl with | [_, _], _ => rfl)) m_max m_int m_min
  have e_gauges_joined : DefG P w K mg base 3 "gauges_joined" 3 F_gauges_joined := d_gauges_joined (S.toSaysX.here X G 18 18 (fun _ _ _ _ _ _ us hl => match us, hl with | [_, _, _], _ => rfl)) e_clamps_joined e_spans_joined
  have e_signed_amount : DefG P w K mg base 1 "signed_amount" 1 F_signed_amount := d_signed_amount (S.toSaysX.here X G 19 19 (fun _ _ _ _ _ _ us hl => match us, hl with | [_], _ => rfl)) 
  have e_gauge_step_form : DefG P w K mg base 2 "gauge_step_form" 2 F_gauge_step_form := d_gauge_step_form (S.toSaysX.here X G 20 20 (fun _ _ _ _ _ _ us hl => match us, hl with | [_, _], _ => rfl)) e_signed_amount
  have e_gauge_form : DefG P w K mg base 7 "gauge_form" 2 F_gauge_form := d_gauge_form (S.toSaysX.here X G 21 21 (fun _ _ _ _ _ _ us hl => match us, hl with | [_, _], _ => rfl)) e_check_gauge e_check_row_of e_gauge_step_form e_gauges_joined
  have e__law_gauge_row : DefG P w K mg base 3 "_law_gauge_row" 3 F__law_gauge_row := d__law_gauge_row (S.toSaysX.here X G 22 22 (fun _ _ _ _ _ _ us hl => match us, hl with | [_, _, _], _ => rfl)) e__law_take e__law_one m_range m_min m_tuple
  have e__law_line_behind : DefG P w K mg base 1 "_law_line_behind" 3 F__law_line_behind := d__law_line_behind (S.toSaysX.here X G 23 23 (fun _ _ _ _ _ _ us hl => match us, hl with | [_, _, _], _ => rfl)) m_len
  have e__law_tape_behind : DefG P w K mg base 1 "_law_tape_behind" 2 F__law_tape_behind := d__law_tape_behind (S.toSaysX.here X G 24 24 (fun _ _ _ _ _ _ us hl => match us, hl with | [_, _], _ => rfl)) m_tuple m_sorted m_list m_int
  have e__law_behind : DefG P w K mg base 2 "_law_behind" 3 F__law_behind := d__law_behind (S.toSaysX.here X G 25 25 (fun _ _ _ _ _ _ us hl => match us, hl with | [_, _, _], _ => rfl)) e__law_line_behind e__law_tape_behind m_tuple m_sorted m_list m_int m_max m_min m_str
  have e__law_left : DefG P w K mg base 3 "_law_left" 3 F__law_left := d__law_left (S.toSaysX.here X G 26 26 (fun _ _ _ _ _ _ us hl => match us, hl with | [_, _, _], _ => rfl)) e__law_behind
  have e__law_map : DefG P w K mg base 4 "_law_map" 2 F__law_map := d__law_map (S.toSaysX.here X G 27 27 (fun _ _ _ _ _ _ us hl => match us, hl with | [_, _], _ => rfl)) e__law_left m_range
  have e__law_told_form : DefG P w K mg base 5 "_law_told_form" 2 F__law_told_form := d__law_told_form (S.toSaysX.here X G 28 28 (fun _ _ _ _ _ _ us hl => match us, hl with | [_, _], _ => rfl)) e__law_map m_len m_range m_sum
  have e__law_heard : DefG P w K mg base 1 "_law_heard" 1 F__law_heard := d__law_heard (S.toSaysX.here X G 29 29 (fun _ _ _ _ _ _ us hl => match us, hl with | [_], _ => rfl)) m_isinstance ES
  have e_is_clamp : DefG P w K mg base 1 "is_clamp" 2 F_is_clamp := d_is_clamp (S.toSaysX.here X G 30 30 (fun _ _ _ _ _ _ us hl => match us, hl with | [_, _], _ => rfl)) 
  have e_is_tuple_of : DefG P w K mg base 1 "is_tuple_of" 2 F_is_tuple_of := d_is_tuple_of (S.toSaysX.here X G 31 31 (fun _ _ _ _ _ _ us hl => match us, hl with | [_, _], _ => rfl)) m_isinstance m_tuple m_len
  have e_has_gauge_form : DefG P w K mg base 2 "has_gauge_form" 2 F_has_gauge_form := d_has_gauge_form (S.toSaysX.here X G 32 32 (fun _ _ _ _ _ _ us hl => match us, hl with | [_, _], _ => rfl)) e_is_tuple_of e_is_whole e_is_clamp m_all
  have e_check_gauge_form : DefG P w K mg base 5 "check_gauge_form" 2 F_check_gauge_form := d_check_gauge_form (S.toSaysX.here X G 33 33 (fun _ _ _ _ _ _ us hl => match us, hl with | [_, _], _ => rfl)) e_check_gauge e_has_gauge_form m_super ES
  have e_is_word : DefG P w K mg base 2 "is_word" 1 F_is_word := d_is_word (S.toSaysX.here X G 34 34 (fun _ _ _ _ _ _ us hl => match us, hl with | [_], _ => rfl)) e_is_letter m_isinstance m_tuple m_all
  have e_is_short_word : DefG P w K mg base 3 "is_short_word" 1 F_is_short_word := d_is_short_word (S.toSaysX.here X G 35 35 (fun _ _ _ _ _ _ us hl => match us, hl with | [_], _ => rfl)) e_is_word g_MOST_LETTERS m_isinstance m_tuple m_len
  have e_are_rising : DefG P w K mg base 1 "are_rising" 1 F_are_rising := d_are_rising (S.toSaysX.here X G 36 36 (fun _ _ _ _ _ _ us hl => match us, hl with | [_], _ => rfl)) m_all m_zip
  have e_are_tape_pairs : DefG P w K mg base 2 "are_tape_pairs" 1 F_are_tape_pairs := d_are_tape_pairs (S.toSaysX.here X G 37 37 (fun _ _ _ _ _ _ us hl => match us, hl with | [_], _ => rfl)) e_is_tuple_of e_is_whole e_is_letter e_are_rising m_isinstance m_tuple m_all
  have e_is_tape : DefG P w K mg base 3 "is_tape" 1 F_is_tape := d_is_tape (S.toSaysX.here X G 38 38 (fun _ _ _ _ _ _ us hl => match us, hl with | [_], _ => rfl)) e_is_tuple_of e_is_letter e_are_tape_pairs g_MOST_LETTERS m_len m_all
  have e_is_heap : DefG P w K mg base 3 "is_heap" 1 F_is_heap := d_is_heap (S.toSaysX.here X G 39 39 (fun _ _ _ _ _ _ us hl => match us, hl with | [_], _ => rfl)) e_is_number g_MOST_LETTERS g_MOST_IN_HEAP m_isinstance m_tuple m_len m_all m_zip
  have e_is_table_told : DefG P w K mg base 2 "is_table_told" 1 F_is_table_told := d_is_table_told (S.toSaysX.here X G 40 40 (fun _ _ _ _ _ _ us hl => match us, hl with | [_], _ => rfl)) e_is_tuple_of e_is_letter e_are_rising g_MOST_LETTERS m_isinstance m_tuple m_len m_all
  have e_has_contents_form : DefG P w K mg base 4 "has_contents_form" 2 F_has_contents_form := d_has_contents_form (S.toSaysX.here X G 41 41 (fun _ _ _ _ _ _ us hl => match us, hl with | [_, _], _ => rfl)) e_is_short_word e_is_tape e_is_heap e_is_number e_is_table_told m_len
  have e_check_contents : DefG P w K mg base 5 "check_contents" 2 F_check_contents := d_check_contents (S.toSaysX.here X G 42 42 (fun _ _ _ _ _ _ us hl => match us, hl with | [_, _], _ => rfl)) e_has_contents_form m_super ES
  have e_check_gauge_contents : DefG P w K mg base 6 "check_gauge_contents" 3 F_check_gauge_contents := d_check_gauge_contents (S.toSaysX.here X G 43 43 (fun _ _ _ _ _ _ us hl => match us, hl with | [_, _, _], _ => rfl)) e_check_gauge_form e_check_contents
  have e_bears : DefG P w K mg base 1 "bears" 3 F_bears := d_bears (S.toSaysX.here X G 44 44 (fun _ _ _ _ _ _ us hl => match us, hl with | [_, _, _], _ => rfl)) 
  have e_gauge_works : DefG P w K mg base 7 "gauge_works" 3 F_gauge_works := d_gauge_works (S.toSaysX.here X G 45 45 (fun _ _ _ _ _ _ us hl => match us, hl with | [_, _, _], _ => rfl)) e_check_gauge_contents e_bears
  have e_gauge_left : DefG P w K mg base 7 "gauge_left" 3 F_gauge_left := d_gauge_left (S.toSaysX.here X G 46 46 (fun _ _ _ _ _ _ us hl => match us, hl with | [_, _, _], _ => rfl)) e_check_gauge_contents e_bears e_clamped
  have e__law_called : DefG P w K mg base 8 "_law_called" 4 F__law_called := d__law_called (S.toSaysX.here X G 47 47 (fun _ _ _ _ _ _ us hl => match us, hl with | [_, _, _, _], _ => rfl)) e_gauge_works e_gauge_left
  have e__law_refusals : DefG P w K mg base 11 "_law_refusals" 3 F__law_refusals := d__law_refusals (S.toSaysX.here X G 48 48 (fun _ _ _ _ _ _ us hl => match us, hl with | [_, _, _], _ => rfl)) e__law_one e_gauge_form e__law_called m_isinstance m_range ES hh__law_heard lamd__law_refusals
  have e_law : DefG P w K mg base 12 "law" 1 F_law := d_law (S.toSaysX.here X G 49 49 (fun _ _ _ _ _ _ us hl => match us, hl with | [_], _ => rfl)) e__law_pool e__law_gauge e__law_gauge_row e_gauge_form e__law_told_form e__law_map e__law_left e_gauge_left e_gauge_works e__law_refusals m_max m_min m_len m_range
  exact e_law
theorem left : Behind R.prog q loose (fun s => PySem.W.xlAt q [] s && PySem.W.recOk R.toRowW.records s) hk.obs hk.val :=
  behindD (env := E0) (dp := HDK.dposOf (HDK.valOf (HDK.stAt P 18))) ob_eq (by kernel_rfl) (fun s => by kernel_rfl) r1 r2 r3 rfl (by decide +kernel) rfl (by kernel_rfl) (by decide +kernel) run
end S35
section
open PySem PySem.W PySem.Calls PyProof.Rows
theorem S35.holds (hF : ∀ ns : List Int, ns.length ≤ 63 → ∃ own ss, S35.F_law [.sh (.list (ns.map PyData.int))] = .ret own (.bool true) ss) : PySem.Challenge.rw_boxeffects_k35_gauges_by_their_forms.Holds := by
  w_on; o_law
  refine HDK.holds3 (r := OpenLaw.row PySem.Challenge.rw_boxeffects_k35_gauges_by_their_forms) (q := S35.q) (loose := S35.loose) (H := S35.hk) (d := HandSHeadRun.topDef (OpenLaw.row PySem.Challenge.rw_boxeffects_k35_gauges_by_their_forms).prog 72) S35.left (by kernel_rfl) (by kernel_rfl) (by kernel_rfl) (by rfl) (by first | assumption | decide +kernel) (by decide +kernel) ⟨rfl, rfl, rfl, rfl, rfl, by decide +kernel⟩ ?hw ?hc
  case hw => w_witness2
  case hc => exact VL.law_endL (l := PySem.Challenge.rw_boxeffects_k35_gauges_by_their_forms) (n := 63) (k := 12) (lams := S35.LAMS) rfl (by decide) (by kernel_rfl) ⟨rfl, by decide, by decide⟩ (by kernel_rfl) (fun w K mg h X G S hT base TB => S35.defs X G S hT base TB) hF

end


set_option Elab.async false
set_option linter.all false
set_option maxRecDepth 100000
set_option maxHeartbeats 4000000
/-! PL: running a meaning by simp. -/
namespace VL
open PySem PySem.Spec PyProof.Rows L2
/-- (a law's text has its own) -/
instance (priority := 10) : TbP := ⟨[]⟩
section
variable {α β : Type} {a : α} {e env : En} {x : Xc} {i j : Nat} {d : D} {f g fa fb : EF} {fs : AF} {r r' : Rv} {rs : List Rv}
@[simp] theorem x_bind_ok {k : α → En → Rs β} : (Rs.ok a e).bind k = k a e := rfl
@[simp] theorem x_bind_no {k : α → En → Rs β} : (Rs.no : Rs α).bind k = .no := rfl
@[simp] theorem x_st_ok {k : α → En → Rb} : (Rs.ok a e).st k = k a e := rfl
@[simp] theorem x_st_no {k : α → En → Rb} : (Rs.no : Rs α).st k = .no := rfl
@[simp] theorem x_seq_nx {k : En → Rb} : (Rb.nx e).seq k = k e := rfl
@[simp] theorem x_seq_rt {k : En → Rb} : (Rb.rt r e).seq k = .rt r e := rfl
@[simp] theorem x_seq_no {k : En → Rb} : (Rb.no).seq k = .no := rfl
@[simp] theorem x_seq_bk {k : En → Rb} : (Rb.bk e).seq k = .bk e := rfl
@[simp] theorem x_seq_ct {k : En → Rb} : (Rb.ct e).seq k = .ct e := rfl
@[simp] theorem x_seqF {f g : SF} : seqF f g env = (f env).seq g := rfl
@[simp] theorem x_passF : passF env = .nx env := rfl
@[simp] theorem x_noS : noS env = .no := rfl
@[simp] theorem x_brkF : brkF env = .bk env := rfl
@[simp] theorem x_contF : contF env = .ct env := rfl
@[simp] theorem x_retF : retF f env = (f env).st fun r e => .rt r e := rfl
@[simp] theorem x_exprF : exprF f env = (f env).st fun _ e => .nx e := rfl
@[simp] theorem x_ifS {t : TF} {f g : SF} : ifS t f g env = (t env).st fun b e => if b = true then f e else g e := rfl
@[simp] theorem x_cF : cF d env = .ok (.sh d) env := rfl
@[simp] theorem x_nilF : nilF env = .ok [] env := rfl
@[simp] theorem x_consF : consF f fs env = (f env).bind fun r e => (fs e).bind fun rs e2 => .ok (r :: rs) e2 := rfl
@[simp] theorem x_nmF : nmF i env = match env[i]? with
  | some (.sh d) => .ok (.sh d) env
  | some (.iz d) => .ok (.sh d) env
  | some (.ow _) => .ok (.bo i) env
  | some (.io _) => .ok (.bo i) env
  | _ => .no := rfl
@[simp] theorem x_rd_sh : rd e (.sh d) = some d := rfl
@[simp] theorem x_rd_tm : rd e (.tm d) = some d := rfl
@[simp] theorem x_rd_bo : rd e (.bo i) = match e[i]? with
  | some s => s.rd
  | none => none := rfl
@[simp] theorem x_srd_sh : (Sl.sh d).rd = some d := rfl
@[simp] theorem x_srd_ow : (Sl.ow d).rd = some d := rfl
@[simp] theorem x_srd_io : (Sl.io d).rd = some d := rfl
@[simp] theorem x_srd_iz : (Sl.iz d).rd = some d := rfl
@[simp] theorem x_opF {g : G2} : opF g fa fb env = (fa env).bind fun r1 e1 => (fb e1).bind fun r2 e2 => match rd e2 r1, rd e2 r2 with
  | some x, some y => out1 (g x y) e2
  | _, _ => .no := rfl
@[simp] theorem x_unF {g : G1} : unF g fa env = (fa env).bind fun r1 e1 => match rd e1 r1 with
  | some x => out1 (g x) e1
  | none => .no := rfl
@[simp] theorem x_cbF {g : GC} : cbF g fs env = (fs env).bind fun rs e => match rdAll e rs with
  | some ds => out1 (g ds) e
  | none => .no := rfl
@[simp] theorem x_rdAll_nil : rdAll e [] = some [] := rfl
@[simp] theorem x_rdAll_cons : rdAll e (r :: rs) = match rd e r, rdAll e rs with
    | some d, some ds => some (d :: ds)
    | _, _ => none := rfl
@[simp] theorem x_out_some : out1 (some r) e = .ok r e := rfl
@[simp] theorem x_out_none : out1 none e = .no := rfl
@[simp] theorem x_boolF : boolF f env = (f env).bind fun r e => match rd e r with
  | some (.bool b) => .ok b e
  | _ => .no := rfl
@[simp] theorem x_truF : truF f env = (f env).bind truR := rfl
@[simp] theorem x_truR : truR r e = match rd e r with
  | some d => (match truD d with
    | some b => .ok b e
    | none => .no)
  | none => .no := by
  unfold truR
  cases rd e r <;> rfl
@[simp] theorem x_truD_bool {b : Bool} : truD (.bool b) = some b := rfl
@[simp] theorem x_andT {f g : TF} : andT f g env = (f env).bind fun b e => if b = true then g e else .ok false e := rfl
@[simp] theorem x_orT {f g : TF} : orT f g env = (f env).bind fun b e => if b = true then .ok true e else g e := rfl
@[simp] theorem x_notT {f : TF} : notT f env = (f env).bind fun b e => .ok (!b) e := rfl
@[simp] theorem x_ifE {t : TF} : ifE t f g env = (t env).bind fun k e => if k = true then f e else g e := rfl
@[simp] theorem x_andE : andE f g env = (f env).bind fun r e => (truR r e).bind fun b e => if b = true then g e else .ok r e := rfl
@[simp] theorem x_orE : orE f g env = (f env).bind fun r e => (truR r e).bind fun b e => if b = true then .ok r e else g e := rfl
@[simp] theorem x_notE : notE f env = (f env).bind fun r e => (truR r e).bind fun b e => .ok (.sh (.bool (!b))) e := rfl
@[simp] theorem x_setF : setF i f env = (f env).st fun r e => asgS i r e := rfl
@[simp] theorem x_asg_tm : asgS i (.tm d) e = match putS e i (.ow d) with
    | some e2 => .nx e2
    | none => .no := rfl
@[simp] theorem x_asg_sh : asgS i (.sh d) e = match putS e i (.sh d) with
    | some e2 => .nx e2
    | none => .no := rfl
@[simp] theorem x_asg_bo : asgS i (.bo j) e = match frz e (.bo j) with
    | some (d, e2) => (match putS e2 i (.sh d) with
      | some e3 => .nx e3
      | none => .no)
    | none => .no := rfl
@[simp] theorem x_putS {s : Sl} : putS e i s = match e[i]? with
  | some t => if t.isIo = true then none else some (e.set i s)
  | none => none := rfl
@[simp] theorem x_io_sh : (Sl.sh d).isIo = false := rfl
@[simp] theorem x_io_ow : (Sl.ow d).isIo = false := rfl
@[simp] theorem x_io_un : Sl.un.isIo = false := rfl
@[simp] theorem x_io_io : (Sl.io d).isIo = true := rfl
@[simp] theorem x_mulF : mulF fa fb env = (fa env).bind fun r1 e1 => (fb e1).bind fun r2 e2 => match rd e2 r1, rd e2 r2 with
  | some (.list ds), some (.int k) => if isOwned e2 r1 = true ∧ -(2 ^ 63) ≤ k ∧ k < 2 ^ 63 ∧ ds.length * k.toNat ≤ LIM then .ok (.tm (.list (List.replicate k.toNat ds).flatten)) e2 else .no
  | some x, some y => out1 (mulG2 x y) e2
  | _, _ => .no := by
  unfold mulF
  rfl
variable {m n : Int}
@[simp] theorem x_mulG2 : mulG2 (.int m) (.int n) = if mulOk m n = true then some (.sh (.int (m * n))) else none := by
  unfold mulG2 orG mulG intG tupMulG
  by_cases h : mulOk m n = true <;> simp [h]
@[simp] theorem x_add : addG (.int m) (.int n) = some (.sh (.int (m + n))) := rfl
@[simp] theorem x_sub : subG (.int m) (.int n) = some (.sh (.int (m - n))) := rfl
@[simp] theorem x_mod : modG (.int m) (.int n) = if 0 < n then some (.sh (.int (m % n))) else none := by
  unfold modG intG
  by_cases h : 0 < n <;> simp [h]
@[simp] theorem x_fdiv : fdivG (.int m) (.int n) = if 0 < n ∧ n.natAbs.log2 < 9000 then some (.sh (.int (m / n))) else none := by
  unfold fdivG intG
  by_cases h : 0 < n <;> by_cases h2 : n.natAbs.log2 < 9000 <;> simp [h, h2]
@[simp] theorem x_neg : negG (.int m) = some (.sh (.int (-m))) := rfl
@[simp] theorem x_lt : ltG (.int m) (.int n) = some (.sh (.bool (decide (m < n)))) := rfl
@[simp] theorem x_le : leG (.int m) (.int n) = some (.sh (.bool (decide (m ≤ n)))) := rfl
@[simp] theorem x_gt : gtG (.int m) (.int n) = some (.sh (.bool (decide (n < m)))) := rfl
@[simp] theorem x_ge : geG (.int m) (.int n) = some (.sh (.bool (decide (n ≤ m)))) := rfl
@[simp] theorem x_int : intC [.int m] = some (.sh (.int m)) := rfl
@[simp] theorem x_intb {b : Bool} : intC [.bool b] = some (.sh (.int (if b then 1 else 0))) := rfl
@[simp] theorem x_ii2 {f : Int → Int → Int} : ii2 f [.int m, .int n] = some (.sh (.int (f m n))) := rfl
theorem mulOk_r (h : -(2 ^ 64) < n ∧ n < 2 ^ 64) : mulOk m n = true := by
  unfold mulOk
  simp only [Bool.or_eq_true, decide_eq_true_eq]
  exact .inl (.inr h)
@[simp] theorem x_stoF {f fo fi : EF} : stoF f fo fi env = (f env).st fun r e1 => (fo e1).st fun ro e2 => match ro with
  | .bo i => (fi e2).st fun ri e3 => (match rd e3 ri, frz e3 r with
    | some ix, some (d, e4) => (match mutS e4 i with
      | some d0 => (match stoG d0 ix d with
        | some d' => .nx (mutP e4 i d')
        | none => .no)
      | none => .no)
    | _, _ => .no)
  | _ => .no := rfl
@[simp] theorem x_frz_sh : frz e (.sh d) = some (d, e) := rfl
@[simp] theorem x_mutS : mutS e i = match e[i]? with
  | some (.ow d) => some d
  | some (.io d) => some d
  | _ => none := by
  unfold mutS
  rfl
variable {F : FD} {rs : List Rv} {vs : List Nat} {it : IF} {tgt : GF} {tt : TF} {el : EF} {body : SF} {ds es : List D} {ss : En} {own : Bool}
@[simp] theorem x_callF : callF F fs env = (fs env).bind fun rs e => match agsOf e rs with
  | some as => if once e rs = true then (match F as with
    | .ret true d ss => .ok (.tm d) (backE e rs ss)
    | .ret false d ss => .ok (.sh d) (backE e rs ss)
    | .exc x ss => .ex x (backE e rs ss)
    | .no => .no) else .no
  | none => .no := rfl
@[simp] theorem x_ags_nil : agsOf e [] = some [] := rfl
@[simp] theorem x_ags_cons : agsOf e (r :: rs) = match agOf e r, agsOf e rs with
    | some a, some as => some (a :: as)
    | _, _ => none := rfl
@[simp] theorem x_ag_sh : agOf e (.sh d) = some (.sh d) := rfl
@[simp] theorem x_ag_tm : agOf e (.tm d) = some (.ob d) := rfl
@[simp] theorem x_ag_bo : agOf e (.bo i) = match e[i]? with
    | some (.ow d) => some (.ob d)
    | some (.io d) => some (.ob d)
    | some (.sh d) => some (.sh d)
    | some (.iz d) => some (.sh d)
    | _ => none := rfl
@[simp] theorem x_once_nil : once e [] = true := rfl
@[simp] theorem x_once_sh : once e (.sh d :: rs) = once e rs := rfl
@[simp] theorem x_once_tm : once e (.tm d :: rs) = once e rs := rfl
@[simp] theorem x_once_bo : once e (.bo i :: rs) = (((mutS e i).isNone || !(rs.any (isBo i))) && once e rs) := rfl
@[simp] theorem x_isBo_sh : isBo i (.sh d) = false := rfl
@[simp] theorem x_isBo_tm : isBo i (.tm d) = false := rfl
@[simp] theorem x_isBo_bo : isBo i (.bo j) = (i == j) := rfl
@[simp] theorem x_backE : backE e rs ss = e.mapIdx fun j s => backS s (lookB j rs ss) := rfl
@[simp] theorem x_look_nil : lookB j [] ss = none := by cases ss <;> rfl
@[simp] theorem x_look_nil2 : lookB j rs [] = none := by
  cases rs with
  | nil => rfl
  | cons r rs => cases r <;> rfl
@[simp] theorem x_look_bo {s : Sl} : lookB j (.bo i :: rs) (s :: ss) = if i = j then some s else lookB j rs ss := rfl
@[simp] theorem x_look_sh {s : Sl} : lookB j (.sh d :: rs) (s :: ss) = lookB j rs ss := rfl
@[simp] theorem x_look_tm {s : Sl} : lookB j (.tm d :: rs) (s :: ss) = lookB j rs ss := rfl
variable {d' : D} {s : Sl} {o : Option Sl}
@[simp] theorem x_back_none : backS s none = s := by cases s <;> rfl
@[simp] theorem x_back_ow : backS (.ow d) (some (.io d')) = .ow d' := rfl
@[simp] theorem x_back_owz : backS (.ow d) (some (.iz d')) = .sh d' := rfl
@[simp] theorem x_back_io : backS (.io d) (some (.io d')) = .io d' := rfl
@[simp] theorem x_back_ioz : backS (.io d) (some (.iz d')) = .iz d' := rfl
@[simp] theorem x_back_sh : backS (.sh d) o = .sh d := by cases o <;> rfl
@[simp] theorem x_back_un : backS .un o = .un := by cases o <;> rfl
@[simp] theorem x_tupF : tupF fs env = (fs env).bind fun rs e => match frzAll e rs with
  | some (ds, e2) => if ds.length ≤ LIM then .ok (.sh (.tuple ds)) e2 else .no
  | none => .no := rfl
@[simp] theorem x_lstF : lstF fs env = (fs env).bind fun rs e => match frzAll e rs with
  | some (ds, e2) => if ds.length ≤ LIM then .ok (.tm (.list ds)) e2 else .no
  | none => .no := rfl
@[simp] theorem x_frza_nil : frzAll e [] = some ([], e) := rfl
@[simp] theorem x_frza_cons : frzAll e (r :: rs) = match frz e r with
    | some (d, e2) => (match frzAll e2 rs with
      | some (ds, e3) => some (d :: ds, e3)
      | none => none)
    | none => none := rfl
@[simp] theorem x_frz_tm : frz e (.tm d) = some (d, e) := rfl
@[simp] theorem x_frz_bo : frz e (.bo i) = match e[i]? with
    | some (.sh d) => some (d, e)
    | some (.iz d) => some (d, e)
    | some (.ow d) => some (d, e.set i (.sh d))
    | some (.io d) => some (d, e.set i (.iz d))
    | _ => none := rfl
@[simp] theorem x_lcF : lcF it vs tgt tt el env = (it env).bind fun items e => match lcGo (lcStep vs tgt tt el) items e [] with
  | some (acc, e2) => .ok (.tm (.list acc)) e2
  | none => .no := rfl
@[simp] theorem x_forF : forF it tgt body env = (it env).st fun items e => forGo tgt body items e := rfl
@[simp] theorem x_itF : itF f env = (f env).bind fun r e => match frz e r with
  | some (d, e2) => (match itemsD d with
    | some l => .ok l e2
    | none => .no)
  | none => .no := rfl
/-- (by choice, so that the kernel does not count) -/
noncomputable def rngB (j : Int) : Bool := @decide (-(2 ^ 62) ≤ j ∧ j < 2 ^ 62) (Classical.propDecidable _)
theorem rngB_of {j : Int} (h : -(2 ^ 62) ≤ j ∧ j < 2 ^ 62) : rngB j = true := @decide_eq_true _ (Classical.propDecidable _) h
theorem of_rngB {j : Int} (h : rngB j = true) : -(2 ^ 62) ≤ j ∧ j < 2 ^ 62 := @of_decide_eq_true _ (Classical.propDecidable _) h
noncomputable def rngK (rs : List Rv) (e : En) : Rs (List D) := match rdAll e rs with
  | some [.int j] => if rngB j = true then .ok (rangeD 0 j.toNat) e else .no
  | _ => .no
@[simp] theorem x_rngF : rngF fs env = (fs env).bind rngK := by
  unfold rngF
  cases fs env with
  | ok rs e =>
    simp only [x_bind_ok]
    unfold rngK
    generalize rdAll e rs = q
    split
    · rename_i j
      by_cases h : -(2 ^ 62) ≤ j ∧ j < 2 ^ 62
      · rw [if_pos h]; try dsimp only
        rw [if_pos (rngB_of h)]
      · rw [if_neg h]; try dsimp only
        rw [if_neg (fun q => h (of_rngB q))]
    · rename_i hq
      first
        | rfl
        | (split
           · exact (hq _ rfl).elim
           · rfl)
  | ex x e => rfl
  | no => rfl
@[simp] theorem x_rngK1 : rngK [r] e = match rd e r with
    | some (.int j) => if rngB j = true then .ok (rangeD 0 j.toNat) e else .no
    | _ => .no := by
  unfold rngK
  simp only [x_rdAll_cons, x_rdAll_nil]
  cases rd e r with
  | none => rfl
  | some d => cases d <;> rfl
noncomputable def rng2K (rs : List Rv) (e : En) : Rs (List D) := match rdAll e rs with
  | some [.int i, .int j] => if rngB i = true ∧ rngB j = true then .ok (rangeD i (j - i).toNat) e else .no
  | _ => .no
@[simp] theorem x_rng2F : rng2F fs env = (fs env).bind rng2K := by
  unfold rng2F
  cases fs env with
  | ok rs e =>
    simp only [x_bind_ok]
    unfold rng2K
    generalize rdAll e rs = q
    split
    · rename_i i j
      by_cases h : -(2 ^ 62) ≤ i ∧ i < 2 ^ 62 ∧ -(2 ^ 62) ≤ j ∧ j < 2 ^ 62
      · rw [if_pos h]; try dsimp only
        rw [if_pos (show rngB i = true ∧ rngB j = true from ⟨rngB_of ⟨h.1, h.2.1⟩, rngB_of h.2.2⟩)]
      · rw [if_neg h]; try dsimp only
        rw [if_neg (show ¬ (rngB i = true ∧ rngB j = true) from fun q => h (by
          have h1 := of_rngB q.1
          have h2 := of_rngB q.2
          exact ⟨h1.1, h1.2, h2.1, h2.2⟩))]
    · rename_i hq
      first
        | rfl
        | (split
           · exact (hq _ _ rfl).elim
           · rfl)
  | ex x e => rfl
  | no => rfl
@[simp] theorem x_rng2K : rng2K [r, r'] e = match rd e r, rd e r' with
    | some (.int i), some (.int j) => if rngB i = true ∧ rngB j = true then .ok (rangeD i (j - i).toNat) e else .no
    | _, _ => .no := by
  unfold rng2K
  simp only [x_rdAll_cons, x_rdAll_nil]
  cases rd e r with
  | none => rfl
  | some d =>
    cases rd e r' with
    | none => cases d <;> rfl
    | some d' => cases d <;> cases d' <;> rfl
theorem rngB_nat {n : Nat} (h : n < 1000000) : rngB (n : Int) = true := by
  exact rngB_of ⟨by omega, by omega⟩
theorem rngB_lit {n : Int} (h : -1000000 < n ∧ n < 1000000) : rngB n = true := by
  exact rngB_of ⟨by omega, by omega⟩
@[simp] theorem rngB_0 : rngB 0 = true := rngB_lit (by decide)
@[simp] theorem rngB_1 : rngB 1 = true := rngB_lit (by decide)
@[simp] theorem rngB_2 : rngB 2 = true := rngB_lit (by decide)
@[simp] theorem rngB_3 : rngB 3 = true := rngB_lit (by decide)
@[simp] theorem rngB_4 : rngB 4 = true := rngB_lit (by decide)
@[simp] theorem rngB_5 : rngB 5 = true := rngB_lit (by decide)
@[simp] theorem x_items_l : itemsD (.list ds) = some ds := rfl
@[simp] theorem x_items_t : itemsD (.tuple ds) = some ds := rfl
@[simp] theorem x_len_l : lenG [.list ds] = some (.sh (.int ds.length)) := rfl
@[simp] theorem x_len_t : lenG [.tuple ds] = some (.sh (.int ds.length)) := rfl
@[simp] theorem x_tuple_l : tupleC [.list ds] = some (.sh (.tuple ds)) := rfl
@[simp] theorem x_tuple_t : tupleC [.tuple ds] = some (.sh (.tuple ds)) := rfl
@[simp] theorem x_tgN : tgN i d e = putS e i (.sh d) := rfl
@[simp] theorem x_ix_l : ixG (.list ds) (.int m) = (atI ds m).map .sh := by
  show (match (atI ds m).map Rv.sh with
    | some z => some z
    | none => none) = _
  cases atI ds m <;> rfl
@[simp] theorem x_ix_t : ixG (.tuple ds) (.int m) = (atI ds m).map .sh := by
  show (match (atI ds m).map Rv.sh with
    | some z => some z
    | none => none) = _
  cases atI ds m <;> rfl
@[simp] theorem x_atI {α : Type} {l : List α} {k : Nat} : atI l (k : Int) = l[k]? := by
  unfold atI ixN
  by_cases h : k < l.length
  · have h1 : (0 : Int) ≤ k := by omega
    simp [h1, h]
  · have h1 : (0 : Int) ≤ k := by omega
    simp [h1, h]
theorem seq_to {f g : SF} {e : En} (h : f env = .nx e) : seqF f g env = g e := by rw [x_seqF, h, x_seq_nx]
/-- a loop that keeps an invariant -/
theorem for_nx (Inv : List D → En → Prop) (st : ∀ d rest e, Inv (d :: rest) e → ∃ e1 e2, tgt d e = some e1 ∧ (body e1 = .nx e2 ∨ body e1 = .ct e2) ∧ Inv rest e2) : ∀ (l : List D) (e : En), Inv l e → ∃ e', forGo tgt body l e = .nx e' ∧ Inv [] e'
  | [], e, h => ⟨e, rfl, h⟩
  | d :: l, e, h => by
    obtain ⟨e1, e2, h1, h2, h3⟩ := st d l e h
    obtain ⟨e', h4, h5⟩ := for_nx Inv st l e2 h3
    refine ⟨e', ?_, h5⟩
    unfold forGo
    rw [h1]
    rcases h2 with h2 | h2 <;> simp only [h2] <;> exact h4
/-- a comprehension that keeps an invariant: each turn puts one -/
theorem lc_all {stp : D → En → Option (Option D × En)} (Inv : List D → List D → En → Prop) (st : ∀ d rest acc e, Inv (d :: rest) acc e → acc.length < LIM ∧ ∃ y e2, stp d e = some (some y, e2) ∧ Inv rest (acc ++ [y]) e2) : ∀ (l acc : List D) (e : En), Inv l acc e → ∃ acc' e', lcGo stp l e acc = some (acc', e') ∧ Inv [] acc' e'
  | [], acc, e, h => ⟨acc, e, rfl, h⟩
  | d :: l, acc, e, h => by
    obtain ⟨hl, y, e2, h1, h2⟩ := st d l acc e h
    obtain ⟨a, e', h3, h4⟩ := lc_all Inv st l _ e2 h2
    refine ⟨a, e', ?_, h4⟩
    unfold lcGo
    rw [h1]
    simp only [if_pos hl]
    exact h3
/-- a comprehension that leaves the slots as they are -/
theorem lc_map {stp : D → En → Option (Option D × En)} {g : D → D} : ∀ (l acc : List D), (∀ d ∈ l, stp d e = some (some (g d), e)) → acc.length + l.length ≤ LIM → lcGo stp l e acc = some (acc ++ l.map g, e)
  | [], acc, _, _ => by simp [lcGo]
  | d :: l, acc, h, hl => by
    unfold lcGo
    rw [h d List.mem_cons_self]
    simp only [List.length_cons] at hl
    have : acc.length < LIM := by omega
    simp only [if_pos this]
    rw [lc_map l (acc ++ [g d]) (fun x hx => h x (List.mem_cons_of_mem _ hx)) (by simp; omega)]
    simp
@[simp] theorem x_yesF : yesF env = .ok true env := rfl
@[simp] theorem x_isiF {T : String} : isiF T f env = unF (isiG T) f env := rfl
@[simp] theorem x_isi_t {T : String} : isiG T (.tuple ds) = some (.sh (.bool (isiTb "tuple" T))) := rfl
@[simp] theorem x_isi_s {T : String} {z : Str} : isiG T (.str z) = some (.sh (.bool (isiTb "str" T))) := rfl
@[simp] theorem x_isi_n {T : String} : isiG T .none = some (.sh (.bool (isiTb "NoneType" T))) := rfl
@[simp] theorem x_isi_i {T : String} : isiG T (.int m) = some (.sh (.bool (isiTb "int" T))) := rfl
@[simp] theorem x_isTb_tt : isiTb "tuple" "tuple" = true := rfl
@[simp] theorem x_isTb_ss : isiTb "str" "str" = true := rfl
@[simp] theorem x_isTb_ii : isiTb "int" "int" = true := rfl
@[simp] theorem x_isTb_ib : isiTb "int" "bool" = false := rfl
@[simp] theorem x_isTb_nt : isiTb "NoneType" "tuple" = false := rfl
@[simp] theorem x_isTb_st : isiTb "str" "tuple" = false := rfl
theorem bools_map : ∀ (n : Nat), boolsD (List.replicate n (PyData.bool true)) = some (List.replicate n true)
  | 0 => rfl
  | n + 1 => by
    rw [List.replicate_succ, List.replicate_succ]
    unfold boolsD
    rw [bools_map n]
    rfl
theorem all_true (n : Nat) : allC [.list (List.replicate n (PyData.bool true))] = some (.sh (.bool true)) := by
  show (boolsD _).map _ = _
  rw [bools_map n]
  simp
variable {l h : OF} {lo hi : Option Int}
@[simp] theorem x_slF : slF f l h env = (f env).bind fun r e1 => (l e1).bind fun lo e2 => (h e2).bind fun hi e3 => match rd e3 r with
  | some d => out1 (sliceG d lo hi) e3
  | none => .no := rfl
@[simp] theorem x_noneF : noneF env = .ok none env := rfl
@[simp] theorem x_someF : someF f env = (f env).bind fun r e => match rd e r with
  | some (.int i) => .ok (some i) e
  | _ => .no := rfl
@[simp] theorem x_slice_l : sliceG (.list ds) lo hi = some (.tm (.list (cutX ds lo hi))) := rfl
@[simp] theorem x_slice_t : sliceG (.tuple ds) lo hi = some (.sh (.tuple (cutX ds lo hi))) := rfl
theorem minI_nat {a b : Nat} : minI (a : Int) (b : Int) = ((min a b : Nat) : Int) := by
  unfold minI
  by_cases h : b < a
  · rw [if_pos (by omega)]; omega
  · rw [if_neg (by omega)]; omega
theorem cut_to {α : Type} {l : List α} {k : Nat} : cutX l none (some (k : Int)) = l.take k := by
  unfold cutX
  rw [HT.sIx_none, HT.sIx_nat, List.drop_zero, Nat.sub_zero]
  by_cases h : k ≤ l.length
  · rw [Nat.min_eq_left h]
  · rw [Nat.min_eq_right (by omega), List.take_of_length_le (Nat.le_refl _), List.take_of_length_le (by omega)]
theorem cut_from {α : Type} {l : List α} {k : Nat} : cutX l (some (k : Int)) none = l.drop k := by
  unfold cutX
  rw [HT.sIx_none, HT.sIx_nat]
  by_cases h : k ≤ l.length
  · rw [Nat.min_eq_left h]
    apply List.take_of_length_le
    simp
  · rw [Nat.min_eq_right (by omega), List.drop_of_length_le (Nat.le_refl _), List.drop_of_length_le (by omega)]
    simp
theorem cat_t (h : ds.length + es.length ≤ LIM) : addG (.tuple ds) (.tuple es) = some (.sh (.tuple (ds ++ es))) := by
  unfold addG orG intG strCatG lstCatG tupCatG
  simp [h]
theorem cat_l (h : ds.length + es.length ≤ LIM) : addG (.list ds) (.list es) = some (.tm (.list (ds ++ es))) := by
  unfold addG orG intG strCatG lstCatG
  simp [h]
variable {t : GF} {u : List D → En → Option En} {is : List Nat} {k : Nat} {T : String} {gm : GM}
@[simp] theorem x_tgs_nil : tgsNil [] e = some e := rfl
@[simp] theorem x_tgs_cons : tgsCons t u (d :: ds) e = (t d e).bind (u ds) := rfl
@[simp] theorem x_tgS_t : tgS k u (.tuple ds) e = if ds.length = k then u ds e else none := rfl
@[simp] theorem x_tgS_l : tgS k u (.list ds) e = if ds.length = k then u ds e else none := rfl
@[simp] theorem x_asgF : asgF f t env = (f env).st fun r e => match frz e r with
  | some (d, e2) => (match t d e2 with
    | some e3 => .nx e3
    | none => .no)
  | none => .no := rfl
@[simp] theorem x_parF : parF is fs env = (fs env).st fun rs e => match settle e rs with
  | some (rs', e2) => (match putAll e2 is rs' with
    | some e3 => .nx e3
    | none => .no)
  | none => .no := rfl
@[simp] theorem x_settle_nil : settle e [] = some ([], e) := rfl
@[simp] theorem x_settle_sh : settle e (.sh d :: rs) = match settle e rs with
    | some (rs', e3) => some (.sh d :: rs', e3)
    | none => none := rfl
@[simp] theorem x_settle_tm : settle e (.tm d :: rs) = match settle e rs with
    | some (rs', e3) => some (.tm d :: rs', e3)
    | none => none := rfl
@[simp] theorem x_settle_bo : settle e (.bo i :: rs) = match frz e (.bo i) with
    | some (d, e2) => (match settle e2 rs with
      | some (rs', e3) => some (.sh d :: rs', e3)
      | none => none)
    | none => none := rfl
@[simp] theorem x_putAll_nil : VL.putAll e [] [] = some e := rfl
@[simp] theorem x_putAll_sh : VL.putAll e (i :: is) (.sh d :: rs) = (putS e i (.sh d)).bind fun e2 => VL.putAll e2 is rs := rfl
@[simp] theorem x_putAll_tm : VL.putAll e (i :: is) (.tm d :: rs) = (putS e i (.ow d)).bind fun e2 => VL.putAll e2 is rs := rfl
@[simp] theorem x_muF : muF T gm f fs env = (f env).bind fun r e1 => match r with
  | .bo i => (match mutS e1 i with
    | some d0 => if tyD d0 = T then (fs e1).bind fun rs e2 => (match frzAll e2 rs with
      | some (ds, e3) => (match mutS e3 i with
        | some d => (match gm d ds with
          | some (res, d') => .ok (.sh res) (mutP e3 i d')
          | none => .no)
        | none => .no)
      | none => .no) else .no
    | none => .no)
  | _ => .no := by
  unfold muF
  rfl
@[simp] theorem x_tyD_l : tyD (.list ds) = "list" := rfl
@[simp] theorem x_mutP : mutP e i d = match e[i]? with
  | some (.ow _) => e.set i (.ow d)
  | some (.io _) => e.set i (.io d)
  | _ => e := by
  unfold mutP
  rfl
@[simp] theorem x_app : appG (.list ds) [d] = if ds.length < LIM then some (.none, .list (ds ++ [d])) else none := rfl
@[simp] theorem x_pop : popG (.list ds) [] = (ds[ds.length - 1]?).map fun d => (d, .list ds.dropLast) := rfl
@[simp] theorem x_rev_l : rev2G (.list ds) = some (.tm (.list ds.reverse)) := rfl
@[simp] theorem x_rev_t : rev2G (.tuple ds) = some (.sh (.tuple ds.reverse)) := rfl
end
end VL


set_option Elab.async false
set_option linter.all false
set_option maxRecDepth 100000
set_option maxHeartbeats 4000000
/-! PLb: while loops, comprehensions over typed items, stars -/
namespace VL
open PySem PySem.Spec PyProof.Rows L2
theorem seq_to2 {f g : SF} {env e : En} (h : f env = .nx e) : seqF f g env = g e := by rw [x_seqF, h, x_seq_nx]
theorem wh_nx {c : TF} {body : SF} (Inv Post : En → Prop) (ms : En → Nat) (st : ∀ e, Inv e → (∃ e1, c e = .ok false e1 ∧ Post e1) ∨ (∃ e1 e2, c e = .ok true e1 ∧ (body e1 = .nx e2 ∨ body e1 = .ct e2) ∧ Inv e2 ∧ ms e2 < ms e)) :
    ∀ (n : Nat) (e : En), Inv e → ms e < n → ∃ e', whGo c body n e = .nx e' ∧ Post e'
  | 0, e, _, h => absurd h (Nat.not_lt_zero _)
  | n + 1, e, i, h => by
    rcases st e i with ⟨e1, h1, h2⟩ | ⟨e1, e2, h1, h2, h3, h4⟩
    · refine ⟨e1, ?_, h2⟩
      unfold whGo
      rw [h1]
      rfl
    · obtain ⟨e', h5, h6⟩ := wh_nx Inv Post ms st n e2 h3 (by omega)
      refine ⟨e', ?_, h6⟩
      unfold whGo
      rw [h1]
      rcases h2 with h2 | h2
      · simp only [x_st_ok, if_true, h2]; exact h5
      · simp only [x_st_ok, if_true, h2]; exact h5
theorem fuel_ok : 1000000 ≤ FUEL := by unfold FUEL; decide
theorem wh_is {c : TF} {body : SF} (Inv Post : En → Prop) (ms : En → Nat) (st : ∀ e, Inv e → (∃ e1, c e = .ok false e1 ∧ Post e1) ∨ (∃ e1 e2, c e = .ok true e1 ∧ (body e1 = .nx e2 ∨ body e1 = .ct e2) ∧ Inv e2 ∧ ms e2 < ms e))
    (e : En) (i : Inv e) (h : ms e < 1000000) : ∃ e', whF FUEL c body e = .nx e' ∧ Post e' := wh_nx Inv Post ms st FUEL e i (Nat.lt_of_lt_of_le h fuel_ok)
theorem lc_ty {τ : Type} (φ : τ → D) (p : τ → Bool) (g : τ → D) {v : Nat} {e : En} {tt : TF} {el : EF} : ∀ (xs : List τ) (acc : List D), e[v]? = some .un → (∀ x ∈ xs, tt (e.set v (.sh (φ x))) = .ok (p x) (e.set v (.sh (φ x)))) →
    (∀ x ∈ xs, p x = true → ∃ r, el (e.set v (.sh (φ x))) = .ok r (e.set v (.sh (φ x))) ∧ frz (e.set v (.sh (φ x))) r = some (g x, e.set v (.sh (φ x)))) → acc.length + xs.length ≤ LIM →
    lcGo (lcStep [v] (tgN v) tt el) (xs.map φ) e acc = some (acc ++ (xs.filter p).map g, e)
  | [], acc, _, _, _, _ => by simp [lcGo]
  | x :: xs, acc, hv, ht, he, hl => by
    simp only [List.length_cons] at hl
    have t := ht x List.mem_cons_self
    obtain ⟨hlt, hv2⟩ := List.getElem?_eq_some_iff.mp hv
    have q : (e.set v .un) = e := by rw [← hv2]; exact List.set_getElem_self hlt
    have ih := fun acc hl => lc_ty φ p g (v := v) (e := e) (tt := tt) (el := el) xs acc hv (fun y hy => ht y (List.mem_cons_of_mem _ hy)) (fun y hy => he y (List.mem_cons_of_mem _ hy)) hl
    have lt : acc.length < LIM := by omega
    cases c : p x with
    | true =>
      obtain ⟨r, h1, h2⟩ := he x List.mem_cons_self c
      rw [c] at t
      have s : lcStep [v] (tgN v) tt el (φ x) e = some (some (g x), e) := by
        simp [lcStep, clean, cleanS, wipeE, unwipe, hv2, hlt, Sl.isIo, t, h1, h2, q]
      rw [List.map_cons, lcGo, s]
      simp only [if_pos lt]
      rw [ih _ (by simp; omega), List.filter_cons_of_pos c]
      simp
    | false =>
      rw [c] at t
      have s : lcStep [v] (tgN v) tt el (φ x) e = some (none, e) := by
        simp [lcStep, clean, cleanS, wipeE, unwipe, hv2, hlt, Sl.isIo, t, q]
      rw [List.map_cons, lcGo, s]
      simp only
      rw [ih _ (by omega), List.filter_cons_of_neg (by rw [c]; simp)]
theorem runF_ow {np n : Nat} {body : SF} {as : List Ag} {e : En} {j : Nat} {d : D} (hl : as.length = np) (h : body (as.map Ag.sl ++ List.replicate (n - np) .un) = .rt (.bo j) e) (hj : e[j]? = some (.ow d)) : runF np n body as = .ret true d (outE as e) := by
  unfold runF
  rw [if_pos hl, h]
  simp only [hj]
theorem runF_sh {np n : Nat} {body : SF} {as : List Ag} {e : En} {d : D} (hl : as.length = np) (h : body (as.map Ag.sl ++ List.replicate (n - np) .un) = .rt (.sh d) e) : runF np n body as = .ret false d (outE as e) := by
  unfold runF
  rw [if_pos hl, h]
theorem runF_tm {np n : Nat} {body : SF} {as : List Ag} {e : En} {d : D} (hl : as.length = np) (h : body (as.map Ag.sl ++ List.replicate (n - np) .un) = .rt (.tm d) e) : runF np n body as = .ret true d (outE as e) := by
  unfold runF
  rw [if_pos hl, h]
theorem runF_nx {np n : Nat} {body : SF} {as : List Ag} {e : En} (hl : as.length = np) (h : body (as.map Ag.sl ++ List.replicate (n - np) .un) = .nx e) : runF np n body as = .ret false .none (outE as e) := by
  unfold runF
  rw [if_pos hl, h]
theorem tup_is {fs : AF} {env e e2 : En} {rs : List Rv} {ds : List D} (h : fs env = .ok rs e) (hf : frzAll e rs = some (ds, e2)) (hl : ds.length ≤ LIM) : tupF fs env = .ok (.sh (.tuple ds)) e2 := by
  rw [x_tupF, h, x_bind_ok, hf]
  simp only [if_pos hl]
theorem lst_is {fs : AF} {env e e2 : En} {rs : List Rv} {ds : List D} (h : fs env = .ok rs e) (hf : frzAll e rs = some (ds, e2)) (hl : ds.length ≤ LIM) : lstF fs env = .ok (.tm (.list ds)) e2 := by
  rw [x_lstF, h, x_bind_ok, hf]
  simp only [if_pos hl]
def szAt (i : Nat) (e : En) : Nat := match e[i]? with
  | some (Sl.sh (PyData.int s)) => s.toNat
  | _ => 0
theorem atI_neg1 {α : Type} (xs : List α) : atI xs (-1) = xs[xs.length - 1]? := by
  rcases List.eq_nil_or_concat xs with rfl | ⟨l, v, rfl⟩
  · rfl
  · rw [List.concat_eq_append, L2.atI_last]; simp
@[simp] theorem x_seqD_l {ds : List D} : seqD (.list ds) = some ds := rfl
@[simp] theorem x_seqD_t {ds : List D} : seqD (.tuple ds) = some ds := rfl
@[simp] theorem x_starF {f : EF} {g : AF} {env : En} : starF f g env = (f env).bind fun r e => match rd e r with
  | some d => (match seqD d with
    | some ds => (g e).bind fun rs e2 => .ok (ds.map .sh ++ rs) e2
    | none => .no)
  | none => .no := rfl
theorem frz_star {e : En} {rs : List Rv} : ∀ {ds : List D}, frzAll e (ds.map .sh ++ rs) = (match frzAll e rs with
    | some (xs, e2) => some (ds ++ xs, e2)
    | none => none)
  | [] => by
    simp only [List.map_nil, List.nil_append]
    cases frzAll e rs with
    | none => rfl
    | some p => rfl
  | d :: ds => by
    rw [List.map_cons, List.cons_append, x_frza_cons, x_frz_sh]
    simp only
    rw [frz_star (ds := ds)]
    cases frzAll e rs with
    | none => rfl
    | some p => rfl
end VL


set_option Elab.async false
set_option linter.all false
set_option maxRecDepth 100000
set_option maxHeartbeats 4000000
/-! PLc: more equations -/
namespace VL
open PySem PySem.Spec PyProof.Rows L2
section
variable {e env : En} {i : Nat} {g : Int → Int → Int} {f fa fb fc : EF} {g1 g2 : G2}
@[simp] theorem x_rdAt : rdAt env i = match env[i]? with
  | some s => s.rd
  | none => none := rfl
@[simp] theorem x_augF : augF i g f env = match rdAt env i with
  | some (.int a) => (f env).st fun r e => (match rd e r with
    | some (.int b) => (match putS e i (.sh (.int (g a b))) with
      | some e2 => .nx e2
      | none => .no)
    | _ => .no)
  | _ => .no := rfl
@[simp] theorem x_chF : chF g1 g2 fa fb fc env = (fa env).bind fun r1 e1 => (fb e1).bind fun r2 e2 => match rd e2 r1, rd e2 r2 with
  | some x, some y => (match g1 x y with
    | some (.sh (.bool true)) => (fc e2).bind fun r3 e3 => (match rd e3 r2, rd e3 r3 with
      | some y', some z => out1 (g2 y' z) e3
      | _, _ => .no)
    | some (.sh (.bool false)) => .ok (.sh (.bool false)) e2
    | _ => .no)
  | _, _ => .no := rfl
end
end VL


set_option Elab.async false
set_option linter.all false
set_option maxRecDepth 100000
set_option maxHeartbeats 4000000
/-! PLd: dict comprehensions and enumerate -/
namespace VL
open PySem PySem.Spec PyProof.Rows L2
section
variable {e env : En} {fs : AF} {it : IF} {vs : List Nat} {tgt : GF} {tt : TF} {kf vf el : EF}
@[simp] theorem x_dcF : dcF it vs tgt tt kf vf env = (it env).bind fun items e => match dcGo (dcStep vs tgt tt kf vf) items e [] with
  | some (acc, e2) => .ok (.tm (dctD acc)) e2
  | none => .no := rfl
@[simp] theorem x_enum2F : enum2F fs env = (fs env).bind fun rs e => match frzAll e rs with
  | some ([.list ds], e2) => .ok (enumD ds) e2
  | some ([.tuple ds], e2) => .ok (enumD ds) e2
  | _ => .no := rfl
end
/-- a comprehension over items of a kind, any target of two -/
theorem lc_ty2 {τ : Type} (φ : τ → D) (p : τ → Bool) (g : τ → D) {v w : Nat} (hvw : v ≠ w) {e : En} {tgt : GF} {tt : TF} {el : EF} (E : τ → En) : ∀ (xs : List τ) (acc : List D), e[v]? = some .un → e[w]? = some .un →
    (∀ x ∈ xs, tgt (φ x) e = some (E x) ∧ tt (E x) = .ok (p x) (E x) ∧ (((E x).set w .un).set v .un = e)) →
    (∀ x ∈ xs, p x = true → ∃ r, el (E x) = .ok r (E x) ∧ frz (E x) r = some (g x, E x)) → acc.length + xs.length ≤ LIM →
    lcGo (lcStep [v, w] tgt tt el) (xs.map φ) e acc = some (acc ++ (xs.filter p).map g, e)
  | [], acc, _, _, _, _, _ => by simp [lcGo]
  | x :: xs, acc, hv, hw, ht, he, hl => by
    simp only [List.length_cons] at hl
    obtain ⟨t0, t1, t2⟩ := ht x List.mem_cons_self
    obtain ⟨hlt, hv2⟩ := List.getElem?_eq_some_iff.mp hv
    obtain ⟨hlw, hw2⟩ := List.getElem?_eq_some_iff.mp hw
    have q1 : (e.set v .un) = e := by rw [← hv2]; exact List.set_getElem_self hlt
    have q2 : (e.set w .un) = e := by rw [← hw2]; exact List.set_getElem_self hlw
    have ih := fun acc hl => lc_ty2 φ p g hvw (e := e) (tgt := tgt) (tt := tt) (el := el) E xs acc hv hw (fun y hy => ht y (List.mem_cons_of_mem _ hy)) (fun y hy => he y (List.mem_cons_of_mem _ hy)) hl
    have lt : acc.length < LIM := by omega
    cases c : p x with
    | true =>
      obtain ⟨r, h1, h2⟩ := he x List.mem_cons_self c
      rw [c] at t1
      have s : lcStep [v, w] tgt tt el (φ x) e = some (some (g x), e) := by
        simp [lcStep, clean, cleanS, wipeE, unwipe, hv2, hw2, hlt, hlw, Sl.isIo, t0, t1, h1, h2, q1, q2, t2]
      rw [List.map_cons, lcGo, s]
      simp only [if_pos lt]
      rw [ih _ (by simp; omega), List.filter_cons_of_pos c]
      simp
    | false =>
      rw [c] at t1
      have s : lcStep [v, w] tgt tt el (φ x) e = some (none, e) := by
        simp [lcStep, clean, cleanS, wipeE, unwipe, hv2, hw2, hlt, hlw, Sl.isIo, t0, t1, q1, q2, t2]
      rw [List.map_cons, lcGo, s]
      simp only
      rw [ih _ (by omega), List.filter_cons_of_neg (by rw [c]; simp)]
end VL


set_option Elab.async false
set_option linter.all false
set_option maxRecDepth 100000
set_option maxHeartbeats 4000000
/-! PLe: equations for errors -/
namespace VL
open PySem PySem.Spec PyProof.Rows L2
section
variable {α β : Type} {x : Xc} {e env : En} {c fl : Str} {f fa fb : EF} {CT : Ct} {i : Nat} {fs : SF} {cs : List (Str × (Xc → SF))} {d : D}
@[simp] theorem x_bind_ex {k : α → En → Rs β} : (Rs.ex x e : Rs α).bind k = .ex x e := rfl
@[simp] theorem x_st_ex {k : α → En → Rb} : (Rs.ex x e : Rs α).st k = .ex x e := rfl
@[simp] theorem x_seq_ex {k : En → Rb} : (Rb.ex x e).seq k = .ex x e := rfl
@[simp] theorem x_raiseF : raiseF c fl f env = (f env).st fun r e => match frz e r with
  | some (d, e2) => .ex ⟨c, fl, d⟩ e2
  | none => .no := rfl
@[simp] theorem x_tryF : tryF CT i fs cs env = match fs env with
  | .ex x e => hdl CT i cs x e
  | r => r := rfl
@[simp] theorem x_hdl_nil : hdl CT i [] x e = .ex x e := rfl
@[simp] theorem x_hdl_cons {q : Str × (Xc → SF)} {r : List (Str × (Xc → SF))} : hdl CT i (q :: r) x e = match exMt CT x q.1 with
    | some true => if isUn e[i]? = true then (match q.2 x e with
      | .rt v e2 => .rt v e2
      | .nx e2 => if isUn e2[i]? = true then .nx e2 else .no
      | _ => .no) else .no
    | some false => hdl CT i r x e
    | none => .no := rfl
@[simp] theorem x_isUn : isUn (some .un) = true := rfl
theorem x_told : toldF fl ⟨c, fl, d⟩ = cF d := if_pos rfl
theorem runF_ex {np n : Nat} {body : SF} {as : List Ag} (hl : as.length = np) (h : body (as.map Ag.sl ++ List.replicate (n - np) .un) = .ex x e) : runF np n body as = .exc x (outE as e) := by
  unfold runF
  rw [if_pos hl, h]
theorem seq_ex {f g : SF} (h : f env = .ex x e) : seqF f g env = .ex x e := by rw [x_seqF, h, x_seq_ex]
@[simp] theorem x_mulX3 : mulX3 fa fb env = (fa env).bind fun r1 e1 => (fb e1).bind fun r2 e2 => match rd e2 r1, rd e2 r2 with
  | some (.list ds), some (.int k) => if isOwned e2 r1 = true ∧ -(2 ^ 63) ≤ k ∧ k < 2 ^ 63 ∧ ds.length * k.toNat ≤ LIM then .ok (.tm (.list (List.replicate k.toNat ds).flatten)) e2 else .no
  | some x, some y => out1 (mulG3 x y) e2
  | _, _ => .no := by
  unfold mulX3
  rfl
theorem flat_one {α : Type} (d : α) : ∀ n : Nat, (List.replicate n [d]).flatten = List.replicate n d
  | 0 => rfl
  | n + 1 => by rw [List.replicate_succ, List.flatten_cons, flat_one d n, List.replicate_succ]; rfl
theorem mul3_i {d : D} {k : Int} (h1 : -1000000 ≤ k) (h2 : k ≤ 1000000) : mulG3 (.tuple [d]) (.int k) = some (.sh (.tuple (List.replicate k.toNat d))) := by
  have e : tupMulG3 (.tuple [d]) (.int k) = some (.sh (.tuple (List.replicate k.toNat d))) := by
    have h3 : [d].length * k.toNat ≤ 1000000 := by simp; omega
    simp only [tupMulG3]
    rw [if_pos ⟨h1, h2, h3⟩, flat_one]
  unfold mulG3 orG
  have e0 : mulG (.tuple [d]) (.int k) = none := rfl
  rw [e0]
  exact e
theorem mul3_t {d : D} {n : Nat} (h : n ≤ 1000000) : mulG3 (.tuple [d]) (.int (n : Int)) = some (.sh (.tuple (List.replicate n d))) := mul3_i (by omega) (by omega)
end
end VL
namespace VL
open PySem PySem.Spec PyProof.Rows L2
/-- laid data of a depth -/
def Lay (n : Nat) (d : D) : Prop := d.canLay0 = true ∧ d.depth ≤ n
theorem Lay.mono {n m : Nat} {d : D} (h : Lay n d) (hm : n ≤ m) : Lay m d := ⟨h.1, Nat.le_trans h.2 hm⟩
theorem Lay.sh {n : Nat} {d : D} (h : Lay n d) (hn : n ≤ 64) : SeqAt.shaped d = true := by
  unfold SeqAt.shaped
  rw [h.1, Bool.true_and]
  exact decide_eq_true (Nat.le_trans h.2 hn)
theorem lay_all {n : Nat} : ∀ {ds : List D}, (∀ x ∈ ds, Lay n x) → PyData.canLayAll0 ds = true ∧ PyData.depthAll ds ≤ n
  | [], _ => ⟨by simp [PyData.canLayAll0], by simp [PyData.depthAll]⟩
  | d :: ds, h => by
    obtain ⟨h1, h2⟩ := lay_all (ds := ds) fun x hx => h x (List.mem_cons_of_mem _ hx)
    obtain ⟨h3, h4⟩ := h d List.mem_cons_self
    refine ⟨by simp [PyData.canLayAll0, h1, h3], ?_⟩
    simp only [PyData.depthAll]
    omega
theorem lay_tup {n : Nat} {ds : List D} (h : ∀ x ∈ ds, Lay n x) : Lay (n + 1) (.tuple ds) := by
  obtain ⟨h1, h2⟩ := lay_all h
  refine ⟨by simpa [PyData.canLay0] using h1, ?_⟩
  simp only [PyData.depth]
  omega
theorem lay_lst {n : Nat} {ds : List D} (h : ∀ x ∈ ds, Lay n x) : Lay (n + 1) (.list ds) := by
  obtain ⟨h1, h2⟩ := lay_all h
  refine ⟨by simpa [PyData.canLay0] using h1, ?_⟩
  simp only [PyData.depth]
  omega
theorem lay_int {n : Nat} {i : Int} : Lay n (.int i) := ⟨by simp [PyData.canLay0], by simp [PyData.depth]⟩
theorem lay_bool {n : Nat} {i : Bool} : Lay n (.bool i) := ⟨by simp [PyData.canLay0], by simp [PyData.depth]⟩
theorem lay_none {n : Nat} : Lay n .none := ⟨by simp [PyData.canLay0], by simp [PyData.depth]⟩
theorem lay_str {n : Nat} {s : Str} (h : PyData.strOk s = true) : Lay n (.str s) := ⟨by simpa [PyData.canLay0] using h, by simp [PyData.depth]⟩
theorem ne_self {n : Nat} {d : D} (h : Lay n d) (hn : n ≤ 64) : neG d d = some (.sh (.bool false)) := by
  unfold neG
  rw [h.sh hn, SeqAt.eqv_refl d h.1]; rfl
theorem eq_self {n : Nat} {d : D} (h : Lay n d) (hn : n ≤ 64) : eqG d d = some (.sh (.bool true)) := by
  unfold eqG
  rw [h.sh hn, SeqAt.eqv_refl d h.1]; rfl
end VL
namespace VL
open PySem PySem.Spec PyProof.Rows L2
theorem lcGo_put {f : D → En → Option (Option D × En)} {a x : D} {l acc : List D} {e e1 : En} (h : f a e = some (some x, e1)) (hl : acc.length < LIM) : lcGo f (a :: l) e acc = lcGo f l e1 (acc ++ [x]) := by
  rw [lcGo, h]; dsimp only; rw [if_pos hl]
theorem lcGo3 {f : D → En → Option (Option D × En)} {a b c x y z : D} {e0 e1 e2 e3 : En} (h0 : f a e0 = some (some x, e1)) (h1 : f b e1 = some (some y, e2)) (h2 : f c e2 = some (some z, e3)) : lcGo f [a, b, c] e0 [] = some ([x, y, z], e3) := by
  have l0 : ([] : List D).length < LIM := by rw [List.length_nil]; decide
  have l1 : ([x] : List D).length < LIM := by simp only [List.length_cons, List.length_nil]; decide
  have l2 : ([x, y] : List D).length < LIM := by simp only [List.length_cons, List.length_nil]; decide
  have g0 : lcGo f [a, b, c] e0 [] = lcGo f [b, c] e1 [x] := lcGo_put h0 l0
  have g1 : lcGo f [b, c] e1 [x] = lcGo f [c] e2 [x, y] := lcGo_put h1 l1
  have g2 : lcGo f [c] e2 [x, y] = lcGo f [] e3 [x, y, z] := lcGo_put h2 l2
  rw [g0, g1, g2]
  rfl
theorem range3 : rangeD 0 3 = [.int 0, .int 1, .int 2] := rfl
end VL


set_option linter.all false
set_option Elab.async false
set_option maxHeartbeats 2000000
/-! Q6: gauges (plain) -/
namespace GG
open PySem PySem.Spec PyProof.Rows L2 VL
@[ext] structure Fm where
  l : Int
  s : Int
  h : Int
def cl (f : Fm) (n : Int) : Int := maxI f.l (minI (n + f.s) f.h)
def clJ (f g : Fm) : Fm := ⟨cl g f.l, if cl g f.l < cl g f.h then f.s + g.s else 0, cl g f.h⟩
def spJ (f g : Fm) : Option Fm := if maxI f.l (g.l - f.s) ≤ minI f.h (g.h - f.s) then some ⟨maxI f.l (g.l - f.s), f.s + g.s, minI f.h (g.h - f.s)⟩ else none
def joinG : Bool → Option Fm → Option Fm → Option Fm
  | true, some f, some g => some (clJ f g)
  | false, some f, some g => spJ f g
  | _, _, _ => none
def okS (m : Int) (f : Fm) : Prop := 0 ≤ f.l ∧ f.l ≤ f.h ∧ f.h ≤ m ∧ ((f.l = f.h ∧ f.s = 0) ∨ (f.l < f.h ∧ f.h - m ≤ f.s ∧ f.s ≤ f.l))
def okP (m : Int) (f : Fm) : Prop := 0 ≤ f.l ∧ f.l ≤ f.h ∧ f.h ≤ m ∧ 0 ≤ f.l + f.s ∧ f.h + f.s ≤ m
def okF (m : Int) : Bool → Option Fm → Prop
  | true, some f => okS m f
  | false, some f => okP m f
  | true, none => False
  | false, none => True
def act : Bool → Option Fm → Int → Option Int
  | true, some f, n => some (cl f n)
  | false, some f, n => if f.l ≤ n ∧ n ≤ f.h then some (n + f.s) else none
  | _, none, _ => none
theorem maxI_c (a b : Int) : (a ≤ b ∧ maxI a b = b) ∨ (b ≤ a ∧ maxI a b = a) := by unfold maxI; split <;> omega
theorem minI_c (a b : Int) : (a ≤ b ∧ minI a b = a) ∨ (b ≤ a ∧ minI a b = b) := by unfold minI; split <;> omega
theorem cl_c (f : Fm) (n : Int) (h : f.l ≤ f.h) : (n + f.s ≤ f.l ∧ cl f n = f.l) ∨ (f.l ≤ n + f.s ∧ n + f.s ≤ f.h ∧ cl f n = n + f.s) ∨ (f.h ≤ n + f.s ∧ cl f n = f.h) := by
  unfold cl
  have := maxI_c f.l (minI (n + f.s) f.h)
  have := minI_c (n + f.s) f.h
  omega
section
variable {m : Int} {f g : Fm} {n : Int}
theorem okS_join (hf : okS m f) (hg : okS m g) : okS m (clJ f g) := by
  obtain ⟨a1, a2, a3, a4⟩ := hf
  obtain ⟨b1, b2, b3, b4⟩ := hg
  have c1 := cl_c g f.l b2
  have c2 := cl_c g f.h b2
  unfold okS clJ
  dsimp only
  generalize cl g f.l = x at *
  generalize cl g f.h = y at *
  split <;> omega
theorem clJ_s : ((clJ f g).l < (clJ f g).h ∧ (clJ f g).s = f.s + g.s) ∨ (¬ (clJ f g).l < (clJ f g).h ∧ (clJ f g).s = 0) := by
  unfold clJ
  dsimp only
  split
  · rename_i q; exact .inl ⟨q, rfl⟩
  · rename_i q; exact .inr ⟨q, rfl⟩
theorem clJ_l : (clJ f g).l = cl g f.l := rfl
theorem clJ_h : (clJ f g).h = cl g f.h := rfl
theorem cl_join (hf : okS m f) (hg : okS m g) (h0 : 0 ≤ n) (h1 : n ≤ m) : cl (clJ f g) n = cl g (cl f n) := by
  have hj := okS_join hf hg
  have js := clJ_s (f := f) (g := g)
  have jl := clJ_l (f := f) (g := g)
  have jh := clJ_h (f := f) (g := g)
  generalize clJ f g = J at *
  obtain ⟨a1, a2, a3, a4⟩ := hf
  obtain ⟨b1, b2, b3, b4⟩ := hg
  have c1 := cl_c g f.l b2
  have c2 := cl_c g f.h b2
  have c3 := cl_c f n a2
  have c4 := cl_c g (cl f n) b2
  have c5 := cl_c J n hj.2.1
  generalize cl g f.l = x at *
  generalize cl g f.h = y at *
  generalize cl f n = z at *
  generalize cl g z = w at *
  generalize cl J n = v at *
  rw [jl, jh] at js c5
  omega
theorem okP_join (hf : okP m f) (hg : okP m g) : okF m false (spJ f g) := by
  obtain ⟨a1, a2, a3, a4, a5⟩ := hf
  obtain ⟨b1, b2, b3, b4, b5⟩ := hg
  have c1 := maxI_c f.l (g.l - f.s)
  have c2 := minI_c f.h (g.h - f.s)
  unfold spJ
  generalize maxI f.l (g.l - f.s) = x at *
  generalize minI f.h (g.h - f.s) = y at *
  split
  · show okP m _
    unfold okP
    dsimp only
    omega
  · trivial
theorem act_spJ : act false (spJ f g) n = (act false (some f) n).bind (act false (some g)) := by
  have c1 := maxI_c f.l (g.l - f.s)
  have c2 := minI_c f.h (g.h - f.s)
  unfold spJ
  generalize maxI f.l (g.l - f.s) = x at *
  generalize minI f.h (g.h - f.s) = y at *
  by_cases h : x ≤ y
  · rw [if_pos h]
    show (if x ≤ n ∧ n ≤ y then some (n + (f.s + g.s)) else none) = (if f.l ≤ n ∧ n ≤ f.h then some (n + f.s) else none).bind fun k => if g.l ≤ k ∧ k ≤ g.h then some (k + g.s) else none
    by_cases q : f.l ≤ n ∧ n ≤ f.h
    · rw [if_pos q]
      show _ = if g.l ≤ n + f.s ∧ n + f.s ≤ g.h then some (n + f.s + g.s) else none
      by_cases q2 : g.l ≤ n + f.s ∧ n + f.s ≤ g.h
      · rw [if_pos q2, if_pos (by omega), Int.add_assoc]
      · rw [if_neg q2, if_neg (by omega)]
    · rw [if_neg q, if_neg (by omega)]; rfl
  · rw [if_neg h]
    show none = (if f.l ≤ n ∧ n ≤ f.h then some (n + f.s) else none).bind fun k => if g.l ≤ k ∧ k ≤ g.h then some (k + g.s) else none
    by_cases q : f.l ≤ n ∧ n ≤ f.h
    · rw [if_pos q]
      show _ = if g.l ≤ n + f.s ∧ n + f.s ≤ g.h then some (n + f.s + g.s) else none
      rw [if_neg (by omega)]
    · rw [if_neg q]; rfl
theorem canS (hf : okS m f) (hg : okS m g) (h : ∀ n, 0 ≤ n → n ≤ m → cl f n = cl g n) : f = g := by
  obtain ⟨a1, a2, a3, a4⟩ := hf
  obtain ⟨b1, b2, b3, b4⟩ := hg
  have e0 := h 0 (by omega) (by omega)
  have em := h m (by omega) (by omega)
  have c1 := cl_c f 0 a2
  have c2 := cl_c f m a2
  have c3 := cl_c g 0 b2
  have c4 := cl_c g m b2
  have hl : f.l = g.l := by omega
  have hh : f.h = g.h := by omega
  have hs : f.s = g.s := by
    by_cases c : f.l = f.h
    · omega
    · have e1 := h (f.l - f.s + 1) (by omega) (by omega)
      have e2 := h (g.l - g.s + 1) (by omega) (by omega)
      have d1 := cl_c f (f.l - f.s + 1) a2
      have d2 := cl_c g (f.l - f.s + 1) b2
      have d3 := cl_c f (g.l - g.s + 1) a2
      have d4 := cl_c g (g.l - g.s + 1) b2
      omega
  exact Fm.ext hl hs hh
theorem canP (hf : okP m f) (hg : okP m g) (h : ∀ n, 0 ≤ n → n ≤ m → act false (some f) n = act false (some g) n) : f = g := by
  obtain ⟨a1, a2, a3, a4, a5⟩ := hf
  obtain ⟨b1, b2, b3, b4, b5⟩ := hg
  have k : ∀ n, 0 ≤ n → n ≤ m → (f.l ≤ n ∧ n ≤ f.h → g.l ≤ n ∧ n ≤ g.h ∧ f.s = g.s) ∧ (g.l ≤ n ∧ n ≤ g.h → f.l ≤ n ∧ n ≤ f.h) := fun n h0 h1 => by
    have e : (if f.l ≤ n ∧ n ≤ f.h then some (n + f.s) else none) = (if g.l ≤ n ∧ n ≤ g.h then some (n + g.s) else none) := h n h0 h1
    by_cases q : f.l ≤ n ∧ n ≤ f.h <;> by_cases q2 : g.l ≤ n ∧ n ≤ g.h
    · rw [if_pos q, if_pos q2, Option.some.injEq] at e; exact ⟨fun _ => ⟨q2.1, q2.2, by omega⟩, fun _ => q⟩
    · rw [if_pos q, if_neg q2] at e; cases e
    · rw [if_neg q, if_pos q2] at e; cases e
    · exact ⟨fun z => absurd z q, fun z => absurd z q2⟩
  have k1 := (k f.l (by omega) (by omega)).1 (by omega)
  have k2 := (k f.h (by omega) (by omega)).1 (by omega)
  have k3 := (k g.l (by omega) (by omega)).2 (by omega)
  have k4 := (k g.h (by omega) (by omega)).2 (by omega)
  exact Fm.ext (by omega) k1.2.2 (by omega)
end
section
variable {m : Int} {st : Bool} {f g : Option Fm} {n : Int}
theorem ok_join (hf : okF m st f) (hg : okF m st g) : okF m st (joinG st f g) := by
  cases st with
  | true => cases f with
    | none => exact hf.elim
    | some f => cases g with
      | none => exact hg.elim
      | some g => exact okS_join hf hg
  | false => cases f with
    | none => trivial
    | some f => cases g with
      | none => trivial
      | some g => exact okP_join hf hg
theorem act_join (hf : okF m st f) (hg : okF m st g) (h0 : 0 ≤ n) (h1 : n ≤ m) : act st (joinG st f g) n = (act st f n).bind (act st g) := by
  cases st with
  | true => cases f with
    | none => exact hf.elim
    | some f => cases g with
      | none => exact hg.elim
      | some g => exact congrArg some (cl_join hf hg h0 h1)
  | false => cases f with
    | none => rfl
    | some f => cases g with
      | none =>
        show none = (act false (some f) n).bind fun _ => none
        cases act false (some f) n <;> rfl
      | some g => exact act_spJ
theorem act_rng (hf : okF m st f) (h0 : 0 ≤ n) (h1 : n ≤ m) {k : Int} (h : act st f n = some k) : 0 ≤ k ∧ k ≤ m := by
  cases st with
  | true => cases f with
    | none => exact hf.elim
    | some f =>
      obtain ⟨a1, a2, a3, a4⟩ := hf
      have c := cl_c f n a2
      have e : cl f n = k := Option.some.inj h
      omega
  | false => cases f with
    | none => cases h
    | some f =>
      obtain ⟨a1, a2, a3, a4, a5⟩ := hf
      have e : (if f.l ≤ n ∧ n ≤ f.h then some (n + f.s) else none) = some k := h
      by_cases q : f.l ≤ n ∧ n ≤ f.h
      · rw [if_pos q, Option.some.injEq] at e; omega
      · rw [if_neg q] at e; cases e
theorem canon (hm : 0 ≤ m) (hf : okF m st f) (hg : okF m st g) (h : ∀ n, 0 ≤ n → n ≤ m → act st f n = act st g n) : f = g := by
  cases st with
  | true => cases f with
    | none => exact hf.elim
    | some f => cases g with
      | none => exact hg.elim
      | some g => exact congrArg some (canS hf hg fun n h0 h1 => Option.some.inj (h n h0 h1))
  | false => cases f with
    | none => cases g with
      | none => rfl
      | some g =>
        obtain ⟨a1, a2, a3, a4, a5⟩ := hg
        have e : none = (if g.l ≤ g.l ∧ g.l ≤ g.h then some (g.l + g.s) else none) := h g.l (by omega) (by omega)
        rw [if_pos ⟨Int.le_refl _, a2⟩] at e; cases e
    | some f => cases g with
      | none =>
        obtain ⟨a1, a2, a3, a4, a5⟩ := hf
        have e : (if f.l ≤ f.l ∧ f.l ≤ f.h then some (f.l + f.s) else none) = none := h f.l (by omega) (by omega)
        rw [if_pos ⟨Int.le_refl _, a2⟩] at e; cases e
      | some g => exact congrArg some (canP hf hg h)
end
/-! rows -/
abbrev GRow := List (Bool × Int)
def sg (x : Bool × Int) : Int := if x.1 then x.2 else -x.2
def stF (m : Int) (st : Bool) (x : Bool × Int) : Fm :=
  if st then (if 0 < sg x then ⟨sg x, if sg x < m then sg x else 0, m⟩ else ⟨0, if 0 < m + sg x then sg x else 0, m + sg x⟩)
  else if 0 < sg x then ⟨0, sg x, m - sg x⟩ else ⟨-sg x, sg x, m⟩
def OkX (m : Int) (x : Bool × Int) : Prop := 1 ≤ x.2 ∧ x.2 ≤ m
def beh (m : Int) (st : Bool) (x : Bool × Int) (n : Int) : Option Int := if st = false ∧ ¬ (0 ≤ n + sg x ∧ n + sg x ≤ m) then none else some (maxI 0 (minI (n + sg x) m))
def grun (m : Int) (st : Bool) : GRow → Int → Option Int
  | [], n => some n
  | x :: r, n => (beh m st x n).bind (grun m st r)
def formFrom (m : Int) (st : Bool) : Option Fm → GRow → Option Fm
  | f, [] => f
  | f, x :: r => formFrom m st (joinG st f (some (stF m st x))) r
def form (m : Int) (st : Bool) (r : GRow) : Option Fm := formFrom m st (some ⟨0, 0, m⟩) r
section
variable {m : Int} {st : Bool} {x : Bool × Int} {n : Int}
theorem sg_c (h : OkX m x) : (1 ≤ sg x ∧ sg x ≤ m) ∨ (sg x ≤ -1 ∧ -m ≤ sg x) := by
  obtain ⟨h1, h2⟩ := h
  unfold sg
  split <;> omega
theorem ok_st (h : OkX m x) : okF m st (some (stF m st x)) := by
  have c := sg_c h
  have : okS m (stF m true x) := by
    unfold stF okS
    rw [if_pos rfl]
    generalize sg x = s at *
    by_cases q : 0 < s
    · rw [if_pos q]; dsimp only; split <;> omega
    · rw [if_neg q]; dsimp only; split <;> omega
  have h2 : okP m (stF m false x) := by
    unfold stF okP
    rw [if_neg (by decide)]
    generalize sg x = s at *
    by_cases q : 0 < s
    · rw [if_pos q]; dsimp only; omega
    · rw [if_neg q]; dsimp only; omega
  cases st
  · exact h2
  · exact this
theorem act_st (h : OkX m x) (h0 : 0 ≤ n) (h1 : n ≤ m) : act st (some (stF m st x)) n = beh m st x n := by
  have c := sg_c h
  cases st with
  | true =>
    have o : okS m (stF m true x) := ok_st (st := true) h
    have k := cl_c (stF m true x) n o.2.1
    show some (cl (stF m true x) n) = _
    unfold beh
    rw [if_neg (by simp)]
    have a := maxI_c 0 (minI (n + sg x) m)
    have b := minI_c (n + sg x) m
    congr 1
    generalize cl (stF m true x) n = z at *
    unfold stF at k
    rw [if_pos rfl] at k
    generalize sg x = s at *
    by_cases q : 0 < s
    · rw [if_pos q] at k; dsimp only at k; split at k <;> omega
    · rw [if_neg q] at k; dsimp only at k; split at k <;> omega
  | false =>
    unfold act stF beh
    have a := maxI_c 0 (minI (n + sg x) m)
    have b := minI_c (n + sg x) m
    generalize sg x = s at *
    rw [if_neg (by decide)]
    by_cases q : 0 < s
    · rw [if_pos q]; dsimp only
      by_cases w : 0 ≤ n + s ∧ n + s ≤ m
      · rw [if_pos (by omega), if_neg (by simp [w])]; congr 1; omega
      · rw [if_neg (by omega), if_pos ⟨rfl, w⟩]
    · rw [if_neg q]; dsimp only
      by_cases w : 0 ≤ n + s ∧ n + s ≤ m
      · rw [if_pos (by omega), if_neg (by simp [w])]; congr 1; omega
      · rw [if_neg (by omega), if_pos ⟨rfl, w⟩]
theorem ok_from {f : Option Fm} (hf : okF m st f) : ∀ {r : GRow}, (∀ x ∈ r, OkX m x) → okF m st (formFrom m st f r)
  | [], _ => hf
  | x :: r, h => ok_from (ok_join hf (ok_st (h x List.mem_cons_self))) (fun y hy => h y (List.mem_cons_of_mem _ hy))
theorem ok_from' : ∀ {r : GRow} {f : Option Fm}, okF m st f → (∀ x ∈ r, OkX m x) → okF m st (formFrom m st f r)
  | [], _, hf, _ => hf
  | x :: r, f, hf, h => ok_from' (r := r) (ok_join hf (ok_st (h x List.mem_cons_self))) (fun y hy => h y (List.mem_cons_of_mem _ hy))
theorem act_from : ∀ {r : GRow} {f : Option Fm} {n : Int}, okF m st f → (∀ x ∈ r, OkX m x) → 0 ≤ n → n ≤ m → act st (formFrom m st f r) n = (act st f n).bind (grun m st r)
  | [], f, n, hf, _, _, _ => by
    show act st f n = (act st f n).bind some
    cases act st f n <;> rfl
  | x :: r, f, n, hf, h, h0, h1 => by
    have hx := h x List.mem_cons_self
    show act st (formFrom m st (joinG st f (some (stF m st x))) r) n = _
    rw [act_from (r := r) (ok_join hf (ok_st hx)) (fun y hy => h y (List.mem_cons_of_mem _ hy)) h0 h1, act_join hf (ok_st hx) h0 h1]
    cases q : act st f n with
    | none => rfl
    | some k =>
      have := act_rng hf h0 h1 q
      show (act st (some (stF m st x)) k).bind (grun m st r) = (beh m st x k).bind (grun m st r)
      rw [act_st hx this.1 this.2]
theorem ok_id (hm : 0 ≤ m) : okF m st (some ⟨0, 0, m⟩) := by
  cases st
  · show okP m _; unfold okP; dsimp only; omega
  · show okS m _; unfold okS; dsimp only; omega
theorem act_id (hm : 0 ≤ m) (h0 : 0 ≤ n) (h1 : n ≤ m) : act st (some ⟨0, 0, m⟩) n = some n := by
  cases st
  · show (if (0 : Int) ≤ n ∧ n ≤ m then some (n + 0) else none) = some n
    rw [if_pos ⟨h0, h1⟩, Int.add_zero]
  · have c := cl_c ⟨0, 0, m⟩ n hm
    dsimp only at c
    show some (cl ⟨0, 0, m⟩ n) = some n
    congr 1; omega
variable {r s : GRow}
theorem ok_form (hm : 0 ≤ m) (h : ∀ x ∈ r, OkX m x) : okF m st (form m st r) := ok_from' (ok_id hm) h
theorem act_form (hm : 0 ≤ m) (h : ∀ x ∈ r, OkX m x) (h0 : 0 ≤ n) (h1 : n ≤ m) : act st (form m st r) n = grun m st r n := by
  unfold form
  rw [act_from (ok_id hm) h h0 h1, act_id hm h0 h1]
  rfl
theorem run_app : ∀ {r : GRow} {n : Int}, grun m st (r ++ s) n = (grun m st r n).bind (grun m st s)
  | [], _ => rfl
  | x :: r, n => by
    show (beh m st x n).bind (grun m st (r ++ s)) = ((beh m st x n).bind (grun m st r)).bind (grun m st s)
    cases beh m st x n with
    | none => rfl
    | some k => exact run_app (r := r)
theorem then_form (hm : 0 ≤ m) (hr : ∀ x ∈ r, OkX m x) (hs : ∀ x ∈ s, OkX m x) : joinG st (form m st r) (form m st s) = form m st (r ++ s) := by
  have hrs : ∀ x ∈ r ++ s, OkX m x := fun x hx => (List.mem_append.mp hx).elim (hr x) (hs x)
  refine canon hm (ok_join (ok_form hm hr) (ok_form hm hs)) (ok_form hm hrs) fun n h0 h1 => ?_
  rw [act_join (ok_form hm hr) (ok_form hm hs) h0 h1, act_form hm hrs h0 h1, run_app, act_form hm hr h0 h1]
  cases q : grun m st r n with
  | none => rfl
  | some k =>
    rw [← act_form hm hr h0 h1] at q
    have := act_rng (ok_form hm hr) h0 h1 q
    exact act_form hm hs this.1 this.2
def sumG : GRow → Int
  | [] => 0
  | x :: r => sg x + sumG r
theorem from_sum : ∀ {r : GRow} {f : Fm}, okS m f → (∀ x ∈ r, OkX m x) → ∃ g, formFrom m true (some f) r = some g ∧ (g.l < g.h → g.s = f.s + sumG r ∧ f.l < f.h)
  | [], f, _, _ => ⟨f, rfl, fun h => ⟨by simp [sumG], h⟩⟩
  | x :: r, f, hf, h => by
    have hx := h x List.mem_cons_self
    have ox : okS m (stF m true x) := ok_st (st := true) hx
    obtain ⟨g, e, k⟩ := from_sum (r := r) (okS_join hf ox) (fun y hy => h y (List.mem_cons_of_mem _ hy))
    refine ⟨g, e, fun hg => ?_⟩
    obtain ⟨k1, k2⟩ := k hg
    have c1 := cl_c (stF m true x) f.l ox.2.1
    have c2 := cl_c (stF m true x) f.h ox.2.1
    have fl := hf.2.1
    have ol := ox.2.1
    have c := sg_c hx
    unfold clJ at k1 k2
    dsimp only at k1 k2
    rw [if_pos k2] at k1
    have hs : (stF m true x).l < (stF m true x).h → (stF m true x).s = sg x := by
      unfold stF
      rw [if_pos rfl]
      intro w
      split at w
      · rename_i q; rw [if_pos q]; dsimp only at w ⊢; rw [if_pos w]
      · rename_i q; rw [if_neg q]; dsimp only at w ⊢; rw [if_pos w]
    generalize stF m true x = S at *
    have w1 : S.l < S.h := by omega
    have w2 : f.l < f.h := by
      by_cases q : f.l = f.h
      · rw [q] at k2; omega
      · omega
    refine ⟨?_, w2⟩
    rw [k1, hs w1]
    simp only [sumG]
    omega
theorem form_sum (hm : 0 ≤ m) (h : ∀ x ∈ r, OkX m x) : ∃ g, form m true r = some g ∧ okS m g ∧ (g.l < g.h → g.s = sumG r) := by
  obtain ⟨g, e, k⟩ := from_sum (m := m) (f := ⟨0, 0, m⟩) (ok_id (st := true) hm) h
  refine ⟨g, e, ?_, fun q => by have := (k q).1; simpa using this⟩
  have := ok_form (st := true) hm h
  rw [show form m true r = some g from e] at this
  exact this
end
end GG


set_option Elab.async false
set_option linter.all false
set_option maxRecDepth 100000
set_option maxHeartbeats 4000000
namespace S35
open PySem PySem.Spec PyProof.Rows L2 VL
theorem take_ok (a b top : Int) (h : 0 < top) (h2 : top.natAbs.log2 < 9000) : ∃ i a' b', 0 ≤ i ∧ i < top ∧ F__law_take [.ob (.list [.int a, .int b]), .sh (.int top)] = .ret false (.int i) [.io (.list [.int a', .int b']), .sh (.int top)] := by
  have hm : ∀ x, mulOk x 39373 = true := fun x => mulOk_r (by decide)
  have hm2 : ∀ x : Int, mulOk (x % 2147483647) (x % 2147483647) = true := fun x => mulOk_r ⟨by omega, by omega⟩
  by_cases c : 0 < a
  · refine ⟨a % top, a / top, b, Int.emod_nonneg _ (by omega), Int.emod_lt_of_pos _ h, ?_⟩
    simp [F__law_take, runF, B__law_take, Ag.sl, atI, ixN, c, h, h2, stoG, mutP, outE, pick]
  · refine ⟨((b * 39373 + 7) % 2147483647 * ((b * 39373 + 7) % 2147483647) % 2147483629 / 32) % top, a, (b * 39373 + 7) % 2147483647, Int.emod_nonneg _ (by omega), Int.emod_lt_of_pos _ h, ?_⟩
    have e : Nat.log2 32 < 9000 := by decide
    simp [F__law_take, runF, B__law_take, Ag.sl, atI, ixN, c, h, h2, stoG, mutP, outE, pick, hm, hm2, e]
/-- the source: two ints -/
def Src (d : D) : Prop := ∃ a b, d = .list [.int a, .int b]
theorem take_src {d : D} (s : Src d) (n : Nat) (h : 0 < n) (h2 : n < 1000000) : ∃ (i : Nat) (d' : D), i < n ∧ Src d' ∧ F__law_take [.ob d, .sh (.int n)] = .ret false (.int (i : Int)) [.io d', .sh (.int n)] := by
  obtain ⟨a, b, rfl⟩ := s
  have hl : (n : Int).natAbs.log2 < 9000 := by
    rw [Int.natAbs_natCast]
    have := (Nat.log2_lt (n := n) (k := 9000) (by omega)).mpr (Nat.lt_trans h2 (by decide +kernel))
    exact this
  obtain ⟨i, a', b', h3, h4, e⟩ := take_ok a b n (by omega) hl
  refine ⟨i.toNat, _, by omega, ⟨a', b', rfl⟩, ?_⟩
  rw [e, Int.toNat_of_nonneg h3]
theorem one_src {d : D} (s : Src d) (ds : List D) (h : ds ≠ []) (h2 : ds.length < 1000000) : ∃ (y d' : D), y ∈ ds ∧ Src d' ∧ F__law_one [.ob d, .sh (.list ds)] = .ret false y [.io d', .sh (.list ds)] := by
  obtain ⟨i, d', hi, s', e⟩ := take_src s ds.length (List.length_pos_iff.mpr h) h2
  refine ⟨ds[i], d', List.getElem_mem hi, s', ?_⟩
  simp [F__law_one, runF, B__law_one, Ag.sl, outE, pick, e, hi]
theorem one_ob {d : D} (s : Src d) (ds : List D) (h : ds ≠ []) (h2 : ds.length < 1000000) : ∃ (y d' : D), y ∈ ds ∧ Src d' ∧ F__law_one [.ob d, .ob (.list ds)] = .ret false y [.io d', .io (.list ds)] := by
  obtain ⟨i, d', hi, s', e⟩ := take_src s ds.length (List.length_pos_iff.mpr h) h2
  refine ⟨ds[i], d', List.getElem_mem hi, s', ?_⟩
  simp [F__law_one, runF, B__law_one, Ag.sl, outE, pick, e, hi]
theorem pool_in (S : List D) (k x : Int) (h0 : 0 ≤ k) (h1 : k < 100) (c : k < S.length) (g : atI S k = some (.int x)) : ∃ d, Src d ∧ F__law_pool [.sh (.list S), .sh (.int k)] = .ret true d [.sh (.list S), .sh (.int k)] := by
  have hm : ∀ (x : Int) (n : Int), -(2 ^ 64) < n → n < 2 ^ 64 → mulOk x n = true := fun x n h1 h2 => mulOk_r ⟨h1, h2⟩
  have m1 : mulOk 7919 k = true := hm _ _ (by omega) (by omega)
  have m2 : mulOk (7919 * k) k = true := hm _ _ (by omega) (by omega)
  have m3 : mulOk 31 k = true := hm _ _ (by omega) (by omega)
  have m4 : ∀ x, mulOk x 48271 = true := fun x => hm _ _ (by omega) (by omega)
  have m5 : ∀ x, mulOk x 1 = true := fun x => hm _ _ (by omega) (by omega)
  have m6 : ∀ x, mulOk x 0 = true := fun x => hm _ _ (by omega) (by omega)
  have p : powG (.int 10) (.int 18) = some (.sh (.int 1000000000000000000)) := by kernel_rfl
  by_cases b : 1000000000000000000 ≤ maxI x (-1 - x)
  · refine ⟨.list [.int (maxI x (-1 - x)), .int ((((maxI x (-1 - x)) % 2147483629 + 7919 * k * k + 31 * k + 17) * 48271) % 2147483647)], ⟨_, _, rfl⟩, ?_⟩
    simp [F__law_pool, runF, B__law_pool, Ag.sl, outE, pick, LIM, c, g, m1, m2, m3, m4, m5, p, b]
  · refine ⟨.list [.int 0, .int ((((maxI x (-1 - x)) % 2147483629 + 7919 * k * k + 31 * k + 17) * 48271) % 2147483647)], ⟨_, _, rfl⟩, ?_⟩
    simp [F__law_pool, runF, B__law_pool, Ag.sl, outE, pick, LIM, c, g, m1, m2, m3, m4, m6, p, b]
theorem pool_out (S : List D) (k : Int) (h0 : 0 ≤ k) (h1 : k < 100) (c : ¬ k < S.length) : ∃ d, Src d ∧ F__law_pool [.sh (.list S), .sh (.int k)] = .ret true d [.sh (.list S), .sh (.int k)] := by
  have hm : ∀ (x : Int) (n : Int), -(2 ^ 64) < n → n < 2 ^ 64 → mulOk x n = true := fun x n h1 h2 => mulOk_r ⟨h1, h2⟩
  have m1 : mulOk 7919 k = true := hm _ _ (by omega) (by omega)
  have m2 : mulOk (7919 * k) k = true := hm _ _ (by omega) (by omega)
  have m3 : mulOk 31 k = true := hm _ _ (by omega) (by omega)
  have m4 : ∀ x, mulOk x 48271 = true := fun x => hm _ _ (by omega) (by omega)
  have m6 : ∀ x, mulOk x 0 = true := fun x => hm _ _ (by omega) (by omega)
  have p : powG (.int 10) (.int 18) = some (.sh (.int 1000000000000000000)) := by kernel_rfl
  have b : ¬ (1000000000000000000 ≤ maxI 0 (-1)) := by decide
  refine ⟨.list [.int 0, .int ((((maxI 0 (-1)) % 2147483629 + 7919 * k * k + 31 * k + 17) * 48271) % 2147483647)], ⟨_, _, rfl⟩, ?_⟩
  simp [F__law_pool, runF, B__law_pool, Ag.sl, outE, pick, LIM, c, m1, m2, m3, m4, m6, p, b]
theorem pool_ok (ns : List Int) (k : Nat) (hk : k < 100) : ∃ d, Src d ∧ F__law_pool [.sh (.list (ns.map PyData.int)), .sh (.int k)] = .ret true d [.sh (.list (ns.map PyData.int)), .sh (.int k)] := by
  by_cases c : k < ns.length
  · exact pool_in _ k ns[k] (by omega) (by omega) (by rw [List.length_map]; omega) (by rw [x_atI]; simp [c])
  · exact pool_out _ k (by omega) (by omega) (by rw [List.length_map]; omega)
theorem eq_i {m n : Int} : eqG (.int m) (.int n) = some (.sh (.bool (m == n))) := rfl
theorem eq_b {a b : Bool} : eqG (.bool a) (.bool b) = some (.sh (.bool (a == b))) := by cases a <;> cases b <;> kernel_rfl
theorem ne_b {a b : Bool} : neG (.bool a) (.bool b) = some (.sh (.bool (a != b))) := by cases a <;> cases b <;> kernel_rfl
end S35


set_option Elab.async false
set_option linter.all false
set_option maxRecDepth 100000
set_option maxHeartbeats 4000000
namespace S35
open PySem PySem.Spec PyProof.Rows L2 VL GG
/- has_gauge_form: 0 kind, 1 value, 2 first, 3 shift, 4 last, 5 number -/
/- is_clamp: 0 value, 1 most, 2 low, 3 shift, 4 high -/
/- clamps_joined: 0 one, 1 other, 2 low, 3 high -/
/- spans_joined: 0 one, 1 other, 2 first, 3 last -/
/- gauges_joined: 0 kind, 1 one, 2 other -/
/- gauge_step_form: 0 kind, 1 step, 2 most, 3 shift, 4 low, 5 high -/
/- gauge_form: 0 kind, 1 row, 2 found, 3 step -/
/- bears: 0 kind, 1 form, 2 contents -/
/- gauge_left: 0 kind, 1 form, 2 contents -/
/- gauge_works: 0 kind, 1 form, 2 contents -/
/- _law_behind: 0 _law_kind, 1 _law_step, 2 _law_contents, 3 _law_word, 4 _law_told, 5 _law_number, 6 _law_due, 7 _law_name, 8 _law_one_here -/
/- _law_left: 0 _law_kind, 1 _law_row, 2 _law_contents, 3 _law_step -/
/- _law_gauge: 0 _law_source -/
/- _law_gauge_row: 0 _law_source, 1 _law_kind, 2 _law_most, 3 _law_drawn, 4 _law_turn, 5 _law_amount -/
/- _law_map: 0 _law_kind, 1 _law_row, 2 _law_number -/
/- _law_told_form: 0 _law_kind, 1 _law_row, 2 _law_lot, 3 _law_shift, 4 _law_good, 5 _law_number, 6 _law_step -/
/- _law_called: 0 _law_way, 1 _law_kind, 2 _law_form, 3 _law_box -/
/- _law_refusals: 0 _law_source, 1 _law_kind, 2 _law_form, 3 _law_odd, 4 _law_row, 5 _law_bad, 6 _law_none, 7 _law_way -/
/- law: 0 _law_script, 1 _law_k, 2 _law_source, 3 _law_kind, 4 _law_form, 5 _law_number, 6 _law_row, 7 _law_second, 8 _law_due -/
abbrev X_has_gauge_form_0 : SF := (ifS (boolF (opF (isG false) (nmF 1) (cF .none)))
  (retF (opF eqG (opF ixG (nmF 0) (cF (.int (2)))) (cF (.str "fail"))))
  passF)
abbrev X_has_gauge_form_1 : SF := (ifS (orT (notT (truF (callF F_is_tuple_of (consF (nmF 1) (consF (cF (.int (3))) nilF))))) (notT (truF (cbF allC (consF (lcF (itF (nmF 1)) [5] (tgN 5) yesF (callF F_is_whole (consF (nmF 5) nilF))) nilF)))))
  (retF (cF (.bool false)))
  passF)
abbrev X_has_gauge_form_2 : SF := (ifS (boolF (opF eqG (opF ixG (nmF 0) (cF (.int (2)))) (cF (.str "stop"))))
  (retF (callF F_is_clamp (consF (nmF 1) (consF (opF ixG (nmF 0) (cF (.int (1)))) nilF))))
  passF)
abbrev X_has_gauge_form_3 : SF := (asgF (nmF 1) (tgS 3 (tgsCons (tgN 2) (tgsCons (tgN 3) (tgsCons (tgN 4) tgsNil)))))
abbrev X_has_gauge_form_4 : SF := (retF (andE (ch3F leG leG leG (cF (.int (0))) (nmF 2) (nmF 4) (opF ixG (nmF 0) (cF (.int (1))))) (andE (opF geG (opF addG (nmF 2) (nmF 3)) (cF (.int (0)))) (opF leG (opF addG (nmF 4) (nmF 3)) (opF ixG (nmF 0) (cF (.int (1))))))))
abbrev X_has_gauge_form_b : SF := (seqF X_has_gauge_form_0 (seqF X_has_gauge_form_1 (seqF X_has_gauge_form_2 (seqF X_has_gauge_form_3 X_has_gauge_form_4))))
theorem X_has_gauge_form_is : B_has_gauge_form = X_has_gauge_form_b := rfl
abbrev X_is_clamp_0 : SF := (asgF (nmF 0) (tgS 3 (tgsCons (tgN 2) (tgsCons (tgN 3) (tgsCons (tgN 4) tgsNil)))))
abbrev X_is_clamp_1 : SF := (ifS (notT (boolF (ch3F leG leG leG (cF (.int (0))) (nmF 2) (nmF 4) (nmF 1))))
  (retF (cF (.bool false)))
  passF)
abbrev X_is_clamp_2 : SF := (retF (ifE (boolF (opF eqG (nmF 2) (nmF 4))) (opF eqG (nmF 3) (cF (.int (0)))) (chF leG leG (opF subG (nmF 4) (nmF 1)) (nmF 3) (nmF 2))))
abbrev X_is_clamp_b : SF := (seqF X_is_clamp_0 (seqF X_is_clamp_1 X_is_clamp_2))
theorem X_is_clamp_is : B_is_clamp = X_is_clamp_b := rfl
abbrev X_clamps_joined_0 : SF := (parF [2, 3] (consF (callF F_clamped (consF (nmF 1) (consF (opF ixG (nmF 0) (cF (.int (0)))) nilF))) (consF (callF F_clamped (consF (nmF 1) (consF (opF ixG (nmF 0) (cF (.int (2)))) nilF))) nilF)))
abbrev X_clamps_joined_1 : SF := (retF (tupF (consF (nmF 2) (consF (ifE (boolF (opF ltG (nmF 2) (nmF 3))) (opF addG (opF ixG (nmF 0) (cF (.int (1)))) (opF ixG (nmF 1) (cF (.int (1))))) (cF (.int (0)))) (consF (nmF 3) nilF)))))
abbrev X_clamps_joined_b : SF := (seqF X_clamps_joined_0 X_clamps_joined_1)
theorem X_clamps_joined_is : B_clamps_joined = X_clamps_joined_b := rfl
abbrev X_spans_joined_0 : SF := (ifS (orT (boolF (opF (isG false) (nmF 0) (cF .none))) (boolF (opF (isG false) (nmF 1) (cF .none))))
  (retF (cF .none))
  passF)
abbrev X_spans_joined_1 : SF := (setF 2 (cbF (ii2 maxI) (consF (cbF intC (consF (opF ixG (nmF 0) (cF (.int (0)))) nilF)) (consF (cbF intC (consF (opF subG (opF ixG (nmF 1) (cF (.int (0)))) (opF ixG (nmF 0) (cF (.int (1))))) nilF)) nilF))))
abbrev X_spans_joined_2 : SF := (setF 3 (cbF (ii2 minI) (consF (cbF intC (consF (opF ixG (nmF 0) (cF (.int (2)))) nilF)) (consF (cbF intC (consF (opF subG (opF ixG (nmF 1) (cF (.int (2)))) (opF ixG (nmF 0) (cF (.int (1))))) nilF)) nilF))))
abbrev X_spans_joined_3 : SF := (retF (ifE (boolF (opF leG (nmF 2) (nmF 3))) (tupF (consF (nmF 2) (consF (opF addG (opF ixG (nmF 0) (cF (.int (1)))) (opF ixG (nmF 1) (cF (.int (1))))) (consF (nmF 3) nilF)))) (cF .none)))
abbrev X_spans_joined_b : SF := (seqF X_spans_joined_0 (seqF X_spans_joined_1 (seqF X_spans_joined_2 X_spans_joined_3)))
theorem X_spans_joined_is : B_spans_joined = X_spans_joined_b := rfl
abbrev X_gauges_joined_0 : SF := (retF (ifE (boolF (opF eqG (opF ixG (nmF 0) (cF (.int (2)))) (cF (.str "stop")))) (callF F_clamps_joined (consF (nmF 1) (consF (nmF 2) nilF))) (callF F_spans_joined (consF (nmF 1) (consF (nmF 2) nilF)))))
abbrev X_gauges_joined_b : SF := X_gauges_joined_0
theorem X_gauges_joined_is : B_gauges_joined = X_gauges_joined_b := rfl
abbrev X_gauge_step_form_0 : SF := (parF [2, 3] (consF (opF ixG (nmF 0) (cF (.int (1)))) (consF (callF F_signed_amount (consF (nmF 1) nilF)) nilF)))
abbrev X_gauge_step_form_1 : SF := (ifS (boolF (opF eqG (opF ixG (nmF 0) (cF (.int (2)))) (cF (.str "fail"))))
  (retF (ifE (boolF (opF gtG (nmF 3) (cF (.int (0))))) (tupF (consF (cF (.int (0))) (consF (nmF 3) (consF (opF subG (nmF 2) (nmF 3)) nilF)))) (tupF (consF (unF negG (nmF 3)) (consF (nmF 3) (consF (nmF 2) nilF))))))
  passF)
abbrev X_gauge_step_form_2 : SF := (asgF (ifE (boolF (opF gtG (nmF 3) (cF (.int (0))))) (tupF (consF (nmF 3) (consF (nmF 2) nilF))) (tupF (consF (cF (.int (0))) (consF (opF addG (nmF 2) (nmF 3)) nilF)))) (tgS 2 (tgsCons (tgN 4) (tgsCons (tgN 5) tgsNil))))
abbrev X_gauge_step_form_3 : SF := (retF (tupF (consF (nmF 4) (consF (ifE (boolF (opF ltG (nmF 4) (nmF 5))) (nmF 3) (cF (.int (0)))) (consF (nmF 5) nilF)))))
abbrev X_gauge_step_form_b : SF := (seqF X_gauge_step_form_0 (seqF X_gauge_step_form_1 (seqF X_gauge_step_form_2 X_gauge_step_form_3)))
theorem X_gauge_step_form_is : B_gauge_step_form = X_gauge_step_form_b := rfl
abbrev X_gauge_form_0 : SF := (exprF (callF F_check_gauge (consF (nmF 0) nilF)))
abbrev X_gauge_form_1 : SF := (exprF (callF F_check_row_of (consF (nmF 0) (consF (nmF 1) nilF))))
abbrev X_gauge_form_2 : SF := (setF 2 (tupF (consF (cF (.int (0))) (consF (cF (.int (0))) (consF (opF ixG (nmF 0) (cF (.int (1)))) nilF)))))
abbrev X_gauge_form_3_0 : SF := (setF 2 (callF F_gauges_joined (consF (nmF 0) (consF (nmF 2) (consF (callF F_gauge_step_form (consF (nmF 0) (consF (nmF 3) nilF))) nilF)))))
abbrev X_gauge_form_3_b : SF := X_gauge_form_3_0
abbrev X_gauge_form_3 : SF := (forF (itF (nmF 1)) (tgN 3) X_gauge_form_3_b)
abbrev X_gauge_form_4 : SF := (retF (nmF 2))
abbrev X_gauge_form_b : SF := (seqF X_gauge_form_0 (seqF X_gauge_form_1 (seqF X_gauge_form_2 (seqF X_gauge_form_3 X_gauge_form_4))))
theorem X_gauge_form_is : B_gauge_form = X_gauge_form_b := rfl
abbrev X_bears_0 : SF := (retF (orE (opF eqG (opF ixG (nmF 0) (cF (.int (2)))) (cF (.str "stop"))) (andE (opF (isG true) (nmF 1) (cF .none)) (chF leG leG (opF ixG (nmF 1) (cF (.int (0)))) (nmF 2) (opF ixG (nmF 1) (cF (.int (2))))))))
abbrev X_bears_b : SF := X_bears_0
theorem X_bears_is : B_bears = X_bears_b := rfl
abbrev X_gauge_left_0 : SF := (exprF (callF F_check_gauge_contents (consF (nmF 0) (consF (nmF 1) (consF (nmF 2) nilF)))))
abbrev X_gauge_left_1 : SF := (ifS (notT (truF (callF F_bears (consF (nmF 0) (consF (nmF 1) (consF (nmF 2) nilF))))))
  (retF (cF .none))
  passF)
abbrev X_gauge_left_2 : SF := (retF (ifE (boolF (opF eqG (opF ixG (nmF 0) (cF (.int (2)))) (cF (.str "stop")))) (callF F_clamped (consF (nmF 1) (consF (nmF 2) nilF))) (opF addG (nmF 2) (opF ixG (nmF 1) (cF (.int (1)))))))
abbrev X_gauge_left_b : SF := (seqF X_gauge_left_0 (seqF X_gauge_left_1 X_gauge_left_2))
theorem X_gauge_left_is : B_gauge_left = X_gauge_left_b := rfl
abbrev X_gauge_works_0 : SF := (exprF (callF F_check_gauge_contents (consF (nmF 0) (consF (nmF 1) (consF (nmF 2) nilF)))))
abbrev X_gauge_works_1 : SF := (retF (callF F_bears (consF (nmF 0) (consF (nmF 1) (consF (nmF 2) nilF)))))
abbrev X_gauge_works_b : SF := (seqF X_gauge_works_0 X_gauge_works_1)
theorem X_gauge_works_is : B_gauge_works = X_gauge_works_b := rfl
abbrev X__law_behind_0 : SF := (setF 3 (opF ixG (nmF 1) (cF (.int (0)))))
abbrev X__law_behind_1 : SF := (ifS (boolF (opF (inG false) (opF ixG (nmF 0) (cF (.int (0)))) (lstF (consF (cF (.str "stack")) (consF (cF (.str "queue")) (consF (cF (.str "ring")) nilF))))))
  (retF (callF F__law_line_behind (consF (nmF 0) (consF (nmF 1) (consF (nmF 2) nilF)))))
  passF)
abbrev X__law_behind_2 : SF := (ifS (boolF (opF eqG (opF ixG (nmF 0) (cF (.int (0)))) (cF (.str "tape"))))
  (retF (callF F__law_tape_behind (consF (nmF 1) (consF (nmF 2) nilF))))
  passF)
abbrev X__law_behind_3_t_0 : SF := (ifS (boolF (opF eqG (nmF 3) (cF (.str "insert"))))
  (retF (cbF tupleC (consF (cbF sortedC (consF (lcF (itF (opF addG (cbF listC (consF (nmF 2) nilF)) (lstF (consF (opF ixG (nmF 1) (cF (.int (1)))) nilF)))) [8] (tgN 8) yesF (cbF intC (consF (nmF 8) nilF))) nilF)) nilF)))
  passF)
abbrev X__law_behind_3_t_1 : SF := (retF (ifE (boolF (opF neG (nmF 2) (tupF nilF))) (slF (nmF 2) (someF (cF (.int (1)))) noneF) (cF .none)))
abbrev X__law_behind_3_t_b : SF := (seqF X__law_behind_3_t_0 X__law_behind_3_t_1)
abbrev X__law_behind_3 : SF := (ifS (boolF (opF eqG (opF ixG (nmF 0) (cF (.int (0)))) (cF (.str "heap")))) X__law_behind_3_t_b passF)
abbrev X__law_behind_4_t_0 : SF := (setF 5 (opF addG (nmF 2) (ifE (boolF (opF eqG (nmF 3) (cF (.str "add")))) (opF ixG (nmF 1) (cF (.int (1)))) (unF negG (opF ixG (nmF 1) (cF (.int (1))))))))
abbrev X__law_behind_4_t_1 : SF := (ifS (andT (boolF (opF eqG (opF ixG (nmF 0) (cF (.int (2)))) (cF (.str "fail")))) (notT (boolF (chF leG leG (cF (.int (0))) (nmF 5) (opF ixG (nmF 0) (cF (.int (1))))))))
  (retF (cF .none))
  passF)
abbrev X__law_behind_4_t_2 : SF := (retF (cbF (ii2 maxI) (consF (cF (.int (0))) (consF (cbF (ii2 minI) (consF (cbF intC (consF (nmF 5) nilF)) (consF (cbF intC (consF (opF ixG (nmF 0) (cF (.int (1)))) nilF)) nilF))) nilF))))
abbrev X__law_behind_4_t_b : SF := (seqF X__law_behind_4_t_0 (seqF X__law_behind_4_t_1 X__law_behind_4_t_2))
abbrev X__law_behind_4 : SF := (ifS (boolF (opF eqG (opF ixG (nmF 0) (cF (.int (0)))) (cF (.str "gauge")))) X__law_behind_4_t_b passF)
abbrev X__law_behind_5 : SF := (setF 4 noE)
abbrev X__law_behind_6_t_0 : SF := (setF 6 (ifE (boolF (opF eqG (nmF 3) (cF (.str "expect")))) (opF ixG (nmF 1) (cF (.int (2)))) (cF (.str ""))))
abbrev X__law_behind_6_t_1 : SF := (retF (ifE (boolF (opF eqG noE (nmF 6))) (nmF 2) (cF .none)))
abbrev X__law_behind_6_t_b : SF := (seqF X__law_behind_6_t_0 X__law_behind_6_t_1)
abbrev X__law_behind_6 : SF := (ifS (boolF (opF (inG false) (nmF 3) (lstF (consF (cF (.str "expect")) (consF (cF (.str "absent")) nilF))))) X__law_behind_6_t_b passF)
abbrev X__law_behind_7 : SF := (stoF (ifE (boolF (opF eqG (nmF 3) (cF (.str "set")))) (opF ixG (nmF 1) (cF (.int (2)))) (cF (.str ""))) (nmF 4) (opF ixG (nmF 1) (cF (.int (1)))))
abbrev X__law_behind_8 : SF := (retF (cbF tupleC (consF (lcF (itF (cbF sortedC (consF (lcF (itF (cbF listC (consF (nmF 4) nilF))) [8] (tgN 8) yesF (cbF strC2 (consF (nmF 8) nilF))) nilF))) [7] (tgN 7) (boolF (opF neG (opF ixG (nmF 4) (nmF 7)) (cF (.str "")))) (tupF (consF (nmF 7) (consF (opF ixG (nmF 4) (nmF 7)) nilF)))) nilF)))
abbrev X__law_behind_b : SF := (seqF X__law_behind_0 (seqF X__law_behind_1 (seqF X__law_behind_2 (seqF X__law_behind_3 (seqF X__law_behind_4 (seqF X__law_behind_5 (seqF X__law_behind_6 (seqF X__law_behind_7 X__law_behind_8))))))))
theorem X__law_behind_is : B__law_behind = X__law_behind_b := rfl
abbrev X__law_left_0_0 : SF := (setF 2 (callF F__law_behind (consF (nmF 0) (consF (nmF 3) (consF (nmF 2) nilF)))))
abbrev X__law_left_0_1 : SF := (ifS (boolF (opF (isG false) (nmF 2) (cF .none)))
  (retF (cF .none))
  passF)
abbrev X__law_left_0_b : SF := (seqF X__law_left_0_0 X__law_left_0_1)
abbrev X__law_left_0 : SF := (forF (itF (nmF 1)) (tgN 3) X__law_left_0_b)
abbrev X__law_left_1 : SF := (retF (nmF 2))
abbrev X__law_left_b : SF := (seqF X__law_left_0 X__law_left_1)
theorem X__law_left_is : B__law_left = X__law_left_b := rfl
abbrev X__law_gauge_0 : SF := (retF (tupF (consF (cF (.str "gauge")) (consF (callF F__law_one (consF (nmF 0) (consF (lstF (consF (cF (.int (1))) (consF (cF (.int (2))) (consF (cF (.int (3))) (consF (cF (.int (5))) (consF (cF (.int (9))) nilF)))))) nilF))) (consF (callF F__law_one (consF (nmF 0) (consF (lstF (consF (cF (.str "stop")) (consF (cF (.str "fail")) nilF))) nilF))) nilF)))))
abbrev X__law_gauge_b : SF := X__law_gauge_0
theorem X__law_gauge_is : B__law_gauge = X__law_gauge_b := rfl
abbrev X__law_gauge_row_0 : SF := (setF 3 (lstF nilF))
abbrev X__law_gauge_row_1_0 : SF := (setF 5 (ifE (boolF (opF eqG (callF F__law_take (consF (nmF 0) (consF (cF (.int (3))) nilF))) (cF (.int (0))))) (opF addG (cF (.int (1))) (callF F__law_take (consF (nmF 0) (consF (opF ixG (nmF 1) (cF (.int (1)))) nilF)))) (opF addG (cF (.int (1))) (callF F__law_take (consF (nmF 0) (consF (cbF (ii2 minI) (consF (cF (.int (2))) (consF (opF ixG (nmF 1) (cF (.int (1)))) nilF))) nilF))))))
abbrev X__law_gauge_row_1_1 : SF := (exprF (muF "list" appG (nmF 3) (consF (tupF (consF (callF F__law_one (consF (nmF 0) (consF (lstF (consF (cF (.str "add")) (consF (cF (.str "sub")) nilF))) nilF))) (consF (nmF 5) nilF))) nilF)))
abbrev X__law_gauge_row_1_b : SF := (seqF X__law_gauge_row_1_0 X__law_gauge_row_1_1)
abbrev X__law_gauge_row_1 : SF := (forF (rngF (consF (callF F__law_take (consF (nmF 0) (consF (opF addG (nmF 2) (cF (.int (1)))) nilF))) nilF)) (tgN 4) X__law_gauge_row_1_b)
abbrev X__law_gauge_row_2 : SF := (retF (cbF tupleC (consF (nmF 3) nilF)))
abbrev X__law_gauge_row_b : SF := (seqF X__law_gauge_row_0 (seqF X__law_gauge_row_1 X__law_gauge_row_2))
theorem X__law_gauge_row_is : B__law_gauge_row = X__law_gauge_row_b := rfl
abbrev X__law_map_0 : SF := (retF (lcF (rngF (consF (opF addG (opF ixG (nmF 0) (cF (.int (1)))) (cF (.int (1)))) nilF)) [2] (tgN 2) yesF (callF F__law_left (consF (nmF 0) (consF (nmF 1) (consF (nmF 2) nilF))))))
abbrev X__law_map_b : SF := X__law_map_0
theorem X__law_map_is : B__law_map = X__law_map_b := rfl
abbrev X__law_told_form_0 : SF := (setF 2 (callF F__law_map (consF (nmF 0) (consF (nmF 1) nilF))))
abbrev X__law_told_form_1_t_0 : SF := (setF 4 (lcF (rngF (consF (cbF lenG (consF (nmF 2) nilF)) nilF)) [5] (tgN 5) (boolF (opF (isG true) (opF ixG (nmF 2) (nmF 5)) (cF .none))) (nmF 5)))
abbrev X__law_told_form_1_t_1 : SF := (retF (ifE (boolF (opF neG (nmF 4) (lstF nilF))) (tupF (consF (opF ixG (nmF 4) (cF (.int (0)))) (consF (opF subG (opF ixG (nmF 2) (opF ixG (nmF 4) (cF (.int (0))))) (opF ixG (nmF 4) (cF (.int (0))))) (consF (opF ixG (nmF 4) (unF negG (cF (.int (1))))) nilF)))) (cF .none)))
abbrev X__law_told_form_1_t_b : SF := (seqF X__law_told_form_1_t_0 X__law_told_form_1_t_1)
abbrev X__law_told_form_1 : SF := (ifS (boolF (opF eqG (opF ixG (nmF 0) (cF (.int (2)))) (cF (.str "fail")))) X__law_told_form_1_t_b passF)
abbrev X__law_told_form_2 : SF := (ifS (boolF (opF eqG (opF ixG (nmF 2) (cF (.int (0)))) (opF ixG (nmF 2) (unF negG (cF (.int (1)))))))
  (retF (tupF (consF (opF ixG (nmF 2) (cF (.int (0)))) (consF (cF (.int (0))) (consF (opF ixG (nmF 2) (cF (.int (0)))) nilF)))))
  passF)
abbrev X__law_told_form_3 : SF := (setF 3 (cbF sumC (consF (lcF (itF (nmF 1)) [6] (tgN 6) yesF (ifE (boolF (opF eqG (opF ixG (nmF 6) (cF (.int (0)))) (cF (.str "add")))) (opF ixG (nmF 6) (cF (.int (1)))) (unF negG (opF ixG (nmF 6) (cF (.int (1))))))) nilF)))
abbrev X__law_told_form_4 : SF := (retF (tupF (consF (opF ixG (nmF 2) (cF (.int (0)))) (consF (nmF 3) (consF (opF ixG (nmF 2) (unF negG (cF (.int (1))))) nilF)))))
abbrev X__law_told_form_b : SF := (seqF X__law_told_form_0 (seqF X__law_told_form_1 (seqF X__law_told_form_2 (seqF X__law_told_form_3 X__law_told_form_4))))
theorem X__law_told_form_is : B__law_told_form = X__law_told_form_b := rfl
abbrev X__law_called_0 : SF := (retF (ifE (boolF (opF eqG (nmF 0) (cF (.int (0))))) (callF F_gauge_works (consF (nmF 1) (consF (nmF 2) (consF (nmF 3) nilF)))) (callF F_gauge_left (consF (nmF 1) (consF (nmF 2) (consF (nmF 3) nilF))))))
abbrev X__law_called_b : SF := X__law_called_0
theorem X__law_called_is : B__law_called = X__law_called_b := rfl
abbrev X__law_refusals_0 : SF := (setF 3 (callF F__law_one (consF (nmF 0) (consF (lstF (consF (cF .none) (consF (tupF (consF (cF (.str "gauge")) (consF (cF (.int (0))) (consF (cF (.str "stop")) nilF)))) (consF (tupF (consF (cF (.str "gauge")) (consF (cF (.int (5))) (consF (cF (.str "drop")) nilF)))) (consF (tupF (consF (cF (.str "ring")) (consF (cF (.int (5))) (consF (cF (.str "fail")) nilF)))) (consF (lstF (consF (cF (.str "gauge")) (consF (cF (.int (5))) (consF (cF (.str "stop")) nilF)))) (consF (tupF (consF (cF (.str "gauge")) (consF (cF (.int (1000))) (consF (cF (.str "fail")) nilF)))) (consF (tupF (consF (cF (.str "gauge")) (consF (cF (.bool true)) (consF (cF (.str "stop")) nilF)))) (consF (tupF (consF (cF (.str "heap")) nilF)) nilF))))))))) nilF))))
abbrev X__law_refusals_1 : SF := (setF 4 (callF F__law_one (consF (nmF 0) (consF (lstF (consF (cF .none) (consF (lstF (consF (tupF (consF (cF (.str "add")) (consF (cF (.int (1))) nilF))) nilF)) (consF (tupF (consF (tupF (consF (cF (.str "add")) (consF (cF (.int (0))) nilF))) nilF)) (consF (tupF (consF (tupF (consF (cF (.str "add")) (consF (opF addG (opF ixG (nmF 1) (cF (.int (1)))) (cF (.int (1)))) nilF))) nilF)) (consF (tupF (consF (tupF (consF (cF (.str "put")) (consF (cF (.str "a")) nilF))) nilF)) (consF (tupF (consF (cF (.str "add")) (consF (cF (.int (1))) nilF))) (consF (tupF (consF (tupF (consF (cF (.str "sub")) (consF (cF (.bool true)) nilF))) nilF)) (consF (mulX3 (tupF (consF (tupF (consF (cF (.str "add")) (consF (cF (.int (1))) nilF))) nilF)) (cF (.int (61)))) nilF))))))))) nilF))))
abbrev X__law_refusals_2 : SF := (setF 5 (callF F__law_one (consF (nmF 0) (consF (lstF (consF (tupF (consF (cF (.int (0))) (consF (cF (.int (0))) nilF))) (consF (lstF (consF (cF (.int (0))) (consF (cF (.int (0))) (consF (cF (.int (0))) nilF)))) (consF (tupF (consF (cF (.int (0))) (consF (cF (.int (0))) (consF (opF addG (opF ixG (nmF 1) (cF (.int (1)))) (cF (.int (1)))) nilF)))) (consF (tupF (consF (unF negG (cF (.int (1)))) (consF (cF (.int (0))) (consF (cF (.int (0))) nilF)))) (consF (tupF (consF (cF (.int (1))) (consF (cF (.int (0))) (consF (cF (.int (0))) nilF)))) (consF (tupF (consF (cF (.int (0))) (consF (cF (.bool true)) (consF (opF ixG (nmF 1) (cF (.int (1)))) nilF)))) (consF (cF (.str "form")) nilF)))))))) nilF))))
abbrev X__law_refusals_3 : SF := (setF 6 (callF F__law_one (consF (nmF 0) (consF (lstF (consF (cF .none) (consF (unF negG (cF (.int (1)))) (consF (opF addG (opF ixG (nmF 1) (cF (.int (1)))) (cF (.int (1)))) (consF (cF (.bool true)) (consF (tupF (consF (cF (.int (1))) nilF)) nilF)))))) nilF))))
abbrev X__law_refusals_4 : SF := (ifS (boolF (opF neG (heardF CTL 2 1 CS__law_heard "is" (callF F_gauge_form (consF (nmF 3) (consF (nmF 4) nilF)))) (tupF (consF (cF (.str "kind")) (consF (nmF 3) nilF)))))
  (retF (cF (.bool false)))
  passF)
abbrev X__law_refusals_5 : SF := (ifS (boolF (opF neG (heardF CTL 2 1 CS__law_heard "is" (callF F_gauge_form (consF (nmF 1) (consF (nmF 4) nilF)))) (tupF (consF (cF (.str "row")) (consF (nmF 4) nilF)))))
  (retF (cF (.bool false)))
  passF)
abbrev X__law_refusals_6_0 : SF := (ifS (boolF (opF neG (heardF CTL 2 1 CS__law_heard "is" (callF F__law_called (consF (nmF 7) (consF (nmF 3) (consF (nmF 5) (consF (nmF 6) nilF)))))) (tupF (consF (cF (.str "kind")) (consF (nmF 3) nilF)))))
  (retF (cF (.bool false)))
  passF)
abbrev X__law_refusals_6_1 : SF := (ifS (boolF (opF neG (heardF CTL 2 1 CS__law_heard "is" (callF F__law_called (consF (nmF 7) (consF (nmF 1) (consF (nmF 5) (consF (nmF 6) nilF)))))) (tupF (consF (cF (.str "form")) (consF (nmF 5) nilF)))))
  (retF (cF (.bool false)))
  passF)
abbrev X__law_refusals_6_2 : SF := (ifS (boolF (opF neG (heardF CTL 2 1 CS__law_heard "is" (callF F__law_called (consF (nmF 7) (consF (nmF 1) (consF (nmF 2) (consF (nmF 6) nilF)))))) (tupF (consF (cF (.str "box")) (consF (nmF 6) (consF (cF (.bool true)) nilF))))))
  (retF (cF (.bool false)))
  passF)
abbrev X__law_refusals_6_b : SF := (seqF X__law_refusals_6_0 (seqF X__law_refusals_6_1 X__law_refusals_6_2))
abbrev X__law_refusals_6 : SF := (forF (rngF (consF (cF (.int (2))) nilF)) (tgN 7) X__law_refusals_6_b)
abbrev X__law_refusals_7 : SF := (retF (cF (.bool true)))
abbrev X__law_refusals_b : SF := (seqF X__law_refusals_0 (seqF X__law_refusals_1 (seqF X__law_refusals_2 (seqF X__law_refusals_3 (seqF X__law_refusals_4 (seqF X__law_refusals_5 (seqF X__law_refusals_6 X__law_refusals_7)))))))
theorem X__law_refusals_is : B__law_refusals = X__law_refusals_b := rfl
abbrev X_law_0_0 : SF := (setF 2 (callF F__law_pool (consF (nmF 0) (consF (nmF 1) nilF))))
abbrev X_law_0_1 : SF := (setF 3 (callF F__law_gauge (consF (nmF 2) nilF)))
abbrev X_law_0_2 : SF := (parF [6, 7] (consF (callF F__law_gauge_row (consF (nmF 2) (consF (nmF 3) (consF (cF (.int (6))) nilF)))) (consF (callF F__law_gauge_row (consF (nmF 2) (consF (nmF 3) (consF (cF (.int (4))) nilF)))) nilF)))
abbrev X_law_0_3 : SF := (setF 4 (callF F_gauge_form (consF (nmF 3) (consF (nmF 6) nilF))))
abbrev X_law_0_4 : SF := (ifS (boolF (opF neG (nmF 4) (callF F__law_told_form (consF (nmF 3) (consF (nmF 6) nilF)))))
  (retF (cF (.bool false)))
  passF)
abbrev X_law_0_5 : SF := (ifS (boolF (opF neG (opF eqG (nmF 4) (callF F_gauge_form (consF (nmF 3) (consF (nmF 7) nilF)))) (opF eqG (callF F__law_map (consF (nmF 3) (consF (nmF 6) nilF))) (callF F__law_map (consF (nmF 3) (consF (nmF 7) nilF))))))
  (retF (cF (.bool false)))
  passF)
abbrev X_law_0_6_0 : SF := (setF 8 (callF F__law_left (consF (nmF 3) (consF (nmF 6) (consF (nmF 5) nilF)))))
abbrev X_law_0_6_1 : SF := (ifS (orT (boolF (opF neG (callF F_gauge_left (consF (nmF 3) (consF (nmF 4) (consF (nmF 5) nilF)))) (nmF 8))) (boolF (opF neG (callF F_gauge_works (consF (nmF 3) (consF (nmF 4) (consF (nmF 5) nilF)))) (opF (isG true) (nmF 8) (cF .none)))))
  (retF (cF (.bool false)))
  passF)
abbrev X_law_0_6_b : SF := (seqF X_law_0_6_0 X_law_0_6_1)
abbrev X_law_0_6 : SF := (forF (rngF (consF (opF addG (opF ixG (nmF 3) (cF (.int (1)))) (cF (.int (1)))) nilF)) (tgN 5) X_law_0_6_b)
abbrev X_law_0_7 : SF := (ifS (notT (truF (callF F__law_refusals (consF (nmF 2) (consF (nmF 3) (consF (nmF 4) nilF))))))
  (retF (cF (.bool false)))
  passF)
abbrev X_law_0_b : SF := (seqF X_law_0_0 (seqF X_law_0_1 (seqF X_law_0_2 (seqF X_law_0_3 (seqF X_law_0_4 (seqF X_law_0_5 (seqF X_law_0_6 X_law_0_7)))))))
abbrev X_law_0 : SF := (forF (rngF (consF (cbF (ii2 maxI) (consF (cF (.int (1))) (consF (cbF (ii2 minI) (consF (cF (.int (2))) (consF (cbF lenG (consF (nmF 0) nilF)) nilF))) nilF))) nilF)) (tgN 1) X_law_0_b)
abbrev X_law_1 : SF := (retF (cF (.bool true)))
abbrev X_law_b : SF := (seqF X_law_0 X_law_1)
theorem X_law_is : B_law = X_law_b := rfl

def mW (st : Bool) : Str := if st then "stop" else "fail"
def kD (m : Int) (st : Bool) : D := .tuple [.str "gauge", .int m, .str (mW st)]
def xD (x : Bool × Int) : D := .tuple [.str (if x.1 then "add" else "sub"), .int x.2]
def gD (r : GRow) : D := .tuple (r.map xD)
def fD : Option Fm → D
  | none => .none
  | some f => .tuple [.int f.l, .int f.s, .int f.h]
def oD : Option Int → D
  | none => .none
  | some n => .int n
theorem eq_stop {st : Bool} : eqG (.str (mW st)) (.str "stop") = some (.sh (.bool st)) := by cases st <;> kernel_rfl
theorem eq_fail {st : Bool} : eqG (.str (mW st)) (.str "fail") = some (.sh (.bool !st)) := by cases st <;> kernel_rfl
theorem eq_add {b : Bool} : eqG (.str (if b then "add" else "sub")) (.str "add") = some (.sh (.bool b)) := by cases b <;> kernel_rfl
section
variable {f g : Fm} {m n : Int} {st : Bool} {x : Bool × Int}
theorem clamped_ok : F_clamped [.sh (fD (some f)), .sh (.int n)] = .ret false (.int (cl f n)) [.sh (fD (some f)), .sh (.int n)] := by
  simp [F_clamped, runF, B_clamped, Ag.sl, outE, pick, fD, atI, ixN, cl]
theorem cjoined_ok : F_clamps_joined [.sh (fD (some f)), .sh (fD (some g))] = .ret false (fD (some (clJ f g))) [.sh (fD (some f)), .sh (fD (some g))] := by
  have c1 := clamped_ok (f := g) (n := f.l)
  have c2 := clamped_ok (f := g) (n := f.h)
  simp only [fD] at c1 c2
  unfold clJ
  by_cases q : cl g f.l < cl g f.h
  · rw [if_pos q]
    simp [F_clamps_joined, runF, B_clamps_joined, Ag.sl, outE, pick, fD, atI, ixN, c1, c2, q, LIM]
  · rw [if_neg q]
    simp [F_clamps_joined, runF, B_clamps_joined, Ag.sl, outE, pick, fD, atI, ixN, c1, c2, q, LIM]
theorem is_t {a : List D} : isG false (.tuple a) .none = some (.sh (.bool false)) := rfl
theorem is_n : isG false .none .none = some (.sh (.bool true)) := by kernel_rfl
theorem sj_some : F_spans_joined [.sh (fD (some f)), .sh (fD (some g))] = .ret false (fD (spJ f g)) [.sh (fD (some f)), .sh (fD (some g))] := by
  unfold spJ
  by_cases q : maxI f.l (g.l - f.s) ≤ minI f.h (g.h - f.s)
  · rw [if_pos q]
    simp [F_spans_joined, runF, B_spans_joined, Ag.sl, outE, pick, fD, atI, ixN, is_t, q, LIM]
  · rw [if_neg q]
    simp [F_spans_joined, runF, B_spans_joined, Ag.sl, outE, pick, fD, atI, ixN, is_t, q, LIM]
theorem sj_n {z : D} : F_spans_joined [.sh .none, .sh z] = .ret false .none [.sh .none, .sh z] := by
  simp [F_spans_joined, runF, B_spans_joined, Ag.sl, outE, pick, is_n]
theorem sj_tn : F_spans_joined [.sh (fD (some f)), .sh .none] = .ret false .none [.sh (fD (some f)), .sh .none] := by
  simp [F_spans_joined, runF, B_spans_joined, Ag.sl, outE, pick, fD, is_n, is_t]
theorem sjoined_ok : ∀ {f g : Option Fm}, F_spans_joined [.sh (fD f), .sh (fD g)] = .ret false (fD (joinG false f g)) [.sh (fD f), .sh (fD g)]
  | none, _ => sj_n
  | some _, none => sj_tn
  | some _, some _ => sj_some
theorem gj_pl {K0 K1 Wd A B : D} {z : Fr} (hs : eqG Wd (.str "stop") = some (.sh (.bool st))) {r : D} (h1 : st = true → F_clamps_joined [.sh A, .sh B] = .ret false r [.sh A, .sh B]) (h2 : st = false → F_spans_joined [.sh A, .sh B] = .ret false r [.sh A, .sh B]) :
    F_gauges_joined [.sh (.tuple [K0, K1, Wd]), .sh A, .sh B] = .ret false r [.sh (.tuple [K0, K1, Wd]), .sh A, .sh B] := by
  cases st
  · have h2 := h2 rfl
    simp [F_gauges_joined, runF, B_gauges_joined, Ag.sl, outE, pick, atI, ixN, hs, h2]
  · have h1 := h1 rfl
    simp [F_gauges_joined, runF, B_gauges_joined, Ag.sl, outE, pick, atI, ixN, hs, h1]
theorem joined_ok {f g : Option Fm} (hf : okF m st f) (hg : okF m st g) : F_gauges_joined [.sh (kD m st), .sh (fD f), .sh (fD g)] = .ret false (fD (joinG st f g)) [.sh (kD m st), .sh (fD f), .sh (fD g)] := by
  refine gj_pl (z := .no) eq_stop (fun h => ?_) (fun h => ?_)
  · subst h
    cases f with
    | none => exact hf.elim
    | some f => cases g with
      | none => exact hg.elim
      | some g => exact cjoined_ok
  · subst h
    exact sjoined_ok
theorem signed_ok : F_signed_amount [.sh (xD x)] = .ret false (.int (sg x)) [.sh (xD x)] := by
  obtain ⟨b, a⟩ := x
  have q := eq_add (b := b)
  unfold sg
  cases b
  · simp only [Bool.false_eq_true, if_false] at q
    simp [F_signed_amount, runF, B_signed_amount, Ag.sl, outE, pick, xD, atI, ixN, q, negG]
  · simp only [if_true] at q
    simp [F_signed_amount, runF, B_signed_amount, Ag.sl, outE, pick, xD, atI, ixN, q]
theorem gs_pl {K0 X : D} {Wd : D} {s : Int} (hf : eqG Wd (.str "fail") = some (.sh (.bool !st))) (h1 : F_signed_amount [.sh X] = .ret false (.int s) [.sh X]) {r : Fm}
    (hr : r = if st then (if 0 < s then ⟨s, if s < m then s else 0, m⟩ else ⟨0, if 0 < m + s then s else 0, m + s⟩) else if 0 < s then ⟨0, s, m - s⟩ else ⟨-s, s, m⟩) :
    F_gauge_step_form [.sh (.tuple [K0, .int m, Wd]), .sh X] = .ret false (fD (some r)) [.sh (.tuple [K0, .int m, Wd]), .sh X] := by
  subst hr
  cases st
  · by_cases q : 0 < s
    · simp [F_gauge_step_form, runF, B_gauge_step_form, Ag.sl, outE, pick, atI, ixN, hf, h1, q, fD, LIM]
    · simp [F_gauge_step_form, runF, B_gauge_step_form, Ag.sl, outE, pick, atI, ixN, hf, h1, q, fD, LIM, negG]
  · by_cases q : 0 < s
    · by_cases w : s < m
      · simp [F_gauge_step_form, runF, B_gauge_step_form, Ag.sl, outE, pick, atI, ixN, hf, h1, q, w, fD, LIM]
      · simp [F_gauge_step_form, runF, B_gauge_step_form, Ag.sl, outE, pick, atI, ixN, hf, h1, q, w, fD, LIM]
    · by_cases w : 0 < m + s
      · simp [F_gauge_step_form, runF, B_gauge_step_form, Ag.sl, outE, pick, atI, ixN, hf, h1, q, w, fD, LIM]
      · simp [F_gauge_step_form, runF, B_gauge_step_form, Ag.sl, outE, pick, atI, ixN, hf, h1, q, w, fD, LIM]
theorem step_ok : F_gauge_step_form [.sh (kD m st), .sh (xD x)] = .ret false (fD (some (stF m st x))) [.sh (kD m st), .sh (xD x)] := gs_pl eq_fail signed_ok rfl
end
end S35


set_option Elab.async false
set_option linter.all false
set_option maxRecDepth 100000
set_option maxHeartbeats 4000000
namespace S35
open PySem PySem.Spec PyProof.Rows L2 VL GG
def ms : List Int := [1, 2, 3, 5, 9]
theorem ms_le {m : Int} (h : m ∈ ms) : 1 ≤ m ∧ m ≤ 9 := by
  simp only [ms, List.mem_cons, List.not_mem_nil, or_false] at h
  omega
theorem kind_ok {m : Int} {st : Bool} (hm : m ∈ ms) : F_is_kind [.sh (kD m st)] = .ret false (.bool true) [.sh (kD m st)] := by
  simp only [ms, List.mem_cons, List.not_mem_nil, or_false] at hm
  rcases hm with rfl | rfl | rfl | rfl | rfl <;> cases st <;> kernel_rfl
theorem ne_gg : neG (.str "gauge") (.str "gauge") = some (.sh (.bool false)) := by kernel_rfl
theorem cg_pl {G K1 Wd : D} (n : neG G (.str "gauge") = some (.sh (.bool false))) (h : F_is_kind [.sh (.tuple [G, K1, Wd])] = .ret false (.bool true) [.sh (.tuple [G, K1, Wd])]) : F_check_gauge [.sh (.tuple [G, K1, Wd])] = .ret false .none [.sh (.tuple [G, K1, Wd])] := by
  simp [F_check_gauge, runF, B_check_gauge, Ag.sl, outE, pick, atI, ixN, h, n]
theorem check_gauge_ok {m : Int} {st : Bool} (hm : m ∈ ms) : F_check_gauge [.sh (kD m st)] = .ret false .none [.sh (kD m st)] := cg_pl ne_gg (kind_ok hm)
theorem ck_pl {K : D} (h : F_is_kind [.sh K] = .ret false (.bool true) [.sh K]) : F_check_kind [.sh K] = .ret false .none [.sh K] := by
  simp [F_check_kind, runF, B_check_kind, Ag.sl, outE, pick, h]
theorem step_form_ok {m : Int} {st : Bool} {x : Bool × Int} (hm : m ∈ ms) (h : OkX m x) : F_has_step_form [.sh (kD m st), .sh (xD x)] = .ret false (.bool true) [.sh (kD m st), .sh (xD x)] := by
  obtain ⟨b, a⟩ := x
  obtain ⟨h1, h2⟩ := h
  dsimp only at h1 h2
  simp only [ms, List.mem_cons, List.not_mem_nil, or_false] at hm
  rcases hm with rfl | rfl | rfl | rfl | rfl
  · rcases (show a = 1 by omega) with rfl; cases st <;> cases b <;> kernel_rfl
  · rcases (show a = 1 ∨ a = 2 by omega) with rfl | rfl <;> cases st <;> cases b <;> kernel_rfl
  · rcases (show a = 1 ∨ a = 2 ∨ a = 3 by omega) with rfl | rfl | rfl <;> cases st <;> cases b <;> kernel_rfl
  · rcases (show a = 1 ∨ a = 2 ∨ a = 3 ∨ a = 4 ∨ a = 5 by omega) with rfl | rfl | rfl | rfl | rfl <;> cases st <;> cases b <;> kernel_rfl
  · rcases (show a = 1 ∨ a = 2 ∨ a = 3 ∨ a = 4 ∨ a = 5 ∨ a = 6 ∨ a = 7 ∨ a = 8 ∨ a = 9 by omega) with rfl | rfl | rfl | rfl | rfl | rfl | rfl | rfl | rfl <;> cases st <;> cases b <;> kernel_rfl
def OkR (m : Int) (r : GRow) : Prop := ∀ x ∈ r, OkX m x
theorem row_form_ok {m : Int} {st : Bool} {r : GRow} (hm : m ∈ ms) (hr : OkR m r) (hl : r.length ≤ 60) : F_has_row_form [.sh (kD m st), .sh (gD r)] = .ret false (.bool true) [.sh (kD m st), .sh (gD r)] := by
  have e := lc_map (e := [.sh (kD m st), .sh (gD r), .un]) (stp := lcStep [2] (tgN 2) yesF (callF F_has_step_form (consF (nmF 0) (consF (nmF 2) nilF)))) (g := fun _ => .bool true) (r.map xD) [] (fun d hd => by
    obtain ⟨s, hs, rfl⟩ := List.mem_map.mp hd
    simp [lcStep, clean, cleanS, wipeE, unwipe, Sl.isIo, step_form_ok hm (hr s hs)]) (by simp [LIM]; omega)
  have e2 : (r.map xD).map (fun _ => PyData.bool true) = List.replicate r.length (PyData.bool true) := by
    rw [List.map_map]
    exact List.map_const' ..
  rw [e2] at e
  have h2 : (r.length : Int) ≤ 60 := by omega
  generalize kD m st = K at *
  simp only [gD] at e
  simp [F_has_row_form, runF, B_has_row_form, Ag.sl, outE, pick, gD, h2, e, all_true]
theorem row_of_ok {m : Int} {st : Bool} {r : GRow} (hm : m ∈ ms) (hr : OkR m r) (hl : r.length ≤ 60) : F_check_row_of [.sh (kD m st), .sh (gD r)] = .ret false .none [.sh (kD m st), .sh (gD r)] := by
  have c := ck_pl (kind_ok (st := st) hm)
  have e := row_form_ok (st := st) hm hr hl
  simp [F_check_row_of, runF, B_check_row_of, Ag.sl, outE, pick, c, e]
theorem for_step {tgt : D → En → Option En} {body : SF} {d : D} {ts : List D} {e e1 e2 : En} {r : Rb} (h1 : tgt d e = some e1) (h2 : body e1 = .nx e2) (h3 : forGo tgt body ts e2 = r) : forGo tgt body (d :: ts) e = r := by
  rw [forGo, h1]; dsimp only; rw [h2]; exact h3
theorem for_rt {tgt : D → En → Option En} {body : SF} {d : D} {ts : List D} {e e1 e2 : En} {v : Rv} (h1 : tgt d e = some e1) (h2 : body e1 = .rt v e2) : forGo tgt body (d :: ts) e = .rt v e2 := by
  rw [forGo, h1]; dsimp only; rw [h2]
theorem fs_pl {K R F X S J : D} (h1 : F_gauge_step_form [.sh K, .sh X] = .ret false S [.sh K, .sh X]) (h2 : F_gauges_joined [.sh K, .sh F, .sh S] = .ret false J [.sh K, .sh F, .sh S]) : X_gauge_form_3_b [.sh K, .sh R, .sh F, .sh X] = .nx [.sh K, .sh R, .sh J, .sh X] := by
  simp [X_gauge_form_3_b, X_gauge_form_3_0, h1, h2]
theorem form_go {m : Int} {st : Bool} {R : D} : ∀ (r : GRow) (f : Option Fm) (s3 : Sl), OkR m r → okF m st f → s3.isIo = false → ∃ s3', forGo (tgN 3) X_gauge_form_3_b (r.map xD) [.sh (kD m st), .sh R, .sh (fD f), s3] = .nx [.sh (kD m st), .sh R, .sh (fD (formFrom m st f r)), s3']
  | [], f, s3, _, _, _ => ⟨s3, rfl⟩
  | x :: r, f, s3, h, hf, i3 => by
    have hx := h x List.mem_cons_self
    obtain ⟨s3', g⟩ := form_go r (joinG st f (some (stF m st x))) (.sh (xD x)) (fun y hy => h y (List.mem_cons_of_mem _ hy)) (ok_join hf (ok_st hx)) rfl
    have tg : tgN 3 (xD x) [.sh (kD m st), .sh R, .sh (fD f), s3] = some [.sh (kD m st), .sh R, .sh (fD f), .sh (xD x)] := by simp [i3]
    exact ⟨s3', for_step tg (fs_pl step_ok (joined_ok hf (ok_st hx))) g⟩
theorem form_ok {m : Int} {st : Bool} {r : GRow} (hm : m ∈ ms) (hr : OkR m r) (hl : r.length ≤ 60) : F_gauge_form [.sh (kD m st), .sh (gD r)] = .ret false (fD (form m st r)) [.sh (kD m st), .sh (gD r)] := by
  have c1 := check_gauge_ok (st := st) hm
  have c2 := row_of_ok (st := st) hm hr hl
  obtain ⟨s3, g⟩ := form_go (R := gD r) (st := st) r (some ⟨0, 0, m⟩) .un hr (ok_id (by have := ms_le hm; omega)) rfl
  have y0 : X_gauge_form_0 [.sh (kD m st), .sh (gD r), .un, .un] = .nx [.sh (kD m st), .sh (gD r), .un, .un] := by simp [X_gauge_form_0, c1]
  have y1 : X_gauge_form_1 [.sh (kD m st), .sh (gD r), .un, .un] = .nx [.sh (kD m st), .sh (gD r), .un, .un] := by simp [X_gauge_form_1, c2]
  have y2 : ∀ {K0 W R : D}, X_gauge_form_2 [.sh (.tuple [K0, .int m, W]), .sh R, .un, .un] = .nx [.sh (.tuple [K0, .int m, W]), .sh R, .sh (.tuple [.int 0, .int 0, .int m]), .un] := by
    intro K0 W R
    simp [X_gauge_form_2, atI, ixN, LIM]
  have y3 : X_gauge_form_3 [.sh (kD m st), .sh (gD r), .sh (fD (some ⟨0, 0, m⟩)), .un] = .nx [.sh (kD m st), .sh (gD r), .sh (fD (form m st r)), s3] := by
    refine Eq.trans ?_ g
    simp [X_gauge_form_3, gD, -X_gauge_form_3_b]
  have y4 : ∀ {K R F : D}, X_gauge_form_4 [.sh K, .sh R, .sh F, s3] = .rt (.sh F) [.sh K, .sh R, .sh F, s3] := by
    intro K R F
    simp [X_gauge_form_4]
  have y : X_gauge_form_b [.sh (kD m st), .sh (gD r), .un, .un] = .rt (.sh (fD (form m st r))) [.sh (kD m st), .sh (gD r), .sh (fD (form m st r)), s3] := (seq_to2 y0).trans ((seq_to2 y1).trans ((seq_to2 y2).trans ((seq_to2 y3).trans y4)))
  exact runF_sh (np := 2) (n := 4) (body := B_gauge_form) (as := [.sh (kD m st), .sh (gD r)]) rfl y
end S35


set_option Elab.async false
set_option linter.all false
set_option maxRecDepth 100000
set_option maxHeartbeats 4000000
namespace S35
open PySem PySem.Spec PyProof.Rows L2 VL GG
theorem whole_ok {i : Int} : F_is_whole [.sh (.int i)] = .ret false (.bool true) [.sh (.int i)] := by
  simp [F_is_whole, runF, B_is_whole, Ag.sl, outE, pick]
theorem isn_t {a : List D} : isG false (.tuple a) .none = some (.sh (.bool false)) := rfl
section
variable {K0 Wd A B C K : D} {l s h m n : Int} {st b : Bool}
theorem clamp_yes (h1 : 0 ≤ l) (h2 : l ≤ h) (h3 : h ≤ m) (h4 : (l = h ∧ s = 0) ∨ (l < h ∧ h - m ≤ s ∧ s ≤ l)) : F_is_clamp [.sh (.tuple [.int l, .int s, .int h]), .sh (.int m)] = .ret false (.bool true) [.sh (.tuple [.int l, .int s, .int h]), .sh (.int m)] := by
  rcases h4 with ⟨rfl, rfl⟩ | ⟨q1, q2, q3⟩
  · have e : eqG (.int l) (.int l) = some (.sh (.bool true)) := by rw [eq_i, beq_self_eq_true]
    have e0 : eqG (.int 0) (.int 0) = some (.sh (.bool true)) := by rw [eq_i]; rfl
    simp [F_is_clamp, runF, B_is_clamp, Ag.sl, outE, pick, ch3F, lnkF, lstF', h1, h3, e, e0]
  · have e : eqG (.int l) (.int h) = some (.sh (.bool false)) := by rw [eq_i, beq_eq_false_iff_ne.mpr (by omega)]
    simp [F_is_clamp, runF, B_is_clamp, Ag.sl, outE, pick, ch3F, lnkF, lstF', h1, h2, h3, e, q2, q3]
theorem clamp_no (h1 : ¬ (0 ≤ l ∧ l ≤ h)) : F_is_clamp [.sh (.tuple [.int l, .int s, .int h]), .sh (.int m)] = .ret false (.bool false) [.sh (.tuple [.int l, .int s, .int h]), .sh (.int m)] := by
  by_cases q : 0 ≤ l
  · have q2 : ¬ l ≤ h := fun z => h1 ⟨q, z⟩
    simp [F_is_clamp, runF, B_is_clamp, Ag.sl, outE, pick, ch3F, lnkF, lstF', q, q2]
  · simp [F_is_clamp, runF, B_is_clamp, Ag.sl, outE, pick, ch3F, lnkF, lstF', q]
theorem of3 : F_is_tuple_of [.sh (.tuple [A, B, C]), .sh (.int 3)] = .ret false (.bool true) [.sh (.tuple [A, B, C]), .sh (.int 3)] := by
  simp [F_is_tuple_of, runF, B_is_tuple_of, Ag.sl, outE, pick, eq_i]
/-- the first two statements -/
theorem hg0 {a : List D} {s2 s3 s4 : Sl} : X_has_gauge_form_0 [.sh K, .sh (.tuple a), s2, s3, s4, .un] = .nx [.sh K, .sh (.tuple a), s2, s3, s4, .un] := by
  have q := isn_t (a := a)
  simp [X_has_gauge_form_0, q]
theorem hg1 : X_has_gauge_form_1 [.sh K, .sh (.tuple [.int l, .int s, .int h]), .un, .un, .un, .un] = .nx [.sh K, .sh (.tuple [.int l, .int s, .int h]), .un, .un, .un, .un] := by
  have t := of3 (A := .int l) (B := .int s) (C := .int h)
  have lc : lcGo (lcStep [5] (tgN 5) yesF (callF F_is_whole (consF (nmF 5) nilF))) [.int l, .int s, .int h] [.sh K, .sh (.tuple [.int l, .int s, .int h]), .un, .un, .un, .un] [] = some ([.bool true, .bool true, .bool true], [.sh K, .sh (.tuple [.int l, .int s, .int h]), .un, .un, .un, .un]) := by
    have st1 : ∀ i : Int, lcStep [5] (tgN 5) yesF (callF F_is_whole (consF (nmF 5) nilF)) (.int i) [.sh K, .sh (.tuple [.int l, .int s, .int h]), .un, .un, .un, .un] = some (some (.bool true), [.sh K, .sh (.tuple [.int l, .int s, .int h]), .un, .un, .un, .un]) := fun i => by
      simp [lcStep, clean, cleanS, wipeE, unwipe, whole_ok]
    exact lcGo3 (st1 l) (st1 s) (st1 h)
  have a := all_true 3
  have a : allC [.list [.bool true, .bool true, .bool true]] = some (.sh (.bool true)) := a
  simp [X_has_gauge_form_1, t, lc, a]
theorem hg_stop (hs : eqG Wd (.str "stop") = some (.sh (.bool true))) (k : F_is_clamp [.sh (.tuple [.int l, .int s, .int h]), .sh (.int m)] = .ret false (.bool b) [.sh (.tuple [.int l, .int s, .int h]), .sh (.int m)]) :
    F_has_gauge_form [.sh (.tuple [K0, .int m, Wd]), .sh (.tuple [.int l, .int s, .int h])] = .ret false (.bool b) [.sh (.tuple [K0, .int m, Wd]), .sh (.tuple [.int l, .int s, .int h])] := by
  have y2 : X_has_gauge_form_2 [.sh (.tuple [K0, .int m, Wd]), .sh (.tuple [.int l, .int s, .int h]), .un, .un, .un, .un] = .rt (.sh (.bool b)) [.sh (.tuple [K0, .int m, Wd]), .sh (.tuple [.int l, .int s, .int h]), .un, .un, .un, .un] := by
    simp [X_has_gauge_form_2, atI, ixN, hs, k]
  have y : X_has_gauge_form_b [.sh (.tuple [K0, .int m, Wd]), .sh (.tuple [.int l, .int s, .int h]), .un, .un, .un, .un] = .rt (.sh (.bool b)) [.sh (.tuple [K0, .int m, Wd]), .sh (.tuple [.int l, .int s, .int h]), .un, .un, .un, .un] := by
    refine (seq_to2 hg0).trans ((seq_to2 hg1).trans ?_)
    rw [x_seqF, y2, x_seq_rt]
  exact runF_sh (np := 2) (n := 6) (body := B_has_gauge_form) (as := [.sh (.tuple [K0, .int m, Wd]), .sh (.tuple [.int l, .int s, .int h])]) rfl y
theorem hg_fail (hs : eqG Wd (.str "stop") = some (.sh (.bool false))) (hb : b = decide (0 ≤ l ∧ l ≤ h ∧ h ≤ m ∧ 0 ≤ l + s ∧ h + s ≤ m)) :
    F_has_gauge_form [.sh (.tuple [K0, .int m, Wd]), .sh (.tuple [.int l, .int s, .int h])] = .ret false (.bool b) [.sh (.tuple [K0, .int m, Wd]), .sh (.tuple [.int l, .int s, .int h])] := by
  have y2 : X_has_gauge_form_2 [.sh (.tuple [K0, .int m, Wd]), .sh (.tuple [.int l, .int s, .int h]), .un, .un, .un, .un] = .nx [.sh (.tuple [K0, .int m, Wd]), .sh (.tuple [.int l, .int s, .int h]), .un, .un, .un, .un] := by
    simp [X_has_gauge_form_2, atI, ixN, hs]
  have y3 : X_has_gauge_form_3 [.sh (.tuple [K0, .int m, Wd]), .sh (.tuple [.int l, .int s, .int h]), .un, .un, .un, .un] = .nx [.sh (.tuple [K0, .int m, Wd]), .sh (.tuple [.int l, .int s, .int h]), .sh (.int l), .sh (.int s), .sh (.int h), .un] := by
    simp [X_has_gauge_form_3]
  have y4 : X_has_gauge_form_4 [.sh (.tuple [K0, .int m, Wd]), .sh (.tuple [.int l, .int s, .int h]), .sh (.int l), .sh (.int s), .sh (.int h), .un] = .rt (.sh (.bool b)) [.sh (.tuple [K0, .int m, Wd]), .sh (.tuple [.int l, .int s, .int h]), .sh (.int l), .sh (.int s), .sh (.int h), .un] := by
    subst hb
    by_cases q1 : 0 ≤ l <;> by_cases q2 : l ≤ h <;> by_cases q3 : h ≤ m <;> by_cases q4 : 0 ≤ l + s <;> by_cases q5 : h + s ≤ m <;>
      simp [X_has_gauge_form_4, atI, ixN, ch3F, lnkF, lstF', q1, q2, q3, q4, q5]
  have y : X_has_gauge_form_b [.sh (.tuple [K0, .int m, Wd]), .sh (.tuple [.int l, .int s, .int h]), .un, .un, .un, .un] = .rt (.sh (.bool b)) [.sh (.tuple [K0, .int m, Wd]), .sh (.tuple [.int l, .int s, .int h]), .sh (.int l), .sh (.int s), .sh (.int h), .un] :=
    (seq_to2 hg0).trans ((seq_to2 hg1).trans ((seq_to2 y2).trans ((seq_to2 y3).trans y4)))
  exact runF_sh (np := 2) (n := 6) (body := B_has_gauge_form) (as := [.sh (.tuple [K0, .int m, Wd]), .sh (.tuple [.int l, .int s, .int h])]) rfl y
theorem hg_none (hs : eqG Wd (.str "fail") = some (.sh (.bool b))) : F_has_gauge_form [.sh (.tuple [K0, B, Wd]), .sh .none] = .ret false (.bool b) [.sh (.tuple [K0, B, Wd]), .sh .none] := by
  have q := is_n
  simp [F_has_gauge_form, runF, B_has_gauge_form, Ag.sl, outE, pick, q, atI, ixN, hs]
end
section
variable {m n : Int} {st : Bool}
theorem has_ok : ∀ {f : Option Fm}, okF m st f → F_has_gauge_form [.sh (kD m st), .sh (fD f)] = .ret false (.bool true) [.sh (kD m st), .sh (fD f)] := by
  intro f hf
  cases st with
  | true => cases f with
    | none => exact hf.elim
    | some f =>
      obtain ⟨a1, a2, a3, a4⟩ := hf
      exact hg_stop (eq_stop (st := true)) (clamp_yes a1 a2 a3 a4)
  | false => cases f with
    | none => exact hg_none (eq_fail (st := false))
    | some f =>
      obtain ⟨a1, a2, a3, a4, a5⟩ := hf
      exact hg_fail (eq_stop (st := false)) (by rw [decide_eq_true (And.intro a1 (And.intro a2 (And.intro a3 (And.intro a4 a5))))])
theorem cf_pl {K F : D} (h1 : F_check_gauge [.sh K] = .ret false .none [.sh K]) (h2 : F_has_gauge_form [.sh K, .sh F] = .ret false (.bool true) [.sh K, .sh F]) : F_check_gauge_form [.sh K, .sh F] = .ret false .none [.sh K, .sh F] := by
  simp [F_check_gauge_form, runF, B_check_gauge_form, Ag.sl, outE, pick, h1, h2]
theorem cf_x {K F : D} (h1 : F_check_gauge [.sh K] = .ret false .none [.sh K]) (h2 : F_has_gauge_form [.sh K, .sh F] = .ret false (.bool false) [.sh K, .sh F]) : F_check_gauge_form [.sh K, .sh F] = .exc ⟨"NoForm", "told", F⟩ [.sh K, .sh F] := by
  simp [F_check_gauge_form, runF, B_check_gauge_form, Ag.sl, outE, pick, h1, h2]
theorem check_form_ok {f : Option Fm} (hm : m ∈ ms) (hf : okF m st f) : F_check_gauge_form [.sh (kD m st), .sh (fD f)] = .ret false .none [.sh (kD m st), .sh (fD f)] := cf_pl (check_gauge_ok hm) (has_ok hf)
/-! contents -/
theorem has_con {n : Int} (hm : m ∈ ms) (h0 : 0 ≤ n) (h1 : n ≤ m) : F_has_contents_form [.sh (kD m st), .sh (.int n)] = .ret false (.bool true) [.sh (kD m st), .sh (.int n)] := by
  have hn := ms_le hm
  simp only [ms, List.mem_cons, List.not_mem_nil, or_false] at hm
  rcases hm with rfl | rfl | rfl | rfl | rfl
  · rcases (show n = 0 ∨ n = 1 by omega) with rfl | rfl <;> cases st <;> kernel_rfl
  · rcases (show n = 0 ∨ n = 1 ∨ n = 2 by omega) with rfl | rfl | rfl <;> cases st <;> kernel_rfl
  · rcases (show n = 0 ∨ n = 1 ∨ n = 2 ∨ n = 3 by omega) with rfl | rfl | rfl | rfl <;> cases st <;> kernel_rfl
  · rcases (show n = 0 ∨ n = 1 ∨ n = 2 ∨ n = 3 ∨ n = 4 ∨ n = 5 by omega) with rfl | rfl | rfl | rfl | rfl | rfl <;> cases st <;> kernel_rfl
  · rcases (show n = 0 ∨ n = 1 ∨ n = 2 ∨ n = 3 ∨ n = 4 ∨ n = 5 ∨ n = 6 ∨ n = 7 ∨ n = 8 ∨ n = 9 by omega) with rfl | rfl | rfl | rfl | rfl | rfl | rfl | rfl | rfl | rfl <;> cases st <;> kernel_rfl
theorem cc_pl {K F N : D} (h1 : F_check_gauge_form [.sh K, .sh F] = .ret false .none [.sh K, .sh F]) (h2 : F_has_contents_form [.sh K, .sh N] = .ret false (.bool true) [.sh K, .sh N]) : F_check_gauge_contents [.sh K, .sh F, .sh N] = .ret false .none [.sh K, .sh F, .sh N] := by
  have k : F_check_contents [.sh K, .sh N] = .ret false .none [.sh K, .sh N] := by
    simp [F_check_contents, runF, B_check_contents, Ag.sl, outE, pick, h2]
  simp [F_check_gauge_contents, runF, B_check_gauge_contents, Ag.sl, outE, pick, h1, k]
theorem gl_no {K F N : D} (h1 : F_check_gauge_contents [.sh K, .sh F, .sh N] = .ret false .none [.sh K, .sh F, .sh N]) (h2 : F_bears [.sh K, .sh F, .sh N] = .ret false (.bool false) [.sh K, .sh F, .sh N]) : F_gauge_left [.sh K, .sh F, .sh N] = .ret false .none [.sh K, .sh F, .sh N] := by
  simp [F_gauge_left, runF, B_gauge_left, Ag.sl, outE, pick, h1, h2]
theorem gl_st {K0 K1 Wd F N r : D} (hs : eqG Wd (.str "stop") = some (.sh (.bool true))) (h1 : F_check_gauge_contents [.sh (.tuple [K0, K1, Wd]), .sh F, .sh N] = .ret false .none [.sh (.tuple [K0, K1, Wd]), .sh F, .sh N]) (h3 : F_clamped [.sh F, .sh N] = .ret false r [.sh F, .sh N]) : F_gauge_left [.sh (.tuple [K0, K1, Wd]), .sh F, .sh N] = .ret false r [.sh (.tuple [K0, K1, Wd]), .sh F, .sh N] := by
  have h2 : F_bears [.sh (.tuple [K0, K1, Wd]), .sh F, .sh N] = .ret false (.bool true) [.sh (.tuple [K0, K1, Wd]), .sh F, .sh N] := by
    simp [F_bears, runF, B_bears, Ag.sl, outE, pick, atI, ixN, hs]
  simp [F_gauge_left, runF, B_gauge_left, Ag.sl, outE, pick, atI, ixN, hs, h1, h2, h3]
theorem be_f {K0 K1 Wd : D} {l s h n : Int} {b : Bool} (hs : eqG Wd (.str "stop") = some (.sh (.bool false))) (hb : b = decide (l ≤ n ∧ n ≤ h)) : F_bears [.sh (.tuple [K0, K1, Wd]), .sh (.tuple [.int l, .int s, .int h]), .sh (.int n)] = .ret false (.bool b) [.sh (.tuple [K0, K1, Wd]), .sh (.tuple [.int l, .int s, .int h]), .sh (.int n)] := by
  have q : isG true (.tuple [.int l, .int s, .int h]) .none = some (.sh (.bool true)) := rfl
  subst hb
  by_cases q1 : l ≤ n <;> by_cases q2 : n ≤ h <;> simp [F_bears, runF, B_bears, Ag.sl, outE, pick, atI, ixN, hs, q, q1, q2]
theorem be_n {K0 K1 Wd N : D} (hs : eqG Wd (.str "stop") = some (.sh (.bool false))) : F_bears [.sh (.tuple [K0, K1, Wd]), .sh .none, .sh N] = .ret false (.bool false) [.sh (.tuple [K0, K1, Wd]), .sh .none, .sh N] := by
  have q : isG true .none .none = some (.sh (.bool false)) := by kernel_rfl
  simp [F_bears, runF, B_bears, Ag.sl, outE, pick, atI, ixN, hs, q]
theorem gl_f {K0 K1 Wd : D} {l s h n : Int} (hs : eqG Wd (.str "stop") = some (.sh (.bool false))) (h1 : F_check_gauge_contents [.sh (.tuple [K0, K1, Wd]), .sh (.tuple [.int l, .int s, .int h]), .sh (.int n)] = .ret false .none [.sh (.tuple [K0, K1, Wd]), .sh (.tuple [.int l, .int s, .int h]), .sh (.int n)]) (q : l ≤ n ∧ n ≤ h) : F_gauge_left [.sh (.tuple [K0, K1, Wd]), .sh (.tuple [.int l, .int s, .int h]), .sh (.int n)] = .ret false (.int (n + s)) [.sh (.tuple [K0, K1, Wd]), .sh (.tuple [.int l, .int s, .int h]), .sh (.int n)] := by
  have h2 := be_f (K0 := K0) (K1 := K1) (s := s) (b := true) hs (by rw [decide_eq_true q])
  simp [F_gauge_left, runF, B_gauge_left, Ag.sl, outE, pick, atI, ixN, hs, h1, h2]
theorem left_ok {f : Option Fm} (hm : m ∈ ms) (hf : okF m st f) (h0 : 0 ≤ n) (h1 : n ≤ m) : F_gauge_left [.sh (kD m st), .sh (fD f), .sh (.int n)] = .ret false (oD (act st f n)) [.sh (kD m st), .sh (fD f), .sh (.int n)] := by
  have c := cc_pl (check_form_ok hm hf) (has_con (st := st) hm h0 h1)
  cases st with
  | true => cases f with
    | none => exact hf.elim
    | some f => exact gl_st (eq_stop (st := true)) c clamped_ok
  | false => cases f with
    | none => exact gl_no c (be_n (eq_stop (st := false)))
    | some f =>
      by_cases q : f.l ≤ n ∧ n ≤ f.h
      · have e : act false (some f) n = some (n + f.s) := if_pos q
        rw [e]
        exact gl_f (eq_stop (st := false)) c q
      · have e : act false (some f) n = none := if_neg q
        rw [e]
        exact gl_no c (be_f (eq_stop (st := false)) (by rw [decide_eq_false q]))
end
end S35


set_option Elab.async false
set_option linter.all false
set_option maxRecDepth 100000
set_option maxHeartbeats 4000000
namespace S35
open PySem PySem.Spec PyProof.Rows L2 VL GG
/-! the law's plain box -/
theorem g_in : inG false (.str "gauge") (.list [.str "stack", .str "queue", .str "ring"]) = some (.sh (.bool false)) := by kernel_rfl
theorem g_tape : eqG (.str "gauge") (.str "tape") = some (.sh (.bool false)) := by kernel_rfl
theorem g_heap : eqG (.str "gauge") (.str "heap") = some (.sh (.bool false)) := by kernel_rfl
theorem g_gauge : eqG (.str "gauge") (.str "gauge") = some (.sh (.bool true)) := by kernel_rfl
section
variable {G W Wd X K R N : D} {m n s a : Int} {st b : Bool}
theorem bh0 {s3 s4 s5 s6 s7 s8 : Sl} (i3 : s3.isIo = false) : X__law_behind_0 [.sh K, .sh (.tuple [W, X]), .sh N, s3, s4, s5, s6, s7, s8] = .nx [.sh K, .sh (.tuple [W, X]), .sh N, .sh W, s4, s5, s6, s7, s8] := by
  simp [X__law_behind_0, atI, ixN, i3]
theorem bh1 {A B : D} {s1 s2 s3 s4 s5 s6 s7 s8 : Sl} (h : inG false G (.list [.str "stack", .str "queue", .str "ring"]) = some (.sh (.bool false))) : X__law_behind_1 [.sh (.tuple [G, A, B]), s1, s2, s3, s4, s5, s6, s7, s8] = .nx [.sh (.tuple [G, A, B]), s1, s2, s3, s4, s5, s6, s7, s8] := by
  simp [X__law_behind_1, atI, ixN, h, LIM]
theorem bh2 {A B : D} {s1 s2 s3 s4 s5 s6 s7 s8 : Sl} (h : eqG G (.str "tape") = some (.sh (.bool false))) : X__law_behind_2 [.sh (.tuple [G, A, B]), s1, s2, s3, s4, s5, s6, s7, s8] = .nx [.sh (.tuple [G, A, B]), s1, s2, s3, s4, s5, s6, s7, s8] := by
  simp [X__law_behind_2, atI, ixN, h]
theorem bh3 {A B : D} {s1 s2 s3 s4 s5 s6 s7 s8 : Sl} (h : eqG G (.str "heap") = some (.sh (.bool false))) : X__law_behind_3 [.sh (.tuple [G, A, B]), s1, s2, s3, s4, s5, s6, s7, s8] = .nx [.sh (.tuple [G, A, B]), s1, s2, s3, s4, s5, s6, s7, s8] := by
  simp [X__law_behind_3, atI, ixN, h]
theorem bh4 {A B : D} {s1 s2 s3 s4 s5 s6 s7 s8 : Sl} {z : Rb} {v : Rv} {e : En} (h : eqG G (.str "gauge") = some (.sh (.bool true))) (hb : X__law_behind_4_t_b [.sh (.tuple [G, A, B]), s1, s2, s3, s4, s5, s6, s7, s8] = .rt v e) : X__law_behind_4 [.sh (.tuple [G, A, B]), s1, s2, s3, s4, s5, s6, s7, s8] = .rt v e := by
  have := hb
  simp [X__law_behind_4, atI, ixN, h, -X__law_behind_4_t_b]
  exact this
theorem bt0 {s4 s6 s7 s8 : Sl} (hw : eqG W (.str "add") = some (.sh (.bool b))) (hs : s = if b then a else -a) : X__law_behind_4_t_0 [.sh K, .sh (.tuple [W, .int a]), .sh (.int n), .sh W, s4, .un, s6, s7, s8] = .nx [.sh K, .sh (.tuple [W, .int a]), .sh (.int n), .sh W, s4, .sh (.int (n + s)), s6, s7, s8] := by
  subst hs
  cases b
  · simp [X__law_behind_4_t_0, atI, ixN, hw, negG]
  · simp [X__law_behind_4_t_0, atI, ixN, hw]
theorem bt12 {k : Int} {s1 s2 s3 s4 s6 s7 s8 : Sl} (hf : eqG Wd (.str "fail") = some (.sh (.bool !st))) : (seqF X__law_behind_4_t_1 X__law_behind_4_t_2) [.sh (.tuple [G, .int m, Wd]), s1, s2, s3, s4, .sh (.int k), s6, s7, s8] = .rt (.sh (oD (if st = false ∧ ¬ (0 ≤ k ∧ k ≤ m) then none else some (maxI 0 (minI k m))))) [.sh (.tuple [G, .int m, Wd]), s1, s2, s3, s4, .sh (.int k), s6, s7, s8] := by
  cases st
  · by_cases q1 : 0 ≤ k <;> by_cases q2 : k ≤ m <;> simp [X__law_behind_4_t_1, X__law_behind_4_t_2, atI, ixN, hf, q1, q2, oD]
  · simp [X__law_behind_4_t_1, X__law_behind_4_t_2, atI, ixN, hf, oD]
end
theorem behind_ok {m n : Int} {st : Bool} {x : Bool × Int} : F__law_behind [.sh (kD m st), .sh (xD x), .sh (.int n)] = .ret false (oD (beh m st x n)) [.sh (kD m st), .sh (xD x), .sh (.int n)] := by
  have rts : ∀ {f g : SF} {e e2 : En} {r : Rv}, f e = .rt r e2 → seqF f g e = .rt r e2 := fun {f g e e2 r} h => by rw [x_seqF, h, x_seq_rt]
  have y : X__law_behind_b [.sh (kD m st), .sh (xD x), .sh (.int n), .un, .un, .un, .un, .un, .un] = .rt (.sh (oD (beh m st x n))) [.sh (kD m st), .sh (xD x), .sh (.int n), .sh (.str (if x.1 then "add" else "sub")), .un, .sh (.int (n + sg x)), .un, .un, .un] :=
    (seq_to2 (bh0 rfl)).trans ((seq_to2 (bh1 g_in)).trans ((seq_to2 (bh2 g_tape)).trans ((seq_to2 (bh3 g_heap)).trans (rts (bh4 (z := .no) g_gauge ((seq_to2 (bt0 eq_add rfl)).trans (bt12 eq_fail)))))))
  exact runF_sh (np := 3) (n := 9) (body := B__law_behind) (as := [.sh (kD m st), .sh (xD x), .sh (.int n)]) rfl y
theorem lf_s {K R X N M : D} {k : Int} (h : F__law_behind [.sh K, .sh X, .sh N] = .ret false (.int k) [.sh K, .sh X, .sh N]) : X__law_left_0_b [.sh K, .sh R, .sh N, .sh X] = .nx [.sh K, .sh R, .sh (.int k), .sh X] := by
  have q : isG false (.int k) .none = some (.sh (.bool false)) := rfl
  simp [X__law_left_0_b, X__law_left_0_0, X__law_left_0_1, h, q]
theorem lf_n {K R X N M : D} (h : F__law_behind [.sh K, .sh X, .sh N] = .ret false .none [.sh K, .sh X, .sh N]) : X__law_left_0_b [.sh K, .sh R, .sh N, .sh X] = .rt (.sh .none) [.sh K, .sh R, .sh .none, .sh X] := by
  have q := is_n
  simp [X__law_left_0_b, X__law_left_0_0, X__law_left_0_1, h, q]
theorem lf_go {m : Int} {st : Bool} {R : D} : ∀ (r : GRow) (n : Int) (s3 : Sl), s3.isIo = false →
    (∀ k, grun m st r n = some k → ∃ s3', forGo (tgN 3) X__law_left_0_b (r.map xD) [.sh (kD m st), .sh R, .sh (.int n), s3] = .nx [.sh (kD m st), .sh R, .sh (.int k), s3']) ∧
    (grun m st r n = none → ∃ a b, forGo (tgN 3) X__law_left_0_b (r.map xD) [.sh (kD m st), .sh R, .sh (.int n), s3] = .rt (.sh .none) [.sh (kD m st), .sh R, a, b])
  | [], n, s3, _ => ⟨fun k h => (by cases h; exact ⟨s3, rfl⟩), fun h => (by cases h)⟩
  | x :: r, n, s3, i3 => by
    have hb := behind_ok (m := m) (n := n) (st := st) (x := x)
    have tg : tgN 3 (xD x) [.sh (kD m st), .sh R, .sh (.int n), s3] = some [.sh (kD m st), .sh R, .sh (.int n), .sh (xD x)] := by simp [i3]
    cases q : beh m st x n with
    | none =>
      rw [q] at hb
      have e : grun m st (x :: r) n = none := by show (beh m st x n).bind _ = none; rw [q]; rfl
      exact ⟨fun k h => (by rw [e] at h; cases h), fun _ => ⟨_, _, for_rt tg (lf_n (M := .none) hb)⟩⟩
    | some k =>
      rw [q] at hb
      have e : grun m st (x :: r) n = grun m st r k := by show (beh m st x n).bind _ = _; rw [q]; rfl
      obtain ⟨h1, h2⟩ := lf_go (m := m) (st := st) (R := R) r k (.sh (xD x)) rfl
      rw [e]
      refine ⟨fun k' h => ?_, fun h => ?_⟩
      · obtain ⟨s3', g⟩ := h1 k' h
        exact ⟨s3', for_step tg (lf_s (M := .none) hb) g⟩
      · obtain ⟨a, b, g⟩ := h2 h
        exact ⟨a, b, for_step tg (lf_s (M := .none) hb) g⟩
theorem lleft_ok {m : Int} {st : Bool} {r : GRow} {n : Int} : F__law_left [.sh (kD m st), .sh (gD r), .sh (.int n)] = .ret false (oD (grun m st r n)) [.sh (kD m st), .sh (gD r), .sh (.int n)] := by
  obtain ⟨h1, h2⟩ := lf_go (m := m) (st := st) (R := gD r) r n .un rfl
  have y0 : ∀ {K : D} {N : D} {s3 : Sl} {z : Rb}, forGo (tgN 3) X__law_left_0_b (r.map xD) [.sh K, .sh (gD r), .sh N, s3] = z → X__law_left_0 [.sh K, .sh (gD r), .sh N, s3] = z := fun {K N s3 z} h => by
    subst h
    simp [X__law_left_0, gD, -X__law_left_0_b]
  cases q : grun m st r n with
  | none =>
    obtain ⟨a, b, g⟩ := h2 q
    have y : X__law_left_b [.sh (kD m st), .sh (gD r), .sh (.int n), .un] = .rt (.sh .none) [.sh (kD m st), .sh (gD r), a, b] := by
      unfold X__law_left_b
      rw [x_seqF, y0 g, x_seq_rt]
    exact runF_sh (np := 3) (n := 4) (body := B__law_left) (as := [.sh (kD m st), .sh (gD r), .sh (.int n)]) rfl y
  | some k =>
    obtain ⟨s3, g⟩ := h1 k q
    have y : X__law_left_b [.sh (kD m st), .sh (gD r), .sh (.int n), .un] = .rt (.sh (.int k)) [.sh (kD m st), .sh (gD r), .sh (.int k), s3] := by
      refine (seq_to2 (y0 g)).trans ?_
      simp [X__law_left_1]
    exact runF_sh (np := 3) (n := 4) (body := B__law_left) (as := [.sh (kD m st), .sh (gD r), .sh (.int n)]) rfl y
def lotL (M : Nat) (st : Bool) (r : GRow) : List D := (List.range (M + 1)).map fun (i : Nat) => oD (grun (M : Int) st r (i : Int))
theorem mp_pl {K0 Wd R : D} {M : Nat} {L : List D} (hM : M ≤ 9) (lc : lcGo (lcStep [2] (tgN 2) yesF (callF F__law_left (consF (nmF 0) (consF (nmF 1) (consF (nmF 2) nilF))))) (rangeD 0 (M + 1)) [.sh (.tuple [K0, .int (M : Int), Wd]), .sh R, .un] [] = some (L, [.sh (.tuple [K0, .int (M : Int), Wd]), .sh R, .un])) :
    X__law_map_0 [.sh (.tuple [K0, .int (M : Int), Wd]), .sh R, .un] = .rt (.tm (.list L)) [.sh (.tuple [K0, .int (M : Int), Wd]), .sh R, .un] := by
  have b : rngB ((M : Int) + 1) = true := by have := rngB_nat (n := M + 1) (by omega); simpa using this
  have e : ((M : Int) + 1).toNat = M + 1 := by omega
  simp [X__law_map_0, atI, ixN, b, e, lc]
theorem map_ok {M : Nat} {st : Bool} {r : GRow} (hM : M ≤ 9) : F__law_map [.sh (kD M st), .sh (gD r)] = .ret true (.list (lotL M st r)) [.sh (kD M st), .sh (gD r)] := by
  have h := lc_ty (fun (i : Nat) => PyData.int (i : Int)) (fun _ => true) (fun (i : Nat) => oD (grun (M : Int) st r (i : Int))) (v := 2) (e := [.sh (kD M st), .sh (gD r), .un]) (tt := yesF) (el := callF F__law_left (consF (nmF 0) (consF (nmF 1) (consF (nmF 2) nilF)))) (List.range (M + 1)) [] rfl
    (fun s _ => by simp) (fun s _ _ => ⟨.sh (oD (grun (M : Int) st r (s : Int))), by
      have k := lleft_ok (m := (M : Int)) (st := st) (r := r) (n := (s : Int))
      generalize kD (M : Int) st = K at *
      generalize gD r = R at *
      simp [k], by simp⟩) (by simp [LIM]; omega)
  have hf : (List.range (M + 1)).filter (fun _ => true) = List.range (M + 1) := List.filter_eq_self.mpr (fun _ _ => rfl)
  rw [List.nil_append, hf] at h
  have e : rangeD 0 (M + 1) = (List.range (M + 1)).map (fun (i : Nat) => PyData.int (i : Int)) := by
    unfold rangeD
    congr 1
    funext i
    simp
  rw [← e] at h
  exact runF_tm (np := 2) (n := 3) (body := B__law_map) (as := [.sh (kD M st), .sh (gD r)]) rfl (mp_pl hM h)
end S35


set_option Elab.async false
set_option linter.all false
set_option maxRecDepth 100000
set_option maxHeartbeats 4000000
namespace S35
open PySem PySem.Spec PyProof.Rows L2 VL GG
section
variable {K R : D} {K0 Wd : D} {M : Nat} {st : Bool} {lot : List D}
abbrev tE7 (K R : D) (s2 s3 s4 : Sl) : En := [.sh K, .sh R, s2, s3, s4, .un, .un]
theorem tf0 (h : F__law_map [.sh K, .sh R] = .ret true (.list lot) [.sh K, .sh R]) : X__law_told_form_0 (tE7 K R .un .un .un) = .nx (tE7 K R (.ow (.list lot)) .un .un) := by
  simp [X__law_told_form_0, h]
theorem tf1s {K1 : D} (hf : eqG Wd (.str "fail") = some (.sh (.bool false))) {s3 s4 : Sl} : X__law_told_form_1 (tE7 (.tuple [K0, K1, Wd]) R (.ow (.list lot)) s3 s4) = .nx (tE7 (.tuple [K0, K1, Wd]) R (.ow (.list lot)) s3 s4) := by
  simp [X__law_told_form_1, atI, ixN, hf]
theorem tf2_y {l h : Int} {s3 s4 : Sl} (g0 : atI lot 0 = some (.int l)) (g1 : atI lot (-1) = some (.int h)) (e : eqG (.int l) (.int h) = some (.sh (.bool true))) : X__law_told_form_2 (tE7 K R (.ow (.list lot)) s3 s4) = .rt (.sh (.tuple [.int l, .int 0, .int l])) (tE7 K R (.ow (.list lot)) s3 s4) := by
  simp [X__law_told_form_2, negG, g0, g1, e, LIM, -x_atI]
theorem tf2_n {l h : Int} {s3 s4 : Sl} (g0 : atI lot 0 = some (.int l)) (g1 : atI lot (-1) = some (.int h)) (e : eqG (.int l) (.int h) = some (.sh (.bool false))) : X__law_told_form_2 (tE7 K R (.ow (.list lot)) s3 s4) = .nx (tE7 K R (.ow (.list lot)) s3 s4) := by
  simp [X__law_told_form_2, negG, g0, g1, e, LIM, -x_atI]
theorem ints_ok : ∀ l : List Int, intsD (l.map PyData.int) = some l
  | [] => rfl
  | x :: l => by rw [List.map_cons, intsD, ints_ok l]; rfl
theorem sum_ok (l : List Int) : sumC [.list (l.map PyData.int)] = some (.sh (.int l.sum)) := by
  show (intsD (l.map PyData.int)).map _ = _
  rw [ints_ok]; rfl
theorem tf3 {rs : List D} {I : List D} {n : Int} {s4 : Sl} (lc : lcGo (lcStep [6] (tgN 6) yesF (ifE (boolF (opF eqG (opF ixG (nmF 6) (cF (.int 0))) (cF (.str "add")))) (opF ixG (nmF 6) (cF (.int 1))) (unF negG (opF ixG (nmF 6) (cF (.int 1)))))) rs (tE7 K (.tuple rs) (.ow (.list lot)) .un s4) [] = some (I, tE7 K (.tuple rs) (.ow (.list lot)) .un s4)) (s : sumC [.list I] = some (.sh (.int n))) :
    X__law_told_form_3 (tE7 K (.tuple rs) (.ow (.list lot)) .un s4) = .nx (tE7 K (.tuple rs) (.ow (.list lot)) (.sh (.int n)) s4) := by
  simp [X__law_told_form_3, lc, s]
theorem tf4 {l h n : Int} {s4 : Sl} (g0 : atI lot 0 = some (.int l)) (g1 : atI lot (-1) = some (.int h)) : X__law_told_form_4 (tE7 K R (.ow (.list lot)) (.sh (.int n)) s4) = .rt (.sh (.tuple [.int l, .int n, .int h])) (tE7 K R (.ow (.list lot)) (.sh (.int n)) s4) := by
  simp [X__law_told_form_4, negG, g0, g1, LIM, -x_atI]
theorem tf1f {K1 : D} {G : List D} {l h : D} {a b s : Int} {s3 : Sl} (hf : eqG Wd (.str "fail") = some (.sh (.bool true))) (rb : rngB (lot.length : Int) = true)
    (lc : lcGo (lcStep [5] (tgN 5) (boolF (opF (isG true) (opF ixG (nmF 2) (nmF 5)) (cF .none))) (nmF 5)) (rangeD 0 lot.length) (tE7 (.tuple [K0, K1, Wd]) R (.ow (.list lot)) s3 .un) [] = some (G, tE7 (.tuple [K0, K1, Wd]) R (.ow (.list lot)) s3 .un))
    (n : neG (.list G) (.list []) = some (.sh (.bool true))) (g0 : atI G 0 = some (.int a)) (g1 : atI G (-1) = some (.int b)) (g2 : atI lot a = some (.int s)) :
    X__law_told_form_1 (tE7 (.tuple [K0, K1, Wd]) R (.ow (.list lot)) s3 .un) = .rt (.sh (.tuple [.int a, .int (s - a), .int b])) (tE7 (.tuple [K0, K1, Wd]) R (.ow (.list lot)) s3 (.ow (.list G))) := by
  have q : atI [K0, K1, Wd] 2 = some Wd := rfl
  simp [X__law_told_form_1, q, hf, rb, lc, n, negG, g0, g1, g2, LIM, -x_atI]
theorem tf1n {K1 : D} {s3 : Sl} (hf : eqG Wd (.str "fail") = some (.sh (.bool true))) (rb : rngB (lot.length : Int) = true)
    (lc : lcGo (lcStep [5] (tgN 5) (boolF (opF (isG true) (opF ixG (nmF 2) (nmF 5)) (cF .none))) (nmF 5)) (rangeD 0 lot.length) (tE7 (.tuple [K0, K1, Wd]) R (.ow (.list lot)) s3 .un) [] = some ([], tE7 (.tuple [K0, K1, Wd]) R (.ow (.list lot)) s3 .un)) :
    X__law_told_form_1 (tE7 (.tuple [K0, K1, Wd]) R (.ow (.list lot)) s3 .un) = .rt (.sh .none) (tE7 (.tuple [K0, K1, Wd]) R (.ow (.list lot)) s3 (.ow (.list []))) := by
  have q : atI [K0, K1, Wd] 2 = some Wd := rfl
  have n : neG (.list []) (.list []) = some (.sh (.bool false)) := by kernel_rfl
  simp [X__law_told_form_1, q, hf, rb, lc, n, LIM, -x_atI]
end
theorem lot_at {M : Nat} {st : Bool} {r : GRow} {i : Nat} (h : i ≤ M) : atI (lotL M st r) (i : Int) = some (oD (grun (M : Int) st r (i : Int))) := by
  unfold lotL
  rw [x_atI, List.getElem?_map, List.getElem?_range (by omega)]
  rfl
theorem lot_len {M : Nat} {st : Bool} {r : GRow} : (lotL M st r).length = M + 1 := by unfold lotL; rw [List.length_map, List.length_range]
theorem lot_last {M : Nat} {st : Bool} {r : GRow} : atI (lotL M st r) (-1) = some (oD (grun (M : Int) st r (M : Int))) := by
  rw [atI_neg1, lot_len, ← x_atI]
  exact lot_at (Nat.le_refl M)
theorem isn_o {o : Option Int} : isG true (oD o) .none = some (.sh (.bool o.isSome)) := by cases o <;> rfl
def goodL (M : Nat) (st : Bool) (r : GRow) : List Nat := (List.range (M + 1)).filter fun i => (grun (M : Int) st r (i : Int)).isSome
theorem lc_good {M : Nat} {st : Bool} {r : GRow} {K R : D} {s3 : Sl} (hM : M ≤ 9) : lcGo (lcStep [5] (tgN 5) (boolF (opF (isG true) (opF ixG (nmF 2) (nmF 5)) (cF .none))) (nmF 5)) (rangeD 0 (lotL M st r).length) (tE7 K R (.ow (.list (lotL M st r))) s3 .un) [] = some ((goodL M st r).map (fun (i : Nat) => PyData.int (i : Int)), tE7 K R (.ow (.list (lotL M st r))) s3 .un) := by
  have h := lc_ty (fun (i : Nat) => PyData.int (i : Int)) (fun i => (grun (M : Int) st r (i : Int)).isSome) (fun (i : Nat) => PyData.int (i : Int)) (v := 5) (e := tE7 K R (.ow (.list (lotL M st r))) s3 .un) (tt := boolF (opF (isG true) (opF ixG (nmF 2) (nmF 5)) (cF .none))) (el := nmF 5) (List.range (M + 1)) [] rfl
    (fun i hi => by
      have g := lot_at (M := M) (st := st) (r := r) (i := i) (by have := List.mem_range.mp hi; omega)
      have q := isn_o (o := grun (M : Int) st r (i : Int))
      generalize lotL M st r = lot at *
      generalize oD (grun (M : Int) st r (i : Int)) = y at *
      simp [g, q, -x_atI]) (fun i _ _ => ⟨.sh (.int (i : Int)), by simp, by simp⟩) (by simp [LIM]; omega)
  have e : rangeD 0 (M + 1) = (List.range (M + 1)).map (fun (i : Nat) => PyData.int (i : Int)) := by
    unfold rangeD
    congr 1
    funext i
    simp
  rw [List.nil_append, ← e] at h
  rw [lot_len]
  exact h
theorem good_fin' : ∀ M h l : Fin 10, l.val ≤ h.val → h.val ≤ M.val → ((List.range (M.val + 1)).filter fun i => decide (l.val ≤ i ∧ i ≤ h.val))[0]? = some l.val ∧ ((List.range (M.val + 1)).filter fun i => decide (l.val ≤ i ∧ i ≤ h.val))[((List.range (M.val + 1)).filter fun i => decide (l.val ≤ i ∧ i ≤ h.val)).length - 1]? = some h.val := by decide +kernel
theorem good_fin (M : Nat) (h1 : M < 10) (h : Nat) (h2 : h < 10) (l : Nat) (h3 : l < 10) (a : l ≤ h) (b : h ≤ M) : ((List.range (M + 1)).filter fun i => decide (l ≤ i ∧ i ≤ h))[0]? = some l ∧ ((List.range (M + 1)).filter fun i => decide (l ≤ i ∧ i ≤ h))[((List.range (M + 1)).filter fun i => decide (l ≤ i ∧ i ≤ h)).length - 1]? = some h :=
  good_fin' ⟨M, h1⟩ ⟨h, h2⟩ ⟨l, h3⟩ a b
theorem lc_sum {K : D} {lot : List D} {s4 : Sl} (r : GRow) (hl : r.length ≤ 100) : lcGo (lcStep [6] (tgN 6) yesF (ifE (boolF (opF eqG (opF ixG (nmF 6) (cF (.int 0))) (cF (.str "add")))) (opF ixG (nmF 6) (cF (.int 1))) (unF negG (opF ixG (nmF 6) (cF (.int 1)))))) (r.map xD) (tE7 K (gD r) (.ow (.list lot)) .un s4) [] = some ((r.map sg).map PyData.int, tE7 K (gD r) (.ow (.list lot)) .un s4) := by
  have h := lc_ty xD (fun _ => true) (fun x => .int (sg x)) (v := 6) (e := tE7 K (gD r) (.ow (.list lot)) .un s4) (tt := yesF) (el := ifE (boolF (opF eqG (opF ixG (nmF 6) (cF (.int 0))) (cF (.str "add")))) (opF ixG (nmF 6) (cF (.int 1))) (unF negG (opF ixG (nmF 6) (cF (.int 1))))) r [] rfl
    (fun s _ => by simp) (fun s _ _ => ⟨.sh (.int (sg s)), by
      obtain ⟨b, a⟩ := s
      have q := eq_add (b := b)
      unfold sg
      cases b
      · simp only [Bool.false_eq_true, if_false] at q
        simp [xD, atI, ixN, q, negG]
      · simp only [if_true] at q
        simp [xD, atI, ixN, q], by simp⟩) (by simp [LIM]; omega)
  have hf : r.filter (fun _ => true) = r := List.filter_eq_self.mpr (fun _ _ => rfl)
  rw [List.nil_append, hf] at h
  rw [List.map_map]
  exact h
theorem sumG_is : ∀ r : GRow, (r.map sg).sum = sumG r
  | [] => rfl
  | x :: r => by rw [List.map_cons, List.sum_cons, sumG_is r]; rfl
theorem ne_nl {a : Int} {G : List D} (h : SeqAt.shaped (.list (.int a :: G)) = true) : neG (.list (.int a :: G)) (.list []) = some (.sh (.bool true)) := by
  have h2 : SeqAt.shaped (.list ([] : List D)) = true := by decide +kernel
  unfold neG
  rw [h, h2]
  simp [PyData.eqv, PyData.eqvAll]
theorem told_ok {M : Nat} {st : Bool} {r : GRow} (hM : (M : Int) ∈ ms) (hr : OkR M r) (hl : r.length ≤ 60) : F__law_told_form [.sh (kD M st), .sh (gD r)] = .ret false (fD (form M st r)) [.sh (kD M st), .sh (gD r)] := by
  have hm := ms_le hM
  have hM9 : M ≤ 9 := by omega
  have h0 : (0 : Int) ≤ M := by omega
  have y0 := tf0 (map_ok (st := st) (r := r) hM9)
  have rts : ∀ {f g : SF} {e e2 : En} {r : Rv}, f e = .rt r e2 → seqF f g e = .rt r e2 := fun {f g e e2 r} h => by rw [x_seqF, h, x_seq_rt]
  have fin : ∀ {z : D} {s2 s3 s4 : Sl}, (seqF X__law_told_form_1 (seqF X__law_told_form_2 (seqF X__law_told_form_3 X__law_told_form_4))) (tE7 (kD M st) (gD r) (.ow (.list (lotL M st r))) .un .un) = .rt (.sh z) (tE7 (kD M st) (gD r) s2 s3 s4) → F__law_told_form [.sh (kD M st), .sh (gD r)] = .ret false z [.sh (kD M st), .sh (gD r)] := fun {z s2 s3 s4} h =>
    runF_sh (np := 2) (n := 7) (body := B__law_told_form) (as := [.sh (kD M st), .sh (gD r)]) rfl ((seq_to2 y0).trans h)
  have af : ∀ i : Nat, i ≤ M → act st (form M st r) (i : Int) = grun M st r (i : Int) := fun i hi => act_form h0 hr (by omega) (by omega)
  have l0 := lot_at (M := M) (st := st) (r := r) (i := 0) (by omega)
  have lm := lot_last (M := M) (st := st) (r := r)
  cases st with
  | true =>
    obtain ⟨g, eg, og, sg'⟩ := form_sum (m := (M : Int)) h0 hr
    have a0 := af 0 (by omega)
    have am := af M (Nat.le_refl M)
    rw [eg] at a0 am ⊢
    obtain ⟨o1, o2, o3, o4⟩ := og
    have c0 := cl_c g 0 o2
    have cm := cl_c g M o2
    have e0 : grun (M : Int) true r ((0 : Nat) : Int) = some g.l := by rw [← a0]; exact congrArg some (show cl g 0 = g.l by omega)
    have em : grun (M : Int) true r (M : Int) = some g.h := by rw [← am]; exact congrArg some (show cl g M = g.h by omega)
    rw [e0] at l0
    rw [em] at lm
    have y1 := tf1s (K0 := .str "gauge") (K1 := .int (M : Int)) (R := gD r) (lot := lotL M true r) (s3 := .un) (s4 := .un) (eq_fail (st := true))
    by_cases q : g.l = g.h
    · have s0 : g.s = 0 := by omega
      have e := eq_i (m := g.l) (n := g.h)
      rw [q, beq_self_eq_true] at e
      have y2 := tf2_y (K := kD M true) (R := gD r) (s3 := .un) (s4 := .un) l0 lm (by rw [q]; exact e)
      have fe : fD (some g) = .tuple [.int g.l, .int 0, .int g.l] := by show PyData.tuple [.int g.l, .int g.s, .int g.h] = _; rw [s0, ← q]
      rw [fe]
      exact fin ((seq_to2 y1).trans (rts y2))
    · have e := eq_i (m := g.l) (n := g.h)
      rw [beq_eq_false_iff_ne.mpr q] at e
      have y2 := tf2_n (K := kD M true) (R := gD r) (s3 := .un) (s4 := .un) l0 lm e
      have y3 := tf3 (K := kD M true) (lc_sum (K := kD M true) (lot := lotL M true r) (s4 := .un) r (by omega)) (sum_ok (r.map sg))
      rw [sumG_is, ← sg' (by omega)] at y3
      have y4 := tf4 (K := kD M true) (R := gD r) (n := g.s) (s4 := .un) l0 lm
      exact fin ((seq_to2 y1).trans ((seq_to2 y2).trans ((seq_to2 y3).trans y4)))
  | false =>
    have rb : rngB ((lotL M false r).length : Int) = true := rngB_nat (by rw [lot_len]; omega)
    have ok := ok_form (st := false) h0 hr
    have lc := lc_good (M := M) (st := false) (r := r) (K := kD M false) (R := gD r) (s3 := .un) hM9
    cases eg : form (M : Int) false r with
    | none =>
      have gn : goodL M false r = [] := by
        unfold goodL
        refine List.filter_eq_nil_iff.mpr fun i hi => ?_
        have a := af i (by have := List.mem_range.mp hi; omega)
        rw [eg] at a
        rw [← a]; simp [act]
      rw [gn] at lc
      exact fin (rts (tf1n (eq_fail (st := false)) rb lc))
    | some f =>
      rw [eg] at ok
      obtain ⟨a1, a2, a3, a4, a5⟩ := ok
      obtain ⟨l, hl'⟩ : ∃ l : Nat, (l : Int) = f.l := ⟨f.l.toNat, by omega⟩
      obtain ⟨h, hh⟩ : ∃ h : Nat, (h : Int) = f.h := ⟨f.h.toNat, by omega⟩
      have gn : goodL M false r = (List.range (M + 1)).filter fun i => decide (l ≤ i ∧ i ≤ h) := by
        unfold goodL
        refine List.filter_congr fun i hi => ?_
        have a := af i (by have := List.mem_range.mp hi; omega)
        rw [eg] at a
        rw [← a]
        show (if f.l ≤ (i : Int) ∧ (i : Int) ≤ f.h then some ((i : Int) + f.s) else none).isSome = _
        by_cases w : l ≤ i ∧ i ≤ h
        · rw [if_pos (by omega), decide_eq_true w]; rfl
        · rw [if_neg (by omega), decide_eq_false w]; rfl
      obtain ⟨k1, k2⟩ := good_fin M (by omega) h (by omega) l (by omega) (by omega) (by omega)
      rw [← gn] at k1 k2
      have g0 : atI ((goodL M false r).map (fun (i : Nat) => PyData.int (i : Int))) 0 = some (.int (l : Int)) := by
        have : atI ((goodL M false r).map (fun (i : Nat) => PyData.int (i : Int))) ((0 : Nat) : Int) = some (.int (l : Int)) := by rw [x_atI, List.getElem?_map, k1]; rfl
        exact this
      have g1 : atI ((goodL M false r).map (fun (i : Nat) => PyData.int (i : Int))) (-1) = some (.int (h : Int)) := by
        rw [atI_neg1, List.length_map, List.getElem?_map, k2]; rfl
      have g2 := lot_at (M := M) (st := false) (r := r) (i := l) (by omega)
      have al := af l (by omega)
      rw [eg] at al
      have al' : grun (M : Int) false r (l : Int) = some ((l : Int) + f.s) := by
        rw [← al]
        exact if_pos ⟨by omega, by omega⟩
      rw [al'] at g2
      have nn : neG (.list ((goodL M false r).map (fun (i : Nat) => PyData.int (i : Int)))) (.list []) = some (.sh (.bool true)) := by
        have ly : Lay 1 (.list ((goodL M false r).map (fun (i : Nat) => PyData.int (i : Int)))) := lay_lst fun x hx => by
          obtain ⟨i, _, rfl⟩ := List.mem_map.mp hx
          exact lay_int
        have sh := ly.sh (by decide)
        cases gl : goodL M false r with
        | nil => rw [gl] at k1; cases k1
        | cons y ys => rw [gl] at sh; exact ne_nl sh
      have y1 := tf1f (K0 := .str "gauge") (K1 := .int (M : Int)) (R := gD r) (s3 := .un) (l := .none) (h := .none) (eq_fail (st := false)) rb lc nn g0 g1 g2
      have fe : fD (some f) = .tuple [.int (l : Int), .int ((l : Int) + f.s - l), .int (h : Int)] := by
        show PyData.tuple [.int f.l, .int f.s, .int f.h] = _
        rw [← hl', ← hh, show (l : Int) + f.s - l = f.s by omega]
      rw [fe]
      exact fin (rts y1)
end S35


set_option Elab.async false
set_option linter.all false
set_option maxRecDepth 100000
set_option maxHeartbeats 4000000
namespace S35
open PySem PySem.Spec PyProof.Rows L2 VL GG
/-! drawing -/
theorem gauge_pl {d d1 d2 a b : D} (h1 : F__law_one [.ob d, .ob (.list [.int 1, .int 2, .int 3, .int 5, .int 9])] = .ret false a [.io d1, .io (.list [.int 1, .int 2, .int 3, .int 5, .int 9])]) (h2 : F__law_one [.ob d1, .ob (.list [.str "stop", .str "fail"])] = .ret false b [.io d2, .io (.list [.str "stop", .str "fail"])]) :
    F__law_gauge [.ob d] = .ret false (.tuple [.str "gauge", a, b]) [.io d2] := by
  simp [F__law_gauge, runF, B__law_gauge, Ag.sl, outE, pick, h1, h2, LIM]
theorem gauge_ok {d : D} (s : Src d) : ∃ (M : Nat) (st : Bool) (d' : D), (M : Int) ∈ ms ∧ Src d' ∧ F__law_gauge [.ob d] = .ret false (kD M st) [.io d'] := by
  obtain ⟨a, d1, ha, s1, e1⟩ := one_ob s [.int 1, .int 2, .int 3, .int 5, .int 9] (by simp) (by simp)
  obtain ⟨b, d2, hb, s2, e2⟩ := one_ob s1 [.str "stop", .str "fail"] (by simp) (by simp)
  have h := gauge_pl e1 e2
  have hb' : ∃ st, b = .str (mW st) := by
    simp only [List.mem_cons, List.not_mem_nil, or_false] at hb
    rcases hb with rfl | rfl
    · exact ⟨true, rfl⟩
    · exact ⟨false, rfl⟩
  obtain ⟨st, rfl⟩ := hb'
  simp only [List.mem_cons, List.not_mem_nil, or_false] at ha
  rcases ha with rfl | rfl | rfl | rfl | rfl
  · exact ⟨1, st, d2, by decide, s2, h⟩
  · exact ⟨2, st, d2, by decide, s2, h⟩
  · exact ⟨3, st, d2, by decide, s2, h⟩
  · exact ⟨5, st, d2, by decide, s2, h⟩
  · exact ⟨9, st, d2, by decide, s2, h⟩
section
variable {d d1 d2 K0 Wd L : D} {M a : Int} {s4 : Sl}
abbrev rE6 (d K L : D) (s4 s5 : Sl) : D → En := fun acc => [.io d, .sh K, .sh L, .ow acc, s4, s5]
theorem gr_y {acc : D} {s5 : Sl} (h1 : F__law_take [.ob d, .sh (.int 3)] = .ret false (.int 0) [.io d1, .sh (.int 3)]) (h2 : F__law_take [.ob d1, .sh (.int M)] = .ret false (.int a) [.io d2, .sh (.int M)]) (i5 : s5.isIo = false) :
    X__law_gauge_row_1_0 (rE6 d (.tuple [K0, .int M, Wd]) L s4 s5 acc) = .nx (rE6 d2 (.tuple [K0, .int M, Wd]) L s4 (.sh (.int (1 + a))) acc) := by
  have q : eqG (.int 0) (.int 0) = some (.sh (.bool true)) := by rw [eq_i]; rfl
  simp [X__law_gauge_row_1_0, atI, ixN, h1, h2, q, i5]
theorem gr_n {acc : D} {s5 : Sl} {w k : Int} (hw : (w == 0) = false) (h1 : F__law_take [.ob d, .sh (.int 3)] = .ret false (.int w) [.io d1, .sh (.int 3)]) (hk : minI 2 M = k) (h2 : F__law_take [.ob d1, .sh (.int k)] = .ret false (.int a) [.io d2, .sh (.int k)]) (i5 : s5.isIo = false) :
    X__law_gauge_row_1_0 (rE6 d (.tuple [K0, .int M, Wd]) L s4 s5 acc) = .nx (rE6 d2 (.tuple [K0, .int M, Wd]) L s4 (.sh (.int (1 + a))) acc) := by
  have q : eqG (.int w) (.int 0) = some (.sh (.bool false)) := by rw [eq_i, hw]
  simp [X__law_gauge_row_1_0, atI, ixN, h1, hk, h2, q, i5]
theorem gr_1 {acc : List D} {K y : D} (hl : acc.length < 1000) (h : F__law_one [.ob d, .ob (.list [.str "add", .str "sub"])] = .ret false y [.io d1, .io (.list [.str "add", .str "sub"])]) :
    X__law_gauge_row_1_1 (rE6 d K L s4 (.sh (.int a)) (.list acc)) = .nx (rE6 d1 K L s4 (.sh (.int a)) (.list (acc ++ [.tuple [y, .int a]]))) := by
  have hl' : acc.length < 16777216 := by omega
  simp [X__law_gauge_row_1_1, h, LIM, hl']
end
theorem gr_turn {M : Nat} {st : Bool} {d L : D} (hM : (M : Int) ∈ ms) (s : Src d) {r : GRow} {s4 s5 : Sl} (hl : r.length < 1000) (i5 : s5.isIo = false) : ∃ x d' s5', OkX M x ∧ Src d' ∧ s5'.isIo = false ∧ X__law_gauge_row_1_b (rE6 d (kD M st) L s4 s5 (.list (r.map xD))) = .nx (rE6 d' (kD M st) L s4 s5' (.list ((r ++ [x]).map xD))) := by
  have hm := ms_le hM
  obtain ⟨w, d1, hw, sd1, e1⟩ := take_src s 3 (by omega) (by omega)
  have fin : ∀ {a : Nat} {d2 : D}, a < M → Src d2 → X__law_gauge_row_1_0 (rE6 d (kD M st) L s4 s5 (.list (r.map xD))) = .nx (rE6 d2 (kD M st) L s4 (.sh (.int (1 + (a : Int)))) (.list (r.map xD))) → ∃ x d' s5', OkX M x ∧ Src d' ∧ s5'.isIo = false ∧ X__law_gauge_row_1_b (rE6 d (kD M st) L s4 s5 (.list (r.map xD))) = .nx (rE6 d' (kD M st) L s4 s5' (.list ((r ++ [x]).map xD))) := fun {a d2} ha sd h => by
    obtain ⟨y, d3, hy, sd3, e3⟩ := one_ob sd [.str "add", .str "sub"] (by simp) (by simp)
    have hb : ∃ b : Bool, y = .str (if b then "add" else "sub") := by
      simp only [List.mem_cons, List.not_mem_nil, or_false] at hy
      rcases hy with rfl | rfl
      · exact ⟨true, rfl⟩
      · exact ⟨false, rfl⟩
    obtain ⟨b, rfl⟩ := hb
    refine ⟨(b, 1 + (a : Int)), d3, .sh (.int (1 + (a : Int))), ⟨by show 1 ≤ 1 + (a : Int); omega, by show 1 + (a : Int) ≤ M; omega⟩, sd3, rfl, (seq_to2 h).trans ((gr_1 (by rw [List.length_map]; exact hl) e3).trans ?_)⟩
    rw [List.map_append]
    rfl
  by_cases c : w = 0
  · subst c
    obtain ⟨a, d2, ha, sd2, e2⟩ := take_src sd1 M (by omega) (by omega)
    exact fin ha sd2 (gr_y e1 e2 i5)
  · have hk : minI 2 (M : Int) = ((min 2 M : Nat) : Int) := by unfold minI; split <;> omega
    obtain ⟨a, d2, ha, sd2, e2⟩ := take_src sd1 (min 2 M) (by omega) (by omega)
    exact fin (by omega) sd2 (gr_n (by rw [beq_eq_false_iff_ne]; omega) e1 hk e2 i5)
theorem gr_go {M : Nat} {st : Bool} {L : D} (hM : (M : Int) ∈ ms) : ∀ (ts : List D) (r : GRow) (d : D) (s4 s5 : Sl), r.length + ts.length ≤ 100 → OkR M r → Src d → s4.isIo = false → s5.isIo = false →
    ∃ r' d' s4' s5', OkR M r' ∧ r'.length = r.length + ts.length ∧ Src d' ∧ forGo (tgN 4) X__law_gauge_row_1_b ts (rE6 d (kD M st) L s4 s5 (.list (r.map xD))) = .nx (rE6 d' (kD M st) L s4' s5' (.list (r'.map xD)))
  | [], r, d, s4, s5, _, hr, s, _, _ => ⟨r, d, s4, s5, hr, rfl, s, rfl⟩
  | t :: ts, r, d, s4, s5, hz, hr, s, i4, i5 => by
    simp only [List.length_cons] at hz
    obtain ⟨x, d1, s5', hx, sd1, j5, e⟩ := gr_turn (st := st) (L := L) hM s (r := r) (s4 := .sh t) (s5 := s5) (by omega) i5
    obtain ⟨r', d2, t4, t5, h1, h2, sd2, g⟩ := gr_go hM ts (r ++ [x]) d1 (.sh t) s5' (by simp; omega) (fun y hy => (List.mem_append.mp hy).elim (hr y) fun z => by rw [List.mem_singleton.mp z]; exact hx) sd1 rfl j5
    have tg : tgN 4 t (rE6 d (kD M st) L s4 s5 (.list (r.map xD))) = some (rE6 d (kD M st) L (.sh t) s5 (.list (r.map xD))) := by simp [i4]
    exact ⟨r', d2, t4, t5, h1, by rw [h2]; simp; omega, sd2, for_step tg e g⟩
theorem grow6 {M : Nat} {st : Bool} {d : D} (hM : (M : Int) ∈ ms) (s : Src d) : ∃ (r : GRow) (d' : D), OkR M r ∧ r.length ≤ 6 ∧ Src d' ∧ F__law_gauge_row [.ob d, .sh (kD M st), .sh (.int 6)] = .ret false (gD r) [.io d', .sh (kD M st), .sh (.int 6)] := by
  obtain ⟨n, d1, hn, s1, e1⟩ := take_src s 7 (by omega) (by omega)
  obtain ⟨r, d2, s4, s5, h1, h2, sd2, g⟩ := gr_go (st := st) (L := .int 6) hM (rangeD 0 n) [] d1 .un .un (by simp [rangeD]; omega) (fun _ z => nomatch z) s1 rfl rfl
  refine ⟨r, d2, h1, by rw [h2]; simp [rangeD]; omega, sd2, ?_⟩
  have b1 := rngB_nat (n := n) (by omega)
  have e1 : F__law_take [.ob d, .sh (.int 7)] = .ret false (.int (n : Int)) [.io d1, .sh (.int 7)] := e1
  have y0 : X__law_gauge_row_0 [.io d, .sh (kD M st), .sh (.int 6), .un, .un, .un] = .nx (rE6 d (kD M st) (.int 6) .un .un (.list [])) := by
    generalize kD (M : Int) st = K
    simp [X__law_gauge_row_0, LIM]
  have y1 : X__law_gauge_row_1 (rE6 d (kD M st) (.int 6) .un .un (.list [])) = .nx (rE6 d2 (kD M st) (.int 6) s4 s5 (.list (r.map xD))) := by
    refine Eq.trans ?_ g
    generalize kD (M : Int) st = K
    simp [X__law_gauge_row_1, e1, b1, -X__law_gauge_row_1_b]
  have y2 : X__law_gauge_row_2 (rE6 d2 (kD M st) (.int 6) s4 s5 (.list (r.map xD))) = .rt (.sh (gD r)) (rE6 d2 (kD M st) (.int 6) s4 s5 (.list (r.map xD))) := by
    generalize kD (M : Int) st = K
    simp [X__law_gauge_row_2, gD]
  exact runF_sh (np := 3) (n := 6) (body := B__law_gauge_row) (as := [.ob d, .sh (kD M st), .sh (.int 6)]) rfl ((seq_to2 y0).trans ((seq_to2 y1).trans y2))
theorem grow4 {M : Nat} {st : Bool} {d : D} (hM : (M : Int) ∈ ms) (s : Src d) : ∃ (r : GRow) (d' : D), OkR M r ∧ r.length ≤ 4 ∧ Src d' ∧ F__law_gauge_row [.ob d, .sh (kD M st), .sh (.int 4)] = .ret false (gD r) [.io d', .sh (kD M st), .sh (.int 4)] := by
  obtain ⟨n, d1, hn, s1, e1⟩ := take_src s 5 (by omega) (by omega)
  obtain ⟨r, d2, s4, s5, h1, h2, sd2, g⟩ := gr_go (st := st) (L := .int 4) hM (rangeD 0 n) [] d1 .un .un (by simp [rangeD]; omega) (fun _ z => nomatch z) s1 rfl rfl
  refine ⟨r, d2, h1, by rw [h2]; simp [rangeD]; omega, sd2, ?_⟩
  have b1 := rngB_nat (n := n) (by omega)
  have e1 : F__law_take [.ob d, .sh (.int 5)] = .ret false (.int (n : Int)) [.io d1, .sh (.int 5)] := e1
  have y0 : X__law_gauge_row_0 [.io d, .sh (kD M st), .sh (.int 4), .un, .un, .un] = .nx (rE6 d (kD M st) (.int 4) .un .un (.list [])) := by
    generalize kD (M : Int) st = K
    simp [X__law_gauge_row_0, LIM]
  have y1 : X__law_gauge_row_1 (rE6 d (kD M st) (.int 4) .un .un (.list [])) = .nx (rE6 d2 (kD M st) (.int 4) s4 s5 (.list (r.map xD))) := by
    refine Eq.trans ?_ g
    generalize kD (M : Int) st = K
    simp [X__law_gauge_row_1, e1, b1, -X__law_gauge_row_1_b]
  have y2 : X__law_gauge_row_2 (rE6 d2 (kD M st) (.int 4) s4 s5 (.list (r.map xD))) = .rt (.sh (gD r)) (rE6 d2 (kD M st) (.int 4) s4 s5 (.list (r.map xD))) := by
    generalize kD (M : Int) st = K
    simp [X__law_gauge_row_2, gD]
  exact runF_sh (np := 3) (n := 6) (body := B__law_gauge_row) (as := [.ob d, .sh (kD M st), .sh (.int 4)]) rfl ((seq_to2 y0).trans ((seq_to2 y1).trans y2))
theorem lay_fm : ∀ f : Option Fm, Lay 1 (fD f)
  | none => lay_none
  | some f => lay_tup fun x hx => by
    simp only [List.mem_cons, List.not_mem_nil, or_false] at hx
    rcases hx with rfl | rfl | rfl <;> exact lay_int
theorem lay_oi : ∀ o : Option Int, Lay 0 (oD o)
  | none => lay_none
  | some n => lay_int
end S35


set_option Elab.async false
set_option linter.all false
set_option maxRecDepth 100000
set_option maxHeartbeats 4000000
namespace S35
open PySem PySem.Spec PyProof.Rows L2 VL GG
/-! what is refused -/
abbrev xK (z : D) : Xc := ⟨"NoKind", "told", z⟩
abbrev xR (z : D) : Xc := ⟨"NoRow", "told", z⟩
abbrev xF (z : D) : Xc := ⟨"NoForm", "told", z⟩
abbrev xC (z : D) : Xc := ⟨"NoContents", "told", z⟩
theorem ms_cases {M : Nat} (h : (M : Int) ∈ ms) : M = 1 ∨ M = 2 ∨ M = 3 ∨ M = 5 ∨ M = 9 := by
  simp only [ms, List.mem_cons, List.not_mem_nil, or_false] at h
  omega
def oddK : List D := [.none, .tuple [.str "gauge", .int 0, .str "stop"], .tuple [.str "gauge", .int 5, .str "drop"], .tuple [.str "ring", .int 5, .str "fail"], .list [.str "gauge", .int 5, .str "stop"], .tuple [.str "gauge", .int 1000, .str "fail"], .tuple [.str "gauge", .bool true, .str "stop"], .tuple [.str "heap"]]
theorem oddK_x : ∀ o ∈ oddK, F_check_gauge [.sh o] = .exc (xK o) [.sh o] := by
  intro o ho
  simp only [oddK, List.mem_cons, List.not_mem_nil, or_false] at ho
  rcases ho with rfl | rfl | rfl | rfl | rfl | rfl | rfl | rfl <;> kernel_rfl
def oddR (M : Nat) : List D := [.none, .list [.tuple [.str "add", .int 1]], .tuple [.tuple [.str "add", .int 0]], .tuple [.tuple [.str "add", .int ((M + 1 : Nat) : Int)]], .tuple [.tuple [.str "put", .str "a"]], .tuple [.str "add", .int 1], .tuple [.tuple [.str "sub", .bool true]], .tuple (List.replicate 61 (.tuple [.str "add", .int 1]))]
theorem oddR_x {M : Nat} {st : Bool} (hM : (M : Int) ∈ ms) : ∀ o ∈ oddR M, F_check_row_of [.sh (kD M st), .sh o] = .exc (xR o) [.sh (kD M st), .sh o] := by
  intro o ho
  simp only [oddR, List.mem_cons, List.not_mem_nil, or_false] at ho
  rcases ms_cases hM with rfl | rfl | rfl | rfl | rfl <;> cases st <;> rcases ho with rfl | rfl | rfl | rfl | rfl | rfl | rfl | rfl <;> kernel_rfl
def oddF (M : Nat) : List D := [.tuple [.int 0, .int 0], .list [.int 0, .int 0, .int 0], .tuple [.int 0, .int 0, .int ((M + 1 : Nat) : Int)], .tuple [.int (-1), .int 0, .int 0], .tuple [.int 1, .int 0, .int 0], .tuple [.int 0, .bool true, .int (M : Int)], .str "form"]
theorem oddF_x {M : Nat} {st : Bool} (hM : (M : Int) ∈ ms) : ∀ o ∈ oddF M, F_check_gauge_form [.sh (kD M st), .sh o] = .exc (xF o) [.sh (kD M st), .sh o] := by
  intro o ho
  simp only [oddF, List.mem_cons, List.not_mem_nil, or_false] at ho
  rcases ms_cases hM with rfl | rfl | rfl | rfl | rfl <;> cases st <;> rcases ho with rfl | rfl | rfl | rfl | rfl | rfl | rfl <;> kernel_rfl
def oddC (M : Nat) : List D := [.none, .int (-1), .int ((M + 1 : Nat) : Int), .bool true, .tuple [.int 1]]
theorem oddC_x {M : Nat} {st : Bool} (hM : (M : Int) ∈ ms) : ∀ o ∈ oddC M, F_check_contents [.sh (kD M st), .sh o] = .exc (xC o) [.sh (kD M st), .sh o] := by
  intro o ho
  simp only [oddC, List.mem_cons, List.not_mem_nil, or_false] at ho
  rcases ms_cases hM with rfl | rfl | rfl | rfl | rfl <;> cases st <;> rcases ho with rfl | rfl | rfl | rfl | rfl <;> kernel_rfl
theorem lay_K : ∀ o ∈ oddK, Lay 5 o := by
  intro o ho
  simp only [oddK, List.mem_cons, List.not_mem_nil, or_false] at ho
  rcases ho with rfl | rfl | rfl | rfl | rfl | rfl | rfl | rfl <;> exact ⟨by decide +kernel, by decide +kernel⟩
theorem lay_R {M : Nat} (hM : (M : Int) ∈ ms) : ∀ o ∈ oddR M, Lay 5 o := by
  intro o ho
  simp only [oddR, List.mem_cons, List.not_mem_nil, or_false] at ho
  rcases ms_cases hM with rfl | rfl | rfl | rfl | rfl <;> rcases ho with rfl | rfl | rfl | rfl | rfl | rfl | rfl | rfl <;> exact ⟨by decide +kernel, by decide +kernel⟩
theorem lay_F {M : Nat} (hM : (M : Int) ∈ ms) : ∀ o ∈ oddF M, Lay 5 o := by
  intro o ho
  simp only [oddF, List.mem_cons, List.not_mem_nil, or_false] at ho
  rcases ms_cases hM with rfl | rfl | rfl | rfl | rfl <;> rcases ho with rfl | rfl | rfl | rfl | rfl | rfl | rfl <;> exact ⟨by decide +kernel, by decide +kernel⟩
theorem lay_C {M : Nat} (hM : (M : Int) ∈ ms) : ∀ o ∈ oddC M, Lay 5 o := by
  intro o ho
  simp only [oddC, List.mem_cons, List.not_mem_nil, or_false] at ho
  rcases ms_cases hM with rfl | rfl | rfl | rfl | rfl <;> rcases ho with rfl | rfl | rfl | rfl | rfl <;> exact ⟨by decide +kernel, by decide +kernel⟩
theorem ne_w {w : Str} {o : D} (hw : PyData.strOk w = true) (h : Lay 5 o) : neG (.tuple [.str w, o]) (.tuple [.str w, o]) = some (.sh (.bool false)) := ne_self (n := 6) (lay_tup fun x hx => by
  simp only [List.mem_cons, List.not_mem_nil, or_false] at hx
  rcases hx with rfl | rfl
  · exact lay_str hw
  · exact h) (by decide)
theorem ne_w3 {w : Str} {o : D} (hw : PyData.strOk w = true) (h : Lay 5 o) : neG (.tuple [.str w, o, .bool true]) (.tuple [.str w, o, .bool true]) = some (.sh (.bool false)) := ne_self (n := 6) (lay_tup fun x hx => by
  simp only [List.mem_cons, List.not_mem_nil, or_false] at hx
  rcases hx with rfl | rfl | rfl
  · exact lay_str hw
  · exact h
  · exact lay_bool) (by decide)
abbrev hF (fb : EF) : EF := heardF CTL 2 1 CS__law_heard "is" fb
section
variable {fb : EF} {e : En} {o : D}
theorem h_K (h : fb e = .ex (xK o) e) : hF fb e = .ok (.sh (.tuple [.str "kind", o])) e := by
  unfold hF heardF; rw [h]; kernel_rfl
theorem h_R (h : fb e = .ex (xR o) e) : hF fb e = .ok (.sh (.tuple [.str "row", o])) e := by
  unfold hF heardF; rw [h]; kernel_rfl
theorem h_F (h : fb e = .ex (xF o) e) : hF fb e = .ok (.sh (.tuple [.str "form", o])) e := by
  unfold hF heardF; rw [h]; kernel_rfl
theorem h_C (h : fb e = .ex (xC o) e) : hF fb e = .ok (.sh (.tuple [.str "box", o, .bool true])) e := by
  unfold hF heardF; rw [h]; kernel_rfl
end
section
variable {K F R B : D} {e : Xc}
theorem gf_k (h : F_check_gauge [.sh K] = .exc e [.sh K]) : F_gauge_form [.sh K, .sh R] = .exc e [.sh K, .sh R] := by simp [F_gauge_form, runF, B_gauge_form, Ag.sl, outE, pick, h]
theorem gf_r (h1 : F_check_gauge [.sh K] = .ret false .none [.sh K]) (h : F_check_row_of [.sh K, .sh R] = .exc e [.sh K, .sh R]) : F_gauge_form [.sh K, .sh R] = .exc e [.sh K, .sh R] := by simp [F_gauge_form, runF, B_gauge_form, Ag.sl, outE, pick, h1, h]
theorem cgf_k (h : F_check_gauge [.sh K] = .exc e [.sh K]) : F_check_gauge_form [.sh K, .sh F] = .exc e [.sh K, .sh F] := by simp [F_check_gauge_form, runF, B_check_gauge_form, Ag.sl, outE, pick, h]
theorem cgc_f (h : F_check_gauge_form [.sh K, .sh F] = .exc e [.sh K, .sh F]) : F_check_gauge_contents [.sh K, .sh F, .sh B] = .exc e [.sh K, .sh F, .sh B] := by simp [F_check_gauge_contents, runF, B_check_gauge_contents, Ag.sl, outE, pick, h]
theorem cgc_c (h1 : F_check_gauge_form [.sh K, .sh F] = .ret false .none [.sh K, .sh F]) (h : F_check_contents [.sh K, .sh B] = .exc e [.sh K, .sh B]) : F_check_gauge_contents [.sh K, .sh F, .sh B] = .exc e [.sh K, .sh F, .sh B] := by simp [F_check_gauge_contents, runF, B_check_gauge_contents, Ag.sl, outE, pick, h1, h]
theorem gw_x (h : F_check_gauge_contents [.sh K, .sh F, .sh B] = .exc e [.sh K, .sh F, .sh B]) : F_gauge_works [.sh K, .sh F, .sh B] = .exc e [.sh K, .sh F, .sh B] := by simp [F_gauge_works, runF, B_gauge_works, Ag.sl, outE, pick, h]
theorem gl_x (h : F_check_gauge_contents [.sh K, .sh F, .sh B] = .exc e [.sh K, .sh F, .sh B]) : F_gauge_left [.sh K, .sh F, .sh B] = .exc e [.sh K, .sh F, .sh B] := by simp [F_gauge_left, runF, B_gauge_left, Ag.sl, outE, pick, h]
theorem e00 : eqG (.int 0) (.int 0) = some (.sh (.bool true)) := by kernel_rfl
theorem e10 : eqG (.int 1) (.int 0) = some (.sh (.bool false)) := by kernel_rfl
theorem ca_x {w : Nat} (hw : w < 2) (h : F_check_gauge_contents [.sh K, .sh F, .sh B] = .exc e [.sh K, .sh F, .sh B]) : F__law_called [.sh (.int (w : Int)), .sh K, .sh F, .sh B] = .exc e [.sh (.int (w : Int)), .sh K, .sh F, .sh B] := by
  have h1 := gw_x h
  have h2 := gl_x h
  rcases (show w = 0 ∨ w = 1 by omega) with rfl | rfl
  · simp [F__law_called, runF, B__law_called, Ag.sl, outE, pick, e00, h1]
  · simp [F__law_called, runF, B__law_called, Ag.sl, outE, pick, e10, h2]
end
/-! the refusals' statements -/
abbrev rfE (d : D) (K F : D) (s3 s4 s5 s6 s7 : Sl) : En := [.io d, .sh K, .sh F, s3, s4, s5, s6, s7]
section
variable {d d' K F O R B N : D} {s3 s4 s5 s6 s7 : Sl}
theorem rf0 (e : F__law_one [.ob d, .ob (.list oddK)] = .ret false O [.io d', .io (.list oddK)]) : X__law_refusals_0 (rfE d K F .un s4 s5 s6 s7) = .nx (rfE d' K F (.sh O) s4 s5 s6 s7) := by
  simp only [oddK] at e
  simp [X__law_refusals_0, e, LIM]
theorem rf1g {K0 K2 Z : D} {M : Nat} {g : EF} {e : En} (he : e = rfE d (.tuple [K0, .int (M : Int), K2]) F s3 .un s5 s6 s7) (hg : g e = .ok (.sh Z) e) (e1 : F__law_one [.ob d, .ob (.list [.none, .list [.tuple [.str "add", .int 1]], .tuple [.tuple [.str "add", .int 0]], .tuple [.tuple [.str "add", .int ((M : Int) + 1)]], .tuple [.tuple [.str "put", .str "a"]], .tuple [.str "add", .int 1], .tuple [.tuple [.str "sub", .bool true]], Z])] = .ret false O [.io d', .io (.list [.none, .list [.tuple [.str "add", .int 1]], .tuple [.tuple [.str "add", .int 0]], .tuple [.tuple [.str "add", .int ((M : Int) + 1)]], .tuple [.tuple [.str "put", .str "a"]], .tuple [.str "add", .int 1], .tuple [.tuple [.str "sub", .bool true]], Z])]) :
    ((setF 4 (callF F__law_one (consF (nmF 0) (consF (lstF (consF (cF .none) (consF (lstF (consF (tupF (consF (cF (.str "add")) (consF (cF (.int (1))) nilF))) nilF)) (consF (tupF (consF (tupF (consF (cF (.str "add")) (consF (cF (.int (0))) nilF))) nilF)) (consF (tupF (consF (tupF (consF (cF (.str "add")) (consF (opF addG (opF ixG (nmF 1) (cF (.int (1)))) (cF (.int (1)))) nilF))) nilF)) (consF (tupF (consF (tupF (consF (cF (.str "put")) (consF (cF (.str "a")) nilF))) nilF)) (consF (tupF (consF (cF (.str "add")) (consF (cF (.int (1))) nilF))) (consF (tupF (consF (tupF (consF (cF (.str "sub")) (consF (cF (.bool true)) nilF))) nilF)) (consF g nilF))))))))) nilF))))) e = .nx (rfE d' (.tuple [K0, .int (M : Int), K2]) F s3 (.sh O) s5 s6 s7) := by
  subst he
  simp [hg, e1, LIM, atI, ixN]
theorem rf2 {K0 K2 : D} {M : Nat} (e : F__law_one [.ob d, .ob (.list [.tuple [.int 0, .int 0], .list [.int 0, .int 0, .int 0], .tuple [.int 0, .int 0, .int ((M : Int) + 1)], .tuple [.int (-1), .int 0, .int 0], .tuple [.int 1, .int 0, .int 0], .tuple [.int 0, .bool true, .int (M : Int)], .str "form"])] = .ret false O [.io d', .io (.list [.tuple [.int 0, .int 0], .list [.int 0, .int 0, .int 0], .tuple [.int 0, .int 0, .int ((M : Int) + 1)], .tuple [.int (-1), .int 0, .int 0], .tuple [.int 1, .int 0, .int 0], .tuple [.int 0, .bool true, .int (M : Int)], .str "form"])]) :
    X__law_refusals_2 (rfE d (.tuple [K0, .int (M : Int), K2]) F s3 s4 .un s6 s7) = .nx (rfE d' (.tuple [K0, .int (M : Int), K2]) F s3 s4 (.sh O) s6 s7) := by
  simp [X__law_refusals_2, e, LIM, atI, ixN, negG]
theorem rf3 {K0 K2 : D} {M : Nat} (e : F__law_one [.ob d, .ob (.list [.none, .int (-1), .int ((M : Int) + 1), .bool true, .tuple [.int 1]])] = .ret false O [.io d', .io (.list [.none, .int (-1), .int ((M : Int) + 1), .bool true, .tuple [.int 1]])]) :
    X__law_refusals_3 (rfE d (.tuple [K0, .int (M : Int), K2]) F s3 s4 s5 .un s7) = .nx (rfE d' (.tuple [K0, .int (M : Int), K2]) F s3 s4 s5 (.sh O) s7) := by
  simp [X__law_refusals_3, e, LIM, atI, ixN, negG]
theorem rf4 (h : F_gauge_form [.sh O, .sh R] = .exc (xK O) [.sh O, .sh R]) (n : neG (.tuple [.str "kind", O]) (.tuple [.str "kind", O]) = some (.sh (.bool false))) : X__law_refusals_4 (rfE d K F (.sh O) (.sh R) s5 s6 s7) = .nx (rfE d K F (.sh O) (.sh R) s5 s6 s7) := by
  have hh := h_K (fb := callF F_gauge_form (consF (nmF 3) (consF (nmF 4) nilF))) (e := rfE d K F (.sh O) (.sh R) s5 s6 s7) (o := O) (by simp [h])
  simp [X__law_refusals_4, hh, n, LIM]
theorem rf5 (h : F_gauge_form [.sh K, .sh R] = .exc (xR R) [.sh K, .sh R]) (n : neG (.tuple [.str "row", R]) (.tuple [.str "row", R]) = some (.sh (.bool false))) : X__law_refusals_5 (rfE d K F s3 (.sh R) s5 s6 s7) = .nx (rfE d K F s3 (.sh R) s5 s6 s7) := by
  have hh := h_R (fb := callF F_gauge_form (consF (nmF 1) (consF (nmF 4) nilF))) (e := rfE d K F s3 (.sh R) s5 s6 s7) (o := R) (by simp [h])
  simp [X__law_refusals_5, hh, n, LIM]
theorem rf60 {w : Int} (h : F__law_called [.sh (.int w), .sh O, .sh B, .sh N] = .exc (xK O) [.sh (.int w), .sh O, .sh B, .sh N]) (n : neG (.tuple [.str "kind", O]) (.tuple [.str "kind", O]) = some (.sh (.bool false))) : X__law_refusals_6_0 (rfE d K F (.sh O) s4 (.sh B) (.sh N) (.sh (.int w))) = .nx (rfE d K F (.sh O) s4 (.sh B) (.sh N) (.sh (.int w))) := by
  have hh := h_K (fb := callF F__law_called (consF (nmF 7) (consF (nmF 3) (consF (nmF 5) (consF (nmF 6) nilF))))) (e := rfE d K F (.sh O) s4 (.sh B) (.sh N) (.sh (.int w))) (o := O) (by simp [h])
  simp [X__law_refusals_6_0, hh, n, LIM]
theorem rf61 {w : Int} (h : F__law_called [.sh (.int w), .sh K, .sh B, .sh N] = .exc (xF B) [.sh (.int w), .sh K, .sh B, .sh N]) (n : neG (.tuple [.str "form", B]) (.tuple [.str "form", B]) = some (.sh (.bool false))) : X__law_refusals_6_1 (rfE d K F s3 s4 (.sh B) (.sh N) (.sh (.int w))) = .nx (rfE d K F s3 s4 (.sh B) (.sh N) (.sh (.int w))) := by
  have hh := h_F (fb := callF F__law_called (consF (nmF 7) (consF (nmF 1) (consF (nmF 5) (consF (nmF 6) nilF))))) (e := rfE d K F s3 s4 (.sh B) (.sh N) (.sh (.int w))) (o := B) (by simp [h])
  simp [X__law_refusals_6_1, hh, n, LIM]
theorem rf62 {w : Int} (h : F__law_called [.sh (.int w), .sh K, .sh F, .sh N] = .exc (xC N) [.sh (.int w), .sh K, .sh F, .sh N]) (n : neG (.tuple [.str "box", N, .bool true]) (.tuple [.str "box", N, .bool true]) = some (.sh (.bool false))) : X__law_refusals_6_2 (rfE d K F s3 s4 s5 (.sh N) (.sh (.int w))) = .nx (rfE d K F s3 s4 s5 (.sh N) (.sh (.int w))) := by
  have hh := h_C (fb := callF F__law_called (consF (nmF 7) (consF (nmF 1) (consF (nmF 2) (consF (nmF 6) nilF))))) (e := rfE d K F s3 s4 s5 (.sh N) (.sh (.int w))) (o := N) (by simp [h])
  simp [X__law_refusals_6_2, hh, n, LIM]
theorem rf6 {z : Rb} (g : forGo (tgN 7) X__law_refusals_6_b [.int 0, .int 1] (rfE d K F s3 s4 s5 s6 s7) = z) : X__law_refusals_6 (rfE d K F s3 s4 s5 s6 s7) = z := by
  subst g
  have b : rngB 2 = true := rngB_nat (n := 2) (by decide)
  have r : rangeD 0 2 = [.int 0, .int 1] := rfl
  simp [X__law_refusals_6, b, r, -X__law_refusals_6_b]
theorem tg7 {N : D} (i : s7.isIo = false) : tgN 7 N (rfE d K F s3 s4 s5 s6 s7) = some (rfE d K F s3 s4 s5 s6 (.sh N)) := by simp [i]
end
theorem mulX3_t {e : En} {fa fb : EF} {r1 r2 z : Rv} {ds : List D} {k : Int} (ha : fa e = .ok r1 e) (hb : fb e = .ok r2 e) (q1 : rd e r1 = some (.tuple ds)) (q2 : rd e r2 = some (.int k)) (c : mulG3 (.tuple ds) (.int k) = some z) : mulX3 fa fb e = .ok z e := by
  have g : out1 (mulG3 (.tuple ds) (.int k)) e = .ok z e := by rw [c]; rfl
  unfold mulX3
  simp only [ha, hb, Rs.bind, q1, q2]
  exact g
theorem refusals_ok {M : Nat} {st : Bool} {d : D} {f : Option Fm} (hM : (M : Int) ∈ ms) (s : Src d) (hf : okF M st f) : ∃ d', Src d' ∧ F__law_refusals [.ob d, .sh (kD M st), .sh (fD f)] = .ret false (.bool true) [.io d', .sh (kD M st), .sh (fD f)] := by
  obtain ⟨O, d1, hO, s1, e1⟩ := one_ob s oddK (by simp [oddK]) (by simp [oddK])
  obtain ⟨R, d2, hR, s2, e2⟩ := one_ob s1 (oddR M) (by simp [oddR]) (by simp [oddR])
  obtain ⟨B, d3, hB, s3, e3⟩ := one_ob s2 (oddF M) (by simp [oddF]) (by simp [oddF])
  obtain ⟨N, d4, hN, s4, e4⟩ := one_ob s3 (oddC M) (by simp [oddC]) (by simp [oddC])
  have xO := oddK_x O hO
  have xR' := oddR_x (st := st) hM R hR
  have xB := oddF_x (st := st) hM B hB
  have xN := oddC_x (st := st) hM N hN
  have nO := ne_w (w := "kind") (by decide +kernel) (lay_K O hO)
  have nR := ne_w (w := "row") (by decide +kernel) (lay_R hM R hR)
  have nB := ne_w (w := "form") (by decide +kernel) (lay_F hM B hB)
  have nN := ne_w3 (w := "box") (by decide +kernel) (lay_C hM N hN)
  have y0 := rf0 (K := kD M st) (F := fD f) (s4 := .un) (s5 := .un) (s6 := .un) (s7 := .un) e1
  have g0 : mulX3 (tupF (consF (tupF (consF (cF (.str "add")) (consF (cF (.int (1))) nilF))) nilF)) (cF (.int (61))) (rfE d1 (kD M st) (fD f) (.sh O) .un .un .un .un) = .ok (.sh (.tuple (List.replicate 61 (.tuple [.str "add", .int 1])))) (rfE d1 (kD M st) (fD f) (.sh O) .un .un .un .un) := by
    have a : (tupF (consF (tupF (consF (cF (.str "add")) (consF (cF (.int (1))) nilF))) nilF)) (rfE d1 (kD M st) (fD f) (.sh O) .un .un .un .un) = .ok (.sh (.tuple [.tuple [.str "add", .int 1]])) (rfE d1 (kD M st) (fD f) (.sh O) .un .un .un .un) := by simp [LIM]
    exact mulX3_t (r1 := .sh (.tuple [.tuple [.str "add", .int 1]])) (r2 := .sh (.int 61)) a rfl rfl rfl (mul3_t (n := 61) (by decide))
  have y1 : X__law_refusals_1 (rfE d1 (kD M st) (fD f) (.sh O) .un .un .un .un) = .nx (rfE d2 (kD M st) (fD f) (.sh O) (.sh R) .un .un .un) := rf1g (M := M) rfl g0 e2
  have y2 : X__law_refusals_2 (rfE d2 (kD M st) (fD f) (.sh O) (.sh R) .un .un .un) = .nx (rfE d3 (kD M st) (fD f) (.sh O) (.sh R) (.sh B) .un .un) := rf2 (M := M) e3
  have y3 : X__law_refusals_3 (rfE d3 (kD M st) (fD f) (.sh O) (.sh R) (.sh B) .un .un) = .nx (rfE d4 (kD M st) (fD f) (.sh O) (.sh R) (.sh B) (.sh N) .un) := rf3 (M := M) e4
  have y4 := rf4 (d := d4) (K := kD M st) (F := fD f) (R := R) (s5 := .sh B) (s6 := .sh N) (s7 := .un) (gf_k xO) nO
  have y5 := rf5 (d := d4) (F := fD f) (s3 := .sh O) (s5 := .sh B) (s6 := .sh N) (s7 := .un) (gf_r (check_gauge_ok (st := st) hM) xR') nR
  have turn : ∀ w : Nat, w < 2 → X__law_refusals_6_b (rfE d4 (kD M st) (fD f) (.sh O) (.sh R) (.sh B) (.sh N) (.sh (.int (w : Int)))) = .nx (rfE d4 (kD M st) (fD f) (.sh O) (.sh R) (.sh B) (.sh N) (.sh (.int (w : Int)))) := fun w hw =>
    (seq_to2 (rf60 (ca_x hw (cgc_f (cgf_k xO))) nO)).trans ((seq_to2 (rf61 (ca_x hw (cgc_f xB)) nB)).trans (rf62 (ca_x hw (cgc_c (check_form_ok hM hf) xN)) nN))
  have y6 := rf6 (for_step (tg7 (d := d4) (K := kD M st) (F := fD f) (s3 := .sh O) (s4 := .sh R) (s5 := .sh B) (s6 := .sh N) (s7 := .un) (N := .int 0) rfl) (turn 0 (by decide)) (for_step (tg7 rfl) (turn 1 (by decide)) rfl))
  have y7 : X__law_refusals_7 (rfE d4 (kD M st) (fD f) (.sh O) (.sh R) (.sh B) (.sh N) (.sh (.int ((1 : Nat) : Int)))) = .rt (.sh (.bool true)) (rfE d4 (kD M st) (fD f) (.sh O) (.sh R) (.sh B) (.sh N) (.sh (.int ((1 : Nat) : Int)))) := by simp [X__law_refusals_7]
  exact ⟨d4, s4, runF_sh (np := 3) (n := 8) (body := B__law_refusals) (as := [.ob d, .sh (kD M st), .sh (fD f)]) rfl ((seq_to2 y0).trans ((seq_to2 y1).trans ((seq_to2 y2).trans ((seq_to2 y3).trans ((seq_to2 y4).trans ((seq_to2 y5).trans ((seq_to2 y6).trans y7)))))))⟩
end S35


set_option Elab.async false
set_option linter.all false
set_option maxRecDepth 100000
set_option maxHeartbeats 4000000
namespace S35
open PySem PySem.Spec PyProof.Rows L2 VL GG
theorem bears_stop {K0 K1 Wd F N : D} (hs : eqG Wd (.str "stop") = some (.sh (.bool true))) : F_bears [.sh (.tuple [K0, K1, Wd]), .sh F, .sh N] = .ret false (.bool true) [.sh (.tuple [K0, K1, Wd]), .sh F, .sh N] := by
  simp [F_bears, runF, B_bears, Ag.sl, outE, pick, atI, ixN, hs]
theorem bears_ok {m n : Int} {st : Bool} {f : Option Fm} (hf : okF m st f) : F_bears [.sh (kD m st), .sh (fD f), .sh (.int n)] = .ret false (.bool (act st f n).isSome) [.sh (kD m st), .sh (fD f), .sh (.int n)] := by
  cases st with
  | true => cases f with
    | none => exact hf.elim
    | some f => exact bears_stop (eq_stop (st := true))
  | false => cases f with
    | none => exact be_n (eq_stop (st := false))
    | some f =>
      by_cases q : f.l ≤ n ∧ n ≤ f.h
      · have e : act false (some f) n = some (n + f.s) := if_pos q
        rw [e]
        exact be_f (eq_stop (st := false)) (by rw [decide_eq_true q]; rfl)
      · have e : act false (some f) n = none := if_neg q
        rw [e]
        exact be_f (eq_stop (st := false)) (by rw [decide_eq_false q]; rfl)
theorem gw_pl {K F N : D} {b : Bool} (h1 : F_check_gauge_contents [.sh K, .sh F, .sh N] = .ret false .none [.sh K, .sh F, .sh N]) (h2 : F_bears [.sh K, .sh F, .sh N] = .ret false (.bool b) [.sh K, .sh F, .sh N]) : F_gauge_works [.sh K, .sh F, .sh N] = .ret false (.bool b) [.sh K, .sh F, .sh N] := by
  simp [F_gauge_works, runF, B_gauge_works, Ag.sl, outE, pick, h1, h2]
theorem works_ok {m n : Int} {st : Bool} {f : Option Fm} (hm : m ∈ ms) (hf : okF m st f) (h0 : 0 ≤ n) (h1 : n ≤ m) : F_gauge_works [.sh (kD m st), .sh (fD f), .sh (.int n)] = .ret false (.bool (act st f n).isSome) [.sh (kD m st), .sh (fD f), .sh (.int n)] :=
  gw_pl (cc_pl (check_form_ok hm hf) (has_con (st := st) hm h0 h1)) (bears_ok hf)
/-! what is alike -/
theorem eqv_oD {a b : Option Int} : PyData.eqv (oD a) (oD b) = decide (a = b) := by
  cases a <;> cases b <;> simp [oD, PyData.eqv]
  rename_i x y
  by_cases h : x = y <;> simp [h]
theorem eqv_os {α : Type} {f g : α → Option Int} : ∀ l : List α, PyData.eqvAll (l.map fun i => oD (f i)) (l.map fun i => oD (g i)) = decide (l.map f = l.map g)
  | [] => by simp [PyData.eqvAll]
  | x :: l => by
    simp only [List.map_cons, PyData.eqvAll, eqv_os l, eqv_oD]
    by_cases h : f x = g x <;> simp [h]
abbrev runL (M : Nat) (st : Bool) (r : GRow) : List (Option Int) := (List.range (M + 1)).map fun i : Nat => grun (M : Int) st r (i : Int)
theorem lay_lot {M : Nat} {st : Bool} {r : GRow} : Lay 1 (.list (lotL M st r)) := lay_lst fun x hx => by
  obtain ⟨i, _, rfl⟩ := List.mem_map.mp hx
  exact lay_oi _
theorem eq_lot {M : Nat} {st : Bool} {r s : GRow} : eqG (.list (lotL M st r)) (.list (lotL M st s)) = some (.sh (.bool (decide (runL M st r = runL M st s)))) := by
  unfold eqG
  rw [lay_lot.sh (by decide), lay_lot.sh (by decide)]
  have := eqv_os (f := fun i : Nat => grun (M : Int) st r (i : Int)) (g := fun i : Nat => grun (M : Int) st s (i : Int)) (List.range (M + 1))
  simp only [PyData.eqv, lotL, this]
  rfl
instance : DecidableEq Fm := fun a b => decidable_of_iff (a.l = b.l ∧ a.s = b.s ∧ a.h = b.h) ⟨fun h => Fm.ext h.1 h.2.1 h.2.2, fun h => by subst h; exact ⟨rfl, rfl, rfl⟩⟩
theorem eqv_f {f g : Option Fm} : PyData.eqv (fD f) (fD g) = decide (f = g) := by
  cases f with
  | none => cases g <;> simp [fD, PyData.eqv]
  | some f => cases g with
    | none => simp [fD, PyData.eqv]
    | some g =>
      obtain ⟨a, b, c⟩ := f
      obtain ⟨a', b', c'⟩ := g
      simp only [fD, PyData.eqv, PyData.eqvAll, Option.some.injEq, Fm.mk.injEq]
      by_cases h1 : a = a' <;> by_cases h2 : b = b' <;> by_cases h3 : c = c' <;> simp [h1, h2, h3]
theorem eq_fm {f g : Option Fm} : eqG (fD f) (fD g) = some (.sh (.bool (decide (f = g)))) := by
  unfold eqG
  rw [(lay_fm f).sh (by decide), (lay_fm g).sh (by decide), eqv_f]; rfl
theorem alike_iff {M : Nat} {st : Bool} {r s : GRow} (hr : OkR M r) (hs : OkR M s) : (form (M : Int) st r = form (M : Int) st s) ↔ runL M st r = runL M st s := by
  have h0 : (0 : Int) ≤ M := by omega
  rw [runL, runL, List.map_inj_left]
  constructor
  · intro e i hi
    have := List.mem_range.mp hi
    rw [← act_form (st := st) h0 hr (by omega) (by omega), ← act_form (st := st) h0 hs (by omega) (by omega), e]
  · intro h
    refine canon h0 (ok_form h0 hr) (ok_form h0 hs) fun n h1 h2 => ?_
    rw [act_form h0 hr h1 h2, act_form h0 hs h1 h2]
    obtain ⟨k, rfl⟩ : ∃ k : Nat, n = (k : Int) := ⟨n.toNat, by omega⟩
    exact h k (List.mem_range.mpr (by omega))
/-! the law's statements -/
section
variable {s0 s1 s2 s3 s4 s5 s6 s7 s8 : Sl} {d d' K : D}
abbrev lE (s0 s1 s2 s3 s4 s5 s6 s7 s8 : Sl) : En := [s0, s1, s2, s3, s4, s5, s6, s7, s8]
theorem z2 {d0 d1 d2 R0 R1 : D} (h0 : F__law_gauge_row [.ob d0, .sh K, .sh (.int 6)] = .ret false R0 [.io d1, .sh K, .sh (.int 6)]) (h1 : F__law_gauge_row [.ob d1, .sh K, .sh (.int 4)] = .ret false R1 [.io d2, .sh K, .sh (.int 4)]) (i6 : s6.isIo = false) (i7 : s7.isIo = false) :
    X_law_0_2 (lE s0 s1 (.ow d0) (.sh K) s4 s5 s6 s7 s8) = .nx (lE s0 s1 (.ow d2) (.sh K) s4 s5 (.sh R0) (.sh R1) s8) := by
  simp [X_law_0_2, h0, h1, i6, i7, LIM]
theorem z3 {R F : D} (h : F_gauge_form [.sh K, .sh R] = .ret false F [.sh K, .sh R]) (i4 : s4.isIo = false) : X_law_0_3 (lE s0 s1 s2 (.sh K) s4 s5 (.sh R) s7 s8) = .nx (lE s0 s1 s2 (.sh K) (.sh F) s5 (.sh R) s7 s8) := by
  simp [X_law_0_3, h, i4]
theorem z4 {R F : D} (h : F__law_told_form [.sh K, .sh R] = .ret false F [.sh K, .sh R]) (n : neG F F = some (.sh (.bool false))) : X_law_0_4 (lE s0 s1 s2 (.sh K) (.sh F) s5 (.sh R) s7 s8) = .nx (lE s0 s1 s2 (.sh K) (.sh F) s5 (.sh R) s7 s8) := by
  simp [X_law_0_4, h, n]
theorem z5 {R S F G : D} {L1 L2 : List D} {b : Bool} (h : F_gauge_form [.sh K, .sh S] = .ret false G [.sh K, .sh S]) (e1 : eqG F G = some (.sh (.bool b))) (h1 : F__law_map [.sh K, .sh R] = .ret true (.list L1) [.sh K, .sh R]) (h2 : F__law_map [.sh K, .sh S] = .ret true (.list L2) [.sh K, .sh S]) (e2 : eqG (.list L1) (.list L2) = some (.sh (.bool b))) :
    X_law_0_5 (lE s0 s1 s2 (.sh K) (.sh F) s5 (.sh R) (.sh S) s8) = .nx (lE s0 s1 s2 (.sh K) (.sh F) s5 (.sh R) (.sh S) s8) := by
  have n : neG (.bool b) (.bool b) = some (.sh (.bool false)) := by rw [ne_b]; cases b <;> rfl
  simp [X_law_0_5, h, e1, h1, h2, e2, n]
theorem z60 {R U : D} {N : D} (h : F__law_left [.sh K, .sh R, .sh N] = .ret false U [.sh K, .sh R, .sh N]) (i8 : s8.isIo = false) : X_law_0_6_0 (lE s0 s1 s2 (.sh K) s4 (.sh N) (.sh R) s7 s8) = .nx (lE s0 s1 s2 (.sh K) s4 (.sh N) (.sh R) s7 (.sh U)) := by
  simp [X_law_0_6_0, h, i8]
theorem z61 {F N U : D} {b : Bool} (h1 : F_gauge_left [.sh K, .sh F, .sh N] = .ret false U [.sh K, .sh F, .sh N]) (n1 : neG U U = some (.sh (.bool false))) (h2 : F_gauge_works [.sh K, .sh F, .sh N] = .ret false (.bool b) [.sh K, .sh F, .sh N]) (q : isG true U .none = some (.sh (.bool b))) :
    X_law_0_6_1 (lE s0 s1 s2 (.sh K) (.sh F) (.sh N) s6 s7 (.sh U)) = .nx (lE s0 s1 s2 (.sh K) (.sh F) (.sh N) s6 s7 (.sh U)) := by
  have n : neG (.bool b) (.bool b) = some (.sh (.bool false)) := by rw [ne_b]; cases b <;> rfl
  simp [X_law_0_6_1, h1, n1, h2, q, n]
theorem z6 {K0 Wd : D} {M : Nat} {z : Rb} (hM : M ≤ 9) (g : forGo (tgN 5) X_law_0_6_b (rangeD 0 (M + 1)) (lE s0 s1 s2 (.sh (.tuple [K0, .int (M : Int), Wd])) s4 s5 s6 s7 s8) = z) : X_law_0_6 (lE s0 s1 s2 (.sh (.tuple [K0, .int (M : Int), Wd])) s4 s5 s6 s7 s8) = z := by
  subst g
  have b : rngB ((M : Int) + 1) = true := rngB_nat (n := M + 1) (by omega)
  have e : ((M : Int) + 1).toNat = M + 1 := by omega
  simp [X_law_0_6, atI, ixN, LIM, b, e, -X_law_0_6_b]
theorem z7 {F : D} (h : F__law_refusals [.ob d, .sh K, .sh F] = .ret false (.bool true) [.io d', .sh K, .sh F]) : X_law_0_7 (lE s0 s1 (.ow d) (.sh K) (.sh F) s5 s6 s7 s8) = .nx (lE s0 s1 (.ow d') (.sh K) (.sh F) s5 s6 s7 s8) := by
  simp [X_law_0_7, h]
theorem tg5 {N : D} (i : s5.isIo = false) : tgN 5 N (lE s0 s1 s2 s3 s4 s5 s6 s7 s8) = some (lE s0 s1 s2 s3 s4 (.sh N) s6 s7 s8) := by simp [i]
end
theorem num_go {M : Nat} {st : Bool} {r : GRow} {s0 s1 s2 s7 : Sl} (hM : (M : Int) ∈ ms) (hr : OkR M r) : ∀ (ls : List Nat) (s5 s8 : Sl), (∀ i ∈ ls, i ≤ M) → s5.isIo = false → s8.isIo = false →
    ∃ t5 t8 : Sl, t5.isIo = false ∧ t8.isIo = false ∧ forGo (tgN 5) X_law_0_6_b (ls.map fun (i : Nat) => PyData.int (i : Int)) (lE s0 s1 s2 (.sh (kD M st)) (.sh (fD (form M st r))) s5 (.sh (gD r)) s7 s8) = .nx (lE s0 s1 s2 (.sh (kD M st)) (.sh (fD (form M st r))) t5 (.sh (gD r)) s7 t8)
  | [], s5, s8, _, i5, i8 => ⟨s5, s8, i5, i8, rfl⟩
  | i :: ls, s5, s8, h, i5, i8 => by
    have hi := h i List.mem_cons_self
    have h0 : (0 : Int) ≤ M := by omega
    have ok := ok_form (st := st) h0 hr
    have a := act_form (st := st) (n := (i : Int)) h0 hr (by omega) (by omega)
    have e1 := lleft_ok (m := (M : Int)) (st := st) (r := r) (n := (i : Int))
    have e2 := left_ok (n := (i : Int)) hM ok (by omega) (by omega)
    have e3 := works_ok (n := (i : Int)) hM ok (by omega) (by omega)
    rw [a] at e2 e3
    obtain ⟨t5, t8, j5, j8, g⟩ := num_go (st := st) (s0 := s0) (s1 := s1) (s2 := s2) (s7 := s7) hM hr ls (.sh (.int (i : Int))) (.sh (oD (grun M st r i))) (fun x hx => h x (List.mem_cons_of_mem _ hx)) rfl rfl
    refine ⟨t5, t8, j5, j8, ?_⟩
    exact for_step (tg5 i5) ((seq_to2 (z60 e1 i8)).trans (z61 e2 (ne_self (lay_oi _) (by decide)) e3 isn_o)) g
theorem body_ok (ns : List Int) (k : Nat) (hk : k < 100) {s2 s3 s4 s5 s6 s7 s8 : Sl} (i2 : s2.isIo = false) (i3 : s3.isIo = false) (i4 : s4.isIo = false) (i5 : s5.isIo = false) (i6 : s6.isIo = false) (i7 : s7.isIo = false) (i8 : s8.isIo = false) :
    ∃ t2 t3 t4 t5 t6 t7 t8 : Sl, X_law_0_b (lE (.sh (.list (ns.map PyData.int))) (.sh (.int k)) s2 s3 s4 s5 s6 s7 s8) = .nx (lE (.sh (.list (ns.map PyData.int))) (.sh (.int k)) t2 t3 t4 t5 t6 t7 t8) ∧
      t2.isIo = false ∧ t3.isIo = false ∧ t4.isIo = false ∧ t5.isIo = false ∧ t6.isIo = false ∧ t7.isIo = false ∧ t8.isIo = false := by
  obtain ⟨d0, src0, e0⟩ := pool_ok ns k hk
  obtain ⟨M, st, d1, hM, src1, e1⟩ := gauge_ok src0
  obtain ⟨r0, d2, ar0, lr0, src2, e2⟩ := grow6 (st := st) hM src1
  obtain ⟨r1, d3, ar1, lr1, src3, e3⟩ := grow4 (st := st) hM src2
  have hm := ms_le hM
  have h0 : (0 : Int) ≤ M := by omega
  have ok := ok_form (st := st) h0 ar0
  obtain ⟨d4, src4, e4⟩ := refusals_ok (st := st) hM src3 ok
  generalize hS : PyData.list (ns.map PyData.int) = S at *
  generalize hKk : PyData.int (k : Int) = K at *
  have y0 : X_law_0_0 (lE (.sh S) (.sh K) s2 s3 s4 s5 s6 s7 s8) = .nx (lE (.sh S) (.sh K) (.ow d0) s3 s4 s5 s6 s7 s8) := by simp [X_law_0_0, e0, i2]
  have y1 : X_law_0_1 (lE (.sh S) (.sh K) (.ow d0) s3 s4 s5 s6 s7 s8) = .nx (lE (.sh S) (.sh K) (.ow d1) (.sh (kD M st)) s4 s5 s6 s7 s8) := by
    generalize kD (M : Int) st = KD at *
    simp [X_law_0_1, e1, i3]
  have y2 := z2 (s0 := .sh S) (s1 := .sh K) (s4 := s4) (s5 := s5) (s8 := s8) e2 e3 i6 i7
  have f0 := form_ok (st := st) hM ar0 (by omega)
  have f1 := form_ok (st := st) hM ar1 (by omega)
  have y3 := z3 (s0 := .sh S) (s1 := .sh K) (s2 := .ow d3) (s5 := s5) (s7 := .sh (gD r1)) (s8 := s8) f0 i4
  have y4 := z4 (s0 := .sh S) (s1 := .sh K) (s2 := .ow d3) (s5 := s5) (s7 := .sh (gD r1)) (s8 := s8) (told_ok (st := st) hM ar0 (by omega)) (ne_self (lay_fm _) (by decide))
  have bq : decide (form (M : Int) st r0 = form (M : Int) st r1) = decide (runL M st r0 = runL M st r1) := decide_eq_decide.mpr (alike_iff ar0 ar1)
  have q1 := eq_lot (M := M) (st := st) (r := r0) (s := r1)
  rw [← bq] at q1
  have y5 := z5 (s0 := .sh S) (s1 := .sh K) (s2 := .ow d3) (s5 := s5) (s8 := s8) f1 eq_fm (map_ok (st := st) (r := r0) (by omega)) (map_ok (st := st) (r := r1) (by omega)) q1
  obtain ⟨t5, t8, j5, j8, g⟩ := num_go (st := st) (s0 := .sh S) (s1 := .sh K) (s2 := .ow d3) (s7 := .sh (gD r1)) hM ar0 (List.range (M + 1)) s5 s8 (fun i hi => by have := List.mem_range.mp hi; omega) i5 i8
  have er : rangeD 0 (M + 1) = (List.range (M + 1)).map fun (i : Nat) => PyData.int (i : Int) := by simp [rangeD]
  rw [← er] at g
  have y6 : X_law_0_6 (lE (.sh S) (.sh K) (.ow d3) (.sh (kD M st)) (.sh (fD (form M st r0))) s5 (.sh (gD r0)) (.sh (gD r1)) s8) = .nx (lE (.sh S) (.sh K) (.ow d3) (.sh (kD M st)) (.sh (fD (form M st r0))) t5 (.sh (gD r0)) (.sh (gD r1)) t8) := z6 (by omega) g
  have y7 := z7 (s0 := .sh S) (s1 := .sh K) (s5 := t5) (s6 := .sh (gD r0)) (s7 := .sh (gD r1)) (s8 := t8) e4
  exact ⟨_, _, _, _, _, _, _, (seq_to2 y0).trans ((seq_to2 y1).trans ((seq_to2 y2).trans ((seq_to2 y3).trans ((seq_to2 y4).trans ((seq_to2 y5).trans ((seq_to2 y6).trans y7)))))), rfl, rfl, rfl, j5, rfl, rfl, j8⟩
def InvL (S : D) (rest : List D) (e : En) : Prop := ∃ s1 s2 s3 s4 s5 s6 s7 s8 : Sl, e = lE (.sh S) s1 s2 s3 s4 s5 s6 s7 s8 ∧ (s1.isIo = false ∧ s2.isIo = false ∧ s3.isIo = false ∧ s4.isIo = false ∧ s5.isIo = false ∧ s6.isIo = false ∧ s7.isIo = false ∧ s8.isIo = false) ∧ ∀ d ∈ rest, ∃ k : Nat, k < 100 ∧ d = .int k
theorem turn_ok (ns : List Int) : ∀ d rest e, InvL (.list (ns.map PyData.int)) (d :: rest) e → ∃ e1 e2, tgN 1 d e = some e1 ∧ (X_law_0_b e1 = .nx e2 ∨ X_law_0_b e1 = .ct e2) ∧ InvL (.list (ns.map PyData.int)) rest e2 := by
  rintro d rest e ⟨s1, s2, s3, s4, s5, s6, s7, s8, rfl, ⟨i1, i2, i3, i4, i5, i6, i7, i8⟩, hd⟩
  obtain ⟨k, hk, rfl⟩ := hd d List.mem_cons_self
  obtain ⟨t2, t3, t4, t5, t6, t7, t8, h, j2, j3, j4, j5, j6, j7, j8⟩ := body_ok ns k hk i2 i3 i4 i5 i6 i7 i8
  exact ⟨lE (.sh (.list (ns.map PyData.int))) (.sh (.int k)) s2 s3 s4 s5 s6 s7 s8, _, by simp [i1], .inl h, .sh (.int k), t2, t3, t4, t5, t6, t7, t8, rfl, ⟨rfl, j2, j3, j4, j5, j6, j7, j8⟩, fun x hx => hd x (List.mem_cons_of_mem _ hx)⟩
theorem maxI_1 {n : Nat} (h : n ≤ 63) : ∃ m : Nat, m ≤ 63 ∧ maxI 1 (minI 2 (n : Int)) = (m : Int) := by
  refine ⟨(maxI 1 (minI 2 (n : Int))).toNat, ?_, ?_⟩ <;> unfold maxI minI <;> split <;> split <;> omega
theorem law_ok (ns : List Int) (h : ns.length ≤ 63) : ∃ own ss, F_law [.sh (.list (ns.map PyData.int))] = .ret own (.bool true) ss := by
  obtain ⟨m, hm, em⟩ := maxI_1 h
  obtain ⟨e', h1, s1, s2, s3, s4, s5, s6, s7, s8, rfl, -, -⟩ := for_nx (InvL (.list (ns.map PyData.int))) (turn_ok ns) (rangeD 0 m) (lE (.sh (.list (ns.map PyData.int))) .un .un .un .un .un .un .un .un)
    ⟨.un, .un, .un, .un, .un, .un, .un, .un, rfl, ⟨rfl, rfl, rfl, rfl, rfl, rfl, rfl, rfl⟩, fun d hd => by
      simp only [rangeD, List.mem_map, List.mem_range] at hd
      obtain ⟨i, hi, rfl⟩ := hd
      exact ⟨i, by omega, by simp⟩⟩
  have b1 := rngB_nat (n := m) (by omega)
  have y0 : X_law_0 (lE (.sh (.list (ns.map PyData.int))) .un .un .un .un .un .un .un .un) = .nx (lE (.sh (.list (ns.map PyData.int))) s1 s2 s3 s4 s5 s6 s7 s8) := by
    refine Eq.trans ?_ h1
    simp [X_law_0, em, b1, -X_law_0_b]
  have y1 : X_law_b (lE (.sh (.list (ns.map PyData.int))) .un .un .un .un .un .un .un .un) = .rt (.sh (.bool true)) (lE (.sh (.list (ns.map PyData.int))) s1 s2 s3 s4 s5 s6 s7 s8) := by
    unfold X_law_b
    rw [seq_to2 y0]
    simp [X_law_1]
  exact ⟨false, _, runF_sh (np := 1) (n := 9) (body := B_law) (as := [.sh (.list (ns.map PyData.int))]) rfl y1⟩
end S35


open PySem PySem.W PyProof.Rows
theorem PySem.Challenge.cw_boxeffects_k35_gauges_by_their_forms_holds : PySem.Challenge.rw_boxeffects_k35_gauges_by_their_forms.Holds :=
  S35.holds S35.law_ok
