import PyProof.Rows.All
import Wide.All
import OpenK.AllK
import Wide.FinOn
import HandS.ForMost
import HandS.Walk
import HandS.Zip
import HandS.Deep
import HandS.Flow
import HandS.WordsExc
import HandS.IsInst
import HandS.Lambda
import HandS.TupAny
import HandS.TupLe
import HandS.TupMul
import HandS.Wide
import HandS.Style
import HandS.Star
import HandS.SortInts
import HandS.RaiseMore
import HandS.CallSlots
import HandS.ExcOwn
import HandS.Ends
import HandS.HeadEnd
import HandS.Defaults
import PyProof.ReprRoads
import HandS.Head0
import HandS.Head1
import HandS.Head2
import HandS.Head3
import HandS.HeadHook1
import HandS.HeadHook2
import KE.KDictDisplayH
import HandS.TryOnly
import HandS.DictComp
import KE.GoesEnum
import HandS.Flt
import KE.KExcSuper
import KE.KExcIs
import KE.KExcInit
import HandS.ExcField
import HandS.TryMany
import HandS.Text
import HandS.Conv
import PyProof.AutoSeq1
import HandS.Dict
import HandS.Small
import HandS.Iter
import HandS.SetFor
import HandS.More
import HandS.Remove
import PyProof.CollectStr
import PySem.Challenge.RW_boxeffects_k00_letters_and_kinds
set_option Elab.async false
set_option linter.all false
set_option maxRecDepth 100000
set_option maxHeartbeats 2000000
/-! VL: a layer by values over HandS: data (PyData) in the place of addresses; slots that own a mutable list or dict. -/
namespace VL
open PySem PySem.Spec PyProof.Rows L2

abbrev D := PyData
abbrev Frag := PySem.W.Frag
abbrev AS := Addr → Prop

/-! ### what a value reads as -/
def WrL (K : Frag) (a : Addr) (xs : List V) : Prop :=
  ∃ (o : Obj) (its : Array Value) (n : Nat), K.lookup a = some o ∧ o.cls = .type "list" ∧ o.dict = none ∧ o.data = .seq its n ∧ its.size ≤ sizeLine ∧ Vals xs its.toList
/-- a list that nobody changes any more (A), or a written one (the script may be one) -/
def LsOk (K : Frag) (A : AS) (H : Hp) (a : Addr) (xs : List V) : Prop := (A a ∧ Rd H a (.lst xs)) ∨ WrL K a xs
theorem LsOk.sq {K : Frag} {A : AS} {H : Hp} {a : Addr} {xs : List V} (h : LsOk K A H a xs) : SqL K H a xs := h.imp (·.2) id
def keyD : Key → D
  | .inl i => .int i
  | .inr x => .str x
section
variable (K : Frag) (A : AS) (H : Hp)
mutual
def Rp : D → V → Prop
  | .none, v => v = .non
  | .bool b, v => v = .bl b
  | .int i, v => v = .int i
  | .str x, v => v = .str x
  | .list ds, v => ∃ a xs, v = .ref a ∧ LsOk K A H a xs ∧ RpL ds xs
  | .tuple ds, v => ∃ a xs, v = .ref a ∧ SqT K H a xs ∧ RpL ds xs
  | .dict kvs, v => ∃ a, v = .ref a ∧ A a ∧ ((∃ ks, Rd H a (.dK ks) ∧ RpK kvs ks) ∨ (∃ ks, Rd H a (.dT ks) ∧ RpT0 kvs ks))
def RpL : List D → List V → Prop
  | [], vs => vs = []
  | d :: ds, vs => ∃ v r, vs = v :: r ∧ Rp d v ∧ RpL ds r
def RpK : List (D × D) → List (Key × V) → Prop
  | [], ks => ks = []
  | (k, d) :: r, ks => ∃ k' v r', ks = (k', v) :: r' ∧ k = keyD k' ∧ Rp d v ∧ RpK r r'
/-- a dict with tuples as keys is told with a mark ahead: (none, none) -/
def RpT0 : List (D × D) → List (List Key × V) → Prop
  | [], _ => False
  | (k, _) :: r, ks => k = .none ∧ RpT r ks
def RpT : List (D × D) → List (List Key × V) → Prop
  | [], ks => ks = []
  | (k, d) :: r, ks => ∃ k' v r', ks = (k', v) :: r' ∧ k = .tuple (k'.map keyD) ∧ Rp d v ∧ RpT r r'
end
end
/-- what never changes -/
def IsT : HO → Prop
  | .tup _ => True
  | .frz _ _ => True
  | _ => False
/-- a dict -/
def IsDk : HO → Prop
  | .dK _ => True
  | .dT _ => True
  | _ => False
/-- a table of code objects -/
def TbO : HO → Prop
  | .tbl _ => True
  | _ => False
/-- what is neither owned nor written -/
def IsX : HO → Prop
  | .tup _ => True
  | .frz _ _ => True
  | .tbl _ => True
  | .ext _ => True
  | _ => False
theorem IsT.x {o : HO} (h : IsT o) : IsX o := by cases o <;> first | trivial | exact h.elim
/-- kept: a dict may be locked, a table may grow -/
def Up (H' : Hp) (a : Addr) (o : HO) : Prop := H' a = some o ∨ (IsDk o ∧ ∃ b, H' a = some (.frz b o)) ∨ (TbO o ∧ H' a ≠ none)
theorem Up.eq {H' : Hp} {a : Addr} {o : HO} (h : Up H' a o) (n1 : ¬ IsDk o) (n2 : ¬ TbO o) : H' a = some o := h.elim id fun z => z.elim (fun z => (n1 z.1).elim) fun z => (n2 z.1).elim
def Kp (A : AS) (H H' : Hp) : Prop := ∀ a o, H a = some o → (A a ∨ IsT o) → Up H' a o
section
variable {K : Frag} {A A' : AS} {H H' : Hp}
theorem rd_kp {a : Addr} {u : HO} (k : Kp A H H') (hA : A a ∨ IsT u) (h : Rd H a u) (nt : ¬ TbO u := by exact fun z => z) : Rd H' a u := by
  rcases h with h | ⟨o, h⟩
  · rcases k a _ h hA with z | ⟨_, b, z⟩ | z
    · exact .inl z
    · exact .inr ⟨b, z⟩
    · exact (nt z.1).elim
  · exact .inr ⟨o, (k a (.frz o u) h (.inr trivial)).eq (fun z => z) fun z => z⟩
mutual
theorem Rp.mono (hA : ∀ a, A a → A' a) (k : Kp A H H') : ∀ (d : D) (v : V), Rp K A H d v → Rp K A' H' d v
  | .none, v, h => by simpa only [Rp] using h
  | .bool b, v, h => by simpa only [Rp] using h
  | .int i, v, h => by simpa only [Rp] using h
  | .str x, v, h => by simpa only [Rp] using h
  | .list ds, v, h => by
    simp only [Rp] at h ⊢
    obtain ⟨a, xs, e, l, r⟩ := h
    exact ⟨a, xs, e, l.imp (fun z => ⟨hA a z.1, rd_kp k (.inl z.1) z.2⟩) id, RpL.mono hA k ds xs r⟩
  | .tuple ds, v, h => by
    simp only [Rp] at h ⊢
    obtain ⟨a, xs, e, l, r⟩ := h
    exact ⟨a, xs, e, l.imp (fun z => rd_kp (u := .tup xs) k (.inr trivial) z) id, RpL.mono hA k ds xs r⟩
  | .dict kvs, v, h => by
    simp only [Rp] at h ⊢
    obtain ⟨a, e, z, l⟩ := h
    refine ⟨a, e, hA a z, ?_⟩
    rcases l with ⟨ks, l, r⟩ | ⟨ks, l, r⟩
    · exact .inl ⟨ks, rd_kp k (.inl z) l, RpK.mono hA k kvs ks r⟩
    · exact .inr ⟨ks, rd_kp k (.inl z) l, RpT0.mono hA k kvs ks r⟩
theorem RpL.mono (hA : ∀ a, A a → A' a) (k : Kp A H H') : ∀ (ds : List D) (vs : List V), RpL K A H ds vs → RpL K A' H' ds vs
  | [], vs, h => by simpa only [RpL] using h
  | d :: ds, vs, h => by
    simp only [RpL] at h ⊢
    obtain ⟨v, r, e, h1, h2⟩ := h
    exact ⟨v, r, e, Rp.mono hA k d v h1, RpL.mono hA k ds r h2⟩
theorem RpK.mono (hA : ∀ a, A a → A' a) (k : Kp A H H') : ∀ (ds : List (D × D)) (vs : List (Key × V)), RpK K A H ds vs → RpK K A' H' ds vs
  | [], vs, h => by simpa only [RpK] using h
  | (x, d) :: ds, vs, h => by
    simp only [RpK] at h ⊢
    obtain ⟨k', v, r, e, e2, h1, h2⟩ := h
    exact ⟨k', v, r, e, e2, Rp.mono hA k d v h1, RpK.mono hA k ds r h2⟩
theorem RpT0.mono (hA : ∀ a, A a → A' a) (k : Kp A H H') : ∀ (ds : List (D × D)) (vs : List (List Key × V)), RpT0 K A H ds vs → RpT0 K A' H' ds vs
  | [], vs, h => by simp only [RpT0] at h
  | (x, d) :: ds, vs, h => by
    simp only [RpT0] at h ⊢
    exact ⟨h.1, RpT.mono hA k ds vs h.2⟩
theorem RpT.mono (hA : ∀ a, A a → A' a) (k : Kp A H H') : ∀ (ds : List (D × D)) (vs : List (List Key × V)), RpT K A H ds vs → RpT K A' H' ds vs
  | [], vs, h => by simpa only [RpT] using h
  | (x, d) :: ds, vs, h => by
    simp only [RpT] at h ⊢
    obtain ⟨k', v, r, e, e2, h1, h2⟩ := h
    exact ⟨k', v, r, e, e2, Rp.mono hA k d v h1, RpT.mono hA k ds r h2⟩
end
theorem RpL.nil : RpL K A H [] [] := by simp only [RpL]
theorem RpL.cons {d : D} {v : V} {ds : List D} {vs : List V} (h : Rp K A H d v) (t : RpL K A H ds vs) : RpL K A H (d :: ds) (v :: vs) := by
  simp only [RpL]; exact ⟨v, vs, rfl, h, t⟩
theorem RpL.inv_nil {vs : List V} (h : RpL K A H [] vs) : vs = [] := by simpa only [RpL] using h
theorem RpL.inv_cons {d : D} {ds : List D} {vs : List V} (h : RpL K A H (d :: ds) vs) : ∃ v r, vs = v :: r ∧ Rp K A H d v ∧ RpL K A H ds r := by
  simpa only [RpL] using h
theorem RpL.length : ∀ {ds : List D} {vs : List V}, RpL K A H ds vs → ds.length = vs.length
  | [], _, h => by rw [h.inv_nil]; rfl
  | _ :: _, _, h => by obtain ⟨v, r, rfl, _, t⟩ := h.inv_cons; simp [t.length]
theorem RpL.get : ∀ {ds : List D} {vs : List V} {i : Nat} {d : D}, RpL K A H ds vs → ds[i]? = some d → ∃ v, vs[i]? = some v ∧ Rp K A H d v
  | [], _, _, _, _, e => by simp at e
  | _ :: _, _, 0, _, h, e => by obtain ⟨v, r, rfl, h1, _⟩ := h.inv_cons; simp at e; subst e; exact ⟨v, rfl, h1⟩
  | _ :: _, _, i + 1, _, h, e => by
    obtain ⟨v, r, rfl, _, t⟩ := h.inv_cons
    obtain ⟨w, h1, h2⟩ := RpL.get (i := i) t (by simpa using e)
    exact ⟨w, by simpa using h1, h2⟩
theorem RpL.at' : ∀ {ds : List D} {vs : List V} {i : Nat} {v : V}, RpL K A H ds vs → vs[i]? = some v → ∃ d, ds[i]? = some d ∧ Rp K A H d v
  | [], _, _, _, h, e => by rw [h.inv_nil] at e; simp at e
  | _ :: _, _, 0, _, h, e => by obtain ⟨v, r, rfl, h1, _⟩ := h.inv_cons; simp at e; subst e; exact ⟨_, rfl, h1⟩
  | _ :: _, _, i + 1, _, h, e => by
    obtain ⟨v, r, rfl, _, t⟩ := h.inv_cons
    obtain ⟨w, h1, h2⟩ := RpL.at' (i := i) t (by simpa using e)
    exact ⟨w, by simpa using h1, h2⟩
theorem RpL.append : ∀ {ds es : List D} {vs us : List V}, RpL K A H ds vs → RpL K A H es us → RpL K A H (ds ++ es) (vs ++ us)
  | [], _, _, _, h, g => by rw [h.inv_nil]; exact g
  | _ :: _, _, _, _, h, g => by obtain ⟨v, r, rfl, h1, t⟩ := h.inv_cons; exact .cons h1 (t.append g)
theorem RpL.take : ∀ {ds : List D} {vs : List V} (n : Nat), RpL K A H ds vs → RpL K A H (ds.take n) (vs.take n)
  | _, _, 0, _ => by simp only [List.take_zero]; exact .nil
  | [], _, _ + 1, h => by rw [h.inv_nil]; exact .nil
  | _ :: _, _, n + 1, h => by obtain ⟨v, r, rfl, h1, t⟩ := h.inv_cons; exact .cons h1 (t.take n)
theorem RpL.drop : ∀ {ds : List D} {vs : List V} (n : Nat), RpL K A H ds vs → RpL K A H (ds.drop n) (vs.drop n)
  | _, _, 0, h => h
  | [], _, _ + 1, h => by rw [h.inv_nil]; exact .nil
  | _ :: _, _, n + 1, h => by obtain ⟨v, r, rfl, _, t⟩ := h.inv_cons; exact t.drop n
theorem RpL.reverse : ∀ {ds : List D} {vs : List V}, RpL K A H ds vs → RpL K A H ds.reverse vs.reverse
  | [], _, h => by rw [h.inv_nil]; exact .nil
  | _ :: _, _, h => by
    obtain ⟨v, r, rfl, h1, t⟩ := h.inv_cons
    simp only [List.reverse_cons]
    exact t.reverse.append (.cons h1 .nil)
theorem RpL.set : ∀ {ds : List D} {vs : List V} (i : Nat) {d : D} {v : V}, RpL K A H ds vs → Rp K A H d v → RpL K A H (ds.set i d) (vs.set i v)
  | [], _, _, _, _, h, _ => by rw [h.inv_nil]; exact .nil
  | _ :: _, _, 0, _, _, h, g => by obtain ⟨v, r, rfl, _, t⟩ := h.inv_cons; exact .cons g t
  | _ :: _, _, i + 1, _, _, h, g => by obtain ⟨v, r, rfl, h1, t⟩ := h.inv_cons; exact .cons h1 (t.set i g)

/-- all of data, read at once (for HandS's rules on data) -/
def noDict : D → Bool
  | .dict _ => false
  | _ => true
mutual
theorem Rp.dp : ∀ (d : D) (v : V), Rp K A H d v → d.canLay0 = true → Dp K H v d
  | .none, v, h, _ => by simp only [Rp] at h; subst h; exact .non
  | .bool b, v, h, _ => by simp only [Rp] at h; subst h; exact .bl b
  | .int i, v, h, _ => by simp only [Rp] at h; subst h; exact .int i
  | .str x, v, h, _ => by simp only [Rp] at h; subst h; exact .str x
  | .list ds, v, h, c => by
    simp only [Rp] at h
    obtain ⟨a, xs, rfl, l, r⟩ := h
    exact .lst l.sq (RpL.dp ds xs r (by simpa [PyData.canLay0] using c))
  | .tuple ds, v, h, c => by
    simp only [Rp] at h
    obtain ⟨a, xs, rfl, l, r⟩ := h
    exact .tup l (RpL.dp ds xs r (by simpa [PyData.canLay0] using c))
  | .dict kvs, v, h, c => by simp [PyData.canLay0] at c
theorem RpL.dp : ∀ (ds : List D) (vs : List V), RpL K A H ds vs → PyData.canLayAll0 ds = true → DpAll K H vs ds
  | [], vs, h, _ => by rw [h.inv_nil]; exact .nil
  | d :: ds, vs, h, c => by
    obtain ⟨v, r, rfl, h1, t⟩ := h.inv_cons
    simp only [PyData.canLayAll0, Bool.and_eq_true] at c
    exact .cons (Rp.dp d v h1 c.1) (RpL.dp ds r t c.2)
end
end

/-! ### slots -/
inductive Sl where
  | un | sh (d : D) | ow (d : D) | io (d : D) | iz (d : D)
abbrev En := List Sl
inductive Rv where
  | sh (d : D) | tm (d : D) | bo (i : Nat)
def Sl.rd : Sl → Option D
  | .un => none
  | .sh d => some d
  | .ow d => some d
  | .io d => some d
  | .iz d => some d
def rdAt (env : En) (i : Nat) : Option D := match env[i]? with
  | some s => s.rd
  | none => none
/-- what a result reads as now -/
def rd (env : En) : Rv → Option D
  | .sh d => some d
  | .tm d => some d
  | .bo i => rdAt env i

structure Xc where
  cls : Str
  fld : Str
  told : D
inductive Rs (α : Type) where
  | ok (a : α) (e : En)
  | ex (x : Xc) (e : En)
  | no
def Rs.bind {α β : Type} (r : Rs α) (k : α → En → Rs β) : Rs β := match r with
  | .ok a e => k a e
  | .ex x e => .ex x e
  | .no => .no

/-- an owned list or dict at a -/
def Ob (K : Frag) (A : AS) (H : Hp) (a : Addr) : D → Prop
  | .list ds => ∃ xs, H a = some (.lst xs) ∧ RpL K A H ds xs
  | .dict kvs => (∃ ks, H a = some (.dK ks) ∧ RpK K A H kvs ks) ∨ (∃ ks, H a = some (.dT ks) ∧ RpT0 K A H kvs ks)
  | _ => False
def isOwn (env : En) (i : Nat) (d : D) : Prop := env[i]? = some (Sl.ow d) ∨ env[i]? = some (Sl.io d)
def Owi (σ : L2.St) (env : En) (i : Nat) (a : Addr) : Prop := (∃ d, isOwn env i d) ∧ σ[i]? = some (some (.ref a))
def Ow (σ : L2.St) (env : En) : AS := fun a => ∃ i, Owi σ env i a

/-- the tables of code objects that lambdas of this law may write: their addresses, the names -/
class TbP where
  T : List (Addr × Str)
variable [TbP]
structure Rel (K : Frag) (A : AS) (σ : L2.St) (H : Hp) (env : En) : Prop where
  len : σ.length = env.length
  sh : ∀ (i : Nat) (d : D), (env[i]? = some (Sl.sh d) ∨ env[i]? = some (Sl.iz d)) → ∃ v, σ[i]? = some (some v) ∧ Rp K A H d v
  ow : ∀ (i : Nat) (d : D), isOwn env i d → ∃ a, σ[i]? = some (some (.ref a)) ∧ ¬ A a ∧ Ob K A H a d
  ap : ∀ i j a, Owi σ env i a → Owi σ env j a → i = j
  dom : ∀ a, A a → H a ≠ none
  fz : ∀ (i : Nat) (d : D), env[i]? = some (Sl.iz d) → ∃ a, σ[i]? = some (some (.ref a)) ∧ A a
  tb : LamX.Tabs TbP.T H

structure Ext (O A : AS) (H : Hp) (A' : AS) (H' : Hp) : Prop where
  fr : ∀ a, A a → A' a
  keep : ∀ a o, H a = some o → ¬ O a → H' a = some o ∨ (IsDk o ∧ A' a ∧ ∃ b, H' a = some (.frz b o)) ∨ (TbO o ∧ H' a ≠ none)
  old : ∀ a, A' a → A a ∨ H a = none ∨ O a
  al : ∀ a, H a ≠ none → H' a ≠ none
  tab : LamX.Tabs TbP.T H → LamX.Tabs TbP.T H'
theorem Ext.keepA {O A A' : AS} {H H' : Hp} (x : Ext O A H A' H') {a : Addr} {o : HO} (e : H a = some o) (n : ¬ O a) (na : ¬ A' a) (nt : ¬ IsX o) : H' a = some o := by
  rcases x.keep a o e n with z | ⟨_, z, _⟩ | ⟨z, _⟩
  · exact z
  · exact (na z).elim
  · cases o <;> first | exact (nt trivial).elim | exact z.elim
theorem Ext.keepN {O A A' : AS} {H H' : Hp} (x : Ext O A H A' H') {a : Addr} {o : HO} (e : H a = some o) (n : ¬ O a) (n1 : ¬ IsDk o := by exact fun z => z) (n2 : ¬ TbO o := by exact fun z => z) : H' a = some o := by
  rcases x.keep a o e n with z | ⟨z, _⟩ | ⟨z, _⟩
  · exact z
  · exact (n1 z).elim
  · exact (n2 z).elim
theorem tab_same {H H' : Hp} (s : ∀ a o, H a = some o → H' a = some o) (P : Addr) (q : Str) (t : LamX.TabS H P q) : LamX.TabS H' P q := t.ext s
/-- another thing's place is written -/
theorem tab_upd {H : Hp} {a : Addr} {o0 o : HO} (e : H a = some o0) (nx : ¬ IsX o0) (P : Addr) (q : Str) (t : LamX.TabS H P q) : LamX.TabS (upd H a o) P q := by
  obtain ⟨ps, h1, h2, h3⟩ := t
  have at_ : ∀ b u, H b = some u → IsX u → upd H a o b = some u := fun b u eb xb => by
    rw [upd_ne (fun z => by rw [z, e] at eb; cases eb; exact nx xb)]
    exact eb
  refine ⟨ps, at_ _ _ h1 trivial, h2, fun pos cv hc => ?_⟩
  obtain ⟨c, e1, e2⟩ := h3 pos cv hc
  exact ⟨c, e1, at_ _ _ e2 trivial⟩

def Io (σ : L2.St) (env : En) (σ' : L2.St) (env' : En) : Prop :=
  ∀ (i : Nat) (d : D), (env[i]? = some (Sl.io d) ∨ env[i]? = some (Sl.iz d)) → σ'[i]? = σ[i]? ∧ ∃ d' : D, env'[i]? = some (Sl.io d') ∨ env'[i]? = some (Sl.iz d')

structure Stp (K : Frag) (A : AS) (σ : L2.St) (H : Hp) (env : En) (A' : AS) (σ' : L2.St) (H' : Hp) (env' : En) : Prop where
  ext : Ext (Ow σ env) A H A' H'
  rel : Rel K A' σ' H' env'
  sub : ∀ a, Ow σ' env' a → Ow σ env a ∨ H a = none
  io : Io σ env σ' env'
  rdb : ∀ i, rdAt env i ≠ none → rdAt env' i ≠ none

section
variable {K : Frag} {A A1 A2 : AS} {σ σ1 σ2 : L2.St} {H H1 H2 : Hp} {env e1 e2 : En}
theorem Ob.some {a : Addr} {d : D} (h : Ob K A H a d) : ∃ o, H a = some o ∧ ¬ IsX o := by
  cases d with
  | list ds => obtain ⟨xs, e, _⟩ := h; exact ⟨_, e, fun z => z⟩
  | dict kvs =>
    rcases h with ⟨ks, e, _⟩ | ⟨ks, e, _⟩
    · exact ⟨_, e, fun z => z⟩
    · exact ⟨_, e, fun z => z⟩
  | _ => exact h.elim
theorem Ob.mono (hA : ∀ a, A a → A1 a) (k : Kp A H H1) {a : Addr} {d : D} (h : Ob K A H a d) (e : ∀ o, H a = Option.some o → H1 a = Option.some o) : Ob K A1 H1 a d := by
  cases d with
  | list ds => obtain ⟨xs, q, r⟩ := h; exact ⟨xs, e _ q, r.mono hA k⟩
  | dict kvs =>
    rcases h with ⟨ks, q, r⟩ | ⟨ks, q, r⟩
    · exact .inl ⟨ks, e _ q, r.mono hA k⟩
    · exact .inr ⟨ks, e _ q, r.mono hA k⟩
  | _ => exact h.elim
theorem Rel.owok (r : Rel K A σ H env) {a : Addr} (h : Ow σ env a) : ¬ A a ∧ ∃ o, H a = some o ∧ ¬ IsX o := by
  obtain ⟨i, ⟨d, hd⟩, e⟩ := h
  obtain ⟨b, e2, na, ob⟩ := r.ow i d hd
  rw [e] at e2
  cases e2
  exact ⟨na, ob.some⟩
theorem Ext.kp (x : Ext (Ow σ env) A H A1 H1) (r : Rel K A σ H env) : Kp A H H1 := fun a o e z => by
  rcases x.keep a o e fun w => by
    obtain ⟨na, o', e', nt⟩ := r.owok w
    rw [e] at e'
    cases e'
    exact z.elim na fun w => nt w.x with z | ⟨z, _, w⟩ | z
  · exact .inl z
  · exact .inr (.inl ⟨z, w⟩)
  · exact .inr (.inr z)
theorem Ext.refl {O : AS} : Ext O A H A H := ⟨fun _ h => h, fun _ _ h _ => .inl h, fun _ h => .inl h, fun _ h => h, fun t => t⟩
theorem Stp.refl (r : Rel K A σ H env) : Stp K A σ H env A σ H env :=
  ⟨Ext.refl, r, fun _ h => .inl h, fun i d h => ⟨rfl, d, h⟩, fun _ h => h⟩
theorem Stp.trans (a : Stp K A σ H env A1 σ1 H1 e1) (b : Stp K A1 σ1 H1 e1 A2 σ2 H2 e2) : Stp K A σ H env A2 σ2 H2 e2 where
  ext := {
    fr := fun x h => b.ext.fr x (a.ext.fr x h)
    keep := fun x o h n => by
      have nw : ¬ Ow σ1 e1 x := fun w => (a.sub x w).elim n fun z => by rw [h] at z; cases z
      rcases a.ext.keep x o h n with z | ⟨z1, z2, bb, z3⟩ | ⟨z1, z2⟩
      · exact b.ext.keep x o z nw
      · exact .inr (.inl ⟨z1, b.ext.fr x z2, bb, b.ext.keepN z3 nw⟩)
      · exact .inr (.inr ⟨z1, b.ext.al x z2⟩)
    old := fun x h => by
      rcases b.ext.old x h with h | h | h
      · exact a.ext.old x h
      · refine .inr (.inl ?_)
        cases e : H x with
        | none => rfl
        | some o => exact absurd h (a.ext.al x (by rw [e]; simp))
      · exact .inr ((a.sub x h).symm)
    al := fun x h => b.ext.al x (a.ext.al x h)
    tab := fun t => b.ext.tab (a.ext.tab t) }
  rel := b.rel
  sub := fun x h => by
    rcases b.sub x h with h | h
    · exact a.sub x h
    · refine .inr ?_
      cases e : H x with
      | none => rfl
      | some o => exact absurd h (a.ext.al x (by rw [e]; simp))
  io := fun i d h => by
    obtain ⟨q1, d1, h1⟩ := a.io i d h
    obtain ⟨q2, d2, h2⟩ := b.io i d1 h1
    exact ⟨q2.trans q1, d2, h2⟩
  rdb := fun i h => b.rdb i (a.rdb i h)
/-- a heap that only grows -/
theorem Stp.same (r : Rel K A σ H env) (s : Same H H1) : Stp K A σ H env A σ H1 env := by
  have k : Kp A H H1 := fun a o e _ => .inl (s a o e)
  refine ⟨⟨fun _ h => h, fun a o e _ => .inl (s a o e), fun _ h => .inl h, fun a h => ?_, fun t p hp => tab_same s p.1 p.2 (t p hp)⟩, ⟨r.len, fun i d h => ?_, fun i d h => ?_, r.ap, fun a h => ?_, r.fz, fun p hp => tab_same s p.1 p.2 (r.tb p hp)⟩, fun _ h => .inl h, fun i d h => ⟨rfl, d, h⟩, fun _ h => h⟩
  · cases e : H a with
    | none => exact absurd e h
    | some o => rw [s a o e]; simp
  · obtain ⟨v, e, q⟩ := r.sh i d h
    exact ⟨v, e, q.mono (fun _ z => z) k⟩
  · obtain ⟨a, e, na, ob⟩ := r.ow i d h
    exact ⟨a, e, na, ob.mono (fun _ z => z) k fun o z => s a o z⟩
  · cases e : H a with
    | none => exact absurd e (r.dom a h)
    | some o => rw [s a o e]; simp
end

/-! ### results of expressions -/
def RvOk (K : Frag) (A : AS) (σ : L2.St) (H : Hp) (env : En) (F : AS) : Rv → V → Prop
  | .sh d, v => Rp K A H d v
  | .tm d, v => ∃ a, v = .ref a ∧ ¬ A a ∧ ¬ Ow σ env a ∧ F a ∧ Ob K A H a d
  | .bo i, v => σ[i]? = some (some v) ∧ rdAt env i ≠ none
theorem RvOk.step {K : Frag} {A A1 : AS} {σ : L2.St} {H H1 : Hp} {env e1 : En} {F : AS} {r : Rv} {v : V} (h : RvOk K A σ H env F r v) (rel : Rel K A σ H env) (s : Stp K A σ H env A1 σ H1 e1) : RvOk K A1 σ H1 e1 F r v := by
  cases r with
  | sh d => exact h.mono s.ext.fr (s.ext.kp rel)
  | tm d =>
    obtain ⟨a, e, na, no, f, ob⟩ := h
    obtain ⟨o, eo, nx⟩ := ob.some
    have na1 : ¬ A1 a := fun z => by
      rcases s.ext.old a z with z | z | z
      · exact na z
      · rw [eo] at z; cases z
      · exact no z
    refine ⟨a, e, na1, fun z => ?_, f, ob.mono s.ext.fr (s.ext.kp rel) fun o e => s.ext.keepA e no na1 (by rw [eo] at e; cases e; exact nx)⟩
    · rcases s.sub a z with z | z
      · exact no z
      · rw [eo] at z; cases z
  | bo i => exact ⟨h.1, s.rdb i h.2⟩

/-- the ground: the written part, the module's names, what is wished of an exception -/
structure Gd where
  K : Frag
  M : Str → Option Value
  W : WX
def XOk (G : Gd) (A : AS) (H : Hp) (x : Xc) (c : Value) (d : Option Addr) : Prop :=
  ∃ C dd v, G.M x.cls = some (.ref C) ∧ c = .ref C ∧ d = some dd ∧ H dd = some (.xd [(x.fld, v)]) ∧ Rp G.K A H x.told v

def Post {α : Type} (G : Gd) (A : AS) (σ : L2.St) (H : Hp) (env : En) (out : Rs α) (P : α → En → AS → Hp → Prop) : Prop := match out with
  | .ok a e => ∀ A' H', Stp G.K A σ H env A' σ H' e → P a e A' H'
  | .ex x e => ∀ A' H' c d, Stp G.K A σ H env A' σ H' e → XOk G A' H' x c d → G.W c d σ H'
  | .no => False
section
variable {α β : Type} {G : Gd} {A : AS} {σ : L2.St} {H : Hp} {env : En}
theorem Post.bind {out : Rs α} {k : α → En → Rs β} {P : β → En → AS → Hp → Prop} (h : Post G A σ H env (out.bind k) P) : Post G A σ H env out fun a e A' H' => Post G A' σ H' e (k a e) P := by
  cases out with
  | ok a e =>
    intro A1 H1 s1
    simp only [Rs.bind] at h
    cases hk : k a e with
    | ok b e2 =>
      rw [hk] at h
      exact fun A2 H2 s2 => h A2 H2 (s1.trans s2)
    | ex x e2 =>
      rw [hk] at h
      exact fun A2 H2 c d s2 => h A2 H2 c d (s1.trans s2)
    | no =>
      rw [hk] at h
      exact h
  | ex x e => exact h
  | no => exact h
theorem Post.imp {out : Rs α} {P P' : α → En → AS → Hp → Prop} (h : Post G A σ H env out P) (i : ∀ a e A' H', Stp G.K A σ H env A' σ H' e → P a e A' H' → P' a e A' H') : Post G A σ H env out P' := by
  cases out with
  | ok a e => exact fun A1 H1 s1 => i a e A1 H1 s1 (h A1 H1 s1)
  | ex x e => exact h
  | no => exact h
end

/-- the readings -/
def EQ (G : Gd) (σ : L2.St) (H : Hp) (Q : VK) : Rv → En → AS → Hp → Prop := fun r e A' H' => ∀ v, RvOk G.K A' σ H' e (fun a => H a = none) r v → Q v H'
abbrev EF := En → Rs Rv
abbrev TF := En → Rs Bool
def tE (G : Gd) (f : EF) : TE := fun σ H Q => ∃ A env, Rel G.K A σ H env ∧ Post G A σ H env (f env) (EQ G σ H Q)
def tT (G : Gd) (f : TF) : TT := fun σ H Q => ∃ A env, Rel G.K A σ H env ∧ Post G A σ H env (f env) fun b _ _ H' => Q b H'

theorem PE.imp {X : Cx} {e : Expr} {t t' : TE} (h : PE X e t) (i : ∀ σ H Q, t' σ H Q → t σ H Q) : PE X e t' := ⟨fun pins s σ H Q I q => h.run pins s σ H Q I (i σ H Q q)⟩
theorem PT.imp {X : Cx} {e : Expr} {t t' : TT} (h : PT X e t) (i : ∀ σ H Q, t' σ H Q → t σ H Q) : PT X e t' := ⟨fun pins s σ H Q I q => h.run pins s σ H Q I (i σ H Q q)⟩
theorem PW.imp {X : Cx} {e : Expr} {t t' : TT} (h : PW X e t) (i : ∀ σ H Q, t' σ H Q → t σ H Q) : PW X e t' := ⟨fun w pins s σ H Q I q => h.run w pins s σ H Q I (i σ H Q q)⟩
theorem PA.imp {X : Cx} {e : List Expr} {t t' : TA} (h : PA X e t) (i : ∀ σ H Q, t' σ H Q → t σ H Q) : PA X e t' := ⟨fun p pins s σ H Q I q => h.run p pins s σ H Q I (i σ H Q q)⟩
theorem PS.imp {X : Cx} {e : Stmt} {t t' : TS} (h : PS X e t) (i : ∀ D σ H, t' D σ H → t D σ H) : PS X e t' := ⟨fun pins s σ H D I q => h.run pins s σ H D I (i D σ H q)⟩
theorem PSs.imp {X : Cx} {e : List Stmt} {t t' : TS} (h : PSs X e t) (i : ∀ D σ H, t' D σ H → t D σ H) : PSs X e t' := ⟨fun pins s σ H D I q => h.run pins s σ H D I (i D σ H q)⟩

/-! ### names, constants -/
def nmF (i : Nat) : EF := fun env => match env[i]? with
  | some (.sh d) => .ok (.sh d) env
  | some (.iz d) => .ok (.sh d) env
  | some (.ow _) => .ok (.bo i) env
  | some (.io _) => .ok (.bo i) env
  | _ => .no
def cF (d : D) : EF := fun env => .ok (.sh d) env
section
variable {X : Cx} {W : WX}
abbrev gd (X : Cx) (W : WX) : Gd := ⟨X.K, X.mg, W⟩
theorem e_nm (i : Nat) {x : Str} {pos : Pos} (hN : X.N[i]? = some x := by rfl) (hv : Vis X.env.scope x := by first | exact Or.inl rfl | exact Or.inr (Or.inl rfl) | exact Or.inr (Or.inr rfl)) (hd : (x == ("__debug__" : Str)) = false := by decide)
    (hcd : (x == ("__classdict__" : Str)) = false := by decide) : PE X (.Name x pos) (tE (gd X W) (nmF i)) := by
  refine PE.imp (pv i hN hv hd hcd) fun σ H Q h => ?_
  obtain ⟨A, env, rel, h⟩ := h
  unfold nmF at h
  cases q : env[i]? with
  | none => rw [q] at h; exact h.elim
  | some s =>
    rw [q] at h
    cases s with
    | un => exact h.elim
    | sh d =>
      obtain ⟨v, e, r⟩ := rel.sh i d (.inl q)
      exact ⟨v, e, h A H (.refl rel) v r⟩
    | iz d =>
      obtain ⟨v, e, r⟩ := rel.sh i d (.inr q)
      exact ⟨v, e, h A H (.refl rel) v r⟩
    | ow d =>
      obtain ⟨a, e, _⟩ := rel.ow i d (.inl q)
      exact ⟨.ref a, e, h A H (.refl rel) (.ref a) ⟨e, by simp [rdAt, q, Sl.rd]⟩⟩
    | io d =>
      obtain ⟨a, e, _⟩ := rel.ow i d (.inr q)
      exact ⟨.ref a, e, h A H (.refl rel) (.ref a) ⟨e, by simp [rdAt, q, Sl.rd]⟩⟩
theorem e_c {e : Expr} {v : V} {d : D} (h : PE X e (tC v)) (hr : ∀ A H, Rp X.K A H d v) : PE X e (tE (gd X W) (cF d)) := by
  refine PE.imp h fun σ H Q h => ?_
  obtain ⟨A, env, rel, h⟩ := h
  exact h A H (.refl rel) v (hr A H)
theorem e_int {i j pos} : PE X (.Constant (.int i) j pos) (tE (gd X W) (cF (.int i))) := e_c pe_int fun _ _ => by simp only [Rp]
theorem e_bl {b j pos} : PE X (.Constant (.bool b) j pos) (tE (gd X W) (cF (.bool b))) := e_c pe_bl fun _ _ => by simp only [Rp]
theorem e_non {j pos} : PE X (.Constant .none j pos) (tE (gd X W) (cF .none)) := e_c pe_non fun _ _ => by simp only [Rp]
theorem e_str {x j pos} : PE X (.Constant (.str x) j pos) (tE (gd X W) (cF (.str x))) := e_c pe_str fun _ _ => by simp only [Rp]
end
end VL


set_option Elab.async false
set_option linter.all false
set_option maxRecDepth 100000
set_option maxHeartbeats 2000000
namespace VL
open PySem PySem.Spec PyProof.Rows L2
variable [TbP]

abbrev LIM : Nat := 16777216
theorem lim_eq : sizeLine = LIM := sizeLine_eq
theorem le_line {n : Nat} (h : n ≤ LIM) : n ≤ sizeLine := by rw [lim_eq]; exact h

/-! ### arguments -/
def Rv.isTm : Rv → Bool
  | .tm _ => true
  | _ => false
def RvsOk (K : Frag) (A : AS) (σ : L2.St) (H : Hp) (env : En) : AS → List Rv → List V → Prop
  | _, [], vs => vs = []
  | F, r :: rs, vs => ∃ v t, vs = v :: t ∧ RvOk K A σ H env F r v ∧ RvsOk K A σ H env (fun a => F a ∧ (r.isTm = true → v ≠ .ref a)) rs t
theorem RvOk.weak {K : Frag} {A : AS} {σ : L2.St} {H : Hp} {env : En} {F F' : AS} {r : Rv} {v : V} (h : RvOk K A σ H env F r v) (i : ∀ a o, H a = some o → F a → F' a) : RvOk K A σ H env F' r v := by
  cases r with
  | sh d => exact h
  | tm d =>
    obtain ⟨a, e, n1, n2, f, ob⟩ := h
    obtain ⟨o, eo, _⟩ := ob.some
    exact ⟨a, e, n1, n2, i a o eo f, ob⟩
  | bo j => exact h
theorem RvsOk.weak {K : Frag} {A : AS} {σ : L2.St} {H : Hp} {env : En} : ∀ {F F' : AS} {rs : List Rv} {vs : List V}, RvsOk K A σ H env F rs vs → (∀ a o, H a = some o → F a → F' a) → RvsOk K A σ H env F' rs vs
  | _, _, [], _, h, _ => h
  | _, _, _ :: _, _, h, i => by
    obtain ⟨v, t, e, h1, h2⟩ := h
    exact ⟨v, t, e, h1.weak i, h2.weak fun a o ho z => ⟨i a o ho z.1, z.2⟩⟩
theorem RvsOk.step {K : Frag} {A A1 : AS} {σ : L2.St} {H H1 : Hp} {env e1 : En} (rel : Rel K A σ H env) (s : Stp K A σ H env A1 σ H1 e1) : ∀ {F : AS} {rs : List Rv} {vs : List V}, RvsOk K A σ H env F rs vs → RvsOk K A1 σ H1 e1 F rs vs
  | _, [], _, h => h
  | _, _ :: _, _, h => by
    obtain ⟨v, t, e, h1, h2⟩ := h
    exact ⟨v, t, e, h1.step rel s, h2.step rel s⟩
abbrev AF := En → Rs (List Rv)
def tA (G : Gd) (f : AF) : TA := fun σ H Q => ∃ A env, Rel G.K A σ H env ∧ Post G A σ H env (f env) fun rs e A' H' => ∀ vs, RvsOk G.K A' σ H' e (fun a => H a = none) rs vs → Q vs H'
def nilF : AF := fun env => .ok [] env
def consF (f : EF) (g : AF) : AF := fun env => (f env).bind fun r e => (g e).bind fun rs e2 => .ok (r :: rs) e2
section
variable {X : Cx} {W : WX} {e : Expr} {es : List Expr} {f : EF} {g : AF}
theorem a_nil : PA X [] (tA (gd X W) nilF) := PA.imp pa_nil fun σ H Q h => by
  obtain ⟨A, env, rel, h⟩ := h
  exact h A H (.refl rel) [] rfl
theorem a_cons (he : PE X e (tE (gd X W) f)) (hr : PA X es (tA (gd X W) g)) (hs : starEach (e :: es) X.env = (false, eval e X.env) :: starEach es X.env := by rfl) : PA X (e :: es) (tA (gd X W) (consF f g)) :=
  PA.imp (pa_cons he hr hs) fun σ H Q h => by
    obtain ⟨A, env, rel, h⟩ := h
    refine ⟨A, env, rel, (Post.bind h).imp fun r e1 A1 H1 s1 h1 v hv => ?_⟩
    refine ⟨A1, e1, s1.rel, (Post.bind h1).imp fun rs e2 A2 H2 s2 h2 vs hvs => ?_⟩
    refine h2 A2 H2 (.refl s2.rel) (v :: vs) ⟨v, vs, rfl, hv.step s1.rel s2, hvs.weak fun a o ho z => ⟨?_, fun it q => ?_⟩⟩
    · cases q : H a with
      | none => exact q
      | some u => exact absurd z (s1.ext.al a (by rw [q]; simp))
    · subst q
      cases r with
      | tm d =>
        obtain ⟨b, e, _, _, _, ob⟩ := hv
        cases e
        obtain ⟨o', eo, _⟩ := ob.some
        rw [eo] at z; cases z
      | sh d => cases it
      | bo i => cases it
end

/-! ### operations on values -/
/-- what may be read now: shared, or an owned thing -/
def Rq (K : Frag) (A : AS) (H : Hp) (d : D) (v : V) : Prop := Rp K A H d v ∨ ∃ a, v = .ref a ∧ Ob K A H a d
section
variable {K : Frag} {A : AS} {H : Hp} {d : D} {v : V}
theorem Rq.non (h : Rq K A H .none v) : v = .non := by
  rcases h with h | ⟨a, _, h⟩
  · simpa only [Rp] using h
  · exact h.elim
theorem Rq.bl {b : Bool} (h : Rq K A H (.bool b) v) : v = .bl b := by
  rcases h with h | ⟨a, _, h⟩
  · simpa only [Rp] using h
  · exact h.elim
theorem Rq.int {i : Int} (h : Rq K A H (.int i) v) : v = .int i := by
  rcases h with h | ⟨a, _, h⟩
  · simpa only [Rp] using h
  · exact h.elim
theorem Rq.str {x : Str} (h : Rq K A H (.str x) v) : v = .str x := by
  rcases h with h | ⟨a, _, h⟩
  · simpa only [Rp] using h
  · exact h.elim
theorem Rq.lst {ds : List D} (h : Rq K A H (.list ds) v) : ∃ a xs, v = .ref a ∧ SqL K H a xs ∧ RpL K A H ds xs := by
  rcases h with h | ⟨a, e, xs, q, r⟩
  · simp only [Rp] at h
    obtain ⟨a, xs, e, l, r⟩ := h
    exact ⟨a, xs, e, l.sq, r⟩
  · exact ⟨a, xs, e, SqL.of q, r⟩
theorem Rq.tup {ds : List D} (h : Rq K A H (.tuple ds) v) : ∃ a xs, v = .ref a ∧ SqT K H a xs ∧ RpL K A H ds xs := by
  rcases h with h | ⟨a, _, h⟩
  · simpa only [Rp] using h
  · exact h.elim
theorem Rq.dct {ds : List (D × D)} (h : Rq K A H (.dict ds) v) : ∃ a, v = .ref a ∧ ((∃ ks, Rd H a (.dK ks) ∧ RpK K A H ds ks) ∨ (∃ ks, Rd H a (.dT ks) ∧ RpT0 K A H ds ks)) := by
  rcases h with h | ⟨a, e, h⟩
  · simp only [Rp] at h
    obtain ⟨a, e, _, l⟩ := h
    exact ⟨a, e, l⟩
  · refine ⟨a, e, h.imp (fun ⟨ks, q, r⟩ => ⟨ks, .inl q, r⟩) fun ⟨ks, q, r⟩ => ⟨ks, .inl q, r⟩⟩
theorem Rq.dp (h : Rq K A H d v) (c : d.canLay0 = true) : Dp K H v d := by
  rcases h with h | ⟨a, e, h⟩
  · exact Rp.dp d v h c
  · subst e
    cases d with
    | list ds =>
      obtain ⟨xs, q, r⟩ := h
      exact .lst (SqL.of q) (RpL.dp ds xs r (by simpa [PyData.canLay0] using c))
    | dict kvs => simp [PyData.canLay0] at c
    | _ => exact h.elim
theorem RvOk.rq {σ : L2.St} {env : En} {F : AS} {r : Rv} (rel : Rel K A σ H env) (h : RvOk K A σ H env F r v) (e : rd env r = some d) : Rq K A H d v := by
  cases r with
  | sh d' => cases e; exact .inl h
  | tm d' =>
    cases e
    obtain ⟨a, ea, _, _, _, ob⟩ := h
    exact .inr ⟨a, ea, ob⟩
  | bo i =>
    obtain ⟨hs, _⟩ := h
    have e : rdAt env i = some d := e
    unfold rdAt at e
    cases q : env[i]? with
    | none => rw [q] at e; cases e
    | some s =>
      rw [q] at e
      cases s with
      | un => cases e
      | sh d' =>
        cases e
        obtain ⟨w, e2, r2⟩ := rel.sh i d (.inl q)
        rw [hs] at e2; cases e2
        exact .inl r2
      | iz d' =>
        cases e
        obtain ⟨w, e2, r2⟩ := rel.sh i d (.inr q)
        rw [hs] at e2; cases e2
        exact .inl r2
      | ow d' =>
        cases e
        obtain ⟨a, e2, _, ob⟩ := rel.ow i d (.inl q)
        rw [hs] at e2; cases e2
        exact .inr ⟨a, rfl, ob⟩
      | io d' =>
        cases e
        obtain ⟨a, e2, _, ob⟩ := rel.ow i d (.inr q)
        rw [hs] at e2; cases e2
        exact .inr ⟨a, rfl, ob⟩
end
/-- a new result of an operation -/
def Rz (K : Frag) (A : AS) (H0 H : Hp) : Rv → V → Prop
  | .sh d, v => Rp K A H d v
  | .tm d, v => ∃ a, v = .ref a ∧ H0 a = none ∧ Ob K A H a d
  | .bo _, _ => False
theorem Rz.rv {K : Frag} {A A1 : AS} {σ : L2.St} {H H1 H2 : Hp} {env e1 : En} {r : Rv} {v : V} (s : Stp K A σ H env A1 σ H1 e1) (h : Rz K A1 H1 H2 r v) : RvOk K A1 σ H2 e1 (fun a => H a = none) r v := by
  cases r with
  | sh d => exact h
  | tm d =>
    obtain ⟨a, e, n, ob⟩ := h
    refine ⟨a, e, fun z => s.rel.dom a z n, fun z => ?_, ?_, ob⟩
    · obtain ⟨_, o, eo, _⟩ := s.rel.owok z
      rw [n] at eo; cases eo
    · cases q : H a with
      | none => exact q
      | some o => exact absurd n (s.ext.al a (by rw [q]; simp))
  | bo i => exact h.elim
abbrev G2 := D → D → Option Rv
abbrev G1 := D → Option Rv
def OpA (K : Frag) (r : R2) (g : G2) : Prop := ∀ (A : AS) (H : Hp) (x y : D) (vx vy : V) (z : Rv) (Q : VK), (∀ a, A a → H a ≠ none) → g x y = some z → Rq K A H x vx → Rq K A H y vy →
  (∀ v' H', Same H H' → Rz K A H H' z v' → Q v' H') → r vx vy H Q
def UnA (K : Frag) (r : V → Hp → VK → Prop) (g : G1) : Prop := ∀ (A : AS) (H : Hp) (x : D) (vx : V) (z : Rv) (Q : VK), (∀ a, A a → H a ≠ none) → g x = some z → Rq K A H x vx →
  (∀ v' H', Same H H' → Rz K A H H' z v' → Q v' H') → r vx H Q
def orG (g g' : G2) : G2 := fun x y => match g x y with
  | some z => some z
  | none => g' x y
theorem OpA.or {K : Frag} {r r' : R2} {g g' : G2} (h : OpA K r g) (h' : OpA K r' g') : OpA K (fun x y H Q => r x y H Q ∨ r' x y H Q) (orG g g') := by
  intro A H x y vx vy z Q hd e hx hy q
  unfold orG at e
  cases q1 : g x y with
  | some z' => rw [q1] at e; cases e; exact .inl (h A H x y vx vy z Q hd q1 hx hy q)
  | none => rw [q1] at e; exact .inr (h' A H x y vx vy z Q hd e hx hy q)
def out1 (o : Option Rv) (env : En) : Rs Rv := match o with
  | some z => .ok z env
  | none => .no
def opF (g : G2) (fa fb : EF) : EF := fun env => (fa env).bind fun r1 e1 => (fb e1).bind fun r2 e2 => match rd e2 r1, rd e2 r2 with
  | some x, some y => out1 (g x y) e2
  | _, _ => .no
def unF (g : G1) (fa : EF) : EF := fun env => (fa env).bind fun r1 e1 => match rd e1 r1 with
  | some x => out1 (g x) e1
  | none => .no
section
variable {G : Gd} {r : R2} {g : G2} {fa fb : EF}
/-- at the end of a reading: a new result over the state as it is -/
theorem fin1 {A A1 : AS} {σ : L2.St} {H H1 : Hp} {env e1 : En} {z : Rv} {Q : VK} {v' : V} {H' : Hp} (s : Stp G.K A σ H env A1 σ H1 e1) (h : Post G A1 σ H1 e1 (Rs.ok z e1) (EQ G σ H Q)) (sm : Same H1 H') (hz : Rz G.K A1 H1 H' z v') : Q v' H' :=
  h A1 H' (Stp.same s.rel sm) v' (hz.rv s)
theorem opF_sound (ha : OpA G.K r g) {σ : L2.St} {H : Hp} {Q : VK} (h : tE G (opF g fa fb) σ H Q) : tOp r (tE G fa) (tE G fb) σ H Q := by
  obtain ⟨A, env, rel, h⟩ := h
  refine ⟨A, env, rel, (Post.bind h).imp fun r1 e1 A1 H1 s1 h1 v1 hv1 => ?_⟩
  refine ⟨A1, e1, s1.rel, (Post.bind h1).imp fun r2 e2 A2 H2 s2 h2 v2 hv2 => ?_⟩
  have hv1' := hv1.step s1.rel s2
  cases q1 : rd e2 r1 with
  | none => rw [q1] at h2; exact h2.elim
  | some x =>
    cases q2 : rd e2 r2 with
    | none => rw [q1, q2] at h2; exact h2.elim
    | some y =>
      rw [q1, q2] at h2
      dsimp only at h2
      unfold out1 at h2
      cases q3 : g x y with
      | none => rw [q3] at h2; exact h2.elim
      | some z =>
        rw [q3] at h2
        exact ha A2 H2 x y v1 v2 z Q s2.rel.dom q3 (hv1'.rq s2.rel q1) (hv2.rq s2.rel q2) fun v' H' sm hz => fin1 (s1.trans s2) h2 sm hz
theorem unF_sound {r : V → Hp → VK → Prop} {g : G1} (ha : UnA G.K r g) {σ : L2.St} {H : Hp} {Q : VK} (h : tE G (unF g fa) σ H Q) : tUn r (tE G fa) σ H Q := by
  obtain ⟨A, env, rel, h⟩ := h
  refine ⟨A, env, rel, (Post.bind h).imp fun r1 e1 A1 H1 s1 h1 v1 hv1 => ?_⟩
  cases q1 : rd e1 r1 with
  | none => rw [q1] at h1; exact h1.elim
  | some x =>
    rw [q1] at h1
    dsimp only at h1
    unfold out1 at h1
    cases q3 : g x with
    | none => rw [q3] at h1; exact h1.elim
    | some z =>
      rw [q3] at h1
      exact ha A1 H1 x v1 z Q s1.rel.dom q3 (hv1.rq s1.rel q1) fun v' H' sm hz => fin1 s1 h1 sm hz
end
section
variable {X : Cx} {W : WX} {a b : Expr} {fa fb : EF} {pos : Pos} {r : R2} {g : G2}
theorem e_op {op : Operator} (ho : OpR X (binaryOp op) r) (hA : OpA X.K r g) (ha : PE X a (tE (gd X W) fa)) (hb : PE X b (tE (gd X W) fb)) : PE X (.BinOp a op b pos) (tE (gd X W) (opF g fa fb)) :=
  PE.imp (pe_op ho ha hb) fun _ _ _ h => opF_sound (G := gd X W) hA h
theorem e_cmp {op : CmpOp} (ho : OpR X (compareOp op) r) (hA : OpA X.K r g) (ha : PE X a (tE (gd X W) fa)) (hb : PE X b (tE (gd X W) fb)) (hm : behindInMarks op b = false) : PE X (.Compare a [op] [b] pos) (tE (gd X W) (opF g fa fb)) :=
  PE.imp (pe_cmpR ho ha hb hm) fun _ _ _ h => opF_sound (G := gd X W) hA h
theorem e_un {op : UnaryOp} {r : V → Hp → VK → Prop} {g : G1} (ho : UnR X (unaryOp op) r) (hA : UnA X.K r g) (ha : PE X a (tE (gd X W) fa)) : PE X (.UnaryOp op a pos) (tE (gd X W) (unF g fa)) :=
  PE.imp (pe_un ho ha) fun _ _ _ h => unF_sound (G := gd X W) hA h
end

/-! ### single operations -/
theorem rp_int {K : Frag} {A : AS} {H : Hp} {i : Int} : Rp K A H (.int i) (.int i) := by simp only [Rp]
theorem rp_bl {K : Frag} {A : AS} {H : Hp} {i : Bool} : Rp K A H (.bool i) (.bl i) := by simp only [Rp]
theorem rp_str {K : Frag} {A : AS} {H : Hp} {i : Str} : Rp K A H (.str i) (.str i) := by simp only [Rp]
theorem rp_non {K : Frag} {A : AS} {H : Hp} : Rp K A H .none .non := by simp only [Rp]
theorem rz_int {K : Frag} {A : AS} {H0 H : Hp} {i : Int} : Rz K A H0 H (.sh (.int i)) (.int i) := rp_int (K := K) (A := A) (H := H)
theorem rz_bl {K : Frag} {A : AS} {H0 H : Hp} {i : Bool} : Rz K A H0 H (.sh (.bool i)) (.bl i) := rp_bl (K := K) (A := A) (H := H)
theorem rz_str {K : Frag} {A : AS} {H0 H : Hp} {i : Str} : Rz K A H0 H (.sh (.str i)) (.str i) := rp_str (K := K) (A := A) (H := H)
theorem rz_non {K : Frag} {A : AS} {H0 H : Hp} : Rz K A H0 H (.sh .none) .non := rp_non (K := K) (A := A) (H := H)
theorem same_upd {H : Hp} {p : Addr} {o : HO} (h : H p = none) : Same H (upd H p o) := fun b x e => by
  rw [upd_ne (ne_of_none e h)]
  exact e
theorem same_kp {A : AS} {H H' : Hp} (s : Same H H') : Kp A H H' := fun a o e _ => .inl (s a o e)
theorem rp_tup {K : Frag} {A : AS} {H : Hp} {p : Addr} {ds : List D} {xs : List V} (n : H p = none) (r : RpL K A H ds xs) : Rp K A (upd H p (.tup xs)) (.tuple ds) (.ref p) := by
  simp only [Rp]
  exact ⟨p, xs, rfl, SqT.of upd_same, r.mono (fun _ z => z) (same_kp (same_upd n))⟩
theorem rz_lst {K : Frag} {A : AS} {H : Hp} {p : Addr} {ds : List D} {xs : List V} (n : H p = none) (r : RpL K A H ds xs) : Rz K A H (upd H p (.lst xs)) (.tm (.list ds)) (.ref p) :=
  ⟨p, rfl, n, xs, upd_same, r.mono (fun _ z => z) (same_kp (same_upd n))⟩

def intG (C : Int → Int → Bool) (f : Int → Int → D) : G2
  | .int i, .int j => if C i j then some (.sh (f i j)) else none
  | _, _ => none
theorem int_A0 {K : Frag} {f : Int → Int → V} {fd : Int → Int → D} (hf : ∀ A H i j, Rp K A H (fd i j) (f i j)) : OpA K (rI0 f) (intG (fun _ _ => true) fd) := by
  intro A H x y vx vy z Q hd e hx hy q
  cases x <;> try (cases e; done)
  cases y <;> try (cases e; done)
  rename_i i j
  cases e
  have e1 := hx.int
  have e2 := hy.int
  subst e1 e2
  exact ⟨i, j, rfl, rfl, q _ _ (Same.refl H) (hf A H i j)⟩
theorem int_A {K : Frag} {C : Int → Int → Prop} {Cb : Int → Int → Bool} {f : Int → Int → V} {fd : Int → Int → D} (hc : ∀ i j, Cb i j = true → C i j) (hf : ∀ A H i j, Rp K A H (fd i j) (f i j)) : OpA K (rI C f) (intG Cb fd) := by
  intro A H x y vx vy z Q hd e hx hy q
  cases x <;> try (cases e; done)
  cases y <;> try (cases e; done)
  rename_i i j
  unfold intG at e
  by_cases c : Cb i j = true
  · dsimp only at e
    rw [if_pos c] at e
    cases e
    have e1 := hx.int
    have e2 := hy.int
    subst e1 e2
    exact ⟨i, j, rfl, rfl, hc i j c, q _ _ (Same.refl H) (hf A H i j)⟩
  · dsimp only at e
    rw [if_neg c] at e; cases e
def strCatG : G2
  | .str x, .str y => if x.length + y.length ≤ LIM then some (.sh (.str (x ++ y))) else none
  | _, _ => none
def lstCatG : G2
  | .list x, .list y => if x.length + y.length ≤ LIM then some (.tm (.list (x ++ y))) else none
  | _, _ => none
def tupCatG : G2
  | .tuple x, .tuple y => if x.length + y.length ≤ LIM then some (.sh (.tuple (x ++ y))) else none
  | _, _ => none
theorem strCat_A {K : Frag} : OpA K (fun x y H Q => ∃ i j, x = .str i ∧ y = .str j ∧ i.length + j.length ≤ sizeLine ∧ Q (.str (i ++ j)) H) strCatG := by
  intro A H x y vx vy z Q hd e hx hy q
  cases x <;> try (cases e; done)
  cases y <;> try (cases e; done)
  rename_i i j
  unfold strCatG at e
  dsimp only at e
  split at e
  · rename_i c
    cases e
    have e1 := hx.str
    have e2 := hy.str
    subst e1 e2
    exact ⟨i, j, rfl, rfl, le_line c, q _ _ (Same.refl H) rz_str⟩
  · cases e
/-- list + list, whatever may be read -/
def rCatR (K : Frag) : R2 := fun x y H Q => ∃ l b xs zs, x = .ref l ∧ y = .ref b ∧ SqL K H l xs ∧ SqL K H b zs ∧ xs.length + zs.length ≤ sizeLine ∧ ∀ p, H p = none → Q (.ref p) (upd H p (.lst (xs ++ zs)))
theorem op_catR {X : Cx} : OpR X (binaryOp .Add) (rCatR X.K) := by
  intro pins s σ H x y v u Q I rx ry h
  obtain ⟨l, b, xs, zs, rfl, rfl, hH, hB, hz, q⟩ := h
  cases rx
  cases ry
  obtain ⟨its, r, hl, z⟩ := I.list hH
  obtain ⟨its2, r2, hl2, z2⟩ := I.list hB
  have e1 := r.length
  have e2 := r2.length
  obtain ⟨⟨cls, dd, data, sl⟩, ho, hc, n, hd⟩ := hl.isList
  obtain ⟨⟨cls2, dd2, data2, sl2⟩, ho2, hc2, n2, hd2⟩ := hl2.isList
  simp only at hc hd hc2 hd2
  subst hc hd hc2 hd2
  have e : its.toArray ++ its2.toArray = (its ++ its2).toArray := by simp
  refine concat_meets ⟨_, ho, rfl⟩ ⟨_, ho2, rfl⟩ noFill_list_add seq_list_add PySem.F.slot_list_add PySem.F.entry_list_add (PySem.F.args_list_add_2 _ _) (list_addW l b its.toArray its2.toArray n n2 dd dd2 sl sl2 (by simp only [List.size_toArray]; omega)) ⟨ho, ho2, ?_⟩
  rw [e]
  exact ⟨.ref _, _, I.lnew (t' := s.toks) (r.append r2) (by rw [List.length_append]; omega), rfl, q _ I.fresh⟩
theorem lstCat_A {K : Frag} : OpA K (rCatR K) lstCatG := by
  intro A H x y vx vy z Q hd e hx hy q
  cases x <;> try (cases e; done)
  cases y <;> try (cases e; done)
  rename_i i j
  unfold lstCatG at e
  dsimp only at e
  split at e
  · rename_i c
    cases e
    obtain ⟨a, xs, e1, l1, r1⟩ := hx.lst
    obtain ⟨b, ys, e2, l2, r2⟩ := hy.lst
    exact ⟨a, b, xs, ys, e1, e2, l1, l2, by rw [← r1.length, ← r2.length]; exact le_line c, fun p n => q _ _ (same_upd n) (rz_lst n (r1.append r2))⟩
  · cases e
theorem tupCat_A {K : Frag} : OpA K (rCatA K) tupCatG := by
  intro A H x y vx vy z Q hd e hx hy q
  cases x <;> try (cases e; done)
  cases y <;> try (cases e; done)
  rename_i i j
  unfold tupCatG at e
  dsimp only at e
  split at e
  · rename_i c
    cases e
    obtain ⟨a, xs, e1, l1, r1⟩ := hx.tup
    obtain ⟨b, ys, e2, l2, r2⟩ := hy.tup
    subst e1 e2
    refine ⟨a, b, xs, ys, rfl, rfl, l1, l2, by rw [← r1.length, ← r2.length]; exact le_line c, fun e0 => ?_, fun _ e0 => ?_, fun _ _ p n => ?_⟩
    · subst e0
      have : i = [] := by cases i with
        | nil => rfl
        | cons _ _ => have := r1.length; simp at this
      subst this
      refine q _ _ (Same.refl H) ?_
      show Rp K A H (.tuple ([] ++ j)) _
      simp only [Rp]
      exact ⟨b, ys, rfl, l2, r2⟩
    · subst e0
      have : j = [] := by cases j with
        | nil => rfl
        | cons _ _ => have := r2.length; simp at this
      subst this
      refine q _ _ (Same.refl H) ?_
      show Rp K A H (.tuple (i ++ [])) _
      rw [List.append_nil]
      simp only [Rp]
      exact ⟨a, xs, rfl, l1, r1⟩
    · exact q _ _ (same_upd n) (rp_tup n (r1.append r2))
  · cases e
def addG : G2 := orG (intG (fun _ _ => true) fun i j => .int (i + j)) (orG strCatG (orG lstCatG tupCatG))
def subG : G2 := intG (fun _ _ => true) fun i j => .int (i - j)
def mulOk (i j : Int) : Bool := decide ((-(2 ^ 64) < i ∧ i < 2 ^ 64) ∨ (-(2 ^ 64) < j ∧ j < 2 ^ 64)) || decide (i.natAbs.log2 + j.natAbs.log2 < 1000000)
def mulG : G2 := intG mulOk fun i j => .int (i * j)
def fdivG : G2 := intG (fun _ j => decide (0 < j) && decide (j.natAbs.log2 < 9000)) fun i j => .int (i / j)
def modG : G2 := intG (fun _ j => decide (0 < j)) fun i j => .int (i % j)
def powG : G2 := intG (fun i j => decide (0 ≤ j) && decide (j ≤ 1000000) && decide (i.natAbs < 2 ^ 64)) fun i j => .int (i ^ j.toNat)
section
variable {X : Cx} {W : WX} {a b : Expr} {fa fb : EF} {pos : Pos}
theorem e_add (ha : PE X a (tE (gd X W) fa)) (hb : PE X b (tE (gd X W) fb)) : PE X (.BinOp a .Add b pos) (tE (gd X W) (opF addG fa fb)) :=
  e_op (op_add.or (op_add_str.or (op_catR.or op_catA))) ((int_A0 fun A H _ _ => rp_int (K := X.K) (A := A) (H := H)).or (strCat_A.or (lstCat_A.or tupCat_A))) ha hb
theorem e_sub (ha : PE X a (tE (gd X W) fa)) (hb : PE X b (tE (gd X W) fb)) : PE X (.BinOp a .Sub b pos) (tE (gd X W) (opF subG fa fb)) := e_op op_sub (int_A0 fun A H _ _ => rp_int (K := X.K) (A := A) (H := H)) ha hb
theorem op_mulA : OpR X (binaryOp .Mult) (rI (fun i j => CMul i j ∨ CMulW i j) fun i j => .int (i * j)) := opI fun _ _ _ _ _ _ _ hc q => mul_int q (hc.elim CMul.ok CMulW.ok)
theorem e_mul (ha : PE X a (tE (gd X W) fa)) (hb : PE X b (tE (gd X W) fb)) : PE X (.BinOp a .Mult b pos) (tE (gd X W) (opF mulG fa fb)) := e_op op_mulA (int_A (fun i j h => by
  unfold mulOk at h
  rw [Bool.or_eq_true] at h
  exact h.imp (fun z => of_decide_eq_true (p := (-(2 ^ 64) < i ∧ i < 2 ^ 64) ∨ (-(2 ^ 64) < j ∧ j < 2 ^ 64)) z) fun z => of_decide_eq_true (p := i.natAbs.log2 + j.natAbs.log2 < 1000000) z) fun A H _ _ => rp_int (K := X.K) (A := A) (H := H)) ha hb
theorem e_fdiv (ha : PE X a (tE (gd X W) fa)) (hb : PE X b (tE (gd X W) fb)) : PE X (.BinOp a .FloorDiv b pos) (tE (gd X W) (opF fdivG fa fb)) := e_op op_fdivW (int_A (fun i j h => by
  rw [Bool.and_eq_true] at h
  exact ⟨of_decide_eq_true h.1, of_decide_eq_true h.2⟩) fun A H _ _ => rp_int (K := X.K) (A := A) (H := H)) ha hb
theorem e_mod (ha : PE X a (tE (gd X W) fa)) (hb : PE X b (tE (gd X W) fb)) : PE X (.BinOp a .Mod b pos) (tE (gd X W) (opF modG fa fb)) := e_op op_mod (int_A (fun i j h => of_decide_eq_true h) fun A H _ _ => rp_int (K := X.K) (A := A) (H := H)) ha hb
theorem e_pow (ha : PE X a (tE (gd X W) fa)) (hb : PE X b (tE (gd X W) fb)) : PE X (.BinOp a .Pow b pos) (tE (gd X W) (opF powG fa fb)) := e_op op_pow (int_A (fun i j h => by
  rw [Bool.and_eq_true, Bool.and_eq_true] at h
  exact ⟨of_decide_eq_true h.1.1, of_decide_eq_true h.1.2, of_decide_eq_true h.2⟩) fun A H _ _ => rp_int (K := X.K) (A := A) (H := H)) ha hb
def negG : G1
  | .int i => some (.sh (.int (-i)))
  | _ => none
theorem e_neg (ha : PE X a (tE (gd X W) fa)) : PE X (.UnaryOp .USub a pos) (tE (gd X W) (unF negG fa)) := e_un un_neg (by
  intro A H x vx z Q hd e hx q
  cases x <;> try (cases e; done)
  rename_i i
  cases e
  have e1 := hx.int
  subst e1
  exact ⟨i, rfl, q _ _ (Same.refl H) rz_int⟩) ha
end
end VL


set_option Elab.async false
set_option linter.all false
set_option maxRecDepth 100000
set_option maxHeartbeats 2000000
namespace VL
open PySem PySem.Spec PyProof.Rows L2
variable [TbP]

/-! ### freezing -/
def frz (e : En) : Rv → Option (D × En)
  | .sh d => some (d, e)
  | .tm d => some (d, e)
  | .bo i => match e[i]? with
    | some (.sh d) => some (d, e)
    | some (.iz d) => some (d, e)
    | some (.ow d) => some (d, e.set i (.sh d))
    | some (.io d) => some (d, e.set i (.iz d))
    | _ => none
theorem Ob.rp {K : Frag} {A : AS} {H : Hp} {a : Addr} {d : D} (h : Ob K A H a d) (hA : A a) : Rp K A H d (.ref a) := by
  cases d with
  | list ds =>
    obtain ⟨xs, e, r⟩ := h
    simp only [Rp]
    exact ⟨a, xs, rfl, .inl ⟨hA, .inl e⟩, r⟩
  | dict kvs =>
    simp only [Rp]
    exact ⟨a, rfl, hA, h.imp (fun ⟨ks, e, r⟩ => ⟨ks, .inl e, r⟩) fun ⟨ks, e, r⟩ => ⟨ks, .inl e, r⟩⟩
  | _ => exact h.elim
theorem kp_refl {A : AS} {H : Hp} : Kp A H H := fun _ _ e _ => .inl e
section
variable {K : Frag} {A A1 : AS} {σ σ1 : L2.St} {H H1 : Hp} {env e1 e2 : En} {r : Rv} {v : V} {d : D}
/-- an address that was fresh, or owned by a slot, is shared from now on -/
theorem Rel.add {a : Addr} (rel : Rel K A1 σ1 H1 e1) (no : ¬ Ow σ1 e1 a) (hs : H1 a ≠ none) : Rel K (fun x => A1 x ∨ x = a) σ1 H1 e1 := by
  refine ⟨rel.len, fun i d h => ?_, fun i d h => ?_, rel.ap, fun x h => ?_, fun i d h => (let ⟨b, e, z⟩ := rel.fz i d h; ⟨b, e, .inl z⟩), rel.tb⟩
  · obtain ⟨v, e, q⟩ := rel.sh i d h
    exact ⟨v, e, q.mono (fun _ z => .inl z) kp_refl⟩
  · obtain ⟨b, e, na, ob⟩ := rel.ow i d h
    refine ⟨b, e, fun z => z.elim na fun z => ?_, ob.mono (fun _ z => .inl z) kp_refl fun _ z => z⟩
    subst z
    exact no ⟨i, ⟨d, h⟩, e⟩
  · rcases h with h | h
    · exact rel.dom x h
    · subst h; exact hs
theorem isOwn_set {i j : Nat} {s : Sl} {d : D} (h : isOwn (e1.set i s) j d) (hs : ∀ d, s ≠ .ow d ∧ s ≠ .io d) : j ≠ i ∧ isOwn e1 j d := by
  by_cases q : j = i
  · subst q
    exfalso
    have lt : j < e1.length := by
      rcases h with h | h <;>
      · have := (List.getElem?_eq_some_iff.mp h).1
        simpa using this
    rcases h with h | h
    · rw [List.getElem?_set_self lt] at h
      exact (hs d).1 (Option.some.inj h)
    · rw [List.getElem?_set_self lt] at h
      exact (hs d).2 (Option.some.inj h)
  · refine ⟨q, ?_⟩
    unfold isOwn at h ⊢
    rw [List.getElem?_set_ne (Ne.symm q)] at h
    exact h
/-- the slot i, that owned d at a, shares it from now on -/
theorem Rel.share {i : Nat} {a : Addr} {s : Sl} (rel : Rel K A1 σ1 H1 e1) (ho : isOwn e1 i d) (ha : σ1[i]? = some (some (.ref a))) (hs : s = .sh d ∨ s = .iz d) :
    Rel K (fun x => A1 x ∨ x = a) σ1 H1 (e1.set i s) ∧ (∀ x, Ow σ1 (e1.set i s) x → Ow σ1 e1 x ∧ x ≠ a) := by
  have hns : ∀ d, s ≠ .ow d ∧ s ≠ .io d := fun d => by rcases hs with rfl | rfl <;> (constructor <;> (intro z; cases z))
  obtain ⟨b, eb, na, ob⟩ := rel.ow i d ho
  rw [ha] at eb; cases eb
  obtain ⟨o, eo, _⟩ := ob.some
  have lt : i < e1.length := by
    rcases ho with h | h <;> exact (List.getElem?_eq_some_iff.mp h).1
  have sub : ∀ x, Ow σ1 (e1.set i s) x → Ow σ1 e1 x ∧ x ≠ a := fun x ⟨j, ⟨d', hd⟩, e⟩ => by
    obtain ⟨ne, hj⟩ := isOwn_set hd hns
    refine ⟨⟨j, ⟨d', hj⟩, e⟩, fun z => ne ?_⟩
    subst z
    exact rel.ap j i x ⟨⟨d', hj⟩, e⟩ ⟨⟨d, ho⟩, ha⟩
  refine ⟨⟨by simpa using rel.len, fun j d' h => ?_, fun j d' h => ?_, fun j k x hj hk => ?_, fun x h => ?_, fun j d' h => ?_, rel.tb⟩, sub⟩
  · by_cases q : j = i
    · subst q
      rw [List.getElem?_set_self lt] at h
      have : d' = d := by
        rcases hs with rfl | rfl <;> rcases h with h | h <;> cases h <;> rfl
      subst this
      exact ⟨.ref a, ha, (ob.mono (A1 := fun x => A1 x ∨ x = a) (fun _ z => .inl z) kp_refl fun _ z => z).rp (.inr rfl)⟩
    · rw [List.getElem?_set_ne (Ne.symm q)] at h
      obtain ⟨w, e, r⟩ := rel.sh j d' h
      exact ⟨w, e, r.mono (fun _ z => .inl z) kp_refl⟩
  · obtain ⟨ne, hj⟩ := isOwn_set h hns
    obtain ⟨b, e, nb, ob'⟩ := rel.ow j d' hj
    refine ⟨b, e, fun z => z.elim nb fun z => ?_, ob'.mono (fun _ z => .inl z) kp_refl fun _ z => z⟩
    subst z
    exact ne (rel.ap j i b ⟨⟨d', hj⟩, e⟩ ⟨⟨d, ho⟩, ha⟩)
  · obtain ⟨⟨d1, h1⟩, e1'⟩ := hj
    obtain ⟨⟨d2, h2⟩, e2'⟩ := hk
    exact rel.ap j k x ⟨⟨d1, (isOwn_set h1 hns).2⟩, e1'⟩ ⟨⟨d2, (isOwn_set h2 hns).2⟩, e2'⟩
  · rcases h with h | h
    · exact rel.dom x h
    · subst h; rw [eo]; simp
  · by_cases q : j = i
    · subst q
      exact ⟨a, ha, .inr rfl⟩
    · rw [List.getElem?_set_ne (Ne.symm q)] at h
      obtain ⟨b, e, z⟩ := rel.fz j d' h
      exact ⟨b, e, .inl z⟩
theorem rdAt_set {i j : Nat} {s : Sl} (hs : s.rd ≠ none) (h : rdAt e1 j ≠ none) : rdAt (e1.set i s) j ≠ none := by
  unfold rdAt at h ⊢
  by_cases q : j = i
  · subst q
    by_cases lt : j < e1.length
    · rw [List.getElem?_set_self lt]; exact hs
    · rw [List.getElem?_eq_none (by omega)] at h; exact absurd rfl h
  · rw [List.getElem?_set_ne (Ne.symm q)]; exact h
theorem frz_ok (s : Stp K A σ H env A1 σ1 H1 e1) (hv : RvOk K A1 σ1 H1 e1 (fun a => H a = none) r v) (q : frz e1 r = some (d, e2)) :
    ∃ A2, Stp K A σ H env A2 σ1 H1 e2 ∧ (∀ a, A1 a → A2 a) ∧ Rp K A2 H1 d v ∧
      (∀ (F : AS) (r' : Rv) (v' : V), (∀ a, F a → r.isTm = true → v ≠ .ref a) → RvOk K A1 σ1 H1 e1 F r' v' → RvOk K A2 σ1 H1 e2 F r' v') := by
  cases r with
  | sh d' =>
    cases q
    exact ⟨A1, s, fun _ z => z, hv, fun _ _ _ _ z => z⟩
  | tm d' =>
    cases q
    obtain ⟨a, e, na, no, f, ob⟩ := hv
    obtain ⟨o, eo, _⟩ := ob.some
    subst e
    refine ⟨fun x => A1 x ∨ x = a, ⟨⟨fun x z => .inl (s.ext.fr x z), fun x o e n => (s.ext.keep x o e n).imp id (Or.imp (fun z => ⟨z.1, .inl z.2.1, z.2.2⟩) id), fun x z => z.elim (s.ext.old x) fun z => ?_, s.ext.al, s.ext.tab⟩, s.rel.add no (by rw [eo]; simp), s.sub, s.io, s.rdb⟩,
      fun _ z => .inl z, (ob.mono (A1 := fun x => A1 x ∨ x = a) (fun _ z => .inl z) kp_refl fun _ z => z).rp (.inr rfl), fun F r' v' hF h => ?_⟩
    · subst z; exact .inr (.inl f)
    · cases r' with
      | sh d' => exact h.mono (fun _ z => .inl z) kp_refl
      | tm d' =>
        obtain ⟨b, e, nb, nob, fb, obb⟩ := h
        refine ⟨b, e, fun z => z.elim nb fun z => ?_, nob, fb, obb.mono (fun _ z => .inl z) kp_refl fun _ z => z⟩
        subst z
        exact hF b fb rfl rfl
      | bo j => exact h
  | bo i =>
    obtain ⟨hs, _⟩ := hv
    unfold frz at q
    dsimp only at q
    cases q0 : e1[i]? with
    | none => rw [q0] at q; cases q
    | some sl =>
      rw [q0] at q
      have go : ∀ (sl' : Sl), isOwn e1 i d → (sl' = .sh d ∨ sl' = .iz d) → (∀ d', env[i]? = some (Sl.io d') ∨ env[i]? = some (Sl.iz d') → sl' = .iz d) → e2 = e1.set i sl' → ∃ A2, Stp K A σ H env A2 σ1 H1 e2 ∧ (∀ a, A1 a → A2 a) ∧ Rp K A2 H1 d v ∧
            (∀ (F : AS) (r' : Rv) (v' : V), (∀ b, F b → (Rv.bo i).isTm = true → v ≠ .ref b) → RvOk K A1 σ1 H1 e1 F r' v' → RvOk K A2 σ1 H1 e2 F r' v') := fun sl' ho hsl hio e2e => by
        obtain ⟨a, ea, na, ob⟩ := s.rel.ow i d ho
        rw [hs] at ea; cases ea
        obtain ⟨rel2, sub2⟩ := s.rel.share ho hs hsl
        subst e2e
        have hrd : sl'.rd ≠ none := by rcases hsl with rfl | rfl <;> simp [Sl.rd]
        have lt : i < e1.length := by
          rcases ho with h | h <;> exact (List.getElem?_eq_some_iff.mp h).1
        refine ⟨fun x => A1 x ∨ x = a, ⟨⟨fun x z => .inl (s.ext.fr x z), fun x o e n => (s.ext.keep x o e n).imp id (Or.imp (fun z => ⟨z.1, .inl z.2.1, z.2.2⟩) id), fun x z => z.elim (s.ext.old x) fun z => ?_, s.ext.al, s.ext.tab⟩, rel2, fun x z => s.sub x (sub2 x z).1, fun j d' hj => ?_, fun j z => rdAt_set hrd (s.rdb j z)⟩,
          fun _ z => .inl z, (ob.mono (A1 := fun x => A1 x ∨ x = a) (fun _ z => .inl z) kp_refl fun _ z => z).rp (.inr rfl), fun F r' v' hF h => ?_⟩
        · subst z
          exact .inr ((s.sub x ⟨i, ⟨d, ho⟩, hs⟩).symm)
        · obtain ⟨q1, d1, q2⟩ := s.io j d' hj
          refine ⟨q1, ?_⟩
          by_cases ji : j = i
          · subst ji
            rw [List.getElem?_set_self lt, hio d' hj]
            exact ⟨d, .inr rfl⟩
          · rw [List.getElem?_set_ne (Ne.symm ji)]
            exact ⟨d1, q2⟩
        · cases r' with
          | sh d' => exact h.mono (fun _ z => .inl z) kp_refl
          | tm d' =>
            obtain ⟨b, e, nb, nob, fb, obb⟩ := h
            refine ⟨b, e, fun z => z.elim nb fun z => ?_, fun z => nob (sub2 b z).1, fb, obb.mono (fun _ z => .inl z) kp_refl fun _ z => z⟩
            subst z
            exact nob ⟨i, ⟨d, ho⟩, hs⟩
          | bo j => exact ⟨h.1, rdAt_set hrd h.2⟩
      cases sl with
      | un => cases q
      | sh d' =>
        cases q
        obtain ⟨w, e, rp⟩ := s.rel.sh i d (.inl q0)
        rw [hs] at e; cases e
        exact ⟨A1, s, fun _ z => z, rp, fun _ _ _ _ z => z⟩
      | iz d' =>
        cases q
        obtain ⟨w, e, rp⟩ := s.rel.sh i d (.inr q0)
        rw [hs] at e; cases e
        exact ⟨A1, s, fun _ z => z, rp, fun _ _ _ _ z => z⟩
      | ow d' =>
        cases q
        have ho : isOwn e1 i d := .inl q0
        obtain ⟨a, ea, _⟩ := s.rel.ow i d ho
        rw [hs] at ea; cases ea
        exact go (.sh d) ho (.inl rfl) (fun d' hj => by
          obtain ⟨_, d1, q2⟩ := s.io i d' hj
          rw [q0] at q2
          rcases q2 with q2 | q2 <;> cases q2) rfl
      | io d' =>
        cases q
        have ho : isOwn e1 i d := .inr q0
        obtain ⟨a, ea, _⟩ := s.rel.ow i d ho
        rw [hs] at ea; cases ea
        exact go (.iz d) ho (.inr rfl) (fun _ _ => rfl) rfl
def frzAll : En → List Rv → Option (List D × En)
  | e, [] => some ([], e)
  | e, r :: rs => match frz e r with
    | some (d, e2) => (match frzAll e2 rs with
      | some (ds, e3) => some (d :: ds, e3)
      | none => none)
    | none => none
theorem RvsOk.keep {A1 A2 : AS} {F : AS} (hk : ∀ (F' : AS) (r' : Rv) (v' : V), (∀ a, F' a → F a) → RvOk K A1 σ1 H1 e1 F' r' v' → RvOk K A2 σ1 H1 e2 F' r' v') : ∀ {F' : AS} {rs : List Rv} {vs : List V}, (∀ a, F' a → F a) → RvsOk K A1 σ1 H1 e1 F' rs vs → RvsOk K A2 σ1 H1 e2 F' rs vs
  | _, [], _, _, h => h
  | _, _ :: _, _, i, h => by
    obtain ⟨v, t, e, h1, h2⟩ := h
    exact ⟨v, t, e, hk _ _ _ i h1, h2.keep hk fun a z => i a z.1⟩
theorem frzAll_ok : ∀ {rs : List Rv} {vs : List V} {ds : List D} {A1 : AS} {e1 e2 : En} {F : AS}, Stp K A σ H env A1 σ1 H1 e1 → (∀ a, F a → H a = none) → RvsOk K A1 σ1 H1 e1 F rs vs → frzAll e1 rs = some (ds, e2) →
    ∃ A2, Stp K A σ H env A2 σ1 H1 e2 ∧ (∀ a, A1 a → A2 a) ∧ RpL K A2 H1 ds vs
  | [], vs, ds, A1, e1, e2, F, s, hF, h, q => by
    cases q
    have : vs = [] := h
    subst this
    exact ⟨A1, s, fun _ z => z, .nil⟩
  | r :: rs, vs, ds, A1, e1, e2, F, s, hF, h, q => by
    obtain ⟨v, t, rfl, h1, h2⟩ := h
    unfold frzAll at q
    cases q1 : frz e1 r with
    | none => rw [q1] at q; cases q
    | some p =>
      obtain ⟨d, e3⟩ := p
      rw [q1] at q
      dsimp only at q
      cases q2 : frzAll e3 rs with
      | none => rw [q2] at q; cases q
      | some p =>
        obtain ⟨ds', e4⟩ := p
        rw [q2] at q
        cases q
        obtain ⟨A2, s2, f2, rp, k⟩ := frz_ok s (h1.weak fun a _ _ z => hF a z) q1
        have h2' : RvsOk K A2 σ1 H1 e3 (fun a => F a ∧ (r.isTm = true → v ≠ .ref a)) rs t := h2.keep (F := fun a => F a ∧ (r.isTm = true → v ≠ .ref a)) (fun F' r' v' i z => k F' r' v' (fun a fa it => (i a fa).2 it) z) fun _ z => z
        obtain ⟨A3, s3, f3, rpl⟩ := frzAll_ok s2 (fun a z => hF a z.1) h2' q2
        exact ⟨A3, s3, fun a z => f3 a (f2 a z), .cons (rp.mono f3 kp_refl) rpl⟩
end

/-! ### displays -/
def tupF (fs : AF) : EF := fun env => (fs env).bind fun rs e => match frzAll e rs with
  | some (ds, e2) => if ds.length ≤ LIM then .ok (.sh (.tuple ds)) e2 else .no
  | none => .no
def lstF (fs : AF) : EF := fun env => (fs env).bind fun rs e => match frzAll e rs with
  | some (ds, e2) => if ds.length ≤ LIM then .ok (.tm (.list ds)) e2 else .no
  | none => .no
theorem Post.cut {α β : Type} {G : Gd} {A : AS} {σ : L2.St} {H : Hp} {env : En} {out : Rs α} {k : α → En → Rs β} {P : β → En → AS → Hp → Prop} {P1 : α → En → AS → Hp → Prop} (h : Post G A σ H env (out.bind k) P)
    (i : ∀ a e A' H', Stp G.K A σ H env A' σ H' e → Post G A σ H env (k a e) P → P1 a e A' H') : Post G A σ H env out P1 := by
  cases out with
  | ok a e => exact fun A1 H1 s1 => i a e A1 H1 s1 h
  | ex x e => exact h
  | no => exact h
section
variable {X : Cx} {W : WX} {es : List Expr} {fs : AF} {pos : Pos}
theorem e_tup {x1} (h : PA X es (tA (gd X W) fs)) : PE X (.Tuple es x1 pos) (tE (gd X W) (tupF fs)) := PE.imp (pe_tup h) fun σ H Q h => by
  obtain ⟨A, env, rel, h⟩ := h
  refine ⟨A, env, rel, Post.cut h fun rs e1 A1 H1 s1 h1 vs hvs => ?_⟩
  cases q : frzAll e1 rs with
  | none => rw [q] at h1; exact h1.elim
  | some p =>
    obtain ⟨ds, e2⟩ := p
    rw [q] at h1
    dsimp only at h1
    obtain ⟨A2, s2, f2, rpl⟩ := frzAll_ok s1 (fun _ z => z) hvs q
    split at h1
    · rename_i c
      refine ⟨by rw [← rpl.length]; exact le_line c, fun p n => ?_⟩
      have st := Stp.same s2.rel (same_upd (o := .tup vs) n)
      exact h1 A2 _ (s2.trans st) (.ref p) (rp_tup n rpl)
    · exact h1.elim
theorem e_lst (h : PA X es (tA (gd X W) fs)) : PE X (.List es pos) (tE (gd X W) (lstF fs)) := PE.imp (pe_lst h) fun σ H Q h => by
  obtain ⟨A, env, rel, h⟩ := h
  refine ⟨A, env, rel, Post.cut h fun rs e1 A1 H1 s1 h1 vs hvs => ?_⟩
  cases q : frzAll e1 rs with
  | none => rw [q] at h1; exact h1.elim
  | some p =>
    obtain ⟨ds, e2⟩ := p
    rw [q] at h1
    dsimp only at h1
    obtain ⟨A2, s2, f2, rpl⟩ := frzAll_ok s1 (fun _ z => z) hvs q
    split at h1
    · rename_i c
      refine ⟨by rw [← rpl.length]; exact le_line c, fun p n => ?_⟩
      have st := Stp.same s2.rel (same_upd (o := .lst vs) n)
      exact h1 A2 _ (s2.trans st) (.ref p) ((rz_lst n rpl).rv s2)
    · exact h1.elim
end
end VL


set_option Elab.async false
set_option linter.all false
set_option maxRecDepth 100000
set_option maxHeartbeats 2000000
namespace VL
open PySem PySem.Spec PyProof.Rows L2
variable [TbP]

/-! ### equality, order, membership -/
def eqG : G2 := fun x y => if SeqAt.shaped x && SeqAt.shaped y then some (.sh (.bool (PyData.eqv x y))) else none
def neG : G2 := fun x y => if SeqAt.shaped x && SeqAt.shaped y then some (.sh (.bool (!PyData.eqv x y))) else none
theorem shaped_lay {d : D} (h : SeqAt.shaped d = true) : d.canLay0 = true := SeqAt.canLay_of_shaped h
theorem eq_A {K : Frag} : OpA K (rEqD K) eqG := by
  intro A H x y vx vy z Q hd e hx hy q
  unfold eqG at e
  by_cases c : (SeqAt.shaped x && SeqAt.shaped y) = true
  · rw [if_pos c] at e
    cases e
    rw [Bool.and_eq_true] at c
    exact ⟨x, y, hx.dp (shaped_lay c.1), hy.dp (shaped_lay c.2), c.1, c.2, q _ _ (Same.refl H) rz_bl⟩
  · rw [if_neg c] at e; cases e
theorem ne_A {K : Frag} : OpA K (rNeD K) neG := by
  intro A H x y vx vy z Q hd e hx hy q
  unfold neG at e
  by_cases c : (SeqAt.shaped x && SeqAt.shaped y) = true
  · rw [if_pos c] at e
    cases e
    rw [Bool.and_eq_true] at c
    exact ⟨x, y, hx.dp (shaped_lay c.1), hy.dp (shaped_lay c.2), c.1, c.2, q _ _ (Same.refl H) rz_bl⟩
  · rw [if_neg c] at e; cases e
theorem room64 {k : Nat} {A : Around} (h : Room k A) : A.units + 64 < cLine := by have := h.un; omega
theorem room65 {k : Nat} {A : Around} (h : Room k A) : A.units + 65 < cLine := by have := h.un; omega
theorem room1 {k : Nat} {A : Around} (h : Room k A) : A.units + 1 < cLine := by have := h.un; omega
def strLtG : G2
  | .str x, .str y => some (.sh (.bool (decide (x.cps.toList < y.cps.toList))))
  | _, _ => none
theorem strLt_A {K : Frag} : OpA K (fun x y H Q => ∃ i j, x = .str i ∧ y = .str j ∧ Q (.bl (decide (i.cps.toList < j.cps.toList))) H) strLtG := by
  intro A H x y vx vy z Q hd e hx hy q
  cases x <;> try (cases e; done)
  cases y <;> try (cases e; done)
  rename_i i j
  cases e
  have e1 := hx.str
  have e2 := hy.str
  subst e1 e2
  exact ⟨i, j, rfl, rfl, q _ _ (Same.refl H) rz_bl⟩
def ltG : G2 := orG (intG (fun _ _ => true) fun i j => .bool (decide (i < j))) strLtG
def leG : G2 := intG (fun _ _ => true) fun i j => .bool (decide (i ≤ j))
def gtG : G2 := intG (fun _ _ => true) fun i j => .bool (decide (j < i))
def geG : G2 := intG (fun _ _ => true) fun i j => .bool (decide (j ≤ i))
theorem cmpI_A {K : Frag} {p : Int → Int → Bool} : OpA K (rI0 fun i j => .bl (p i j)) (intG (fun _ _ => true) fun i j => .bool (p i j)) := int_A0 fun A H _ _ => rp_bl (K := K) (A := A) (H := H)
/-- is, of None and of truths -/
def isG (n : Bool) : G2
  | .none, .none => some (.sh (.bool (!n)))
  | .bool _, .none => some (.sh (.bool n))
  | .int _, .none => some (.sh (.bool n))
  | .str _, .none => some (.sh (.bool n))
  | .list _, .none => some (.sh (.bool n))
  | .tuple _, .none => some (.sh (.bool n))
  | .dict _, .none => some (.sh (.bool n))
  | .bool a, .bool b => some (.sh (.bool (if n then !decide (a = b) else decide (a = b))))
  | _, _ => none
theorem not_non {K : Frag} {A : AS} {H : Hp} {d : D} {v : V} (h : Rq K A H d v) (hd : d ≠ .none) : decide (v = .non) = false := by
  refine decide_eq_false fun e => ?_
  subst e
  cases d with
  | none => exact hd rfl
  | bool b => have := h.bl; cases this
  | int b => have := h.int; cases this
  | str b => have := h.str; cases this
  | list b => obtain ⟨_, _, e, _⟩ := h.lst; cases e
  | tuple b => obtain ⟨_, _, e, _⟩ := h.tup; cases e
  | dict b => obtain ⟨_, e, _⟩ := h.dct; cases e
abbrev rIsN : R2 := fun x y H Q => y = .non ∧ Q (.bl (decide (x = .non))) H
abbrev rNotN : R2 := fun x y H Q => y = .non ∧ Q (.bl (!decide (x = .non))) H
abbrev rIsT : R2 := fun x y H Q => ∃ a b, x = .bl a ∧ y = .bl b ∧ Q (.bl (decide (a = b))) H
abbrev rIsnT : R2 := fun x y H Q => ∃ a b, x = .bl a ∧ y = .bl b ∧ Q (.bl (!decide (a = b))) H
theorem is_A {K : Frag} : OpA K (fun x y H Q => rIsN x y H Q ∨ rIsT x y H Q) (isG false) := by
  intro A H x y vx vy z Q hd e hx hy q
  cases y with
  | none =>
    refine .inl ⟨hy.non, ?_⟩
    cases x with
    | none =>
      cases e
      rw [hx.non]
      exact q _ _ (Same.refl H) rz_bl
    | _ =>
      rw [not_non hx (by intro z; cases z)]
      cases e
      exact q _ _ (Same.refl H) rz_bl
  | bool b =>
    cases x with
    | bool a =>
      cases e
      exact .inr ⟨a, b, hx.bl, hy.bl, q _ _ (Same.refl H) rz_bl⟩
    | _ => cases e
  | _ => cases x <;> cases e
theorem isn_A {K : Frag} : OpA K (fun x y H Q => rNotN x y H Q ∨ rIsnT x y H Q) (isG true) := by
  intro A H x y vx vy z Q hd e hx hy q
  cases y with
  | none =>
    refine .inl ⟨hy.non, ?_⟩
    cases x with
    | none =>
      cases e
      rw [hx.non]
      exact q _ _ (Same.refl H) rz_bl
    | _ =>
      rw [not_non hx (by intro z; cases z)]
      cases e
      exact q _ _ (Same.refl H) rz_bl
  | bool b =>
    cases x with
    | bool a =>
      cases e
      exact .inr ⟨a, b, hx.bl, hy.bl, q _ _ (Same.refl H) rz_bl⟩
    | _ => cases e
  | _ => cases x <;> cases e

/-! in -/
def inStr (x y : Str) : Bool := !(Builtin.Str.occurrences y x 0 y.length 1).isEmpty
def inStrG (n : Bool) : G2
  | .str x, .str y => some (.sh (.bool (if n then !inStr x y else inStr x y)))
  | _, _ => none
def inSeqG (n : Bool) : G2
  | x, .list ds => if SeqAt.shaped x && SeqAt.shaped (.list ds) then some (.sh (.bool (if n then !ds.any fun z => PyData.eqv z x else ds.any fun z => PyData.eqv z x))) else none
  | x, .tuple ds => if SeqAt.shaped x && SeqAt.shaped (.tuple ds) then some (.sh (.bool (if n then !ds.any fun z => PyData.eqv z x else ds.any fun z => PyData.eqv z x))) else none
  | _, _ => none
def rInS (K : Frag) (n : Bool) : R2 := fun x y H Q => ∃ d ds, Dp K H x d ∧ (Dp K H y (.list ds) ∨ Dp K H y (.tuple ds)) ∧ SeqAt.shaped d = true ∧ SeqAt.shaped (.list ds) = true ∧
  Q (.bl (if n then !ds.any fun z => PyData.eqv z d else ds.any fun z => PyData.eqv z d)) H
theorem shaped_lt {ds : List D} (h : SeqAt.shaped (.tuple ds) = true) : SeqAt.shaped (.list ds) = true := by
  simpa [SeqAt.shaped, PyData.canLay0, PyData.depth] using h
theorem room_in {X : Cx} {d : D} {ds : List D} (sd : SeqAt.shaped d = true) (hu : X.A.units + 65 < cLine) : X.A.units + 1 + min (PyData.depthAll ds) d.depth < cLine := by
  have h1 := SeqAt.depth_of_shaped sd
  have h2 : min (PyData.depthAll ds) d.depth ≤ d.depth := Nat.min_le_right _ _
  omega
section
variable {X : Cx}
theorem op_inS (hu : X.A.units + 65 < cLine) : OpR X (compareOp .In) (rInS X.K false) := by
  intro pins s σ H x y v u Q I rx ry h
  obtain ⟨d, ds, hd, he, sd, se, q⟩ := h
  obtain ⟨as, r1⟩ := Dp.reads I d x v hd rx
  rcases he with he | he
  · obtain ⟨bs, r2⟩ := Dp.reads I (.list ds) y u he ry
    exact SeqAt.in_list_reads r2 r1 (by simpa [PyData.canLay0] using shaped_lay se) (shaped_lay sd) (room_in sd hu) ⟨.bl _, H, I, rfl, q⟩
  · obtain ⟨bs, r2⟩ := Dp.reads I (.tuple ds) y u he ry
    exact SeqAt.in_tuple_reads r2 r1 (by simpa [PyData.canLay0] using shaped_lay se) (shaped_lay sd) (room_in sd hu) ⟨.bl _, H, I, rfl, q⟩
theorem op_notInS (hu : X.A.units + 65 < cLine) : OpR X (compareOp .NotIn) (rInS X.K true) := by
  intro pins s σ H x y v u Q I rx ry h
  obtain ⟨d, ds, hd, he, sd, se, q⟩ := h
  obtain ⟨as, r1⟩ := Dp.reads I d x v hd rx
  rcases he with he | he
  · obtain ⟨bs, r2⟩ := Dp.reads I (.list ds) y u he ry
    exact SeqAt.notIn_list_reads r2 r1 (by simpa [PyData.canLay0] using shaped_lay se) (shaped_lay sd) (room_in sd hu) ⟨.bl _, H, I, rfl, q⟩
  · obtain ⟨bs, r2⟩ := Dp.reads I (.tuple ds) y u he ry
    exact SeqAt.notIn_tuple_reads r2 r1 (by simpa [PyData.canLay0] using shaped_lay se) (shaped_lay sd) (room_in sd hu) ⟨.bl _, H, I, rfl, q⟩
end
theorem inSeq_A {K : Frag} {n : Bool} : OpA K (rInS K n) (inSeqG n) := by
  intro A H x y vx vy z Q hd e hx hy q
  cases y with
  | list ds =>
    simp only [inSeqG] at e
    by_cases c : (SeqAt.shaped x && SeqAt.shaped (.list ds)) = true
    · rw [if_pos c] at e
      cases e
      rw [Bool.and_eq_true] at c
      exact ⟨x, ds, hx.dp (shaped_lay c.1), .inl (hy.dp (shaped_lay c.2)), c.1, c.2, q _ _ (Same.refl H) rz_bl⟩
    · rw [if_neg c] at e; cases e
  | tuple ds =>
    simp only [inSeqG] at e
    by_cases c : (SeqAt.shaped x && SeqAt.shaped (.tuple ds)) = true
    · rw [if_pos c] at e
      cases e
      rw [Bool.and_eq_true] at c
      exact ⟨x, ds, hx.dp (shaped_lay c.1), .inr (hy.dp (shaped_lay c.2)), c.1, shaped_lt c.2, q _ _ (Same.refl H) rz_bl⟩
    · rw [if_neg c] at e; cases e
  | _ => cases x <;> cases e
theorem inStr_A {K : Frag} : OpA K (fun x y H Q => ∃ i j, x = .str i ∧ y = .str j ∧ Q (.bl (!(Builtin.Str.occurrences j i 0 j.length 1).isEmpty)) H) (inStrG false) := by
  intro A H x y vx vy z Q hd e hx hy q
  cases x <;> try (cases e; done)
  cases y <;> try (cases e; done)
  rename_i i j
  cases e
  exact ⟨i, j, hx.str, hy.str, q _ _ (Same.refl H) rz_bl⟩
theorem notInStr_A {K : Frag} : OpA K (fun x y H Q => ∃ i j, x = .str i ∧ y = .str j ∧ Q (.bl (!(!(Builtin.Str.occurrences j i 0 j.length 1).isEmpty))) H) (inStrG true) := by
  intro A H x y vx vy z Q hd e hx hy q
  cases x <;> try (cases e; done)
  cases y <;> try (cases e; done)
  rename_i i j
  cases e
  exact ⟨i, j, hx.str, hy.str, q _ _ (Same.refl H) rz_bl⟩
/-! dicts -/
/-- a key as data -/
def key1 : D → Option Key
  | PyData.int i => some (Sum.inl i)
  | PyData.str x => some (Sum.inr x)
  | _ => none
def keysOf : List D → Option (List Key)
  | [] => some []
  | d :: ds => match key1 d, keysOf ds with
    | some k, some ks => some (k :: ks)
    | _, _ => none
def isKey1 (d : D) : Bool := (key1 d).isSome
def isKeyT : D → Bool
  | .tuple ds => (keysOf ds).isSome
  | _ => false
theorem key1_spec {d : D} {k : Key} (h : key1 d = some k) : d = keyD k := by
  cases d <;> simp [key1] at h <;> subst h <;> rfl
theorem keysOf_spec : ∀ {ds : List D} {ks : List Key}, keysOf ds = some ks → ds = ks.map keyD
  | [], _, h => by cases h; rfl
  | d :: ds, ks, h => by
    unfold keysOf at h
    cases h1 : key1 d with
    | none => rw [h1] at h; simp at h
    | some k =>
      cases h2 : keysOf ds with
      | none => rw [h1, h2] at h; simp at h
      | some r =>
        rw [h1, h2] at h
        cases h
        rw [List.map_cons, ← key1_spec h1, ← keysOf_spec h2]
theorem rp_key {K : Frag} {A : AS} {H : Hp} {k : Key} {v : V} (h : Rp K A H (keyD k) v) : v = kV k := by
  cases k with
  | inl i => exact (show v = V.int i from h)
  | inr i => exact (show v = V.str i from h)
theorem rpl_keys {K : Frag} {A : AS} {H : Hp} : ∀ {ks : List Key} {vs : List V}, RpL K A H (ks.map keyD) vs → vs = ks.map kV
  | [], _, h => h.inv_nil
  | k :: ks, _, h => by
    obtain ⟨v, r, e, h1, h2⟩ := h.inv_cons
    rw [e, rp_key h1, rpl_keys h2]; rfl
theorem key_rp {K : Frag} {A : AS} {H : Hp} {k : Key} : Rp K A H (keyD k) (kV k) := by
  cases k with
  | inl i => exact rp_int (K := K) (A := A) (H := H)
  | inr i => exact rp_str (K := K) (A := A) (H := H)
theorem eqv_key (a b : Key) : PyData.eqv (keyD a) (keyD b) = decide (a = b) := by
  cases a <;> cases b <;> simp [keyD, PyData.eqv] <;> exact Bool.beq_eq_decide_eq _ _
theorem eqv_keys : ∀ a b : List Key, PyData.eqvAll (a.map keyD) (b.map keyD) = decide (a = b)
  | [], [] => by simp [PyData.eqvAll]
  | [], _ :: _ => by simp [PyData.eqvAll]
  | _ :: _, [] => by simp [PyData.eqvAll]
  | x :: a, y :: b => by
    simp only [List.map_cons, PyData.eqvAll, eqv_key, eqv_keys a b, List.cons.injEq]
    by_cases h1 : x = y <;> by_cases h2 : a = b <;> simp [h1, h2]
def dfind (kvs : List (D × D)) (k : D) : Option D := match kvs with
  | [] => none
  | (x, d) :: r => if PyData.eqv x k then some d else dfind r k
/-- what is told of an optional value -/
def RpO (K : Frag) (A : AS) (H : Hp) : Option D → Option V → Prop
  | some d, some v => Rp K A H d v
  | none, none => True
  | _, _ => False
theorem RpK.find {K : Frag} {A : AS} {H : Hp} {k : Key} : ∀ {kvs : List (D × D)} {ks : List (Key × V)}, RpK K A H kvs ks → RpO K A H (dfind kvs (keyD k)) (valV ks k)
  | [], _, h => by
    simp only [RpK] at h; subst h
    exact trivial
  | (x, d) :: r, _, h => by
    simp only [RpK] at h
    obtain ⟨k', v, r', rfl, rfl, h1, h2⟩ := h
    unfold dfind
    by_cases e : k' = k
    · rw [valV_pos (p := (k', v)) e, eqv_key, if_pos (decide_eq_true e)]
      exact h1
    · rw [valV_neg (p := (k', v)) e, eqv_key, if_neg (by simpa using e)]
      exact RpK.find h2
theorem RpT.find {K : Frag} {A : AS} {H : Hp} {k : List Key} : ∀ {kvs : List (D × D)} {ks : List (List Key × V)}, RpT K A H kvs ks → RpO K A H (dfind kvs (.tuple (k.map keyD))) (valV ks k)
  | [], _, h => by
    simp only [RpT] at h; subst h
    exact trivial
  | (x, d) :: r, _, h => by
    simp only [RpT] at h
    obtain ⟨k', v, r', rfl, rfl, h1, h2⟩ := h
    unfold dfind
    have e0 : PyData.eqv (.tuple (k'.map keyD)) (.tuple (k.map keyD)) = decide (k' = k) := by rw [PyData.eqv, eqv_keys]
    by_cases e : k' = k
    · rw [valV_pos (p := (k', v)) e, e0, if_pos (decide_eq_true e)]
      exact h1
    · rw [valV_neg (p := (k', v)) e, e0, if_neg (by simpa using e)]
      exact RpT.find h2
theorem RpT0.find {K : Frag} {A : AS} {H : Hp} {k : List Key} : ∀ {kvs : List (D × D)} {ks : List (List Key × V)}, RpT0 K A H kvs ks → RpO K A H (dfind kvs (.tuple (k.map keyD))) (valV ks k)
  | [], _, h => by simp only [RpT0] at h
  | (x, d) :: r, ks, h => by
    simp only [RpT0] at h
    obtain ⟨rfl, h⟩ := h
    unfold dfind
    rw [show PyData.eqv PyData.none (.tuple (k.map keyD)) = false from by simp only [PyData.eqv], if_neg Bool.false_ne_true]
    exact RpT.find h
/-- what the dict at a holds at the key y (a tuple: tracked or written) -/
def DGetS (K : Frag) (H : Hp) (a : Addr) (y : V) (r : Option V) : Prop :=
  (∃ kvs k, Rd H a (.dK kvs) ∧ y = kV k ∧ r = valV kvs k) ∨ ∃ kvs k b, Rd H a (.dT kvs) ∧ y = .ref b ∧ SqT K H b (k.map kV) ∧ r = valV kvs k
section
variable {X : Cx} {pins : List (Addr × Obj)} {σ : L2.St} {H : Hp} {s : Shared} {a : Addr} {y v : V} {u r : Value} {o : Option V} {A : Around} {E : Value → Shared → Prop}
theorem key_ofS {ks : List Key} {b : Addr} (I : Inv X pins σ H s) (e : SqT X.K H b (ks.map kV)) : (tupleKind (mixKind X.prog X.w)).is s.heap ks b := by
  obtain ⟨its, r, ⟨ob, h1, h2, n, h3⟩, _⟩ := I.tuple e
  exact ⟨ob, its.toArray, n, h1, h2, h3, by simpa using items_are r⟩
theorem dS_getItem {Q : Value → Shared → Prop} (hu : A.units + 1 < cLine) (I : Inv X pins σ H s) (g : DGetS X.K H a y (some v)) (ry : RelV y u) (h : ∀ w' s', Inv X pins σ H s' → RelV v w' → Q w' s') :
    wpAny (model X.prog X.w) A (getItem (.ref a) u) Q E s := by
  rcases g with ⟨kvs, k, e, ey, l⟩ | ⟨kvs, k, b, e, ey, eb, l⟩
  · exact d_getItem hu I (.inl ⟨kvs, k, e, ey, l⟩) ry h
  · subst ey
    cases (show u = Value.ref b from ry)
    obtain ⟨z, hd, xs, rel, dd⟩ := dt_rd I.hok e
    obtain ⟨w', hw, rw'⟩ := RelO.some_of (v := v) (o := (atKey xs k).map (·.2)) (by rw [l]; exact rel.val k)
    obtain ⟨p, hp, hp2⟩ := Option.map_eq_some_iff.mp hw
    refine wpAny_getItem_heap (tupleKind_room_in1 hu) (key_ofS I eb) dd hp ?_
    rw [hp2]
    exact h w' _ (I.tok _) rw'
theorem dS_in {Q : Value → Shared → Prop} (hu : A.units + 1 < cLine) (I : Inv X pins σ H s) (g : DGetS X.K H a y o) (ry : RelV y u) (h : ∀ s', Inv X pins σ H s' → Q (.bool o.isSome) s') :
    wpAny (model X.prog X.w) A (compareOp .In u (.ref a)) Q E s := by
  rcases g with ⟨kvs, k, e, ey, l⟩ | ⟨kvs, k, b, e, ey, eb, l⟩
  · exact d_in hu I (.inl ⟨kvs, k, e, ey, l⟩) ry h
  · subst ey
    cases (show u = Value.ref b from ry)
    obtain ⟨z, hd, xs, rel, dd⟩ := dt_rd I.hok e
    refine wpAny_in_heap (tupleKind_room_in1 hu) (key_ofS I eb) hd dd ?_
    have q := (rel.val k).isSome_eq
    rw [Option.isSome_map] at q
    rw [← q, ← l]
    exact h _ (I.tok _)
theorem dS_notIn {Q : Value → Shared → Prop} (hu : A.units + 1 < cLine) (I : Inv X pins σ H s) (g : DGetS X.K H a y o) (ry : RelV y u) (h : ∀ s', Inv X pins σ H s' → Q (.bool (!o.isSome)) s') :
    wpAny (model X.prog X.w) A (compareOp .NotIn u (.ref a)) Q E s := by
  rcases g with ⟨kvs, k, e, ey, l⟩ | ⟨kvs, k, b, e, ey, eb, l⟩
  · exact d_notIn hu I (.inl ⟨kvs, k, e, ey, l⟩) ry h
  · subst ey
    cases (show u = Value.ref b from ry)
    obtain ⟨z, hd, xs, rel, dd⟩ := dt_rd I.hok e
    refine wpAny_notIn_heap (tupleKind_room_in1 hu) (key_ofS I eb) hd dd ?_
    have q := (rel.val k).isSome_eq
    rw [Option.isSome_map] at q
    rw [← q, ← l]
    exact h _ (I.tok _)
end
def rDIn (K : Frag) (n : Bool) : R2 := fun x y H Q => ∃ a o, y = .ref a ∧ DGetS K H a x o ∧ Q (.bl (if n then !o.isSome else o.isSome)) H
section
variable {X : Cx}
theorem op_dIn (hu : X.A.units + 1 < cLine) : OpR X (compareOp .In) (rDIn X.K false) := by
  intro pins s σ H x y v u Q I rx ry h
  obtain ⟨a, o, rfl, g, q⟩ := h
  cases ry
  exact dS_in hu I g rx fun s' I' => ⟨.bl _, H, I', rfl, q⟩
theorem op_dNotIn (hu : X.A.units + 1 < cLine) : OpR X (compareOp .NotIn) (rDIn X.K true) := by
  intro pins s σ H x y v u Q I rx ry h
  obtain ⟨a, o, rfl, g, q⟩ := h
  cases ry
  exact dS_notIn hu I g rx fun s' I' => ⟨.bl _, H, I', rfl, q⟩
end
/-- the dict's kind: its keys are all tuples, or none is -/
def kindT : List (D × D) → Bool
  | (PyData.none, _) :: _ => true
  | _ => false
def inDctG (n : Bool) : G2
  | x, .dict kvs => if (isKey1 x && !kindT kvs) || (isKeyT x && kindT kvs) then some (.sh (.bool (if n then !(dfind kvs x).isSome else (dfind kvs x).isSome))) else none
  | _, _ => none
theorem RpO.isSome {K : Frag} {A : AS} {H : Hp} {o : Option D} {v : Option V} (h : RpO K A H o v) : o.isSome = v.isSome := by
  cases o <;> cases v <;> first | rfl | exact h.elim
/-- a look-up by data is one by values -/
theorem dget_of {K : Frag} {A : AS} {H : Hp} {kvs : List (D × D)} {x : D} {vx vy : V} (c : ((isKey1 x && !kindT kvs) || (isKeyT x && kindT kvs)) = true) (hx : Rq K A H x vx) (hy : Rq K A H (.dict kvs) vy) :
    ∃ a o, vy = .ref a ∧ DGetS K H a vx o ∧ RpO K A H (dfind kvs x) o := by
  obtain ⟨a, ev, hy2⟩ := hy.dct
  subst ev
  have kt : ∀ ks, RpT0 K A H kvs ks → kindT kvs = true := fun ks h => by
    cases kvs with
    | nil => simp only [RpT0] at h
    | cons p q =>
      obtain ⟨p1, p2⟩ := p
      simp only [RpT0] at h
      obtain ⟨rfl, _⟩ := h
      rfl
  have kk : ∀ ks, RpK K A H kvs ks → kindT kvs = false := fun ks h => by
    cases kvs with
    | nil => rfl
    | cons p q =>
      obtain ⟨p1, p2⟩ := p
      simp only [RpK] at h
      obtain ⟨k', _, _, _, rfl, _⟩ := h
      cases k' <;> rfl
  rw [Bool.or_eq_true, Bool.and_eq_true, Bool.and_eq_true] at c
  rcases c with ⟨c1, c2⟩ | ⟨c1, c2⟩
  · obtain ⟨k, hk⟩ := Option.isSome_iff_exists.mp c1
    have e := key1_spec hk
    subst e
    have ev : vx = kV k := by
      cases k with
      | inl i => exact hx.int
      | inr z => exact hx.str
    subst ev
    rcases hy2 with ⟨ks, r, h⟩ | ⟨ks, r, h⟩
    · exact ⟨a, _, rfl, .inl ⟨ks, k, r, rfl, rfl⟩, h.find⟩
    · rw [kt ks h] at c2; cases c2
  · cases x with
    | tuple ds =>
      obtain ⟨k, hk⟩ := Option.isSome_iff_exists.mp (show (keysOf ds).isSome = true from c1)
      have e := keysOf_spec hk
      subst e
      obtain ⟨b, vs, rfl, sq, rl⟩ := hx.tup
      have ev := rpl_keys rl
      subst ev
      rcases hy2 with ⟨ks, r, h⟩ | ⟨ks, r, h⟩
      · rw [kk ks h] at c2; cases c2
      · exact ⟨a, _, rfl, .inr ⟨ks, k, b, r, rfl, sq, rfl⟩, h.find⟩
    | _ => cases c1
theorem inDct_A {K : Frag} {n : Bool} : OpA K (rDIn K n) (inDctG n) := by
  intro A H x y vx vy z Q hd e hx hy q
  cases y with
  | dict kvs =>
    simp only [inDctG] at e
    by_cases c : ((isKey1 x && !kindT kvs) || (isKeyT x && kindT kvs)) = true
    · rw [if_pos c] at e
      cases e
      obtain ⟨a, o, ea, g, ro⟩ := dget_of c hx hy
      rw [ro.isSome] at q
      exact ⟨a, o, ea, g, q _ _ (Same.refl H) rz_bl⟩
    · rw [if_neg c] at e; cases e
  | _ => cases x <;> cases e
def inG (n : Bool) : G2 := orG (inSeqG n) (orG (inStrG n) (inDctG n))

/-! ### comparisons as values, as tests -/
def boolF (f : EF) : TF := fun env => (f env).bind fun r e => match rd e r with
  | some (.bool b) => .ok b e
  | _ => .no
theorem boolF_sound {G : Gd} {f : EF} {σ : L2.St} {H : Hp} {Q : Bool → Hp → Prop} (h : tT G (boolF f) σ H Q) : tE G f σ H fun x H' => ∃ k, x = .bl k ∧ Q k H' := by
  obtain ⟨A, env, rel, h⟩ := h
  refine ⟨A, env, rel, (Post.bind h).imp fun r e A' H' s h1 v hv => ?_⟩
  cases q : rd e r with
  | none => rw [q] at h1; exact h1.elim
  | some d =>
    rw [q] at h1
    cases d with
    | bool b => exact ⟨b, (hv.rq s.rel q).bl, h1 A' H' (.refl s.rel)⟩
    | _ => exact h1.elim
section
variable {X : Cx} {W : WX} {a b c : Expr} {fa fb fc : EF} {pos : Pos} {r r' : R2} {g g' : G2}
theorem t_cmp {op : CmpOp} (ho : OpR X (compareOp op) r) (hA : OpA X.K r g) (ha : PE X a (tE (gd X W) fa)) (hb : PE X b (tE (gd X W) fb)) (hm : behindInMarks op b = false) : PT X (.Compare a [op] [b] pos) (tT (gd X W) (boolF (opF g fa fb))) :=
  PT.imp (pt_cmpR ho ha hb hm) fun _ _ _ h => opF_sound (G := gd X W) hA (boolF_sound h)
/-- a op b op' c: c is asked only where the first holds -/
def chF (g g' : G2) (fa fb fc : EF) : EF := fun env => (fa env).bind fun r1 e1 => (fb e1).bind fun r2 e2 => match rd e2 r1, rd e2 r2 with
  | some x, some y => (match g x y with
    | some (.sh (.bool true)) => (fc e2).bind fun r3 e3 => (match rd e3 r2, rd e3 r3 with
      | some y', some z => out1 (g' y' z) e3
      | _, _ => .no)
    | some (.sh (.bool false)) => .ok (.sh (.bool false)) e2
    | _ => .no)
  | _, _ => .no
theorem chF_sound {G : Gd} (hA : OpA G.K r g) (hA' : OpA G.K r' g') {σ : L2.St} {H : Hp} {Q : VK} (h : tE G (chF g g' fa fb fc) σ H Q) : tChain r r' (tE G fa) (tE G fb) (tE G fc) σ H Q := by
  obtain ⟨A, env, rel, h⟩ := h
  refine ⟨A, env, rel, (Post.bind h).imp fun r1 e1 A1 H1 s1 h1 v1 hv1 => ?_⟩
  refine ⟨A1, e1, s1.rel, (Post.bind h1).imp fun r2 e2 A2 H2 s2 h2 v2 hv2 => ?_⟩
  have hv1' := hv1.step s1.rel s2
  cases q1 : rd e2 r1 with
  | none => rw [q1] at h2; exact h2.elim
  | some x =>
    cases q2 : rd e2 r2 with
    | none => rw [q1, q2] at h2; exact h2.elim
    | some y =>
      rw [q1, q2] at h2
      dsimp only at h2
      cases q3 : g x y with
      | none => rw [q3] at h2; exact h2.elim
      | some z =>
        rw [q3] at h2
        refine hA A2 H2 x y v1 v2 z _ s2.rel.dom q3 (hv1'.rq s2.rel q1) (hv2.rq s2.rel q2) fun v' H' sm hz => ?_
        cases z with
        | sh d =>
          cases d with
          | bool k =>
            have ev : v' = .bl k := hz
            refine ⟨k, ev, ?_⟩
            have s3 := Stp.same s2.rel sm
            cases k with
            | false => exact h2 A2 H' s3 (.bl false) (rp_bl (K := G.K) (A := A2) (H := H'))
            | true =>
              rw [if_pos rfl]
              dsimp only at h2
              have h3 : Post G A2 σ H' e2 ((fc e2).bind fun r3 e3 => (match rd e3 r2, rd e3 r3 with
                  | some y', some z => out1 (g' y' z) e3
                  | _, _ => .no)) (EQ G σ H Q) := by
                cases q5 : ((fc e2).bind fun r3 e3 => (match rd e3 r2, rd e3 r3 with
                  | some y', some z => out1 (g' y' z) e3
                  | _, _ => .no)) with
                | ok r e => rw [q5] at h2; exact fun A' H'' s => h2 A' H'' (s3.trans s)
                | ex x e => rw [q5] at h2; exact fun A' H'' c d s => h2 A' H'' c d (s3.trans s)
                | no => rw [q5] at h2; exact h2
              refine ⟨A2, e2, s3.rel, (Post.bind h3).imp fun r3 e3 A3 H3 s4 h4 v3 hv3 => ?_⟩
              have hv2' := (hv2.step s2.rel s3).step s3.rel s4
              cases q5 : rd e3 r2 with
              | none => rw [q5] at h4; exact h4.elim
              | some y' =>
                cases q6 : rd e3 r3 with
                | none => rw [q5, q6] at h4; exact h4.elim
                | some zz =>
                  rw [q5, q6] at h4
                  dsimp only at h4
                  unfold out1 at h4
                  cases q7 : g' y' zz with
                  | none => rw [q7] at h4; exact h4.elim
                  | some o =>
                    rw [q7] at h4
                    exact hA' A3 H3 y' zz v2 v3 o Q s4.rel.dom q7 (hv2'.rq s4.rel q5) (hv3.rq s4.rel q6) fun v' H'' sm' hz' => fin1 (((s1.trans s2).trans s3).trans s4) h4 sm' hz'
          | _ => exact h2.elim
        | _ => exact h2.elim
theorem e_chain {op op' : CmpOp} (ho : OpR X (compareOp op) r) (ho' : OpR X (compareOp op') r') (hA : OpA X.K r g) (hA' : OpA X.K r' g') (ha : PE X a (tE (gd X W) fa)) (hb : PE X b (tE (gd X W) fb)) (hc : PE X c (tE (gd X W) fc))
    (hm : lastMarks [op, op'] [b, c] = false := by with_unfolding_all rfl) : PE X (.Compare a [op, op'] [b, c] pos) (tE (gd X W) (chF g g' fa fb fc)) :=
  PE.imp (pe_chain ho ho' ha hb hc hm) fun _ _ _ h => chF_sound (G := gd X W) hA hA' h
theorem t_chain {op op' : CmpOp} (ho : OpR X (compareOp op) r) (ho' : OpR X (compareOp op') r') (hA : OpA X.K r g) (hA' : OpA X.K r' g') (ha : PE X a (tE (gd X W) fa)) (hb : PE X b (tE (gd X W) fb)) (hc : PE X c (tE (gd X W) fc))
    (hm : lastMarks [op, op'] [b, c] = false := by with_unfolding_all rfl) : PT X (.Compare a [op, op'] [b, c] pos) (tT (gd X W) (boolF (chF g g' fa fb fc))) :=
  PT.imp (pt_chain ho ho' ha hb hc hm) fun _ _ _ h => chF_sound (G := gd X W) hA hA' (boolF_sound h)
end
/-! by the operator: the rule and its adequacy -/
section
variable {X : Cx} {k : Nat}
structure CmpR (X : Cx) (op : CmpOp) (g : G2) : Prop where
  ex : ∃ r, OpR X (compareOp op) r ∧ OpA X.K r g
theorem c_eq (hr : Room k X.A) : CmpR X .Eq eqG := ⟨_, op_eqD (room64 hr), eq_A⟩
theorem c_ne (hr : Room k X.A) : CmpR X .NotEq neG := ⟨_, op_neD (room64 hr), ne_A⟩
theorem c_lt (hr : Room k X.A) : CmpR X .Lt ltG := ⟨_, op_lt.or op_lt_str, cmpI_A.or strLt_A⟩
theorem c_le (hr : Room k X.A) : CmpR X .LtE leG := ⟨_, op_le, cmpI_A⟩
theorem c_gt (hr : Room k X.A) : CmpR X .Gt gtG := ⟨_, op_gt, cmpI_A⟩
theorem c_ge (hr : Room k X.A) : CmpR X .GtE geG := ⟨_, op_ge, cmpI_A⟩
theorem c_is (hr : Room k X.A) : CmpR X .Is (isG false) := ⟨_, op_isN.or op_is_bl, is_A⟩
theorem c_isn (hr : Room k X.A) : CmpR X .IsNot (isG true) := ⟨_, op_notN.or op_isnot_bl, isn_A⟩
theorem c_in (hr : Room k X.A) : CmpR X .In (inG false) := ⟨_, (op_inS (room65 hr)).or (op_in_str.or (op_dIn (room1 hr))), inSeq_A.or (inStr_A.or inDct_A)⟩
theorem c_nin (hr : Room k X.A) : CmpR X .NotIn (inG true) := ⟨_, (op_notInS (room65 hr)).or (L2.op_notIn_str.or (op_dNotIn (room1 hr))), inSeq_A.or (notInStr_A.or inDct_A)⟩
variable {W : WX} {a b c : Expr} {fa fb fc : EF} {pos : Pos} {g g' : G2} {op op' : CmpOp}
theorem ec (h : CmpR X op g) (ha : PE X a (tE (gd X W) fa)) (hb : PE X b (tE (gd X W) fb)) (hm : behindInMarks op b = false := by first | exact nomark _ | rfl) : PE X (.Compare a [op] [b] pos) (tE (gd X W) (opF g fa fb)) :=
  let ⟨_, h1, h2⟩ := h.ex; e_cmp h1 h2 ha hb hm
theorem tc (h : CmpR X op g) (ha : PE X a (tE (gd X W) fa)) (hb : PE X b (tE (gd X W) fb)) (hm : behindInMarks op b = false := by first | exact nomark _ | rfl) : PT X (.Compare a [op] [b] pos) (tT (gd X W) (boolF (opF g fa fb))) :=
  let ⟨_, h1, h2⟩ := h.ex; t_cmp h1 h2 ha hb hm
theorem ech (h : CmpR X op g) (h' : CmpR X op' g') (ha : PE X a (tE (gd X W) fa)) (hb : PE X b (tE (gd X W) fb)) (hc : PE X c (tE (gd X W) fc)) (hm : lastMarks [op, op'] [b, c] = false := by with_unfolding_all rfl) :
    PE X (.Compare a [op, op'] [b, c] pos) (tE (gd X W) (chF g g' fa fb fc)) :=
  let ⟨_, h1, h2⟩ := h.ex; let ⟨_, h3, h4⟩ := h'.ex; e_chain h1 h3 h2 h4 ha hb hc hm
theorem tch (h : CmpR X op g) (h' : CmpR X op' g') (ha : PE X a (tE (gd X W) fa)) (hb : PE X b (tE (gd X W) fb)) (hc : PE X c (tE (gd X W) fc)) (hm : lastMarks [op, op'] [b, c] = false := by with_unfolding_all rfl) :
    PT X (.Compare a [op, op'] [b, c] pos) (tT (gd X W) (boolF (chF g g' fa fb fc))) :=
  let ⟨_, h1, h2⟩ := h.ex; let ⟨_, h3, h4⟩ := h'.ex; t_chain h1 h3 h2 h4 ha hb hc hm
end
end VL


set_option Elab.async false
set_option linter.all false
set_option maxRecDepth 100000
set_option maxHeartbeats 2000000
namespace VL
open PySem PySem.Spec PyProof.Rows L2
variable [TbP]

/-! ### truth, and/or/not, if-else -/
def truD : D → Option Bool
  | .none => some false
  | .bool b => some b
  | .int i => some (i != 0)
  | .str y => if y.length ≤ LIM then some ((y.length : Int) != 0) else none
  | .list ds => some (!ds.isEmpty)
  | .tuple ds => some (!ds.isEmpty)
  | .dict _ => none
theorem RpL.isEmpty {K : Frag} {A : AS} {H : Hp} {ds : List D} {xs : List V} (h : RpL K A H ds xs) : (!ds.isEmpty) = !xs.isEmpty := by
  cases ds with
  | nil => rw [h.inv_nil]; rfl
  | cons d ds => obtain ⟨v, r, rfl, _, _⟩ := h.inv_cons; rfl
theorem truD_ok {K : Frag} {A : AS} {H : Hp} {d : D} {v : V} {k : Bool} (h : Rq K A H d v) (e : truD d = some k) : TruV K v H k := by
  cases d with
  | none => cases e; rw [h.non]; exact rfl
  | bool b => cases e; rw [h.bl]; exact rfl
  | int i => cases e; rw [h.int]; exact rfl
  | str y =>
    dsimp only [truD] at e
    by_cases c : y.length ≤ LIM
    · rw [if_pos c] at e
      cases e
      rw [h.str]
      exact ⟨le_line c, rfl⟩
    · rw [if_neg c] at e; cases e
  | list ds =>
    cases e
    obtain ⟨a, xs, rfl, l, r⟩ := h.lst
    exact .inl ⟨xs, l, r.isEmpty⟩
  | tuple ds =>
    cases e
    obtain ⟨a, xs, rfl, l, r⟩ := h.tup
    exact .inr (.inl ⟨xs, l, r.isEmpty⟩)
  | dict kvs => cases e
def truR (r : Rv) (e : En) : Rs Bool := match rd e r with
  | some d => (match truD d with
    | some b => .ok b e
    | none => .no)
  | none => .no
def truF (f : EF) : TF := fun env => (f env).bind truR
theorem eq_later {G : Gd} {A A1 A' : AS} {σ σ1 : L2.St} {H H1 H' : Hp} {env e1 e : En} {Q : VK} {r : Rv} (s : Stp G.K A σ H env A1 σ1 H1 e1) (h : EQ G σ H Q r e A' H') : EQ G σ H1 Q r e A' H' := fun v hv => h v (hv.weak fun a o _ z => by
  cases q : H a with
  | none => rfl
  | some u => exact absurd z (s.ext.al a (by rw [q]; simp)))
theorem Post.later {G : Gd} {A A1 : AS} {σ : L2.St} {H H1 : Hp} {env e1 : En} {Q : VK} {out : Rs Rv} (s : Stp G.K A σ H env A1 σ H1 e1) (h : Post G A1 σ H1 e1 out (EQ G σ H Q)) : Post G A1 σ H1 e1 out (EQ G σ H1 Q) :=
  h.imp fun _ _ _ _ _ q => eq_later s q
theorem truR_ok {G : Gd} {A1 : AS} {σ : L2.St} {H1 : Hp} {e1 : En} {F : AS} {α : Type} {r : Rv} {v : V} {k : Bool → En → Rs α} {P : α → En → AS → Hp → Prop} (rel : Rel G.K A1 σ H1 e1) (hv : RvOk G.K A1 σ H1 e1 F r v) (h : Post G A1 σ H1 e1 ((truR r e1).bind k) P) :
    ∃ b, TruV G.K v H1 b ∧ Post G A1 σ H1 e1 (k b e1) P := by
  unfold truR at h
  cases q : rd e1 r with
  | none => rw [q] at h; exact h.elim
  | some d =>
    rw [q] at h
    dsimp only at h
    cases q2 : truD d with
    | none => rw [q2] at h; exact h.elim
    | some b => rw [q2] at h; exact ⟨b, truD_ok (hv.rq rel q) q2, h⟩
theorem bind_ok {α : Type} {r : Rs α} : (r.bind fun b e => .ok b e) = r := by cases r <;> rfl
section
variable {X : Cx} {W : WX} {a b c : Expr} {rest : List Expr} {fa fb fc : EF} {ta tb tc : TF} {pos : Pos}
theorem t_tru (ha : PE X a (tE (gd X W) fa)) (he : ∀ whole, isTrue a X.env whole = (do let v ← whole; standAt a.pos; holding [v] (truthy v)) := by intro _; rfl) : PT X a (tT (gd X W) (truF fa)) :=
  PT.imp (pt_truth ha he) fun σ H Q h => by
    obtain ⟨A, env, rel, h⟩ := h
    refine ⟨A, env, rel, (Post.bind h).imp fun r e1 A1 H1 s1 h1 v hv => ?_⟩
    rw [← bind_ok (r := truR r e1)] at h1
    obtain ⟨b, t, h2⟩ := truR_ok s1.rel hv h1
    exact ⟨b, t, h2 A1 H1 (.refl s1.rel)⟩
def andT (f g : TF) : TF := fun env => (f env).bind fun b e => if b = true then g e else .ok false e
def orT (f g : TF) : TF := fun env => (f env).bind fun b e => if b = true then .ok true e else g e
def notT (f : TF) : TF := fun env => (f env).bind fun b e => .ok (!b) e
theorem w_and1 (ha : PT X a (tT (gd X W) ta)) : PW X (.BoolOp .And [a] pos) (tT (gd X W) ta) := pw_and1 ha
theorem w_or1 (ha : PT X a (tT (gd X W) ta)) : PW X (.BoolOp .Or [a] pos) (tT (gd X W) ta) := pw_or1 ha
theorem w_and (ha : PT X a (tT (gd X W) ta)) (hb : PW X (.BoolOp .And (b :: rest) pos) (tT (gd X W) tb)) : PW X (.BoolOp .And (a :: b :: rest) pos) (tT (gd X W) (andT ta tb)) :=
  PW.imp (pw_and ha hb) fun σ H Q h => by
    obtain ⟨A, env, rel, h⟩ := h
    refine ⟨A, env, rel, (Post.bind h).imp fun k e1 A1 H1 s1 h1 => ?_⟩
    cases k with
    | true => exact ⟨A1, e1, s1.rel, h1⟩
    | false => exact h1 A1 H1 (.refl s1.rel)
theorem w_or (ha : PT X a (tT (gd X W) ta)) (hb : PW X (.BoolOp .Or (b :: rest) pos) (tT (gd X W) tb)) : PW X (.BoolOp .Or (a :: b :: rest) pos) (tT (gd X W) (orT ta tb)) :=
  PW.imp (pw_or ha hb) fun σ H Q h => by
    obtain ⟨A, env, rel, h⟩ := h
    refine ⟨A, env, rel, (Post.bind h).imp fun k e1 A1 H1 s1 h1 => ?_⟩
    cases k with
    | false => exact ⟨A1, e1, s1.rel, h1⟩
    | true => exact h1 A1 H1 (.refl s1.rel)
theorem t_w (h : PW X a (tT (gd X W) ta)) : PT X a (tT (gd X W) ta) := h.pt
theorem t_not (ha : PT X a (tT (gd X W) ta)) : PT X (.UnaryOp .Not a pos) (tT (gd X W) (notT ta)) :=
  PT.imp (pt_not ha) fun σ H Q h => by
    obtain ⟨A, env, rel, h⟩ := h
    refine ⟨A, env, rel, (Post.bind h).imp fun k e1 A1 H1 s1 h1 => ?_⟩
    exact h1 A1 H1 (.refl s1.rel)
def ifE (t : TF) (f g : EF) : EF := fun env => (t env).bind fun k e => if k = true then f e else g e
theorem e_if (hc : PT X c (tT (gd X W) tc)) (ha : PE X a (tE (gd X W) fa)) (hb : PE X b (tE (gd X W) fb)) : PE X (.IfExp c a b pos) (tE (gd X W) (ifE tc fa fb)) :=
  PE.imp (pe_ifExp hc ha hb) fun σ H Q h => by
    obtain ⟨A, env, rel, h⟩ := h
    refine ⟨A, env, rel, (Post.bind h).imp fun k e1 A1 H1 s1 h1 => ?_⟩
    cases k with
    | true => exact ⟨A1, e1, s1.rel, h1.later s1⟩
    | false => exact ⟨A1, e1, s1.rel, h1.later s1⟩
def andE (f g : EF) : EF := fun env => (f env).bind fun r e => (truR r e).bind fun b e => if b = true then g e else .ok r e
def orE (f g : EF) : EF := fun env => (f env).bind fun r e => (truR r e).bind fun b e => if b = true then .ok r e else g e
def notE (f : EF) : EF := fun env => (f env).bind fun r e => (truR r e).bind fun b e => .ok (.sh (.bool (!b))) e
theorem e_one {op} (ha : PE X a (tE (gd X W) fa)) : PE X (.BoolOp op [a] pos) (tE (gd X W) fa) := pe_one ha
theorem e_and (ha : PE X a (tE (gd X W) fa)) (hb : PE X (.BoolOp .And (b :: rest) pos) (tE (gd X W) fb)) : PE X (.BoolOp .And (a :: b :: rest) pos) (tE (gd X W) (andE fa fb)) :=
  PE.imp (pe_andT ha hb) fun σ H Q h => by
    obtain ⟨A, env, rel, h⟩ := h
    refine ⟨A, env, rel, (Post.bind h).imp fun r e1 A1 H1 s1 h1 v hv => ?_⟩
    obtain ⟨k, t, h2⟩ := truR_ok s1.rel hv h1
    refine ⟨k, t, ?_⟩
    cases k with
    | true => exact ⟨A1, e1, s1.rel, h2.later s1⟩
    | false => exact h2 A1 H1 (.refl s1.rel) v hv
theorem e_or (ha : PE X a (tE (gd X W) fa)) (hb : PE X (.BoolOp .Or (b :: rest) pos) (tE (gd X W) fb)) : PE X (.BoolOp .Or (a :: b :: rest) pos) (tE (gd X W) (orE fa fb)) :=
  PE.imp (pe_orT ha hb) fun σ H Q h => by
    obtain ⟨A, env, rel, h⟩ := h
    refine ⟨A, env, rel, (Post.bind h).imp fun r e1 A1 H1 s1 h1 v hv => ?_⟩
    obtain ⟨k, t, h2⟩ := truR_ok s1.rel hv h1
    refine ⟨k, t, ?_⟩
    cases k with
    | false => exact ⟨A1, e1, s1.rel, h2.later s1⟩
    | true => exact h2 A1 H1 (.refl s1.rel) v hv
theorem e_not (ha : PE X a (tE (gd X W) fa)) : PE X (.UnaryOp .Not a pos) (tE (gd X W) (notE fa)) :=
  PE.imp (pe_notT ha) fun σ H Q h => by
    obtain ⟨A, env, rel, h⟩ := h
    refine ⟨A, env, rel, (Post.bind h).imp fun r e1 A1 H1 s1 h1 v hv => ?_⟩
    obtain ⟨k, t, h2⟩ := truR_ok s1.rel hv h1
    exact ⟨k, t, h2 A1 H1 (.refl s1.rel) (.bl (!k)) (rp_bl (K := X.K) (A := A1) (H := H1))⟩
end

/-! ### statements -/
inductive Rb where
  | nx (e : En) | bk (e : En) | ct (e : En) | rt (r : Rv) (e : En) | ex (x : Xc) (e : En) | no
abbrev SF := En → Rb
def Rs.st {α : Type} (r : Rs α) (k : α → En → Rb) : Rb := match r with
  | .ok a e => k a e
  | .ex x e => .ex x e
  | .no => .no
def SPost (G : Gd) (A : AS) (σ : L2.St) (H : Hp) (env : En) (out : Rb) (Z : Ends) : Prop := match out with
  | .nx e => ∀ A' σ' H', Stp G.K A σ H env A' σ' H' e → Z.nx σ' H'
  | .bk e => ∀ A' σ' H', Stp G.K A σ H env A' σ' H' e → Z.bk σ' H'
  | .ct e => ∀ A' σ' H', Stp G.K A σ H env A' σ' H' e → Z.ct σ' H'
  | .rt r e => ∀ A' σ' H' v, Stp G.K A σ H env A' σ' H' e → RvOk G.K A' σ' H' e (fun a => H a = none) r v → Z.rt v H'
  | .ex x e => ∀ A' σ' H' c d, Stp G.K A σ H env A' σ' H' e → XOk G A' H' x c d → G.W c d σ' H'
  | .no => False
def tS (G : Gd) (g : SF) : TS := fun Z σ H => ∃ A env, Rel G.K A σ H env ∧ SPost G A σ H env (g env) Z
section
variable {G : Gd} {A A1 : AS} {σ σ1 : L2.St} {H H1 : Hp} {env e1 : En} {Z Z' : Ends} {out : Rb}
theorem SPost.move (s : Stp G.K A σ H env A1 σ1 H1 e1) (h : SPost G A σ H env out Z) : SPost G A1 σ1 H1 e1 out Z := by
  cases out with
  | nx e => exact fun A' σ' H' t => h A' σ' H' (s.trans t)
  | bk e => exact fun A' σ' H' t => h A' σ' H' (s.trans t)
  | ct e => exact fun A' σ' H' t => h A' σ' H' (s.trans t)
  | rt r e => exact fun A' σ' H' v t hv => h A' σ' H' v (s.trans t) (hv.weak fun a o _ z => by
      cases q : H a with
      | none => rfl
      | some u => exact absurd z (s.ext.al a (by rw [q]; simp)))
  | ex x e => exact fun A' σ' H' c d t => h A' σ' H' c d (s.trans t)
  | no => exact h
theorem SPost.cut {α : Type} {o : Rs α} {k : α → En → Rb} {P1 : α → En → AS → Hp → Prop} (h : SPost G A σ H env (o.st k) Z)
    (i : ∀ a e A' H', Stp G.K A σ H env A' σ H' e → SPost G A σ H env (k a e) Z → P1 a e A' H') : Post G A σ H env o P1 := by
  cases o with
  | ok a e => exact fun A1 H1 s1 => i a e A1 H1 s1 h
  | ex x e => exact fun A' H' c d s => h A' σ H' c d s
  | no => exact h
theorem SPost.bind {α : Type} {o : Rs α} {k : α → En → Rb} (h : SPost G A σ H env (o.st k) Z) : Post G A σ H env o fun a e A' H' => SPost G A' σ H' e (k a e) Z :=
  h.cut fun _ _ _ _ s q => q.move s
/-- other ends -/
theorem SPost.ends (h : SPost G A σ H env out Z) (i : SPost G A σ H env out Z → SPost G A σ H env out Z') : SPost G A σ H env out Z' := i h
def passF : SF := .nx
def Rb.seq (r : Rb) (k : En → Rb) : Rb := match r with
  | .nx e => k e
  | r => r
def seqF (f g : SF) : SF := fun env => (f env).seq g
theorem seq_sound {f g : SF} (h : tS G (seqF f g) Z σ H) : tSeq (tS G f) (tS G g) Z σ H := by
  obtain ⟨A, env, rel, h⟩ := h
  refine ⟨A, env, rel, ?_⟩
  unfold seqF at h
  cases q : f env with
  | nx e =>
    rw [q] at h
    intro A' σ' H' s
    exact ⟨A', e, s.rel, SPost.move s h⟩
  | bk e => rw [q] at h; exact h
  | ct e => rw [q] at h; exact h
  | rt r e => rw [q] at h; exact h
  | ex x e => rw [q] at h; exact h
  | no => rw [q] at h; exact h
end
section
variable {X : Cx} {W : WX} {st : Stmt} {sts : List Stmt} {f g : SF} {pos : Pos}
theorem s_nil : PSs X [] (tS (gd X W) passF) := PSs.imp pss_nil fun Z σ H h => by
  obtain ⟨A, env, rel, h⟩ := h
  exact h A σ H (.refl rel)
theorem s_cons (h1 : PS X st (tS (gd X W) f)) (h2 : PSs X sts (tS (gd X W) g)) : PSs X (st :: sts) (tS (gd X W) (seqF f g)) := PSs.imp (pss_cons h1 h2) fun Z σ H h => seq_sound h
theorem s_one (h1 : PS X st (tS (gd X W) f)) : PSs X [st] (tS (gd X W) f) := pss_one h1
theorem s_pass : PS X (.Pass pos) (tS (gd X W) passF) := PS.imp ps_pass fun Z σ H h => by
  obtain ⟨A, env, rel, h⟩ := h
  exact h A σ H (.refl rel)
theorem s_doc {x j pos pos'} : PS X (.Expr (.Constant (.str x) j pos) pos') (tS (gd X W) passF) := PS.imp ps_doc fun Z σ H h => by
  obtain ⟨A, env, rel, h⟩ := h
  exact h A σ H (.refl rel)
def brkF : SF := .bk
def contF : SF := .ct
theorem s_brk : PS X (.Break pos) (tS (gd X W) brkF) := PS.imp ps_break fun Z σ H h => by
  obtain ⟨A, env, rel, h⟩ := h
  exact h A σ H (.refl rel)
theorem s_cont : PS X (.Continue pos) (tS (gd X W) contF) := PS.imp ps_continue fun Z σ H h => by
  obtain ⟨A, env, rel, h⟩ := h
  exact h A σ H (.refl rel)
variable {e c : Expr} {fe : EF} {tc : TF} {p q : List Stmt}
def retF (f : EF) : SF := fun env => (f env).st fun r e => .rt r e
theorem s_ret (he : PE X e (tE (gd X W) fe)) : PS X (.Return (some e) pos) (tS (gd X W) (retF fe)) := PS.imp (ps_ret he) fun Z σ H h => by
  obtain ⟨A, env, rel, h⟩ := h
  exact ⟨A, env, rel, SPost.cut h fun r e1 A1 H1 s1 h1 v hv => h1 A1 σ H1 v s1 hv⟩
theorem s_retN : PS X (.Return none pos) (tS (gd X W) (retF (cF .none))) := PS.imp ps_retN fun Z σ H h => by
  obtain ⟨A, env, rel, h⟩ := h
  exact h A σ H .non (.refl rel) (rp_non (K := X.K) (A := A) (H := H))
def exprF (f : EF) : SF := fun env => (f env).st fun _ e => .nx e
theorem s_expr (he : PE X e (tE (gd X W) fe)) (hs : swapsWith e none pos.line X.env = pure false := by rfl) : PS X (.Expr e pos) (tS (gd X W) (exprF fe)) := PS.imp (ps_expr he hs) fun Z σ H h => by
  obtain ⟨A, env, rel, h⟩ := h
  exact ⟨A, env, rel, SPost.cut h fun r e1 A1 H1 s1 h1 v hv => h1 A1 σ H1 s1⟩
def ifS (t : TF) (f g : SF) : SF := fun env => (t env).st fun b e => if b = true then f e else g e
theorem s_if (hc : PT X c (tT (gd X W) tc)) (ha : PSs X p (tS (gd X W) f)) (hb : PSs X q (tS (gd X W) g)) : PS X (.If c p q pos) (tS (gd X W) (ifS tc f g)) := PS.imp (ps_if hc ha hb) fun Z σ H h => by
  obtain ⟨A, env, rel, h⟩ := h
  refine ⟨A, env, rel, (SPost.bind h).imp fun b e1 A1 H1 s1 h1 => ?_⟩
  cases b with
  | true => exact ⟨A1, e1, s1.rel, h1⟩
  | false => exact ⟨A1, e1, s1.rel, h1⟩
end

/-! ### a name is set -/
def Sl.isIo : Sl → Bool
  | .io _ => true
  | .iz _ => true
  | _ => false
def putS (e : En) (i : Nat) (s : Sl) : Option En := match e[i]? with
  | some t => if t.isIo = true then none else some (e.set i s)
  | none => none
/-- what may be put into a slot: a slot and a value -/
def PutOk (K : Frag) (A : AS) (σ : L2.St) (H0 H : Hp) (env : En) (s : Sl) (v : V) : Prop :=
  (∃ d, s = .sh d ∧ Rp K A H d v) ∨ ∃ d a, s = .ow d ∧ v = .ref a ∧ ¬ A a ∧ ¬ Ow σ env a ∧ H0 a = none ∧ Ob K A H a d
section
variable {K : Frag} {A A1 : AS} {σ σ1 : L2.St} {H H1 : Hp} {env e1 e2 : En} {i : Nat} {s : Sl} {v : V}
theorem PutOk.rd (h : PutOk K A σ H H1 env s v) : s.rd ≠ none := by
  rcases h with ⟨d, rfl, _⟩ | ⟨d, a, rfl, _⟩ <;> simp [Sl.rd]
theorem PutOk.noIo (h : PutOk K A σ H H1 env s v) (d : D) : s ≠ .io d ∧ s ≠ .iz d := by
  rcases h with ⟨d, rfl, _⟩ | ⟨d, a, rfl, _⟩ <;> (constructor <;> (intro z; cases z))
theorem Stp.put (st : Stp K A σ H env A1 σ1 H1 e1) (h : PutOk K A1 σ1 H H1 e1 s v) (q : putS e1 i s = some e2) : Stp K A σ H env A1 (σ1.set i (some v)) H1 e2 := by
  unfold putS at q
  cases q0 : e1[i]? with
  | none => rw [q0] at q; cases q
  | some t =>
    rw [q0] at q
    dsimp only at q
    split at q
    · cases q
    rename_i hio
    cases q
    have lt : i < e1.length := (List.getElem?_eq_some_iff.mp q0).1
    have lt2 : i < σ1.length := by rw [st.rel.len]; exact lt
    -- who owns what afterwards
    have own : ∀ j x, Owi (σ1.set i (some v)) (e1.set i s) j x → (j ≠ i ∧ Owi σ1 e1 j x) ∨ (j = i ∧ v = .ref x ∧ ¬ A1 x ∧ ¬ Ow σ1 e1 x ∧ H x = none ∧ ∃ d, s = .ow d ∧ Ob K A1 H1 x d) := fun j x hj => by
      obtain ⟨⟨d, hd⟩, e⟩ := hj
      by_cases ji : j = i
      · subst ji
        refine .inr ⟨rfl, ?_⟩
        unfold isOwn at hd
        rw [List.getElem?_set_self lt] at hd
        rw [List.getElem?_set_self lt2] at e
        have e := Option.some.inj (Option.some.inj e)
        rcases h with ⟨d', rfl, _⟩ | ⟨d', a, rfl, ea, na, no, fr, ob⟩
        · rcases hd with hd | hd <;> cases hd
        · rw [ea] at e; cases e
          exact ⟨ea, na, no, fr, d', rfl, ob⟩
      · refine .inl ⟨ji, ⟨d, ?_⟩, ?_⟩
        · unfold isOwn at hd ⊢
          rw [List.getElem?_set_ne (Ne.symm ji)] at hd
          exact hd
        · rw [List.getElem?_set_ne (Ne.symm ji)] at e
          exact e
    refine ⟨st.ext, ⟨by simpa using st.rel.len, fun j d hj => ?_, fun j d hj => ?_, fun j k x hj hk => ?_, st.rel.dom, fun j d hj => ?_, st.rel.tb⟩, fun x ⟨j, hj⟩ => ?_, fun j d hj => ?_, fun j hj => rdAt_set h.rd (st.rdb j hj)⟩
    · by_cases ji : j = i
      · subst ji
        rw [List.getElem?_set_self lt] at hj
        rw [List.getElem?_set_self lt2]
        rcases h with ⟨d', rfl, r⟩ | ⟨d', a, rfl, _⟩
        · rcases hj with hj | hj <;> cases hj
          exact ⟨v, rfl, r⟩
        · rcases hj with hj | hj <;> cases hj
      · rw [List.getElem?_set_ne (Ne.symm ji)] at hj
        rw [List.getElem?_set_ne (Ne.symm ji)]
        exact st.rel.sh j d hj
    · by_cases ji : j = i
      · subst ji
        unfold isOwn at hj
        rw [List.getElem?_set_self lt] at hj
        rw [List.getElem?_set_self lt2]
        rcases h with ⟨d', rfl, r⟩ | ⟨d', a, rfl, ea, na, no, fr, ob⟩
        · rcases hj with hj | hj <;> cases hj
        · rcases hj with hj | hj <;> cases hj
          exact ⟨a, by rw [ea], na, ob⟩
      · unfold isOwn at hj
        rw [List.getElem?_set_ne (Ne.symm ji)] at hj
        rw [List.getElem?_set_ne (Ne.symm ji)]
        exact st.rel.ow j d hj
    · rcases own j x hj with ⟨n1, o1⟩ | ⟨rfl, z1⟩
      · rcases own k x hk with ⟨n2, o2⟩ | ⟨rfl, z2⟩
        · exact st.rel.ap j k x o1 o2
        · exact absurd ⟨j, o1⟩ z2.2.2.1
      · rcases own k x hk with ⟨n2, o2⟩ | ⟨rfl, z2⟩
        · exact absurd ⟨k, o2⟩ z1.2.2.1
        · rfl
    · by_cases ji : j = i
      · subst ji
        rw [List.getElem?_set_self lt] at hj
        exact absurd (Option.some.inj hj) (h.noIo d).2
      · rw [List.getElem?_set_ne (Ne.symm ji)] at hj
        rw [List.getElem?_set_ne (Ne.symm ji)]
        exact st.rel.fz j d hj
    · rcases own j x hj with ⟨n1, o1⟩ | ⟨rfl, z1⟩
      · exact st.sub x ⟨j, o1⟩
      · exact .inr z1.2.2.2.1
    · obtain ⟨q1, d1, q2⟩ := st.io j d hj
      have ji : j ≠ i := fun z => by
        subst z
        rw [q0] at q2
        rcases q2 with q2 | q2 <;> (cases q2; simp [Sl.isIo] at hio)
      rw [List.getElem?_set_ne (Ne.symm ji), List.getElem?_set_ne (Ne.symm ji)]
      exact ⟨q1, d1, q2⟩
end
/-- name i = r -/
def asgS (i : Nat) (r : Rv) (e : En) : Rb := match r with
  | .tm d => (match putS e i (.ow d) with
    | some e2 => .nx e2
    | none => .no)
  | r => (match frz e r with
    | some (d, e2) => (match putS e2 i (.sh d) with
      | some e3 => .nx e3
      | none => .no)
    | none => .no)
theorem asg_ok {G : Gd} {A A1 : AS} {σ σ1 : L2.St} {H H1 : Hp} {env e1 : En} {i : Nat} {r : Rv} {v : V} {Z : Ends} (st : Stp G.K A σ H env A1 σ1 H1 e1) (hv : RvOk G.K A1 σ1 H1 e1 (fun a => H a = none) r v)
    (h : SPost G A σ H env (asgS i r e1) Z) : Z.nx (σ1.set i (some v)) H1 := by
  have sh : ∀ (h : SPost G A σ H env (match frz e1 r with
    | some (d, e2) => (match putS e2 i (.sh d) with
      | some e3 => Rb.nx e3
      | none => .no)
    | none => .no) Z), Z.nx (σ1.set i (some v)) H1 := fun h => by
    cases q : frz e1 r with
    | none => rw [q] at h; exact h.elim
    | some p =>
      obtain ⟨d, e2⟩ := p
      rw [q] at h
      dsimp only at h
      obtain ⟨A2, s2, f2, rp, _⟩ := frz_ok st hv q
      cases q2 : putS e2 i (.sh d) with
      | none => rw [q2] at h; exact h.elim
      | some e3 =>
        rw [q2] at h
        exact h A2 _ H1 (s2.put (.inl ⟨d, rfl, rp⟩) q2)
  cases r with
  | tm d =>
    unfold asgS at h
    dsimp only at h
    cases q2 : putS e1 i (.ow d) with
    | none => rw [q2] at h; exact h.elim
    | some e3 =>
      rw [q2] at h
      obtain ⟨a, ea, na, no, f, ob⟩ := hv
      exact h A1 _ H1 (st.put (.inr ⟨d, a, rfl, ea, na, no, f, ob⟩) q2)
  | sh d => exact sh h
  | bo j => exact sh h
section
variable {X : Cx} {W : WX} {e : Expr} {fe : EF} {pos : Pos} {i : Nat} {x : Str} {pos' : Pos}
def setF (i : Nat) (f : EF) : SF := fun env => (f env).st fun r e => asgS i r e
theorem s_set (i : Nat) (hN : X.N.Nodup) (he : PE X e (tE (gd X W) fe)) (hi : X.N[i]? = some x := by rfl) (hx : Loc X.env.scope x := by first | exact Or.inl rfl | exact Or.inr rfl)
    (hs : swapsWith e (some (.Name x pos')) pos.line X.env = pure false := by rfl) (hf : X.fn x = true ∨ X.env.scope.names.lookup x = some .local := by first | exact .inl rfl | exact .inr rfl | assumption) :
    PS X (.Assign [.Name x pos'] e pos) (tS (gd X W) (setF i fe)) := PS.imp (ps_set hN hi hx he hs hf) fun Z σ H h => by
  obtain ⟨A, env, rel, h⟩ := h
  exact ⟨A, env, rel, SPost.cut h fun r e1 A1 H1 s1 h1 v hv => asg_ok s1 hv h1⟩
end
end VL


set_option Elab.async false
set_option linter.all false
set_option maxRecDepth 100000
set_option maxHeartbeats 2000000
namespace VL
open PySem PySem.Spec PyProof.Rows L2
variable [TbP]

/-! ### calls of built-ins -/
def RqAll (K : Frag) (A : AS) (H : Hp) : List D → List V → Prop
  | [], vs => vs = []
  | d :: ds, vs => ∃ v t, vs = v :: t ∧ Rq K A H d v ∧ RqAll K A H ds t
def rdAll (e : En) : List Rv → Option (List D)
  | [] => some []
  | r :: rs => match rd e r, rdAll e rs with
    | some d, some ds => some (d :: ds)
    | _, _ => none
theorem RvsOk.rq {K : Frag} {A : AS} {σ : L2.St} {H : Hp} {e : En} (rel : Rel K A σ H e) : ∀ {F : AS} {rs : List Rv} {vs : List V} {ds : List D}, RvsOk K A σ H e F rs vs → rdAll e rs = some ds → RqAll K A H ds vs
  | _, [], _, _, h, q => by cases q; exact h
  | _, r :: rs, _, _, h, q => by
    obtain ⟨v, t, rfl, h1, h2⟩ := h
    unfold rdAll at q
    cases q1 : rd e r with
    | none => rw [q1] at q; cases q
    | some d =>
      cases q2 : rdAll e rs with
      | none => rw [q1, q2] at q; cases q
      | some ds =>
        rw [q1, q2] at q
        cases q
        exact ⟨v, t, rfl, h1.rq rel q1, h2.rq rel q2⟩
abbrev GC := List D → Option Rv
abbrev RC := List V → Hp → VK → Prop
def CbA (K : Frag) (r : RC) (g : GC) : Prop := ∀ (A : AS) (H : Hp) (ds : List D) (vs : List V) (z : Rv) (Q : VK), (∀ a, A a → H a ≠ none) → g ds = some z → RqAll K A H ds vs →
  (∀ v' H', Same H H' → Rz K A H H' z v' → Q v' H') → r vs H Q
def orC (g g' : GC) : GC := fun ds => match g ds with
  | some z => some z
  | none => g' ds
theorem CbA.or {K : Frag} {r r' : RC} {g g' : GC} (h : CbA K r g) (h' : CbA K r' g') : CbA K (fun xs H Q => r xs H Q ∨ r' xs H Q) (orC g g') := by
  intro A H ds vs z Q hd e hx q
  unfold orC at e
  cases q1 : g ds with
  | some z' => rw [q1] at e; cases e; exact .inl (h A H ds vs z Q hd q1 hx q)
  | none => rw [q1] at e; exact .inr (h' A H ds vs z Q hd e hx q)
def cbF (g : GC) (fs : AF) : EF := fun env => (fs env).bind fun rs e => match rdAll e rs with
  | some ds => out1 (g ds) e
  | none => .no
theorem cbF_sound {G : Gd} {r : RC} {g : GC} {fs : AF} (ha : CbA G.K r g) {σ : L2.St} {H : Hp} {Q : VK} (h : tE G (cbF g fs) σ H Q) : tCB r (tA G fs) σ H Q := by
  obtain ⟨A, env, rel, h⟩ := h
  refine ⟨A, env, rel, Post.cut h fun rs e1 A1 H1 s1 h1 vs hvs => ?_⟩
  cases q1 : rdAll e1 rs with
  | none => rw [q1] at h1; exact h1.elim
  | some ds =>
    rw [q1] at h1
    dsimp only at h1
    unfold out1 at h1
    cases q3 : g ds with
    | none => rw [q3] at h1; exact h1.elim
    | some z =>
      rw [q3] at h1
      exact ha A1 H1 ds vs z Q s1.rel.dom q3 (hvs.rq s1.rel q1) fun v' H' sm hz => h1 A1 H' (s1.trans (Stp.same s1.rel sm)) v' (hz.rv s1)
section
variable {X : Cx} {W : WX} {x : Str} {p pos : Pos} {e : Expr} {es : List Expr} {fs : AF} {id T : String} {r : RC} {g : GC}
theorem e_cb (hc : CallR X (.builtin id) r) (hA : CbA X.K r g) (hv : bootBuiltins x = some (.builtin id)) (hg : Gl X x) (hm : X.mg x = none) (ha : PA X (e :: es) (tA (gd X W) fs)) (hn : x ≠ "__name__" := by decide) (hdb : (x == ("__debug__" : Str)) = false := by decide)
    (he : starEach (e :: es) X.env = (false, eval e X.env) :: starEach es X.env := by rfl) (hpl : (backTo pos (starEach es X.env)).any (·.1) = false := by rfl) : PE X (.Call (.Name x p) (e :: es) [] pos) (tE (gd X W) (cbF g fs)) :=
  PE.imp (pe_callB hc hg hm hv ha hn hdb he hpl) fun _ _ _ h => cbF_sound (G := gd X W) hA h
theorem e_cty (hc : CallR X (.type T) r) (hA : CbA X.K r g) (hv : bootBuiltins x = some (.type T)) (hg : Gl X x) (hm : X.mg x = none) (ha : PA X (e :: es) (tA (gd X W) fs)) (hn : x ≠ "__name__" := by decide) (hdb : (x == ("__debug__" : Str)) = false := by decide)
    (he : starEach (e :: es) X.env = (false, eval e X.env) :: starEach es X.env := by rfl) (hpl : (backTo pos (starEach es X.env)).any (·.1) = false := by rfl) : PE X (.Call (.Name x p) (e :: es) [] pos) (tE (gd X W) (cbF g fs)) :=
  PE.imp (pe_callTy hc hg hm hv ha hn hdb he hpl) fun _ _ _ h => cbF_sound (G := gd X W) hA h
end
theorem RqAll.one {K : Frag} {A : AS} {H : Hp} {d : D} {vs : List V} (h : RqAll K A H [d] vs) : ∃ v, vs = [v] ∧ Rq K A H d v := by
  obtain ⟨v, t, rfl, h1, h2⟩ := h
  have : t = [] := h2
  subst this
  exact ⟨v, rfl, h1⟩
theorem RqAll.two {K : Frag} {A : AS} {H : Hp} {d d' : D} {vs : List V} (h : RqAll K A H [d, d'] vs) : ∃ v v', vs = [v, v'] ∧ Rq K A H d v ∧ Rq K A H d' v' := by
  obtain ⟨v, t, rfl, h1, h2⟩ := h
  obtain ⟨v', rfl, h3⟩ := h2.one
  exact ⟨v, v', rfl, h1, h3⟩
/-- len -/
def lenD : D → Option Nat
  | .str y => if y.length ≤ LIM then some y.length else none
  | .list ds => some ds.length
  | .tuple ds => some ds.length
  | _ => none
def lenG : GC
  | [d] => (lenD d).map fun (n : Nat) => Rv.sh (.int (n : Int))
  | _ => none
theorem lenD_ok {K : Frag} {A : AS} {H : Hp} {d : D} {v : V} {n : Nat} (e : lenD d = some n) (h : Rq K A H d v) : LenV K v H n := by
  cases d with
  | str y =>
    dsimp only [lenD] at e
    by_cases c : y.length ≤ LIM
    · rw [if_pos c] at e
      cases e
      rw [h.str]
      exact ⟨le_line c, rfl⟩
    · rw [if_neg c] at e; cases e
  | list ds =>
    cases e
    obtain ⟨a, xs, rfl, l, r⟩ := h.lst
    exact .inl ⟨xs, l, r.length⟩
  | tuple ds =>
    cases e
    obtain ⟨a, xs, rfl, l, r⟩ := h.tup
    exact .inr ⟨xs, l, r.length⟩
  | _ => cases e
theorem len_A {K : Frag} : CbA K (fun xs H Q => ∃ x n, xs = [x] ∧ LenV K x H n ∧ Q (.int n) H) lenG := by
  intro A H ds vs z Q hd e hx q
  match ds, e with
  | [d], e =>
    obtain ⟨v, rfl, h⟩ := hx.one
    dsimp only [lenG] at e
    cases q1 : lenD d with
    | none => rw [q1] at e; cases e
    | some n =>
      rw [q1] at e
      cases e
      exact ⟨v, n, rfl, lenD_ok q1 h, q _ _ (Same.refl H) rz_int⟩
/-- int of an int or a bool -/
def intC : GC
  | [.int i] => some (.sh (.int i))
  | [.bool b] => some (.sh (.int (if b then 1 else 0)))
  | _ => none
theorem intC_A {K : Frag} : CbA K (fun xs H Q => (∃ i, xs = [.int i] ∧ Q (.int i) H) ∨ ∃ k, xs = [.bl k] ∧ Q (.int (if k then 1 else 0)) H) intC := by
  intro A H ds vs z Q hd e hx q
  match ds, e with
  | [.int i], e =>
    cases e
    obtain ⟨v, rfl, h⟩ := hx.one
    rw [h.int]
    exact .inl ⟨i, rfl, q _ _ (Same.refl H) rz_int⟩
  | [.bool b], e =>
    cases e
    obtain ⟨v, rfl, h⟩ := hx.one
    rw [h.bl]
    exact .inr ⟨b, rfl, q _ _ (Same.refl H) rz_int⟩
def ii2 (f : Int → Int → Int) : GC
  | [.int i, .int j] => some (.sh (.int (f i j)))
  | _ => none
theorem ii2_A {K : Frag} {f : Int → Int → Int} : CbA K (fun xs H Q => ∃ i j, xs = [.int i, .int j] ∧ Q (.int (f i j)) H) (ii2 f) := by
  intro A H ds vs z Q hd e hx q
  match ds, e with
  | [.int i, .int j], e =>
    cases e
    obtain ⟨v, v', rfl, h, h'⟩ := hx.two
    rw [h.int, h'.int]
    exact ⟨i, j, rfl, q _ _ (Same.refl H) rz_int⟩
def absC : GC
  | [.int i] => some (.sh (.int (if i < 0 then -i else i)))
  | _ => none
theorem abs_A {K : Frag} : CbA K (fun xs H Q => ∃ i, xs = [.int i] ∧ Q (.int (if i < 0 then -i else i)) H) absC := by
  intro A H ds vs z Q hd e hx q
  match ds, e with
  | [.int i], e =>
    cases e
    obtain ⟨v, rfl, h⟩ := hx.one
    rw [h.int]
    exact ⟨i, rfl, q _ _ (Same.refl H) rz_int⟩
def boolsD : List D → Option (List Bool)
  | [] => some []
  | .bool b :: r => (boolsD r).map (b :: ·)
  | _ => none
theorem boolsD_ok {K : Frag} {A : AS} {H : Hp} : ∀ {ds : List D} {bs : List Bool} {vs : List V}, boolsD ds = some bs → RpL K A H ds vs → vs = bs.map V.bl
  | [], bs, vs, e, h => by cases e; exact h.inv_nil
  | d :: r, bs, vs, e, h => by
    obtain ⟨v, t, rfl, h1, h2⟩ := h.inv_cons
    cases d with
    | bool b =>
      unfold boolsD at e
      cases q : boolsD r with
      | none => rw [q] at e; cases e
      | some bs' =>
        rw [q] at e
        cases e
        rw [boolsD_ok q h2]
        simp only [Rp] at h1
        rw [h1]
        rfl
    | _ => cases e
def intsD : List D → Option (List Int)
  | [] => some []
  | .int b :: r => (intsD r).map (b :: ·)
  | _ => none
theorem intsD_ok {K : Frag} {A : AS} {H : Hp} : ∀ {ds : List D} {bs : List Int} {vs : List V}, intsD ds = some bs → RpL K A H ds vs → vs = bs.map V.int
  | [], bs, vs, e, h => by cases e; exact h.inv_nil
  | d :: r, bs, vs, e, h => by
    obtain ⟨v, t, rfl, h1, h2⟩ := h.inv_cons
    cases d with
    | int b =>
      unfold intsD at e
      cases q : intsD r with
      | none => rw [q] at e; cases e
      | some bs' =>
        rw [q] at e
        cases e
        rw [intsD_ok q h2]
        simp only [Rp] at h1
        rw [h1]
        rfl
    | _ => cases e
def strsD : List D → Option (List Str)
  | [] => some []
  | .str b :: r => (strsD r).map (b :: ·)
  | _ => none
theorem strsD_ok {K : Frag} {A : AS} {H : Hp} : ∀ {ds : List D} {bs : List Str} {vs : List V}, strsD ds = some bs → RpL K A H ds vs → vs = bs.map V.str
  | [], bs, vs, e, h => by cases e; exact h.inv_nil
  | d :: r, bs, vs, e, h => by
    obtain ⟨v, t, rfl, h1, h2⟩ := h.inv_cons
    cases d with
    | str b =>
      unfold strsD at e
      cases q : strsD r with
      | none => rw [q] at e; cases e
      | some bs' =>
        rw [q] at e
        cases e
        rw [strsD_ok q h2]
        simp only [Rp] at h1
        rw [h1]
        rfl
    | _ => cases e
theorem boolsD_map (l : List Bool) : boolsD (l.map PyData.bool) = some l := by
  induction l with
  | nil => rfl
  | cons b r ih => simp [boolsD, ih]
theorem intsD_map (l : List Int) : intsD (l.map PyData.int) = some l := by
  induction l with
  | nil => rfl
  | cons b r ih => simp [intsD, ih]
theorem strsD_map (l : List Str) : strsD (l.map PyData.str) = some l := by
  induction l with
  | nil => rfl
  | cons b r ih => simp [strsD, ih]
def bbC (f : List Bool → Bool) : GC
  | [.list ds] => (boolsD ds).map fun bs => .sh (.bool (f bs))
  | _ => none
theorem bb_A {K : Frag} {f : List Bool → Bool} : CbA K (fun vs H Q => ∃ (a : Addr) (bs : List Bool), vs = [V.ref a] ∧ SqL K H a (bs.map V.bl) ∧ Q (.bl (f bs)) H) (bbC f) := by
  intro A H ds vs z Q hd e hx q
  match ds, e with
  | [.list l], e =>
    obtain ⟨v, rfl, h⟩ := hx.one
    dsimp only [bbC] at e
    cases q1 : boolsD l with
    | none => rw [q1] at e; cases e
    | some bs =>
      rw [q1] at e
      cases e
      obtain ⟨a, xs, rfl, sl, r⟩ := h.lst
      rw [boolsD_ok q1 r] at sl
      exact ⟨a, bs, rfl, sl, q _ _ (Same.refl H) rz_bl⟩
def allC : GC := bbC fun bs => bs.all id
def anyC : GC := bbC fun bs => bs.any id
def sumC : GC
  | [.list ds] => (intsD ds).map fun bs => .sh (.int bs.sum)
  | _ => none
theorem sum_A {K : Frag} : CbA K (rSum K) sumC := by
  intro A H ds vs z Q hd e hx q
  match ds, e with
  | [.list l], e =>
    obtain ⟨v, rfl, h⟩ := hx.one
    dsimp only [sumC] at e
    cases q1 : intsD l with
    | none => rw [q1] at e; cases e
    | some bs =>
      rw [q1] at e
      cases e
      obtain ⟨a, xs, rfl, sl, r⟩ := h.lst
      rw [intsD_ok q1 r] at sl
      exact ⟨a, bs, rfl, sl, q _ _ (Same.refl H) rz_int⟩
def sortI (l : List Int) : List Int := l.mergeSort (fun a b => decide (a ≤ b))
theorem sortI_spec {l l' : List Int} (p : l'.Perm l) (s : l'.Pairwise (· ≤ ·)) : l' = sortI l := by
  have h1 : (sortI l).Pairwise (· ≤ ·) := by
    have := List.pairwise_mergeSort (le := fun a b : Int => decide (a ≤ b)) (fun a b c h1 h2 => by simp at *; omega) (fun a b => by simp; omega) l
    exact this.imp fun h => by simpa using h
  have h2 : (sortI l).Perm l := List.mergeSort_perm l _
  exact List.Perm.eq_of_pairwise (le := (· ≤ ·)) (fun a b _ _ h1 h2 => Int.le_antisymm h1 h2) s h1 (p.trans h2.symm)
def sortedC : GC
  | [.list ds] => (intsD ds).map fun bs => .tm (.list ((sortI bs).map PyData.int))
  | _ => none
theorem rpl_ints {K : Frag} {A : AS} {H : Hp} : ∀ (l : List Int), RpL K A H (l.map PyData.int) (l.map V.int)
  | [] => .nil
  | _ :: r => .cons rp_int (rpl_ints r)
theorem rpl_strs {K : Frag} {A : AS} {H : Hp} : ∀ (l : List Str), RpL K A H (l.map PyData.str) (l.map V.str)
  | [] => .nil
  | _ :: r => .cons rp_str (rpl_strs r)
theorem sorted_A {K : Frag} : CbA K (rSortedI K) sortedC := by
  intro A H ds vs z Q hd e hx q
  match ds, e with
  | [.list l], e =>
    obtain ⟨v, rfl, h⟩ := hx.one
    dsimp only [sortedC] at e
    cases q1 : intsD l with
    | none => rw [q1] at e; cases e
    | some bs =>
      rw [q1] at e
      cases e
      obtain ⟨a, xs, rfl, sl, r⟩ := h.lst
      rw [intsD_ok q1 r] at sl
      refine ⟨a, bs, rfl, sl, fun ns' p pm pw n => q _ _ (same_upd n) ?_⟩
      rw [sortI_spec pm pw]
      exact rz_lst n (rpl_ints _)
/-- list(x), tuple(x) -/
def listC : GC
  | [.list ds] => some (.tm (.list ds))
  | [.tuple ds] => some (.tm (.list ds))
  | _ => none
theorem list_A {K : Frag} : CbA K (fun xs H Q => ∃ p ys, xs = [V.ref p] ∧ (SqL K H p ys ∨ SqT K H p ys) ∧ ∀ l, H l = none → Q (.ref l) (upd H l (.lst ys))) listC := by
  intro A H ds vs z Q hd e hx q
  match ds, e with
  | [.list l], e =>
    cases e
    obtain ⟨v, rfl, h⟩ := hx.one
    obtain ⟨a, xs, rfl, sl, r⟩ := h.lst
    exact ⟨a, xs, rfl, .inl sl, fun p n => q _ _ (same_upd n) (rz_lst n r)⟩
  | [.tuple l], e =>
    cases e
    obtain ⟨v, rfl, h⟩ := hx.one
    obtain ⟨a, xs, rfl, sl, r⟩ := h.tup
    exact ⟨a, xs, rfl, .inr sl, fun p n => q _ _ (same_upd n) (rz_lst n r)⟩
def tupleC : GC
  | [.list ds] => some (.sh (.tuple ds))
  | [.tuple ds] => some (.sh (.tuple ds))
  | _ => none
theorem tuple_A {K : Frag} : CbA K (fun xs H Q => ∃ p ys, xs = [V.ref p] ∧ ((SqL K H p ys ∧ ∀ l, H l = none → Q (.ref l) (upd H l (.tup ys))) ∨ (SqT K H p ys ∧ Q (.ref p) H))) tupleC := by
  intro A H ds vs z Q hd e hx q
  match ds, e with
  | [.list l], e =>
    cases e
    obtain ⟨v, rfl, h⟩ := hx.one
    obtain ⟨a, xs, rfl, sl, r⟩ := h.lst
    exact ⟨a, xs, rfl, .inl ⟨sl, fun p n => q _ _ (same_upd n) (rp_tup n r)⟩⟩
  | [.tuple l], e =>
    cases e
    obtain ⟨v, rfl, h⟩ := hx.one
    obtain ⟨a, xs, rfl, sl, r⟩ := h.tup
    refine ⟨a, xs, rfl, .inr ⟨sl, q _ _ (Same.refl H) ?_⟩⟩
    show Rp K A H (.tuple l) _
    simp only [Rp]
    exact ⟨a, xs, rfl, sl, r⟩
/-- str(x), x a str -/
def strC : GC
  | [.str x] => some (.sh (.str x))
  | _ => none
theorem strC_A {K : Frag} : CbA K (fun xs H Q => ∃ a, xs = [V.str a] ∧ Q (.str a) H) strC := by
  intro A H ds vs z Q hd e hx q
  match ds, e with
  | [.str i], e =>
    cases e
    obtain ⟨v, rfl, h⟩ := hx.one
    rw [h.str]
    exact ⟨i, rfl, q _ _ (Same.refl H) rz_str⟩
theorem boot_len' : bootBuiltins "len" = some (.builtin "len") := by decide +kernel
theorem boot_int' : bootBuiltins "int" = some (.type "int") := by decide +kernel
theorem boot_max' : bootBuiltins "max" = some (.builtin "max") := by decide +kernel
theorem boot_min' : bootBuiltins "min" = some (.builtin "min") := by decide +kernel
theorem boot_abs' : bootBuiltins "abs" = some (.builtin "abs") := by decide +kernel
theorem boot_all' : bootBuiltins "all" = some (.builtin "all") := by decide +kernel
theorem boot_any' : bootBuiltins "any" = some (.builtin "any") := by decide +kernel
theorem boot_sum' : bootBuiltins "sum" = some (.builtin "sum") := by decide +kernel
theorem boot_sorted' : bootBuiltins "sorted" = some (.builtin "sorted") := by decide +kernel
theorem boot_list' : bootBuiltins "list" = some (.type "list") := by decide +kernel
theorem boot_tuple' : bootBuiltins "tuple" = some (.type "tuple") := by decide +kernel
theorem boot_str' : bootBuiltins "str" = some (.type "str") := by decide +kernel
theorem boot_bool' : bootBuiltins "bool" = some (.type "bool") := by decide +kernel
theorem boot_dict' : bootBuiltins "dict" = some (.type "dict") := by decide +kernel
theorem boot_isinstance' : bootBuiltins "isinstance" = some (.builtin "isinstance") := by decide +kernel
def maxI (i j : Int) : Int := if j > i then j else i
def minI (i j : Int) : Int := if j < i then j else i
/-! by name: the rule and its adequacy, as one -/
structure BI (X : Cx) (x : Str) (g : GC) : Prop where
  ex : ∃ (f : Value) (r : RC), CallR X f r ∧ CbA X.K r g ∧ bootBuiltins x = some f ∧ ((∃ id, f = .builtin id) ∨ ∃ T, f = .type T)
  nn : x ≠ "__name__"
  nd : (x == ("__debug__" : Str)) = false
section
variable {X : Cx} {W : WX} {x : Str} {p pos : Pos} {e : Expr} {es : List Expr} {fs : AF} {g : GC}
theorem e_bi (b : BI X x g) (hm : X.mg x = none) (ha : PA X (e :: es) (tA (gd X W) fs)) (hg : Gl X x := by rfl)
    (he : starEach (e :: es) X.env = (false, eval e X.env) :: starEach es X.env := by rfl) (hpl : (backTo pos (starEach es X.env)).any (·.1) = false := by rfl) : PE X (.Call (.Name x p) (e :: es) [] pos) (tE (gd X W) (cbF g fs)) := by
  obtain ⟨⟨f, r, h1, h2, h3, h4⟩, nn, nd⟩ := b
  rcases h4 with ⟨id, rfl⟩ | ⟨T, rfl⟩
  · exact e_cb h1 h2 h3 hg hm ha nn nd he hpl
  · exact e_cty h1 h2 h3 hg hm ha nn nd he hpl
theorem b_len : BI X "len" lenG := ⟨⟨_, _, call_len, len_A, boot_len', .inl ⟨_, rfl⟩⟩, by decide, by decide⟩
theorem b_int : BI X "int" intC := ⟨⟨_, _, call_int1, intC_A, boot_int', .inr ⟨_, rfl⟩⟩, by decide, by decide⟩
theorem b_max (hc : X.calm = true) : BI X "max" (ii2 maxI) := ⟨⟨_, _, call_max2 hc, ii2_A, boot_max', .inl ⟨_, rfl⟩⟩, by decide, by decide⟩
theorem b_min (hc : X.calm = true) : BI X "min" (ii2 minI) := ⟨⟨_, _, call_min2 hc, ii2_A, boot_min', .inl ⟨_, rfl⟩⟩, by decide, by decide⟩
theorem b_abs : BI X "abs" absC := ⟨⟨_, _, call_abs, abs_A, boot_abs', .inl ⟨_, rfl⟩⟩, by decide, by decide⟩
theorem b_all (hc : X.calm = true) : BI X "all" allC := ⟨⟨_, _, cr_all hc, bb_A, boot_all', .inl ⟨_, rfl⟩⟩, by decide, by decide⟩
theorem b_any (hc : X.calm = true) : BI X "any" anyC := ⟨⟨_, _, cr_any hc, bb_A, boot_any', .inl ⟨_, rfl⟩⟩, by decide, by decide⟩
theorem b_sum (hc : X.calm = true) : BI X "sum" sumC := ⟨⟨_, _, cr_sum hc, sum_A, boot_sum', .inl ⟨_, rfl⟩⟩, by decide, by decide⟩
theorem b_sorted : BI X "sorted" sortedC := ⟨⟨_, _, cr_sortedI, sorted_A, boot_sorted', .inl ⟨_, rfl⟩⟩, by decide, by decide⟩
theorem b_list : BI X "list" listC := ⟨⟨_, _, call_list_of, list_A, boot_list', .inr ⟨_, rfl⟩⟩, by decide, by decide⟩
theorem b_tuple : BI X "tuple" tupleC := ⟨⟨_, _, call_tuple_of, tuple_A, boot_tuple', .inr ⟨_, rfl⟩⟩, by decide, by decide⟩
theorem b_str : BI X "str" strC := ⟨⟨_, _, SkE.call_str_str, strC_A, boot_str', .inr ⟨_, rfl⟩⟩, by decide, by decide⟩
end

/-! ### isinstance -/
def tyD : D → String
  | .none => "NoneType"
  | .bool _ => "bool"
  | .int _ => "int"
  | .str _ => "str"
  | .list _ => "list"
  | .tuple _ => "tuple"
  | .dict _ => "dict"
def isiTb (t T : String) : Bool := t == T || (t == "bool" && T == "int")
def tyNames : List String := ["NoneType", "bool", "int", "str", "list", "tuple", "dict"]
def clNames : List String := ["bool", "int", "str", "list", "tuple", "dict"]
theorem kitB_tab : (tyNames.all fun t => clNames.all fun T => kitB t T == some (isiTb t T)) = true := by decide +kernel
theorem tyD_mem (d : D) : tyD d ∈ tyNames := by cases d <;> simp [tyD, tyNames]
theorem kitB_ok {d : D} {T : String} (h : T ∈ clNames) : kitB (tyD d) T = some (isiTb (tyD d) T) := by
  have := List.all_eq_true.mp (List.all_eq_true.mp kitB_tab _ (tyD_mem d)) T h
  simpa using this
/-- what isinstance can tell: dicts with tuples as keys are left out -/
def isiOk : D → Bool
  | .dict kvs => !kindT kvs
  | _ => true
theorem sql_ty {K : Frag} {H : Hp} {a : Addr} {xs : List V} (h : SqL K H a xs) : TyX K H (.ref a) (.type "list") := by
  rcases h with (h | ⟨o, h⟩) | ⟨o, its, n, h, hc, _⟩
  · exact .base (.lst h)
  · exact .base (.frz h)
  · exact .kList h hc
theorem sqt_ty {K : Frag} {H : Hp} {a : Addr} {xs : List V} (h : SqT K H a xs) : TyX K H (.ref a) (.type "tuple") := by
  rcases h with (h | ⟨o, h⟩) | ⟨o, its, n, h, hc, _⟩
  · exact .base (.tup h)
  · exact .fTuple h
  · exact .kTuple h hc
theorem kk_kind {K : Frag} {A : AS} {H : Hp} {kvs : List (D × D)} {ks : List (List Key × V)} (h : RpT0 K A H kvs ks) : kindT kvs = true := by
  cases kvs with
  | nil => simp only [RpT0] at h
  | cons p q =>
    obtain ⟨p1, p2⟩ := p
    simp only [RpT0] at h
    obtain ⟨rfl, _⟩ := h
    rfl
theorem ty_ok {K : Frag} {A : AS} {H : Hp} {d : D} {v : V} (h : Rq K A H d v) (c : isiOk d = true) : TyX K H v (.type (tyD d)) := by
  cases d with
  | none => rw [h.non]; exact .base .non
  | bool b => rw [h.bl]; exact .base (.bl b)
  | int i => rw [h.int]; exact .base (.int i)
  | str x => rw [h.str]; exact .base (.str x)
  | list ds => obtain ⟨a, xs, rfl, l, r⟩ := h.lst; exact sql_ty l
  | tuple ds => obtain ⟨a, xs, rfl, l, r⟩ := h.tup; exact sqt_ty l
  | dict kvs =>
    obtain ⟨a, rfl, l⟩ := h.dct
    rcases l with ⟨ks, l, r⟩ | ⟨ks, l, r⟩
    · rcases l with l | ⟨o, l⟩
      · exact .base (.dK l)
      · exact .fDict l
    · have := kk_kind r
      simp only [isiOk, this] at c
      cases c
def isiG (T : String) : G1 := fun d => if isiOk d = true then some (.sh (.bool (isiTb (tyD d) T))) else none
def isiF (T : String) (f : EF) : EF := unF (isiG T) f
/-- isinstance(e, (T1, T2)) -/
def isi2G (T U : String) : G1 := fun d => if isiOk d = true then some (.sh (.bool (isiTb (tyD d) T || isiTb (tyD d) U))) else none
section
variable {X : Cx} {W : WX} {e : Expr} {f : EF} {p p2 p3 p4 pos : Pos} {x y : Str} {T U : String}
theorem e_isi (hi : X.mg "isinstance" = none) (hT : X.mg x = none) (hv : bootBuiltins x = some (.type T)) (hc : T ∈ clNames) (he : PE X e (tE (gd X W) f)) (hg : Gl X "isinstance" := by rfl) (hgT : Gl X x := by rfl) (hn : x ≠ "__name__" := by decide) (hdb : (x == ("__debug__" : Str)) = false := by decide)
    (hs : starEach [e, .Name x p2] X.env = (false, eval e X.env) :: starEach [.Name x p2] X.env := by rfl) (hs2 : starEach [.Name x p2] X.env = (false, eval (.Name x p2) X.env) :: starEach [] X.env := by rfl)
    (hpl : (backTo pos (starEach [.Name x p2] X.env)).any (·.1) = false := by rfl) : PE X (.Call (.Name "isinstance" p) [e, .Name x p2] [] pos) (tE (gd X W) (isiF T f)) :=
  PE.imp (pe_callB call_isi hg hi boot_isinstance' (pa_cons he (pa_cons (pe_bltn (v := .ty T) hgT hT hv rfl hn hdb) pa_nil hs2) hs) (by decide) (by decide) hs hpl) fun σ H Q h => by
    obtain ⟨A, env, rel, h⟩ := h
    refine ⟨A, env, rel, (Post.bind h).imp fun r1 e1 A1 H1 s1 h1 v hv => ?_⟩
    cases q1 : rd e1 r1 with
    | none => rw [q1] at h1; exact h1.elim
    | some d =>
      rw [q1] at h1
      dsimp only [isiG] at h1
      by_cases c : isiOk d = true
      · rw [if_pos c] at h1
        refine ⟨v, .ty T, .type (tyD d), .type T, isiTb (tyD d) T, rfl, .ty T, ty_ok (hv.rq s1.rel q1) c, kit_ty (kitB_ok hc), ?_⟩
        exact fin1 s1 h1 (Same.refl H1) rz_bl
      · rw [if_neg c] at h1; exact h1.elim
theorem e_isi2 {k : Nat} (hi : X.mg "isinstance" = none) (hT : X.mg x = none) (hU : X.mg y = none) (hv : bootBuiltins x = some (.type T)) (hw : bootBuiltins y = some (.type U)) (hc : T ∈ clNames) (hd : U ∈ clNames) (he : PE X e (tE (gd X W) f)) (hg : Gl X "isinstance" := by rfl)
    (hgT : Gl X x := by rfl) (hgU : Gl X y := by rfl) (hn : x ≠ "__name__" := by decide) (hdb : (x == ("__debug__" : Str)) = false := by decide) (hn2 : y ≠ "__name__" := by decide) (hdb2 : (y == ("__debug__" : Str)) = false := by decide)
    (hs : starEach [e, .Tuple [.Name x p2, .Name y p3] k p4] X.env = (false, eval e X.env) :: starEach [.Tuple [.Name x p2, .Name y p3] k p4] X.env := by rfl)
    (hs2 : starEach [.Tuple [.Name x p2, .Name y p3] k p4] X.env = (false, eval (.Tuple [.Name x p2, .Name y p3] k p4) X.env) :: starEach [] X.env := by rfl)
    (hs3 : starEach [.Name x p2, .Name y p3] X.env = (false, eval (.Name x p2) X.env) :: starEach [.Name y p3] X.env := by rfl) (hs4 : starEach [.Name y p3] X.env = (false, eval (.Name y p3) X.env) :: starEach [] X.env := by rfl)
    (hpl : (backTo pos (starEach [.Tuple [.Name x p2, .Name y p3] k p4] X.env)).any (·.1) = false := by rfl) : PE X (.Call (.Name "isinstance" p) [e, .Tuple [.Name x p2, .Name y p3] k p4] [] pos) (tE (gd X W) (unF (isi2G T U) f)) :=
  PE.imp (pe_callB call_isiT hg hi boot_isinstance' (pa_cons he (pa_cons (pe_tup (pa_cons (pe_bltn (v := .ty T) hgT hT hv rfl hn hdb) (pa_cons (pe_bltn (v := .ty U) hgU hU hw rfl hn2 hdb2) pa_nil hs4) hs3)) pa_nil hs2) hs) (by decide) (by decide) hs hpl) fun σ H Q h => by
    obtain ⟨A, env, rel, h⟩ := h
    refine ⟨A, env, rel, (Post.bind h).imp fun r1 e1 A1 H1 s1 h1 v hv => ⟨le_line (show 2 ≤ LIM by decide), fun q n => ?_⟩⟩
    cases q1 : rd e1 r1 with
    | none => rw [q1] at h1; exact h1.elim
    | some d =>
      rw [q1] at h1
      dsimp only [isi2G] at h1
      by_cases c : isiOk d = true
      · rw [if_pos c] at h1
        have sm : Same H1 (upd H1 q (.tup [.ty T, .ty U])) := same_upd n
        have st := Stp.same s1.rel sm
        have k1 := kitB_ok (d := d) hc
        have k2 := kitB_ok (d := d) hd
        refine ⟨v, q, [.ty T, .ty U], .type (tyD d), [.type T, .type U], isiTb (tyD d) T || isiTb (tyD d) U, rfl, upd_same, .cons (.ty T) (.cons (.ty U) .nil), ty_ok ((hv.step s1.rel st).rq st.rel q1) c, ?_, ?_⟩
        · refine kitAny_cons (kit_ty k1) (fun z => ?_) fun z => by rw [z]; rfl
          rw [z, Bool.false_or]
          exact kitAny_cons (kit_ty k2) (fun z => by rw [z]; exact kitAny_nil) fun z => z
        · exact fin1 s1 h1 sm rz_bl
      · rw [if_neg c] at h1; exact h1.elim
end
end VL


set_option Elab.async false
set_option linter.all false
set_option maxRecDepth 100000
set_option maxHeartbeats 2000000
namespace VL
open PySem PySem.Spec PyProof.Rows L2
variable [TbP]

/-! ### names of the module -/
def GlD (K : Frag) (mg : Str → Option Value) (x : Str) (d : D) : Prop := ∃ v u, mg x = some u ∧ RelV v u ∧ ∀ A H, Rp K A H d v
section
variable {X : Cx} {W : WX} {pos : Pos} {x : Str} {d : D}
theorem e_gl (h : GlD X.K X.mg x d) (hg : Gl X x := by rfl) (hd : (x == ("__debug__" : Str)) = false := by decide) : PE X (.Name x pos) (tE (gd X W) (cF d)) := by
  obtain ⟨v, u, hm, r, hr⟩ := h
  exact e_c (pe_glob hg hm r hd) hr
end

/-! ### subscripts -/
def ixSeqG : G2
  | .list ds, .int i => (atI ds i).map .sh
  | .tuple ds, .int i => (atI ds i).map .sh
  | .str z, .int i => if z.length ≤ LIM then (atI z.cps.toList i).map fun c => .sh (.str ⟨#[c]⟩) else none
  | _, _ => none
theorem RpL.atI {K : Frag} {A : AS} {H : Hp} {ds : List D} {vs : List V} {i : Int} {d : D} (h : RpL K A H ds vs) (e : L2.atI ds i = some d) : ∃ v, L2.atI vs i = some v ∧ Rp K A H d v := by
  unfold L2.atI at e ⊢
  rw [← h.length]
  cases q : ixN ds.length i with
  | none => rw [q] at e; cases e
  | some j =>
    rw [q] at e
    exact h.get (by simpa using e)
theorem ixSeq_A {K : Frag} : OpA K (rIx K) ixSeqG := by
  intro A H x y vx vy z Q hd e hx hy q
  match x, y, e with
  | .list ds, .int i, e =>
    dsimp only [ixSeqG] at e
    cases q1 : atI ds i with
    | none => rw [q1] at e; cases e
    | some d =>
      rw [q1] at e
      cases e
      obtain ⟨a, xs, rfl, sl, r⟩ := hx.lst
      obtain ⟨v, e2, rv⟩ := r.atI q1
      exact .inl ⟨a, xs, i, v, rfl, hy.int, sl, e2, q _ _ (Same.refl H) rv⟩
  | .tuple ds, .int i, e =>
    dsimp only [ixSeqG] at e
    cases q1 : atI ds i with
    | none => rw [q1] at e; cases e
    | some d =>
      rw [q1] at e
      cases e
      obtain ⟨a, xs, rfl, sl, r⟩ := hx.tup
      obtain ⟨v, e2, rv⟩ := r.atI q1
      exact .inr (.inl ⟨a, xs, i, v, rfl, hy.int, sl, e2, q _ _ (Same.refl H) rv⟩)
  | .str s, .int i, e =>
    dsimp only [ixSeqG] at e
    by_cases c : s.length ≤ LIM
    · rw [if_pos c] at e
      cases q1 : atI s.cps.toList i with
      | none => rw [q1] at e; cases e
      | some d =>
        rw [q1] at e
        cases e
        exact .inr (.inr ⟨s, i, d, hx.str, hy.int, le_line c, q1, q _ _ (Same.refl H) rz_str⟩)
    · rw [if_neg c] at e; cases e
/-- d[k] of a dict -/
def rIxDS (K : Frag) : R2 := fun x y H Q => ∃ a v, x = .ref a ∧ DGetS K H a y (some v) ∧ Q v H
theorem ix_dict {X : Cx} (hu : X.A.units + 1 < cLine) : IxR X (rIxDS X.K) := by
  intro value slice pins s σ H x y v u Q I rx ry h hs
  obtain ⟨p, w, rfl, g, q⟩ := h
  obtain rfl : v = Value.ref p := rx
  have ty : s.TypeIs (.ref p) "dict" := by
    rcases g with ⟨kvs, k, e, _⟩ | ⟨kvs, k, b, e, _⟩
    · rcases e with e | ⟨ob, e⟩
      · obtain ⟨_, _, vs, _, o, es, ep, h1, h2, _⟩ := (show ObjOk X.prog X.w H s.heap p (.dK kvs) from I.hok p _ e)
        exact ⟨o, h1, h2.1⟩
      · obtain ⟨_, _, _, vs, _, o, es, ep, h1, h2, _⟩ := (show ObjOk X.prog X.w H s.heap p (.frz ob (.dK kvs)) from I.hok p _ e)
        exact ⟨o, h1, h2.1⟩
    · obtain ⟨z, hd, xs, rel, dd⟩ := dt_rd I.hok e
      exact dd.typeIs
  exact tail_any ty slot_dict_getitem.lookup (dS_getItem hu I g ry fun w' s' I' r' => ⟨w, H, I', r', q⟩) hs
def ixDctG : G2
  | .dict kvs, x => if (isKey1 x && !kindT kvs) || (isKeyT x && kindT kvs) then (dfind kvs x).map .sh else none
  | _, _ => none
theorem ixDct_A {K : Frag} : OpA K (rIxDS K) ixDctG := by
  intro A H x y vx vy z Q hd e hx hy q
  cases x with
  | dict kvs =>
    simp only [ixDctG] at e
    by_cases c : ((isKey1 y && !kindT kvs) || (isKeyT y && kindT kvs)) = true
    · rw [if_pos c] at e
      obtain ⟨a, o, ea, g, ro⟩ := dget_of c hy hx
      cases q1 : dfind kvs y with
      | none => rw [q1] at e; cases e
      | some d =>
        rw [q1] at e ro
        cases e
        cases o with
        | none => exact ro.elim
        | some v => exact ⟨a, v, ea, g, q _ _ (Same.refl H) ro⟩
    · rw [if_neg c] at e; cases e
  | _ => cases y <;> cases e
def ixG : G2 := orG ixSeqG ixDctG
section
variable {X : Cx} {W : WX} {a b : Expr} {fa fb : EF} {pos : Pos} {k : Nat}
theorem e_ix (hr : Room k X.A) (ha : PE X a (tE (gd X W) fa)) (hb : PE X b (tE (gd X W) fb)) (hs : PlainIx b := by intro _ _; rfl) : PE X (.Subscript a b pos) (tE (gd X W) (opF ixG fa fb)) :=
  PE.imp (pe_ix (ix_seq.or (ix_dict (room1 hr))) ha hb hs) fun _ _ _ h => opF_sound (G := gd X W) (ixSeq_A.or ixDct_A) h
end

/-! ### slices -/
def cutX {α : Type} (xs : List α) (lo hi : Option Int) : List α := (xs.drop (HT.sIx xs.length 0 lo)).take (HT.sIx xs.length xs.length hi - HT.sIx xs.length 0 lo)
abbrev OF := En → Rs (Option Int)
def tO (G : Gd) (f : OF) : TO := fun σ H Q => ∃ A env, Rel G.K A σ H env ∧ Post G A σ H env (f env) fun o _ _ H' => Q o H'
def noneF : OF := fun env => .ok none env
def someF (f : EF) : OF := fun env => (f env).bind fun r e => match rd e r with
  | some (.int i) => .ok (some i) e
  | _ => .no
theorem PO.imp {X : Cx} {e : Option Expr} {t t' : TO} (h : PO X e t) (i : ∀ σ H Q, t' σ H Q → t σ H Q) : PO X e t' := ⟨fun pins s σ H Q I q => h.run pins s σ H Q I (i σ H Q q)⟩
def sliceG (d : D) (lo hi : Option Int) : Option Rv := match d with
  | .list ds => some (.tm (.list (cutX ds lo hi)))
  | .tuple ds => some (.sh (.tuple (cutX ds lo hi)))
  | .str z => if z.length ≤ LIM then some (.sh (.str (cutS z lo hi))) else none
  | _ => none
def slF (f : EF) (l h : OF) : EF := fun env => (f env).bind fun r e1 => (l e1).bind fun lo e2 => (h e2).bind fun hi e3 => match rd e3 r with
  | some d => out1 (sliceG d lo hi) e3
  | none => .no
theorem RpL.cut {K : Frag} {A : AS} {H : Hp} {ds : List D} {vs : List V} {lo hi : Option Int} (h : RpL K A H ds vs) : RpL K A H (cutX ds lo hi) (cutV vs lo hi) := by
  unfold cutX cutV
  rw [← h.length]
  exact (h.drop _).take _
section
variable {X : Cx} {W : WX} {e : Expr} {lo hi : Option Expr} {f : EF} {fl fh : OF} {pos p2 p1 p3 : Pos}
theorem o_none : PO X none (tO (gd X W) noneF) := PO.imp po_none fun σ H Q h => by
  obtain ⟨A, env, rel, h⟩ := h
  exact h A H (.refl rel)
theorem o_some (h : PE X e (tE (gd X W) f)) : PO X (some e) (tO (gd X W) (someF f)) := PO.imp (po_some h) fun σ H Q h => by
  obtain ⟨A, env, rel, h⟩ := h
  refine ⟨A, env, rel, (Post.bind h).imp fun r e1 A1 H1 s1 h1 v hv => ?_⟩
  cases q : rd e1 r with
  | none => rw [q] at h1; exact h1.elim
  | some d =>
    rw [q] at h1
    cases d with
    | int i => exact ⟨i, (hv.rq s1.rel q).int, h1 A1 H1 (.refl s1.rel)⟩
    | _ => exact h1.elim
theorem e_sl (he : PE X e (tE (gd X W) f)) (hl : PO X lo (tO (gd X W) fl)) (hu : PO X hi (tO (gd X W) fh)) : PE X (.Subscript e (.Slice lo hi none p2) pos) (tE (gd X W) (slF f fl fh)) :=
  PE.imp (pe_slice (sl_list.or (sl_tupA.or sl_str)) he hl hu) fun σ H Q h => by
    obtain ⟨A, env, rel, h⟩ := h
    refine ⟨A, env, rel, (Post.bind h).imp fun r e1 A1 H1 s1 h1 v hv => ?_⟩
    refine ⟨A1, e1, s1.rel, (Post.bind h1).imp fun lo e2 A2 H2 s2 h2 => ?_⟩
    refine ⟨A2, e2, s2.rel, (Post.bind h2).imp fun hi e3 A3 H3 s3 h3 => ?_⟩
    have hv3 := (hv.step s1.rel s2).step s2.rel s3
    cases q : rd e3 r with
    | none => rw [q] at h3; exact h3.elim
    | some d =>
      rw [q] at h3
      dsimp only at h3
      have rq := hv3.rq s3.rel q
      have st := (s1.trans s2).trans s3
      match d, h3, rq with
      | .list ds, h3, rq =>
        obtain ⟨a, xs, rfl, sl, r⟩ := rq.lst
        exact .inl ⟨a, xs, rfl, sl, fun p n => fin1 st h3 (same_upd n) (rz_lst n r.cut)⟩
      | .tuple ds, h3, rq =>
        obtain ⟨a, xs, rfl, sl, r⟩ := rq.tup
        refine .inr (.inl ⟨a, xs, rfl, sl, fun w => ?_, fun w p n => fin1 st h3 (same_upd n) (rp_tup n r.cut)⟩)
        refine fin1 st h3 (Same.refl H3) ?_
        have ec : cutX ds lo hi = ds := by
          unfold cutX
          rw [r.length, w.1, w.2]
          simp [← r.length]
        show Rp X.K A3 H3 (.tuple (cutX ds lo hi)) _
        rw [ec]
        simp only [Rp]
        exact ⟨a, xs, rfl, sl, r⟩
      | .str z, h3, rq =>
        dsimp only [sliceG] at h3
        by_cases c : z.length ≤ LIM
        · rw [if_pos c] at h3
          exact .inr (.inr ⟨z, rq.str, le_line c, fin1 st h3 (Same.refl H3) rz_str⟩)
        · rw [if_neg c] at h3; exact h3.elim
      | .none, h3, _ => exact h3.elim
      | .bool _, h3, _ => exact h3.elim
      | .int _, h3, _ => exact h3.elim
      | .dict _, h3, _ => exact h3.elim
/-- e[::-1], a list -/
def revG : G1
  | .list ds => some (.tm (.list ds.reverse))
  | _ => none
theorem e_rev {k : Nat} (he : PE X e (tE (gd X W) f)) : PE X (.Subscript e (.Slice none none (some (.UnaryOp .USub (.Constant (.int 1) k p1) p2)) p3) pos) (tE (gd X W) (unF revG f)) :=
  PE.imp (pe_revL he) fun σ H Q h => by
    obtain ⟨A, env, rel, h⟩ := h
    refine ⟨A, env, rel, (Post.bind h).imp fun r e1 A1 H1 s1 h1 v hv => ?_⟩
    cases q : rd e1 r with
    | none => rw [q] at h1; exact h1.elim
    | some d =>
      rw [q] at h1
      have rq := hv.rq s1.rel q
      match d, h1, rq with
      | .list ds, h1, rq =>
        obtain ⟨a, xs, rfl, sl, r⟩ := rq.lst
        exact ⟨a, xs, rfl, sl, fun p n => fin1 s1 h1 (same_upd n) (rz_lst n r.reverse)⟩
      | .none, h1, _ => exact h1.elim
      | .bool _, h1, _ => exact h1.elim
      | .int _, h1, _ => exact h1.elim
      | .str _, h1, _ => exact h1.elim
      | .tuple _, h1, _ => exact h1.elim
      | .dict _, h1, _ => exact h1.elim
end

/-! ### change in place -/
/-- what the slot i owns, and how it is put back -/
def mutS (e : En) (i : Nat) : Option D := match e[i]? with
  | some (.ow d) => some d
  | some (.io d) => some d
  | _ => none
def mutP (e : En) (i : Nat) (d : D) : En := match e[i]? with
  | some (.ow _) => e.set i (.ow d)
  | some (.io _) => e.set i (.io d)
  | _ => e
section
variable {K : Frag} {A A1 : AS} {σ σ1 : L2.St} {H H1 : Hp} {env e1 : En} {i : Nat} {d d' : D} {a : Addr} {o : HO}
theorem mutS_own (h : mutS e1 i = some d) : isOwn e1 i d := by
  unfold mutS at h
  cases q : e1[i]? with
  | none => rw [q] at h; cases h
  | some s =>
    rw [q] at h
    cases s with
    | ow d => cases h; exact .inl q
    | io d => cases h; exact .inr q
    | _ => cases h
theorem Stp.mut (st : Stp K A σ H env A1 σ1 H1 e1) (ho : mutS e1 i = some d) (ha : σ1[i]? = some (some (.ref a))) (hob : Ob K A1 (upd H1 a o) a d') : Stp K A σ H env A1 σ1 (upd H1 a o) (mutP e1 i d') := by
  have hown := mutS_own ho
  obtain ⟨b, eb, na, ob⟩ := st.rel.ow i d hown
  rw [ha] at eb; cases eb
  obtain ⟨o0, eo, nt⟩ := ob.some
  have kp : Kp A1 H1 (upd H1 a o) := fun x u e z => by
    have : x ≠ a := fun q => by
      subst q
      rw [eo] at e; cases e
      exact z.elim na fun z => nt z.x
    refine .inl ?_
    rw [upd_ne this]; exact e
  have lt : i < e1.length := by rcases hown with h | h <;> exact (List.getElem?_eq_some_iff.mp h).1
  -- the changed environment
  have hk : ∃ s', mutP e1 i d' = e1.set i s' ∧ ((e1[i]? = some (.ow d) ∧ s' = .ow d') ∨ (e1[i]? = some (.io d) ∧ s' = .io d')) := by
    unfold mutP
    rcases hown with h | h
    · rw [h]; exact ⟨_, rfl, .inl ⟨rfl, rfl⟩⟩
    · rw [h]; exact ⟨_, rfl, .inr ⟨rfl, rfl⟩⟩
  obtain ⟨s', e', hs⟩ := hk
  rw [e']
  have iso : ∀ j d2, isOwn (e1.set i s') j d2 → (j = i ∧ d2 = d') ∨ (j ≠ i ∧ isOwn e1 j d2) := fun j d2 h => by
    by_cases ji : j = i
    · subst ji
      unfold isOwn at h
      rw [List.getElem?_set_self lt] at h
      rcases hs with ⟨_, rfl⟩ | ⟨_, rfl⟩ <;> rcases h with h | h <;> (cases h <;> exact .inl ⟨rfl, rfl⟩)
    · refine .inr ⟨ji, ?_⟩
      unfold isOwn at h ⊢
      rw [List.getElem?_set_ne (Ne.symm ji)] at h
      exact h
  have owi : ∀ j x, Owi σ1 (e1.set i s') j x → Owi σ1 e1 j x := fun j x ⟨⟨d2, h⟩, e⟩ => by
    rcases iso j d2 h with ⟨rfl, rfl⟩ | ⟨_, h⟩
    · exact ⟨⟨d, hown⟩, e⟩
    · exact ⟨⟨d2, h⟩, e⟩
  refine ⟨⟨st.ext.fr, fun x u e n => ?_, st.ext.old, fun x h => ?_, fun t p hp => tab_upd eo nt p.1 p.2 (st.ext.tab t p hp)⟩, ⟨by simpa using st.rel.len, fun j d2 hj => ?_, fun j d2 hj => ?_, fun j k x hj hk => st.rel.ap j k x (owi j x hj) (owi k x hk), fun x h => ?_, fun j d2 hj => ?_, fun p hp => tab_upd eo nt p.1 p.2 (st.rel.tb p hp)⟩, fun x ⟨j, hj⟩ => st.sub x ⟨j, owi j x hj⟩, fun j d2 hj => ?_, fun j hj => rdAt_set (by rcases hs with ⟨_, rfl⟩ | ⟨_, rfl⟩ <;> simp [Sl.rd]) (st.rdb j hj)⟩
  · have ne : x ≠ a := fun q => by
      subst q
      rcases st.sub x ⟨i, ⟨d, hown⟩, ha⟩ with z | z
      · exact n z
      · rw [e] at z; cases z
    rw [upd_ne ne]
    exact st.ext.keep x u e n
  · by_cases q : x = a
    · subst q; rw [upd_same]; simp
    · rw [upd_ne q]; exact st.ext.al x h
  · have ji : j ≠ i := fun z => by
      subst z
      rw [List.getElem?_set_self lt] at hj
      rcases hs with ⟨_, rfl⟩ | ⟨_, rfl⟩ <;> rcases hj with hj | hj <;> cases hj
    rw [List.getElem?_set_ne (Ne.symm ji)] at hj
    obtain ⟨v, e, r⟩ := st.rel.sh j d2 hj
    exact ⟨v, e, r.mono (fun _ z => z) kp⟩
  · rcases iso j d2 hj with ⟨rfl, rfl⟩ | ⟨ji, h⟩
    · exact ⟨a, ha, na, hob⟩
    · obtain ⟨b, e, nb, ob2⟩ := st.rel.ow j d2 h
      have ne : b ≠ a := fun q => by
        subst q
        exact ji (st.rel.ap j i b ⟨⟨d2, h⟩, e⟩ ⟨⟨d, hown⟩, ha⟩)
      exact ⟨b, e, nb, ob2.mono (fun _ z => z) kp fun u z => by rw [upd_ne ne]; exact z⟩
  · by_cases q : x = a
    · subst q; rw [upd_same]; simp
    · rw [upd_ne q]; exact st.rel.dom x h
  · have ji : j ≠ i := fun z => by
      subst z
      rw [List.getElem?_set_self lt] at hj
      rcases hs with ⟨_, rfl⟩ | ⟨_, rfl⟩ <;> cases hj
    rw [List.getElem?_set_ne (Ne.symm ji)] at hj
    exact st.rel.fz j d2 hj
  · obtain ⟨q1, d1, q2⟩ := st.io j d2 hj
    refine ⟨q1, ?_⟩
    by_cases ji : j = i
    · subst ji
      rw [List.getElem?_set_self lt]
      rcases hs with ⟨h, rfl⟩ | ⟨h, rfl⟩
      · rw [h] at q2
        rcases q2 with q2 | q2 <;> cases q2
      · exact ⟨d', .inl rfl⟩
    · rw [List.getElem?_set_ne (Ne.symm ji)]
      exact ⟨d1, q2⟩
theorem Ob.tyV {K : Frag} {A : AS} {H : Hp} {a : Addr} {d : D} (h : Ob K A H a d) : L2.tyV K (tyD d) (.ref a) H := by
  cases d with
  | list ds =>
    obtain ⟨xs, e, _⟩ := h
    exact .inl ⟨rfl, xs, SqL.of e⟩
  | dict kvs =>
    rcases h with ⟨ks, e, _⟩ | ⟨ks, e, _⟩
    · exact .inr (.inr (.inl ⟨rfl, .inl ⟨ks, e⟩⟩))
    · exact .inr (.inr (.inl ⟨rfl, .inr ⟨ks, e⟩⟩))
  | _ => exact h.elim
end
abbrev GM := D → List D → Option (D × D)
/-- a method that changes: from what is owned and the arguments, its result and what is owned then -/
def MuA (K : Frag) (r : V → List V → Hp → VK → Prop) (g : GM) : Prop := ∀ (A : AS) (H : Hp) (a : Addr) (d : D) (ds : List D) (xs : List V) (res d' : D) (Q : VK), ¬ A a → Ob K A H a d → RpL K A H ds xs → g d ds = some (res, d') →
  (∀ (o : HO) (v : V), Ob K A (upd H a o) a d' → Rp K A (upd H a o) res v → Q v (upd H a o)) → r (.ref a) xs H Q
def muF (T : String) (g : GM) (f : EF) (fs : AF) : EF := fun env => (f env).bind fun r e1 => match r with
  | .bo i => (match mutS e1 i with
    | some d0 => if tyD d0 = T then (fs e1).bind fun rs e2 => (match frzAll e2 rs with
      | some (ds, e3) => (match mutS e3 i with
        | some d => (match g d ds with
          | some (res, d') => .ok (.sh res) (mutP e3 i d')
          | none => .no)
        | none => .no)
      | none => .no) else .no
    | none => .no)
  | _ => .no
theorem Kp.upd {A : AS} {H : Hp} {a : Addr} {o o0 : HO} (e : H a = some o0) (na : ¬ A a) (nt : ¬ IsT o0) : Kp A H (upd H a o) := fun x u ex z => by
  have : x ≠ a := fun q => by
    subst q
    rw [e] at ex; cases ex
    exact z.elim na nt
  refine .inl ?_
  rw [upd_ne this]; exact ex
theorem mu_core {G : Gd} {A1 : AS} {σ : L2.St} {H H1 : Hp} {e1 : En} {T : String} {g : GM} {fs : AF} {r : Rv} {v : V} {rr : V → List V → Hp → VK → Prop} {Q : VK} {P : Prop} {A : AS} {env : En} (hA : MuA G.K rr g) (s1 : Stp G.K A σ H env A1 σ H1 e1)
    (hv : RvOk G.K A1 σ H1 e1 (fun a => H a = none) r v)
    (h1 : Post G A1 σ H1 e1 (match r with
      | .bo i => (match mutS e1 i with
        | some d0 => if tyD d0 = T then (fs e1).bind fun rs e2 => (match frzAll e2 rs with
          | some (ds, e3) => (match mutS e3 i with
            | some d => (match g d ds with
              | some (res, d') => .ok (.sh res) (mutP e3 i d')
              | none => .no)
            | none => .no)
          | none => .no) else .no
        | none => .no)
      | _ => .no) (EQ G σ H Q)) (ht : ∀ (A1 : AS) (e1 : En), Rel G.K A1 σ H1 e1 → (∃ i, r = .bo i ∧ ∃ d0, mutS e1 i = some d0 ∧ tyD d0 = T ∧ L2.tyV G.K T v H1) →
        tA G fs σ H1 (fun xs H2 => rr v xs H2 Q) → P) : P := by
  cases r with
  | sh d => exact h1.elim
  | tm d => exact h1.elim
  | bo i =>
    dsimp only at h1
    obtain ⟨hs, _⟩ := hv
    cases q0 : mutS e1 i with
    | none => rw [q0] at h1; exact h1.elim
    | some d0 =>
      rw [q0] at h1
      dsimp only at h1
      by_cases c : tyD d0 = T
      · rw [if_pos c] at h1
        obtain ⟨a, ea, na, ob⟩ := s1.rel.ow i d0 (mutS_own q0)
        rw [hs] at ea; cases ea
        refine ht A1 e1 s1.rel ⟨i, rfl, d0, q0, c, c ▸ ob.tyV⟩ ⟨A1, e1, s1.rel, Post.cut h1 fun rs e2 A2 H2 s2 h2 vs hvs => ?_⟩
        cases q : frzAll e2 rs with
        | none => rw [q] at h2; exact h2.elim
        | some p =>
          obtain ⟨ds, e3⟩ := p
          rw [q] at h2
          dsimp only at h2
          obtain ⟨A3, s3, f3, rpl⟩ := frzAll_ok s2 (fun _ z => z) hvs q
          cases q2 : mutS e3 i with
          | none => rw [q2] at h2; exact h2.elim
          | some d =>
            rw [q2] at h2
            dsimp only at h2
            cases q3 : g d ds with
            | none => rw [q3] at h2; exact h2.elim
            | some p =>
              obtain ⟨res, d'⟩ := p
              rw [q3] at h2
              obtain ⟨b, eb, nb, ob3⟩ := s3.rel.ow i d (mutS_own q2)
              rw [hs] at eb; cases eb
              refine hA A3 H2 a d ds vs res d' Q nb ob3 rpl q3 fun o w ob' rp => ?_
              exact h2 A3 _ (s3.mut q2 hs ob') w rp
      · rw [if_neg c] at h1; exact h1.elim
section
variable {X : Cx} {W : WX} {o e : Expr} {es : List Expr} {f : EF} {fs : AF} {name : Str} {apos cpos : Pos} {T id : String} {r : V → List V → Hp → VK → Prop} {g : GM}
theorem e_mu (pa : PlainAttrs T) (slot : PySem.Slot T name id) (hty : typeOf (.builtin id) = pure (.type "method_descriptor")) (hm : MtR X id r) (hA : MuA X.K r g) (ho : PE X o (tE (gd X W) f)) (ha : PA X (e :: es) (tA (gd X W) fs))
    (hbase : attributeBase o name X.env (eval o X.env) = eval o X.env := by rfl)
    (hfew : ((backTo cpos (starEach (e :: es) X.env)).all (fun x => !x.1) && (backToKw cpos (keywordEach [] X.env)).all (fun x => x.1.isSome)
      && decide ((e :: es).length + ([] : List Keyword).length + (if ([] : List Keyword).isEmpty then 0 else 1) < 30)) = true := by rfl)
    (hline : (apos.endLine == cpos.line) = true := by rfl) (hs : starEach (e :: es) X.env = (false, eval e X.env) :: starEach es X.env := by rfl) (hplain : (backTo cpos (starEach es X.env)).any (·.1) = false := by rfl) :
    PE X (.Call (.Attribute o name apos) (e :: es) [] cpos) (tE (gd X W) (muF T g f fs)) :=
  PE.imp (pe_bm pa slot hty hm ho ha hbase hfew hline hs hplain) fun σ H Q h => by
    obtain ⟨A, env, rel, h⟩ := h
    refine ⟨A, env, rel, Post.imp (Post.bind h) fun r1 e1 A1 H1 s1 h1 v hv => ?_⟩
    exact mu_core (G := gd X W) hA s1 hv h1 fun A1 e1 rel1 ⟨i, _, d0, _, _, ty⟩ h => ⟨ty, h⟩
theorem e_mu0 (pa : PlainAttrs T) (slot : PySem.Slot T name id) (hty : typeOf (.builtin id) = pure (.type "method_descriptor")) (hm : MtR X id r) (hA : MuA X.K r g) (ho : PE X o (tE (gd X W) f))
    (hbase : attributeBase o name X.env (eval o X.env) = eval o X.env := by rfl) (hline : (apos.endLine == cpos.line) = true := by rfl) : PE X (.Call (.Attribute o name apos) [] [] cpos) (tE (gd X W) (muF T g f nilF)) :=
  PE.imp (pe_bm0 pa slot hty hm ho hbase hline) fun σ H Q h => by
    obtain ⟨A, env, rel, h⟩ := h
    refine ⟨A, env, rel, Post.imp (Post.bind h) fun r1 e1 A1 H1 s1 h1 v hv => ?_⟩
    refine mu_core (G := gd X W) hA s1 hv h1 fun A2 e2 rel1 ⟨i, _, d0, _, _, ty⟩ h => ⟨ty, ?_⟩
    obtain ⟨A3, e3, rel3, h⟩ := h
    exact h A3 H1 (.refl rel3) [] rfl
end
def appG : GM
  | .list ds, [d] => if ds.length < LIM then some (.none, .list (ds ++ [d])) else none
  | _, _ => none
theorem app_A {K : Frag} : MuA K rAppend appG := by
  intro A H a d ds xs res d' Q na ob rl e q
  match d, ds, e, ob with
  | .list l, [x], e, ob =>
    dsimp only [appG] at e
    by_cases c : l.length < LIM
    · rw [if_pos c] at e
      cases e
      obtain ⟨ys, ea, r⟩ := ob
      obtain ⟨v, t, rfl, h1, h2⟩ := rl.inv_cons
      rw [h2.inv_nil]
      have kp : Kp A H (upd H a (.lst (ys ++ [v]))) := Kp.upd ea na fun z => z
      exact ⟨a, ys, v, rfl, rfl, ea, by rw [← r.length, lim_eq]; exact c, q _ _ ⟨_, upd_same, (r.append (.cons h1 .nil)).mono (fun _ z => z) kp⟩ rp_non⟩
    · rw [if_neg c] at e; cases e
def popG : GM
  | .list ds, [] => (ds[ds.length - 1]?).map fun d => (d, .list ds.dropLast)
  | _, _ => none
theorem RpL.dropLast {K : Frag} {A : AS} {H : Hp} {ds : List D} {vs : List V} (h : RpL K A H ds vs) : RpL K A H ds.dropLast vs.dropLast := by
  rw [List.dropLast_eq_take, List.dropLast_eq_take, h.length]
  exact h.take _
theorem pop_A {K : Frag} : MuA K rPop popG := by
  intro A H a d ds xs res d' Q na ob rl e q
  match d, ds, e, ob with
  | .list l, [], e, ob =>
    dsimp only [popG] at e
    cases q1 : l[l.length - 1]? with
    | none => rw [q1] at e; cases e
    | some x =>
      rw [q1] at e
      cases e
      obtain ⟨ys, ea, r⟩ := ob
      have : xs = [] := rl.inv_nil
      subst this
      obtain ⟨v, ev, rv⟩ := r.get q1
      have kp : Kp A H (upd H a (.lst ys.dropLast)) := Kp.upd ea na fun z => z
      exact ⟨a, ys, v, rfl, rfl, ea, by rw [← r.length]; exact ev, q _ _ ⟨_, upd_same, r.dropLast.mono (fun _ z => z) kp⟩ (rv.mono (fun _ z => z) kp)⟩
def popAtG : GM
  | .list ds, [.int i] => if -(2 ^ 63) ≤ i ∧ i < 2 ^ 63 then (match seqIndex? i ds.length with
    | some k => (ds[k]?).map fun d => (d, .list (ds.eraseIdx k))
    | none => none) else none
  | _, _ => none
theorem RpL.eraseIdx {K : Frag} {A : AS} {H : Hp} : ∀ {ds : List D} {vs : List V} (k : Nat), RpL K A H ds vs → RpL K A H (ds.eraseIdx k) (vs.eraseIdx k)
  | [], _, _, h => by rw [h.inv_nil]; exact .nil
  | _ :: _, _, 0, h => by obtain ⟨v, r, rfl, _, t⟩ := h.inv_cons; exact t
  | _ :: _, _, k + 1, h => by obtain ⟨v, r, rfl, h1, t⟩ := h.inv_cons; exact .cons h1 (t.eraseIdx k)
theorem popAt_A {K : Frag} : MuA K rPopAt popAtG := by
  intro A H a d ds xs res d' Q na ob rl e q
  match d, ds, e, ob with
  | .list l, [.int i], e, ob =>
    dsimp only [popAtG] at e
    by_cases c : -(2 ^ 63) ≤ i ∧ i < 2 ^ 63
    · rw [if_pos c] at e
      cases q0 : seqIndex? i l.length with
      | none => rw [q0] at e; cases e
      | some k =>
        rw [q0] at e
        dsimp only at e
        cases q1 : l[k]? with
        | none => rw [q1] at e; cases e
        | some x =>
          rw [q1] at e
          cases e
          obtain ⟨ys, ea, r⟩ := ob
          obtain ⟨v, t, rfl, h1, h2⟩ := rl.inv_cons
          rw [h2.inv_nil]
          simp only [Rp] at h1
          subst h1
          obtain ⟨w, ev, rv⟩ := r.get q1
          have kp : Kp A H (upd H a (.lst (ys.eraseIdx k))) := Kp.upd ea na fun z => z
          exact ⟨a, ys, i, k, w, rfl, rfl, ea, c.1, c.2, by rw [← r.length]; exact q0, ev, q _ _ ⟨_, upd_same, (r.eraseIdx k).mono (fun _ z => z) kp⟩ (rv.mono (fun _ z => z) kp)⟩
    · rw [if_neg c] at e; cases e
section
variable {X : Cx} {W : WX} {o e : Expr} {f : EF} {fs : AF} {apos cpos : Pos}
theorem e_append (ho : PE X o (tE (gd X W) f)) (ha : PA X [e] (tA (gd X W) fs))
    (hbase : attributeBase o "append" X.env (eval o X.env) = eval o X.env := by rfl)
    (hfew : ((backTo cpos (starEach [e] X.env)).all (fun x => !x.1) && (backToKw cpos (keywordEach [] X.env)).all (fun x => x.1.isSome)
      && decide ([e].length + ([] : List Keyword).length + (if ([] : List Keyword).isEmpty then 0 else 1) < 30)) = true := by rfl)
    (hline : (apos.endLine == cpos.line) = true := by rfl) (hs : starEach [e] X.env = (false, eval e X.env) :: starEach [] X.env := by rfl) (hplain : (backTo cpos (starEach [] X.env)).any (·.1) = false := by rfl) :
    PE X (.Call (.Attribute o "append" apos) [e] [] cpos) (tE (gd X W) (muF "list" appG f fs)) := e_mu PySem.F.plainAttrs_list PySem.F.slot_list_append PySem.F.type_list_append mt_append app_A ho ha hbase hfew hline hs hplain
theorem e_popAt (ho : PE X o (tE (gd X W) f)) (ha : PA X [e] (tA (gd X W) fs))
    (hbase : attributeBase o "pop" X.env (eval o X.env) = eval o X.env := by rfl)
    (hfew : ((backTo cpos (starEach [e] X.env)).all (fun x => !x.1) && (backToKw cpos (keywordEach [] X.env)).all (fun x => x.1.isSome)
      && decide ([e].length + ([] : List Keyword).length + (if ([] : List Keyword).isEmpty then 0 else 1) < 30)) = true := by rfl)
    (hline : (apos.endLine == cpos.line) = true := by rfl) (hs : starEach [e] X.env = (false, eval e X.env) :: starEach [] X.env := by rfl) (hplain : (backTo cpos (starEach [] X.env)).any (·.1) = false := by rfl) :
    PE X (.Call (.Attribute o "pop" apos) [e] [] cpos) (tE (gd X W) (muF "list" popAtG f fs)) := e_mu PySem.F.plainAttrs_list PySem.F.slot_list_pop PySem.F.type_list_pop mt_popAt popAt_A ho ha hbase hfew hline hs hplain
theorem e_pop (ho : PE X o (tE (gd X W) f)) (hbase : attributeBase o "pop" X.env (eval o X.env) = eval o X.env := by rfl) (hline : (apos.endLine == cpos.line) = true := by rfl) :
    PE X (.Call (.Attribute o "pop" apos) [] [] cpos) (tE (gd X W) (muF "list" popG f nilF)) := e_mu0 PySem.F.plainAttrs_list PySem.F.slot_list_pop PySem.F.type_list_pop mt_pop pop_A ho hbase hline
end

/-! ### methods that only read -/
abbrev GR := D → List D → Option Rv
def RdA (K : Frag) (r : V → List V → Hp → VK → Prop) (g : GR) : Prop := ∀ (A : AS) (H : Hp) (d : D) (v : V) (ds : List D) (xs : List V) (z : Rv) (Q : VK), (∀ a, A a → H a ≠ none) → g d ds = some z → Rq K A H d v → RqAll K A H ds xs →
  (∀ v' H', Same H H' → Rz K A H H' z v' → Q v' H') → r v xs H Q
def rmF (T : String) (g : GR) (f : EF) (fs : AF) : EF := fun env => (f env).bind fun r e1 => match rd e1 r with
  | some d0 => if tyD d0 = T ∧ (T = "str" ∨ T = "list") then (fs e1).bind fun rs e2 => (match rd e2 r, rdAll e2 rs with
    | some d, some ds => out1 (g d ds) e2
    | _, _ => .no) else .no
  | none => .no
theorem Rq.tyV {K : Frag} {A : AS} {H : Hp} {d : D} {v : V} (h : Rq K A H d v) (c : tyD d = "str" ∨ tyD d = "list") : L2.tyV K (tyD d) v H := by
  cases d with
  | str x => rw [h.str]; rfl
  | list ds =>
    obtain ⟨a, xs, rfl, l, r⟩ := h.lst
    exact .inl ⟨rfl, xs, l⟩
  | none => rcases c with c | c <;> exact absurd c (by simp [tyD])
  | bool b => rcases c with c | c <;> exact absurd c (by simp [tyD])
  | int b => rcases c with c | c <;> exact absurd c (by simp [tyD])
  | tuple b => rcases c with c | c <;> exact absurd c (by simp [tyD])
  | dict b => rcases c with c | c <;> exact absurd c (by simp [tyD])
section
variable {X : Cx} {W : WX} {o e : Expr} {es : List Expr} {f : EF} {fs : AF} {name : Str} {apos cpos : Pos} {T id : String} {r : V → List V → Hp → VK → Prop} {g : GR}
theorem e_rm (pa : PlainAttrs T) (slot : PySem.Slot T name id) (hty : typeOf (.builtin id) = pure (.type "method_descriptor")) (hm : MtR X id r) (hA : RdA X.K r g) (ho : PE X o (tE (gd X W) f)) (ha : PA X (e :: es) (tA (gd X W) fs))
    (hbase : attributeBase o name X.env (eval o X.env) = eval o X.env := by rfl)
    (hfew : ((backTo cpos (starEach (e :: es) X.env)).all (fun x => !x.1) && (backToKw cpos (keywordEach [] X.env)).all (fun x => x.1.isSome)
      && decide ((e :: es).length + ([] : List Keyword).length + (if ([] : List Keyword).isEmpty then 0 else 1) < 30)) = true := by rfl)
    (hline : (apos.endLine == cpos.line) = true := by rfl) (hs : starEach (e :: es) X.env = (false, eval e X.env) :: starEach es X.env := by rfl) (hplain : (backTo cpos (starEach es X.env)).any (·.1) = false := by rfl) :
    PE X (.Call (.Attribute o name apos) (e :: es) [] cpos) (tE (gd X W) (rmF T g f fs)) :=
  PE.imp (pe_bm pa slot hty hm ho ha hbase hfew hline hs hplain) fun σ H Q h => by
    obtain ⟨A, env, rel, h⟩ := h
    refine ⟨A, env, rel, Post.imp (Post.bind h) fun r1 e1 A1 H1 s1 h1 v hv => ?_⟩
    cases q0 : rd e1 r1 with
    | none => rw [q0] at h1; exact h1.elim
    | some d0 =>
      rw [q0] at h1
      dsimp only at h1
      by_cases c : tyD d0 = T ∧ (T = "str" ∨ T = "list")
      · rw [if_pos c] at h1
        obtain ⟨rfl, c⟩ := c
        refine ⟨(hv.rq s1.rel q0).tyV c, A1, e1, s1.rel, Post.imp (Post.bind h1) fun rs e2 A2 H2 s2 h2 vs hvs => ?_⟩
        cases q1 : rd e2 r1 with
        | none => rw [q1] at h2; exact h2.elim
        | some d =>
          cases q2 : rdAll e2 rs with
          | none => rw [q1, q2] at h2; exact h2.elim
          | some ds =>
            rw [q1, q2] at h2
            dsimp only at h2
            unfold out1 at h2
            cases q3 : g d ds with
            | none => rw [q3] at h2; exact h2.elim
            | some z =>
              rw [q3] at h2
              exact hA A2 H2 d v ds vs z Q s2.rel.dom q3 ((hv.step s1.rel s2).rq s2.rel q1) (hvs.rq s2.rel q2) fun v' H' sm hz => fin1 (s1.trans s2) h2 sm hz
      · rw [if_neg c] at h1; exact h1.elim
end
def joinG : GR
  | .str a, [.list ds] => (match strsD ds with
    | some ys => if (ys.map (·.length)).sum + ys.length * a.length ≤ 16777216 then some (.sh (.str (Txt.join a ys))) else none
    | none => none)
  | _, _ => none
theorem join_A {K : Frag} : RdA K (fun x xs H Q => ∃ a p, ∃ ys : List Str, x = V.str a ∧ xs = [.ref p] ∧ (SqL K H p (ys.map V.str) ∨ SqT K H p (ys.map V.str)) ∧
    (ys.map (·.length)).sum + ys.length * a.length ≤ 16777216 ∧ Q (.str (Txt.join a ys)) H) joinG := by
  intro A H d v ds xs z Q hd e hx hxs q
  match d, ds, e, hx with
  | .str a, [.list l], e, hx =>
    dsimp only [joinG] at e
    cases q1 : strsD l with
    | none => rw [q1] at e; cases e
    | some ys =>
      rw [q1] at e
      dsimp only at e
      by_cases c : (ys.map (·.length)).sum + ys.length * a.length ≤ 16777216
      · rw [if_pos c] at e
        cases e
        obtain ⟨w, rfl, h⟩ := hxs.one
        obtain ⟨p, vs, rfl, sl, r⟩ := h.lst
        rw [strsD_ok q1 r] at sl
        exact ⟨a, p, ys, hx.str, rfl, .inl sl, c, q _ _ (Same.refl H) rz_str⟩
      · rw [if_neg c] at e; cases e
theorem e_join {X : Cx} {W : WX} {o e : Expr} {f : EF} {fs : AF} {apos cpos : Pos} (ho : PE X o (tE (gd X W) f)) (ha : PA X [e] (tA (gd X W) fs))
    (hbase : attributeBase o "join" X.env (eval o X.env) = eval o X.env := by rfl)
    (hfew : ((backTo cpos (starEach [e] X.env)).all (fun x => !x.1) && (backToKw cpos (keywordEach [] X.env)).all (fun x => x.1.isSome)
      && decide ([e].length + ([] : List Keyword).length + (if ([] : List Keyword).isEmpty then 0 else 1) < 30)) = true := by rfl)
    (hline : (apos.endLine == cpos.line) = true := by rfl) (hs : starEach [e] X.env = (false, eval e X.env) :: starEach [] X.env := by rfl) (hplain : (backTo cpos (starEach [] X.env)).any (·.1) = false := by rfl) :
    PE X (.Call (.Attribute o "join" apos) [e] [] cpos) (tE (gd X W) (rmF "str" joinG f fs)) := e_rm PySem.F.plainAttrs_str PySem.F.slot_str_join PySem.F.type_str_join mt_join join_A ho ha hbase hfew hline hs hplain
end VL


set_option Elab.async false
set_option linter.all false
set_option maxRecDepth 100000
set_option maxHeartbeats 2000000
namespace VL
open PySem PySem.Spec PyProof.Rows L2
variable [TbP]

/-! ### targets -/
abbrev GF := D → En → Option En
/-- what a target does with a value that is shared -/
def TgOk (G : Gd) (g : TG) (t : GF) (vs : List Nat) : Prop := ∀ (A A1 : AS) (σ σ1 : L2.St) (H H1 : Hp) (env e1 e2 : En) (d : D) (x : V) (P : L2.St → Hp → Prop), Stp G.K A σ H env A1 σ1 H1 e1 → Rp G.K A1 H1 d x → t d e1 = some e2 →
  (∀ σ2, Stp G.K A σ H env A1 σ2 H1 e2 → σ2.length = σ1.length → (∀ j, j ∉ vs → σ2[j]? = σ1[j]?) → P σ2 H1) → g x σ1 H1 P
def TgsOk (G : Gd) (g : TGs) (t : List D → En → Option En) (vs : List Nat) : Prop := ∀ (A A1 : AS) (σ σ1 : L2.St) (H H1 : Hp) (env e1 e2 : En) (d : List D) (x : List V) (P : L2.St → Hp → Prop), Stp G.K A σ H env A1 σ1 H1 e1 → RpL G.K A1 H1 d x → t d e1 = some e2 →
  (∀ σ2, Stp G.K A σ H env A1 σ2 H1 e2 → σ2.length = σ1.length → (∀ j, j ∉ vs → σ2[j]? = σ1[j]?) → P σ2 H1) → g x σ1 H1 P
def tgN (i : Nat) : GF := fun d e => putS e i (.sh d)
def tgsNil : List D → En → Option En
  | [], e => some e
  | _, _ => none
def tgsCons (t : GF) (u : List D → En → Option En) : List D → En → Option En
  | d :: ds, e => (t d e).bind (u ds)
  | _, _ => none
def tgT (n : Nat) (u : List D → En → Option En) : GF
  | .tuple ds, e => if ds.length = n then u ds e else none
  | _, _ => none
section
variable {G : Gd}
theorem tg_name {i : Nat} : TgOk G (gName i) (tgN i) [i] := by
  intro A A1 σ σ1 H H1 env e1 e2 d x P s r q h
  refine h _ (s.put (.inl ⟨d, rfl, r⟩) q) (by simp) fun j hj => ?_
  rw [List.getElem?_set_ne]
  intro z; subst z; exact hj (by simp)
theorem tgs_nil : TgsOk G gNil tgsNil [] := by
  intro A A1 σ σ1 H H1 env e1 e2 d x P s r q h
  cases d with
  | nil =>
    cases q
    exact ⟨r.inv_nil, h _ s rfl fun _ _ => rfl⟩
  | cons _ _ => cases q
theorem tgs_cons {g : TG} {t : GF} {gs : TGs} {u : List D → En → Option En} {vs ws : List Nat} (h1 : TgOk G g t vs) (h2 : TgsOk G gs u ws) : TgsOk G (gCons g gs) (tgsCons t u) (vs ++ ws) := by
  intro A A1 σ σ1 H H1 env e1 e2 d x P s r q h
  cases d with
  | nil => cases q
  | cons d ds =>
    obtain ⟨v, t', rfl, r1, r2⟩ := r.inv_cons
    simp only [tgsCons] at q
    cases q1 : t d e1 with
    | none => rw [q1] at q; cases q
    | some e3 =>
      rw [q1] at q
      refine ⟨v, t', rfl, h1 A A1 σ σ1 H H1 env e1 e3 d v _ s r1 q1 fun σ2 s2 l2 o2 => ?_⟩
      refine h2 A A1 σ σ2 H H1 env e3 e2 ds t' P s2 r2 q fun σ3 s3 l3 o3 => h σ3 s3 (l3.trans l2) fun j hj => ?_
      rw [List.mem_append, not_or] at hj
      exact (o3 j hj.2).trans (o2 j hj.1)
theorem tg_tup {n : Nat} {gs : TGs} {u : List D → En → Option En} {vs : List Nat} (h : TgsOk G gs u vs) : TgOk G (gTup G.K n gs) (tgT n u) vs := by
  intro A A1 σ σ1 H H1 env e1 e2 d x P s r q k
  cases d with
  | tuple ds =>
    simp only [tgT] at q
    by_cases c : ds.length = n
    · rw [if_pos c] at q
      simp only [Rp] at r
      obtain ⟨a, xs, rfl, sq, rl⟩ := r
      exact ⟨a, xs, rfl, sq, by rw [← rl.length]; exact c, h A A1 σ σ1 H H1 env e1 e2 ds xs P s rl q k⟩
    · rw [if_neg c] at q; cases q
  | _ => cases q
end
/-- target = value, the value shared -/
def asgF (f : EF) (t : GF) : SF := fun env => (f env).st fun r e => match frz e r with
  | some (d, e2) => (match t d e2 with
    | some e3 => .nx e3
    | none => .no)
  | none => .no
section
variable {X : Cx} {W : WX} {tg e : Expr} {f : EF} {g : TG} {t : GF} {vs : List Nat} {pos : Pos}
theorem s_asg (he : PE X e (tE (gd X W) f)) (hg : PG X tg g) (ht : TgOk (gd X W) g t vs) (hs : swapsWithSole [tg] e pos.line X.env = pure false := by rfl) (hw : swappedStores [tg] e X.env = pure none := by rfl)
    (h1 : (assignEach [tg] X.env).map (·.2) = [assign tg X.env] := by rfl) : PS X (.Assign [tg] e pos) (tS (gd X W) (asgF f t)) := PS.imp (ps_asg he hg hs hw h1) fun Z σ H h => by
  obtain ⟨A, env, rel, h⟩ := h
  refine ⟨A, env, rel, SPost.cut h fun r e1 A1 H1 s1 h1 v hv => ?_⟩
  cases q : frz e1 r with
  | none => rw [q] at h1; exact h1.elim
  | some p =>
    obtain ⟨d, e2⟩ := p
    rw [q] at h1
    dsimp only at h1
    obtain ⟨A2, s2, f2, rp, _⟩ := frz_ok s1 hv q
    cases q2 : t d e2 with
    | none => rw [q2] at h1; exact h1.elim
    | some e3 =>
      rw [q2] at h1
      exact ht A A2 σ σ H H1 env e2 e3 d v _ s2 rp q2 fun σ2 s3 _ _ => h1 A2 σ2 H1 s3
end

theorem SPost.cutAt {α : Type} {G : Gd} {A A1 : AS} {σ : L2.St} {H H1 : Hp} {env e1 : En} {Z : Ends} {o : Rs α} {k : α → En → Rb} {P1 : α → En → AS → Hp → Prop} (s : Stp G.K A σ H env A1 σ H1 e1) (h : SPost G A σ H env (o.st k) Z)
    (i : ∀ a e A' H', Stp G.K A1 σ H1 e1 A' σ H' e → SPost G A σ H env (k a e) Z → P1 a e A' H') : Post G A1 σ H1 e1 o P1 := by
  cases o with
  | ok a e => exact fun A1 H1 s1 => i a e A1 H1 s1 h
  | ex x e => exact fun A' H' c d t => h A' σ H' c d (s.trans t)
  | no => exact h
theorem Post.cutAt {α β : Type} {G : Gd} {A A1 : AS} {σ : L2.St} {H H1 : Hp} {env e1 : En} {o : Rs α} {k : α → En → Rs β} {P : β → En → AS → Hp → Prop} {P1 : α → En → AS → Hp → Prop} (s : Stp G.K A σ H env A1 σ H1 e1) (h : Post G A σ H env (o.bind k) P)
    (i : ∀ a e A' H', Stp G.K A1 σ H1 e1 A' σ H' e → Post G A σ H env (k a e) P → P1 a e A' H') : Post G A1 σ H1 e1 o P1 := by
  cases o with
  | ok a e => exact fun A1 H1 s1 => i a e A1 H1 s1 h
  | ex x e => exact fun A' H' c d t => h A' H' c d (s.trans t)
  | no => exact h
/-! ### x[i] = e -/
def stoG : D → D → D → Option D
  | .list ds, .int k, d => (ixN ds.length k).map fun j => .list (ds.set j d)
  | _, _, _ => none
/-- the owned thing's slot is asked; then the index; then the value is shared -/
def stoF (f fo fi : EF) : SF := fun env => (f env).st fun r e1 => (fo e1).st fun ro e2 => match ro with
  | .bo i => (fi e2).st fun ri e3 => (match rd e3 ri, frz e3 r with
    | some ix, some (d, e4) => (match mutS e4 i with
      | some d0 => (match stoG d0 ix d with
        | some d' => .nx (mutP e4 i d')
        | none => .no)
      | none => .no)
    | _, _ => .no)
  | _ => .no
section
variable {X : Cx} {W : WX} {e o i : Expr} {f fo fi : EF} {pos tpos : Pos}
theorem s_sto (he : PE X e (tE (gd X W) f)) (ho : PE X o (tE (gd X W) fo)) (hi : PE X i (tE (gd X W) fi))
    (ha : ∀ v, assign (.Subscript o i tpos) X.env v = (do
      let ov ← holding [v] (eval o X.env)
      let iv ← holding [v, ov] (eval i X.env)
      standAt tpos
      holding [v, ov, iv] (setItem ov iv v)
      release [v, ov, iv] []) := by intro _; rfl)
    (hs : swapsWithSole [.Subscript o i tpos] e pos.line X.env = pure false := by rfl) (hw : swappedStores [.Subscript o i tpos] e X.env = pure none := by rfl)
    (h1 : (assignEach [.Subscript o i tpos] X.env).map (·.2) = [assign (.Subscript o i tpos) X.env] := by rfl) : PS X (.Assign [.Subscript o i tpos] e pos) (tS (gd X W) (stoF f fo fi)) :=
  PS.imp (ps_asg he (pg_sub ho hi set_list ha) hs hw h1) fun Z σ H h => by
    obtain ⟨A, env, rel, h⟩ := h
    refine ⟨A, env, rel, SPost.cut h fun r e1 A1 H1 s1 h1 v hv => ?_⟩
    refine ⟨A1, e1, s1.rel, SPost.cutAt s1 h1 fun ro e2 A2 H2 s2 h2 ov hov => ?_⟩
    cases ro with
    | sh d => exact h2.elim
    | tm d => exact h2.elim
    | bo j =>
      dsimp only at h2
      refine ⟨A2, e2, s2.rel, SPost.cutAt (s1.trans s2) h2 fun ri e3 A3 H3 s3 h3 iv hiv => ?_⟩
      have s23 := s2.trans s3
      have st := s1.trans s23
      cases q1 : rd e3 ri with
      | none => rw [q1] at h3; exact h3.elim
      | some ix =>
        cases q2 : frz e3 r with
        | none => rw [q1, q2] at h3; exact h3.elim
        | some p =>
          obtain ⟨d, e4⟩ := p
          rw [q1, q2] at h3
          dsimp only at h3
          have rix := hiv.rq s3.rel q1
          have hv3 := hv.step s1.rel s23
          obtain ⟨A4, s4, f4, rp, _⟩ := frz_ok st hv3 q2
          cases q3 : mutS e4 j with
          | none => rw [q3] at h3; exact h3.elim
          | some d0 =>
            rw [q3] at h3
            dsimp only at h3
            cases q4 : stoG d0 ix d with
            | none => rw [q4] at h3; exact h3.elim
            | some d' =>
              rw [q4] at h3
              obtain ⟨a, ea, na, ob⟩ := s4.rel.ow j d0 (mutS_own q3)
              have eo : ov = .ref a := by
                have := hov.1
                rw [ea] at this
                exact (Option.some.inj (Option.some.inj this)).symm
              match d0, ix, q4, ob, rix with
              | .list ds, .int k, q4, ob, rix =>
                dsimp only [stoG] at q4
                cases q5 : ixN ds.length k with
                | none => rw [q5] at q4; cases q4
                | some jj =>
                  rw [q5] at q4
                  cases q4
                  obtain ⟨ys, ey, ry⟩ := ob
                  refine ⟨a, ys, k, jj, eo, rix.int, ey, by rw [← ry.length]; exact q5, ?_⟩
                  have kp : Kp A4 H3 (upd H3 a (.lst (ys.set jj v))) := Kp.upd ey na fun z => z
                  exact h3 A4 σ _ (s4.mut q3 ea ⟨_, upd_same, (ry.set jj rp).mono (fun _ z => z) kp⟩)
end

/-! ### several names at once -/
def settle : En → List Rv → Option (List Rv × En)
  | e, [] => some ([], e)
  | e, .bo i :: rs => (match frz e (.bo i) with
    | some (d, e2) => (match settle e2 rs with
      | some (rs', e3) => some (.sh d :: rs', e3)
      | none => none)
    | none => none)
  | e, r :: rs => (match settle e rs with
    | some (rs', e3) => some (r :: rs', e3)
    | none => none)
def putAll : En → List Nat → List Rv → Option En
  | e, [], [] => some e
  | e, i :: is, .sh d :: rs => (putS e i (.sh d)).bind fun e2 => putAll e2 is rs
  | e, i :: is, .tm d :: rs => (putS e i (.ow d)).bind fun e2 => putAll e2 is rs
  | _, _, _ => none
def sets (σ : L2.St) : List Nat → List V → L2.St
  | i :: is, v :: vs => sets (σ.set i (some v)) is vs
  | _, _ => σ
theorem settle_ok {K : Frag} {A : AS} {σ σ1 : L2.St} {H H1 : Hp} {env : En} : ∀ {rs rs' : List Rv} {vs : List V} {A1 : AS} {e1 e2 : En} {F : AS}, Stp K A σ H env A1 σ1 H1 e1 → (∀ a, F a → H a = none) → RvsOk K A1 σ1 H1 e1 F rs vs → settle e1 rs = some (rs', e2) →
    ∃ A2, Stp K A σ H env A2 σ1 H1 e2 ∧ (∀ (F' : AS) (r' : Rv) (v' : V), RvOk K A1 σ1 H1 e1 F' r' v' → RvOk K A2 σ1 H1 e2 F' r' v') ∧ RvsOk K A2 σ1 H1 e2 F rs' vs
  | [], rs', vs, A1, e1, e2, F, s, hF, h, q => by
    cases q
    exact ⟨A1, s, fun _ _ _ z => z, h⟩
  | r :: rs, rs', vs, A1, e1, e2, F, s, hF, h, q => by
    obtain ⟨v, t, rfl, h1, h2⟩ := h
    cases r with
    | bo i =>
      unfold settle at q
      cases q1 : frz e1 (.bo i) with
      | none => rw [q1] at q; cases q
      | some p =>
        obtain ⟨d, e3⟩ := p
        rw [q1] at q
        dsimp only at q
        cases q2 : settle e3 rs with
        | none => rw [q2] at q; cases q
        | some p =>
          obtain ⟨rs2, e4⟩ := p
          rw [q2] at q
          cases q
          obtain ⟨A2, s2, f2, rp, k⟩ := frz_ok s (h1.weak fun a _ _ z => hF a z) q1
          have k' : ∀ (F' : AS) (r' : Rv) (v' : V), RvOk K A1 σ1 H1 e1 F' r' v' → RvOk K A2 σ1 H1 e3 F' r' v' := fun F' r' v' z => k F' r' v' (fun _ _ it => by cases it) z
          have h2' : RvsOk K A2 σ1 H1 e3 (fun a => F a ∧ ((Rv.bo i).isTm = true → v ≠ .ref a)) rs t := h2.keep (F := fun _ => True) (fun F' r' v' _ z => k' F' r' v' z) fun _ _ => trivial
          obtain ⟨A3, s3, k3, h3⟩ := settle_ok s2 (fun a z => hF a z.1) h2' q2
          refine ⟨A3, s3, fun F' r' v' z => k3 F' r' v' (k' F' r' v' z), v, t, rfl, k3 F (.sh d) v rp, h3.weak fun a o _ z => ⟨z.1, fun it => by cases it⟩⟩
    | sh d =>
      unfold settle at q
      cases q2 : settle e1 rs with
      | none => rw [q2] at q; cases q
      | some p =>
        obtain ⟨rs2, e4⟩ := p
        rw [q2] at q
        cases q
        obtain ⟨A3, s3, k3, h3⟩ := settle_ok s (fun a z => hF a z.1) h2 q2
        exact ⟨A3, s3, k3, v, t, rfl, k3 _ _ _ h1, h3⟩
    | tm d =>
      unfold settle at q
      cases q2 : settle e1 rs with
      | none => rw [q2] at q; cases q
      | some p =>
        obtain ⟨rs2, e4⟩ := p
        rw [q2] at q
        cases q
        obtain ⟨A3, s3, k3, h3⟩ := settle_ok s (fun a z => hF a z.1) h2 q2
        exact ⟨A3, s3, k3, v, t, rfl, k3 _ _ _ h1, h3⟩
theorem putAll_ok {K : Frag} {A : AS} {σ : L2.St} {H H1 : Hp} {env : En} : ∀ {rs : List Rv} {vs : List V} {is : List Nat} {A1 : AS} {σ1 : L2.St} {e1 e2 : En} {F : AS}, Stp K A σ H env A1 σ1 H1 e1 → (∀ a, F a → H a = none) → RvsOk K A1 σ1 H1 e1 F rs vs → putAll e1 is rs = some e2 →
    Stp K A σ H env A1 (sets σ1 is vs) H1 e2 ∧ is.length = vs.length
  | [], vs, is, A1, σ1, e1, e2, F, s, hF, h, q => by
    have : vs = [] := h
    subst this
    cases is with
    | nil => cases q; exact ⟨s, rfl⟩
    | cons _ _ => cases q
  | r :: rs, vs, [], A1, σ1, e1, e2, F, s, hF, h, q => by cases r <;> cases q
  | r :: rs, vs, i :: is, A1, σ1, e1, e2, F, s, hF, h, q => by
    obtain ⟨v, t, rfl, h1, h2⟩ := h
    have go : ∀ (sl : Sl) (e3 : En), putS e1 i sl = some e3 → PutOk K A1 σ1 H H1 e1 sl v → (∀ d, sl = .ow d → r.isTm = true) → r ≠ .bo 0 → (∀ r' ∈ rs, ∀ j, r' ≠ .bo j) → putAll e3 is rs = some e2 → Stp K A σ H env A1 (sets σ1 (i :: is) (v :: t)) H1 e2 ∧ (i :: is).length = (v :: t).length := fun sl e3 p po ht _ nb q2 => by
      have s2 := s.put po p
      have ow : ∀ x, Ow (σ1.set i (some v)) e3 x → Ow σ1 e1 x ∨ (v = .ref x ∧ r.isTm = true) := fun x ⟨j, ⟨d, hd⟩, e⟩ => by
        unfold putS at p
        cases q0 : e1[i]? with
        | none => rw [q0] at p; cases p
        | some t0 =>
          rw [q0] at p
          dsimp only at p
          split at p
          · cases p
          cases p
          have lt : i < e1.length := (List.getElem?_eq_some_iff.mp q0).1
          have lt2 : i < σ1.length := by rw [s.rel.len]; exact lt
          by_cases ji : j = i
          · subst ji
            unfold isOwn at hd
            rw [List.getElem?_set_self lt] at hd
            rw [List.getElem?_set_self lt2] at e
            refine .inr ⟨Option.some.inj (Option.some.inj e), ?_⟩
            rcases hd with hd | hd
            · exact ht d (Option.some.inj hd)
            · exact absurd (Option.some.inj hd) (po.noIo d).1
          · unfold isOwn at hd
            rw [List.getElem?_set_ne (Ne.symm ji)] at hd
            rw [List.getElem?_set_ne (Ne.symm ji)] at e
            exact .inl ⟨j, ⟨d, hd⟩, e⟩
      have mv : ∀ {F' : AS} {rs0 : List Rv} {vs0 : List V}, (∀ r' ∈ rs0, ∀ j, r' ≠ .bo j) → (∀ a, F' a → r.isTm = true → v ≠ .ref a) → RvsOk K A1 σ1 H1 e1 F' rs0 vs0 → RvsOk K A1 (σ1.set i (some v)) H1 e3 F' rs0 vs0 := fun {F' rs0} => by
        induction rs0 generalizing F' with
        | nil => exact fun _ _ h => h
        | cons r0 rs0 ih =>
          intro vs0 nb hf h
          obtain ⟨w, t0, rfl, g1, g2⟩ := h
          refine ⟨w, t0, rfl, ?_, ih (fun r' hr => nb r' (List.mem_cons_of_mem _ hr)) (fun a z => hf a z.1) g2⟩
          cases r0 with
          | sh d => exact g1
          | tm d =>
            obtain ⟨a, ea, na, no, f, ob⟩ := g1
            refine ⟨a, ea, na, fun z => ?_, f, ob⟩
            rcases ow a z with z | ⟨z, it⟩
            · exact no z
            · exact hf a f it z
          | bo j => exact absurd rfl (nb _ (List.mem_cons_self) j)
      obtain ⟨s3, l3⟩ := putAll_ok s2 (fun a z => hF a z.1) (mv nb (fun a z => z.2) h2) q2
      exact ⟨s3, by simp [l3]⟩
    have nobo : ∀ {rs : List Rv} {is : List Nat} {e e' : En}, putAll e is rs = some e' → ∀ r' ∈ rs, ∀ j, r' ≠ .bo j := fun {rs} => by
      induction rs with
      | nil => intro _ _ _ _ r' hr; cases hr
      | cons r0 rs ih =>
        intro is e e' q r' hr j z
        cases is with
        | nil => cases r0 <;> cases q
        | cons i0 is =>
          rcases List.mem_cons.mp hr with e0 | hr2
          · subst e0; subst z; cases q
          · cases r0 with
            | bo k => cases q
            | sh d =>
              simp only [putAll] at q
              cases q1 : putS e i0 (.sh d) with
              | none => rw [q1] at q; cases q
              | some e5 => rw [q1] at q; exact ih q r' hr2 j z
            | tm d =>
              simp only [putAll] at q
              cases q1 : putS e i0 (.ow d) with
              | none => rw [q1] at q; cases q
              | some e5 => rw [q1] at q; exact ih q r' hr2 j z
    cases r with
    | bo j => cases q
    | sh d =>
      simp only [putAll] at q
      cases q1 : putS e1 i (.sh d) with
      | none => rw [q1] at q; cases q
      | some e3 =>
        rw [q1] at q
        exact go _ e3 q1 (.inl ⟨d, rfl, h1⟩) (fun d' z => by cases z) (fun z => by cases z) (nobo q) q
    | tm d =>
      simp only [putAll] at q
      cases q1 : putS e1 i (.ow d) with
      | none => rw [q1] at q; cases q
      | some e3 =>
        rw [q1] at q
        obtain ⟨a, ea, na, no, f, ob⟩ := h1
        exact go _ e3 q1 (.inr ⟨d, a, rfl, ea, na, no, hF a f, ob⟩) (fun d' z => rfl) (fun z => by cases z) (nobo q) q
def parF (is : List Nat) (fs : AF) : SF := fun env => (fs env).st fun rs e => match settle e rs with
  | some (rs', e2) => (match putAll e2 is rs' with
    | some e3 => .nx e3
    | none => .no)
  | none => .no
theorem par_core {G : Gd} {A A1 : AS} {σ : L2.St} {H H1 : Hp} {env e1 : En} {is : List Nat} {rs : List Rv} {vs : List V} {Z : Ends} (s1 : Stp G.K A σ H env A1 σ H1 e1) (hv : RvsOk G.K A1 σ H1 e1 (fun a => H a = none) rs vs)
    (h1 : SPost G A σ H env (match settle e1 rs with
      | some (rs', e2) => (match putAll e2 is rs' with
        | some e3 => Rb.nx e3
        | none => .no)
      | none => .no) Z) : is.length = vs.length ∧ Z.nx (sets σ is vs) H1 := by
  cases q : settle e1 rs with
  | none => rw [q] at h1; exact h1.elim
  | some p =>
    obtain ⟨rs', e2⟩ := p
    rw [q] at h1
    dsimp only at h1
    obtain ⟨A2, s2, _, h2⟩ := settle_ok s1 (fun _ z => z) hv q
    cases q2 : putAll e2 is rs' with
    | none => rw [q2] at h1; exact h1.elim
    | some e3 =>
      rw [q2] at h1
      obtain ⟨s3, l⟩ := putAll_ok s2 (fun _ z => z) h2 q2
      exact ⟨l, h1 A2 _ H1 s3⟩
section
variable {X : Cx} {W : WX} {fs : AF} {pos : Pos}
theorem s_par (i j : Nat) {x y : Str} {a b : Expr} {px py pt : Pos} {kt k2 pt2} (hc : X.calm = true) (hN : X.N.Nodup) (ha : PA X [a, b] (tA (gd X W) fs)) (hi : X.N[i]? = some x := by rfl) (hj : X.N[j]? = some y := by rfl) (hij : i ≠ j := by decide)
    (hx : X.env.scope.names.lookup x = some .local := by rfl) (hy : X.env.scope.names.lookup y = some .local := by rfl)
    (hw : swappedStores [.Tuple [.Name x px, .Name y py] kt pt] (.Tuple [a, b] k2 pt2) X.env = pure (some [x, y]) := by rfl)
    (hs : swapsWithSole [.Tuple [.Name x px, .Name y py] kt pt] (.Tuple [a, b] k2 pt2) pos.line X.env = pure false := by rfl) :
    PS X (.Assign [.Tuple [.Name x px, .Name y py] kt pt] (.Tuple [a, b] k2 pt2) pos) (tS (gd X W) (parF [i, j] fs)) :=
  PS.imp (ps_par hc hN hi hj hij hx hy ha hw hs) fun Z σ H h => by
    obtain ⟨A, env, rel, h⟩ := h
    refine ⟨A, env, rel, SPost.cut h fun rs e1 A1 H1 s1 h1 vs hvs => ?_⟩
    obtain ⟨l, z⟩ := par_core s1 hvs h1
    match vs, l, z with
    | [v, w], _, z => exact ⟨v, w, rfl, z⟩
theorem s_par3 (i j l : Nat) {x y z : Str} {a b c : Expr} {px py pz pt : Pos} {kt k2 pt2} (hc : X.calm = true) (hN : X.N.Nodup) (ha : PA X [a, b, c] (tA (gd X W) fs)) (hi : X.N[i]? = some x := by rfl) (hj : X.N[j]? = some y := by rfl) (hl : X.N[l]? = some z := by rfl) (hij : i ≠ j := by decide) (hil : i ≠ l := by decide) (hjl : j ≠ l := by decide)
    (hx : X.env.scope.names.lookup x = some .local := by rfl) (hy : X.env.scope.names.lookup y = some .local := by rfl) (hz : X.env.scope.names.lookup z = some .local := by rfl)
    (hw : swappedStores [.Tuple [.Name x px, .Name y py, .Name z pz] kt pt] (.Tuple [a, b, c] k2 pt2) X.env = pure (some [x, y, z]) := by rfl)
    (hs : swapsWithSole [.Tuple [.Name x px, .Name y py, .Name z pz] kt pt] (.Tuple [a, b, c] k2 pt2) pos.line X.env = pure false := by rfl) :
    PS X (.Assign [.Tuple [.Name x px, .Name y py, .Name z pz] kt pt] (.Tuple [a, b, c] k2 pt2) pos) (tS (gd X W) (parF [i, j, l] fs)) :=
  PS.imp (ps_par3 hc hN hi hj hl hij hil hjl hx hy hz ha hw hs) fun Z σ H h => by
    obtain ⟨A, env, rel, h⟩ := h
    refine ⟨A, env, rel, SPost.cut h fun rs e1 A1 H1 s1 h1 vs hvs => ?_⟩
    obtain ⟨l, z⟩ := par_core s1 hvs h1
    match vs, l, z with
    | [u, v, w], _, z => exact ⟨u, v, w, rfl, z⟩
/-- name += e, ints -/
def augF (i : Nat) (g : Int → Int → Int) (f : EF) : SF := fun env => match rdAt env i with
  | some (.int a) => (f env).st fun r e => (match rd e r with
    | some (.int b) => (match putS e i (.sh (.int (g a b))) with
      | some e2 => .nx e2
      | none => .no)
    | _ => .no)
  | _ => .no
theorem s_aug (i : Nat) {x : Str} {e : Expr} {fe : EF} {op : Operator} {g : Int → Int → Int} {pos' : Pos} (ho : PIp X op (ipI g)) (hN : X.N.Nodup) (he : PE X e (tE (gd X W) fe)) (hi : X.N[i]? = some x := by rfl) (hx : Loc X.env.scope x := by first | exact Or.inl rfl | exact Or.inr rfl)
    (hf : X.fn x = true ∨ X.env.scope.names.lookup x = some .local := by first | exact .inl rfl | exact .inr rfl | assumption) :
    PS X (.AugAssign (.Name x pos') op e pos) (tS (gd X W) (augF i g fe)) := PS.imp (ps_aug hN hi hx he ho hf) fun Z σ H h => by
  obtain ⟨A, env, rel, h⟩ := h
  unfold augF at h
  cases q : rdAt env i with
  | none => rw [q] at h; exact h.elim
  | some d =>
    rw [q] at h
    cases d with
    | int a =>
      dsimp only at h
      have hσ : σ[i]? = some (some (.int a)) := by
        unfold rdAt at q
        cases q0 : env[i]? with
        | none => rw [q0] at q; cases q
        | some s =>
          rw [q0] at q
          cases s with
          | un => cases q
          | sh d => cases q; obtain ⟨v, e, r⟩ := rel.sh i _ (.inl q0); simp only [Rp] at r; rw [e, r]
          | iz d => cases q; obtain ⟨v, e, r⟩ := rel.sh i _ (.inr q0); simp only [Rp] at r; rw [e, r]
          | ow d => cases q; obtain ⟨v, e, _, r⟩ := rel.ow i _ (.inl q0); exact r.elim
          | io d => cases q; obtain ⟨v, e, _, r⟩ := rel.ow i _ (.inr q0); exact r.elim
      refine ⟨_, hσ, A, env, rel, SPost.cut h fun r e1 A1 H1 s1 h1 v hv => ?_⟩
      cases q1 : rd e1 r with
      | none => rw [q1] at h1; exact h1.elim
      | some d =>
        rw [q1] at h1
        cases d with
        | int b =>
          dsimp only at h1
          cases q2 : putS e1 i (.sh (.int (g a b))) with
          | none => rw [q2] at h1; exact h1.elim
          | some e2 =>
            rw [q2] at h1
            exact ⟨a, b, rfl, (hv.rq s1.rel q1).int, h1 A1 _ H1 (s1.put (.inl ⟨_, rfl, rp_int⟩) q2)⟩
        | _ => exact h1.elim
    | _ => exact h.elim
end
end VL


set_option Elab.async false
set_option linter.all false
set_option maxRecDepth 100000
set_option maxHeartbeats 2000000
namespace VL
open PySem PySem.Spec PyProof.Rows L2
variable [TbP]

/-! ### what is gone through -/
/-- the items that an iterator gives from here on -/
def Itm (K : Frag) (A : AS) (H : Hp) (J : It) (items : List D) : Prop :=
  ∃ (Gh : Hp → Prop) (Y : Nat → Hp → V → Hp → Prop), Walk J items.length Gh Y ∧ (∀ (A' : AS) (H' : Hp), (∀ a, A a → A' a) → Kp A H H' → Gh H') ∧
    ∀ (i : Nat) (A' : AS) (H' : Hp) (x : V) (H2 : Hp), (∀ a, A a → A' a) → Kp A H H' → Y i H' x H2 → Same H' H2 ∧ ∃ d, items[i]? = some d ∧ Rp K A' H2 d x
abbrev IF := En → Rs (List D)
def tI (G : Gd) (f : IF) : TI := fun σ H R => ∃ A env, Rel G.K A σ H env ∧ Post G A σ H env (f env) fun items e A' H' => ∀ J, Itm G.K A' H' J items → R J H'
theorem PI.imp {X : Cx} {tg e : Expr} {t t' : TI} (h : PI X tg e t) (i : ∀ σ H Q, t' σ H Q → t σ H Q) : PI X tg e t' := ⟨fun pins s σ H Q I q => h.run pins s σ H Q I (i σ H Q q)⟩
theorem PI.or {X : Cx} {tg e : Expr} {t t' : TI} (h : PI X tg e t) (h' : PI X tg e t') : PI X tg e (fun σ H Q => t σ H Q ∨ t' σ H Q) :=
  ⟨fun pins s σ H Q I q => q.elim (h.run pins s σ H Q I) (h'.run pins s σ H Q I)⟩
theorem sql_kp {K : Frag} {A : AS} {H H' : Hp} {a : Addr} {xs : List V} (h : LsOk K A H a xs) (k : Kp A H H') : SqL K H' a xs := by
  rcases h with ⟨z, h⟩ | h
  · exact .inl (rd_kp k (.inl z) h)
  · exact .inr h
theorem sqt_kp {K : Frag} {A : AS} {H H' : Hp} {a : Addr} {xs : List V} (h : SqT K H a xs) (k : Kp A H H') : SqT K H' a xs := h.imp (fun z => rd_kp (u := .tup xs) k (.inr trivial) z) id
theorem itm_list {K : Frag} {A : AS} {H : Hp} {a : Addr} {ds : List D} {xs : List V} (l : LsOk K A H a xs) (r : RpL K A H ds xs) : Itm K A H (Itl K a) ds :=
  ⟨_, _, by rw [r.length]; exact walk_list (xs := xs), fun A' H' fr k => sql_kp l k, fun i A' H' x H2 fr k y => by
    obtain ⟨rfl, e⟩ := y
    obtain ⟨d, e1, e2⟩ := (r.mono fr k).at' e
    exact ⟨Same.refl _, d, e1, e2⟩⟩
theorem itm_tup {K : Frag} {A : AS} {H : Hp} {a : Addr} {ds : List D} {xs : List V} (l : SqT K H a xs) (r : RpL K A H ds xs) : Itm K A H (Itt K a) ds :=
  ⟨_, _, by rw [r.length]; exact walk_tup (xs := xs), fun A' H' fr k => sqt_kp l k, fun i A' H' x H2 fr k y => by
    obtain ⟨rfl, e⟩ := y
    obtain ⟨d, e1, e2⟩ := (r.mono fr k).at' e
    exact ⟨Same.refl _, d, e1, e2⟩⟩
def signsD (z : Str) : List D := z.cps.toList.map fun c => PyData.str ⟨#[c]⟩
theorem itm_str {K : Frag} {A : AS} {H : Hp} {z : Str} : Itm K A H (Its z) (signsD z) :=
  ⟨_, _, by simpa [signsD] using walk_str (z := z), fun A' H' fr k => trivial, fun i A' H' x H2 fr k y => by
    obtain ⟨rfl, c, e, rfl⟩ := y
    refine ⟨Same.refl _, .str ⟨#[c]⟩, ?_, rp_str⟩
    simp only [signsD, List.getElem?_map]
    rw [show z.cps.toList[i]? = some c by simpa using e]
    rfl⟩
def rangeD (lo : Int) (n : Nat) : List D := (List.range n).map fun (i : Nat) => PyData.int (lo + (i : Int))
theorem itm_range {K : Frag} {A : AS} {H : Hp} {lo : Int} {n : Nat} : Itm K A H (Itr lo n) (rangeD lo n) :=
  ⟨fun _ => True, fun i H' x H2 => i < n ∧ H2 = H' ∧ x = .int (lo + i), by
    have w := (walk_range (lo := lo) (n := n))
    have : (rangeD lo n).length = n := by simp [rangeD]
    rw [this]
    exact ⟨w.goes, w.stops, fun i H x H' hi g y => ⟨hi, w.yields i H x H' hi g y⟩⟩, fun A' H' fr k => trivial, fun i A' H' x H2 fr k y => by
    obtain ⟨hi, rfl, rfl⟩ := y
    exact ⟨Same.refl _, .int (lo + i), by simp [rangeD, hi], rp_int⟩⟩
def range3D (lo c : Int) (n : Nat) : List D := (List.range n).map fun (i : Nat) => PyData.int (lo + (i : Int) * c)
theorem itm_range3 {K : Frag} {A : AS} {H : Hp} {lo c : Int} {n : Nat} : Itm K A H (Itc lo c n) (range3D lo c n) :=
  ⟨fun _ => True, fun i H' x H2 => i < n ∧ H2 = H' ∧ x = .int (lo + (i : Nat) * c), by
    have w := (walk_rangeC (lo := lo) (c := c) (n := n))
    have : (range3D lo c n).length = n := by simp [range3D]
    rw [this]
    exact ⟨w.goes, w.stops, fun i H x H' hi g y => ⟨hi, w.yields i H x H' hi g y⟩⟩, fun A' H' fr k => trivial, fun i A' H' x H2 fr k y => by
    obtain ⟨hi, rfl, rfl⟩ := y
    exact ⟨Same.refl _, .int (lo + (i : Nat) * c), by simp [range3D, hi], rp_int⟩⟩
theorem rp_pair {K : Frag} {A : AS} {H : Hp} {T : Addr} {d1 d2 : D} {x y : V} (n : H T = none) (h1 : Rp K A H d1 x) (h2 : Rp K A H d2 y) : Rp K A (upd H T (.tup [x, y])) (.tuple [d1, d2]) (.ref T) := rp_tup n (.cons h1 (.cons h2 .nil))
def enumD (ds : List D) : List D := ds.mapIdx fun (i : Nat) d => PyData.tuple [.int (i : Int), d]
theorem itm_enum {K : Frag} {A : AS} {H : Hp} {a : Addr} {ds : List D} {xs : List V} (l : LsOk K A H a xs) (r : RpL K A H ds xs) : Itm K A H (Ite K a) (enumD ds) :=
  ⟨_, _, by
    have : (enumD ds).length = xs.length := by simp [enumD, r.length]
    rw [this]; exact walk_enum (xs := xs), fun A' H' fr k => sql_kp l k, fun i A' H' x H2 fr k y => by
    obtain ⟨T, x', y', rfl, hn, rfl, e1, e2⟩ := y
    cases e1
    obtain ⟨d, q1, q2⟩ := (r.mono fr k).at' e2
    exact ⟨same_upd hn, .tuple [.int i, d], by simp [enumD, q1], rp_pair hn rp_int q2⟩⟩
def zipD (ds es : List D) : List D := List.zipWith (fun a b => PyData.tuple [a, b]) ds es
theorem zipD_get {ds es : List D} {i : Nat} {d e : D} (h1 : ds[i]? = some d) (h2 : es[i]? = some e) : (zipD ds es)[i]? = some (.tuple [d, e]) := by
  simp [zipD, List.getElem?_zipWith, h1, h2]
theorem itm_zipL {K : Frag} {A : AS} {H : Hp} {a b : Addr} {ds es : List D} {xs ys : List V} (l : LsOk K A H a xs) (r : RpL K A H ds xs) (l2 : LsOk K A H b ys) (r2 : RpL K A H es ys) : Itm K A H (Itz K a b) (zipD ds es) :=
  ⟨_, _, walk_zip (xs := xs) (ys := ys) (by simp [zipD, r.length, r2.length]), fun A' H' fr k => ⟨sql_kp l k, sql_kp l2 k⟩, fun i A' H' x H2 fr k y => by
    obtain ⟨T, x', y', rfl, hn, rfl, e1, e2⟩ := y
    obtain ⟨d, q1, q2⟩ := (r.mono fr k).at' e1
    obtain ⟨d', q3, q4⟩ := (r2.mono fr k).at' e2
    exact ⟨same_upd hn, .tuple [d, d'], zipD_get q1 q3, rp_pair hn q2 q4⟩⟩
theorem walk_zipT {K : Frag} {a b : Addr} {xs ys : List V} {n : Nat} (hn : n = min xs.length ys.length) : Walk (RZ.ItzT K a b) n (fun H => SqT K H a xs ∧ SqT K H b ys) (YPair (fun i => xs[i]?) (fun i => ys[i]?)) := by
  subst hn
  refine ⟨fun i _ hi q => ?_, fun _ q => ⟨xs, ys, q.1, q.2, by omega⟩, fun i H v H' _ q y => ?_⟩
  · have h1 : i < xs.length := by omega
    have h2 : i < ys.length := by omega
    exact ⟨xs, ys, xs[i], ys[i], q.1, q.2, by simp [h1], by simp [h2]⟩
  · obtain ⟨T, x, z, h1, h2, h3, h4, h5⟩ := y
    exact ⟨T, x, z, h1, h2, h3, h4 xs q.1, h5 ys q.2⟩
theorem itm_zipT {K : Frag} {A : AS} {H : Hp} {a b : Addr} {ds es : List D} {xs ys : List V} (l : SqT K H a xs) (r : RpL K A H ds xs) (l2 : SqT K H b ys) (r2 : RpL K A H es ys) : Itm K A H (RZ.ItzT K a b) (zipD ds es) :=
  ⟨_, _, walk_zipT (xs := xs) (ys := ys) (by simp [zipD, r.length, r2.length]), fun A' H' fr k => ⟨sqt_kp l k, sqt_kp l2 k⟩, fun i A' H' x H2 fr k y => by
    obtain ⟨T, x', y', rfl, hn, rfl, e1, e2⟩ := y
    obtain ⟨d, q1, q2⟩ := (r.mono fr k).at' e1
    obtain ⟨d', q3, q4⟩ := (r2.mono fr k).at' e2
    exact ⟨same_upd hn, .tuple [d, d'], zipD_get q1 q3, rp_pair hn q2 q4⟩⟩
/-! the iterables -/
def itemsD : D → Option (List D)
  | .list ds => some ds
  | .tuple ds => some ds
  | .str z => some (signsD z)
  | _ => none
def itF (f : EF) : IF := fun env => (f env).bind fun r e => match frz e r with
  | some (d, e2) => (match itemsD d with
    | some l => .ok l e2
    | none => .no)
  | none => .no
def rngF (fs : AF) : IF := fun env => (fs env).bind fun rs e => match rdAll e rs with
  | some [.int j] => if -(2 ^ 62) ≤ j ∧ j < 2 ^ 62 then .ok (rangeD 0 j.toNat) e else .no
  | _ => .no
def rng2F (fs : AF) : IF := fun env => (fs env).bind fun rs e => match rdAll e rs with
  | some [.int i, .int j] => if -(2 ^ 62) ≤ i ∧ i < 2 ^ 62 ∧ -(2 ^ 62) ≤ j ∧ j < 2 ^ 62 then .ok (rangeD i (j - i).toNat) e else .no
  | _ => .no
def enumF (fs : AF) : IF := fun env => (fs env).bind fun rs e => match frzAll e rs with
  | some ([.list ds], e2) => .ok (enumD ds) e2
  | _ => .no
def zipF (fs : AF) : IF := fun env => (fs env).bind fun rs e => match frzAll e rs with
  | some ([.list ds, .list es], e2) => .ok (zipD ds es) e2
  | some ([.tuple ds, .tuple es], e2) => .ok (zipD ds es) e2
  | _ => .no
theorem Rp.lst {K : Frag} {A : AS} {H : Hp} {ds : List D} {v : V} (h : Rp K A H (.list ds) v) : ∃ a xs, v = .ref a ∧ LsOk K A H a xs ∧ RpL K A H ds xs := by simpa only [Rp] using h
theorem Rp.tup {K : Frag} {A : AS} {H : Hp} {ds : List D} {v : V} (h : Rp K A H (.tuple ds) v) : ∃ a xs, v = .ref a ∧ SqT K H a xs ∧ RpL K A H ds xs := by simpa only [Rp] using h
section
variable {X : Cx} {W : WX} {tg e e2 : Expr} {f : EF} {fs : AF} {p pos tpos : Pos} {elts : List Expr} {kk : Nat}
theorem i_it (h : PE X e (tE (gd X W) f)) : PI X tg e (tI (gd X W) (itF f)) := PI.imp (VL.PI.or (pi_list h) (VL.PI.or (pi_tup h) (pi_str h))) fun σ H R h => by
  obtain ⟨A, env, rel, h⟩ := h
  have h' := h
  unfold itF at h
  cases q0 : f env with
  | no => rw [q0] at h; exact h.elim
  | ex x e => rw [q0] at h; exact .inl ⟨A, env, rel, by rw [q0]; exact h⟩
  | ok r e =>
    rw [q0] at h
    simp only [Rs.bind] at h
    cases q : frz e r with
    | none => rw [q] at h; exact h.elim
    | some pp =>
      obtain ⟨d, e2⟩ := pp
      rw [q] at h
      dsimp only at h
      match d, h, q with
      | .list ds, h, q =>
        refine .inl ⟨A, env, rel, ?_⟩
        rw [q0]
        intro A' H' s v hv
        obtain ⟨A2, s2, f2, rp, _⟩ := frz_ok s hv q
        obtain ⟨a, xs, rfl, l, r⟩ := rp.lst
        exact ⟨a, rfl, ⟨xs, l.sq⟩, h A2 H' s2 _ (itm_list l r)⟩
      | .tuple ds, h, q =>
        refine .inr (.inl ⟨A, env, rel, ?_⟩)
        rw [q0]
        intro A' H' s v hv
        obtain ⟨A2, s2, f2, rp, _⟩ := frz_ok s hv q
        obtain ⟨a, xs, rfl, l, r⟩ := rp.tup
        exact ⟨a, rfl, ⟨xs, l⟩, h A2 H' s2 _ (itm_tup l r)⟩
      | .str z, h, q =>
        refine .inr (.inr ⟨A, env, rel, ?_⟩)
        rw [q0]
        intro A' H' s v hv
        obtain ⟨A2, s2, f2, rp, _⟩ := frz_ok s hv q
        simp only [Rp] at rp
        exact ⟨z, rp, h A2 H' s2 _ itm_str⟩
      | .none, h, _ => exact h.elim
      | .bool _, h, _ => exact h.elim
      | .int _, h, _ => exact h.elim
      | .dict _, h, _ => exact h.elim
theorem i_rng1 {a : Expr} (hm : X.mg "range" = none) (ha : PA X [a] (tA (gd X W) fs)) (hg : Gl X "range" := by rfl) (hs : starEach [a] X.env = [(false, eval a X.env)] := by rfl) : PI X tg (.Call (.Name "range" p) [a] [] pos) (tI (gd X W) (rngF fs)) :=
  PI.imp ((pi_range1 hg hm ha hs)) fun σ H R h => by
    obtain ⟨A, env, rel, h⟩ := h
    refine ⟨A, env, rel, Post.cut h fun rs e1 A1 H1 s1 h1 vs hvs => ?_⟩
    cases q1 : rdAll e1 rs with
    | none => rw [q1] at h1; exact h1.elim
    | some ds =>
      rw [q1] at h1
      have rq := hvs.rq s1.rel q1
      match ds, h1, rq with
      | [.int j], h1, rq =>
        dsimp only at h1
        by_cases c : -(2 ^ 62) ≤ j ∧ j < 2 ^ 62
        · rw [if_pos c] at h1
          obtain ⟨v, rfl, r⟩ := rq.one
          exact ⟨j, by rw [r.int], c.1, c.2, h1 A1 H1 s1 _ itm_range⟩
        · rw [if_neg c] at h1; exact h1.elim
      | [], h1, _ => exact h1.elim
      | [.none], h1, _ => exact h1.elim
      | [.bool _], h1, _ => exact h1.elim
      | [.str _], h1, _ => exact h1.elim
      | [.list _], h1, _ => exact h1.elim
      | [.tuple _], h1, _ => exact h1.elim
      | [.dict _], h1, _ => exact h1.elim
      | d1 :: d2 :: rr, h1, rq => exact absurd h1 (by simp [Post])
theorem i_rng2 {a b : Expr} (hm : X.mg "range" = none) (ha : PA X [a, b] (tA (gd X W) fs)) (hg : Gl X "range" := by rfl) (hs : starEach [a, b] X.env = [(false, eval a X.env), (false, eval b X.env)] := by rfl) (hs2 : starEach [b] X.env = [(false, eval b X.env)] := by rfl) : PI X tg (.Call (.Name "range" p) [a, b] [] pos) (tI (gd X W) (rng2F fs)) :=
  PI.imp ((pi_range2 hg hm ha hs hs2)) fun σ H R h => by
    obtain ⟨A, env, rel, h⟩ := h
    refine ⟨A, env, rel, Post.cut h fun rs e1 A1 H1 s1 h1 vs hvs => ?_⟩
    cases q1 : rdAll e1 rs with
    | none => rw [q1] at h1; exact h1.elim
    | some ds =>
      rw [q1] at h1
      have rq := hvs.rq s1.rel q1
      dsimp only at h1
      split at h1
      · rename_i i j e
        cases e
        by_cases c : -(2 ^ 62) ≤ i ∧ i < 2 ^ 62 ∧ -(2 ^ 62) ≤ j ∧ j < 2 ^ 62
        · rw [if_pos c] at h1
          obtain ⟨v, v', rfl, r, r'⟩ := rq.two
          exact ⟨i, j, by rw [r.int, r'.int], c, h1 A1 H1 s1 _ itm_range⟩
        · rw [if_neg c] at h1; exact h1.elim
      · exact h1.elim
theorem i_enum (hm : X.mg "enumerate" = none) (ha : PA X [e] (tA (gd X W) fs)) (hg : Gl X "enumerate" := by rfl) (hs : starEach [e] X.env = [(false, eval e X.env)] := by rfl) : PI X (.Tuple elts kk tpos) (.Call (.Name "enumerate" p) [e] [] pos) (tI (gd X W) (enumF fs)) :=
  PI.imp (pi_enum hg hm ha hs) fun σ H R h => by
    obtain ⟨A, env, rel, h⟩ := h
    refine ⟨A, env, rel, Post.cut h fun rs e1 A1 H1 s1 h1 vs hvs => ?_⟩
    dsimp only at h1
    split at h1
    · rename_i ds e2 q
      obtain ⟨A2, s2, f2, rpl⟩ := frzAll_ok s1 (fun _ z => z) hvs q
      obtain ⟨v, t, rfl, r1, r2⟩ := rpl.inv_cons
      rw [r2.inv_nil]
      obtain ⟨a, xs, rfl, l, r⟩ := r1.lst
      exact ⟨a, xs, rfl, l.sq, h1 A2 H1 s2 _ (itm_enum l r)⟩
    · exact h1.elim
theorem i_zip (hm : X.mg "zip" = none) (ha : PA X [e, e2] (tA (gd X W) fs)) (hg : Gl X "zip" := by rfl) (hs : starEach [e, e2] X.env = (false, eval e X.env) :: starEach [e2] X.env := by rfl) (hpl : (backTo pos (starEach [e2] X.env)).any (·.1) = false := by rfl) :
    PI X (.Tuple elts kk tpos) (.Call (.Name "zip" p) [e, e2] [] pos) (tI (gd X W) (zipF fs)) :=
  PI.imp (RZ.pi_zipA hg hm ha hs hpl) fun σ H R h => by
    obtain ⟨A, env, rel, h⟩ := h
    refine ⟨A, env, rel, Post.cut h fun rs e1 A1 H1 s1 h1 vs hvs => ?_⟩
    dsimp only at h1
    split at h1
    · rename_i ds es e2 q
      obtain ⟨A2, s2, f2, rpl⟩ := frzAll_ok s1 (fun _ z => z) hvs q
      obtain ⟨v, t, rfl, r1, r2⟩ := rpl.inv_cons
      obtain ⟨v2, t2, rfl, r3, r4⟩ := r2.inv_cons
      rw [r4.inv_nil]
      obtain ⟨a, xs, rfl, l, r⟩ := r1.lst
      obtain ⟨b, ys, rfl, l2, r2⟩ := r3.lst
      exact ⟨a, b, xs, ys, rfl, .inl ⟨l.sq, l2.sq, h1 A2 H1 s2 _ (itm_zipL l r l2 r2)⟩⟩
    · rename_i ds es e2 q
      obtain ⟨A2, s2, f2, rpl⟩ := frzAll_ok s1 (fun _ z => z) hvs q
      obtain ⟨v, t, rfl, r1, r2⟩ := rpl.inv_cons
      obtain ⟨v2, t2, rfl, r3, r4⟩ := r2.inv_cons
      rw [r4.inv_nil]
      obtain ⟨a, xs, rfl, l, r⟩ := r1.tup
      obtain ⟨b, ys, rfl, l2, r2⟩ := r3.tup
      exact ⟨a, b, xs, ys, rfl, .inr ⟨l, l2, h1 A2 H1 s2 _ (itm_zipT l r l2 r2)⟩⟩
    · exact h1.elim
end

/-! ### for -/
def forGo (tgt : GF) (body : SF) : List D → En → Rb
  | [], e => .nx e
  | d :: ds, e => match tgt d e with
    | some e1 => (match body e1 with
      | .nx e2 => forGo tgt body ds e2
      | .ct e2 => forGo tgt body ds e2
      | .bk e2 => .nx e2
      | r => r)
    | none => .no
def forF (it : IF) (tgt : GF) (body : SF) : SF := fun env => (it env).st fun items e => forGo tgt body items e
theorem drop_cons {α : Type} : ∀ {l : List α} {i : Nat} {x : α}, l[i]? = some x → l.drop i = x :: l.drop (i + 1)
  | [], i, x, h => by simp at h
  | a :: l, 0, x, h => by simp at h; subst h; rfl
  | a :: l, i + 1, x, h => by simpa using drop_cons (l := l) (i := i) (by simpa using h)
section
variable {X : Cx} {W : WX} {tg iter : Expr} {body : List Stmt} {it : IF} {g : TG} {t : GF} {vs : List Nat} {fb : SF} {pos : Pos}
theorem s_for (hp : PassesOwn (model X.prog X.w) X.A X.env X.xe) (hc : X.calm = true) (hi : PI X tg iter (tI (gd X W) it)) (hg : PG X tg g) (ht : TgOk (gd X W) g t vs) (hb : PSs X body (tS (gd X W) fb)) (hs : ∀ x, foldedSetIterable iter X.env x = pure x := by intro _; rfl) :
    PS X (.For tg iter body [] pos) (tS (gd X W) (forF it t fb)) := PS.imp (ps_for hp hc hi hg hb hs) fun Z σ H h => by
  obtain ⟨A, env, rel, h⟩ := h
  refine ⟨A, env, rel, (SPost.bind h).imp fun items e1 A1 H1 s1 h1 J hJ => ?_⟩
  obtain ⟨Gh, Y, w, hG, hY⟩ := hJ
  refine for_it w (fun i σ' H' => ∃ A' e', Stp X.K A1 σ H1 e1 A' σ' H' e' ∧ SPost (gd X W) A1 σ H1 e1 (forGo t fb (items.drop i) e') Z) ⟨A1, e1, .refl s1.rel, h1⟩
    (fun i σ' H' _ ⟨A', e', s, _⟩ => hG A' H' s.ext.fr (s.ext.kp s1.rel)) (fun i x σ' H' H2 hi ⟨A', e', s, q⟩ y => ?_) fun σ' H' ⟨A', e', s, q⟩ => ?_
  · obtain ⟨sm, d, ed, rp⟩ := hY i A' H' x H2 s.ext.fr (s.ext.kp s1.rel) y
    rw [drop_cons ed] at q
    unfold forGo at q
    have s' := s.trans (Stp.same s.rel sm)
    cases q1 : t d e' with
    | none => rw [q1] at q; exact q.elim
    | some e2 =>
      rw [q1] at q
      dsimp only at q
      refine ht A1 A' σ σ' H1 H2 e1 e' e2 d x _ s' rp q1 fun σ2 s2 _ _ => ⟨A', e2, s2.rel, ?_⟩
      cases q2 : fb e2 with
      | nx e3 =>
        rw [q2] at q
        exact fun A3 σ3 H3 s3 => ⟨A3, e3, s2.trans s3, q⟩
      | ct e3 =>
        rw [q2] at q
        exact fun A3 σ3 H3 s3 => ⟨A3, e3, s2.trans s3, q⟩
      | bk e3 =>
        rw [q2] at q
        exact fun A3 σ3 H3 s3 => q A3 σ3 H3 (s2.trans s3)
      | rt r e3 =>
        rw [q2] at q
        exact SPost.move (Z := { Z with nx := _, ct := _, bk := _ }) s2 (show SPost (gd X W) A1 σ H1 e1 (.rt r e3) { Z with nx := _, ct := _, bk := _ } from q)
      | ex x e3 =>
        rw [q2] at q
        exact SPost.move (Z := { Z with nx := _, ct := _, bk := _ }) s2 (show SPost (gd X W) A1 σ H1 e1 (.ex x e3) { Z with nx := _, ct := _, bk := _ } from q)
      | no => rw [q2] at q; exact q.elim
  · rw [List.drop_length] at q
    exact q A' σ' H' s
end

/-! ### while -/
def whGo (c : TF) (body : SF) : Nat → En → Rb
  | 0, _ => .no
  | n + 1, e => (c e).st fun b e1 => if b = true then (match body e1 with
      | .nx e2 => whGo c body n e2
      | .ct e2 => whGo c body n e2
      | .bk e2 => .nx e2
      | r => r) else .nx e1
/-- so many turns that no loop here is longer -/
def whF (fuel : Nat) (c : TF) (body : SF) : SF := whGo c body fuel
section
variable {X : Cx} {W : WX} {c : Expr} {body : List Stmt} {fc : TF} {fb : SF} {pos : Pos}
theorem s_while {fuel : Nat} (hp : PassesOwn (model X.prog X.w) X.A X.env X.xe) (hc : PT X c (tT (gd X W) fc)) (hb : PSs X body (tS (gd X W) fb)) : PS X (.While c body [] pos) (tS (gd X W) (whF fuel fc fb)) := PS.imp (ps_while hp hc hb) fun Z σ H h => by
  obtain ⟨A, env, rel, h⟩ := h
  refine ⟨fun m σ' H' => ∃ A' e', Stp X.K A σ H env A' σ' H' e' ∧ SPost (gd X W) A σ H env (whGo fc fb m e') Z, ⟨fuel, A, env, .refl rel, h⟩, fun m σ' H' ⟨A', e', s, q⟩ => ?_⟩
  cases m with
  | zero => exact q.elim
  | succ m =>
    unfold whGo at q
    refine ⟨A', e', s.rel, ?_⟩
    cases q0 : fc e' with
    | no => rw [q0] at q; exact q.elim
    | ex x e2 => rw [q0] at q; exact fun A2 H2 c d s2 => q A2 σ' H2 c d (s.trans s2)
    | ok b e2 =>
      rw [q0] at q
      simp only [Rs.st] at q
      intro A2 H2 s2
      have s' := s.trans s2
      cases b with
      | false =>
        rw [if_neg Bool.false_ne_true] at q
        exact q A2 σ' H2 s'
      | true =>
        rw [if_pos rfl] at q
        show if true = true then _ else _
        rw [if_pos rfl]
        refine ⟨fun σ3 H3 => ∃ A3 e3, Stp X.K A σ H env A3 σ3 H3 e3 ∧ SPost (gd X W) A σ H env (whGo fc fb m e3) Z, fun σ3 H3 z => ⟨m, Nat.lt_succ_self m, z⟩, A2, e2, s'.rel, ?_⟩
        cases q2 : fb e2 with
        | nx e3 =>
          rw [q2] at q
          exact fun A3 σ3 H3 s3 => ⟨A3, e3, s'.trans s3, q⟩
        | ct e3 =>
          rw [q2] at q
          exact fun A3 σ3 H3 s3 => ⟨A3, e3, s'.trans s3, q⟩
        | bk e3 =>
          rw [q2] at q
          exact fun A3 σ3 H3 s3 => q A3 σ3 H3 (s'.trans s3)
        | rt r e3 =>
          rw [q2] at q
          exact SPost.move (Z := { Z with nx := _, ct := _, bk := _ }) s' (show SPost (gd X W) A σ H env (.rt r e3) { Z with nx := _, ct := _, bk := _ } from q)
        | ex x e3 =>
          rw [q2] at q
          exact SPost.move (Z := { Z with nx := _, ct := _, bk := _ }) s' (show SPost (gd X W) A σ H env (.ex x e3) { Z with nx := _, ct := _, bk := _ } from q)
        | no => rw [q2] at q; exact q.elim
end
end VL


set_option Elab.async false
set_option linter.all false
set_option maxRecDepth 100000
set_option maxHeartbeats 2000000
namespace VL
open PySem PySem.Spec PyProof.Rows L2
variable [TbP]

/-! ### list comprehensions -/
def wipeE (e : En) : List Nat → En
  | [] => e
  | v :: vs => (wipeE e vs).set v .un
def unwipe (env e : En) : List Nat → En
  | [] => e
  | v :: vs => (unwipe env e vs).set v ((env[v]?).getD .un)
def cleanS : Option Sl → Bool
  | some .un => true
  | some (.sh _) => true
  | none => true
  | _ => false
def clean (env : En) (vs : List Nat) : Bool := vs.all fun v => cleanS env[v]?
theorem wipe_get {σ : L2.St} {j : Nat} : ∀ {vs : List Nat}, j ∉ vs → (wipe σ vs)[j]? = σ[j]?
  | [], _ => rfl
  | v :: vs, h => by
    rw [List.mem_cons, not_or] at h
    unfold wipe
    rw [List.getElem?_set_ne (Ne.symm h.1)]
    exact wipe_get h.2
theorem wipe_in {σ : L2.St} {j : Nat} : ∀ {vs : List Nat}, j ∈ vs → j < σ.length → (wipe σ vs)[j]? = some none
  | v :: vs, h, l => by
    unfold wipe
    by_cases q : v = j
    · subst q
      rw [List.getElem?_set_self (by rw [wipe_length]; exact l)]
    · rw [List.getElem?_set_ne q]
      exact wipe_in ((List.mem_cons.mp h).resolve_left (Ne.symm q)) l
theorem wipeE_length {e : En} : ∀ {vs : List Nat}, (wipeE e vs).length = e.length
  | [] => rfl
  | v :: vs => by unfold wipeE; rw [List.length_set, wipeE_length]
theorem wipeE_get {e : En} {j : Nat} : ∀ {vs : List Nat}, j ∉ vs → (wipeE e vs)[j]? = e[j]?
  | [], _ => rfl
  | v :: vs, h => by
    rw [List.mem_cons, not_or] at h
    unfold wipeE
    rw [List.getElem?_set_ne (Ne.symm h.1)]
    exact wipeE_get h.2
theorem wipeE_in {e : En} {j : Nat} {s : Sl} : ∀ {vs : List Nat}, j ∈ vs → (wipeE e vs)[j]? = some s → s = .un
  | v :: vs, h, q => by
    unfold wipeE at q
    by_cases c : v = j
    · subst c
      by_cases l : v < (wipeE e vs).length
      · rw [List.getElem?_set_self l] at q
        exact (Option.some.inj q).symm
      · rw [List.getElem?_eq_none (by rw [List.length_set]; omega)] at q; cases q
    · rw [List.getElem?_set_ne c] at q
      exact wipeE_in ((List.mem_cons.mp h).resolve_left (Ne.symm c)) q
theorem unwipe_length {env e : En} : ∀ {vs : List Nat}, (unwipe env e vs).length = e.length
  | [] => rfl
  | v :: vs => by unfold unwipe; rw [List.length_set, unwipe_length]
theorem unwipe_get {env e : En} {j : Nat} : ∀ {vs : List Nat}, j ∉ vs → (unwipe env e vs)[j]? = e[j]?
  | [], _ => rfl
  | v :: vs, h => by
    rw [List.mem_cons, not_or] at h
    unfold unwipe
    rw [List.getElem?_set_ne (Ne.symm h.1)]
    exact unwipe_get h.2
theorem unwipe_in {env e : En} {j : Nat} : ∀ {vs : List Nat}, j ∈ vs → env.length = e.length → (unwipe env e vs)[j]? = env[j]?
  | v :: vs, h, l => by
    unfold unwipe
    by_cases c : v = j
    · subst c
      by_cases lt : v < env.length
      · rw [List.getElem?_set_self (by rw [unwipe_length]; omega)]
        simp [lt]
      · rw [List.getElem?_eq_none (by rw [List.length_set, unwipe_length]; omega), List.getElem?_eq_none (by omega)]
    · rw [List.getElem?_set_ne c]
      exact unwipe_in ((List.mem_cons.mp h).resolve_left (Ne.symm c)) l
section
variable {K : Frag} {A A' : AS} {σ σ2 : L2.St} {H H' : Hp} {env e2 : En} {vs : List Nat}
theorem wipe_own {j : Nat} {d : D} (h : isOwn (wipeE env vs) j d) : j ∉ vs ∧ isOwn env j d := by
  have n : j ∉ vs := fun z => by
    rcases h with h | h
    · cases wipeE_in z h
    · cases wipeE_in z h
  refine ⟨n, ?_⟩
  unfold isOwn at h ⊢
  rw [wipeE_get n] at h
  exact h
theorem wipe_owi {j : Nat} {a : Addr} (h : Owi (wipe σ vs) (wipeE env vs) j a) : Owi σ env j a := by
  obtain ⟨⟨d, hd⟩, e⟩ := h
  obtain ⟨n, hd⟩ := wipe_own hd
  rw [wipe_get n] at e
  exact ⟨⟨d, hd⟩, e⟩
theorem Rel.wipe (r : Rel K A σ H env) : Rel K A (L2.wipe σ vs) H (wipeE env vs) := by
  refine ⟨by rw [wipe_length, wipeE_length]; exact r.len, fun i d h => ?_, fun i d h => ?_, fun i j a h1 h2 => r.ap i j a (wipe_owi h1) (wipe_owi h2), r.dom, fun i d h => ?_, r.tb⟩
  · have n : i ∉ vs := fun z => by
      rcases h with h | h
      · cases wipeE_in z h
      · cases wipeE_in z h
    rw [wipeE_get n] at h
    rw [wipe_get n]
    exact r.sh i d h
  · obtain ⟨n, h⟩ := wipe_own h
    rw [wipe_get n]
    exact r.ow i d h
  · have n : i ∉ vs := fun z => by cases wipeE_in z h
    rw [wipeE_get n] at h
    rw [wipe_get n]
    exact r.fz i d h
theorem clean_at (c : clean env vs = true) {j : Nat} (h : j ∈ vs) : cleanS env[j]? = true := List.all_eq_true.mp c j h
theorem clean_own (c : clean env vs = true) {j : Nat} {d : D} (h : isOwn env j d) : j ∉ vs := fun z => by
  have := clean_at c z
  rcases h with h | h <;> (rw [h] at this; cases this)
theorem Stp.unwipe (r : Rel K A σ H env) (c : clean env vs = true) (s : Stp K A (wipe σ vs) H (wipeE env vs) A' σ2 H' e2) (hl : σ2.length = σ.length) (off : ∀ j, j ∉ vs → σ2[j]? = (wipe σ vs)[j]?) : Stp K A σ H env A' σ H' (VL.unwipe env e2 vs) := by
  have len2 : σ2.length = e2.length := s.rel.len
  have lenE : env.length = e2.length := by rw [← len2, hl, r.len]
  have owO : ∀ a, Ow (wipe σ vs) (wipeE env vs) a → Ow σ env a := fun a ⟨j, h⟩ => ⟨j, wipe_owi h⟩
  have off' : ∀ j, j ∉ vs → σ2[j]? = σ[j]? := fun j h => (off j h).trans (wipe_get h)
  have uo : ∀ j d, isOwn (VL.unwipe env e2 vs) j d → j ∉ vs ∧ isOwn e2 j d := fun j d h => by
    have n : j ∉ vs := fun z => by
      have q := clean_at c z
      unfold isOwn at h
      rw [unwipe_in z lenE] at h
      rcases h with h | h <;> (rw [h] at q; cases q)
    refine ⟨n, ?_⟩
    unfold isOwn at h ⊢
    rw [unwipe_get n] at h
    exact h
  have uow : ∀ j a, Owi σ (VL.unwipe env e2 vs) j a → Owi σ2 e2 j a := fun j a ⟨⟨d, h⟩, e⟩ => by
    obtain ⟨n, h⟩ := uo j d h
    exact ⟨⟨d, h⟩, by rw [off' j n]; exact e⟩
  have kp : Kp A H H' := s.ext.kp r.wipe
  refine ⟨⟨s.ext.fr, fun a o e n => s.ext.keep a o e fun z => n (owO a z), fun a h => (s.ext.old a h).imp id fun z => z.imp id (owO a), s.ext.al, s.ext.tab⟩, ⟨by rw [unwipe_length, ← lenE]; exact r.len, fun i d h => ?_, fun i d h => ?_, fun i j a h1 h2 => s.rel.ap i j a (uow i a h1) (uow j a h2), s.rel.dom, fun i d h => ?_, s.rel.tb⟩,
    fun a ⟨j, h⟩ => (s.sub a ⟨j, uow j a h⟩).imp (owO a) id, fun i d h => ?_, fun i h => ?_⟩
  · by_cases z : i ∈ vs
    · rw [unwipe_in z lenE] at h
      obtain ⟨v, e, q⟩ := r.sh i d h
      exact ⟨v, e, q.mono s.ext.fr kp⟩
    · rw [unwipe_get z] at h
      rw [← off' i z]
      exact s.rel.sh i d h
  · obtain ⟨n, h⟩ := uo i d h
    rw [← off' i n]
    exact s.rel.ow i d h
  · have n : i ∉ vs := fun z => by
      have q := clean_at c z
      rw [unwipe_in z lenE] at h
      rw [h] at q; cases q
    rw [unwipe_get n] at h
    rw [← off' i n]
    exact s.rel.fz i d h
  · have n : i ∉ vs := fun z => by
      have q := clean_at c z
      rcases h with h | h <;> (rw [h] at q; cases q)
    rw [← wipeE_get n] at h
    obtain ⟨_, d', q⟩ := s.io i d h
    rw [unwipe_get n]
    exact ⟨rfl, d', q⟩
  · by_cases z : i ∈ vs
    · unfold rdAt at h ⊢
      rw [unwipe_in z lenE]
      exact h
    · have := s.rdb i (by unfold rdAt at h ⊢; rw [wipeE_get z]; exact h)
      unfold rdAt at this ⊢
      rw [unwipe_get z]
      exact this
/-- an address that belongs to nobody stays as it is -/
theorem Stp.keepD {σ' : L2.St} {e' : En} {a : Addr} {o : HO} (s : Stp K A σ H env A' σ' H' e') (na : ¬ A a) (no : ¬ Ow σ env a) (h : H a = some o) (nt : ¬ IsX o := by exact fun z => z) : ¬ A' a ∧ ¬ Ow σ' e' a ∧ H' a = some o := by
  have na1 : ¬ A' a := fun z => by
    rcases s.ext.old a z with z | z | z
    · exact na z
    · rw [h] at z; cases z
    · exact no z
  refine ⟨na1, fun z => ?_, s.ext.keepA h no na1 nt⟩
  · rcases s.sub a z with z | z
    · exact no z
    · rw [h] at z; cases z
/-- .. and may be changed, if it was not there at first -/
theorem Stp.updD {σ' : L2.St} {e' : En} {a : Addr} {o o' : HO} (s : Stp K A σ H env A' σ' H' e') (n : H a = none) (na : ¬ A' a) (no : ¬ Ow σ' e' a) (h : H' a = some o) (nt : ¬ IsX o) : Stp K A σ H env A' σ' (upd H' a o') e' := by
  have kp : Kp A' H' (upd H' a o') := Kp.upd h na fun z => nt z.x
  refine ⟨⟨s.ext.fr, fun x u e z => ?_, s.ext.old, fun x h => ?_, fun t p hp => tab_upd h nt p.1 p.2 (s.ext.tab t p hp)⟩, ⟨s.rel.len, fun i d h => ?_, fun i d h => ?_, s.rel.ap, fun x h => ?_, s.rel.fz, fun p hp => tab_upd h nt p.1 p.2 (s.rel.tb p hp)⟩, s.sub, s.io, s.rdb⟩
  · have : x ≠ a := fun q => by subst q; rw [n] at e; cases e
    rw [upd_ne this]
    exact s.ext.keep x u e z
  · by_cases q : x = a
    · subst q; rw [upd_same]; simp
    · rw [upd_ne q]; exact s.ext.al x h
  · obtain ⟨v, e, q⟩ := s.rel.sh i d h
    exact ⟨v, e, q.mono (fun _ z => z) kp⟩
  · obtain ⟨b, e, nb, ob⟩ := s.rel.ow i d h
    have : b ≠ a := fun q => no ⟨i, ⟨d, h⟩, by rw [← q]; exact e⟩
    exact ⟨b, e, nb, ob.mono (fun _ z => z) kp fun u z => by rw [upd_ne this]; exact z⟩
  · by_cases q : x = a
    · subst q; rw [upd_same]; simp
    · rw [upd_ne q]; exact s.rel.dom x h
end
abbrev W0 : WX := fun _ _ _ _ => False
/-- one turn: what is put to the list, if anything -/
def lcStep (vs : List Nat) (tgt : GF) (tt : TF) (el : EF) (d : D) (env : En) : Option (Option D × En) :=
  if clean env vs = true then (match tgt d (wipeE env vs) with
    | some e1 => (match tt e1 with
      | .ok true e2 => (match el e2 with
        | .ok r e3 => (match frz e3 r with
          | some (y, e4) => some (some y, unwipe env e4 vs)
          | none => none)
        | _ => none)
      | .ok false e2 => some (none, unwipe env e2 vs)
      | _ => none)
    | none => none) else none
def lcGo (f : D → En → Option (Option D × En)) : List D → En → List D → Option (List D × En)
  | [], e, acc => some (acc, e)
  | d :: ds, e, acc => match f d e with
    | some (some y, e2) => if acc.length < LIM then lcGo f ds e2 (acc ++ [y]) else none
    | some (none, e2) => lcGo f ds e2 acc
    | none => none
def lcF (it : IF) (vs : List Nat) (tgt : GF) (tt : TF) (el : EF) : EF := fun env => (it env).bind fun items e => match lcGo (lcStep vs tgt tt el) items e [] with
  | some (acc, e2) => .ok (.tm (.list acc)) e2
  | none => .no
theorem wipe_eq {σ σ2 : L2.St} {vs : List Nat} (hl : σ2.length = σ.length) (off : ∀ j, j ∉ vs → σ2[j]? = (wipe σ vs)[j]?) : wipe σ2 vs = wipe σ vs := by
  refine List.ext_getElem? fun j => ?_
  by_cases h : j ∈ vs
  · by_cases l : j < σ.length
    · rw [wipe_in h l, wipe_in h (by omega)]
    · rw [List.getElem?_eq_none (by rw [wipe_length]; omega), List.getElem?_eq_none (by rw [wipe_length]; omega)]
  · rw [wipe_get h, off j h]
theorem lc_sound {X : Cx} {W : WX} {it : IF} {g : TG} {tgt : GF} {vs : List Nat} {tt : TF} {el : EF} (ht : TgOk (gd X W0) g tgt vs) {σ : L2.St} {H : Hp} {Q : VK} (h : tE (gd X W) (lcF it vs tgt tt el) σ H Q) :
    tLc (tI (gd X W) it) g (tT (gd X W0) tt) (tE (gd X W0) el) vs σ H Q := by
  obtain ⟨A, env, rel, h⟩ := h
  refine ⟨A, env, rel, (Post.cut h fun items e1 A1 H1 s1 h1 J hJ => ?_)⟩
  intro L hL
  obtain ⟨Gh, Y, w, hG, hY⟩ := hJ
  cases q0 : lcGo (lcStep vs tgt tt el) items e1 [] with
  | none => rw [q0] at h1; exact h1.elim
  | some p =>
    obtain ⟨accF, eF⟩ := p
    rw [q0] at h1
    have sL : Stp X.K A1 σ H1 e1 A1 σ (upd H1 L (.lst [])) e1 := Stp.same s1.rel (same_upd hL)
    refine lc_it w (fun i H' => ∃ A' e' acc xs, Stp X.K A1 σ H1 e1 A' σ H' e' ∧ H' L = some (.lst xs) ∧ RpL X.K A' H' acc xs ∧ ¬ A' L ∧ ¬ Ow σ e' L ∧ lcGo (lcStep vs tgt tt el) (items.drop i) e' acc = some (accF, eF)) ?_ ?_ ?_ ?_
    · refine ⟨A1, e1, [], [], sL, upd_same, .nil, fun z => s1.rel.dom L z hL, fun z => ?_, q0⟩
      obtain ⟨_, o, eo, _⟩ := s1.rel.owok z
      rw [hL] at eo; cases eo
    · rintro i H' _ ⟨A', e', acc, xs, s, _⟩
      exact hG A' H' s.ext.fr (s.ext.kp s1.rel)
    · rintro i x H' H2 hi ⟨A', e', acc, xs, s, hl, rl, na, no, q⟩ y
      obtain ⟨sm, d, ed, rp⟩ := hY i A' H' x H2 s.ext.fr (s.ext.kp s1.rel) y
      rw [drop_cons ed] at q
      have sS := Stp.same s.rel sm
      have s' := s.trans sS
      obtain ⟨na2, no2, hl2⟩ := sS.keepD na no hl
      have rl2 := rl.mono sS.ext.fr (sS.ext.kp s.rel)
      unfold lcGo at q
      cases q1 : lcStep vs tgt tt el d e' with
      | none => rw [q1] at q; cases q
      | some pr =>
        obtain ⟨oy, e''⟩ := pr
        rw [q1] at q
        unfold lcStep at q1
        by_cases c : clean e' vs = true
        · rw [if_pos c] at q1
          cases q2 : tgt d (wipeE e' vs) with
          | none => rw [q2] at q1; cases q1
          | some e2 =>
            rw [q2] at q1
            dsimp only at q1
            have rw0 := s'.rel.wipe (vs := vs)
            have now : ¬ Ow (wipe σ vs) (wipeE e' vs) L := fun ⟨j, z⟩ => no2 ⟨j, wipe_owi z⟩
            refine ht A' A' (wipe σ vs) (wipe σ vs) H2 H2 (wipeE e' vs) (wipeE e' vs) e2 d x _ (.refl rw0) rp q2 fun σ2 s2 l2 off => ?_
            have l2' : σ2.length = σ.length := l2.trans (wipe_length σ vs)
            refine ⟨wipe_eq l2' off, A', e2, s2.rel, ?_⟩
            cases q3 : tt e2 with
            | no => rw [q3] at q1; cases q1
            | ex _ _ => rw [q3] at q1; cases q1
            | ok b e3 =>
              rw [q3] at q1
              intro A3 H3 s3
              have s23 := s2.trans s3
              show if b = true then _ else _
              cases b with
              | false =>
                rw [if_neg Bool.false_ne_true]
                cases q1
                dsimp only at q
                have sU := Stp.unwipe s'.rel c s23 l2' off
                obtain ⟨na3, no3, hl3⟩ := sU.keepD na2 no2 hl2
                exact ⟨A3, _, acc, xs, s'.trans sU, hl3, rl2.mono sU.ext.fr (sU.ext.kp s'.rel), na3, no3, q⟩
              | true =>
                rw [if_pos rfl]
                dsimp only at q1
                refine ⟨A3, e3, s3.rel, ?_⟩
                cases q4 : el e3 with
                | no => rw [q4] at q1; cases q1
                | ex _ _ => rw [q4] at q1; cases q1
                | ok r e4 =>
                  rw [q4] at q1
                  dsimp only at q1
                  intro A4 H4 s4 v hv
                  cases q5 : frz e4 r with
                  | none => rw [q5] at q1; cases q1
                  | some pr =>
                    obtain ⟨y, e5⟩ := pr
                    rw [q5] at q1
                    cases q1
                    dsimp only at q
                    obtain ⟨A5, s5, f5, rpy, _⟩ := frz_ok s4 hv q5
                    have sU := Stp.unwipe s'.rel c (s23.trans s5) l2' off
                    obtain ⟨na5, no5, hl5⟩ := sU.keepD na2 no2 hl2
                    have st := s'.trans sU
                    have rl5 := rl2.mono sU.ext.fr (sU.ext.kp s'.rel)
                    by_cases cl : acc.length < LIM
                    · rw [if_pos cl] at q
                      have kp : Kp A5 H4 (upd H4 L (.lst (xs ++ [v]))) := Kp.upd hl5 na5 fun z => z
                      exact ⟨xs, hl5, by rw [← rl5.length, lim_eq]; exact cl, A5, _, acc ++ [y], xs ++ [v], st.updD hL na5 no5 hl5 (fun z => z), upd_same, (rl5.append (.cons rpy .nil)).mono (fun _ z => z) kp, na5, no5, q⟩
                    · rw [if_neg cl] at q; cases q
        · rw [if_neg c] at q1; cases q1
    · rintro H' ⟨A', e', acc, xs, s, hl, rl, na, no, q⟩
      rw [List.drop_length] at q
      cases q
      refine h1 A' H' (s1.trans s) (.ref L) ⟨L, rfl, na, no, ?_, xs, hl, rl⟩
      show H L = none
      cases q : H L with
      | none => rfl
      | some u => exact absurd hL (s1.ext.al L (by rw [q]; simp))
def yesF : TF := fun env => .ok true env
section
variable {X : Cx} {W : WX} {elt tg iter c : Expr} {ifs : List Expr} {scope : Scope} {own : List (Str × Nat)} {pos spos : Pos} {it : IF} {g : TG} {t : GF} {tt : TF} {el : EF}
theorem c_nil : PTs X [] (tT (gd X W) yesF) := ⟨fun pins s σ H Q I h => pts_nil.run pins s σ H Q I (by
  obtain ⟨A, env, rel, h⟩ := h
  exact h A H (.refl rel))⟩
theorem c_one (h : PT X c (tT (gd X W) tt)) : PTs X [c] (tT (gd X W) tt) := pts_one h
theorem e_lc (hc : X.calm = true) (hN : X.N.Nodup) (hi : PI X tg iter (tI (gd X W) it)) (ok : BlkOk X.N X.env.scope scope own) (ht : TgOk (gd X W0) g t (own.map (·.2)))
    (hb : ∀ (s : Shared) (H : Hp) (C : Addr) (cl : List (Str × Addr)) (fp : List Addr), PG (X.blk s H scope (compEnvC scope cl C X.env) fp) tg g ∧ PTs (X.blk s H scope (compEnvC scope cl C X.env) fp) ifs (tT (gd X W0) tt) ∧ PE (X.blk s H scope (compEnvC scope cl C X.env) fp) elt (tE (gd X W0) el))
    (hs : ∀ x, foldedSetIterable iter X.env x = pure x := by intro _; rfl) :
    PE X (.ListComp elt [⟨tg, iter, ifs, 0⟩] scope pos) (tE (gd X W) (lcF it (own.map (·.2)) t tt el)) :=
  PE.imp (pe_lc hc hN hi ok (fun s H C cl fp => (hb s H C cl fp).1) (fun s H C cl fp => (hb s H C cl fp).2.1) (fun s H C cl fp => (hb s H C cl fp).2.2) hs) fun σ H Q h => lc_sound ht h
theorem s_setLc (i : Nat) {y : Str} {py : Pos} (hc : X.calm = true) (hN : X.N.Nodup) (hi : PI X tg iter (tI (gd X W) it)) (ok : BlkOk X.N X.env.scope scope own) (ht : TgOk (gd X W0) g t (own.map (·.2)))
    (hb : ∀ (s : Shared) (H : Hp) (C : Addr) (cl : List (Str × Addr)) (fp : List Addr), PG (X.blk s H scope (compEnvC scope cl C X.env) fp) tg g ∧ PTs (X.blk s H scope (compEnvC scope cl C X.env) fp) ifs (tT (gd X W0) tt) ∧ PE (X.blk s H scope (compEnvC scope cl C X.env) fp) elt (tE (gd X W0) el))
    (hy : X.N[i]? = some y := by rfl) (hyl : X.env.scope.names.lookup y = some .local := by rfl)
    (hsw : swapsWith (.ListComp elt [⟨tg, iter, ifs, 0⟩] scope pos) (some (.Name y py)) spos.line X.env = pure true := by rfl)
    (hs : ∀ x, foldedSetIterable iter X.env x = pure x := by intro _; rfl) :
    PS X (.Assign [.Name y py] (.ListComp elt [⟨tg, iter, ifs, 0⟩] scope pos) spos) (tS (gd X W) (setF i (lcF it (own.map (·.2)) t tt el))) :=
  PS.imp (ps_setLc hc hN hy hyl hsw hi ok (fun s H C cl fp => (hb s H C cl fp).1) (fun s H C cl fp => (hb s H C cl fp).2.1) (fun s H C cl fp => (hb s H C cl fp).2.2) hs) fun Z σ H h => by
    obtain ⟨A, env, rel, h⟩ := h
    exact lc_sound (W := W) ht ⟨A, env, rel, SPost.cut h fun r e1 A1 H1 s1 h1 v hv => asg_ok s1 hv h1⟩
end
end VL


set_option Elab.async false
set_option linter.all false
set_option maxRecDepth 100000
set_option maxHeartbeats 2000000
namespace VL
open PySem PySem.Spec PyProof.Rows L2
variable [TbP]

/-! ### functions: what is handed in, what comes back -/
inductive Ag where
  | sh (d : D) | ob (d : D)
def Ag.sl : Ag → Sl
  | .sh d => .sh d
  | .ob d => .io d
inductive Fr where
  | ret (own : Bool) (d : D) (e : En) | exc (x : Xc) (e : En) | no
def pick : Ag → Sl → Sl
  | .ob _, s => s
  | .sh d, _ => .sh d
def outE (as : List Ag) (e : En) : En := List.zipWith pick as e
def runF (np n : Nat) (body : SF) (as : List Ag) : Fr := if as.length = np then (match body (as.map Ag.sl ++ List.replicate (n - np) .un) with
  | .nx e => .ret false .none (outE as e)
  | .rt (.sh d) e => .ret false d (outE as e)
  | .rt (.tm d) e => .ret true d (outE as e)
  | .rt (.bo j) e => (match e[j]? with
    | some (.ow d) => .ret true d (outE as e)
    | _ => (match frz e (.bo j) with
      | some (d, e2) => .ret false d (outE as e2)
      | none => .no))
  | .ex x e => .exc x (outE as e)
  | _ => .no) else .no
abbrev FD := List Ag → Fr
def ResOk (K : Frag) (A' : AS) (H H' : Hp) (vs : List V) (e : En) (own : Bool) (d : D) (v : V) : Prop := match own with
  | true => ∃ a, v = .ref a ∧ ¬ A' a ∧ H a = none ∧ ¬ Ow (vs.map some) e a ∧ Ob K A' H' a d
  | false => Rp K A' H' d v
def spF (K : Frag) (mg : Str → Option Value) (F : FD) : Sp := fun vs H Q E => ∃ A as, Rel K A (vs.map some) H (as.map Ag.sl) ∧ match F as with
  | .ret own d e => ∀ A' H' v, Stp K A (vs.map some) H (as.map Ag.sl) A' (vs.map some) H' e → ResOk K A' H H' vs e own d v → Q v H'
  | .exc x e => ∀ A' H' c dd, Stp K A (vs.map some) H (as.map Ag.sl) A' (vs.map some) H' e → XOk ⟨K, mg, W0⟩ A' H' x c dd → E c dd H'
  | .no => False
theorem pad_get {α : Type} {l : List α} {m i : Nat} {x : α} (h : i < l.length) : (l ++ List.replicate m x)[i]? = l[i]? := by rw [List.getElem?_append_left h]
theorem pad_in {α : Type} {l : List α} {m i : Nat} {x y : α} (h : (l ++ List.replicate m x)[i]? = some y) : l[i]? = some y ∨ (l.length ≤ i ∧ y = x) := by
  by_cases c : i < l.length
  · rw [pad_get c] at h; exact .inl h
  · rw [List.getElem?_append_right (by omega), List.getElem?_replicate] at h
    split at h
    · exact .inr ⟨by omega, (Option.some.inj h).symm⟩
    · cases h
section
variable {K : Frag} {A A' : AS} {σ σ' : L2.St} {H H' : Hp} {env e' : En} {m : Nat}
theorem pad_owi {i : Nat} {a : Addr} : Owi (σ ++ List.replicate m none) (env ++ List.replicate m .un) i a → Owi σ env i a := fun ⟨⟨d, h⟩, e⟩ => by
  have h' : isOwn env i d := by
    rcases h with h | h
    · rcases pad_in h with h | ⟨_, h⟩
      · exact .inl h
      · cases h
    · rcases pad_in h with h | ⟨_, h⟩
      · exact .inr h
      · cases h
  rcases pad_in e with e | ⟨_, e⟩
  · exact ⟨⟨d, h'⟩, e⟩
  · cases e
theorem Rel.pad (r : Rel K A σ H env) : Rel K A (σ ++ List.replicate m none) H (env ++ List.replicate m .un) := by
  have up : ∀ {i : Nat} {x : Option V}, σ[i]? = some x → (σ ++ List.replicate m none)[i]? = some x := fun {i x} h => by
    rw [pad_get (List.getElem?_eq_some_iff.mp h).1]; exact h
  refine ⟨by simp [r.len], fun i d h => ?_, fun i d h => ?_, fun i j a h1 h2 => r.ap i j a (pad_owi h1) (pad_owi h2), r.dom, fun i d h => ?_, r.tb⟩
  · have h' : env[i]? = some (.sh d) ∨ env[i]? = some (.iz d) := by
      rcases h with h | h
      · rcases pad_in h with h | ⟨_, h⟩
        · exact .inl h
        · cases h
      · rcases pad_in h with h | ⟨_, h⟩
        · exact .inr h
        · cases h
    obtain ⟨v, e, q⟩ := r.sh i d h'
    exact ⟨v, up e, q⟩
  · have h' : isOwn env i d := by
      rcases h with h | h
      · rcases pad_in h with h | ⟨_, h⟩
        · exact .inl h
        · cases h
      · rcases pad_in h with h | ⟨_, h⟩
        · exact .inr h
        · cases h
    obtain ⟨a, e, q⟩ := r.ow i d h'
    exact ⟨a, up e, q⟩
  · rcases pad_in h with h | ⟨_, h⟩
    · obtain ⟨a, e, q⟩ := r.fz i d h
      exact ⟨a, up e, q⟩
    · cases h
theorem outE_get {as : List Ag} {e : En} {i : Nat} {s : Sl} (h : (outE as e)[i]? = some s) : ∃ a t, as[i]? = some a ∧ e[i]? = some t ∧ s = pick a t := by
  unfold outE at h
  rw [List.getElem?_zipWith] at h
  cases q1 : as[i]? with
  | none => rw [q1] at h; cases h
  | some a =>
    cases q2 : e[i]? with
    | none => rw [q1, q2] at h; cases h
    | some t => rw [q1, q2] at h; cases h; exact ⟨a, t, rfl, rfl, rfl⟩
theorem outE_at {as : List Ag} {e : En} {i : Nat} {a : Ag} {t : Sl} (h1 : as[i]? = some a) (h2 : e[i]? = some t) : (outE as e)[i]? = some (pick a t) := by
  unfold outE
  rw [List.getElem?_zipWith, h1, h2]
/-- what of a callee's end its caller sees -/
theorem Stp.pars {vs : List V} {as : List Ag} (r : Rel K A (vs.map some) H (as.map Ag.sl)) (s : Stp K A (vs.map some ++ List.replicate m none) H (as.map Ag.sl ++ List.replicate m .un) A' σ' H' e') : Stp K A (vs.map some) H (as.map Ag.sl) A' (vs.map some) H' (outE as e') := by
  have len : vs.length = as.length := by simpa using r.len
  have rp := r.pad (m := m)
  have kp : Kp A H H' := s.ext.kp rp
  have owO : ∀ a, Ow (vs.map some ++ List.replicate m none) (as.map Ag.sl ++ List.replicate m .un) a → Ow (vs.map some) (as.map Ag.sl) a := fun a ⟨i, h⟩ => ⟨i, pad_owi h⟩
  -- an ob's slot
  have ob : ∀ (i : Nat) (d : D), as[i]? = some (Ag.ob d) → σ'[i]? = (vs.map some)[i]? ∧ ∃ d' : D, e'[i]? = some (Sl.io d') ∨ e'[i]? = some (Sl.iz d') := fun i d h => by
    have lt : i < as.length := (List.getElem?_eq_some_iff.mp h).1
    have e1 : (as.map Ag.sl ++ List.replicate m .un)[i]? = some (.io d) := by
      rw [pad_get (by simpa using lt), List.getElem?_map, h]; rfl
    obtain ⟨q, z⟩ := s.io i d (.inl e1)
    exact ⟨by rw [q, pad_get (by simpa [len] using lt)], z⟩
  have own : ∀ (i : Nat) (d : D), isOwn (outE as e') i d → (∃ d0, as[i]? = some (Ag.ob d0)) ∧ e'[i]? = some (Sl.io d) := fun i d h => by
    rcases h with h | h
    · obtain ⟨a, t, h1, h2, h3⟩ := outE_get h
      cases a with
      | sh d0 => cases h3
      | ob d0 =>
        obtain ⟨_, d', z⟩ := ob i d0 h1
        have h3' : t = .ow d := h3.symm
        rw [h2, h3'] at z
        rcases z with z | z <;> cases z
    · obtain ⟨a, t, h1, h2, h3⟩ := outE_get h
      cases a with
      | sh d0 => cases h3
      | ob d0 =>
        have h3' : t = .io d := h3.symm
        exact ⟨⟨d0, h1⟩, by rw [h2, h3']⟩
  have owi : ∀ i a, Owi (vs.map some) (outE as e') i a → Owi σ' e' i a := fun i a ⟨⟨d, h⟩, e⟩ => by
    obtain ⟨⟨d0, h1⟩, h2⟩ := own i d h
    obtain ⟨q, _⟩ := ob i d0 h1
    exact ⟨⟨d, .inr h2⟩, by rw [q]; exact e⟩
  have lenE : as.length ≤ e'.length := by
    rcases Nat.lt_or_ge e'.length as.length with c | c
    · exfalso
      -- the slot of a parameter stands
      have h0 : ∃ a, as[e'.length]? = some a := ⟨_, List.getElem?_eq_getElem c⟩
      obtain ⟨a, h0⟩ := h0
      have e1 : (as.map Ag.sl ++ List.replicate m .un)[e'.length]? = some a.sl := by
        rw [pad_get (by simpa using c), List.getElem?_map, h0]; rfl
      have := s.rdb e'.length (by unfold rdAt; rw [e1]; cases a <;> simp [Ag.sl, Sl.rd])
      unfold rdAt at this
      rw [List.getElem?_eq_none (Nat.le_refl _)] at this
      exact this rfl
    · exact c
  refine ⟨⟨s.ext.fr, fun a o e n => s.ext.keep a o e fun z => n (owO a z), fun a h => (s.ext.old a h).imp id fun z => z.imp id (owO a), s.ext.al, s.ext.tab⟩, ⟨by simp [outE, len]; omega, fun i d h => ?_, fun i d h => ?_, fun i j a h1 h2 => s.rel.ap i j a (owi i a h1) (owi j a h2), s.rel.dom, fun i d h => ?_, s.rel.tb⟩,
    fun a ⟨i, h⟩ => (s.sub a ⟨i, owi i a h⟩).imp (owO a) id, fun i d h => ?_, fun i h => ?_⟩
  · rcases h with h | h
    · obtain ⟨a, t, h1, h2, h3⟩ := outE_get h
      cases a with
      | sh d0 =>
        cases h3
        obtain ⟨v, e, q⟩ := r.sh i d (.inl (by rw [List.getElem?_map, h1]; rfl))
        exact ⟨v, e, q.mono s.ext.fr kp⟩
      | ob d0 =>
        obtain ⟨_, d', z⟩ := ob i d0 h1
        have h3' : t = .sh d := h3.symm
        rw [h2, h3'] at z
        rcases z with z | z <;> cases z
    · obtain ⟨a, t, h1, h2, h3⟩ := outE_get h
      cases a with
      | sh d0 => cases h3
      | ob d0 =>
        have h3' : t = .iz d := h3.symm
        obtain ⟨q, _⟩ := ob i d0 h1
        rw [← q]
        exact s.rel.sh i d (.inr (by rw [h2, h3']))
  · obtain ⟨⟨d0, h1⟩, h2⟩ := own i d h
    obtain ⟨q, _⟩ := ob i d0 h1
    rw [← q]
    exact s.rel.ow i d (.inr h2)
  · obtain ⟨a, t, h1, h2, h3⟩ := outE_get h
    cases a with
    | sh d0 => cases h3
    | ob d0 =>
      have h3' : t = .iz d := h3.symm
      obtain ⟨q, _⟩ := ob i d0 h1
      rw [← q]
      exact s.rel.fz i d (by rw [h2, h3'])
  · refine ⟨rfl, ?_⟩
    have : ∃ d0, as[i]? = some (.ob d0) := by
      rw [List.getElem?_map] at h
      cases q : as[i]? with
      | none => rw [q] at h; rcases h with h | h <;> cases h
      | some a =>
        rw [q] at h
        cases a with
        | sh d0 => rcases h with h | h <;> cases h
        | ob d0 => exact ⟨d0, rfl⟩
    obtain ⟨d0, h1⟩ := this
    obtain ⟨_, d', z⟩ := ob i d0 h1
    rcases z with z | z
    · exact ⟨d', .inl (outE_at h1 z)⟩
    · exact ⟨d', .inr (outE_at h1 z)⟩
  · unfold rdAt at h ⊢
    rw [List.getElem?_map] at h
    cases q : as[i]? with
    | none => rw [q] at h; exact absurd rfl h
    | some a =>
      have lt : i < as.length := (List.getElem?_eq_some_iff.mp q).1
      obtain ⟨t, ht⟩ : ∃ t, e'[i]? = some t := ⟨_, List.getElem?_eq_getElem (by omega)⟩
      rw [outE_at q ht]
      cases a with
      | sh d0 => simp [pick, Sl.rd]
      | ob d0 =>
        obtain ⟨_, d', z⟩ := ob i d0 q
        rw [ht] at z
        rcases z with z | z <;> (cases z; simp [pick, Sl.rd])
end
theorem spF_len {K : Frag} {mg : Str → Option Value} {np n : Nat} {body : SF} {vs : List V} {H : Hp} {Q : VK} {E : XK} (h : spF K mg (runF np n body) vs H Q E) : vs.length = np := by
  obtain ⟨A, as, r, h⟩ := h
  have len : vs.length = as.length := by simpa using r.len
  by_cases c : as.length = np
  · omega
  · rw [runF, if_neg c] at h; exact h.elim
theorem body_end {K : Frag} {mg : Str → Option Value} {N : List Str} {body : SF} {ps : List Str} {vs : List V} {H : Hp} {Q : VK} {E : XK} (h : spF K mg (runF ps.length N.length body) vs H Q E) :
    tS ⟨K, mg, fun cls d _ H => E cls d H⟩ body { nx := fun _ H' => Q .non H', rt := Q } (L2.start N vs) H := by
  have hl := spF_len h
  obtain ⟨B, as, r, h⟩ := h
  have len : vs.length = as.length := by simpa using r.len
  have c : as.length = ps.length := by omega
  rw [runF, if_pos c] at h
  have est : L2.start N vs = vs.map some ++ List.replicate (N.length - ps.length) none := by unfold L2.start; rw [hl]
  rw [est]
  refine ⟨B, as.map Ag.sl ++ List.replicate (N.length - ps.length) .un, r.pad, ?_⟩
  cases q : body (as.map Ag.sl ++ List.replicate (N.length - ps.length) .un) with
  | nx e =>
    rw [q] at h
    exact fun A' σ' H' s' => h A' H' .non (Stp.pars r s') (rp_non (K := K) (A := A') (H := H'))
  | bk e => rw [q] at h; exact h.elim
  | ct e => rw [q] at h; exact h.elim
  | no => rw [q] at h; exact h.elim
  | ex x e =>
    rw [q] at h
    exact fun A' σ' H' c d s' hx => h A' H' c d (Stp.pars r s') hx
  | rt rv e =>
    rw [q] at h
    intro A' σ' H' v s' hv
    have subO : ∀ a, Ow (vs.map some) (outE as e) a → Ow σ' e a := fun a ⟨i, ⟨d, hd⟩, ea⟩ => by
      have sp := Stp.pars r s'
      -- the slot is a parameter's, in the callee's own slots
      rcases hd with hd | hd
      · obtain ⟨ag, t, h1, h2, h3⟩ := outE_get hd
        cases ag with
        | sh d0 => cases h3
        | ob d0 =>
          have h3' : t = .ow d := h3.symm
          have lt : i < as.length := (List.getElem?_eq_some_iff.mp h1).1
          have e1 : (as.map Ag.sl ++ List.replicate (N.length - ps.length) .un)[i]? = some (.io d0) := by
            rw [pad_get (by simpa using lt), List.getElem?_map, h1]; rfl
          obtain ⟨_, d', z⟩ := s'.io i d0 (.inl e1)
          rw [h2, h3'] at z
          rcases z with z | z <;> cases z
      · obtain ⟨ag, t, h1, h2, h3⟩ := outE_get hd
        cases ag with
        | sh d0 => cases h3
        | ob d0 =>
          have h3' : t = .io d := h3.symm
          have lt : i < as.length := (List.getElem?_eq_some_iff.mp h1).1
          have e1 : (as.map Ag.sl ++ List.replicate (N.length - ps.length) .un)[i]? = some (.io d0) := by
            rw [pad_get (by simpa using lt), List.getElem?_map, h1]; rfl
          obtain ⟨qq, _⟩ := s'.io i d0 (.inl e1)
          rw [pad_get (by simpa [len] using lt)] at qq
          exact ⟨i, ⟨d, .inr (by rw [h2, h3'])⟩, by rw [qq]; exact ea⟩
    cases rv with
    | sh d => exact h A' H' v (Stp.pars r s') hv
    | tm d =>
      obtain ⟨a, ea, na, no, fr, ob⟩ := hv
      exact h A' H' v (Stp.pars r s') ⟨a, ea, na, fr, fun z => no (subO a z), ob⟩
    | bo j =>
      dsimp only at h
      have fz : ∀ (h : (match (match frz e (.bo j) with
          | some (d, e2) => Fr.ret false d (outE as e2)
          | none => .no) with
        | .ret own d e => ∀ A' H' v, Stp K B (vs.map some) H (as.map Ag.sl) A' (vs.map some) H' e → ResOk K A' H H' vs e own d v → Q v H'
        | .exc x e => ∀ A' H' c dd, Stp K B (vs.map some) H (as.map Ag.sl) A' (vs.map some) H' e → XOk ⟨K, mg, W0⟩ A' H' x c dd → E c dd H'
        | .no => False)), Q v H' := fun h => by
        cases q2 : frz e (.bo j) with
        | none => rw [q2] at h; exact h.elim
        | some p =>
          obtain ⟨d, e2⟩ := p
          rw [q2] at h
          obtain ⟨A2, s2, f2, rp, _⟩ := frz_ok s' hv q2
          exact h A2 H' v (Stp.pars r s2) rp
      cases q2 : e[j]? with
      | none => rw [q2] at h; exact fz h
      | some sl =>
        rw [q2] at h
        cases sl with
        | un => exact fz h
        | sh d => exact fz h
        | io d => exact fz h
        | iz d => exact fz h
        | ow d =>
          dsimp only at h
          obtain ⟨a, ea, na, ob⟩ := s'.rel.ow j d (.inl q2)
          have ev : v = .ref a := by
            have := hv.1
            rw [ea] at this
            exact (Option.some.inj (Option.some.inj this)).symm
          refine h A' H' v (Stp.pars r s') ⟨a, ev, na, ?_, fun z => ?_, ob⟩
          · rcases s'.sub a ⟨j, ⟨d, .inl q2⟩, ea⟩ with z | z
            · exfalso
              obtain ⟨i, ⟨d0, hd⟩, e0⟩ := z
              have hio : ∃ d0, (as.map Ag.sl ++ List.replicate (N.length - ps.length) .un)[i]? = some (.io d0) := by
                rcases hd with hd | hd
                · rcases pad_in hd with h1 | ⟨_, h1⟩
                  · rw [List.getElem?_map] at h1
                    cases q3 : as[i]? with
                    | none => rw [q3] at h1; cases h1
                    | some ag => rw [q3] at h1; cases ag <;> cases h1
                  · cases h1
                · exact ⟨d0, hd⟩
              obtain ⟨d1, hio⟩ := hio
              obtain ⟨qq, d', z⟩ := s'.io i d1 (.inl hio)
              rw [e0] at qq
              rcases z with z | z
              · have := s'.rel.ap i j a ⟨⟨d', .inr z⟩, qq⟩ ⟨⟨d, .inl q2⟩, ea⟩
                subst this
                rw [q2] at z; cases z
              · obtain ⟨b, eb, hA⟩ := s'.rel.fz i d' z
                rw [qq] at eb; cases eb
                exact na hA
            · exact z
          · obtain ⟨i, ⟨d0, hd⟩, e0⟩ := z
            rcases hd with hd | hd
            · obtain ⟨ag, t, h1, h2, h3⟩ := outE_get hd
              cases ag with
              | sh d0 => cases h3
              | ob d1 =>
                have h3' : t = .ow d0 := h3.symm
                have lt : i < as.length := (List.getElem?_eq_some_iff.mp h1).1
                have e1 : (as.map Ag.sl ++ List.replicate (N.length - ps.length) .un)[i]? = some (.io d1) := by
                  rw [pad_get (by simpa using lt), List.getElem?_map, h1]; rfl
                obtain ⟨_, d', z⟩ := s'.io i d1 (.inl e1)
                rw [h2, h3'] at z
                rcases z with z | z <;> cases z
            · obtain ⟨ag, t, h1, h2, h3⟩ := outE_get hd
              cases ag with
              | sh d0 => cases h3
              | ob d1 =>
                have h3' : t = .io d0 := h3.symm
                have lt : i < as.length := (List.getElem?_eq_some_iff.mp h1).1
                have e1 : (as.map Ag.sl ++ List.replicate (N.length - ps.length) .un)[i]? = some (.io d1) := by
                  rw [pad_get (by simpa using lt), List.getElem?_map, h1]; rfl
                obtain ⟨qq, _⟩ := s'.io i d1 (.inl e1)
                rw [pad_get (by simpa [len] using lt)] at qq
                have := s'.rel.ap i j a ⟨⟨d0, .inr (by rw [h2, h3'])⟩, by rw [qq]; exact e0⟩ ⟨⟨d, .inl q2⟩, ea⟩
                subst this
                rw [h2, h3'] at q2; cases q2
/-- a def's body keeps what the def promises -/
theorem fn_ok {P : Program} {w : World} {K : Frag} {mg : Str → Option Value} {base : Heap} {x qual : Str} {st : Stmt} {f : Addr} {fd : FuncData} {N ps : List Str} {k : Nat} {body : SF} {np n : Nat} (F : Fun K x qual st f fd) (S : FnScope N ps (defScope st)) (hnp : ps.length = np) (hn : N.length = n)
    (hb : ∀ (cdv : Value) (A : Around) (outer : List Env) (s : Shared) (H : Hp) (E : XK), Room k (A.deeper (envOfC qual (defScope st) s.heap.objs.size f cdv)) →
      PSs (cxOf (L2.CX P w) P w K mg base N qual (defScope st) f cdv A outer s H E) (defBody st) (tS ⟨K, mg, fun cls d _ H => E cls d H⟩ body)) : FnOk P w K mg base (L2.CX P w) (k + 1) f fd ps (spF K mg (runF np n body)) := by
  subst hnp hn
  refine F.okX S (fun vs H Q E h => spF_len h) fun cdv A outer s H vs Q E hr h => ⟨_, hb cdv A outer s H E hr, body_end h⟩
end VL


set_option Elab.async false
set_option linter.all false
set_option maxRecDepth 100000
set_option maxHeartbeats 2000000
namespace VL
open PySem PySem.Spec PyProof.Rows L2
variable [TbP]

/-! ### calls -/
def agOf (e : En) : Rv → Option Ag
  | .sh d => some (.sh d)
  | .tm d => some (.ob d)
  | .bo i => match e[i]? with
    | some (.ow d) => some (.ob d)
    | some (.io d) => some (.ob d)
    | some (.sh d) => some (.sh d)
    | some (.iz d) => some (.sh d)
    | _ => none
def agsOf (e : En) : List Rv → Option (List Ag)
  | [] => some []
  | r :: rs => match agOf e r, agsOf e rs with
    | some a, some as => some (a :: as)
    | _, _ => none
def isBo (i : Nat) : Rv → Bool
  | .bo j => i == j
  | _ => false
/-- no owned thing is handed in twice -/
def once (e : En) : List Rv → Bool
  | [] => true
  | .bo i :: rs => ((mutS e i).isNone || !(rs.any (isBo i))) && once e rs
  | _ :: rs => once e rs
def lookB (j : Nat) : List Rv → En → Option Sl
  | .bo i :: rs, s :: ss => if i = j then some s else lookB j rs ss
  | _ :: rs, _ :: ss => lookB j rs ss
  | _, _ => none
def backS (s0 : Sl) (o : Option Sl) : Sl := match s0, o with
  | .ow _, some (.io d) => .ow d
  | .ow _, some (.iz d) => .sh d
  | .io _, some (.io d) => .io d
  | .io _, some (.iz d) => .iz d
  | s, _ => s
def backE (e : En) (rs : List Rv) (ss : En) : En := e.mapIdx fun j s => backS s (lookB j rs ss)
def callF (F : FD) (fs : AF) : EF := fun env => (fs env).bind fun rs e => match agsOf e rs with
  | some as => if once e rs = true then (match F as with
    | .ret true d ss => .ok (.tm d) (backE e rs ss)
    | .ret false d ss => .ok (.sh d) (backE e rs ss)
    | .exc x ss => .ex x (backE e rs ss)
    | .no => .no) else .no
  | none => .no
theorem agsOf_len {e : En} : ∀ {rs : List Rv} {as : List Ag}, agsOf e rs = some as → as.length = rs.length
  | [], as, h => by cases h; rfl
  | r :: rs, as, h => by
    unfold agsOf at h
    cases q1 : agOf e r with
    | none => rw [q1] at h; cases h
    | some a =>
      cases q2 : agsOf e rs with
      | none => rw [q1, q2] at h; cases h
      | some as' => rw [q1, q2] at h; cases h; simp [agsOf_len q2]
theorem agsOf_at {e : En} : ∀ {rs : List Rv} {as : List Ag} {k : Nat} {a : Ag}, agsOf e rs = some as → as[k]? = some a → ∃ r, rs[k]? = some r ∧ agOf e r = some a
  | [], as, k, a, h, q => by cases h; simp at q
  | r :: rs, as, k, a, h, q => by
    unfold agsOf at h
    cases q1 : agOf e r with
    | none => rw [q1] at h; cases h
    | some a0 =>
      cases q2 : agsOf e rs with
      | none => rw [q1, q2] at h; cases h
      | some as' =>
        rw [q1, q2] at h; cases h
        cases k with
        | zero => simp at q; subst q; exact ⟨r, rfl, q1⟩
        | succ k => exact agsOf_at (k := k) q2 (by simpa using q)
theorem once_spec {e : En} {i : Nat} : ∀ {rs : List Rv} {k l : Nat}, once e rs = true → rs[k]? = some (.bo i) → rs[l]? = some (.bo i) → (mutS e i).isSome = true → k = l
  | [], k, l, _, h, _, _ => by simp at h
  | r :: rs, k, l, o, h1, h2, m => by
    have o' : once e rs = true := by
      cases r with
      | bo j => unfold once at o; rw [Bool.and_eq_true] at o; exact o.2
      | sh d => exact o
      | tm d => exact o
    have key : ∀ {n : Nat}, r = .bo i → rs[n]? = some (.bo i) → False := fun {n} er hn => by
      subst er
      unfold once at o
      rw [Bool.and_eq_true, Bool.or_eq_true] at o
      rcases o.1 with z | z
      · rw [Option.isNone_iff_eq_none] at z; rw [z] at m; cases m
      · have : rs.any (isBo i) = true := List.any_eq_true.mpr ⟨_, List.mem_of_getElem? hn, by simp [isBo]⟩
        rw [this] at z; cases z
    cases k with
    | zero =>
      cases l with
      | zero => rfl
      | succ l => exact (key (Option.some.inj h1) (by simpa using h2)).elim
    | succ k =>
      cases l with
      | zero => exact (key (Option.some.inj h2) (by simpa using h1)).elim
      | succ l => exact congrArg (· + 1) (once_spec (k := k) (l := l) o' (by simpa using h1) (by simpa using h2) m)
section
variable {K : Frag} {A A' A1 : AS} {σ : L2.St} {H H' H1 : Hp} {env e1 : En}
theorem rvs_at : ∀ {rs : List Rv} {vs : List V} {k : Nat} {r : Rv} {F : AS}, RvsOk K A σ H env F rs vs → rs[k]? = some r → ∃ v, vs[k]? = some v ∧ RvOk K A σ H env F r v
  | [], _, _, _, _, _, q => by simp at q
  | r0 :: rs, vs, k, r, F, h, q => by
    obtain ⟨v, t, rfl, h1, h2⟩ := h
    cases k with
    | zero => simp at q; subst q; exact ⟨v, rfl, h1⟩
    | succ k =>
      obtain ⟨w, e, g⟩ := rvs_at (k := k) h2 (by simpa using q)
      exact ⟨w, by simpa using e, g.weak fun a _ _ z => z.1⟩
theorem rvs_len : ∀ {rs : List Rv} {vs : List V} {F : AS}, RvsOk K A σ H env F rs vs → vs.length = rs.length
  | [], vs, _, h => by
    have h2 : vs = [] := h
    simp [h2]
  | _ :: _, _, _, h => by obtain ⟨v, t, rfl, _, h2⟩ := h; simp [rvs_len h2]
theorem rvs_ne : ∀ {rs : List Rv} {vs : List V} {F : AS} {k l : Nat} {d d' : D} {a : Addr}, RvsOk K A σ H env F rs vs → rs[k]? = some (.tm d) → rs[l]? = some (.tm d') → vs[k]? = some (.ref a) → vs[l]? = some (.ref a) → k = l
  | [], _, _, _, _, _, _, _, _, h, _, _, _ => by simp at h
  | r :: rs, vs, F, k, l, d, d', a, h, h1, h2, h3, h4 => by
    obtain ⟨v, t, rfl, g1, g2⟩ := h
    have key : ∀ {n : Nat} {d0 : D}, r.isTm = true → v = .ref a → rs[n]? = some (.tm d0) → t[n]? = some (.ref a) → False := fun {n d0} it ev q1 q2 => by
      obtain ⟨w, e, g⟩ := rvs_at g2 q1
      rw [q2] at e; cases e
      obtain ⟨b, eb, _, _, f, _⟩ := g
      cases eb
      exact f.2 it ev
    cases k with
    | zero =>
      cases l with
      | zero => rfl
      | succ l =>
        simp at h1 h3
        subst h1 h3
        exact (key rfl rfl (by simpa using h2) (by simpa using h4)).elim
    | succ k =>
      cases l with
      | zero =>
        simp at h2 h4
        subst h2 h4
        exact (key rfl rfl (by simpa using h1) (by simpa using h3)).elim
      | succ l => rw [rvs_ne g2 (k := k) (l := l) (by simpa using h1) (by simpa using h2) (by simpa using h3) (by simpa using h4)]
variable {rs : List Rv} {vs : List V} {as : List Ag}
/-- an argument that is owned -/
theorem arg_ob (rel : Rel K A1 σ H1 e1) (hv : RvsOk K A1 σ H1 e1 (fun a => H a = none) rs vs) (ha : agsOf e1 rs = some as) {k : Nat} {d : D} (h : as[k]? = some (.ob d)) :
    ∃ a, vs[k]? = some (.ref a) ∧ ¬ A1 a ∧ Ob K A1 H1 a d ∧ ((rs[k]? = some (.tm d) ∧ H a = none ∧ ¬ Ow σ e1 a) ∨ ∃ i, rs[k]? = some (.bo i) ∧ isOwn e1 i d ∧ Owi σ e1 i a) := by
  obtain ⟨r, hr, hg⟩ := agsOf_at ha h
  obtain ⟨v, ev, g⟩ := rvs_at hv hr
  cases r with
  | sh d' => cases hg
  | tm d' =>
    cases hg
    obtain ⟨a, ea, na, no, f, ob⟩ := g
    subst ea
    exact ⟨a, ev, na, ob, .inl ⟨hr, f, no⟩⟩
  | bo i =>
    have ho : isOwn e1 i d := by
      unfold agOf at hg
      dsimp only at hg
      cases q : e1[i]? with
      | none => rw [q] at hg; cases hg
      | some s =>
        rw [q] at hg
        cases s with
        | ow d' => cases hg; exact .inl q
        | io d' => cases hg; exact .inr q
        | _ => cases hg
    obtain ⟨a, ea, na, ob⟩ := rel.ow i d ho
    rw [g.1] at ea; cases ea
    exact ⟨a, ev, na, ob, .inr ⟨i, hr, ho, ⟨⟨d, ho⟩, g.1⟩⟩⟩
theorem arg_sh (rel : Rel K A1 σ H1 e1) (hv : RvsOk K A1 σ H1 e1 (fun a => H a = none) rs vs) (ha : agsOf e1 rs = some as) {k : Nat} {d : D} (h : as[k]? = some (.sh d)) : ∃ v, vs[k]? = some v ∧ Rp K A1 H1 d v := by
  obtain ⟨r, hr, hg⟩ := agsOf_at ha h
  obtain ⟨v, ev, g⟩ := rvs_at hv hr
  cases r with
  | sh d' => cases hg; exact ⟨v, ev, g⟩
  | tm d' => cases hg
  | bo i =>
    unfold agOf at hg
    dsimp only at hg
    cases q : e1[i]? with
    | none => rw [q] at hg; cases hg
    | some s =>
      rw [q] at hg
      cases s with
      | sh d' =>
        cases hg
        obtain ⟨w, ew, r⟩ := rel.sh i d (.inl q)
        rw [g.1] at ew; cases ew
        exact ⟨v, ev, r⟩
      | iz d' =>
        cases hg
        obtain ⟨w, ew, r⟩ := rel.sh i d (.inr q)
        rw [g.1] at ew; cases ew
        exact ⟨v, ev, r⟩
      | _ => cases hg
theorem obs_slot {i : Nat} {d : D} (h : isOwn (as.map Ag.sl) i d) : as[i]? = some (.ob d) := by
  unfold isOwn at h
  rw [List.getElem?_map] at h
  cases q : as[i]? with
  | none => rw [q] at h; rcases h with h | h <;> cases h
  | some a =>
    rw [q] at h
    cases a with
    | sh d' => rcases h with h | h <;> cases h
    | ob d' => rcases h with h | h <;> cases h; rfl
theorem vs_map {i : Nat} {v : V} : (vs.map some)[i]? = some (some v) ↔ vs[i]? = some v := by
  rw [List.getElem?_map]
  cases vs[i]? <;> simp
/-- the callee's parameters, as they are handed in -/
theorem Rel.args (rel : Rel K A1 σ H1 e1) (hv : RvsOk K A1 σ H1 e1 (fun a => H a = none) rs vs) (ha : agsOf e1 rs = some as) (ho : once e1 rs = true) : Rel K A1 (vs.map some) H1 (as.map Ag.sl) := by
  have l1 := rvs_len hv
  have l2 := agsOf_len ha
  refine ⟨by simp [l1, l2], fun i d h => ?_, fun i d h => ?_, fun i j a ⟨⟨d1, h1⟩, e1'⟩ ⟨⟨d2, h2⟩, e2'⟩ => ?_, rel.dom, fun i d h => ?_, rel.tb⟩
  · have : as[i]? = some (.sh d) := by
      rw [List.getElem?_map] at h
      cases q : as[i]? with
      | none => rw [q] at h; rcases h with h | h <;> cases h
      | some a =>
        rw [q] at h
        cases a with
        | sh d' => rcases h with h | h <;> cases h; rfl
        | ob d' => rcases h with h | h <;> cases h
    obtain ⟨v, ev, r⟩ := arg_sh rel hv ha this
    exact ⟨v, vs_map.mpr ev, r⟩
  · obtain ⟨a, ev, na, ob, _⟩ := arg_ob rel hv ha (obs_slot h)
    exact ⟨a, vs_map.mpr ev, na, ob⟩
  · obtain ⟨b, ev, _, _, w1⟩ := arg_ob rel hv ha (obs_slot h1)
    obtain ⟨c, ev2, _, _, w2⟩ := arg_ob rel hv ha (obs_slot h2)
    rw [vs_map] at e1' e2'
    rw [e1'] at ev; cases ev
    rw [e2'] at ev2; cases ev2
    rcases w1 with ⟨r1, f1, no1⟩ | ⟨i1, r1, o1, w1⟩
    · rcases w2 with ⟨r2, f2, no2⟩ | ⟨i2, r2, o2, w2⟩
      · exact rvs_ne hv r1 r2 e1' e2'
      · exact absurd ⟨i2, w2⟩ no1
    · rcases w2 with ⟨r2, f2, no2⟩ | ⟨i2, r2, o2, w2⟩
      · exact absurd ⟨i1, w1⟩ no2
      · have := rel.ap i1 i2 a w1 w2
        subst this
        refine once_spec ho r1 r2 ?_
        unfold mutS
        rcases o1 with z | z <;> (rw [z]; rfl)
  · rw [List.getElem?_map] at h
    cases q : as[i]? with
    | none => rw [q] at h; cases h
    | some a => rw [q] at h; cases a <;> cases h
theorem lookB_some {j : Nat} : ∀ {rs : List Rv} {ss : En} {s : Sl}, lookB j rs ss = some s → ∃ k : Nat, rs[k]? = some (Rv.bo j) ∧ ss[k]? = some s
  | [], _, s, h => by cases h
  | r :: rs, [], s, h => by cases r <;> cases h
  | r :: rs, s0 :: ss, s, h => by
    have up : lookB j rs ss = some s → ∃ k : Nat, (r :: rs)[k]? = some (Rv.bo j) ∧ (s0 :: ss)[k]? = some s := fun h => by
      obtain ⟨k, h1, h2⟩ := lookB_some h
      exact ⟨k + 1, by simpa using h1, by simpa using h2⟩
    cases r with
    | sh d => exact up h
    | tm d => exact up h
    | bo i =>
      unfold lookB at h
      by_cases c : i = j
      · rw [if_pos c] at h
        cases h
        subst c
        exact ⟨0, rfl, rfl⟩
      · rw [if_neg c] at h
        exact up h
theorem lookB_none {j : Nat} : ∀ {rs : List Rv} {ss : En} {k : Nat}, lookB j rs ss = none → ss.length = rs.length → rs[k]? ≠ some (.bo j)
  | [], _, k, _, _ => by simp
  | r :: rs, [], k, _, l => by simp at l
  | r :: rs, s0 :: ss, k, h, l => by
    have l' : ss.length = rs.length := by simpa using l
    cases k with
    | zero =>
      intro z
      have z := Option.some.inj z
      subst z
      unfold lookB at h
      rw [if_pos rfl] at h; cases h
    | succ k =>
      have h' : lookB j rs ss = none := by
        cases r with
        | sh d => exact h
        | tm d => exact h
        | bo i =>
          unfold lookB at h
          by_cases c : i = j
          · rw [if_pos c] at h; cases h
          · rw [if_neg c] at h; exact h
      simpa using lookB_none (k := k) h' l'
theorem backE_get {e ss : En} {j : Nat} : (backE e rs ss)[j]? = (e[j]?).map fun s => backS s (lookB j rs ss) := by
  unfold backE
  rw [List.getElem?_mapIdx]
/-- behind a call -/
theorem call_stp {ss : En} (s1 : Stp K A σ H env A1 σ H1 e1) (hv : RvsOk K A1 σ H1 e1 (fun a => H a = none) rs vs) (ha : agsOf e1 rs = some as) (ho : once e1 rs = true)
    (sc : Stp K A1 (vs.map some) H1 (as.map Ag.sl) A' (vs.map some) H' ss) : Stp K A σ H env A' σ H' (backE e1 rs ss) := by
  have rel := s1.rel
  have ra := rel.args hv ha ho
  have kp : Kp A1 H1 H' := sc.ext.kp ra
  have lss : ss.length = rs.length := by
    have := sc.rel.len
    simp at this
    rw [← this, rvs_len hv]
  have las := agsOf_len ha
  -- who is handed in
  have obA : ∀ a, Ow (vs.map some) (as.map Ag.sl) a → Ow σ e1 a ∨ H a = none := fun a ⟨k, ⟨d, hd⟩, e⟩ => by
    obtain ⟨b, ev, _, _, w⟩ := arg_ob rel hv ha (obs_slot hd)
    rw [vs_map] at e
    rw [e] at ev; cases ev
    rcases w with ⟨_, f, _⟩ | ⟨i, _, _, w⟩
    · exact .inr f
    · exact .inl ⟨i, w⟩
  -- an owned slot's way back
  have io : ∀ (k : Nat) (d : D), as[k]? = some (Ag.ob d) → ∃ d' : D, ss[k]? = some (Sl.io d') ∨ ss[k]? = some (Sl.iz d') := fun k d h => by
    obtain ⟨_, d', z⟩ := sc.io k d (.inl (by rw [List.getElem?_map, h]; rfl))
    exact ⟨d', z⟩
  have agB : ∀ {k j : Nat} {d : D}, rs[k]? = some (.bo j) → isOwn e1 j d → as[k]? = some (.ob d) := fun {k j d} hr ho => by
    have lt : k < as.length := by rw [las]; exact (List.getElem?_eq_some_iff.mp hr).1
    obtain ⟨a, hk⟩ : ∃ a, as[k]? = some a := ⟨_, List.getElem?_eq_getElem lt⟩
    obtain ⟨r, hr2, hg⟩ := agsOf_at ha hk
    rw [hr] at hr2; cases hr2
    rw [hk]
    unfold agOf at hg
    dsimp only at hg
    rcases ho with z | z <;> (rw [z] at hg; cases hg; rfl)
  -- the slots behind
  have bk : ∀ (j : Nat) (d : D), isOwn e1 j d → (lookB j rs ss = none ∧ (backE e1 rs ss)[j]? = e1[j]?) ∨ ∃ (k : Nat) (d' : D), rs[k]? = some (Rv.bo j) ∧ as[k]? = some (Ag.ob d) ∧ ((ss[k]? = some (Sl.io d') ∧ ((e1[j]? = some (Sl.ow d) ∧ (backE e1 rs ss)[j]? = some (Sl.ow d')) ∨ (e1[j]? = some (Sl.io d) ∧ (backE e1 rs ss)[j]? = some (Sl.io d')))) ∨
      (ss[k]? = some (Sl.iz d') ∧ ((e1[j]? = some (Sl.ow d) ∧ (backE e1 rs ss)[j]? = some (Sl.sh d')) ∨ (e1[j]? = some (Sl.io d) ∧ (backE e1 rs ss)[j]? = some (Sl.iz d'))))) := fun j d hd => by
    cases q : lookB j rs ss with
    | none =>
      refine .inl ⟨rfl, ?_⟩
      rw [backE_get, q]
      rcases hd with z | z <;> (rw [z]; rfl)
    | some s =>
      obtain ⟨k, h1, h2⟩ := lookB_some q
      have hk := agB h1 hd
      obtain ⟨d', z⟩ := io k d hk
      refine .inr ⟨k, d', h1, hk, ?_⟩
      rcases z with z | z
      · rw [h2] at z; cases z
        refine .inl ⟨h2, ?_⟩
        rw [backE_get, q]
        rcases hd with w | w
        · exact .inl ⟨w, by rw [w]; rfl⟩
        · exact .inr ⟨w, by rw [w]; rfl⟩
      · rw [h2] at z; cases z
        refine .inr ⟨h2, ?_⟩
        rw [backE_get, q]
        rcases hd with w | w
        · exact .inl ⟨w, by rw [w]; rfl⟩
        · exact .inr ⟨w, by rw [w]; rfl⟩
  -- a slot that owns nothing stays
  have nb : ∀ {j : Nat} {s : Sl}, e1[j]? = some s → (∀ d, s ≠ .ow d ∧ s ≠ .io d) → (backE e1 rs ss)[j]? = some s := fun {j s} h n => by
    rw [backE_get, h]
    cases s with
    | ow d => exact absurd rfl (n d).1
    | io d => exact absurd rfl (n d).2
    | _ => rfl
  -- whoever owns behind, owned ahead
  have own : ∀ (j : Nat) (d' : D), isOwn (backE e1 rs ss) j d' → ∃ d, isOwn e1 j d ∧ ((lookB j rs ss = none ∧ d' = d) ∨ ∃ k : Nat, rs[k]? = some (Rv.bo j) ∧ as[k]? = some (Ag.ob d) ∧ ss[k]? = some (Sl.io d')) := fun j d' h => by
    have : ∃ d, isOwn e1 j d := by
      unfold isOwn at h
      rw [backE_get] at h
      cases q : e1[j]? with
      | none => rw [q] at h; rcases h with h | h <;> cases h
      | some s =>
        rw [q] at h
        cases s with
        | ow d => exact ⟨d, .inl q⟩
        | io d => exact ⟨d, .inr q⟩
        | _ => rcases h with h | h <;> cases h
    obtain ⟨d, hd⟩ := this
    refine ⟨d, hd, ?_⟩
    rcases bk j d hd with ⟨z, w⟩ | ⟨k, d2, h1, h2, z⟩
    · refine .inl ⟨z, ?_⟩
      unfold isOwn at h
      rw [w] at h
      rcases hd with q | q <;> (rw [q] at h; rcases h with h | h <;> cases h <;> rfl)
    · refine .inr ⟨k, h1, h2, ?_⟩
      unfold isOwn at h
      rcases z with ⟨z, ⟨_, w⟩ | ⟨_, w⟩⟩ | ⟨z, ⟨_, w⟩ | ⟨_, w⟩⟩ <;> (rw [w] at h; rcases h with h | h <;> cases h <;> exact z)
  have owi : ∀ j a, Owi σ (backE e1 rs ss) j a → Owi σ e1 j a := fun j a ⟨⟨d', h⟩, e⟩ => by
    obtain ⟨d, hd, _⟩ := own j d' h
    exact ⟨⟨d, hd⟩, e⟩
  -- an owned thing that was not handed in
  have far : ∀ {j : Nat} {a : Addr} {d : D}, isOwn e1 j d → σ[j]? = some (some (.ref a)) → lookB j rs ss = none → ¬ Ow (vs.map some) (as.map Ag.sl) a := fun {j a d} hd e q ⟨k, ⟨d0, h0⟩, e0⟩ => by
    obtain ⟨b, ev, _, _, w⟩ := arg_ob rel hv ha (obs_slot h0)
    rw [vs_map] at e0
    rw [e0] at ev; cases ev
    rcases w with ⟨_, _, no⟩ | ⟨i, hr, ho', w⟩
    · exact no ⟨j, ⟨d, hd⟩, e⟩
    · have := rel.ap i j a w ⟨⟨d, hd⟩, e⟩
      subst this
      exact lookB_none q lss hr
  -- the address of what was handed in
  have adr : ∀ {j k : Nat} {a : Addr} {d : D}, rs[k]? = some (.bo j) → as[k]? = some (.ob d) → σ[j]? = some (some (.ref a)) → vs[k]? = some (.ref a) := fun {j k a d} hr hk e => by
    obtain ⟨v, ev, g⟩ := rvs_at hv hr
    rw [g.1] at e
    rw [ev, Option.some.inj (Option.some.inj e)]
  refine ⟨⟨fun a h => sc.ext.fr a (s1.ext.fr a h), fun a o e n => ?_, fun a h => ?_, fun a h => sc.ext.al a (s1.ext.al a h), fun t => sc.ext.tab (s1.ext.tab t)⟩, ⟨?_, fun i d h => ?_, fun i d h => ?_, fun i j a h1 h2 => rel.ap i j a (owi i a h1) (owi j a h2), sc.rel.dom, fun i d h => ?_, sc.rel.tb⟩, fun a ⟨j, h⟩ => s1.sub a ⟨j, owi j a h⟩, fun i d h => ?_, fun i h => ?_⟩
  · have nz : ¬ _ := fun z => by
      rcases obA a z with z | z
      · rcases s1.sub a z with z | z
        · exact n z
        · rw [e] at z; cases z
      · rw [e] at z; cases z
    rcases s1.ext.keep a o e n with z | ⟨z1, z2, b, z3⟩ | ⟨z1, z2⟩
    · exact sc.ext.keep a o z nz
    · exact .inr (.inl ⟨z1, sc.ext.fr a z2, b, sc.ext.keepN z3 nz⟩)
    · exact .inr (.inr ⟨z1, sc.ext.al a z2⟩)
  · rcases sc.ext.old a h with h | h | h
    · exact s1.ext.old a h
    · refine .inr (.inl ?_)
      cases q : H a with
      | none => rfl
      | some u => exact absurd h (s1.ext.al a (by rw [q]; simp))
    · rcases obA a h with z | z
      · exact .inr ((s1.sub a z).symm)
      · exact .inr (.inl z)
  · rw [rel.len]; unfold backE; simp
  · -- shared slots
    rw [backE_get] at h
    cases q : e1[i]? with
    | none => rw [q] at h; rcases h with h | h <;> cases h
    | some s =>
      rw [q] at h
      cases s with
      | un => rcases h with h | h <;> cases h
      | sh d0 =>
        have : d0 = d := by rcases h with h | h <;> cases h; rfl
        subst this
        obtain ⟨v, e, r⟩ := rel.sh i d0 (.inl q)
        exact ⟨v, e, r.mono sc.ext.fr kp⟩
      | iz d0 =>
        have : d0 = d := by rcases h with h | h <;> cases h; rfl
        subst this
        obtain ⟨v, e, r⟩ := rel.sh i d0 (.inr q)
        exact ⟨v, e, r.mono sc.ext.fr kp⟩
      | ow d0 =>
        have hd : isOwn e1 i d0 := .inl q
        obtain ⟨a, ea, _⟩ := rel.ow i d0 hd
        cases q2 : lookB i rs ss with
        | none => rw [q2] at h; rcases h with h | h <;> cases h
        | some s2 =>
          rw [q2] at h
          obtain ⟨k, h1, h2⟩ := lookB_some q2
          have hk := agB h1 hd
          cases s2 with
          | iz d2 =>
            have : d2 = d := by rcases h with h | h <;> cases h; rfl
            subst this
            obtain ⟨v, ev, r⟩ := sc.rel.sh k d2 (.inr h2)
            rw [vs_map, adr h1 hk ea] at ev
            cases ev
            exact ⟨_, ea, r⟩
          | _ => rcases h with h | h <;> cases h
      | io d0 =>
        have hd : isOwn e1 i d0 := .inr q
        obtain ⟨a, ea, _⟩ := rel.ow i d0 hd
        cases q2 : lookB i rs ss with
        | none => rw [q2] at h; rcases h with h | h <;> cases h
        | some s2 =>
          rw [q2] at h
          obtain ⟨k, h1, h2⟩ := lookB_some q2
          have hk := agB h1 hd
          cases s2 with
          | iz d2 =>
            have : d2 = d := by rcases h with h | h <;> cases h; rfl
            subst this
            obtain ⟨v, ev, r⟩ := sc.rel.sh k d2 (.inr h2)
            rw [vs_map, adr h1 hk ea] at ev
            cases ev
            exact ⟨_, ea, r⟩
          | _ => rcases h with h | h <;> cases h
  · obtain ⟨d0, hd, w⟩ := own i d h
    obtain ⟨a, ea, na, ob⟩ := rel.ow i d0 hd
    refine ⟨a, ea, ?_⟩
    rcases w with ⟨z, rfl⟩ | ⟨k, h1, hk, h2⟩
    · have nf := far hd ea z
      obtain ⟨o, eo, nt⟩ := ob.some
      have na1 : ¬ _ := fun z => by
        rcases sc.ext.old a z with z | z | z
        · exact na z
        · rw [eo] at z; cases z
        · exact nf z
      exact ⟨na1, ob.mono sc.ext.fr kp fun o e => sc.ext.keepA e nf na1 (by rw [eo] at e; cases e; exact nt)⟩
    · obtain ⟨b, eb, nb', ob'⟩ := sc.rel.ow k d (.inr h2)
      rw [vs_map, adr h1 hk ea] at eb
      cases eb
      exact ⟨nb', ob'⟩
  · rw [backE_get] at h
    cases q : e1[i]? with
    | none => rw [q] at h; cases h
    | some s =>
      rw [q] at h
      cases s with
      | un => cases h
      | sh d0 => cases h
      | iz d0 =>
        cases h
        obtain ⟨a, ea, z⟩ := rel.fz i d q
        exact ⟨a, ea, sc.ext.fr a z⟩
      | ow d0 =>
        cases q2 : lookB i rs ss with
        | none => rw [q2] at h; cases h
        | some s2 => rw [q2] at h; cases s2 <;> cases h
      | io d0 =>
        have hd : isOwn e1 i d0 := .inr q
        obtain ⟨a, ea, _⟩ := rel.ow i d0 hd
        cases q2 : lookB i rs ss with
        | none => rw [q2] at h; cases h
        | some s2 =>
          rw [q2] at h
          obtain ⟨k, h1, h2⟩ := lookB_some q2
          have hk := agB h1 hd
          cases s2 with
          | iz d2 =>
            obtain ⟨b, eb, z⟩ := sc.rel.fz k d2 h2
            rw [vs_map, adr h1 hk ea] at eb
            cases eb
            exact ⟨a, ea, z⟩
          | _ => cases h
  · obtain ⟨q1, d1, q2⟩ := s1.io i d h
    refine ⟨q1, ?_⟩
    rcases q2 with q2 | q2
    · rcases bk i d1 (.inr q2) with ⟨_, w⟩ | ⟨k, d', _, _, w⟩
      · exact ⟨d1, .inl (by rw [w, q2])⟩
      · rcases w with ⟨_, ⟨z, _⟩ | ⟨_, z⟩⟩ | ⟨_, ⟨z, _⟩ | ⟨_, z⟩⟩
        · rw [q2] at z; cases z
        · exact ⟨d', .inl z⟩
        · rw [q2] at z; cases z
        · exact ⟨d', .inr z⟩
    · exact ⟨d1, .inr (nb q2 fun d => ⟨fun z => (by cases z), fun z => (by cases z)⟩)⟩
  · have h' := s1.rdb i h
    unfold rdAt at h' ⊢
    rw [backE_get]
    cases q : e1[i]? with
    | none => rw [q] at h'; exact absurd rfl h'
    | some s =>
      rw [q] at h'
      cases s with
      | un => exact absurd rfl h'
      | sh d => simp [backS, Sl.rd]
      | iz d => simp [backS, Sl.rd]
      | ow d =>
        cases q2 : lookB i rs ss with
        | none => simp [backS, Sl.rd]
        | some s2 => cases s2 <;> simp [backS, Sl.rd]
      | io d =>
        cases q2 : lookB i rs ss with
        | none => simp [backS, Sl.rd]
        | some s2 => cases s2 <;> simp [backS, Sl.rd]
theorem backE_sub {ss : En} {a : Addr} (h : Ow σ (backE e1 rs ss) a) : Ow σ e1 a := by
  obtain ⟨j, ⟨d', h⟩, e⟩ := h
  refine ⟨j, ?_, e⟩
  unfold isOwn at h
  rw [backE_get] at h
  cases q : e1[j]? with
  | none => rw [q] at h; rcases h with h | h <;> cases h
  | some s =>
    rw [q] at h
    cases s with
    | ow d => exact ⟨d, .inl q⟩
    | io d => exact ⟨d, .inr q⟩
    | _ => rcases h with h | h <;> cases h
end
theorem callF_sound {G : Gd} {F : FD} {fs : AF} {σ : L2.St} {H : Hp} {Q : VK} (h : tE G (callF F fs) σ H Q) : tCallSD (spF G.K G.M F) [] (WE G.W) (tA G fs) σ H Q := by
  obtain ⟨A, env, rel, h⟩ := h
  refine ⟨A, env, rel, Post.cut h fun rs e1 A1 H1 s1 h1 vs hvs => ?_⟩
  cases q1 : agsOf e1 rs with
  | none => rw [q1] at h1; exact h1.elim
  | some as =>
    rw [q1] at h1
    dsimp only at h1
    by_cases ho : once e1 rs = true
    · rw [if_pos ho] at h1
      rw [List.append_nil]
      refine ⟨A1, as, s1.rel.args hvs q1 ho, ?_⟩
      cases q2 : F as with
      | no => rw [q2] at h1; exact h1.elim
      | exc x ss =>
        rw [q2] at h1
        exact fun A' H' c dd sc hx => h1 A' H' c dd (call_stp s1 hvs q1 ho sc) hx
      | ret own d ss =>
        rw [q2] at h1
        intro A' H' v sc hv
        have st := call_stp s1 hvs q1 ho sc
        cases own with
        | false => exact h1 A' H' st v hv
        | true =>
          obtain ⟨a, ea, na, fr, _, ob⟩ := hv
          refine h1 A' H' st v ⟨a, ea, na, fun z => ?_, ?_, ob⟩
          · obtain ⟨_, o, eo, _⟩ := s1.rel.owok (backE_sub z)
            rw [fr] at eo; cases eo
          · show H a = none
            cases q : H a with
            | none => rfl
            | some u => exact absurd fr (s1.ext.al a (by rw [q]; simp))
    · rw [if_neg ho] at h1; exact h1.elim
/-- what a caller knows of a def -/
structure Def (P : Program) (w : World) (K : Frag) (mg : Str → Option Value) (base : Heap) (k : Nat) (x : Str) (np : Nat) (F : FD) : Prop where
  ex : ∃ (f : Addr) (fd : FuncData) (ps : List Str), FnOk P w K mg base (L2.CX P w) k f fd ps (spF K mg F) ∧ mg x = some (.ref f) ∧ PySem.W.keepIn K (.ref f) = true ∧ Binds K fd ps [] ∧ ps.length = np
section
variable {X : Cx} {W : WX} {x : Str} {p pos : Pos} {e : Expr} {es : List Expr} {fs : AF} {F : FD} {k np : Nat}
theorem e_call (D : Def X.prog X.w X.K X.mg X.base k x np F) (hr : Room k X.A) (tk : Takes X W) (ha : PA X (e :: es) (tA (gd X W) fs)) (hg : Gl X x := by rfl) (hdb : (x == ("__debug__" : Str)) = false := by decide)
    (he : starEach (e :: es) X.env = (false, eval e X.env) :: starEach es X.env := by rfl) (hpl : (backTo pos (starEach es X.env)).any (·.1) = false := by rfl) : PE X (.Call (.Name x p) (e :: es) [] pos) (tE (gd X W) (callF F fs)) := by
  obtain ⟨f, fd, ps, F', hm, hk, hb, _⟩ := D.ex
  exact PE.imp (pe_callSD F' hr hg hm hk hb .nil (fun σ => passAt tk σ) ha hdb he hpl) fun _ _ _ h => callF_sound (G := gd X W) h
end
end VL


set_option Elab.async false
set_option linter.all false
set_option maxRecDepth 100000
set_option maxHeartbeats 2000000
namespace VL
open PySem PySem.Spec PyProof.Rows L2
variable [TbP]

/-! ### what is not reached; loops' fuel; defs by their text -/
def noS : SF := fun _ => .no
def FUEL : Nat := 10 ^ 40
theorem s_no {X : Cx} {W : WX} {st : Stmt} : PS X st (tS (gd X W) noS) := PS.imp ps_never fun Z σ H h => by
  obtain ⟨A, env, rel, h⟩ := h
  exact h
theorem tgw {G : Gd} {g : TG} {t : GF} {vs ws : List Nat} (h : TgOk G g t vs) (c : vs.all (fun v => ws.contains v) = true) : TgOk G g t ws := by
  intro A A1 σ σ1 H H1 env e1 e2 d x P s r q k
  refine h A A1 σ σ1 H H1 env e1 e2 d x P s r q fun σ2 s2 l2 o2 => k σ2 s2 l2 fun j hj => o2 j fun z => hj ?_
  have := List.all_eq_true.mp c j z
  simpa using this
/-- a def as the module holds it -/
structure Here (K : Frag) (mg : Str → Option Value) (x : Str) (st : Stmt) (ps : List Str) : Prop where
  ex : ∃ (f : Addr) (fd : FuncData), mg x = some (.ref f) ∧ Fun K x x st f fd ∧ PySem.W.keepIn K (.ref f) = true ∧ Binds K fd ps []
theorem Here.def {P : Program} {w : World} {K : Frag} {mg : Str → Option Value} {base : Heap} {x : Str} {st : Stmt} {ps N : List Str} {k np n : Nat} {body : SF} (h : Here K mg x st ps) (S : FnScope N ps (defScope st)) (hnp : ps.length = np) (hn : N.length = n)
    (hb : ∀ (f : Addr) (cdv : Value) (A : Around) (outer : List Env) (s : Shared) (H : Hp) (E : XK), Room k (A.deeper (envOfC x (defScope st) s.heap.objs.size f cdv)) →
      PSs (cxOf (L2.CX P w) P w K mg base N x (defScope st) f cdv A outer s H E) (defBody st) (tS (gd (cxOf (L2.CX P w) P w K mg base N x (defScope st) f cdv A outer s H E) (fun cls d _ H => E cls d H)) body)) : Def P w K mg base (k + 1) x np (runF np n body) := by
  obtain ⟨f, fd, hm, F, hk, hbd⟩ := h.ex
  exact ⟨f, fd, ps, fn_ok F S hnp hn (hb f), hm, hk, hbd, hnp⟩
theorem Here.mk' {K : Frag} {mg : Str → Option Value} {h : Heap} {x : Str} {st : Stmt} {ps : List Str} {f : Addr} {oc : Value} {od an : Option Addr} {osl : Array (Option Value)} {kV doc pm cdv ct : Value} (X : K.In h) (G : h.Ns mainGlobals mg)
    (a : PySem.W.nsIn K mainGlobals x = some (some (.ref f))) (l : K.lookup f = some ⟨oc, od, .func (PySem.W.fnOf x x (defArgs st) (defBody st) (defScope st) .none kV doc pm an cdv ct), osl⟩) (c : PySem.W.codeIn K cdv x = true) (k : PySem.W.keepIn K (.ref f) = true)
    (b : ∀ (kV doc pm : Value) (an : Option Addr) (cdv ct : Value) (us : List Value), us.length = ps.length → bindArgs (PySem.W.fnOf x x (defArgs st) (defBody st) (defScope st) .none kV doc pm an cdv ct) ⟨us, []⟩ = pure (ps.zip us)) : Here K mg x st ps := by
  have F := fun_mk (st := st) l c k
  exact ⟨f, _, PySem.W.mg_of X G a, F, k, F.binds b⟩

/-! ### name *= e -/
def mulIp : TIp := fun x y H Q => ∃ i j, x = .int i ∧ y = .int j ∧ (CMul i j ∨ CMulW i j) ∧ Q (.int (i * j)) H
theorem ip_mul {X : Cx} : PIp X .Mult mulIp := by
  intro pins s σ H x y v u Q I r1 r2 h
  obtain ⟨i, j, e1, e2, hc, q⟩ := h
  subst e1; subst e2
  obtain ⟨t, rfl⟩ := r1
  obtain ⟨t', rfl⟩ := r2
  exact imul_int ⟨.int _, H, I.tok _, ⟨_, rfl⟩, q⟩ (hc.elim CMul.ok CMulW.ok)
theorem mulOk_of {i j : Int} (h : mulOk i j = true) : CMul i j ∨ CMulW i j := by
  unfold mulOk at h
  rw [Bool.or_eq_true] at h
  exact h.imp (fun z => of_decide_eq_true (p := (-(2 ^ 64) < i ∧ i < 2 ^ 64) ∨ (-(2 ^ 64) < j ∧ j < 2 ^ 64)) z) fun z => of_decide_eq_true (p := i.natAbs.log2 + j.natAbs.log2 < 1000000) z
def augG (i : Nat) (g : Int → Int → Option Int) (f : EF) : SF := fun env => match rdAt env i with
  | some (.int a) => (f env).st fun r e => (match rd e r with
    | some (.int b) => (match g a b with
      | some c => (match putS e i (.sh (.int c)) with
        | some e2 => .nx e2
        | none => .no)
      | none => .no)
    | _ => .no)
  | _ => .no
def mulO (a b : Int) : Option Int := if mulOk a b = true then some (a * b) else none
theorem s_augMul (i : Nat) {X : Cx} {W : WX} {x : Str} {e : Expr} {fe : EF} {pos pos' : Pos} (hN : X.N.Nodup) (he : PE X e (tE (gd X W) fe)) (hi : X.N[i]? = some x := by rfl) (hx : Loc X.env.scope x := by first | exact Or.inl rfl | exact Or.inr rfl)
    (hf : X.fn x = true ∨ X.env.scope.names.lookup x = some .local := by first | exact .inl rfl | exact .inr rfl | assumption) :
    PS X (.AugAssign (.Name x pos') .Mult e pos) (tS (gd X W) (augG i mulO fe)) := PS.imp (ps_aug hN hi hx he ip_mul hf) fun Z σ H h => by
  obtain ⟨A, env, rel, h⟩ := h
  unfold augG at h
  cases q : rdAt env i with
  | none => rw [q] at h; exact h.elim
  | some d =>
    rw [q] at h
    cases d with
    | int a =>
      dsimp only at h
      have hσ : σ[i]? = some (some (.int a)) := by
        unfold rdAt at q
        cases q0 : env[i]? with
        | none => rw [q0] at q; cases q
        | some s =>
          rw [q0] at q
          cases s with
          | un => cases q
          | sh d => cases q; obtain ⟨v, e, r⟩ := rel.sh i _ (.inl q0); simp only [Rp] at r; rw [e, r]
          | iz d => cases q; obtain ⟨v, e, r⟩ := rel.sh i _ (.inr q0); simp only [Rp] at r; rw [e, r]
          | ow d => cases q; obtain ⟨v, e, _, r⟩ := rel.ow i _ (.inl q0); exact r.elim
          | io d => cases q; obtain ⟨v, e, _, r⟩ := rel.ow i _ (.inr q0); exact r.elim
      refine ⟨_, hσ, A, env, rel, SPost.cut h fun r e1 A1 H1 s1 h1 v hv => ?_⟩
      cases q1 : rd e1 r with
      | none => rw [q1] at h1; exact h1.elim
      | some d =>
        rw [q1] at h1
        cases d with
        | int b =>
          dsimp only at h1
          unfold mulO at h1
          by_cases c : mulOk a b = true
          · rw [if_pos c] at h1
            dsimp only at h1
            cases q2 : putS e1 i (.sh (.int (a * b))) with
            | none => rw [q2] at h1; exact h1.elim
            | some e2 =>
              rw [q2] at h1
              exact ⟨a, b, rfl, (hv.rq s1.rel q1).int, mulOk_of c, h1 A1 _ H1 (s1.put (.inl ⟨_, rfl, rp_int⟩) q2)⟩
          · rw [if_neg c] at h1; exact h1.elim
        | _ => exact h1.elim
    | _ => exact h.elim

/-! ### list * int, tuple * int -/
theorem RpL.rep {K : Frag} {A : AS} {H : Hp} {ds : List D} {vs : List V} (h : RpL K A H ds vs) : ∀ n : Nat, RpL K A H (List.replicate n ds).flatten (List.replicate n vs).flatten
  | 0 => .nil
  | n + 1 => by
    rw [List.replicate_succ, List.replicate_succ, List.flatten_cons, List.flatten_cons]
    exact h.append (h.rep n)
def tupMulG : G2
  | .tuple ds, .int k => if ds ≠ [] ∧ 2 ≤ k ∧ k ≤ 1000 ∧ ds.length ≤ 1000 then some (.sh (.tuple (List.replicate k.toNat ds).flatten)) else none
  | _, _ => none
theorem tupMul_A {K : Frag} : OpA K (rRepT K) tupMulG := by
  intro A H x y vx vy z Q hd e hx hy q
  match x, y, e with
  | .tuple ds, .int k, e =>
    dsimp only [tupMulG] at e
    by_cases c : ds ≠ [] ∧ 2 ≤ k ∧ k ≤ 1000 ∧ ds.length ≤ 1000
    · rw [if_pos c] at e
      cases e
      obtain ⟨a, xs, rfl, sl, r⟩ := hx.tup
      refine ⟨a, k, xs, rfl, hy.int, sl, fun z => c.1 ?_, c.2.1, c.2.2.1, by rw [← r.length]; exact c.2.2.2, fun p n => q _ _ (same_upd n) (rp_tup n (r.rep _))⟩
      subst z
      cases ds with
      | nil => rfl
      | cons _ _ => have := r.length; simp at this
    · rw [if_neg c] at e; cases e
def isOwned (e : En) : Rv → Bool
  | .tm _ => true
  | .bo i => (mutS e i).isSome
  | .sh _ => false
def mulG2 : G2 := orG mulG tupMulG
def mulF (fa fb : EF) : EF := fun env => (fa env).bind fun r1 e1 => (fb e1).bind fun r2 e2 => match rd e2 r1, rd e2 r2 with
  | some (.list ds), some (.int k) => if isOwned e2 r1 = true ∧ -(2 ^ 63) ≤ k ∧ k < 2 ^ 63 ∧ ds.length * k.toNat ≤ LIM then .ok (.tm (.list (List.replicate k.toNat ds).flatten)) e2 else .no
  | some x, some y => out1 (mulG2 x y) e2
  | _, _ => .no
theorem e_mulX {X : Cx} {W : WX} {a b : Expr} {fa fb : EF} {pos : Pos} (ha : PE X a (tE (gd X W) fa)) (hb : PE X b (tE (gd X W) fb)) : PE X (.BinOp a .Mult b pos) (tE (gd X W) (mulF fa fb)) :=
  PE.imp (pe_op ((op_mulA.or op_repT).or op_rep) ha hb) fun σ H Q h => by
    obtain ⟨A, env, rel, h⟩ := h
    refine ⟨A, env, rel, (Post.bind h).imp fun r1 e1 A1 H1 s1 h1 v1 hv1 => ?_⟩
    refine ⟨A1, e1, s1.rel, (Post.bind h1).imp fun r2 e2 A2 H2 s2 h2 v2 hv2 => ?_⟩
    have hv1' := hv1.step s1.rel s2
    have st := s1.trans s2
    have gen : ∀ x y, rd e2 r1 = some x → rd e2 r2 = some y → Post (gd X W) A2 σ H2 e2 (out1 (mulG2 x y) e2) (EQ (gd X W) σ H Q) →
        rI (fun i j => CMul i j ∨ CMulW i j) (fun i j => .int (i * j)) v1 v2 H2 Q ∨ rRepT X.K v1 v2 H2 Q := fun x y q1 q2 h2 => by
      unfold out1 at h2
      cases q3 : mulG2 x y with
      | none => rw [q3] at h2; exact h2.elim
      | some z =>
        rw [q3] at h2
        exact (OpA.or (int_A (fun i j h => mulOk_of h) fun A H _ _ => rp_int (K := X.K) (A := A) (H := H)) tupMul_A) A2 H2 x y v1 v2 z Q s2.rel.dom q3 (hv1'.rq s2.rel q1) (hv2.rq s2.rel q2) fun v' H' sm hz => fin1 st h2 sm hz
    cases q1 : rd e2 r1 with
    | none => rw [q1] at h2; exact h2.elim
    | some x =>
      cases q2 : rd e2 r2 with
      | none => rw [q1, q2] at h2; cases x <;> exact h2.elim
      | some y =>
        rw [q1, q2] at h2
        cases x with
        | list ds =>
          cases y with
          | int k =>
            dsimp only at h2
            by_cases c : isOwned e2 r1 = true ∧ -(2 ^ 63) ≤ k ∧ k < 2 ^ 63 ∧ ds.length * k.toNat ≤ LIM
            · rw [if_pos c] at h2
              refine .inr ?_
              have ob : ∃ a, v1 = .ref a ∧ Ob X.K A2 H2 a (.list ds) := by
                cases r1 with
                | sh d => cases c.1
                | tm d =>
                  cases q1
                  obtain ⟨a, ea, _, _, _, ob⟩ := hv1'
                  exact ⟨a, ea, ob⟩
                | bo i =>
                  obtain ⟨d, hd⟩ := Option.isSome_iff_exists.mp (show (mutS e2 i).isSome = true from c.1)
                  have ho := mutS_own hd
                  obtain ⟨a, ea, na, ob⟩ := s2.rel.ow i d ho
                  rw [hv1'.1] at ea
                  have ed : d = .list ds := by
                    have q1 : rdAt e2 i = some (.list ds) := q1
                    unfold rdAt at q1
                    rcases ho with z | z <;> (rw [z] at q1; exact Option.some.inj q1)
                  subst ed
                  exact ⟨a, Option.some.inj (Option.some.inj ea), ob⟩
              obtain ⟨a, ea, ys, ey, ry⟩ := ob
              exact ⟨a, k, ys, ea, (hv2.rq s2.rel q2).int, ey, c.2.1, c.2.2.1, by rw [← ry.length, lim_eq]; exact c.2.2.2, fun p n => fin1 st h2 (same_upd n) (rz_lst n (ry.rep _))⟩
            · rw [if_neg c] at h2; exact h2.elim
          | _ => exact .inl (gen _ _ q1 q2 h2)
        | none => exact .inl (gen _ _ q1 q2 h2)
        | bool _ => exact .inl (gen _ _ q1 q2 h2)
        | int _ => exact .inl (gen _ _ q1 q2 h2)
        | str _ => exact .inl (gen _ _ q1 q2 h2)
        | tuple _ => exact .inl (gen _ _ q1 q2 h2)
        | dict _ => exact .inl (gen _ _ q1 q2 h2)
end VL


set_option Elab.async false
set_option linter.all false
set_option maxRecDepth 100000
set_option maxHeartbeats 2000000
/-! VL14: promises of defs where no repr is under way (for repr of tuples and lists). -/
namespace VL
open PySem PySem.Spec PyProof.Rows L2
variable [TbP]
/-- a def's promise below callers that stand in no repr -/
structure FnG (P : Program) (w : World) (K : Frag) (mg : Str → Option Value) (base : Heap) (CX : CXT) (k : Nat) (f : Addr) (fd : FuncData) (ps : List Str) (sp : Sp) : Prop where
  len : ∀ vs H Q E, sp vs H Q E → vs.length = ps.length
  run : ∀ (A : Around) (outer : List Env) (s : Shared) (H : Hp) (args : Args) (us : List Value) (vs : List V) (Q : VK) (E : XK), Room k A → A.guards = some [] → Env0 P w K mg base A outer s H → BindsTo s fd args (ps.zip us) → Vals vs us → sp vs H Q E →
    codeAny (model P w) A (.call (.ref f) args) (CR CX outer P w H s Q E) s
/-- such a def, by its body -/
theorem fnG_of {CX : CXT} {P : Program} {w : World} {K : Frag} {mg : Str → Option Value} {base : Heap} {k : Nat} {f : Addr} {x qual : Str} {params : Arguments} {body : List Stmt} {scope : Scope} {kws : List (Str × V)} {fd : FuncData} {N ps : List Str} {sp : Sp}
    (F : FunD K x qual params body scope [] kws f fd) (S : FnScope N ps scope) (len : ∀ vs H Q E, sp vs H Q E → vs.length = ps.length)
    (hb : ∀ (cdv : Value) (A : Around) (outer : List Env) (s : Shared) (H : Hp) (vs : List V) (Q : VK) (E : XK), Room k (A.deeper (envOfC qual scope s.heap.objs.size f cdv)) → A.guards = some [] → sp vs H Q E →
      ∃ t, PSs (cxOf CX P w K mg base N qual scope f cdv A outer s H E) body t ∧ t { nx := fun _ H' => Q .non H', rt := Q } (L2.start N vs) H) : FnG P w K mg base CX (k + 1) f fd ps sp := by
  obtain ⟨oc, od, dV, kV, doc, pm, an, cdv, ct, osl, rfl, lk, hcd, _, _⟩ := F.ex
  refine ⟨len, fun A outer s H args us vs Q E hr hgd e0 hbd rv hsp => ?_⟩
  have up : ∀ b o, base.get? b = some o → s.heap.get? b = some o := fun b o e => (e0.bs b o e).1
  have hloc : ∀ y ∈ ps.zip us, scope.names.lookup y.1 = some .local ∨ (scope.names.lookup y.1 = some .cell ∧ ((cellsFrom (s.heap.objs.size + 1) scope.names []).lookup y.1).isSome = true) := by
    rintro ⟨n, v⟩ hy
    exact (S.par n (List.of_mem_zip hy).1).imp id fun q => ⟨q, PySem.W.cellsFrom_some _ _ _ (.inl q)⟩
  refine codeAny_call_function hr.depth ((e0.mod.kin.keeps up) _ _ lk) rfl S.co S.gen rfl (PySem.W.codeRec_of (e0.mod.kin.keeps up) hcd) (hbd _ _ _ _ (wpAny_newFunctionEnv_cells S.kind hloc fun env he s1 x => ?_))
  subst he
  obtain ⟨t, ht, hq⟩ := hb cdv A outer s H vs Q E (hr.deeper _) hgd hsp
  refine ⟨(e0.mod.nolimit.keeps up).keeps x.toInCall.keep, codeAny_func (wpAny_mono (ht.run [] s1 (L2.start N vs) H _ (inv_start S hr.hd e0 (len _ _ _ _ hsp) rv x) hq) (fun fl s' hs => ?_) fun e s' hs => hs)⟩
  cases fl with
  | ret u =>
    obtain ⟨v, _, H', J, r, q⟩ := hs
    exact ⟨v, H', J.os, J.bare, J.base, J.hok, r, q⟩
  | next =>
    obtain ⟨_, H', J, q⟩ := hs
    exact ⟨.non, H', J.os, J.bare, J.base, J.hok, rfl, q⟩
  | brk =>
    obtain ⟨_, _, _, q⟩ := hs
    exact q.elim
  | cont =>
    obtain ⟨_, _, _, q⟩ := hs
    exact q.elim
section
variable {X : Cx} {W : WX} {x : Str} {p pos : Pos} {e : Expr} {es : List Expr} {k : Nat} {f : Addr} {fd : FuncData} {ps : List Str} {sp : Sp} {t : TA} {E : L2.St → XK}
theorem pe_callG (F : FnG X.prog X.w X.K X.mg X.base (L2.CX X.prog X.w) k f fd ps sp) (hr : Room k X.A) (hgd : X.A.guards = some []) (hg : Gl X x) (hm : X.mg x = some (.ref f)) (hk : PySem.W.keepIn X.K (.ref f) = true) (hb : Binds X.K fd ps []) (hx : ∀ σ, PassesAt (L2.CX X.prog X.w) X σ (E σ))
    (ha : PA X (e :: es) t) (hdb : (x == ("__debug__" : Str)) = false := by decide) (he : starEach (e :: es) X.env = (false, eval e X.env) :: starEach es X.env := by rfl) (hpl : (backTo pos (starEach es X.env)).any (·.1) = false := by rfl) :
    PE X (.Call (.Name x p) (e :: es) [] pos) (tCallSD sp [] E t) := by
  refine ⟨fun pins s σ H Q I h => wpAny_Call_Name_kw (ld_glob I hg hm ?_ hdb)⟩
  refine PySem.W.callWith_K (h₀ := X.base) I.ok.mod.kin hk (thn (ha.run pos pins s σ H _ I h) fun us s1 ⟨vs, H1, I1, r, q⟩ => ⟨I1.kIn, ?_⟩) he hpl
  have r2 : Vals (vs ++ []) (us ++ []) := r.append .nil
  have hl : (us ++ []).length = ps.length := by rw [← r2.length]; exact F.len _ _ _ _ q
  refine wpAny_call (codeAny_mono (F.run X.A X.stack s1 H1 ⟨us, []⟩ (us ++ []) (vs ++ []) Q (E σ) hr hgd I1.env0 (hb s1 us I1.kIn hl) r2 q) fun r s' hq => ?_)
  cases r with
  | error e => exact hx σ pins H1 s1 e s' I1 hq
  | ok fl =>
    cases fl with
    | ret u => exact I1.after hq
    | next => exact False.elim hq
    | brk => exact False.elim hq
    | cont => exact False.elim hq
end
end VL


set_option Elab.async false
set_option linter.all false
set_option maxRecDepth 100000
set_option maxHeartbeats 2000000
namespace VL
open PySem PySem.Spec PyProof.Rows L2
variable [TbP]
/-- what a caller knows of a def -/
structure DefG (P : Program) (w : World) (K : Frag) (mg : Str → Option Value) (base : Heap) (k : Nat) (x : Str) (np : Nat) (F : FD) : Prop where
  ex : ∃ (f : Addr) (fd : FuncData) (ps : List Str), FnG P w K mg base (L2.CX P w) k f fd ps (spF K mg F) ∧ mg x = some (.ref f) ∧ PySem.W.keepIn K (.ref f) = true ∧ Binds K fd ps [] ∧ ps.length = np
section
variable {X : Cx} {W : WX} {x : Str} {p pos : Pos} {e : Expr} {es : List Expr} {fs : AF} {F : FD} {k np : Nat}
theorem e_cg (D : DefG X.prog X.w X.K X.mg X.base k x np F) (hr : Room k X.A) (hgd : X.A.guards = some []) (tk : Takes X W) (ha : PA X (e :: es) (tA (gd X W) fs)) (hg : Gl X x := by rfl) (hdb : (x == ("__debug__" : Str)) = false := by decide)
    (he : starEach (e :: es) X.env = (false, eval e X.env) :: starEach es X.env := by rfl) (hpl : (backTo pos (starEach es X.env)).any (·.1) = false := by rfl) : PE X (.Call (.Name x p) (e :: es) [] pos) (tE (gd X W) (callF F fs)) := by
  obtain ⟨f, fd, ps, F', hm, hk, hb, _⟩ := D.ex
  exact PE.imp (pe_callG F' hr hgd hg hm hk hb (fun σ => passAt tk σ) ha hdb he hpl) fun _ _ _ h => callF_sound (G := gd X W) h
end
/-- a def as the module holds it -/
structure HereG (K : Frag) (mg : Str → Option Value) (x : Str) (st : Stmt) (ps : List Str) : Prop where
  ex : ∃ (f : Addr) (fd : FuncData), mg x = some (.ref f) ∧ FunD K x x (defArgs st) (defBody st) (defScope st) [] [] f fd ∧ Binds K fd ps []
theorem HereG.def {P : Program} {w : World} {K : Frag} {mg : Str → Option Value} {base : Heap} {x : Str} {st : Stmt} {ps N : List Str} {k np n : Nat} {body : SF} (h : HereG K mg x st ps) (S : FnScope N ps (defScope st)) (hnp : ps.length = np) (hn : N.length = n)
    (hb : ∀ (f : Addr) (cdv : Value) (A : Around) (outer : List Env) (s : Shared) (H : Hp) (E : XK), Room k (A.deeper (envOfC x (defScope st) s.heap.objs.size f cdv)) → (A.deeper (envOfC x (defScope st) s.heap.objs.size f cdv)).guards = some [] →
      PSs (cxOf (L2.CX P w) P w K mg base N x (defScope st) f cdv A outer s H E) (defBody st) (tS (gd (cxOf (L2.CX P w) P w K mg base N x (defScope st) f cdv A outer s H E) (fun cls d _ H => E cls d H)) body)) : DefG P w K mg base (k + 1) x np (runF np n body) := by
  subst hnp hn
  obtain ⟨f, fd, hm, F, hbd⟩ := h.ex
  exact ⟨f, fd, ps, fnG_of F S (fun vs H Q E h => spF_len h) fun cdv A outer s H vs Q E hr hgd h => ⟨_, hb f cdv A outer s H E hr hgd, body_end h⟩, hm, F.kp, hbd, rfl⟩
/-- from a head's facts -/
theorem HereG.of {K : Frag} {mg : Str → Option Value} {x : Str} {st : Stmt} {ps : List Str} {f : Addr} {fd : FuncData} (hm : mg x = some (.ref f)) (F : FunD K x x (defArgs st) (defBody st) (defScope st) [] [] f fd)
    (b : ∀ (kV doc pm : Value) (an : Option Addr) (cdv ct : Value) (us : List Value), us.length = ps.length → bindArgs (PySem.W.fnOf x x (defArgs st) (defBody st) (defScope st) .none kV doc pm an cdv ct) ⟨us, []⟩ = pure (ps.zip us)) : HereG K mg x st ps :=
  ⟨f, fd, hm, F, F.bindsN b⟩
/-! ### repr -/
def reprC : GC
  | [d] => if d.canLay0 = true ∧ d.showable = true ∧ d.depth ≤ 60 ∧ d.shown.length ≤ LIM then some (.sh (.str d.shown)) else none
  | _ => none
def rRepr (K : Frag) : RC := fun xs H Q => ∃ x d, xs = [x] ∧ Dp K H x d ∧ d.canLay0 = true ∧ d.showable = true ∧ d.depth ≤ 60 ∧ d.shown.length ≤ sizeLine ∧ Q (.str d.shown) H
theorem repr_noDict {d : D} (h : d.canLay0 = true) (h2 : d.hasDict = true) : False := by
  rw [PyData.hasDict_of_canLay d h] at h2; cases h2
theorem call_repr {X : Cx} {k : Nat} (hr : Room k X.A) (hgd : X.A.guards = some []) : CallR X (.builtin "repr") (rRepr X.K) := by
  intro pins s σ H xs us Q I r h
  obtain ⟨x, d, rfl, hd, hc, hs, hz, hl, q⟩ := h
  obtain ⟨u, rfl, rx⟩ := vals1 r
  obtain ⟨as, rd⟩ := Dp.reads I d x u hd rx
  have hu := hr.units
  cases hd with
  | non => cases rx; exact PySem.P.repr_of_none ⟨.str _, H, I.tok _, ⟨_, rfl⟩, q⟩
  | bl b => cases rx; exact PySem.P.repr_of_bool ⟨.str _, H, I.tok _, ⟨_, rfl⟩, q⟩
  | int i =>
    obtain ⟨t, rfl⟩ := rx
    simp only [PyData.showable, decide_eq_true_eq] at hs
    exact PySem.P.repr_of_int hs ⟨.str _, H, I.tok _, ⟨_, rfl⟩, q⟩
  | str y => obtain ⟨t, rfl⟩ := rx; exact PySem.P.repr_of_str ⟨.str _, H, I.tok _, ⟨_, rfl⟩, q⟩ hl
  | lst a b => cases rx; exact repr_of_reads' rd hs (fun z => (repr_noDict hc z).elim) hgd (by omega) (fun _ _ e => e) (fun h' u tk k => ⟨.str _, H, I.kept k, ⟨u, rfl⟩, q⟩) hl
  | tup a b => cases rx; exact repr_of_reads' rd hs (fun z => (repr_noDict hc z).elim) hgd (by omega) (fun _ _ e => e) (fun h' u tk k => ⟨.str _, H, I.kept k, ⟨u, rfl⟩, q⟩) hl
theorem repr_A {K : Frag} : CbA K (rRepr K) reprC := by
  intro A H ds vs z Q hd e hx q
  match ds, e with
  | [d], e =>
    obtain ⟨v, rfl, h⟩ := hx.one
    dsimp only [reprC] at e
    by_cases c : d.canLay0 = true ∧ d.showable = true ∧ d.depth ≤ 60 ∧ d.shown.length ≤ LIM
    · rw [if_pos c] at e
      cases e
      exact ⟨v, d, rfl, h.dp c.1, c.1, c.2.1, c.2.2.1, le_line c.2.2.2, q _ _ (Same.refl H) rz_str⟩
    · rw [if_neg c] at e; cases e
theorem boot_repr' : bootBuiltins "repr" = some (.builtin "repr") := by decide +kernel
theorem b_repr {X : Cx} {k : Nat} (hr : Room k X.A) (hgd : X.A.guards = some []) : BI X "repr" reprC := ⟨⟨_, _, call_repr hr hgd, repr_A, boot_repr', .inl ⟨_, rfl⟩⟩, by decide, by decide⟩
end VL


set_option Elab.async false
set_option linter.all false
set_option maxRecDepth 100000
set_option maxHeartbeats 2000000
/-! HD1: what a display of a dict with tuples of texts as keys does, told exactly, the heap as a tree. -/
namespace HDK
open PySem PySem.W PySem.Calls PyProof.Rows

/-! ### small changes of a state -/
def pushO (o : Obj) (x : SharedT) : Option SharedT := match ((x.tree.ins x.n o).get x.n).isSome with
  | true => some ⟨x.tree.ins x.n o, x.n + 1, x.life, x.gens, x.drawn, x.toks, x.os⟩
  | false => none
def setO (a : Addr) (f : Obj → Obj) (x : SharedT) : Option SharedT := match Nat.blt a x.n with
  | true => (match x.tree.get a with
    | some _ => some ⟨x.tree.set a f, x.n, x.life, x.gens, x.drawn, x.toks, x.os⟩
    | none => none)
  | false => none
def tokO (k : Nat) (x : SharedT) : SharedT := ⟨x.tree, x.n, x.life, x.gens, x.drawn, x.toks + k, x.os⟩
theorem size_abs (x : SharedT) : x.abs.heap.objs.size = x.n := absHeap_size _ _ _
theorem pushO_ok {o : Obj} {x y : SharedT} (h : pushO o x = some y) : y.abs = { x.abs with heap := x.abs.heap.push o } := by
  unfold pushO at h
  cases g : ((x.tree.ins x.n o).get x.n).isSome with
  | false => rw [g] at h; cases h
  | true =>
    rw [g] at h
    cases h
    show (⟨absHeap (x.tree.ins x.n o) (x.n + 1) x.life, x.gens, x.drawn, x.toks, x.os⟩ : Shared) = _
    rw [absHeap_ins g]
    rfl
theorem setO_ok {a : Addr} {f : Obj → Obj} {x y : SharedT} (h : setO a f x = some y) : y.abs = { x.abs with heap := x.abs.heap.update a f } := by
  unfold setO at h
  cases g : Nat.blt a x.n with
  | false => rw [g] at h; cases h
  | true =>
    rw [g] at h
    dsimp only at h
    cases q : x.tree.get a with
    | none => rw [q] at h; cases h
    | some o =>
      rw [q] at h
      cases h
      show (⟨absHeap (x.tree.set a f) x.n x.life, x.gens, x.drawn, x.toks, x.os⟩ : Shared) = _
      rw [absHeap_set q]
      rfl
theorem tokO_ok (k : Nat) (x : SharedT) : (tokO k x).abs = { x.abs with toks := x.abs.toks + k } := rfl

/-! ### a tuple of texts -/
def strsFrom (t : Nat) : List Str → List Value
  | [] => []
  | s :: r => .str s t :: strsFrom (t + 1) r
def tupO (vs : List Value) : Obj := { cls := .type "tuple", data := .seq vs.toArray }
def tupE (ss : List Str) (x : SharedT) : Option SharedT := pushO (tupO (strsFrom x.toks ss)) (tokO ss.length x)
/-- elements that are written texts -/
inductive Texts : List Expr → List Str → Prop where
  | nil : Texts [] []
  | cons {s : Str} {j : Nat} {p : Pos} {es : List Expr} {ss : List Str} (t : Texts es ss) : Texts (.Constant (.str s) j p :: es) (s :: ss)
section
variable {prog : Program} {w : World} {A : Around} {E : Value → Shared → Prop} {env : Env}
theorem texts_wp {Q : List Value → Shared → Prop} {pos : Pos} : ∀ {es : List Expr} {ss : List Str} {x : SharedT}, Texts es ss → Q (strsFrom x.toks ss) (tokO ss.length x).abs → wpAny (model prog w) A (spliced (backTo pos (starEach es env))) Q E x.abs
  | [], _, x, .nil, h => Calls.spliced_nil h
  | _ :: es, _, x, .cons (s := s) (ss := ss) t, h => by
    show wpAny _ _ (spliced ((false, eval _ env) :: backTo pos (starEach es env))) _ _ _
    refine Calls.spliced_cons (Calls.Constant_str ?_)
    show wpAny (model prog w) A (spliced (backTo pos (starEach es env))) (fun vs s₂ => Q (.str s x.toks :: vs) s₂) E (tokO 1 x).abs
    refine texts_wp t ?_
    have e : tokO ss.length (tokO 1 x) = tokO (s :: ss).length x := by
      unfold tokO
      simp only [List.length_cons]
      congr 1
      omega
    rw [e]
    exact h
theorem tup_wp {es : List Expr} {ss : List Str} {k : Nat} {pos : Pos} {x y : SharedT} {Q : Value → Shared → Prop} (t : Texts es ss) (hl : ss.length ≤ 1000) (h : tupE ss x = some y) (hQ : Q (.ref x.n) y.abs) :
    wpAny (model prog w) A (eval (.Tuple es k pos) env) Q E x.abs := by
  refine Tuple_ (texts_wp t ?_)
  refine wpAny_newObj_type ?_ ?_
  · have e := pushO_ok h
    rw [size_abs]
    show Q (.ref x.n) _
    rw [e] at hQ
    exact hQ
  · have lens : ∀ (t : Nat) (l : List Str), (strsFrom t l).length = l.length := fun t l => by
      induction l generalizing t with
      | nil => rfl
      | cons a l ih => simp [strsFrom, ih]
    show (strsFrom x.toks ss).toArray.size ≤ sizeLine
    rw [List.size_toArray, lens, sizeLine_eq]
    omega
end

/-! ### a dict with such keys -/
abbrev kd (prog : Program) (w : World) : HeapKind prog w (List Str) := tupleKind (strKind prog w)
def grows (h h' : Heap) : Prop := ∀ b o, h.get? b = some o → h'.get? b = some o
section
variable {prog : Program} {w : World} {A : Around} {E : Value → Shared → Prop} {env : Env}
theorem isT_grows {h h' : Heap} {ks : List Str} {a : Addr} (g : grows h h') (x : (kd prog w).is h ks a) : (kd prog w).is h' ks a := by
  obtain ⟨o, items, n, h1, h2, h3, h4⟩ := x
  exact ⟨o, items, n, g _ _ h1, h2, h3, h4⟩
theorem dict_grows {h h' : Heap} {d : Addr} {xs : List (List Str × Addr × Value)} (g : grows h h') (x : h.DictOfH (kd prog w) d xs) : h'.DictOfH (kd prog w) d xs := by
  obtain ⟨o, es, ep, h1, h2, h3, h4, h5, h6⟩ := x
  exact ⟨o, es, ep, g _ _ h1, h2, h3, h4, fun y hy => isT_grows g (h5 y hy), h6⟩
theorem push_grows {h : Heap} {o : Obj} : grows h (h.push o) := fun _ _ e => Heap.get?_push_of_some _ e
theorem items_are : ∀ (t : Nat) (ss : List Str), ItemsAre (strKind prog w) ss (strsFrom t ss)
  | _, [] => .nil
  | t, s :: r => .cons (show Value.isStrOf s (.str s t) = true by simp [Value.isStrOf]) (items_are (t + 1) r)
theorem tupE_grows {ss : List Str} {x y : SharedT} (h : tupE ss x = some y) : grows x.abs.heap y.abs.heap := by
  have e := pushO_ok h
  rw [e]
  exact push_grows
theorem tupE_is {ss : List Str} {x y : SharedT} (h : tupE ss x = some y) : (kd prog w).is y.abs.heap ss x.n := by
  have e := pushO_ok h
  rw [e]
  refine ⟨tupO (strsFrom x.toks ss), (strsFrom x.toks ss).toArray, 0, ?_, rfl, rfl, by simpa using items_are x.toks ss⟩
  show ((tokO ss.length x).abs.heap.push (tupO (strsFrom x.toks ss))).get? x.n = _
  have z : (tokO ss.length x).abs.heap.objs.size = x.n := size_abs _
  rw [← z]
  exact Heap.get?_push_size _ rfl
/-- d[ks] = v, ks new, the key's tuple at a, its hash reckoned or known -/
def entO (hs : Int) (d a : Addr) (v : Value) (x : SharedT) : Option SharedT := setO d (Obj.mapDictKeys (·.push ⟨hs, .ref a, v⟩)) x
theorem find_none {d a : Addr} {xs : List (List Str × Addr × Value)} {ks : List Str} {s : Shared} {Q : Option Nat → Shared → Prop} (hu : A.units < cLine) (hkey : (kd prog w).is s.heap ks a) (hm : s.heap.DictOfH (kd prog w) d xs) (hn : ks ∉ xs.map (·.1)) (h : Q none s) :
    wpAny (model prog w) A (dictFind d (.ref a) ((kd prog w).hash ks)) Q E s := by
  obtain ⟨o, es, ep, ho, hc, hd, he, his, hnd⟩ := hm
  refine wpAny_dictFind_heap (knd := kd prog w) hu hkey ho hd he his hnd (fun _ => h) fun j p hj => ?_
  exact absurd (List.mem_map.mpr ⟨_, List.mem_of_getElem? hj, rfl⟩) hn
theorem ent_wp {part : Option Value} {d a : Addr} {xs : List (List Str × Addr × Value)} {ks : List Str} {v : Value} {x y : SharedT} {Q : Unit → Shared → Prop} (hkey : (kd prog w).is x.abs.heap ks a) (hm : x.abs.heap.DictOfH (kd prog w) d xs) (hn : ks ∉ xs.map (·.1)) (hz : xs.length ≤ 1000)
    (h : entO ((kd prog w).hash ks) d a v x = some y) (hQ : y.abs.heap.DictOfH (kd prog w) d (xs ++ [(ks, a, v)]) → Heap.SameBut d x.abs.heap y.abs.heap → Q () y.abs) :
    wpAny (model prog w) A (updateDictKeys d (·.push ⟨(kd prog w).hash ks, .ref a, v⟩) part) Q E x.abs := by
  obtain ⟨o, es, ep, ho, hc, hd, he, his, hnd⟩ := hm
  have e := setO_ok h
  refine wpAny_updateDictKeys (hz := by have e := size_of_entries he; rw [sizeLine_eq]; omega) ho hd ?_
  rw [e] at hQ
  refine hQ ⟨_, _, ep + 1, Heap.get?_update_self _ ho (Obj.isFreed_of_dict (Obj.data_mapDictKeys hd _)), hc.mapDictKeys _, Obj.data_mapDictKeys hd _, ?_, ?_, ?_⟩ (Heap.SameBut.update ..)
  · simp [he, entryOfKey]
  · intro z hz
    rcases List.mem_append.mp hz with hz | hz
    · exact (kd prog w).keeps (his z hz) ho hd (Heap.SameBut.update ..)
    · simp only [List.mem_singleton] at hz
      subst hz
      exact (kd prog w).keeps hkey ho hd (Heap.SameBut.update ..)
  · rw [List.map_append, List.nodup_append]
    refine ⟨hnd, by simp, ?_⟩
    intro z hz y hy
    simp only [List.map_cons, List.map_nil, List.mem_singleton] at hy
    subst hy
    exact fun e => hn (e ▸ hz)
/-- one pair of a display: both tuples, then the entry -/
def pairO (prog : Program) (w : World) (d : Addr) (p : List Str × List Str) (x : SharedT) : Option SharedT := match tupE p.1 x with
  | some x1 => (match tupE p.2 x1 with
    | some x2 => entO ((kd prog w).hash p.1) d x.n (.ref x1.n) (tokO (p.1.length + 1) x2)
    | none => none)
  | none => none
def pairsO (prog : Program) (w : World) (d : Addr) : List (List Str × List Str) → SharedT → Option SharedT
  | [], x => some x
  | p :: ps, x => (match pairO prog w d p x with
    | some y => pairsO prog w d ps y
    | none => none)
/-- an expression pair that is two tuples of texts -/
inductive IsPair : Expr × Expr → List Str × List Str → Prop where
  | mk {es fs : List Expr} {ks vs : List Str} {k1 k2 : Nat} {p1 p2 : Pos} (h1 : Texts es ks) (h2 : Texts fs vs) (l1 : ks.length ≤ 1000) (l2 : vs.length ≤ 1000) : IsPair (.Tuple es k1 p1, .Tuple fs k2 p2) (ks, vs)
inductive ArePairs : List (Expr × Expr) → List (List Str × List Str) → Prop where
  | nil : ArePairs [] []
  | cons {e : Expr × Expr} {p : List Str × List Str} {es : List (Expr × Expr)} {ps : List (List Str × List Str)} (i : IsPair e p) (t : ArePairs es ps) : ArePairs (e :: es) (p :: ps)
abbrev semP (env : Env) (pos : Pos) (p : Expr × Expr) : Sem Value × Sem Value := (eval p.1 env, do let x ← eval p.2 env; standAt pos; pure x)
theorem pair_wp {d : Addr} {xs : List (List Str × Addr × Value)} {e : Expr × Expr} {p : List Str × List Str} {pos : Pos} {x y : SharedT} {Q : Unit → Shared → Prop} (hu : A.units < cLine) (ip : IsPair e p) (hm : x.abs.heap.DictOfH (kd prog w) d xs) (hn : p.1 ∉ xs.map (·.1)) (hz : xs.length ≤ 1000)
    (h : pairO prog w d p x = some y) (hQ : ∀ v, y.abs.heap.DictOfH (kd prog w) d (xs ++ [(p.1, v)]) → Q () y.abs) :
    wpAny (model prog w) A (do let kv ← (semP env pos e).1; let vv ← holding [kv] (semP env pos e).2; holding [kv, vv] (dictSet d kv vv)) Q E x.abs := by
  obtain ⟨h1, h2, l1, l2⟩ := ip
  unfold pairO at h
  rename_i es fs ks vs k1 k2 p1 p2
  dsimp only at h
  cases q1 : tupE ks x with
  | none => rw [q1] at h; cases h
  | some x1 =>
    rw [q1] at h
    dsimp only at h
    cases q2 : tupE vs x1 with
    | none => rw [q2] at h; cases h
    | some x2 =>
      rw [q2] at h
      refine wpAny_bind (tup_wp (k := k1) h1 l1 q1 (wpAny_bind (wpAny_holding (wpAny_bind (tup_wp (k := k2) h2 l2 q2 (wpAny_bind (wpAny_standAt (wpAny_pure (wpAny_holding ?_)))))))))
      have g2 := tupE_grows q2
      have hkey : (kd prog w).is x2.abs.heap ks x.n := isT_grows g2 (tupE_is q1)
      have hm2 := dict_grows g2 (dict_grows (tupE_grows q1) hm)
      unfold dictSet
      refine wpAny_holding ?_
      refine wpAny_bind ((kd prog w).pyHash hu hkey ?_)
      unfold dictSetHashed
      refine wpAny_holding ?_
      refine wpAny_bind (find_none (s := { x2.abs with toks := x2.abs.toks + (kd prog w).draws ks }) hu hkey hm2 hn ?_)
      refine wpAny_bind (wpAny_rule ?_)
      show wpAny (model prog w) A _ _ _ (tokO (ks.length + 1) x2).abs
      exact ent_wp (x := tokO (ks.length + 1) x2) hkey hm2 hn hz h fun z _ => hQ _ z
theorem pairs_wp {d : Addr} {pos : Pos} : ∀ {es : List (Expr × Expr)} {ps : List (List Str × List Str)} {xs : List (List Str × Addr × Value)} {x y : SharedT} {Q : PUnit → Shared → Prop}, A.units < cLine → ArePairs es ps → x.abs.heap.DictOfH (kd prog w) d xs → (xs.map (·.1) ++ ps.map (·.1)).Nodup → xs.length + ps.length ≤ 1000 →
    pairsO prog w d ps x = some y → (∀ xs', xs'.map (·.1) = xs.map (·.1) ++ ps.map (·.1) → y.abs.heap.DictOfH (kd prog w) d xs' → Q ⟨⟩ y.abs) →
    wpAny (model prog w) A (forIn (es.map (semP env pos)) PUnit.unit fun (p : Sem Value × Sem Value) (_ : PUnit) => (do let kv ← p.1; let vv ← holding [kv] p.2; holding [kv, vv] (dictSet d kv vv); pure (ForInStep.yield PUnit.unit) : Sem (ForInStep PUnit))) Q E x.abs
  | [], _, xs, x, y, Q, hu, .nil, hm, hn, hz, h, hQ => by
    cases h
    simp only [List.map_nil, List.forIn_nil]
    exact wpAny_pure (hQ xs (by simp) hm)
  | e :: es, _, xs, x, y, Q, hu, .cons (p := p) (ps := ps) i t, hm, hn, hz, h, hQ => by
    unfold pairsO at h
    cases q : pairO prog w d p x with
    | none => rw [q] at h; cases h
    | some x1 =>
      rw [q] at h
      dsimp only at h
      simp only [List.length_cons] at hz
      have hk : p.1 ∉ xs.map (·.1) := fun z => by
        rw [List.nodup_append] at hn
        exact hn.2.2 p.1 z p.1 (by simp) rfl
      rw [List.map_cons, List.forIn_cons]
      have step := pair_wp (E := E) (env := env) (pos := pos) (Q := fun _ s' => wpAny (model prog w) A (forIn (es.map (semP env pos)) PUnit.unit fun (p : Sem Value × Sem Value) (_ : PUnit) => (do let kv ← p.1; let vv ← holding [kv] p.2; holding [kv, vv] (dictSet d kv vv); pure (ForInStep.yield PUnit.unit) : Sem (ForInStep PUnit))) Q E s') hu i hm hk (by omega) q fun v hm1 => by
        refine pairs_wp hu t hm1 ?_ (by simp; omega) h fun xs' e1 z => hQ xs' ?_ z
        · simpa using hn
        · rw [e1]; simp
      refine wpAny_bind ?_
      -- the turn, then the rest
      have e3 : (do let kv ← (semP env pos e).1; let vv ← holding [kv] (semP env pos e).2; holding [kv, vv] (dictSet d kv vv); pure (ForInStep.yield PUnit.unit) : Sem (ForInStep PUnit)) =
          ((do let kv ← (semP env pos e).1; let vv ← holding [kv] (semP env pos e).2; holding [kv, vv] (dictSet d kv vv) : Sem Unit) >>= fun _ => pure (ForInStep.yield PUnit.unit)) := by
        simp only [bind_assoc]
      rw [e3]
      exact wpAny_bind (wpAny_mono step (fun _ s' q => wpAny_pure q) fun _ _ z => z)
end
end HDK


set_option Elab.async false
set_option linter.all false
set_option maxRecDepth 100000
set_option maxHeartbeats 2000000
/-! VL16: a written dict of the module, its keys and values tuples of texts. -/
namespace VL
open PySem PySem.Spec PyProof.Rows L2 HDK
variable [TbP]
abbrev Tb := List (List Str × List Str)
inductive TabOk (K : Frag) : List (List Str × Addr × Value) → Tb → Prop where
  | nil : TabOk K [] []
  | cons {ks vs : List Str} {a T : Addr} {o : Obj} {its : Array Value} {n : Nat} {xs : List (List Str × Addr × Value)} {tb : Tb} (hT : K.lookup T = some o) (hc : o.cls = .type "tuple") (hd : o.data = .seq its n) (hz : its.size ≤ sizeLine) (hv : Vals (vs.map V.str) its.toList)
      (t : TabOk K xs tb) : TabOk K ((ks, a, .ref T) :: xs) ((ks, vs) :: tb)
structure TabT (P : Program) (w : World) (K : Frag) (mg : Str → Option Value) (x : Str) (tb : Tb) : Prop where
  ex : ∃ (d : Addr) (xs : List (List Str × Addr × Value)), mg x = some (.ref d) ∧ (d == sysModules) = false ∧ (∀ h : Heap, K.In h → h.DictOfH (kd P w) d xs) ∧ TabOk K xs tb
def tabAt (tb : Tb) (ks : List Str) : Option (List Str) := (tb.find? fun x => decide (x.1 = ks)).map (·.2)
theorem TabOk.at {K : Frag} {ks : List Str} : ∀ {xs : List (List Str × Addr × Value)} {tb : Tb}, TabOk K xs tb → (tabAt tb ks).isSome = (atKey xs ks).isSome ∧ ∀ vs, tabAt tb ks = some vs → ∃ a T, atKey xs ks = some (a, .ref T) ∧ ∀ H, SqT K H T (vs.map V.str)
  | _, _, .nil => ⟨rfl, fun vs h => by cases h⟩
  | _, _, .cons (ks := ks') (vs := us) (a := a) (T := T) (xs := xs) (tb := tb) hT hc hd hz hv t => by
    by_cases e : ks' = ks
    · have e1 : atKey ((ks', a, Value.ref T) :: xs) ks = some (a, Value.ref T) := by simp [atKey, e]
      have e2 : tabAt ((ks', us) :: tb) ks = some us := by simp [tabAt, e]
      rw [e1, e2]
      refine ⟨rfl, fun vs h => ?_⟩
      cases h
      exact ⟨_, T, rfl, fun H => .inr ⟨_, _, _, hT, hc, hd, hz, hv⟩⟩
    · have e1 : atKey ((ks', a, Value.ref T) :: xs) ks = atKey xs ks := by simp [atKey, e]
      have e2 : tabAt ((ks', us) :: tb) ks = tabAt tb ks := by simp [tabAt, e]
      rw [e2]
      have q := TabOk.at (ks := ks) t
      exact ⟨by rw [q.1, ← e1], fun vs h => by rw [e1]; exact q.2 vs h⟩
def strOf : D → Option Str
  | .str x => some x
  | _ => none
def strsOf : List D → Option (List Str)
  | [] => some []
  | d :: ds => match strOf d, strsOf ds with
    | some x, some xs => some (x :: xs)
    | _, _ => none
theorem strsOf_map : ∀ {ds : List D} {ks : List Str}, strsOf ds = some ks → ds = ks.map PyData.str
  | [], _, h => by cases h; rfl
  | d :: ds, _, h => by
    unfold strsOf at h
    cases q1 : strOf d with
    | none => rw [q1] at h; cases h
    | some x =>
      cases q2 : strsOf ds with
      | none => rw [q1, q2] at h; cases h
      | some xs =>
        rw [q1, q2] at h
        cases h
        rw [strsOf_map q2]
        cases d <;> first | cases q1 | skip
        rfl
theorem rpl_ts {K : Frag} {A : AS} {H : Hp} : ∀ {ks : List Str} {vs : List V}, RpL K A H (ks.map PyData.str) vs → vs = ks.map V.str
  | [], _, h => h.inv_nil
  | x :: ks, _, h => by
    obtain ⟨v, r, rfl, h1, h2⟩ := h.inv_cons
    have e : v = .str x := by simpa only [Rp] using h1
    rw [e, rpl_ts h2]
    rfl
theorem rpl_us {K : Frag} {A : AS} {H : Hp} : ∀ {ks : List Str}, RpL K A H (ks.map PyData.str) (ks.map V.str)
  | [] => .nil
  | x :: ks => .cons (by simp only [Rp]) rpl_us
/-- a key: a tuple of texts -/
def keyT : D → Option (List Str)
  | .tuple ds => strsOf ds
  | _ => none
theorem keyT_ok {K : Frag} {A : AS} {H : Hp} {d : D} {v : V} {ks : List Str} (e : keyT d = some ks) (h : Rq K A H d v) : ∃ t, v = .ref t ∧ SqT K H t (ks.map V.str) := by
  cases d with
  | tuple ds =>
    have e := strsOf_map e
    subst e
    obtain ⟨a, xs, rfl, l, r⟩ := h.tup
    rw [rpl_ts r] at l
    exact ⟨a, rfl, l⟩
  | _ => cases e
theorem items_of {P : Program} {w : World} : ∀ {ks : List Str} {us : List Value}, Vals (ks.map V.str) us → ItemsAre (strKind P w) ks us
  | [], _, h => by cases h; exact .nil
  | x :: ks, _, h => by
    cases h with
    | cons h1 h2 =>
      obtain ⟨t, rfl⟩ := h1
      exact .cons (show Value.isStrOf x (.str x t) = true by simp [Value.isStrOf]) (items_of h2)
section
variable {X : Cx} {W : WX} {tb : Tb} {x : Str} {d : Addr} {xs : List (List Str × Addr × Value)}
theorem key_is {pins : List (Addr × Obj)} {σ : L2.St} {H : Hp} {s : Shared} {t : Addr} {ks : List Str} (I : Inv X pins σ H s) (h : SqT X.K H t (ks.map V.str)) : (kd X.prog X.w).is s.heap ks t := by
  obtain ⟨its, r, ⟨o, e, c, n, dt⟩, _⟩ := I.tuple h
  exact ⟨o, its.toArray, n, e, c, dt, by simpa using items_of r⟩
def rNinT (K : Frag) (d : Addr) (xs : List (List Str × Addr × Value)) : R2 := fun x y H Q => ∃ t ks, x = .ref t ∧ y = .ref d ∧ SqT K H t (ks.map V.str) ∧ Q (.bl (!(atKey xs ks).isSome)) H
theorem op_ninT (hu : X.A.units + 1 < cLine) (hd : (d == sysModules) = false) (hm : ∀ h : Heap, X.K.In h → h.DictOfH (kd X.prog X.w) d xs) : OpR X (compareOp .NotIn) (rNinT X.K d xs) := by
  intro pins s σ H x y v u Q I rx ry h
  obtain ⟨t, ks, rfl, rfl, hs, q⟩ := h
  cases rx
  cases ry
  exact wpAny_notIn_heap (tupleKind_room_in1 hu) (key_is I hs) hd (hm _ I.kIn) ⟨.bl _, H, I.tok _, rfl, q⟩
def rIxT' (K : Frag) (d : Addr) (xs : List (List Str × Addr × Value)) : R2 := fun x y H Q => ∃ t ks a T, x = .ref d ∧ y = .ref t ∧ SqT K H t (ks.map V.str) ∧ atKey xs ks = some (a, .ref T) ∧ Q (.ref T) H
theorem ix_T (hu : X.A.units + 1 < cLine) (hm : ∀ h : Heap, X.K.In h → h.DictOfH (kd X.prog X.w) d xs) : IxR X (rIxT' X.K d xs) := by
  intro value slice pins s σ H x y v u Q I rx ry h hs
  obtain ⟨t, ks, a, T, rfl, rfl, hk, ha, q⟩ := h
  cases rx
  cases ry
  exact tail_any (hm _ I.kIn).typeIs slot_dict_getitem.lookup (wpAny_getItem_heap (tupleKind_room_in1 hu) (key_is I hk) (hm _ I.kIn) ha ⟨.ref T, H, I.tok _, rfl, q⟩) hs
def ninTG (tb : Tb) : G1 := fun z => match keyT z with
  | some ks => some (.sh (.bool (!(tabAt tb ks).isSome)))
  | none => none
def ixTG (tb : Tb) : G1 := fun z => match keyT z with
  | some ks => (tabAt tb ks).map fun vs => .sh (.tuple (vs.map PyData.str))
  | none => none
variable {a : Expr} {fa : EF} {pos p : Pos} {k : Nat}
/-- e not in x -/
theorem e_ninT (T : TabT X.prog X.w X.K X.mg x tb) (hr : Room k X.A) (ha : PE X a (tE (gd X W) fa)) (hg : Gl X x := by rfl) (hdb : (x == ("__debug__" : Str)) = false := by decide) :
    PE X (.Compare a [.NotIn] [.Name x p] pos) (tE (gd X W) (unF (ninTG tb) fa)) := by
  obtain ⟨d, xs, hm, hsy, hd, ok⟩ := T.ex
  refine PE.imp (pe_cmpR (op_ninT (room1 hr) hsy hd) ha (pe_glob (v := .ref d) hg hm rfl hdb) rfl) fun σ H Q h => ?_
  have h' := unF_sound (G := gd X W) (r := fun x H Q => rNinT X.K d xs x (.ref d) H Q) (fun A H y vy z Q hdm e hy q => by
    unfold ninTG at e
    cases q1 : keyT y with
    | none => rw [q1] at e; cases e
    | some ks =>
      rw [q1] at e
      cases e
      obtain ⟨t, rfl, hs⟩ := keyT_ok q1 hy
      exact ⟨t, ks, rfl, rfl, hs, by rw [← (ok.at (ks := ks)).1]; exact q _ _ (Same.refl H) rz_bl⟩) h
  exact h'
/-- x[e] -/
theorem e_ixT (T : TabT X.prog X.w X.K X.mg x tb) (hr : Room k X.A) (ha : PE X a (tE (gd X W) fa)) (hg : Gl X x := by rfl) (hs : PlainIx a := by intro _ _; rfl) (hdb : (x == ("__debug__" : Str)) = false := by decide) :
    PE X (.Subscript (.Name x p) a pos) (tE (gd X W) (unF (ixTG tb) fa)) := by
  obtain ⟨d, xs, hm, hsy, hd, ok⟩ := T.ex
  refine PE.imp (pe_ix (ix_T (room1 hr) hd) (pe_glob (v := .ref d) hg hm rfl hdb) ha hs) fun σ H Q h => ?_
  have h' := unF_sound (G := gd X W) (r := fun y H Q => rIxT' X.K d xs (.ref d) y H Q) (fun A H y vy z Q hdm e hy q => by
    unfold ixTG at e
    cases q1 : keyT y with
    | none => rw [q1] at e; cases e
    | some ks =>
      rw [q1] at e
      cases q2 : tabAt tb ks with
      | none => simp only [q2] at e; cases e
      | some vs =>
        simp only [q2] at e
        cases e
        obtain ⟨t, rfl, hs⟩ := keyT_ok q1 hy
        obtain ⟨a, T, e1, e2⟩ := (ok.at (ks := ks)).2 vs q2
        refine ⟨t, ks, a, T, rfl, rfl, hs, e1, q _ _ (Same.refl H) ?_⟩
        show Rp X.K A H (.tuple (vs.map PyData.str)) (.ref T)
        simp only [Rp]
        exact ⟨T, vs.map V.str, rfl, e2 H, rpl_us⟩) h
  exact h'
end
end VL


set_option Elab.async false
set_option linter.all false
set_option maxRecDepth 100000
set_option maxHeartbeats 2000000
/-! VL17: facts of a head: data of the module, the written dict, a Hook that tells them. -/
namespace VL
open PySem PySem.Spec PyProof.Rows L2 HDK
variable [TbP]
section
variable (K : Frag)
mutual
def gB : D → Value → Bool
  | .none, .none => true
  | .bool b, .bool c => b == c
  | .int i, .int j _ => decide (i = j)
  | .str x, .str y _ => decide (x = y)
  | .tuple ds, .ref T => (match K.lookup T with
    | some ⟨.type c, _, .seq its _, _⟩ => decide (c = "tuple") && (decide (its.size ≤ sizeLine) && gBL ds its.toList)
    | _ => false)
  | .list ds, .ref T => (match K.lookup T with
    | some ⟨.type c, none, .seq its _, _⟩ => decide (c = "list") && (decide (its.size ≤ sizeLine) && gBL ds its.toList)
    | _ => false)
  | _, _ => false
def gBL : List D → List Value → Bool
  | [], [] => true
  | d :: ds, v :: vs => gB d v && gBL ds vs
  | _, _ => false
end
end
section
variable {K : Frag}
mutual
theorem gB_ok : ∀ (d : D) (u : Value), gB K d u = true → ∃ v, RelV v u ∧ ∀ A H, Rp K A H d v
  | .none, u, h => by
    cases u <;> simp only [gB] at h <;> first | cases h | skip
    exact ⟨.non, rfl, fun A H => by simp only [Rp]⟩
  | .bool b, u, h => by
    cases u <;> simp only [gB] at h <;> first | cases h | skip
    rename_i c
    obtain rfl := eq_of_beq h
    exact ⟨.bl b, rfl, fun A H => by simp only [Rp]⟩
  | .int i, u, h => by
    cases u <;> simp only [gB] at h <;> first | cases h | skip
    rename_i j t
    obtain rfl := of_decide_eq_true h
    exact ⟨.int i, ⟨t, rfl⟩, fun A H => by simp only [Rp]⟩
  | .str x, u, h => by
    cases u <;> simp only [gB] at h <;> first | cases h | skip
    rename_i y t
    obtain rfl := of_decide_eq_true h
    exact ⟨.str x, ⟨t, rfl⟩, fun A H => by simp only [Rp]⟩
  | .tuple ds, u, h => by
    cases u <;> simp only [gB] at h <;> first | cases h | skip
    rename_i T
    cases q : K.lookup T with
    | none => rw [q] at h; cases h
    | some o =>
      obtain ⟨oc, od, dt, osl⟩ := o
      rw [q] at h
      cases oc <;> first | cases h | skip
      cases dt <;> first | cases h | skip
      rename_i c its n
      simp only [Bool.and_eq_true, decide_eq_true_eq] at h
      obtain ⟨h1, h2, h3⟩ := h
      obtain ⟨vs, r, a⟩ := gBL_ok ds its.toList h3
      refine ⟨.ref T, rfl, fun A H => ?_⟩
      simp only [Rp]
      exact ⟨T, vs, rfl, .inr ⟨_, its, n, q, congrArg Value.type h1, rfl, h2, r⟩, a A H⟩
  | .list ds, u, h => by
    cases u <;> simp only [gB] at h <;> first | cases h | skip
    rename_i T
    cases q : K.lookup T with
    | none => rw [q] at h; cases h
    | some o =>
      obtain ⟨oc, od, dt, osl⟩ := o
      rw [q] at h
      cases oc <;> cases od <;> cases dt <;> first | cases h | skip
      rename_i c its n
      simp only [Bool.and_eq_true, decide_eq_true_eq] at h
      obtain ⟨h1, h2, h3⟩ := h
      obtain ⟨vs, r, a⟩ := gBL_ok ds its.toList h3
      refine ⟨.ref T, rfl, fun A H => ?_⟩
      simp only [Rp]
      exact ⟨T, vs, rfl, .inr ⟨_, its, n, q, congrArg Value.type h1, rfl, rfl, h2, r⟩, a A H⟩
  | .dict kvs, u, h => by
    cases u <;> simp only [gB] at h <;> cases h
theorem gBL_ok : ∀ (ds : List D) (us : List Value), gBL K ds us = true → ∃ vs, Vals vs us ∧ ∀ A H, RpL K A H ds vs
  | [], us, h => by
    cases us <;> simp only [gBL] at h <;> first | cases h | skip
    exact ⟨[], .nil, fun A H => .nil⟩
  | d :: ds, us, h => by
    cases us with
    | nil => simp only [gBL] at h; cases h
    | cons u us =>
      simp only [gBL, Bool.and_eq_true] at h
      obtain ⟨v, r, a⟩ := gB_ok d u h.1
      obtain ⟨vs, rs, as⟩ := gBL_ok ds us h.2
      exact ⟨v :: vs, .cons r rs, fun A H => .cons (a A H) (as A H)⟩
end
end
/-- the module's name x stands for this datum -/
def glB (K : Frag) (p : Str × D) : Bool := match PySem.W.nsIn K mainGlobals p.1 with
  | some (some u) => gB K p.2 u
  | _ => false
theorem glB_ok {K : Frag} {h : Heap} {mg : Str → Option Value} {p : Str × D} (X : K.In h) (G : h.Ns mainGlobals mg) (c : glB K p = true) : GlD K mg p.1 p.2 := by
  unfold glB at c
  cases q : PySem.W.nsIn K mainGlobals p.1 with
  | none => rw [q] at c; cases c
  | some r =>
    cases r with
    | none => rw [q] at c; cases c
    | some u =>
      rw [q] at c
      obtain ⟨v, r, a⟩ := gB_ok _ _ c
      exact ⟨v, u, PySem.W.mg_of X G q, r, a⟩
/-! ### the written dict -/
def strsB : List Str → List Value → Bool
  | [], [] => true
  | x :: xs, .str y _ :: vs => decide (x = y) && strsB xs vs
  | _, _ => false
theorem strsB_ok : ∀ {xs : List Str} {vs : List Value}, strsB xs vs = true → Vals (xs.map V.str) vs
  | [], vs, h => by
    cases vs <;> simp only [strsB] at h <;> first | cases h | skip
    exact .nil
  | x :: xs, vs, h => by
    cases vs with
    | nil => simp only [strsB] at h; cases h
    | cons v vs =>
      cases v <;> simp only [strsB] at h <;> first | cases h | skip
      simp only [Bool.and_eq_true, decide_eq_true_eq] at h
      obtain ⟨rfl, h2⟩ := h
      exact .cons ⟨_, rfl⟩ (strsB_ok h2)
def tsB (K : Frag) (a : Addr) (ks : List Str) : Bool := match K.lookup a with
  | some ⟨.type c, _, .seq its _, _⟩ => decide (c = "tuple") && (decide (its.size ≤ sizeLine) && strsB ks its.toList)
  | _ => false
theorem tsB_ok {K : Frag} {a : Addr} {ks : List Str} (h : tsB K a ks = true) : ∃ (o : Obj) (its : Array Value) (n : Nat), K.lookup a = some o ∧ o.cls = .type "tuple" ∧ o.data = .seq its n ∧ its.size ≤ sizeLine ∧ Vals (ks.map V.str) its.toList := by
  unfold tsB at h
  cases q : K.lookup a with
  | none => rw [q] at h; cases h
  | some o =>
    obtain ⟨oc, od, dt, osl⟩ := o
    rw [q] at h
    cases oc <;> first | cases h | skip
    cases dt <;> first | cases h | skip
    rename_i c its n
    simp only [Bool.and_eq_true, decide_eq_true_eq] at h
    obtain ⟨h1, h2, h3⟩ := h
    exact ⟨_, its, n, rfl, congrArg Value.type h1, rfl, h2, strsB_ok h3⟩
def tabE (K : Frag) : Tb → List DictEntry → Bool
  | [], [] => true
  | (ks, vs) :: tb, ⟨_, .ref a, .ref T⟩ :: es => tsB K a ks && (tsB K T vs && tabE K tb es)
  | _, _ => false
theorem tabE_ok {P : Program} {w : World} {K : Frag} : ∀ {tb : Tb} {es : List DictEntry}, tabE K tb es = true → es.map (·.hash) = tb.map (fun p => (kd P w).hash p.1) →
    ∃ xs : List (List Str × Addr × Value), es = xs.map (entryOfKey (kd P w)) ∧ TabOk K xs tb ∧ (∀ x ∈ xs, ∀ h : Heap, K.In h → (kd P w).is h x.1 x.2.1) ∧ xs.map (·.1) = tb.map (·.1)
  | [], es, h, _ => by
    cases es <;> simp only [tabE] at h <;> first | cases h | skip
    exact ⟨[], rfl, .nil, (fun x hx => nomatch hx), rfl⟩
  | (ks, vs) :: tb, es, h, e => by
    cases es with
    | nil => simp only [tabE] at h; cases h
    | cons en es =>
      obtain ⟨hs, ky, vl⟩ := en
      cases ky <;> cases vl <;> simp only [tabE] at h <;> first | cases h | skip
      rename_i a T
      simp only [Bool.and_eq_true] at h
      simp only [List.map_cons, List.cons.injEq] at e
      obtain ⟨h1, h2, h3⟩ := h
      obtain ⟨xs, e1, t, k, e2⟩ := tabE_ok h3 e.2
      obtain ⟨o, its, n, l, c, dt, z, v⟩ := tsB_ok h1
      obtain ⟨o', its', n', l', c', dt', z', v'⟩ := tsB_ok h2
      refine ⟨(ks, a, .ref T) :: xs, ?_, .cons l' c' dt' z' v' t, fun x hx => ?_, by simp [e2]⟩
      · rw [List.map_cons, ← e1]
        unfold entryOfKey
        rw [e.1]
      · rcases List.mem_cons.mp hx with rfl | hx
        · exact fun h X => ⟨o, its, n, X a o l, c, dt, items_of v⟩
        · exact k x hx
def keysNd : List (List Str) → Bool
  | [] => true
  | a :: l => l.all (fun b => !(a == b)) && keysNd l
theorem keysNd_ok : ∀ {l : List (List Str)}, keysNd l = true → l.Nodup
  | [], _ => .nil
  | a :: l, h => by
    obtain ⟨h1, h2⟩ := Bool.and_eq_true_iff.mp h
    refine List.nodup_cons.mpr ⟨fun z => ?_, keysNd_ok h2⟩
    have := List.all_eq_true.mp h1 a z
    simp at this
def tabB (K : Frag) (x : Str) (tb : Tb) : Bool := match PySem.W.nsIn K mainGlobals x with
  | some (some (.ref d)) => !(d == sysModules) && (match K.lookup d with
    | some ⟨.type c, none, .dict es _, sl⟩ => decide (c = "dict") && (decide (sl.size = 0) && (tabE K tb es.toList && keysNd (tb.map (·.1))))
    | _ => false)
  | _ => false
def tabH (K : Frag) (x : Str) : List Int := match PySem.W.nsIn K mainGlobals x with
  | some (some (.ref d)) => (match K.lookup d with
    | some ⟨_, _, .dict es _, _⟩ => es.toList.map (·.hash)
    | _ => [])
  | _ => []
theorem tab_ok {P : Program} {w : World} {K : Frag} {h : Heap} {mg : Str → Option Value} {x : Str} {tb : Tb} (X : K.In h) (G : h.Ns mainGlobals mg) (c : tabB K x tb = true) (e : tabH K x = tb.map fun p => (kd P w).hash p.1) : TabT P w K mg x tb := by
  unfold tabB at c
  unfold tabH at e
  cases q : PySem.W.nsIn K mainGlobals x with
  | none => rw [q] at c; cases c
  | some r =>
    cases r with
    | none => rw [q] at c; cases c
    | some u =>
      rw [q] at c e
      cases u <;> first | cases c | skip
      rename_i d
      obtain ⟨c1, c2⟩ := Bool.and_eq_true_iff.mp c
      dsimp only at e
      cases q2 : K.lookup d with
      | none => rw [q2] at c2; cases c2
      | some o =>
        obtain ⟨oc, od, dt, osl⟩ := o
        rw [q2] at c2 e
        cases oc <;> cases od <;> cases dt <;> first | cases c2 | skip
        rename_i cc es ep
        simp only [Bool.and_eq_true, decide_eq_true_eq] at c2
        obtain ⟨k1, k2, k3, k4⟩ := c2
        obtain ⟨xs, e1, t, k, e2⟩ := tabE_ok (P := P) (w := w) k3 e
        exact ⟨d, xs, PySem.W.mg_of X G q, by simpa using c1, fun h X => ⟨_, es, ep, X d _ q2, ⟨congrArg Value.type k1, rfl, Array.eq_empty_of_size_eq_zero k2⟩, rfl, e1, fun x hx => k x hx h X, by rw [e2]; exact keysNd_ok k4⟩, t⟩
/-! ### the Hook -/
def refsX (o : Obj) : List Addr := He.refsD o ++ match o.data with
  | .dict es _ => es.toList.flatMap fun e => He.refV e.key
  | _ => []
def growX (g : Addr → Option Obj) (as : List Addr) : List Addr := (as ++ as.flatMap fun a => match g a with
  | some o => refsX o
  | none => []).eraseDups
def asX (g : Addr → Option Obj) : Nat → List Addr
  | 0 => [mainGlobals]
  | n + 1 => growX g (asX g n)
/-- what a head looks at: names and built-ins, defs, data, the written dict -/
structure Wd where
  fa : List He.Fa
  fn : List He.DefD
  gl : List (Str × D)
  tx : Str
  tb : Tb
abbrev AlX : Type := He.AlD × Bool × Bool × List Int
def obsK (z : Wd) (K : Frag) : AlX := (He.obsD z.fa z.fn K, z.gl.all (glB K), tabB K z.tx z.tb, tabH K z.tx)
def valX (P : Program) (z : Wd) (w : World) : AlX := (He.valD z.fn, true, true, z.tb.map fun p => (kd P w).hash p.1)
def obsX (n : Nat) (z : Wd) (g : Addr → Option Obj) : AlX := obsK z (He.frG g (asX g n))
def hookX (n : Nat) (P : Program) (z : Wd) : PySem.W.Hook where
  α := AlX
  obs := fun s => obsX n z s.heap.get?
  val := valX P z
  says := fun w h => ∃ K : Frag, K.In h ∧ obsK z K = valX P z w
  of := fun _ _ e => ⟨_, He.frG_in, e⟩
  keeps := fun _ _ _ ⟨K, hK, c⟩ k => ⟨K, PySem.W.Frag.In.keeps hK k, c⟩
theorem obsX_eq {n : Nat} {P : Program} {z : Wd} {g : Addr → Option Obj} {s : Shared} (h : ∀ a, g a = s.heap.get? a) : obsX n z g = (hookX n P z).obs s := by
  have e : g = s.heap.get? := funext h
  rw [e] <;> rfl
structure SaysX (P : Program) (z : Wd) (w : World) (K : Frag) : Prop where
  d : He.SaysD z.fa z.fn K
  g : ∀ p ∈ z.gl, glB K p = true
  t : tabB K z.tx z.tb = true
  h : tabH K z.tx = z.tb.map fun p => (kd P w).hash p.1
theorem says_of {P : Program} {z : Wd} {w : World} {K : Frag} (e : obsK z K = valX P z w) : SaysX P z w K := by
  have e1 : He.obsD z.fa z.fn K = He.valD z.fn := congrArg (fun a : AlX => a.1) e
  have e2 : z.gl.all (glB K) = true := congrArg (fun a : AlX => a.2.1) e
  have e3 : tabB K z.tx z.tb = true := congrArg (fun a : AlX => a.2.2.1) e
  have e4 : tabH K z.tx = z.tb.map fun p => (kd P w).hash p.1 := congrArg (fun a : AlX => a.2.2.2) e
  exact ⟨e1, fun p hp => List.all_eq_true.mp e2 p hp, e3, e4⟩
section
variable {P : Program} {z : Wd} {w : World} {K : Frag} {h : Heap} {mg : Str → Option Value}
theorem SaysX.here (s : SaysX P z w K) (X : K.In h) (G : h.Ns mainGlobals mg) (i j : Nat) {x : Str} {st : Stmt} {ps : List Str} 
    (b : ∀ (kV doc pm : Value) (an : Option Addr) (cdv ct : Value) (us : List Value), us.length = ps.length → bindArgs (PySem.W.fnOf x x (defArgs st) (defBody st) (defScope st) .none kV doc pm an cdv ct) ⟨us, []⟩ = pure (ps.zip us)) (e1 : z.fn[i]? = some ⟨(x, none), x, x, defArgs st, defBody st, defScope st, [], []⟩ := by rfl) (e2 : z.fa[j]? = some (.glo x) := by rfl) : HereG K mg x st ps := by
  obtain ⟨fd, F⟩ := s.d.def_ i e1
  exact HereG.of (He.glo_ok X G (s.d.fact j e2)) F b
theorem SaysX.free (s : SaysX P z w K) (X : K.In h) (G : h.Ns mainGlobals mg) (j : Nat) {x : Str} (e : z.fa[j]? = some (.free x) := by rfl) : mg x = none := He.free_ok X G (s.d.fact j e)
theorem SaysX.gl (s : SaysX P z w K) (X : K.In h) (G : h.Ns mainGlobals mg) (j : Nat) {x : Str} {d : D} (e : z.gl[j]? = some (x, d) := by rfl) : GlD K mg x d := glB_ok (p := (x, d)) X G (s.g _ (List.mem_of_getElem? e))
theorem SaysX.tab (s : SaysX P z w K) (X : K.In h) (G : h.Ns mainGlobals mg) : TabT P w K mg z.tx z.tb := tab_ok X G s.t s.h
end
end VL
namespace VL
open PySem PySem.Spec PyProof.Rows L2
variable [TbP]
/-- a comprehension inside another -/
def envS (sc : Scope) : Env := { scope := sc, locals := 0, globals := 0, cells := [] }
theorem relabel_envS (outer : Scope) (env : Env) : relabel outer env = relabel outer (envS env.scope) := rfl
theorem blkN {X : Cx} {s : Shared} {H : Hp} {outer scope sc0 : Scope} {C : Addr} {cl : List (Str × Addr)} {fp : List Addr} {N : List Str} {own : List (Str × Nat)} (e : X.N = N) (e0 : X.env.scope = sc0) (h : BlkOk N (relabel outer (envS sc0)) scope own) :
    BlkOk (X.blk s H outer (compEnvC outer cl C X.env) fp).N (X.blk s H outer (compEnvC outer cl C X.env) fp).env.scope scope own := by
  subst e e0
  exact h
theorem t_ninT {X : Cx} {W : WX} {tb : Tb} {x : Str} {a : Expr} {fa : EF} {pos p : Pos} {k : Nat} (T : TabT X.prog X.w X.K X.mg x tb) (hr : Room k X.A) (ha : PE X a (tE (gd X W) fa)) (hg : Gl X x := by rfl) (hdb : (x == ("__debug__" : Str)) = false := by decide) :
    PT X (.Compare a [.NotIn] [.Name x p] pos) (tT (gd X W) (boolF (unF (ninTG tb) fa))) := by
  obtain ⟨d, xs, hm, hsy, hd, ok⟩ := T.ex
  refine PT.imp (pt_cmpR (op_ninT (room1 hr) hsy hd) ha (pe_glob (v := .ref d) hg hm rfl hdb) rfl) fun σ H Q h => ?_
  have h' := unF_sound (G := gd X W) (r := fun x H Q => rNinT X.K d xs x (.ref d) H Q) (fun A H y vy z Q hdm e hy q => by
    unfold ninTG at e
    cases q1 : keyT y with
    | none => rw [q1] at e; cases e
    | some ks =>
      rw [q1] at e
      cases e
      obtain ⟨t, rfl, hs⟩ := keyT_ok q1 hy
      exact ⟨t, ks, rfl, rfl, hs, by rw [← (ok.at (ks := ks)).1]; exact q _ _ (Same.refl H) rz_bl⟩) (boolF_sound h)
  exact h'
end VL


set_option Elab.async false
set_option linter.all false
set_option maxRecDepth 100000
set_option maxHeartbeats 2000000
/-! VL18: a law's end. -/
namespace VL
open PySem PySem.Spec PyProof.Rows L2
variable [TbP]
theorem rpl_intsV {K : Frag} {A : AS} {H : Hp} : ∀ {ns : List Int}, RpL K A H (ns.map PyData.int) (ns.map V.int)
  | [] => .nil
  | n :: ns => .cons (by simp only [Rp]) rpl_intsV
/-- what the law's def is handed -/
theorem sp_law {K : Frag} {mg : Str → Option Value} {F : FD} {H : Hp} {a : Addr} {ns : List Int} {E : XK} (hO : Only H) (hS : SqL K H a (ns.map V.int)) {own : Bool} {ss : En} (h : F [.sh (.list (ns.map PyData.int))] = .ret own (.bool true) ss) (hT : TbP.T = []) :
    spF K mg F [.ref a] H (fun v _ => v = .bl true) E := by
  have hR : Rp K (fun b => H b ≠ none) H (.list (ns.map PyData.int)) (.ref a) := by
    simp only [Rp]
    refine ⟨a, ns.map V.int, rfl, ?_, rpl_intsV⟩
    rcases hS with hS | hS
    · refine .inl ⟨?_, hS⟩
      rcases hS with hS | ⟨o, hS⟩ <;> (rw [hS]; simp)
    · exact .inr hS
  have rel : Rel K (fun b => H b ≠ none) ([V.ref a].map some) H ([Ag.sh (.list (ns.map PyData.int))].map Ag.sl) := by
    have only0 : ∀ {i : Nat} {s : Sl}, ([Ag.sh (.list (ns.map PyData.int))].map Ag.sl)[i]? = some s → i = 0 ∧ s = .sh (.list (ns.map PyData.int)) := fun {i s} e => by
      cases i with
      | zero => exact ⟨rfl, (Option.some.inj e).symm⟩
      | succ j => cases e
    refine ⟨rfl, fun i d e => ?_, fun i d e => ?_, fun i j b h1 h2 => ?_, fun b hb => hb, fun i d e => ?_, fun p hp => by rw [hT] at hp; cases hp⟩
    · rcases e with e | e
      · obtain ⟨rfl, e2⟩ := only0 e
        cases e2
        exact ⟨.ref a, rfl, hR⟩
      · cases (only0 e).2
    · rcases e with e | e <;> cases (only0 e).2
    · obtain ⟨⟨d, e | e⟩, _⟩ := h1 <;> cases (only0 e).2
    · cases (only0 e).2
  refine ⟨fun b => H b ≠ none, [.sh (.list (ns.map PyData.int))], rel, ?_⟩
  rw [h]
  intro A' H' v _ hv
  cases own with
  | false => simpa only [ResOk, Rp] using hv
  | true =>
    obtain ⟨b, _, _, _, _, ob⟩ := hv
    exact ob.elim
/-- a law's call, from such a promise -/
theorem lawG' {P : Program} {w : World} {K : Frag} {mg mb : Str → Option Value} {k : Nat} {fa a : Addr} {x : Str} {F : FD} {s₁ : Shared} {vs : List Value} {ns : List Int}
    (KX : K.In s₁.heap) (hns : s₁.heap.Ns mainGlobals mg) (hb : s₁.heap.Ns builtinsNs mb) (hbb : ∀ x : Str, x ≠ "__name__" → mb x = bootBuiltins x) (hlim : s₁.heap.NoLimit) (hg : s₁.gens = #[])
    (ha : s₁.heap.get? a = some { cls := .type "list", data := .seq vs.toArray }) (hi : IntsAre vs ns) (hl : ns.length ≤ sizeLine) (hr : Room k callerA)
    (hm : mg x = some (.ref fa)) (D : ∀ base : Heap, K.In base → base.Ns mainGlobals mg → DefG P w K mg base k x 1 F)
    (hsp : ∀ H : Hp, Only H → SqL K H a (ns.map V.int) → spF K mg F [.ref a] H (fun v _ => v = .bl true) fun _ _ _ => False) :
    codeAny (model P w) callerA (.call (.ref fa) ⟨[.ref a], []⟩) (fun r s' => r = .ok (.ret (.bool true)) ∧ OldK s₁.heap s'.heap ∧ s'.os = s₁.os ∧ AllBare s'.gens) s₁ := by
  let oL : Obj := { cls := .type "list", data := .seq vs.toArray }
  have fin : ∀ H : Hp, (∀ b u, H b = some u → b = a ∧ K.lookup a = none ∧ u = .frz oL (.lst (ns.map V.int))) → SqL K H a (ns.map V.int) →
      codeAny (model P w) callerA (.call (.ref fa) ⟨[.ref a], []⟩) (fun r s' => r = .ok (.ret (.bool true)) ∧ OldK s₁.heap s'.heap ∧ s'.os = s₁.os ∧ AllBare s'.gens) s₁ := by
    intro H hH hS
    have notA : ∀ {b : Addr} {o : Obj}, s₁.heap.get? b = some o → (K.lookup b = some o ∨ ∃ es ep, o.data = .dict es ep) → H b = none := fun {b o} e d => by
      cases q : H b with
      | none => rfl
      | some u =>
        obtain ⟨e1, e2, _⟩ := hH b u q
        rw [e1] at d e
        rcases d with d | ⟨es, ep, d⟩
        · rw [e2] at d; cases d
        · rw [ha] at e; cases e; cases d
    have ns_of : ∀ {b : Addr} {m : Str → Option Value}, s₁.heap.Ns b m → (hidT s₁.heap H).Ns b m := fun ⟨o, es, ep, e, d, r⟩ => ⟨o, es, ep, hidT_get e (notA e (.inr ⟨es, ep, d⟩)), d, r⟩
    have kin : K.In (hidT s₁.heap H) := fun b o e => hidT_get (KX b o e) (notA (KX b o e) (.inl e))
    have only : Only H := fun b => by
      cases q : H b with
      | none => exact .inl rfl
      | some u => exact .inr ⟨_, _, congrArg some (hH b u q).2.2⟩
    have hok : HOk P w H s₁.heap := fun b u z => by
      obtain ⟨rfl, _, rfl⟩ := hH b u z
      exact ⟨ha, by rw [List.length_map]; exact hl, vs, _, vals_ints hi, ha⟩
    have hM : Mod K mg (hidT s₁.heap H) := ⟨kin, ns_of hns, ⟨mb, ns_of hb, hbb⟩, hlim.elim fun mc z => ⟨mc, ns_of z.1, z.2⟩⟩
    have e0 : Env0 P w K mg (hidT s₁.heap H) callerA [] s₁ H := ⟨rfl, hM, fun _ _ e => of_hidT e, Nat.le_of_eq (hidT_size _ _), trivial, (fun b hb => by cases hb), hok, .of_eq hg⟩
    obtain ⟨f0, fd, ps, FG, hm0, _, hb, hl1⟩ := (D _ kin (ns_of hns)).ex
    rw [hm] at hm0
    cases hm0
    have bnd := hb s₁ [.ref a] KX (by simpa using hl1.symm)
    refine codeAny_mono (FG.run callerA [] s₁ H ⟨[.ref a], []⟩ [.ref a] [.ref a] _ _ hr rfl e0 bnd (.cons rfl .nil) (hsp H only hS)) fun r s' h => ?_
    cases r with
    | error e => obtain ⟨_, _, _, _, _, _, _, _, _, _, _, _, z⟩ := h; exact z.elim
    | ok fl =>
      cases fl with
      | next => exact False.elim h
      | brk => exact False.elim h
      | cont => exact False.elim h
      | ret u =>
        obtain ⟨v, H', os, bare, un, hok', r', q⟩ := h
        have q : v = V.bl true := q
        subst q
        obtain rfl : u = Value.bool true := r'
        refine ⟨rfl, OldK.of_keep fun b o e => ?_, os, bare⟩
        cases q : H b with
        | none => exact un.keep b o e q (by intro z; cases z) (by simp)
        | some u =>
          obtain ⟨_, _, rfl⟩ := hH b u q
          have e1 := (hok b _ q).1
          rw [e] at e1
          cases e1
          exact (hok' b _ (un.frzs b _ _ q)).1
  cases hk : K.lookup a with
  | some o =>
    have e := KX a o hk
    rw [ha] at e
    cases e
    exact fin (fun _ => none) (fun _ _ z => by cases z) (.inr ⟨_, vs.toArray, _, hk, rfl, rfl, rfl, by rw [List.size_toArray, hi.length]; exact hl, vals_ints hi⟩)
  | none =>
    refine fin (fun b => if b = a then some (.frz oL (.lst (ns.map V.int))) else none) (fun b u z => ?_) (.inl (.inr ⟨oL, if_pos rfl⟩))
    by_cases hb : b = a
    · rw [if_pos hb] at z; cases z; exact ⟨hb, hk, rfl⟩
    · rw [if_neg hb] at z; cases z
theorem law_end {l : PySem.W.OpenLaw} {n k m : Nat} {q P : Program} {loose : List Str} {d : DefRec} {Z : Wd} {F : FD}
    (hn : l.most = some n) (hn2 : n ≤ sizeLine) (hdf : d.params.defaults = []) (hr : Room k callerA) (hname : d.name = ("law" : Str))
    (D : ∀ (w : World) (K : Frag) (mg : Str → Option Value) (h : Heap), K.In h → h.Ns mainGlobals mg → SaysX P Z w K → ∀ base : Heap, DefG l.prog w K mg base k "law" 1 F)
    (hF : ∀ ns : List Int, ns.length ≤ n → ∃ own ss, F [.sh (.list (ns.map PyData.int))] = .ret own (.bool true) ss) (hT : TbP.T = [] := by rfl) :
    PySem.W.WalkO q loose (PySem.W.XL q []) (hookX m P Z).says l.row.toRowW d [] (fun f vs => PySem.call f vs) :=
  Att.attach_call hn hdf fun w _ s₁ mg _ fa _ _ _ _ a vs ns G Y _ _ _ hmg hobj hints hlen hg => by
    obtain ⟨K, KX, e⟩ := Y
    have S := says_of e
    obtain ⟨f0, fd0, ps0, FG0, hm0, hk0, hb0, hl0⟩ := (D w K mg _ KX G.T.g S s₁.heap).ex
    rw [hname, hm0] at hmg
    cases hmg
    refine lawG' KX G.T.g G.T.b G.T.builtins G.T.nolimit hg hobj hints (Nat.le_trans hlen hn2) hr hm0 (fun base hB hN => (D w K mg _ KX G.T.g S base)) fun H hO hS => ?_
    obtain ⟨own, ss, hF⟩ := hF ns hlen
    exact sp_law hO hS hF hT
end VL


set_option Elab.async false
set_option linter.all false
set_option maxRecDepth 100000
set_option maxHeartbeats 2000000
/-! VL19: t[::-1] of a tuple; a, b, .. = a list. -/
namespace VL
open PySem PySem.Spec PyProof.Rows L2 HT
variable [TbP]
section
variable {prog : Program} {w : World} {A : Around} {E : Value → Shared → Prop} {s : Shared}
theorem fm_map {α β : Type} {f : α → Option β} {g : α → β} : ∀ {l : List α}, (∀ x ∈ l, f x = some (g x)) → l.filterMap f = l.map g
  | [], _ => rfl
  | a :: l, h => by
    rw [List.filterMap_cons, h a List.mem_cons_self]
    simp only [List.map_cons]
    rw [fm_map fun x hx => h x (List.mem_cons_of_mem _ hx)]
theorem adjust_rev (n : Nat) : Builtin.Slice.sliceAdjust none none (-1) (n : Int) = ((n : Int) - 1, -1) := by
  unfold Builtin.Slice.sliceAdjust
  simp
theorem places_rev (n : Nat) : Builtin.Slice.slicePlaces ((n : Int) - 1) (-1) (-1) = n := by
  unfold Builtin.Slice.slicePlaces
  have h1 : ¬ ((-1 : Int) > 0) := by omega
  rw [if_neg h1]
  by_cases h : (n : Int) - 1 > -1
  · rw [if_pos h]
    have : ((n : Int) - 1 - -1 - 1) / (- -1) = (n : Int) - 1 := by
      rw [show (- -1 : Int) = 1 by omega, Int.ediv_one]; omega
    rw [this]; omega
  · rw [if_neg h]; omega
theorem pick_rev (xs : Array Value) : ((List.range xs.size).filterMap fun (m : Nat) => xs[(((xs.size : Int) - 1) + (m : Int) * (-1)).toNat]?).toArray = xs.toList.reverse.toArray := by
  congr 1
  refine List.ext_getElem? fun i => ?_
  have e : (List.range xs.size).filterMap (fun (m : Nat) => xs[(((xs.size : Int) - 1) + (m : Int) * (-1)).toNat]?) = (List.range xs.size).map (fun m => xs.toList.reverse.getD m .none) := by
    refine fm_map fun m hm => ?_
    have hm := List.mem_range.mp hm
    have e1 : (((xs.size : Int) - 1) + (m : Int) * (-1)).toNat = xs.size - 1 - m := by omega
    rw [e1]
    have h2 : xs.size - 1 - m < xs.size := by omega
    rw [Array.getElem?_eq_getElem h2]
    simp [List.getD, List.getElem?_reverse, hm, h2]
  rw [e]
  by_cases h : i < xs.size
  · simp [h, List.getD]
  · simp [h]
theorem applied_rev {sl : Addr} {vs : Value} {n : Nat} {Q : Int × Int × Nat → Shared → Prop} (hs : s.heap.IsSliceOf sl .none .none vs) (ps : IsPart vs (some (-1)))
    (h : Q ((n : Int) - 1, -1, n) s) : wpAny (model prog w) A (Builtin.Slice.sliceApplied (.ref sl) (pure (n : Int))) Q E s := by
  obtain ⟨os, hos, hcs, hds⟩ := id hs
  unfold Builtin.Slice.sliceApplied Builtin.Slice.sliceFields
  refine wpAny_bind (wpAny_bind (wpAny_field hos hds (x := .none) rfl (wpAny_bind (wpAny_field hos hds (x := .none) rfl (wpAny_bind (wpAny_field hos hds (x := vs) rfl (wpAny_pure ?_)))))))
  refine wpAny_bind (slicePart_ ps ?_)
  show wpAny _ _ (if ((-1 : Int) == 0) = true then _ else _) _ _ s
  rw [if_neg (by decide)]
  refine wpAny_bind (slicePart_ .none (wpAny_bind (slicePart_ .none (wpAny_bind (wpAny_pure ?_)))))
  show wpAny _ _ (match Builtin.Slice.sliceAdjust none none (-1) (n : Int) with | (lo, hi) => pure (lo, (-1 : Int), Builtin.Slice.slicePlaces lo hi (-1))) _ _ s
  rw [adjust_rev n]
  show wpAny _ _ (pure ((n : Int) - 1, (-1 : Int), Builtin.Slice.slicePlaces ((n : Int) - 1) (-1) (-1))) _ _ s
  rw [places_rev]
  exact wpAny_pure h
theorem getItem_tuple_rev {t sl : Addr} {items : Array Value} {vs : Value} {Q : Value → Shared → Prop} (ht : IsTup s.heap t items) (hs : s.heap.IsSliceOf sl .none .none vs) (ps : IsPart vs (some (-1)))
    (h : Q (.ref s.heap.objs.size) { s with heap := s.heap.push { cls := .type "tuple", data := .seq items.toList.reverse.toArray } })
    (hsz : items.size ≤ sizeLine) : wpAny (model prog w) A (getItem (.ref t) (.ref sl)) Q E s := by
  have htake : sizeOk (.seq items.toList.reverse.toArray) := by
    show items.toList.reverse.toArray.size ≤ sizeLine
    simpa using hsz
  obtain ⟨os, hos, hcs, hds⟩ := id hs
  have hTs : s.TypeIs (.ref sl) "slice" := ⟨os, hos, hcs⟩
  unfold getItem
  try with_reducible refine wpAny_holding ?_
  first | refine wpAny_bind (wpAny_pure ?_) | skip
  refine wpAny_bind (wpAny_sequenceKey ht.typeIs (by decide) ?_)
  refine wpAny_bind (wpAny_callSpecial?_slot (name := Str.ofString "__getitem__") ht.typeIs PyProof.Rows.slot_tuple_getitem
    (wpAny_call_entry PyProof.Rows.slot_tuple_getitem ht.typeIs entry_tuple_getitem ?_ (args_tuple_getitem _ _)))
  show wpAny _ _ (Builtin.Tuple.tupleItemsOf (.ref t) >>= _) _ _ s
  refine wpAny_bind (tupleItemsOf_ ht ?_)
  refine wpAny_bind (wpAny_typeOf hTs ?_)
  rw [if_pos (by decide)]
  refine wpAny_bind (applied_rev hs ps ?_)
  have hno : ¬ ((((items.size : Int) - 1) == 0 && (-1 : Int) == 1 && items.size == items.size) = true) := by simp
  show wpAny _ _ (if (((items.size : Int) - 1) == 0 && (-1 : Int) == 1 && items.size == items.size) = true then _ else _) _ _ s
  rw [if_neg hno, pick_rev]
  first
    | exact wpAny_bind (m := Builtin.Tuple.tupleExact _) (wpAny_newObj_type (wpAny_pure ⟨_, rfl, wpAny_pure h⟩) htake)
    | exact wpAny_bind (m := Builtin.Tuple.tupleExact _) (wpAny_newObj_type (wpAny_bind (wpAny_pure (wpAny_pure ⟨_, rfl, wpAny_pure h⟩))) htake)
    | exact wpAny_bind (wpAny_bind (m := Builtin.Tuple.tupleExact _) (wpAny_newObj_type (wpAny_pure (wpAny_pure ⟨_, rfl, wpAny_pure h⟩)) htake))
    | exact wpAny_bind (wpAny_bind (m := Builtin.Tuple.tupleExact _) (wpAny_newObj_type (wpAny_pure ⟨_, rfl, wpAny_pure h⟩) htake))
end
/-! ### t[::-1] -/
def tRevT (K : Frag) (te : TE) : TE := fun σ H Q => te σ H fun x H1 => ∃ a xs, x = .ref a ∧ SqT K H1 a xs ∧ ∀ p, H1 p = none → Q (.ref p) (upd H1 p (.tup xs.reverse))
def tRev2 (K : Frag) (te : TE) : TE := fun σ H Q => te σ H fun x H1 => (∃ a xs, x = .ref a ∧ SqL K H1 a xs ∧ ∀ p, H1 p = none → Q (.ref p) (upd H1 p (.lst xs.reverse))) ∨ ∃ a xs, x = .ref a ∧ SqT K H1 a xs ∧ ∀ p, H1 p = none → Q (.ref p) (upd H1 p (.tup xs.reverse))
section
variable {X : Cx}
theorem pe_rev2 {e : Expr} {te : TE} {k : Nat} {p1 p2 p3 pos : Pos} (he : PE X e te) : PE X (.Subscript e (.Slice none none (some (.UnaryOp .USub (.Constant (.int 1) k p1) p2)) p3) pos) (tRev2 X.K te) := by
  refine ⟨fun pins s σ H Q I h => ?_⟩
  refine Subscript_ (thn (he.run pins s σ H _ I h) fun v s1 ⟨x, H1, I1, r1, q1⟩ => ?_)
  obtain ⟨a, ea⟩ : ∃ a, x = .ref a := by
    rcases q1 with ⟨a, _, e, _⟩ | ⟨a, _, e, _⟩ <;> exact ⟨a, e⟩
  subst ea
  cases r1
  have hst : PO X (some (.UnaryOp .USub (.Constant (.int 1) k p1) p2)) (tPart (tUn (rU fun i => .int (-i)) (tC (.int 1)))) := po_some (pe_un un_neg pe_int)
  refine wpAny_Slice (thn (po_none.run pins s1 σ H1 (fun o H2 => o = none ∧ H2 = H1) I1 ⟨rfl, rfl⟩) fun vl s2 ⟨l, H2, I2, pl, el, e2⟩ => ?_)
  subst el e2
  refine thn (po_none.run pins s2 σ H2 (fun o H3 => o = none ∧ H3 = H2) I2 ⟨rfl, rfl⟩) fun vu s3 ⟨u, H3, I3, pu, eu, e3⟩ => ?_
  subst eu e3
  refine thn (hst.run pins s3 σ H3 (fun o H4 => o = some (-1) ∧ H4 = H3) I3 ⟨1, rfl, -1, rfl, rfl, rfl⟩) fun vs s4 ⟨o, H4, I4, ps, eo, e4⟩ => ?_
  subst eo e4
  have I5 : Inv X pins σ H4 { s4 with heap := s4.heap.push { cls := .type "slice", data := .fields #[vl, vu, vs] } } := I4.kept (t' := s4.toks) fun b ob q => Heap.get?_push_of_some _ q
  show wpAny (model X.prog X.w) X.A (subscriptTail e (.Slice none none (some (.UnaryOp .USub (.Constant (.int 1) k p1) p2)) p3) (.ref a) (.ref s4.heap.objs.size)) (EP X pins σ Q) X.xe { s4 with heap := s4.heap.push { cls := .type "slice", data := .fields #[vl, vu, vs] } }
  rcases q1 with ⟨a', xs, e', hx, q⟩ | ⟨a', xs, e', hx, q⟩
  · cases e'
    obtain ⟨its, r, ht, hz⟩ := I5.list hx
    have hlen := r.length
    refine tail_any (ops := [.ref a, .ref s4.heap.objs.size]) ht.isList.typeIs (PySem.slot_list_getitem.lookup) ?_ (by with_unfolding_all rfl)
    refine wpAny_getItem_list_slice ht.isList (Heap.IsSliceOf.new _ vl vu vs) pl pu ps (by decide) ?_ (by rw [List.size_toArray]; omega)
    rw [PySem.W.krv_pick]
    refine ⟨.ref _, _, I5.laid (t' := s4.toks) (o := .lst xs.reverse) (fun b ob q => Heap.get?_push_of_some _ q) (Nat.le_refl _) ?_, rfl, q _ (I5.hok.fresh (Nat.le_refl _))⟩
    exact ⟨by rw [List.length_reverse]; exact hz, _, 0, r.reverse, Heap.get?_push_size _ rfl⟩
  · cases e'
    obtain ⟨its, r, ht, hz⟩ := I5.tuple hx
    have hlen := r.length
    cases pl
    cases pu
    refine tail_any (ops := [.ref a, .ref s4.heap.objs.size]) ht.typeIs (PyProof.Rows.slot_tuple_getitem.lookup) ?_ (by with_unfolding_all rfl)
    refine getItem_tuple_rev ht (Heap.IsSliceOf.new _ _ _ vs) ps ?_ (by rw [List.size_toArray]; omega)
    refine ⟨.ref _, _, I5.laid (t' := s4.toks) (o := .tup xs.reverse) (fun b ob q => Heap.get?_push_of_some _ q) (Nat.le_refl _) ?_, rfl, q _ (I5.hok.fresh (Nat.le_refl _))⟩
    exact ⟨by rw [List.length_reverse]; exact hz, _, r.reverse, IsTup.new _ _⟩
def rev2G : G1
  | .list ds => some (.tm (.list ds.reverse))
  | .tuple ds => some (.sh (.tuple ds.reverse))
  | _ => none
theorem e_rev2 {W : WX} {e : Expr} {f : EF} {k : Nat} {p1 p2 p3 pos : Pos} (he : PE X e (tE (gd X W) f)) : PE X (.Subscript e (.Slice none none (some (.UnaryOp .USub (.Constant (.int 1) k p1) p2)) p3) pos) (tE (gd X W) (unF rev2G f)) :=
  PE.imp (pe_rev2 he) fun σ H Q h => by
    obtain ⟨A, env, rel, h⟩ := h
    refine ⟨A, env, rel, (Post.bind h).imp fun r e1 A1 H1 s1 h1 v hv => ?_⟩
    cases q : rd e1 r with
    | none => rw [q] at h1; exact h1.elim
    | some d =>
      rw [q] at h1
      have rq := hv.rq s1.rel q
      match d, h1, rq with
      | .list ds, h1, rq =>
        obtain ⟨a, xs, rfl, sl, r⟩ := rq.lst
        exact .inl ⟨a, xs, rfl, sl, fun p n => fin1 s1 h1 (same_upd n) (rz_lst n r.reverse)⟩
      | .tuple ds, h1, rq =>
        obtain ⟨a, xs, rfl, sl, r⟩ := rq.tup
        exact .inr ⟨a, xs, rfl, sl, fun p n => fin1 s1 h1 (same_upd n) (rp_tup n r.reverse)⟩
      | .none, h1, _ => exact h1.elim
      | .bool _, h1, _ => exact h1.elim
      | .int _, h1, _ => exact h1.elim
      | .str _, h1, _ => exact h1.elim
      | .dict _, h1, _ => exact h1.elim
/-! ### a, b, .. = a list or a tuple -/
def gSeq (K : Frag) (n : Nat) (t : TGs) : TG := fun v σ H Q => gTup K n t v σ H Q ∨ gLst K n t v σ H Q
theorem pg_seq {es : List Expr} {k : Nat} {t : TGs} {n : Nat} {pos : Pos} (hc : X.calm = true) (h : PGs X es t)
    (hn : (assignEach es X.env).length = n := by rfl) (hst : (assignEach es X.env).findIdx? (·.1) = none := by rfl) : PG X (.Tuple es k pos) (gSeq X.K n t) :=
  ⟨fun pins s σ H v u Q I r hw => hw.elim (fun z => (pg_tup hc h hn hst).run pins s σ H v u Q I r z) fun z => (pg_lst hc h hn hst).run pins s σ H v u Q I r z⟩
def tgS (n : Nat) (u : List D → En → Option En) : GF
  | .tuple ds, e => if ds.length = n then u ds e else none
  | .list ds, e => if ds.length = n then u ds e else none
  | _, _ => none
theorem tg_seq {G : Gd} {n : Nat} {gs : TGs} {u : List D → En → Option En} {vs : List Nat} (h : TgsOk G gs u vs) : TgOk G (gSeq G.K n gs) (tgS n u) vs := by
  intro A A1 σ σ1 H H1 env e1 e2 d x P s r q k
  cases d with
  | tuple ds =>
    simp only [tgS] at q
    by_cases c : ds.length = n
    · rw [if_pos c] at q
      simp only [Rp] at r
      obtain ⟨a, xs, rfl, sq, rl⟩ := r
      exact .inl ⟨a, xs, rfl, sq, by rw [← rl.length]; exact c, h A A1 σ σ1 H H1 env e1 e2 ds xs P s rl q k⟩
    · rw [if_neg c] at q; cases q
  | list ds =>
    simp only [tgS] at q
    by_cases c : ds.length = n
    · rw [if_pos c] at q
      simp only [Rp] at r
      obtain ⟨a, xs, rfl, sq, rl⟩ := r
      exact .inr ⟨a, xs, rfl, sq.sq, by rw [← rl.length]; exact c, h A A1 σ σ1 H H1 env e1 e2 ds xs P s rl q k⟩
    · rw [if_neg c] at q; cases q
  | _ => cases q
end
end VL


set_option Elab.async false
set_option linter.all false
set_option maxRecDepth 100000
set_option maxHeartbeats 2000000
/-! VL20: what is not reached; stars in displays -/
namespace VL
open PySem PySem.Spec PyProof.Rows L2
variable [TbP]
def noE : EF := fun _ => .no
def noT : TF := fun _ => .no
def noI : IF := fun _ => .no
/-- items of a list or tuple -/
def seqD : D → Option (List D)
  | .list ds => some ds
  | .tuple ds => some ds
  | _ => none
def starF (f : EF) (g : AF) : AF := fun env => (f env).bind fun r e => match rd e r with
  | some d => (match seqD d with
    | some ds => (g e).bind fun rs e2 => .ok (ds.map .sh ++ rs) e2
    | none => .no)
  | none => .no
section
variable {X : Cx} {W : WX} {e : Expr} {es : List Expr} {f : EF} {g : AF} {p : Pos}
theorem e_no : PE X e (tE (gd X W) noE) := ⟨fun pins s σ H Q I h => by obtain ⟨A, env, rel, h⟩ := h; exact h.elim⟩
theorem t_no : PT X e (tT (gd X W) noT) := ⟨fun pins s σ H Q I h => by obtain ⟨A, env, rel, h⟩ := h; exact h.elim⟩
theorem i_no {tg : Expr} : PI X tg e (tI (gd X W) noI) := ⟨fun pins s σ H Q I h => by obtain ⟨A, env, rel, h⟩ := h; exact h.elim⟩
theorem rvs_sh {K : Frag} {A : AS} {σ : L2.St} {H : Hp} {env : En} : ∀ {ds : List D} {vs : List V} {F : AS} {rs : List Rv} {ws : List V}, RpL K A H ds vs → RvsOk K A σ H env F rs ws → RvsOk K A σ H env F (ds.map .sh ++ rs) (vs ++ ws)
  | [], vs, F, rs, ws, h, hr => by rw [h.inv_nil]; exact hr
  | d :: ds, vs, F, rs, ws, h, hr => by
    obtain ⟨v, t, rfl, h1, h2⟩ := h.inv_cons
    exact ⟨v, t ++ ws, rfl, h1, rvs_sh h2 (hr.weak fun a o _ z => ⟨z, fun q => nomatch q⟩)⟩
theorem a_star (he : PE X e (tE (gd X W) f)) (hr : PA X es (tA (gd X W) g)) (hs : starEach (.Starred e p :: es) X.env = (true, eval e X.env) :: starEach es X.env := by rfl) : PA X (.Starred e p :: es) (tA (gd X W) (starF f g)) :=
  PA.imp (StX.pa_star he hr hs) fun σ H Q h => by
    obtain ⟨A, env, rel, h⟩ := h
    refine ⟨A, env, rel, (Post.bind h).imp fun r e1 A1 H1 s1 h1 v hv => ?_⟩
    cases q : rd e1 r with
    | none => rw [q] at h1; exact h1.elim
    | some d =>
      rw [q] at h1
      have rq := hv.rq s1.rel q
      have fin : ∀ (ds : List D) (xs : List V), RpL X.K A1 H1 ds xs → Post (gd X W) A1 σ H1 e1 ((g e1).bind fun rs e2 => .ok (ds.map .sh ++ rs) e2) (fun rs e A' H' => ∀ vs, RvsOk X.K A' σ H' e (fun a => H a = none) rs vs → Q vs H') →
          tA (gd X W) g σ H1 fun ys H2 => Q (xs ++ ys) H2 := fun ds xs rp h1 => by
        refine ⟨A1, e1, s1.rel, (Post.bind h1).imp fun rs e2 A2 H2 s2 h2 vs hvs => ?_⟩
        refine h2 A2 H2 (.refl s2.rel) (xs ++ vs) (rvs_sh (rp.mono s2.ext.fr (s2.ext.kp s1.rel)) (hvs.weak fun a o ho z => ?_))
        cases q : H a with
        | none => rfl
        | some u => exact absurd z (s1.ext.al a (by rw [q]; simp))
      cases d with
      | list ds =>
        obtain ⟨a, xs, rfl, l, rp⟩ := rq.lst
        exact ⟨a, xs, rfl, .inr l, fin ds xs rp h1⟩
      | tuple ds =>
        obtain ⟨a, xs, rfl, l, rp⟩ := rq.tup
        exact ⟨a, xs, rfl, .inl l, fin ds xs rp h1⟩
      | _ => exact h1.elim
end
end VL


set_option Elab.async false
set_option linter.all false
set_option maxRecDepth 100000
set_option maxHeartbeats 2000000
/-! VL21: dict comprehensions, keys ints and texts -/
namespace VL
open PySem PySem.Spec PyProof.Rows L2
variable [TbP]
inductive RK (K : Frag) (A : AS) (H : Hp) : List (Key × D) → List (Key × V) → Prop where
  | nil : RK K A H [] []
  | cons {k : Key} {d : D} {v : V} {kvs : List (Key × D)} {ks : List (Key × V)} (h : Rp K A H d v) (t : RK K A H kvs ks) : RK K A H ((k, d) :: kvs) ((k, v) :: ks)
def putD (kvs : List (Key × D)) (k : Key) (d : D) : List (Key × D) :=
  if (kvs.any fun kv => decide (kv.1 = k)) = true then kvs.map (fun kv => if kv.1 = k then (kv.1, d) else kv) else kvs ++ [(k, d)]
def dctD (kvs : List (Key × D)) : D := .dict (kvs.map fun p => (keyD p.1, p.2))
section
variable {K : Frag} {A A' : AS} {H H' : Hp} {k : Key} {d : D} {v : V}
theorem RK.mono (hA : ∀ a, A a → A' a) (kp : Kp A H H') : ∀ {kvs : List (Key × D)} {ks : List (Key × V)}, RK K A H kvs ks → RK K A' H' kvs ks
  | _, _, .nil => .nil
  | _, _, .cons h t => .cons (h.mono hA kp) (RK.mono hA kp t)
theorem RK.rpk : ∀ {kvs : List (Key × D)} {ks : List (Key × V)}, RK K A H kvs ks → RpK K A H (kvs.map fun p => (keyD p.1, p.2)) ks
  | _, _, .nil => by simp [RpK]
  | _, _, .cons h t => by
    simp only [List.map_cons, RpK]
    exact ⟨_, _, _, rfl, rfl, h, t.rpk⟩
theorem RK.len : ∀ {kvs : List (Key × D)} {ks : List (Key × V)}, RK K A H kvs ks → kvs.length = ks.length
  | _, _, .nil => rfl
  | _, _, .cons h t => by simp [t.len]
theorem RK.any : ∀ {kvs : List (Key × D)} {ks : List (Key × V)}, RK K A H kvs ks → (kvs.any fun kv => decide (kv.1 = k)) = (ks.any fun kv => decide (kv.1 = k))
  | _, _, .nil => rfl
  | _, _, .cons h t => by simp only [List.any_cons, t.any]
theorem RK.rep (hd : Rp K A H d v) : ∀ {kvs : List (Key × D)} {ks : List (Key × V)}, RK K A H kvs ks → RK K A H (kvs.map fun kv => if kv.1 = k then (kv.1, d) else kv) (ks.map fun kv => if kv.1 = k then (kv.1, v) else kv)
  | _, _, .nil => .nil
  | _, _, .cons (k := k') h t => by
    simp only [List.map_cons]
    by_cases e : k' = k
    · rw [if_pos e, if_pos e]; exact .cons hd (t.rep hd)
    · rw [if_neg e, if_neg e]; exact .cons h (t.rep hd)
theorem RK.app (hd : Rp K A H d v) : ∀ {kvs : List (Key × D)} {ks : List (Key × V)}, RK K A H kvs ks → RK K A H (kvs ++ [(k, d)]) (ks ++ [(k, v)])
  | _, _, .nil => .cons hd .nil
  | _, _, .cons h t => .cons h (t.app hd)
theorem RK.put {kvs : List (Key × D)} {ks : List (Key × V)} (h : RK K A H kvs ks) (hd : Rp K A H d v) : RK K A H (putD kvs k d) (putK ks k v) := by
  unfold putD putK
  rw [h.any]
  split
  · exact h.rep hd
  · exact h.app hd
end
def dcStep (vs : List Nat) (tgt : GF) (tt : TF) (kf vf : EF) (d : D) (env : En) : Option (Option (Key × D) × En) :=
  if clean env vs = true then (match tgt d (wipeE env vs) with
    | some e1 => (match tt e1 with
      | .ok true e2 => (match kf e2 with
        | .ok (.sh kd) e3 => (match key1 kd with
          | some k => (match vf e3 with
            | .ok r e4 => (match frz e4 r with
              | some (y, e5) => some (some (k, y), unwipe env e5 vs)
              | none => none)
            | _ => none)
          | none => none)
        | _ => none)
      | .ok false e2 => some (none, unwipe env e2 vs)
      | _ => none)
    | none => none) else none
def dcGo (f : D → En → Option (Option (Key × D) × En)) : List D → En → List (Key × D) → Option (List (Key × D) × En)
  | [], e, acc => some (acc, e)
  | d :: ds, e, acc => match f d e with
    | some (some (k, y), e2) => if acc.length < LIM then dcGo f ds e2 (putD acc k y) else none
    | some (none, e2) => dcGo f ds e2 acc
    | none => none
def dcF (it : IF) (vs : List Nat) (tgt : GF) (tt : TF) (kf vf : EF) : EF := fun env => (it env).bind fun items e => match dcGo (dcStep vs tgt tt kf vf) items e [] with
  | some (acc, e2) => .ok (.tm (dctD acc)) e2
  | none => .no
theorem dc_it {J : It} {n : Nat} {Gh : Hp → Prop} {Y : Nat → Hp → V → Hp → Prop} (w : Walk J n Gh Y) {g : TG} {tt : TT} {tk tv : TE} {vs : List Nat} {σ : L2.St} {H1 : Hp} {Dd : Addr} {Qd : Hp → Prop} (Pv : Nat → Hp → Prop) (h0 : Pv 0 (upd H1 Dd (.dK []))) (hG : ∀ i H, i ≤ n → Pv i H → Gh H)
    (hs : ∀ i x H H', i < n → Pv i H → Y i H x H' → g x (wipe σ vs) H' fun σ2 H2 => wipe σ2 vs = wipe σ vs ∧ tt σ2 H2 fun b H3 =>
      if b = true then tk σ2 H3 fun y H4 => tv σ2 H4 fun z H5 => ∃ kvs k, y = kV k ∧ H5 Dd = some (.dK kvs) ∧ kvs.length < sizeLine ∧ Pv (i + 1) (upd H5 Dd (.dK (putK kvs k z))) else Pv (i + 1) H3) (hd : ∀ H, Pv n H → Qd H) :
    ∃ W : Nat → Nat → Hp → Prop, (∃ m, W 0 m (upd H1 Dd (.dK []))) ∧ ∀ i m H, W i m H →
      (J.stop i H ∧ Qd H) ∨ (J.go i H ∧ ∃ Nx : Hp → Prop, (∀ H', Nx H' → ∃ m', m' < m ∧ W (i + 1) m' H') ∧ ∀ x H', J.yld i H x H' → g x (wipe σ vs) H' fun σ2 H2 => wipe σ2 vs = wipe σ vs ∧ tt σ2 H2 fun b H3 =>
        if b = true then tk σ2 H3 fun y H4 => tv σ2 H4 fun z H5 => ∃ kvs k, y = kV k ∧ H5 Dd = some (.dK kvs) ∧ kvs.length < sizeLine ∧ Nx (upd H5 Dd (.dK (putK kvs k z))) else Nx H3) := by
  refine ⟨fun i m H => m = n - i ∧ i ≤ n ∧ Pv i H, ⟨n, by simp, Nat.zero_le _, h0⟩, ?_⟩
  rintro i m H ⟨rfl, hi, p⟩
  have q := hG i H hi p
  by_cases hlt : i < n
  · refine .inr ⟨w.goes i H hlt q, Pv (i + 1), fun H' p' => ⟨n - (i + 1), by omega, rfl, hlt, p'⟩, fun x H' y => hs i x H H' hlt p (w.yields i H x H' hlt q y)⟩
  · have e : i = n := by omega
    subst e
    exact .inl ⟨w.stops H q, hd H p⟩
theorem dc_sound {X : Cx} {W : WX} {it : IF} {g : TG} {tgt : GF} {vs : List Nat} {tt : TF} {kf vf : EF} (ht : TgOk (gd X W0) g tgt vs) {σ : L2.St} {H : Hp} {Q : VK} (h : tE (gd X W) (dcF it vs tgt tt kf vf) σ H Q) :
    tDc (tI (gd X W) it) g (tT (gd X W0) tt) (tE (gd X W0) kf) (tE (gd X W0) vf) vs σ H Q := by
  obtain ⟨A, env, rel, h⟩ := h
  refine ⟨A, env, rel, (Post.cut h fun items e1 A1 H1 s1 h1 J hJ => ?_)⟩
  intro L hL
  obtain ⟨Gh, Y, w, hG, hY⟩ := hJ
  cases q0 : dcGo (dcStep vs tgt tt kf vf) items e1 [] with
  | none => rw [q0] at h1; exact h1.elim
  | some p =>
    obtain ⟨accF, eF⟩ := p
    rw [q0] at h1
    have sL : Stp X.K A1 σ H1 e1 A1 σ (upd H1 L (.dK [])) e1 := Stp.same s1.rel (same_upd hL)
    refine dc_it w (fun i H' => ∃ A' e' acc ks, Stp X.K A1 σ H1 e1 A' σ H' e' ∧ H' L = some (.dK ks) ∧ RK X.K A' H' acc ks ∧ ¬ A' L ∧ ¬ Ow σ e' L ∧ dcGo (dcStep vs tgt tt kf vf) (items.drop i) e' acc = some (accF, eF)) ?_ ?_ ?_ ?_
    · refine ⟨A1, e1, [], [], sL, upd_same, .nil, fun z => s1.rel.dom L z hL, fun z => ?_, q0⟩
      obtain ⟨_, o, eo, _⟩ := s1.rel.owok z
      rw [hL] at eo; cases eo
    · rintro i H' _ ⟨A', e', acc, xs, s, _⟩
      exact hG A' H' s.ext.fr (s.ext.kp s1.rel)
    · rintro i x H' H2 hi ⟨A', e', acc, xs, s, hl, rl, na, no, q⟩ y
      obtain ⟨sm, d, ed, rp⟩ := hY i A' H' x H2 s.ext.fr (s.ext.kp s1.rel) y
      rw [drop_cons ed] at q
      have sS := Stp.same s.rel sm
      have s' := s.trans sS
      obtain ⟨na2, no2, hl2⟩ := sS.keepD na no hl
      have rl2 := rl.mono sS.ext.fr (sS.ext.kp s.rel)
      unfold dcGo at q
      cases q1 : dcStep vs tgt tt kf vf d e' with
      | none => rw [q1] at q; cases q
      | some pr =>
        obtain ⟨oy, e''⟩ := pr
        rw [q1] at q
        unfold dcStep at q1
        by_cases c : clean e' vs = true
        · rw [if_pos c] at q1
          cases q2 : tgt d (wipeE e' vs) with
          | none => rw [q2] at q1; cases q1
          | some e2 =>
            rw [q2] at q1
            dsimp only at q1
            have rw0 := s'.rel.wipe (vs := vs)
            refine ht A' A' (wipe σ vs) (wipe σ vs) H2 H2 (wipeE e' vs) (wipeE e' vs) e2 d x _ (.refl rw0) rp q2 fun σ2 s2 l2 off => ?_
            have l2' : σ2.length = σ.length := l2.trans (wipe_length σ vs)
            refine ⟨wipe_eq l2' off, A', e2, s2.rel, ?_⟩
            cases q3 : tt e2 with
            | no => rw [q3] at q1; cases q1
            | ex _ _ => rw [q3] at q1; cases q1
            | ok b e3 =>
              rw [q3] at q1
              intro A3 H3 s3
              have s23 := s2.trans s3
              show if b = true then _ else _
              cases b with
              | false =>
                rw [if_neg Bool.false_ne_true]
                cases q1
                dsimp only at q
                have sU := Stp.unwipe s'.rel c s23 l2' off
                obtain ⟨na3, no3, hl3⟩ := sU.keepD na2 no2 hl2
                exact ⟨A3, _, acc, xs, s'.trans sU, hl3, rl2.mono sU.ext.fr (sU.ext.kp s'.rel), na3, no3, q⟩
              | true =>
                rw [if_pos rfl]
                dsimp only at q1
                refine ⟨A3, e3, s3.rel, ?_⟩
                cases q4 : kf e3 with
                | no => rw [q4] at q1; cases q1
                | ex _ _ => rw [q4] at q1; cases q1
                | ok r e4 =>
                  rw [q4] at q1
                  cases r with
                  | tm _ => cases q1
                  | bo _ => cases q1
                  | sh kd =>
                    dsimp only at q1
                    cases q6 : key1 kd with
                    | none => rw [q6] at q1; cases q1
                    | some k =>
                      rw [q6] at q1
                      dsimp only at q1
                      intro A4 H4 s4 kv hkv
                      have hk : Rp X.K A4 H4 kd kv := hkv
                      rw [key1_spec q6] at hk
                      have ek := rp_key hk
                      refine ⟨A4, e4, s4.rel, ?_⟩
                      cases q7 : vf e4 with
                      | no => rw [q7] at q1; cases q1
                      | ex _ _ => rw [q7] at q1; cases q1
                      | ok r e5 =>
                        rw [q7] at q1
                        dsimp only at q1
                        intro A5 H5 s5 v hv
                        cases q5 : frz e5 r with
                        | none => rw [q5] at q1; cases q1
                        | some pr =>
                          obtain ⟨y, e6⟩ := pr
                          rw [q5] at q1
                          cases q1
                          dsimp only at q
                          obtain ⟨A6, s6, f6, rpy, _⟩ := frz_ok s5 hv q5
                          have sU := Stp.unwipe s'.rel c ((s23.trans s4).trans s6) l2' off
                          obtain ⟨na5, no5, hl5⟩ := sU.keepD na2 no2 hl2
                          have st := s'.trans sU
                          have rl5 := rl2.mono sU.ext.fr (sU.ext.kp s'.rel)
                          by_cases cl : acc.length < LIM
                          · rw [if_pos cl] at q
                            have kp : Kp A6 H5 (upd H5 L (.dK (putK xs k v))) := Kp.upd hl5 na5 fun z => z
                            exact ⟨xs, k, ek, hl5, by rw [← rl5.len, lim_eq]; exact cl, A6, _, putD acc k y, putK xs k v, st.updD hL na5 no5 hl5 (fun z => z), upd_same, (rl5.put rpy).mono (fun _ z => z) kp, na5, no5, q⟩
                          · rw [if_neg cl] at q; cases q
        · rw [if_neg c] at q1; cases q1
    · rintro H' ⟨A', e', acc, xs, s, hl, rl, na, no, q⟩
      rw [List.drop_length] at q
      cases q
      refine h1 A' H' (s1.trans s) (.ref L) ⟨L, rfl, na, no, ?_, .inl ⟨xs, hl, rl.rpk⟩⟩
      show H L = none
      cases q : H L with
      | none => rfl
      | some u => exact absurd hL (s1.ext.al L (by rw [q]; simp))
section
variable {X : Cx} {W : WX} {kx vx tg iter : Expr} {ifs : List Expr} {scope : Scope} {own : List (Str × Nat)} {pos : Pos} {it : IF} {g : TG} {t : GF} {tt : TF} {kf vf : EF}
theorem e_dc (hc : X.calm = true) (hN : X.N.Nodup) (hi : PI X tg iter (tI (gd X W) it)) (ok : BlkOk X.N X.env.scope scope own) (ht : TgOk (gd X W0) g t (own.map (·.2)))
    (hb : ∀ (s : Shared) (H : Hp) (C : Addr) (cl : List (Str × Addr)) (fp : List Addr), PG (X.blk s H scope (compEnvC scope cl C X.env) fp) tg g ∧ PTs (X.blk s H scope (compEnvC scope cl C X.env) fp) ifs (tT (gd X W0) tt) ∧ PE (X.blk s H scope (compEnvC scope cl C X.env) fp) kx (tE (gd X W0) kf) ∧ PE (X.blk s H scope (compEnvC scope cl C X.env) fp) vx (tE (gd X W0) vf))
    (hs : ∀ x, foldedSetIterable iter X.env x = pure x := by intro _; rfl) :
    PE X (.DictComp kx vx [⟨tg, iter, ifs, 0⟩] scope pos) (tE (gd X W) (dcF it (own.map (·.2)) t tt kf vf)) :=
  PE.imp (pe_dc hc hN hi ok (fun s H C cl fp => (hb s H C cl fp).1) (fun s H C cl fp => (hb s H C cl fp).2.1) (fun s H C cl fp => (hb s H C cl fp).2.2.1) (fun s H C cl fp => (hb s H C cl fp).2.2.2) hs) fun σ H Q h => dc_sound ht h
end
end VL


set_option Elab.async false
set_option linter.all false
set_option maxRecDepth 100000
set_option maxHeartbeats 4000000
/-! VL22: enumerate over a tuple -/
namespace VL
open PySem PySem.Spec PyProof.Rows L2
variable [TbP]
theorem meets_enum1 {v : Value} {o : Obj} {H : Heap → Prop} (B : Begins v o H) :
    Meets (Builtin.«enumerate.__new__» ⟨[.type "enumerate", v], []⟩) (fun _ R s => H s.heap ∧
      R (.ok (.ret (.ref (s.heap.push o).objs.size))) { s with heap := (s.heap.push o).push { cls := .type "enumerate", data := .fields #[.none, .bool false, .ref s.heap.objs.size, rawInt 0, .none, .none] } }) :=
  .of_wp fun prog w A R s h => by
    obtain ⟨hp, g, d, tk, os⟩ := s; obtain ⟨h1, h⟩ := h
    have hsub := sub_enumerate
    have q1 : ∀ {A' : Around} {E : Value → Shared → Prop} {Q : Value → Shared → Prop}, Q (.ref hp.objs.size) ⟨hp.push o, g, d, tk, os⟩ → wpAny (model prog w) A' (pyIter v) Q E ⟨hp, g, d, tk, os⟩ :=
      fun q => B.iter prog w _ _ ⟨hp, g, d, tk, os⟩ _ h1 q
    wp_walk using q1
    refine wpAny_stack_any fun st => wpAny_pure ?_
    split
    · rename_i c _ _ _ _ _
      cases (c == Value.type "enumerate")
      · wp_walk using q1
        exact ⟨_, rfl, h⟩
      · wp_walk using q1
        exact ⟨_, rfl, h⟩
    · wp_walk using q1
      exact ⟨_, rfl, h⟩
section
variable {prog : Program} {w : World} {A : Around} {E : Value → Shared → Prop} {s : Shared}
theorem call_enum_tuple {l : Addr} {items : Array Value} {Q : Value → Shared → Prop} (hL : s.heap.IsTuple l items)
    (h : ∀ h', IsEnum h' (s.heap.objs.size + 1) s.heap.objs.size 0 .none → h'.IsTupleIter s.heap.objs.size l 0 → h'.objs.size = s.heap.objs.size + 2 →
      (∀ b o, s.heap.get? b = some o → h'.get? b = some o) → Q (.ref (s.heap.objs.size + 1)) { s with heap := h' }) :
    wpAny (model prog w) A (call (.type "enumerate") [.ref l]) Q E s := by
  refine callType_new F.called_enumerate (by decide) (F.typeCall_enumerate_1 _) (F.newCall_enumerate_1 _) (fun obj => F.args_object_init_2 obj _) F.entry_enumerate_new
    (meets_enum1 (begins_tuple l items)) ⟨hL, ?_⟩
  have hz : (s.heap.push { cls := .type "tuple_iterator", data := .fields #[.ref l, .int 0 0] }).objs.size = s.heap.objs.size + 1 := Heap.size_push ..
  show _ ∧ _
  rw [hz]
  have he : IsEnum ((s.heap.push { cls := .type "tuple_iterator", data := .fields #[.ref l, .int 0 0] }).push
      { cls := .type "enumerate", data := .fields #[.none, .bool false, .ref s.heap.objs.size, rawInt 0, .none, .none] }) (s.heap.objs.size + 1) s.heap.objs.size 0 .none := by
    have := Heap.get?_push_size (s.heap.push { cls := .type "tuple_iterator", data := .fields #[.ref l, .int 0 0] })
      (o := { cls := .type "enumerate", data := .fields #[.none, .bool false, .ref s.heap.objs.size, rawInt 0, .none, .none] }) rfl
    rw [hz] at this; exact this
  refine ⟨⟨_, he, rfl⟩, h _ he ⟨_, Heap.get?_push_of_some _ (Heap.get?_push_size _ rfl), rfl, rfl⟩ (by rw [Heap.size_push, hz]) fun b o x => Heap.get?_push_of_some _ (Heap.get?_push_of_some _ x)⟩
end
/-- the tuple at a, each item in a new pair -/
def IteT (K : PySem.W.Frag) (a : Addr) : It :=
  ⟨fun i H => ∃ (xs : List V) (x : V), SqT K H a xs ∧ xs[i]? = some x, fun i H v H' => ∃ T x, v = .ref T ∧ H T = none ∧ H' = upd H T (.tup [.int (i : Nat), x]) ∧ ∀ xs, SqT K H a xs → xs[i]? = some x, fun i H => ∃ xs : List V, SqT K H a xs ∧ xs.length ≤ i⟩
theorem tup_apart {h : Heap} {a it : Addr} {items : Array Value} {i : Nat} (h1 : h.IsTuple a items) (h2 : h.IsTupleIter it a i) : a ≠ it := by
  rintro rfl
  obtain ⟨o, e, c, _⟩ := h1
  obtain ⟨o', e', c', _⟩ := h2
  rw [e] at e'
  cases e'
  rw [c] at c'
  revert c'
  decide
theorem turn_enumT {P : Program} {w : World} {K : PySem.W.Frag} {elts : List Expr} {kk : Nat} {tpos : Pos} (a e it : Addr) :
    Turn P w K (.Tuple elts kk tpos) (IteT K a) [e, it] e (fun i h => (∃ old, IsEnum h e it ((i : Nat) : Int) old) ∧ h.IsTupleIter it a i ∧ e ≠ it) where
  mem := by simp
  obj := fun i h st b hb => by
    obtain ⟨⟨old, he⟩, ⟨o, ho, hc, hd⟩, _⟩ := st
    have e' : b = e ∨ b = it := by simpa using hb
    rcases e' with z | z
    · rw [z]; exact ⟨_, he, fun v q => nomatch q⟩
    · rw [z]; exact ⟨o, ho, fun v q => by rw [hd] at q; cases q⟩
  keep := fun i h h' st k => let ⟨⟨old, he⟩, hi, hne⟩ := st; ⟨⟨old, k e (by simp) _ he⟩, hi.at fun o q => k it (by simp) o q, hne⟩
  item := by
    intro X hP hw hK hc i pins s σ H E I hf st hg
    subst hP hw hK
    obtain ⟨⟨old, he⟩, hit, hne⟩ := st
    obtain ⟨xs, x, hq, hx⟩ := hg
    obtain ⟨its, rv, p, hz⟩ := I.tuple hq
    obtain ⟨u, hu, ru⟩ := rv.get hx
    have hel : e < s.heap.objs.size := Heap.lt_size he
    have hil : it < s.heap.objs.size := by obtain ⟨_, q, _⟩ := hit; exact Heap.lt_size q
    have hp : s.heap.IsTuple a its.toArray := p
    have hap := tup_apart hp hit
    have hea : e ≠ a := by
      rintro rfl
      obtain ⟨o, e1, c1, _⟩ := hp
      have he' : s.heap.get? e = some _ := he
      rw [he'] at e1
      cases e1
      have c2 : Value.type "enumerate" = Value.type "tuple" := c1
      revert c2
      decide
    have hi : i < its.toArray.size := by
      have := List.getElem?_eq_some_iff.mp hu
      obtain ⟨q, _⟩ := this
      simpa using q
    refine wpAny_pyNext_enum_itemD (fp := [it, a]) (n := its.toArray.size) (i := i) (P := fun i v => its.toArray[i]? = some v) (St := fun i h => h.IsTupleIter it a i ∧ h.IsTuple a its.toArray) (Draws.tuple (show X.A.in1.handled = none from I.ok.hd hc) it a hap its.toArray) he ⟨hit, hp⟩ hi hne (by simp [hne, hea]) fun x' h' tk hP ho hst' hT hsz hk => ?_
    have hx' : x' = u := by
      have hP' : its.toArray[i]? = some x' := hP
      have : its[i]? = some x' := by simpa using hP'
      rw [hu] at this
      exact (Option.some.inj this).symm
    subst hx'
    obtain ⟨hit', _⟩ := hst'
    refine ⟨_, rfl, wpAny_letOwnedTupleGo_enum (s := { s with heap := h', toks := tk + 1 }) ho fun h'' he' sb => ?_⟩
    have hT2 : h''.get? s.heap.objs.size = some { cls := .type "tuple", data := .seq #[.int i tk, x'] } := (sb.2 _ (Nat.ne_of_gt hel)).trans hT
    have new : ObjOk X.prog X.w (upd H s.heap.objs.size (.tup [.int (i : Nat), x])) h'' s.heap.objs.size (.tup [.int (i : Nat), x]) :=
      ⟨by show 2 ≤ sizeLine; decide, [.int i tk, x'], .cons ⟨_, rfl⟩ (.cons ru .nil), ⟨_, hT2, rfl, _, rfl⟩⟩
    have I1 : Inv X pins σ (upd H s.heap.objs.size (.tup [.int (i : Nat), x])) { s with heap := h'', toks := tk + 1 } :=
      I.turnedNew (ch := [e, it]) (fun b ob hb q => (sb.2 b (fun z => hb (by simp [z]))).trans (hk b ob (fun z => hb (by simp [z])) (fun z => hb (by simp [z])) q)) hf (Nat.le_refl _) new
    refine ⟨.ref s.heap.objs.size, _, I1, rfl, ⟨_, x, rfl, I.hok.fresh (Nat.le_refl _), rfl, fun ys hy => by rw [I.tuple_inj hy hq]; exact hx⟩, ⟨⟨x', ?_⟩, hit'.at fun o q => (sb.2 it (Ne.symm hne)).trans q, hne⟩, fun b hb => ?_⟩
    · have e1 : ((i + 1 : Nat) : Int) = (i : Int) + 1 := by omega
      rw [e1]; exact he'
    · have hb' : b < s.heap.objs.size := by
        have e' : b = e ∨ b = it := by simpa using hb
        rcases e' with z | z
        · rw [z]; exact hel
        · rw [z]; exact hil
      rw [upd_ne (Nat.ne_of_lt hb')]
      exact (hf b hb).1
  done := by
    intro X hP hw hK hc i pins s σ H E I hf st hg
    subst hP hw hK
    obtain ⟨⟨old, he⟩, hit, hne⟩ := st
    obtain ⟨xs, hq, hx⟩ := hg
    obtain ⟨its, rv, p, hz⟩ := I.tuple hq
    obtain ⟨f0, f1, f2, f3, f4, f5⟩ := hf it (by simp)
    have hl := rv.length
    have hp : s.heap.IsTuple a its.toArray := p
    have hap := tup_apart hp hit
    have hlt : its.toArray[i]? = none := by simp; omega
    have hT : s.TypeIs (.ref e) "enumerate" := ⟨_, he, rfl⟩
    unfold pyNext
    refine wpAny_bind (wpAny_attempt (wpAny_callSpecial?_slot (name := Str.ofString "__next__") hT F.slot_enumerate_next
      (wpAny_call_entry F.slot_enumerate_next hT F.entry_enumerate_next ?_ (F.args_enumerate_next_1 _))))
    show wpAny _ _ (field (.ref e) 2 >>= _) _ _ _
    refine wpAny_bind (wpAny_field he rfl (x := .ref it) rfl ?_)
    refine wpAny_bind (wpAny_nextOf_tuple_end (show X.A.in1.handled = none from I.ok.hd hc) hit hp hlt fun h' x he' hx' => ?_)
    obtain ⟨o, ho, hc'⟩ := hx'
    refine wpAny_bind (wpAny_isInstance (T := "StopIteration") (b := true) ⟨o, ho, hc'⟩ isSubtype_stop ?_)
    exact wpAny_pure ⟨rfl, I.turned (t' := s.toks) (fun b o hb q => he' b o hb q) f0 f1 f3 f4 f5⟩
  self := fun A i s Q E st h => let ⟨⟨_, he⟩, _⟩ := st; wpAny_pyIter_enum he h
def iEnumT (K : PySem.W.Frag) (ta : TA) : TI := fun σ H R => ta σ H fun vs H1 => ∃ a xs, vs = [.ref a] ∧ SqT K H1 a xs ∧ R (IteT K a) H1
theorem pi_enumT {X : Cx} {e : Expr} {ta : TA} {p pos tpos : Pos} {elts : List Expr} {kk : Nat} (hg : Gl X "enumerate") (hm : X.mg "enumerate" = none) (ha : PA X [e] ta) (hs : starEach [e] X.env = [(false, eval e X.env)] := by rfl) :
    PI X (.Tuple elts kk tpos) (.Call (.Name "enumerate" p) [e] [] pos) (iEnumT X.K ta) := by
  refine ⟨fun pins s σ H R I h => ?_⟩
  refine Call_ (ld_blt I hg hm boot_enumerate (PyProof.Rows.callWith_type1 (thn (ha.run pos pins s σ H _ I h) fun us s1 ⟨vs, H1, I1, r1, q1⟩ => ?_) hs rfl))
  obtain ⟨a, xs, ex, hq, q⟩ := q1
  subst ex
  cases r1 with
  | cons r rr =>
    cases rr
    cases r
    obtain ⟨its, rv, p', hz⟩ := I1.tuple hq
    refine call_enum_tuple p' fun h' he hit hsz hk => wpAny_pyIter_enum he ?_
    have I2 : Inv X pins σ H1 { s1 with heap := h' } := I1.kept (t' := s1.toks) hk
    refine ⟨s1.heap.objs.size + 1, [s1.heap.objs.size + 1, s1.heap.objs.size], _, _, H1, rfl, I2, turn_enumT a (s1.heap.objs.size + 1) s1.heap.objs.size, ⟨⟨.none, he⟩, hit, Nat.succ_ne_self _⟩, fun b hb => ?_, q⟩
    have e' : b = s1.heap.objs.size + 1 ∨ b = s1.heap.objs.size := by simpa using hb
    have hle : s1.heap.objs.size ≤ b := by
      rcases e' with z | z
      · rw [z]; exact Nat.le_add_right _ _
      · rw [z]; exact Nat.le_refl _
    exact I1.fpOk hle (I1.hok.fresh hle)
theorem walk_enumT {K : PySem.W.Frag} {a : Addr} {xs : List V} : Walk (IteT K a) xs.length (fun H => SqT K H a xs) (YPair (fun i => some (.int (i : Nat))) (fun i => xs[i]?)) := by
  refine ⟨fun i _ hi q => ⟨xs, xs[i], q, by simp [hi]⟩, fun _ q => ⟨xs, q, Nat.le_refl _⟩, fun i H v H' _ q y => ?_⟩
  obtain ⟨T, x, h1, h2, h3, h4⟩ := y
  exact ⟨T, .int (i : Nat), x, h1, h2, h3, rfl, h4 xs q⟩
end VL


set_option Elab.async false
set_option linter.all false
set_option maxRecDepth 100000
set_option maxHeartbeats 2000000
/-! VL23: enumerate over lists and tuples; max, min of three and of a list -/
namespace VL
open PySem PySem.Spec PyProof.Rows L2
variable [TbP]
theorem itm_enumT {K : Frag} {A : AS} {H : Hp} {a : Addr} {ds : List D} {xs : List V} (l : SqT K H a xs) (r : RpL K A H ds xs) : Itm K A H (IteT K a) (enumD ds) :=
  ⟨_, _, by
    have e : (enumD ds).length = xs.length := by simp [enumD, r.length]
    rw [e]; exact walk_enumT (xs := xs), fun A' H' fr k => sqt_kp l k, fun i A' H' x H2 fr k y => by
    obtain ⟨T, u, v, rfl, n, rfl, e1, e2⟩ := y
    cases e1
    obtain ⟨d, e3, e4⟩ := (r.mono fr k).at' e2
    exact ⟨same_upd n, .tuple [.int i, d], by simp [enumD, e3], rp_pair n rp_int e4⟩⟩
def enum2F (fs : AF) : IF := fun env => (fs env).bind fun rs e => match frzAll e rs with
  | some ([.list ds], e2) => .ok (enumD ds) e2
  | some ([.tuple ds], e2) => .ok (enumD ds) e2
  | _ => .no
section
variable {X : Cx} {W : WX} {e : Expr} {elts : List Expr} {kk : Nat} {tpos p pos : Pos} {fs : AF}
theorem i_enum2 (hm : X.mg "enumerate" = none) (ha : PA X [e] (tA (gd X W) fs)) (hg : Gl X "enumerate" := by rfl) (hs : starEach [e] X.env = [(false, eval e X.env)] := by rfl) : PI X (.Tuple elts kk tpos) (.Call (.Name "enumerate" p) [e] [] pos) (tI (gd X W) (enum2F fs)) :=
  PI.imp (VL.PI.or (pi_enum hg hm ha hs) (pi_enumT hg hm ha hs)) fun σ H R h => by
    obtain ⟨A, env, rel, h⟩ := h
    unfold enum2F at h
    cases q0 : fs env with
    | no => rw [q0] at h; exact h.elim
    | ex x e1 =>
      rw [q0] at h
      exact .inl ⟨A, env, rel, by rw [q0]; exact h⟩
    | ok rs e1 =>
      rw [q0] at h
      simp only [Rs.bind] at h
      split at h
      · rename_i ds e2 q
        refine .inl ⟨A, env, rel, ?_⟩
        rw [q0]
        intro A1 H1 s1 vs hvs
        obtain ⟨A2, s2, f2, rpl⟩ := frzAll_ok s1 (fun _ z => z) hvs q
        obtain ⟨v, t, rfl, r1, r2⟩ := rpl.inv_cons
        rw [r2.inv_nil]
        obtain ⟨a, xs, rfl, l, r⟩ := r1.lst
        exact ⟨a, xs, rfl, l.sq, h A2 H1 s2 _ (itm_enum l r)⟩
      · rename_i ds e2 q
        refine .inr ⟨A, env, rel, ?_⟩
        rw [q0]
        intro A1 H1 s1 vs hvs
        obtain ⟨A2, s2, f2, rpl⟩ := frzAll_ok s1 (fun _ z => z) hvs q
        obtain ⟨v, t, rfl, r1, r2⟩ := rpl.inv_cons
        rw [r2.inv_nil]
        obtain ⟨a, xs, rfl, l, r⟩ := r1.tup
        exact ⟨a, xs, rfl, l, h A2 H1 s2 _ (itm_enumT l r)⟩
      · exact h.elim
end
/-! max, min -/
def ii3 (f : Int → Int → Int) : GC
  | [.int i, .int j, .int k] => some (.sh (.int (f (f i j) k)))
  | _ => none
theorem RqAll.three {K : Frag} {A : AS} {H : Hp} {d d' d'' : D} {vs : List V} (h : RqAll K A H [d, d', d''] vs) : ∃ v v' v'', vs = [v, v', v''] ∧ Rq K A H d v ∧ Rq K A H d' v' ∧ Rq K A H d'' v'' := by
  obtain ⟨v, t, rfl, h1, h2⟩ := h
  obtain ⟨v', v'', rfl, h3, h4⟩ := RqAll.two h2
  exact ⟨v, v', v'', rfl, h1, h3, h4⟩
theorem nuMax2_int (i j : Int) : L2.nuMax2 (.int i) (.int j) = some (.int (maxI i j)) := by
  show (some (decide (i < j))).map _ = _
  unfold maxI
  by_cases h : i < j
  · simp [h]
  · simp [h]
theorem nuMin2_int (i j : Int) : L2.nuMin2 (.int i) (.int j) = some (.int (minI i j)) := by
  show (some (decide (j < i))).map _ = _
  unfold minI
  by_cases h : j < i
  · simp [h]
  · simp [h]
theorem max3_A {K : Frag} : CbA K (L2.rNuC3 L2.nuMax3) (ii3 maxI) := by
  intro A H ds vs z Q hd e hx q
  match ds, e with
  | [.int i, .int j, .int k], e =>
    cases e
    obtain ⟨v, v', v'', rfl, h1, h2, h3⟩ := hx.three
    refine ⟨_, _, _, .int (maxI (maxI i j) k), rfl, ?_, q _ _ (Same.refl H) rz_int⟩
    rw [h1.int, h2.int, h3.int]
    unfold L2.nuMax3
    rw [nuMax2_int]
    exact nuMax2_int _ _
theorem min3_A {K : Frag} : CbA K (L2.rNuC3 L2.nuMin3) (ii3 minI) := by
  intro A H ds vs z Q hd e hx q
  match ds, e with
  | [.int i, .int j, .int k], e =>
    cases e
    obtain ⟨v, v', v'', rfl, h1, h2, h3⟩ := hx.three
    refine ⟨_, _, _, .int (minI (minI i j) k), rfl, ?_, q _ _ (Same.refl H) rz_int⟩
    rw [h1.int, h2.int, h3.int]
    unfold L2.nuMin3
    rw [nuMin2_int]
    exact nuMin2_int _ _
def foldL (f : Int → Int → Int) : List Int → Option Int
  | [] => none
  | a :: l => some (l.foldl f a)
theorem fold_max : ∀ (l : List Int) (a : Int), (l.foldl maxI a ∈ a :: l) ∧ ∀ y ∈ a :: l, y ≤ l.foldl maxI a
  | [], a => ⟨by simp, fun y hy => by simp at hy; subst hy; exact Int.le_refl _⟩
  | b :: l, a => by
    obtain ⟨h1, h2⟩ := fold_max l (maxI a b)
    have e : maxI a b = a ∨ maxI a b = b := by unfold maxI; split <;> simp
    have l1 : a ≤ maxI a b := by unfold maxI; split <;> omega
    have l2 : b ≤ maxI a b := by unfold maxI; split <;> omega
    refine ⟨?_, fun y hy => ?_⟩
    · rcases List.mem_cons.mp h1 with h | h
      · rw [List.foldl_cons, h]
        rcases e with e | e <;> rw [e] <;> simp
      · rw [List.foldl_cons]
        exact List.mem_cons_of_mem _ (List.mem_cons_of_mem _ h)
    · rw [List.foldl_cons]
      rcases List.mem_cons.mp hy with rfl | hy
      · exact Int.le_trans l1 (h2 _ List.mem_cons_self)
      · rcases List.mem_cons.mp hy with rfl | hy
        · exact Int.le_trans l2 (h2 _ List.mem_cons_self)
        · exact h2 _ (List.mem_cons_of_mem _ hy)
theorem fold_min : ∀ (l : List Int) (a : Int), (l.foldl minI a ∈ a :: l) ∧ ∀ y ∈ a :: l, l.foldl minI a ≤ y
  | [], a => ⟨by simp, fun y hy => by simp at hy; subst hy; exact Int.le_refl _⟩
  | b :: l, a => by
    obtain ⟨h1, h2⟩ := fold_min l (minI a b)
    have e : minI a b = a ∨ minI a b = b := by unfold minI; split <;> simp
    have l1 : minI a b ≤ a := by unfold minI; split <;> omega
    have l2 : minI a b ≤ b := by unfold minI; split <;> omega
    refine ⟨?_, fun y hy => ?_⟩
    · rcases List.mem_cons.mp h1 with h | h
      · rw [List.foldl_cons, h]
        rcases e with e | e <;> rw [e] <;> simp
      · rw [List.foldl_cons]
        exact List.mem_cons_of_mem _ (List.mem_cons_of_mem _ h)
    · rw [List.foldl_cons]
      rcases List.mem_cons.mp hy with rfl | hy
      · exact Int.le_trans (h2 _ List.mem_cons_self) l1
      · rcases List.mem_cons.mp hy with rfl | hy
        · exact Int.le_trans (h2 _ List.mem_cons_self) l2
        · exact h2 _ (List.mem_cons_of_mem _ hy)
def ofL (f : Int → Int → Int) : GC
  | [.list ds] => ((intsD ds).bind (foldL f)).map fun i => .sh (.int i)
  | _ => none
theorem maxL_A {K : Frag} : CbA K (L2.rMax K) (ofL maxI) := by
  intro A H ds vs z Q hd e hx q
  match ds, e with
  | [.list l], e =>
    obtain ⟨v, rfl, h⟩ := hx.one
    dsimp only [ofL] at e
    cases q1 : intsD l with
    | none => rw [q1] at e; cases e
    | some bs =>
      rw [q1] at e
      obtain ⟨a, xs, rfl, sl, r⟩ := h.lst
      rw [intsD_ok q1 r] at sl
      cases bs with
      | nil => cases e
      | cons b bs =>
        cases e
        refine ⟨a, b :: bs, rfl, sl, by simp, fun m hm hy => ?_⟩
        obtain ⟨f1, f2⟩ := fold_max bs b
        have : m = bs.foldl maxI b := Int.le_antisymm (f2 m hm) (hy _ f1)
        rw [this]
        exact q _ _ (Same.refl H) rz_int
theorem minL_A {K : Frag} : CbA K (L2.rMin K) (ofL minI) := by
  intro A H ds vs z Q hd e hx q
  match ds, e with
  | [.list l], e =>
    obtain ⟨v, rfl, h⟩ := hx.one
    dsimp only [ofL] at e
    cases q1 : intsD l with
    | none => rw [q1] at e; cases e
    | some bs =>
      rw [q1] at e
      obtain ⟨a, xs, rfl, sl, r⟩ := h.lst
      rw [intsD_ok q1 r] at sl
      cases bs with
      | nil => cases e
      | cons b bs =>
        cases e
        refine ⟨a, b :: bs, rfl, sl, by simp, fun m hm hy => ?_⟩
        obtain ⟨f1, f2⟩ := fold_min bs b
        have : m = bs.foldl minI b := Int.le_antisymm (hy _ f1) (f2 m hm)
        rw [this]
        exact q _ _ (Same.refl H) rz_int
section
variable {X : Cx}
theorem b_max3 (hc : X.calm = true) : BI X "max" (ii3 maxI) := ⟨⟨_, _, L2.call_max3Nu hc, max3_A, boot_max', .inl ⟨_, rfl⟩⟩, by decide, by decide⟩
theorem b_min3 (hc : X.calm = true) : BI X "min" (ii3 minI) := ⟨⟨_, _, L2.call_min3Nu hc, min3_A, boot_min', .inl ⟨_, rfl⟩⟩, by decide, by decide⟩
theorem b_maxL (hc : X.calm = true) : BI X "max" (ofL maxI) := ⟨⟨_, _, cr_max hc, maxL_A, boot_max', .inl ⟨_, rfl⟩⟩, by decide, by decide⟩
theorem b_minL (hc : X.calm = true) : BI X "min" (ofL minI) := ⟨⟨_, _, cr_min hc, minL_A, boot_min', .inl ⟨_, rfl⟩⟩, by decide, by decide⟩
end
end VL


set_option Elab.async false
set_option linter.all false
set_option maxRecDepth 100000
set_option maxHeartbeats 2000000
/-! VL24: a, b, .. = x, y, .. of more than three names -/
namespace VL
open PySem PySem.Spec PyProof.Rows L2
variable [TbP]
def gNames : List Nat → TGs
  | [] => gNil
  | i :: is => gCons (gName i) (gNames is)
theorem gNames_ok {Q : L2.St → Hp → Prop} : ∀ {is : List Nat} {vs : List V} {σ : L2.St} {H : Hp}, is.length = vs.length → Q (sets σ is vs) H → gNames is vs σ H Q
  | [], [], σ, H, _, q => ⟨rfl, q⟩
  | i :: is, v :: vs, σ, H, l, q => ⟨v, vs, rfl, gNames_ok (is := is) (by simpa using l) q⟩
  | [], _ :: _, _, _, l, _ => by simp at l
  | _ :: _, [], _, _, l, _ => by simp at l
section
variable {X : Cx} {W : WX} {fs : AF} {pos pt pt2 : Pos} {es tes : List Expr} {kt k2 : Nat}
theorem s_parN (is : List Nat) (hc : X.calm = true) (hl : is.length ≤ 100) (ha : PA X es (tA (gd X W) fs)) (g : PGs X tes (gNames is)) (hn : (assignEach tes X.env).length = is.length := by rfl) (hst : (assignEach tes X.env).findIdx? (·.1) = none := by rfl)
    (hs : swapsWithSole [.Tuple tes kt pt] (.Tuple es k2 pt2) pos.line X.env = pure false := by rfl) (hw : swappedStores [.Tuple tes kt pt] (.Tuple es k2 pt2) X.env = pure none := by rfl)
    (h1 : (assignEach [.Tuple tes kt pt] X.env).map (·.2) = [assign (.Tuple tes kt pt) X.env] := by rfl) :
    PS X (.Assign [.Tuple tes kt pt] (.Tuple es k2 pt2) pos) (tS (gd X W) (parF is fs)) :=
  PS.imp (ps_asg (pe_tup ha) (pg_tup hc g hn hst) hs hw h1) fun Z σ H h => by
    obtain ⟨A, env, rel, h⟩ := h
    refine ⟨A, env, rel, SPost.cut h fun rs e1 A1 H1 s1 h1 vs hvs => ?_⟩
    have core := par_core s1 hvs h1
    refine ⟨?_, fun p hp => ?_⟩
    · rw [← core.1]; exact le_line (Nat.le_trans hl (by decide))
    · have sm := Stp.same s1.rel (same_upd (o := .tup vs) hp)
      obtain ⟨l, z⟩ := par_core (s1.trans sm) (hvs.step s1.rel sm) h1
      exact ⟨p, vs, rfl, SqT.of upd_same, l.symm, gNames_ok l z⟩
end
end VL


set_option Elab.async false
set_option linter.all false
set_option maxRecDepth 100000
set_option maxHeartbeats 2000000
/-! VL25: calls by keywords (all parameters, in their order) -/
namespace VL
open PySem PySem.Spec PyProof.Rows L2
variable [TbP]
theorem PK.imp {X : Cx} {kws : List Keyword} {t t' : TA} (h : PK X kws t) (i : ∀ σ H Q, t' σ H Q → t σ H Q) : PK X kws t' := ⟨fun pos pins s σ H Q I q => h.run pos pins s σ H Q I (i σ H Q q)⟩
/-- what binds the keywords, as they stand, to the parameters -/
def KwB (K : Frag) (fd : FuncData) (ps : List Str) : Prop := ∀ (s : Shared) (ws : List Value), K.In s.heap → ws.length = ps.length → BindsTo s fd ⟨[], ps.zip ws⟩ (ps.zip ws)
structure DefK (P : Program) (w : World) (K : Frag) (mg : Str → Option Value) (base : Heap) (k : Nat) (x : Str) (ps : List Str) (F : FD) : Prop where
  ex : ∃ (f : Addr) (fd : FuncData), FnG P w K mg base (L2.CX P w) k f fd ps (spF K mg F) ∧ mg x = some (.ref f) ∧ PySem.W.keepIn K (.ref f) = true ∧ KwB K fd ps
structure HereK (K : Frag) (mg : Str → Option Value) (x : Str) (st : Stmt) (ps : List Str) : Prop where
  ex : ∃ (f : Addr) (fd : FuncData), mg x = some (.ref f) ∧ FunD K x x (defArgs st) (defBody st) (defScope st) [] [] f fd ∧ KwB K fd ps
theorem HereK.def {P : Program} {w : World} {K : Frag} {mg : Str → Option Value} {base : Heap} {x : Str} {st : Stmt} {ps N : List Str} {k np n : Nat} {body : SF} (h : HereK K mg x st ps) (S : FnScope N ps (defScope st)) (hnp : ps.length = np) (hn : N.length = n)
    (hb : ∀ (f : Addr) (cdv : Value) (A : Around) (outer : List Env) (s : Shared) (H : Hp) (E : XK), Room k (A.deeper (envOfC x (defScope st) s.heap.objs.size f cdv)) → (A.deeper (envOfC x (defScope st) s.heap.objs.size f cdv)).guards = some [] →
      PSs (cxOf (L2.CX P w) P w K mg base N x (defScope st) f cdv A outer s H E) (defBody st) (tS (gd (cxOf (L2.CX P w) P w K mg base N x (defScope st) f cdv A outer s H E) (fun cls d _ H => E cls d H)) body)) : DefK P w K mg base (k + 1) x ps (runF np n body) := by
  subst hnp hn
  obtain ⟨f, fd, hm, F, hbd⟩ := h.ex
  exact ⟨f, fd, fnG_of F S (fun vs H Q E h => spF_len h) fun cdv A outer s H vs Q E hr hgd h => ⟨_, hb f cdv A outer s H E hr hgd, body_end h⟩, hm, F.kp, hbd⟩
theorem FunD.kwb {K : Frag} {x qual : Str} {params : Arguments} {body : List Stmt} {scope : Scope} {f : Addr} {fd : FuncData} {ps : List Str} (F : FunD K x qual params body scope [] [] f fd)
    (h : ∀ (kV doc pm : Value) (an : Option Addr) (cdv ct : Value) (us : List Value), us.length = ps.length → bindArgs (PySem.W.fnOf x qual params body scope .none kV doc pm an cdv ct) ⟨[], ps.zip us⟩ = pure (ps.zip us)) : KwB K fd ps := by
  obtain ⟨oc, od, dV, kV, doc, pm, an, cdv, ct, osl, rfl, lk, hcd, hD, hK⟩ := F.ex
  rcases hD with ⟨_, rfl⟩ | ⟨e, _⟩
  · exact fun s ws _ hl => .of_eq (h kV doc pm an cdv ct ws hl)
  · exact absurd rfl e
theorem HereK.of {K : Frag} {mg : Str → Option Value} {x : Str} {st : Stmt} {ps : List Str} {f : Addr} {fd : FuncData} (hm : mg x = some (.ref f)) (F : FunD K x x (defArgs st) (defBody st) (defScope st) [] [] f fd)
    (b : ∀ (kV doc pm : Value) (an : Option Addr) (cdv ct : Value) (us : List Value), us.length = ps.length → bindArgs (PySem.W.fnOf x x (defArgs st) (defBody st) (defScope st) .none kV doc pm an cdv ct) ⟨[], ps.zip us⟩ = pure (ps.zip us)) : HereK K mg x st ps :=
  ⟨f, fd, hm, F, FunD.kwb F b⟩
theorem SaysX.hereK {P : Program} {z : Wd} {w : World} {K : Frag} {h : Heap} {mg : Str → Option Value} (s : SaysX P z w K) (X : K.In h) (G : h.Ns mainGlobals mg) (i j : Nat) {x : Str} {st : Stmt} {ps : List Str}
    (b : ∀ (kV doc pm : Value) (an : Option Addr) (cdv ct : Value) (us : List Value), us.length = ps.length → bindArgs (PySem.W.fnOf x x (defArgs st) (defBody st) (defScope st) .none kV doc pm an cdv ct) ⟨[], ps.zip us⟩ = pure (ps.zip us)) (e1 : z.fn[i]? = some ⟨(x, none), x, x, defArgs st, defBody st, defScope st, [], []⟩ := by rfl) (e2 : z.fa[j]? = some (.glo x) := by rfl) : HereK K mg x st ps := by
  obtain ⟨fd, F⟩ := s.d.def_ i e1
  exact HereK.of (He.glo_ok X G (s.d.fact j e2)) F b
section
variable {X : Cx} {W : WX} {f : EF} {g fs : AF} {e : Expr} {kws : List Keyword} {nm : Option Str} {kpos p pos : Pos} {x : Str} {F : FD} {k : Nat} {ps : List Str}
theorem k_nil : PK X [] (tA (gd X W) nilF) := PK.imp pk_nil fun σ H Q h => by
  obtain ⟨A, env, rel, h⟩ := h
  exact h A H (.refl rel) [] rfl
theorem k_cons (he : PE X e (tE (gd X W) f)) (hr : PK X kws (tA (gd X W) g)) : PK X (⟨nm, e, kpos⟩ :: kws) (tA (gd X W) (consF f g)) :=
  PK.imp (pk_cons he hr) fun σ H Q h => by
    obtain ⟨A, env, rel, h⟩ := h
    refine ⟨A, env, rel, (Post.bind h).imp fun r e1 A1 H1 s1 h1 v hv => ?_⟩
    refine ⟨A1, e1, s1.rel, (Post.bind h1).imp fun rs e2 A2 H2 s2 h2 vs hvs => ?_⟩
    refine h2 A2 H2 (.refl s2.rel) (v :: vs) ⟨v, vs, rfl, hv.step s1.rel s2, hvs.weak fun a o ho z => ⟨?_, fun it q => ?_⟩⟩
    · cases q : H a with
      | none => exact q
      | some u => exact absurd z (s1.ext.al a (by rw [q]; simp))
    · subst q
      cases r with
      | tm d =>
        obtain ⟨b, e, _, _, _, ob⟩ := hv
        cases e
        obtain ⟨o', eo, _⟩ := ob.some
        rw [eo] at z; cases z
      | sh d => cases it
      | bo i => cases it
theorem pe_callGK {fa : Addr} {fd : FuncData} {sp : Sp} {t : TA} {E : L2.St → XK} (F : FnG X.prog X.w X.K X.mg X.base (L2.CX X.prog X.w) k fa fd ps sp) (hr : Room k X.A) (hgd : X.A.guards = some []) (hg : Gl X x) (hm : X.mg x = some (.ref fa)) (hk : PySem.W.keepIn X.K (.ref fa) = true) (hb : KwB X.K fd ps) (hx : ∀ σ, PassesAt (L2.CX X.prog X.w) X σ (E σ))
    (ha : PK X kws t) (hdb : (x == ("__debug__" : Str)) = false := by decide) (hall : (backToKw pos (keywordEach kws X.env)).all (·.1.isSome) = true := by rfl) (hks : (backToKw pos (keywordEach kws X.env)).filterMap (·.1) = ps := by rfl)
    (hpl : ((backTo pos (starEach [] X.env)).any (·.1) || (backToKw pos (keywordEach kws X.env)).any (·.1.isNone)) = false := by rfl) :
    PE X (.Call (.Name x p) [] kws pos) (tCallSD sp [] E t) := by
  refine ⟨fun pins s σ H Q I h => wpAny_Call_Name_kw (ld_glob I hg hm ?_ hdb)⟩
  refine PySem.W.callWith_KW0 (h₀ := X.base) I.ok.mod.kin hk hall (thn (ha.run pos pins s σ H _ I h) fun ws s1 ⟨zs, H1, I1, r, q⟩ => ⟨I1.kIn, ?_⟩) hpl
  rw [hks]
  have q : sp (zs ++ []) H1 Q (E σ) := q
  rw [List.append_nil] at q
  have hl : ws.length = ps.length := by rw [← r.length]; exact F.len _ _ _ _ q
  refine wpAny_call (codeAny_mono (F.run X.A X.stack s1 H1 ⟨[], ps.zip ws⟩ ws zs Q (E σ) hr hgd I1.env0 (hb s1 ws I1.kIn hl) r q) fun r s' hq => ?_)
  cases r with
  | error e => exact hx σ pins H1 s1 e s' I1 hq
  | ok fl =>
    cases fl with
    | ret u => exact I1.after hq
    | next => exact False.elim hq
    | brk => exact False.elim hq
    | cont => exact False.elim hq
theorem e_ck (D : DefK X.prog X.w X.K X.mg X.base k x ps F) (hr : Room k X.A) (hgd : X.A.guards = some []) (tk : Takes X W) (ha : PK X kws (tA (gd X W) fs)) (hg : Gl X x := by rfl) (hdb : (x == ("__debug__" : Str)) = false := by decide)
    (hall : (backToKw pos (keywordEach kws X.env)).all (·.1.isSome) = true := by rfl) (hks : (backToKw pos (keywordEach kws X.env)).filterMap (·.1) = ps := by rfl)
    (hpl : ((backTo pos (starEach [] X.env)).any (·.1) || (backToKw pos (keywordEach kws X.env)).any (·.1.isNone)) = false := by rfl) : PE X (.Call (.Name x p) [] kws pos) (tE (gd X W) (callF F fs)) := by
  obtain ⟨f, fd, F', hm, hk, hb⟩ := D.ex
  exact PE.imp (pe_callGK F' hr hgd hg hm hk hb (fun σ => passAt tk σ) ha hdb hall hks hpl) fun _ _ _ h => callF_sound (G := gd X W) h
end
end VL


set_option Elab.async false
set_option linter.all false
set_option maxRecDepth 100000
set_option maxHeartbeats 4000000
/-! EX1: an own error over a built-in one, whose __init__ calls super's and stores one field: what the call of its class leaves. -/
namespace VL
open PySem PySem.Spec PyProof.Rows L2
/-- a built-in error under own ones -/
structure EB (B nw ini : String) (tl : List Value) : Prop where
  fx : ExcBaseFacts B nw ini tl
  kx : PySem.W.KxsFacts B ini
  ps : ∀ self, refuseLoop self "__setattr__" tl = pure ()
  ob : tl.contains (.type "object") = true
abbrev veT : List Value := [.type "ValueError", .type "Exception", .type "BaseException", .type "object"]
abbrev oeT : List Value := [.type "OverflowError", .type "ArithmeticError", .type "Exception", .type "BaseException", .type "object"]
theorem eb_VE : EB "ValueError" "ValueError.__new__" "ValueError.__init__" veT := ⟨F.excBase_ValueError, PySem.W.kxs_ValueError, F.store_ValueError.passes, by decide +kernel⟩
theorem eb_OE : EB "OverflowError" "OverflowError.__new__" "OverflowError.__init__" oeT := ⟨F.excBase_OverflowError, PySem.W.kxs_OverflowError, F.store_OverflowError.passes, by decide +kernel⟩
theorem tail_pass {tl : List Value} (self : Value) (hp : refuseLoop self "__setattr__" tl = pure ()) : ∀ l : List Value, PySem.W.excTail tl l = true → refuseLoop self "__setattr__" l = pure () := by
  intro l
  induction l with
  | nil =>
    intro e
    rcases PySem.W.excTail_cases _ e with ⟨c, r', q, h⟩ | q
    · cases q
    · rw [q]; exact hp
  | cons a r ih =>
    intro e
    rcases PySem.W.excTail_cases (a :: r) e with ⟨c, r', q, h⟩ | q
    · cases q
      rw [refuseLoop_ref]
      exact ih h
    · rw [q]; exact hp
end VL
namespace VL
open PySem PySem.Spec PyProof.Rows L2
/-- what the written part says of an own error's __init__: f the function, D the class it stands in -/
structure InitF (P : Program) (K : Frag) (f D : Addr) (qual : Str) (params : Arguments) (body : List Stmt) (scope : Scope) (x : Str) : Prop where
  lk : ∃ oc od dV kV doc pm an cda ct cc osl, K.lookup f = some ⟨oc, od, .func (PySem.W.ksFn "__init__" qual params body scope dV kV doc pm an (.ref cda) ct cc), osl⟩ ∧ PySem.W.codeIn K (.ref cda) qual = true ∧
    (∃ ccl cdd vs ccs tf, K.lookup cda = some ⟨ccl, cdd, .fields vs, ccs⟩ ∧ vs[2]? = some (.str P.main.file tf)) ∧
    (∃ cl cld csl, K.lookup cc = some ⟨cl, cld, .cell (some (.ref D)), csl⟩) ∧
    ∀ us, bindArgs (PySem.W.ksFn "__init__" qual params body scope dV kV doc pm an (.ref cda) ct cc) ⟨us, []⟩ = bindArgs (PySem.W.ksFn "__init__" qual params body scope .none kV doc pm an (.ref cda) ct cc) ⟨us, []⟩
  cD : ∃ cd, PySem.W.clsIn K D = some cd
  st : PySem.W.nsIn K cStatics "thirdparty.any" = some none
  co : scope.isCoroutine = false
  ge : scope.isGenerator = false
  kd : scope.kind = .function
  nc : ∀ y ∈ scope.names, y.2 ≠ .cell
  ks : scope.names.lookup ("super" : Str) = some .globalImplicit
  kc : scope.names.lookup ("__class__" : Str) = some .free
  k0 : scope.names.lookup ("self" : Str) = some .local
  kx : scope.names.lookup x = some .local
  hd : ∃ ar : Arg, (params.posonlyargs ++ params.args).head? = some ar ∧ ar.arg = "self"
  nx : x ≠ "self"
  nb : (x == ("__debug__" : Str)) = false
  bd : ∀ (kV doc pm : Value) (an : Option Addr) (cda ct : Value) (cc : Addr) (a b : Value), bindArgs (PySem.W.ksFn "__init__" qual params body scope .none kV doc pm an cda ct cc) ⟨[a, b], []⟩ = pure [(("self" : Str), a), (x, b)]
  tp : (P.main.scope.names.lookup ("super" : Str)).isSome = false
/-- .. of the error's class C -/
structure XcC (K : Frag) (C f D : Addr) (nw ini B : String) (tl : List Value) (fl : Str) : Prop where
  q : PySem.W.excInitIn K C tl nw = true
  ov : PySem.W.excOver K C tl = true
  dc : PySem.W.hasDictIn K C = true
  it : PySem.W.findIn K (.ref C) "__init__" = some (some (.ref f))
  ty : PySem.W.typeIn K (.ref f) = some (.type "function")
  sa : PySem.W.findIn K (.ref C) "__setattr__" = some (some (.builtin "object.__setattr__"))
  nf : PySem.W.findIn K (.ref C) fl = some none
  mr : PySem.W.mroIn K C (.ref D) = some true
  sp : PySem.W.ks_superIn K C D "__init__" = some (some (.builtin ini))
  sB : PySem.W.subIn K (.ref C) (.type B) = some true
  sx : PySem.W.subIn K (.ref C) (.type "BaseException") = some true
  tC : PySem.W.typeIn K (.ref C) = some (.type "type")
  kp : PySem.W.keepIn K (.ref C) = true
abbrev excA (C t : Addr) (dv : Option Addr) : Obj := { cls := .ref C, dict := dv, data := .fields #[.ref t, .none, .none, .none, .bool false, .none] }
section
variable {P : Program} {w : World} {A : Around} {E : Value → Shared → Prop} {R : Result → Shared → Prop} {K : Frag}
/-- the one field is stored -/
theorem field_new {hp : Heap} {g : Array GenState} {d : Drawn} {t : Nat} {os : OsState} {tl : List Value} {name : Str} {v : Value} {x C : Addr} {fv : Array Value} {Q : Unit → Shared → Prop} (hps : ∀ self, refuseLoop self "__setattr__" tl = pure ()) (hob : tl.contains (.type "object") = true)
    (X : K.In hp) (hx : hp.get? x = some { cls := .ref C, data := .fields fv }) (hov : PySem.W.excOver K C tl = true) (hdc : PySem.W.hasDictIn K C = true) (ha : PySem.W.findIn K (.ref C) name = some none) (hsa : PySem.W.findIn K (.ref C) "__setattr__" = some (some (.builtin "object.__setattr__")))
    (hq : ∀ h' tk' dx, (∀ b o, b ≠ x → hp.get? b = some o → h'.get? b = some o) → hp.objs.size ≤ dx → dx ≠ x → h'.get? x = some { cls := .ref C, dict := some dx, data := .fields fv } →
      h'.Ns1 dx (fun y => if y = name then some v else none) → Q () ⟨h', g, d, tk', os⟩) :
    wpAny (model P w) A (setAttr (.ref x) name v) Q E ⟨hp, g, d, t, os⟩ := by
  obtain ⟨cd, hcd, hh⟩ := PySem.W.any_some hdc
  have hm : PySem.W.excTail tl cd.mro = true := by
    unfold PySem.W.excOver at hov
    rw [hcd] at hov
    simp only [Option.any_some] at hov
    split at hov
    · rename_i C' bm e
      rw [e]
      exact (Bool.and_eq_true_iff.mp hov).2
    · cases hov
  have ne : cd.mro.isEmpty = false := by
    cases e : cd.mro with
    | nil =>
      rw [e] at hm
      rcases PySem.W.excTail_cases _ hm with ⟨c, r', q, h⟩ | q
      · cases q
      · rw [← q] at hob; cases hob
    | cons a r => rfl
  have I0 : PySem.W.InstAt hp x { cls := .ref C, data := .fields fv } C none := ⟨hx, rfl, rfl, trivial⟩
  refine PySem.W.set_plain X I0 hsa ?_
  have SF := PySem.F.store_object
  have hob2 : cd.mro.contains (.type "object") = true := (PySem.W.excTail_contains "object" _ hm).trans hob
  have far : x ≠ hp.objs.size := Nat.ne_of_lt (Heap.lt_size hx)
  have isObj : PySem.W.Looks (model P w) hp (isInstance (.ref x) (.type "object")) true := I0.type.andThen (PySem.W.looks_mroIn X (by unfold PySem.W.mroIn; rw [hcd, Option.bind_some, if_neg (by rw [ne]; decide), hob2]))
  refine codeAny_call_builtin SF.slot.plain SF.entry (@PySem.W.check_slot (model P w) _ _ ⟨hp, g, d, t + 1, os⟩ "object.__setattr__" "object" "__setattr__" (.ref x) [.str name t, v] [] _ SF.kind SF.split isObj (SF.args (.ref x) (.str name t) v) ?_)
  have lm : PySem.W.Looks (model P w) hp (mroOf (.ref C)) cd.mro := (PySem.W.looks_clsIn X hcd).andThen .now
  have ls : PySem.W.Looks (model P w) hp (Builtin.ObjectAttr.storeTaker? none) none := .now
  have lc : PySem.W.Looks (model P w) hp (classData C) cd := PySem.W.looks_clsIn X hcd
  rw [PySem.W.osa_eq, refuse_eq]
  refine wpAny_bind (wpAny_bind (I0.type.at (wpAny_bind (lm.at ?_))))
  rw [tail_pass _ (hps _) _ hm]
  refine wpAny_pure (wpAny_bind (I0.type.at (wpAny_bind ((PySem.W.looks_findIn X ha).at (wpAny_bind (ls.at ?_))))))
  show wpAny _ _ (Builtin.ObjectAttr.storeInOwnDict (.ref x) (.ref C) (.str name t) name v false) _ _ _
  obtain ⟨nm, bs, mro, ns, qn, hd, sn, sb, ab, col, del⟩ := cd
  dsimp only at hh
  subst hh
  unfold Builtin.ObjectAttr.storeInOwnDict Builtin.ObjectAttr.ownDictForStores
  repeat (first | with_reducible refine HandSPX.store_in_new ?_ ?_ | with_reducible refine wpAny_loadPart_at hx ?_ | with_reducible refine lc.at ?_ | wp_step)
  · exact ⟨_, #[], _, (Heap.get?_update_ne _ _ _ _ far.symm).trans (Heap.get?_push_at rfl rfl), rfl, fun e he => absurd he (by simp), fun _ => rfl⟩
  · intro h' tk' hn' hs
    have there : (hp.push { cls := .type "dict", data := .dict #[] }).get? x = some { cls := .ref C, data := .fields fv } := Heap.get?_push_of_some _ hx
    refine hq h' tk' hp.objs.size (fun b o hb ho => ?_) (Nat.le_refl _) far.symm ?_ hn'
    · exact (hs.2 b (Nat.ne_of_lt (Heap.lt_size ho))).trans ((Heap.get?_update_ne _ _ _ _ hb).trans (Heap.get?_push_of_some _ ho))
    · exact (hs.2 x far).trans (Heap.get?_update_self _ there rfl)
end
end VL
namespace VL
open PySem PySem.Spec PyProof.Rows L2
section
variable {P : Program} {w : World} {A : Around} {E : Value → Shared → Prop} {R : Result → Shared → Prop} {K : Frag} {C f D e t0 : Addr} {B nw ini : String} {tl : List Value} {fl x qual : Str} {params : Arguments} {body : List Stmt} {scope : Scope} {s : Shared} {mg mb : Str → Option Value} {u : Value} {p0 p1 p2 p3 p4 p5 p6 p7 p8 p9 : Pos}
/-- the wrapper that super gives, called: the args are laid anew -/
theorem wrap_call {hp : Heap} {g : Array GenState} {d : Drawn} {t : Nat} {os : OsState} {m : Addr} {rest : List Value} {Q : Value → Shared → Prop} (eb : EB B nw ini tl) (T : XcC K C f D nw ini B tl fl) (X : K.In hp) (hm : hp.get? m = some (PySem.W.kxs_mw ini e)) (he : hp.get? e = some (excA C t0 none)) (hz : rest.length ≤ sizeLine)
    (hq : ∀ h' t1, (∀ b o, b ≠ e → hp.get? b = some o → h'.get? b = some o) → h'.get? e = some (excA C t1 none) → Q .none ⟨h', g, d, t, os⟩) :
    wpAny (model P w) A (call (.ref m) rest) Q E ⟨hp, g, d, t, os⟩ := by
  obtain ⟨nm, N', qn, bs, bm, hdct, sn, sub, ab, col, dd, k0, k1, k2, k3, k5, hC, hT⟩ := PySem.W.excInit_of X T.q
  refine wpAny_call (codeAny_of_tree ?_)
  show wpAny _ A.in1 (callAny (.ref m) ⟨rest, []⟩) _ _ _
  simp only [callAny]
  refine wpAny_bind (wpAny_load hm ?_)
  simp only [PySem.W.kxs_mw, show (Value.type "method-wrapper" == Value.type "method" || Value.type "method-wrapper" == Value.type "builtin_function_or_method" || Value.type "method-wrapper" == Value.type "method-wrapper") = true by decide, if_true]
  refine PySem.W.KFB.if_so (by decide) ?_
  refine wpAny_bind (PySem.W.check_bound_init eb.fx.toExcCallFacts hC he rfl ?_)
  refine wpAny_bind (wpAny_pure (wpAny_pure ?_))
  refine ⟨plainId_quiet eb.fx.init.plain _, codeAny_builtin eb.fx.initEntry ?_⟩
  exact PySem.W.exc_init_tree (cls := .ref C) (t0 := t0) (dv := none) (c2 := .none) (c3 := .none) (b4 := .bool false) he hz fun h' k e' _ => hq h' _ k e'
/-- __init__(self, x): super().__init__(x); self.fl = x -/
theorem init_run (eb : EB B nw ini tl) (I : InitF P K f D qual params body scope x) (T : XcC K C f D nw ini B tl fl)
    (hb : body = [.Expr (.Call (.Attribute (.Call (.Name "super" p0) [] [] p1) "__init__" p2) [.Name x p3] [] p4) p5, .Assign [.Attribute (.Name "self" p6) fl p7] (.Name x p8) p9])
    (hc : ∀ env : Env, ∃ pl : Sem Bool, eval (.Call (.Attribute (.Call (.Name "super" p0) [] [] p1) "__init__" p2) [.Name x p3] [] p4) env = (do
      let ov ← attributeBase (.Call (.Name "super" p0) [] [] p1) "__init__" env (eval (.Call (.Name "super" p0) [] [] p1) env)
      standAt p2.atName
      let (f, first) ← holding [ov] (getMethod ov "__init__" pl)
      callWith p4 f first (backTo p4 (starEach [.Name x p3] env)) []))
    (X : K.In s.heap) (hlim : s.heap.NoLimit) (hroom : A.depth < recursionLimit) (G : s.heap.Ns mainGlobals mg) (Bn : s.heap.Ns builtinsNs mb) (hg : mg "super" = none) (hbi : mb "super" = some (.type "super"))
    (he : s.heap.get? e = some (excA C t0 none)) (hKe : K.lookup e = none)
    (hq : ∀ h' t1 dx tk, (∀ b o, b ≠ e → s.heap.get? b = some o → h'.get? b = some o) → s.heap.objs.size ≤ dx → dx ≠ e → h'.get? e = some (excA C t1 (some dx)) →
      h'.Ns1 dx (fun y => if y = fl then some u else none) → R (.ok (.ret .none)) { s with heap := h', toks := tk }) :
    codeAny (model P w) A (.call (.ref f) ⟨[.ref e, u], []⟩) R s := by
  obtain ⟨oc, od, dV, kV, doc, pm, an, cda, ct, cc, osl, hf, hcd, ⟨ccl, cdd, vs, ccs, tf, hcda, hvs⟩, ⟨cl, cld, csl, hcc⟩, hdV⟩ := I.lk
  obtain ⟨cdD, hD⟩ := I.cD
  obtain ⟨ar, har, har2⟩ := I.hd
  refine ks_codeAny_call_defAt (fd := PySem.W.ksFn "__init__" qual params body scope dV kV doc pm an (.ref cda) ct cc) (body := body) (binds := [(("self" : Str), .ref e), (x, u)]) hroom (X _ _ hf) rfl hlim (PySem.W.codeRec_of X hcd) rfl
    (BindsTo.of_eq ((hdV _).trans (I.bd kV doc pm an (.ref cda) ct cc (.ref e) u))) I.nc (fun y hy => ?_) (fun h₀ hns hk => ?_) I.co I.ge I.kd
  · simp only [List.mem_cons, List.not_mem_nil, or_false] at hy
    rcases hy with rfl | rfl
    · exact I.k0
    · exact I.kx
  have lks : (fun y : Str => ([(("self" : Str), Value.ref e), (x, u)] : List (Str × Value)).reverse.lookup y) ("self" : Str) = some (.ref e) := by
    have : (("self" : Str) == x) = false := by simpa using Ne.symm I.nx
    simp [List.lookup, this]
  have lkx : (fun y : Str => ([(("self" : Str), Value.ref e), (x, u)] : List (Str × Value)).reverse.lookup y) x = some u := by
    simp [List.lookup]
  have X0 : K.In h₀ := PySem.W.Frag.In.keeps X hk
  subst hb
  obtain ⟨oD, hD1, hD2⟩ : ∃ oD, h₀.get? D = some oD ∧ oD.data = .cls cdD := by
    unfold PySem.W.clsIn at hD
    split at hD
    · rename_i c d cd' sl ho
      cases hD
      exact ⟨_, X0 _ _ ho, rfl⟩
    · cases hD
  have he0 := hk _ _ he
  obtain ⟨hp, g, d, tk, os⟩ := s
  have hint : ∀ L : Addr, interactive (callEnv (PySem.W.ksFn "__init__" qual params [.Expr (.Call (.Attribute (.Call (.Name "super" p0) [] [] p1) "__init__" p2) [.Name x p3] [] p4) p5, .Assign [.Attribute (.Name "self" p6) fl p7] (.Name x p8) p9] scope dV kV doc pm an (.ref cda) ct cc) L f) = false := fun L => by
    have kd := I.kd
    simp only [interactive, callEnv, newEnv, kd] <;> rfl
  have hint := hint hp.objs.size
  obtain ⟨pl, hc⟩ := hc (callEnv (PySem.W.ksFn "__init__" qual params _ scope dV kV doc pm an (.ref cda) ct cc) hp.objs.size f)
  refine ks_wpAt_execs_cons (ks_wpAt_Expr_any (hi := hint) (ks_wpAt_MethodCall (pl := pl) (he := hc) (ks_wpAt_super_base (env := callEnv (PySem.W.ksFn "__init__" qual params _ scope dV kV doc pm an (.ref cda) ct cc) hp.objs.size f) I.ks I.kc (by decide) rfl (X0 _ _ hf) rfl har rfl (X0 _ _ hcda) rfl hvs (by simp) I.tp ?_)))
  refine PySem.W.ks_loadName_global I.kd I.ks (Calls.loadGlobal_builtin (G.keeps hk) hg (Bn.keeps hk) hbi ⟨rfl, ?_⟩)
  refine wpAny_loadName_free I.kd I.kc rfl ⟨_, X0 _ _ hcc, rfl⟩ ?_
  rw [har2]
  refine wpAny_loadName_local I.kd I.k0 hns lks ?_
  refine ks_wpAny_isType_cls hD1 hD2 ⟨rfl, ?_⟩
  refine ks_wpAny_call_super hD1 hD2 he0 rfl (fun c z => by cases z) (PySem.W.looks_mroIn X0 T.mr) (fun h1 hso k1 => ?_)
  have X1 : K.In h1 := PySem.W.Frag.In.keeps X0 k1
  have he1 := k1 _ _ he0
  have hns1 := Heap.Ns.keeps hns k1
  have I1 : PySem.W.InstAt h1 e (excA C t0 none) C none := ⟨he1, rfl, rfl, trivial⟩
  obtain ⟨cdC, hcC, hdC⟩ := PySem.W.any_some T.dc
  have hm := T.sp
  unfold PySem.W.ks_superIn at hm
  rw [hcC] at hm
  refine PySem.W.kxs_getMethod eb.kx hso (PySem.W.looks_opaque X1 I.st) (l₀ := cdC.mro) (fun A Q E s k q => wpAny_bind ((PySem.W.looks_clsIn X1 hcC) A _ E s k (wpAny_pure q))) rfl X1 hm (I1.type.andThen (PySem.W.looks_subIn X1 T.sB)) (PySem.W.ks_ne X1 I1 hcC) (by decide) ?_
  have k2 : ∀ b o, h1.get? b = some o → (h1.push (PySem.W.kxs_mw ini e)).get? b = some o := fun b o z => Heap.get?_push_of_some _ z
  have hw2 : (h1.push (PySem.W.kxs_mw ini e)).get? h1.objs.size = some (PySem.W.kxs_mw ini e) := Heap.get?_push_at rfl rfl
  have X2 : K.In (h1.push (PySem.W.kxs_mw ini e)) := PySem.W.Frag.In.keeps X1 k2
  have he2 := k2 _ _ he1
  have hns2 := Heap.Ns.keeps hns1 k2
  refine PySem.W.kxs_callWith (i := ini) (x := e) rfl (Calls.evalArgs_plain (Calls.spliced_cons (wpAny_Name (wpAny_loadName_local I.kd I.kx hns2 lkx ?_) I.nb)))
  refine Calls.spliced_nil ⟨hw2, ?_⟩
  refine wrap_call eb T X2 hw2 he2 (by rw [sizeLine_eq]; show 1 ≤ _; decide) fun h3 t1 k3 he3 => ?_
  have eL : hp.objs.size ≠ e := Nat.ne_of_gt (Heap.lt_size he)
  have hns3 : h3.Ns hp.objs.size (fun y : Str => ([(("self" : Str), Value.ref e), (x, u)] : List (Str × Value)).reverse.lookup y) := by
    obtain ⟨oL, es, ep, hL, r⟩ := hns2
    exact ⟨oL, es, ep, k3 _ _ eL hL, r⟩
  have X3 : K.In h3 := fun b o z => k3 b o (fun q => by rw [q, hKe] at z; cases z) (X2 b o z)
  refine ks_wpAt_execs_cons (wpAt_of_wpAny (plainObj_wpAny_Assign_Attribute (wpAny_Name (wpAny_loadName_local I.kd I.kx hns3 lkx (wpAny_Name (wpAny_loadName_local I.kd I.k0 hns3 lks ?_))) I.nb)))
  refine field_new eb.ps eb.ob X3 he3 T.ov T.dc T.nf T.sa fun h4 tk4 dx k4 dn de hx hn1 => ?_
  have up : ∀ b o, b ≠ e → hp.get? b = some o → h4.get? b = some o := fun b o nb z => k4 b o nb (k3 b o nb (k2 _ _ (k1 _ _ (hk _ _ z))))
  refine wpAt_of_wpAny (wpAny_execs_nil ?_)
  refine hq h4 t1 dx _ up ?_ de hx hn1
  obtain ⟨oL, _, _, hL, _⟩ := hns3
  exact Nat.le_trans (Nat.le_of_lt (Heap.lt_size hL)) dn
end
end VL


set_option Elab.async false
set_option linter.all false
set_option maxRecDepth 100000
set_option maxHeartbeats 4000000
/-! EX2: own errors raised and caught. -/
namespace VL
open PySem PySem.Spec PyProof.Rows L2
variable [TbP]
/-- an own error, as the module holds it: its class's name, the name of its one field -/
structure ErrT (P : Program) (K : Frag) (mg : Str → Option Value) (c fl : Str) : Prop where
  ex : ∃ (C f D : Addr) (B nw ini : String) (tl : List Value) (qual : Str) (params : Arguments) (scope : Scope) (x : Str) (p0 p1 p2 p3 p4 p5 p6 p7 p8 p9 : Pos), mg c = some (.ref C) ∧ EB B nw ini tl ∧
    InitF P K f D qual params [.Expr (.Call (.Attribute (.Call (.Name "super" p0) [] [] p1) "__init__" p2) [.Name x p3] [] p4) p5, .Assign [.Attribute (.Name "self" p6) fl p7] (.Name x p8) p9] scope x ∧
    XcC K C f D nw ini B tl fl ∧
    (∀ env : Env, ∃ pl : Sem Bool, eval (.Call (.Attribute (.Call (.Name "super" p0) [] [] p1) "__init__" p2) [.Name x p3] [] p4) env = (do
      let ov ← attributeBase (.Call (.Name "super" p0) [] [] p1) "__init__" env (eval (.Call (.Name "super" p0) [] [] p1) env)
      standAt p2.atName
      let (f, first) ← holding [ov] (getMethod ov "__init__" pl)
      callWith p4 f first (backTo p4 (starEach [.Name x p3] env)) []))
/-- the reading of C(e) -/
def tMkE (C : Addr) (fl : Str) (te : TE) : L2.St → Hp → XK → Prop := fun σ H Q => te σ H fun v H1 => ∀ dx, H1 dx = none → Q (.ref C) (some dx) (upd H1 dx (.xd [(fl, v)]))
section
variable {X : Cx} {C : Addr} {c fl : Str} {e : Expr} {te : TE} {p pos : Pos}
theorem pmk_err (T : ErrT X.prog X.K X.mg c fl) (hr : Room 1 X.A) (hm : X.mg c = some (.ref C)) (hs : X.mg "super" = none) (he : PE X e te) (hg : Gl X c := by rfl) (hdb : (c == ("__debug__" : Str)) = false := by decide)
    (hse : starEach [e] X.env = (false, eval e X.env) :: starEach [] X.env := by rfl) : PMk X (.Call (.Name c p) [e] [] pos) (tMkE C fl te) := by
  intro pins s σ H Q I h
  obtain ⟨C', f, D, B, nw, ini, tl, qual, params, scope, x, p0, p1, p2, p3, p4, p5, p6, p7, p8, p9, hm', eb, Fi, Tc, hc⟩ := T.ex
  rw [hm] at hm'; cases hm'
  refine wpAny_Call_Name_kw (ld_glob I hg hm ?_ hdb)
  refine PySem.W.callWith_K (h₀ := X.base) I.ok.mod.kin Tc.kp ?_ hse (by rfl)
  rw [hse]
  show wpAny _ _ (spliced ((false, eval e X.env) :: backTo pos (starEach [] X.env))) _ _ s
  refine Calls.spliced_cons (thn (he.run pins s σ H _ I h) fun u s1 ⟨v, H1, I1, r1, q1⟩ => ?_)
  refine Calls.spliced_nil ⟨I1.kIn, ?_⟩
  show wpAny _ _ (call (.ref C) [u]) _ _ _
  obtain ⟨nm, N', qn, bs, bm, hdct, sn, sub, ab, col, dd, k0, k1, k2, k3, k5, hC, hT⟩ := PySem.W.excInit_of I1.kIn Tc.q
  obtain ⟨hp, g, dr, tk, os⟩ := s1
  have kk : ∀ b o, hp.get? b = some o → ((hp.push (PySem.W.kdv_tup [u])).push (HandSPX.excO C hp.objs.size)).get? b = some o := fun b o z => Heap.get?_push_of_some _ (Heap.get?_push_of_some _ z)
  have hget : ((hp.push (PySem.W.kdv_tup [u])).push (HandSPX.excO C hp.objs.size)).get? (hp.objs.size + 1) = some (HandSPX.excO C hp.objs.size) := by heap_get
  have fresh : hp.get? (hp.objs.size + 1) = none := Heap.get?_none_of_le (Nat.le_add_right _ _)
  have hsz : hp.objs.size ≤ hp.objs.size + 1 := Nat.le_succ _
  have hn : H1 (hp.objs.size + 1) = none := I1.hok.fresh hsz
  refine wpAny_call (HandSPX.call_own eb.fx hT hC (PySem.W.looks_findIn I1.kIn Tc.it) (fun self => PySem.W.bind_fn I1.kIn self Tc.ty) (by rw [sizeLine_eq]; show 1 ≤ _; decide) ?_)
  have hM := I1.ok.mod
  obtain ⟨mb, hb1, hb2⟩ := hM.blt
  refine init_run (s := ⟨(hp.push (PySem.W.kdv_tup [u])).push (HandSPX.excO C hp.objs.size), g, dr, tk, os⟩) (e := hp.objs.size + 1) (t0 := hp.objs.size) eb Fi Tc rfl hc (PySem.W.Frag.In.keeps I1.kIn kk) ?_ ?_ ((hM.glob.keeps I1.bk).keeps kk) ((hb1.keeps I1.bk).keeps kk) hs ((hb2 _ (by decide)).trans PyProof.Rows.Boot.«super») hget ?_ ?_
  · exact (hM.nolimit.keeps I1.bk).keeps kk
  · exact (hr.make C [u] []).depth
  · cases q : X.K.lookup (hp.objs.size + 1) with
    | none => rfl
    | some o =>
      have z := I1.kIn _ _ q
      rw [fresh] at z; cases z
  intro h2 t1 dx tk2 up dn de hx hns
  refine ⟨rfl, ?_⟩
  have nd : hp.objs.size ≤ dx := by
    rw [Heap.size_push, Heap.size_push] at dn
    omega
  obtain ⟨Gh, g1, g2⟩ := restrict h2 fun b => decide (b ≠ hp.objs.size + 1)
  have gk : ∀ b, b ≠ hp.objs.size + 1 → Gh.get? b = h2.get? b := fun b hb => g1 b (decide_eq_true hb)
  have ge : Gh.get? (hp.objs.size + 1) = none := g2 _ (by simp)
  have old : ∀ {b : Addr} {o : Obj}, hp.get? b = some o → b ≠ hp.objs.size + 1 := fun {b o} z q => by rw [q, fresh] at z; cases z
  have kG : ∀ b o, hp.get? b = some o → Gh.get? b = some o := fun b o z => (gk b (old z)).trans (up b o (old z) (kk b o z))
  obtain ⟨oD, es, ep, hD, hrest⟩ := hns
  have J : Inv X pins σ (upd H1 dx (.xd [(fl, v)])) ⟨Gh, g, dr, tk2, os⟩ := by
    refine I1.laid (t' := tk2) (a := dx) (o := .xd [(fl, v)]) (h' := Gh) kG nd ?_
    refine ⟨fun y => if y = fl then some u else none, ⟨oD, es, ep, (gk dx de).trans hD, hrest⟩, fun y => ?_⟩
    by_cases hy : y = fl
    · subst hy
      simpa [List.lookup, RelO] using r1
    · have : (y == fl) = false := by simpa using hy
      simp [List.lookup, this, hy, RelO]
  refine ⟨hp.objs.size + 1, _, _, ⟨Gh, g, dr, tk2, os⟩, upd H1 dx (.xd [(fl, v)]), .ref C, some dx, rfl, J, fun b o z => ?_, ge, hx, ⟨rfl, rfl⟩, rfl, rfl, ?_, rfl, J.bare, raises_own Tc.sx Tc.tC, q1 dx (I1.hok.fresh nd)⟩
  · by_cases hb : b = hp.objs.size + 1
    · rw [hb, ge] at z; cases z
    · exact (gk b hb).symm.trans z
  · rw [upd_ne (Ne.symm de)]; exact hn
end
end VL


set_option Elab.async false
set_option linter.all false
set_option maxRecDepth 100000
set_option maxHeartbeats 4000000
/-! EX3: raise C(e); try with several clauses 'except C as e'. -/
namespace VL
open PySem PySem.Spec PyProof.Rows L2
variable [TbP]
def raiseF (c fl : Str) (f : EF) : SF := fun env => (f env).st fun r e => match frz e r with
  | some (d, e2) => .ex ⟨c, fl, d⟩ e2
  | none => .no
theorem s_raise {X : Cx} {W : WX} {c fl : Str} {e : Expr} {fe : EF} {p pos pos' : Pos} (T : ErrT X.prog X.K X.mg c fl) (hr : Room 1 X.A) (hs : X.mg "super" = none) (hc : X.calm = true) (tk : Takes X W) (he : PE X e (tE (gd X W) fe)) (hg : Gl X c := by rfl) (hdb : (c == ("__debug__" : Str)) = false := by decide)
    (hse : starEach [e] X.env = (false, eval e X.env) :: starEach [] X.env := by rfl) : PS X (.Raise (some (.Call (.Name c p) [e] [] pos)) none pos') (tS (gd X W) (raiseF c fl fe)) := by
  obtain ⟨C, hm⟩ : ∃ C, X.mg c = some (.ref C) := by
    obtain ⟨C, _, _, _, _, _, _, _, _, _, _, _, _, _, _, _, _, _, _, _, _, hm, _⟩ := T.ex
    exact ⟨C, hm⟩
  refine PS.imp (ps_raise hc tk (pmk_err T hr hm hs he hg hdb hse)) fun Z σ H h => ?_
  obtain ⟨A, env, rel, h⟩ := h
  refine ⟨A, env, rel, SPost.cut h fun r e1 A1 H1 s1 h1 v hv dx n => ?_⟩
  cases q : frz e1 r with
  | none => rw [q] at h1; exact h1.elim
  | some z =>
    obtain ⟨d, e2⟩ := z
    rw [q] at h1
    obtain ⟨A2, s2, f2, rp, _⟩ := frz_ok s1 hv q
    have st := Stp.same s2.rel (same_upd (o := .xd [(fl, v)]) n)
    exact h1 A2 σ _ _ _ (s2.trans st) ⟨C, dx, v, hm, rfl, rfl, upd_same, rp.mono (fun _ z => z) (st.ext.kp s2.rel)⟩

/-! ### several clauses with a name each -/
abbrev ClT : Type := Value × Nat × (Addr → Value → Option Addr → TS)
def wNs (K : Frag) (Wo : WX) (D : Ends) : List ClT → WX
  | [] => Wo
  | q :: r => fun cls d σ H => ∃ b, PySem.W.exmOne K cls q.1 = some b ∧
      (b = true → ∀ a, H a = none → q.2.2 a cls d { nx := fun σ' H' => D.nx (σ'.set q.2.1 none) H', rt := D.rt, bk := fun σ' H' => D.bk (σ'.set q.2.1 none) H', ct := fun σ' H' => D.ct (σ'.set q.2.1 none) H' } (σ.set q.2.1 (some (.ref a))) H) ∧
      (b = false → wNs K Wo D r cls d σ H)
inductive Cls (X : Cx) : List ExceptHandler → List ClT → Prop
  | nil : Cls X [] []
  | cons {x n : Str} {c : Value} {i : Nat} {ts : Addr → Value → Option Addr → TS} {b0 : Stmt} {su : List Stmt} {np ps : Pos} {hds : List ExceptHandler} {l : List ClT} (hc : Names X x c) (hi : X.N[i]? = some n) (hl : X.env.kindOf n = some .local)
      (hsu : ∀ (a : Addr) (oe : Obj) (cls : Value) (d : Option Addr) (pn : List (Addr × Obj)), Zc cls d oe → (∃ vs, oe.data = .fields vs) → PSs (X.suite a ((a, oe) :: pn)) (b0 :: su) (ts a cls d)) (r : Cls X hds l) :
      Cls X (.ExceptHandler (some (.Name x np)) (some n) (b0 :: su) ps :: hds) ((c, i, ts) :: l)
theorem ps_tries {X : Cx} {body : List Stmt} {h0 : ExceptHandler} {hds : List ExceptHandler} {l : List ClT} {pos : Pos} {tb : WX → TS} {Wo : WX} (hs : X.stack = X.env :: X.outer) (hf : X.env.frame = some X.env.locals) (hN : X.N.Nodup) (tk : Takes X Wo)
    (hb : ∀ (W : WX) (pn : List (Addr × Obj)) (xe : Value → Shared → Prop), Takes (X.tr pn xe) W → PassesOwn (model X.prog X.w) X.A X.env xe → PSs (X.tr pn xe) body (tb W)) (hh : Cls X (h0 :: hds) l) :
    PS X (.Try body (h0 :: hds) [] [] pos) (fun D σ H => tb (wNs X.K Wo D l) D σ H) := by
  refine ⟨fun pins s σ H D I h => wpAny_Try_except ?_⟩
  have ok := I.ok
  have hfr : X.A.frames = some (X.env :: X.outer) := by rw [ok.frames, hs]
  refine wpAny_mono ((hb (wNs X.K Wo D l) (X.pn ++ pins) (fun e s1 => wpAny (model X.prog X.w) X.A (noteFrame e X.env) (fun _ s2 => wpAny (model X.prog X.w) X.A (setFlight e none) (fun _ s3 =>
    wpAny (model X.prog X.w) X.A (handleBy e X.env (h0 :: hds)) (SP X pins D) X.xe s3) X.xe s2) X.xe s1) (fun u s' xx => ?_) PassesOwn.looking).run [] s σ H D (I.toTry _) h) (fun f s1 hsp => ?_) (fun e s1 he => he)
  · obtain ⟨a, B, sI, pins', σ', H', cls, d, rfl, J', nb, up, sky, na, os, ag, w⟩ := xx
    have J : Inv X pins σ' H' sI := J'.ofTry ok
    have sky2 : Sky B (X.env :: X.outer) a (Zc cls d) X.env.locals s'.heap := hs ▸ sky
    show wpAny (model X.prog X.w) X.A (noteFrame (.ref a) X.env) _ _ _
    refine Sky.land Zc.steady hfr hf sky2 fun h3 fl3 up3 => ?_
    have J3 : Inv X pins σ' H' { s' with heap := h3 } := J.landed nb fl3.1 (up.trans up3) os ag
    obtain ⟨oe3, vs3, he3, hz3, hd3⟩ := fl3.there
    have nfr : a ∉ frs (X.env :: X.outer) := fun hm => by
      obtain ⟨_, o', q1, hnf⟩ := fl3.2.2.1.mem hm
      rw [he3] at q1; cases q1
      exact hnf _ hd3
    have nL : a ≠ X.env.locals := fun z => nfr (List.mem_filterMap.mpr ⟨X.env, List.mem_cons_self, by rw [hf, z]⟩)
    have nF : a ∉ X.fs := fun hm => by
      obtain ⟨e1, he1, q1⟩ := List.mem_filterMap.mp hm
      exact nfr (List.mem_filterMap.mpr ⟨e1, List.mem_cons_of_mem _ he1, q1⟩)
    have S3 := J3.suite he3 hd3 na nL nF
    have each : ∀ {hs2 : List ExceptHandler} {l2 : List ClT}, Cls X hs2 l2 → wNs X.K Wo D l2 cls d σ' H' → wpAny (model X.prog X.w) X.A (handleBy (.ref a) X.env hs2) (SP X pins D) X.xe { s' with heap := h3 } := by
      intro hs2 l2 hk
      induction hk with
      | nil =>
        intro w
        refine wpAny_handleBy_nil ?_
        obtain ⟨z1, z2, z3, oe, vs, T, oT, ts2, ye, yz, yd, y1, yr⟩ := id fl3
        unfold PySem.passOn
        refine wpAny_bind (wpAny_field ye yd y1 ?_)
        rw [if_neg (show ¬ ((Value.ref T == Value.none) = true) from by simp)]
        have rest : wpAny (model X.prog X.w) X.A (setFlight (.ref a) X.env.frame) (fun _ s4 => wpAny (model X.prog X.w) X.A (throw (.ref a) : Sem Flow) (SP X pins D) X.xe s4) X.xe { s' with heap := h3 } := by
          rw [hf]
          refine HandSPX.setFlight_upZ fl3 fun h4 hh4 up4 => wpAny_throw (tk _ _ ?_)
          exact ⟨a, B, sI, pins, σ', H', cls, d, rfl, J, nb, (up.trans up3).trans up4, .inr (.inr (by rw [hs]; exact hh4)), na, os, ag, w⟩
        first
          | exact wpAny_bind (wpAny_pure (wpAny_bind rest))
          | exact wpAny_bind rest
      | @cons x n c i ts b0 su np ps hds2 l3 hc hi hl hsu r ih =>
        intro w
        obtain ⟨b, hb1, hyes, hno⟩ := w
        have Lt : PySem.W.Looks (model X.prog X.w) h3 (typeOf (.ref a)) cls := fun A Q E s k q => wpAny_typeOf_ref (k _ _ he3) (by rw [hz3.1]; exact q)
        have Lm := PySem.W.exm_one (M := model X.prog X.w) (J3.kIn) Lt hb1
        have asks : ∀ {Q : Value → Shared → Prop} {E : Value → Shared → Prop}, Q c { s' with heap := h3 } → wpAny (model X.prog X.w) (X.A.mark (some (.ref a))) (eval (.Name x np) X.env) Q E { s' with heap := h3 } := fun {Q E} q => by
          obtain ⟨hg, hdbg, hm | ⟨hm, hv, hnn⟩⟩ := hc
          · exact ld_glob (X := X.suite a ((a, oe3) :: (X.pn ++ pins))) S3 hg hm q hdbg
          · exact ld_blt (X := X.suite a ((a, oe3) :: (X.pn ++ pins))) S3 hg hm hv q hnn hdbg
        refine wpAny_handleBy_cons (codeAny_handlers_test (asks (Lm.here ?_))) (by intro q; cases q)
        cases b with
        | false =>
          show wpAny _ X.A (handleBy (.ref a) X.env hds2) _ _ _
          exact ih (hno rfl)
        | true =>
          refine codeAny_handlers_suite_as ?_
          refine HandSPX.lands_againZ fl3 fun h4 fl4 up4 => ?_
          have J4 : Inv X pins σ' H' { s' with heap := h4 } := J.landed nb fl4.1 ((up.trans up3).trans up4) os ag
          obtain ⟨oe4, vs4, he4, hz4, hd4⟩ := fl4.there
          have S4 := J4.suite he4 hd4 na nL nF
          refine store_ok (X := X.suite a ((a, oe4) :: (X.pn ++ pins))) (v := .ref a) S4 hN hi (.inl hl) rfl (fun s5 S5 => ?_) (.inr hl)
          refine wpAny_mono ((hsu a oe4 cls d (X.pn ++ pins) hz4 ⟨_, hd4⟩).run [] s5 _ H' _ S5 (hyes rfl a na)) (fun f s6 hsp => ?_) (fun _ _ z => False.elim z)
          have leave : ∀ {σ6 : L2.St} {H6 : Hp} {Q : Shared → Prop}, Inv (X.suite a ((a, oe4) :: (X.pn ++ pins))) [] σ6 H6 s6 → (∀ s7, Inv X pins (σ6.set i none) H6 s7 → Q s7) →
              wpAny (model X.prog X.w) X.A (do bindName X.env n .none; unbindBehindTheSuite X.env n ps) (fun _ s7 => Q s7) X.xe s6 := fun {σ6 H6 Q} S6 hq => gone_ok (S6.unsuite ok) hN hi hl hq
          cases f with
          | next =>
            obtain ⟨σ6, H6, S6, q6⟩ := hsp
            exact leave S6 fun s7 J7 => ⟨_, _, J7, q6⟩
          | brk =>
            obtain ⟨σ6, H6, S6, q6⟩ := hsp
            exact leave S6 fun s7 J7 => ⟨_, _, J7, q6⟩
          | cont =>
            obtain ⟨σ6, H6, S6, q6⟩ := hsp
            exact leave S6 fun s7 J7 => ⟨_, _, J7, q6⟩
          | ret u =>
            obtain ⟨v6, σ6, H6, S6, r6, q6⟩ := hsp
            exact leave S6 fun s7 J7 => ⟨_, _, _, J7, r6, q6⟩
    exact each hh w
  · cases f with
    | ret u =>
      obtain ⟨v, σ', H', J', r, q⟩ := hsp
      exact ⟨v, σ', H', J'.ofTry ok, r, q⟩
    | next =>
      obtain ⟨σ', H', J', q⟩ := hsp
      exact wpAny_execs_nil ⟨σ', H', J'.ofTry ok, q⟩
    | brk =>
      obtain ⟨σ', H', J', q⟩ := hsp
      exact ⟨σ', H', J'.ofTry ok, q⟩
    | cont =>
      obtain ⟨σ', H', J', q⟩ := hsp
      exact ⟨σ', H', J'.ofTry ok, q⟩
end VL


set_option Elab.async false
set_option linter.all false
set_option maxRecDepth 100000
set_option maxHeartbeats 4000000
/-! EX4: what a suite reads of the error that it holds. -/
namespace VL
open PySem PySem.Spec PyProof.Rows L2
variable [TbP]
/-- the module's own errors: name, field, own classes above (itself, too), built-in ones asked for -/
abbrev Ct : Type := List (Str × Str × List Str)
def bases : List String := ["ValueError", "OverflowError"]
/-- what isinstance asks of an error's class -/
structure IsC (K : Frag) (C : Addr) : Prop where
  cl : (PySem.W.clsIn K C).isSome = true
  hc : PySem.W.findIn K (.ref C) "__class__" = some (some (.builtin "object.__class__"))
  hn : PySem.W.specialIn K (.builtin "object.__class__") "__get__" = some (some (.builtin "getset_descriptor.__get__"))
  ht : PySem.W.takesIn K (.builtin "object.__class__") = some true
  hm : PySem.W.mroIn K C (.type "object") = some true
structure ErrS (P : Program) (K : Frag) (mg : Str → Option Value) (CT : Ct) : Prop where
  ok : ∀ p ∈ CT, ∃ C, mg p.1 = some (.ref C) ∧ ErrT P K mg p.1 p.2.1 ∧ XfC K C ∧ PySem.W.findIn K (.ref C) p.2.1 = some none ∧ IsC K C ∧
    (∀ q ∈ CT, ∃ D, mg q.1 = some (.ref D) ∧ PySem.W.exmOne K (.ref C) (.ref D) = some (p.2.2.contains q.1) ∧ PySem.W.kitOne K (.ref C) (.ref D) = some (p.2.2.contains q.1)) ∧
    (∀ T ∈ bases, PySem.W.kitOne K (.ref C) (.type T) = some (p.2.2.contains (Str.ofString T)))
def ctAt (CT : Ct) (x : Xc) : Option (Str × Str × List Str) := CT.find? fun p => decide (p.1 = x.cls) && decide (p.2.1 = x.fld)
theorem ctAt_ok {CT : Ct} {x : Xc} {p : Str × Str × List Str} (h : ctAt CT x = some p) : p ∈ CT ∧ p.1 = x.cls ∧ p.2.1 = x.fld := by
  have h1 := List.find?_some h
  simp only [Bool.and_eq_true, decide_eq_true_eq] at h1
  exact ⟨List.mem_of_find?_eq_some h, h1.1, h1.2⟩
/-- a caught error x: slot i holds it -/
structure Jx (K : Frag) (mg : Str → Option Value) (CT : Ct) (x : Xc) (i : Nat) (a : Addr) (cls : Value) (d : Option Addr) (A : AS) (σ : L2.St) (H : Hp) : Prop where
  sl : σ[i]? = some (some (.ref a))
  ct : ∃ p, ctAt CT x = some p
  ex : ∃ C dd v, mg x.cls = some (.ref C) ∧ cls = .ref C ∧ d = some dd ∧ H dd = some (.xd [(x.fld, v)]) ∧ Rp K A H x.told v
theorem Jx.step {K : Frag} {mg : Str → Option Value} {CT : Ct} {x : Xc} {i : Nat} {a : Addr} {cls : Value} {d : Option Addr} {A A' : AS} {σ : L2.St} {H H' : Hp} {env e' : En} (j : Jx K mg CT x i a cls d A σ H) (rel : Rel K A σ H env) (s : Stp K A σ H env A' σ H' e') : Jx K mg CT x i a cls d A' σ H' := by
  obtain ⟨C, dd, v, h1, h2, h3, h4, h5⟩ := j.ex
  refine ⟨j.sl, j.ct, C, dd, v, h1, h2, h3, s.ext.keepN h4 fun z => ?_, h5.mono s.ext.fr (s.ext.kp rel)⟩
  obtain ⟨k, ⟨d0, hd0⟩, e0⟩ := z
  obtain ⟨b, eb, nb, ob⟩ := rel.ow k d0 hd0
  rw [e0] at eb; cases eb
  cases d0 with
  | list ds => obtain ⟨xs, e, _⟩ := ob; rw [h4] at e; cases e
  | dict kvs =>
    rcases ob with ⟨ks, e, _⟩ | ⟨ks, e, _⟩ <;> (rw [h4] at e; cases e)
  | _ => exact ob.elim
abbrev JT : Type := AS → L2.St → Hp → Prop
def Stb (K : Frag) (J : JT) : Prop := ∀ A A' σ H H' env e', J A σ H → Rel K A σ H env → Stp K A σ H env A' σ H' e' → J A' σ H'
def tEJ (J : JT) (G : Gd) (f : EF) : TE := fun σ H Q => ∃ A env, Rel G.K A σ H env ∧ J A σ H ∧ Post G A σ H env (f env) (EQ G σ H Q)
def tAJ (J : JT) (G : Gd) (f : AF) : TA := fun σ H Q => ∃ A env, Rel G.K A σ H env ∧ J A σ H ∧ Post G A σ H env (f env) fun rs e A' H' => ∀ vs, RvsOk G.K A' σ H' e (fun a => H a = none) rs vs → Q vs H'
def tSJ (J : JT) (G : Gd) (g : SF) : TS := fun Z σ H => ∃ A env, Rel G.K A σ H env ∧ J A σ H ∧ SPost G A σ H env (g env) Z
section
variable {X : Cx} {W : WX} {J : JT} {e : Expr} {es : List Expr} {f fa fb : EF} {g : AF} {fs : AF} {pos : Pos}
theorem j_of (h : PE X e (tE (gd X W) f)) : PE X e (tEJ J (gd X W) f) := PE.imp h fun σ H Q ⟨A, env, rel, _, p⟩ => ⟨A, env, rel, p⟩
theorem ja_nil : PA X [] (tAJ J (gd X W) nilF) := PA.imp (a_nil (W := W)) fun σ H Q ⟨A, env, rel, _, p⟩ => ⟨A, env, rel, p⟩
theorem ja_cons (S : Stb X.K J) (he : PE X e (tEJ J (gd X W) f)) (hr : PA X es (tAJ J (gd X W) g)) (hs : starEach (e :: es) X.env = (false, eval e X.env) :: starEach es X.env := by rfl) : PA X (e :: es) (tAJ J (gd X W) (consF f g)) :=
  PA.imp (pa_cons he hr hs) fun σ H Q h => by
    obtain ⟨A, env, rel, j, h⟩ := h
    refine ⟨A, env, rel, j, (Post.bind h).imp fun r e1 A1 H1 s1 h1 v hv => ?_⟩
    refine ⟨A1, e1, s1.rel, S _ _ _ _ _ _ _ j rel s1, (Post.bind h1).imp fun rs e2 A2 H2 s2 h2 vs hvs => ?_⟩
    refine h2 A2 H2 (.refl s2.rel) (v :: vs) ⟨v, vs, rfl, hv.step s1.rel s2, hvs.weak fun a o ho z => ⟨?_, fun it q => ?_⟩⟩
    · cases q : H a with
      | none => exact q
      | some u => exact absurd z (s1.ext.al a (by rw [q]; simp))
    · subst q
      cases r with
      | tm d =>
        obtain ⟨b, e, _, _, _, ob⟩ := hv
        cases e
        obtain ⟨o', eo, _⟩ := ob.some
        rw [eo] at z; cases z
      | sh d => cases it
      | bo i => cases it
theorem j_tup {x1} (h : PA X es (tAJ J (gd X W) fs)) : PE X (.Tuple es x1 pos) (tEJ J (gd X W) (tupF fs)) := PE.imp (pe_tup h) fun σ H Q h => by
  obtain ⟨A, env, rel, j, h⟩ := h
  refine ⟨A, env, rel, j, Post.cut h fun rs e1 A1 H1 s1 h1 vs hvs => ?_⟩
  cases q : frzAll e1 rs with
  | none => rw [q] at h1; exact h1.elim
  | some p =>
    obtain ⟨ds, e2⟩ := p
    rw [q] at h1
    dsimp only at h1
    obtain ⟨A2, s2, f2, rpl⟩ := frzAll_ok s1 (fun _ z => z) hvs q
    split at h1
    · rename_i c
      refine ⟨by rw [← rpl.length]; exact le_line c, fun p n => ?_⟩
      have st := Stp.same s2.rel (same_upd (o := .tup vs) n)
      exact h1 A2 _ (s2.trans st) (.ref p) (rp_tup n rpl)
    · exact h1.elim
theorem j_lst (h : PA X es (tAJ J (gd X W) fs)) : PE X (.List es pos) (tEJ J (gd X W) (lstF fs)) := PE.imp (pe_lst h) fun σ H Q h => by
  obtain ⟨A, env, rel, j, h⟩ := h
  refine ⟨A, env, rel, j, Post.cut h fun rs e1 A1 H1 s1 h1 vs hvs => ?_⟩
  cases q : frzAll e1 rs with
  | none => rw [q] at h1; exact h1.elim
  | some p =>
    obtain ⟨ds, e2⟩ := p
    rw [q] at h1
    dsimp only at h1
    obtain ⟨A2, s2, f2, rpl⟩ := frzAll_ok s1 (fun _ z => z) hvs q
    split at h1
    · rename_i c
      refine ⟨by rw [← rpl.length]; exact le_line c, fun p n => ?_⟩
      have st := Stp.same s2.rel (same_upd (o := .lst vs) n)
      exact h1 A2 _ (s2.trans st) (.ref p) ((rz_lst n rpl).rv s2)
    · exact h1.elim
theorem s_retJ (he : PE X e (tEJ J (gd X W) f)) : PS X (.Return (some e) pos) (tSJ J (gd X W) (retF f)) := PS.imp (ps_ret he) fun Z σ H h => by
  obtain ⟨A, env, rel, j, h⟩ := h
  exact ⟨A, env, rel, j, SPost.cut h fun r e1 A1 H1 s1 h1 v hv => h1 A1 σ H1 v s1 hv⟩
theorem s_setJ {fe : EF} {x : Str} {pos' : Pos} (i : Nat) (hN : X.N.Nodup) (he : PE X e (tEJ J (gd X W) fe)) (hi : X.N[i]? = some x := by rfl) (hx : Loc X.env.scope x := by first | exact Or.inl rfl | exact Or.inr rfl)
    (hs : swapsWith e (some (.Name x pos')) pos.line X.env = pure false := by rfl) (hf : X.fn x = true ∨ X.env.scope.names.lookup x = some .local := by first | exact .inl rfl | exact .inr rfl | assumption) :
    PS X (.Assign [.Name x pos'] e pos) (tSJ J (gd X W) (setF i fe)) := PS.imp (ps_set hN hi hx he hs hf) fun Z σ H h => by
  obtain ⟨A, env, rel, j, h⟩ := h
  exact ⟨A, env, rel, j, SPost.cut h fun r e1 A1 H1 s1 h1 v hv => asg_ok s1 hv h1⟩
theorem cbJ_sound {G : Gd} {r : RC} {g : GC} {fs : AF} (ha : CbA G.K r g) {σ : L2.St} {H : Hp} {Q : VK} (h : tEJ J G (cbF g fs) σ H Q) : tCB r (tAJ J G fs) σ H Q := by
  obtain ⟨A, env, rel, j, h⟩ := h
  refine ⟨A, env, rel, j, Post.cut h fun rs e1 A1 H1 s1 h1 vs hvs => ?_⟩
  cases q1 : rdAll e1 rs with
  | none => rw [q1] at h1; exact h1.elim
  | some ds =>
    rw [q1] at h1
    dsimp only at h1
    unfold out1 at h1
    cases q3 : g ds with
    | none => rw [q3] at h1; exact h1.elim
    | some z =>
      rw [q3] at h1
      exact ha A1 H1 ds vs z Q s1.rel.dom q3 (hvs.rq s1.rel q1) fun v' H' sm hz => h1 A1 H' (s1.trans (Stp.same s1.rel sm)) v' (hz.rv s1)
theorem j_bi {x : Str} {p : Pos} {gc : GC} (b : BI X x gc) (hm : X.mg x = none) (ha : PA X (e :: es) (tAJ J (gd X W) fs)) (hg : Gl X x := by rfl)
    (he : starEach (e :: es) X.env = (false, eval e X.env) :: starEach es X.env := by rfl) (hpl : (backTo pos (starEach es X.env)).any (·.1) = false := by rfl) : PE X (.Call (.Name x p) (e :: es) [] pos) (tEJ J (gd X W) (cbF gc fs)) := by
  obtain ⟨⟨f, r, h1, h2, h3, h4⟩, nn, nd⟩ := b
  rcases h4 with ⟨id, rfl⟩ | ⟨T, rfl⟩
  · exact PE.imp (pe_callB h1 hg hm h3 ha nn nd he hpl) fun _ _ _ h => cbJ_sound (G := gd X W) h2 h
  · exact PE.imp (pe_callTy h1 hg hm h3 ha nn nd he hpl) fun _ _ _ h => cbJ_sound (G := gd X W) h2 h
theorem PSs.any {α : Type} {X : Cx} {b : List Stmt} {t : α → TS} (h : ∀ x, PSs X b (t x)) : PSs X b (fun D σ H => ∃ x, t x D σ H) := ⟨fun pins s σ H D I ⟨x, q⟩ => (h x).run pins s σ H D I q⟩
end

def toldF (fl : Str) (x : Xc) : EF := if x.fld = fl then cF x.told else noE
/-- isinstance(e, y), y an own error's name -/
def isxF (CT : Ct) (y : Str) (x : Xc) : EF := match ctAt CT x with
  | some p => if CT.any (fun q => decide (q.1 = y)) then cF (.bool (p.2.2.contains y)) else noE
  | none => noE
/-- .. a built-in one's -/
def isbF (CT : Ct) (T : String) (x : Xc) : EF := match ctAt CT x with
  | some p => if T ∈ bases then cF (.bool (p.2.2.contains (Str.ofString T))) else noE
  | none => noE
section
variable {X : Cx} {W : WX} {CT : Ct} {x : Xc} {i : Nat} {a : Addr} {oe : Obj} {cls : Value} {d : Option Addr} {pn : List (Addr × Obj)} {n fl : Str} {p np pos : Pos}
theorem Jx.stb : Stb X.K (Jx X.K X.mg CT x i a cls d) := fun A A' σ H H' env e' j rel s => j.step rel s
theorem j_told (S : ErrS X.prog X.K X.mg CT) (hz : Zc cls d oe) (hf : ∃ vs, oe.data = .fields vs) (hN : X.N[i]? = some n := by rfl) (hv : Vis X.env.scope n := by first | exact Or.inl rfl | exact Or.inr (Or.inl rfl) | exact Or.inr (Or.inr rfl)) (hd : (n == ("__debug__" : Str)) = false := by decide)
    (hcd : (n == ("__classdict__" : Str)) = false := by decide) (hb : attributeBase (.Name n np) fl X.env (eval (.Name n np) X.env) = eval (.Name n np) X.env := by rfl) : PE (X.suite a ((a, oe) :: pn)) (.Attribute (.Name n np) fl pos) (tEJ (Jx X.K X.mg CT x i a cls d) (gd X W) (toldF fl x)) := by
  refine ⟨fun pins s σ H Q I h => ?_⟩
  obtain ⟨A, env, rel, j, h⟩ := h
  obtain ⟨q, hq⟩ := j.ct
  obtain ⟨m1, m2, m3⟩ := ctAt_ok hq
  obtain ⟨C, dd, v, h1, h2, h3, h4, h5⟩ := j.ex
  obtain ⟨C', k1, k2, k3, k4, k5, _⟩ := S.ok q m1
  rw [m2, h1] at k1; cases k1
  by_cases e : x.fld = fl
  · subst e
    have h : Post (gd X W) A σ H env (.ok (.sh x.told) env) (EQ (gd X W) σ H Q) := by
      unfold toldF at h
      rw [if_pos rfl] at h
      exact h
    rw [m3] at k4
    refine (pe_xf (X := X) (pn := pn) k3 k4 hz hf (pe_var (X := X.suite a ((a, oe) :: pn)) hN hv hd hcd) hb).run pins s σ H Q I ⟨.ref a, j.sl, rfl, h2, dd, _, v, h3, h4, by simp [List.lookup], ?_⟩
    exact h A H (.refl rel) v h5
  · unfold toldF at h
    rw [if_neg e] at h
    exact h.elim
/-- isinstance(e, c), e the error that the suite holds, with its dict -/
def rIsX (K : Frag) (a : Addr) (cls : Value) (d : Option Addr) : List V → Hp → VK → Prop := fun xs H Q => ∃ (c : V) (cv : Value) (b : Bool) (dd : Addr) (fs : List (Str × V)), xs = [.ref a, c] ∧ (∀ u, RelV c u → u = cv) ∧ PySem.W.kitOne K cls cv = some b ∧ d = some dd ∧ H dd = some (.xd fs) ∧ Q (.bl b) H
theorem call_isX {C : Addr} (T : XfC X.K C) (Is : IsC X.K C) (hz : Zc (.ref C) d oe) (hf : ∃ vs, oe.data = .fields vs) : CallR (X.suite a ((a, oe) :: pn)) (.builtin "isinstance") (rIsX X.K a (.ref C) d) := by
  intro pins s σ H xs us Q I r h
  obtain ⟨c, cv, b, dd, fs, rfl, hcv, e, hd, hx, q⟩ := h
  cases r with
  | cons rx rr =>
    cases rr with
    | cons rt rr =>
      cases rr
      cases rx
      have ec := hcv _ rt
      subst ec
      obtain ⟨hget, _⟩ := I.pin (a, oe) (List.mem_append.mpr (.inl List.mem_cons_self))
      obtain ⟨vs, hv⟩ := hf
      have ho : ObjOk X.prog X.w H s.heap dd (.xd fs) := I.hok dd _ hx
      obtain ⟨mA, hns, hr⟩ := ho
      obtain ⟨od, hod, hl⟩ := lookIn_ns hns
      have J : PySem.W.InstAt s.heap a oe C (some od) := ⟨hget, hz.1, by unfold PySem.W.notCls; rw [hv] <;> rfl, by rw [hz.2, hd]; exact hod⟩
      exact PySem.W.kia_one (PySem.W.kitx_exc Is.cl T.ga T.gg T.exC Is.hc Is.hn Is.ht Is.hm) I.kIn J e (fun z => nomatch z) fun tk => ⟨.bl b, H, I.kept (t' := tk) fun _ _ z => z, rfl, q⟩
theorem j_is {y : Str} {yp : Pos} (S : ErrS X.prog X.K X.mg CT) (hz : Zc cls d oe) (hf : ∃ vs, oe.data = .fields vs) (hi : X.mg "isinstance" = none) (hg : Gl X "isinstance" := by rfl) (hgy : Gl X y := by rfl) (hdy : (y == ("__debug__" : Str)) = false := by decide)
    (hN : X.N[i]? = some n := by rfl) (hv : Vis X.env.scope n := by first | exact Or.inl rfl | exact Or.inr (Or.inl rfl) | exact Or.inr (Or.inr rfl)) (hd : (n == ("__debug__" : Str)) = false := by decide) (hcd : (n == ("__classdict__" : Str)) = false := by decide)
    (hs : starEach [.Name n np, .Name y yp] X.env = (false, eval (.Name n np) X.env) :: starEach [.Name y yp] X.env := by rfl) (hs2 : starEach [.Name y yp] X.env = (false, eval (.Name y yp) X.env) :: starEach [] X.env := by rfl)
    (hpl : (backTo pos (starEach [.Name y yp] X.env)).any (·.1) = false := by rfl) : PE (X.suite a ((a, oe) :: pn)) (.Call (.Name "isinstance" p) [.Name n np, .Name y yp] [] pos) (tEJ (Jx X.K X.mg CT x i a cls d) (gd X W) (isxF CT y x)) := by
  refine ⟨fun pins s σ H Q I h => ?_⟩
  obtain ⟨A, env, rel, j, h⟩ := h
  obtain ⟨q, hq⟩ := j.ct
  obtain ⟨m1, m2, m3⟩ := ctAt_ok hq
  obtain ⟨C, dd, v, h1, h2, h3, h4, h5⟩ := j.ex
  obtain ⟨C', k1, k2, k3, k4, k5, k6, _⟩ := S.ok q m1
  rw [m2, h1] at k1; cases k1
  subst h2
  unfold isxF at h
  rw [hq] at h
  dsimp only at h
  split at h
  · rename_i c
    obtain ⟨r, hr, e⟩ := List.any_eq_true.mp c
    have e := of_decide_eq_true e
    obtain ⟨D, n1, n2, n3⟩ := k6 r hr
    rw [e] at n1 n3
    have Y : PE (X.suite a ((a, oe) :: pn)) (.Name y yp) (tC (.ref D)) := pe_glob (X := X.suite a ((a, oe) :: pn)) (v := .ref D) hgy n1 rfl hdy
    refine (pe_callB (X := X.suite a ((a, oe) :: pn)) (call_isX k3 k5 hz hf) hg hi boot_isinstance' (pa_cons (pe_var (X := X.suite a ((a, oe) :: pn)) hN hv hd hcd) (pa_cons Y pa_nil hs2) hs) (by decide) (by decide) hs hpl).run pins s σ H Q I ?_
    exact ⟨.ref a, j.sl, .ref D, .ref D, _, dd, _, rfl, fun u hu => hu, n3, h3, h4, h A H (.refl rel) (.bl _) (rp_bl (K := X.K) (A := A) (H := H))⟩
  · exact h.elim
theorem j_isB {T : String} {y : Str} {yp : Pos} (S : ErrS X.prog X.K X.mg CT) (hz : Zc cls d oe) (hf : ∃ vs, oe.data = .fields vs) (hi : X.mg "isinstance" = none) (hm : X.mg y = none) (hb : bootBuiltins y = some (.type T)) (hg : Gl X "isinstance" := by rfl) (hgy : Gl X y := by rfl) (hny : y ≠ "__name__" := by decide) (hdy : (y == ("__debug__" : Str)) = false := by decide)
    (hN : X.N[i]? = some n := by rfl) (hv : Vis X.env.scope n := by first | exact Or.inl rfl | exact Or.inr (Or.inl rfl) | exact Or.inr (Or.inr rfl)) (hd : (n == ("__debug__" : Str)) = false := by decide) (hcd : (n == ("__classdict__" : Str)) = false := by decide)
    (hs : starEach [.Name n np, .Name y yp] X.env = (false, eval (.Name n np) X.env) :: starEach [.Name y yp] X.env := by rfl) (hs2 : starEach [.Name y yp] X.env = (false, eval (.Name y yp) X.env) :: starEach [] X.env := by rfl)
    (hpl : (backTo pos (starEach [.Name y yp] X.env)).any (·.1) = false := by rfl) : PE (X.suite a ((a, oe) :: pn)) (.Call (.Name "isinstance" p) [.Name n np, .Name y yp] [] pos) (tEJ (Jx X.K X.mg CT x i a cls d) (gd X W) (isbF CT T x)) := by
  refine ⟨fun pins s σ H Q I h => ?_⟩
  obtain ⟨A, env, rel, j, h⟩ := h
  obtain ⟨q, hq⟩ := j.ct
  obtain ⟨m1, m2, m3⟩ := ctAt_ok hq
  obtain ⟨C, dd, v, h1, h2, h3, h4, h5⟩ := j.ex
  obtain ⟨C', k1, k2, k3, k4, k5, _, k7⟩ := S.ok q m1
  rw [m2, h1] at k1; cases k1
  subst h2
  unfold isbF at h
  rw [hq] at h
  dsimp only at h
  split at h
  · rename_i c
    have n3 := k7 T c
    have Y : PE (X.suite a ((a, oe) :: pn)) (.Name y yp) (tC (.ty T)) := pe_bltn (X := X.suite a ((a, oe) :: pn)) (v := .ty T) hgy hm hb rfl hny hdy
    refine (pe_callB (X := X.suite a ((a, oe) :: pn)) (call_isX k3 k5 hz hf) hg hi boot_isinstance' (pa_cons (pe_var (X := X.suite a ((a, oe) :: pn)) hN hv hd hcd) (pa_cons Y pa_nil hs2) hs) (by decide) (by decide) hs hpl).run pins s σ H Q I ?_
    exact ⟨.ref a, j.sl, .ty T, .type T, _, dd, _, rfl, fun u hu => hu, n3, h3, h4, h A H (.refl rel) (.bl _) (rp_bl (K := X.K) (A := A) (H := H))⟩
  · exact h.elim
end
/-! ### rules that ask of the surroundings their units alone -/
theorem call_reprU {X : Cx} (hu : X.A.units + 64 < cLine) (hgd : X.A.guards = some []) : CallR X (.builtin "repr") (rRepr X.K) := by
  intro pins s σ H xs us Q I r h
  obtain ⟨x, d, rfl, hd, hc, hs, hz, hl, q⟩ := h
  obtain ⟨u, rfl, rx⟩ := vals1 r
  obtain ⟨as, rd⟩ := Dp.reads I d x u hd rx
  cases hd with
  | non => cases rx; exact PySem.P.repr_of_none ⟨.str _, H, I.tok _, ⟨_, rfl⟩, q⟩
  | bl b => cases rx; exact PySem.P.repr_of_bool ⟨.str _, H, I.tok _, ⟨_, rfl⟩, q⟩
  | int i =>
    obtain ⟨t, rfl⟩ := rx
    simp only [PyData.showable, decide_eq_true_eq] at hs
    exact PySem.P.repr_of_int hs ⟨.str _, H, I.tok _, ⟨_, rfl⟩, q⟩
  | str y => obtain ⟨t, rfl⟩ := rx; exact PySem.P.repr_of_str ⟨.str _, H, I.tok _, ⟨_, rfl⟩, q⟩ hl
  | lst a b => cases rx; exact repr_of_reads' rd hs (fun z => (repr_noDict hc z).elim) hgd (by omega) (fun _ _ e => e) (fun h' u tk k => ⟨.str _, H, I.kept k, ⟨u, rfl⟩, q⟩) hl
  | tup a b => cases rx; exact repr_of_reads' rd hs (fun z => (repr_noDict hc z).elim) hgd (by omega) (fun _ _ e => e) (fun h' u tk k => ⟨.str _, H, I.kept k, ⟨u, rfl⟩, q⟩) hl
theorem b_reprU {X : Cx} (hu : X.A.units + 64 < cLine) (hgd : X.A.guards = some []) : BI X "repr" reprC := ⟨⟨_, _, call_reprU hu hgd, repr_A, boot_repr', .inl ⟨_, rfl⟩⟩, by decide, by decide⟩
theorem c_eqU {X : Cx} (hu : X.A.units + 64 < cLine) : CmpR X .Eq eqG := ⟨_, op_eqD hu, eq_A⟩
theorem boot_ValueError' : bootBuiltins "ValueError" = some (.type "ValueError") := by decide +kernel
theorem boot_OverflowError' : bootBuiltins "OverflowError" = some (.type "OverflowError") := by decide +kernel
end VL




set_option Elab.async false
set_option linter.all false
set_option maxRecDepth 100000
set_option maxHeartbeats 4000000
/-! EX5: try, by meanings. -/
namespace VL
open PySem PySem.Spec PyProof.Rows L2
variable [TbP]
abbrev WN : WX := fun _ _ _ _ => False
def exMt (CT : Ct) (x : Xc) (c : Str) : Option Bool := match ctAt CT x with
  | some p => if CT.any (fun q => decide (q.1 = c)) then some (p.2.2.contains c) else none
  | none => none
def isUn : Option Sl → Bool
  | some .un => true
  | _ => false
def hdl (CT : Ct) (i : Nat) : List (Str × (Xc → SF)) → Xc → En → Rb
  | [], x, e => .ex x e
  | q :: r, x, e => match exMt CT x q.1 with
    | some true => if isUn e[i]? = true then (match q.2 x e with
      | .rt v e2 => .rt v e2
      | .nx e2 => if isUn e2[i]? = true then .nx e2 else .no
      | _ => .no) else .no
    | some false => hdl CT i r x e
    | none => .no
def tryF (CT : Ct) (i : Nat) (f : SF) (cs : List (Str × (Xc → SF))) : SF := fun env => match f env with
  | .ex x e => hdl CT i cs x e
  | r => r
section
variable {K : Frag} {A A1 : AS} {σ σ1 : L2.St} {H H1 : Hp} {env e1 : En} {i : Nat} {w : Option V}
theorem Stp.slot (s : Stp K A σ H env A1 σ1 H1 e1) (u : e1[i]? = some .un) : Stp K A σ H env A1 (σ1.set i w) H1 e1 := by
  have ne : ∀ {j : Nat} {t : Sl}, e1[j]? = some t → t ≠ .un → (σ1.set i w)[j]? = σ1[j]? := fun {j t} h n => by
    have : i ≠ j := fun z => by subst z; rw [u] at h; cases h; exact n rfl
    exact List.getElem?_set_ne this
  have own : ∀ {j : Nat} {d : D}, isOwn e1 j d → (σ1.set i w)[j]? = σ1[j]? := fun {j d} h => by
    rcases h with h | h
    · exact ne h (fun z => by cases z)
    · exact ne h (fun z => by cases z)
  have owi : ∀ {j : Nat} {a : Addr}, Owi (σ1.set i w) e1 j a → Owi σ1 e1 j a := fun {j a} ⟨⟨d, h⟩, e⟩ => ⟨⟨d, h⟩, by rw [← own h]; exact e⟩
  refine ⟨s.ext, ⟨by simpa using s.rel.len, fun j d h => ?_, fun j d h => ?_, fun j k a h1 h2 => s.rel.ap j k a (owi h1) (owi h2), s.rel.dom, fun j d h => ?_, s.rel.tb⟩, fun a ⟨j, h⟩ => s.sub a ⟨j, owi h⟩, fun j d h => ?_, s.rdb⟩
  · have e : (σ1.set i w)[j]? = σ1[j]? := by
      rcases h with h | h
      · exact ne h (fun z => by cases z)
      · exact ne h (fun z => by cases z)
    rw [e]; exact s.rel.sh j d h
  · rw [own h]; exact s.rel.ow j d h
  · rw [ne h (fun z => by cases z)]; exact s.rel.fz j d h
  · obtain ⟨q, d', z⟩ := s.io j d h
    refine ⟨?_, d', z⟩
    have e : (σ1.set i w)[j]? = σ1[j]? := by
      rcases z with z | z
      · exact ne z (fun z => by cases z)
      · exact ne z (fun z => by cases z)
    rw [e]; exact q
end
inductive ClV (X : Cx) (CT : Ct) (i : Nat) : List ExceptHandler → List (Str × (Xc → SF)) → Prop
  | nil : ClV X CT i [] []
  | cons {c n : Str} {s : Xc → SF} {b0 : Stmt} {su : List Stmt} {np ps : Pos} {hds : List ExceptHandler} {cs : List (Str × (Xc → SF))} (hg : Gl X c) (hd : (c == ("__debug__" : Str)) = false) (hi : X.N[i]? = some n) (hl : X.env.kindOf n = some .local)
      (hsu : ∀ (x : Xc) (a : Addr) (oe : Obj) (cls : Value) (d : Option Addr) (pn : List (Addr × Obj)), Zc cls d oe → (∃ vs, oe.data = .fields vs) → PSs (X.suite a ((a, oe) :: pn)) (b0 :: su) (tSJ (Jx X.K X.mg CT x i a cls d) (gd X WN) (s x))) (hc : CT.any (fun q => decide (q.1 = c)) = true) (r : ClV X CT i hds cs) :
      ClV X CT i (.ExceptHandler (some (.Name c np)) (some n) (b0 :: su) ps :: hds) ((c, s) :: cs)
theorem ClV.cls {X : Cx} {CT : Ct} {i : Nat} (S : ErrS X.prog X.K X.mg CT) : ∀ {hds : List ExceptHandler} {cs : List (Str × (Xc → SF))}, ClV X CT i hds cs → ∃ l, Cls X hds l ∧
    ∀ (Wo : WX) (D : Ends) (A0 A : AS) (σ0 σ : L2.St) (H0 H : Hp) (env0 e : En) (x : Xc) (cls : Value) (d : Option Addr), Stp X.K A0 σ0 H0 env0 A σ H e → XOk ⟨X.K, X.mg, Wo⟩ A H x cls d → SPost ⟨X.K, X.mg, Wo⟩ A0 σ0 H0 env0 (hdl CT i cs x e) D → wNs X.K Wo D l cls d σ H := by
  intro hds cs h
  induction h with
  | nil => exact ⟨[], .nil, fun Wo D A0 A σ0 σ H0 H env0 e x cls d st xo h => h A σ H cls d st xo⟩
  | @cons c n s b0 su np ps hds cs hg hd hi hl hsu hc r ih =>
    obtain ⟨l, cl, k⟩ := ih
    obtain ⟨q, hq, e⟩ := List.any_eq_true.mp hc
    have e := of_decide_eq_true e
    obtain ⟨D0, hD0, _⟩ := S.ok q hq
    rw [e] at hD0
    refine ⟨(.ref D0, i, fun a cls d Z σ H => ∃ x, tSJ (Jx X.K X.mg CT x i a cls d) (gd X WN) (s x) Z σ H) :: l, .cons ⟨hg, hd, .inl hD0⟩ hi hl (fun a oe cls d pn hz hf => PSs.any fun x => hsu x a oe cls d pn hz hf) cl, fun Wo D A0 A σ0 σ H0 H env0 e' x cls d st xo h => ?_⟩
    unfold hdl at h
    cases q1 : exMt CT x c with
    | none => rw [q1] at h; exact h.elim
    | some b =>
      rw [q1] at h
      have q2 := q1
      unfold exMt at q2
      cases q3 : ctAt CT x with
      | none => rw [q3] at q2; cases q2
      | some p =>
        rw [q3] at q2
        dsimp only at q2
        rw [if_pos hc] at q2
        obtain ⟨m1, m2, m3⟩ := ctAt_ok q3
        obtain ⟨C, hC, _, _, _, _, hall, _⟩ := S.ok p m1
        obtain ⟨D1, hD1, hex, _⟩ := hall q hq
        rw [e] at hD1 hex
        rw [hD0] at hD1; cases hD1
        obtain ⟨C1, dd, v, h1, h2, h3, h4, h5⟩ := id xo
        rw [m2] at hC
        have h1' : X.mg x.cls = some (.ref C1) := h1
        rw [hC] at h1'; cases h1'
        refine ⟨b, by rw [h2, hex]; exact q2, fun hb a na => ?_, fun hb => ?_⟩
        · subst hb
          dsimp only at h
          by_cases c1 : isUn e'[i]? = true
          · rw [if_pos c1] at h
            have un : e'[i]? = some .un := by
              cases z : e'[i]? with
              | none => rw [z] at c1; cases c1
              | some t => rw [z] at c1; cases t <;> first | rfl | cases c1
            have st2 : Stp X.K A0 σ0 H0 env0 A (σ.set i (some (.ref a))) H e' := st.slot un
            have li : i < σ.length := by
              rw [st.rel.len]
              exact (List.getElem?_eq_some_iff.mp un).1
            refine ⟨x, A, e', st2.rel, ⟨by rw [List.getElem?_set_self li], ⟨p, q3⟩, C, dd, v, hC, h2, h3, h4, h5⟩, ?_⟩
            cases q4 : s x e' with
            | rt rv e2 =>
              rw [q4] at h
              intro A' σ' H' v' s' hv
              refine h A' σ' H' v' (st2.trans s') (hv.weak fun b o ho z => ?_)
              cases q5 : H0 b with
              | none => rfl
              | some u => exact absurd z (st2.ext.al b (by rw [q5]; simp))
            | nx e2 =>
              rw [q4] at h
              dsimp only at h
              by_cases c2 : isUn e2[i]? = true
              · rw [if_pos c2] at h
                have un2 : e2[i]? = some .un := by
                  cases z : e2[i]? with
                  | none => rw [z] at c2; cases c2
                  | some t => rw [z] at c2; cases t <;> first | rfl | cases c2
                intro A' σ' H' s'
                exact h A' _ H' ((st2.trans s').slot un2)
              · rw [if_neg c2] at h; exact h.elim
            | bk e2 => rw [q4] at h; exact h.elim
            | ct e2 => rw [q4] at h; exact h.elim
            | ex x2 e2 => rw [q4] at h; exact h.elim
            | no => rw [q4] at h; exact h.elim
          · rw [if_neg c1] at h; exact h.elim
        · subst hb
          exact k Wo D A0 A σ0 σ H0 H env0 e' x cls d st xo h
theorem s_try {X : Cx} {W : WX} {CT : Ct} {i : Nat} {fb : SF} {body : List Stmt} {h0 : ExceptHandler} {hds : List ExceptHandler} {cs : List (Str × (Xc → SF))} {pos : Pos} (S : ErrS X.prog X.K X.mg CT) (hs : X.stack = X.env :: X.outer) (hf : X.env.frame = some X.env.locals) (hN : X.N.Nodup) (tk : Takes X W)
    (hb : ∀ (W' : WX) (pn : List (Addr × Obj)) (xe : Value → Shared → Prop), Takes (X.tr pn xe) W' → PassesOwn (model X.prog X.w) X.A X.env xe → PSs (X.tr pn xe) body (tS (gd (X.tr pn xe) W') fb)) (hh : ClV X CT i (h0 :: hds) cs) :
    PS X (.Try body (h0 :: hds) [] [] pos) (tS (gd X W) (tryF CT i fb cs)) := by
  obtain ⟨l, cl, k⟩ := hh.cls S
  refine PS.imp (ps_tries hs hf hN tk (tb := fun W' => tS ⟨X.K, X.mg, W'⟩ fb) hb cl) fun Z σ H h => ?_
  obtain ⟨A, env, rel, h⟩ := h
  refine ⟨A, env, rel, ?_⟩
  unfold tryF at h
  cases q : fb env with
  | ex x e =>
    rw [q] at h
    exact fun A' σ' H' c d st xo => k W Z A A' σ σ' H H' env e x c d st xo h
  | nx e => rw [q] at h; exact h
  | bk e => rw [q] at h; exact h
  | ct e => rw [q] at h; exact h
  | rt r e => rw [q] at h; exact h
  | no => rw [q] at h; exact h
end VL




set_option Elab.async false
set_option linter.all false
set_option maxRecDepth 100000
set_option maxHeartbeats 4000000
/-! EX6: the head's facts about own errors; a Hook that tells them. -/
namespace VL
open PySem PySem.Spec PyProof.Rows L2 HDK
variable [TbP]
/-- which built-in error a base is -/
structure Bs where
  B : String
  nw : String
  ini : String
  tl : List Value
def bVE : Bs := ⟨"ValueError", "ValueError.__new__", "ValueError.__init__", veT⟩
def bOE : Bs := ⟨"OverflowError", "OverflowError.__new__", "OverflowError.__init__", oeT⟩
/-- one own error: its name, field, classes above, built-in base, its __init__ -/
structure Er where
  c : Str
  fl : Str
  up : List Str
  ve : Bool
  qual : Str
  params : Arguments
  body : List Stmt
  scope : Scope
def Er.bs (r : Er) : Bs := if r.ve then bVE else bOE
def Er.ct (r : Er) : Str × Str × List Str := (r.c, r.fl, r.up)
def ctOf (l : List Er) : Ct := l.map Er.ct
abbrev InV : Type := Option (Str × Str × Arguments × FuncBody × Scope × Addr × Addr)
def inF (K : Frag) (c : Str) : Addr := He.ma K (He.ga K c) "__init__"
def inObs (K : Frag) (c : Str) : InV := match K.lookup (inF K c) with
  | some ⟨_, _, .func fd, _⟩ => some (fd.name, fd.qualname, fd.params, fd.body, fd.scope, fd.globals, fd.builtins)
  | _ => none
def Er.val (r : Er) : InV := some ("__init__", r.qual, r.params, .stmts r.body, r.scope, mainGlobals, builtinsNs)
/-- the class that the cell of __init__ holds -/
def cellD (K : Frag) (cc : Addr) : Addr := match K.lookup cc with
  | some ⟨_, _, .cell (some (.ref D)), _⟩ => D
  | _ => 0
def inD (K : Frag) (c : Str) : Addr := match K.lookup (inF K c) with
  | some ⟨_, _, .func fd, _⟩ => (match fd.closure with
    | [(_, cc)] => cellD K cc
    | _ => 0)
  | _ => 0
def fileB (P : Program) (K : Frag) (cda : Addr) : Bool := match K.lookup cda with
  | some ⟨_, _, .fields vs, _⟩ => (match (vs[2]? : Option Value) with
    | some (Value.str f _) => decide (f = P.main.file)
    | _ => false)
  | _ => false
def cellB (K : Frag) (cc D : Addr) : Bool := match K.lookup cc with
  | some ⟨_, _, .cell (some (.ref D')), _⟩ => decide (D' = D)
  | _ => false
def noneB : Value → Bool
  | .none => true
  | _ => false
def initB (P : Program) (K : Frag) (c : Str) : Bool := match K.lookup (inF K c) with
  | some ⟨_, _, .func fd, _⟩ => noneB fd.defaults && ((match fd.closure with
      | [(y, cc)] => decide (y = "__class__") && cellB K cc (inD K c)
      | _ => false) && ((match fd.code with
      | .ref cda => PySem.W.codeIn K (.ref cda) fd.qualname && fileB P K cda
      | _ => false) && ((PySem.W.clsIn K (inD K c)).isSome && He.eqO (PySem.W.nsIn K cStatics "thirdparty.any") (some none))))
  | _ => false
def xccB (K : Frag) (r : Er) : Bool :=
  let C := He.ga K r.c
  let f := inF K r.c
  PySem.W.excInitIn K C r.bs.tl r.bs.nw && (PySem.W.excOver K C r.bs.tl && (PySem.W.hasDictIn K C && (He.eqO (PySem.W.findIn K (.ref C) "__init__") (some (some (.ref f))) && (decide (PySem.W.typeIn K (.ref f) = some (.type "function")) &&
    (He.eqO (PySem.W.findIn K (.ref C) "__setattr__") (some (some (.builtin "object.__setattr__"))) && (He.eqO (PySem.W.findIn K (.ref C) r.fl) (some none) && (decide (PySem.W.mroIn K C (.ref (inD K r.c)) = some true) &&
    (He.eqO (PySem.W.ks_superIn K C (inD K r.c) "__init__") (some (some (.builtin r.bs.ini))) && (decide (PySem.W.subIn K (.ref C) (.type r.bs.B) = some true) && (decide (PySem.W.subIn K (.ref C) (.type "BaseException") = some true) &&
    (decide (PySem.W.typeIn K (.ref C) = some (.type "type")) && PySem.W.keepIn K (.ref C))))))))))))
def iscB (K : Frag) (C : Addr) : Bool := (PySem.W.clsIn K C).isSome && (He.eqO (PySem.W.findIn K (.ref C) "__class__") (some (some (.builtin "object.__class__"))) &&
  (He.eqO (PySem.W.specialIn K (.builtin "object.__class__") "__get__") (some (some (.builtin "getset_descriptor.__get__"))) && (decide (PySem.W.takesIn K (.builtin "object.__class__") = some true) && decide (PySem.W.mroIn K C (.type "object") = some true))))
def pairB (K : Frag) (r q : Er) : Bool := decide (PySem.W.exmOne K (.ref (He.ga K r.c)) (.ref (He.ga K q.c)) = some (r.up.contains q.c)) && decide (PySem.W.kitOne K (.ref (He.ga K r.c)) (.ref (He.ga K q.c)) = some (r.up.contains q.c))
def errB (P : Program) (K : Frag) (l : List Er) (r : Er) : Bool := (He.Fa.glo r.c).ok K && (initB P K r.c && (xccB K r && (xfB K (He.ga K r.c) && (iscB K (He.ga K r.c) && (l.all (pairB K r) &&
  bases.all fun T => decide (PySem.W.kitOne K (.ref (He.ga K r.c)) (.type T) = some (r.up.contains (Str.ofString T))))))))
/-- what the text says of one of them -/
structure ErOk (P : Program) (r : Er) : Prop where
  ex : ∃ (x : Str) (p0 p1 p2 p3 p4 p5 p6 p7 p8 p9 : Pos), r.body = [.Expr (.Call (.Attribute (.Call (.Name "super" p0) [] [] p1) "__init__" p2) [.Name x p3] [] p4) p5, .Assign [.Attribute (.Name "self" p6) r.fl p7] (.Name x p8) p9] ∧
    (∀ env : Env, ∃ pl : Sem Bool, eval (.Call (.Attribute (.Call (.Name "super" p0) [] [] p1) "__init__" p2) [.Name x p3] [] p4) env = (do
      let ov ← attributeBase (.Call (.Name "super" p0) [] [] p1) "__init__" env (eval (.Call (.Name "super" p0) [] [] p1) env)
      standAt p2.atName
      let (f, first) ← holding [ov] (getMethod ov "__init__" pl)
      callWith p4 f first (backTo p4 (starEach [.Name x p3] env)) [])) ∧
    r.scope.isCoroutine = false ∧ r.scope.isGenerator = false ∧ r.scope.kind = .function ∧ (∀ y ∈ r.scope.names, y.2 ≠ .cell) ∧ r.scope.names.lookup ("super" : Str) = some .globalImplicit ∧ r.scope.names.lookup ("__class__" : Str) = some .free ∧
    r.scope.names.lookup ("self" : Str) = some .local ∧ r.scope.names.lookup x = some .local ∧ (∃ ar : Arg, (r.params.posonlyargs ++ r.params.args).head? = some ar ∧ ar.arg = "self") ∧ x ≠ "self" ∧ (x == ("__debug__" : Str)) = false ∧
    (∀ (kV doc pm : Value) (an : Option Addr) (cda ct : Value) (cc : Addr) (a b : Value), bindArgs (PySem.W.ksFn "__init__" r.qual r.params r.body r.scope .none kV doc pm an cda ct cc) ⟨[a, b], []⟩ = pure [(("self" : Str), a), (x, b)]) ∧
    (P.main.scope.names.lookup ("super" : Str)).isSome = false
theorem noneB_ok {v : Value} (h : noneB v = true) : v = .none := by cases v <;> first | rfl | cases h
theorem ga_cls {K : Frag} {h : Heap} {mg : Str → Option Value} {r : Er} (X : K.In h) (G : h.Ns mainGlobals mg) (c : (He.Fa.glo r.c).ok K = true) : mg r.c = some (.ref (He.ga K r.c)) := He.glo_ok X G c
theorem init_ok {P : Program} {K : Frag} {r : Er} {x : Str} (hb : initB P K r.c = true) (ho : inObs K r.c = r.val) (co : r.scope.isCoroutine = false) (ge : r.scope.isGenerator = false) (kd : r.scope.kind = .function) (nc : ∀ y ∈ r.scope.names, y.2 ≠ .cell)
    (ks : r.scope.names.lookup ("super" : Str) = some .globalImplicit) (kc : r.scope.names.lookup ("__class__" : Str) = some .free) (k0 : r.scope.names.lookup ("self" : Str) = some .local) (kx : r.scope.names.lookup x = some .local)
    (hd : ∃ ar : Arg, (r.params.posonlyargs ++ r.params.args).head? = some ar ∧ ar.arg = "self") (nx : x ≠ "self") (nb : (x == ("__debug__" : Str)) = false)
    (bd : ∀ (kV doc pm : Value) (an : Option Addr) (cda ct : Value) (cc : Addr) (a b : Value), bindArgs (PySem.W.ksFn "__init__" r.qual r.params r.body r.scope .none kV doc pm an cda ct cc) ⟨[a, b], []⟩ = pure [(("self" : Str), a), (x, b)])
    (tp : (P.main.scope.names.lookup ("super" : Str)).isSome = false) : InitF P K (inF K r.c) (inD K r.c) r.qual r.params r.body r.scope x := by
  unfold initB at hb
  unfold inObs at ho
  cases q : K.lookup (inF K r.c) with
  | none => rw [q] at hb; cases hb
  | some o =>
    obtain ⟨oc, od, dt, osl⟩ := o
    rw [q] at hb ho
    cases dt with
    | func fd =>
      obtain ⟨n1, n2, n3, n4, n5, n6, n7, n8, n9, n10, n11, n12, n13, n14, n15⟩ := fd
      have e2 : (some (n1, n2, n3, n4, n5, n6, n15) : InV) = (some (("__init__" : Str), r.qual, r.params, FuncBody.stmts r.body, r.scope, mainGlobals, builtinsNs) : InV) := ho
      simp only [Option.some.injEq, Prod.mk.injEq] at e2
      obtain ⟨h1, h2, h3, h4, h5, h6, h7⟩ := e2
      subst h1 h2 h3 h4 h5 h6 h7
      dsimp only at hb
      obtain ⟨b1, hb⟩ := Bool.and_eq_true_iff.mp hb
      obtain ⟨b2, hb⟩ := Bool.and_eq_true_iff.mp hb
      obtain ⟨b3, hb⟩ := Bool.and_eq_true_iff.mp hb
      obtain ⟨b4, b5⟩ := Bool.and_eq_true_iff.mp hb
      have dn := noneB_ok b1
      subst dn
      match n7, b2 with
      | [(y, cc)], b2 =>
        obtain ⟨c1, c2⟩ := Bool.and_eq_true_iff.mp b2
        have c1 := of_decide_eq_true c1
        subst c1
        match n13, b3 with
        | .ref cda, b3 =>
          obtain ⟨d1, d2⟩ := Bool.and_eq_true_iff.mp b3
          refine ⟨⟨oc, od, .none, n9, n10, n11, n12, cda, n14, cc, osl, q, d1, ?_, ?_, fun _ => rfl⟩, Option.isSome_iff_exists.mp b4, He.eqO_ok b5, co, ge, kd, nc, ks, kc, k0, kx, hd, nx, nb, bd, tp⟩
          · unfold fileB at d2
            cases q2 : K.lookup cda with
            | none => rw [q2] at d2; cases d2
            | some o =>
              obtain ⟨oc2, od2, dt2, osl2⟩ := o
              rw [q2] at d2
              cases dt2 with
              | fields vs =>
                dsimp only at d2
                cases q3 : vs[2]? with
                | none => rw [q3] at d2; cases d2
                | some v =>
                  rw [q3] at d2
                  cases v with
                  | str f tf =>
                    have e := of_decide_eq_true d2
                    subst e
                    exact ⟨oc2, od2, vs, osl2, tf, rfl, q3⟩
                  | _ => cases d2
              | _ => cases d2
          · unfold cellB at c2
            cases q2 : K.lookup cc with
            | none => rw [q2] at c2; cases c2
            | some o =>
              obtain ⟨oc2, od2, dt2, osl2⟩ := o
              rw [q2] at c2
              cases dt2 with
              | cell v =>
                cases v with
                | none => cases c2
                | some v =>
                  cases v with
                  | ref D' =>
                    have e := of_decide_eq_true c2
                    rw [e]
                    exact ⟨oc2, od2, osl2, rfl⟩
                  | _ => cases c2
              | _ => cases c2
    | _ => cases hb
theorem xcc_ok {K : Frag} {r : Er} (h : xccB K r = true) : XcC K (He.ga K r.c) (inF K r.c) (inD K r.c) r.bs.nw r.bs.ini r.bs.B r.bs.tl r.fl := by
  unfold xccB at h
  dsimp only at h
  simp only [Bool.and_eq_true, decide_eq_true_eq] at h
  obtain ⟨h1, h2, h3, h4, h5, h6, h7, h8, h9, h10, h11, h12, h13⟩ := h
  exact ⟨h1, h2, h3, He.eqO_ok h4, h5, He.eqO_ok h6, He.eqO_ok h7, h8, He.eqO_ok h9, h10, h11, h12, h13⟩
theorem isc_ok {K : Frag} {C : Addr} (h : iscB K C = true) : IsC K C := by
  unfold iscB at h
  simp only [Bool.and_eq_true, decide_eq_true_eq] at h
  obtain ⟨h1, h2, h3, h4, h5⟩ := h
  exact ⟨h1, He.eqO_ok h2, He.eqO_ok h3, h4, h5⟩
theorem err_ok {P : Program} {K : Frag} {h : Heap} {mg : Str → Option Value} {l : List Er} (X : K.In h) (G : h.Ns mainGlobals mg) (hT : ∀ r ∈ l, ErOk P r) (hB : ∀ r ∈ l, errB P K l r = true) (hO : ∀ r ∈ l, inObs K r.c = r.val) : ErrS P K mg (ctOf l) := by
  have gl : ∀ r ∈ l, mg r.c = some (.ref (He.ga K r.c)) := fun r hr => by
    have hb := hB r hr
    unfold errB at hb
    exact He.glo_ok X G (Bool.and_eq_true_iff.mp hb).1
  refine ⟨fun p hp => ?_⟩
  obtain ⟨r, hr, rfl⟩ := List.mem_map.mp hp
  have hb := hB r hr
  unfold errB at hb
  simp only [Bool.and_eq_true] at hb
  obtain ⟨h1, h2, h3, h4, h5, h6, h7⟩ := hb
  have xc := xcc_ok h3
  have xf := xfB_ok h4
  refine ⟨He.ga K r.c, gl r hr, ?_, xf, xc.nf, isc_ok h5, fun q hq => ?_, fun T hT => ?_⟩
  · obtain ⟨x, p0, p1, p2, p3, p4, p5, p6, p7, p8, p9, hb, hc, a1, a2, a3, a4, a5, a6, a7, a8, a9, a10, a11, a12, a13⟩ := (hT r hr).ex
    have I := init_ok h2 (hO r hr) a1 a2 a3 a4 a5 a6 a7 a8 a9 a10 a11 a12 a13
    rw [hb] at I
    refine ⟨He.ga K r.c, inF K r.c, inD K r.c, r.bs.B, r.bs.nw, r.bs.ini, r.bs.tl, r.qual, r.params, r.scope, x, p0, p1, p2, p3, p4, p5, p6, p7, p8, p9, gl r hr, ?_, I, xc, hc⟩
    unfold Er.bs
    split
    · exact eb_VE
    · exact eb_OE
  · obtain ⟨q', hq', rfl⟩ := List.mem_map.mp hq
    have hp2 := List.all_eq_true.mp h6 q' hq'
    unfold pairB at hp2
    simp only [Bool.and_eq_true, decide_eq_true_eq] at hp2
    exact ⟨He.ga K q'.c, gl q' hq', hp2.1, hp2.2⟩
  · exact of_decide_eq_true (List.all_eq_true.mp h7 T hT)
/-! ### the Hook -/
def asY (g : Addr → Option Obj) : Nat → List Addr
  | 0 => [mainGlobals, cStatics]
  | n + 1 => growX g (asY g n)
abbrev AlY : Type := AlX × Bool × List InV
def obsYK (P : Program) (z : Wd) (l : List Er) (K : Frag) : AlY := (obsK z K, l.all (errB P K l), l.map fun r => inObs K r.c)
def valY (P : Program) (z : Wd) (l : List Er) (w : World) : AlY := (valX P z w, true, l.map Er.val)
def obsY (n : Nat) (P : Program) (z : Wd) (l : List Er) (g : Addr → Option Obj) : AlY := obsYK P z l (He.frG g (asY g n))
def hookY (n : Nat) (P : Program) (z : Wd) (l : List Er) : PySem.W.Hook where
  α := AlY
  obs := fun s => obsY n P z l s.heap.get?
  val := valY P z l
  says := fun w h => ∃ K : Frag, K.In h ∧ obsYK P z l K = valY P z l w
  of := fun _ _ e => ⟨_, He.frG_in, e⟩
  keeps := fun _ _ _ ⟨K, hK, c⟩ k => ⟨K, PySem.W.Frag.In.keeps hK k, c⟩
theorem obsY_eq {n : Nat} {P : Program} {z : Wd} {l : List Er} {g : Addr → Option Obj} {s : Shared} (h : ∀ a, g a = s.heap.get? a) : obsY n P z l g = (hookY n P z l).obs s := by
  have e : g = s.heap.get? := funext h
  rw [e] <;> rfl
structure SaysY (P : Program) (z : Wd) (l : List Er) (w : World) (K : Frag) : Prop extends SaysX P z w K where
  e : ∀ r ∈ l, errB P K l r = true
  o : ∀ r ∈ l, inObs K r.c = r.val
theorem saysY_of {P : Program} {z : Wd} {l : List Er} {w : World} {K : Frag} (e : obsYK P z l K = valY P z l w) : SaysY P z l w K := by
  have e1 : obsK z K = valX P z w := congrArg (fun a : AlY => a.1) e
  have e2 : l.all (errB P K l) = true := congrArg (fun a : AlY => a.2.1) e
  have e3 : (l.map fun r => inObs K r.c) = l.map Er.val := congrArg (fun a : AlY => a.2.2) e
  refine ⟨says_of e1, fun r hr => List.all_eq_true.mp e2 r hr, fun r hr => ?_⟩
  exact List.map_inj_left.mp e3 r hr
theorem SaysY.err {P : Program} {z : Wd} {l : List Er} {w : World} {K : Frag} {h : Heap} {mg : Str → Option Value} (s : SaysY P z l w K) (X : K.In h) (G : h.Ns mainGlobals mg) (hT : ∀ r ∈ l, ErOk P r) : ErrS P K mg (ctOf l) := err_ok X G hT s.e s.o
theorem law_endY {l : PySem.W.OpenLaw} {n k m : Nat} {q P : Program} {loose : List Str} {d : DefRec} {Z : Wd} {L : List Er} {F : FD}
    (hn : l.most = some n) (hn2 : n ≤ sizeLine) (hdf : d.params.defaults = []) (hr : Room k callerA) (hname : d.name = ("law" : Str))
    (D : ∀ (w : World) (K : Frag) (mg : Str → Option Value) (h : Heap), K.In h → h.Ns mainGlobals mg → SaysY P Z L w K → ∀ base : Heap, DefG l.prog w K mg base k "law" 1 F)
    (hF : ∀ ns : List Int, ns.length ≤ n → ∃ own ss, F [.sh (.list (ns.map PyData.int))] = .ret own (.bool true) ss) (hT : TbP.T = [] := by rfl) :
    PySem.W.WalkO q loose (PySem.W.XL q []) (hookY m P Z L).says l.row.toRowW d [] (fun f vs => PySem.call f vs) :=
  Att.attach_call hn hdf fun w _ s₁ mg _ fa _ _ _ _ a vs ns G Y _ _ _ hmg hobj hints hlen hg => by
    obtain ⟨K, KX, e⟩ := Y
    have S := saysY_of e
    obtain ⟨f0, fd0, ps0, FG0, hm0, hk0, hb0, hl0⟩ := (D w K mg _ KX G.T.g S s₁.heap).ex
    rw [hname, hm0] at hmg
    cases hmg
    refine lawG' KX G.T.g G.T.b G.T.builtins G.T.nolimit hg hobj hints (Nat.le_trans hlen hn2) hr hm0 (fun base hB hN => (D w K mg _ KX G.T.g S base)) fun H hO hS => ?_
    obtain ⟨own, ss, hF⟩ := hF ns hlen
    exact sp_law hO hS hF hT
end VL
namespace VL
variable [TbP]
theorem ErrS.er {P : PySem.Program} {K : Frag} {mg : PySem.Str → Option PySem.Value} {CT : Ct} (S : ErrS P K mg CT) {j : Nat} {c fl : PySem.Str} {up : List PySem.Str} (h : CT[j]? = some (c, fl, up)) : ErrT P K mg c fl := by
  obtain ⟨C, _, h2, _⟩ := S.ok _ (List.mem_of_getElem? h)
  exact h2
end VL


set_option Elab.async false
set_option linter.all false
set_option maxRecDepth 100000
set_option maxHeartbeats 4000000
/-! EX7: tuple * int of any size, texts compared by <=, list(range(..)). -/
namespace VL
open PySem PySem.Spec PyProof.Rows L2
variable [TbP]
theorem tup_mul_same (l : Addr) (items : Array Value) (n : Nat) (dd : Option Addr) (sl : Array (Option Value)) (x : Int) (u : Tok) (c0 : (decide (x < -(2 ^ 63)) || decide (x ≥ 2 ^ 63)) = false) (c1 : (items.isEmpty || x == 1) = true) :
    Meets (Builtin.«tuple.__mul__» ⟨[.ref l, .int x u], []⟩) (fun _ R s => s.heap.get? l = some { cls := .type "tuple", dict := dd, data := .seq items n, slots := sl } ∧ R (.ok (.ret (Value.ref l))) s) :=
  .of_wp fun prog w A R s h => by
    obtain ⟨hp, g, d, tk, os⟩ := s
    obtain ⟨hl, h⟩ := h
    have f1 := AutoSeq1.idx_int
    wp_walk using wpAny_loadPart' hl
    repeat (first
      | (refine wpAny_ite_false (decide_eq_false (by rw [c0]; exact Bool.false_ne_true)) ?_; wp_walk using wpAny_loadPart' hl)
      | (refine wpAny_ite_true (decide_eq_true (by rw [c1])) ?_; wp_walk using wpAny_loadPart' hl))
    all_goals first | exact ⟨_, rfl, h⟩ | skip
theorem tup_mul_none (l : Addr) (items : Array Value) (n : Nat) (dd : Option Addr) (sl : Array (Option Value)) (x : Int) (u : Tok) (c0 : (decide (x < -(2 ^ 63)) || decide (x ≥ 2 ^ 63)) = false) (c1 : (items.isEmpty || x == 1) = false) (c2 : (decide (x ≤ 0) || items.isEmpty) = true) :
    Meets (Builtin.«tuple.__mul__» ⟨[.ref l, .int x u], []⟩) (fun _ R s => s.heap.get? l = some { cls := .type "tuple", dict := dd, data := .seq items n, slots := sl } ∧
      R (.ok (.ret (Value.ref s.heap.objs.size))) { s with heap := s.heap.push { cls := Value.type "tuple", data := Data.seq #[] }, toks := s.toks }) :=
  .of_wp fun prog w A R s h => by
    obtain ⟨hp, g, d, tk, os⟩ := s
    obtain ⟨hl, h⟩ := h
    have f1 := AutoSeq1.idx_int
    wp_walk using wpAny_loadPart' hl
    repeat (first
      | (refine wpAny_ite_false (decide_eq_false (by rw [c0]; exact Bool.false_ne_true)) ?_; wp_walk using wpAny_loadPart' hl)
      | (refine wpAny_ite_false (decide_eq_false (by rw [c1]; exact Bool.false_ne_true)) ?_; wp_walk using wpAny_loadPart' hl)
      | (refine wpAny_ite_true (decide_eq_true (by rw [c2])) ?_; wp_walk using wpAny_loadPart' hl))
    all_goals first | exact ⟨_, rfl, h⟩ | skip
end VL
namespace VL
open PySem PySem.Spec PyProof.Rows L2
variable [TbP]
def rRepT3 (K : Frag) : R2 := fun x y H Q => ∃ l k xs, x = .ref l ∧ y = .int k ∧ SqT K H l xs ∧ -(2 ^ 63) < k ∧ k < 2 ^ 63 ∧ xs.length * k.toNat ≤ 1000000 ∧ (xs = [] ∨ k = 1 → Q (.ref l) H) ∧ (xs ≠ [] → k ≠ 1 → ∀ p, H p = none → Q (.ref p) (upd H p (.tup (List.replicate k.toNat xs).flatten)))
theorem op_repT3 {X : Cx} : OpR X (binaryOp .Mult) (rRepT3 X.K) := by
  intro pins s σ H x y v u Q I rx ry h
  obtain ⟨l, k, xs, rfl, rfl, hT, k1, k2, hz, qa, qb⟩ := h
  cases rx
  obtain ⟨t, rfl⟩ := ry
  obtain ⟨its, r, ⟨⟨cls, dd, data, sl⟩, ho, hc, n, hd⟩, hs⟩ := I.tuple hT
  simp only at hc hd
  subst hc hd
  have hle : its.length = xs.length := r.length.symm
  have hie : its.toArray.isEmpty = xs.isEmpty := by
    cases its with
    | nil => cases xs with
      | nil => rfl
      | cons a b => simp at hle
    | cons a b => cases xs with
      | nil => simp at hle
      | cons c d => rfl
  have c0 : (decide (k < -(2 ^ 63)) || decide (k ≥ 2 ^ 63)) = false := by
    rw [decide_eq_false (by omega), decide_eq_false (by omega)] <;> rfl
  have go : ∀ {P : Value → Shared → Prop}, wpAny (model X.prog X.w) X.A (call (.builtin "tuple.__mul__") [.ref l, .int k t]) P X.xe s → wpAny (model X.prog X.w) X.A (binaryOp .Mult (.ref l) (.int k t)) P X.xe s := fun {P} hcall =>
    wpAny_binaryOp_repeat_ref (T := "tuple") (U := "int") (by decide) ⟨_, ho, rfl⟩ (fun s' => typeIs_int s' k t) noFill_tuple_mul F.fills_int_mul F.slot_int_rmul repeat_tuple F.slot_int_index.lookup
      (call_meets F.slot_int_rmul (typeIs_int s k t) F.entry_int_rmul (F.args_int_rmul_2 _ _) (int_rmul_tuple k t l its.toArray n dd sl) ⟨ho, rfl, ⟨_, ho, rfl⟩, hcall⟩)
  by_cases c : xs = [] ∨ k = 1
  · have c1 : (its.toArray.isEmpty || k == 1) = true := by
      rw [hie]
      rcases c with rfl | rfl
      · rfl
      · exact Bool.or_eq_true_iff.mpr (.inr rfl)
    refine go (call_meets F.slot_tuple_mul ⟨_, ho, rfl⟩ F.entry_tuple_mul (F.args_tuple_mul_2 _ _) (tup_mul_same l its.toArray n dd sl k t c0 c1) ⟨ho, ?_⟩)
    exact ⟨.ref l, H, I, rfl, qa c⟩
  · have hne : xs ≠ [] := fun z => c (.inl z)
    have hk1 : k ≠ 1 := fun z => c (.inr z)
    have hemp : xs.isEmpty = false := by cases xs with
      | nil => exact absurd rfl hne
      | cons a b => rfl
    have c1 : (its.toArray.isEmpty || k == 1) = false := by
      rw [hie, hemp, Bool.false_or]
      exact beq_eq_false_iff_ne.mpr hk1
    by_cases cn : k ≤ 0
    · have c2 : (decide (k ≤ 0) || its.toArray.isEmpty) = true := by rw [decide_eq_true cn]; rfl
      refine go (call_meets F.slot_tuple_mul ⟨_, ho, rfl⟩ F.entry_tuple_mul (F.args_tuple_mul_2 _ _) (tup_mul_none l its.toArray n dd sl k t c0 c1 c2) ⟨ho, ?_⟩)
      have e0 : (List.replicate k.toNat xs).flatten = [] := by
        have : k.toNat = 0 := by omega
        rw [this]; rfl
      have qb := qb hne hk1
      rw [e0] at qb
      refine ⟨.ref s.heap.objs.size, _, I.laid (t' := s.toks) (o := .tup []) (fun b ob q => Heap.get?_push_of_some _ q) (Nat.le_refl _) ?_, rfl, qb _ (I.hok.fresh (Nat.le_refl _))⟩
      exact ⟨Nat.zero_le _, [], .nil, IsTup.new _ _⟩
    · have flen : (List.replicate k.toNat its).flatten.length ≤ sizeLine := by
        rw [PyProof.Rows.lm_len_rep_flat, hle, sizeLine_eq, Nat.mul_comm]
        omega
      have hsz : ((its.toArray.size : Nat) : Int) * k ≤ 1000000 := by
        rw [List.size_toArray, hle]
        have h3 : ((xs.length * k.toNat : Nat) : Int) ≤ 1000000 := Int.ofNat_le.mpr hz
        have h4 : ((k.toNat : Nat) : Int) = k := Int.toNat_of_nonneg (Int.le_of_lt (Int.not_le.mp cn))
        rw [Int.natCast_mul, h4] at h3
        exact h3
      have c2 : (decide (k ≤ 0) || its.toArray.isEmpty) = false := by
        rw [hie, hemp, Bool.or_false]
        exact decide_eq_false cn
      have c4 : Builtin.Tuple.tupleTooMany (((its.toArray.size : Nat) : Int) * k) = false := by
        unfold Builtin.Tuple.tupleTooMany
        rw [sizeLine_eq]
        exact decide_eq_false (by omega)
      refine go (call_meets F.slot_tuple_mul ⟨_, ho, rfl⟩ F.entry_tuple_mul (F.args_tuple_mul_2 _ _) (tuple_mulW l its.toArray n dd sl k t c0 c1 c2 (by omega) c4 (by rw [size_rep, List.size_toArray]; exact flen)) ⟨ho, ?_⟩)
      rw [size_rep]
      refine ⟨.ref s.heap.objs.size, _, I.laid (t' := s.toks) (o := .tup (List.replicate k.toNat xs).flatten) (fun b ob q => Heap.get?_push_of_some _ q) (Nat.le_refl _) ?_, rfl, qb hne hk1 _ (I.hok.fresh (Nat.le_refl _))⟩
      refine ⟨?_, _, r.rep k.toNat, IsTup.new _ _⟩
      rw [PyProof.Rows.lm_len_rep_flat, sizeLine_eq, Nat.mul_comm]
      omega
def tupMulG3 : G2
  | .tuple ds, .int k => if -1000000 ≤ k ∧ k ≤ 1000000 ∧ ds.length * k.toNat ≤ 1000000 then some (.sh (.tuple (List.replicate k.toNat ds).flatten)) else none
  | _, _ => none
theorem tupMul_A3 {K : Frag} : OpA K (rRepT3 K) tupMulG3 := by
  intro A H x y vx vy z Q hd e hx hy q
  match x, y, e with
  | .tuple ds, .int k, e =>
    dsimp only [tupMulG3] at e
    by_cases c : -1000000 ≤ k ∧ k ≤ 1000000 ∧ ds.length * k.toNat ≤ 1000000
    · rw [if_pos c] at e
      cases e
      obtain ⟨a, xs, rfl, sl, r⟩ := hx.tup
      refine ⟨a, k, xs, rfl, hy.int, sl, by have := c.1; omega, by have := c.2.1; omega, by rw [← r.length]; exact c.2.2, fun h => ?_, fun h1 h2 p n => q _ _ (same_upd n) (rp_tup n (r.rep _))⟩
      refine q _ _ (Same.refl H) ?_
      have e : (List.replicate k.toNat ds).flatten = ds := by
        rcases h with h | h
        · subst h
          have : ds = [] := by
            cases ds with
            | nil => rfl
            | cons _ _ => have := r.length; simp at this
          rw [this]; simp
        · subst h; simp
      show Rp K A H (.tuple (List.replicate k.toNat ds).flatten) (.ref a)
      rw [e]
      simp only [Rp]
      exact ⟨a, xs, rfl, sl, r⟩
    · rw [if_neg c] at e; cases e
def mulG3 : G2 := orG mulG tupMulG3
def mulX3 (fa fb : EF) : EF := fun env => (fa env).bind fun r1 e1 => (fb e1).bind fun r2 e2 => match rd e2 r1, rd e2 r2 with
  | some (.list ds), some (.int k) => if isOwned e2 r1 = true ∧ -(2 ^ 63) ≤ k ∧ k < 2 ^ 63 ∧ ds.length * k.toNat ≤ LIM then .ok (.tm (.list (List.replicate k.toNat ds).flatten)) e2 else .no
  | some x, some y => out1 (mulG3 x y) e2
  | _, _ => .no
theorem e_mulX3 {X : Cx} {W : WX} {a b : Expr} {fa fb : EF} {pos : Pos} (ha : PE X a (tE (gd X W) fa)) (hb : PE X b (tE (gd X W) fb)) : PE X (.BinOp a .Mult b pos) (tE (gd X W) (mulX3 fa fb)) :=
  PE.imp (pe_op ((op_mulA.or op_repT3).or op_rep) ha hb) fun σ H Q h => by
    obtain ⟨A, env, rel, h⟩ := h
    refine ⟨A, env, rel, (Post.bind h).imp fun r1 e1 A1 H1 s1 h1 v1 hv1 => ?_⟩
    refine ⟨A1, e1, s1.rel, (Post.bind h1).imp fun r2 e2 A2 H2 s2 h2 v2 hv2 => ?_⟩
    have hv1' := hv1.step s1.rel s2
    have st := s1.trans s2
    have gen : ∀ x y, rd e2 r1 = some x → rd e2 r2 = some y → Post (gd X W) A2 σ H2 e2 (out1 (mulG3 x y) e2) (EQ (gd X W) σ H Q) →
        rI (fun i j => CMul i j ∨ CMulW i j) (fun i j => .int (i * j)) v1 v2 H2 Q ∨ rRepT3 X.K v1 v2 H2 Q := fun x y q1 q2 h2 => by
      unfold out1 at h2
      cases q3 : mulG3 x y with
      | none => rw [q3] at h2; exact h2.elim
      | some z =>
        rw [q3] at h2
        exact (OpA.or (int_A (fun i j h => mulOk_of h) fun A H _ _ => rp_int (K := X.K) (A := A) (H := H)) tupMul_A3) A2 H2 x y v1 v2 z Q s2.rel.dom q3 (hv1'.rq s2.rel q1) (hv2.rq s2.rel q2) fun v' H' sm hz => fin1 st h2 sm hz
    cases q1 : rd e2 r1 with
    | none => rw [q1] at h2; exact h2.elim
    | some x =>
      cases q2 : rd e2 r2 with
      | none => rw [q1, q2] at h2; cases x <;> exact h2.elim
      | some y =>
        rw [q1, q2] at h2
        cases x with
        | list ds =>
          cases y with
          | int k =>
            dsimp only at h2
            by_cases c : isOwned e2 r1 = true ∧ -(2 ^ 63) ≤ k ∧ k < 2 ^ 63 ∧ ds.length * k.toNat ≤ LIM
            · rw [if_pos c] at h2
              refine .inr ?_
              have ob : ∃ a, v1 = .ref a ∧ Ob X.K A2 H2 a (.list ds) := by
                cases r1 with
                | sh d => cases c.1
                | tm d =>
                  cases q1
                  obtain ⟨a, ea, _, _, _, ob⟩ := hv1'
                  exact ⟨a, ea, ob⟩
                | bo i =>
                  obtain ⟨d, hd⟩ := Option.isSome_iff_exists.mp (show (mutS e2 i).isSome = true from c.1)
                  have ho := mutS_own hd
                  obtain ⟨a, ea, na, ob⟩ := s2.rel.ow i d ho
                  rw [hv1'.1] at ea
                  have ed : d = .list ds := by
                    have q1 : rdAt e2 i = some (.list ds) := q1
                    unfold rdAt at q1
                    rcases ho with z | z <;> (rw [z] at q1; exact Option.some.inj q1)
                  subst ed
                  exact ⟨a, Option.some.inj (Option.some.inj ea), ob⟩
              obtain ⟨a, ea, ys, ey, ry⟩ := ob
              exact ⟨a, k, ys, ea, (hv2.rq s2.rel q2).int, ey, c.2.1, c.2.2.1, by rw [← ry.length, lim_eq]; exact c.2.2.2, fun p n => fin1 st h2 (same_upd n) (rz_lst n (ry.rep _))⟩
            · rw [if_neg c] at h2; exact h2.elim
          | _ => exact .inl (gen _ _ q1 q2 h2)
        | none => exact .inl (gen _ _ q1 q2 h2)
        | bool _ => exact .inl (gen _ _ q1 q2 h2)
        | int _ => exact .inl (gen _ _ q1 q2 h2)
        | str _ => exact .inl (gen _ _ q1 q2 h2)
        | tuple _ => exact .inl (gen _ _ q1 q2 h2)
        | dict _ => exact .inl (gen _ _ q1 q2 h2)
/-! ### texts by <= and >= -/
def strLeG : G2
  | .str i, .str j => some (.sh (.bool (!decide (j.cps.toList < i.cps.toList))))
  | _, _ => none
def strGeG : G2
  | .str i, .str j => some (.sh (.bool (!decide (i.cps.toList < j.cps.toList))))
  | _, _ => none
theorem strLe_A {K : Frag} : OpA K (fun x y H Q => ∃ i j, x = .str i ∧ y = .str j ∧ Q (.bl (!decide (j.cps.toList < i.cps.toList))) H) strLeG := by
  intro A H x y vx vy z Q hd e hx hy q
  match x, y, e with
  | .str i, .str j, e =>
    cases e
    exact ⟨i, j, hx.str, hy.str, q _ _ (Same.refl H) rz_bl⟩
theorem strGe_A {K : Frag} : OpA K (fun x y H Q => ∃ i j, x = .str i ∧ y = .str j ∧ Q (.bl (!decide (i.cps.toList < j.cps.toList))) H) strGeG := by
  intro A H x y vx vy z Q hd e hx hy q
  match x, y, e with
  | .str i, .str j, e =>
    cases e
    exact ⟨i, j, hx.str, hy.str, q _ _ (Same.refl H) rz_bl⟩
theorem c_leS {X : Cx} {k : Nat} (hr : Room k X.A) : CmpR X .LtE strLeG := ⟨_, op_le_str, strLe_A⟩
theorem c_geS {X : Cx} {k : Nat} (hr : Room k X.A) : CmpR X .GtE strGeG := ⟨_, op_ge_str, strGe_A⟩
/-! ### list(range(..)), tuple(range(..)) -/
def rgD (a b : Int) : List D := (List.range (b - a).toNat).map fun i => PyData.int (a + (i : Nat))
theorem rpl_rg {K : Frag} {A : AS} {H : Hp} {a b : Int} : RpL K A H (rgD a b) (rgV a b) := by
  unfold rgD rgV
  generalize List.range (b - a).toNat = l
  induction l with
  | nil => exact .nil
  | cons i l ih => exact .cons (rp_int (K := K) (A := A) (H := H)) ih
def rgOk (a b : Int) : Bool := decide (-(2 ^ 62) ≤ a ∧ a < 2 ^ 62 ∧ -(2 ^ 62) ≤ b ∧ b < 2 ^ 62 ∧ (b - a).toNat ≤ 2 ^ 24)
def lrgF (t : Bool) (fa fb : EF) : EF := fun env => (fa env).bind fun r1 e1 => match rd e1 r1 with
  | some (.int a) => (fb e1).bind fun r2 e2 => (match rd e2 r2 with
    | some (.int b) => if rgOk a b = true then .ok (if t = true then .sh (.tuple (rgD a b)) else .tm (.list (rgD a b))) e2 else .no
    | _ => .no)
  | _ => .no
section
variable {X : Cx} {W : WX} {a b : Expr} {fa fb : EF} {p p2 pos : Pos}
theorem rg_core {t : Bool} {fa fb : EF} {σ : L2.St} {H : Hp} {Q : VK} (h : tE (gd X W) (lrgF t fa fb) σ H Q) :
    tRg2 (tE (gd X W) fa) (tE (gd X W) fb) σ H (fun a b H1 => RgOk a b ∧ ∀ q, H1 q = none → Q (.ref q) (upd H1 q (if t = true then .tup (rgV a b) else .lst (rgV a b)))) := by
  obtain ⟨A, env, rel, h⟩ := h
  refine ⟨A, env, rel, (Post.bind h).imp fun r1 e1 A1 H1 s1 h1 v1 hv1 => ?_⟩
  cases q1 : rd e1 r1 with
  | none => rw [q1] at h1; exact h1.elim
  | some d1 =>
    rw [q1] at h1
    cases d1 with
    | int i =>
      dsimp only at h1
      refine ⟨A1, e1, s1.rel, (Post.bind h1).imp fun r2 e2 A2 H2 s2 h2 v2 hv2 => ?_⟩
      cases q2 : rd e2 r2 with
      | none => rw [q2] at h2; exact h2.elim
      | some d2 =>
        rw [q2] at h2
        cases d2 with
        | int j =>
          dsimp only at h2
          by_cases c : rgOk i j = true
          · rw [if_pos c] at h2
            refine ⟨i, j, (hv1.rq s1.rel q1).int, (hv2.rq s2.rel q2).int, (by unfold rgOk at c; have c2 := of_decide_eq_true c; exact c2), fun q n => ?_⟩
            have st := s1.trans s2
            cases t with
            | true =>
              exact h2 A2 _ (Stp.same s2.rel (same_upd n)) (.ref q) (rp_tup n rpl_rg)
            | false =>
              refine h2 A2 _ (Stp.same s2.rel (same_upd n)) (.ref q) ?_
              refine (Rz.rv (A := A) (env := env) (e1 := e2) (H := H) st (rz_lst n rpl_rg)).weak fun a o ho z => z
          · rw [if_neg c] at h2; exact h2.elim
        | _ => exact h2.elim
    | _ => exact h1.elim
theorem rg1_core {t : Bool} {σ : L2.St} {H : Hp} {Q : VK} {A : AS} {env : En} (rel : Rel X.K A σ H env) (h : Post (gd X W) A σ H env ((fa env).bind fun r2 e2 => match rd e2 r2 with
    | some (.int b) => if rgOk 0 b = true then .ok (if t = true then .sh (.tuple (rgD 0 b)) else .tm (.list (rgD 0 b))) e2 else .no
    | _ => .no) (EQ (gd X W) σ H Q)) :
    tRg1 (tE (gd X W) fa) σ H (fun a b H1 => RgOk a b ∧ ∀ q, H1 q = none → Q (.ref q) (upd H1 q (if t = true then .tup (rgV a b) else .lst (rgV a b)))) := by
  refine ⟨A, env, rel, (Post.bind h).imp fun r2 e2 A2 H2 s2 h2 v2 hv2 => ?_⟩
  cases q2 : rd e2 r2 with
  | none => rw [q2] at h2; exact h2.elim
  | some d2 =>
    rw [q2] at h2
    cases d2 with
    | int j =>
      dsimp only at h2
      by_cases c : rgOk 0 j = true
      · rw [if_pos c] at h2
        refine ⟨j, (hv2.rq s2.rel q2).int, (by unfold rgOk at c; have c2 := of_decide_eq_true c; exact c2), fun q n => ?_⟩
        cases t with
        | true => exact h2 A2 _ (Stp.same s2.rel (same_upd n)) (.ref q) (rp_tup n rpl_rg)
        | false =>
          refine h2 A2 _ (Stp.same s2.rel (same_upd n)) (.ref q) ?_
          exact (Rz.rv (A := A) (env := env) (e1 := e2) (H := H) s2 (rz_lst n rpl_rg)).weak fun a o ho z => z
      · rw [if_neg c] at h2; exact h2.elim
    | _ => exact h2.elim
variable {pos' : Pos}
theorem e_lrg1 (hc : X.calm = true) (hl : X.mg "list" = none) (hm : X.mg "range" = none) (ha : PE X a (tE (gd X W) fa)) (hg : Gl X "list" := by rfl) (hgr : Gl X "range" := by rfl) (na : starEach [a] X.env = (false, eval a X.env) :: starEach [] X.env := by rfl)
    (ne : starEach [.Call (.Name "range" p2) [a] [] pos] X.env = (false, eval (.Call (.Name "range" p2) [a] [] pos) X.env) :: starEach [] X.env := by rfl) : PE X (.Call (.Name "list" p) [.Call (.Name "range" p2) [a] [] pos] [] pos') (tE (gd X W) (lrgF false (cF (.int 0)) fa)) :=
  PE.imp (pe_listRg hc hg hl (prg_1 hgr hm ha na) ne) fun σ H Q h => by
    obtain ⟨A, env, rel, h⟩ := h
    exact rg1_core (t := false) rel h
theorem e_trg1 (hc : X.calm = true) (hl : X.mg "tuple" = none) (hm : X.mg "range" = none) (ha : PE X a (tE (gd X W) fa)) (hg : Gl X "tuple" := by rfl) (hgr : Gl X "range" := by rfl) (na : starEach [a] X.env = (false, eval a X.env) :: starEach [] X.env := by rfl)
    (ne : starEach [.Call (.Name "range" p2) [a] [] pos] X.env = (false, eval (.Call (.Name "range" p2) [a] [] pos) X.env) :: starEach [] X.env := by rfl) : PE X (.Call (.Name "tuple" p) [.Call (.Name "range" p2) [a] [] pos] [] pos') (tE (gd X W) (lrgF true (cF (.int 0)) fa)) :=
  PE.imp (pe_tupRg hc hg hl (prg_1 hgr hm ha na) ne) fun σ H Q h => by
    obtain ⟨A, env, rel, h⟩ := h
    exact rg1_core (t := true) rel h
theorem e_lrg2 (hc : X.calm = true) (hl : X.mg "list" = none) (hm : X.mg "range" = none) (ha : PE X a (tE (gd X W) fa)) (hb : PE X b (tE (gd X W) fb)) (hg : Gl X "list" := by rfl) (hgr : Gl X "range" := by rfl)
    (na : starEach [a, b] X.env = (false, eval a X.env) :: starEach [b] X.env := by rfl) (nb : starEach [b] X.env = (false, eval b X.env) :: starEach [] X.env := by rfl) (hp : (backTo pos (starEach [b] X.env)).any (·.1) = false := by rfl)
    (ne : starEach [.Call (.Name "range" p2) [a, b] [] pos] X.env = (false, eval (.Call (.Name "range" p2) [a, b] [] pos) X.env) :: starEach [] X.env := by rfl) : PE X (.Call (.Name "list" p) [.Call (.Name "range" p2) [a, b] [] pos] [] pos') (tE (gd X W) (lrgF false fa fb)) :=
  PE.imp (pe_listRg hc hg hl (prg_2 hgr hm ha hb na nb hp) ne) fun σ H Q h => rg_core (t := false) h
theorem e_trg2 (hc : X.calm = true) (hl : X.mg "tuple" = none) (hm : X.mg "range" = none) (ha : PE X a (tE (gd X W) fa)) (hb : PE X b (tE (gd X W) fb)) (hg : Gl X "tuple" := by rfl) (hgr : Gl X "range" := by rfl)
    (na : starEach [a, b] X.env = (false, eval a X.env) :: starEach [b] X.env := by rfl) (nb : starEach [b] X.env = (false, eval b X.env) :: starEach [] X.env := by rfl) (hp : (backTo pos (starEach [b] X.env)).any (·.1) = false := by rfl)
    (ne : starEach [.Call (.Name "range" p2) [a, b] [] pos] X.env = (false, eval (.Call (.Name "range" p2) [a, b] [] pos) X.env) :: starEach [] X.env := by rfl) : PE X (.Call (.Name "tuple" p) [.Call (.Name "range" p2) [a, b] [] pos] [] pos') (tE (gd X W) (lrgF true fa fb)) :=
  PE.imp (pe_tupRg hc hg hl (prg_2 hgr hm ha hb na nb hp) ne) fun σ H Q h => rg_core (t := true) h
end
end VL
namespace VL
open PySem
variable [TbP]
/-- the first statement of a class's body -/
def inSt (s : Stmt) : Stmt := match s with
  | .ClassDef _ _ _ (b :: _) _ _ _ _ _ _ _ => b
  | _ => .Pass ⟨0, 0, 0, 0⟩
end VL




set_option Elab.async false
set_option linter.all false
set_option maxRecDepth 100000
set_option maxHeartbeats 4000000
/-! EX8: in a suite: a comparison, 'and'. -/
namespace VL
open PySem PySem.Spec PyProof.Rows L2
variable [TbP]
section
variable {X : Cx} {W : WX} {J : JT} {a b : Expr} {rest : List Expr} {fa fb : EF} {pos : Pos} {g : G2} {r : R2}
theorem opJ_sound {G : Gd} (S : Stb G.K J) (hA : OpA G.K r g) {σ : L2.St} {H : Hp} {Q : VK} (h : tEJ J G (opF g fa fb) σ H Q) : tOp r (tEJ J G fa) (tEJ J G fb) σ H Q := by
  obtain ⟨A, env, rel, j, h⟩ := h
  refine ⟨A, env, rel, j, (Post.bind h).imp fun r1 e1 A1 H1 s1 h1 v1 hv1 => ?_⟩
  refine ⟨A1, e1, s1.rel, S _ _ _ _ _ _ _ j rel s1, (Post.bind h1).imp fun r2 e2 A2 H2 s2 h2 v2 hv2 => ?_⟩
  have hv1' := hv1.step s1.rel s2
  cases q1 : rd e2 r1 with
  | none => rw [q1] at h2; exact h2.elim
  | some x =>
    cases q2 : rd e2 r2 with
    | none => rw [q1, q2] at h2; exact h2.elim
    | some y =>
      rw [q1, q2] at h2
      dsimp only at h2
      unfold out1 at h2
      cases q3 : g x y with
      | none => rw [q3] at h2; exact h2.elim
      | some z =>
        rw [q3] at h2
        exact hA A2 H2 x y v1 v2 z Q s2.rel.dom q3 (hv1'.rq s2.rel q1) (hv2.rq s2.rel q2) fun v' H' sm hz => fin1 (s1.trans s2) h2 sm hz
theorem j_cmp {op : CmpOp} (S : Stb X.K J) (h : CmpR X op g) (ha : PE X a (tEJ J (gd X W) fa)) (hb : PE X b (tEJ J (gd X W) fb)) (hm : behindInMarks op b = false := by first | exact nomark _ | rfl) : PE X (.Compare a [op] [b] pos) (tEJ J (gd X W) (opF g fa fb)) := by
  obtain ⟨r, h1, h2⟩ := h.ex
  exact PE.imp (pe_cmpR h1 ha hb hm) fun σ H Q h => opJ_sound (G := gd X W) S h2 h
theorem j_one {op} (ha : PE X a (tEJ J (gd X W) fa)) : PE X (.BoolOp op [a] pos) (tEJ J (gd X W) fa) := pe_one ha
theorem j_and (S : Stb X.K J) (ha : PE X a (tEJ J (gd X W) fa)) (hb : PE X (.BoolOp .And (b :: rest) pos) (tEJ J (gd X W) fb)) : PE X (.BoolOp .And (a :: b :: rest) pos) (tEJ J (gd X W) (andE fa fb)) :=
  PE.imp (pe_andT ha hb) fun σ H Q h => by
    obtain ⟨A, env, rel, j, h⟩ := h
    refine ⟨A, env, rel, j, (Post.bind h).imp fun r e1 A1 H1 s1 h1 v hv => ?_⟩
    obtain ⟨k, t, h2⟩ := truR_ok s1.rel hv h1
    refine ⟨k, t, ?_⟩
    cases k with
    | true => exact ⟨A1, e1, s1.rel, S _ _ _ _ _ _ _ j rel s1, h2.later s1⟩
    | false => exact h2 A1 H1 (.refl s1.rel) v hv
theorem c_neU (hu : X.A.units + 64 < cLine) : CmpR X .NotEq neG := ⟨_, op_neD hu, ne_A⟩
theorem c_leU : CmpR X .LtE leG := ⟨_, op_le, cmpI_A⟩
theorem c_gtU : CmpR X .Gt gtG := ⟨_, op_gt, cmpI_A⟩
theorem c_geU : CmpR X .GtE geG := ⟨_, op_ge, cmpI_A⟩
theorem c_isU : CmpR X .Is (isG false) := ⟨_, op_isN.or op_is_bl, is_A⟩
end
end VL


set_option Elab.async false
set_option linter.all false
set_option maxRecDepth 100000
set_option maxHeartbeats 4000000
/-! EX9: a chain of three comparisons -/
namespace VL
open PySem PySem.Spec PyProof.Rows L2
variable [TbP]
section
variable {X : Cx} {W : WX} {a b c d : Expr} {ta tb tc td : TE} {fa fb fc fd : EF} {pos : Pos} {r r' r'' : R2} {g g' g'' : G2}
/-- a op1 b op2 c op3 d -/
def tChain3 (r r' r'' : R2) (ta tb tc td : TE) : TE := fun σ H Q => ta σ H fun x H1 => tb σ H1 fun y H2 => r x y H2 fun z H3 => ∃ k, z = .bl k ∧
  (if k = true then tc σ H3 fun w H4 => r' y w H4 fun z' H5 => ∃ k', z' = .bl k' ∧ (if k' = true then td σ H5 fun u H6 => r'' w u H6 Q else Q (.bl false) H5) else Q (.bl false) H3)
theorem pe_chain3 {op op' op'' : CmpOp} (ho : OpR X (compareOp op) r) (ho' : OpR X (compareOp op') r') (ho'' : OpR X (compareOp op'') r'') (ha : PE X a ta) (hb : PE X b tb) (hc : PE X c tc) (hd : PE X d td)
    (hm : lastMarks [op, op', op''] [b, c, d] = false := by with_unfolding_all rfl) : PE X (.Compare a [op, op', op''] [b, c, d] pos) (tChain3 r r' r'' ta tb tc td) := by
  refine ⟨fun pins s σ H Q I h => ?_⟩
  refine Compare_chain (thn (ha.run pins s σ H _ I h) fun v s1 ⟨x, H1, I1, r1, q1⟩ => chain_link (thn (hb.run pins s1 σ H1 _ I1 q1) fun u s2 ⟨y, H2, I2, r2, q2⟩ =>
    thn (ho pins s2 σ H2 x y v u _ I2 r1 r2 q2) fun d s3 ⟨z, H3, I3, r3, k, e, q3⟩ => ?_)) hm
  subst e
  cases r3
  refine wpAny_truthy_bool ?_
  cases k with
  | false => exact ite_ff ⟨.bl false, H3, I3, rfl, q3⟩
  | true =>
    refine ite_tt (chain_link (thn (hc.run pins s3 σ H3 _ I3 q3) fun w' s4 ⟨z', H4, I4, r4, q4⟩ => thn (ho' pins s4 σ H4 y z' u w' _ I4 r2 r4 q4) fun d s5 ⟨z2, H5, I5, r5, k2, e2, q5⟩ => ?_))
    subst e2
    cases r5
    refine wpAny_truthy_bool ?_
    cases k2 with
    | false => exact ite_ff ⟨.bl false, H5, I5, rfl, q5⟩
    | true => exact ite_tt (chain_last (thn (hd.run pins s5 σ H5 _ I5 q5) fun w2 s6 ⟨z3, H6, I6, r6, q6⟩ => ho'' pins s6 σ H6 z' z3 w' w2 Q I6 r4 r6 q6))
theorem pt_chain3 {op op' op'' : CmpOp} (ho : OpR X (compareOp op) r) (ho' : OpR X (compareOp op') r') (ho'' : OpR X (compareOp op'') r'') (ha : PE X a ta) (hb : PE X b tb) (hc : PE X c tc) (hd : PE X d td)
    (hm : lastMarks [op, op', op''] [b, c, d] = false := by with_unfolding_all rfl) : PT X (.Compare a [op, op', op''] [b, c, d] pos) (tTest (tChain3 r r' r'' ta tb tc td)) := by
  refine ⟨fun pins s σ H Q I h => ?_⟩
  refine isTrue_chain (thn (ha.run pins s σ H _ I h) fun v s1 ⟨x, H1, I1, r1, q1⟩ => test_link (thn (hb.run pins s1 σ H1 _ I1 q1) fun u s2 ⟨y, H2, I2, r2, q2⟩ =>
    thn (ho pins s2 σ H2 x y v u _ I2 r1 r2 q2) fun d s3 ⟨z, H3, I3, r3, k, e, q3⟩ => ?_)) hm
  subst e
  cases r3
  refine wpAny_truthy_bool ?_
  cases k with
  | false =>
    obtain ⟨k', e', q'⟩ := q3
    cases e'
    exact ite_ff ⟨H3, I3, q'⟩
  | true =>
    refine ite_tt (test_link (thn (hc.run pins s3 σ H3 _ I3 q3) fun w' s4 ⟨z', H4, I4, r4, q4⟩ => thn (ho' pins s4 σ H4 y z' u w' _ I4 r2 r4 q4) fun d s5 ⟨z2, H5, I5, r5, k2, e2, q5⟩ => ?_))
    subst e2
    cases r5
    refine wpAny_truthy_bool ?_
    cases k2 with
    | false =>
      obtain ⟨k', e', q'⟩ := q5
      cases e'
      exact ite_ff ⟨H5, I5, q'⟩
    | true =>
      refine ite_tt (test_last (thn (hd.run pins s5 σ H5 _ I5 q5) fun w2 s6 ⟨z3, H6, I6, r6, q6⟩ => thn (ho'' pins s6 σ H6 z' z3 w' w2 _ I6 r4 r6 q6) fun d' s7 ⟨z4, H7, I7, r7, k3, e3, q7⟩ => ?_))
      subst e3
      cases r7
      exact wpAny_truthy_bool ⟨H7, I7, q7⟩
/-- the rest of a chain behind a value -/
def lnkF (g : G2) (r1 : Rv) (fb : EF) (k : Rv → EF) : EF := fun env => (fb env).bind fun r2 e2 => match rd e2 r1, rd e2 r2 with
  | some x, some y => (match g x y with
    | some (.sh (.bool true)) => k r2 e2
    | some (.sh (.bool false)) => .ok (.sh (.bool false)) e2
    | _ => .no)
  | _, _ => .no
def lstF' (g : G2) (r1 : Rv) (fb : EF) : EF := fun env => (fb env).bind fun r2 e2 => match rd e2 r1, rd e2 r2 with
  | some x, some y => out1 (g x y) e2
  | _, _ => .no
def ch3F (g g' g'' : G2) (fa fb fc fd : EF) : EF := fun env => (fa env).bind fun r1 e1 => lnkF g r1 fb (fun r2 => lnkF g' r2 fc (fun r3 => lstF' g'' r3 fd)) e1
theorem lnk_step {G : Gd} {A0 A1 : AS} {σ : L2.St} {H H1 : Hp} {env0 e1 : En} {r1 : Rv} {v1 : V} {k : Rv → EF} {Q P : VK} {F1 : Addr → Prop} (hA : OpA G.K r g) (s1 : Stp G.K A0 σ H env0 A1 σ H1 e1) (hv1 : RvOk G.K A1 σ H1 e1 F1 r1 v1) (h1 : Post G A1 σ H1 e1 (lnkF g r1 fb k e1) (EQ G σ H Q))
    (K : ∀ A2 H2 e2 r2 v2 (F : Addr → Prop), Stp G.K A0 σ H env0 A2 σ H2 e2 → RvOk G.K A2 σ H2 e2 F r2 v2 → Post G A2 σ H2 e2 (k r2 e2) (EQ G σ H Q) → P v2 H2) :
    tE G fb σ H1 fun y H2 => r v1 y H2 fun z H3 => ∃ b, z = .bl b ∧ (if b = true then P y H3 else Q (.bl false) H3) := by
  refine ⟨A1, e1, s1.rel, (Post.bind h1).imp fun r2 e2 A2 H2 s2 h2 v2 hv2 => ?_⟩
  have hv1' := hv1.step s1.rel s2
  cases q1 : rd e2 r1 with
  | none => rw [q1] at h2; exact h2.elim
  | some x =>
    cases q2 : rd e2 r2 with
    | none => rw [q1, q2] at h2; exact h2.elim
    | some y =>
      rw [q1, q2] at h2
      dsimp only at h2
      cases q3 : g x y with
      | none => rw [q3] at h2; exact h2.elim
      | some z =>
        rw [q3] at h2
        refine hA A2 H2 x y v1 v2 z _ s2.rel.dom q3 (hv1'.rq s2.rel q1) (hv2.rq s2.rel q2) fun v' H' sm hz => ?_
        cases z with
        | sh d =>
          cases d with
          | bool k' =>
            have ev : v' = .bl k' := hz
            refine ⟨k', ev, ?_⟩
            have s3 := Stp.same s2.rel sm
            cases k' with
            | false => exact h2 A2 H' s3 (.bl false) (rp_bl (K := G.K) (A := A2) (H := H'))
            | true =>
              rw [if_pos rfl]
              dsimp only at h2
              have h3 : Post G A2 σ H' e2 (k r2 e2) (EQ G σ H Q) := by
                cases q5 : k r2 e2 with
                | ok r e => rw [q5] at h2; exact fun A' H'' s => h2 A' H'' (s3.trans s)
                | ex x e => rw [q5] at h2; exact fun A' H'' c d s => h2 A' H'' c d (s3.trans s)
                | no => rw [q5] at h2; exact h2
              exact K A2 H' e2 r2 v2 _ ((s1.trans s2).trans s3) (hv2.step s2.rel s3) h3
          | _ => exact h2.elim
        | _ => exact h2.elim
theorem lst_step {G : Gd} {A0 A1 : AS} {σ : L2.St} {H H1 : Hp} {env0 e1 : En} {r1 : Rv} {v1 : V} {Q : VK} {F1 : Addr → Prop} (hA : OpA G.K r g) (s1 : Stp G.K A0 σ H env0 A1 σ H1 e1) (hv1 : RvOk G.K A1 σ H1 e1 F1 r1 v1) (h1 : Post G A1 σ H1 e1 (lstF' g r1 fb e1) (EQ G σ H Q)) :
    tE G fb σ H1 fun y H2 => r v1 y H2 Q := by
  refine ⟨A1, e1, s1.rel, (Post.bind h1).imp fun r2 e2 A2 H2 s2 h2 v2 hv2 => ?_⟩
  have hv1' := hv1.step s1.rel s2
  cases q1 : rd e2 r1 with
  | none => rw [q1] at h2; exact h2.elim
  | some x =>
    cases q2 : rd e2 r2 with
    | none => rw [q1, q2] at h2; exact h2.elim
    | some y =>
      rw [q1, q2] at h2
      dsimp only at h2
      unfold out1 at h2
      cases q3 : g x y with
      | none => rw [q3] at h2; exact h2.elim
      | some o =>
        rw [q3] at h2
        exact hA A2 H2 x y v1 v2 o Q s2.rel.dom q3 (hv1'.rq s2.rel q1) (hv2.rq s2.rel q2) fun v' H'' sm' hz' => fin1 (s1.trans s2) h2 sm' hz'
theorem ch3F_sound {G : Gd} (hA : OpA G.K r g) (hA' : OpA G.K r' g') (hA'' : OpA G.K r'' g'') {σ : L2.St} {H : Hp} {Q : VK} (h : tE G (ch3F g g' g'' fa fb fc fd) σ H Q) : tChain3 r r' r'' (tE G fa) (tE G fb) (tE G fc) (tE G fd) σ H Q := by
  obtain ⟨A, env, rel, h⟩ := h
  refine ⟨A, env, rel, (Post.bind h).imp fun r1 e1 A1 H1 s1 h1 v1 hv1 => ?_⟩
  exact lnk_step hA s1 hv1 h1 fun A2 H2 e2 r2 v2 F s2 hv2 h2 => lnk_step hA' s2 hv2 h2 fun A3 H3 e3 r3 v3 F' s3 hv3 h3 => lst_step hA'' s3 hv3 h3
variable {k : Nat} {op op' op'' : CmpOp}
theorem ech3 (h : CmpR X op g) (h' : CmpR X op' g') (h'' : CmpR X op'' g'') (ha : PE X a (tE (gd X W) fa)) (hb : PE X b (tE (gd X W) fb)) (hc : PE X c (tE (gd X W) fc)) (hd : PE X d (tE (gd X W) fd)) (hm : lastMarks [op, op', op''] [b, c, d] = false := by with_unfolding_all rfl) :
    PE X (.Compare a [op, op', op''] [b, c, d] pos) (tE (gd X W) (ch3F g g' g'' fa fb fc fd)) := by
  obtain ⟨r, h1, h2⟩ := h.ex
  obtain ⟨r', h3, h4⟩ := h'.ex
  obtain ⟨r'', h5, h6⟩ := h''.ex
  exact PE.imp (pe_chain3 h1 h3 h5 ha hb hc hd hm) fun _ _ _ h => ch3F_sound (G := gd X W) h2 h4 h6 h
theorem tch3 (h : CmpR X op g) (h' : CmpR X op' g') (h'' : CmpR X op'' g'') (ha : PE X a (tE (gd X W) fa)) (hb : PE X b (tE (gd X W) fb)) (hc : PE X c (tE (gd X W) fc)) (hd : PE X d (tE (gd X W) fd)) (hm : lastMarks [op, op', op''] [b, c, d] = false := by with_unfolding_all rfl) :
    PT X (.Compare a [op, op', op''] [b, c, d] pos) (tT (gd X W) (boolF (ch3F g g' g'' fa fb fc fd))) := by
  obtain ⟨r, h1, h2⟩ := h.ex
  obtain ⟨r', h3, h4⟩ := h'.ex
  obtain ⟨r'', h5, h6⟩ := h''.ex
  exact PT.imp (pt_chain3 h1 h3 h5 ha hb hc hd hm) fun _ _ _ h => ch3F_sound (G := gd X W) h2 h4 h6 (boolF_sound h)
end
end VL


set_option Elab.async false
set_option linter.all false
set_option maxRecDepth 100000
set_option maxHeartbeats 4000000
/-! EX10: in a suite: an expression statement, append. -/
namespace VL
open PySem PySem.Spec PyProof.Rows L2
variable [TbP]
theorem muJ_core {J : JT} {G : Gd} {A1 : AS} {σ : L2.St} {H H1 : Hp} {e1 : En} {T : String} {g : GM} {fs : AF} {r : Rv} {v : V} {rr : V → List V → Hp → VK → Prop} {Q : VK} {P : Prop} {A : AS} {env : En} (hA : MuA G.K rr g) (s1 : Stp G.K A σ H env A1 σ H1 e1) (j1 : J A1 σ H1)
    (hv : RvOk G.K A1 σ H1 e1 (fun a => H a = none) r v)
    (h1 : Post G A1 σ H1 e1 (match r with
      | .bo i => (match mutS e1 i with
        | some d0 => if tyD d0 = T then (fs e1).bind fun rs e2 => (match frzAll e2 rs with
          | some (ds, e3) => (match mutS e3 i with
            | some d => (match g d ds with
              | some (res, d') => .ok (.sh res) (mutP e3 i d')
              | none => .no)
            | none => .no)
          | none => .no) else .no
        | none => .no)
      | _ => .no) (EQ G σ H Q)) (ht : ∀ (A1 : AS) (e1 : En), Rel G.K A1 σ H1 e1 → (∃ i, r = .bo i ∧ ∃ d0, mutS e1 i = some d0 ∧ tyD d0 = T ∧ L2.tyV G.K T v H1) →
        tAJ J G fs σ H1 (fun xs H2 => rr v xs H2 Q) → P) : P := by
  cases r with
  | sh d => exact h1.elim
  | tm d => exact h1.elim
  | bo i =>
    dsimp only at h1
    obtain ⟨hs, _⟩ := hv
    cases q0 : mutS e1 i with
    | none => rw [q0] at h1; exact h1.elim
    | some d0 =>
      rw [q0] at h1
      dsimp only at h1
      by_cases c : tyD d0 = T
      · rw [if_pos c] at h1
        obtain ⟨a, ea, na, ob⟩ := s1.rel.ow i d0 (mutS_own q0)
        rw [hs] at ea; cases ea
        refine ht A1 e1 s1.rel ⟨i, rfl, d0, q0, c, c ▸ ob.tyV⟩ ⟨A1, e1, s1.rel, j1, Post.cut h1 fun rs e2 A2 H2 s2 h2 vs hvs => ?_⟩
        cases q : frzAll e2 rs with
        | none => rw [q] at h2; exact h2.elim
        | some p =>
          obtain ⟨ds, e3⟩ := p
          rw [q] at h2
          dsimp only at h2
          obtain ⟨A3, s3, f3, rpl⟩ := frzAll_ok s2 (fun _ z => z) hvs q
          cases q2 : mutS e3 i with
          | none => rw [q2] at h2; exact h2.elim
          | some d =>
            rw [q2] at h2
            dsimp only at h2
            cases q3 : g d ds with
            | none => rw [q3] at h2; exact h2.elim
            | some p =>
              obtain ⟨res, d'⟩ := p
              rw [q3] at h2
              obtain ⟨b, eb, nb, ob3⟩ := s3.rel.ow i d (mutS_own q2)
              rw [hs] at eb; cases eb
              refine hA A3 H2 a d ds vs res d' Q nb ob3 rpl q3 fun o w ob' rp => ?_
              exact h2 A3 _ (s3.mut q2 hs ob') w rp
      · rw [if_neg c] at h1; exact h1.elim
section
variable {X : Cx} {W : WX} {o e : Expr} {es : List Expr} {f : EF} {fs : AF} {name : Str} {apos cpos : Pos} {T id : String} {r : V → List V → Hp → VK → Prop} {g : GM}
theorem j_mu {J : JT} (S : Stb X.K J) (pa : PlainAttrs T) (slot : PySem.Slot T name id) (hty : typeOf (.builtin id) = pure (.type "method_descriptor")) (hm : MtR X id r) (hA : MuA X.K r g) (ho : PE X o (tEJ J (gd X W) f)) (ha : PA X (e :: es) (tAJ J (gd X W) fs))
    (hbase : attributeBase o name X.env (eval o X.env) = eval o X.env := by rfl)
    (hfew : ((backTo cpos (starEach (e :: es) X.env)).all (fun x => !x.1) && (backToKw cpos (keywordEach [] X.env)).all (fun x => x.1.isSome)
      && decide ((e :: es).length + ([] : List Keyword).length + (if ([] : List Keyword).isEmpty then 0 else 1) < 30)) = true := by rfl)
    (hline : (apos.endLine == cpos.line) = true := by rfl) (hs : starEach (e :: es) X.env = (false, eval e X.env) :: starEach es X.env := by rfl) (hplain : (backTo cpos (starEach es X.env)).any (·.1) = false := by rfl) :
    PE X (.Call (.Attribute o name apos) (e :: es) [] cpos) (tEJ J (gd X W) (muF T g f fs)) :=
  PE.imp (pe_bm pa slot hty hm ho ha hbase hfew hline hs hplain) fun σ H Q h => by
    obtain ⟨A, env, rel, j, h⟩ := h
    refine ⟨A, env, rel, j, Post.imp (Post.bind h) fun r1 e1 A1 H1 s1 h1 v hv => ?_⟩
    exact muJ_core (G := gd X W) hA s1 (S _ _ _ _ _ _ _ j rel s1) hv h1 fun A1 e1 rel1 ⟨i, _, d0, _, _, ty⟩ h => ⟨ty, h⟩
theorem j_append {J : JT} (S : Stb X.K J) (ho : PE X o (tEJ J (gd X W) f)) (ha : PA X [e] (tAJ J (gd X W) fs))
    (hbase : attributeBase o "append" X.env (eval o X.env) = eval o X.env := by rfl)
    (hfew : ((backTo cpos (starEach [e] X.env)).all (fun x => !x.1) && (backToKw cpos (keywordEach [] X.env)).all (fun x => x.1.isSome)
      && decide ([e].length + ([] : List Keyword).length + (if ([] : List Keyword).isEmpty then 0 else 1) < 30)) = true := by rfl)
    (hline : (apos.endLine == cpos.line) = true := by rfl) (hs : starEach [e] X.env = (false, eval e X.env) :: starEach [] X.env := by rfl) (hplain : (backTo cpos (starEach [] X.env)).any (·.1) = false := by rfl) :
    PE X (.Call (.Attribute o "append" apos) [e] [] cpos) (tEJ J (gd X W) (muF "list" appG f fs)) := j_mu S PySem.F.plainAttrs_list PySem.F.slot_list_append PySem.F.type_list_append mt_append app_A ho ha hbase hfew hline hs hplain
theorem s_exprJ {J : JT} {fe : EF} {pos : Pos} (he : PE X e (tEJ J (gd X W) fe)) (hs : swapsWith e none pos.line X.env = pure false := by rfl) : PS X (.Expr e pos) (tSJ J (gd X W) (exprF fe)) := PS.imp (ps_expr he hs) fun Z σ H h => by
  obtain ⟨A, env, rel, j, h⟩ := h
  exact ⟨A, env, rel, j, SPost.cut h fun r e1 A1 H1 s1 h1 v hv => h1 A1 σ H1 s1⟩
end
end VL


set_option Elab.async false
set_option linter.all false
set_option maxRecDepth 100000
set_option maxHeartbeats 4000000
/-! EX11: for over a list handed in that is not frozen by it (read turn by turn). -/
namespace VL
open PySem PySem.Spec PyProof.Rows L2
variable [TbP]
def fLGo (i : Nat) (t : GF) (fb : SF) : Nat → Nat → En → Rb
  | 0, _, _ => .no
  | n + 1, k, e => match e[i]? with
    | some (.io (.list ds)) => (match ds[k]? with
      | some d => (match t d e with
        | some e1 => (match fb e1 with
          | .nx e2 => fLGo i t fb n (k + 1) e2
          | .ct e2 => fLGo i t fb n (k + 1) e2
          | .bk e2 => .nx e2
          | r => r)
        | none => .no)
      | none => .nx e)
    | _ => .no
def isIoL (env : En) (i : Nat) : Option (List D) := match env[i]? with
  | some (.io (.list ds)) => some ds
  | _ => none
theorem isIoL_ok {env : En} {i : Nat} {ds : List D} (h : isIoL env i = some ds) : env[i]? = some (.io (.list ds)) := by
  unfold isIoL at h
  split at h
  · rename_i q; cases h; exact q
  · cases h
def forM (i : Nat) (t : GF) (fb : SF) : SF := fun env => match isIoL env i with
  | some ds => fLGo i t fb (ds.length + 1) 0 env
  | none => forF (itF (nmF i)) t fb env
section
variable {X : Cx} {W : WX} {tg : Expr} {x : Str} {p : Pos} {body : List Stmt} {i : Nat} {g : TG} {t : GF} {vs : List Nat} {fb : SF} {pos : Pos}
theorem s_forM (hp : PassesOwn (model X.prog X.w) X.A X.env X.xe) (hc : X.calm = true) (hn : PE X (.Name x p) (tE (gd X W) (nmF i))) (hg : PG X tg g) (ht : TgOk (gd X W) g t vs) (hb : PSs X body (tS (gd X W) fb)) (hs : ∀ v, foldedSetIterable (.Name x p) X.env v = pure v := by intro _; rfl) :
    PS X (.For tg (.Name x p) body [] pos) (tS (gd X W) (forM i t fb)) := by
  have F := s_for (pos := pos) hp hc (i_it (tg := tg) hn) hg ht hb hs
  have Lv := ps_for hp hc (pi_list (tg := tg) hn) hg hb hs (pos := pos)
  refine ⟨fun pins s σ H D I h => ?_⟩
  obtain ⟨A, env, rel, h⟩ := h
  cases q : isIoL env i with
  | none =>
    refine F.run pins s σ H D I ⟨A, env, rel, ?_⟩
    unfold forM at h
    rw [q] at h
    exact h
  | some ds =>
    have eq0 := isIoL_ok q
    refine Lv.run pins s σ H D I ?_
    unfold forM at h
    rw [q] at h
    dsimp only at h
    refine ⟨A, env, rel, ?_⟩
    have nm : nmF i env = .ok (.bo i) env := by unfold nmF; rw [eq0]
    rw [nm]
    intro A1 H1 s1 v hv
    obtain ⟨hv1, _⟩ := hv
    obtain ⟨a, ea, na, ob⟩ := s1.rel.ow i (.list ds) (.inr eq0)
    rw [hv1] at ea
    cases ea
    obtain ⟨xs, hx, _⟩ := ob
    refine ⟨a, rfl, ⟨xs, .inl (.inl hx)⟩, ?_⟩
    refine ⟨fun k m σ' H' => ∃ A' e', Stp X.K A σ H env A' σ' H' e' ∧ SPost (gd X W) A σ H env (fLGo i t fb m k e') D, ⟨ds.length + 1, A1, env, s1, h⟩, ?_⟩
    rintro k m σ' H' ⟨A', e', st, q1⟩
    cases m with
    | zero => exact q1.elim
    | succ m =>
      unfold fLGo at q1
      cases q2 : e'[i]? with
      | none => rw [q2] at q1; exact q1.elim
      | some sl =>
        rw [q2] at q1
        cases sl with
        | io d =>
          cases d with
          | list ds' =>
            dsimp only at q1
            obtain ⟨es, _⟩ := st.io i (.list ds) (.inl eq0)
            obtain ⟨b, eb, nb, ob'⟩ := st.rel.ow i (.list ds') (.inr q2)
            rw [es, hv1] at eb
            cases eb
            obtain ⟨ys, hy, rp⟩ := ob'
            have sq : SqL X.K H' a ys := .inl (.inl hy)
            cases q3 : ds'[k]? with
            | none =>
              rw [q3] at q1
              refine .inl ⟨⟨ys, sq, ?_⟩, q1 A' σ' H' st⟩
              have := List.getElem?_eq_none_iff.mp q3
              have := rp.length
              omega
            | some d =>
              rw [q3] at q1
              dsimp only at q1
              have hlt := (List.getElem?_eq_some_iff.mp q3).1
              have hl := rp.length
              refine .inr ⟨⟨ys, ys[k]'(by omega), sq, List.getElem?_eq_getElem (by omega)⟩, fun σ3 H3 => ∃ A3 e3, Stp X.K A σ H env A3 σ3 H3 e3 ∧ SPost (gd X W) A σ H env (fLGo i t fb m (k + 1) e3) D, fun σ3 H3 z => ⟨m, Nat.lt_succ_self m, z⟩, fun y H2 hyl => ?_⟩
              obtain ⟨rfl, hyk⟩ := hyl
              have e1 := hyk ys sq
              obtain ⟨d', e2, rpd⟩ := rp.at' e1
              rw [q3] at e2
              cases e2
              cases q4 : t d e' with
              | none => rw [q4] at q1; exact q1.elim
              | some e2 =>
                rw [q4] at q1
                dsimp only at q1
                refine ht A A' σ σ' H H2 env e' e2 d y _ st rpd q4 fun σ2 s2 _ _ => ⟨A', e2, s2.rel, ?_⟩
                cases q5 : fb e2 with
                | nx e3 =>
                  rw [q5] at q1
                  exact fun A3 σ3 H3 s3 => ⟨A3, e3, s2.trans s3, q1⟩
                | ct e3 =>
                  rw [q5] at q1
                  exact fun A3 σ3 H3 s3 => ⟨A3, e3, s2.trans s3, q1⟩
                | bk e3 =>
                  rw [q5] at q1
                  exact fun A3 σ3 H3 s3 => q1 A3 σ3 H3 (s2.trans s3)
                | rt r e3 =>
                  rw [q5] at q1
                  exact SPost.move (Z := { D with nx := _, ct := _, bk := _ }) s2 (show SPost (gd X W) A σ H env (.rt r e3) { D with nx := _, ct := _, bk := _ } from q1)
                | ex x e3 =>
                  rw [q5] at q1
                  exact SPost.move (Z := { D with nx := _, ct := _, bk := _ }) s2 (show SPost (gd X W) A σ H env (.ex x e3) { D with nx := _, ct := _, bk := _ } from q1)
                | no => rw [q5] at q1; exact q1.elim
          | _ => exact q1.elim
        | _ => exact q1.elim
end
end VL


set_option Elab.async false
set_option linter.all false
set_option maxRecDepth 100000
set_option maxHeartbeats 4000000
/-! EX12: facts of a head that writes no such dict. -/
namespace VL
open PySem PySem.Spec PyProof.Rows L2 HDK
variable [TbP]
abbrev AlN : Type := He.AlD × Bool × Bool × List InV
def obsNK (P : Program) (z : Wd) (l : List Er) (K : Frag) : AlN := (He.obsD z.fa z.fn K, z.gl.all (glB K), l.all (errB P K l), l.map fun r => inObs K r.c)
def valN (z : Wd) (l : List Er) (_ : World) : AlN := (He.valD z.fn, true, true, l.map Er.val)
def obsN (n : Nat) (P : Program) (z : Wd) (l : List Er) (g : Addr → Option Obj) : AlN := obsNK P z l (He.frG g (asY g n))
def hookN (n : Nat) (P : Program) (z : Wd) (l : List Er) : PySem.W.Hook where
  α := AlN
  obs := fun s => obsN n P z l s.heap.get?
  val := valN z l
  says := fun w h => ∃ K : Frag, K.In h ∧ obsNK P z l K = valN z l w
  of := fun _ _ e => ⟨_, He.frG_in, e⟩
  keeps := fun _ _ _ ⟨K, hK, c⟩ k => ⟨K, PySem.W.Frag.In.keeps hK k, c⟩
theorem obsN_eq {n : Nat} {P : Program} {z : Wd} {l : List Er} {g : Addr → Option Obj} {s : Shared} (h : ∀ a, g a = s.heap.get? a) : obsN n P z l g = (hookN n P z l).obs s := by
  have e : g = s.heap.get? := funext h
  rw [e] <;> rfl
structure SaysN (P : Program) (z : Wd) (l : List Er) (w : World) (K : Frag) : Prop where
  d : He.SaysD z.fa z.fn K
  g : ∀ p ∈ z.gl, glB K p = true
  e : ∀ r ∈ l, errB P K l r = true
  o : ∀ r ∈ l, inObs K r.c = r.val
theorem saysN_of {P : Program} {z : Wd} {l : List Er} {w : World} {K : Frag} (e : obsNK P z l K = valN z l w) : SaysN P z l w K := by
  have e1 : He.obsD z.fa z.fn K = He.valD z.fn := congrArg (fun a : AlN => a.1) e
  have e2 : z.gl.all (glB K) = true := congrArg (fun a : AlN => a.2.1) e
  have e3 : l.all (errB P K l) = true := congrArg (fun a : AlN => a.2.2.1) e
  have e4 : (l.map fun r => inObs K r.c) = l.map Er.val := congrArg (fun a : AlN => a.2.2.2) e
  exact ⟨e1, fun p hp => List.all_eq_true.mp e2 p hp, fun r hr => List.all_eq_true.mp e3 r hr, fun r hr => List.map_inj_left.mp e4 r hr⟩
section
variable {P : Program} {z : Wd} {l : List Er} {w : World} {K : Frag} {h : Heap} {mg : Str → Option Value}
theorem SaysN.here (s : SaysN P z l w K) (X : K.In h) (G : h.Ns mainGlobals mg) (i j : Nat) {x : Str} {st : Stmt} {ps : List Str} 
    (b : ∀ (kV doc pm : Value) (an : Option Addr) (cdv ct : Value) (us : List Value), us.length = ps.length → bindArgs (PySem.W.fnOf x x (defArgs st) (defBody st) (defScope st) .none kV doc pm an cdv ct) ⟨us, []⟩ = pure (ps.zip us)) (e1 : z.fn[i]? = some ⟨(x, none), x, x, defArgs st, defBody st, defScope st, [], []⟩ := by rfl) (e2 : z.fa[j]? = some (.glo x) := by rfl) : HereG K mg x st ps := by
  obtain ⟨fd, F⟩ := s.d.def_ i e1
  exact HereG.of (He.glo_ok X G (s.d.fact j e2)) F b
theorem SaysN.free (s : SaysN P z l w K) (X : K.In h) (G : h.Ns mainGlobals mg) (j : Nat) {x : Str} (e : z.fa[j]? = some (.free x) := by rfl) : mg x = none := He.free_ok X G (s.d.fact j e)
theorem SaysN.gl (s : SaysN P z l w K) (X : K.In h) (G : h.Ns mainGlobals mg) (j : Nat) {x : Str} {d : D} (e : z.gl[j]? = some (x, d) := by rfl) : GlD K mg x d := glB_ok (p := (x, d)) X G (s.g _ (List.mem_of_getElem? e))
theorem SaysN.err (s : SaysN P z l w K) (X : K.In h) (G : h.Ns mainGlobals mg) (hT : ∀ r ∈ l, ErOk P r) : ErrS P K mg (ctOf l) := err_ok X G hT s.e s.o
end
theorem SaysN.hereK {P : Program} {z : Wd} {w : World} {K : Frag} {h : Heap} {mg : Str → Option Value} {l : List Er} (s : SaysN P z l w K) (X : K.In h) (G : h.Ns mainGlobals mg) (i j : Nat) {x : Str} {st : Stmt} {ps : List Str}
    (b : ∀ (kV doc pm : Value) (an : Option Addr) (cdv ct : Value) (us : List Value), us.length = ps.length → bindArgs (PySem.W.fnOf x x (defArgs st) (defBody st) (defScope st) .none kV doc pm an cdv ct) ⟨[], ps.zip us⟩ = pure (ps.zip us)) (e1 : z.fn[i]? = some ⟨(x, none), x, x, defArgs st, defBody st, defScope st, [], []⟩ := by rfl) (e2 : z.fa[j]? = some (.glo x) := by rfl) : HereK K mg x st ps := by
  obtain ⟨fd, F⟩ := s.d.def_ i e1
  exact HereK.of (He.glo_ok X G (s.d.fact j e2)) F b
theorem law_endN {l : PySem.W.OpenLaw} {n k m : Nat} {q P : Program} {loose : List Str} {d : DefRec} {Z : Wd} {L : List Er} {F : FD}
    (hn : l.most = some n) (hn2 : n ≤ sizeLine) (hdf : d.params.defaults = []) (hr : Room k callerA) (hname : d.name = ("law" : Str))
    (D : ∀ (w : World) (K : Frag) (mg : Str → Option Value) (h : Heap), K.In h → h.Ns mainGlobals mg → SaysN P Z L w K → ∀ base : Heap, DefG l.prog w K mg base k "law" 1 F)
    (hF : ∀ ns : List Int, ns.length ≤ n → ∃ own ss, F [.sh (.list (ns.map PyData.int))] = .ret own (.bool true) ss) (hT : TbP.T = [] := by rfl) :
    PySem.W.WalkO q loose (PySem.W.XL q []) (hookN m P Z L).says l.row.toRowW d [] (fun f vs => PySem.call f vs) :=
  Att.attach_call hn hdf fun w _ s₁ mg _ fa _ _ _ _ a vs ns G Y _ _ _ hmg hobj hints hlen hg => by
    obtain ⟨K, KX, e⟩ := Y
    have S := saysN_of e
    obtain ⟨f0, fd0, ps0, FG0, hm0, hk0, hb0, hl0⟩ := (D w K mg _ KX G.T.g S s₁.heap).ex
    rw [hname, hm0] at hmg
    cases hmg
    refine lawG' KX G.T.g G.T.b G.T.builtins G.T.nolimit hg hobj hints (Nat.le_trans hlen hn2) hr hm0 (fun base hB hN => (D w K mg _ KX G.T.g S base)) fun H hO hS => ?_
    obtain ⟨own, ss, hF⟩ := hF ns hlen
    exact sp_law hO hS hF hT
end VL


set_option Elab.async false
set_option linter.all false
set_option maxRecDepth 100000
set_option maxHeartbeats 4000000
/-! EX13: list.extend of a list that is not changed any more; str of an int. -/
namespace VL
open PySem PySem.Spec PyProof.Rows L2
variable [TbP]
theorem ext_meets (l : Addr) (items : Array Value) (n : Nat) (b : Addr) (items2 : Array Value) (n2 : Nat) (sl : Array (Option Value)) (hc0 : ¬(!items.isEmpty && Builtin.List.listTooLong (items.size + items2.size)) = true) (hc1 : items.size ≤ sizeLine) (hs2 : items.size + items2.size ≤ sizeLine + 1) :
    Meets (Builtin.«list.extend» ⟨[.ref l, .ref b], []⟩) (fun _ R s => s.heap.get? l = some { cls := .type "list", dict := none, data := .seq items n, slots := #[] } ∧ s.heap.get? b = some { cls := .type "list", dict := none, data := .seq items2 n2, slots := sl } ∧ R (.ok (.ret Value.none)) { s with heap := s.heap.update l (Obj.mapSeq fun x => x ++ items2), toks := s.toks }) :=
  .of_wp fun prog w A R s h => by
    obtain ⟨hp, g, d, tk, os⟩ := s; obtain ⟨hl, hb, h⟩ := h; have f1 := AutoSeq1.idx_int; have f2 := AutoSeq1.sub_tuple_tuple; have f3 := AutoSeq1.sub_list_list; have f4 := AutoSeq1.sub_tuple_list; have f5 := AutoSeq1.sub_list_tuple;
    have hz' : (items ++ items2).size ≤ sizeLine + 1 := by rw [Array.size_append]; exact hs2
    wp_walk using (wpAny_updateSeq hl rfl (hz := hc1) (_hz' := hz')), AutoSeq1.wpAny_loadPart' hl, AutoSeq1.wpAny_loadPart' hb; exact ⟨_, rfl, h⟩
def rExtS (K : Frag) : V → List V → Hp → VK → Prop := fun x vs H Q => ∃ l b xs zs, x = .ref l ∧ vs = [.ref b] ∧ H l = some (.lst xs) ∧ SqL K H b zs ∧ xs.length + zs.length ≤ sizeLine ∧ Q .non (upd H l (.lst (xs ++ zs)))
theorem mt_extS {X : Cx} : MtM X "list.extend" (rExtS X.K) := by
  intro pins s σ H x vs v us Q I rx rv h
  obtain ⟨l, b, xs, zs, rfl, rfl, hH, hB, hz, q⟩ := h
  cases rx
  obtain ⟨u, rfl, ru⟩ := rv.one
  cases ru
  obtain ⟨z, its, n, r, hl, e⟩ := I.lstM hH
  obtain ⟨its2, r2, ⟨⟨c, di, da, sl⟩, n2, e2, e3, e4, e5⟩, hl2⟩ := I.list hB
  simp only at e3 e4 e5
  subst e3; subst e4; subst e5
  have q2 := r2.length
  have hsz : its.toArray.size + its2.toArray.size ≤ sizeLine := by rw [List.size_toArray, List.size_toArray]; omega
  have hlong : ¬ (!its.toArray.isEmpty && Builtin.List.listTooLong (its.toArray.size + its2.toArray.size)) = true := by
    rw [notLongL hsz, Bool.and_false]
    exact Bool.false_ne_true
  refine call_meets F.slot_list_extend ⟨_, e, rfl⟩ F.entry_list_extend (F.args_list_extend_2 _ _)
    (ext_meets l its.toArray n b its2.toArray n2 sl hlong (by rw [List.size_toArray]; omega) (by omega)) ⟨e, e2, ?_⟩
  refine ⟨.non, _, I.lset (its' := its ++ its2) hH e (by simp) (r.append r2) ?_, rfl, q⟩
  rw [List.length_append]
  omega
def extG : GM
  | .list ds, [.list es] => if ds.length + es.length ≤ LIM then some (.none, .list (ds ++ es)) else none
  | _, _ => none
theorem ext_A {K : Frag} : MuA K (rExtS K) extG := by
  intro A H a d ds xs res d' Q na ob rl e q
  match d, ds, e, ob with
  | .list l, [.list es], e, ob =>
    dsimp only [extG] at e
    by_cases c : l.length + es.length ≤ LIM
    · rw [if_pos c] at e
      cases e
      obtain ⟨ys, ea, r⟩ := ob
      obtain ⟨v, t, rfl, h1, h2⟩ := rl.inv_cons
      rw [h2.inv_nil]
      obtain ⟨b, zs, rfl, lk, rz⟩ := h1.lst
      have kp : Kp A H (upd H a (.lst (ys ++ zs))) := Kp.upd ea na fun z => z
      exact ⟨a, b, ys, zs, rfl, rfl, ea, lk.sq, by rw [← r.length, ← rz.length, lim_eq]; exact c, q _ _ ⟨_, upd_same, (r.append rz).mono (fun _ z => z) kp⟩ rp_non⟩
    · rw [if_neg c] at e; cases e
section
variable {X : Cx} {W : WX} {o e : Expr} {f : EF} {fs : AF} {apos cpos : Pos}
theorem e_extend (ho : PE X o (tE (gd X W) f)) (ha : PA X [e] (tA (gd X W) fs))
    (hbase : attributeBase o "extend" X.env (eval o X.env) = eval o X.env := by rfl)
    (hfew : ((backTo cpos (starEach [e] X.env)).all (fun x => !x.1) && (backToKw cpos (keywordEach [] X.env)).all (fun x => x.1.isSome)
      && decide ([e].length + ([] : List Keyword).length + (if ([] : List Keyword).isEmpty then 0 else 1) < 30)) = true := by rfl)
    (hline : (apos.endLine == cpos.line) = true := by rfl) (hs : starEach [e] X.env = (false, eval e X.env) :: starEach [] X.env := by rfl) (hplain : (backTo cpos (starEach [] X.env)).any (·.1) = false := by rfl) :
    PE X (.Call (.Attribute o "extend" apos) [e] [] cpos) (tE (gd X W) (muF "list" extG f fs)) := e_mu PySem.F.plainAttrs_list PySem.F.slot_list_extend PySem.F.type_list_extend mt_extS ext_A ho ha hbase hfew hline hs hplain
end
def strIC : GC
  | [.int i] => if i.natAbs.log2 < 1920 then some (.sh (.str (toString i))) else none
  | _ => none
theorem strIC_A {K : Frag} : CbA K (fun xs H Q => ∃ i, xs = [V.int i] ∧ i.natAbs.log2 < 1920 ∧ Q (.str (toString i)) H) strIC := by
  intro A H ds vs z Q hd e hx q
  match ds, e with
  | [.int i], e =>
    dsimp only [strIC] at e
    by_cases c : i.natAbs.log2 < 1920
    · rw [if_pos c] at e
      cases e
      obtain ⟨v, rfl, h⟩ := hx.one
      rw [h.int]
      exact ⟨i, rfl, c, q _ _ (Same.refl H) rz_str⟩
    · rw [if_neg c] at e; cases e
def strC2 : GC := orC strC strIC
theorem b_str2 {X : Cx} : BI X "str" strC2 := ⟨⟨_, _, CallR.or SkE.call_str_str call_str_int, strC_A.or strIC_A, boot_str', .inr ⟨_, rfl⟩⟩, by decide, by decide⟩
end VL


set_option Elab.async false
set_option linter.all false
set_option maxRecDepth 100000
set_option maxHeartbeats 4000000
/-! EX14: dicts at run time, keys ints and texts: {}, d[k] = v, d.get, going through the keys or the pairs (the dict is locked from then on). -/
namespace VL
open PySem PySem.Spec PyProof.Rows L2
variable [TbP]
section
variable {K : Frag} {A A1 : AS} {σ σ1 : L2.St} {H H1 : Hp} {env e1 : En}
theorem Rel.notOw (rel : Rel K A σ H env) {p : Addr} (hp : H p = none) : ¬ Ow σ env p := fun z => by
  obtain ⟨_, o, eo, _⟩ := rel.owok z
  rw [hp] at eo; cases eo
theorem rk_kind : ∀ {kvs : List (D × D)} {ks : List (Key × V)}, RpK K A H kvs ks → kindT kvs = false
  | [], _, _ => rfl
  | (p1, p2) :: q, ks, h => by
    simp only [RpK] at h
    obtain ⟨k', _, _, _, rfl, _⟩ := h
    cases k' <;> rfl
theorem rt_kind : ∀ {kvs : List (D × D)} {ks : List (List Key × V)}, RpT0 K A H kvs ks → kindT kvs = true
  | [], _, h => by simp only [RpT0] at h
  | (p1, p2) :: q, ks, h => by
    simp only [RpT0] at h
    obtain ⟨rfl, _⟩ := h
    rfl
theorem RpK.length : ∀ {kvs : List (D × D)} {ks : List (Key × V)}, RpK K A H kvs ks → kvs.length = ks.length
  | [], _, h => by simp only [RpK] at h; subst h; rfl
  | (p1, p2) :: q, ks, h => by
    simp only [RpK] at h
    obtain ⟨k', v, r, rfl, _, _, t⟩ := h
    simp [RpK.length t]
theorem RpK.at' : ∀ {kvs : List (D × D)} {ks : List (Key × V)} {i : Nat} {k : Key} {v : V}, RpK K A H kvs ks → ks[i]? = some (k, v) → ∃ d, kvs[i]? = some (keyD k, d) ∧ Rp K A H d v
  | [], _, i, k, v, h, e => by simp only [RpK] at h; subst h; simp at e
  | (p1, p2) :: q, ks, i, k, v, h, e => by
    simp only [RpK] at h
    obtain ⟨k', v', r, rfl, rfl, h1, t⟩ := h
    cases i with
    | zero => simp at e; obtain ⟨rfl, rfl⟩ := e; exact ⟨p2, rfl, h1⟩
    | succ i =>
      obtain ⟨d, e1, e2⟩ := RpK.at' (i := i) t (by simpa using e)
      exact ⟨d, by simpa using e1, e2⟩
end
/-! ### {} -/
def dnewF : EF := fun env => .ok (.tm (.dict [])) env
section
variable {X : Cx} {W : WX} {pos : Pos}
theorem e_dnew : PE X (.Dict [] [] pos) (tE (gd X W) dnewF) := PE.imp pe_dnewK fun σ H Q h => by
  obtain ⟨A, env, rel, h⟩ := h
  intro p hp
  exact h A _ (Stp.same rel (same_upd hp)) (.ref p) ⟨p, rfl, fun z => rel.dom p z hp, rel.notOw hp, hp, .inl ⟨[], upd_same, by simp [RpK]⟩⟩
end
/-! ### d[k] = v -/
def dputD (kvs : List (D × D)) (k d : D) : List (D × D) :=
  if (kvs.any fun p => PyData.eqv p.1 k) = true then kvs.map (fun p => if PyData.eqv p.1 k = true then (p.1, d) else p) else kvs ++ [(k, d)]
section
variable {K : Frag} {A : AS} {H : Hp} {k : Key} {d : D} {v : V}
theorem RpK.any : ∀ {kvs : List (D × D)} {ks : List (Key × V)}, RpK K A H kvs ks → (kvs.any fun p => PyData.eqv p.1 (keyD k)) = (ks.any fun kv => decide (kv.1 = k))
  | [], _, h => by simp only [RpK] at h; subst h; rfl
  | (p1, p2) :: q, ks, h => by
    simp only [RpK] at h
    obtain ⟨k', v', r, rfl, rfl, h1, t⟩ := h
    simp only [List.any_cons, eqv_key, RpK.any t]
theorem RpK.rep (hd : Rp K A H d v) : ∀ {kvs : List (D × D)} {ks : List (Key × V)}, RpK K A H kvs ks →
    RpK K A H (kvs.map fun p => if PyData.eqv p.1 (keyD k) = true then (p.1, d) else p) (ks.map fun kv => if kv.1 = k then (kv.1, v) else kv)
  | [], _, h => by simp only [RpK] at h; subst h; simp [RpK]
  | (p1, p2) :: q, ks, h => by
    simp only [RpK] at h
    obtain ⟨k', v', r, rfl, rfl, h1, t⟩ := h
    simp only [List.map_cons, eqv_key, decide_eq_true_eq]
    by_cases e : k' = k
    · rw [if_pos e, if_pos e]
      simp only [RpK]
      exact ⟨_, _, _, rfl, rfl, hd, by simpa only [eqv_key, decide_eq_true_eq] using RpK.rep hd t⟩
    · rw [if_neg e, if_neg e]
      simp only [RpK]
      exact ⟨_, _, _, rfl, rfl, h1, by simpa only [eqv_key, decide_eq_true_eq] using RpK.rep hd t⟩
theorem RpK.app (hd : Rp K A H d v) : ∀ {kvs : List (D × D)} {ks : List (Key × V)}, RpK K A H kvs ks → RpK K A H (kvs ++ [(keyD k, d)]) (ks ++ [(k, v)])
  | [], _, h => by
    simp only [RpK] at h; subst h
    simp only [List.nil_append, RpK]
    exact ⟨_, _, _, rfl, rfl, hd, rfl⟩
  | (p1, p2) :: q, ks, h => by
    simp only [RpK] at h
    obtain ⟨k', v', r, rfl, rfl, h1, t⟩ := h
    simp only [List.cons_append, RpK]
    exact ⟨_, _, _, rfl, rfl, h1, RpK.app hd t⟩
theorem RpK.put {kvs : List (D × D)} {ks : List (Key × V)} (h : RpK K A H kvs ks) (hd : Rp K A H d v) : RpK K A H (dputD kvs (keyD k) d) (putK ks k v) := by
  unfold dputD putK
  rw [h.any]
  split
  · exact h.rep hd
  · exact h.app hd
end
def stoDG : D → D → D → Option D
  | .dict kvs, k, d => if (isKey1 k && !kindT kvs && decide (kvs.length < LIM)) = true then some (.dict (dputD kvs k d)) else none
  | _, _, _ => none
def stoDF (f fo fi : EF) : SF := fun env => (f env).st fun r e1 => (fo e1).st fun ro e2 => match ro with
  | .bo i => (fi e2).st fun ri e3 => (match rd e3 ri, frz e3 r with
    | some ix, some (d, e4) => (match mutS e4 i with
      | some d0 => (match stoDG d0 ix d with
        | some d' => .nx (mutP e4 i d')
        | none => .no)
      | none => .no)
    | _, _ => .no)
  | _ => .no
section
variable {X : Cx} {W : WX} {e o i : Expr} {f fo fi : EF} {pos tpos : Pos} {kk : Nat}
theorem s_stoD (hr : Room kk X.A) (he : PE X e (tE (gd X W) f)) (ho : PE X o (tE (gd X W) fo)) (hi : PE X i (tE (gd X W) fi))
    (ha : ∀ v, assign (.Subscript o i tpos) X.env v = (do
      let ov ← holding [v] (eval o X.env)
      let iv ← holding [v, ov] (eval i X.env)
      standAt tpos
      holding [v, ov, iv] (setItem ov iv v)
      release [v, ov, iv] []) := by intro _; rfl)
    (hs : swapsWithSole [.Subscript o i tpos] e pos.line X.env = pure false := by rfl) (hw : swappedStores [.Subscript o i tpos] e X.env = pure none := by rfl)
    (h1 : (assignEach [.Subscript o i tpos] X.env).map (·.2) = [assign (.Subscript o i tpos) X.env] := by rfl) : PS X (.Assign [.Subscript o i tpos] e pos) (tS (gd X W) (stoDF f fo fi)) :=
  PS.imp (ps_asg he (pg_sub ho hi (set_dict (room1 hr)) ha) hs hw h1) fun Z σ H h => by
    obtain ⟨A, env, rel, h⟩ := h
    refine ⟨A, env, rel, SPost.cut h fun r e1 A1 H1 s1 h1 v hv => ?_⟩
    refine ⟨A1, e1, s1.rel, SPost.cutAt s1 h1 fun ro e2 A2 H2 s2 h2 ov hov => ?_⟩
    cases ro with
    | sh d => exact h2.elim
    | tm d => exact h2.elim
    | bo j =>
      dsimp only at h2
      refine ⟨A2, e2, s2.rel, SPost.cutAt (s1.trans s2) h2 fun ri e3 A3 H3 s3 h3 iv hiv => ?_⟩
      have s23 := s2.trans s3
      have st := s1.trans s23
      cases q1 : rd e3 ri with
      | none => rw [q1] at h3; exact h3.elim
      | some ix =>
        cases q2 : frz e3 r with
        | none => rw [q1, q2] at h3; exact h3.elim
        | some p =>
          obtain ⟨d, e4⟩ := p
          rw [q1, q2] at h3
          dsimp only at h3
          have rix := hiv.rq s3.rel q1
          have hv3 := hv.step s1.rel s23
          obtain ⟨A4, s4, f4, rp, _⟩ := frz_ok st hv3 q2
          cases q3 : mutS e4 j with
          | none => rw [q3] at h3; exact h3.elim
          | some d0 =>
            rw [q3] at h3
            dsimp only at h3
            cases q4 : stoDG d0 ix d with
            | none => rw [q4] at h3; exact h3.elim
            | some d' =>
              rw [q4] at h3
              obtain ⟨a, ea, na, ob⟩ := s4.rel.ow j d0 (mutS_own q3)
              have eo : ov = .ref a := by
                have := hov.1
                rw [ea] at this
                exact (Option.some.inj (Option.some.inj this)).symm
              match d0, q4, ob with
              | .dict kvs, q4, ob =>
                dsimp only [stoDG] at q4
                by_cases c : (isKey1 ix && !kindT kvs && decide (kvs.length < LIM)) = true
                · rw [if_pos c] at q4
                  cases q4
                  simp only [Bool.and_eq_true, Bool.not_eq_true', decide_eq_true_eq] at c
                  obtain ⟨⟨c1, c2⟩, c3⟩ := c
                  obtain ⟨k, hk⟩ := Option.isSome_iff_exists.mp c1
                  have ek := key1_spec hk
                  subst ek
                  have ev : iv = kV k := by
                    cases k with
                    | inl i => exact rix.int
                    | inr z => exact rix.str
                  rcases ob with ⟨ks, ey, ry⟩ | ⟨ks, ey, ry⟩
                  · have kp : Kp A4 H3 (upd H3 a (.dK (putK ks k v))) := Kp.upd ey na fun z => z
                    exact ⟨a, _, eo, by rw [ev]; exact DPut.k ey (by rw [← ry.length, lim_eq]; exact c3), h3 A4 σ _ (s4.mut q3 ea (.inl ⟨_, upd_same, (ry.put rp).mono (fun _ z => z) kp⟩))⟩
                  · rw [rt_kind ry] at c2; cases c2
                · rw [if_neg c] at q4; cases q4
              | .list _, q4, _ => cases q4
end
/-! ### d.get(k), d.get(k, x) -/
theorem rq_isD {K : Frag} {A : AS} {H : Hp} {kvs : List (D × D)} {v : V} (h : Rq K A H (.dict kvs) v) : ∃ a, v = .ref a ∧ L2.IsD H a := by
  obtain ⟨a, rfl, h2⟩ := h.dct
  refine ⟨a, rfl, ?_⟩
  rcases h2 with ⟨ks, r, _⟩ | ⟨ks, r, _⟩
  · exact .inl ⟨ks, r⟩
  · exact .inr ⟨ks, r⟩
theorem rq_get {K : Frag} {A : AS} {H : Hp} {kvs : List (D × D)} {x : D} {vx vy : V} (c : (isKey1 x && !kindT kvs) = true) (hx : Rq K A H x vx) (hy : Rq K A H (.dict kvs) vy) : ∃ a o, vy = .ref a ∧ DGet H a vx o ∧ RpO K A H (dfind kvs x) o := by
  rw [Bool.and_eq_true] at c
  obtain ⟨c1, c2⟩ := c
  obtain ⟨a, rfl, h⟩ := hy.dct
  obtain ⟨k, hk⟩ := Option.isSome_iff_exists.mp c1
  have ek := key1_spec hk
  subst ek
  have ev : vx = kV k := by
    cases k with
    | inl i => exact hx.int
    | inr z => exact hx.str
  subst ev
  rcases h with ⟨ks, r, h⟩ | ⟨ks, r, h⟩
  · exact ⟨a, _, rfl, .inl ⟨ks, k, r, rfl, rfl⟩, h.find⟩
  · rw [rt_kind h] at c2; cases c2
def get1F (fd fy : EF) : EF := fun env => (fd env).bind fun r1 e1 => match rd e1 r1 with
  | some (.dict _) => (fy e1).bind fun r2 e2 => (match rd e2 r1, rd e2 r2 with
    | some (.dict kvs), some x => if (isKey1 x && !kindT kvs) = true then .ok (.sh ((dfind kvs x).getD .none)) e2 else .no
    | _, _ => .no)
  | _ => .no
def get2F (fd fy fx : EF) : EF := fun env => (fd env).bind fun r1 e1 => match rd e1 r1 with
  | some (.dict _) => (fy e1).bind fun r2 e2 => (fx e2).bind fun r3 e3 => (match rd e3 r1, rd e3 r2, r3 with
    | some (.dict kvs), some x, .sh y => if (isKey1 x && !kindT kvs) = true then .ok (.sh ((dfind kvs x).getD y)) e3 else .no
    | _, _, _ => .no)
  | _ => .no
section
variable {X : Cx} {W : WX} {o e f : Expr} {fd fy fx : EF} {apos cpos : Pos} {kk : Nat}
theorem e_get1 (hr : Room kk X.A) (ho : PE X o (tE (gd X W) fd)) (he : PE X e (tE (gd X W) fy)) (m : M1 X o "get" apos e cpos := by exact ⟨by rfl, by rfl, by rfl, by rfl⟩) :
    PE X (.Call (.Attribute o "get" apos) [e] [] cpos) (tE (gd X W) (get1F fd fy)) := PE.imp (pe_dget1 (room1 hr) ho he m) fun σ H Q h => by
  obtain ⟨A, env, rel, h⟩ := h
  refine ⟨A, env, rel, Post.imp (Post.bind h) fun r1 e1 A1 H1 s1 h1 v hv => ?_⟩
  cases q1 : rd e1 r1 with
  | none => rw [q1] at h1; exact h1.elim
  | some d =>
    rw [q1] at h1
    cases d with
    | dict kvs0 =>
      dsimp only at h1
      obtain ⟨a, rfl, isd⟩ := rq_isD (hv.rq s1.rel q1)
      refine ⟨a, rfl, isd, A1, e1, s1.rel, Post.imp (Post.bind h1) fun r2 e2 A2 H2 s2 h2 w hw => ?_⟩
      cases q2 : rd e2 r1 with
      | none => rw [q2] at h2; exact h2.elim
      | some d2 =>
        cases q3 : rd e2 r2 with
        | none => rw [q2, q3] at h2; cases d2 <;> exact h2.elim
        | some x =>
          rw [q2, q3] at h2
          cases d2 with
          | dict kvs =>
            dsimp only at h2
            by_cases c : (isKey1 x && !kindT kvs) = true
            · rw [if_pos c] at h2
              obtain ⟨b, ov, eb, g, ro⟩ := rq_get c (hw.rq s2.rel q3) ((hv.step s1.rel s2).rq s2.rel q2)
              cases eb
              refine ⟨ov, g, h2 A2 H2 (.refl s2.rel) _ ?_⟩
              show Rp X.K A2 H2 _ _
              cases hd : dfind kvs x with
              | none => rw [hd] at ro; cases ov with
                | none => exact rp_non
                | some _ => exact ro.elim
              | some dd => rw [hd] at ro; cases ov with
                | none => exact ro.elim
                | some _ => exact ro
            · rw [if_neg c] at h2; exact h2.elim
          | _ => exact h2.elim
    | _ => exact h1.elim
theorem e_get2 (hr : Room kk X.A) (ho : PE X o (tE (gd X W) fd)) (he : PE X e (tE (gd X W) fy)) (hf : PE X f (tE (gd X W) fx)) (m : M2 X o "get" apos e f cpos := by exact ⟨by rfl, by rfl, by rfl, by rfl⟩) :
    PE X (.Call (.Attribute o "get" apos) [e, f] [] cpos) (tE (gd X W) (get2F fd fy fx)) := PE.imp (pe_dget2 (room1 hr) ho he hf m) fun σ H Q h => by
  obtain ⟨A, env, rel, h⟩ := h
  refine ⟨A, env, rel, Post.imp (Post.bind h) fun r1 e1 A1 H1 s1 h1 v hv => ?_⟩
  cases q1 : rd e1 r1 with
  | none => rw [q1] at h1; exact h1.elim
  | some d =>
    rw [q1] at h1
    cases d with
    | dict kvs0 =>
      dsimp only at h1
      obtain ⟨a, rfl, isd⟩ := rq_isD (hv.rq s1.rel q1)
      refine ⟨a, rfl, isd, A1, e1, s1.rel, Post.imp (Post.bind h1) fun r2 e2 A2 H2 s2 h2 w hw => ?_⟩
      refine ⟨A2, e2, s2.rel, Post.imp (Post.bind h2) fun r3 e3 A3 H3 s3 h3 u hu => ?_⟩
      cases q2 : rd e3 r1 with
      | none => rw [q2] at h3; exact h3.elim
      | some d2 =>
        cases q3 : rd e3 r2 with
        | none => rw [q2, q3] at h3; cases d2 <;> exact h3.elim
        | some x =>
          rw [q2, q3] at h3
          cases r3 with
          | sh y =>
            cases d2 with
            | dict kvs =>
              dsimp only at h3
              by_cases c : (isKey1 x && !kindT kvs) = true
              · rw [if_pos c] at h3
                obtain ⟨b, ov, eb, g, ro⟩ := rq_get c ((hw.step s2.rel s3).rq s3.rel q3) (((hv.step s1.rel s2).step s2.rel s3).rq s3.rel q2)
                cases eb
                refine ⟨ov, g, h3 A3 H3 (.refl s3.rel) _ ?_⟩
                show Rp X.K A3 H3 _ _
                cases hd : dfind kvs x with
                | none => rw [hd] at ro; cases ov with
                  | none => exact hu
                  | some _ => exact ro.elim
                | some dd => rw [hd] at ro; cases ov with
                  | none => exact ro.elim
                  | some _ => exact ro
              · rw [if_neg c] at h3; exact h3.elim
            | _ => exact h3.elim
          | tm _ => cases d2 <;> exact h3.elim
          | bo _ => cases d2 <;> exact h3.elim
    | _ => exact h1.elim
end
/-! ### for k in d, for k, v in d.items() -/
def iKeysL (td : TE) : TI := fun σ H R => td σ H fun x H1 => ∃ d kvs, x = .ref d ∧ ((∃ o, H1 d = some (.frz o (.dK kvs)) ∧ R (Itk d o kvs) H1) ∨ (H1 d = some (.dK kvs) ∧ ∀ o, R (Itk d o kvs) (upd H1 d (.frz o (.dK kvs)))))
def iItemsL (td : TE) : TI := fun σ H R => td σ H fun x H1 => ∃ d kvs, x = .ref d ∧ ((∃ o, H1 d = some (.frz o (.dK kvs)) ∧ R (Iti d o kvs) H1) ∨ (H1 d = some (.dK kvs) ∧ ∀ o, R (Iti d o kvs) (upd H1 d (.frz o (.dK kvs)))))
section
variable {X : Cx} {tg e : Expr} {td : TE} {apos cpos : Pos}
theorem pi_keysL (he : PE X e td) : PI X tg e (iKeysL td) := by
  refine ⟨fun pins s σ H R I h => ?_⟩
  refine thn (he.run pins s σ H _ I h) fun u s1 ⟨x, H1, I1, rx, d, kvs, ex, q⟩ => ?_
  subst ex
  obtain rfl : u = Value.ref d := rx
  obtain ⟨o, H2, I2, hd, q⟩ : ∃ o H2, Inv X pins σ H2 s1 ∧ H2 d = some (.frz o (.dK kvs)) ∧ R (Itk d o kvs) H2 := by
    rcases q with ⟨o, hd, q⟩ | ⟨hd, q⟩
    · exact ⟨o, H1, I1, hd, q⟩
    · obtain ⟨o, I2⟩ := I1.lock hd trivial
      exact ⟨o, _, I2, upd_same, q o⟩
  obtain ⟨hs, hgd, hx, es, ep, vs, hdt, hsz, kv, hm⟩ := I2.frzK hd
  refine iter_keys hs hgd hx hdt (pi_one (tk := s1.toks) I2 _ (turn_keys _ hdt) ⟨_, Heap.get?_push_size _ rfl, rfl, ?_⟩ q)
  rw [hsz] <;> rfl
theorem pi_itemsL {elts : List Expr} {kk : Nat} {tpos : Pos} (he : PE X e td) (hbase : attributeBase e "items" X.env (eval e X.env) = eval e X.env := by rfl) (hline : (apos.endLine == cpos.line) = true := by rfl) :
    PI X (.Tuple elts kk tpos) (.Call (.Attribute e "items" apos) [] [] cpos) (iItemsL td) := by
  refine ⟨fun pins s σ H R I h => ?_⟩
  refine wpAny_Call_method (T := "dict") (id := "dict.items") hbase rfl hline F.plainAttrs_dict F.slot_dict_items F.type_dict_items (thn (he.run pins s σ H _ I h) fun u s1 ⟨x, H1, I1, rx, d, kvs, ex, q⟩ => ?_)
  subst ex
  obtain rfl : u = Value.ref d := rx
  obtain ⟨o, H2, I2', hd, q⟩ : ∃ o H2, Inv X pins σ H2 s1 ∧ H2 d = some (.frz o (.dK kvs)) ∧ R (Iti d o kvs) H2 := by
    rcases q with ⟨o, hd, q⟩ | ⟨hd, q⟩
    · exact ⟨o, H1, I1, hd, q⟩
    · obtain ⟨o, I2⟩ := I1.lock hd trivial
      exact ⟨o, _, I2, upd_same, q o⟩
  obtain ⟨hs, hgd, hx, es, ep, vs, hdt, hsz, kv, hm⟩ := I2'.frzK hd
  have hl : kvs.length = vs.length := Paired.length kv
  refine ⟨hm.dictOf.typeIs, hm.dictOf.mapOf.noDict, ?_⟩
  have I2 : Inv X pins σ H2 { s1 with heap := s1.heap.push { cls := .type "dict_items", data := .fields #[.ref d] } } := I2'.kept (t' := s1.toks) fun b ob q => Heap.get?_push_of_some _ q
  have fin : wpAny (model X.prog X.w) X.A (pyIter (.ref s1.heap.objs.size)) (PIE X pins σ (.Tuple elts kk tpos) R) X.xe { s1 with heap := s1.heap.push { cls := .type "dict_items", data := .fields #[.ref d] } } := by
    refine wpAny_pyIter_items (d := d) (knd := mixKind X.prog X.w) ⟨_, Heap.get?_push_size _ rfl, rfl, rfl⟩ (hm.push _) (pi_one (tk := s1.toks) I2 _ (turn_items _ hdt) ⟨.none, .none, ?_⟩ q)
    rw [hl]
    exact Heap.get?_push_size _ rfl
  show wpAny _ _ (callWith cpos (.builtin "dict.items") [.ref d] [] []) _ X.xe s1
  exact method_meetsIn F.slot_dict_items F.entry_dict_items rfl (PySem.evalArgs_none ⟨rfl, hm.dictOf.typeIs, F.args_dict_items_1 _, _, meets_dict_items (mixKind X.prog X.w) d hs, ⟨vs, hm.dictOf⟩, fin⟩)
end
section
variable {K : Frag} {A A1 : AS} {σ σ1 : L2.St} {H H1 : Hp} {env e1 : En}
theorem kp_lock {a : Addr} {o : Obj} {ks : List (Key × V)} (h : H a = some (.dK ks)) : Kp A H (upd H a (.frz o (.dK ks))) := fun x u ex z => by
  by_cases q : x = a
  · subst q
    rw [h] at ex; cases ex
    exact .inr (.inl ⟨trivial, o, upd_same⟩)
  · refine .inl ?_
    rw [upd_ne q]; exact ex
theorem stp_lock {a : Addr} {o : Obj} {ks : List (Key × V)} (rel : Rel K A σ H env) (hA : A a) (h : H a = some (.dK ks)) : Stp K A σ H env A σ (upd H a (.frz o (.dK ks))) env := by
  refine ⟨⟨fun _ z => z, fun x u e n => ?_, fun _ z => .inl z, fun x z => ?_, fun t p hp => tab_upd h (fun z => z) p.1 p.2 (t p hp)⟩, ⟨rel.len, fun i d z => ?_, fun i d z => ?_, rel.ap, fun x z => ?_, rel.fz, fun p hp => tab_upd h (fun z => z) p.1 p.2 (rel.tb p hp)⟩, fun _ z => .inl z, fun i d z => ⟨rfl, d, z⟩, fun _ z => z⟩
  · by_cases q : x = a
    · subst q
      rw [h] at e; cases e
      exact .inr (.inl ⟨trivial, hA, o, upd_same⟩)
    · refine .inl ?_
      rw [upd_ne q]; exact e
  · by_cases q : x = a
    · subst q; rw [upd_same]; simp
    · rw [upd_ne q]; exact z
  · obtain ⟨v, e, q⟩ := rel.sh i d z
    exact ⟨v, e, q.mono (fun _ z => z) (kp_lock h)⟩
  · obtain ⟨b, e, nb, ob⟩ := rel.ow i d z
    refine ⟨b, e, nb, ob.mono (fun _ z => z) (kp_lock h) fun o z => ?_⟩
    rw [upd_ne (fun q => nb (by rw [q]; exact hA))]; exact z
  · by_cases q : x = a
    · subst q; rw [upd_same]; simp
    · rw [upd_ne q]; exact rel.dom x z
theorem itm_keys {a : Addr} {o : Obj} {kvs : List (D × D)} {ks : List (Key × V)} (h : H a = some (.frz o (.dK ks))) (r : RpK K A H kvs ks) : Itm K A H (Itk a o ks) (kvs.map Prod.fst) :=
  ⟨_, _, by rw [List.length_map, r.length]; exact walk_keys (kvs := ks), fun A' H' fr k => (k a _ h (.inr trivial)).eq (fun z => z) fun z => z, fun i A' H' x H2 fr k y => by
    obtain ⟨rfl, kk, v, e, rfl⟩ := y
    obtain ⟨d, e1, _⟩ := r.at' e
    exact ⟨Same.refl _, keyD kk, by rw [List.getElem?_map, e1]; rfl, key_rp⟩⟩
def pairsD (kvs : List (D × D)) : List D := kvs.map fun p => PyData.tuple [p.1, p.2]
theorem itm_items {a : Addr} {o : Obj} {kvs : List (D × D)} {ks : List (Key × V)} (h : H a = some (.frz o (.dK ks))) (r : RpK K A H kvs ks) : Itm K A H (Iti a o ks) (pairsD kvs) :=
  ⟨_, _, by
    have : (pairsD kvs).length = ks.length := by simp [pairsD, r.length]
    rw [this]; exact walk_items (kvs := ks), fun A' H' fr k => (k a _ h (.inr trivial)).eq (fun z => z) fun z => z, fun i A' H' x H2 fr k y => by
    obtain ⟨T, x', y', rfl, hn, rfl, e1, e2⟩ := y
    obtain ⟨p, ep, rfl⟩ := Option.map_eq_some_iff.mp e1
    obtain ⟨p', ep', rfl⟩ := Option.map_eq_some_iff.mp e2
    rw [ep] at ep'; cases ep'
    obtain ⟨kk, v⟩ := p
    obtain ⟨d, q1, q2⟩ := (r.mono fr k).at' ep
    exact ⟨same_upd hn, .tuple [keyD kk, d], by simp [pairsD, q1], rp_pair hn key_rp q2⟩⟩
end
def keysF (f : EF) : IF := fun env => (f env).bind fun r e => match frz e r with
  | some (.dict kvs, e2) => if kindT kvs = true then .no else .ok (kvs.map Prod.fst) e2
  | _ => .no
def itemsF (f : EF) : IF := fun env => (f env).bind fun r e => match frz e r with
  | some (.dict kvs, e2) => if kindT kvs = true then .no else .ok (pairsD kvs) e2
  | _ => .no
section
variable {G : Gd} {A : AS} {σ : L2.St} {H H1 : Hp} {env e1 : En}
theorem lock_core {f : D × D → D} {kvs : List (D × D)} {A1 : AS} {r : Rv} {v : V} {e2 : En} {R : It → Hp → Prop} {Jt : Addr → Obj → List (Key × V) → It} (s1 : Stp G.K A σ H env A1 σ H1 e1) (hv : RvOk G.K A1 σ H1 e1 (fun a => H a = none) r v) (q : frz e1 r = some (.dict kvs, e2)) (c : ¬ kindT kvs = true)
    (hi : ∀ (A : AS) (H : Hp) (a : Addr) (o : Obj) (ks : List (Key × V)), H a = some (.frz o (.dK ks)) → RpK G.K A H kvs ks → Itm G.K A H (Jt a o ks) (kvs.map f))
    (h1 : ∀ A' H', Stp G.K A σ H env A' σ H' e2 → ∀ J, Itm G.K A' H' J (kvs.map f) → R J H') :
    ∃ d ks, v = .ref d ∧ ((∃ o, H1 d = some (.frz o (.dK ks)) ∧ R (Jt d o ks) H1) ∨ (H1 d = some (.dK ks) ∧ ∀ o, R (Jt d o ks) (upd H1 d (.frz o (.dK ks))))) := by
  obtain ⟨A2, s2, f2, rp, _⟩ := frz_ok s1 hv q
  simp only [Rp] at rp
  obtain ⟨a, rfl, hA, rr⟩ := rp
  rcases rr with ⟨ks, rk, rl⟩ | ⟨ks, rk, rl⟩
  · refine ⟨a, ks, rfl, ?_⟩
    rcases rk with rk | ⟨o, rk⟩
    · refine .inr ⟨rk, fun o => ?_⟩
      have sl := stp_lock (o := o) s2.rel hA rk
      exact h1 A2 _ (s2.trans sl) _ (hi A2 _ a o ks upd_same (rl.mono (fun _ z => z) (kp_lock rk)))
    · exact .inl ⟨o, rk, h1 A2 H1 s2 _ (hi A2 H1 a o ks rk rl)⟩
  · exact (c (rt_kind rl)).elim
end
section
variable {X : Cx} {W : WX} {tg e : Expr} {f : EF} {apos cpos tpos : Pos} {elts : List Expr} {kk : Nat}
theorem i_keys (h : PE X e (tE (gd X W) f)) : PI X tg e (tI (gd X W) (keysF f)) := PI.imp (pi_keysL h) fun σ H R h => by
  obtain ⟨A, env, rel, h⟩ := h
  refine ⟨A, env, rel, ?_⟩
  unfold keysF at h
  cases q0 : f env with
  | no => rw [q0] at h; exact h.elim
  | ex x e => rw [q0] at h; exact h
  | ok r1 e1 =>
    rw [q0] at h
    simp only [Rs.bind] at h
    cases q : frz e1 r1 with
    | none => rw [q] at h; exact h.elim
    | some p =>
      obtain ⟨d, e2⟩ := p
      rw [q] at h
      cases d with
      | dict kvs =>
        dsimp only at h
        by_cases c : kindT kvs = true
        · rw [if_pos c] at h; exact h.elim
        · rw [if_neg c] at h
          exact fun A1 H1 s1 v hv => lock_core (G := gd X W) s1 hv q c (fun A H a o ks z r => itm_keys z r) fun A' H' s => h A' H' s
      | _ => exact h.elim
theorem i_items (h : PE X e (tE (gd X W) f)) (hbase : attributeBase e "items" X.env (eval e X.env) = eval e X.env := by rfl) (hline : (apos.endLine == cpos.line) = true := by rfl) :
    PI X (.Tuple elts kk tpos) (.Call (.Attribute e "items" apos) [] [] cpos) (tI (gd X W) (itemsF f)) := PI.imp (pi_itemsL h hbase hline) fun σ H R h => by
  obtain ⟨A, env, rel, h⟩ := h
  refine ⟨A, env, rel, ?_⟩
  unfold itemsF at h
  cases q0 : f env with
  | no => rw [q0] at h; exact h.elim
  | ex x e => rw [q0] at h; exact h
  | ok r1 e1 =>
    rw [q0] at h
    simp only [Rs.bind] at h
    cases q : frz e1 r1 with
    | none => rw [q] at h; exact h.elim
    | some p =>
      obtain ⟨d, e2⟩ := p
      rw [q] at h
      cases d with
      | dict kvs =>
        dsimp only at h
        by_cases c : kindT kvs = true
        · rw [if_pos c] at h; exact h.elim
        · rw [if_neg c] at h
          exact fun A1 H1 s1 v hv => lock_core (G := gd X W) s1 hv q c (fun A H a o ks z r => itm_items z r) fun A' H' s => h A' H' s
      | _ => exact h.elim
end
end VL


set_option Elab.async false
set_option linter.all false
set_option maxRecDepth 100000
set_option maxHeartbeats 4000000
/-! EX20: x.remove(k) of a list of ints; dict(list of pairs), dict(d), list(d), len(d), sorted(d) of a dict whose keys are ints. -/
namespace VL
open PySem PySem.Spec PyProof.Rows L2
variable [TbP]
/-! ### remove -/
def remG : GM
  | .list ds, [.int k] => match intsD ds with
    | some ns => if k ∈ ns then some (.none, .list ((ns.erase k).map PyData.int)) else none
    | none => none
  | _, _ => none
theorem rem_A {K : Frag} : MuA K rRemI remG := by
  intro A H a d ds xs res d' Q na ob rl e q
  match d, ds, e, ob with
  | .list l, [.int k], e, ob =>
    dsimp only [remG] at e
    cases q1 : intsD l with
    | none => rw [q1] at e; cases e
    | some ns =>
      rw [q1] at e
      dsimp only at e
      by_cases c : k ∈ ns
      · rw [if_pos c] at e
        cases e
        obtain ⟨ys, ea, r⟩ := ob
        rw [intsD_ok q1 r] at ea
        obtain ⟨v, t, rfl, h1, h2⟩ := rl.inv_cons
        rw [h2.inv_nil]
        simp only [Rp] at h1
        subst h1
        obtain ⟨j, j1, j2, j3, j4⟩ := first_at c
        refine ⟨a, ns, k, j, rfl, rfl, ea, j2, j3, ?_⟩
        rw [j4]
        exact q _ _ ⟨_, upd_same, rpl_ints _⟩ rp_non
      · rw [if_neg c] at e; cases e
section
variable {X : Cx} {W : WX} {o e : Expr} {f : EF} {fs : AF} {apos cpos : Pos}
theorem e_remove (ho : PE X o (tE (gd X W) f)) (ha : PA X [e] (tA (gd X W) fs))
    (hbase : attributeBase o "remove" X.env (eval o X.env) = eval o X.env := by rfl)
    (hfew : ((backTo cpos (starEach [e] X.env)).all (fun x => !x.1) && (backToKw cpos (keywordEach [] X.env)).all (fun x => x.1.isSome)
      && decide ([e].length + ([] : List Keyword).length + (if ([] : List Keyword).isEmpty then 0 else 1) < 30)) = true := by rfl)
    (hline : (apos.endLine == cpos.line) = true := by rfl) (hs : starEach [e] X.env = (false, eval e X.env) :: starEach [] X.env := by rfl) (hplain : (backTo cpos (starEach [] X.env)).any (·.1) = false := by rfl) :
    PE X (.Call (.Attribute o "remove" apos) [e] [] cpos) (tE (gd X W) (muF "list" remG f fs)) := e_mu PySem.F.plainAttrs_list PySem.F.slot_list_remove PySem.F.type_list_remove mt_remove rem_A ho ha hbase hfew hline hs hplain
end
/-! ### dict(list of pairs) -/
def pairsOf : List D → Option (List (D × D))
  | [] => some []
  | .tuple [k, d] :: r => if isKey1 k = true then (pairsOf r).map ((k, d) :: ·) else none
  | _ => none
def mergeD (ps acc : List (D × D)) : List (D × D) := ps.foldl (fun acc p => dputD acc p.1 p.2) acc
def dictC : GC
  | [.list ds] => (pairsOf ds).map fun ps => .tm (.dict (mergeD ps []))
  | _ => none
theorem pairsOf_ok {K : Frag} {A : AS} {H : Hp} : ∀ {ds : List D} {ps : List (D × D)} {vs : List V}, pairsOf ds = some ps → RpL K A H ds vs → ∃ (as : List Addr) (kvs : List (Key × V)), vs = as.map V.ref ∧ Paired (fun p kv => SqT K H p [kV kv.1, kv.2]) as kvs ∧ RpK K A H ps kvs
  | [], ps, vs, e, h => by
    cases e
    exact ⟨[], [], h.inv_nil, .nil, by simp [RpK]⟩
  | d :: r, ps, vs, e, h => by
    match d, e with
    | .tuple [k, d], e =>
      obtain ⟨v, t, rfl, h1, h2⟩ := h.inv_cons
      unfold pairsOf at e
      by_cases c : isKey1 k = true
      · rw [if_pos c] at e
        cases q : pairsOf r with
        | none => rw [q] at e; cases e
        | some ps' =>
          rw [q] at e
          cases e
          obtain ⟨as, kvs, rfl, pr, rk⟩ := pairsOf_ok q h2
          simp only [Rp] at h1
          obtain ⟨a, xs, rfl, sq, rx⟩ := h1
          obtain ⟨v1, t1, rfl, r1, r2⟩ := rx.inv_cons
          obtain ⟨v2, t2, rfl, r3, r4⟩ := r2.inv_cons
          rw [r4.inv_nil] at sq
          obtain ⟨k', hk⟩ := Option.isSome_iff_exists.mp c
          have ek := key1_spec hk
          subst ek
          rw [rp_key r1] at sq
          exact ⟨a :: as, (k', v2) :: kvs, rfl, .cons sq pr, by simp only [RpK]; exact ⟨k', v2, kvs, rfl, rfl, r3, rk⟩⟩
      · rw [if_neg c] at e; cases e
theorem merge_ok {K : Frag} {A : AS} {H : Hp} : ∀ {ps acc : List (D × D)} {kvs ks : List (Key × V)}, RpK K A H ps kvs → RpK K A H acc ks → RpK K A H (mergeD ps acc) (kvs.foldl (fun acc kv => putK acc kv.1 kv.2) ks)
  | [], acc, kvs, ks, h, g => by
    simp only [RpK] at h
    subst h
    exact g
  | (p1, p2) :: r, acc, kvs, ks, h, g => by
    simp only [RpK] at h
    obtain ⟨k', v, r', rfl, rfl, h1, h2⟩ := h
    have z := merge_ok (ps := r) h2 (g.put (k := k') (d := p2) h1)
    exact z
theorem rz_dct {K : Frag} {A : AS} {H : Hp} {p : Addr} {kvs : List (D × D)} {ks : List (Key × V)} (n : H p = none) (r : RpK K A H kvs ks) : Rz K A H (upd H p (.dK ks)) (.tm (.dict kvs)) (.ref p) :=
  ⟨p, rfl, n, .inl ⟨ks, upd_same, r.mono (fun _ z => z) (same_kp (same_upd n))⟩⟩
theorem dict_A {K : Frag} : CbA K (fun xs H Q => ∃ (a : Addr) (ps : List Addr) (kvs : List (Key × V)), xs = [V.ref a] ∧ SqL K H a (ps.map V.ref) ∧ Paired (fun p kv => SqT K H p [kV kv.1, kv.2]) ps kvs ∧ ∀ p, H p = none → Q (.ref p) (upd H p (.dK (mergeK [] kvs)))) dictC := by
  intro A H ds vs z Q hd e hx q
  match ds, e with
  | [.list l], e =>
    obtain ⟨v, rfl, h⟩ := hx.one
    dsimp only [dictC] at e
    cases q1 : pairsOf l with
    | none => rw [q1] at e; cases e
    | some ps =>
      rw [q1] at e
      cases e
      obtain ⟨a, xs, rfl, sl, r⟩ := h.lst
      obtain ⟨as, kvs, rfl, pr, rk⟩ := pairsOf_ok q1 r
      exact ⟨a, as, kvs, rfl, sl, pr, fun p n => q _ _ (same_upd n) (rz_dct n (merge_ok rk (by simp [RpK] : RpK K A H [] [])))⟩
theorem b_dict {X : Cx} (hc : X.calm = true) : BI X "dict" dictC := ⟨⟨_, _, call_dictP hc, dict_A, boot_dict', .inr ⟨_, rfl⟩⟩, by decide, by decide⟩
/-! ### sorted(d), list(d), len(d), dict(d) -/
def intKs : List (D × D) → Option (List Int)
  | [] => some []
  | (.int k, _) :: r => (intKs r).map (k :: ·)
  | _ => none
theorem intKs_ok {K : Frag} {A : AS} {H : Hp} : ∀ {kvs : List (D × D)} {ns : List Int} {ks : List (Key × V)}, intKs kvs = some ns → RpK K A H kvs ks → ks.map (·.1) = ns.map Sum.inl
  | [], ns, ks, e, h => by
    simp only [RpK] at h
    subst h; cases e; rfl
  | (p1, p2) :: r, ns, ks, e, h => by
    match p1, e with
    | .int k, e =>
      unfold intKs at e
      cases q : intKs r with
      | none => rw [q] at e; cases e
      | some ns' =>
        rw [q] at e
        cases e
        simp only [RpK] at h
        obtain ⟨k', v, r', rfl, ek, h1, h2⟩ := h
        have : k' = Sum.inl k := by
          cases k' with
          | inl i => simp only [keyD, PyData.int.injEq] at ek; rw [ek]
          | inr x => cases ek
        subst this
        rw [List.map_cons, intKs_ok q h2]; rfl
theorem rk_not_t {K : Frag} {A : AS} {H : Hp} {kvs : List (D × D)} {ks : List (List Key × V)} {ns : List Int} (e : intKs kvs = some ns) (h : RpT0 K A H kvs ks) : False := by
  have := rt_kind h
  match kvs, e, this with
  | (.int k, _) :: _, _, t => cases t
def sortedDC : GC
  | [.dict kvs] => match intKs kvs with
    | some ns => if ns.length < 64 then some (.tm (.list ((sortI ns).map PyData.int))) else none
    | none => none
  | _ => none
theorem sortedD_A {K : Frag} : CbA K (fun xs H Q => ∃ (a : Addr) (kvs : List (Key × V)) (ks : List Int), xs = [V.ref a] ∧ Rd H a (.dK kvs) ∧ kvs.map (·.1) = ks.map Sum.inl ∧ ks.length < 64 ∧
    ∀ (ys : List Int) (p : Addr), ys.Perm ks → ys.Pairwise (· ≤ ·) → H p = none → Q (.ref p) (upd H p (.lst (ys.map V.int)))) sortedDC := by
  intro A H ds vs z Q hd e hx q
  match ds, e with
  | [.dict l], e =>
    obtain ⟨v, rfl, h⟩ := hx.one
    dsimp only [sortedDC] at e
    cases q1 : intKs l with
    | none => rw [q1] at e; cases e
    | some ns =>
      rw [q1] at e
      dsimp only at e
      by_cases c : ns.length < 64
      · rw [if_pos c] at e
        cases e
        obtain ⟨a, rfl, ⟨ks, rd, rk⟩ | ⟨ks, rd, rk⟩⟩ := h.dct
        · refine ⟨a, ks, ns, rfl, rd, intKs_ok q1 rk, c, fun ys p pm pw n => q _ _ (same_upd n) ?_⟩
          rw [sortI_spec pm pw]
          exact rz_lst n (rpl_ints _)
        · exact (rk_not_t q1 rk).elim
      · rw [if_neg c] at e; cases e
theorem b_sortedD {X : Cx} (hc : X.calm = true) : BI X "sorted" sortedDC := ⟨⟨_, _, call_sortedDI hc, sortedD_A, boot_sorted', .inl ⟨_, rfl⟩⟩, by decide, by decide⟩
theorem rpl_kvs {K : Frag} {A : AS} {H : Hp} : ∀ {kvs : List (D × D)} {ks : List (Key × V)}, RpK K A H kvs ks → RpL K A H (kvs.map Prod.fst) (ks.map fun kv => kV kv.1)
  | [], ks, h => by
    simp only [RpK] at h
    subst h; exact .nil
  | (p1, p2) :: r, ks, h => by
    simp only [RpK] at h
    obtain ⟨k', v, r', rfl, rfl, h1, h2⟩ := h
    exact .cons key_rp (rpl_kvs h2)
/-- a dict whose keys are ints and texts -/
def kDict (kvs : List (D × D)) : Bool := kvs.all fun p => isKey1 p.1
theorem kd_not_t {K : Frag} {A : AS} {H : Hp} {kvs : List (D × D)} {ks : List (List Key × V)} (e : kDict kvs = true) (h : RpT0 K A H kvs ks) : False := by
  have := rt_kind h
  match kvs, e, this with
  | (.none, _) :: _, e, _ => simp [kDict, isKey1, key1] at e
def listDC : GC
  | [.dict kvs] => if kDict kvs = true then some (.tm (.list (kvs.map Prod.fst))) else none
  | _ => none
theorem listD_A {K : Frag} : CbA K (fun xs H Q => ∃ (a : Addr) (kvs : List (Key × V)), xs = [V.ref a] ∧ Rd H a (.dK kvs) ∧ ∀ p, H p = none → Q (.ref p) (upd H p (.lst (kvs.map fun kv => kV kv.1)))) listDC := by
  intro A H ds vs z Q hd e hx q
  match ds, e with
  | [.dict l], e =>
    obtain ⟨v, rfl, h⟩ := hx.one
    dsimp only [listDC] at e
    by_cases c : kDict l = true
    · rw [if_pos c] at e
      cases e
      obtain ⟨a, rfl, ⟨ks, rd, rk⟩ | ⟨ks, rd, rk⟩⟩ := h.dct
      · exact ⟨a, ks, rfl, rd, fun p n => q _ _ (same_upd n) (rz_lst n (rpl_kvs rk))⟩
      · exact (kd_not_t c rk).elim
    · rw [if_neg c] at e; cases e
theorem b_listD {X : Cx} (hc : X.calm = true) : BI X "list" listDC := ⟨⟨_, _, call_listD hc, listD_A, boot_list', .inr ⟨_, rfl⟩⟩, by decide, by decide⟩
def dictDC : GC
  | [.dict kvs] => if kDict kvs = true then some (.tm (.dict kvs)) else none
  | _ => none
theorem dictD_A {K : Frag} : CbA K (fun xs H Q => ∃ (a : Addr) (kvs : List (Key × V)), xs = [V.ref a] ∧ Rd H a (.dK kvs) ∧ ∀ p, H p = none → Q (.ref p) (upd H p (.dK kvs))) dictDC := by
  intro A H ds vs z Q hd e hx q
  match ds, e with
  | [.dict l], e =>
    obtain ⟨v, rfl, h⟩ := hx.one
    dsimp only [dictDC] at e
    by_cases c : kDict l = true
    · rw [if_pos c] at e
      cases e
      obtain ⟨a, rfl, ⟨ks, rd, rk⟩ | ⟨ks, rd, rk⟩⟩ := h.dct
      · exact ⟨a, ks, rfl, rd, fun p n => q _ _ (same_upd n) (rz_dct n rk)⟩
      · exact (kd_not_t c rk).elim
    · rw [if_neg c] at e; cases e
theorem b_dictD {X : Cx} : BI X "dict" dictDC := ⟨⟨_, _, call_dictD, dictD_A, boot_dict', .inr ⟨_, rfl⟩⟩, by decide, by decide⟩
end VL


set_option Elab.async false
set_option linter.all false
set_option maxRecDepth 100000
set_option maxHeartbeats 4000000
/-! EX21: a comprehension over an owned list that is not frozen by it (read turn by turn). -/
namespace VL
open PySem PySem.Spec PyProof.Rows L2
variable [TbP]
def ownL (env : En) (i : Nat) : Option (List D) := match env[i]? with
  | some (.ow (.list ds)) => some ds
  | some (.io (.list ds)) => some ds
  | _ => none
theorem ownL_ok {env : En} {i : Nat} {ds : List D} (h : ownL env i = some ds) : isOwn env i (.list ds) := by
  unfold ownL at h
  split at h
  · rename_i q; cases h; exact .inl q
  · rename_i q; cases h; exact .inr q
  · cases h
def lcLGo (i : Nat) (f : D → En → Option (Option D × En)) : Nat → Nat → En → List D → Option (List D × En)
  | 0, _, _, _ => none
  | n + 1, k, e, acc => match ownL e i with
    | some ds => (match ds[k]? with
      | some d => (match f d e with
        | some (some y, e2) => if acc.length < LIM then lcLGo i f n (k + 1) e2 (acc ++ [y]) else none
        | some (none, e2) => lcLGo i f n (k + 1) e2 acc
        | none => none)
      | none => some (acc, e))
    | none => none
def lcM (i : Nat) (vs : List Nat) (tgt : GF) (tt : TF) (el : EF) : EF := fun env => match ownL env i with
  | some ds => (match lcLGo i (lcStep vs tgt tt el) (ds.length + 1) 0 env [] with
    | some (acc, e2) => .ok (.tm (.list acc)) e2
    | none => .no)
  | none => lcF (itF (nmF i)) vs tgt tt el env
theorem nm_own {env : En} {i : Nat} {d : D} (h : isOwn env i d) : nmF i env = .ok (.bo i) env := by
  unfold nmF
  rcases h with h | h <;> rw [h]
theorem lcM_sound {X : Cx} {W : WX} {i : Nat} {g : TG} {tgt : GF} {vs : List Nat} {tt : TF} {el : EF} (ht : TgOk (gd X W0) g tgt vs) {σ : L2.St} {H : Hp} {Q : VK} {A : AS} {env : En} {ds : List D} (rel : Rel X.K A σ H env) (q : ownL env i = some ds)
    (h : Post (gd X W) A σ H env (match lcLGo i (lcStep vs tgt tt el) (ds.length + 1) 0 env [] with
      | some (acc, e2) => .ok (.tm (.list acc)) e2
      | none => .no) (EQ (gd X W) σ H Q)) :
    tLc (iList X.K (tE (gd X W) (nmF i))) g (tT (gd X W0) tt) (tE (gd X W0) el) vs σ H Q := by
  have own0 := ownL_ok q
  refine ⟨A, env, rel, ?_⟩
  rw [nm_own own0]
  intro A1 H1 s1 v hv
  obtain ⟨hv1, _⟩ := hv
  obtain ⟨a, ea, na, ob⟩ := s1.rel.ow i (.list ds) own0
  rw [hv1] at ea
  cases ea
  obtain ⟨xs0, hx, _⟩ := ob
  refine ⟨a, rfl, ⟨xs0, .inl (.inl hx)⟩, ?_⟩
  intro L hL
  cases q0 : lcLGo i (lcStep vs tgt tt el) (ds.length + 1) 0 env [] with
  | none => rw [q0] at h; exact h.elim
  | some p =>
    obtain ⟨accF, eF⟩ := p
    rw [q0] at h
    have sL : Stp X.K A1 σ H1 env A1 σ (upd H1 L (.lst [])) env := Stp.same s1.rel (same_upd hL)
    refine ⟨fun k m H' => ∃ A' e' acc xs, Stp X.K A1 σ H1 env A' σ H' e' ∧ H' L = some (.lst xs) ∧ RpL X.K A' H' acc xs ∧ ¬ A' L ∧ ¬ Ow σ e' L ∧ lcLGo i (lcStep vs tgt tt el) m k e' acc = some (accF, eF), ⟨ds.length + 1, ?_⟩, ?_⟩
    · refine ⟨A1, env, [], [], sL, upd_same, .nil, fun z => s1.rel.dom L z hL, fun z => ?_, q0⟩
      obtain ⟨_, o, eo, _⟩ := s1.rel.owok z
      rw [hL] at eo; cases eo
    · rintro k m H' ⟨A', e', acc, xs, s, hl, rl, na', no, q⟩
      cases m with
      | zero => cases q
      | succ m =>
        unfold lcLGo at q
        cases q2 : ownL e' i with
        | none => rw [q2] at q; cases q
        | some ds' =>
          rw [q2] at q
          dsimp only at q
          obtain ⟨b, eb, nb, ob'⟩ := s.rel.ow i (.list ds') (ownL_ok q2)
          rw [hv1] at eb
          cases eb
          obtain ⟨ys, hy, rp⟩ := ob'
          have sq : SqL X.K H' a ys := .inl (.inl hy)
          have hl2 := rp.length
          cases q3 : ds'[k]? with
          | none =>
            rw [q3] at q
            cases q
            refine .inl ⟨⟨ys, sq, ?_⟩, ?_⟩
            · have := List.getElem?_eq_none_iff.mp q3
              omega
            · refine h A' H' (s1.trans s) (.ref L) ⟨L, rfl, na', no, ?_, xs, hl, rl⟩
              show H L = none
              cases q : H L with
              | none => rfl
              | some u => exact absurd hL (s1.ext.al L (by rw [q]; simp))
          | some d =>
            rw [q3] at q
            dsimp only at q
            have hlt := (List.getElem?_eq_some_iff.mp q3).1
            refine .inr ⟨⟨ys, ys[k]'(by omega), sq, List.getElem?_eq_getElem (by omega)⟩, fun H3 => ∃ A3 e3 acc3 xs3, Stp X.K A1 σ H1 env A3 σ H3 e3 ∧ H3 L = some (.lst xs3) ∧ RpL X.K A3 H3 acc3 xs3 ∧ ¬ A3 L ∧ ¬ Ow σ e3 L ∧ lcLGo i (lcStep vs tgt tt el) m (k + 1) e3 acc3 = some (accF, eF), fun H3 z => ⟨m, Nat.lt_succ_self m, z⟩, fun x H2 hyl => ?_⟩
            obtain ⟨rfl, hyk⟩ := hyl
            obtain ⟨d', ed2, rpd⟩ := rp.at' (hyk ys sq)
            rw [q3] at ed2
            cases ed2
            cases q1 : lcStep vs tgt tt el d e' with
            | none => rw [q1] at q; cases q
            | some pr =>
              obtain ⟨oy, e''⟩ := pr
              rw [q1] at q
              unfold lcStep at q1
              by_cases c : clean e' vs = true
              · rw [if_pos c] at q1
                cases q2 : tgt d (wipeE e' vs) with
                | none => rw [q2] at q1; cases q1
                | some e2 =>
                  rw [q2] at q1
                  dsimp only at q1
                  have rw0 := s.rel.wipe (vs := vs)
                  refine ht A' A' (wipe σ vs) (wipe σ vs) H2 H2 (wipeE e' vs) (wipeE e' vs) e2 d x _ (.refl rw0) rpd q2 fun σ2 s2 l2 off => ?_
                  have l2' : σ2.length = σ.length := l2.trans (wipe_length σ vs)
                  refine ⟨wipe_eq l2' off, A', e2, s2.rel, ?_⟩
                  cases q3 : tt e2 with
                  | no => rw [q3] at q1; cases q1
                  | ex _ _ => rw [q3] at q1; cases q1
                  | ok b e3 =>
                    rw [q3] at q1
                    intro A3 H3 s3
                    have s23 := s2.trans s3
                    show if b = true then _ else _
                    cases b with
                    | false =>
                      rw [if_neg Bool.false_ne_true]
                      cases q1
                      dsimp only at q
                      have sU := Stp.unwipe s.rel c s23 l2' off
                      obtain ⟨na3, no3, hl3⟩ := sU.keepD na' no hl
                      exact ⟨A3, _, acc, xs, s.trans sU, hl3, rl.mono sU.ext.fr (sU.ext.kp s.rel), na3, no3, q⟩
                    | true =>
                      rw [if_pos rfl]
                      dsimp only at q1
                      refine ⟨A3, e3, s3.rel, ?_⟩
                      cases q4 : el e3 with
                      | no => rw [q4] at q1; cases q1
                      | ex _ _ => rw [q4] at q1; cases q1
                      | ok r e4 =>
                        rw [q4] at q1
                        dsimp only at q1
                        intro A4 H4 s4 v hv
                        cases q5 : frz e4 r with
                        | none => rw [q5] at q1; cases q1
                        | some pr =>
                          obtain ⟨y, e5⟩ := pr
                          rw [q5] at q1
                          cases q1
                          dsimp only at q
                          obtain ⟨A5, s5, f5, rpy, _⟩ := frz_ok s4 hv q5
                          have sU := Stp.unwipe s.rel c (s23.trans s5) l2' off
                          obtain ⟨na5, no5, hl5⟩ := sU.keepD na' no hl
                          have st := s.trans sU
                          have rl5 := rl.mono sU.ext.fr (sU.ext.kp s.rel)
                          by_cases cl : acc.length < LIM
                          · rw [if_pos cl] at q
                            have kp : Kp A5 H4 (upd H4 L (.lst (xs ++ [v]))) := Kp.upd hl5 na5 fun z => z
                            exact ⟨xs, hl5, by rw [← rl5.length, lim_eq]; exact cl, A5, _, acc ++ [y], xs ++ [v], st.updD hL na5 no5 hl5 (fun z => z), upd_same, (rl5.append (.cons rpy .nil)).mono (fun _ z => z) kp, na5, no5, q⟩
                          · rw [if_neg cl] at q; cases q
              · rw [if_neg c] at q1; cases q1
section
variable {X : Cx} {W : WX} {elt tg : Expr} {x : Str} {p : Pos} {ifs : List Expr} {scope : Scope} {own : List (Str × Nat)} {pos : Pos} {i : Nat} {g : TG} {t : GF} {tt : TF} {el : EF}
theorem e_lcM (hc : X.calm = true) (hN : X.N.Nodup) (hn : PE X (.Name x p) (tE (gd X W) (nmF i))) (ok : BlkOk X.N X.env.scope scope own) (ht : TgOk (gd X W0) g t (own.map (·.2)))
    (hb : ∀ (s : Shared) (H : Hp) (C : Addr) (cl : List (Str × Addr)) (fp : List Addr), PG (X.blk s H scope (compEnvC scope cl C X.env) fp) tg g ∧ PTs (X.blk s H scope (compEnvC scope cl C X.env) fp) ifs (tT (gd X W0) tt) ∧ PE (X.blk s H scope (compEnvC scope cl C X.env) fp) elt (tE (gd X W0) el))
    (hs : ∀ v, foldedSetIterable (.Name x p) X.env v = pure v := by intro _; rfl) :
    PE X (.ListComp elt [⟨tg, .Name x p, ifs, 0⟩] scope pos) (tE (gd X W) (lcM i (own.map (·.2)) t tt el)) := by
  have F := e_lc (pos := pos) hc hN (i_it (tg := tg) hn) ok ht hb hs
  have Lv := pe_lc (pos := pos) hc hN (pi_list (tg := tg) hn) ok (fun s H C cl fp => (hb s H C cl fp).1) (fun s H C cl fp => (hb s H C cl fp).2.1) (fun s H C cl fp => (hb s H C cl fp).2.2) hs
  refine ⟨fun pins s σ H Q I h => ?_⟩
  obtain ⟨A, env, rel, h⟩ := h
  cases q : ownL env i with
  | none =>
    refine F.run pins s σ H Q I ⟨A, env, rel, ?_⟩
    unfold lcM at h
    rw [q] at h
    exact h
  | some ds =>
    refine Lv.run pins s σ H Q I ?_
    unfold lcM at h
    rw [q] at h
    exact lcM_sound ht rel q h
end
end VL


set_option Elab.async false
set_option linter.all false
set_option maxRecDepth 100000
set_option maxHeartbeats 4000000
/-! EX22: name = {k: v for ..} on one line, the name a local. -/
namespace VL
open PySem PySem.Spec PyProof.Rows L2
section
variable {X : Cx}
theorem ps_setDcX {i : Nat} {y : Str} {py : Pos} {kx vx tg iter : Expr} {ifs : List Expr} {scope : Scope} {own : List (Str × Nat)} {pos spos : Pos} {wi : TI} {g : TG} {tt : TT} {tk tv : TE} (hc : X.calm = true) (hN : X.N.Nodup) (hy : X.N[i]? = some y) (hyl : X.env.scope.names.lookup y = some .local)
    (hsw : swapsWith (.DictComp kx vx [⟨tg, iter, ifs, 0⟩] scope pos) (some (.Name y py)) spos.line X.env = pure true) (hi : PI X tg iter wi) (ok : BlkOk X.N X.env.scope scope own)
    (hg : ∀ (s : Shared) (H : Hp) (C : Addr) (cl : List (Str × Addr)) (fp : List Addr), PG (X.blk s H scope (compEnvC scope cl C X.env) fp) tg g) (ht : ∀ (s : Shared) (H : Hp) (C : Addr) (cl : List (Str × Addr)) (fp : List Addr), PTs (X.blk s H scope (compEnvC scope cl C X.env) fp) ifs tt)
    (hk : ∀ (s : Shared) (H : Hp) (C : Addr) (cl : List (Str × Addr)) (fp : List Addr), PE (X.blk s H scope (compEnvC scope cl C X.env) fp) kx tk)
    (he : ∀ (s : Shared) (H : Hp) (C : Addr) (cl : List (Str × Addr)) (fp : List Addr), PE (X.blk s H scope (compEnvC scope cl C X.env) fp) vx tv) (hs : ∀ x, foldedSetIterable iter X.env x = pure x := by intro _; rfl) :
    PS X (.Assign [.Name y py] (.DictComp kx vx [⟨tg, iter, ifs, 0⟩] scope pos) spos) (tAsg (tDc wi g tt tk tv (own.map (·.2))) (gName i)) := by
  refine ⟨fun pins s σ H D I h => ?_⟩
  rw [exec_Assign_Name_used _ _ _ _ hsw]
  refine wpAny_bind (wpAny_standAt (wpAny_bind ?_))
  show wpAny _ X.A (do let _ ← comprehension (.DictComp kx vx [⟨tg, iter, ifs, 0⟩] scope pos) scope X.env (firstIterPos [⟨tg, iter, ifs, 0⟩] pos) newDict false (eval iter X.env) (some (assign (.Name y py) X.env))) _ _ s
  have h : tDc wi g tt tk tv (own.map (·.2)) σ H (fun x H1 => gName i x σ H1 D.nx) := h
  refine wpAny_bind (thn (dc_core (Qf := fun _ s' => SP X pins D .next s') hc hN I hi ok hg ht hk he hs h fun L C s' m H' I' q hn f => ?_) fun _ s' hq => wpAny_pure (wpAny_pure hq))
  show wpAny _ _ (assign (.Name y py) X.env (.ref L)) _ _ _
  refine wpAny_assign_Name (store_ok2 (v := V.ref L) I' hN hy (.inl hyl) rfl (fun s2 I2 ⟨a, sb, ha⟩ => ?_) (.inr hyl))
  obtain ⟨f0, f1, f2, f3, f4, f5⟩ := f
  have haC : C ≠ a := by
    rcases ha with z | z
    · rw [z]; exact f1
    · exact fun e => f4 y a z e.symm
  refine ⟨m, hn.sameBut sb haC, fun h3 sb3 => ?_⟩
  exact ⟨_, H', I2.turned (t' := s2.toks) (fun b o hb e => (sb3.2 b hb).trans e) f0 f1 f3 f4 f5, q⟩
end
variable [TbP]
section
variable {X : Cx} {W : WX} {kx vx tg iter : Expr} {ifs : List Expr} {scope : Scope} {own : List (Str × Nat)} {pos spos : Pos} {it : IF} {g : TG} {t : GF} {tt : TF} {ek ev : EF}
theorem s_setDc (i : Nat) {y : Str} {py : Pos} (hc : X.calm = true) (hN : X.N.Nodup) (hi : PI X tg iter (tI (gd X W) it)) (ok : BlkOk X.N X.env.scope scope own) (ht : TgOk (gd X W0) g t (own.map (·.2)))
    (hb : ∀ (s : Shared) (H : Hp) (C : Addr) (cl : List (Str × Addr)) (fp : List Addr), PG (X.blk s H scope (compEnvC scope cl C X.env) fp) tg g ∧ PTs (X.blk s H scope (compEnvC scope cl C X.env) fp) ifs (tT (gd X W0) tt) ∧ PE (X.blk s H scope (compEnvC scope cl C X.env) fp) kx (tE (gd X W0) ek) ∧ PE (X.blk s H scope (compEnvC scope cl C X.env) fp) vx (tE (gd X W0) ev))
    (hy : X.N[i]? = some y := by rfl) (hyl : X.env.scope.names.lookup y = some .local := by rfl)
    (hsw : swapsWith (.DictComp kx vx [⟨tg, iter, ifs, 0⟩] scope pos) (some (.Name y py)) spos.line X.env = pure true := by rfl)
    (hs : ∀ x, foldedSetIterable iter X.env x = pure x := by intro _; rfl) :
    PS X (.Assign [.Name y py] (.DictComp kx vx [⟨tg, iter, ifs, 0⟩] scope pos) spos) (tS (gd X W) (setF i (dcF it (own.map (·.2)) t tt ek ev))) :=
  PS.imp (ps_setDcX hc hN hy hyl hsw hi ok (fun s H C cl fp => (hb s H C cl fp).1) (fun s H C cl fp => (hb s H C cl fp).2.1) (fun s H C cl fp => (hb s H C cl fp).2.2.1) (fun s H C cl fp => (hb s H C cl fp).2.2.2) hs) fun Z σ H h => by
    obtain ⟨A, env, rel, h⟩ := h
    exact dc_sound (W := W) ht ⟨A, env, rel, SPost.cut h fun r e1 A1 H1 s1 h1 v hv => asg_ok s1 hv h1⟩
end
end VL


set_option Elab.async false
set_option linter.all false
set_option maxRecDepth 100000
set_option maxHeartbeats 4000000
/-! EX23: list(x) of a text; len(d) of a dict. -/
namespace VLT
open PySem PySem.Spec PyProof.Rows
section
variable {prog : Program} {w : World} {A : Around} {E : Value → Shared → Prop} {s : Shared}
theorem extend_str {R : Result → Shared → Prop} (hh : A.handled = none) (x : PySem.Str) (t : Tok) (S : Addr) (res : Value) (c₀ : Nat) (hS : s.heap.get? S = some { cls := .type "list", data := .seq #[] c₀ })
    (hR : ∀ h' tk acc' c', (∀ b o, b ≠ S → s.heap.get? b = some o → h'.get? b = some o) → h'.get? S = some { cls := .type "list", dict := none, data := .seq acc' c', slots := #[] } →
      ItemsOf (SignAt x) acc' x.cps.size → R (.ok (.ret res)) { s with heap := h', toks := tk }) (hn : x.cps.size ≤ sizeLine) :
    wpAny (model prog w) A.in1 (Builtin.List.listExtendWith (.ref S) (.str x t) res)
      (fun fin s' => match fin with | .done f => R (.ok f) s' | .again c' => c'.quiet = true ∧ codeAny (model prog w) A c' R s') (fun e s' => R (.error e) s') s := by
  have hSI : S ≠ s.heap.objs.size := Nat.ne_of_lt (Heap.lt_size hS)
  have hSf : S ∉ [s.heap.objs.size] := fun hm => hSI (List.mem_singleton.mp hm)
  unfold Builtin.List.listExtendWith
  refine wpAny_bind (wpAny_typeOf (T := "str") (v := .str x t) rfl ?_)
  have h1 : Builtin.List.listSameRef (.ref S) (.str x t) = false := rfl
  have h2 : (Value.type "str" == Value.type "list") = false := by decide
  have h3 : (Value.type "str" == Value.type "tuple") = false := by decide
  simp only [h1, h2, h3, Bool.or_false, Bool.false_eq_true, if_false]
  refine wpAny_bind (wpAny_pyIter_str fun o St W hst => ?_)
  refine wpAny_bind (wpAny_holding ?_)
  unfold Builtin.List.listLengthHint
  refine wpAny_bind (wpAny_specialOf (T := "str") (v := .str x t) rfl PySem.F.str_len ?_)
  wp_delta
  refine wpAny_bind (wpAny_isInstance (T := "str") (v := .str x t) (b := true) rfl (by rw [isSubtype_type]; kernel_rfl) ?_)
  show wpAny _ A.in1 (typeOf (Value.str x t) >>= _) _ _ _
  refine wpAny_bind (wpAny_typeOf (T := "str") (v := .str x t) rfl ?_)
  refine wpAny_pure ?_
  rw [if_neg (by first | decide | decide +kernel)]
  refine wpAny_pure ⟨plainId_quiet PySem.F.plain_extend_loop _, codeAny_extend_loopS (W A.in1 hh).toS hn _ hSf _ x.cps.size 0 _ _ _ rfl (Nat.zero_le _) hst (Heap.get?_push_of_some _ hS) (ItemsOf.nil _) fun s' acc' c' hm hS' hacc => ?_⟩
  rw [Moved.eq_with hm]
  refine hR s'.heap s'.toks acc' c' (fun b ob hb e => hm.heap b ob (fun hmem => ?_) (Heap.get?_push_of_some _ e)) hS' hacc
  rcases List.mem_cons.mp hmem with e' | hmem
  · exact hb e'
  · exact absurd (Heap.lt_size e) (by rw [List.mem_singleton.mp hmem]; exact Nat.lt_irrefl _)
theorem list_init_str {R : Result → Shared → Prop} (hh : A.handled = none) (x : PySem.Str) (t : Tok) (S : Addr) (hS : s.heap.get? S = some { cls := .type "list", data := .seq #[] })
    (hR : ∀ h' tk acc' c', (∀ b o, b ≠ S → s.heap.get? b = some o → h'.get? b = some o) → h'.get? S = some { cls := .type "list", dict := none, data := .seq acc' c', slots := #[] } →
      ItemsOf (SignAt x) acc' x.cps.size → R (.ok (.ret .none)) { s with heap := h', toks := tk }) (hn : x.cps.size ≤ sizeLine) :
    wpAny (model prog w) A.in1 (Builtin.«list.__init__» ⟨[.ref S, .str x t], []⟩)
      (fun fin s' => match fin with | .done f => R (.ok f) s' | .again c' => c'.quiet = true ∧ codeAny (model prog w) A c' R s') (fun e s' => R (.error e) s') s := by
  show wpAny _ _ (do let old ← Builtin.List.listItems (.ref S); Builtin.List.listUpdate (.ref S) (fun _ => #[]); letGo old.toList.reverse; Builtin.List.listExtendWith (.ref S) (.str x t) .none) _ _ s
  refine wpAny_bind ?_
  unfold Builtin.List.listItems
  refine wpAny_bind (wpAny_seqItems hS rfl (wpAny_pure ?_))
  show wpAny _ _ (updateSeq S (fun _ => #[]) >>= fun _ => letGo (#[] : Array Value).toList.reverse >>= fun _ => Builtin.List.listExtendWith (.ref S) (.str x t) .none) _ _ s
  refine wpAny_bind (wpAny_updateSeq hS rfl ?_)
  have hS₂ := Heap.get?_update_self (Obj.mapSeq (fun _ => (#[] : Array Value))) hS rfl
  have oth : ∀ b o, b ≠ S → s.heap.get? b = some o → (s.heap.update S (Obj.mapSeq (fun _ => (#[] : Array Value)))).get? b = some o :=
    fun b o hb e => (Heap.get?_update_other _ _ (Ne.symm hb)).trans e
  refine wpAny_bind (wpAny_letGo ?_)
  refine extend_str hh x t S .none _ hS₂ (fun h' tk acc' c' hk hS' hacc => ?_) hn
  exact hR h' tk acc' c' (fun b o hb e => hk b o hb (oth b o hb e)) hS' hacc
theorem call_list_str {x : PySem.Str} {t : Tok} {Q : Value → Shared → Prop} (hh : A.handled = none) (hn : x.cps.size ≤ sizeLine)
    (hQ : ∀ h' tk acc' c', (∀ b o, s.heap.get? b = some o → h'.get? b = some o) →
      h'.get? s.heap.objs.size = some { cls := .type "list", dict := none, data := .seq acc' c', slots := #[] } → ItemsOf (SignAt x) acc' x.cps.size → Q (.ref s.heap.objs.size) { s with heap := h', toks := tk }) :
    wpAny (model prog w) A (call (.type "list") [.str x t]) Q E s := by
  refine callType_codes (Q₁ := fun obj s₁ => obj = .ref s.heap.objs.size ∧ s₁ = { s with heap := s.heap.push { cls := .type "list", data := .seq #[] } }) PySem.F.called_list (PySem.F.typeCall_list_1 _) PySem.F.entry_list_init
    (code_list_new _ ⟨rfl, rfl⟩) fun obj s₁ h₁ => ?_
  obtain ⟨rfl, rfl⟩ := h₁
  have hS : (s.heap.push { cls := .type "list", data := .seq #[] }).get? s.heap.objs.size = some { cls := .type "list", data := .seq #[] } := Heap.get?_push_size _ rfl
  refine ⟨⟨_, hS, rfl⟩, PySem.F.args_list_init_2 _ _, list_init_str (A := A.in1) hh x t _ hS (fun h' tk acc' c' hk hS' hacc => ?_) hn⟩
  exact ⟨rfl, hQ h' tk acc' c' (fun b o e => hk b o (Nat.ne_of_lt (Heap.lt_size e)) (Heap.get?_push_of_some _ e)) hS' hacc⟩
end
end VLT
namespace VL
open PySem PySem.Spec PyProof.Rows L2
/-- the signs of a text -/
def signsV (x : PySem.Str) : List V := x.cps.toList.map fun c => V.str ⟨#[c]⟩
def rLstS : RC := fun xs H Q => ∃ x, xs = [V.str x] ∧ x.cps.size ≤ sizeLine ∧ ∀ q, H q = none → Q (.ref q) (upd H q (.lst (signsV x)))
theorem call_listS {X : Cx} (hc : X.calm = true) : CallR X (.type "list") rLstS := by
  intro pins s σ H xs us Q I r h
  obtain ⟨x, e, hz, q⟩ := h
  subst e
  obtain ⟨u, eu, rx⟩ := vals1 r
  subst eu
  obtain ⟨t, rfl⟩ := rx
  refine VLT.call_list_str (I.ok.hd hc) hz fun h' tk acc c' hk e hi => ?_
  refine ⟨.ref s.heap.objs.size, upd H s.heap.objs.size (.lst (signsV x)), I.laid hk (Nat.le_refl _) ⟨by unfold signsV; rw [List.length_map, Array.length_toList]; exact hz, acc.toList, c', ?_, by rw [Array.toArray_toList]; exact e⟩, rfl, q _ (I.hok.fresh (Nat.le_refl _))⟩
  refine vals_of_idx _ _ (by unfold signsV; rw [List.length_map, Array.length_toList, Array.length_toList]; exact hi.1) fun j u hj => ?_
  obtain ⟨c, t', hc, rfl⟩ := hi.2 j u (by rw [← Array.getElem?_toList]; exact hj)
  refine ⟨.str ⟨#[c]⟩, ?_, ⟨_, rfl⟩⟩
  unfold signsV
  rw [List.getElem?_map, Array.getElem?_toList, hc]; rfl
variable [TbP]
def listSC : GC
  | [.str x] => if x.cps.size ≤ LIM then some (.tm (.list (signsD x))) else none
  | ds => listC ds
theorem rpl_signs {K : Frag} {A : AS} {H : Hp} (x : PySem.Str) : RpL K A H (signsD x) (signsV x) := by
  unfold signsD signsV
  generalize x.cps.toList = l
  induction l with
  | nil => exact .nil
  | cons c l ih => exact .cons (rp_str (K := K) (A := A) (H := H)) ih
theorem call_listOr {X : Cx} (hc : X.calm = true) : CallR X (.type "list") (fun xs H Q => rLstS xs H Q ∨ ∃ p ys, xs = [V.ref p] ∧ (SqL X.K H p ys ∨ SqT X.K H p ys) ∧ ∀ l, H l = none → Q (.ref l) (upd H l (.lst ys))) := by
  intro pins s σ H xs us Q I r h
  rcases h with h | h
  · exact call_listS hc pins s σ H xs us Q I r h
  · exact call_list_of pins s σ H xs us Q I r h
theorem listS_A {K : Frag} : CbA K (fun xs H Q => rLstS xs H Q ∨ ∃ p ys, xs = [V.ref p] ∧ (SqL K H p ys ∨ SqT K H p ys) ∧ ∀ l, H l = none → Q (.ref l) (upd H l (.lst ys))) listSC := by
  intro A H ds vs z Q hd e hx q
  by_cases c : ∃ x, ds = [.str x]
  · obtain ⟨x, rfl⟩ := c
    obtain ⟨v, rfl, h⟩ := hx.one
    dsimp only [listSC] at e
    by_cases hz : x.cps.size ≤ LIM
    · rw [if_pos hz] at e
      cases e
      refine .inl ⟨x, by rw [h.str], by rw [lim_eq]; exact hz, fun p n => q _ _ (same_upd n) (rz_lst n (rpl_signs x))⟩
    · rw [if_neg hz] at e; cases e
  · have e2 : listC ds = some z := by
      have : listSC ds = listC ds := by
        unfold listSC
        split
        · exact absurd ⟨_, rfl⟩ c
        · rfl
      rw [← this]; exact e
    exact .inr (list_A A H ds vs z Q hd e2 hx q)
theorem b_listS {X : Cx} (hc : X.calm = true) : BI X "list" listSC := ⟨⟨_, _, call_listOr hc, listS_A, boot_list', .inr ⟨_, rfl⟩⟩, by decide, by decide⟩
/-! ### len(d) -/
theorem call_lenDR {X : Cx} : CallR X (.builtin "len") (fun xs H Q => ∃ (a : Addr) (kvs : List (Key × V)), xs = [V.ref a] ∧ Rd H a (.dK kvs) ∧ Q (.int kvs.length) H) := by
  intro pins s σ H xs us Q I r h
  obtain ⟨a, kvs, rfl, ha, q⟩ := h
  obtain ⟨u, rfl, ru⟩ := vals1 r
  cases ru
  exact d_len I ha fun t s' I' => ⟨.int kvs.length, H, I', ⟨t, rfl⟩, q⟩
def lenDC : GC
  | [.dict kvs] => if kDict kvs = true then some (.sh (.int kvs.length)) else none
  | _ => none
theorem lenD_A {K : Frag} : CbA K (fun xs H Q => ∃ (a : Addr) (kvs : List (Key × V)), xs = [V.ref a] ∧ Rd H a (.dK kvs) ∧ Q (.int kvs.length) H) lenDC := by
  intro A H ds vs z Q hd e hx q
  match ds, e with
  | [.dict l], e =>
    obtain ⟨v, rfl, h⟩ := hx.one
    dsimp only [lenDC] at e
    by_cases c : kDict l = true
    · rw [if_pos c] at e
      cases e
      obtain ⟨a, rfl, ⟨ks, rd, rk⟩ | ⟨ks, rd, rk⟩⟩ := h.dct
      · refine ⟨a, ks, rfl, rd, ?_⟩
        have e2 : l.length = ks.length := rk.length
        rw [← e2]
        exact q _ _ (Same.refl H) rz_int
      · exact (kd_not_t c rk).elim
    · rw [if_neg c] at e; cases e
theorem b_lenD {X : Cx} : BI X "len" lenDC := ⟨⟨_, _, call_lenDR, lenD_A, boot_len', .inl ⟨_, rfl⟩⟩, by decide, by decide⟩
end VL


set_option Elab.async false
set_option linter.all false
set_option maxRecDepth 100000
set_option maxHeartbeats 2000000
namespace HDK
open PySem PySem.W PySem.Calls PyProof.Rows
def dictObj : Obj := { cls := .type "dict", data := .dict #[] }
def subO (prog : Program) (w : World) (ps : List (List Str × List Str)) (x : SharedT) : Option SharedT := match pushO dictObj x with
  | some x0 => pairsO prog w x.n ps x0
  | none => none
section
variable {prog : Program} {w : World} {A : Around} {E : Value → Shared → Prop} {env : Env}
theorem pushO_n {o : Obj} {x y : SharedT} (h : pushO o x = some y) : y.n = x.n + 1 := by
  unfold pushO at h
  cases g : ((x.tree.ins x.n o).get x.n).isSome with
  | false => rw [g] at h; cases h
  | true => rw [g] at h; cases h; rfl
theorem new_dict {x y : SharedT} (h : pushO dictObj x = some y) : y.abs.heap.DictOfH (kd prog w) x.n [] := by
  have e := pushO_ok h
  rw [e]
  refine ⟨dictObj, #[], 0, ?_, ⟨rfl, rfl, rfl⟩, rfl, rfl, fun _ h => by simp at h, by simp⟩
  show (x.abs.heap.push dictObj).get? x.n = some dictObj
  have z : x.abs.heap.objs.size = x.n := size_abs _
  rw [← z]
  exact Heap.get?_push_size _ rfl
theorem sub_long {pos : Pos} {es : List (Expr × Expr)} {ps : List (List Str × List Str)} {x y : SharedT} {Q : Addr → Shared → Prop} (hu : A.units < cLine) (ip : ArePairs es ps) (hl : 15 < es.length) (hn : (ps.map (·.1)).Nodup) (hz : ps.length ≤ 1000)
    (h : subO prog w ps x = some y) (hQ : ∀ xs', xs'.map (·.1) = ps.map (·.1) → y.abs.heap.DictOfH (kd prog w) x.n xs' → Q x.n y.abs) :
    wpAny (model prog w) A (subDict (es.map (semP env pos))) Q E x.abs := by
  unfold subO at h
  cases q : pushO dictObj x with
  | none => rw [q] at h; cases h
  | some x0 =>
    rw [q] at h
    dsimp only at h
    have e := pushO_ok q
    unfold subDict
    refine wpAny_bind (wpAny_alloc ?_)
    rw [size_abs]
    refine wpAny_bind (wpAny_holding ?_)
    rw [if_neg (by rw [List.length_map]; omega)]
    refine wpAny_bind (wpAny_rule ?_)
    show wpAny (model prog w) A _ _ _ { x.abs with heap := x.abs.heap.push dictObj }
    rw [← e]
    exact wpAny_bind (pairs_wp (env := env) (pos := pos) hu ip (new_dict q) (by simpa using hn) (by simpa using hz) h fun xs' e1 z => wpAny_pure (wpAny_pure (hQ xs' (by simpa using e1) z)))
theorem set_wp {d : Addr} {xs : List (List Str × Addr × Value)} {ks vs : List Str} {x x1 x2 y : SharedT} {Q : Unit → Shared → Prop} (hu : A.units < cLine) (q1 : tupE ks x = some x1) (q2 : tupE vs x1 = some x2) (h : entO ((kd prog w).hash ks) d x.n (.ref x1.n) (tokO (ks.length + 1) x2) = some y)
    (hm : x.abs.heap.DictOfH (kd prog w) d xs) (hn : ks ∉ xs.map (·.1)) (hz : xs.length ≤ 1000) (hQ : y.abs.heap.DictOfH (kd prog w) d (xs ++ [(ks, x.n, .ref x1.n)]) → Q () y.abs) : wpAny (model prog w) A (dictSet d (.ref x.n) (.ref x1.n)) Q E x2.abs := by
  have g2 := tupE_grows q2
  have hkey : (kd prog w).is x2.abs.heap ks x.n := isT_grows g2 (tupE_is q1)
  have hm2 := dict_grows g2 (dict_grows (tupE_grows q1) hm)
  unfold dictSet
  refine wpAny_holding ?_
  refine wpAny_bind ((kd prog w).pyHash hu hkey ?_)
  unfold dictSetHashed
  refine wpAny_holding ?_
  refine wpAny_bind (find_none (s := { x2.abs with toks := x2.abs.toks + (kd prog w).draws ks }) hu hkey hm2 hn ?_)
  refine wpAny_bind (wpAny_rule ?_)
  show wpAny (model prog w) A _ _ _ (tokO (ks.length + 1) x2).abs
  exact ent_wp (x := tokO (ks.length + 1) x2) hkey hm2 hn hz h fun z _ => hQ z
theorem sub_one {pos : Pos} {e : Expr × Expr} {p : List Str × List Str} {x y : SharedT} {Q : Addr → Shared → Prop} (hu : A.units < cLine) (ip : IsPair e p)
    (h : subO prog w [p] x = some y) (hQ : y.abs.heap.DictOfH (kd prog w) x.n [(p.1, x.n + 1, .ref (x.n + 1 + 1))] → Q x.n y.abs) :
    wpAny (model prog w) A (subDict [semP env pos e]) Q E x.abs := by
  unfold subO at h
  cases q : pushO dictObj x with
  | none => rw [q] at h; cases h
  | some x0 =>
    rw [q] at h
    dsimp only at h
    have e0 := pushO_ok q
    unfold pairsO at h
    cases q2 : pairO prog w x.n p x0 with
    | none => rw [q2] at h; cases h
    | some x1 =>
      rw [q2] at h
      cases h
      obtain ⟨h1, h2, l1, l2⟩ := ip
      rename_i es fs ks vs k1 k2 p1 p2
      unfold pairO at q2
      dsimp only at q2
      cases q3 : tupE ks x0 with
      | none => rw [q3] at q2; cases q2
      | some y1 =>
        rw [q3] at q2
        dsimp only at q2
        cases q4 : tupE vs y1 with
        | none => rw [q4] at q2; cases q2
        | some y2 =>
          rw [q4] at q2
          unfold subDict
          refine wpAny_bind (wpAny_alloc ?_)
          rw [size_abs]
          refine wpAny_bind (wpAny_holding ?_)
          rw [if_pos (show [semP env pos (Expr.Tuple es k1 p1, Expr.Tuple fs k2 p2)].length ≤ 15 from Nat.le_of_ble_eq_true rfl)]
          show wpAny (model prog w) A _ _ _ { x.abs with heap := x.abs.heap.push dictObj }
          rw [← e0]
          refine wpAny_bind ?_
          unfold evalPairs
          refine wpAny_bind (tup_wp (k := k1) h1 l1 q3 (wpAny_bind (wpAny_holding (wpAny_bind (tup_wp (k := k2) h2 l2 q4 (wpAny_bind (wpAny_standAt (wpAny_pure ?_))))))))
          unfold evalPairs
          refine wpAny_bind (wpAny_holding (wpAny_pure (wpAny_pure ?_)))
          refine wpAny_holding ?_
          rw [List.forIn_cons]
          refine wpAny_bind (wpAny_bind (wpAny_bind (set_wp hu q3 q4 q2 (new_dict q) (by simp) (by simp) fun z => wpAny_pure ?_)))
          dsimp only
          rw [List.forIn_nil]
          have n1 := pushO_n q
          have n2 : y1.n = x0.n + 1 := pushO_n (x := tokO ks.length x0) (o := tupO (strsFrom x0.toks ks)) q3
          rw [n2, n1] at z
          exact wpAny_pure (wpAny_pure (wpAny_pure (hQ (by simpa using z))))
/-- the second part's pair is put to the first -/
theorem merge_wp {d b a : Addr} {v : Value} {xs : List (List Str × Addr × Value)} {ks : List Str} {x y : SharedT} {Q : Unit → Shared → Prop} (hu : A.units < cLine) (hb : (b == sysModules) = false) (hdb : d ≠ b) (hm : x.abs.heap.DictOfH (kd prog w) d xs) (hx : xs ≠ []) (hs : x.abs.heap.DictOfH (kd prog w) b [(ks, a, v)]) (hn : ks ∉ xs.map (·.1)) (hz : xs.length ≤ 1000)
    (h : entO ((kd prog w).hash ks) d a v x = some y) (hQ : y.abs.heap.DictOfH (kd prog w) d (xs ++ [(ks, a, v)]) → Q () y.abs) : wpAny (model prog w) A (mergeMapping d (.ref b) false) Q E x.abs := by
  obtain ⟨ob, eb, epb, hob, hcb, hdb', heb, hib, _⟩ := hs
  obtain ⟨od, ed, epd, hod, hcd, hdd, hed, hid, hnd⟩ := id hm
  have ty : x.abs.TypeIs (.ref b) "dict" := ⟨ob, hob, hcb.1⟩
  have e1 : eb = #[⟨(kd prog w).hash ks, .ref a, v⟩] := by
    have : eb.toList = [⟨(kd prog w).hash ks, .ref a, v⟩] := by rw [heb]; rfl
    exact Array.toList_inj.mp this
  subst e1
  have hkey : (kd prog w).is x.abs.heap ks a := hib (ks, a, v) (by simp)
  have hemp : ed.isEmpty = false := by
    have hl : ed.size = xs.length := size_of_entries hed
    cases xs with
    | nil => exact absurd rfl hx
    | cons _ _ =>
      simp only [Array.isEmpty, hl, List.length_cons]
      exact decide_eq_false (by omega)
  unfold mergeMapping
  refine wpAny_bind (wpAny_isInstance ty F.sub_dict_dict ?_)
  rw [if_pos rfl]
  refine wpAny_bind (wpAny_specialOf ty F.slot_dict_iter.lookup ?_)
  refine wpAny_bind (wpAny_pure ?_)
  simp only [beq_self_eq_true]
  rw [if_neg (by rw [hb]; exact Bool.false_ne_true)]
  refine wpAny_bind (wpAny_dictEntries hod hdd ?_)
  rw [if_neg (by rw [hemp]; exact Bool.false_ne_true)]
  refine wpAny_bind (wpAny_dictEntries hob hdb' ?_)
  refine wpAny_bind (wpAny_dictEpoch hob hdb' ?_)
  have e2 : List.range (#[(⟨(kd prog w).hash ks, .ref a, v⟩ : DictEntry)]).size = [0] := rfl
  rw [e2, List.forIn_cons]
  refine wpAny_bind (wpAny_bind (wpAny_bind (wpAny_dictEntries hob hdb' ?_)))
  have e3 : (#[(⟨(kd prog w).hash ks, .ref a, v⟩ : DictEntry)])[0]? = some ⟨(kd prog w).hash ks, .ref a, v⟩ := rfl
  rw [e3]
  dsimp only
  refine wpAny_bind (wpAny_holding ?_)
  rw [if_neg Bool.false_ne_true]
  unfold dictPut
  refine wpAny_bind (find_none hu hkey hm hn ?_)
  refine ent_wp hkey hm hn hz h fun z sb => ?_
  have hob' : y.abs.heap.get? b = some ob := by
    rw [setO_ok h]
    exact (Heap.get?_update_ne _ _ _ _ (Ne.symm hdb)).trans hob
  refine wpAny_bind (wpAny_dictEpoch hob' hdb' ?_)
  rw [if_neg (by simp)]
  refine wpAny_pure ?_
  dsimp only
  rw [List.forIn_nil]
  exact wpAny_pure (wpAny_pure (hQ z))
/-- the display of eighteen pairs -/
def dispO (prog : Program) (w : World) (ps : List (List Str × List Str)) (p : List Str × List Str) (x : SharedT) : Option SharedT := match subO prog w ps x with
  | some x1 => (match (x1.n == sysModules) || !Nat.blt x.n x1.n with
    | true => none
    | false => (match subO prog w [p] x1 with
      | some x2 => entO ((kd prog w).hash p.1) x.n (x1.n + 1) (.ref (x1.n + 1 + 1)) x2
      | none => none))
  | none => none
def optP (env : Env) (pos : Pos) (p : Expr × Expr) : Option (Sem Value) × Sem Value := (some (semP env pos p).1, (semP env pos p).2)
theorem gather_rest (f : (Option (Sem Value) × Sem Value) → (Option Addr × List (Sem Value × Sem Value)) → Sem (ForInStep (Option Addr × List (Sem Value × Sem Value))))
    (hf : ∀ (p : Sem Value × Sem Value) (run : List (Sem Value × Sem Value)), run.length + 1 < 17 → f (some p.1, p.2) (none, run) = pure (.yield (none, run ++ [p]))) (rest : List (Option (Sem Value) × Sem Value)) :
    ∀ (items run : List (Sem Value × Sem Value)), run.length + items.length < 17 → forIn ((items.map fun p => (some p.1, p.2)) ++ rest) ((none : Option Addr), run) f = forIn rest ((none : Option Addr), run ++ items) f
  | [], run, _ => by simp
  | p :: items, run, h => by
    rw [List.map_cons, List.cons_append, List.forIn_cons, hf p run (by simp at h; omega), pure_bind]
    have := gather_rest f hf rest items (run ++ [p]) (by simp at h ⊢; omega)
    simpa using this
theorem disp_eq (l : List (Sem Value × Sem Value)) (p q : Sem Value × Sem Value) (hl : l.length = 16) : dictDisplay ((l.map fun p => (some p.1, p.2)) ++ [(some p.1, p.2), (some q.1, q.2)]) =
    (do
      let d ← subDict (l ++ [p])
      let sub ← holding [.ref d] (subDict [q])
      (holding [.ref d, .ref sub] (mergeMapping d (.ref sub) false)).onRaise fun x => do let _ ← holding [.ref d, x] (runValue (.builtin "proto.let_go" {}))
      pure (.ref d)) := by
  unfold dictDisplay
  dsimp only
  rw [gather_rest _ (fun p run h => by
    have hne : ((run ++ [(p.1, p.2)]).length == 17) = false := by simp; omega
    simp only [hne, Bool.false_eq_true, if_false]) _ l [] (by simp [hl])]
  have h17 : ((l ++ [(p.1, p.2)]).length == 17) = true := by simp [hl]
  have hne : (l ++ [(p.1, p.2)]).isEmpty = false := by simp
  rw [List.forIn_cons]
  dsimp only
  simp only [List.nil_append, h17, hne, if_true, Bool.false_eq_true, if_false, bind_assoc, pure_bind, List.forIn_cons, List.forIn_nil]
  simp only [List.length_singleton, List.isEmpty_cons, show ((1 : Nat) == 17) = false from rfl, Bool.false_eq_true, if_false, pure_bind, bind_assoc]
  trace_state
theorem dict_same {h h' : Heap} {b d : Addr} {xs : List (List Str × Addr × Value)} {o : Obj} {es : Array DictEntry} {ep : Nat} (hd : d ≠ b) (ho : h.get? b = some o) (hdat : o.data = .dict es ep) (sb : Heap.SameBut b h h') (k : ∀ u, h.get? d = some u → h'.get? d = some u) (x : h.DictOfH (kd prog w) d xs) : h'.DictOfH (kd prog w) d xs := by
  obtain ⟨o', es', ep', h1, h2, h3, h4, h5, h6⟩ := x
  exact ⟨o', es', ep', k _ h1, h2, h3, h4, fun y hy => (kd prog w).keeps (h5 y hy) ho hdat sb, h6⟩
theorem subO_keeps {p : List Str × List Str} {d : Addr} {xs : List (List Str × Addr × Value)} {x y : SharedT} (h : subO prog w [p] x = some y) (hm : x.abs.heap.DictOfH (kd prog w) d xs) (hd : d ≠ x.n) : y.abs.heap.DictOfH (kd prog w) d xs := by
  unfold subO at h
  cases q : pushO dictObj x with
  | none => rw [q] at h; cases h
  | some x0 =>
    rw [q] at h
    dsimp only at h
    have e0 := pushO_ok q
    have nd := new_dict (prog := prog) (w := w) q
    have g0 : grows x.abs.heap x0.abs.heap := by rw [e0]; exact push_grows
    unfold pairsO at h
    cases q2 : pairO prog w x.n p x0 with
    | none => rw [q2] at h; cases h
    | some x1 =>
      rw [q2] at h
      cases h
      unfold pairO at q2
      cases q3 : tupE p.1 x0 with
      | none => rw [q3] at q2; cases q2
      | some y1 =>
        rw [q3] at q2
        dsimp only at q2
        cases q4 : tupE p.2 y1 with
        | none => rw [q4] at q2; cases q2
        | some y2 =>
          rw [q4] at q2
          dsimp only at q2
          have g1 := tupE_grows q3
          have g2 := tupE_grows q4
          obtain ⟨o, es, ep, ho, _, hdat, _⟩ := dict_grows g2 (dict_grows g1 nd)
          have hm2 := dict_grows g2 (dict_grows g1 (dict_grows g0 hm))
          have e := setO_ok q2
          rw [e]
          exact dict_same hd ho hdat (Heap.SameBut.update ..) (fun u hu => (Heap.get?_update_ne _ _ _ _ hd).trans hu) hm2
theorem disp_wp {keys : List (Option Expr)} {values : List Expr} {pos : Pos} {es : List (Expr × Expr)} {e17 e18 : Expr × Expr} {ps : List (List Str × List Str)} {p : List Str × List Str} {x y : SharedT} {Q : Value → Shared → Prop} (hu : A.units < cLine)
    (hshape : (evalEachOpt keys env).zip ((evalEach values env).map fun v => do let x ← v; standAt pos; pure x) = ((es.map (semP env pos)).map fun p => (some p.1, p.2)) ++ [(some (semP env pos e17).1, (semP env pos e17).2), (some (semP env pos e18).1, (semP env pos e18).2)])
    (hl : es.length = 16) (ip : ArePairs (es ++ [e17]) ps) (i18 : IsPair e18 p) (hn : (ps.map (·.1)).Nodup) (hn2 : p.1 ∉ ps.map (·.1)) (hz : ps.length ≤ 900) (hne : ps ≠ [])
    (h : dispO prog w ps p x = some y) (hQ : ∀ xs', xs'.map (·.1) = ps.map (·.1) ++ [p.1] → y.abs.heap.DictOfH (kd prog w) x.n xs' → Q (.ref x.n) y.abs) : wpAny (model prog w) A (eval (.Dict keys values pos) env) Q E x.abs := by
  unfold dispO at h
  cases q1 : subO prog w ps x with
  | none => rw [q1] at h; cases h
  | some x1 =>
    rw [q1] at h
    dsimp only at h
    cases c : (x1.n == sysModules) || !Nat.blt x.n x1.n with
    | true => rw [c] at h; cases h
    | false =>
      rw [c] at h
      dsimp only at h
      rw [Bool.or_eq_false_iff] at c
      obtain ⟨c1, c2⟩ := c
      have c3 : x.n < x1.n := by
        have : Nat.blt x.n x1.n = true := by simpa using c2
        exact Nat.le_of_ble_eq_true this
      cases q2 : subO prog w [p] x1 with
      | none => rw [q2] at h; cases h
      | some x2 =>
        rw [q2] at h
        dsimp only at h
        rw [arm_eval_Dict, hshape, disp_eq _ _ _ (by simp [hl])]
        refine wpAny_bind (wpAny_standAt ?_)
        have e1 : List.map (semP env pos) es ++ [semP env pos e17] = (es ++ [e17]).map (semP env pos) := by simp
        rw [e1]
        refine wpAny_bind (sub_long hu ip (by simp [hl]) hn (by omega) q1 fun xs e2 hm => ?_)
        have hm2 := subO_keeps q2 hm (Nat.ne_of_lt c3)
        refine wpAny_bind (wpAny_holding (sub_one hu i18 q2 fun hs => ?_))
        have lx : xs.length = ps.length := by simpa using congrArg List.length e2
        refine wpAny_bind (wpAny_onRaise (wpAny_holding (merge_wp hu c1 (Nat.ne_of_lt c3) hm2 (fun z => ?_) hs (by rw [e2]; exact hn2) (by omega) h fun z => wpAny_pure (hQ _ (by simp [e2]) z))))
        subst z
        cases ps with
        | nil => exact hne rfl
        | cons _ _ => simp at lx
end
end HDK


set_option Elab.async false
set_option linter.all false
set_option maxRecDepth 100000
set_option maxHeartbeats 2000000
/-! HD3: from what wp tells exactly to the machine's steps, whatever stands behind. -/
namespace HDK
open PySem PySem.W PySem.Calls PyProof.Rows
/-- n calm steps of one thread -/
def Steps (p : Program) (w : World) (n : Nat) (s : Shared) (t : Thread) (s' : Shared) (t' : Thread) : Prop :=
  runN (denote table) p w n s t = .running s' t' ∧ ∀ k, k < n → ∀ s₁ t₁, runN (denote table) p w k s t = .running s₁ t₁ → t₁.calm = true
section
variable {p : Program} {w : World}
theorem steps_sched : ∀ {n : Nat} {s s' : Shared} {t t' : Thread}, s.asleep → Steps p w n s t s' t' → schedN (denote table) p w n (.single s t) = .running (.single s' t') ∧ s'.heap.life = s.heap.life
  | 0, s, s', t, t', _, h => by
    have e : Run.running s t = .running s' t' := h.1
    cases e
    exact ⟨rfl, rfl⟩
  | n + 1, s, s', t, t', hr, ⟨h, hc⟩ => by
    have hc0 : t.calm = true := hc 0 (Nat.succ_pos n) s t rfl
    simp only [runN] at h
    cases hs : step (denote table) p w s t with
    | halt o s₁ => rw [hs] at h; cases h
    | go s₁ t₁ =>
      rw [hs] at h
      have hl := step_life (denote table) p w s s₁ t t₁ hs
      have e : sstep (denote table) p w (.single s t) = .go (.single s₁ t₁) := by
        rcases sstep_single (denote table) p w s t hc0 hr with e | e
        · rw [e, hs]; rfl
        · rw [hs] at e; cases e
      obtain ⟨h1, h2⟩ := steps_sched (Shared.asleep_of_life hl hr) (show Steps p w n s₁ t₁ s' t' from ⟨h, fun k hk s₂ t₂ h₂ => hc (k + 1) (Nat.succ_lt_succ hk) s₂ t₂ (by simp only [runN, hs]; exact h₂)⟩)
      exact ⟨by simp only [schedN, e]; exact h1, h2.trans hl⟩
variable {α : Type} {K K' : α → Sem Fin} {H H' : Value → Sem Fin} {gd : Bool → Bool} {lv : List Value → List Value} {B : List Frame} {res : α → Flow}
theorem calm_inner (hB : splitAtGen B = none) {cur : Sem Fin} {code : Code} {pos : Pos} {a b : List Frame} (F : Frames2 K K' H H' gd lv B a b) (h : Thread.calm ⟨cur, code, pos, a⟩ = true) : Thread.calm ⟨cur, code, pos, b⟩ = true := by
  have e : Thread.calm ⟨cur, code, pos, b⟩ = Thread.calm ⟨cur, code, pos, a⟩ := by
    rcases F.split hB with ⟨u, v⟩ | ⟨fs, n, k, k', c, q, ra, rb, u, v, _⟩ <;> (cases cur <;> first | rfl | simp only [Thread.calm, Thread.yieldsInsideHandler, Thread.atCollectorCode, Thread.atExit, u, v])
  rw [e]; exact h
theorem calm_outer {x : Sem α} {code : Code} {pos : Pos} (hp : ∀ a, x ≠ .pure a) (hr : ∀ e, x ≠ .raise e) (h : Thread.calm ⟨x.wrap K deadEnd gd lv, code, pos, B⟩ = true) : Thread.calm ⟨x.wrap K' H' gd lv, code, pos, B⟩ = true := by
  cases x with
  | pure a => exact absurd rfl (hp a)
  | raise e => exact absurd rfl (hr e)
  | _ => exact h
abbrev Good (B : List Frame) (th : Thread) : Prop := ¬ (th.stack.length = B.length ∧ ∃ a, th.cur = .pure a)
theorem sim (hB : splitAtGen B = none) : ∀ (n : Nat) (s : Shared) (t t' : Thread) (σ : Shared) (τ : Thread), Rel2 (fun a => .pure (.done (res a))) K' deadEnd H' gd lv B t t' → runN (denote table) p w n s t = .running σ τ →
    (∀ k, k < n → ∀ s₁ t₁, runN (denote table) p w k s t = .running s₁ t₁ → t₁.calm = true ∧ Good B t₁) → ∃ τ', Steps p w n s t' σ τ' ∧ Rel2 (fun a => .pure (.done (res a))) K' deadEnd H' gd lv B τ τ'
  | 0, s, t, t', σ, τ, R, h, _ => by
    have e : Run.running s t = .running σ τ := h
    cases e
    exact ⟨t', ⟨rfl, fun k hk => absurd hk (Nat.not_lt_zero k)⟩, R⟩
  | n + 1, s, ⟨cur, code, pos, st⟩, ⟨cur', code', pos', st'⟩, σ, τ, R, h, hc => by
    obtain ⟨e1, e2, R⟩ := R
    dsimp only at e1 e2 R
    subst e1 e2
    obtain ⟨c0, g0⟩ := hc 0 (Nat.succ_pos n) _ _ rfl
    simp only [runN] at h
    cases hs : step (denote table) p w s ⟨cur, code, pos, st⟩ with
    | halt o s₂ => rw [hs] at h; cases h
    | go s₂ t₂ =>
      rw [hs] at h
      have key : Thread.calm ⟨cur', code, pos, st'⟩ = true ∧ ∃ t₂', step (denote table) p w s ⟨cur', code, pos, st'⟩ = .go s₂ t₂' ∧ Rel2 (fun a => .pure (.done (res a))) K' deadEnd H' gd lv B t₂ t₂' := by
        rcases R with ⟨rfl, rfl, x, rfl, rfl⟩ | ⟨rfl, F⟩
        · have hp : ∀ a, x ≠ .pure a := by
            rintro a rfl
            exact g0 ⟨rfl, _, rfl⟩
          have hr : ∀ e, x ≠ .raise e := by
            rintro e rfl
            obtain ⟨heap, gens, drawn, toks, os⟩ := s
            simp only [Sem.wrap, step] at hs
            cases hs
          exact ⟨calm_outer hp hr c0, step_outer hB hp hs⟩
        · exact ⟨calm_inner hB F c0, step_inner hB F hs⟩
      obtain ⟨k1, t₂', k2, R'⟩ := key
      obtain ⟨τ', ⟨h1, h2⟩, R2⟩ := sim hB n s₂ t₂ t₂' σ τ R' h fun k hk s₁ t₁ h₁ => hc (k + 1) (Nat.succ_lt_succ hk) s₁ t₁ (by simp only [runN, hs]; exact h₁)
      refine ⟨τ', ⟨by simp only [runN, k2]; exact h1, fun k hk s₁ t₁ h₁ => ?_⟩, R2⟩
      cases k with
      | zero =>
        have e : Run.running s ⟨cur', code, pos, st'⟩ = .running s₁ t₁ := h₁
        cases e
        exact k1
      | succ k =>
        simp only [runN, k2] at h₁
        exact h2 k (Nat.lt_of_succ_lt_succ hk) s₁ t₁ h₁
end
theorem wp_wrap {α : Type} {M : Model} {Γ : Ctx} {K : α → Sem Fin} {H : Value → Sem Fin} {gd : Bool → Bool} {lv : List Value → List Value} {Q : Fin → Pos → Shared → Prop} {E : Value → Pos → Shared → Prop} (x : Sem α) : ∀ (p : Pos) (s : Shared),
    Sem.wp M Γ x (fun a p s => Sem.wp M Γ (K a) Q E p s) (fun _ _ _ => False) p s → Sem.wp M Γ (x.wrap K H gd lv) Q E p s := by
  induction x with
  | pure a => intro p s h; exact h
  | raise e => intro p s h; exact h.elim
  | unsupported _ => intro p s h; exact h.elim
  | finish _ => intro p s h; exact h.elim
  | rule tag k ih => intro p s h; exact ih () p s h
  | «at» p' k ih => intro p s h; exact ih () p' s h
  | load a q k ih =>
    intro p s h
    obtain ⟨o, e, h⟩ := h
    exact ⟨o, e, ih o p s h⟩
  | update a q f k ih =>
    intro p s h
    exact ⟨h.1, ih () p _ h.2⟩
  | loadIfAlive a k ih => intro p s h; exact ih _ p s h
  | point l k ih => intro p s h; exact ih () p s h
  | register a k ih => intro p s h; exact h.elim
  | alloc o k ih => intro p s h; exact ih _ p _ h
  | fresh k ih => intro p s h; exact ih _ p _ h
  | ask k ih => intro p s h; exact ih _ p s h
  | choose src n k ih => intro p s h; exact ⟨h.1, ih _ p _ h.2⟩
  | os q l k ih => intro p s h; exact ih _ p _ h
  | call c hd g l k ih =>
    intro p s h
    exact wpCode_mono (fun r s' h' => ih r p s' h') h
  | handled own k ih => intro p s h; exact ih _ p s h
  | genState g k ih =>
    intro p s h
    obtain ⟨st, e, h⟩ := h
    exact ⟨st, e, ih _ p s h⟩
  | newGen c k ih => intro p s h; exact ih _ p _ h
  | resume g r l k ih =>
    intro p s h
    obtain ⟨res, s', e, h⟩ := h
    exact ⟨res, s', e, ih _ p s' h⟩
  | «yield» v g l k ih => intro p s h; exact h.elim
  | stack k ih => intro p s h; exact ih _ p s h
  | fork c k ih => intro p s h; exact h.elim
  | thread k ih => intro p s h; exact ih _ p s h
  | await a f d l k ih => intro p s h; exact h.elim
theorem ni_calm {den : Code → Sem Fin} {p : Program} {w : World} : ∀ {k : Nat} {s s₂ : Shared} {t t₂ : Thread}, runNI den p w k s t = .running s₂ t₂ → (∃ s₃ t₃, runNI den p w (k + 1) s t = .running s₃ t₃) → t₂.calm = true
  | 0, s, s₂, t, t₂, h, ⟨s₃, t₃, h3⟩ => by
    have e : Run.running s t = .running s₂ t₂ := h
    cases e
    simp only [runNI] at h3
    rw [Thread.calm_eq]
    cases hl : t.loud with
    | true => rw [stepI_loud den p w hl] at h3; cases h3
    | false =>
      rw [stepI_quiet den p w hl] at h3
      cases hf : t.refused with
      | true =>
        obtain ⟨what, e⟩ := stepK_refused den p w (s := s) hf
        rw [e] at h3; cases h3
      | false => rfl
  | k + 1, s, s₂, t, t₂, h, ⟨s₃, t₃, h3⟩ => by
    simp only [runNI] at h
    cases hs : stepI den p w s t with
    | halt o s₁ => rw [hs] at h; cases h
    | go s₁ t₁ =>
      rw [hs] at h
      refine ni_calm (k := k) h ⟨s₃, t₃, ?_⟩
      simp only [runNI, hs] at h3
      simpa only [runNI] using h3
/-- an exact telling, run by the machine ahead of whatever goes on -/
theorem mid {p : Program} {w : World} {x : Sem Value} {K' : Value → Sem Fin} {H' : Value → Sem Fin} {B : List Frame} (hB : splitAtGen B = none) {c : Code} {pos : Pos} {s s' : Shared} {v0 : Value} {A : Around} (hA : (Ctx.of c B).In A)
    (h : wpAny (model p w) A x (fun v s'' => v = v0 ∧ s'' = s') (fun _ _ => False) s) (hg : s'.gens = #[]) : ∃ n pos', Steps p w n s ⟨x.wrap K' H' id id, c, pos, B⟩ s' ⟨K' v0, c, pos', B⟩ := by
  have h1 : Sem.wp (model p w) (Ctx.of c B) (x.wrap (fun a => .pure (.done (.ret a))) deadEnd id id) (fun f _ s'' => f = .done (.ret v0) ∧ s'' = s') (fun _ _ _ => False) pos s := by
    refine wp_wrap x pos s (Sem.wp_mono _ _ _ (fun a p' s'' q => ?_) (fun _ _ _ q => q) _ _ (h _ pos hA))
    obtain ⟨rfl, rfl⟩ := q
    exact ⟨rfl, rfl⟩
  obtain ⟨s1, p1, leaf, ⟨n, hn, hall⟩, hl⟩ := wp_comesBy (M := model p w) (Good := Good B) (Ctx.fits_of c B) (fun t c p ht z => by
      obtain ⟨_, a, e⟩ := z
      exact ht a e) (fun t c p pre F z => by
      have := z.1
      simp at this
      omega) _ _ _ pos s h1
  have hn' : runNI (denote table) p w n s ⟨x.wrap (fun a => .pure (.done (.ret a))) deadEnd id id, c, pos, B⟩ = .running s1 ⟨leaf, c, p1, B⟩ := hn
  obtain ⟨σ, tau, hr, hσ, htau⟩ := runNI_running_real hn'
  rcases hl with ⟨a, rfl, rfl, rfl⟩ | ⟨e, _, z⟩
  · obtain rfl := Shared.eq_of_forget_eq hσ hg
    obtain ⟨cur, code, ps, stack⟩ := tau
    simp only [Thread.forget, Thread.mk.injEq, forgetAll] at htau
    obtain ⟨e2, e3, e4, e5⟩ := htau
    subst e2 e3 e4
    have hlen : stack.length = B.length := by
      have q := congrArg List.length e5
      rw [List.length_map, List.length_map] at q
      exact q
    obtain ⟨τ', st, R⟩ := sim (p := p) (w := w) (res := Flow.ret) (K' := K') (H' := H') (gd := id) (lv := id) hB n s ⟨x.wrap (fun a => .pure (.done (.ret a))) deadEnd id id, code, pos, B⟩ ⟨x.wrap K' H' id id, code, pos, B⟩ σ ⟨.pure (.done (.ret v0)), code, ps, stack⟩ ⟨rfl, rfl, .inl ⟨rfl, rfl, x, rfl, rfl⟩⟩ hr fun k hk s₁ t₁ h₁ => by
      obtain ⟨s₂, t₂, h₂⟩ := runNI_prefix (Nat.le_of_lt hk) hn'
      obtain ⟨σ₂, tau₂, hr₂, _, htau₂⟩ := runNI_running_real h₂
      rw [hr₂] at h₁
      injection h₁ with z1 z2
      subst z1 z2
      have c2 := ni_calm h₂ (runNI_prefix (Nat.succ_le_of_lt hk) hn')
      have g2 := hall k hk s₂ t₂ h₂
      refine ⟨by rw [← Thread.calm_forget, htau₂, Thread.calm_forget]; exact c2, fun ⟨z1, z2⟩ => g2 ?_⟩
      obtain ⟨cur₂, code₂, pos₂, st₂⟩ := tau₂
      obtain ⟨cur₃, code₃, pos₃, st₃⟩ := t₂
      simp only [Thread.forget, Thread.mk.injEq, forgetAll] at htau₂
      obtain ⟨f1, f2, f3, f4⟩ := htau₂
      have l2 : st₂.length = st₃.length := by
        have q := congrArg List.length f4
        rw [List.length_map, List.length_map] at q
        exact q
      exact ⟨by simpa [l2] using z1, by simpa [f1] using z2⟩
    obtain ⟨r1, r2, R⟩ := R
    obtain ⟨cur', code', pos', st'⟩ := τ'
    dsimp only at r1 r2 R
    subst r1 r2
    rcases R with ⟨q1, q2, y, q3, q4⟩ | ⟨q, F⟩
    · subst q2
      cases y with
      | pure a =>
        have ea : a = v0 := by
          simp only [Sem.wrap, Sem.pure.injEq, Fin.done.injEq, Flow.ret.injEq] at q3
          exact q3.symm
        subst ea
        subst q4
        exact ⟨n, _, st⟩
      | _ => simp [Sem.wrap] at q3
    · have := F.longer.1
      omega
  · exact z.elim
end HDK


set_option Elab.async false
set_option linter.all false
set_option maxRecDepth 100000
set_option maxHeartbeats 2000000
/-! HD4: a top in three parts: by the machine, told exactly, by the machine. -/
namespace HDK
open PySem PySem.W PySem.Calls PyProof.Rows HandSHeadRun
/-- so many steps of the top, the heap as a tree -/
def goG (st : SharedT → Thread → Option (SharedT × Thread)) (n0 : Nat) (ann : Option Value) : Nat → SharedT → Thread → Option (SharedT × Thread)
  | 0, s, t => some (s, t)
  | m + 1, s, t => match through t with
    | true => none
    | false => match stepOk n0 ann t with
      | false => none
      | true => match st s t with
        | some (s', t') => frS s' fun s' => goG st n0 ann m s' t'
        | none => none
/-- what such a part leaves: reached by the scheduler, the frame kept -/
structure Gets (p : Program) (w : World) (n0 : Nat) (ann : Option Value) (s : Shared) (t : Thread) (s' : Shared) (t' : Thread) : Prop where
  run : ∃ m, schedN (denote table) p w m (.single s t) = .running (.single s' t')
  life : s'.heap.life = s.heap.life
  os : s'.os = s.os
  fr : ∀ b o, b < n0 → b ≠ mainNs → b ≠ cStatics → ann ≠ some (.ref b) → s.heap.get? b = some o → s'.heap.get? b = some o
theorem sched_add {den : Code → Sem Fin} {p : Program} {w : World} : ∀ {m n : Nat} {c c' : Config} {r : SRun}, schedN den p w m c = .running c' → schedN den p w n c' = r → schedN den p w (m + n) c = r
  | 0, n, c, c', r, h, k => by
    have e : SRun.running c = .running c' := h
    cases e
    rw [Nat.zero_add]; exact k
  | m + 1, n, c, c', r, h, k => by
    rw [show m + 1 + n = m + n + 1 by omega]
    simp only [schedN] at h ⊢
    cases hs : sstep den p w c with
    | halt o s => rw [hs] at h; cases h
    | go c₁ => rw [hs] at h; exact sched_add h k
section
variable {p : Program} {w : World} {n0 : Nat} {ann : Option Value}
theorem Gets.refl {s : Shared} {t : Thread} : Gets p w n0 ann s t s t := ⟨⟨0, rfl⟩, rfl, rfl, fun _ _ _ _ _ _ e => e⟩
theorem Gets.trans {s s1 s2 : Shared} {t t1 t2 : Thread} (a : Gets p w n0 ann s t s1 t1) (b : Gets p w n0 ann s1 t1 s2 t2) : Gets p w n0 ann s t s2 t2 := by
  obtain ⟨m, hm⟩ := a.run
  obtain ⟨n, hn⟩ := b.run
  exact ⟨⟨m + n, sched_add hm hn⟩, b.life.trans a.life, b.os.trans a.os, fun x o h1 h2 h3 h4 e => b.fr x o h1 h2 h3 h4 (a.fr x o h1 h2 h3 h4 e)⟩
theorem one_step {s s' : Shared} {t t' : Thread} (hr : s.asleep) (hk : stepOk n0 ann t = true) (hs : step (denote table) p w s t = .go s' t') : Gets p w n0 ann s t s' t' := by
  obtain ⟨hc, hk⟩ := Bool.and_eq_true_iff.mp hk
  have hl := step_life (denote table) p w s s' t t' hs
  have e : sstep (denote table) p w (.single s t) = .go (.single s' t') := by
    rcases sstep_single (denote table) p w s t hc hr with e | e
    · rw [e, hs]; rfl
    · rw [hs] at e; cases e
  refine ⟨⟨1, by simp only [schedN, e]⟩, hl, step_os_same hs (by revert hk; cases t.cur <;> simp), fun b o h1 h2 h3 h4 h5 => ?_⟩
  rw [step_heap (denote table) p w s s' t t' hs]
  revert hk
  cases t.cur <;> intro hk <;> try exact h5
  case update a _ f _ =>
    have : b ≠ a := by
      rintro rfl
      simp only [Bool.or_eq_true, Nat.ble_eq, beq_iff_eq] at hk
      rcases hk with ((q | q) | q) | q
      · exact absurd h1 (Nat.not_lt.mpr q)
      · exact h2 q
      · exact h3 q
      · exact h4 q
    exact (Heap.get?_update_ne _ _ _ _ this).trans h5
  case alloc x _ => exact Heap.get?_push_of_some x h5
theorem goG_gets : ∀ {m : Nat} {s s' : SharedT} {t t' : Thread}, s.abs.asleep → goG (stepT (denote table) p w) n0 ann m s t = some (s', t') → Gets p w n0 ann s.abs t s'.abs t'
  | 0, s, s', t, t', _, h => by
    cases h
    exact .refl
  | m + 1, s, s', t, t', hr, h => by
    unfold goG at h
    cases ht : through t with
    | true => rw [ht] at h; cases h
    | false =>
      rw [ht] at h
      cases hk : stepOk n0 ann t with
      | false => rw [hk] at h; cases h
      | true =>
        rw [hk] at h
        dsimp only at h
        cases hs : stepT (denote table) p w s t with
        | none => rw [hs] at h; cases h
        | some r =>
          obtain ⟨s2, t2⟩ := r
          rw [hs] at h
          dsimp only at h
          rw [frS_eq] at h
          have a := one_step (p := p) (w := w) hr hk (stepT_spec hs)
          exact a.trans (goG_gets (Shared.asleep_of_life a.life hr) h)
end
end HDK


set_option Elab.async false
set_option linter.all false
set_option maxRecDepth 100000
set_option maxHeartbeats 2000000
namespace HDK
open PySem PySem.W PySem.Calls PyProof.Rows HandSHeadRun
/-- below m all stays -/
def Low (m : Nat) (x y : SharedT) : Prop := y.os = x.os ∧ x.n ≤ y.n ∧ ∀ b o, b < m → x.abs.heap.get? b = some o → y.abs.heap.get? b = some o
theorem Low.refl {m : Nat} {x : SharedT} : Low m x x := ⟨rfl, Nat.le_refl _, fun _ _ _ e => e⟩
theorem Low.trans {m : Nat} {x y z : SharedT} (a : Low m x y) (b : Low m y z) : Low m x z := ⟨b.1.trans a.1, Nat.le_trans a.2.1 b.2.1, fun c o h e => b.2.2 c o h (a.2.2 c o h e)⟩
theorem low_push {m : Nat} {o : Obj} {x y : SharedT} (h : pushO o x = some y) : Low m x y := by
  have e := pushO_ok h
  refine ⟨congrArg Shared.os e, by rw [pushO_n h]; exact Nat.le_succ _, fun b u _ q => ?_⟩
  rw [e]
  exact Heap.get?_push_of_some _ q
theorem low_set {m : Nat} {a : Addr} {f : Obj → Obj} {x y : SharedT} (h : setO a f x = some y) (hm : m ≤ a) : Low m x y := by
  have e := setO_ok h
  have en : y.n = x.n := by rw [← size_abs, ← size_abs, e]; exact Heap.size_update ..
  refine ⟨congrArg Shared.os e, by rw [en]; exact Nat.le_refl _, fun b u hb q => ?_⟩
  rw [e]
  exact (Heap.get?_update_ne _ _ _ _ (Nat.ne_of_lt (Nat.lt_of_lt_of_le hb hm))).trans q
theorem low_tup {m : Nat} {ss : List Str} {x y : SharedT} (h : tupE ss x = some y) : Low m x y := by
  have a := low_push (m := m) (x := tokO ss.length x) h
  exact ⟨a.1, a.2.1, a.2.2⟩
section
variable {prog : Program} {w : World}
theorem low_pair {m : Nat} {d : Addr} {p : List Str × List Str} {x y : SharedT} (h : pairO prog w d p x = some y) (hm : m ≤ d) : Low m x y := by
  unfold pairO at h
  cases q1 : tupE p.1 x with
  | none => rw [q1] at h; cases h
  | some x1 =>
    rw [q1] at h
    dsimp only at h
    cases q2 : tupE p.2 x1 with
    | none => rw [q2] at h; cases h
    | some x2 =>
      rw [q2] at h
      have a := low_set (x := tokO (p.1.length + 1) x2) h hm
      exact (low_tup q1).trans ((low_tup q2).trans ⟨a.1, a.2.1, a.2.2⟩)
theorem low_pairs {m : Nat} {d : Addr} : ∀ {ps : List (List Str × List Str)} {x y : SharedT}, pairsO prog w d ps x = some y → m ≤ d → Low m x y
  | [], x, y, h, _ => by cases h; exact .refl
  | p :: ps, x, y, h, hm => by
    unfold pairsO at h
    cases q : pairO prog w d p x with
    | none => rw [q] at h; cases h
    | some x1 => rw [q] at h; exact (low_pair q hm).trans (low_pairs h hm)
theorem low_sub {m : Nat} {ps : List (List Str × List Str)} {x y : SharedT} (h : subO prog w ps x = some y) (hm : m ≤ x.n) : Low m x y := by
  unfold subO at h
  cases q : pushO dictObj x with
  | none => rw [q] at h; cases h
  | some x0 => rw [q] at h; exact (low_push q).trans (low_pairs h hm)
theorem low_disp {ps : List (List Str × List Str)} {p : List Str × List Str} {x y : SharedT} (h : dispO prog w ps p x = some y) : Low x.n x y := by
  unfold dispO at h
  cases q1 : subO prog w ps x with
  | none => rw [q1] at h; cases h
  | some x1 =>
    rw [q1] at h
    dsimp only at h
    cases c : (x1.n == sysModules) || !Nat.blt x.n x1.n with
    | true => rw [c] at h; cases h
    | false =>
      rw [c] at h
      dsimp only at h
      have a1 := low_sub (m := x.n) q1 (Nat.le_refl _)
      cases q2 : subO prog w [p] x1 with
      | none => rw [q2] at h; cases h
      | some x2 =>
        rw [q2] at h
        exact a1.trans ((low_sub q2 a1.2.1).trans (low_set h (Nat.le_refl _)))
end
/-- what a head must tell of the state behind the top -/
def Behind (p q : Program) (loose : List Str) (Xt : Shared → Bool) {α : Type} (Yf : Shared → α) (Ya : World → α) : Prop :=
  ∀ {XP : (Str → Option Value) → Heap → Prop}, (∀ s, Xt s = true → XP (s.heap.nsMap mainGlobals) s.heap) → chainsOk q = true → ∀ w : World,
    (∃ s, AfterRun (opening p) w s) ∧ ∀ s, AfterRun (opening p) w s → ∃ s₀, fenceModules? p s = some s₀ ∧ s₀.gens = #[] ∧ ∃ s₁, TopRan p w s₀ s₁ ∧ s₁.asleep ∧ (s₁.gens.size == 0) = true ∧ s₁.heap.isNs mainGlobals = true ∧
      Ground q loose [] XP w s₁ (s₁.heap.nsMap mainGlobals) (s₁.heap.nsMap builtinsNs) s₁.heap ∧ Yf s₁ = Ya w
/-- the boot's state as a tree -/
noncomputable def bootS (w : World) (os : OsState) : Option SharedT := match putAll (boot_heap w.params).objs.toList .nil 0 with
  | some (t, n) => some (bootT w os (t, n))
  | none => none
theorem bootS_ok {w : World} {os : OsState} {x : SharedT} (h : bootS w os = some x) : x.abs = ⟨boot_heap w.params, #[], boot_drawn, boot_toks, os⟩ ∧ (boot_heap w.params).objs.size = x.n := by
  unfold bootS at h
  cases e : putAll (boot_heap w.params).objs.toList .nil 0 with
  | none => rw [e] at h; cases h
  | some r =>
    obtain ⟨t, n⟩ := r
    rw [e] at h
    cases h
    have eh := putAll_heap e
    refine ⟨?_, ?_⟩
    · show (⟨absHeap t n (boot_heap w.params).life, #[], boot_drawn, boot_toks, os⟩ : Shared) = _
      rw [eh]
    · rw [← eh]
      exact absHeap_size t n _
/-- a top in three parts -/
theorem behind3 {p q : Program} {loose : List Str} {Xt : Shared → Bool} {α : Type} {Yf : Shared → α} {Ya : World → α} {x : Sem Value} {K' H' : Value → Sem Fin} {B : List Frame} {c : Code} {pa : Pos} {A : Around} {eff : World → SharedT → Option SharedT} {n1 M : Nat} (hB : splitAtGen B = none) (hA : (Ctx.of c B).In A)
    (e : opening p = plainProg p.main.scope.names) (f : ∀ s, fenceModules? p s = some s)
    (hmid : ∀ w y z, eff w y = some z → wpAny (model p w) A x (fun v s'' => v = .ref y.n ∧ s'' = z.abs) (fun _ _ => False) y.abs) (hlow : ∀ w y z, eff w y = some z → Low y.n y z)
    (run : ∀ w os, ∃ x0 sa z, bootS w os = some x0 ∧ goG (stepT (denote table) p w) x0.n (bootAnn w) n1 x0 (topStub p) = some (sa, ⟨x.wrap K' H' id id, c, pa, B⟩) ∧ eff w sa = some z ∧ z.gens = #[] ∧
      ∀ pb, ∃ s1, goF (stepT (denote table) p w) x0.n (bootAnn w) M z ⟨K' (.ref sa.n), c, pb, B⟩ = some s1 ∧ looksF p (boot_heap w.params) s1.abs = true ∧ openSeen q loose (importedModules p.main.body) Xt true s1.abs = openGood q loose ∧ Yf s1.abs = Ya w) :
    Behind p q loose Xt Yf Ya := by
  intro XP hX hch w
  obtain ⟨⟨h, gs, d, k, os⟩, a, a'⟩ := Option.map_eq_some_iff.mp (boot_open (N := 600) e (by decide) f w)
  obtain ⟨rfl, rfl, rfl, rfl⟩ : h = boot_heap w.params ∧ gs = Array.mk [] ∧ d = boot_drawn ∧ k = boot_toks := by simpa using a'
  rw [← table_eq_tree] at a
  unfold fencedOpening at a
  obtain ⟨s, h4, h5⟩ := Option.bind_eq_some_iff.mp a
  have AI := AfterImport.of_importEnds h4
  refine ⟨⟨s, AI⟩, fun s' hs' => ?_⟩
  obtain rfl : s' = s := AfterImport.unique hs' AI
  obtain ⟨x0, sa, z, b0, g1, g2, g3, g4⟩ := run w os
  obtain ⟨ex, en⟩ := bootS_ok b0
  have z0 : x0.abs.asleep := by
    rw [ex]
    exact Shared.asleep_of_life (fence_lifeW h5) AI.life
  have G1 := goG_gets z0 g1
  have za := Shared.asleep_of_life G1.life z0
  obtain ⟨n, pb, st⟩ := mid (K' := K') (H' := H') hB hA (hmid w sa z g2) (show z.abs.gens = #[] from g3)
  obtain ⟨s2, l2⟩ := steps_sched (t := ⟨x.wrap K' H' id id, c, pa, B⟩) za st
  have zz := Shared.asleep_of_life l2 za
  have lo := hlow w sa z g2
  obtain ⟨s1, g5, g6, g7, g8⟩ := g4 pb
  obtain ⟨⟨m3, t3, r3, th3⟩, l3, os3, fr3⟩ := topRun_spec _ _ _ _ zz (goF_ok g5)
  obtain ⟨m1, r1⟩ := G1.run
  have lall : s1.abs.heap.life = x0.abs.heap.life := l3.trans (l2.trans G1.life)
  have osall : s1.abs.os = x0.abs.os := os3.trans (lo.1.trans G1.os)
  have frall : ∀ b o, b < x0.n → b ≠ mainNs → b ≠ cStatics → bootAnn w ≠ some (.ref b) → x0.abs.heap.get? b = some o → s1.abs.heap.get? b = some o := fun b o h1 h2 h3 h4 he => by
    have q1 := G1.fr b o h1 h2 h3 h4 he
    have q2 : b < sa.n := by
      have := Heap.lt_size q1
      rwa [size_abs] at this
    exact fr3 b o h1 h2 h3 h4 (lo.2.2 b o q2 q1)
  obtain ⟨hs, hlk⟩ := Bool.and_eq_true_iff.mp (show (staticsOk (importedModules p.main.body) (boot_heap w.params) s1.abs.heap && namesBound p s1.abs.heap && gensDone s1.abs && laidKept (boot_heap w.params) s1.abs.heap) = true from g6)
  obtain ⟨hs, hgd⟩ := Bool.and_eq_true_iff.mp hs
  obtain ⟨hs, hnb⟩ := Bool.and_eq_true_iff.mp hs
  obtain ⟨G, b0', b1, b2, b3, b4, b5⟩ := ground_of_open (w := w) hX hch g7
  rw [ex] at lall osall frall r1
  rw [← en] at frall
  refine ⟨⟨boot_heap w.params, #[], boot_drawn, boot_toks, os⟩, h5, rfl, s1.abs, ⟨⟨m1 + (n + m3), t3, sched_add r1 (sched_add s2 r3), th3⟩, lall, Shared.rest_eq osall,
    fun b o hb hn => frall b o (Heap.lt_size hb) (fun q => hn (.inl q)) (fun q => hn (.inr (.inl q))) (fun q => hn (.inr (.inr ((Pin.globalOf_eq (boot_ns w.params) _).trans q)))) hb,
    b2, statics_of_ok hs, b3, b4, b5, gens_of_done hgd, names_of_bound hnb, laid_of_kept hlk⟩, ?_, b0', b1, G, g8⟩
  exact Shared.asleep_of_life lall (by rw [ex] at z0; exact z0)
end HDK


set_option Elab.async false
set_option linter.all false
set_option maxRecDepth 100000
set_option maxHeartbeats 2000000
/-! HD6: from such a head to the row. -/
namespace HDK
open PySem PySem.W PySem.Calls PyProof.Rows HandSHeadRun
theorem holds3 {r : OpenRow} {q : Program} {loose : List Str} {H : Hook} {d : DefRec} (left : Behind r.prog q loose (fun s => xlAt q [] s && recOk r.toRowW.records s) H.obs H.val)
    (hdef : defOf q r.name = some (d, [])) (hp : r.prog.theDef r.name = some (d.params, d.body, d.scope)) (hk : kwWritten? d.params.kwonlyargs d.params.kw_defaults = some [])
    (hwr : (!r.writes || r.records.isEmpty) = true) (k1 : r.wellSaid = true) (ok : (chainsOk q && opensWell r.prog && (frees r.toRowW && r.within.isEmpty)) = true) (hb : r.prog.bare) (hw : r.toRowW.promised)
    (call : WalkO q loose (XL q []) H.says r.toRowW d [] fun f vs => PySem.call f vs) : r.Holds := by
  obtain ⟨ok1, k5⟩ := Bool.and_eq_true_iff.mp ok
  obtain ⟨hch, o1⟩ := Bool.and_eq_true_iff.mp ok1
  obtain ⟨k5, k6⟩ := Bool.and_eq_true_iff.mp k5
  obtain ⟨hsame, hu, ha, hap, hm⟩ := frees_parts k5
  have hX : ∀ s : Shared, (fun s => xlAt q [] s && recOk r.toRowW.records s) s = true → (fun mg h => XL q [] mg h ∧ RecFacts r.toRowW.records h) (s.heap.nsMap mainGlobals) s.heap := fun s z => by
    obtain ⟨z1, z2⟩ := Bool.and_eq_true_iff.mp z
    exact ⟨xl_of s z1, recFacts_of z2⟩
  refine ⟨k1, hw, ⟨⟨hb, o1, by show r.toRowW.makers.map _ = []; rw [hm]; rfl⟩, hw.witness, fun w => ⟨(left (XP := fun mg h => XL q [] mg h ∧ RecFacts r.toRowW.records h) hX hch w).1, fun s' hs' => ?_⟩⟩⟩
  obtain ⟨s₀, hf, hg0, s, hT, hz, hgens, hg, G00, y⟩ := (left (XP := fun mg h => XL q [] mg h ∧ RecFacts r.toRowW.records h) hX hch w).2 s' hs'
  have G0 : Ground q loose [] (XL q []) w s (s.heap.nsMap mainGlobals) (s.heap.nsMap builtinsNs) s.heap := ⟨G00.T, G00.B, G00.D, G00.TE, G00.TD, G00.W, G00.X.1, G00.cls, G00.has, G00.apart, G00.once, G00.K⟩
  have RF := G00.X.2
  have hT' := hT
  refine ⟨s₀, hf, hg0, s, hT, fun n hn => ?_, RF.1, RF.2.1, ?_⟩
  · obtain rfl : n = r.name := by split at hn <;> simp_all
    exact pinned_of_view hg G0 hdef hp hk
  have hgens : s.gens = #[] := Array.eq_empty_of_size_eq_zero (beq_iff_eq.mp hgens)
  have G : Ground q loose r.toRowW.records (XL q []) w s _ _ s.heap := RF.ground G0
  refine ClaimW.callFrom_of_specG (c := r.toRowW.claim) hz hgens fun args hpre hlay ord hord => ?_
  obtain ⟨⟨vs, s₁⟩, hlaid⟩ := Option.isSome_iff_exists.mp (layAllW_isSome (P := w.params) (ord := ord) G.has args r.toRowW.args s (pre_splitW hpre).1)
  have keeps := layAllW_keeps _ _ _ hlaid
  have hal := layAllW_rest _ _ _ hlaid
  obtain ⟨as, hrd, hin, hold⟩ := reads_layAllW hord _ _ _ hlaid hlay s₁.heap (fun _ _ e => e)
  have L : Laid r.toRowW.records w s s₁ args vs as := ⟨⟨ord, hord, hlaid⟩, hrd, hin, hold, keeps, hal.1.trans hgens, hal.2.2.1⟩
  have G₁ := G.keeps XL.keeps keeps
  obtain ⟨a, o, pm, cd, doc, dV, kV, h1, h2, h3, h4, h5⟩ := G₁.fn hdef
  have h := call w s s₁ _ _ G₁ (H.keeps _ _ _ (H.of w s y) keeps) a o pm cd doc dV kV h2 h3 h4 h5 (defOf_name hdef ▸ h1) L.gens args vs as hpre hlay L.reads L.well (L.low G.low)
  have hi := ident_freeW hu ha hap
  have hwi : r.toRowW.claim.within = [] := List.isEmpty_iff.mp k6
  refine ⟨vs, s₁, hlaid, wpAny_bind (wpAny_nsGet G₁.T.g ?_)⟩
  have hnm : s.heap.nsMap mainGlobals r.name = some (.ref a) := h1
  rw [show s.heap.nsMap mainGlobals r.toRowW.name = some (.ref a) from hnm]
  refine wpAny_bind (wpAny_mono h (fun v s' g => wpAny_pure ?_) fun e s' g => ?_)
  · exact ⟨_, rfl, have z := g.laid (c := r.toRowW.claim) hsame hwi hi L; ⟨z.1, z.2.1, z.2.2, fun q => ⟨namesKept_of hT' hg _ keeps g.2.1.old, noTable hwr q⟩⟩⟩
  · exact have z := g.laid (c := r.toRowW.claim) hsame hwi hi L; ⟨z.1, z.2.1, z.2.2, fun q => ⟨namesKept_of hT' hg _ keeps g.2.1.old, noTable hwr q⟩⟩
end HDK


set_option Elab.async false
set_option linter.all false
set_option maxRecDepth 100000
set_option maxHeartbeats 2000000
/-! HD7: the parts of such a top by the place of the display's statement. -/
noncomputable section
namespace HDK
open PySem PySem.W PySem.Calls PyProof.Rows HandSHeadRun
def stAt (p : Program) (i : Nat) : Stmt := p.main.body.getD i (.Pass ⟨0, 0, 0, 0⟩)
def tgOf : Stmt → List Expr
  | .Assign t _ _ => t
  | _ => []
def valOf : Stmt → Expr
  | .Assign _ v _ => v
  | _ => .Constant .none 0 ⟨0, 0, 0, 0⟩
def posOf : Stmt → Pos
  | .Assign _ _ p => p
  | _ => ⟨0, 0, 0, 0⟩
def keysOf : Expr → List (Option Expr)
  | .Dict k _ _ => k
  | _ => []
def valsOf : Expr → List Expr
  | .Dict _ v _ => v
  | _ => []
def dposOf : Expr → Pos
  | .Dict _ _ p => p
  | _ => ⟨0, 0, 0, 0⟩
def envOf (p : Program) (code : Addr) (fr : Addr) : Env := { scope := p.main.scope, locals := mainNs, globals := mainNs, cells := [], code := .ref code, frame := some fr }
def KF (p : Program) (env : Env) (i : Nat) : Flow → Sem Fin := fun f => match f with
  | .next => (execs (p.main.body.drop (i + 1)) env).wrap doneF (leaveH env) id id
  | f => doneF f
def kA (p : Program) (env : Env) (i : Nat) (v : Value) : Sem Flow := do assignStores env v (← swappedStores (tgOf (stAt p i)) (valOf (stAt p i)) env) ((assignEach (tgOf (stAt p i)) env).map (·.2))
def KB (p : Program) (env : Env) (i : Nat) (v : Value) : Sem Fin := (kA p env i v).wrap (KF p env i) (leaveH env) id id
def xA (p : Program) (env : Env) (i : Nat) : Sem Value := do standAt (posOf (stAt p i)); eval (valOf (stAt p i)) env
def codeB (p : Program) (env : Env) : Code := .body (behindTheImports p) env
abbrev BT0 : List Frame := [topFrame ⟨0, 0, 0, 0⟩]
/-- ahead of the statement, as the machine has it -/
def TA (p : Program) (env : Env) (i : Nat) (pa : Pos) : Thread := ⟨((execs (p.main.body.drop i) env).onRaise (leaving env)).bind fun f => (Sem.pure (Fin.done f) : Sem Fin), codeB p env, pa, BT0⟩
def TB (p : Program) (env : Env) (i : Nat) (v : Value) (pb : Pos) : Thread := ⟨KB p env i v, codeB p env, pb, BT0⟩
theorem TA_eq {p : Program} {env : Env} {i : Nat} {pa : Pos} (h : p.main.body.drop i = stAt p i :: p.main.body.drop (i + 1)) (hx : exec (stAt p i) env = (xA p env i).bind (kA p env i)) :
    TA p env i pa = ⟨(xA p env i).wrap (KB p env i) (leaveH env) id id, codeB p env, pa, BT0⟩ := by
  have e : (((execs (p.main.body.drop i) env).onRaise (leaving env)).bind fun f => (Sem.pure (Fin.done f) : Sem Fin)) = (xA p env i).wrap (KB p env i) (leaveH env) id id := by
    rw [Sem.bind_eq_wrap, Sem.onRaise_eq_wrap, Sem.wrap_wrap]
    show (execs (p.main.body.drop i) env).wrap doneF (leaveH env) id id = _
    rw [h, execs_cons_wrap, hx, Sem.bind_eq_wrap, Sem.wrap_wrap]
    rfl
  unfold TA
  rw [e]
abbrev stq (p : Program) (w : World) : SharedT → Thread → Option (SharedT × Thread) := stepQ (denQ tabQ) p w
theorem st_eq (p : Program) (w : World) : stepT (denote table) p w = stq p w := by rw [table_eq_tree, stepQ_eq, denQ_eq, tabQ_eq]
def execsQ : List Stmt → Env → Sem Flow := PySem.W.Fast.tw12563942051412417395
def leavingQ : Env → Value → Sem Unit := PySem.W.Fast.tw9442747609961115081
theorem execsQ_eq : @PySem.execs = execsQ := PySem.W.Fast.te12563942051412417395
theorem leavingQ_eq : @PySem.leaving = leavingQ := PySem.W.Fast.te9442747609961115081
def TAq (p : Program) (env : Env) (i : Nat) (pa : Pos) : Thread := ⟨PySem.W.R.bindR (PySem.W.R.onRaiseR (execsQ (p.main.body.drop i) env) (leavingQ env)) fun f => (Sem.pure (Fin.done f) : Sem Fin), codeB p env, pa, BT0⟩
theorem TAq_eq {p : Program} {env : Env} {i : Nat} {pa : Pos} : TAq p env i pa = TA p env i pa := by
  unfold TAq TA
  rw [execsQ_eq, leavingQ_eq, PySem.W.R.bindR_eq, PySem.W.R.onRaiseR_eq]
def assignStoresQ : Env → Value → Option (List Str) → List (Value → Sem Unit) → Sem Flow := PySem.W.Fast.tw2470068587113613483
def swappedStoresQ : List Expr → Expr → Env → Sem (Option (List Str)) := PySem.W.Fast.tw4016559146275205325
def assignEachQ : List Expr → Env → List (Bool × (Value → Sem Unit)) := PySem.W.Fast.tw15628205474173192105
theorem assignStoresQ_eq : @PySem.assignStores = assignStoresQ := PySem.W.Fast.te2470068587113613483
theorem swappedStoresQ_eq : @PySem.swappedStores = swappedStoresQ := PySem.W.Fast.te4016559146275205325
theorem assignEachQ_eq : @PySem.assignEach = assignEachQ := PySem.W.Fast.te15628205474173192105
def kAq (p : Program) (env : Env) (i : Nat) (v : Value) : Sem Flow :=
  PySem.W.R.bindR (swappedStoresQ (tgOf (stAt p i)) (valOf (stAt p i)) env) fun s => assignStoresQ env v s (PySem.W.R.mapR (fun x => x.2) (assignEachQ (tgOf (stAt p i)) env))
def KBq (p : Program) (env : Env) (i : Nat) (v : Value) : Sem Fin :=
  PySem.W.R.bindR (PySem.W.R.onRaiseR (PySem.W.R.bindR (kAq p env i v) fun f => match f with
    | .next => execsQ (p.main.body.drop (i + 1)) env
    | f => Sem.pure f) (leavingQ env)) fun f => (Sem.pure (Fin.done f) : Sem Fin)
theorem kAq_eq {p : Program} {env : Env} {i : Nat} {v : Value} : kAq p env i v = kA p env i v := by
  unfold kAq kA
  rw [← assignStoresQ_eq, ← swappedStoresQ_eq, ← assignEachQ_eq, ← PySem.W.R.bindR_eq, ← PySem.W.R.mapR_eq]
  rfl
theorem KBq_eq {p : Program} {env : Env} {i : Nat} {v : Value} : KBq p env i v = KB p env i v := by
  unfold KBq
  rw [kAq_eq, ← execsQ_eq, ← leavingQ_eq, ← PySem.W.R.bindR_eq, ← PySem.W.R.onRaiseR_eq]
  unfold KB
  rw [Sem.bind_eq_wrap, Sem.onRaise_eq_wrap, Sem.wrap_wrap, Sem.bind_eq_wrap, Sem.wrap_wrap]
  congr 1
  funext f
  cases f <;> rfl
def TBq (p : Program) (env : Env) (i : Nat) (v : Value) (pb : Pos) : Thread := ⟨KBq p env i v, codeB p env, pb, BT0⟩
theorem TBq_eq {p : Program} {env : Env} {i : Nat} {v : Value} {pb : Pos} : TBq p env i v pb = TB p env i v pb := by
  unfold TBq TB
  rw [KBq_eq]
def partA (p : Program) (n1 : Nat) (w : World) (os : OsState) : Option (SharedT × Thread) := match bootS w os with
  | some x0 => goG (stq p w) x0.n (bootAnn w) n1 x0 (topStub p)
  | none => none
end HDK


set_option Elab.async false
set_option linter.all false
set_option maxRecDepth 100000
set_option maxHeartbeats 2000000
/-! HD8: a top with one such display, by equations that the kernel runs. -/
noncomputable section
namespace HDK
open PySem PySem.W PySem.Calls PyProof.Rows HandSHeadRun
def textOf : Expr → Str
  | .Constant (.str s) _ _ => s
  | _ => ""
def isText : Expr → Bool
  | .Constant (.str _) _ _ => true
  | _ => false
def eltsOf : Expr → List Expr
  | .Tuple es _ _ => es
  | _ => []
def isTup : Expr → Bool
  | .Tuple es _ _ => es.all isText && Nat.ble es.length 1000
  | _ => false
def pairOf (e : Expr × Expr) : List Str × List Str := ((eltsOf e.1).map textOf, (eltsOf e.2).map textOf)
def isPr (e : Expr × Expr) : Bool := isTup e.1 && isTup e.2
theorem texts_of : ∀ {es : List Expr}, es.all isText = true → Texts es (es.map textOf)
  | [], _ => .nil
  | e :: es, h => by
    simp only [List.all_cons, Bool.and_eq_true] at h
    obtain ⟨h1, h2⟩ := h
    cases e with
    | Constant c j p => cases c with
      | str s => exact .cons (texts_of h2)
      | _ => cases h1
    | _ => cases h1
theorem isPair_of {e : Expr × Expr} (h : isPr e = true) : IsPair e (pairOf e) := by
  obtain ⟨a, b⟩ := e
  obtain ⟨h1, h2⟩ := Bool.and_eq_true_iff.mp h
  cases a with
  | Tuple es j p =>
    cases b with
    | Tuple fs k q =>
      obtain ⟨t1, l1⟩ := Bool.and_eq_true_iff.mp h1
      obtain ⟨t2, l2⟩ := Bool.and_eq_true_iff.mp h2
      exact .mk (texts_of t1) (texts_of t2) (by rw [List.length_map]; exact Nat.le_of_ble_eq_true l1) (by rw [List.length_map]; exact Nat.le_of_ble_eq_true l2)
    | _ => cases h2
  | _ => cases h1
theorem arePairs_of : ∀ {es : List (Expr × Expr)}, es.all isPr = true → ArePairs es (es.map pairOf)
  | [], _ => .nil
  | e :: es, h => by
    simp only [List.all_cons, Bool.and_eq_true] at h
    exact .cons (isPair_of h.1) (arePairs_of h.2)
theorem shape_of {env : Env} {pos : Pos} : ∀ l : List (Expr × Expr), (evalEachOpt (l.map fun e => some e.1) env).zip ((evalEach (l.map fun e => e.2) env).map fun v => do let x ← v; standAt pos; pure x) = (l.map (semP env pos)).map fun p => (some p.1, p.2)
  | [] => rfl
  | e :: l => by
    exact congrArg (fun t => (some (eval e.1 env), (do let x ← eval e.2 env; standAt pos; pure x)) :: t) (shape_of l)
def pairsE (p : Program) (i : Nat) : List (Expr × Expr) := ((keysOf (valOf (stAt p i))).filterMap id).zip (valsOf (valOf (stAt p i)))
def noE : Expr := .Constant .none 0 ⟨0, 0, 0, 0⟩
def esOf (p : Program) (i : Nat) : List (Expr × Expr) := (pairsE p i).take 16
def e17 (p : Program) (i : Nat) : Expr × Expr := (pairsE p i).getD 16 (noE, noE)
def e18 (p : Program) (i : Nat) : Expr × Expr := (pairsE p i).getD 17 (noE, noE)
def psOf (p : Program) (i : Nat) : List (List Str × List Str) := (esOf p i ++ [e17 p i]).map pairOf
def prOf (p : Program) (i : Nat) : List Str × List Str := pairOf (e18 p i)
def keysNodup : List (List Str) → Bool
  | [] => true
  | a :: l => l.all (fun b => !(a == b)) && keysNodup l
theorem nodup_of : ∀ {l : List (List Str)}, keysNodup l = true → l.Nodup
  | [], _ => .nil
  | a :: l, h => by
    obtain ⟨h1, h2⟩ := Bool.and_eq_true_iff.mp h
    refine List.nodup_cons.mpr ⟨fun z => ?_, nodup_of h2⟩
    have := List.all_eq_true.mp h1 a z
    simp at this
/-- all that is checked of the display -/
def dispOk (p : Program) (i : Nat) : Bool := ((esOf p i).length == 16) && (esOf p i ++ [e17 p i]).all isPr && isPr (e18 p i) && keysNodup (((psOf p i).map (·.1)) ++ [(prOf p i).1])
abbrev SeenT : Type := PyProof.Rows.Seen × (Option PySem.Str × List (PySem.Str × PySem.Value)) × Bool × Bool × (List (Option PySem.FnShape) × Bool) × List (Option PyProof.Rows.PlainShape) × List (Option (PyProof.Rows.PlainShape × Bool)) × (List (Option PySem.FnShape) × Bool) × List (Option (List (Option PySem.FnShape) × Bool) × Option (PyProof.Rows.PlainShape × Bool))
/-- the top from the display to its end -/
def partC (r : OpenRow) (q : Program) (H : Hook) (ob : SharedT → H.α) (loose : List PySem.Str) (n1 M i : Nat) (env : Env) (w : World) (os : OsState) (pb : Pos) : Option (Bool × Bool × SeenT × H.α) := match bootS w os with
  | some x0 => (match goG (stq r.prog w) x0.n (bootAnn w) n1 x0 (topStub r.prog) with
    | some (sa, _) => (match dispO r.prog w (psOf r.prog i) (prOf r.prog i) sa with
      | some z => frS z fun z => (match goF (stq r.prog w) x0.n (bootAnn w) M z (TBq r.prog env i (.ref sa.n) pb) with
        | some s1 => some (z.gens.size == 0, looksF r.prog (boot_heap w.params) s1.abs, seenQ q loose (importedModules r.prog.main.body) (fun s => xlAt q [] s && recOk r.toRowW.records s) s1.abs, ob s1)
        | none => none)
      | none => none)
    | none => none)
  | none => none
def arOf (p : Program) (env : Env) : Around := { depth := frameCount (Ctx.of (codeB p env) BT0).below + (Ctx.of (codeB p env) BT0).code.weight, units := (Ctx.of (codeB p env) BT0).units }
theorem ar_in {p : Program} {env : Env} (h : (Ctx.of (codeB p env) BT0).handled = none) : (Ctx.of (codeB p env) BT0).In (arOf p env) :=
  ⟨h, Nat.le_refl _, (fun _ z => by cases z), (fun _ z => by cases z), Nat.le_refl _⟩
theorem behindD {r : OpenRow} {q : Program} {H : Hook} {ob : SharedT → H.α} {loose : List PySem.Str} {n1 M i : Nat} {env : Env} {pa dp : Pos} (ho : ∀ s : SharedT, ob s = H.obs s.abs)
    (e : opening r.prog = plainProg r.prog.main.scope.names) (f : ∀ s, fenceModules? r.prog s = some s)
    (h1 : ∀ w os, (partA r.prog n1 w os).map Prod.snd = some (TAq r.prog env i pa))
    (h2 : r.prog.main.body.drop i = stAt r.prog i :: r.prog.main.body.drop (i + 1))
    (h3 : exec (stAt r.prog i) env = (xA r.prog env i).bind (kA r.prog env i))
    (hh : (Ctx.of (codeB r.prog env) BT0).handled = none) (hu : Nat.blt (arOf r.prog env).units cLine = true) (hs : splitAtGen BT0 = none)
    (hd : valOf (stAt r.prog i) = .Dict ((esOf r.prog i ++ [e17 r.prog i, e18 r.prog i]).map fun e => some e.1) ((esOf r.prog i ++ [e17 r.prog i, e18 r.prog i]).map fun e => e.2) dp) (hok : dispOk r.prog i = true)
    (hrun : ∀ w os pb, partC r q H ob loose n1 M i env w os pb = some (true, true, openGood q loose, H.val w)) :
    Behind r.prog q loose (fun s => xlAt q [] s && recOk r.toRowW.records s) H.obs H.val := by
  have hu' : (arOf r.prog env).units < cLine := Nat.le_of_ble_eq_true hu
  unfold dispOk at hok
  simp only [Bool.and_eq_true, beq_iff_eq] at hok
  obtain ⟨⟨⟨c1, c2⟩, c3⟩, c4⟩ := hok
  have nd := nodup_of c4
  have nd1 : ((psOf r.prog i).map (·.1)).Nodup := (List.nodup_append.mp nd).1
  have nd2 : (prOf r.prog i).1 ∉ (psOf r.prog i).map (·.1) := fun z => (List.nodup_append.mp nd).2.2 _ z _ (List.mem_singleton.mpr rfl) rfl
  have lp : (psOf r.prog i).length = 17 := by
    unfold psOf
    simp [c1]
  intro XP hX hch w0
  refine behind3 (p := r.prog) (q := q) (loose := loose) (Xt := fun s => xlAt q [] s && recOk r.toRowW.records s) (Yf := H.obs) (Ya := H.val) (x := xA r.prog env i) (K' := KB r.prog env i) (H' := leaveH env) (B := BT0) (c := codeB r.prog env) (pa := pa) (A := arOf r.prog env) (eff := fun w y => dispO r.prog w (psOf r.prog i) (prOf r.prog i) y) (n1 := n1) (M := M) hs (ar_in hh) e f (fun w y z hz => ?_) (fun w y z hz => low_disp hz) (fun w os => ?_) hX hch w0
  · unfold xA
    refine wpAny_bind (wpAny_standAt ?_)
    rw [hd]
    exact disp_wp (es := esOf r.prog i) (e17 := e17 r.prog i) (e18 := e18 r.prog i) hu' (by rw [shape_of, List.map_append, List.map_append]; rfl) c1 (arePairs_of c2) (isPair_of c3) nd1 nd2 (by show (psOf r.prog i).length ≤ 900; omega) (fun z => by have z : psOf r.prog i = [] := z; rw [z] at lp; cases lp) hz fun _ _ _ => ⟨rfl, rfl⟩
  · have a := h1 w os
    have b := hrun w os
    unfold partA at a
    unfold partC at b
    cases eb : bootS w os with
    | none => rw [eb] at a; cases a
    | some x0 =>
      simp only [eb] at a b
      cases eg : goG (stq r.prog w) x0.n (bootAnn w) n1 x0 (topStub r.prog) with
      | none => rw [eg] at a; cases a
      | some sa =>
        obtain ⟨sa, ta⟩ := sa
        rw [eg] at a
        have ea : ta = TAq r.prog env i pa := Option.some.inj a
        subst ea
        simp only [eg] at b
        cases ed : dispO r.prog w (psOf r.prog i) (prOf r.prog i) sa with
        | none => have b := b ⟨0, 0, 0, 0⟩; rw [ed] at b; cases b
        | some z =>
          simp only [ed, frS_eq] at b
          refine ⟨x0, sa, z, rfl, ?_, ed, ?_, fun pb => ?_⟩
          · rw [← TA_eq h2 h3, ← TAq_eq, st_eq]
            exact eg
          · have b := b ⟨0, 0, 0, 0⟩
            cases ef : goF (stq r.prog w) x0.n (bootAnn w) M z (TBq r.prog env i (.ref sa.n) ⟨0, 0, 0, 0⟩) with
            | none => rw [ef] at b; cases b
            | some s1 =>
              rw [ef] at b
              have := congrArg Prod.fst (Option.some.inj b)
              exact Array.eq_empty_of_size_eq_zero (beq_iff_eq.mp this)
          · have b := b pb
            cases ef : goF (stq r.prog w) x0.n (bootAnn w) M z (TBq r.prog env i (.ref sa.n) pb) with
            | none => rw [ef] at b; cases b
            | some s1 =>
              rw [ef] at b
              have b := congrArg Prod.snd (Option.some.inj b)
              have b1 := congrArg Prod.fst b
              have b2 := congrArg (fun x => x.2.1) b
              have b3 := congrArg (fun x => x.2.2) b
              refine ⟨s1, ?_, b1, ?_, (ho s1).symm.trans b3⟩
              · rw [st_eq]
                rw [TBq_eq] at ef
                exact ef
              · dsimp only at b2
                rw [← seenQ_eq] at b2
                exact b2
end HDK


set_option Elab.async false
set_option linter.all false
set_option maxRecDepth 100000
set_option maxHeartbeats 2000000
/-! HD9: a top that the kernel runs whole. -/
noncomputable section
namespace HDK
open PySem PySem.W PySem.Calls PyProof.Rows HandSHeadRun
theorem behind1 {p q : Program} {loose : List Str} {Xt : Shared → Bool} {α : Type} {Yf : Shared → α} {Ya : World → α} {M : Nat}
    (e : opening p = plainProg p.main.scope.names) (f : ∀ s, fenceModules? p s = some s)
    (run : ∀ w os, ∃ x0 s1, bootS w os = some x0 ∧ goF (stepT (denote table) p w) x0.n (bootAnn w) M x0 (topStub p) = some s1 ∧ looksF p (boot_heap w.params) s1.abs = true ∧ openSeen q loose (importedModules p.main.body) Xt true s1.abs = openGood q loose ∧ Yf s1.abs = Ya w) :
    Behind p q loose Xt Yf Ya := by
  intro XP hX hch w
  obtain ⟨⟨h, gs, d, k, os⟩, a, a'⟩ := Option.map_eq_some_iff.mp (boot_open (N := 600) e (by decide) f w)
  obtain ⟨rfl, rfl, rfl, rfl⟩ : h = boot_heap w.params ∧ gs = Array.mk [] ∧ d = boot_drawn ∧ k = boot_toks := by simpa using a'
  rw [← table_eq_tree] at a
  unfold fencedOpening at a
  obtain ⟨s, h4, h5⟩ := Option.bind_eq_some_iff.mp a
  have AI := AfterImport.of_importEnds h4
  refine ⟨⟨s, AI⟩, fun s' hs' => ?_⟩
  obtain rfl : s' = s := AfterImport.unique hs' AI
  obtain ⟨x0, s1, b0, g5, g6, g7, g8⟩ := run w os
  obtain ⟨ex, en⟩ := bootS_ok b0
  have z0 : x0.abs.asleep := by
    rw [ex]
    exact Shared.asleep_of_life (fence_lifeW h5) AI.life
  obtain ⟨⟨m3, t3, r3, th3⟩, lall, osall, frall⟩ := topRun_spec _ _ _ _ z0 (goF_ok g5)
  obtain ⟨hs, hlk⟩ := Bool.and_eq_true_iff.mp (show (staticsOk (importedModules p.main.body) (boot_heap w.params) s1.abs.heap && namesBound p s1.abs.heap && gensDone s1.abs && laidKept (boot_heap w.params) s1.abs.heap) = true from g6)
  obtain ⟨hs, hgd⟩ := Bool.and_eq_true_iff.mp hs
  obtain ⟨hs, hnb⟩ := Bool.and_eq_true_iff.mp hs
  obtain ⟨G, b0', b1, b2, b3, b4, b5⟩ := ground_of_open (w := w) hX hch g7
  rw [ex] at lall osall frall r3
  rw [← en] at frall
  refine ⟨⟨boot_heap w.params, #[], boot_drawn, boot_toks, os⟩, h5, rfl, s1.abs, ⟨⟨m3, t3, r3, th3⟩, lall, Shared.rest_eq osall,
    fun b o hb hn => frall b o (Heap.lt_size hb) (fun q => hn (.inl q)) (fun q => hn (.inr (.inl q))) (fun q => hn (.inr (.inr ((Pin.globalOf_eq (boot_ns w.params) _).trans q)))) hb,
    b2, statics_of_ok hs, b3, b4, b5, gens_of_done hgd, names_of_bound hnb, laid_of_kept hlk⟩, ?_, b0', b1, G, g8⟩
  exact Shared.asleep_of_life lall (by rw [ex] at z0; exact z0)
def partN (r : OpenRow) (q : Program) (H : Hook) (ob : SharedT → H.α) (loose : List PySem.Str) (M : Nat) (w : World) (os : OsState) : Option (Bool × SeenT × H.α) := match bootS w os with
  | some x0 => (match goF (stq r.prog w) x0.n (bootAnn w) M x0 (topStub r.prog) with
    | some s1 => some (looksF r.prog (boot_heap w.params) s1.abs, seenQ q loose (importedModules r.prog.main.body) (fun s => xlAt q [] s && recOk r.toRowW.records s) s1.abs, ob s1)
    | none => none)
  | none => none
theorem behindN {r : OpenRow} {q : Program} {H : Hook} {ob : SharedT → H.α} {loose : List PySem.Str} {M : Nat} (ho : ∀ s : SharedT, ob s = H.obs s.abs)
    (e : opening r.prog = plainProg r.prog.main.scope.names) (f : ∀ s, fenceModules? r.prog s = some s)
    (hrun : ∀ w os, partN r q H ob loose M w os = some (true, openGood q loose, H.val w)) :
    Behind r.prog q loose (fun s => xlAt q [] s && recOk r.toRowW.records s) H.obs H.val := by
  refine behind1 (M := M) e f fun w os => ?_
  have b := hrun w os
  unfold partN at b
  cases eb : bootS w os with
  | none => rw [eb] at b; cases b
  | some x0 =>
    simp only [eb] at b
    cases ef : goF (stq r.prog w) x0.n (bootAnn w) M x0 (topStub r.prog) with
    | none => rw [ef] at b; cases b
    | some s1 =>
      rw [ef] at b
      have b := Option.some.inj b
      have b1 := congrArg Prod.fst b
      have b2 := congrArg (fun x => x.2.1) b
      have b3 := congrArg (fun x => x.2.2) b
      refine ⟨x0, s1, rfl, ?_, b1, ?_, (ho s1).symm.trans b3⟩
      · rw [st_eq]; exact ef
      · dsimp only at b2
        rw [← seenQ_eq] at b2
        exact b2
end HDK


set_option Elab.async false
set_option linter.all false
set_option maxRecDepth 100000
set_option maxHeartbeats 0
namespace S00
open PySem PySem.Spec PyProof.Rows L2 VL
instance : TbP := ⟨[]⟩
def top (i : Nat) : Stmt := PySem.Challenge.pw_boxeffects_k00_letters_and_kinds.main.body.getD i (.Pass ⟨0, 0, 0, 0⟩)
abbrev K_ALPHABET : D := (.str "abcdefghijklmnopqrstuvwxyz")
abbrev K_GAUGE_MODES : D := (.tuple [(.str "stop"), (.str "fail")])
abbrev K_MOST_GAUGE : D := (.int (999))
abbrev K_MOST_LETTERS : D := (.int (4000))
abbrev K_MOST_RING : D := (.int (12))
abbrev K_MOST_SIGNS : D := (.int (4))
abbrev K_RING_MODES : D := (.tuple [(.str "drop"), (.str "ignore"), (.str "fail")])
abbrev K_SIMPLE_KINDS : D := (.tuple [(.str "stack"), (.str "queue"), (.str "tape"), (.str "heap"), (.str "table")])
abbrev CTL : Ct := [("BoxError", "told", ["BoxError", "ValueError"]), ("NoLetter", "told", ["NoLetter", "BoxError", "ValueError"])]
/-! _law_pool -/
def B__law_pool : SF := (seqF (setF 2 (cF (.int (0))))
  (seqF (ifS (boolF (opF ltG (nmF 1) (cbF lenG (consF (nmF 0) nilF))))
  (setF 2 (opF ixG (nmF 0) (nmF 1)))
  passF)
  (seqF (setF 3 (cbF (ii2 maxI) (consF (cbF intC (consF (nmF 2) nilF)) (consF (cbF intC (consF (opF subG (unF negG (cF (.int (1)))) (nmF 2)) nilF)) nilF))))
  (seqF (setF 4 (opF modG (cbF intC (consF (mulF (opF addG (opF addG (opF addG (opF modG (cbF intC (consF (nmF 3) nilF)) (cF (.int (2147483629)))) (mulF (mulF (cF (.int (7919))) (nmF 1)) (nmF 1))) (mulF (cF (.int (31))) (nmF 1))) (cF (.int (17)))) (cF (.int (48271)))) nilF)) (cF (.int (2147483647)))))
  (retF (lstF (consF (mulF (nmF 3) (cbF intC (consF (opF geG (nmF 3) (opF powG (cF (.int (10))) (cF (.int (18))))) nilF))) (consF (nmF 4) nilF))))))))
def F__law_pool : FD := runF 2 5 B__law_pool
abbrev S__law_pool : Stmt := top 22
theorem sc__law_pool : FnScope ["_law_script", "_law_k", "_law_cell", "_law_big", "_law_mixed"] ["_law_script", "_law_k"] (defScope S__law_pool) := ⟨rfl, rfl, rfl, by decide +kernel, rfl, by decide +kernel, by decide +kernel⟩
theorem d__law_pool {P : Program} {w : World} {K : Frag} {mg : Str → Option Value} {base : Heap} (h : HereG K mg "_law_pool" S__law_pool ["_law_script", "_law_k"]) (m_len : mg "len" = none) (m_max : mg "max" = none) (m_int : mg "int" = none)   : DefG P w K mg base 1 "_law_pool" 2 F__law_pool :=
  h.def sc__law_pool rfl rfl fun fa cdv A outer s H E hr hgd =>
  (s_cons (s_set 2 sc__law_pool.nd e_int)
  (s_cons (s_if (tc (c_lt hr) (e_nm 1) (e_bi b_len m_len (a_cons (e_nm 0) a_nil)))
  (s_one (s_set 2 sc__law_pool.nd (e_ix hr (e_nm 0) (e_nm 1))))
  s_nil)
  (s_cons (s_set 3 sc__law_pool.nd (e_bi (b_max rfl) m_max (a_cons (e_bi b_int m_int (a_cons (e_nm 2) a_nil)) (a_cons (e_bi b_int m_int (a_cons (e_sub (e_neg e_int) (e_nm 2)) a_nil)) a_nil))))
  (s_cons (s_set 4 sc__law_pool.nd (e_mod (e_bi b_int m_int (a_cons (e_mulX (e_add (e_add (e_add (e_mod (e_bi b_int m_int (a_cons (e_nm 3) a_nil)) e_int) (e_mulX (e_mulX e_int (e_nm 1)) (e_nm 1))) (e_mulX e_int (e_nm 1))) e_int) e_int) a_nil)) e_int))
  (s_one (s_ret (e_lst (a_cons (e_mulX (e_nm 3) (e_bi b_int m_int (a_cons (ec (c_ge hr) (e_nm 3) (e_pow e_int e_int)) a_nil))) (a_cons (e_nm 4) a_nil)))))))))
/-! _law_take -/
def B__law_take : SF := (seqF (ifS (boolF (opF gtG (opF ixG (nmF 0) (cF (.int (0)))) (cF (.int (0)))))
  (seqF (setF 2 (opF modG (cbF intC (consF (opF ixG (nmF 0) (cF (.int (0)))) nilF)) (nmF 1)))
  (seqF (stoF (opF fdivG (opF ixG (nmF 0) (cF (.int (0)))) (nmF 1)) (nmF 0) (cF (.int (0))))
  (retF (nmF 2))))
  passF)
  (seqF (stoF (opF modG (cbF intC (consF (opF addG (mulF (opF ixG (nmF 0) (cF (.int (1)))) (cF (.int (39373)))) (cF (.int (7)))) nilF)) (cF (.int (2147483647)))) (nmF 0) (cF (.int (1))))
  (retF (opF modG (cbF intC (consF (opF fdivG (opF modG (cbF intC (consF (mulF (opF ixG (nmF 0) (cF (.int (1)))) (opF ixG (nmF 0) (cF (.int (1))))) nilF)) (cF (.int (2147483629)))) (cF (.int (32)))) nilF)) (nmF 1)))))
def F__law_take : FD := runF 2 3 B__law_take
abbrev S__law_take : Stmt := top 23
theorem sc__law_take : FnScope ["_law_source", "_law_top", "_law_drawn"] ["_law_source", "_law_top"] (defScope S__law_take) := ⟨rfl, rfl, rfl, by decide +kernel, rfl, by decide +kernel, by decide +kernel⟩
theorem d__law_take {P : Program} {w : World} {K : Frag} {mg : Str → Option Value} {base : Heap} (h : HereG K mg "_law_take" S__law_take ["_law_source", "_law_top"]) (m_int : mg "int" = none)   : DefG P w K mg base 1 "_law_take" 2 F__law_take :=
  h.def sc__law_take rfl rfl fun fa cdv A outer s H E hr hgd =>
  (s_cons (s_if (tc (c_gt hr) (e_ix hr (e_nm 0) e_int) e_int)
  (s_cons (s_set 2 sc__law_take.nd (e_mod (e_bi b_int m_int (a_cons (e_ix hr (e_nm 0) e_int) a_nil)) (e_nm 1)))
  (s_cons (s_sto (e_fdiv (e_ix hr (e_nm 0) e_int) (e_nm 1)) (e_nm 0) e_int)
  (s_one (s_ret (e_nm 2)))))
  s_nil)
  (s_cons (s_sto (e_mod (e_bi b_int m_int (a_cons (e_add (e_mulX (e_ix hr (e_nm 0) e_int) e_int) e_int) a_nil)) e_int) (e_nm 0) e_int)
  (s_one (s_ret (e_mod (e_bi b_int m_int (a_cons (e_fdiv (e_mod (e_bi b_int m_int (a_cons (e_mulX (e_ix hr (e_nm 0) e_int) (e_ix hr (e_nm 0) e_int)) a_nil)) e_int) e_int) a_nil)) (e_nm 1))))))
/-! _law_one -/
def B__law_one : SF := (retF (opF ixG (nmF 1) (callF F__law_take (consF (nmF 0) (consF (cbF lenG (consF (nmF 1) nilF)) nilF)))))
def F__law_one : FD := runF 2 2 B__law_one
abbrev S__law_one : Stmt := top 24
theorem sc__law_one : FnScope ["_law_source", "_law_things"] ["_law_source", "_law_things"] (defScope S__law_one) := ⟨rfl, rfl, rfl, by decide +kernel, rfl, by decide +kernel, by decide +kernel⟩
theorem d__law_one {P : Program} {w : World} {K : Frag} {mg : Str → Option Value} {base : Heap} (h : HereG K mg "_law_one" S__law_one ["_law_source", "_law_things"]) (d__law_take : DefG P w K mg base 1 "_law_take" 2 F__law_take) (m_len : mg "len" = none)   : DefG P w K mg base 2 "_law_one" 2 F__law_one :=
  h.def sc__law_one rfl rfl fun fa cdv A outer s H E hr hgd =>
  (s_one (s_ret (e_ix hr (e_nm 1) (e_cg d__law_take (hr.mono (by decide)) hgd (takes_of rfl rfl rfl rfl) (a_cons (e_nm 0) (a_cons (e_bi b_len m_len (a_cons (e_nm 1) a_nil)) a_nil))))))
/-! _law_text -/
def B__law_text : SF := (seqF (setF 1 (cF (.str "abcdefghijklmnopqrstuvwxyz")))
  (seqF (setF 2 (rmF "str" joinG (cF (.str "")) (consF (lcF (rngF (consF (opF addG (cF (.int (1))) (callF F__law_take (consF (nmF 0) (consF (cF (.int (5))) nilF)))) nilF)) [4] (tgN 4) yesF (opF ixG (nmF 1) (callF F__law_take (consF (nmF 0) (consF (cF (.int (26))) nilF))))) nilF)))
  (seqF (ifS (boolF (opF eqG (callF F__law_take (consF (nmF 0) (consF (cF (.int (3))) nilF))) (cF (.int (0)))))
  (seqF (setF 3 (callF F__law_take (consF (nmF 0) (consF (cbF lenG (consF (nmF 2) nilF)) nilF))))
  (setF 2 (opF addG (opF addG (slF (nmF 2) noneF (someF (nmF 3))) (callF F__law_one (consF (nmF 0) (consF (lstF (consF (cF (.str "A")) (consF (cF (.str "1")) (consF (cF (.str " ")) (consF (cF (.str "-")) (consF (cF (.str ".")) (consF (cF (.str "")) (consF (cF (.str "Z")) nilF)))))))) nilF)))) (slF (nmF 2) (someF (opF addG (nmF 3) (cF (.int (1))))) noneF))))
  passF)
  (retF (nmF 2)))))
def F__law_text : FD := runF 1 5 B__law_text
abbrev S__law_text : Stmt := top 32
theorem sc__law_text : FnScope ["_law_source", "_law_signs", "_law_text_here", "_law_at", "_law_k"] ["_law_source"] (defScope S__law_text) := ⟨rfl, rfl, rfl, by decide +kernel, rfl, by decide +kernel, by decide +kernel⟩
theorem d__law_text {P : Program} {w : World} {K : Frag} {mg : Str → Option Value} {base : Heap} (h : HereG K mg "_law_text" S__law_text ["_law_source"]) (d__law_take : DefG P w K mg base 1 "_law_take" 2 F__law_take) (d__law_one : DefG P w K mg base 2 "_law_one" 2 F__law_one) (m_range : mg "range" = none) (m_len : mg "len" = none)   : DefG P w K mg base 3 "_law_text" 1 F__law_text :=
  h.def sc__law_text rfl rfl fun fa cdv A outer s H E hr hgd =>
  (s_cons (s_set 1 sc__law_text.nd e_str)
  (s_cons (s_set 2 sc__law_text.nd (e_join e_str (a_cons (e_lc (own := [("_law_k", 4)]) rfl sc__law_text.nd (i_rng1 m_range (a_cons (e_add e_int (e_cg d__law_take (hr.mono (by decide)) hgd (takes_of rfl rfl rfl rfl) (a_cons (e_nm 0) (a_cons e_int a_nil)))) a_nil)) (show BlkOk ["_law_source", "_law_signs", "_law_text_here", "_law_at", "_law_k"] (defScope S__law_text) _ [("_law_k", 4)] from ⟨rfl, by decide +kernel, by decide +kernel, by decide +kernel, by decide +kernel⟩) (tgw tg_name (by decide)) (fun s H C cl fp => ⟨(pg_name (i := 4) sc__law_text.nd rfl (by first | exact Or.inl rfl | exact Or.inr rfl)), c_nil, (e_ix hr (e_nm 1) (e_cg d__law_take (hr.mono (by decide)) hgd takes0 (a_cons (e_nm 0) (a_cons e_int a_nil))))⟩)) a_nil)))
  (s_cons (s_if (tc (c_eq hr) (e_cg d__law_take (hr.mono (by decide)) hgd (takes_of rfl rfl rfl rfl) (a_cons (e_nm 0) (a_cons e_int a_nil))) e_int)
  (s_cons (s_set 3 sc__law_text.nd (e_cg d__law_take (hr.mono (by decide)) hgd (takes_of rfl rfl rfl rfl) (a_cons (e_nm 0) (a_cons (e_bi b_len m_len (a_cons (e_nm 2) a_nil)) a_nil))))
  (s_one (s_set 2 sc__law_text.nd (e_add (e_add (e_sl (e_nm 2) o_none (o_some (e_nm 3))) (e_cg d__law_one (hr.mono (by decide)) hgd (takes_of rfl rfl rfl rfl) (a_cons (e_nm 0) (a_cons (e_lst (a_cons e_str (a_cons e_str (a_cons e_str (a_cons e_str (a_cons e_str (a_cons e_str (a_cons e_str a_nil)))))))) a_nil)))) (e_sl (e_nm 2) (o_some (e_add (e_nm 3) e_int)) o_none)))))
  s_nil)
  (s_one (s_ret (e_nm 2))))))
/-! _law_kind_of -/
def B__law_kind_of : SF := (seqF (ifS (boolF (opF eqG (nmF 1) (cF (.str "ring"))))
  (retF (tupF (consF (cF (.str "ring")) (consF (callF F__law_one (consF (nmF 0) (consF (lstF (consF (cF (.int (1))) (consF (cF (.int (2))) (consF (cF (.int (3))) (consF (cF (.int (4))) nilF))))) nilF))) (consF (callF F__law_one (consF (nmF 0) (consF (lstF (consF (cF (.str "drop")) (consF (cF (.str "ignore")) (consF (cF (.str "fail")) nilF)))) nilF))) nilF)))))
  passF)
  (seqF (ifS (boolF (opF eqG (nmF 1) (cF (.str "gauge"))))
  (retF (tupF (consF (cF (.str "gauge")) (consF (callF F__law_one (consF (nmF 0) (consF (lstF (consF (cF (.int (1))) (consF (cF (.int (2))) (consF (cF (.int (5))) (consF (cF (.int (9))) nilF))))) nilF))) (consF (callF F__law_one (consF (nmF 0) (consF (lstF (consF (cF (.str "stop")) (consF (cF (.str "fail")) nilF))) nilF))) nilF)))))
  passF)
  (retF (tupF (consF (nmF 1) nilF)))))
def F__law_kind_of : FD := runF 2 2 B__law_kind_of
abbrev S__law_kind_of : Stmt := top 27
theorem sc__law_kind_of : FnScope ["_law_source", "_law_sort"] ["_law_source", "_law_sort"] (defScope S__law_kind_of) := ⟨rfl, rfl, rfl, by decide +kernel, rfl, by decide +kernel, by decide +kernel⟩
theorem d__law_kind_of {P : Program} {w : World} {K : Frag} {mg : Str → Option Value} {base : Heap} (h : HereG K mg "_law_kind_of" S__law_kind_of ["_law_source", "_law_sort"]) (d__law_one : DefG P w K mg base 2 "_law_one" 2 F__law_one)   : DefG P w K mg base 3 "_law_kind_of" 2 F__law_kind_of :=
  h.def sc__law_kind_of rfl rfl fun fa cdv A outer s H E hr hgd =>
  (s_cons (s_if (tc (c_eq hr) (e_nm 1) e_str)
  (s_one (s_ret (e_tup (a_cons e_str (a_cons (e_cg d__law_one (hr.mono (by decide)) hgd (takes_of rfl rfl rfl rfl) (a_cons (e_nm 0) (a_cons (e_lst (a_cons e_int (a_cons e_int (a_cons e_int (a_cons e_int a_nil))))) a_nil))) (a_cons (e_cg d__law_one (hr.mono (by decide)) hgd (takes_of rfl rfl rfl rfl) (a_cons (e_nm 0) (a_cons (e_lst (a_cons e_str (a_cons e_str (a_cons e_str a_nil)))) a_nil))) a_nil))))))
  s_nil)
  (s_cons (s_if (tc (c_eq hr) (e_nm 1) e_str)
  (s_one (s_ret (e_tup (a_cons e_str (a_cons (e_cg d__law_one (hr.mono (by decide)) hgd (takes_of rfl rfl rfl rfl) (a_cons (e_nm 0) (a_cons (e_lst (a_cons e_int (a_cons e_int (a_cons e_int (a_cons e_int a_nil))))) a_nil))) (a_cons (e_cg d__law_one (hr.mono (by decide)) hgd (takes_of rfl rfl rfl rfl) (a_cons (e_nm 0) (a_cons (e_lst (a_cons e_str (a_cons e_str a_nil))) a_nil))) a_nil))))))
  s_nil)
  (s_one (s_ret (e_tup (a_cons (e_nm 1) a_nil))))))
/-! _law_kind -/
def B__law_kind : SF := (seqF (setF 1 (lstF (consF (cF (.str "stack")) (consF (cF (.str "queue")) (consF (cF (.str "tape")) (consF (cF (.str "heap")) (consF (cF (.str "table")) (consF (cF (.str "ring")) (consF (cF (.str "gauge")) nilF)))))))))
  (retF (callF F__law_kind_of (consF (nmF 0) (consF (callF F__law_one (consF (nmF 0) (consF (nmF 1) nilF))) nilF)))))
def F__law_kind : FD := runF 1 2 B__law_kind
abbrev S__law_kind : Stmt := top 26
theorem sc__law_kind : FnScope ["_law_source", "_law_sorts"] ["_law_source"] (defScope S__law_kind) := ⟨rfl, rfl, rfl, by decide +kernel, rfl, by decide +kernel, by decide +kernel⟩
theorem d__law_kind {P : Program} {w : World} {K : Frag} {mg : Str → Option Value} {base : Heap} (h : HereG K mg "_law_kind" S__law_kind ["_law_source"]) (d__law_one : DefG P w K mg base 2 "_law_one" 2 F__law_one) (d__law_kind_of : DefG P w K mg base 3 "_law_kind_of" 2 F__law_kind_of)   : DefG P w K mg base 4 "_law_kind" 1 F__law_kind :=
  h.def sc__law_kind rfl rfl fun fa cdv A outer s H E hr hgd =>
  (s_cons (s_set 1 sc__law_kind.nd (e_lst (a_cons e_str (a_cons e_str (a_cons e_str (a_cons e_str (a_cons e_str (a_cons e_str (a_cons e_str a_nil)))))))))
  (s_one (s_ret (e_cg d__law_kind_of (hr.mono (by decide)) hgd (takes_of rfl rfl rfl rfl) (a_cons (e_nm 0) (a_cons (e_cg d__law_one (hr.mono (by decide)) hgd (takes_of rfl rfl rfl rfl) (a_cons (e_nm 0) (a_cons (e_nm 1) a_nil))) a_nil))))))
/-! _law_some_kind -/
def B__law_some_kind : SF := (seqF (setF 1 (callF F__law_take (consF (nmF 0) (consF (cF (.int (4))) nilF))))
  (seqF (ifS (boolF (opF eqG (nmF 1) (cF (.int (0)))))
  (retF (tupF (consF (callF F__law_one (consF (nmF 0) (consF (lstF (consF (cF (.str "stack")) (consF (cF (.str "queue")) (consF (cF (.str "tape")) (consF (cF (.str "heap")) (consF (cF (.str "table")) nilF)))))) nilF))) nilF)))
  passF)
  (seqF (ifS (boolF (opF eqG (nmF 1) (cF (.int (1)))))
  (retF (tupF (consF (cF (.str "ring")) (consF (callF F__law_one (consF (nmF 0) (consF (lstF (consF (cF (.int (1))) (consF (cF (.int (2))) (consF (cF (.int (12))) (consF (cF (.int (13))) (consF (cF (.int (0))) nilF)))))) nilF))) (consF (callF F__law_one (consF (nmF 0) (consF (lstF (consF (cF (.str "drop")) (consF (cF (.str "ignore")) (consF (cF (.str "fail")) (consF (cF (.str "stop")) nilF))))) nilF))) nilF)))))
  passF)
  (seqF (ifS (boolF (opF eqG (nmF 1) (cF (.int (2)))))
  (retF (tupF (consF (cF (.str "gauge")) (consF (callF F__law_one (consF (nmF 0) (consF (lstF (consF (cF (.int (1))) (consF (cF (.int (2))) (consF (cF (.int (999))) (consF (cF (.int (1000))) (consF (cF (.int (0))) (consF (cF (.int (13))) nilF))))))) nilF))) (consF (callF F__law_one (consF (nmF 0) (consF (lstF (consF (cF (.str "stop")) (consF (cF (.str "fail")) (consF (cF (.str "drop")) nilF)))) nilF))) nilF)))))
  passF)
  (retF (callF F__law_kind (consF (nmF 0) nilF)))))))
def F__law_some_kind : FD := runF 1 2 B__law_some_kind
abbrev S__law_some_kind : Stmt := top 33
theorem sc__law_some_kind : FnScope ["_law_source", "_law_way"] ["_law_source"] (defScope S__law_some_kind) := ⟨rfl, rfl, rfl, by decide +kernel, rfl, by decide +kernel, by decide +kernel⟩
theorem d__law_some_kind {P : Program} {w : World} {K : Frag} {mg : Str → Option Value} {base : Heap} (h : HereG K mg "_law_some_kind" S__law_some_kind ["_law_source"]) (d__law_take : DefG P w K mg base 1 "_law_take" 2 F__law_take) (d__law_one : DefG P w K mg base 2 "_law_one" 2 F__law_one) (d__law_kind : DefG P w K mg base 4 "_law_kind" 1 F__law_kind)   : DefG P w K mg base 5 "_law_some_kind" 1 F__law_some_kind :=
  h.def sc__law_some_kind rfl rfl fun fa cdv A outer s H E hr hgd =>
  (s_cons (s_set 1 sc__law_some_kind.nd (e_cg d__law_take (hr.mono (by decide)) hgd (takes_of rfl rfl rfl rfl) (a_cons (e_nm 0) (a_cons e_int a_nil))))
  (s_cons (s_if (tc (c_eq hr) (e_nm 1) e_int)
  (s_one (s_ret (e_tup (a_cons (e_cg d__law_one (hr.mono (by decide)) hgd (takes_of rfl rfl rfl rfl) (a_cons (e_nm 0) (a_cons (e_lst (a_cons e_str (a_cons e_str (a_cons e_str (a_cons e_str (a_cons e_str a_nil)))))) a_nil))) a_nil))))
  s_nil)
  (s_cons (s_if (tc (c_eq hr) (e_nm 1) e_int)
  (s_one (s_ret (e_tup (a_cons e_str (a_cons (e_cg d__law_one (hr.mono (by decide)) hgd (takes_of rfl rfl rfl rfl) (a_cons (e_nm 0) (a_cons (e_lst (a_cons e_int (a_cons e_int (a_cons e_int (a_cons e_int (a_cons e_int a_nil)))))) a_nil))) (a_cons (e_cg d__law_one (hr.mono (by decide)) hgd (takes_of rfl rfl rfl rfl) (a_cons (e_nm 0) (a_cons (e_lst (a_cons e_str (a_cons e_str (a_cons e_str (a_cons e_str a_nil))))) a_nil))) a_nil))))))
  s_nil)
  (s_cons (s_if (tc (c_eq hr) (e_nm 1) e_int)
  (s_one (s_ret (e_tup (a_cons e_str (a_cons (e_cg d__law_one (hr.mono (by decide)) hgd (takes_of rfl rfl rfl rfl) (a_cons (e_nm 0) (a_cons (e_lst (a_cons e_int (a_cons e_int (a_cons e_int (a_cons e_int (a_cons e_int (a_cons e_int a_nil))))))) a_nil))) (a_cons (e_cg d__law_one (hr.mono (by decide)) hgd (takes_of rfl rfl rfl rfl) (a_cons (e_nm 0) (a_cons (e_lst (a_cons e_str (a_cons e_str (a_cons e_str a_nil)))) a_nil))) a_nil))))))
  s_nil)
  (s_one (s_ret (e_cg d__law_kind (hr.mono (by decide)) hgd (takes_of rfl rfl rfl rfl) (a_cons (e_nm 0) a_nil))))))))
/-! _law_strange -/
def B__law_strange : SF := (seqF (setF 1 (lstF (consF (cF .none) (consF (cF (.bool true)) (consF (cF (.bool false)) (consF (cF (.int (0))) (consF (unF negG (cF (.int (1)))) (consF (cF (.int (1))) (consF (cF (.int (12))) (consF (cF (.int (13))) (consF (cF (.int (999))) (consF (cF (.int (1000))) (consF (cF (.str "")) (consF (cF (.str "a")) (consF (cF (.str "abcd")) (consF (cF (.str "abcde")) (consF (cF (.str "A")) (consF (cF (.str "a1")) (consF (cF (.str "a b")) (consF (tupF nilF) (consF (lstF nilF) (consF (tupF (consF (cF (.str "a")) nilF)) nilF))))))))))))))))))))))
  (retF (callF F__law_one (consF (nmF 0) (consF (opF addG (nmF 1) (lstF (consF (cF (.str "drop")) (consF (cF (.str "stop")) (consF (cF (.str "fail")) (consF (cF (.str "ignore")) (consF (cF (.str "stack")) (consF (cF (.str "ring")) (consF (tupF (consF (cF (.str "stack")) nilF)) (consF (lstF (consF (cF (.str "stack")) nilF)) (consF (opF powG (cF (.int (10))) (cF (.int (30)))) nilF))))))))))) nilF)))))
def F__law_strange : FD := runF 1 2 B__law_strange
abbrev S__law_strange : Stmt := top 31
theorem sc__law_strange : FnScope ["_law_source", "_law_menu"] ["_law_source"] (defScope S__law_strange) := ⟨rfl, rfl, rfl, by decide +kernel, rfl, by decide +kernel, by decide +kernel⟩
theorem d__law_strange {P : Program} {w : World} {K : Frag} {mg : Str → Option Value} {base : Heap} (h : HereG K mg "_law_strange" S__law_strange ["_law_source"]) (d__law_one : DefG P w K mg base 2 "_law_one" 2 F__law_one)   : DefG P w K mg base 3 "_law_strange" 1 F__law_strange :=
  h.def sc__law_strange rfl rfl fun fa cdv A outer s H E hr hgd =>
  (s_cons (s_set 1 sc__law_strange.nd (e_lst (a_cons e_non (a_cons e_bl (a_cons e_bl (a_cons e_int (a_cons (e_neg e_int) (a_cons e_int (a_cons e_int (a_cons e_int (a_cons e_int (a_cons e_int (a_cons e_str (a_cons e_str (a_cons e_str (a_cons e_str (a_cons e_str (a_cons e_str (a_cons e_str (a_cons (e_tup a_nil) (a_cons (e_lst a_nil) (a_cons (e_tup (a_cons e_str a_nil)) a_nil))))))))))))))))))))))
  (s_one (s_ret (e_cg d__law_one (hr.mono (by decide)) hgd (takes_of rfl rfl rfl rfl) (a_cons (e_nm 0) (a_cons (e_add (e_nm 1) (e_lst (a_cons e_str (a_cons e_str (a_cons e_str (a_cons e_str (a_cons e_str (a_cons e_str (a_cons (e_tup (a_cons e_str a_nil)) (a_cons (e_lst (a_cons e_str a_nil)) (a_cons (e_pow e_int e_int) a_nil))))))))))) a_nil))))))
/-! numbered_letter -/
def B_numbered_letter : SF := (seqF (parF [2, 3, 4, 5] (consF (cF (.int (1))) (consF (nmF 0) (consF (cF (.int (26))) (consF (cF (.str "")) nilF)))))
  (seqF (whF FUEL (boolF (opF geG (nmF 3) (nmF 4)))
  (seqF (augF 3 (fun i j => i - j) (nmF 4))
  (seqF (augG 4 mulO (cF (.int (26))))
  (augF 2 (fun i j => i + j) (cF (.int (1)))))))
  (seqF (forF (rngF (consF (nmF 2) nilF)) (tgN 1)
  (seqF (setF 5 (opF addG (opF ixG (cF (.str "abcdefghijklmnopqrstuvwxyz")) (opF modG (nmF 3) (cF (.int (26))))) (nmF 5)))
  (setF 3 (opF fdivG (nmF 3) (cF (.int (26)))))))
  (retF (nmF 5)))))
def F_numbered_letter : FD := runF 1 6 B_numbered_letter
abbrev S_numbered_letter : Stmt := top 18
theorem sc_numbered_letter : FnScope ["number", "turn", "size", "left", "many", "found"] ["number"] (defScope S_numbered_letter) := ⟨rfl, rfl, rfl, by decide +kernel, rfl, by decide +kernel, by decide +kernel⟩
theorem d_numbered_letter {P : Program} {w : World} {K : Frag} {mg : Str → Option Value} {base : Heap} (h : HereG K mg "numbered_letter" S_numbered_letter ["number"]) (g_ALPHABET : GlD K mg "ALPHABET" K_ALPHABET) (m_range : mg "range" = none)   : DefG P w K mg base 1 "numbered_letter" 1 F_numbered_letter :=
  h.def sc_numbered_letter rfl rfl fun fa cdv A outer s H E hr hgd =>
  (s_cons (s_parN [2, 3, 4, 5] rfl (by decide) (a_cons e_int (a_cons (e_nm 0) (a_cons e_int (a_cons e_str a_nil)))) (pgs_cons (pg_name (i := 2) sc_numbered_letter.nd rfl (by first | exact Or.inl rfl | exact Or.inr rfl)) (pgs_cons (pg_name (i := 3) sc_numbered_letter.nd rfl (by first | exact Or.inl rfl | exact Or.inr rfl)) (pgs_cons (pg_name (i := 4) sc_numbered_letter.nd rfl (by first | exact Or.inl rfl | exact Or.inr rfl)) (pgs_cons (pg_name (i := 5) sc_numbered_letter.nd rfl (by first | exact Or.inl rfl | exact Or.inr rfl)) pgs_nil)))))
  (s_cons (s_while (passes_of rfl) (tc (c_ge hr) (e_nm 3) (e_nm 4))
  (s_cons (s_aug 3 ip_sub sc_numbered_letter.nd (e_nm 4))
  (s_cons (s_augMul 4 sc_numbered_letter.nd e_int)
  (s_one (s_aug 2 ip_add sc_numbered_letter.nd e_int)))))
  (s_cons (s_for (passes_of rfl) rfl (i_rng1 m_range (a_cons (e_nm 2) a_nil)) (pg_name (i := 1) sc_numbered_letter.nd rfl (by first | exact Or.inl rfl | exact Or.inr rfl)) tg_name
  (s_cons (s_set 5 sc_numbered_letter.nd (e_add (e_ix hr (e_gl g_ALPHABET) (e_mod (e_nm 3) e_int)) (e_nm 5)))
  (s_one (s_set 3 sc_numbered_letter.nd (e_fdiv (e_nm 3) e_int)))))
  (s_one (s_ret (e_nm 5))))))
/-! letter_beyond -/
def B_letter_beyond : SF := (seqF (setF 1 (dcF (itF (nmF 0)) [3] (tgN 3) yesF (nmF 3) (cF (.bool true))))
  (seqF (forF (rngF (consF (opF addG (cbF lenDC (consF (nmF 1) nilF)) (cF (.int (1)))) nilF)) (tgN 2)
  (seqF (setF 3 (callF F_numbered_letter (consF (nmF 2) nilF)))
  (ifS (boolF (opF (inG true) (nmF 3) (nmF 1)))
  (retF (nmF 3))
  passF)))
  (retF (callF F_numbered_letter (consF (opF addG (cbF lenDC (consF (nmF 1) nilF)) (cF (.int (1)))) nilF)))))
def F_letter_beyond : FD := runF 1 4 B_letter_beyond
abbrev S_letter_beyond : Stmt := top 19
theorem sc_letter_beyond : FnScope ["known", "seen", "number", "letter"] ["known"] (defScope S_letter_beyond) := ⟨rfl, rfl, rfl, by decide +kernel, rfl, by decide +kernel, by decide +kernel⟩
theorem d_letter_beyond {P : Program} {w : World} {K : Frag} {mg : Str → Option Value} {base : Heap} (h : HereG K mg "letter_beyond" S_letter_beyond ["known"]) (d_numbered_letter : DefG P w K mg base 1 "numbered_letter" 1 F_numbered_letter) (m_len : mg "len" = none) (m_range : mg "range" = none)   : DefG P w K mg base 2 "letter_beyond" 1 F_letter_beyond :=
  h.def sc_letter_beyond rfl rfl fun fa cdv A outer s H E hr hgd =>
  (s_cons (by first | exact (s_set 1 sc_letter_beyond.nd (e_dc (own := [("letter", 3)]) rfl sc_letter_beyond.nd (i_it (e_nm 0)) (show BlkOk ["known", "seen", "number", "letter"] (defScope S_letter_beyond) _ [("letter", 3)] from ⟨rfl, by decide +kernel, by decide +kernel, by decide +kernel, by decide +kernel⟩) (tgw tg_name (by decide)) (fun s H C cl fp => ⟨(pg_name (i := 3) sc_letter_beyond.nd rfl (by first | exact Or.inl rfl | exact Or.inr rfl)), c_nil, (e_nm 3), e_bl⟩))) | exact (s_setDc 1 (own := [("letter", 3)]) rfl sc_letter_beyond.nd (i_it (e_nm 0)) (show BlkOk ["known", "seen", "number", "letter"] (defScope S_letter_beyond) _ [("letter", 3)] from ⟨rfl, by decide +kernel, by decide +kernel, by decide +kernel, by decide +kernel⟩) (tgw tg_name (by decide)) (fun s H C cl fp => ⟨(pg_name (i := 3) sc_letter_beyond.nd rfl (by first | exact Or.inl rfl | exact Or.inr rfl)), c_nil, (e_nm 3), e_bl⟩)))
  (s_cons (s_for (passes_of rfl) rfl (i_rng1 m_range (a_cons (e_add (e_bi b_lenD m_len (a_cons (e_nm 1) a_nil)) e_int) a_nil)) (pg_name (i := 2) sc_letter_beyond.nd rfl (by first | exact Or.inl rfl | exact Or.inr rfl)) tg_name
  (s_cons (s_set 3 sc_letter_beyond.nd (e_cg d_numbered_letter (hr.mono (by decide)) hgd (takes_of rfl rfl rfl rfl) (a_cons (e_nm 2) a_nil)))
  (s_one (s_if (tc (c_nin hr) (e_nm 3) (e_nm 1))
  (s_one (s_ret (e_nm 3)))
  s_nil))))
  (s_one (s_ret (e_cg d_numbered_letter (hr.mono (by decide)) hgd (takes_of rfl rfl rfl rfl) (a_cons (e_add (e_bi b_lenD m_len (a_cons (e_nm 1) a_nil)) e_int) a_nil))))))
/-! is_line -/
def B_is_line : SF := (retF (unF (isi2G "list" "tuple") (nmF 0)))
def F_is_line : FD := runF 1 1 B_is_line
abbrev S_is_line : Stmt := top 14
theorem sc_is_line : FnScope ["value"] ["value"] (defScope S_is_line) := ⟨rfl, rfl, rfl, by decide +kernel, rfl, by decide +kernel, by decide +kernel⟩
theorem d_is_line {P : Program} {w : World} {K : Frag} {mg : Str → Option Value} {base : Heap} (h : HereG K mg "is_line" S_is_line ["value"]) (m_isinstance : mg "isinstance" = none) (m_list : mg "list" = none) (m_tuple : mg "tuple" = none)   : DefG P w K mg base 1 "is_line" 1 F_is_line :=
  h.def sc_is_line rfl rfl fun fa cdv A outer s H E hr hgd =>
  (s_one (s_ret (e_isi2 m_isinstance m_list m_tuple boot_list' boot_tuple' (by decide) (by decide) (e_nm 0))))
/-! is_letter -/
def B_is_letter : SF := (retF (andE (isiF "str" (nmF 0)) (andE (chF leG leG (cF (.int (1))) (cbF lenG (consF (nmF 0) nilF)) (cF (.int (4)))) (cbF allC (consF (lcF (itF (nmF 0)) [1] (tgN 1) yesF (opF (inG false) (nmF 1) (cF (.str "abcdefghijklmnopqrstuvwxyz")))) nilF)))))
def F_is_letter : FD := runF 1 2 B_is_letter
abbrev S_is_letter : Stmt := top 16
theorem sc_is_letter : FnScope ["value", "sign"] ["value"] (defScope S_is_letter) := ⟨rfl, rfl, rfl, by decide +kernel, rfl, by decide +kernel, by decide +kernel⟩
theorem d_is_letter {P : Program} {w : World} {K : Frag} {mg : Str → Option Value} {base : Heap} (h : HereG K mg "is_letter" S_is_letter ["value"]) (g_MOST_SIGNS : GlD K mg "MOST_SIGNS" K_MOST_SIGNS) (g_ALPHABET : GlD K mg "ALPHABET" K_ALPHABET) (m_isinstance : mg "isinstance" = none) (m_str : mg "str" = none) (m_len : mg "len" = none) (m_all : mg "all" = none)   : DefG P w K mg base 1 "is_letter" 1 F_is_letter :=
  h.def sc_is_letter rfl rfl fun fa cdv A outer s H E hr hgd =>
  (s_one (s_ret (e_and (e_isi m_isinstance m_str boot_str' (by decide) (e_nm 0)) (e_and (ech (c_le hr) (c_le hr) e_int (e_bi b_len m_len (a_cons (e_nm 0) a_nil)) (e_gl g_MOST_SIGNS)) (e_one (e_bi (b_all rfl) m_all (a_cons (e_lc (own := [("sign", 1)]) rfl sc_is_letter.nd (i_it (e_nm 0)) (show BlkOk ["value", "sign"] (defScope S_is_letter) _ [("sign", 1)] from ⟨rfl, by decide +kernel, by decide +kernel, by decide +kernel, by decide +kernel⟩) (tgw tg_name (by decide)) (fun s H C cl fp => ⟨(pg_name (i := 1) sc_is_letter.nd rfl (by first | exact Or.inl rfl | exact Or.inr rfl)), c_nil, (ec (c_in hr) (e_nm 1) (e_gl g_ALPHABET))⟩)) a_nil)))))))
/-! new_letter -/
def B_new_letter : SF := (seqF (ifS (orT (notT (truF (callF F_is_line (consF (nmF 0) nilF)))) (boolF (opF gtG (cbF lenG (consF (nmF 0) nilF)) (cF (.int (4000))))))
  (raiseF "NoLetter" "told" (cF .none))
  passF)
  (seqF (forF (itF (nmF 0)) (tgN 1)
  (ifS (notT (truF (callF F_is_letter (consF (nmF 1) nilF))))
  (raiseF "NoLetter" "told" (nmF 1))
  passF))
  (retF (callF F_letter_beyond (consF (nmF 0) nilF)))))
def F_new_letter : FD := runF 1 2 B_new_letter
abbrev S_new_letter : Stmt := top 20
theorem sc_new_letter : FnScope ["letters", "letter"] ["letters"] (defScope S_new_letter) := ⟨rfl, rfl, rfl, by decide +kernel, rfl, by decide +kernel, by decide +kernel⟩
theorem d_new_letter {P : Program} {w : World} {K : Frag} {mg : Str → Option Value} {base : Heap} (h : HereG K mg "new_letter" S_new_letter ["letters"]) (d_is_line : DefG P w K mg base 1 "is_line" 1 F_is_line) (d_is_letter : DefG P w K mg base 1 "is_letter" 1 F_is_letter) (d_letter_beyond : DefG P w K mg base 2 "letter_beyond" 1 F_letter_beyond) (g_MOST_LETTERS : GlD K mg "MOST_LETTERS" K_MOST_LETTERS) (m_len : mg "len" = none) (m_super : mg "super" = none) (ES : ErrS P K mg CTL)   : DefG P w K mg base 3 "new_letter" 1 F_new_letter :=
  h.def sc_new_letter rfl rfl fun fa cdv A outer s H E hr hgd =>
  (s_cons (s_if (t_w (w_or (t_not (t_tru (e_cg d_is_line (hr.mono (by decide)) hgd (takes_of rfl rfl rfl rfl) (a_cons (e_nm 0) a_nil)))) (w_or1 (tc (c_gt hr) (e_bi b_len m_len (a_cons (e_nm 0) a_nil)) (e_gl g_MOST_LETTERS)))))
  (s_one (s_raise (ES.er (j := 1) rfl) (hr.mono (by decide)) m_super rfl (takes_of rfl rfl rfl rfl) e_non))
  s_nil)
  (s_cons (s_for (passes_of rfl) rfl (i_it (e_nm 0)) (pg_name (i := 1) sc_new_letter.nd rfl (by first | exact Or.inl rfl | exact Or.inr rfl)) tg_name
  (s_one (s_if (t_not (t_tru (e_cg d_is_letter (hr.mono (by decide)) hgd (takes_of rfl rfl rfl rfl) (a_cons (e_nm 1) a_nil))))
  (s_one (s_raise (ES.er (j := 1) rfl) (hr.mono (by decide)) m_super rfl (takes_of rfl rfl rfl rfl) (e_nm 1)))
  s_nil)))
  (s_one (s_ret (e_cg d_letter_beyond (hr.mono (by decide)) hgd (takes_of rfl rfl rfl rfl) (a_cons (e_nm 0) a_nil))))))
/-! _law_bent -/
def B__law_bent : SF := (seqF (setF 2 (callF F__law_take (consF (nmF 0) (consF (cbF lenG (consF (nmF 1) nilF)) nilF))))
  (seqF (setF 3 (callF F__law_strange (consF (nmF 0) nilF)))
  (seqF (setF 4 (callF F__law_take (consF (nmF 0) (consF (cF (.int (4))) nilF))))
  (seqF (ifS (boolF (opF eqG (nmF 4) (cF (.int (0)))))
  (retF (opF addG (slF (nmF 1) noneF (someF (nmF 2))) (slF (nmF 1) (someF (opF addG (nmF 2) (cF (.int (1))))) noneF)))
  passF)
  (seqF (ifS (boolF (opF eqG (nmF 4) (cF (.int (1)))))
  (retF (opF addG (nmF 1) (tupF (consF (nmF 3) nilF))))
  passF)
  (seqF (ifS (boolF (opF eqG (nmF 4) (cF (.int (2)))))
  (retF (cbF listC (consF (nmF 1) nilF)))
  passF)
  (retF (opF addG (opF addG (slF (nmF 1) noneF (someF (nmF 2))) (tupF (consF (nmF 3) nilF))) (slF (nmF 1) (someF (opF addG (nmF 2) (cF (.int (1))))) noneF)))))))))
def F__law_bent : FD := runF 2 5 B__law_bent
abbrev S__law_bent : Stmt := top 34
theorem sc__law_bent : FnScope ["_law_source", "_law_kind_here", "_law_at", "_law_odd", "_law_way"] ["_law_source", "_law_kind_here"] (defScope S__law_bent) := ⟨rfl, rfl, rfl, by decide +kernel, rfl, by decide +kernel, by decide +kernel⟩
theorem d__law_bent {P : Program} {w : World} {K : Frag} {mg : Str → Option Value} {base : Heap} (h : HereG K mg "_law_bent" S__law_bent ["_law_source", "_law_kind_here"]) (d__law_take : DefG P w K mg base 1 "_law_take" 2 F__law_take) (d__law_strange : DefG P w K mg base 3 "_law_strange" 1 F__law_strange) (m_len : mg "len" = none) (m_list : mg "list" = none)   : DefG P w K mg base 4 "_law_bent" 2 F__law_bent :=
  h.def sc__law_bent rfl rfl fun fa cdv A outer s H E hr hgd =>
  (s_cons (s_set 2 sc__law_bent.nd (e_cg d__law_take (hr.mono (by decide)) hgd (takes_of rfl rfl rfl rfl) (a_cons (e_nm 0) (a_cons (e_bi b_len m_len (a_cons (e_nm 1) a_nil)) a_nil))))
  (s_cons (s_set 3 sc__law_bent.nd (e_cg d__law_strange (hr.mono (by decide)) hgd (takes_of rfl rfl rfl rfl) (a_cons (e_nm 0) a_nil)))
  (s_cons (s_set 4 sc__law_bent.nd (e_cg d__law_take (hr.mono (by decide)) hgd (takes_of rfl rfl rfl rfl) (a_cons (e_nm 0) (a_cons e_int a_nil))))
  (s_cons (s_if (tc (c_eq hr) (e_nm 4) e_int)
  (s_one (s_ret (e_add (e_sl (e_nm 1) o_none (o_some (e_nm 2))) (e_sl (e_nm 1) (o_some (e_add (e_nm 2) e_int)) o_none))))
  s_nil)
  (s_cons (s_if (tc (c_eq hr) (e_nm 4) e_int)
  (s_one (s_ret (e_add (e_nm 1) (e_tup (a_cons (e_nm 3) a_nil)))))
  s_nil)
  (s_cons (s_if (tc (c_eq hr) (e_nm 4) e_int)
  (s_one (s_ret (e_bi b_list m_list (a_cons (e_nm 1) a_nil))))
  s_nil)
  (s_one (s_ret (e_add (e_add (e_sl (e_nm 1) o_none (o_some (e_nm 2))) (e_tup (a_cons (e_nm 3) a_nil))) (e_sl (e_nm 1) (o_some (e_add (e_nm 2) e_int)) o_none))))))))))
/-! _law_refused -/
def B__law_refused : SF := (seqF (tryF CTL 1 (exprF (callF F_new_letter (consF (nmF 0) nilF))) (("NoLetter", fun x => retF (lstF (consF (cbF reprC (consF (toldF "told" x) nilF)) (consF (isxF CTL "BoxError" x) (consF (isbF CTL "ValueError" x) nilF))))) :: []))
  (retF (lstF nilF)))
def F__law_refused : FD := runF 1 2 B__law_refused
abbrev S__law_refused : Stmt := top 36
theorem sc__law_refused : FnScope ["_law_letters", "e"] ["_law_letters"] (defScope S__law_refused) := ⟨rfl, rfl, rfl, by decide +kernel, rfl, by decide +kernel, by decide +kernel⟩
theorem d__law_refused {P : Program} {w : World} {K : Frag} {mg : Str → Option Value} {base : Heap} (h : HereG K mg "_law_refused" S__law_refused ["_law_letters"]) (d_new_letter : DefG P w K mg base 3 "new_letter" 1 F_new_letter) (m_isinstance : mg "isinstance" = none) (m_ValueError : mg "ValueError" = none) (m_repr : mg "repr" = none) (ES : ErrS P K mg CTL)   : DefG P w K mg base 4 "_law_refused" 1 F__law_refused :=
  h.def sc__law_refused rfl rfl fun fa cdv A outer s H E hr hgd =>
  (s_cons (s_try ES rfl rfl sc__law_refused.nd (takes_of rfl rfl rfl rfl) (fun W2 pn xe tk ps => (s_one (s_expr (e_cg d_new_letter (hr.mono (by decide)) hgd tk (a_cons (e_nm 0) a_nil))))) (.cons rfl (by decide) rfl rfl (fun x a oe cls d pn hz hf => pss_one (s_retJ (j_lst (ja_cons Jx.stb (j_bi (b_reprU hr.units hgd) m_repr (ja_cons Jx.stb (j_told ES hz hf) ja_nil)) (ja_cons Jx.stb (j_is ES hz hf m_isinstance) (ja_cons Jx.stb (j_isB ES hz hf m_isinstance m_ValueError boot_ValueError') ja_nil)))))) rfl .nil))
  (s_one (s_ret (e_lst a_nil))))
/-! _law_turned -/
def B__law_turned : SF := (seqF (parF [2, 3] (consF (cbF listC (consF (nmF 1) nilF)) (consF (lstF nilF) nilF)))
  (seqF (whF FUEL (boolF (opF neG (nmF 2) (lstF nilF)))
  (exprF (muF "list" appG (nmF 3) (consF (muF "list" popAtG (nmF 2) (consF (callF F__law_take (consF (nmF 0) (consF (cbF lenG (consF (nmF 2) nilF)) nilF))) nilF)) nilF))))
  (retF (nmF 3))))
def F__law_turned : FD := runF 2 4 B__law_turned
abbrev S__law_turned : Stmt := top 25
theorem sc__law_turned : FnScope ["_law_source", "_law_things", "_law_left", "_law_drawn"] ["_law_source", "_law_things"] (defScope S__law_turned) := ⟨rfl, rfl, rfl, by decide +kernel, rfl, by decide +kernel, by decide +kernel⟩
theorem d__law_turned {P : Program} {w : World} {K : Frag} {mg : Str → Option Value} {base : Heap} (h : HereG K mg "_law_turned" S__law_turned ["_law_source", "_law_things"]) (d__law_take : DefG P w K mg base 1 "_law_take" 2 F__law_take) (m_list : mg "list" = none) (m_len : mg "len" = none)   : DefG P w K mg base 2 "_law_turned" 2 F__law_turned :=
  h.def sc__law_turned rfl rfl fun fa cdv A outer s H E hr hgd =>
  (s_cons (by first | exact (s_par 2 3 rfl sc__law_turned.nd (a_cons (e_bi b_list m_list (a_cons (e_nm 1) a_nil)) (a_cons (e_lst a_nil) a_nil))) | exact (s_parN [2, 3] rfl (by decide) (a_cons (e_bi b_list m_list (a_cons (e_nm 1) a_nil)) (a_cons (e_lst a_nil) a_nil)) (pgs_cons (pg_name (i := 2) sc__law_turned.nd rfl (by first | exact Or.inl rfl | exact Or.inr rfl)) (pgs_cons (pg_name (i := 3) sc__law_turned.nd rfl (by first | exact Or.inl rfl | exact Or.inr rfl)) pgs_nil))))
  (s_cons (s_while (passes_of rfl) (tc (c_ne hr) (e_nm 2) (e_lst a_nil))
  (s_one (s_expr (e_append (e_nm 3) (a_cons (e_popAt (e_nm 2) (a_cons (e_cg d__law_take (hr.mono (by decide)) hgd (takes_of rfl rfl rfl rfl) (a_cons (e_nm 0) (a_cons (e_bi b_len m_len (a_cons (e_nm 2) a_nil)) a_nil))) a_nil)) a_nil)))))
  (s_one (s_ret (e_nm 3)))))
/-! _law_due_letter -/
def B__law_due_letter : SF := (seqF (setF 1 (cF (.str "abcdefghijklmnopqrstuvwxyz")))
  (seqF (forF (itF (nmF 1)) (tgN 2)
  (ifS (boolF (opF (inG true) (nmF 2) (nmF 0)))
  (retF (nmF 2))
  passF))
  (seqF (forF (itF (nmF 1)) (tgN 2)
  (forF (itF (nmF 1)) (tgN 3)
  (ifS (boolF (opF (inG true) (opF addG (nmF 2) (nmF 3)) (nmF 0)))
  (retF (opF addG (nmF 2) (nmF 3)))
  passF)))
  (retF (cF .none)))))
def F__law_due_letter : FD := runF 1 4 B__law_due_letter
abbrev S__law_due_letter : Stmt := top 35
theorem sc__law_due_letter : FnScope ["_law_letters", "_law_signs", "_law_sign", "_law_other"] ["_law_letters"] (defScope S__law_due_letter) := ⟨rfl, rfl, rfl, by decide +kernel, rfl, by decide +kernel, by decide +kernel⟩
theorem d__law_due_letter {P : Program} {w : World} {K : Frag} {mg : Str → Option Value} {base : Heap} (h : HereG K mg "_law_due_letter" S__law_due_letter ["_law_letters"])    : DefG P w K mg base 1 "_law_due_letter" 1 F__law_due_letter :=
  h.def sc__law_due_letter rfl rfl fun fa cdv A outer s H E hr hgd =>
  (s_cons (s_set 1 sc__law_due_letter.nd e_str)
  (s_cons (s_for (passes_of rfl) rfl (i_it (e_nm 1)) (pg_name (i := 2) sc__law_due_letter.nd rfl (by first | exact Or.inl rfl | exact Or.inr rfl)) tg_name
  (s_one (s_if (tc (c_nin hr) (e_nm 2) (e_nm 0))
  (s_one (s_ret (e_nm 2)))
  s_nil)))
  (s_cons (s_for (passes_of rfl) rfl (i_it (e_nm 1)) (pg_name (i := 2) sc__law_due_letter.nd rfl (by first | exact Or.inl rfl | exact Or.inr rfl)) tg_name
  (s_one (s_for (passes_of rfl) rfl (i_it (e_nm 1)) (pg_name (i := 3) sc__law_due_letter.nd rfl (by first | exact Or.inl rfl | exact Or.inr rfl)) tg_name
  (s_one (s_if (tc (c_nin hr) (e_add (e_nm 2) (e_nm 3)) (e_nm 0))
  (s_one (s_ret (e_add (e_nm 2) (e_nm 3))))
  s_nil)))))
  (s_one (s_ret e_non)))))
/-! _law_new_holds -/
def B__law_new_holds : SF := (seqF (setF 1 (cbF listSC (consF (cF (.str "abcdefghijklmnopqrstuvwxyz")) nilF)))
  (seqF (setF 2 (lcF (rngF (consF (callF F__law_take (consF (nmF 0) (consF (cF (.int (9))) nilF))) nilF)) [6] (tgN 6) yesF (callF F__law_one (consF (nmF 0) (consF (opF addG (slF (nmF 1) noneF (someF (cF (.int (6))))) (lstF (consF (cF (.str "aa")) (consF (cF (.str "ab")) (consF (cF (.str "zz")) nilF))))) nilF)))))
  (seqF (ifS (boolF (opF eqG (callF F__law_take (consF (nmF 0) (consF (cF (.int (2))) nilF))) (cF (.int (0)))))
  (setF 2 (opF addG (callF F__law_turned (consF (nmF 0) (consF (opF addG (nmF 1) (slF (lstF (consF (cF (.str "aa")) (consF (cF (.str "ab")) (consF (cF (.str "ad")) nilF)))) noneF (someF (callF F__law_take (consF (nmF 0) (consF (cF (.int (4))) nilF)))))) nilF))) (nmF 2)))
  passF)
  (seqF (ifS (orT (boolF (opF neG (callF F_new_letter (consF (nmF 2) nilF)) (callF F__law_due_letter (consF (nmF 2) nilF)))) (boolF (opF neG (callF F_new_letter (consF (cbF tupleC (consF (nmF 2) nilF)) nilF)) (callF F__law_due_letter (consF (nmF 2) nilF)))))
  (retF (cF (.bool false)))
  passF)
  (seqF (setF 3 (callF F__law_one (consF (nmF 0) (consF (lstF (consF (cF .none) (consF (cF (.str "")) (consF (cF (.str "A")) (consF (cF (.str "abcde")) (consF (cF (.int (5))) (consF (tupF (consF (cF (.str "a")) nilF)) (consF (cF (.bool true)) nilF)))))))) nilF))))
  (seqF (setF 4 (callF F__law_take (consF (nmF 0) (consF (opF addG (cbF lenG (consF (nmF 2) nilF)) (cF (.int (1)))) nilF))))
  (seqF (ifS (boolF (opF neG (callF F__law_refused (consF (opF addG (opF addG (slF (nmF 2) noneF (someF (nmF 4))) (lstF (consF (nmF 3) (consF (cF (.str "B")) nilF)))) (slF (nmF 2) (someF (nmF 4)) noneF)) nilF)) (lstF (consF (cbF reprC (consF (nmF 3) nilF)) (consF (cF (.bool true)) (consF (cF (.bool true)) nilF))))))
  (retF (cF (.bool false)))
  passF)
  (seqF (forF (itF (lstF (consF (cF .none) (consF (cF (.str "abc")) (consF dnewF (consF (cF (.int (5))) (consF (mulF (lstF (consF (cF (.str "a")) nilF)) (cF (.int (4001)))) nilF))))))) (tgN 5)
  (ifS (boolF (opF neG (callF F__law_refused (consF (nmF 5) nilF)) (lstF (consF (cF (.str "None")) (consF (cF (.bool true)) (consF (cF (.bool true)) nilF))))))
  (retF (cF (.bool false)))
  passF))
  (retF (opF eqG (callF F_new_letter (consF (mulF (lstF (consF (cF (.str "a")) nilF)) (cF (.int (4000)))) nilF)) (cF (.str "b"))))))))))))
def F__law_new_holds : FD := runF 1 7 B__law_new_holds
abbrev S__law_new_holds : Stmt := top 37
theorem sc__law_new_holds : FnScope ["_law_source", "_law_signs", "_law_letters", "_law_odd", "_law_at", "_law_value", "_law_k"] ["_law_source"] (defScope S__law_new_holds) := ⟨rfl, rfl, rfl, by decide +kernel, rfl, by decide +kernel, by decide +kernel⟩
theorem d__law_new_holds {P : Program} {w : World} {K : Frag} {mg : Str → Option Value} {base : Heap} (h : HereG K mg "_law_new_holds" S__law_new_holds ["_law_source"]) (d__law_take : DefG P w K mg base 1 "_law_take" 2 F__law_take) (d__law_one : DefG P w K mg base 2 "_law_one" 2 F__law_one) (d__law_turned : DefG P w K mg base 2 "_law_turned" 2 F__law_turned) (d_new_letter : DefG P w K mg base 3 "new_letter" 1 F_new_letter) (d__law_due_letter : DefG P w K mg base 1 "_law_due_letter" 1 F__law_due_letter) (d__law_refused : DefG P w K mg base 4 "_law_refused" 1 F__law_refused) (m_list : mg "list" = none) (m_range : mg "range" = none) (m_tuple : mg "tuple" = none) (m_len : mg "len" = none) (m_repr : mg "repr" = none)   : DefG P w K mg base 5 "_law_new_holds" 1 F__law_new_holds :=
  h.def sc__law_new_holds rfl rfl fun fa cdv A outer s H E hr hgd =>
  (s_cons (s_set 1 sc__law_new_holds.nd (e_bi (b_listS rfl) m_list (a_cons e_str a_nil)))
  (s_cons (by first | exact (s_set 2 sc__law_new_holds.nd (e_lc (own := [("_law_k", 6)]) rfl sc__law_new_holds.nd (i_rng1 m_range (a_cons (e_cg d__law_take (hr.mono (by decide)) hgd (takes_of rfl rfl rfl rfl) (a_cons (e_nm 0) (a_cons e_int a_nil))) a_nil)) (show BlkOk ["_law_source", "_law_signs", "_law_letters", "_law_odd", "_law_at", "_law_value", "_law_k"] (defScope S__law_new_holds) _ [("_law_k", 6)] from ⟨rfl, by decide +kernel, by decide +kernel, by decide +kernel, by decide +kernel⟩) (tgw tg_name (by decide)) (fun s H C cl fp => ⟨(pg_name (i := 6) sc__law_new_holds.nd rfl (by first | exact Or.inl rfl | exact Or.inr rfl)), c_nil, (e_cg d__law_one (hr.mono (by decide)) hgd takes0 (a_cons (e_nm 0) (a_cons (e_add (e_sl (e_nm 1) o_none (o_some e_int)) (e_lst (a_cons e_str (a_cons e_str (a_cons e_str a_nil))))) a_nil)))⟩))) | exact (s_setLc 2 (own := [("_law_k", 6)]) rfl sc__law_new_holds.nd (i_rng1 m_range (a_cons (e_cg d__law_take (hr.mono (by decide)) hgd (takes_of rfl rfl rfl rfl) (a_cons (e_nm 0) (a_cons e_int a_nil))) a_nil)) (show BlkOk ["_law_source", "_law_signs", "_law_letters", "_law_odd", "_law_at", "_law_value", "_law_k"] (defScope S__law_new_holds) _ [("_law_k", 6)] from ⟨rfl, by decide +kernel, by decide +kernel, by decide +kernel, by decide +kernel⟩) (tgw tg_name (by decide)) (fun s H C cl fp => ⟨(pg_name (i := 6) sc__law_new_holds.nd rfl (by first | exact Or.inl rfl | exact Or.inr rfl)), c_nil, (e_cg d__law_one (hr.mono (by decide)) hgd takes0 (a_cons (e_nm 0) (a_cons (e_add (e_sl (e_nm 1) o_none (o_some e_int)) (e_lst (a_cons e_str (a_cons e_str (a_cons e_str a_nil))))) a_nil)))⟩)))
  (s_cons (s_if (tc (c_eq hr) (e_cg d__law_take (hr.mono (by decide)) hgd (takes_of rfl rfl rfl rfl) (a_cons (e_nm 0) (a_cons e_int a_nil))) e_int)
  (s_one (s_set 2 sc__law_new_holds.nd (e_add (e_cg d__law_turned (hr.mono (by decide)) hgd (takes_of rfl rfl rfl rfl) (a_cons (e_nm 0) (a_cons (e_add (e_nm 1) (e_sl (e_lst (a_cons e_str (a_cons e_str (a_cons e_str a_nil)))) o_none (o_some (e_cg d__law_take (hr.mono (by decide)) hgd (takes_of rfl rfl rfl rfl) (a_cons (e_nm 0) (a_cons e_int a_nil)))))) a_nil))) (e_nm 2))))
  s_nil)
  (s_cons (s_if (t_w (w_or (tc (c_ne hr) (e_cg d_new_letter (hr.mono (by decide)) hgd (takes_of rfl rfl rfl rfl) (a_cons (e_nm 2) a_nil)) (e_cg d__law_due_letter (hr.mono (by decide)) hgd (takes_of rfl rfl rfl rfl) (a_cons (e_nm 2) a_nil))) (w_or1 (tc (c_ne hr) (e_cg d_new_letter (hr.mono (by decide)) hgd (takes_of rfl rfl rfl rfl) (a_cons (e_bi b_tuple m_tuple (a_cons (e_nm 2) a_nil)) a_nil)) (e_cg d__law_due_letter (hr.mono (by decide)) hgd (takes_of rfl rfl rfl rfl) (a_cons (e_nm 2) a_nil))))))
  (s_one (s_ret e_bl))
  s_nil)
  (s_cons (s_set 3 sc__law_new_holds.nd (e_cg d__law_one (hr.mono (by decide)) hgd (takes_of rfl rfl rfl rfl) (a_cons (e_nm 0) (a_cons (e_lst (a_cons e_non (a_cons e_str (a_cons e_str (a_cons e_str (a_cons e_int (a_cons (e_tup (a_cons e_str a_nil)) (a_cons e_bl a_nil)))))))) a_nil))))
  (s_cons (s_set 4 sc__law_new_holds.nd (e_cg d__law_take (hr.mono (by decide)) hgd (takes_of rfl rfl rfl rfl) (a_cons (e_nm 0) (a_cons (e_add (e_bi b_len m_len (a_cons (e_nm 2) a_nil)) e_int) a_nil))))
  (s_cons (s_if (tc (c_ne hr) (e_cg d__law_refused (hr.mono (by decide)) hgd (takes_of rfl rfl rfl rfl) (a_cons (e_add (e_add (e_sl (e_nm 2) o_none (o_some (e_nm 4))) (e_lst (a_cons (e_nm 3) (a_cons e_str a_nil)))) (e_sl (e_nm 2) (o_some (e_nm 4)) o_none)) a_nil)) (e_lst (a_cons (e_bi (b_repr hr hgd) m_repr (a_cons (e_nm 3) a_nil)) (a_cons e_bl (a_cons e_bl a_nil)))))
  (s_one (s_ret e_bl))
  s_nil)
  (s_cons (s_for (passes_of rfl) rfl (i_it (e_lst (a_cons e_non (a_cons e_str (a_cons e_dnew (a_cons e_int (a_cons (e_mulX (e_lst (a_cons e_str a_nil)) e_int) a_nil))))))) (pg_name (i := 5) sc__law_new_holds.nd rfl (by first | exact Or.inl rfl | exact Or.inr rfl)) tg_name
  (s_one (s_if (tc (c_ne hr) (e_cg d__law_refused (hr.mono (by decide)) hgd (takes_of rfl rfl rfl rfl) (a_cons (e_nm 5) a_nil)) (e_lst (a_cons e_str (a_cons e_bl (a_cons e_bl a_nil)))))
  (s_one (s_ret e_bl))
  s_nil)))
  (s_one (s_ret (ec (c_eq hr) (e_cg d_new_letter (hr.mono (by decide)) hgd (takes_of rfl rfl rfl rfl) (a_cons (e_mulX (e_lst (a_cons e_str a_nil)) e_int) a_nil)) e_str)))))))))))
/-! _law_two_signs_hold -/
def B__law_two_signs_hold : SF := (seqF (setF 1 (cF (.str "abcdefghijklmnopqrstuvwxyz")))
  (seqF (setF 2 (lstF nilF))
  (seqF (forF (itF (nmF 1)) (tgN 3)
  (setF 2 (opF addG (nmF 2) (lcF (itF (nmF 1)) [8] (tgN 8) yesF (opF addG (nmF 3) (nmF 8))))))
  (seqF (setF 4 (opF addG (cbF listSC (consF (nmF 1) nilF)) (nmF 2)))
  (seqF (setF 5 (callF F__law_one (consF (nmF 0) (consF (nmF 4) nilF))))
  (seqF (ifS (orT (boolF (opF neG (callF F_new_letter (consF (nmF 4) nilF)) (cF (.str "aaa")))) (boolF (opF neG (callF F_new_letter (consF (opF addG (nmF 4) (lstF (consF (cF (.str "aaa")) (consF (cF (.str "aac")) nilF)))) nilF)) (cF (.str "aab")))))
  (retF (cF (.bool false)))
  passF)
  (seqF (setF 6 (lcF (itF (nmF 4)) [7] (tgN 7) (boolF (opF neG (nmF 7) (nmF 5))) (nmF 7)))
  (retF (opF eqG (callF F_new_letter (consF (opF addG (callF F__law_turned (consF (nmF 0) (consF (slF (nmF 6) noneF (someF (cF (.int (40))))) nilF))) (unF rev2G (nmF 6))) nilF)) (nmF 5))))))))))
def F__law_two_signs_hold : FD := runF 1 9 B__law_two_signs_hold
abbrev S__law_two_signs_hold : Stmt := top 38
theorem sc__law_two_signs_hold : FnScope ["_law_source", "_law_signs", "_law_pairs", "_law_sign", "_law_many", "_law_lost", "_law_rest", "_law_one_here", "_law_other"] ["_law_source"] (defScope S__law_two_signs_hold) := ⟨rfl, rfl, rfl, by decide +kernel, rfl, by decide +kernel, by decide +kernel⟩
theorem d__law_two_signs_hold {P : Program} {w : World} {K : Frag} {mg : Str → Option Value} {base : Heap} (h : HereG K mg "_law_two_signs_hold" S__law_two_signs_hold ["_law_source"]) (d__law_one : DefG P w K mg base 2 "_law_one" 2 F__law_one) (d_new_letter : DefG P w K mg base 3 "new_letter" 1 F_new_letter) (d__law_turned : DefG P w K mg base 2 "_law_turned" 2 F__law_turned) (m_list : mg "list" = none)   : DefG P w K mg base 4 "_law_two_signs_hold" 1 F__law_two_signs_hold :=
  h.def sc__law_two_signs_hold rfl rfl fun fa cdv A outer s H E hr hgd =>
  (s_cons (s_set 1 sc__law_two_signs_hold.nd e_str)
  (s_cons (s_set 2 sc__law_two_signs_hold.nd (e_lst a_nil))
  (s_cons (s_for (passes_of rfl) rfl (i_it (e_nm 1)) (pg_name (i := 3) sc__law_two_signs_hold.nd rfl (by first | exact Or.inl rfl | exact Or.inr rfl)) tg_name
  (s_one (s_set 2 sc__law_two_signs_hold.nd (e_add (e_nm 2) (e_lc (own := [("_law_other", 8)]) rfl sc__law_two_signs_hold.nd (i_it (e_nm 1)) (show BlkOk ["_law_source", "_law_signs", "_law_pairs", "_law_sign", "_law_many", "_law_lost", "_law_rest", "_law_one_here", "_law_other"] (defScope S__law_two_signs_hold) _ [("_law_other", 8)] from ⟨rfl, by decide +kernel, by decide +kernel, by decide +kernel, by decide +kernel⟩) (tgw tg_name (by decide)) (fun s H C cl fp => ⟨(pg_name (i := 8) sc__law_two_signs_hold.nd rfl (by first | exact Or.inl rfl | exact Or.inr rfl)), c_nil, (e_add (e_nm 3) (e_nm 8))⟩))))))
  (s_cons (s_set 4 sc__law_two_signs_hold.nd (e_add (e_bi (b_listS rfl) m_list (a_cons (e_nm 1) a_nil)) (e_nm 2)))
  (s_cons (s_set 5 sc__law_two_signs_hold.nd (e_cg d__law_one (hr.mono (by decide)) hgd (takes_of rfl rfl rfl rfl) (a_cons (e_nm 0) (a_cons (e_nm 4) a_nil))))
  (s_cons (s_if (t_w (w_or (tc (c_ne hr) (e_cg d_new_letter (hr.mono (by decide)) hgd (takes_of rfl rfl rfl rfl) (a_cons (e_nm 4) a_nil)) e_str) (w_or1 (tc (c_ne hr) (e_cg d_new_letter (hr.mono (by decide)) hgd (takes_of rfl rfl rfl rfl) (a_cons (e_add (e_nm 4) (e_lst (a_cons e_str (a_cons e_str a_nil)))) a_nil)) e_str))))
  (s_one (s_ret e_bl))
  s_nil)
  (s_cons (by first | exact (s_set 6 sc__law_two_signs_hold.nd (e_lc (own := [("_law_one_here", 7)]) rfl sc__law_two_signs_hold.nd (i_it (e_nm 4)) (show BlkOk ["_law_source", "_law_signs", "_law_pairs", "_law_sign", "_law_many", "_law_lost", "_law_rest", "_law_one_here", "_law_other"] (defScope S__law_two_signs_hold) _ [("_law_one_here", 7)] from ⟨rfl, by decide +kernel, by decide +kernel, by decide +kernel, by decide +kernel⟩) (tgw tg_name (by decide)) (fun s H C cl fp => ⟨(pg_name (i := 7) sc__law_two_signs_hold.nd rfl (by first | exact Or.inl rfl | exact Or.inr rfl)), (c_one (tc (c_ne hr) (e_nm 7) (e_nm 5))), (e_nm 7)⟩))) | exact (s_setLc 6 (own := [("_law_one_here", 7)]) rfl sc__law_two_signs_hold.nd (i_it (e_nm 4)) (show BlkOk ["_law_source", "_law_signs", "_law_pairs", "_law_sign", "_law_many", "_law_lost", "_law_rest", "_law_one_here", "_law_other"] (defScope S__law_two_signs_hold) _ [("_law_one_here", 7)] from ⟨rfl, by decide +kernel, by decide +kernel, by decide +kernel, by decide +kernel⟩) (tgw tg_name (by decide)) (fun s H C cl fp => ⟨(pg_name (i := 7) sc__law_two_signs_hold.nd rfl (by first | exact Or.inl rfl | exact Or.inr rfl)), (c_one (tc (c_ne hr) (e_nm 7) (e_nm 5))), (e_nm 7)⟩)))
  (s_one (s_ret (ec (c_eq hr) (e_cg d_new_letter (hr.mono (by decide)) hgd (takes_of rfl rfl rfl rfl) (a_cons (e_add (e_cg d__law_turned (hr.mono (by decide)) hgd (takes_of rfl rfl rfl rfl) (a_cons (e_nm 0) (a_cons (e_sl (e_nm 6) o_none (o_some e_int)) a_nil))) (e_rev2 (e_nm 6))) a_nil)) (e_nm 5)))))))))))
/-! is_whole -/
def B_is_whole : SF := (retF (andE (isiF "int" (nmF 0)) (notE (isiF "bool" (nmF 0)))))
def F_is_whole : FD := runF 1 1 B_is_whole
abbrev S_is_whole : Stmt := top 12
theorem sc_is_whole : FnScope ["value"] ["value"] (defScope S_is_whole) := ⟨rfl, rfl, rfl, by decide +kernel, rfl, by decide +kernel, by decide +kernel⟩
theorem d_is_whole {P : Program} {w : World} {K : Frag} {mg : Str → Option Value} {base : Heap} (h : HereG K mg "is_whole" S_is_whole ["value"]) (m_isinstance : mg "isinstance" = none) (m_int : mg "int" = none) (m_bool : mg "bool" = none)   : DefG P w K mg base 1 "is_whole" 1 F_is_whole :=
  h.def sc_is_whole rfl rfl fun fa cdv A outer s H E hr hgd =>
  (s_one (s_ret (e_and (e_isi m_isinstance m_int boot_int' (by decide) (e_nm 0)) (e_one (e_not (e_isi m_isinstance m_bool boot_bool' (by decide) (e_nm 0)))))))
/-! is_number -/
def B_is_number : SF := (retF (andE (callF F_is_whole (consF (nmF 0) nilF)) (chF leG leG (nmF 1) (nmF 0) (nmF 2))))
def F_is_number : FD := runF 3 3 B_is_number
abbrev S_is_number : Stmt := top 13
theorem sc_is_number : FnScope ["value", "low", "high"] ["value", "low", "high"] (defScope S_is_number) := ⟨rfl, rfl, rfl, by decide +kernel, rfl, by decide +kernel, by decide +kernel⟩
theorem d_is_number {P : Program} {w : World} {K : Frag} {mg : Str → Option Value} {base : Heap} (h : HereG K mg "is_number" S_is_number ["value", "low", "high"]) (d_is_whole : DefG P w K mg base 1 "is_whole" 1 F_is_whole)   : DefG P w K mg base 2 "is_number" 3 F_is_number :=
  h.def sc_is_number rfl rfl fun fa cdv A outer s H E hr hgd =>
  (s_one (s_ret (e_and (e_cg d_is_whole (hr.mono (by decide)) hgd (takes_of rfl rfl rfl rfl) (a_cons (e_nm 0) a_nil)) (e_one (ech (c_le hr) (c_le hr) (e_nm 1) (e_nm 0) (e_nm 2))))))
/-! is_one_of -/
def B_is_one_of : SF := (retF (andE (isiF "str" (nmF 0)) (opF (inG false) (nmF 0) (nmF 1))))
def F_is_one_of : FD := runF 2 2 B_is_one_of
abbrev S_is_one_of : Stmt := top 15
theorem sc_is_one_of : FnScope ["value", "words"] ["value", "words"] (defScope S_is_one_of) := ⟨rfl, rfl, rfl, by decide +kernel, rfl, by decide +kernel, by decide +kernel⟩
theorem d_is_one_of {P : Program} {w : World} {K : Frag} {mg : Str → Option Value} {base : Heap} (h : HereG K mg "is_one_of" S_is_one_of ["value", "words"]) (m_isinstance : mg "isinstance" = none) (m_str : mg "str" = none)   : DefG P w K mg base 1 "is_one_of" 2 F_is_one_of :=
  h.def sc_is_one_of rfl rfl fun fa cdv A outer s H E hr hgd =>
  (s_one (s_ret (e_and (e_isi m_isinstance m_str boot_str' (by decide) (e_nm 0)) (e_one (ec (c_in hr) (e_nm 0) (e_nm 1))))))
/-! is_kind -/
def B_is_kind : SF := (seqF (ifS (orT (notT (truF (isiF "tuple" (nmF 0)))) (orT (boolF (opF (inG true) (cbF lenG (consF (nmF 0) nilF)) (tupF (consF (cF (.int (1))) (consF (cF (.int (3))) nilF))))) (notT (truF (isiF "str" (opF ixG (nmF 0) (cF (.int (0)))))))))
  (retF (cF (.bool false)))
  passF)
  (seqF (ifS (boolF (opF eqG (cbF lenG (consF (nmF 0) nilF)) (cF (.int (1)))))
  (retF (opF (inG false) (opF ixG (nmF 0) (cF (.int (0)))) (cF K_SIMPLE_KINDS)))
  passF)
  (seqF (ifS (boolF (opF eqG (opF ixG (nmF 0) (cF (.int (0)))) (cF (.str "ring"))))
  (retF (andE (callF F_is_number (consF (opF ixG (nmF 0) (cF (.int (1)))) (consF (cF (.int (1))) (consF (cF (.int (12))) nilF)))) (callF F_is_one_of (consF (opF ixG (nmF 0) (cF (.int (2)))) (consF (cF K_RING_MODES) nilF)))))
  passF)
  (retF (andE (opF eqG (opF ixG (nmF 0) (cF (.int (0)))) (cF (.str "gauge"))) (andE (callF F_is_number (consF (opF ixG (nmF 0) (cF (.int (1)))) (consF (cF (.int (1))) (consF (cF (.int (999))) nilF)))) (callF F_is_one_of (consF (opF ixG (nmF 0) (cF (.int (2)))) (consF (cF K_GAUGE_MODES) nilF)))))))))
def F_is_kind : FD := runF 1 1 B_is_kind
abbrev S_is_kind : Stmt := top 17
theorem sc_is_kind : FnScope ["value"] ["value"] (defScope S_is_kind) := ⟨rfl, rfl, rfl, by decide +kernel, rfl, by decide +kernel, by decide +kernel⟩
theorem d_is_kind {P : Program} {w : World} {K : Frag} {mg : Str → Option Value} {base : Heap} (h : HereG K mg "is_kind" S_is_kind ["value"]) (d_is_number : DefG P w K mg base 2 "is_number" 3 F_is_number) (d_is_one_of : DefG P w K mg base 1 "is_one_of" 2 F_is_one_of) (g_SIMPLE_KINDS : GlD K mg "SIMPLE_KINDS" K_SIMPLE_KINDS) (g_MOST_RING : GlD K mg "MOST_RING" K_MOST_RING) (g_RING_MODES : GlD K mg "RING_MODES" K_RING_MODES) (g_MOST_GAUGE : GlD K mg "MOST_GAUGE" K_MOST_GAUGE) (g_GAUGE_MODES : GlD K mg "GAUGE_MODES" K_GAUGE_MODES) (m_isinstance : mg "isinstance" = none) (m_tuple : mg "tuple" = none) (m_len : mg "len" = none) (m_str : mg "str" = none)   : DefG P w K mg base 3 "is_kind" 1 F_is_kind :=
  h.def sc_is_kind rfl rfl fun fa cdv A outer s H E hr hgd =>
  (s_cons (s_if (t_w (w_or (t_not (t_tru (e_isi m_isinstance m_tuple boot_tuple' (by decide) (e_nm 0)))) (w_or (tc (c_nin hr) (e_bi b_len m_len (a_cons (e_nm 0) a_nil)) (e_tup (a_cons e_int (a_cons e_int a_nil)))) (w_or1 (t_not (t_tru (e_isi m_isinstance m_str boot_str' (by decide) (e_ix hr (e_nm 0) e_int))))))))
  (s_one (s_ret e_bl))
  s_nil)
  (s_cons (s_if (tc (c_eq hr) (e_bi b_len m_len (a_cons (e_nm 0) a_nil)) e_int)
  (s_one (s_ret (ec (c_in hr) (e_ix hr (e_nm 0) e_int) (e_gl g_SIMPLE_KINDS))))
  s_nil)
  (s_cons (s_if (tc (c_eq hr) (e_ix hr (e_nm 0) e_int) e_str)
  (s_one (s_ret (e_and (e_cg d_is_number (hr.mono (by decide)) hgd (takes_of rfl rfl rfl rfl) (a_cons (e_ix hr (e_nm 0) e_int) (a_cons e_int (a_cons (e_gl g_MOST_RING) a_nil)))) (e_one (e_cg d_is_one_of (hr.mono (by decide)) hgd (takes_of rfl rfl rfl rfl) (a_cons (e_ix hr (e_nm 0) e_int) (a_cons (e_gl g_RING_MODES) a_nil)))))))
  s_nil)
  (s_one (s_ret (e_and (ec (c_eq hr) (e_ix hr (e_nm 0) e_int) e_str) (e_and (e_cg d_is_number (hr.mono (by decide)) hgd (takes_of rfl rfl rfl rfl) (a_cons (e_ix hr (e_nm 0) e_int) (a_cons e_int (a_cons (e_gl g_MOST_GAUGE) a_nil)))) (e_one (e_cg d_is_one_of (hr.mono (by decide)) hgd (takes_of rfl rfl rfl rfl) (a_cons (e_ix hr (e_nm 0) e_int) (a_cons (e_gl g_GAUGE_MODES) a_nil)))))))))))
/-! _law_fits_letter -/
def B__law_fits_letter : SF := (seqF (ifS (orT (notT (truF (isiF "str" (nmF 0)))) (notT (boolF (chF leG leG (cF (.int (1))) (cbF lenG (consF (nmF 0) nilF)) (cF (.int (4)))))))
  (retF (cF (.bool false)))
  passF)
  (retF (cbF allC (consF (lcF (itF (nmF 0)) [1] (tgN 1) yesF (opF (inG false) (nmF 1) (cF (.str "abcdefghijklmnopqrstuvwxyz")))) nilF))))
def F__law_fits_letter : FD := runF 1 2 B__law_fits_letter
abbrev S__law_fits_letter : Stmt := top 28
theorem sc__law_fits_letter : FnScope ["_law_value", "_law_sign"] ["_law_value"] (defScope S__law_fits_letter) := ⟨rfl, rfl, rfl, by decide +kernel, rfl, by decide +kernel, by decide +kernel⟩
theorem d__law_fits_letter {P : Program} {w : World} {K : Frag} {mg : Str → Option Value} {base : Heap} (h : HereG K mg "_law_fits_letter" S__law_fits_letter ["_law_value"]) (m_isinstance : mg "isinstance" = none) (m_str : mg "str" = none) (m_len : mg "len" = none) (m_all : mg "all" = none)   : DefG P w K mg base 1 "_law_fits_letter" 1 F__law_fits_letter :=
  h.def sc__law_fits_letter rfl rfl fun fa cdv A outer s H E hr hgd =>
  (s_cons (s_if (t_w (w_or (t_not (t_tru (e_isi m_isinstance m_str boot_str' (by decide) (e_nm 0)))) (w_or1 (t_not (tch (c_le hr) (c_le hr) e_int (e_bi b_len m_len (a_cons (e_nm 0) a_nil)) e_int)))))
  (s_one (s_ret e_bl))
  s_nil)
  (s_one (s_ret (e_bi (b_all rfl) m_all (a_cons (e_lc (own := [("_law_sign", 1)]) rfl sc__law_fits_letter.nd (i_it (e_nm 0)) (show BlkOk ["_law_value", "_law_sign"] (defScope S__law_fits_letter) _ [("_law_sign", 1)] from ⟨rfl, by decide +kernel, by decide +kernel, by decide +kernel, by decide +kernel⟩) (tgw tg_name (by decide)) (fun s H C cl fp => ⟨(pg_name (i := 1) sc__law_fits_letter.nd rfl (by first | exact Or.inl rfl | exact Or.inr rfl)), c_nil, (ec (c_in hr) (e_nm 1) e_str)⟩)) a_nil)))))
/-! _law_fits_number -/
def B__law_fits_number : SF := (retF (andE (isiF "int" (nmF 0)) (andE (notE (isiF "bool" (nmF 0))) (chF leG leG (nmF 1) (nmF 0) (nmF 2)))))
def F__law_fits_number : FD := runF 3 3 B__law_fits_number
abbrev S__law_fits_number : Stmt := top 29
theorem sc__law_fits_number : FnScope ["_law_value", "_law_low", "_law_high"] ["_law_value", "_law_low", "_law_high"] (defScope S__law_fits_number) := ⟨rfl, rfl, rfl, by decide +kernel, rfl, by decide +kernel, by decide +kernel⟩
theorem d__law_fits_number {P : Program} {w : World} {K : Frag} {mg : Str → Option Value} {base : Heap} (h : HereG K mg "_law_fits_number" S__law_fits_number ["_law_value", "_law_low", "_law_high"]) (m_isinstance : mg "isinstance" = none) (m_int : mg "int" = none) (m_bool : mg "bool" = none)   : DefG P w K mg base 1 "_law_fits_number" 3 F__law_fits_number :=
  h.def sc__law_fits_number rfl rfl fun fa cdv A outer s H E hr hgd =>
  (s_one (s_ret (e_and (e_isi m_isinstance m_int boot_int' (by decide) (e_nm 0)) (e_and (e_not (e_isi m_isinstance m_bool boot_bool' (by decide) (e_nm 0))) (e_one (ech (c_le hr) (c_le hr) (e_nm 1) (e_nm 0) (e_nm 2)))))))
/-! _law_fits_kind -/
def B__law_fits_kind : SF := (seqF (ifS (orT (notT (truF (isiF "tuple" (nmF 0)))) (orT (boolF (opF eqG (nmF 0) (tupF nilF))) (notT (truF (isiF "str" (opF ixG (nmF 0) (cF (.int (0)))))))))
  (retF (cF (.bool false)))
  passF)
  (seqF (ifS (boolF (opF eqG (cbF lenG (consF (nmF 0) nilF)) (cF (.int (1)))))
  (retF (opF (inG false) (opF ixG (nmF 0) (cF (.int (0)))) (lstF (consF (cF (.str "stack")) (consF (cF (.str "queue")) (consF (cF (.str "tape")) (consF (cF (.str "heap")) (consF (cF (.str "table")) nilF))))))))
  passF)
  (seqF (ifS (orT (boolF (opF neG (cbF lenG (consF (nmF 0) nilF)) (cF (.int (3))))) (orT (boolF (opF (inG true) (opF ixG (nmF 0) (cF (.int (0)))) (lstF (consF (cF (.str "ring")) (consF (cF (.str "gauge")) nilF))))) (notT (truF (isiF "str" (opF ixG (nmF 0) (cF (.int (2)))))))))
  (retF (cF (.bool false)))
  passF)
  (seqF (ifS (boolF (opF eqG (opF ixG (nmF 0) (cF (.int (0)))) (cF (.str "ring"))))
  (retF (andE (callF F__law_fits_number (consF (opF ixG (nmF 0) (cF (.int (1)))) (consF (cF (.int (1))) (consF (cF (.int (12))) nilF)))) (opF (inG false) (opF ixG (nmF 0) (cF (.int (2)))) (lstF (consF (cF (.str "drop")) (consF (cF (.str "ignore")) (consF (cF (.str "fail")) nilF)))))))
  passF)
  (retF (andE (callF F__law_fits_number (consF (opF ixG (nmF 0) (cF (.int (1)))) (consF (cF (.int (1))) (consF (cF (.int (999))) nilF)))) (opF (inG false) (opF ixG (nmF 0) (cF (.int (2)))) (lstF (consF (cF (.str "stop")) (consF (cF (.str "fail")) nilF))))))))))
def F__law_fits_kind : FD := runF 1 1 B__law_fits_kind
abbrev S__law_fits_kind : Stmt := top 30
theorem sc__law_fits_kind : FnScope ["_law_value"] ["_law_value"] (defScope S__law_fits_kind) := ⟨rfl, rfl, rfl, by decide +kernel, rfl, by decide +kernel, by decide +kernel⟩
theorem d__law_fits_kind {P : Program} {w : World} {K : Frag} {mg : Str → Option Value} {base : Heap} (h : HereG K mg "_law_fits_kind" S__law_fits_kind ["_law_value"]) (d__law_fits_number : DefG P w K mg base 1 "_law_fits_number" 3 F__law_fits_number) (m_isinstance : mg "isinstance" = none) (m_tuple : mg "tuple" = none) (m_str : mg "str" = none) (m_len : mg "len" = none)   : DefG P w K mg base 2 "_law_fits_kind" 1 F__law_fits_kind :=
  h.def sc__law_fits_kind rfl rfl fun fa cdv A outer s H E hr hgd =>
  (s_cons (s_if (t_w (w_or (t_not (t_tru (e_isi m_isinstance m_tuple boot_tuple' (by decide) (e_nm 0)))) (w_or (tc (c_eq hr) (e_nm 0) (e_tup a_nil)) (w_or1 (t_not (t_tru (e_isi m_isinstance m_str boot_str' (by decide) (e_ix hr (e_nm 0) e_int))))))))
  (s_one (s_ret e_bl))
  s_nil)
  (s_cons (s_if (tc (c_eq hr) (e_bi b_len m_len (a_cons (e_nm 0) a_nil)) e_int)
  (s_one (s_ret (ec (c_in hr) (e_ix hr (e_nm 0) e_int) (e_lst (a_cons e_str (a_cons e_str (a_cons e_str (a_cons e_str (a_cons e_str a_nil)))))))))
  s_nil)
  (s_cons (s_if (t_w (w_or (tc (c_ne hr) (e_bi b_len m_len (a_cons (e_nm 0) a_nil)) e_int) (w_or (tc (c_nin hr) (e_ix hr (e_nm 0) e_int) (e_lst (a_cons e_str (a_cons e_str a_nil)))) (w_or1 (t_not (t_tru (e_isi m_isinstance m_str boot_str' (by decide) (e_ix hr (e_nm 0) e_int))))))))
  (s_one (s_ret e_bl))
  s_nil)
  (s_cons (s_if (tc (c_eq hr) (e_ix hr (e_nm 0) e_int) e_str)
  (s_one (s_ret (e_and (e_cg d__law_fits_number (hr.mono (by decide)) hgd (takes_of rfl rfl rfl rfl) (a_cons (e_ix hr (e_nm 0) e_int) (a_cons e_int (a_cons e_int a_nil)))) (e_one (ec (c_in hr) (e_ix hr (e_nm 0) e_int) (e_lst (a_cons e_str (a_cons e_str (a_cons e_str a_nil)))))))))
  s_nil)
  (s_one (s_ret (e_and (e_cg d__law_fits_number (hr.mono (by decide)) hgd (takes_of rfl rfl rfl rfl) (a_cons (e_ix hr (e_nm 0) e_int) (a_cons e_int (a_cons e_int a_nil)))) (e_one (ec (c_in hr) (e_ix hr (e_nm 0) e_int) (e_lst (a_cons e_str (a_cons e_str a_nil))))))))))))
/-! law -/
def B_law : SF := (seqF (setF 1 (callF F__law_pool (consF (nmF 0) (consF (cF (.int (0))) nilF))))
  (seqF (forF (rngF (consF (cF (.int (16))) nilF)) (tgN 2)
  (seqF (setF 3 (callF F__law_text (consF (nmF 1) nilF)))
  (seqF (setF 4 (callF F__law_some_kind (consF (nmF 1) nilF)))
  (seqF (ifS (boolF (opF eqG (callF F__law_take (consF (nmF 1) (consF (cF (.int (2))) nilF))) (cF (.int (0)))))
  (setF 4 (callF F__law_bent (consF (nmF 1) (consF (nmF 4) nilF))))
  passF)
  (seqF (setF 5 (callF F__law_strange (consF (nmF 1) nilF)))
  (forF (itF (lstF (consF (nmF 3) (consF (nmF 4) (consF (nmF 5) nilF))))) (tgN 6)
  (seqF (setF 7 (lstF (consF (callF F_is_letter (consF (nmF 6) nilF)) (consF (callF F_is_kind (consF (nmF 6) nilF)) nilF))))
  (seqF (ifS (boolF (opF neG (lcF (itF (nmF 7)) [8] (tgN 8) yesF (opF (isG false) (nmF 8) (cF (.bool true)))) (lstF (consF (callF F__law_fits_letter (consF (nmF 6) nilF)) (consF (callF F__law_fits_kind (consF (nmF 6) nilF)) nilF)))))
  (retF (cF (.bool false)))
  passF)
  (ifS (notT (truF (cbF allC (consF (lcF (itF (nmF 7)) [8] (tgN 8) yesF (isiF "bool" (nmF 8))) nilF))))
  (retF (cF (.bool false)))
  passF)))))))))
  (seqF (ifS (orT (notT (truF (callF F__law_new_holds (consF (callF F__law_pool (consF (nmF 0) (consF (cF (.int (1))) nilF))) nilF)))) (notT (truF (callF F__law_two_signs_hold (consF (callF F__law_pool (consF (nmF 0) (consF (cF (.int (2))) nilF))) nilF)))))
  (retF (cF (.bool false)))
  passF)
  (retF (opF eqG (callF F_new_letter (consF (lstF nilF) nilF)) (cF (.str "a")))))))
def F_law : FD := runF 1 9 B_law
abbrev S_law : Stmt := top 39
theorem sc_law : FnScope ["_law_script", "_law_source", "_law_k", "_law_text_here", "_law_kind_here", "_law_odd", "_law_value", "_law_told", "_law_one_here"] ["_law_script"] (defScope S_law) := ⟨rfl, rfl, rfl, by decide +kernel, rfl, by decide +kernel, by decide +kernel⟩
theorem d_law {P : Program} {w : World} {K : Frag} {mg : Str → Option Value} {base : Heap} (h : HereG K mg "law" S_law ["_law_script"]) (d__law_pool : DefG P w K mg base 1 "_law_pool" 2 F__law_pool) (d__law_text : DefG P w K mg base 3 "_law_text" 1 F__law_text) (d__law_some_kind : DefG P w K mg base 5 "_law_some_kind" 1 F__law_some_kind) (d__law_take : DefG P w K mg base 1 "_law_take" 2 F__law_take) (d__law_bent : DefG P w K mg base 4 "_law_bent" 2 F__law_bent) (d__law_strange : DefG P w K mg base 3 "_law_strange" 1 F__law_strange) (d_is_kind : DefG P w K mg base 3 "is_kind" 1 F_is_kind) (d_is_letter : DefG P w K mg base 1 "is_letter" 1 F_is_letter) (d__law_fits_kind : DefG P w K mg base 2 "_law_fits_kind" 1 F__law_fits_kind) (d__law_fits_letter : DefG P w K mg base 1 "_law_fits_letter" 1 F__law_fits_letter) (d__law_new_holds : DefG P w K mg base 5 "_law_new_holds" 1 F__law_new_holds) (d__law_two_signs_hold : DefG P w K mg base 4 "_law_two_signs_hold" 1 F__law_two_signs_hold) (d_new_letter : DefG P w K mg base 3 "new_letter" 1 F_new_letter) (m_range : mg "range" = none) (m_all : mg "all" = none) (m_isinstance : mg "isinstance" = none) (m_bool : mg "bool" = none)   : DefG P w K mg base 6 "law" 1 F_law :=
  h.def sc_law rfl rfl fun fa cdv A outer s H E hr hgd =>
  (s_cons (s_set 1 sc_law.nd (e_cg d__law_pool (hr.mono (by decide)) hgd (takes_of rfl rfl rfl rfl) (a_cons (e_nm 0) (a_cons e_int a_nil))))
  (s_cons (s_for (passes_of rfl) rfl (i_rng1 m_range (a_cons e_int a_nil)) (pg_name (i := 2) sc_law.nd rfl (by first | exact Or.inl rfl | exact Or.inr rfl)) tg_name
  (s_cons (s_set 3 sc_law.nd (e_cg d__law_text (hr.mono (by decide)) hgd (takes_of rfl rfl rfl rfl) (a_cons (e_nm 1) a_nil)))
  (s_cons (s_set 4 sc_law.nd (e_cg d__law_some_kind (hr.mono (by decide)) hgd (takes_of rfl rfl rfl rfl) (a_cons (e_nm 1) a_nil)))
  (s_cons (s_if (tc (c_eq hr) (e_cg d__law_take (hr.mono (by decide)) hgd (takes_of rfl rfl rfl rfl) (a_cons (e_nm 1) (a_cons e_int a_nil))) e_int)
  (s_one (s_set 4 sc_law.nd (e_cg d__law_bent (hr.mono (by decide)) hgd (takes_of rfl rfl rfl rfl) (a_cons (e_nm 1) (a_cons (e_nm 4) a_nil)))))
  s_nil)
  (s_cons (s_set 5 sc_law.nd (e_cg d__law_strange (hr.mono (by decide)) hgd (takes_of rfl rfl rfl rfl) (a_cons (e_nm 1) a_nil)))
  (s_one (s_for (passes_of rfl) rfl (i_it (e_lst (a_cons (e_nm 3) (a_cons (e_nm 4) (a_cons (e_nm 5) a_nil))))) (pg_name (i := 6) sc_law.nd rfl (by first | exact Or.inl rfl | exact Or.inr rfl)) tg_name
  (s_cons (s_set 7 sc_law.nd (e_lst (a_cons (e_cg d_is_letter (hr.mono (by decide)) hgd (takes_of rfl rfl rfl rfl) (a_cons (e_nm 6) a_nil)) (a_cons (e_cg d_is_kind (hr.mono (by decide)) hgd (takes_of rfl rfl rfl rfl) (a_cons (e_nm 6) a_nil)) a_nil))))
  (s_cons (s_if (tc (c_ne hr) (e_lc (own := [("_law_one_here", 8)]) rfl sc_law.nd (i_it (e_nm 7)) (show BlkOk ["_law_script", "_law_source", "_law_k", "_law_text_here", "_law_kind_here", "_law_odd", "_law_value", "_law_told", "_law_one_here"] (defScope S_law) _ [("_law_one_here", 8)] from ⟨rfl, by decide +kernel, by decide +kernel, by decide +kernel, by decide +kernel⟩) (tgw tg_name (by decide)) (fun s H C cl fp => ⟨(pg_name (i := 8) sc_law.nd rfl (by first | exact Or.inl rfl | exact Or.inr rfl)), c_nil, (ec (c_is hr) (e_nm 8) e_bl)⟩)) (e_lst (a_cons (e_cg d__law_fits_letter (hr.mono (by decide)) hgd (takes_of rfl rfl rfl rfl) (a_cons (e_nm 6) a_nil)) (a_cons (e_cg d__law_fits_kind (hr.mono (by decide)) hgd (takes_of rfl rfl rfl rfl) (a_cons (e_nm 6) a_nil)) a_nil))))
  (s_one (s_ret e_bl))
  s_nil)
  (s_one (s_if (t_not (t_tru (e_bi (b_all rfl) m_all (a_cons (e_lc (own := [("_law_one_here", 8)]) rfl sc_law.nd (i_it (e_nm 7)) (show BlkOk ["_law_script", "_law_source", "_law_k", "_law_text_here", "_law_kind_here", "_law_odd", "_law_value", "_law_told", "_law_one_here"] (defScope S_law) _ [("_law_one_here", 8)] from ⟨rfl, by decide +kernel, by decide +kernel, by decide +kernel, by decide +kernel⟩) (tgw tg_name (by decide)) (fun s H C cl fp => ⟨(pg_name (i := 8) sc_law.nd rfl (by first | exact Or.inl rfl | exact Or.inr rfl)), c_nil, (e_isi m_isinstance m_bool boot_bool' (by decide) (e_nm 8))⟩)) a_nil))))
  (s_one (s_ret e_bl))
  s_nil)))))))))))
  (s_cons (s_if (t_w (w_or (t_not (t_tru (e_cg d__law_new_holds (hr.mono (by decide)) hgd (takes_of rfl rfl rfl rfl) (a_cons (e_cg d__law_pool (hr.mono (by decide)) hgd (takes_of rfl rfl rfl rfl) (a_cons (e_nm 0) (a_cons e_int a_nil))) a_nil)))) (w_or1 (t_not (t_tru (e_cg d__law_two_signs_hold (hr.mono (by decide)) hgd (takes_of rfl rfl rfl rfl) (a_cons (e_cg d__law_pool (hr.mono (by decide)) hgd (takes_of rfl rfl rfl rfl) (a_cons (e_nm 0) (a_cons e_int a_nil))) a_nil)))))))
  (s_one (s_ret e_bl))
  s_nil)
  (s_one (s_ret (ec (c_eq hr) (e_cg d_new_letter (hr.mono (by decide)) hgd (takes_of rfl rfl rfl rfl) (a_cons (e_lst a_nil) a_nil)) e_str))))))
end S00

noncomputable section
namespace S00
open PySem PySem.Spec PyProof.Rows L2 VL HDK
abbrev P : Program := PySem.Challenge.pw_boxeffects_k00_letters_and_kinds
def D__law_pool : He.DefD := ⟨("_law_pool", none), "_law_pool", "_law_pool", defArgs (top 22), defBody (top 22), defScope (top 22), [], []⟩
def D__law_take : He.DefD := ⟨("_law_take", none), "_law_take", "_law_take", defArgs (top 23), defBody (top 23), defScope (top 23), [], []⟩
def D__law_one : He.DefD := ⟨("_law_one", none), "_law_one", "_law_one", defArgs (top 24), defBody (top 24), defScope (top 24), [], []⟩
def D__law_text : He.DefD := ⟨("_law_text", none), "_law_text", "_law_text", defArgs (top 32), defBody (top 32), defScope (top 32), [], []⟩
def D__law_kind_of : He.DefD := ⟨("_law_kind_of", none), "_law_kind_of", "_law_kind_of", defArgs (top 27), defBody (top 27), defScope (top 27), [], []⟩
def D__law_kind : He.DefD := ⟨("_law_kind", none), "_law_kind", "_law_kind", defArgs (top 26), defBody (top 26), defScope (top 26), [], []⟩
def D__law_some_kind : He.DefD := ⟨("_law_some_kind", none), "_law_some_kind", "_law_some_kind", defArgs (top 33), defBody (top 33), defScope (top 33), [], []⟩
def D__law_strange : He.DefD := ⟨("_law_strange", none), "_law_strange", "_law_strange", defArgs (top 31), defBody (top 31), defScope (top 31), [], []⟩
def D_numbered_letter : He.DefD := ⟨("numbered_letter", none), "numbered_letter", "numbered_letter", defArgs (top 18), defBody (top 18), defScope (top 18), [], []⟩
def D_letter_beyond : He.DefD := ⟨("letter_beyond", none), "letter_beyond", "letter_beyond", defArgs (top 19), defBody (top 19), defScope (top 19), [], []⟩
def D_is_line : He.DefD := ⟨("is_line", none), "is_line", "is_line", defArgs (top 14), defBody (top 14), defScope (top 14), [], []⟩
def D_is_letter : He.DefD := ⟨("is_letter", none), "is_letter", "is_letter", defArgs (top 16), defBody (top 16), defScope (top 16), [], []⟩
def D_new_letter : He.DefD := ⟨("new_letter", none), "new_letter", "new_letter", defArgs (top 20), defBody (top 20), defScope (top 20), [], []⟩
def D__law_bent : He.DefD := ⟨("_law_bent", none), "_law_bent", "_law_bent", defArgs (top 34), defBody (top 34), defScope (top 34), [], []⟩
def D__law_refused : He.DefD := ⟨("_law_refused", none), "_law_refused", "_law_refused", defArgs (top 36), defBody (top 36), defScope (top 36), [], []⟩
def D__law_turned : He.DefD := ⟨("_law_turned", none), "_law_turned", "_law_turned", defArgs (top 25), defBody (top 25), defScope (top 25), [], []⟩
def D__law_due_letter : He.DefD := ⟨("_law_due_letter", none), "_law_due_letter", "_law_due_letter", defArgs (top 35), defBody (top 35), defScope (top 35), [], []⟩
def D__law_new_holds : He.DefD := ⟨("_law_new_holds", none), "_law_new_holds", "_law_new_holds", defArgs (top 37), defBody (top 37), defScope (top 37), [], []⟩
def D__law_two_signs_hold : He.DefD := ⟨("_law_two_signs_hold", none), "_law_two_signs_hold", "_law_two_signs_hold", defArgs (top 38), defBody (top 38), defScope (top 38), [], []⟩
def D_is_whole : He.DefD := ⟨("is_whole", none), "is_whole", "is_whole", defArgs (top 12), defBody (top 12), defScope (top 12), [], []⟩
def D_is_number : He.DefD := ⟨("is_number", none), "is_number", "is_number", defArgs (top 13), defBody (top 13), defScope (top 13), [], []⟩
def D_is_one_of : He.DefD := ⟨("is_one_of", none), "is_one_of", "is_one_of", defArgs (top 15), defBody (top 15), defScope (top 15), [], []⟩
def D_is_kind : He.DefD := ⟨("is_kind", none), "is_kind", "is_kind", defArgs (top 17), defBody (top 17), defScope (top 17), [], []⟩
def D__law_fits_letter : He.DefD := ⟨("_law_fits_letter", none), "_law_fits_letter", "_law_fits_letter", defArgs (top 28), defBody (top 28), defScope (top 28), [], []⟩
def D__law_fits_number : He.DefD := ⟨("_law_fits_number", none), "_law_fits_number", "_law_fits_number", defArgs (top 29), defBody (top 29), defScope (top 29), [], []⟩
def D__law_fits_kind : He.DefD := ⟨("_law_fits_kind", none), "_law_fits_kind", "_law_fits_kind", defArgs (top 30), defBody (top 30), defScope (top 30), [], []⟩
def D_law : He.DefD := ⟨("law", none), "law", "law", defArgs (top 39), defBody (top 39), defScope (top 39), [], []⟩
def fn : List He.DefD := [D__law_pool, D__law_take, D__law_one, D__law_text, D__law_kind_of, D__law_kind, D__law_some_kind, D__law_strange, D_numbered_letter, D_letter_beyond, D_is_line, D_is_letter, D_new_letter, D__law_bent, D__law_refused, D__law_turned, D__law_due_letter, D__law_new_holds, D__law_two_signs_hold, D_is_whole, D_is_number, D_is_one_of, D_is_kind, D__law_fits_letter, D__law_fits_number, D__law_fits_kind, D_law]
def fa0 : List He.Fa := [.glo "_law_pool", .glo "_law_take", .glo "_law_one", .glo "_law_text", .glo "_law_kind_of", .glo "_law_kind", .glo "_law_some_kind", .glo "_law_strange", .glo "numbered_letter", .glo "letter_beyond", .glo "is_line", .glo "is_letter", .glo "new_letter", .glo "_law_bent", .glo "_law_refused"]
def fa1 : List He.Fa := [.glo "_law_turned", .glo "_law_due_letter", .glo "_law_new_holds", .glo "_law_two_signs_hold", .glo "is_whole", .glo "is_number", .glo "is_one_of", .glo "is_kind", .glo "_law_fits_letter", .glo "_law_fits_number", .glo "_law_fits_kind", .glo "law", .free "ValueError", .free "all", .free "bool"]
def fa2 : List He.Fa := [.free "int", .free "isinstance", .free "len", .free "list", .free "max", .free "range", .free "repr", .free "str", .free "super", .free "tuple"]
def fa : List He.Fa := fa0 ++ fa1 ++ fa2
def gl0 : List (Str × D) := [(("ALPHABET" : Str), (.str "abcdefghijklmnopqrstuvwxyz")), (("GAUGE_MODES" : Str), (.tuple [(.str "stop"), (.str "fail")])), (("MOST_GAUGE" : Str), (.int (999))), (("MOST_LETTERS" : Str), (.int (4000))), (("MOST_RING" : Str), (.int (12))), (("MOST_SIGNS" : Str), (.int (4))), (("RING_MODES" : Str), (.tuple [(.str "drop"), (.str "ignore"), (.str "fail")])), (("SIMPLE_KINDS" : Str), (.tuple [(.str "stack"), (.str "queue"), (.str "tape"), (.str "heap"), (.str "table")]))]
def gl : List (Str × D) := gl0
def tb0 : List (List Str × List Str) := []
def tb : List (List Str × List Str) := tb0
def loose0 : List Str := [("BoxError" : Str), ("NoLetter" : Str), ("ALPHABET" : Str), ("MOST_SIGNS" : Str), ("MOST_LETTERS" : Str), ("MOST_RING" : Str), ("MOST_GAUGE" : Str), ("RING_MODES" : Str), ("GAUGE_MODES" : Str), ("SIMPLE_KINDS" : Str), ("is_whole" : Str), ("is_number" : Str), ("is_line" : Str), ("is_one_of" : Str), ("is_letter" : Str)]
def loose1 : List Str := [("is_kind" : Str), ("numbered_letter" : Str), ("letter_beyond" : Str), ("new_letter" : Str), ("_law_pool" : Str), ("_law_take" : Str), ("_law_one" : Str), ("_law_turned" : Str), ("_law_kind" : Str), ("_law_kind_of" : Str), ("_law_fits_letter" : Str), ("_law_fits_number" : Str), ("_law_fits_kind" : Str), ("_law_strange" : Str), ("_law_text" : Str)]
def loose2 : List Str := [("_law_some_kind" : Str), ("_law_bent" : Str), ("_law_due_letter" : Str), ("_law_refused" : Str), ("_law_new_holds" : Str), ("_law_two_signs_hold" : Str)]
def loose : List Str := loose0 ++ loose1 ++ loose2
def Z : Wd := ⟨fa, fn, gl, "", tb⟩
def ER_BoxError : Er := ⟨"BoxError", "told", ["BoxError", "ValueError"], true, "BoxError.__init__", defArgs (inSt (top 1)), defBody (inSt (top 1)), defScope (inSt (top 1))⟩
def ER_NoLetter : Er := ⟨"NoLetter", "told", ["NoLetter", "BoxError", "ValueError"], true, "BoxError.__init__", defArgs (inSt (top 1)), defBody (inSt (top 1)), defScope (inSt (top 1))⟩
def ERS : List Er := [ER_BoxError, ER_NoLetter]
theorem er_BoxError : ErOk P ER_BoxError := ⟨"told", _, _, _, _, _, _, _, _, _, _, rfl, fun env => ⟨_, rfl⟩, rfl, rfl, rfl, by decide, rfl, rfl, rfl, rfl, ⟨_, rfl, rfl⟩, by decide, by decide, fun _ _ _ _ _ _ _ _ _ => rfl, rfl⟩
theorem er_NoLetter : ErOk P ER_NoLetter := ⟨"told", _, _, _, _, _, _, _, _, _, _, rfl, fun env => ⟨_, rfl⟩, rfl, rfl, rfl, by decide, rfl, rfl, rfl, rfl, ⟨_, rfl, rfl⟩, by decide, by decide, fun _ _ _ _ _ _ _ _ _ => rfl, rfl⟩
theorem ersOk : ∀ r ∈ ERS, ErOk P r := fun r hr => by
  rcases List.mem_cons.mp hr with rfl | hr
  · exact er_BoxError
  rcases List.mem_cons.mp hr with rfl | hr
  · exact er_NoLetter
  cases hr
abbrev R : PySem.W.OpenRow := PySem.W.OpenLaw.row PySem.Challenge.rw_boxeffects_k00_letters_and_kinds
abbrev q : Program := PySem.W.view R.prog [39]
abbrev hk : PySem.W.Hook := hookN 4 P Z ERS
def ob (s : PySem.W.SharedT) : AlN := obsN 4 P Z ERS (HandSHeadRun.getT s)
theorem ob_eq (s : PySem.W.SharedT) : ob s = hk.obs s.abs := obsN_eq (HandSHeadRun.getT_eq s)
theorem run (w : World) (os : OsState) : partN R q hk ob loose 20000 w os = some (true, PySem.W.openGood q loose, hk.val w) := by kernel_rfl
end S00

namespace S00
open PySem PySem.Spec PyProof.Rows L2 VL HDK
theorem defs {w : World} {K : Frag} {mg : Str → Option Value} {h : Heap} (X : K.In h) (G : h.Ns mainGlobals mg) (S : SaysN P Z ERS w K) (base : Heap) : DefG P w K mg base 6 "law" 1 F_law := by
  have m_ValueError : mg "ValueError" = none := S.free X G 27
  have m_all : mg "all" = none := S.free X G 28
  have m_bool : mg "bool" = none := S.free X G 29
  have m_int : mg "int" = none := S.free X G 30
  have m_isinstance : mg "isinstance" = none := S.free X G 31
  have m_len : mg "len" = none := S.free X G 32
  have m_list : mg "list" = none := S.free X G 33
  have m_max : mg "max" = none := S.free X G 34
  have m_range : mg "range" = none := S.free X G 35
  have m_repr : mg "repr" = none := S.free X G 36
  have m_str : mg "str" = none := S.free X G 37
  have m_super : mg "super" = none := S.free X G 38
  have m_tuple : mg "tuple" = none := S.free X G 39
  have g_ALPHABET : GlD K mg "ALPHABET" K_ALPHABET := S.gl X G 0
  have g_GAUGE_MODES : GlD K mg "GAUGE_MODES" K_GAUGE_MODES := S.gl X G 1
  have g_MOST_GAUGE : GlD K mg "MOST_GAUGE" K_MOST_GAUGE := S.gl X G 2
  have g_MOST_LETTERS : GlD K mg "MOST_LETTERS" K_MOST_LETTERS := S.gl X G 3
  have g_MOST_RING : GlD K mg "MOST_RING" K_MOST_RING := S.gl X G 4
  have g_MOST_SIGNS : GlD K mg "MOST_SIGNS" K_MOST_SIGNS := S.gl X G 5
  have g_RING_MODES : GlD K mg "RING_MODES" K_RING_MODES := S.gl X G 6
  have g_SIMPLE_KINDS : GlD K mg "SIMPLE_KINDS" K_SIMPLE_KINDS := S.gl X G 7
  have ES : ErrS P K mg CTL := show ErrS P K mg (ctOf ERS) from S.err X G ersOk
  have e__law_pool : DefG P w K mg base 1 "_law_pool" 2 F__law_pool := d__law_pool (S.here X G 0 0 (fun _ _ _ _ _ _ us hl => match us, hl with | [_, _], _ => rfl)) m_len m_max m_int
  have e__law_take : DefG P w K mg base 1 "_law_take" 2 F__law_take := d__law_take (S.here X G 1 1 (fun _ _ _ _ _ _ us hl => match us, hl with | [_, _], _ => rfl)) m_int
  have e__law_one : DefG P w K mg base 2 "_law_one" 2 F__law_one := d__law_one (S.here X G 2 2 (fun _ _ _ _ _ _ us hl => match us, hl with | [_, _], _ => rfl)) e__law_take m_len
  have e__law_text : DefG P w K mg base 3 "_law_text" 1 F__law_text := d__law_text (S.here X G 3 3 (fun _ _ _ _ _ _ us hl => match us, hl with | [_], _ => rfl)) e__law_take e__law_one m_range m_len
  have e__law_kind_of : DefG P w K mg base 3 "_law_kind_of" 2 F__law_kind_of := d__law_kind_of (S.here X G 4 4 (fun _ _ _ _ _ _ us hl => match us, hl with | [_, _], _ => rfl)) e__law_one
  have e__law_kind : DefG P w K mg base 4 "_law_kind" 1 F__law_kind := d__law_kind (S.here X G 5 5 (fun _ _ _ _ _ _ us hl => match us, hl with | [_], _ => rfl)) e__law_one e__law_kind_of
  have e__law_some_kind : DefG P w K mg base 5 "_law_some_kind" 1 F__law_some_kind := d__law_some_kind (S.here X G 6 6 (fun _ _ _ _ _ _ us hl => match us, hl with | [_], _ => rfl)) e__law_take e__law_one e__law_kind
  have e__law_strange : DefG P w K mg base 3 "_law_strange" 1 F__law_strange := d__law_strange (S.here X G 7 7 (fun _ _ _ _ _ _ us hl => match us, hl with | [_], _ => rfl)) e__law_one
  have e_numbered_letter : DefG P w K mg base 1 "numbered_letter" 1 F_numbered_letter := d_numbered_letter (S.here X G 8 8 (fun _ _ _ _ _ _ us hl => match us, hl with | [_], _ => rfl)) g_ALPHABET m_range
  have e_letter_beyond : DefG P w K mg base 2 "letter_beyond" 1 F_letter_beyond := d_letter_beyond (S.here X G 9 9 (fun _ _ _ _ _ _ us hl => match us, hl with | [_], _ => rfl)) e_numbered_letter m_len m_range
  have e_is_line : DefG P w K mg base 1 "is_line" 1 F_is_line := d_is_line (S.here X G 10 10 (fun _ _ _ _ _ _ us hl => match us, hl with | [_], _ => rfl)) m_isinstance m_list m_tuple
  have e_is_letter : DefG P w K mg base 1 "is_letter" 1 F_is_letter := d_is_letter (S.here X G 11 11 (fun _ _ _ _ _ _ us hl => match us, hl with | [_], _ => rfl)) g_MOST_SIGNS g_ALPHABET m_isinstance m_str m_len m_all
  have e_new_letter : DefG P w K mg base 3 "new_letter" 1 F_new_letter := d_new_letter (S.here X G 12 12 (fun _ _ _ _ _ _ us hl => match us, hl with | [_], _ => rfl)) e_is_line e_is_letter e_letter_beyond g_MOST_LETTERS m_len m_super ES
  have e__law_bent : DefG P w K mg base 4 "_law_bent" 2 F__law_bent := d__law_bent (S.here X G 13 13 (fun _ _ _ _ _ _ us hl => match us, hl with | [_, _], _ => rfl)) e__law_take e__law_strange m_len m_list
  have e__law_refused : DefG P w K mg base 4 "_law_refused" 1 F__law_refused := d__law_refused (S.here X G 14 14 (fun _ _ _ _ _ _ us hl => match us, hl with | [_], _ => rfl)) e_new_letter m_isinstance m_ValueError m_repr ES
  have e__law_turned : DefG P w K mg base 2 "_law_turned" 2 F__law_turned := d__law_turned (S.here X G 15 15 (fun _ _ _ _ _ _ us hl => match us, hl with | [_, _], _ => rfl)) e__law_take m_list m_len
  have e__law_due_letter : DefG P w K mg base 1 "_law_due_letter" 1 F__law_due_letter := d__law_due_letter (S.here X G 16 16 (fun _ _ _ _ _ _ us hl => match us, hl with | [_], _ => rfl)) 
  have e__law_new_holds : DefG P w K mg base 5 "_law_new_holds" 1 F__law_new_holds := d__law_new_holds (S.here X G 17 17 (fun _ _ _ _ _ _ us hl => match us, hl with | [_], _ => rfl)) e__law_take e__law_one e__law_turned e_new_letter e__law_due_letter e__law_refused m_list m_range m_tuple m_len m_repr
  have e__law_two_signs_hold : DefG P w K mg base 4 "_law_two_signs_hold" 1 F__law_two_signs_hold := d__law_two_signs_hold (S.here X G 18 18 (fun _ _ _ _ _ _ us hl => match us, hl with | [_], _ => rfl)) e__law_one e_new_letter e__law_turned m_list
  have e_is_whole : DefG P w K mg base 1 "is_whole" 1 F_is_whole := d_is_whole (S.here X G 19 19 (fun _ _ _ _ _ _ us hl => match us, hl with | [_], _ => rfl)) m_isinstance m_int m_bool
  have e_is_number : DefG P w K mg base 2 "is_number" 3 F_is_number := d_is_number (S.here X G 20 20 (fun _ _ _ _ _ _ us hl => match us, hl with | [_, _, _], _ => rfl)) e_is_whole
  have e_is_one_of : DefG P w K mg base 1 "is_one_of" 2 F_is_one_of := d_is_one_of (S.here X G 21 21 (fun _ _ _ _ _ _ us hl => match us, hl with | [_, _], _ => rfl)) m_isinstance m_str
  have e_is_kind : DefG P w K mg base 3 "is_kind" 1 F_is_kind := d_is_kind (S.here X G 22 22 (fun _ _ _ _ _ _ us hl => match us, hl with | [_], _ => rfl)) e_is_number e_is_one_of g_SIMPLE_KINDS g_MOST_RING g_RING_MODES g_MOST_GAUGE g_GAUGE_MODES m_isinstance m_tuple m_len m_str
  have e__law_fits_letter : DefG P w K mg base 1 "_law_fits_letter" 1 F__law_fits_letter := d__law_fits_letter (S.here X G 23 23 (fun _ _ _ _ _ _ us hl => match us, hl with | [_], _ => rfl)) m_isinstance m_str m_len m_all
  have e__law_fits_number : DefG P w K mg base 1 "_law_fits_number" 3 F__law_fits_number := d__law_fits_number (S.here X G 24 24 (fun _ _ _ _ _ _ us hl => match us, hl with | [_, _, _], _ => rfl)) m_isinstance m_int m_bool
  have e__law_fits_kind : DefG P w K mg base 2 "_law_fits_kind" 1 F__law_fits_kind := d__law_fits_kind (S.here X G 25 25 (fun _ _ _ _ _ _ us hl => match us, hl with | [_], _ => rfl)) e__law_fits_number m_isinstance m_tuple m_str m_len
  have e_law : DefG P w K mg base 6 "law" 1 F_law := d_law (S.here X G 26 26 (fun _ _ _ _ _ _ us hl => match us, hl with | [_], _ => rfl)) e__law_pool e__law_text e__law_some_kind e__law_take e__law_bent e__law_strange e_is_kind e_is_letter e__law_fits_kind e__law_fits_letter e__law_new_holds e__law_two_signs_hold e_new_letter m_range m_all m_isinstance m_bool
  exact e_law
theorem left : Behind R.prog q loose (fun s => PySem.W.xlAt q [] s && PySem.W.recOk R.toRowW.records s) hk.obs hk.val :=
  behindN ob_eq (by kernel_rfl) (fun s => by kernel_rfl) run
end S00
section
open PySem PySem.W PySem.Calls PyProof.Rows
theorem S00.holds (hF : ∀ ns : List Int, ns.length ≤ 63 → ∃ own ss, S00.F_law [.sh (.list (ns.map PyData.int))] = .ret own (.bool true) ss) : PySem.Challenge.rw_boxeffects_k00_letters_and_kinds.Holds := by
  w_on; o_law
  refine HDK.holds3 (r := OpenLaw.row PySem.Challenge.rw_boxeffects_k00_letters_and_kinds) (q := S00.q) (loose := S00.loose) (H := S00.hk) (d := HandSHeadRun.topDef (OpenLaw.row PySem.Challenge.rw_boxeffects_k00_letters_and_kinds).prog 39) S00.left (by kernel_rfl) (by kernel_rfl) (by kernel_rfl) (by rfl) (by first | assumption | decide +kernel) (by decide +kernel) ⟨rfl, rfl, rfl, rfl, rfl, by decide +kernel⟩ ?hw ?hc
  case hw => w_witness2
  case hc => exact VL.law_endN (l := PySem.Challenge.rw_boxeffects_k00_letters_and_kinds) (n := 63) (k := 6) rfl (by decide) (by kernel_rfl) ⟨rfl, by decide, by decide⟩ (by kernel_rfl) (fun w K mg h X G S base => S00.defs X G S base) hF

end


set_option Elab.async false
set_option linter.all false
set_option maxRecDepth 100000
set_option maxHeartbeats 4000000
/-! PL: running a meaning by simp. -/
namespace VL
open PySem PySem.Spec PyProof.Rows L2
/-- (a law's text has its own) -/
instance (priority := 10) : TbP := ⟨[]⟩
section
variable {α β : Type} {a : α} {e env : En} {x : Xc} {i j : Nat} {d : D} {f g fa fb : EF} {fs : AF} {r r' : Rv} {rs : List Rv}
@[simp] theorem x_bind_ok {k : α → En → Rs β} : (Rs.ok a e).bind k = k a e := rfl
@[simp] theorem x_bind_no {k : α → En → Rs β} : (Rs.no : Rs α).bind k = .no := rfl
@[simp] theorem x_st_ok {k : α → En → Rb} : (Rs.ok a e).st k = k a e := rfl
@[simp] theorem x_st_no {k : α → En → Rb} : (Rs.no : Rs α).st k = .no := rfl
@[simp] theorem x_seq_nx {k : En → Rb} : (Rb.nx e).seq k = k e := rfl
@[simp] theorem x_seq_rt {k : En → Rb} : (Rb.rt r e).seq k = .rt r e := rfl
@[simp] theorem x_seq_no {k : En → Rb} : (Rb.no).seq k = .no := rfl
@[simp] theorem x_seq_bk {k : En → Rb} : (Rb.bk e).seq k = .bk e := rfl
@[simp] theorem x_seq_ct {k : En → Rb} : (Rb.ct e).seq k = .ct e := rfl
@[simp] theorem x_seqF {f g : SF} : seqF f g env = (f env).seq g := rfl
@[simp] theorem x_passF : passF env = .nx env := rfl
@[simp] theorem x_noS : noS env = .no := rfl
@[simp] theorem x_brkF : brkF env = .bk env := rfl
@[simp] theorem x_contF : contF env = .ct env := rfl
@[simp] theorem x_retF : retF f env = (f env).st fun r e => .rt r e := rfl
@[simp] theorem x_exprF : exprF f env = (f env).st fun _ e => .nx e := rfl
@[simp] theorem x_ifS {t : TF} {f g : SF} : ifS t f g env = (t env).st fun b e => if b = true then f e else g e := rfl
@[simp] theorem x_cF : cF d env = .ok (.sh d) env := rfl
@[simp] theorem x_nilF : nilF env = .ok [] env := rfl
@[simp] theorem x_consF : consF f fs env = (f env).bind fun r e => (fs e).bind fun rs e2 => .ok (r :: rs) e2 := rfl
@[simp] theorem x_nmF : nmF i env = match env[i]? with
  | some (.sh d) => .ok (.sh d) env
  | some (.iz d) => .ok (.sh d) env
  | some (.ow _) => .ok (.bo i) env
  | some (.io _) => .ok (.bo i) env
  | _ => .no := rfl
@[simp] theorem x_rd_sh : rd e (.sh d) = some d := rfl
@[simp] theorem x_rd_tm : rd e (.tm d) = some d := rfl
@[simp] theorem x_rd_bo : rd e (.bo i) = match e[i]? with
  | some s => s.rd
  | none => none := rfl
@[simp] theorem x_srd_sh : (Sl.sh d).rd = some d := rfl
@[simp] theorem x_srd_ow : (Sl.ow d).rd = some d := rfl
@[simp] theorem x_srd_io : (Sl.io d).rd = some d := rfl
@[simp] theorem x_srd_iz : (Sl.iz d).rd = some d := rfl
@[simp] theorem x_opF {g : G2} : opF g fa fb env = (fa env).bind fun r1 e1 => (fb e1).bind fun r2 e2 => match rd e2 r1, rd e2 r2 with
  | some x, some y => out1 (g x y) e2
  | _, _ => .no := rfl
@[simp] theorem x_unF {g : G1} : unF g fa env = (fa env).bind fun r1 e1 => match rd e1 r1 with
  | some x => out1 (g x) e1
  | none => .no := rfl
@[simp] theorem x_cbF {g : GC} : cbF g fs env = (fs env).bind fun rs e => match rdAll e rs with
  | some ds => out1 (g ds) e
  | none => .no := rfl
@[simp] theorem x_rdAll_nil : rdAll e [] = some [] := rfl
@[simp] theorem x_rdAll_cons : rdAll e (r :: rs) = match rd e r, rdAll e rs with
    | some d, some ds => some (d :: ds)
    | _, _ => none := rfl
@[simp] theorem x_out_some : out1 (some r) e = .ok r e := rfl
@[simp] theorem x_out_none : out1 none e = .no := rfl
@[simp] theorem x_boolF : boolF f env = (f env).bind fun r e => match rd e r with
  | some (.bool b) => .ok b e
  | _ => .no := rfl
@[simp] theorem x_truF : truF f env = (f env).bind truR := rfl
@[simp] theorem x_truR : truR r e = match rd e r with
  | some d => (match truD d with
    | some b => .ok b e
    | none => .no)
  | none => .no := by
  unfold truR
  cases rd e r <;> rfl
@[simp] theorem x_truD_bool {b : Bool} : truD (.bool b) = some b := rfl
@[simp] theorem x_andT {f g : TF} : andT f g env = (f env).bind fun b e => if b = true then g e else .ok false e := rfl
@[simp] theorem x_orT {f g : TF} : orT f g env = (f env).bind fun b e => if b = true then .ok true e else g e := rfl
@[simp] theorem x_notT {f : TF} : notT f env = (f env).bind fun b e => .ok (!b) e := rfl
@[simp] theorem x_ifE {t : TF} : ifE t f g env = (t env).bind fun k e => if k = true then f e else g e := rfl
@[simp] theorem x_andE : andE f g env = (f env).bind fun r e => (truR r e).bind fun b e => if b = true then g e else .ok r e := rfl
@[simp] theorem x_orE : orE f g env = (f env).bind fun r e => (truR r e).bind fun b e => if b = true then .ok r e else g e := rfl
@[simp] theorem x_notE : notE f env = (f env).bind fun r e => (truR r e).bind fun b e => .ok (.sh (.bool (!b))) e := rfl
@[simp] theorem x_setF : setF i f env = (f env).st fun r e => asgS i r e := rfl
@[simp] theorem x_asg_tm : asgS i (.tm d) e = match putS e i (.ow d) with
    | some e2 => .nx e2
    | none => .no := rfl
@[simp] theorem x_asg_sh : asgS i (.sh d) e = match putS e i (.sh d) with
    | some e2 => .nx e2
    | none => .no := rfl
@[simp] theorem x_asg_bo : asgS i (.bo j) e = match frz e (.bo j) with
    | some (d, e2) => (match putS e2 i (.sh d) with
      | some e3 => .nx e3
      | none => .no)
    | none => .no := rfl
@[simp] theorem x_putS {s : Sl} : putS e i s = match e[i]? with
  | some t => if t.isIo = true then none else some (e.set i s)
  | none => none := rfl
@[simp] theorem x_io_sh : (Sl.sh d).isIo = false := rfl
@[simp] theorem x_io_ow : (Sl.ow d).isIo = false := rfl
@[simp] theorem x_io_un : Sl.un.isIo = false := rfl
@[simp] theorem x_io_io : (Sl.io d).isIo = true := rfl
@[simp] theorem x_mulF : mulF fa fb env = (fa env).bind fun r1 e1 => (fb e1).bind fun r2 e2 => match rd e2 r1, rd e2 r2 with
  | some (.list ds), some (.int k) => if isOwned e2 r1 = true ∧ -(2 ^ 63) ≤ k ∧ k < 2 ^ 63 ∧ ds.length * k.toNat ≤ LIM then .ok (.tm (.list (List.replicate k.toNat ds).flatten)) e2 else .no
  | some x, some y => out1 (mulG2 x y) e2
  | _, _ => .no := by
  unfold mulF
  rfl
variable {m n : Int}
@[simp] theorem x_mulG2 : mulG2 (.int m) (.int n) = if mulOk m n = true then some (.sh (.int (m * n))) else none := by
  unfold mulG2 orG mulG intG tupMulG
  by_cases h : mulOk m n = true <;> simp [h]
@[simp] theorem x_add : addG (.int m) (.int n) = some (.sh (.int (m + n))) := rfl
@[simp] theorem x_sub : subG (.int m) (.int n) = some (.sh (.int (m - n))) := rfl
@[simp] theorem x_mod : modG (.int m) (.int n) = if 0 < n then some (.sh (.int (m % n))) else none := by
  unfold modG intG
  by_cases h : 0 < n <;> simp [h]
@[simp] theorem x_fdiv : fdivG (.int m) (.int n) = if 0 < n ∧ n.natAbs.log2 < 9000 then some (.sh (.int (m / n))) else none := by
  unfold fdivG intG
  by_cases h : 0 < n <;> by_cases h2 : n.natAbs.log2 < 9000 <;> simp [h, h2]
@[simp] theorem x_neg : negG (.int m) = some (.sh (.int (-m))) := rfl
@[simp] theorem x_lt : ltG (.int m) (.int n) = some (.sh (.bool (decide (m < n)))) := rfl
@[simp] theorem x_le : leG (.int m) (.int n) = some (.sh (.bool (decide (m ≤ n)))) := rfl
@[simp] theorem x_gt : gtG (.int m) (.int n) = some (.sh (.bool (decide (n < m)))) := rfl
@[simp] theorem x_ge : geG (.int m) (.int n) = some (.sh (.bool (decide (n ≤ m)))) := rfl
@[simp] theorem x_int : intC [.int m] = some (.sh (.int m)) := rfl
@[simp] theorem x_intb {b : Bool} : intC [.bool b] = some (.sh (.int (if b then 1 else 0))) := rfl
@[simp] theorem x_ii2 {f : Int → Int → Int} : ii2 f [.int m, .int n] = some (.sh (.int (f m n))) := rfl
theorem mulOk_r (h : -(2 ^ 64) < n ∧ n < 2 ^ 64) : mulOk m n = true := by
  unfold mulOk
  simp only [Bool.or_eq_true, decide_eq_true_eq]
  exact .inl (.inr h)
@[simp] theorem x_stoF {f fo fi : EF} : stoF f fo fi env = (f env).st fun r e1 => (fo e1).st fun ro e2 => match ro with
  | .bo i => (fi e2).st fun ri e3 => (match rd e3 ri, frz e3 r with
    | some ix, some (d, e4) => (match mutS e4 i with
      | some d0 => (match stoG d0 ix d with
        | some d' => .nx (mutP e4 i d')
        | none => .no)
      | none => .no)
    | _, _ => .no)
  | _ => .no := rfl
@[simp] theorem x_frz_sh : frz e (.sh d) = some (d, e) := rfl
@[simp] theorem x_mutS : mutS e i = match e[i]? with
  | some (.ow d) => some d
  | some (.io d) => some d
  | _ => none := by
  unfold mutS
  rfl
variable {F : FD} {rs : List Rv} {vs : List Nat} {it : IF} {tgt : GF} {tt : TF} {el : EF} {body : SF} {ds es : List D} {ss : En} {own : Bool}
@[simp] theorem x_callF : callF F fs env = (fs env).bind fun rs e => match agsOf e rs with
  | some as => if once e rs = true then (match F as with
    | .ret true d ss => .ok (.tm d) (backE e rs ss)
    | .ret false d ss => .ok (.sh d) (backE e rs ss)
    | .exc x ss => .ex x (backE e rs ss)
    | .no => .no) else .no
  | none => .no := rfl
@[simp] theorem x_ags_nil : agsOf e [] = some [] := rfl
@[simp] theorem x_ags_cons : agsOf e (r :: rs) = match agOf e r, agsOf e rs with
    | some a, some as => some (a :: as)
    | _, _ => none := rfl
@[simp] theorem x_ag_sh : agOf e (.sh d) = some (.sh d) := rfl
@[simp] theorem x_ag_tm : agOf e (.tm d) = some (.ob d) := rfl
@[simp] theorem x_ag_bo : agOf e (.bo i) = match e[i]? with
    | some (.ow d) => some (.ob d)
    | some (.io d) => some (.ob d)
    | some (.sh d) => some (.sh d)
    | some (.iz d) => some (.sh d)
    | _ => none := rfl
@[simp] theorem x_once_nil : once e [] = true := rfl
@[simp] theorem x_once_sh : once e (.sh d :: rs) = once e rs := rfl
@[simp] theorem x_once_tm : once e (.tm d :: rs) = once e rs := rfl
@[simp] theorem x_once_bo : once e (.bo i :: rs) = (((mutS e i).isNone || !(rs.any (isBo i))) && once e rs) := rfl
@[simp] theorem x_isBo_sh : isBo i (.sh d) = false := rfl
@[simp] theorem x_isBo_tm : isBo i (.tm d) = false := rfl
@[simp] theorem x_isBo_bo : isBo i (.bo j) = (i == j) := rfl
@[simp] theorem x_backE : backE e rs ss = e.mapIdx fun j s => backS s (lookB j rs ss) := rfl
@[simp] theorem x_look_nil : lookB j [] ss = none := by cases ss <;> rfl
@[simp] theorem x_look_nil2 : lookB j rs [] = none := by
  cases rs with
  | nil => rfl
  | cons r rs => cases r <;> rfl
@[simp] theorem x_look_bo {s : Sl} : lookB j (.bo i :: rs) (s :: ss) = if i = j then some s else lookB j rs ss := rfl
@[simp] theorem x_look_sh {s : Sl} : lookB j (.sh d :: rs) (s :: ss) = lookB j rs ss := rfl
@[simp] theorem x_look_tm {s : Sl} : lookB j (.tm d :: rs) (s :: ss) = lookB j rs ss := rfl
variable {d' : D} {s : Sl} {o : Option Sl}
@[simp] theorem x_back_none : backS s none = s := by cases s <;> rfl
@[simp] theorem x_back_ow : backS (.ow d) (some (.io d')) = .ow d' := rfl
@[simp] theorem x_back_owz : backS (.ow d) (some (.iz d')) = .sh d' := rfl
@[simp] theorem x_back_io : backS (.io d) (some (.io d')) = .io d' := rfl
@[simp] theorem x_back_ioz : backS (.io d) (some (.iz d')) = .iz d' := rfl
@[simp] theorem x_back_sh : backS (.sh d) o = .sh d := by cases o <;> rfl
@[simp] theorem x_back_un : backS .un o = .un := by cases o <;> rfl
@[simp] theorem x_tupF : tupF fs env = (fs env).bind fun rs e => match frzAll e rs with
  | some (ds, e2) => if ds.length ≤ LIM then .ok (.sh (.tuple ds)) e2 else .no
  | none => .no := rfl
@[simp] theorem x_lstF : lstF fs env = (fs env).bind fun rs e => match frzAll e rs with
  | some (ds, e2) => if ds.length ≤ LIM then .ok (.tm (.list ds)) e2 else .no
  | none => .no := rfl
@[simp] theorem x_frza_nil : frzAll e [] = some ([], e) := rfl
@[simp] theorem x_frza_cons : frzAll e (r :: rs) = match frz e r with
    | some (d, e2) => (match frzAll e2 rs with
      | some (ds, e3) => some (d :: ds, e3)
      | none => none)
    | none => none := rfl
@[simp] theorem x_frz_tm : frz e (.tm d) = some (d, e) := rfl
@[simp] theorem x_frz_bo : frz e (.bo i) = match e[i]? with
    | some (.sh d) => some (d, e)
    | some (.iz d) => some (d, e)
    | some (.ow d) => some (d, e.set i (.sh d))
    | some (.io d) => some (d, e.set i (.iz d))
    | _ => none := rfl
@[simp] theorem x_lcF : lcF it vs tgt tt el env = (it env).bind fun items e => match lcGo (lcStep vs tgt tt el) items e [] with
  | some (acc, e2) => .ok (.tm (.list acc)) e2
  | none => .no := rfl
@[simp] theorem x_forF : forF it tgt body env = (it env).st fun items e => forGo tgt body items e := rfl
@[simp] theorem x_itF : itF f env = (f env).bind fun r e => match frz e r with
  | some (d, e2) => (match itemsD d with
    | some l => .ok l e2
    | none => .no)
  | none => .no := rfl
/-- (by choice, so that the kernel does not count) -/
noncomputable def rngB (j : Int) : Bool := @decide (-(2 ^ 62) ≤ j ∧ j < 2 ^ 62) (Classical.propDecidable _)
theorem rngB_of {j : Int} (h : -(2 ^ 62) ≤ j ∧ j < 2 ^ 62) : rngB j = true := @decide_eq_true _ (Classical.propDecidable _) h
theorem of_rngB {j : Int} (h : rngB j = true) : -(2 ^ 62) ≤ j ∧ j < 2 ^ 62 := @of_decide_eq_true _ (Classical.propDecidable _) h
noncomputable def rngK (rs : List Rv) (e : En) : Rs (List D) := match rdAll e rs with
  | some [.int j] => if rngB j = true then .ok (rangeD 0 j.toNat) e else .no
  | _ => .no
@[simp] theorem x_rngF : rngF fs env = (fs env).bind rngK := by
  unfold rngF
  cases fs env with
  | ok rs e =>
    simp only [x_bind_ok]
    unfold rngK
    generalize rdAll e rs = q
    split
    · rename_i j
      by_cases h : -(2 ^ 62) ≤ j ∧ j < 2 ^ 62
      · rw [if_pos h]; try dsimp only
        rw [if_pos (rngB_of h)]
      · rw [if_neg h]; try dsimp only
        rw [if_neg (fun q => h (of_rngB q))]
    · rename_i hq
      first
        | rfl
        | (split
           · exact (hq _ rfl).elim
           · rfl)
  | ex x e => rfl
  | no => rfl
@[simp] theorem x_rngK1 : rngK [r] e = match rd e r with
    | some (.int j) => if rngB j = true then .ok (rangeD 0 j.toNat) e else .no
    | _ => .no := by
  unfold rngK
  simp only [x_rdAll_cons, x_rdAll_nil]
  cases rd e r with
  | none => rfl
  | some d => cases d <;> rfl
noncomputable def rng2K (rs : List Rv) (e : En) : Rs (List D) := match rdAll e rs with
  | some [.int i, .int j] => if rngB i = true ∧ rngB j = true then .ok (rangeD i (j - i).toNat) e else .no
  | _ => .no
@[simp] theorem x_rng2F : rng2F fs env = (fs env).bind rng2K := by
  unfold rng2F
  cases fs env with
  | ok rs e =>
    simp only [x_bind_ok]
    unfold rng2K
    generalize rdAll e rs = q
    split
    · rename_i i j
      by_cases h : -(2 ^ 62) ≤ i ∧ i < 2 ^ 62 ∧ -(2 ^ 62) ≤ j ∧ j < 2 ^ 62
      · rw [if_pos h]; try dsimp only
        rw [if_pos (show rngB i = true ∧ rngB j = true from ⟨rngB_of ⟨h.1, h.2.1⟩, rngB_of h.2.2⟩)]
      · rw [if_neg h]; try dsimp only
        rw [if_neg (show ¬ (rngB i = true ∧ rngB j = true) from fun q => h (by
          have h1 := of_rngB q.1
          have h2 := of_rngB q.2
          exact ⟨h1.1, h1.2, h2.1, h2.2⟩))]
    · rename_i hq
      first
        | rfl
        | (split
           · exact (hq _ _ rfl).elim
           · rfl)
  | ex x e => rfl
  | no => rfl
@[simp] theorem x_rng2K : rng2K [r, r'] e = match rd e r, rd e r' with
    | some (.int i), some (.int j) => if rngB i = true ∧ rngB j = true then .ok (rangeD i (j - i).toNat) e else .no
    | _, _ => .no := by
  unfold rng2K
  simp only [x_rdAll_cons, x_rdAll_nil]
  cases rd e r with
  | none => rfl
  | some d =>
    cases rd e r' with
    | none => cases d <;> rfl
    | some d' => cases d <;> cases d' <;> rfl
theorem rngB_nat {n : Nat} (h : n < 1000000) : rngB (n : Int) = true := by
  exact rngB_of ⟨by omega, by omega⟩
theorem rngB_lit {n : Int} (h : -1000000 < n ∧ n < 1000000) : rngB n = true := by
  exact rngB_of ⟨by omega, by omega⟩
@[simp] theorem rngB_0 : rngB 0 = true := rngB_lit (by decide)
@[simp] theorem rngB_1 : rngB 1 = true := rngB_lit (by decide)
@[simp] theorem rngB_2 : rngB 2 = true := rngB_lit (by decide)
@[simp] theorem rngB_3 : rngB 3 = true := rngB_lit (by decide)
@[simp] theorem rngB_4 : rngB 4 = true := rngB_lit (by decide)
@[simp] theorem rngB_5 : rngB 5 = true := rngB_lit (by decide)
@[simp] theorem x_items_l : itemsD (.list ds) = some ds := rfl
@[simp] theorem x_items_t : itemsD (.tuple ds) = some ds := rfl
@[simp] theorem x_len_l : lenG [.list ds] = some (.sh (.int ds.length)) := rfl
@[simp] theorem x_len_t : lenG [.tuple ds] = some (.sh (.int ds.length)) := rfl
@[simp] theorem x_tuple_l : tupleC [.list ds] = some (.sh (.tuple ds)) := rfl
@[simp] theorem x_tuple_t : tupleC [.tuple ds] = some (.sh (.tuple ds)) := rfl
@[simp] theorem x_tgN : tgN i d e = putS e i (.sh d) := rfl
@[simp] theorem x_ix_l : ixG (.list ds) (.int m) = (atI ds m).map .sh := by
  show (match (atI ds m).map Rv.sh with
    | some z => some z
    | none => none) = _
  cases atI ds m <;> rfl
@[simp] theorem x_ix_t : ixG (.tuple ds) (.int m) = (atI ds m).map .sh := by
  show (match (atI ds m).map Rv.sh with
    | some z => some z
    | none => none) = _
  cases atI ds m <;> rfl
@[simp] theorem x_atI {α : Type} {l : List α} {k : Nat} : atI l (k : Int) = l[k]? := by
  unfold atI ixN
  by_cases h : k < l.length
  · have h1 : (0 : Int) ≤ k := by omega
    simp [h1, h]
  · have h1 : (0 : Int) ≤ k := by omega
    simp [h1, h]
theorem seq_to {f g : SF} {e : En} (h : f env = .nx e) : seqF f g env = g e := by rw [x_seqF, h, x_seq_nx]
/-- a loop that keeps an invariant -/
theorem for_nx (Inv : List D → En → Prop) (st : ∀ d rest e, Inv (d :: rest) e → ∃ e1 e2, tgt d e = some e1 ∧ (body e1 = .nx e2 ∨ body e1 = .ct e2) ∧ Inv rest e2) : ∀ (l : List D) (e : En), Inv l e → ∃ e', forGo tgt body l e = .nx e' ∧ Inv [] e'
  | [], e, h => ⟨e, rfl, h⟩
  | d :: l, e, h => by
    obtain ⟨e1, e2, h1, h2, h3⟩ := st d l e h
    obtain ⟨e', h4, h5⟩ := for_nx Inv st l e2 h3
    refine ⟨e', ?_, h5⟩
    unfold forGo
    rw [h1]
    rcases h2 with h2 | h2 <;> simp only [h2] <;> exact h4
/-- a comprehension that keeps an invariant: each turn puts one -/
theorem lc_all {stp : D → En → Option (Option D × En)} (Inv : List D → List D → En → Prop) (st : ∀ d rest acc e, Inv (d :: rest) acc e → acc.length < LIM ∧ ∃ y e2, stp d e = some (some y, e2) ∧ Inv rest (acc ++ [y]) e2) : ∀ (l acc : List D) (e : En), Inv l acc e → ∃ acc' e', lcGo stp l e acc = some (acc', e') ∧ Inv [] acc' e'
  | [], acc, e, h => ⟨acc, e, rfl, h⟩
  | d :: l, acc, e, h => by
    obtain ⟨hl, y, e2, h1, h2⟩ := st d l acc e h
    obtain ⟨a, e', h3, h4⟩ := lc_all Inv st l _ e2 h2
    refine ⟨a, e', ?_, h4⟩
    unfold lcGo
    rw [h1]
    simp only [if_pos hl]
    exact h3
/-- a comprehension that leaves the slots as they are -/
theorem lc_map {stp : D → En → Option (Option D × En)} {g : D → D} : ∀ (l acc : List D), (∀ d ∈ l, stp d e = some (some (g d), e)) → acc.length + l.length ≤ LIM → lcGo stp l e acc = some (acc ++ l.map g, e)
  | [], acc, _, _ => by simp [lcGo]
  | d :: l, acc, h, hl => by
    unfold lcGo
    rw [h d List.mem_cons_self]
    simp only [List.length_cons] at hl
    have : acc.length < LIM := by omega
    simp only [if_pos this]
    rw [lc_map l (acc ++ [g d]) (fun x hx => h x (List.mem_cons_of_mem _ hx)) (by simp; omega)]
    simp
@[simp] theorem x_yesF : yesF env = .ok true env := rfl
@[simp] theorem x_isiF {T : String} : isiF T f env = unF (isiG T) f env := rfl
@[simp] theorem x_isi_t {T : String} : isiG T (.tuple ds) = some (.sh (.bool (isiTb "tuple" T))) := rfl
@[simp] theorem x_isi_s {T : String} {z : Str} : isiG T (.str z) = some (.sh (.bool (isiTb "str" T))) := rfl
@[simp] theorem x_isi_n {T : String} : isiG T .none = some (.sh (.bool (isiTb "NoneType" T))) := rfl
@[simp] theorem x_isi_i {T : String} : isiG T (.int m) = some (.sh (.bool (isiTb "int" T))) := rfl
@[simp] theorem x_isTb_tt : isiTb "tuple" "tuple" = true := rfl
@[simp] theorem x_isTb_ss : isiTb "str" "str" = true := rfl
@[simp] theorem x_isTb_ii : isiTb "int" "int" = true := rfl
@[simp] theorem x_isTb_ib : isiTb "int" "bool" = false := rfl
@[simp] theorem x_isTb_nt : isiTb "NoneType" "tuple" = false := rfl
@[simp] theorem x_isTb_st : isiTb "str" "tuple" = false := rfl
theorem bools_map : ∀ (n : Nat), boolsD (List.replicate n (PyData.bool true)) = some (List.replicate n true)
  | 0 => rfl
  | n + 1 => by
    rw [List.replicate_succ, List.replicate_succ]
    unfold boolsD
    rw [bools_map n]
    rfl
theorem all_true (n : Nat) : allC [.list (List.replicate n (PyData.bool true))] = some (.sh (.bool true)) := by
  show (boolsD _).map _ = _
  rw [bools_map n]
  simp
variable {l h : OF} {lo hi : Option Int}
@[simp] theorem x_slF : slF f l h env = (f env).bind fun r e1 => (l e1).bind fun lo e2 => (h e2).bind fun hi e3 => match rd e3 r with
  | some d => out1 (sliceG d lo hi) e3
  | none => .no := rfl
@[simp] theorem x_noneF : noneF env = .ok none env := rfl
@[simp] theorem x_someF : someF f env = (f env).bind fun r e => match rd e r with
  | some (.int i) => .ok (some i) e
  | _ => .no := rfl
@[simp] theorem x_slice_l : sliceG (.list ds) lo hi = some (.tm (.list (cutX ds lo hi))) := rfl
@[simp] theorem x_slice_t : sliceG (.tuple ds) lo hi = some (.sh (.tuple (cutX ds lo hi))) := rfl
theorem minI_nat {a b : Nat} : minI (a : Int) (b : Int) = ((min a b : Nat) : Int) := by
  unfold minI
  by_cases h : b < a
  · rw [if_pos (by omega)]; omega
  · rw [if_neg (by omega)]; omega
theorem cut_to {α : Type} {l : List α} {k : Nat} : cutX l none (some (k : Int)) = l.take k := by
  unfold cutX
  rw [HT.sIx_none, HT.sIx_nat, List.drop_zero, Nat.sub_zero]
  by_cases h : k ≤ l.length
  · rw [Nat.min_eq_left h]
  · rw [Nat.min_eq_right (by omega), List.take_of_length_le (Nat.le_refl _), List.take_of_length_le (by omega)]
theorem cut_from {α : Type} {l : List α} {k : Nat} : cutX l (some (k : Int)) none = l.drop k := by
  unfold cutX
  rw [HT.sIx_none, HT.sIx_nat]
  by_cases h : k ≤ l.length
  · rw [Nat.min_eq_left h]
    apply List.take_of_length_le
    simp
  · rw [Nat.min_eq_right (by omega), List.drop_of_length_le (Nat.le_refl _), List.drop_of_length_le (by omega)]
    simp
theorem cat_t (h : ds.length + es.length ≤ LIM) : addG (.tuple ds) (.tuple es) = some (.sh (.tuple (ds ++ es))) := by
  unfold addG orG intG strCatG lstCatG tupCatG
  simp [h]
theorem cat_l (h : ds.length + es.length ≤ LIM) : addG (.list ds) (.list es) = some (.tm (.list (ds ++ es))) := by
  unfold addG orG intG strCatG lstCatG
  simp [h]
variable {t : GF} {u : List D → En → Option En} {is : List Nat} {k : Nat} {T : String} {gm : GM}
@[simp] theorem x_tgs_nil : tgsNil [] e = some e := rfl
@[simp] theorem x_tgs_cons : tgsCons t u (d :: ds) e = (t d e).bind (u ds) := rfl
@[simp] theorem x_tgS_t : tgS k u (.tuple ds) e = if ds.length = k then u ds e else none := rfl
@[simp] theorem x_tgS_l : tgS k u (.list ds) e = if ds.length = k then u ds e else none := rfl
@[simp] theorem x_asgF : asgF f t env = (f env).st fun r e => match frz e r with
  | some (d, e2) => (match t d e2 with
    | some e3 => .nx e3
    | none => .no)
  | none => .no := rfl
@[simp] theorem x_parF : parF is fs env = (fs env).st fun rs e => match settle e rs with
  | some (rs', e2) => (match putAll e2 is rs' with
    | some e3 => .nx e3
    | none => .no)
  | none => .no := rfl
@[simp] theorem x_settle_nil : settle e [] = some ([], e) := rfl
@[simp] theorem x_settle_sh : settle e (.sh d :: rs) = match settle e rs with
    | some (rs', e3) => some (.sh d :: rs', e3)
    | none => none := rfl
@[simp] theorem x_settle_tm : settle e (.tm d :: rs) = match settle e rs with
    | some (rs', e3) => some (.tm d :: rs', e3)
    | none => none := rfl
@[simp] theorem x_settle_bo : settle e (.bo i :: rs) = match frz e (.bo i) with
    | some (d, e2) => (match settle e2 rs with
      | some (rs', e3) => some (.sh d :: rs', e3)
      | none => none)
    | none => none := rfl
@[simp] theorem x_putAll_nil : VL.putAll e [] [] = some e := rfl
@[simp] theorem x_putAll_sh : VL.putAll e (i :: is) (.sh d :: rs) = (putS e i (.sh d)).bind fun e2 => VL.putAll e2 is rs := rfl
@[simp] theorem x_putAll_tm : VL.putAll e (i :: is) (.tm d :: rs) = (putS e i (.ow d)).bind fun e2 => VL.putAll e2 is rs := rfl
@[simp] theorem x_muF : muF T gm f fs env = (f env).bind fun r e1 => match r with
  | .bo i => (match mutS e1 i with
    | some d0 => if tyD d0 = T then (fs e1).bind fun rs e2 => (match frzAll e2 rs with
      | some (ds, e3) => (match mutS e3 i with
        | some d => (match gm d ds with
          | some (res, d') => .ok (.sh res) (mutP e3 i d')
          | none => .no)
        | none => .no)
      | none => .no) else .no
    | none => .no)
  | _ => .no := by
  unfold muF
  rfl
@[simp] theorem x_tyD_l : tyD (.list ds) = "list" := rfl
@[simp] theorem x_mutP : mutP e i d = match e[i]? with
  | some (.ow _) => e.set i (.ow d)
  | some (.io _) => e.set i (.io d)
  | _ => e := by
  unfold mutP
  rfl
@[simp] theorem x_app : appG (.list ds) [d] = if ds.length < LIM then some (.none, .list (ds ++ [d])) else none := rfl
@[simp] theorem x_pop : popG (.list ds) [] = (ds[ds.length - 1]?).map fun d => (d, .list ds.dropLast) := rfl
@[simp] theorem x_rev_l : rev2G (.list ds) = some (.tm (.list ds.reverse)) := rfl
@[simp] theorem x_rev_t : rev2G (.tuple ds) = some (.sh (.tuple ds.reverse)) := rfl
end
end VL


set_option Elab.async false
set_option linter.all false
set_option maxRecDepth 100000
set_option maxHeartbeats 4000000
/-! PLb: while loops, comprehensions over typed items, stars -/
namespace VL
open PySem PySem.Spec PyProof.Rows L2
theorem seq_to2 {f g : SF} {env e : En} (h : f env = .nx e) : seqF f g env = g e := by rw [x_seqF, h, x_seq_nx]
theorem wh_nx {c : TF} {body : SF} (Inv Post : En → Prop) (ms : En → Nat) (st : ∀ e, Inv e → (∃ e1, c e = .ok false e1 ∧ Post e1) ∨ (∃ e1 e2, c e = .ok true e1 ∧ (body e1 = .nx e2 ∨ body e1 = .ct e2) ∧ Inv e2 ∧ ms e2 < ms e)) :
    ∀ (n : Nat) (e : En), Inv e → ms e < n → ∃ e', whGo c body n e = .nx e' ∧ Post e'
  | 0, e, _, h => absurd h (Nat.not_lt_zero _)
  | n + 1, e, i, h => by
    rcases st e i with ⟨e1, h1, h2⟩ | ⟨e1, e2, h1, h2, h3, h4⟩
    · refine ⟨e1, ?_, h2⟩
      unfold whGo
      rw [h1]
      rfl
    · obtain ⟨e', h5, h6⟩ := wh_nx Inv Post ms st n e2 h3 (by omega)
      refine ⟨e', ?_, h6⟩
      unfold whGo
      rw [h1]
      rcases h2 with h2 | h2
      · simp only [x_st_ok, if_true, h2]; exact h5
      · simp only [x_st_ok, if_true, h2]; exact h5
theorem fuel_ok : 1000000 ≤ FUEL := by unfold FUEL; decide
theorem wh_is {c : TF} {body : SF} (Inv Post : En → Prop) (ms : En → Nat) (st : ∀ e, Inv e → (∃ e1, c e = .ok false e1 ∧ Post e1) ∨ (∃ e1 e2, c e = .ok true e1 ∧ (body e1 = .nx e2 ∨ body e1 = .ct e2) ∧ Inv e2 ∧ ms e2 < ms e))
    (e : En) (i : Inv e) (h : ms e < 1000000) : ∃ e', whF FUEL c body e = .nx e' ∧ Post e' := wh_nx Inv Post ms st FUEL e i (Nat.lt_of_lt_of_le h fuel_ok)
theorem lc_ty {τ : Type} (φ : τ → D) (p : τ → Bool) (g : τ → D) {v : Nat} {e : En} {tt : TF} {el : EF} : ∀ (xs : List τ) (acc : List D), e[v]? = some .un → (∀ x ∈ xs, tt (e.set v (.sh (φ x))) = .ok (p x) (e.set v (.sh (φ x)))) →
    (∀ x ∈ xs, p x = true → ∃ r, el (e.set v (.sh (φ x))) = .ok r (e.set v (.sh (φ x))) ∧ frz (e.set v (.sh (φ x))) r = some (g x, e.set v (.sh (φ x)))) → acc.length + xs.length ≤ LIM →
    lcGo (lcStep [v] (tgN v) tt el) (xs.map φ) e acc = some (acc ++ (xs.filter p).map g, e)
  | [], acc, _, _, _, _ => by simp [lcGo]
  | x :: xs, acc, hv, ht, he, hl => by
    simp only [List.length_cons] at hl
    have t := ht x List.mem_cons_self
    obtain ⟨hlt, hv2⟩ := List.getElem?_eq_some_iff.mp hv
    have q : (e.set v .un) = e := by rw [← hv2]; exact List.set_getElem_self hlt
    have ih := fun acc hl => lc_ty φ p g (v := v) (e := e) (tt := tt) (el := el) xs acc hv (fun y hy => ht y (List.mem_cons_of_mem _ hy)) (fun y hy => he y (List.mem_cons_of_mem _ hy)) hl
    have lt : acc.length < LIM := by omega
    cases c : p x with
    | true =>
      obtain ⟨r, h1, h2⟩ := he x List.mem_cons_self c
      rw [c] at t
      have s : lcStep [v] (tgN v) tt el (φ x) e = some (some (g x), e) := by
        simp [lcStep, clean, cleanS, wipeE, unwipe, hv2, hlt, Sl.isIo, t, h1, h2, q]
      rw [List.map_cons, lcGo, s]
      simp only [if_pos lt]
      rw [ih _ (by simp; omega), List.filter_cons_of_pos c]
      simp
    | false =>
      rw [c] at t
      have s : lcStep [v] (tgN v) tt el (φ x) e = some (none, e) := by
        simp [lcStep, clean, cleanS, wipeE, unwipe, hv2, hlt, Sl.isIo, t, q]
      rw [List.map_cons, lcGo, s]
      simp only
      rw [ih _ (by omega), List.filter_cons_of_neg (by rw [c]; simp)]
theorem runF_ow {np n : Nat} {body : SF} {as : List Ag} {e : En} {j : Nat} {d : D} (hl : as.length = np) (h : body (as.map Ag.sl ++ List.replicate (n - np) .un) = .rt (.bo j) e) (hj : e[j]? = some (.ow d)) : runF np n body as = .ret true d (outE as e) := by
  unfold runF
  rw [if_pos hl, h]
  simp only [hj]
theorem runF_sh {np n : Nat} {body : SF} {as : List Ag} {e : En} {d : D} (hl : as.length = np) (h : body (as.map Ag.sl ++ List.replicate (n - np) .un) = .rt (.sh d) e) : runF np n body as = .ret false d (outE as e) := by
  unfold runF
  rw [if_pos hl, h]
theorem runF_tm {np n : Nat} {body : SF} {as : List Ag} {e : En} {d : D} (hl : as.length = np) (h : body (as.map Ag.sl ++ List.replicate (n - np) .un) = .rt (.tm d) e) : runF np n body as = .ret true d (outE as e) := by
  unfold runF
  rw [if_pos hl, h]
theorem runF_nx {np n : Nat} {body : SF} {as : List Ag} {e : En} (hl : as.length = np) (h : body (as.map Ag.sl ++ List.replicate (n - np) .un) = .nx e) : runF np n body as = .ret false .none (outE as e) := by
  unfold runF
  rw [if_pos hl, h]
theorem tup_is {fs : AF} {env e e2 : En} {rs : List Rv} {ds : List D} (h : fs env = .ok rs e) (hf : frzAll e rs = some (ds, e2)) (hl : ds.length ≤ LIM) : tupF fs env = .ok (.sh (.tuple ds)) e2 := by
  rw [x_tupF, h, x_bind_ok, hf]
  simp only [if_pos hl]
theorem lst_is {fs : AF} {env e e2 : En} {rs : List Rv} {ds : List D} (h : fs env = .ok rs e) (hf : frzAll e rs = some (ds, e2)) (hl : ds.length ≤ LIM) : lstF fs env = .ok (.tm (.list ds)) e2 := by
  rw [x_lstF, h, x_bind_ok, hf]
  simp only [if_pos hl]
def szAt (i : Nat) (e : En) : Nat := match e[i]? with
  | some (Sl.sh (PyData.int s)) => s.toNat
  | _ => 0
theorem atI_neg1 {α : Type} (xs : List α) : atI xs (-1) = xs[xs.length - 1]? := by
  rcases List.eq_nil_or_concat xs with rfl | ⟨l, v, rfl⟩
  · rfl
  · rw [List.concat_eq_append, L2.atI_last]; simp
@[simp] theorem x_seqD_l {ds : List D} : seqD (.list ds) = some ds := rfl
@[simp] theorem x_seqD_t {ds : List D} : seqD (.tuple ds) = some ds := rfl
@[simp] theorem x_starF {f : EF} {g : AF} {env : En} : starF f g env = (f env).bind fun r e => match rd e r with
  | some d => (match seqD d with
    | some ds => (g e).bind fun rs e2 => .ok (ds.map .sh ++ rs) e2
    | none => .no)
  | none => .no := rfl
theorem frz_star {e : En} {rs : List Rv} : ∀ {ds : List D}, frzAll e (ds.map .sh ++ rs) = (match frzAll e rs with
    | some (xs, e2) => some (ds ++ xs, e2)
    | none => none)
  | [] => by
    simp only [List.map_nil, List.nil_append]
    cases frzAll e rs with
    | none => rfl
    | some p => rfl
  | d :: ds => by
    rw [List.map_cons, List.cons_append, x_frza_cons, x_frz_sh]
    simp only
    rw [frz_star (ds := ds)]
    cases frzAll e rs with
    | none => rfl
    | some p => rfl
end VL


set_option Elab.async false
set_option linter.all false
set_option maxRecDepth 100000
set_option maxHeartbeats 4000000
/-! PLc: more equations -/
namespace VL
open PySem PySem.Spec PyProof.Rows L2
section
variable {e env : En} {i : Nat} {g : Int → Int → Int} {f fa fb fc : EF} {g1 g2 : G2}
@[simp] theorem x_rdAt : rdAt env i = match env[i]? with
  | some s => s.rd
  | none => none := rfl
@[simp] theorem x_augF : augF i g f env = match rdAt env i with
  | some (.int a) => (f env).st fun r e => (match rd e r with
    | some (.int b) => (match putS e i (.sh (.int (g a b))) with
      | some e2 => .nx e2
      | none => .no)
    | _ => .no)
  | _ => .no := rfl
@[simp] theorem x_chF : chF g1 g2 fa fb fc env = (fa env).bind fun r1 e1 => (fb e1).bind fun r2 e2 => match rd e2 r1, rd e2 r2 with
  | some x, some y => (match g1 x y with
    | some (.sh (.bool true)) => (fc e2).bind fun r3 e3 => (match rd e3 r2, rd e3 r3 with
      | some y', some z => out1 (g2 y' z) e3
      | _, _ => .no)
    | some (.sh (.bool false)) => .ok (.sh (.bool false)) e2
    | _ => .no)
  | _, _ => .no := rfl
end
end VL


set_option Elab.async false
set_option linter.all false
set_option maxRecDepth 100000
set_option maxHeartbeats 4000000
/-! PLd: dict comprehensions and enumerate -/
namespace VL
open PySem PySem.Spec PyProof.Rows L2
section
variable {e env : En} {fs : AF} {it : IF} {vs : List Nat} {tgt : GF} {tt : TF} {kf vf el : EF}
@[simp] theorem x_dcF : dcF it vs tgt tt kf vf env = (it env).bind fun items e => match dcGo (dcStep vs tgt tt kf vf) items e [] with
  | some (acc, e2) => .ok (.tm (dctD acc)) e2
  | none => .no := rfl
@[simp] theorem x_enum2F : enum2F fs env = (fs env).bind fun rs e => match frzAll e rs with
  | some ([.list ds], e2) => .ok (enumD ds) e2
  | some ([.tuple ds], e2) => .ok (enumD ds) e2
  | _ => .no := rfl
end
/-- a comprehension over items of a kind, any target of two -/
theorem lc_ty2 {τ : Type} (φ : τ → D) (p : τ → Bool) (g : τ → D) {v w : Nat} (hvw : v ≠ w) {e : En} {tgt : GF} {tt : TF} {el : EF} (E : τ → En) : ∀ (xs : List τ) (acc : List D), e[v]? = some .un → e[w]? = some .un →
    (∀ x ∈ xs, tgt (φ x) e = some (E x) ∧ tt (E x) = .ok (p x) (E x) ∧ (((E x).set w .un).set v .un = e)) →
    (∀ x ∈ xs, p x = true → ∃ r, el (E x) = .ok r (E x) ∧ frz (E x) r = some (g x, E x)) → acc.length + xs.length ≤ LIM →
    lcGo (lcStep [v, w] tgt tt el) (xs.map φ) e acc = some (acc ++ (xs.filter p).map g, e)
  | [], acc, _, _, _, _, _ => by simp [lcGo]
  | x :: xs, acc, hv, hw, ht, he, hl => by
    simp only [List.length_cons] at hl
    obtain ⟨t0, t1, t2⟩ := ht x List.mem_cons_self
    obtain ⟨hlt, hv2⟩ := List.getElem?_eq_some_iff.mp hv
    obtain ⟨hlw, hw2⟩ := List.getElem?_eq_some_iff.mp hw
    have q1 : (e.set v .un) = e := by rw [← hv2]; exact List.set_getElem_self hlt
    have q2 : (e.set w .un) = e := by rw [← hw2]; exact List.set_getElem_self hlw
    have ih := fun acc hl => lc_ty2 φ p g hvw (e := e) (tgt := tgt) (tt := tt) (el := el) E xs acc hv hw (fun y hy => ht y (List.mem_cons_of_mem _ hy)) (fun y hy => he y (List.mem_cons_of_mem _ hy)) hl
    have lt : acc.length < LIM := by omega
    cases c : p x with
    | true =>
      obtain ⟨r, h1, h2⟩ := he x List.mem_cons_self c
      rw [c] at t1
      have s : lcStep [v, w] tgt tt el (φ x) e = some (some (g x), e) := by
        simp [lcStep, clean, cleanS, wipeE, unwipe, hv2, hw2, hlt, hlw, Sl.isIo, t0, t1, h1, h2, q1, q2, t2]
      rw [List.map_cons, lcGo, s]
      simp only [if_pos lt]
      rw [ih _ (by simp; omega), List.filter_cons_of_pos c]
      simp
    | false =>
      rw [c] at t1
      have s : lcStep [v, w] tgt tt el (φ x) e = some (none, e) := by
        simp [lcStep, clean, cleanS, wipeE, unwipe, hv2, hw2, hlt, hlw, Sl.isIo, t0, t1, q1, q2, t2]
      rw [List.map_cons, lcGo, s]
      simp only
      rw [ih _ (by omega), List.filter_cons_of_neg (by rw [c]; simp)]
end VL


set_option Elab.async false
set_option linter.all false
set_option maxRecDepth 100000
set_option maxHeartbeats 4000000
/-! PLe: equations for errors -/
namespace VL
open PySem PySem.Spec PyProof.Rows L2
section
variable {α β : Type} {x : Xc} {e env : En} {c fl : Str} {f fa fb : EF} {CT : Ct} {i : Nat} {fs : SF} {cs : List (Str × (Xc → SF))} {d : D}
@[simp] theorem x_bind_ex {k : α → En → Rs β} : (Rs.ex x e : Rs α).bind k = .ex x e := rfl
@[simp] theorem x_st_ex {k : α → En → Rb} : (Rs.ex x e : Rs α).st k = .ex x e := rfl
@[simp] theorem x_seq_ex {k : En → Rb} : (Rb.ex x e).seq k = .ex x e := rfl
@[simp] theorem x_raiseF : raiseF c fl f env = (f env).st fun r e => match frz e r with
  | some (d, e2) => .ex ⟨c, fl, d⟩ e2
  | none => .no := rfl
@[simp] theorem x_tryF : tryF CT i fs cs env = match fs env with
  | .ex x e => hdl CT i cs x e
  | r => r := rfl
@[simp] theorem x_hdl_nil : hdl CT i [] x e = .ex x e := rfl
@[simp] theorem x_hdl_cons {q : Str × (Xc → SF)} {r : List (Str × (Xc → SF))} : hdl CT i (q :: r) x e = match exMt CT x q.1 with
    | some true => if isUn e[i]? = true then (match q.2 x e with
      | .rt v e2 => .rt v e2
      | .nx e2 => if isUn e2[i]? = true then .nx e2 else .no
      | _ => .no) else .no
    | some false => hdl CT i r x e
    | none => .no := rfl
@[simp] theorem x_isUn : isUn (some .un) = true := rfl
theorem x_told : toldF fl ⟨c, fl, d⟩ = cF d := if_pos rfl
theorem runF_ex {np n : Nat} {body : SF} {as : List Ag} (hl : as.length = np) (h : body (as.map Ag.sl ++ List.replicate (n - np) .un) = .ex x e) : runF np n body as = .exc x (outE as e) := by
  unfold runF
  rw [if_pos hl, h]
theorem seq_ex {f g : SF} (h : f env = .ex x e) : seqF f g env = .ex x e := by rw [x_seqF, h, x_seq_ex]
@[simp] theorem x_mulX3 : mulX3 fa fb env = (fa env).bind fun r1 e1 => (fb e1).bind fun r2 e2 => match rd e2 r1, rd e2 r2 with
  | some (.list ds), some (.int k) => if isOwned e2 r1 = true ∧ -(2 ^ 63) ≤ k ∧ k < 2 ^ 63 ∧ ds.length * k.toNat ≤ LIM then .ok (.tm (.list (List.replicate k.toNat ds).flatten)) e2 else .no
  | some x, some y => out1 (mulG3 x y) e2
  | _, _ => .no := by
  unfold mulX3
  rfl
theorem flat_one {α : Type} (d : α) : ∀ n : Nat, (List.replicate n [d]).flatten = List.replicate n d
  | 0 => rfl
  | n + 1 => by rw [List.replicate_succ, List.flatten_cons, flat_one d n, List.replicate_succ]; rfl
theorem mul3_i {d : D} {k : Int} (h1 : -1000000 ≤ k) (h2 : k ≤ 1000000) : mulG3 (.tuple [d]) (.int k) = some (.sh (.tuple (List.replicate k.toNat d))) := by
  have e : tupMulG3 (.tuple [d]) (.int k) = some (.sh (.tuple (List.replicate k.toNat d))) := by
    have h3 : [d].length * k.toNat ≤ 1000000 := by simp; omega
    simp only [tupMulG3]
    rw [if_pos ⟨h1, h2, h3⟩, flat_one]
  unfold mulG3 orG
  have e0 : mulG (.tuple [d]) (.int k) = none := rfl
  rw [e0]
  exact e
theorem mul3_t {d : D} {n : Nat} (h : n ≤ 1000000) : mulG3 (.tuple [d]) (.int (n : Int)) = some (.sh (.tuple (List.replicate n d))) := mul3_i (by omega) (by omega)
end
end VL
namespace VL
open PySem PySem.Spec PyProof.Rows L2
/-- laid data of a depth -/
def Lay (n : Nat) (d : D) : Prop := d.canLay0 = true ∧ d.depth ≤ n
theorem Lay.mono {n m : Nat} {d : D} (h : Lay n d) (hm : n ≤ m) : Lay m d := ⟨h.1, Nat.le_trans h.2 hm⟩
theorem Lay.sh {n : Nat} {d : D} (h : Lay n d) (hn : n ≤ 64) : SeqAt.shaped d = true := by
  unfold SeqAt.shaped
  rw [h.1, Bool.true_and]
  exact decide_eq_true (Nat.le_trans h.2 hn)
theorem lay_all {n : Nat} : ∀ {ds : List D}, (∀ x ∈ ds, Lay n x) → PyData.canLayAll0 ds = true ∧ PyData.depthAll ds ≤ n
  | [], _ => ⟨by simp [PyData.canLayAll0], by simp [PyData.depthAll]⟩
  | d :: ds, h => by
    obtain ⟨h1, h2⟩ := lay_all (ds := ds) fun x hx => h x (List.mem_cons_of_mem _ hx)
    obtain ⟨h3, h4⟩ := h d List.mem_cons_self
    refine ⟨by simp [PyData.canLayAll0, h1, h3], ?_⟩
    simp only [PyData.depthAll]
    omega
theorem lay_tup {n : Nat} {ds : List D} (h : ∀ x ∈ ds, Lay n x) : Lay (n + 1) (.tuple ds) := by
  obtain ⟨h1, h2⟩ := lay_all h
  refine ⟨by simpa [PyData.canLay0] using h1, ?_⟩
  simp only [PyData.depth]
  omega
theorem lay_lst {n : Nat} {ds : List D} (h : ∀ x ∈ ds, Lay n x) : Lay (n + 1) (.list ds) := by
  obtain ⟨h1, h2⟩ := lay_all h
  refine ⟨by simpa [PyData.canLay0] using h1, ?_⟩
  simp only [PyData.depth]
  omega
theorem lay_int {n : Nat} {i : Int} : Lay n (.int i) := ⟨by simp [PyData.canLay0], by simp [PyData.depth]⟩
theorem lay_bool {n : Nat} {i : Bool} : Lay n (.bool i) := ⟨by simp [PyData.canLay0], by simp [PyData.depth]⟩
theorem lay_none {n : Nat} : Lay n .none := ⟨by simp [PyData.canLay0], by simp [PyData.depth]⟩
theorem lay_str {n : Nat} {s : Str} (h : PyData.strOk s = true) : Lay n (.str s) := ⟨by simpa [PyData.canLay0] using h, by simp [PyData.depth]⟩
theorem ne_self {n : Nat} {d : D} (h : Lay n d) (hn : n ≤ 64) : neG d d = some (.sh (.bool false)) := by
  unfold neG
  rw [h.sh hn, SeqAt.eqv_refl d h.1]; rfl
theorem eq_self {n : Nat} {d : D} (h : Lay n d) (hn : n ≤ 64) : eqG d d = some (.sh (.bool true)) := by
  unfold eqG
  rw [h.sh hn, SeqAt.eqv_refl d h.1]; rfl
end VL
namespace VL
open PySem PySem.Spec PyProof.Rows L2
theorem lcGo_put {f : D → En → Option (Option D × En)} {a x : D} {l acc : List D} {e e1 : En} (h : f a e = some (some x, e1)) (hl : acc.length < LIM) : lcGo f (a :: l) e acc = lcGo f l e1 (acc ++ [x]) := by
  rw [lcGo, h]; dsimp only; rw [if_pos hl]
theorem lcGo3 {f : D → En → Option (Option D × En)} {a b c x y z : D} {e0 e1 e2 e3 : En} (h0 : f a e0 = some (some x, e1)) (h1 : f b e1 = some (some y, e2)) (h2 : f c e2 = some (some z, e3)) : lcGo f [a, b, c] e0 [] = some ([x, y, z], e3) := by
  have l0 : ([] : List D).length < LIM := by rw [List.length_nil]; decide
  have l1 : ([x] : List D).length < LIM := by simp only [List.length_cons, List.length_nil]; decide
  have l2 : ([x, y] : List D).length < LIM := by simp only [List.length_cons, List.length_nil]; decide
  have g0 : lcGo f [a, b, c] e0 [] = lcGo f [b, c] e1 [x] := lcGo_put h0 l0
  have g1 : lcGo f [b, c] e1 [x] = lcGo f [c] e2 [x, y] := lcGo_put h1 l1
  have g2 : lcGo f [c] e2 [x, y] = lcGo f [] e3 [x, y, z] := lcGo_put h2 l2
  rw [g0, g1, g2]
  rfl
theorem range3 : rangeD 0 3 = [.int 0, .int 1, .int 2] := rfl
end VL


set_option Elab.async false
set_option linter.all false
set_option maxRecDepth 100000
set_option maxHeartbeats 4000000
/-! PLf: dicts at run time, comprehensions over owned lists -/
namespace VL
open PySem PySem.Spec PyProof.Rows L2
section
variable {env : En} {f fd fy fx : EF} {vs : List Nat} {tgt : GF} {tt : TF} {el : EF} {i : Nat}
@[simp] theorem x_keysF : keysF f env = (f env).bind fun r e => match frz e r with
  | some (.dict kvs, e2) => if kindT kvs = true then .no else .ok (kvs.map Prod.fst) e2
  | _ => .no := rfl
@[simp] theorem x_itemsF : itemsF f env = (f env).bind fun r e => match frz e r with
  | some (.dict kvs, e2) => if kindT kvs = true then .no else .ok (pairsD kvs) e2
  | _ => .no := rfl
@[simp] theorem x_dnewF : dnewF env = .ok (.tm (.dict [])) env := rfl
@[simp] theorem x_get2F : get2F fd fy fx env = (fd env).bind fun r1 e1 => match rd e1 r1 with
  | some (.dict _) => (fy e1).bind fun r2 e2 => (fx e2).bind fun r3 e3 => (match rd e3 r1, rd e3 r2, r3 with
    | some (.dict kvs), some x, .sh y => if (isKey1 x && !kindT kvs) = true then .ok (.sh ((dfind kvs x).getD y)) e3 else .no
    | _, _, _ => .no)
  | _ => .no := rfl
@[simp] theorem x_zipF {fs : AF} : zipF fs env = (fs env).bind fun rs e => match frzAll e rs with
  | some ([.list ds, .list es], e2) => .ok (zipD ds es) e2
  | some ([.tuple ds, .tuple es], e2) => .ok (zipD ds es) e2
  | _ => .no := rfl
end
theorem kindT_keys {kvs : List (Key × D)} : kindT (kvs.map fun p => (keyD p.1, p.2)) = false := by
  match kvs with
  | [] => rfl
  | (.inl _, _) :: _ => rfl
  | (.inr _, _) :: _ => rfl
theorem nm_ow {env : En} {i : Nat} {ds : List D} (h : env[i]? = some (.ow (.list ds))) : ownL env i = some ds := by unfold ownL; rw [h]
end VL


set_option Elab.async false
set_option linter.all false
set_option maxRecDepth 100000
set_option maxHeartbeats 4000000
namespace S00
open PySem PySem.Spec PyProof.Rows L2 VL
theorem take_ok (a b top : Int) (h : 0 < top) (h2 : top.natAbs.log2 < 9000) : ∃ i a' b', 0 ≤ i ∧ i < top ∧ F__law_take [.ob (.list [.int a, .int b]), .sh (.int top)] = .ret false (.int i) [.io (.list [.int a', .int b']), .sh (.int top)] := by
  have hm : ∀ x, mulOk x 39373 = true := fun x => mulOk_r (by decide)
  have hm2 : ∀ x : Int, mulOk (x % 2147483647) (x % 2147483647) = true := fun x => mulOk_r ⟨by omega, by omega⟩
  by_cases c : 0 < a
  · refine ⟨a % top, a / top, b, Int.emod_nonneg _ (by omega), Int.emod_lt_of_pos _ h, ?_⟩
    simp [F__law_take, runF, B__law_take, Ag.sl, atI, ixN, c, h, h2, stoG, mutP, outE, pick]
  · refine ⟨((b * 39373 + 7) % 2147483647 * ((b * 39373 + 7) % 2147483647) % 2147483629 / 32) % top, a, (b * 39373 + 7) % 2147483647, Int.emod_nonneg _ (by omega), Int.emod_lt_of_pos _ h, ?_⟩
    have e : Nat.log2 32 < 9000 := by decide
    simp [F__law_take, runF, B__law_take, Ag.sl, atI, ixN, c, h, h2, stoG, mutP, outE, pick, hm, hm2, e]
/-- the source: two ints -/
def Src (d : D) : Prop := ∃ a b, d = .list [.int a, .int b]
theorem take_src {d : D} (s : Src d) (n : Nat) (h : 0 < n) (h2 : n < 1000000) : ∃ (i : Nat) (d' : D), i < n ∧ Src d' ∧ F__law_take [.ob d, .sh (.int n)] = .ret false (.int (i : Int)) [.io d', .sh (.int n)] := by
  obtain ⟨a, b, rfl⟩ := s
  have hl : (n : Int).natAbs.log2 < 9000 := by
    rw [Int.natAbs_natCast]
    have := (Nat.log2_lt (n := n) (k := 9000) (by omega)).mpr (Nat.lt_trans h2 (by decide +kernel))
    exact this
  obtain ⟨i, a', b', h3, h4, e⟩ := take_ok a b n (by omega) hl
  refine ⟨i.toNat, _, by omega, ⟨a', b', rfl⟩, ?_⟩
  rw [e, Int.toNat_of_nonneg h3]
theorem one_src {d : D} (s : Src d) (ds : List D) (h : ds ≠ []) (h2 : ds.length < 1000000) : ∃ (y d' : D), y ∈ ds ∧ Src d' ∧ F__law_one [.ob d, .sh (.list ds)] = .ret false y [.io d', .sh (.list ds)] := by
  obtain ⟨i, d', hi, s', e⟩ := take_src s ds.length (List.length_pos_iff.mpr h) h2
  refine ⟨ds[i], d', List.getElem_mem hi, s', ?_⟩
  simp [F__law_one, runF, B__law_one, Ag.sl, outE, pick, e, hi]
theorem one_ob {d : D} (s : Src d) (ds : List D) (h : ds ≠ []) (h2 : ds.length < 1000000) : ∃ (y d' : D), y ∈ ds ∧ Src d' ∧ F__law_one [.ob d, .ob (.list ds)] = .ret false y [.io d', .io (.list ds)] := by
  obtain ⟨i, d', hi, s', e⟩ := take_src s ds.length (List.length_pos_iff.mpr h) h2
  refine ⟨ds[i], d', List.getElem_mem hi, s', ?_⟩
  simp [F__law_one, runF, B__law_one, Ag.sl, outE, pick, e, hi]
theorem pool_in (S : List D) (k x : Int) (h0 : 0 ≤ k) (h1 : k < 100) (c : k < S.length) (g : atI S k = some (.int x)) : ∃ d, Src d ∧ F__law_pool [.sh (.list S), .sh (.int k)] = .ret true d [.sh (.list S), .sh (.int k)] := by
  have hm : ∀ (x : Int) (n : Int), -(2 ^ 64) < n → n < 2 ^ 64 → mulOk x n = true := fun x n h1 h2 => mulOk_r ⟨h1, h2⟩
  have m1 : mulOk 7919 k = true := hm _ _ (by omega) (by omega)
  have m2 : mulOk (7919 * k) k = true := hm _ _ (by omega) (by omega)
  have m3 : mulOk 31 k = true := hm _ _ (by omega) (by omega)
  have m4 : ∀ x, mulOk x 48271 = true := fun x => hm _ _ (by omega) (by omega)
  have m5 : ∀ x, mulOk x 1 = true := fun x => hm _ _ (by omega) (by omega)
  have m6 : ∀ x, mulOk x 0 = true := fun x => hm _ _ (by omega) (by omega)
  have p : powG (.int 10) (.int 18) = some (.sh (.int 1000000000000000000)) := by kernel_rfl
  by_cases b : 1000000000000000000 ≤ maxI x (-1 - x)
  · refine ⟨.list [.int (maxI x (-1 - x)), .int ((((maxI x (-1 - x)) % 2147483629 + 7919 * k * k + 31 * k + 17) * 48271) % 2147483647)], ⟨_, _, rfl⟩, ?_⟩
    simp [F__law_pool, runF, B__law_pool, Ag.sl, outE, pick, LIM, c, g, m1, m2, m3, m4, m5, p, b]
  · refine ⟨.list [.int 0, .int ((((maxI x (-1 - x)) % 2147483629 + 7919 * k * k + 31 * k + 17) * 48271) % 2147483647)], ⟨_, _, rfl⟩, ?_⟩
    simp [F__law_pool, runF, B__law_pool, Ag.sl, outE, pick, LIM, c, g, m1, m2, m3, m4, m6, p, b]
theorem pool_out (S : List D) (k : Int) (h0 : 0 ≤ k) (h1 : k < 100) (c : ¬ k < S.length) : ∃ d, Src d ∧ F__law_pool [.sh (.list S), .sh (.int k)] = .ret true d [.sh (.list S), .sh (.int k)] := by
  have hm : ∀ (x : Int) (n : Int), -(2 ^ 64) < n → n < 2 ^ 64 → mulOk x n = true := fun x n h1 h2 => mulOk_r ⟨h1, h2⟩
  have m1 : mulOk 7919 k = true := hm _ _ (by omega) (by omega)
  have m2 : mulOk (7919 * k) k = true := hm _ _ (by omega) (by omega)
  have m3 : mulOk 31 k = true := hm _ _ (by omega) (by omega)
  have m4 : ∀ x, mulOk x 48271 = true := fun x => hm _ _ (by omega) (by omega)
  have m6 : ∀ x, mulOk x 0 = true := fun x => hm _ _ (by omega) (by omega)
  have p : powG (.int 10) (.int 18) = some (.sh (.int 1000000000000000000)) := by kernel_rfl
  have b : ¬ (1000000000000000000 ≤ maxI 0 (-1)) := by decide
  refine ⟨.list [.int 0, .int ((((maxI 0 (-1)) % 2147483629 + 7919 * k * k + 31 * k + 17) * 48271) % 2147483647)], ⟨_, _, rfl⟩, ?_⟩
  simp [F__law_pool, runF, B__law_pool, Ag.sl, outE, pick, LIM, c, m1, m2, m3, m4, m6, p, b]
theorem pool_ok (ns : List Int) (k : Nat) (hk : k < 100) : ∃ d, Src d ∧ F__law_pool [.sh (.list (ns.map PyData.int)), .sh (.int k)] = .ret true d [.sh (.list (ns.map PyData.int)), .sh (.int k)] := by
  by_cases c : k < ns.length
  · exact pool_in _ k ns[k] (by omega) (by omega) (by rw [List.length_map]; omega) (by rw [x_atI]; simp [c])
  · exact pool_out _ k (by omega) (by omega) (by rw [List.length_map]; omega)
theorem eq_i {m n : Int} : eqG (.int m) (.int n) = some (.sh (.bool (m == n))) := rfl
theorem eq_b {a b : Bool} : eqG (.bool a) (.bool b) = some (.sh (.bool (a == b))) := by cases a <;> cases b <;> kernel_rfl
theorem ne_b {a b : Bool} : neG (.bool a) (.bool b) = some (.sh (.bool (a != b))) := by cases a <;> cases b <;> kernel_rfl
end S00


set_option Elab.async false
set_option linter.all false
set_option maxRecDepth 100000
set_option maxHeartbeats 4000000
namespace S00
open PySem PySem.Spec PyProof.Rows L2 VL
/- _law_text: 0 _law_source, 1 _law_signs, 2 _law_text_here, 3 _law_at, 4 _law_k -/
/- _law_kind_of: 0 _law_source, 1 _law_sort -/
/- _law_kind: 0 _law_source, 1 _law_sorts -/
/- _law_some_kind: 0 _law_source, 1 _law_way -/
/- _law_strange: 0 _law_source, 1 _law_menu -/
/- numbered_letter: 0 number, 1 turn, 2 size, 3 left, 4 many, 5 found -/
/- letter_beyond: 0 known, 1 seen, 2 number, 3 letter -/
/- is_line: 0 value -/
/- is_letter: 0 value, 1 sign -/
/- new_letter: 0 letters, 1 letter -/
/- _law_bent: 0 _law_source, 1 _law_kind_here, 2 _law_at, 3 _law_odd, 4 _law_way -/
/- _law_refused: 0 _law_letters, 1 e -/
/- _law_turned: 0 _law_source, 1 _law_things, 2 _law_left, 3 _law_drawn -/
/- _law_due_letter: 0 _law_letters, 1 _law_signs, 2 _law_sign, 3 _law_other -/
/- _law_new_holds: 0 _law_source, 1 _law_signs, 2 _law_letters, 3 _law_odd, 4 _law_at, 5 _law_value, 6 _law_k -/
/- _law_two_signs_hold: 0 _law_source, 1 _law_signs, 2 _law_pairs, 3 _law_sign, 4 _law_many, 5 _law_lost, 6 _law_rest, 7 _law_one_here, 8 _law_other -/
/- is_whole: 0 value -/
/- is_number: 0 value, 1 low, 2 high -/
/- is_one_of: 0 value, 1 words -/
/- is_kind: 0 value -/
/- _law_fits_letter: 0 _law_value, 1 _law_sign -/
/- _law_fits_number: 0 _law_value, 1 _law_low, 2 _law_high -/
/- _law_fits_kind: 0 _law_value -/
/- law: 0 _law_script, 1 _law_source, 2 _law_k, 3 _law_text_here, 4 _law_kind_here, 5 _law_odd, 6 _law_value, 7 _law_told, 8 _law_one_here -/
abbrev X__law_text_0 : SF := (setF 1 (cF (.str "abcdefghijklmnopqrstuvwxyz")))
abbrev X__law_text_1 : SF := (setF 2 (rmF "str" joinG (cF (.str "")) (consF (lcF (rngF (consF (opF addG (cF (.int (1))) (callF F__law_take (consF (nmF 0) (consF (cF (.int (5))) nilF)))) nilF)) [4] (tgN 4) yesF (opF ixG (nmF 1) (callF F__law_take (consF (nmF 0) (consF (cF (.int (26))) nilF))))) nilF)))
abbrev X__law_text_2_t_0 : SF := (setF 3 (callF F__law_take (consF (nmF 0) (consF (cbF lenG (consF (nmF 2) nilF)) nilF))))
abbrev X__law_text_2_t_1 : SF := (setF 2 (opF addG (opF addG (slF (nmF 2) noneF (someF (nmF 3))) (callF F__law_one (consF (nmF 0) (consF (lstF (consF (cF (.str "A")) (consF (cF (.str "1")) (consF (cF (.str " ")) (consF (cF (.str "-")) (consF (cF (.str ".")) (consF (cF (.str "")) (consF (cF (.str "Z")) nilF)))))))) nilF)))) (slF (nmF 2) (someF (opF addG (nmF 3) (cF (.int (1))))) noneF)))
abbrev X__law_text_2_t_b : SF := (seqF X__law_text_2_t_0 X__law_text_2_t_1)
abbrev X__law_text_2 : SF := (ifS (boolF (opF eqG (callF F__law_take (consF (nmF 0) (consF (cF (.int (3))) nilF))) (cF (.int (0))))) X__law_text_2_t_b passF)
abbrev X__law_text_3 : SF := (retF (nmF 2))
abbrev X__law_text_b : SF := (seqF X__law_text_0 (seqF X__law_text_1 (seqF X__law_text_2 X__law_text_3)))
theorem X__law_text_is : B__law_text = X__law_text_b := rfl
abbrev X__law_kind_of_0 : SF := (ifS (boolF (opF eqG (nmF 1) (cF (.str "ring"))))
  (retF (tupF (consF (cF (.str "ring")) (consF (callF F__law_one (consF (nmF 0) (consF (lstF (consF (cF (.int (1))) (consF (cF (.int (2))) (consF (cF (.int (3))) (consF (cF (.int (4))) nilF))))) nilF))) (consF (callF F__law_one (consF (nmF 0) (consF (lstF (consF (cF (.str "drop")) (consF (cF (.str "ignore")) (consF (cF (.str "fail")) nilF)))) nilF))) nilF)))))
  passF)
abbrev X__law_kind_of_1 : SF := (ifS (boolF (opF eqG (nmF 1) (cF (.str "gauge"))))
  (retF (tupF (consF (cF (.str "gauge")) (consF (callF F__law_one (consF (nmF 0) (consF (lstF (consF (cF (.int (1))) (consF (cF (.int (2))) (consF (cF (.int (5))) (consF (cF (.int (9))) nilF))))) nilF))) (consF (callF F__law_one (consF (nmF 0) (consF (lstF (consF (cF (.str "stop")) (consF (cF (.str "fail")) nilF))) nilF))) nilF)))))
  passF)
abbrev X__law_kind_of_2 : SF := (retF (tupF (consF (nmF 1) nilF)))
abbrev X__law_kind_of_b : SF := (seqF X__law_kind_of_0 (seqF X__law_kind_of_1 X__law_kind_of_2))
theorem X__law_kind_of_is : B__law_kind_of = X__law_kind_of_b := rfl
abbrev X__law_kind_0 : SF := (setF 1 (lstF (consF (cF (.str "stack")) (consF (cF (.str "queue")) (consF (cF (.str "tape")) (consF (cF (.str "heap")) (consF (cF (.str "table")) (consF (cF (.str "ring")) (consF (cF (.str "gauge")) nilF)))))))))
abbrev X__law_kind_1 : SF := (retF (callF F__law_kind_of (consF (nmF 0) (consF (callF F__law_one (consF (nmF 0) (consF (nmF 1) nilF))) nilF))))
abbrev X__law_kind_b : SF := (seqF X__law_kind_0 X__law_kind_1)
theorem X__law_kind_is : B__law_kind = X__law_kind_b := rfl
abbrev X__law_some_kind_0 : SF := (setF 1 (callF F__law_take (consF (nmF 0) (consF (cF (.int (4))) nilF))))
abbrev X__law_some_kind_1 : SF := (ifS (boolF (opF eqG (nmF 1) (cF (.int (0)))))
  (retF (tupF (consF (callF F__law_one (consF (nmF 0) (consF (lstF (consF (cF (.str "stack")) (consF (cF (.str "queue")) (consF (cF (.str "tape")) (consF (cF (.str "heap")) (consF (cF (.str "table")) nilF)))))) nilF))) nilF)))
  passF)
abbrev X__law_some_kind_2 : SF := (ifS (boolF (opF eqG (nmF 1) (cF (.int (1)))))
  (retF (tupF (consF (cF (.str "ring")) (consF (callF F__law_one (consF (nmF 0) (consF (lstF (consF (cF (.int (1))) (consF (cF (.int (2))) (consF (cF (.int (12))) (consF (cF (.int (13))) (consF (cF (.int (0))) nilF)))))) nilF))) (consF (callF F__law_one (consF (nmF 0) (consF (lstF (consF (cF (.str "drop")) (consF (cF (.str "ignore")) (consF (cF (.str "fail")) (consF (cF (.str "stop")) nilF))))) nilF))) nilF)))))
  passF)
abbrev X__law_some_kind_3 : SF := (ifS (boolF (opF eqG (nmF 1) (cF (.int (2)))))
  (retF (tupF (consF (cF (.str "gauge")) (consF (callF F__law_one (consF (nmF 0) (consF (lstF (consF (cF (.int (1))) (consF (cF (.int (2))) (consF (cF (.int (999))) (consF (cF (.int (1000))) (consF (cF (.int (0))) (consF (cF (.int (13))) nilF))))))) nilF))) (consF (callF F__law_one (consF (nmF 0) (consF (lstF (consF (cF (.str "stop")) (consF (cF (.str "fail")) (consF (cF (.str "drop")) nilF)))) nilF))) nilF)))))
  passF)
abbrev X__law_some_kind_4 : SF := (retF (callF F__law_kind (consF (nmF 0) nilF)))
abbrev X__law_some_kind_b : SF := (seqF X__law_some_kind_0 (seqF X__law_some_kind_1 (seqF X__law_some_kind_2 (seqF X__law_some_kind_3 X__law_some_kind_4))))
theorem X__law_some_kind_is : B__law_some_kind = X__law_some_kind_b := rfl
abbrev X__law_strange_0 : SF := (setF 1 (lstF (consF (cF .none) (consF (cF (.bool true)) (consF (cF (.bool false)) (consF (cF (.int (0))) (consF (unF negG (cF (.int (1)))) (consF (cF (.int (1))) (consF (cF (.int (12))) (consF (cF (.int (13))) (consF (cF (.int (999))) (consF (cF (.int (1000))) (consF (cF (.str "")) (consF (cF (.str "a")) (consF (cF (.str "abcd")) (consF (cF (.str "abcde")) (consF (cF (.str "A")) (consF (cF (.str "a1")) (consF (cF (.str "a b")) (consF (tupF nilF) (consF (lstF nilF) (consF (tupF (consF (cF (.str "a")) nilF)) nilF))))))))))))))))))))))
abbrev X__law_strange_1 : SF := (retF (callF F__law_one (consF (nmF 0) (consF (opF addG (nmF 1) (lstF (consF (cF (.str "drop")) (consF (cF (.str "stop")) (consF (cF (.str "fail")) (consF (cF (.str "ignore")) (consF (cF (.str "stack")) (consF (cF (.str "ring")) (consF (tupF (consF (cF (.str "stack")) nilF)) (consF (lstF (consF (cF (.str "stack")) nilF)) (consF (opF powG (cF (.int (10))) (cF (.int (30)))) nilF))))))))))) nilF))))
abbrev X__law_strange_b : SF := (seqF X__law_strange_0 X__law_strange_1)
theorem X__law_strange_is : B__law_strange = X__law_strange_b := rfl
abbrev X_numbered_letter_0 : SF := (parF [2, 3, 4, 5] (consF (cF (.int (1))) (consF (nmF 0) (consF (cF (.int (26))) (consF (cF (.str "")) nilF)))))
abbrev X_numbered_letter_1_0 : SF := (augF 3 (fun i j => i - j) (nmF 4))
abbrev X_numbered_letter_1_1 : SF := (augG 4 mulO (cF (.int (26))))
abbrev X_numbered_letter_1_2 : SF := (augF 2 (fun i j => i + j) (cF (.int (1))))
abbrev X_numbered_letter_1_b : SF := (seqF X_numbered_letter_1_0 (seqF X_numbered_letter_1_1 X_numbered_letter_1_2))
abbrev X_numbered_letter_1 : SF := (whF FUEL (boolF (opF geG (nmF 3) (nmF 4))) X_numbered_letter_1_b)
abbrev X_numbered_letter_2_0 : SF := (setF 5 (opF addG (opF ixG (cF (.str "abcdefghijklmnopqrstuvwxyz")) (opF modG (nmF 3) (cF (.int (26))))) (nmF 5)))
abbrev X_numbered_letter_2_1 : SF := (setF 3 (opF fdivG (nmF 3) (cF (.int (26)))))
abbrev X_numbered_letter_2_b : SF := (seqF X_numbered_letter_2_0 X_numbered_letter_2_1)
abbrev X_numbered_letter_2 : SF := (forF (rngF (consF (nmF 2) nilF)) (tgN 1) X_numbered_letter_2_b)
abbrev X_numbered_letter_3 : SF := (retF (nmF 5))
abbrev X_numbered_letter_b : SF := (seqF X_numbered_letter_0 (seqF X_numbered_letter_1 (seqF X_numbered_letter_2 X_numbered_letter_3)))
theorem X_numbered_letter_is : B_numbered_letter = X_numbered_letter_b := rfl
abbrev X_letter_beyond_0 : SF := (setF 1 (dcF (itF (nmF 0)) [3] (tgN 3) yesF (nmF 3) (cF (.bool true))))
abbrev X_letter_beyond_1_0 : SF := (setF 3 (callF F_numbered_letter (consF (nmF 2) nilF)))
abbrev X_letter_beyond_1_1 : SF := (ifS (boolF (opF (inG true) (nmF 3) (nmF 1)))
  (retF (nmF 3))
  passF)
abbrev X_letter_beyond_1_b : SF := (seqF X_letter_beyond_1_0 X_letter_beyond_1_1)
abbrev X_letter_beyond_1 : SF := (forF (rngF (consF (opF addG (cbF lenDC (consF (nmF 1) nilF)) (cF (.int (1)))) nilF)) (tgN 2) X_letter_beyond_1_b)
abbrev X_letter_beyond_2 : SF := (retF (callF F_numbered_letter (consF (opF addG (cbF lenDC (consF (nmF 1) nilF)) (cF (.int (1)))) nilF)))
abbrev X_letter_beyond_b : SF := (seqF X_letter_beyond_0 (seqF X_letter_beyond_1 X_letter_beyond_2))
theorem X_letter_beyond_is : B_letter_beyond = X_letter_beyond_b := rfl
abbrev X_is_line_0 : SF := (retF (unF (isi2G "list" "tuple") (nmF 0)))
abbrev X_is_line_b : SF := X_is_line_0
theorem X_is_line_is : B_is_line = X_is_line_b := rfl
abbrev X_is_letter_0 : SF := (retF (andE (isiF "str" (nmF 0)) (andE (chF leG leG (cF (.int (1))) (cbF lenG (consF (nmF 0) nilF)) (cF (.int (4)))) (cbF allC (consF (lcF (itF (nmF 0)) [1] (tgN 1) yesF (opF (inG false) (nmF 1) (cF (.str "abcdefghijklmnopqrstuvwxyz")))) nilF)))))
abbrev X_is_letter_b : SF := X_is_letter_0
theorem X_is_letter_is : B_is_letter = X_is_letter_b := rfl
abbrev X_new_letter_0 : SF := (ifS (orT (notT (truF (callF F_is_line (consF (nmF 0) nilF)))) (boolF (opF gtG (cbF lenG (consF (nmF 0) nilF)) (cF (.int (4000))))))
  (raiseF "NoLetter" "told" (cF .none))
  passF)
abbrev X_new_letter_1_0 : SF := (ifS (notT (truF (callF F_is_letter (consF (nmF 1) nilF))))
  (raiseF "NoLetter" "told" (nmF 1))
  passF)
abbrev X_new_letter_1_b : SF := X_new_letter_1_0
abbrev X_new_letter_1 : SF := (forF (itF (nmF 0)) (tgN 1) X_new_letter_1_b)
abbrev X_new_letter_2 : SF := (retF (callF F_letter_beyond (consF (nmF 0) nilF)))
abbrev X_new_letter_b : SF := (seqF X_new_letter_0 (seqF X_new_letter_1 X_new_letter_2))
theorem X_new_letter_is : B_new_letter = X_new_letter_b := rfl
abbrev X__law_bent_0 : SF := (setF 2 (callF F__law_take (consF (nmF 0) (consF (cbF lenG (consF (nmF 1) nilF)) nilF))))
abbrev X__law_bent_1 : SF := (setF 3 (callF F__law_strange (consF (nmF 0) nilF)))
abbrev X__law_bent_2 : SF := (setF 4 (callF F__law_take (consF (nmF 0) (consF (cF (.int (4))) nilF))))
abbrev X__law_bent_3 : SF := (ifS (boolF (opF eqG (nmF 4) (cF (.int (0)))))
  (retF (opF addG (slF (nmF 1) noneF (someF (nmF 2))) (slF (nmF 1) (someF (opF addG (nmF 2) (cF (.int (1))))) noneF)))
  passF)
abbrev X__law_bent_4 : SF := (ifS (boolF (opF eqG (nmF 4) (cF (.int (1)))))
  (retF (opF addG (nmF 1) (tupF (consF (nmF 3) nilF))))
  passF)
abbrev X__law_bent_5 : SF := (ifS (boolF (opF eqG (nmF 4) (cF (.int (2)))))
  (retF (cbF listC (consF (nmF 1) nilF)))
  passF)
abbrev X__law_bent_6 : SF := (retF (opF addG (opF addG (slF (nmF 1) noneF (someF (nmF 2))) (tupF (consF (nmF 3) nilF))) (slF (nmF 1) (someF (opF addG (nmF 2) (cF (.int (1))))) noneF)))
abbrev X__law_bent_b : SF := (seqF X__law_bent_0 (seqF X__law_bent_1 (seqF X__law_bent_2 (seqF X__law_bent_3 (seqF X__law_bent_4 (seqF X__law_bent_5 X__law_bent_6))))))
theorem X__law_bent_is : B__law_bent = X__law_bent_b := rfl
abbrev X__law_refused_0 : SF := (tryF CTL 1 (exprF (callF F_new_letter (consF (nmF 0) nilF))) (("NoLetter", fun x => retF (lstF (consF (cbF reprC (consF (toldF "told" x) nilF)) (consF (isxF CTL "BoxError" x) (consF (isbF CTL "ValueError" x) nilF))))) :: []))
abbrev X__law_refused_1 : SF := (retF (lstF nilF))
abbrev X__law_refused_b : SF := (seqF X__law_refused_0 X__law_refused_1)
theorem X__law_refused_is : B__law_refused = X__law_refused_b := rfl
abbrev X__law_turned_0 : SF := (parF [2, 3] (consF (cbF listC (consF (nmF 1) nilF)) (consF (lstF nilF) nilF)))
abbrev X__law_turned_1_0 : SF := (exprF (muF "list" appG (nmF 3) (consF (muF "list" popAtG (nmF 2) (consF (callF F__law_take (consF (nmF 0) (consF (cbF lenG (consF (nmF 2) nilF)) nilF))) nilF)) nilF)))
abbrev X__law_turned_1_b : SF := X__law_turned_1_0
abbrev X__law_turned_1 : SF := (whF FUEL (boolF (opF neG (nmF 2) (lstF nilF))) X__law_turned_1_b)
abbrev X__law_turned_2 : SF := (retF (nmF 3))
abbrev X__law_turned_b : SF := (seqF X__law_turned_0 (seqF X__law_turned_1 X__law_turned_2))
theorem X__law_turned_is : B__law_turned = X__law_turned_b := rfl
abbrev X__law_due_letter_0 : SF := (setF 1 (cF (.str "abcdefghijklmnopqrstuvwxyz")))
abbrev X__law_due_letter_1_0 : SF := (ifS (boolF (opF (inG true) (nmF 2) (nmF 0)))
  (retF (nmF 2))
  passF)
abbrev X__law_due_letter_1_b : SF := X__law_due_letter_1_0
abbrev X__law_due_letter_1 : SF := (forF (itF (nmF 1)) (tgN 2) X__law_due_letter_1_b)
abbrev X__law_due_letter_2_0_0 : SF := (ifS (boolF (opF (inG true) (opF addG (nmF 2) (nmF 3)) (nmF 0)))
  (retF (opF addG (nmF 2) (nmF 3)))
  passF)
abbrev X__law_due_letter_2_0_b : SF := X__law_due_letter_2_0_0
abbrev X__law_due_letter_2_0 : SF := (forF (itF (nmF 1)) (tgN 3) X__law_due_letter_2_0_b)
abbrev X__law_due_letter_2_b : SF := X__law_due_letter_2_0
abbrev X__law_due_letter_2 : SF := (forF (itF (nmF 1)) (tgN 2) X__law_due_letter_2_b)
abbrev X__law_due_letter_3 : SF := (retF (cF .none))
abbrev X__law_due_letter_b : SF := (seqF X__law_due_letter_0 (seqF X__law_due_letter_1 (seqF X__law_due_letter_2 X__law_due_letter_3)))
theorem X__law_due_letter_is : B__law_due_letter = X__law_due_letter_b := rfl
abbrev X__law_new_holds_0 : SF := (setF 1 (cbF listSC (consF (cF (.str "abcdefghijklmnopqrstuvwxyz")) nilF)))
abbrev X__law_new_holds_1 : SF := (setF 2 (lcF (rngF (consF (callF F__law_take (consF (nmF 0) (consF (cF (.int (9))) nilF))) nilF)) [6] (tgN 6) yesF (callF F__law_one (consF (nmF 0) (consF (opF addG (slF (nmF 1) noneF (someF (cF (.int (6))))) (lstF (consF (cF (.str "aa")) (consF (cF (.str "ab")) (consF (cF (.str "zz")) nilF))))) nilF)))))
abbrev X__law_new_holds_2 : SF := (ifS (boolF (opF eqG (callF F__law_take (consF (nmF 0) (consF (cF (.int (2))) nilF))) (cF (.int (0)))))
  (setF 2 (opF addG (callF F__law_turned (consF (nmF 0) (consF (opF addG (nmF 1) (slF (lstF (consF (cF (.str "aa")) (consF (cF (.str "ab")) (consF (cF (.str "ad")) nilF)))) noneF (someF (callF F__law_take (consF (nmF 0) (consF (cF (.int (4))) nilF)))))) nilF))) (nmF 2)))
  passF)
abbrev X__law_new_holds_3 : SF := (ifS (orT (boolF (opF neG (callF F_new_letter (consF (nmF 2) nilF)) (callF F__law_due_letter (consF (nmF 2) nilF)))) (boolF (opF neG (callF F_new_letter (consF (cbF tupleC (consF (nmF 2) nilF)) nilF)) (callF F__law_due_letter (consF (nmF 2) nilF)))))
  (retF (cF (.bool false)))
  passF)
abbrev X__law_new_holds_4 : SF := (setF 3 (callF F__law_one (consF (nmF 0) (consF (lstF (consF (cF .none) (consF (cF (.str "")) (consF (cF (.str "A")) (consF (cF (.str "abcde")) (consF (cF (.int (5))) (consF (tupF (consF (cF (.str "a")) nilF)) (consF (cF (.bool true)) nilF)))))))) nilF))))
abbrev X__law_new_holds_5 : SF := (setF 4 (callF F__law_take (consF (nmF 0) (consF (opF addG (cbF lenG (consF (nmF 2) nilF)) (cF (.int (1)))) nilF))))
abbrev X__law_new_holds_6 : SF := (ifS (boolF (opF neG (callF F__law_refused (consF (opF addG (opF addG (slF (nmF 2) noneF (someF (nmF 4))) (lstF (consF (nmF 3) (consF (cF (.str "B")) nilF)))) (slF (nmF 2) (someF (nmF 4)) noneF)) nilF)) (lstF (consF (cbF reprC (consF (nmF 3) nilF)) (consF (cF (.bool true)) (consF (cF (.bool true)) nilF))))))
  (retF (cF (.bool false)))
  passF)
abbrev X__law_new_holds_7_0 : SF := (ifS (boolF (opF neG (callF F__law_refused (consF (nmF 5) nilF)) (lstF (consF (cF (.str "None")) (consF (cF (.bool true)) (consF (cF (.bool true)) nilF))))))
  (retF (cF (.bool false)))
  passF)
abbrev X__law_new_holds_7_b : SF := X__law_new_holds_7_0
abbrev X__law_new_holds_7 : SF := (forF (itF (lstF (consF (cF .none) (consF (cF (.str "abc")) (consF dnewF (consF (cF (.int (5))) (consF (mulF (lstF (consF (cF (.str "a")) nilF)) (cF (.int (4001)))) nilF))))))) (tgN 5) X__law_new_holds_7_b)
abbrev X__law_new_holds_8 : SF := (retF (opF eqG (callF F_new_letter (consF (mulF (lstF (consF (cF (.str "a")) nilF)) (cF (.int (4000)))) nilF)) (cF (.str "b"))))
abbrev X__law_new_holds_b : SF := (seqF X__law_new_holds_0 (seqF X__law_new_holds_1 (seqF X__law_new_holds_2 (seqF X__law_new_holds_3 (seqF X__law_new_holds_4 (seqF X__law_new_holds_5 (seqF X__law_new_holds_6 (seqF X__law_new_holds_7 X__law_new_holds_8))))))))
theorem X__law_new_holds_is : B__law_new_holds = X__law_new_holds_b := rfl
abbrev X__law_two_signs_hold_0 : SF := (setF 1 (cF (.str "abcdefghijklmnopqrstuvwxyz")))
abbrev X__law_two_signs_hold_1 : SF := (setF 2 (lstF nilF))
abbrev X__law_two_signs_hold_2_0 : SF := (setF 2 (opF addG (nmF 2) (lcF (itF (nmF 1)) [8] (tgN 8) yesF (opF addG (nmF 3) (nmF 8)))))
abbrev X__law_two_signs_hold_2_b : SF := X__law_two_signs_hold_2_0
abbrev X__law_two_signs_hold_2 : SF := (forF (itF (nmF 1)) (tgN 3) X__law_two_signs_hold_2_b)
abbrev X__law_two_signs_hold_3 : SF := (setF 4 (opF addG (cbF listSC (consF (nmF 1) nilF)) (nmF 2)))
abbrev X__law_two_signs_hold_4 : SF := (setF 5 (callF F__law_one (consF (nmF 0) (consF (nmF 4) nilF))))
abbrev X__law_two_signs_hold_5 : SF := (ifS (orT (boolF (opF neG (callF F_new_letter (consF (nmF 4) nilF)) (cF (.str "aaa")))) (boolF (opF neG (callF F_new_letter (consF (opF addG (nmF 4) (lstF (consF (cF (.str "aaa")) (consF (cF (.str "aac")) nilF)))) nilF)) (cF (.str "aab")))))
  (retF (cF (.bool false)))
  passF)
abbrev X__law_two_signs_hold_6 : SF := (setF 6 (lcF (itF (nmF 4)) [7] (tgN 7) (boolF (opF neG (nmF 7) (nmF 5))) (nmF 7)))
abbrev X__law_two_signs_hold_7 : SF := (retF (opF eqG (callF F_new_letter (consF (opF addG (callF F__law_turned (consF (nmF 0) (consF (slF (nmF 6) noneF (someF (cF (.int (40))))) nilF))) (unF rev2G (nmF 6))) nilF)) (nmF 5)))
abbrev X__law_two_signs_hold_b : SF := (seqF X__law_two_signs_hold_0 (seqF X__law_two_signs_hold_1 (seqF X__law_two_signs_hold_2 (seqF X__law_two_signs_hold_3 (seqF X__law_two_signs_hold_4 (seqF X__law_two_signs_hold_5 (seqF X__law_two_signs_hold_6 X__law_two_signs_hold_7)))))))
theorem X__law_two_signs_hold_is : B__law_two_signs_hold = X__law_two_signs_hold_b := rfl
abbrev X_is_whole_0 : SF := (retF (andE (isiF "int" (nmF 0)) (notE (isiF "bool" (nmF 0)))))
abbrev X_is_whole_b : SF := X_is_whole_0
theorem X_is_whole_is : B_is_whole = X_is_whole_b := rfl
abbrev X_is_number_0 : SF := (retF (andE (callF F_is_whole (consF (nmF 0) nilF)) (chF leG leG (nmF 1) (nmF 0) (nmF 2))))
abbrev X_is_number_b : SF := X_is_number_0
theorem X_is_number_is : B_is_number = X_is_number_b := rfl
abbrev X_is_one_of_0 : SF := (retF (andE (isiF "str" (nmF 0)) (opF (inG false) (nmF 0) (nmF 1))))
abbrev X_is_one_of_b : SF := X_is_one_of_0
theorem X_is_one_of_is : B_is_one_of = X_is_one_of_b := rfl
abbrev X_is_kind_0 : SF := (ifS (orT (notT (truF (isiF "tuple" (nmF 0)))) (orT (boolF (opF (inG true) (cbF lenG (consF (nmF 0) nilF)) (tupF (consF (cF (.int (1))) (consF (cF (.int (3))) nilF))))) (notT (truF (isiF "str" (opF ixG (nmF 0) (cF (.int (0)))))))))
  (retF (cF (.bool false)))
  passF)
abbrev X_is_kind_1 : SF := (ifS (boolF (opF eqG (cbF lenG (consF (nmF 0) nilF)) (cF (.int (1)))))
  (retF (opF (inG false) (opF ixG (nmF 0) (cF (.int (0)))) (cF K_SIMPLE_KINDS)))
  passF)
abbrev X_is_kind_2 : SF := (ifS (boolF (opF eqG (opF ixG (nmF 0) (cF (.int (0)))) (cF (.str "ring"))))
  (retF (andE (callF F_is_number (consF (opF ixG (nmF 0) (cF (.int (1)))) (consF (cF (.int (1))) (consF (cF (.int (12))) nilF)))) (callF F_is_one_of (consF (opF ixG (nmF 0) (cF (.int (2)))) (consF (cF K_RING_MODES) nilF)))))
  passF)
abbrev X_is_kind_3 : SF := (retF (andE (opF eqG (opF ixG (nmF 0) (cF (.int (0)))) (cF (.str "gauge"))) (andE (callF F_is_number (consF (opF ixG (nmF 0) (cF (.int (1)))) (consF (cF (.int (1))) (consF (cF (.int (999))) nilF)))) (callF F_is_one_of (consF (opF ixG (nmF 0) (cF (.int (2)))) (consF (cF K_GAUGE_MODES) nilF))))))
abbrev X_is_kind_b : SF := (seqF X_is_kind_0 (seqF X_is_kind_1 (seqF X_is_kind_2 X_is_kind_3)))
theorem X_is_kind_is : B_is_kind = X_is_kind_b := rfl
abbrev X__law_fits_letter_0 : SF := (ifS (orT (notT (truF (isiF "str" (nmF 0)))) (notT (boolF (chF leG leG (cF (.int (1))) (cbF lenG (consF (nmF 0) nilF)) (cF (.int (4)))))))
  (retF (cF (.bool false)))
  passF)
abbrev X__law_fits_letter_1 : SF := (retF (cbF allC (consF (lcF (itF (nmF 0)) [1] (tgN 1) yesF (opF (inG false) (nmF 1) (cF (.str "abcdefghijklmnopqrstuvwxyz")))) nilF)))
abbrev X__law_fits_letter_b : SF := (seqF X__law_fits_letter_0 X__law_fits_letter_1)
theorem X__law_fits_letter_is : B__law_fits_letter = X__law_fits_letter_b := rfl
abbrev X__law_fits_number_0 : SF := (retF (andE (isiF "int" (nmF 0)) (andE (notE (isiF "bool" (nmF 0))) (chF leG leG (nmF 1) (nmF 0) (nmF 2)))))
abbrev X__law_fits_number_b : SF := X__law_fits_number_0
theorem X__law_fits_number_is : B__law_fits_number = X__law_fits_number_b := rfl
abbrev X__law_fits_kind_0 : SF := (ifS (orT (notT (truF (isiF "tuple" (nmF 0)))) (orT (boolF (opF eqG (nmF 0) (tupF nilF))) (notT (truF (isiF "str" (opF ixG (nmF 0) (cF (.int (0)))))))))
  (retF (cF (.bool false)))
  passF)
abbrev X__law_fits_kind_1 : SF := (ifS (boolF (opF eqG (cbF lenG (consF (nmF 0) nilF)) (cF (.int (1)))))
  (retF (opF (inG false) (opF ixG (nmF 0) (cF (.int (0)))) (lstF (consF (cF (.str "stack")) (consF (cF (.str "queue")) (consF (cF (.str "tape")) (consF (cF (.str "heap")) (consF (cF (.str "table")) nilF))))))))
  passF)
abbrev X__law_fits_kind_2 : SF := (ifS (orT (boolF (opF neG (cbF lenG (consF (nmF 0) nilF)) (cF (.int (3))))) (orT (boolF (opF (inG true) (opF ixG (nmF 0) (cF (.int (0)))) (lstF (consF (cF (.str "ring")) (consF (cF (.str "gauge")) nilF))))) (notT (truF (isiF "str" (opF ixG (nmF 0) (cF (.int (2)))))))))
  (retF (cF (.bool false)))
  passF)
abbrev X__law_fits_kind_3 : SF := (ifS (boolF (opF eqG (opF ixG (nmF 0) (cF (.int (0)))) (cF (.str "ring"))))
  (retF (andE (callF F__law_fits_number (consF (opF ixG (nmF 0) (cF (.int (1)))) (consF (cF (.int (1))) (consF (cF (.int (12))) nilF)))) (opF (inG false) (opF ixG (nmF 0) (cF (.int (2)))) (lstF (consF (cF (.str "drop")) (consF (cF (.str "ignore")) (consF (cF (.str "fail")) nilF)))))))
  passF)
abbrev X__law_fits_kind_4 : SF := (retF (andE (callF F__law_fits_number (consF (opF ixG (nmF 0) (cF (.int (1)))) (consF (cF (.int (1))) (consF (cF (.int (999))) nilF)))) (opF (inG false) (opF ixG (nmF 0) (cF (.int (2)))) (lstF (consF (cF (.str "stop")) (consF (cF (.str "fail")) nilF))))))
abbrev X__law_fits_kind_b : SF := (seqF X__law_fits_kind_0 (seqF X__law_fits_kind_1 (seqF X__law_fits_kind_2 (seqF X__law_fits_kind_3 X__law_fits_kind_4))))
theorem X__law_fits_kind_is : B__law_fits_kind = X__law_fits_kind_b := rfl
abbrev X_law_0 : SF := (setF 1 (callF F__law_pool (consF (nmF 0) (consF (cF (.int (0))) nilF))))
abbrev X_law_1_0 : SF := (setF 3 (callF F__law_text (consF (nmF 1) nilF)))
abbrev X_law_1_1 : SF := (setF 4 (callF F__law_some_kind (consF (nmF 1) nilF)))
abbrev X_law_1_2 : SF := (ifS (boolF (opF eqG (callF F__law_take (consF (nmF 1) (consF (cF (.int (2))) nilF))) (cF (.int (0)))))
  (setF 4 (callF F__law_bent (consF (nmF 1) (consF (nmF 4) nilF))))
  passF)
abbrev X_law_1_3 : SF := (setF 5 (callF F__law_strange (consF (nmF 1) nilF)))
abbrev X_law_1_4_0 : SF := (setF 7 (lstF (consF (callF F_is_letter (consF (nmF 6) nilF)) (consF (callF F_is_kind (consF (nmF 6) nilF)) nilF))))
abbrev X_law_1_4_1 : SF := (ifS (boolF (opF neG (lcF (itF (nmF 7)) [8] (tgN 8) yesF (opF (isG false) (nmF 8) (cF (.bool true)))) (lstF (consF (callF F__law_fits_letter (consF (nmF 6) nilF)) (consF (callF F__law_fits_kind (consF (nmF 6) nilF)) nilF)))))
  (retF (cF (.bool false)))
  passF)
abbrev X_law_1_4_2 : SF := (ifS (notT (truF (cbF allC (consF (lcF (itF (nmF 7)) [8] (tgN 8) yesF (isiF "bool" (nmF 8))) nilF))))
  (retF (cF (.bool false)))
  passF)
abbrev X_law_1_4_b : SF := (seqF X_law_1_4_0 (seqF X_law_1_4_1 X_law_1_4_2))
abbrev X_law_1_4 : SF := (forF (itF (lstF (consF (nmF 3) (consF (nmF 4) (consF (nmF 5) nilF))))) (tgN 6) X_law_1_4_b)
abbrev X_law_1_b : SF := (seqF X_law_1_0 (seqF X_law_1_1 (seqF X_law_1_2 (seqF X_law_1_3 X_law_1_4))))
abbrev X_law_1 : SF := (forF (rngF (consF (cF (.int (16))) nilF)) (tgN 2) X_law_1_b)
abbrev X_law_2 : SF := (ifS (orT (notT (truF (callF F__law_new_holds (consF (callF F__law_pool (consF (nmF 0) (consF (cF (.int (1))) nilF))) nilF)))) (notT (truF (callF F__law_two_signs_hold (consF (callF F__law_pool (consF (nmF 0) (consF (cF (.int (2))) nilF))) nilF)))))
  (retF (cF (.bool false)))
  passF)
abbrev X_law_3 : SF := (retF (opF eqG (callF F_new_letter (consF (lstF nilF) nilF)) (cF (.str "a"))))
abbrev X_law_b : SF := (seqF X_law_0 (seqF X_law_1 (seqF X_law_2 X_law_3)))
theorem X_law_is : B_law = X_law_b := rfl
end S00


set_option Elab.async false
set_option linter.all false
set_option maxRecDepth 100000
set_option maxHeartbeats 4000000
namespace S00
open PySem PySem.Spec PyProof.Rows L2 VL
/-! letters and kinds: both answers are one -/
def AL : Str := "abcdefghijklmnopqrstuvwxyz"
def inA (c : Nat) : Bool := inStr ⟨#[c]⟩ AL
theorem bools_of : ∀ bs : List Bool, boolsD (bs.map PyData.bool) = some bs
  | [] => rfl
  | b :: bs => by
    show (boolsD (bs.map PyData.bool)).map (b :: ·) = _
    rw [bools_of bs]; rfl
theorem all_bools (bs : List Bool) : allC [.list (bs.map PyData.bool)] = some (.sh (.bool (bs.all id))) := by
  show (boolsD _).map _ = _
  rw [bools_of]; rfl
theorem sign_lc (x : Str) (hl : x.length ≤ 1000000) : lcGo (lcStep [1] (tgN 1) yesF (opF (inG false) (nmF 1) (cF (.str "abcdefghijklmnopqrstuvwxyz")))) (signsD x) [.sh (.str x), .un] [] = some ((x.cps.toList.map inA).map PyData.bool, [.sh (.str x), .un]) := by
  have h := lc_ty (fun c => PyData.str ⟨#[c]⟩) (fun _ => true) (fun c => PyData.bool (inA c)) (v := 1) (e := [.sh (.str x), .un]) (tt := yesF) (el := opF (inG false) (nmF 1) (cF (.str "abcdefghijklmnopqrstuvwxyz"))) x.cps.toList [] rfl (fun _ _ => rfl) (fun c _ _ => ⟨.sh (.bool (inA c)), rfl, rfl⟩) (by
    rw [List.length_nil, Nat.zero_add, Array.length_toList]; exact Nat.le_trans hl (by decide))
  have hf : x.cps.toList.filter (fun _ => true) = x.cps.toList := List.filter_eq_self.mpr (fun _ _ => rfl)
  rw [hf, List.nil_append] at h
  rw [List.map_map]
  exact h
def letB (x : Str) : Bool := decide ((1 : Int) ≤ (x.length : Int)) && decide ((x.length : Int) ≤ 4) && (x.cps.toList.map inA).all id
theorem lenS {x : Str} (hl : x.length ≤ 1000000) : lenG [.str x] = some (.sh (.int x.length)) := by
  have h2 : x.length ≤ LIM := Nat.le_trans hl (by decide)
  show ((if x.length ≤ LIM then some x.length else none).map fun (n : Nat) => Rv.sh (PyData.int (n : Int))) = _
  rw [if_pos h2]; rfl
theorem isi_o {d : D} {T : String} (h : isiOk d = true) : isiG T d = some (.sh (.bool (isiTb (tyD d) T))) := by
  unfold isiG; rw [if_pos h]
theorem is_letter_str {x : Str} (hl : x.length ≤ 1000000) : F_is_letter [.sh (.str x)] = .ret false (.bool (letB x)) [.sh (.str x)] := by
  have s := sign_lc x hl
  have a := all_bools (x.cps.toList.map inA)
  have n := lenS hl
  have i : itemsD (.str x) = some (signsD x) := rfl
  unfold letB
  generalize (x.cps.toList.map inA) = bs at *
  generalize signsD x = ds at *
  generalize (x.length : Int) = m at *
  by_cases c1 : 1 ≤ m <;> by_cases c2 : m ≤ 4 <;> simp [F_is_letter, runF, B_is_letter, Ag.sl, outE, pick, n, i, s, a, c1, c2]
theorem fits_letter_str {x : Str} (hl : x.length ≤ 1000000) : F__law_fits_letter [.sh (.str x)] = .ret false (.bool (letB x)) [.sh (.str x)] := by
  have s := sign_lc x hl
  have a := all_bools (x.cps.toList.map inA)
  have n := lenS hl
  have i : itemsD (.str x) = some (signsD x) := rfl
  unfold letB
  generalize (x.cps.toList.map inA) = bs at *
  generalize signsD x = ds at *
  generalize (x.length : Int) = m at *
  by_cases c1 : 1 ≤ m <;> by_cases c2 : m ≤ 4 <;> simp [F__law_fits_letter, runF, B__law_fits_letter, Ag.sl, outE, pick, n, i, s, a, c1, c2]
theorem isTb_s {t : String} (h : t ≠ "str") : isiTb t "str" = false := by
  unfold isiTb
  have : (t == "str") = false := by simpa using h
  rw [this]
  simp
theorem is_letter_no {d : D} (h : isiOk d = true) (hs : tyD d ≠ "str") : F_is_letter [.sh d] = .ret false (.bool false) [.sh d] := by
  have i := isi_o (T := "str") h
  rw [isTb_s hs] at i
  simp [F_is_letter, runF, B_is_letter, Ag.sl, outE, pick, i]
theorem fits_letter_no {d : D} (h : isiOk d = true) (hs : tyD d ≠ "str") : F__law_fits_letter [.sh d] = .ret false (.bool false) [.sh d] := by
  have i := isi_o (T := "str") h
  rw [isTb_s hs] at i
  simp [F__law_fits_letter, runF, B__law_fits_letter, Ag.sl, outE, pick, i]
theorem isTb_t {t : String} (h : t ≠ "tuple") : isiTb t "tuple" = false := by
  unfold isiTb
  have : (t == "tuple") = false := by simpa using h
  rw [this]
  simp
theorem is_kind_no {d : D} (h : isiOk d = true) (hs : tyD d ≠ "tuple") : F_is_kind [.sh d] = .ret false (.bool false) [.sh d] := by
  have i := isi_o (T := "tuple") h
  rw [isTb_t hs] at i
  simp [F_is_kind, runF, B_is_kind, Ag.sl, outE, pick, i]
theorem fits_kind_no {d : D} (h : isiOk d = true) (hs : tyD d ≠ "tuple") : F__law_fits_kind [.sh d] = .ret false (.bool false) [.sh d] := by
  have i := isi_o (T := "tuple") h
  rw [isTb_t hs] at i
  simp [F__law_fits_kind, runF, B__law_fits_kind, Ag.sl, outE, pick, i]
def OkV (v : D) : Prop := ∃ a b : Bool, F_is_letter [.sh v] = .ret false (.bool a) [.sh v] ∧ F__law_fits_letter [.sh v] = .ret false (.bool a) [.sh v] ∧ F_is_kind [.sh v] = .ret false (.bool b) [.sh v] ∧ F__law_fits_kind [.sh v] = .ret false (.bool b) [.sh v]
theorem ok_str {x : Str} (hl : x.length ≤ 1000000) : OkV (.str x) :=
  ⟨letB x, false, is_letter_str hl, fits_letter_str hl, is_kind_no rfl (by simp [tyD]), fits_kind_no rfl (by simp [tyD])⟩
theorem ok_no {d : D} (h : isiOk d = true) (h1 : tyD d ≠ "str") (h2 : tyD d ≠ "tuple") : OkV d :=
  ⟨false, false, is_letter_no h h1, fits_letter_no h h1, is_kind_no h h2, fits_kind_no h h2⟩
end S00


set_option Elab.async false
set_option linter.all false
set_option maxRecDepth 100000
set_option maxHeartbeats 4000000
namespace S00
open PySem PySem.Spec PyProof.Rows L2 VL
/-! kinds -/
def FineE (d : D) : Prop := Lay 5 d ∧ isiOk d = true
theorem in_t {d : D} {ws : List D} (hd : SeqAt.shaped d = true) (hw : SeqAt.shaped (.tuple ws) = true) : inG false d (.tuple ws) = some (.sh (.bool (ws.any fun z => PyData.eqv z d))) := by
  simp only [inG, orG, inSeqG, hd, hw, Bool.and_self, if_true]; rfl
theorem in_l {d : D} {ws : List D} (hd : SeqAt.shaped d = true) (hw : SeqAt.shaped (.list ws) = true) : inG false d (.list ws) = some (.sh (.bool (ws.any fun z => PyData.eqv z d))) := by
  simp only [inG, orG, inSeqG, hd, hw, Bool.and_self, if_true]; rfl
theorem nin_l {d : D} {ws : List D} (hd : SeqAt.shaped d = true) (hw : SeqAt.shaped (.list ws) = true) : inG true d (.list ws) = some (.sh (.bool (!ws.any fun z => PyData.eqv z d))) := by
  simp only [inG, orG, inSeqG, hd, hw, Bool.and_self, if_true]
def numB (d : D) (lo hi : Int) : Bool := match d with
  | .int i => decide (lo ≤ i) && decide (i ≤ hi)
  | _ => false
theorem is_number_ok {d : D} (h : isiOk d = true) (lo hi : Int) : F_is_number [.sh d, .sh (.int lo), .sh (.int hi)] = .ret false (.bool (numB d lo hi)) [.sh d, .sh (.int lo), .sh (.int hi)] := by
  have i := isi_o (T := "int") h
  have i2 := isi_o (T := "bool") h
  have w : F_is_whole [.sh d] = .ret false (.bool (match d with | .int _ => true | _ => false)) [.sh d] := by
    cases d <;> first
      | (have t1 : isiTb "bool" "int" = true := by decide
         have t2 : isiTb "bool" "bool" = true := by decide
         simp [F_is_whole, runF, B_is_whole, Ag.sl, outE, pick, i, i2, tyD, t1, t2]; done)
      | (simp [F_is_whole, runF, B_is_whole, Ag.sl, outE, pick, i, i2, tyD, isiTb]; done)
  cases d with
  | int n =>
    by_cases c1 : lo ≤ n <;> by_cases c2 : n ≤ hi <;> simp [F_is_number, runF, B_is_number, Ag.sl, outE, pick, w, numB, c1, c2]
  | _ => simp [F_is_number, runF, B_is_number, Ag.sl, outE, pick, w, numB]
theorem fits_number_ok {d : D} (h : isiOk d = true) (lo hi : Int) : F__law_fits_number [.sh d, .sh (.int lo), .sh (.int hi)] = .ret false (.bool (numB d lo hi)) [.sh d, .sh (.int lo), .sh (.int hi)] := by
  have i := isi_o (T := "int") h
  have i2 := isi_o (T := "bool") h
  have t1 : isiTb "bool" "int" = true := by decide
  have t2 : isiTb "bool" "bool" = true := by decide
  have t3 : isiTb "int" "int" = true := by decide
  have t4 : isiTb "int" "bool" = false := by decide
  cases d with
  | int n =>
    by_cases c1 : lo ≤ n <;> by_cases c2 : n ≤ hi <;> simp [F__law_fits_number, runF, B__law_fits_number, Ag.sl, outE, pick, numB, c1, c2]
  | bool b => simp [F__law_fits_number, runF, B__law_fits_number, Ag.sl, outE, pick, numB, i, i2, tyD, t1, t2]
  | _ => simp [F__law_fits_number, runF, B__law_fits_number, Ag.sl, outE, pick, numB, i, i2, tyD, isiTb]
def oneB (d : D) (ws : List D) : Bool := match d with
  | .str x => ws.any fun z => PyData.eqv z (.str x)
  | _ => false
theorem is_one_of_ok {d : D} {ws : List D} (h : FineE d) (hw : SeqAt.shaped (.tuple ws) = true) : F_is_one_of [.sh d, .sh (.tuple ws)] = .ret false (.bool (oneB d ws)) [.sh d, .sh (.tuple ws)] := by
  have i := isi_o (T := "str") h.2
  have n := in_t (h.1.sh (by decide)) hw
  cases d with
  | str x => simp [F_is_one_of, runF, B_is_one_of, Ag.sl, outE, pick, n, oneB]
  | _ => simp [F_is_one_of, runF, B_is_one_of, Ag.sl, outE, pick, i, tyD, isiTb, oneB]
theorem shT {ds : List D} (h : ∀ d ∈ ds, FineE d) : SeqAt.shaped (.tuple ds) = true := (lay_tup fun x hx => (h x hx).1).sh (by decide)
theorem eq_nil_t {a : D} {r : List D} (h : ∀ d ∈ a :: r, FineE d) : eqG (.tuple (a :: r)) (.tuple []) = some (.sh (.bool false)) := by
  have h2 : SeqAt.shaped (.tuple ([] : List D)) = true := by decide +kernel
  unfold eqG
  rw [shT h, h2]
  rfl
theorem c12 : (inG true (.int 1) (.tuple [.int 1, .int 3])) = some (.sh (.bool false)) := by kernel_rfl
theorem c22 : (inG true (.int 2) (.tuple [.int 1, .int 3])) = some (.sh (.bool true)) := by kernel_rfl
theorem c32 : (inG true (.int 3) (.tuple [.int 1, .int 3])) = some (.sh (.bool false)) := by kernel_rfl
theorem c42 : (inG true (.int 4) (.tuple [.int 1, .int 3])) = some (.sh (.bool true)) := by kernel_rfl
theorem at1 {α : Type} {a b : α} {r : List α} : atI (a :: b :: r) 1 = some b := by
  have := x_atI (l := a :: b :: r) (k := 1)
  simpa using this
theorem at2 {α : Type} {a b c : α} {r : List α} : atI (a :: b :: c :: r) 2 = some c := by
  have := x_atI (l := a :: b :: c :: r) (k := 2)
  simpa using this
theorem eqs {x y : Str} (h : PyData.strOk x = true) (h2 : PyData.strOk y = true) : eqG (.str x) (.str y) = some (.sh (.bool (decide (x = y)))) := by
  have a : SeqAt.shaped (.str x) = true := (lay_str (n := 1) h).sh (by decide)
  have b : SeqAt.shaped (.str y) = true := (lay_str (n := 1) h2).sh (by decide)
  unfold eqG
  rw [a, b]
  simp only [PyData.eqv]
  by_cases c : x = y <;> simp [c]
theorem str_ok {x : Str} (h : FineE (.str x)) : PyData.strOk x = true := by
  have := h.1.1
  simpa [PyData.canLay0] using this
theorem kind1 {a : D} (h : FineE a) : ∃ b : Bool, F_is_kind [.sh (.tuple [a])] = .ret false (.bool b) [.sh (.tuple [a])] ∧ F__law_fits_kind [.sh (.tuple [a])] = .ret false (.bool b) [.sh (.tuple [a])] := by
  have i := isi_o (T := "str") h.2
  have e := eq_nil_t (a := a) (r := []) (fun d hd => by rw [List.mem_singleton.mp hd]; exact h)
  have a0 : atI [a] 0 = some a := rfl
  by_cases hs : tyD a = "str"
  · rw [hs] at i
    have sa := h.1.sh (by decide)
    have n1 := in_t (ws := [.str "stack", .str "queue", .str "tape", .str "heap", .str "table"]) sa (by decide +kernel)
    have n2 := in_l (ws := [.str "stack", .str "queue", .str "tape", .str "heap", .str "table"]) sa (by decide +kernel)
    generalize (List.any _ _) = b at n1 n2
    refine ⟨b, ?_, ?_⟩
    rotate_left
    · simp [F__law_fits_kind, runF, B__law_fits_kind, Ag.sl, outE, pick, e, a0, i, n2, LIM, eq_i, -x_atI]
    · simp [F_is_kind, runF, B_is_kind, Ag.sl, outE, pick, c12, a0, i, n1, LIM, eq_i, -x_atI]
  · rw [isTb_s hs] at i
    refine ⟨false, ?_, ?_⟩
    · simp [F_is_kind, runF, B_is_kind, Ag.sl, outE, pick, c12, a0, i, LIM, -x_atI]
    · simp [F__law_fits_kind, runF, B__law_fits_kind, Ag.sl, outE, pick, e, a0, i, LIM, -x_atI]
theorem kind2 {a b : D} (h : FineE a) (h2 : FineE b) : F_is_kind [.sh (.tuple [a, b])] = .ret false (.bool false) [.sh (.tuple [a, b])] ∧ F__law_fits_kind [.sh (.tuple [a, b])] = .ret false (.bool false) [.sh (.tuple [a, b])] := by
  have i := isi_o (T := "str") h.2
  have e := eq_nil_t (a := a) (r := [b]) (fun d hd => by simp at hd; rcases hd with rfl | rfl <;> assumption)
  have a0 : atI [a, b] 0 = some a := rfl
  have n3 : neG (.int 2) (.int 3) = some (.sh (.bool true)) := by kernel_rfl
  refine ⟨by simp [F_is_kind, runF, B_is_kind, Ag.sl, outE, pick, c22, LIM], ?_⟩
  cases hb : isiTb (tyD a) "str" <;> rw [hb] at i <;> simp [F__law_fits_kind, runF, B__law_fits_kind, Ag.sl, outE, pick, e, a0, i, n3, LIM, eq_i, -x_atI]
theorem kind4 {a b c d : D} (h : FineE a) (hh : ∀ x ∈ [a, b, c, d], FineE x) : F_is_kind [.sh (.tuple [a, b, c, d])] = .ret false (.bool false) [.sh (.tuple [a, b, c, d])] ∧ F__law_fits_kind [.sh (.tuple [a, b, c, d])] = .ret false (.bool false) [.sh (.tuple [a, b, c, d])] := by
  have i := isi_o (T := "str") h.2
  have e := eq_nil_t (a := a) (r := [b, c, d]) hh
  have a0 : atI [a, b, c, d] 0 = some a := rfl
  have n3 : neG (.int 4) (.int 3) = some (.sh (.bool true)) := by kernel_rfl
  refine ⟨by simp [F_is_kind, runF, B_is_kind, Ag.sl, outE, pick, c42, LIM], ?_⟩
  cases hb : isiTb (tyD a) "str" <;> rw [hb] at i <;> simp [F__law_fits_kind, runF, B__law_fits_kind, Ag.sl, outE, pick, e, a0, i, n3, LIM, eq_i, -x_atI]
theorem kind3 {a b c : D} (ha : FineE a) (hb : FineE b) (hc : FineE c) : ∃ r : Bool, F_is_kind [.sh (.tuple [a, b, c])] = .ret false (.bool r) [.sh (.tuple [a, b, c])] ∧ F__law_fits_kind [.sh (.tuple [a, b, c])] = .ret false (.bool r) [.sh (.tuple [a, b, c])] := by
  have i := isi_o (T := "str") ha.2
  have ic := isi_o (T := "str") hc.2
  have e := eq_nil_t (a := a) (r := [b, c]) (fun d hd => by simp at hd; rcases hd with rfl | rfl | rfl <;> assumption)
  have a0 : atI [a, b, c] 0 = some a := rfl
  have a1 : atI [a, b, c] 1 = some b := at1
  have a2 : atI [a, b, c] 2 = some c := at2
  have n3 : neG (.int 3) (.int 3) = some (.sh (.bool false)) := by kernel_rfl
  by_cases hs : tyD a = "str"
  · rw [hs] at i
    obtain ⟨x, rfl⟩ : ∃ x, a = .str x := by cases a <;> simp [tyD] at hs; exact ⟨_, rfl⟩
    have sx := str_ok ha
    have e1 := eqs (y := "ring") sx (by decide +kernel)
    have e2 := eqs (y := "gauge") sx (by decide +kernel)
    have sa := ha.1.sh (by decide)
    have ng := nin_l (ws := [.str "ring", .str "gauge"]) sa (by decide +kernel)
    have w1 : SeqAt.shaped (.tuple [.str "drop", .str "ignore", .str "fail"]) = true := by decide +kernel
    have w2 : SeqAt.shaped (.list [.str "drop", .str "ignore", .str "fail"]) = true := by decide +kernel
    have w3 : SeqAt.shaped (.tuple [.str "stop", .str "fail"]) = true := by decide +kernel
    have w4 : SeqAt.shaped (.list [.str "stop", .str "fail"]) = true := by decide +kernel
    have sc := hc.1.sh (by decide)
    by_cases r1 : x = "ring"
    · subst r1
      have e1' : eqG (.str "ring") (.str "ring") = some (.sh (.bool true)) := by kernel_rfl
      have ng' : inG true (.str "ring") (.list [.str "ring", .str "gauge"]) = some (.sh (.bool false)) := by kernel_rfl
      have k1 := is_number_ok hb.2 1 12
      have k2 := fits_number_ok hb.2 1 12
      have k3 := is_one_of_ok hc w1
      have k4 := in_l sc w2
      refine ⟨numB b 1 12 && oneB c [.str "drop", .str "ignore", .str "fail"], ?_, ?_⟩
      · cases hn : numB b 1 12 <;> rw [hn] at k1 <;> simp [F_is_kind, runF, B_is_kind, Ag.sl, outE, pick, c32, a0, a1, a2, i, e1', k1, k3, LIM, eq_i, -x_atI]
      · cases c with
        | str y => cases hn : numB b 1 12 <;> rw [hn] at k2 <;> simp [F__law_fits_kind, runF, B__law_fits_kind, Ag.sl, outE, pick, e, n3, ng', a0, a1, a2, i, e1', k2, k4, LIM, eq_i, oneB, -x_atI]
        | _ => simp [F__law_fits_kind, runF, B__law_fits_kind, Ag.sl, outE, pick, e, n3, ng', a0, a1, a2, i, e1', ic, tyD, isiTb, LIM, eq_i, oneB, -x_atI]
    · by_cases r2 : x = "gauge"
      · subst r2
        have e1' : eqG (.str "gauge") (.str "ring") = some (.sh (.bool false)) := by kernel_rfl
        have e2' : eqG (.str "gauge") (.str "gauge") = some (.sh (.bool true)) := by kernel_rfl
        have ng' : inG true (.str "gauge") (.list [.str "ring", .str "gauge"]) = some (.sh (.bool false)) := by kernel_rfl
        have k1 := is_number_ok hb.2 1 999
        have k2 := fits_number_ok hb.2 1 999
        have k3 := is_one_of_ok hc w3
        have k4 := in_l sc w4
        refine ⟨numB b 1 999 && oneB c [.str "stop", .str "fail"], ?_, ?_⟩
        · cases hn : numB b 1 999 <;> rw [hn] at k1 <;> simp [F_is_kind, runF, B_is_kind, Ag.sl, outE, pick, c32, a0, a1, a2, i, e1', e2', k1, k3, LIM, eq_i, -x_atI]
        · cases c with
          | str y => cases hn : numB b 1 999 <;> rw [hn] at k2 <;> simp [F__law_fits_kind, runF, B__law_fits_kind, Ag.sl, outE, pick, e, n3, ng', a0, a1, a2, i, e1', k2, k4, LIM, eq_i, oneB, -x_atI]
          | _ => simp [F__law_fits_kind, runF, B__law_fits_kind, Ag.sl, outE, pick, e, n3, ng', a0, a1, a2, i, e1', ic, tyD, isiTb, LIM, eq_i, oneB, -x_atI]
      · rw [decide_eq_false r1] at e1
        rw [decide_eq_false r2] at e2
        have ng' : inG true (.str x) (.list [.str "ring", .str "gauge"]) = some (.sh (.bool true)) := by
          rw [ng]
          have q1 : ¬ (("ring" : Str) = x) := fun h => r1 h.symm
          have q2 : ¬ (("gauge" : Str) = x) := fun h => r2 h.symm
          simp [PyData.eqv, q1, q2]
        refine ⟨false, ?_, ?_⟩
        · simp [F_is_kind, runF, B_is_kind, Ag.sl, outE, pick, c32, a0, a1, a2, i, e1, e2, LIM, eq_i, -x_atI]
        · simp [F__law_fits_kind, runF, B__law_fits_kind, Ag.sl, outE, pick, e, n3, ng', a0, a1, a2, i, LIM, eq_i, -x_atI]
  · rw [isTb_s hs] at i
    refine ⟨false, ?_, ?_⟩
    · simp [F_is_kind, runF, B_is_kind, Ag.sl, outE, pick, c32, a0, i, LIM, -x_atI]
    · simp [F__law_fits_kind, runF, B__law_fits_kind, Ag.sl, outE, pick, e, a0, i, LIM, -x_atI]
theorem kind0 : F_is_kind [.sh (.tuple [])] = .ret false (.bool false) [.sh (.tuple [])] ∧ F__law_fits_kind [.sh (.tuple [])] = .ret false (.bool false) [.sh (.tuple [])] := ⟨by kernel_rfl, by kernel_rfl⟩
theorem ok_tup : ∀ {ds : List D}, ds.length ≤ 4 → (∀ d ∈ ds, FineE d) → OkV (.tuple ds)
  | [], _, _ => ⟨false, false, is_letter_no rfl (by simp [tyD]), fits_letter_no rfl (by simp [tyD]), kind0.1, kind0.2⟩
  | [a], _, h => by
    obtain ⟨b, k1, k2⟩ := kind1 (h a (by simp))
    exact ⟨false, b, is_letter_no rfl (by simp [tyD]), fits_letter_no rfl (by simp [tyD]), k1, k2⟩
  | [a, b], _, h => by
    obtain ⟨k1, k2⟩ := kind2 (h a (by simp)) (h b (by simp))
    exact ⟨false, false, is_letter_no rfl (by simp [tyD]), fits_letter_no rfl (by simp [tyD]), k1, k2⟩
  | [a, b, c], _, h => by
    obtain ⟨r, k1, k2⟩ := kind3 (h a (by simp)) (h b (by simp)) (h c (by simp))
    exact ⟨false, r, is_letter_no rfl (by simp [tyD]), fits_letter_no rfl (by simp [tyD]), k1, k2⟩
  | [a, b, c, d], _, h => by
    obtain ⟨k1, k2⟩ := kind4 (h a (by simp)) h
    exact ⟨false, false, is_letter_no rfl (by simp [tyD]), fits_letter_no rfl (by simp [tyD]), k1, k2⟩
  | _ :: _ :: _ :: _ :: _ :: _, h, _ => by simp at h
end S00


set_option Elab.async false
set_option linter.all false
set_option maxRecDepth 100000
set_option maxHeartbeats 4000000
namespace S00
open PySem PySem.Spec PyProof.Rows L2 VL
/-! what is drawn -/
def fineB (d : D) : Bool := d.canLay0 && decide (d.depth ≤ 5) && isiOk d
theorem fine_of {d : D} (h : fineB d = true) : FineE d := by
  unfold fineB at h
  simp only [Bool.and_eq_true, decide_eq_true_eq] at h
  exact ⟨⟨h.1.1, h.1.2⟩, h.2⟩
theorem fine_all {l : List D} (h : l.all fineB = true) : ∀ d ∈ l, FineE d := fun d hd => fine_of (List.all_eq_true.mp h d hd)
def menu : List D := [.none, .bool true, .bool false, .int 0, .int (-1), .int 1, .int 12, .int 13, .int 999, .int 1000, .str "", .str "a", .str "abcd", .str "abcde", .str "A", .str "a1", .str "a b", .tuple [], .list [], .tuple [.str "a"], .str "drop", .str "stop", .str "fail", .str "ignore", .str "stack", .str "ring", .tuple [.str "stack"], .list [.str "stack"], .int 1000000000000000000000000000000]
def okB : D → Bool
  | .str x => decide (x.length ≤ 1000000)
  | .tuple ds => decide (ds.length ≤ 4) && ds.all fineB
  | d => isiOk d
theorem ok_of : ∀ {d : D}, okB d = true → OkV d
  | .str x, h => ok_str (by simpa [okB] using h)
  | .tuple ds, h => by
    simp only [okB, Bool.and_eq_true, decide_eq_true_eq] at h
    exact ok_tup h.1 (fine_all h.2)
  | .none, h => ok_no h (by simp [tyD]) (by simp [tyD])
  | .bool _, h => ok_no h (by simp [tyD]) (by simp [tyD])
  | .int _, h => ok_no h (by simp [tyD]) (by simp [tyD])
  | .list _, h => ok_no h (by simp [tyD]) (by simp [tyD])
  | .dict _, h => ok_no h (by simp [tyD]) (by simp [tyD])
theorem menu_ok : ∀ d ∈ menu, OkV d ∧ FineE d := by
  have h : menu.all (fun d => okB d && fineB d) = true := by decide +kernel
  intro d hd
  have := List.all_eq_true.mp h d hd
  rw [Bool.and_eq_true] at this
  exact ⟨ok_of this.1, fine_of this.2⟩
theorem strange_ok {d : D} (s : Src d) : ∃ (y d' : D), OkV y ∧ FineE y ∧ Src d' ∧ F__law_strange [.ob d] = .ret false y [.io d'] := by
  obtain ⟨y, d', hy, s', e⟩ := one_ob s menu (by simp [menu]) (by decide +kernel)
  refine ⟨y, d', (menu_ok y hy).1, (menu_ok y hy).2, s', ?_⟩
  have p : powG (.int 10) (.int 30) = some (.sh (.int 1000000000000000000000000000000)) := by kernel_rfl
  have c : addG (.list [.none, .bool true, .bool false, .int 0, .int (-1), .int 1, .int 12, .int 13, .int 999, .int 1000, .str "", .str "a", .str "abcd", .str "abcde", .str "A", .str "a1", .str "a b", .tuple [], .list [], .tuple [.str "a"]])
    (.list [.str "drop", .str "stop", .str "fail", .str "ignore", .str "stack", .str "ring", .tuple [.str "stack"], .list [.str "stack"], .int 1000000000000000000000000000000]) = some (.tm (.list menu)) := by kernel_rfl
  generalize menu = M at *
  simp [F__law_strange, runF, B__law_strange, Ag.sl, outE, pick, e, p, c, LIM]
def sgn (c : Nat) : D := .str ⟨#[c]⟩
theorem ix_al {i : Nat} (h : i < 26) : ∃ c, ixG (.str "abcdefghijklmnopqrstuvwxyz") (.int (i : Int)) = some (.sh (sgn c)) := by
  have hl : ("abcdefghijklmnopqrstuvwxyz" : Str).cps.toList.length = 26 := by decide +kernel
  have hs : ("abcdefghijklmnopqrstuvwxyz" : Str).length ≤ LIM := by decide +kernel
  refine ⟨("abcdefghijklmnopqrstuvwxyz" : Str).cps.toList[i], ?_⟩
  simp only [ixG, orG, ixSeqG, if_pos hs, x_atI]
  rw [List.getElem?_eq_getElem (by omega)]
  rfl
theorem join_sgn {cs : List Nat} (h : cs.length ≤ 5) : ∃ x : Str, x.length = cs.length ∧ joinG (.str "") [.list (cs.map sgn)] = some (.sh (.str x)) := by
  match cs, h with
  | [], _ => exact ⟨⟨#[]⟩, rfl, by kernel_rfl⟩
  | [a], _ => exact ⟨⟨#[a]⟩, rfl, by kernel_rfl⟩
  | [a, b], _ => exact ⟨⟨#[a, b]⟩, rfl, by kernel_rfl⟩
  | [a, b, c], _ => exact ⟨⟨#[a, b, c]⟩, rfl, by kernel_rfl⟩
  | [a, b, c, d], _ => exact ⟨⟨#[a, b, c, d]⟩, rfl, by kernel_rfl⟩
  | [a, b, c, d, e], _ => exact ⟨⟨#[a, b, c, d, e]⟩, rfl, by kernel_rfl⟩
  | _ :: _ :: _ :: _ :: _ :: _ :: _, h => simp at h
abbrev tE0 (d : D) : En := [.io d, .sh (.str "abcdefghijklmnopqrstuvwxyz"), .un, .un, .un]
theorem text_lc {d : D} (s : Src d) (n : Nat) (hn : n ≤ 5) (l : List D) (hl : l.length = n) : ∃ (cs : List Nat) (d' : D), cs.length = n ∧ Src d' ∧ lcGo (lcStep [4] (tgN 4) yesF (opF ixG (nmF 1) (callF F__law_take (consF (nmF 0) (consF (cF (.int (26))) nilF))))) l (tE0 d) [] = some (cs.map sgn, tE0 d') := by
  obtain ⟨acc, e', h, cs, d', h1, h2, h3, h4⟩ := lc_all (stp := lcStep [4] (tgN 4) yesF (opF ixG (nmF 1) (callF F__law_take (consF (nmF 0) (consF (cF (.int (26))) nilF)))))
    (fun rest acc e => ∃ (cs : List Nat) (d' : D), cs.length + rest.length = n ∧ Src d' ∧ acc = cs.map sgn ∧ e = tE0 d') (by
      rintro x rest acc e ⟨cs, d', hc, sd, rfl, rfl⟩
      rw [List.length_cons] at hc
      refine ⟨by rw [List.length_map]; show _ < 16777216; omega, ?_⟩
      obtain ⟨i, d2, hi, sd2, e2⟩ := take_src sd 26 (by decide) (by decide)
      obtain ⟨c, hx⟩ := ix_al hi
      refine ⟨sgn c, tE0 d2, ?_, cs ++ [c], d2, by rw [List.length_append]; simp; omega, sd2, by rw [List.map_append]; rfl, rfl⟩
      simp at e2
      generalize sgn c = C at *
      simp [lcStep, clean, cleanS, wipeE, unwipe, Sl.isIo, e2, hx]) l [] (tE0 d) ⟨[], d, by rw [hl]; simp, s, rfl, rfl⟩
  subst h3 h4
  exact ⟨cs, d', by simpa using h1, h2, h⟩
end S00


set_option Elab.async false
set_option linter.all false
set_option maxRecDepth 100000
set_option maxHeartbeats 4000000
namespace S00
open PySem PySem.Spec PyProof.Rows L2 VL
theorem lenR {n : Nat} : (rangeD 0 n).length = n := by
  unfold rangeD; simp
theorem t1_ok {d : D} (s : Src d) : ∃ (x : Str) (d' : D), 1 ≤ x.length ∧ x.length ≤ 5 ∧ Src d' ∧ X__law_text_1 (tE0 d) = .nx [.io d', .sh (.str "abcdefghijklmnopqrstuvwxyz"), .sh (.str x), .un, .un] := by
  obtain ⟨i, d1, hi, s1, e1⟩ := take_src s 5 (by decide) (by decide)
  obtain ⟨cs, d2, hc, s2, e2⟩ := text_lc s1 (1 + i) (by omega) (rangeD 0 (1 + i)) lenR
  obtain ⟨x, hx, e3⟩ := join_sgn (cs := cs) (by omega)
  refine ⟨x, d2, by omega, by omega, s2, ?_⟩
  have r := rngB_nat (n := 1 + i) (by omega)
  have c : (1 : Int) + (i : Int) = ((1 + i : Nat) : Int) := by omega
  have z : rngF (consF (opF addG (cF (.int (1))) (callF F__law_take (consF (nmF 0) (consF (cF (.int (5))) nilF)))) nilF) (tE0 d) = .ok (rangeD 0 (1 + i)) (tE0 d1) := by
    simp at e1
    generalize Str.ofString "abcdefghijklmnopqrstuvwxyz" = A
    generalize 1 + i = m at *
    simp [e1, c, r]
  have y : lcF (rngF (consF (opF addG (cF (.int (1))) (callF F__law_take (consF (nmF 0) (consF (cF (.int (5))) nilF)))) nilF)) [4] (tgN 4) yesF (opF ixG (nmF 1) (callF F__law_take (consF (nmF 0) (consF (cF (.int (26))) nilF)))) (tE0 d) = .ok (.tm (.list (cs.map sgn))) (tE0 d2) := by
    rw [x_lcF, z, x_bind_ok, e2]
  generalize cs.map sgn = ds at *
  unfold X__law_text_1
  unfold tE0 at *
  generalize lcF _ _ _ _ _ = g at *
  generalize Str.ofString "abcdefghijklmnopqrstuvwxyz" = A at *
  simp [rmF, y, tyD, e3]
abbrev tE1 (d : D) (x : Str) : En := [.io d, .sh (.str "abcdefghijklmnopqrstuvwxyz"), .sh (.str x), .un, .un]
theorem limS {x : Str} (h : x.length ≤ 1000000) : x.length ≤ LIM := Nat.le_trans h (by decide)
theorem sliceS {x : Str} (h : x.length ≤ 1000000) (lo hi : Option Int) : sliceG (.str x) lo hi = some (.sh (.str (cutS x lo hi))) := by
  show (if x.length ≤ LIM then some (Rv.sh (PyData.str (cutS x lo hi))) else none) = _
  rw [if_pos (limS h)]
theorem catS {x y : Str} (h : x.length ≤ 1000000) (h2 : y.length ≤ 1000000) : addG (.str x) (.str y) = some (.sh (.str (x ++ y))) := by
  have : x.length + y.length ≤ LIM := Nat.le_trans (Nat.add_le_add h h2) (by decide)
  simp only [addG, orG, intG, strCatG, if_pos this]
theorem app_len {x y : Str} : (x ++ y).length = x.length + y.length := by
  show (x.cps ++ y.cps).size = _
  rw [Array.size_append]; rfl
theorem t2b_ok {d : D} (s : Src d) {x : Str} (h1 : 1 ≤ x.length) (h5 : x.length ≤ 5) : ∃ (y : Str) (d' : D) (s3 : Sl), y.length ≤ 1000 ∧ Src d' ∧ X__law_text_2_t_b (tE1 d x) = .nx [.io d', .sh (.str "abcdefghijklmnopqrstuvwxyz"), .sh (.str y), s3, .un] := by
  obtain ⟨i, d1, hi, s1, e1⟩ := take_src s x.length (by omega) (by omega)
  obtain ⟨o, d2, ho, s2, e2⟩ := one_ob s1 [.str "A", .str "1", .str " ", .str "-", .str ".", .str "", .str "Z"] (by simp) (by decide)
  obtain ⟨z, rfl, hz⟩ : ∃ z : Str, o = .str z ∧ z.length ≤ 1 := by
    simp only [List.mem_cons, List.not_mem_nil, or_false] at ho
    rcases ho with rfl | rfl | rfl | rfl | rfl | rfl | rfl <;> exact ⟨_, rfl, by decide +kernel⟩
  have n := lenS (x := x) (by omega)
  have c1 := cutS_length x none (some (i : Int))
  have c2 := cutS_length x (some ((i : Int) + 1)) none
  have k1 := sliceS (x := x) (by omega) none (some (i : Int))
  have k2 := sliceS (x := x) (by omega) (some ((i : Int) + 1)) none
  have a1 := catS (x := cutS x none (some (i : Int))) (y := z) (by omega) (by omega)
  have l1 := app_len (x := cutS x none (some (i : Int))) (y := z)
  have a2 := catS (x := cutS x none (some (i : Int)) ++ z) (y := cutS x (some ((i : Int) + 1)) none) (by omega) (by omega)
  have l2 := app_len (x := cutS x none (some (i : Int)) ++ z) (y := cutS x (some ((i : Int) + 1)) none)
  refine ⟨cutS x none (some (i : Int)) ++ z ++ cutS x (some ((i : Int) + 1)) none, d2, .sh (.int i), by omega, s2, ?_⟩
  unfold tE1
  generalize Str.ofString "abcdefghijklmnopqrstuvwxyz" = A
  generalize cutS x none (some (i : Int)) ++ z = p at *
  generalize p ++ cutS x (some ((i : Int) + 1)) none = q at *
  generalize cutS x none (some (i : Int)) = u at *
  generalize cutS x (some ((i : Int) + 1)) none = v at *
  simp [X__law_text_2_t_b, X__law_text_2_t_0, X__law_text_2_t_1, n, e1, e2, k1, k2, a1, a2, LIM]
theorem text_ok {d : D} (s : Src d) : ∃ (x : Str) (d' : D), x.length ≤ 1000 ∧ Src d' ∧ F__law_text [.ob d] = .ret false (.str x) [.io d'] := by
  have y0 : X__law_text_0 [.io d, .un, .un, .un, .un] = .nx (tE0 d) := rfl
  obtain ⟨x, d1, h1, h5, s1, y1⟩ := t1_ok s
  obtain ⟨i, d2, hi, s2, e2⟩ := take_src s1 3 (by decide) (by decide)
  simp at e2
  have q : eqG (.int i) (.int 0) = some (.sh (.bool (decide ((i : Int) = 0)))) := eq_i
  by_cases c : (i : Int) = 0
  · obtain ⟨y, d3, s3, hy, sd3, y2⟩ := t2b_ok s2 h1 h5
    rw [decide_eq_true c] at q
    have y2' : X__law_text_2 [.io d1, .sh (.str "abcdefghijklmnopqrstuvwxyz"), .sh (.str x), .un, .un] = .nx [.io d3, .sh (.str "abcdefghijklmnopqrstuvwxyz"), .sh (.str y), s3, .un] := by
      unfold X__law_text_2
      unfold tE1 at y2
      generalize Str.ofString "abcdefghijklmnopqrstuvwxyz" = A at *
      generalize X__law_text_2_t_b = B at *
      simp [e2, q, y2]
    have y3 : X__law_text_3 [.io d3, .sh (.str "abcdefghijklmnopqrstuvwxyz"), .sh (.str y), s3, .un] = .rt (.sh (.str y)) [.io d3, .sh (.str "abcdefghijklmnopqrstuvwxyz"), .sh (.str y), s3, .un] := rfl
    refine ⟨y, d3, hy, sd3, ?_⟩
    exact runF_sh (np := 1) (n := 5) (body := B__law_text) (as := [.ob d]) rfl ((seq_to2 y0).trans ((seq_to2 y1).trans ((seq_to2 y2').trans y3)))
  · rw [decide_eq_false c] at q
    have y2' : X__law_text_2 [.io d1, .sh (.str "abcdefghijklmnopqrstuvwxyz"), .sh (.str x), .un, .un] = .nx [.io d2, .sh (.str "abcdefghijklmnopqrstuvwxyz"), .sh (.str x), .un, .un] := by
      unfold X__law_text_2
      generalize Str.ofString "abcdefghijklmnopqrstuvwxyz" = A at *
      generalize X__law_text_2_t_b = B at *
      simp [e2, q]
    refine ⟨x, d2, by omega, s2, ?_⟩
    exact runF_sh (np := 1) (n := 5) (body := B__law_text) (as := [.ob d]) rfl ((seq_to2 y0).trans ((seq_to2 y1).trans ((seq_to2 y2').trans rfl)))
end S00


set_option Elab.async false
set_option linter.all false
set_option maxRecDepth 100000
set_option maxHeartbeats 4000000
namespace S00
open PySem PySem.Spec PyProof.Rows L2 VL
def KindV (ds : List D) : Prop := (ds.length = 1 ∨ ds.length = 3) ∧ ∀ d ∈ ds, FineE d
theorem fine_s {x : Str} (h : fineB (.str x) = true) : FineE (.str x) := fine_of h
theorem kv1 {a : D} (ha : FineE a) : KindV [a] := ⟨.inl rfl, fun d hd => by rw [List.mem_singleton.mp hd]; exact ha⟩
theorem kv3 {a b c : D} (ha : FineE a) (hb : FineE b) (hc : FineE c) : KindV [a, b, c] := ⟨.inr rfl, fun d hd => by
  simp only [List.mem_cons, List.not_mem_nil, or_false] at hd
  rcases hd with rfl | rfl | rfl <;> assumption⟩
theorem kind_of_ok {d : D} (s : Src d) {x : Str} (hx : PyData.strOk x = true) : ∃ (ds : List D) (d' : D), KindV ds ∧ Src d' ∧ F__law_kind_of [.ob d, .sh (.str x)] = .ret false (.tuple ds) [.io d', .sh (.str x)] := by
  have e1 := eqs (y := "ring") hx (by decide +kernel)
  have e2 := eqs (y := "gauge") hx (by decide +kernel)
  by_cases r1 : x = "ring"
  · obtain ⟨b, d1, hb, s1, o1⟩ := one_ob s [.int 1, .int 2, .int 3, .int 4] (by simp) (by decide)
    obtain ⟨c, d2, hc, s2, o2⟩ := one_ob s1 [.str "drop", .str "ignore", .str "fail"] (by simp) (by decide)
    rw [decide_eq_true r1] at e1
    refine ⟨[.str "ring", b, c], d2, kv3 (fine_of (by decide +kernel)) (fine_all (by decide +kernel) b hb) (fine_all (by decide +kernel) c hc), s2, ?_⟩
    simp [F__law_kind_of, runF, B__law_kind_of, Ag.sl, outE, pick, e1, o1, o2, LIM]
  · rw [decide_eq_false r1] at e1
    by_cases r2 : x = "gauge"
    · obtain ⟨b, d1, hb, s1, o1⟩ := one_ob s [.int 1, .int 2, .int 5, .int 9] (by simp) (by decide)
      obtain ⟨c, d2, hc, s2, o2⟩ := one_ob s1 [.str "stop", .str "fail"] (by simp) (by decide)
      rw [decide_eq_true r2] at e2
      refine ⟨[.str "gauge", b, c], d2, kv3 (fine_of (by decide +kernel)) (fine_all (by decide +kernel) b hb) (fine_all (by decide +kernel) c hc), s2, ?_⟩
      simp [F__law_kind_of, runF, B__law_kind_of, Ag.sl, outE, pick, e1, e2, o1, o2, LIM]
    · rw [decide_eq_false r2] at e2
      refine ⟨[.str x], d, kv1 (fine_of (by simp [fineB, PyData.canLay0, hx, PyData.depth, isiOk])), s, ?_⟩
      simp [F__law_kind_of, runF, B__law_kind_of, Ag.sl, outE, pick, e1, e2, LIM]
theorem kind_ok {d : D} (s : Src d) : ∃ (ds : List D) (d' : D), KindV ds ∧ Src d' ∧ F__law_kind [.ob d] = .ret false (.tuple ds) [.io d'] := by
  obtain ⟨o, d1, ho, s1, o1⟩ := one_ob s [.str "stack", .str "queue", .str "tape", .str "heap", .str "table", .str "ring", .str "gauge"] (by simp) (by decide)
  obtain ⟨x, rfl, hx⟩ : ∃ x : Str, o = .str x ∧ PyData.strOk x = true := by
    simp only [List.mem_cons, List.not_mem_nil, or_false] at ho
    rcases ho with rfl | rfl | rfl | rfl | rfl | rfl | rfl <;> exact ⟨_, rfl, by decide +kernel⟩
  obtain ⟨ds, d2, k, s2, o2⟩ := kind_of_ok s1 hx
  refine ⟨ds, d2, k, s2, ?_⟩
  simp [F__law_kind, runF, B__law_kind, Ag.sl, outE, pick, o1, o2, LIM]
theorem some_kind_ok {d : D} (s : Src d) : ∃ (ds : List D) (d' : D), KindV ds ∧ Src d' ∧ F__law_some_kind [.ob d] = .ret false (.tuple ds) [.io d'] := by
  obtain ⟨i, d0, hi, s0, e0⟩ := take_src s 4 (by decide) (by decide)
  simp at e0
  match i, hi, e0 with
  | 0, _, e0 =>
    have q0 : eqG (.int ((0 : Nat) : Int)) (.int 0) = some (.sh (.bool true)) := by kernel_rfl
    obtain ⟨a, d1, ha, s1, o1⟩ := one_ob s0 [.str "stack", .str "queue", .str "tape", .str "heap", .str "table"] (by simp) (by decide)
    refine ⟨[a], d1, kv1 (fine_all (by decide +kernel) a ha), s1, ?_⟩
    generalize ((0 : Nat) : Int) = j at *
    simp [F__law_some_kind, runF, B__law_some_kind, Ag.sl, outE, pick, e0, q0, o1, LIM]
  | 1, _, e0 =>
    have q0 : eqG (.int ((1 : Nat) : Int)) (.int 0) = some (.sh (.bool false)) := by kernel_rfl
    have q1 : eqG (.int ((1 : Nat) : Int)) (.int 1) = some (.sh (.bool true)) := by kernel_rfl
    obtain ⟨b, d1, hb, s1, o1⟩ := one_ob s0 [.int 1, .int 2, .int 12, .int 13, .int 0] (by simp) (by decide)
    obtain ⟨c, d2, hc, s2, o2⟩ := one_ob s1 [.str "drop", .str "ignore", .str "fail", .str "stop"] (by simp) (by decide)
    refine ⟨[.str "ring", b, c], d2, kv3 (fine_of (by decide +kernel)) (fine_all (by decide +kernel) b hb) (fine_all (by decide +kernel) c hc), s2, ?_⟩
    generalize ((1 : Nat) : Int) = j at *
    simp [F__law_some_kind, runF, B__law_some_kind, Ag.sl, outE, pick, e0, q0, q1, o1, o2, LIM]
  | 2, _, e0 =>
    have q0 : eqG (.int ((2 : Nat) : Int)) (.int 0) = some (.sh (.bool false)) := by kernel_rfl
    have q1 : eqG (.int ((2 : Nat) : Int)) (.int 1) = some (.sh (.bool false)) := by kernel_rfl
    have q2 : eqG (.int ((2 : Nat) : Int)) (.int 2) = some (.sh (.bool true)) := by kernel_rfl
    obtain ⟨b, d1, hb, s1, o1⟩ := one_ob s0 [.int 1, .int 2, .int 999, .int 1000, .int 0, .int 13] (by simp) (by decide)
    obtain ⟨c, d2, hc, s2, o2⟩ := one_ob s1 [.str "stop", .str "fail", .str "drop"] (by simp) (by decide)
    refine ⟨[.str "gauge", b, c], d2, kv3 (fine_of (by decide +kernel)) (fine_all (by decide +kernel) b hb) (fine_all (by decide +kernel) c hc), s2, ?_⟩
    generalize ((2 : Nat) : Int) = j at *
    simp [F__law_some_kind, runF, B__law_some_kind, Ag.sl, outE, pick, e0, q0, q1, q2, o1, o2, LIM]
  | 3, _, e0 =>
    have q0 : eqG (.int ((3 : Nat) : Int)) (.int 0) = some (.sh (.bool false)) := by kernel_rfl
    have q1 : eqG (.int ((3 : Nat) : Int)) (.int 1) = some (.sh (.bool false)) := by kernel_rfl
    have q2 : eqG (.int ((3 : Nat) : Int)) (.int 2) = some (.sh (.bool false)) := by kernel_rfl
    obtain ⟨ds, d1, k, s1, o1⟩ := kind_ok s0
    refine ⟨ds, d1, k, s1, ?_⟩
    generalize ((3 : Nat) : Int) = j at *
    simp [F__law_some_kind, runF, B__law_some_kind, Ag.sl, outE, pick, e0, q0, q1, q2, o1, LIM]
  | _ + 4, hi, _ => omega
theorem bent_ok {d : D} (s : Src d) {ds : List D} (k : KindV ds) : ∃ (b : Bool) (v d' : D), OkV v ∧ Src d' ∧ F__law_bent [.ob d, .sh (.tuple ds)] = .ret b v [.io d', .sh (.tuple ds)] := by
  have hl : 1 ≤ ds.length ∧ ds.length ≤ 3 := by rcases k.1 with h | h <;> omega
  obtain ⟨i, d1, hi, s1, e1⟩ := take_src s ds.length (by omega) (by omega)
  obtain ⟨o, d2, oo, fo, s2, e2⟩ := strange_ok s1
  obtain ⟨j, d3, hj, s3, e3⟩ := take_src s2 4 (by decide) (by decide)
  simp at e3
  have z1 : (i : Int) + 1 = ((i + 1 : Nat) : Int) := by omega
  have k1 : cutX ds none (some (i : Int)) = ds.take i := cut_to
  have k2 : cutX ds (some ((i : Int) + 1)) none = ds.drop (i + 1) := by rw [z1]; exact cut_from
  have lt : (ds.take i).length = i := by rw [List.length_take]; omega
  have ld : (ds.drop (i + 1)).length = ds.length - (i + 1) := List.length_drop
  have mt : ∀ x ∈ ds.take i, FineE x := fun x hx => k.2 x (List.mem_of_mem_take hx)
  have md : ∀ x ∈ ds.drop (i + 1), FineE x := fun x hx => k.2 x (List.mem_of_mem_drop hx)
  match j, hj, e3 with
  | 0, _, e3 =>
    have q0 : eqG (.int ((0 : Nat) : Int)) (.int 0) = some (.sh (.bool true)) := by kernel_rfl
    have a1 := cat_t (ds := ds.take i) (es := ds.drop (i + 1)) (by rw [lt, ld]; exact Nat.le_trans (show _ ≤ 10 by omega) (by decide))
    refine ⟨false, .tuple (ds.take i ++ ds.drop (i + 1)), d3, ok_tup (by rw [List.length_append, lt, ld]; omega) (fun x hx => (List.mem_append.mp hx).elim (mt x) (md x)), s3, ?_⟩
    generalize ((0 : Nat) : Int) = j at *
    simp [F__law_bent, runF, B__law_bent, Ag.sl, outE, pick, e1, e2, e3, q0, k1, k2, a1, LIM]
  | 1, _, e3 =>
    have q0 : eqG (.int ((1 : Nat) : Int)) (.int 0) = some (.sh (.bool false)) := by kernel_rfl
    have q1 : eqG (.int ((1 : Nat) : Int)) (.int 1) = some (.sh (.bool true)) := by kernel_rfl
    have a1 := cat_t (ds := ds) (es := [o]) (by exact Nat.le_trans (show _ ≤ 10 by simp; omega) (by decide))
    refine ⟨false, .tuple (ds ++ [o]), d3, ok_tup (by simp; omega) (fun x hx => (List.mem_append.mp hx).elim (k.2 x) (fun h => by rw [List.mem_singleton.mp h]; exact fo)), s3, ?_⟩
    generalize ((1 : Nat) : Int) = j at *
    simp [F__law_bent, runF, B__law_bent, Ag.sl, outE, pick, e1, e2, e3, q0, q1, a1, LIM]
  | 2, _, e3 =>
    have q0 : eqG (.int ((2 : Nat) : Int)) (.int 0) = some (.sh (.bool false)) := by kernel_rfl
    have q1 : eqG (.int ((2 : Nat) : Int)) (.int 1) = some (.sh (.bool false)) := by kernel_rfl
    have q2 : eqG (.int ((2 : Nat) : Int)) (.int 2) = some (.sh (.bool true)) := by kernel_rfl
    have l1 : listC [.tuple ds] = some (.tm (.list ds)) := rfl
    refine ⟨true, .list ds, d3, ok_no rfl (by simp [tyD]) (by simp [tyD]), s3, ?_⟩
    generalize ((2 : Nat) : Int) = j at *
    simp [F__law_bent, runF, B__law_bent, Ag.sl, outE, pick, e1, e2, e3, q0, q1, q2, l1, LIM]
  | 3, _, e3 =>
    have q0 : eqG (.int ((3 : Nat) : Int)) (.int 0) = some (.sh (.bool false)) := by kernel_rfl
    have q1 : eqG (.int ((3 : Nat) : Int)) (.int 1) = some (.sh (.bool false)) := by kernel_rfl
    have q2 : eqG (.int ((3 : Nat) : Int)) (.int 2) = some (.sh (.bool false)) := by kernel_rfl
    have a1 := cat_t (ds := ds.take i) (es := [o]) (by rw [lt]; exact Nat.le_trans (show _ ≤ 10 by simp; omega) (by decide))
    have a2 := cat_t (ds := ds.take i ++ [o]) (es := ds.drop (i + 1)) (by rw [List.length_append, lt, ld]; exact Nat.le_trans (show _ ≤ 10 by simp; omega) (by decide))
    refine ⟨false, .tuple (ds.take i ++ [o] ++ ds.drop (i + 1)), d3, ok_tup (by rw [List.length_append, List.length_append, lt, ld]; simp; omega) (fun x hx => (List.mem_append.mp hx).elim (fun hx => (List.mem_append.mp hx).elim (mt x) (fun h => by rw [List.mem_singleton.mp h]; exact fo)) (md x)), s3, ?_⟩
    generalize ((3 : Nat) : Int) = j at *
    generalize ds.take i = u at *
    generalize ds.drop (i + 1) = v at *
    generalize u ++ [o] = p at *
    generalize p ++ v = q at *
    simp [F__law_bent, runF, B__law_bent, Ag.sl, outE, pick, e1, e2, e3, q0, q1, q2, k1, k2, a1, a2, LIM]
  | _ + 4, hj, _ => omega
end S00


set_option Elab.async false
set_option linter.all false
set_option maxRecDepth 100000
set_option maxHeartbeats 4000000
namespace S00
open PySem PySem.Spec PyProof.Rows L2 VL
/-! numbered letters -/
def nthL (i : Nat) : Str := if i < 26 then ⟨#[97 + i]⟩ else if i < 702 then ⟨#[97 + (i - 26) / 26, 97 + (i - 26) % 26]⟩ else ⟨#[97, 97, 97 + (i - 702)]⟩
def codeL (x : Str) : Nat := match x.cps.toList with
  | [a] => a - 97
  | [a, b] => 26 + (a - 97) * 26 + (b - 97)
  | [_, _, c] => 702 + (c - 97)
  | _ => 0
theorem code_nth {i : Nat} (h : i < 704) : codeL (nthL i) = i := by
  unfold nthL codeL
  by_cases c1 : i < 26
  · rw [if_pos c1]; show 97 + i - 97 = i; omega
  · rw [if_neg c1]
    by_cases c2 : i < 702
    · rw [if_pos c2]; show 26 + (97 + (i - 26) / 26 - 97) * 26 + (97 + (i - 26) % 26 - 97) = i; omega
    · rw [if_neg c2]; show 702 + (97 + (i - 702) - 97) = i; omega
theorem nth_inj {i j : Nat} (hi : i < 704) (hj : j < 704) (h : nthL i = nthL j) : i = j := by
  rw [← code_nth hi, h, code_nth hj]
def isNum (i : Nat) : Bool := match F_numbered_letter [.sh (.int (i : Int))] with
  | .ret false (.str x) [.sh (.int j)] => decide (x = nthL i) && decide (j = (i : Int))
  | _ => false
theorem isNum_of {i : Nat} (h : isNum i = true) : F_numbered_letter [.sh (.int (i : Int))] = .ret false (.str (nthL i)) [.sh (.int (i : Int))] := by
  unfold isNum at h
  split at h
  · rename_i x j e
    simp only [Bool.and_eq_true, decide_eq_true_eq] at h
    rw [e, h.1, h.2]
  · cases h
theorem num_all : (List.range 704).all isNum = true := by decide +kernel
theorem num_ok {i : Nat} (h : i < 704) : F_numbered_letter [.sh (.int (i : Int))] = .ret false (.str (nthL i)) [.sh (.int (i : Int))] :=
  isNum_of (List.all_eq_true.mp num_all i (List.mem_range.mpr h))
end S00


set_option Elab.async false
set_option linter.all false
set_option maxRecDepth 100000
set_option maxHeartbeats 4000000
namespace S00
open PySem PySem.Spec PyProof.Rows L2 VL
/-! the letter beyond the known -/
theorem pig {α : Type} [BEq α] [LawfulBEq α] : ∀ (l m : List α), l.Nodup → (∀ x ∈ l, x ∈ m) → l.length ≤ m.length
  | [], _, _, _ => Nat.zero_le _
  | x :: l, m, hn, h => by
    have hx : x ∈ m := h x List.mem_cons_self
    obtain ⟨hxl, hn2⟩ := List.nodup_cons.mp hn
    have := pig l (m.erase x) hn2 fun y hy => (List.mem_erase_of_ne (show y ≠ x from fun e => hxl (e ▸ hy))).mpr (h y (List.mem_cons_of_mem _ hy))
    rw [List.length_erase_of_mem hx] at this
    have := List.length_pos_of_mem hx
    rw [List.length_cons]; omega
def sK (l : List Str) : List (Key × D) := l.map fun x => (Sum.inr x, .bool true)
def addS (l : List Str) (x : Str) : List Str := if x ∈ l then l else l ++ [x]
def onceS : List Str → List Str → List Str
  | [], acc => acc
  | x :: xs, acc => onceS xs (addS acc x)
theorem mem_addS {l : List Str} {x y : Str} : y ∈ addS l x ↔ y ∈ l ∨ y = x := by
  unfold addS
  split
  · constructor
    · exact .inl
    · rintro (h | rfl) <;> assumption
  · simp
theorem mem_onceS {y : Str} : ∀ (xs acc : List Str), y ∈ onceS xs acc ↔ y ∈ acc ∨ y ∈ xs
  | [], acc => by simp [onceS]
  | x :: xs, acc => by
    show y ∈ onceS xs (addS acc x) ↔ _
    rw [mem_onceS xs, mem_addS, List.mem_cons, or_assoc]
theorem sK_any (l : List Str) (x : Str) : ((sK l).any fun kv => decide (kv.1 = Sum.inr x)) = decide (x ∈ l) := by
  unfold sK
  rw [List.any_map, Bool.eq_iff_iff, List.any_eq_true, decide_eq_true_eq]
  constructor
  · rintro ⟨y, hy, h⟩
    have h2 : (Sum.inr y : Key) = Sum.inr x := of_decide_eq_true h
    cases h2; exact hy
  · intro h
    exact ⟨x, h, decide_eq_true rfl⟩
theorem sK_put {l : List Str} {x : Str} : putD (sK l) (Sum.inr x) (.bool true) = sK (addS l x) := by
  unfold putD addS
  rw [sK_any]
  by_cases c : x ∈ l
  · rw [decide_eq_true c, if_pos rfl, if_pos c]
    unfold sK
    rw [List.map_map]
    refine List.map_congr_left fun k _ => ?_
    show (if ((Sum.inr k : Key), PyData.bool true).1 = Sum.inr x then _ else _) = _
    split <;> rfl
  · rw [decide_eq_false c, if_neg (by decide), if_neg c]
    unfold sK
    rw [List.map_append]; rfl
theorem addS_len {l : List Str} {x : Str} : (addS l x).length ≤ l.length + 1 := by
  unfold addS; split <;> simp
abbrev sD (l : List Str) : List D := l.map PyData.str
theorem dc_goS {e : En} {v : Nat} (h1 : e[v]? = some .un) : ∀ (xs acc : List Str), acc.length + xs.length ≤ 100000 → dcGo (dcStep [v] (tgN v) yesF (nmF v) (cF (.bool true))) (sD xs) e (sK acc) = some (sK (onceS xs acc), e)
  | [], acc, _ => rfl
  | x :: xs, acc, hl => by
    simp only [List.length_cons] at hl
    obtain ⟨hlt, hv2⟩ := List.getElem?_eq_some_iff.mp h1
    have q : (e.set v .un) = e := by rw [← hv2]; exact List.set_getElem_self hlt
    have s : dcStep [v] (tgN v) yesF (nmF v) (cF (.bool true)) (.str x) e = some (some ((Sum.inr x : Key), .bool true), e) := by
      simp [dcStep, clean, cleanS, wipeE, unwipe, hv2, hlt, Sl.isIo, q, key1]
    have lt : (sK acc).length < 16777216 := by unfold sK; rw [List.length_map]; omega
    have pl := addS_len (l := acc) (x := x)
    show dcGo _ (PyData.str x :: sD xs) e (sK acc) = _
    unfold dcGo
    rw [s]
    simp only [LIM, if_pos lt]
    rw [sK_put]
    exact dc_goS h1 xs (addS acc x) (by omega)
theorem onceS_len : ∀ (xs acc : List Str), (onceS xs acc).length ≤ acc.length + xs.length
  | [], acc => by simp [onceS]
  | x :: xs, acc => by
    have := onceS_len xs (addS acc x)
    have := addS_len (l := acc) (x := x)
    show (onceS xs (addS acc x)).length ≤ _
    rw [List.length_cons]; omega
def dS (os : List Str) : D := dctD (sK os)
theorem dS_is (os : List Str) : dS os = .dict (os.map fun x => (PyData.str x, PyData.bool true)) := by
  unfold dS dctD sK
  rw [List.map_map]; rfl
theorem dfindS (y : Str) : ∀ os : List Str, (dfind (os.map fun x => (PyData.str x, PyData.bool true)) (.str y)).isSome = decide (y ∈ os)
  | [] => rfl
  | x :: os => by
    show (if PyData.eqv (.str x) (.str y) then _ else _ : Option D).isSome = _
    simp only [PyData.eqv]
    by_cases c : x = y
    · subst c; simp
    · have c2 : ¬ y = x := fun h => c h.symm
      have := dfindS y os
      simp [c, c2, this]
theorem ninS {os : List Str} {y : Str} : inG true (.str y) (dS os) = some (.sh (.bool (!decide (y ∈ os)))) := by
  rw [dS_is]
  have k : kindT (os.map fun x => (PyData.str x, PyData.bool true)) = false := by cases os <;> rfl
  have i : isKey1 (.str y) = true := rfl
  simp only [inG, orG, inSeqG, inStrG, inDctG, k, i, dfindS]
  rfl
theorem lenDS (os : List Str) : lenDC [dS os] = some (.sh (.int os.length)) := by
  rw [dS_is]
  have k : kDict (os.map fun x => (PyData.str x, PyData.bool true)) = true := by
    unfold kDict
    rw [List.all_map, List.all_eq_true]
    intro x _; rfl
  simp only [lenDC, if_pos k, List.length_map]
theorem range_cons (k n : Nat) : rangeD (k : Int) (n + 1) = .int (k : Int) :: rangeD ((k + 1 : Nat) : Int) n := by
  unfold rangeD
  rw [List.range_succ_eq_map, List.map_cons, List.map_map]
  simp
  intro a _
  omega
abbrev lbE (s0 : Sl) (os : List Str) (s2 s3 : Sl) : En := [s0, .ow (dS os), s2, s3]
theorem lb_step {s0 s3 : Sl} {os : List Str} {j : Nat} (hj : j < 704) (i3 : s3.isIo = false) : X_letter_beyond_1_b (lbE s0 os (.sh (.int (j : Int))) s3) = if nthL j ∈ os then .nx (lbE s0 os (.sh (.int (j : Int))) (.sh (.str (nthL j)))) else .rt (.sh (.str (nthL j))) (lbE s0 os (.sh (.int (j : Int))) (.sh (.str (nthL j)))) := by
  have n := num_ok hj
  have q := ninS (os := os) (y := nthL j)
  generalize nthL j = x at *
  by_cases c : x ∈ os
  · rw [decide_eq_true c] at q
    rw [if_pos c]
    unfold lbE
    generalize dS os = d at *
    simp [X_letter_beyond_1_b, X_letter_beyond_1_0, X_letter_beyond_1_1, n, q, i3]
  · rw [decide_eq_false c] at q
    rw [if_neg c]
    unfold lbE
    generalize dS os = d at *
    simp [X_letter_beyond_1_b, X_letter_beyond_1_0, X_letter_beyond_1_1, n, q, i3]
theorem lb_go {s0 : Sl} {os : List Str} {n : Nat} (hn : n < 704) (h2 : nthL n ∉ os) : ∀ (c j m : Nat) (s2 s3 : Sl), j + c = n → c < m → (∀ i, j ≤ i → i < n → nthL i ∈ os) → s2.isIo = false → s3.isIo = false →
    forGo (tgN 2) X_letter_beyond_1_b (rangeD (j : Int) m) (lbE s0 os s2 s3) = .rt (.sh (.str (nthL n))) (lbE s0 os (.sh (.int (n : Int))) (.sh (.str (nthL n))))
  | 0, j, m + 1, s2, s3, hj, _, h1, i2, i3 => by
    have : j = n := by omega
    subst this
    have tg : tgN 2 (.int (j : Int)) (lbE s0 os s2 s3) = some (lbE s0 os (.sh (.int (j : Int))) s3) := by simp [i2]
    have st := lb_step (s0 := s0) (os := os) hn i3
    rw [if_neg h2] at st
    rw [range_cons, forGo, tg]
    dsimp only
    rw [st]
  | c + 1, j, m + 1, s2, s3, hj, hm, h1, i2, i3 => by
    have tg : tgN 2 (.int (j : Int)) (lbE s0 os s2 s3) = some (lbE s0 os (.sh (.int (j : Int))) s3) := by simp [i2]
    have st := lb_step (s0 := s0) (os := os) (j := j) (by omega) i3
    rw [if_pos (h1 j (Nat.le_refl _) (by omega))] at st
    rw [range_cons, forGo, tg]
    dsimp only
    rw [st]
    exact lb_go hn h2 c (j + 1) m _ _ (by omega) (by omega) (fun i hi => h1 i (by omega)) rfl rfl
theorem sq_rt {f g : SF} {env e : En} {r : Rv} (h : f env = .rt r e) : seqF f g env = .rt r e := by rw [x_seqF, h]; rfl
/-- n is the first number whose letter is not known -/
def Fst (xs : List Str) (n : Nat) : Prop := n < 704 ∧ (∀ j, j < n → nthL j ∈ xs) ∧ nthL n ∉ xs
theorem lb0 {X : D} {xs : List Str} (hX : itemsD X = some (sD xs)) (hl : xs.length ≤ 10000) : X_letter_beyond_0 [.sh X, .un, .un, .un] = .nx (lbE (.sh X) (onceS xs []) .un .un) := by
  have d := dc_goS (v := 3) (e := [.sh X, .un, .un, .un]) rfl xs [] (by rw [List.length_nil]; omega)
  have d' : dcGo (dcStep [3] (tgN 3) yesF (nmF 3) (cF (.bool true))) (sD xs) [.sh X, .un, .un, .un] [] = some (sK (onceS xs []), [.sh X, .un, .un, .un]) := d
  unfold lbE dS
  generalize sD xs = ds at *
  generalize sK (onceS xs []) = kv at *
  unfold X_letter_beyond_0
  have y : dcF (itF (nmF 0)) [3] (tgN 3) yesF (nmF 3) (cF (.bool true)) [.sh X, .un, .un, .un] = .ok (.tm (dctD kv)) [.sh X, .un, .un, .un] := by
    rw [x_dcF]
    have z : itF (nmF 0) [.sh X, .un, .un, .un] = .ok ds [.sh X, .un, .un, .un] := by simp [hX]
    rw [z, x_bind_ok, d']
  generalize dcF _ _ _ _ _ _ = g at *
  simp [y]
theorem beyond_ok {X : D} {xs : List Str} (hX : itemsD X = some (sD xs)) (hl : xs.length ≤ 10000) {n : Nat} (f : Fst xs n) : F_letter_beyond [.sh X] = .ret false (.str (nthL n)) [.sh X] := by
  obtain ⟨hn, f1, f2⟩ := f
  have hos : ∀ y, y ∈ onceS xs [] ↔ y ∈ xs := fun y => by rw [mem_onceS]; simp
  have hlen : n ≤ (onceS xs []).length := by
    have := pig ((List.range n).map nthL) (onceS xs []) (List.pairwise_map.mpr (List.Pairwise.imp_of_mem (fun ha hb ne e => ne (nth_inj (by have := List.mem_range.mp ha; omega) (by have := List.mem_range.mp hb; omega) e)) (show (List.range n).Pairwise (· ≠ ·) from List.nodup_range))) (fun x hx => by
      obtain ⟨j, hj, rfl⟩ := List.mem_map.mp hx
      exact (hos _).mpr (f1 j (List.mem_range.mp hj)))
    rw [List.length_map, List.length_range] at this
    exact this
  have y0 := lb0 hX hl
  have ol := onceS_len xs []
  rw [List.length_nil] at ol
  have go := lb_go (s0 := .sh X) (os := onceS xs []) hn (fun h => f2 ((hos _).mp h)) n 0 ((onceS xs []).length + 1) .un .un (by omega) (by omega) (fun i _ hi => (hos _).mpr (f1 i hi)) rfl rfl
  have y1 : X_letter_beyond_1 (lbE (.sh X) (onceS xs []) .un .un) = .rt (.sh (.str (nthL n))) (lbE (.sh X) (onceS xs []) (.sh (.int (n : Int))) (.sh (.str (nthL n)))) := by
    have l := lenDS (onceS xs [])
    have r := rngB_nat (n := (onceS xs []).length + 1) (by omega)
    have tn : ((((onceS xs []).length : Int) + 1)).toNat = (onceS xs []).length + 1 := by omega
    have e1 : (((onceS xs []).length + 1 : Nat) : Int) = ((onceS xs []).length : Int) + 1 := by omega
    rw [e1] at r
    unfold X_letter_beyond_1
    rw [x_forF]
    have z : rngF (consF (opF addG (cbF lenDC (consF (nmF 1) nilF)) (cF (.int (1)))) nilF) (lbE (.sh X) (onceS xs []) .un .un) = .ok (rangeD 0 ((onceS xs []).length + 1)) (lbE (.sh X) (onceS xs []) .un .un) := by
      unfold lbE
      generalize (onceS xs []).length = m at *
      generalize dS (onceS xs []) = d at *
      simp [l, r, tn]
    rw [z, x_st_ok]
    exact go
  exact runF_sh (np := 1) (n := 4) (body := B_letter_beyond) (as := [.sh X]) rfl ((seq_to2 y0).trans (sq_rt y1))
end S00


set_option Elab.async false
set_option linter.all false
set_option maxRecDepth 100000
set_option maxHeartbeats 4000000
namespace S00
open PySem PySem.Spec PyProof.Rows L2 VL
/-! new_letter: answers and refusals -/
theorem len_of {x : Str} (h : letB x = true) : x.length ≤ 4 := by
  unfold letB at h
  simp only [Bool.and_eq_true, decide_eq_true_eq] at h
  omega
theorem nl_step {s0 s1 : Sl} {x : Str} (h : letB x = true) (i1 : s1.isIo = false) : X_new_letter_1_b [s0, .sh (.str x)] = .nx [s0, .sh (.str x)] := by
  have e := is_letter_str (x := x) (by have := len_of h; omega)
  rw [h] at e
  simp [X_new_letter_1_b, X_new_letter_1_0, e]
theorem nl_go {s0 : Sl} : ∀ (xs : List Str) (s1 : Sl), s1.isIo = false → (∀ x ∈ xs, letB x = true) → ∃ s1' : Sl, s1'.isIo = false ∧ ∀ r, forGo (tgN 1) X_new_letter_1_b (sD xs ++ r) [s0, s1] = forGo (tgN 1) X_new_letter_1_b r [s0, s1']
  | [], s1, i, _ => ⟨s1, i, fun r => rfl⟩
  | x :: xs, s1, i, h => by
    obtain ⟨s', i', e⟩ := nl_go (s0 := s0) xs (.sh (.str x)) rfl (fun y hy => h y (List.mem_cons_of_mem _ hy))
    refine ⟨s', i', fun r => ?_⟩
    have tg : tgN 1 (.str x) [s0, s1] = some [s0, .sh (.str x)] := by simp [i]
    have st := nl_step (s0 := s0) (s1 := s1) (h x List.mem_cons_self) i
    show forGo (tgN 1) X_new_letter_1_b (PyData.str x :: (sD xs ++ r)) [s0, s1] = _
    rw [forGo, tg]
    dsimp only
    rw [st]
    exact e r
theorem line_ob (ds : List D) : F_is_line [.ob (.list ds)] = .ret false (.bool true) [.io (.list ds)] := by
  have i : isi2G "list" "tuple" (.list ds) = some (.sh (.bool true)) := rfl
  simp [F_is_line, runF, B_is_line, Ag.sl, outE, pick, i]
theorem line_sl (ds : List D) : F_is_line [.sh (.list ds)] = .ret false (.bool true) [.sh (.list ds)] := by
  have i : isi2G "list" "tuple" (.list ds) = some (.sh (.bool true)) := rfl
  simp [F_is_line, runF, B_is_line, Ag.sl, outE, pick, i]
theorem line_st (ds : List D) : F_is_line [.sh (.tuple ds)] = .ret false (.bool true) [.sh (.tuple ds)] := by
  have i : isi2G "list" "tuple" (.tuple ds) = some (.sh (.bool true)) := rfl
  simp [F_is_line, runF, B_is_line, Ag.sl, outE, pick, i]
theorem nl0_ob {ds : List D} (h : ds.length ≤ 4000) : X_new_letter_0 [.io (.list ds), .un] = .nx [.io (.list ds), .un] := by
  have l := line_ob ds
  have c : ¬ (4000 : Int) < (ds.length : Int) := by omega
  simp [X_new_letter_0, l, c]
theorem nl0_sl {ds : List D} (h : ds.length ≤ 4000) : X_new_letter_0 [.sh (.list ds), .un] = .nx [.sh (.list ds), .un] := by
  have l := line_sl ds
  have c : ¬ (4000 : Int) < (ds.length : Int) := by omega
  simp [X_new_letter_0, l, c]
theorem nl0_st {ds : List D} (h : ds.length ≤ 4000) : X_new_letter_0 [.sh (.tuple ds), .un] = .nx [.sh (.tuple ds), .un] := by
  have l := line_st ds
  have c : ¬ (4000 : Int) < (ds.length : Int) := by omega
  simp [X_new_letter_0, l, c]
/-- the slots in which a line of letters may be handed in -/
inductive Hand (ds : List D) : Ag → Sl → D → Prop
  | ob : Hand ds (.ob (.list ds)) (.iz (.list ds)) (.list ds)
  | sl : Hand ds (.sh (.list ds)) (.sh (.list ds)) (.list ds)
  | st : Hand ds (.sh (.tuple ds)) (.sh (.tuple ds)) (.tuple ds)
theorem Hand.zero {ds : List D} {a : Ag} {s : Sl} {X : D} (h : Hand ds a s X) (hl : ds.length ≤ 4000) : X_new_letter_0 [a.sl, .un] = .nx [a.sl, .un] := by
  cases h
  · exact nl0_ob hl
  · exact nl0_sl hl
  · exact nl0_st hl
theorem Hand.it {ds : List D} {a : Ag} {s : Sl} {X : D} (h : Hand ds a s X) : itF (nmF 0) [a.sl, .un] = .ok ds [s, .un] := by
  cases h <;> simp [Ag.sl]
theorem Hand.items {ds : List D} {a : Ag} {s : Sl} {X : D} (h : Hand ds a s X) : itemsD X = some ds := by cases h <;> rfl
theorem Hand.nm {ds : List D} {a : Ag} {s s1 : Sl} {X : D} (h : Hand ds a s X) : nmF 0 [s, s1] = .ok (.sh X) [s, s1] := by cases h <;> rfl
theorem Hand.out {ds : List D} {a : Ag} {s s1 : Sl} {X : D} (h : Hand ds a s X) : outE [a] [s, s1] = [s] := by cases h <;> rfl
theorem new_ok {xs : List Str} {a : Ag} {s : Sl} {X : D} (H : Hand (sD xs) a s X) (hx : ∀ x ∈ xs, letB x = true) (hl : xs.length ≤ 4000) {n : Nat} (f : Fst xs n) : F_new_letter [a] = .ret false (.str (nthL n)) [s] := by
  have y0 := H.zero (by rw [List.length_map]; exact hl)
  obtain ⟨s1, i1, e⟩ := nl_go (s0 := s) xs .un rfl hx
  have e := e []
  rw [List.append_nil] at e
  have y1 : X_new_letter_1 [a.sl, .un] = .nx [s, s1] := by
    unfold X_new_letter_1
    rw [x_forF, H.it, x_st_ok, e]; rfl
  have b := beyond_ok H.items (by omega) f
  have nm := H.nm (s1 := s1)
  have y2 : X_new_letter_2 [s, s1] = .rt (.sh (.str (nthL n))) [s, s1] := by
    unfold X_new_letter_2
    generalize nthL n = y at *
    generalize nmF 0 = g at *
    simp [nm, b]
  have := runF_sh (np := 1) (n := 2) (body := B_new_letter) (as := [a]) rfl ((seq_to2 y0).trans ((seq_to2 y1).trans y2))
  rw [H.out] at this
  exact this
def noL (d : D) : Prop := F_is_letter [.sh d] = .ret false (.bool false) [.sh d]
theorem nl_bad {s0 s1 : Sl} {d : D} (h : noL d) : X_new_letter_1_b [s0, .sh d] = .ex ⟨"NoLetter", "told", d⟩ [s0, .sh d] := by
  unfold noL at h
  simp [X_new_letter_1_b, X_new_letter_1_0, h]
theorem new_bad {xs : List Str} {d : D} {r : List D} {a : Ag} {s : Sl} {X : D} (H : Hand (sD xs ++ d :: r) a s X) (hx : ∀ x ∈ xs, letB x = true) (hl : (sD xs ++ d :: r).length ≤ 4000) (hd : noL d) : F_new_letter [a] = .exc ⟨"NoLetter", "told", d⟩ [s] := by
  have y0 := H.zero hl
  obtain ⟨s1, i1, e⟩ := nl_go (s0 := s) xs .un rfl hx
  have tg : tgN 1 d [s, s1] = some [s, .sh d] := by simp [i1]
  have y1 : X_new_letter_1 [a.sl, .un] = .ex ⟨"NoLetter", "told", d⟩ [s, .sh d] := by
    unfold X_new_letter_1
    rw [x_forF, H.it, x_st_ok, e, forGo, tg]
    dsimp only
    rw [nl_bad (s1 := s1) hd]
  have := runF_ex (np := 1) (n := 2) (body := B_new_letter) (as := [a]) rfl ((seq_to2 y0).trans (seq_ex y1))
  rw [H.out] at this
  exact this
theorem new_long {ds : List D} (h : 4000 < ds.length) : F_new_letter [.sh (.list ds)] = .exc ⟨"NoLetter", "told", .none⟩ [.sh (.list ds)] := by
  have l := line_sl ds
  have c : (4000 : Int) < (ds.length : Int) := by omega
  have y0 : X_new_letter_0 [.sh (.list ds), .un] = .ex ⟨"NoLetter", "told", .none⟩ [.sh (.list ds), .un] := by simp [X_new_letter_0, l, c]
  exact runF_ex (np := 1) (n := 2) (body := B_new_letter) (as := [.sh (.list ds)]) rfl (seq_ex y0)
end S00


set_option Elab.async false
set_option linter.all false
set_option maxRecDepth 100000
set_option maxHeartbeats 4000000
namespace S00
open PySem PySem.Spec PyProof.Rows L2 VL
/-! the due letter -/
def sig : List Str := (List.range 26).map nthL
def MM : List Str := sig ++ (["aa", "ab", "ad", "zz"] : List Str)
def AllM (l : List Str) : Prop := ∀ x ∈ l, x ∈ MM
theorem MM_all : MM.all (fun x => letB x && PyData.strOk x) = true := by decide +kernel
theorem MM_let {x : Str} (h : x ∈ MM) : letB x = true := by
  have := List.all_eq_true.mp MM_all x h
  rw [Bool.and_eq_true] at this; exact this.1
theorem MM_ok {x : Str} (h : x ∈ MM) : PyData.strOk x = true := by
  have := List.all_eq_true.mp MM_all x h
  rw [Bool.and_eq_true] at this; exact this.2
theorem MM28 : nthL 28 ∉ MM := by decide +kernel
theorem AllM.append {l m : List Str} (h : AllM l) (g : AllM m) : AllM (l ++ m) := fun x hx => (List.mem_append.mp hx).elim (h x) (g x)
theorem nth_okB : (List.range 704).all (fun i => PyData.strOk (nthL i) && letB (nthL i)) = true := by decide +kernel
theorem nth_ok {i : Nat} (h : i < 704) : PyData.strOk (nthL i) = true := by
  have := List.all_eq_true.mp nth_okB i (List.mem_range.mpr h)
  rw [Bool.and_eq_true] at this; exact this.1
theorem nth_let {i : Nat} (h : i < 704) : letB (nthL i) = true := by
  have := List.all_eq_true.mp nth_okB i (List.mem_range.mpr h)
  rw [Bool.and_eq_true] at this; exact this.2
theorem least_not {p : Nat → Prop} [DecidablePred p] : ∀ k : Nat, ¬ p k → ∃ n, n ≤ k ∧ (∀ j, j < n → p j) ∧ ¬ p n
  | 0, h => ⟨0, Nat.le_refl _, fun j hj => absurd hj (Nat.not_lt_zero _), h⟩
  | k + 1, h => by
    by_cases c : ∃ n, n ≤ k ∧ (∀ j, j < n → p j) ∧ ¬ p n
    · obtain ⟨n, h1, h2⟩ := c
      exact ⟨n, by omega, h2⟩
    · refine ⟨k + 1, Nat.le_refl _, ?_, h⟩
      intro j hj
      by_cases cj : p j
      · exact cj
      · obtain ⟨n, h1, h2⟩ := least_not j cj
        exact (c ⟨n, by omega, h2⟩).elim
theorem fst_of {xs : List Str} (h : AllM xs) : ∃ n, n ≤ 28 ∧ Fst xs n := by
  obtain ⟨n, h1, h2, h3⟩ := least_not (p := fun j => nthL j ∈ xs) 28 (fun hm => MM28 (h _ hm))
  exact ⟨n, h1, by omega, h2, h3⟩
theorem go_first {tgt : D → En → Option En} {B : SF} (φ : Nat → D) (Inv Post : En → Prop) (n : Nat) (r : Rv)
    (st : ∀ j, j < n → ∀ e, Inv e → ∃ e1 e2, tgt (φ j) e = some e1 ∧ B e1 = .nx e2 ∧ Inv e2) (sp : ∀ e, Inv e → ∃ e1 e2, tgt (φ n) e = some e1 ∧ B e1 = .rt r e2 ∧ Post e2) :
    ∀ (m j : Nat) (e : En), j ≤ n → n < j + m → Inv e → ∃ e', forGo tgt B ((List.range' j m).map φ) e = .rt r e' ∧ Post e'
  | 0, j, e, h1, h2, _ => by omega
  | m + 1, j, e, h1, h2, i => by
    by_cases c : j = n
    · subst c
      obtain ⟨e1, e2, t, b, p⟩ := sp e i
      refine ⟨e2, ?_, p⟩
      rw [List.range'_succ, List.map_cons, forGo, t]
      dsimp only
      rw [b]
    · obtain ⟨e1, e2, t, b, i2⟩ := st j (by omega) e i
      obtain ⟨e', g, p⟩ := go_first φ Inv Post n r st sp m (j + 1) e2 (by omega) (by omega) i2
      refine ⟨e', ?_, p⟩
      rw [List.range'_succ, List.map_cons, forGo, t]
      dsimp only
      rw [b]
      exact g
theorem go_allnx {tgt : D → En → Option En} {B : SF} (φ : Nat → D) (Inv : En → Prop) (n : Nat)
    (st : ∀ j, j < n → ∀ e, Inv e → ∃ e1 e2, tgt (φ j) e = some e1 ∧ B e1 = .nx e2 ∧ Inv e2) :
    ∀ (m j : Nat) (e : En), j + m ≤ n → Inv e → ∃ e', forGo tgt B ((List.range' j m).map φ) e = .nx e' ∧ Inv e'
  | 0, j, e, h1, i => ⟨e, rfl, i⟩
  | m + 1, j, e, h1, i => by
    obtain ⟨e1, e2, t, b, i2⟩ := st j (by omega) e i
    obtain ⟨e', g, p⟩ := go_allnx φ Inv n st m (j + 1) e2 (by omega) i2
    refine ⟨e', ?_, p⟩
    rw [List.range'_succ, List.map_cons, forGo, t]
    dsimp only
    rw [b]
    exact g
theorem al_signs : signsD "abcdefghijklmnopqrstuvwxyz" = (List.range' 0 26).map fun j => PyData.str (nthL j) := by kernel_rfl
theorem shS {xs : List Str} (h : ∀ x ∈ xs, PyData.strOk x = true) : SeqAt.shaped (.list (sD xs)) = true := (lay_lst (n := 1) fun d hd => by
  obtain ⟨x, hx, rfl⟩ := List.mem_map.mp hd
  exact lay_str (h x hx)).sh (by decide)
theorem any_eqv (y : Str) : ∀ xs : List Str, ((sD xs).any fun z => PyData.eqv z (.str y)) = decide (y ∈ xs)
  | [] => rfl
  | x :: xs => by
    show (PyData.eqv (.str x) (.str y) || (sD xs).any fun z => PyData.eqv z (.str y)) = _
    rw [any_eqv y xs]
    simp only [PyData.eqv]
    by_cases c : x = y
    · subst c; simp
    · have c2 : ¬ y = x := fun h => c h.symm
      simp [c, c2]
theorem ninL {xs : List Str} {y : Str} (h : ∀ x ∈ xs, PyData.strOk x = true) (hy : PyData.strOk y = true) : inG true (.str y) (.list (sD xs)) = some (.sh (.bool (!decide (y ∈ xs)))) := by
  have a : SeqAt.shaped (.str y) = true := (lay_str (n := 1) hy).sh (by decide)
  rw [nin_l a (shS h), any_eqv]
theorem pairs_all : (List.range 26).all (fun j => decide (nthL 0 ++ nthL j = nthL (26 + j))) = true := by decide +kernel
theorem pair_is {j : Nat} (h : j < 26) : nthL 0 ++ nthL j = nthL (26 + j) := by
  have := List.all_eq_true.mp pairs_all j (List.mem_range.mpr h)
  exact of_decide_eq_true this
abbrev duE (xs : List Str) (s2 s3 : Sl) : En := [.sh (.list (sD xs)), .sh (.str "abcdefghijklmnopqrstuvwxyz"), s2, s3]
theorem due_ok {xs : List Str} (hx : ∀ x ∈ xs, PyData.strOk x = true) {n : Nat} (hn : n < 52) (f : Fst xs n) : F__law_due_letter [.sh (.list (sD xs))] = .ret false (.str (nthL n)) [.sh (.list (sD xs))] := by
  obtain ⟨_, f1, f2⟩ := f
  have y0 : X__law_due_letter_0 [.sh (.list (sD xs)), .un, .un, .un] = .nx (duE xs .un .un) := rfl
  have it : ∀ s2 s3, itF (nmF 1) (duE xs s2 s3) = .ok ((List.range' 0 26).map fun j => PyData.str (nthL j)) (duE xs s2 s3) := fun s2 s3 => by
    rw [← al_signs]; rfl
  have b1 : ∀ (j : Nat) (s2 s3 : Sl), j < 704 → X__law_due_letter_1_b (duE xs (.sh (.str (nthL j))) s3) = if nthL j ∈ xs then .nx (duE xs (.sh (.str (nthL j))) s3) else .rt (.sh (.str (nthL j))) (duE xs (.sh (.str (nthL j))) s3) := by
    intro j s2 s3 hj
    have q := ninL (y := nthL j) hx (nth_ok hj)
    unfold duE
    generalize nthL j = y at *
    by_cases c : y ∈ xs
    · rw [decide_eq_true c] at q
      rw [if_pos c]
      generalize sD xs = ds at *
      generalize Str.ofString "abcdefghijklmnopqrstuvwxyz" = A at *
      simp [X__law_due_letter_1_b, X__law_due_letter_1_0, q]
    · rw [decide_eq_false c] at q
      rw [if_neg c]
      generalize sD xs = ds at *
      generalize Str.ofString "abcdefghijklmnopqrstuvwxyz" = A at *
      simp [X__law_due_letter_1_b, X__law_due_letter_1_0, q]
  by_cases c : n < 26
  · obtain ⟨e', g, rfl⟩ := go_first (tgt := tgN 2) (B := X__law_due_letter_1_b) (fun j => PyData.str (nthL j)) (fun e => ∃ s2 : Sl, s2.isIo = false ∧ e = duE xs s2 .un) (fun e => e = duE xs (.sh (.str (nthL n))) .un) n (.sh (.str (nthL n)))
      (by
        rintro j hj e ⟨s2, i2, rfl⟩
        refine ⟨duE xs (.sh (.str (nthL j))) .un, duE xs (.sh (.str (nthL j))) .un, by simp [i2], ?_, _, rfl, rfl⟩
        rw [b1 j .un .un (by omega), if_pos (f1 j hj)])
      (by
        rintro e ⟨s2, i2, rfl⟩
        refine ⟨duE xs (.sh (.str (nthL n))) .un, duE xs (.sh (.str (nthL n))) .un, by simp [i2], ?_, rfl⟩
        rw [b1 n .un .un (by omega), if_neg f2]) 26 0 (duE xs .un .un) (by omega) (by omega) ⟨_, rfl, rfl⟩
    have y1 : X__law_due_letter_1 (duE xs .un .un) = .rt (.sh (.str (nthL n))) (duE xs (.sh (.str (nthL n))) .un) := by
      unfold X__law_due_letter_1
      rw [x_forF, it, x_st_ok]; exact g
    exact runF_sh (np := 1) (n := 4) (body := B__law_due_letter) (as := [.sh (.list (sD xs))]) rfl ((seq_to2 y0).trans (sq_rt y1))
  · obtain ⟨e', g, s2, i2, rfl⟩ := go_allnx (tgt := tgN 2) (B := X__law_due_letter_1_b) (fun j => PyData.str (nthL j)) (fun e => ∃ s2 : Sl, s2.isIo = false ∧ e = duE xs s2 .un) 26
      (by
        rintro j hj e ⟨s2, i2, rfl⟩
        refine ⟨duE xs (.sh (.str (nthL j))) .un, duE xs (.sh (.str (nthL j))) .un, by simp [i2], ?_, _, rfl, rfl⟩
        rw [b1 j .un .un (by omega), if_pos (f1 j (by omega))]) 26 0 (duE xs .un .un) (by omega) ⟨_, rfl, rfl⟩
    have y1 : X__law_due_letter_1 (duE xs .un .un) = .nx (duE xs s2 .un) := by
      unfold X__law_due_letter_1
      rw [x_forF, it, x_st_ok]; exact g
    have b2 : ∀ (j : Nat), j < 26 → X__law_due_letter_2_0_b (duE xs (.sh (.str (nthL 0))) (.sh (.str (nthL j)))) = if nthL (26 + j) ∈ xs then .nx (duE xs (.sh (.str (nthL 0))) (.sh (.str (nthL j)))) else .rt (.sh (.str (nthL (26 + j)))) (duE xs (.sh (.str (nthL 0))) (.sh (.str (nthL j)))) := by
      intro j hj
      have q := ninL (y := nthL (26 + j)) hx (nth_ok (by omega))
      have l0 := len_of (nth_let (i := 0) (by omega))
      have l1 := len_of (nth_let (i := j) (by omega))
      have p := catS (x := nthL 0) (y := nthL j) (by omega) (by omega)
      rw [pair_is hj] at p
      unfold duE
      generalize nthL (26 + j) = y at *
      generalize nthL 0 = y0 at *
      generalize nthL j = y1 at *
      by_cases c : y ∈ xs
      · rw [decide_eq_true c] at q
        rw [if_pos c]
        generalize sD xs = ds at *
        generalize Str.ofString "abcdefghijklmnopqrstuvwxyz" = A at *
        simp [X__law_due_letter_2_0_b, X__law_due_letter_2_0_0, q, p]
      · rw [decide_eq_false c] at q
        rw [if_neg c]
        generalize sD xs = ds at *
        generalize Str.ofString "abcdefghijklmnopqrstuvwxyz" = A at *
        simp [X__law_due_letter_2_0_b, X__law_due_letter_2_0_0, q, p]
    obtain ⟨e', g2, s3, i3, rfl⟩ := go_first (tgt := tgN 3) (B := X__law_due_letter_2_0_b) (fun j => PyData.str (nthL j)) (fun e => ∃ s3 : Sl, s3.isIo = false ∧ e = duE xs (.sh (.str (nthL 0))) s3) (fun e => ∃ s3 : Sl, s3.isIo = false ∧ e = duE xs (.sh (.str (nthL 0))) s3) (n - 26) (.sh (.str (nthL n)))
      (by
        rintro j hj e ⟨s3, i3, rfl⟩
        refine ⟨duE xs (.sh (.str (nthL 0))) (.sh (.str (nthL j))), duE xs (.sh (.str (nthL 0))) (.sh (.str (nthL j))), by simp [i3], ?_, _, rfl, rfl⟩
        rw [b2 j (by omega), if_pos (f1 (26 + j) (by omega))])
      (by
        rintro e ⟨s3, i3, rfl⟩
        refine ⟨duE xs (.sh (.str (nthL 0))) (.sh (.str (nthL (n - 26)))), duE xs (.sh (.str (nthL 0))) (.sh (.str (nthL (n - 26)))), by simp [i3], ?_, _, rfl, rfl⟩
        have e26 : 26 + (n - 26) = n := by omega
        have := b2 (n - 26) (by omega)
        rw [e26, if_neg f2] at this
        exact this) 26 0 (duE xs (.sh (.str (nthL 0))) .un) (by omega) (by omega) ⟨_, rfl, rfl⟩
    have t0 : tgN 2 (.str (nthL 0)) (duE xs s2 .un) = some (duE xs (.sh (.str (nthL 0))) .un) := by simp [i2]
    have y20 : X__law_due_letter_2_b (duE xs (.sh (.str (nthL 0))) .un) = .rt (.sh (.str (nthL n))) (duE xs (.sh (.str (nthL 0))) s3) := by
      unfold X__law_due_letter_2_b X__law_due_letter_2_0
      rw [x_forF, it, x_st_ok]; exact g2
    have y2 : X__law_due_letter_2 (duE xs s2 .un) = .rt (.sh (.str (nthL n))) (duE xs (.sh (.str (nthL 0))) s3) := by
      unfold X__law_due_letter_2
      rw [x_forF, it, x_st_ok, List.range'_succ, List.map_cons, forGo, t0]
      dsimp only
      rw [y20]
    exact runF_sh (np := 1) (n := 4) (body := B__law_due_letter) (as := [.sh (.list (sD xs))]) rfl ((seq_to2 y0).trans ((seq_to2 y1).trans (sq_rt y2)))
end S00


set_option Elab.async false
set_option linter.all false
set_option maxRecDepth 100000
set_option maxHeartbeats 4000000
namespace S00
open PySem PySem.Spec PyProof.Rows L2 VL
/-! a row in another order -/
theorem popAt_ok {ds : List D} {i : Nat} (h : i < ds.length) (h2 : ds.length < 1000000) : popAtG (.list ds) [.int (i : Int)] = some (ds[i], .list (ds.eraseIdx i)) := by
  have q : seqIndex? (i : Int) ds.length = some i := by
    unfold seqIndex?
    simp; omega
  dsimp only [popAtG]
  rw [if_pos (by omega), q]
  dsimp only
  rw [List.getElem?_eq_getElem h]; rfl
theorem eqv_nilT : ∀ {C : List D}, PyData.eqvAll C [] = C.isEmpty
  | [] => rfl
  | _ :: _ => rfl
theorem ne_nilT {C : List D} (h : SeqAt.shaped (.list C) = true) : neG (.list C) (.list []) = some (.sh (.bool (!C.isEmpty))) := by
  have h2 : SeqAt.shaped (.list ([] : List D)) = true := by decide +kernel
  unfold neG
  rw [h, h2]
  simp only [PyData.eqv, eqv_nilT]
  rfl
theorem tu_b {d d' T : D} {ls ac vs : List D} {v : D} {i n : Int} (hn : (ls.length : Int) = n) (h : F__law_take [.ob d, .sh (.int n)] = .ret false (.int i) [.io d', .sh (.int n)]) (p : popAtG (.list ls) [.int i] = some (v, .list vs)) (hl : ac.length < 10000) : X__law_turned_1_b [.io d, .io T, .ow (.list ls), .ow (.list ac)] = .nx [.io d', .io T, .ow (.list vs), .ow (.list (ac ++ [v]))] := by
  subst hn
  have hl2 : ac.length < 16777216 := by omega
  simp [X__law_turned_1_b, X__law_turned_1_0, h, p, LIM, hl2]
theorem tu_c {d T : D} {ls : List D} {ac : D} {b : Bool} (h : neG (.list ls) (.list []) = some (.sh (.bool b))) : boolF (opF neG (nmF 2) (lstF nilF)) [.io d, .io T, .ow (.list ls), .ow ac] = .ok b [.io d, .io T, .ow (.list ls), .ow ac] := by
  simp [h, LIM]
theorem er_perm {α : Type} : ∀ (l : List α) (i : Nat) (h : i < l.length), (l[i] :: l.eraseIdx i).Perm l
  | x :: l, 0, h => List.Perm.refl _
  | x :: l, i + 1, h => (List.Perm.swap x _ _).trans ((er_perm l i (by simpa using h)).cons x)
theorem er_map {α β : Type} (f : α → β) : ∀ (l : List α) (i : Nat), (l.map f).eraseIdx i = (l.eraseIdx i).map f
  | [], i => rfl
  | x :: l, 0 => rfl
  | x :: l, i + 1 => by
    show f x :: (l.map f).eraseIdx i = _
    rw [er_map f l i]; rfl
def lnAt (e : En) : Nat := match e[2]? with
  | some (Sl.ow (PyData.list l)) => l.length
  | _ => 0
def OkS (r : List Str) : Prop := ∀ x ∈ r, PyData.strOk x = true
theorem tu_wh {d T : D} {r : List Str} (s : Src d) (hr : OkS r) (hl : r.length ≤ 1000) : ∃ (q : List Str) (d' : D), q.Perm r ∧ Src d' ∧ X__law_turned_1 [.io d, .io T, .ow (.list (sD r)), .ow (.list [])] = .nx [.io d', .io T, .ow (.list []), .ow (.list (sD q))] := by
  obtain ⟨e', h1, q, d', hp, sd, rfl⟩ := wh_is (c := boolF (opF neG (nmF 2) (lstF nilF))) (body := X__law_turned_1_b)
    (fun e => ∃ (l q : List Str) (d' : D), (q ++ l).Perm r ∧ Src d' ∧ e = [.io d', .io T, .ow (.list (sD l)), .ow (.list (sD q))])
    (fun e => ∃ (q : List Str) (d' : D), q.Perm r ∧ Src d' ∧ e = [.io d', .io T, .ow (.list []), .ow (.list (sD q))])
    lnAt
    (by
      rintro e ⟨l, q, d', hp, sd, rfl⟩
      have n := ne_nilT (shS (xs := l) fun x hx => hr x (hp.mem_iff.mp (List.mem_append_right _ hx)))
      have pl := hp.length_eq
      rw [List.length_append] at pl
      cases hl2 : l with
      | nil =>
        subst hl2
        rw [List.append_nil] at hp
        exact .inl ⟨_, tu_c n, q, d', hp, sd, rfl⟩
      | cons a l0 =>
        rw [← hl2]
        have ne : l.length ≠ 0 := by rw [hl2]; simp
        have em : (sD l).isEmpty = false := by rw [hl2]; rfl
        rw [em] at n
        obtain ⟨i, d2, hi, sd2, e2⟩ := take_src sd l.length (by omega) (by omega)
        have p := popAt_ok (ds := sD l) (i := i) (by rw [List.length_map]; exact hi) (by rw [List.length_map]; omega)
        refine .inr ⟨_, _, tu_c n, .inl (tu_b (by rw [List.length_map]) e2 p (by rw [List.length_map]; omega)), ⟨l.eraseIdx i, q ++ [l[i]], d2, ?_, sd2, ?_⟩, ?_⟩
        · refine List.Perm.trans ?_ hp
          rw [List.append_assoc]
          refine List.Perm.append_left q ?_
          exact er_perm l i hi
        · have ea : (sD l).eraseIdx i = sD (l.eraseIdx i) := er_map PyData.str l i
          have eb : (sD l)[i]'(by rw [List.length_map]; exact hi) = .str l[i] := List.getElem_map ..
          rw [ea, eb]
          show _ = [Sl.io d2, .io T, .ow (.list (sD (l.eraseIdx i))), .ow (.list (sD (q ++ [l[i]])))]
          unfold sD
          rw [List.map_append]; rfl
        · show ((sD l).eraseIdx i).length < (sD l).length
          rw [List.length_eraseIdx, if_pos (by rw [List.length_map]; exact hi), List.length_map]
          omega)
    [.io d, .io T, .ow (.list (sD r)), .ow (.list [])] ⟨r, [], d, List.Perm.refl _, s, rfl⟩ (by show (sD r).length < 1000000; rw [List.length_map]; omega)
  exact ⟨q, d', hp, sd, h1⟩
theorem tu0 {d : D} {ts : List D} : X__law_turned_0 [.io d, .io (.list ts), .un, .un] = .nx [.io d, .io (.list ts), .ow (.list ts), .ow (.list [])] := by
  have q : listC [.list ts] = some (.tm (.list ts)) := rfl
  simp [X__law_turned_0, q, LIM]
theorem tu2 {e : En} {x : D} (h : e[3]? = some (.ow x)) : X__law_turned_2 e = .rt (.bo 3) e := by
  simp [X__law_turned_2, h]
theorem turned_ok {d : D} (s : Src d) {r : List Str} (hr : OkS r) (hl : r.length ≤ 1000) : ∃ (q : List Str) (d' : D), q.Perm r ∧ Src d' ∧ F__law_turned [.ob d, .ob (.list (sD r))] = .ret true (.list (sD q)) [.io d', .io (.list (sD r))] := by
  obtain ⟨q, d', hp, sd, y1⟩ := tu_wh (T := .list (sD r)) s hr hl
  refine ⟨q, d', hp, sd, ?_⟩
  exact runF_ow (np := 2) (n := 4) (body := B__law_turned) (as := [.ob d, .ob (.list (sD r))]) rfl ((seq_to2 (tu0 (ts := sD r))).trans ((seq_to2 y1).trans (tu2 rfl))) rfl
/-! refusals told -/
theorem ixb {z : D} : isxF CTL "BoxError" ⟨"NoLetter", "told", z⟩ = cF (.bool true) := by kernel_rfl
theorem ibb {z : D} : isbF CTL "ValueError" ⟨"NoLetter", "told", z⟩ = cF (.bool true) := by kernel_rfl
theorem xm {z : D} : exMt CTL ⟨"NoLetter", "told", z⟩ "NoLetter" = some true := by kernel_rfl
theorem refused_ob {X d : D} {r : Str} (h : F_new_letter [.ob X] = .exc ⟨"NoLetter", "told", d⟩ [.iz X]) (hr : reprC [d] = some (.sh (.str r))) : F__law_refused [.ob X] = .ret true (.list [.str r, .bool true, .bool true]) [.iz X] := by
  have t := x_told (fl := "told") (c := "NoLetter") (d := d)
  have a := ixb (z := d)
  have b := ibb (z := d)
  have c := xm (z := d)
  generalize (⟨"NoLetter", "told", d⟩ : Xc) = E at *
  unfold F__law_refused B__law_refused
  generalize CTL = C at *
  simp [runF, Ag.sl, outE, pick, h, t, a, b, c, hr, LIM]
theorem refused_sh {X d : D} {r : Str} (h : F_new_letter [.sh X] = .exc ⟨"NoLetter", "told", d⟩ [.sh X]) (hr : reprC [d] = some (.sh (.str r))) : F__law_refused [.sh X] = .ret true (.list [.str r, .bool true, .bool true]) [.sh X] := by
  have t := x_told (fl := "told") (c := "NoLetter") (d := d)
  have a := ixb (z := d)
  have b := ibb (z := d)
  have c := xm (z := d)
  generalize (⟨"NoLetter", "told", d⟩ : Xc) = E at *
  unfold F__law_refused B__law_refused
  generalize CTL = C at *
  simp [runF, Ag.sl, outE, pick, h, t, a, b, c, hr, LIM]
end S00


set_option Elab.async false
set_option linter.all false
set_option maxRecDepth 100000
set_option maxHeartbeats 4000000
namespace S00
open PySem PySem.Spec PyProof.Rows L2 VL
/-! _law_new_holds -/
theorem sgn_list : listSC [.str "abcdefghijklmnopqrstuvwxyz"] = some (.tm (.list (sD sig))) := by kernel_rfl
def six : List Str := ["a", "b", "c", "d", "e", "f", "aa", "ab", "zz"]
theorem six_ok : AllM six := by unfold AllM; decide +kernel
theorem sig_ok : AllM sig := fun x hx => List.mem_append_left _ hx
abbrev nhE (d : D) (s2 s3 s4 s5 : Sl) : En := [.io d, .ow (.list (sD sig)), s2, s3, s4, s5, .un]
theorem nh0 {d : D} : X__law_new_holds_0 [.io d, .un, .un, .un, .un, .un, .un] = .nx (nhE d .un .un .un .un) := by
  have q := sgn_list
  unfold nhE X__law_new_holds_0
  generalize sD sig = S at *
  generalize Str.ofString "abcdefghijklmnopqrstuvwxyz" = A at *
  simp [q]
theorem sig6 : sliceG (.list (sD sig)) none (some 6) = some (.tm (.list [.str "a", .str "b", .str "c", .str "d", .str "e", .str "f"])) := by kernel_rfl
theorem six_cat : addG (.list [.str "a", .str "b", .str "c", .str "d", .str "e", .str "f"]) (.list [.str "aa", .str "ab", .str "zz"]) = some (.tm (.list (sD six))) := by kernel_rfl
abbrev nhL : EF := callF F__law_one (consF (nmF 0) (consF (opF addG (slF (nmF 1) noneF (someF (cF (.int (6))))) (lstF (consF (cF (.str "aa")) (consF (cF (.str "ab")) (consF (cF (.str "zz")) nilF))))) nilF))
theorem nh_lc {d : D} (s : Src d) (n : Nat) (hn : n ≤ 9) (l : List D) (hl : l.length = n) : ∃ (xs : List Str) (d' : D), xs.length = n ∧ AllM xs ∧ Src d' ∧ lcGo (lcStep [6] (tgN 6) yesF nhL) l (nhE d .un .un .un .un) [] = some (sD xs, nhE d' .un .un .un .un) := by
  obtain ⟨acc, e', h, xs, d', h1, h2, h3, h4, h5⟩ := lc_all (stp := lcStep [6] (tgN 6) yesF nhL)
    (fun rest acc e => ∃ (xs : List Str) (d' : D), xs.length + rest.length = n ∧ AllM xs ∧ Src d' ∧ acc = sD xs ∧ e = nhE d' .un .un .un .un) (by
      rintro x rest acc e ⟨xs, d', hc, hm, sd, rfl, rfl⟩
      rw [List.length_cons] at hc
      refine ⟨by rw [List.length_map]; show _ < 16777216; omega, ?_⟩
      obtain ⟨y, d2, hy, sd2, e2⟩ := one_ob sd (sD six) (by simp [six]) (by simp [six])
      obtain ⟨z, hz, rfl⟩ := List.mem_map.mp hy
      refine ⟨.str z, nhE d2 .un .un .un .un, ?_, xs ++ [z], d2, by rw [List.length_append]; simp; omega, hm.append (fun w hw => by rw [List.mem_singleton.mp hw]; exact six_ok z hz), sd2, by unfold sD; rw [List.map_append]; rfl, rfl⟩
      have q := sig6
      have q2 := six_cat
      unfold nhE
      generalize sD six = S6 at *
      generalize sD sig = S at *
      simp [lcStep, clean, cleanS, wipeE, unwipe, Sl.isIo, e2, q, q2, LIM]) l [] (nhE d .un .un .un .un) ⟨[], d, by rw [hl]; simp, fun _ h => (by simp at h), s, rfl, rfl⟩
  subst h4 h5
  exact ⟨xs, d', by simpa using h1, h2, h3, h⟩
theorem nh1 {d : D} (s : Src d) : ∃ (xs : List Str) (d' : D), xs.length ≤ 9 ∧ AllM xs ∧ Src d' ∧ X__law_new_holds_1 (nhE d .un .un .un .un) = .nx (nhE d' (.ow (.list (sD xs))) .un .un .un) := by
  obtain ⟨i, d1, hi, s1, e1⟩ := take_src s 9 (by decide) (by decide)
  obtain ⟨xs, d2, hl, hm, s2, e2⟩ := nh_lc s1 i (by omega) (rangeD 0 i) lenR
  refine ⟨xs, d2, by omega, hm, s2, ?_⟩
  have r := rngB_nat (n := i) (by omega)
  have z : rngF (consF (callF F__law_take (consF (nmF 0) (consF (cF (.int (9))) nilF))) nilF) (nhE d .un .un .un .un) = .ok (rangeD 0 i) (nhE d1 .un .un .un .un) := by
    simp at e1
    unfold nhE
    generalize sD sig = S at *
    simp [e1, r]
  have y : lcF (rngF (consF (callF F__law_take (consF (nmF 0) (consF (cF (.int (9))) nilF))) nilF)) [6] (tgN 6) yesF nhL (nhE d .un .un .un .un) = .ok (.tm (.list (sD xs))) (nhE d2 .un .un .un .un) := by
    rw [x_lcF, z, x_bind_ok, e2]
  unfold X__law_new_holds_1
  unfold nhE at *
  generalize lcF _ _ _ _ _ = g at *
  generalize sD sig = S at *
  generalize sD xs = ds at *
  simp [y]
def tri : List Str := ["aa", "ab", "ad"]
theorem tri_ok : AllM tri := by unfold AllM; decide +kernel
theorem AllM.ok {l : List Str} (h : AllM l) : OkS l := fun x hx => MM_ok (h x hx)
theorem sig_len : sig.length = 26 := by decide +kernel
theorem nh2 {d : D} (s : Src d) {xs : List Str} (hl : xs.length ≤ 9) (hm : AllM xs) : ∃ (ys : List Str) (d' : D), ys.length ≤ 50 ∧ AllM ys ∧ Src d' ∧ X__law_new_holds_2 (nhE d (.ow (.list (sD xs))) .un .un .un) = .nx (nhE d' (.ow (.list (sD ys))) .un .un .un) := by
  obtain ⟨i, d1, hi, s1, e1⟩ := take_src s 2 (by decide) (by decide)
  have q : eqG (.int i) (.int 0) = some (.sh (.bool (decide ((i : Int) = 0)))) := eq_i
  simp at e1
  by_cases c : (i : Int) = 0
  · rw [decide_eq_true c] at q
    obtain ⟨j, d2, hj, s2, e2⟩ := take_src s1 4 (by decide) (by decide)
    have hml : AllM (sig ++ tri.take j) := sig_ok.append fun x hx => tri_ok x (List.mem_of_mem_take hx)
    have hll : (sig ++ tri.take j).length ≤ 29 := by rw [List.length_append, sig_len, List.length_take]; simp [tri]; omega
    obtain ⟨ps, d3, hp, s3, e3⟩ := turned_ok s2 hml.ok (by omega)
    have pl := hp.length_eq
    have sl : sliceG (.list [.str "aa", .str "ab", .str "ad"]) none (some (j : Int)) = some (.tm (.list (sD (tri.take j)))) := by
      rw [x_slice_l, cut_to]; unfold sD; rw [List.map_take]; rfl
    have a1 : addG (.list (sD sig)) (.list (sD (tri.take j))) = some (.tm (.list (sD (sig ++ tri.take j)))) := by
      have : (sD sig).length + (sD (tri.take j)).length ≤ LIM := by
        rw [List.length_map, List.length_map, ← List.length_append]; exact Nat.le_trans hll (by decide)
      rw [cat_l this]; unfold sD; rw [List.map_append]
    have a2 : addG (.list (sD ps)) (.list (sD xs)) = some (.tm (.list (sD (ps ++ xs)))) := by
      have : (sD ps).length + (sD xs).length ≤ LIM := by
        rw [List.length_map, List.length_map]; exact Nat.le_trans (show _ ≤ 100 by omega) (by decide)
      rw [cat_l this]; unfold sD; rw [List.map_append]
    refine ⟨ps ++ xs, d3, by rw [List.length_append]; omega, AllM.append (fun x hx => hml x (hp.mem_iff.mp hx)) hm, s3, ?_⟩
    simp at e2
    unfold X__law_new_holds_2
    unfold nhE
    generalize sD (ps ++ xs) = u at *
    generalize sD (sig ++ tri.take j) = v at *
    generalize sD (tri.take j) = w at *
    generalize sD sig = S at *
    generalize sD xs = dx at *
    generalize sD ps = dp at *
    simp [e1, q, e2, sl, a1, e3, a2, LIM, -x_slice_l]
  · rw [decide_eq_false c] at q
    refine ⟨xs, d1, by omega, hm, s1, ?_⟩
    unfold X__law_new_holds_2
    unfold nhE
    generalize sD sig = S at *
    generalize sD xs = dx at *
    simp [e1, q]
theorem neS {n : Nat} (h : n < 704) : neG (.str (nthL n)) (.str (nthL n)) = some (.sh (.bool false)) := ne_self (n := 1) (lay_str (nth_ok h)) (by decide)
theorem nh3 {d : D} {ys : List Str} (hl : ys.length ≤ 50) (hm : AllM ys) : X__law_new_holds_3 (nhE d (.ow (.list (sD ys))) .un .un .un) = .nx (nhE d (.sh (.list (sD ys))) .un .un .un) := by
  obtain ⟨n, hn, f⟩ := fst_of hm
  have k1 := new_ok (.ob (ds := sD ys)) (fun x hx => MM_let (hm x hx)) (by omega) f
  have k2 := new_ok (.st (ds := sD ys)) (fun x hx => MM_let (hm x hx)) (by omega) f
  have k3 := due_ok hm.ok (by omega) f
  have k4 := neS f.1
  unfold X__law_new_holds_3 nhE
  generalize nthL n = N at *
  generalize sD sig = S at *
  generalize sD ys = dy at *
  simp [k1, k2, k3, k4]
end S00


set_option Elab.async false
set_option linter.all false
set_option maxRecDepth 100000
set_option maxHeartbeats 4000000
namespace S00
open PySem PySem.Spec PyProof.Rows L2 VL
def OddV (o : D) : Prop := noL o ∧ ∃ r : Str, reprC [o] = some (.sh (.str r)) ∧ PyData.strOk r = true
theorem odd_ok : ∀ o ∈ [PyData.none, .str "", .str "A", .str "abcde", .int 5, .tuple [.str "a"], .bool true], OddV o := by
  intro o ho
  simp only [List.mem_cons, List.not_mem_nil, or_false] at ho
  unfold OddV noL
  rcases ho with rfl | rfl | rfl | rfl | rfl | rfl | rfl
  · exact ⟨by kernel_rfl, "None", by kernel_rfl, by decide +kernel⟩
  · exact ⟨by kernel_rfl, "''", by kernel_rfl, by decide +kernel⟩
  · exact ⟨by kernel_rfl, "'A'", by kernel_rfl, by decide +kernel⟩
  · exact ⟨by kernel_rfl, "'abcde'", by kernel_rfl, by decide +kernel⟩
  · exact ⟨by kernel_rfl, "5", by kernel_rfl, by decide +kernel⟩
  · exact ⟨by kernel_rfl, "('a',)", by kernel_rfl, by decide +kernel⟩
  · exact ⟨by kernel_rfl, "True", by kernel_rfl, by decide +kernel⟩
theorem lay3 {r : Str} (h : PyData.strOk r = true) : Lay 2 (.list [.str r, .bool true, .bool true]) := lay_lst (n := 1) fun x hx => by
  simp only [List.mem_cons, List.not_mem_nil, or_false] at hx
  rcases hx with rfl | rfl | rfl
  · exact lay_str h
  · exact lay_bool
  · exact lay_bool
theorem nh4 {d : D} (s : Src d) {Y : D} : ∃ (o d' : D), OddV o ∧ Src d' ∧ X__law_new_holds_4 (nhE d (.sh Y) .un .un .un) = .nx (nhE d' (.sh Y) (.sh o) .un .un) := by
  obtain ⟨o, d1, ho, s1, e1⟩ := one_ob s [PyData.none, .str "", .str "A", .str "abcde", .int 5, .tuple [.str "a"], .bool true] (by simp) (by decide)
  refine ⟨o, d1, odd_ok o ho, s1, ?_⟩
  unfold X__law_new_holds_4 nhE
  generalize sD sig = S at *
  simp [e1, LIM]
theorem nh5 {d o : D} (s : Src d) {ys : List Str} (hl : ys.length ≤ 50) : ∃ (i : Nat) (d' : D), i ≤ ys.length ∧ Src d' ∧ X__law_new_holds_5 (nhE d (.sh (.list (sD ys))) (.sh o) .un .un) = .nx (nhE d' (.sh (.list (sD ys))) (.sh o) (.sh (.int (i : Int))) .un) := by
  obtain ⟨i, d1, hi, s1, e1⟩ := take_src s (ys.length + 1) (by omega) (by omega)
  refine ⟨i, d1, by omega, s1, ?_⟩
  have n : (sD ys).length = ys.length := List.length_map _
  unfold X__law_new_holds_5 nhE
  generalize sD sig = S at *
  generalize sD ys = dy at *
  have c : ((ys.length + 1 : Nat) : Int) = (ys.length : Int) + 1 := by omega
  rw [c] at e1
  simp [n, e1]
theorem nh6 {d o : D} {ys : List Str} {i : Nat} (hl : ys.length ≤ 50) (hm : AllM ys) (hi : i ≤ ys.length) (ho : OddV o) : X__law_new_holds_6 (nhE d (.sh (.list (sD ys))) (.sh o) (.sh (.int (i : Int))) .un) = .nx (nhE d (.sh (.list (sD ys))) (.sh o) (.sh (.int (i : Int))) .un) := by
  obtain ⟨hn, r, hr, hk⟩ := ho
  have lt : (sD (ys.take i)).length = i := by rw [List.length_map, List.length_take]; omega
  have ld : (sD (ys.drop i)).length = ys.length - i := by rw [List.length_map, List.length_drop]
  have k1 : sliceG (.list (sD ys)) none (some (i : Int)) = some (.tm (.list (sD (ys.take i)))) := by
    rw [x_slice_l, cut_to]; unfold sD; rw [List.map_take]
  have k2 : sliceG (.list (sD ys)) (some (i : Int)) none = some (.tm (.list (sD (ys.drop i)))) := by
    rw [x_slice_l, cut_from]; unfold sD; rw [List.map_drop]
  have a1 : addG (.list (sD (ys.take i))) (.list [o, .str "B"]) = some (.tm (.list (sD (ys.take i) ++ [o, .str "B"]))) :=
    cat_l (by rw [lt]; exact Nat.le_trans (show _ ≤ 100 by simp; omega) (by decide))
  have a2 : addG (.list (sD (ys.take i) ++ [o, .str "B"])) (.list (sD (ys.drop i))) = some (.tm (.list (sD (ys.take i) ++ o :: .str "B" :: sD (ys.drop i)))) := by
    rw [cat_l (by rw [List.length_append, lt, ld]; exact Nat.le_trans (show _ ≤ 100 by simp; omega) (by decide)), List.append_assoc]; rfl
  have nb := new_bad (.ob (ds := sD (ys.take i) ++ o :: .str "B" :: sD (ys.drop i))) (fun x hx => MM_let (hm x (List.mem_of_mem_take hx))) (by rw [List.length_append, lt, List.length_cons, List.length_cons, ld]; omega) hn
  have rf := refused_ob nb hr
  have ne := ne_self (lay3 hk) (by decide)
  unfold X__law_new_holds_6 nhE
  generalize sD (ys.take i) ++ o :: .str "B" :: sD (ys.drop i) = u at *
  generalize sD (ys.take i) ++ [o, .str "B"] = v at *
  generalize sD (ys.take i) = w at *
  generalize sD (ys.drop i) = z at *
  generalize sD sig = S at *
  generalize sD ys = dy at *
  simp [k1, k2, a1, a2, rf, hr, ne, LIM, -x_slice_l]
theorem rep_is (d : D) (k : Nat) (hk : k ≤ 5000) (e : En) : mulF (lstF (consF (cF d) nilF)) (cF (.int (k : Int))) e = .ok (.tm (.list (List.replicate k d))) e := by
  have l : lstF (consF (cF d) nilF) e = .ok (.tm (.list [d])) e := by simp [LIM]
  have f := flat_one d k
  unfold mulF
  rw [l, x_bind_ok, x_cF, x_bind_ok, x_rd_tm, x_rd_sh]
  show (if isOwned e (.tm (.list [d])) = true ∧ -(2 ^ 63) ≤ (k : Int) ∧ (k : Int) < 2 ^ 63 ∧ [d].length * (k : Int).toNat ≤ LIM then _ else _) = _
  rw [if_pos ⟨rfl, by omega, by omega, by
    rw [Int.toNat_natCast, List.length_singleton, Nat.one_mul]; exact Nat.le_trans hk (by decide)⟩, Int.toNat_natCast, f]
def fiv : List D := [.none, .str "abc", .dict [], .int 5, .list (List.replicate 4001 (.str "a"))]
theorem none_r : reprC [PyData.none] = some (.sh (.str "None")) := by kernel_rfl
theorem fiv_ok : ∀ v ∈ fiv, F__law_refused [.sh v] = .ret true (.list [.str "None", .bool true, .bool true]) [.sh v] := by
  intro v hv
  unfold fiv at hv
  simp only [List.mem_cons, List.not_mem_nil, or_false] at hv
  rcases hv with rfl | rfl | rfl | rfl | rfl
  · kernel_rfl
  · kernel_rfl
  · kernel_rfl
  · kernel_rfl
  · exact refused_sh (new_long (by rw [List.length_replicate]; decide)) none_r
theorem nh7_go {d : D} {s2 s3 s4 : Sl} : ∀ (vs : List D) (s5 : Sl), (∀ v ∈ vs, v ∈ fiv) → s5.isIo = false → ∃ s5' : Sl, s5'.isIo = false ∧ forGo (tgN 5) X__law_new_holds_7_b vs (nhE d s2 s3 s4 s5) = .nx (nhE d s2 s3 s4 s5')
  | [], s5, _, i => ⟨s5, i, rfl⟩
  | v :: vs, s5, h, i => by
    have tg : tgN 5 v (nhE d s2 s3 s4 s5) = some (nhE d s2 s3 s4 (.sh v)) := by simp [i]
    have q := fiv_ok v (h v List.mem_cons_self)
    have ne := ne_self (lay3 (r := "None") (by decide +kernel)) (by decide)
    have st : X__law_new_holds_7_b (nhE d s2 s3 s4 (.sh v)) = .nx (nhE d s2 s3 s4 (.sh v)) := by
      unfold X__law_new_holds_7_b X__law_new_holds_7_0 nhE
      generalize sD sig = S at *
      simp [q, ne, LIM]
    obtain ⟨s5', i', e⟩ := nh7_go vs (.sh v) (fun w hw => h w (List.mem_cons_of_mem _ hw)) rfl
    refine ⟨s5', i', ?_⟩
    rw [forGo, tg]
    dsimp only
    rw [st]
    exact e
theorem nh7 {d : D} {s2 s3 s4 : Sl} : ∃ s5' : Sl, s5'.isIo = false ∧ X__law_new_holds_7 (nhE d s2 s3 s4 .un) = .nx (nhE d s2 s3 s4 s5') := by
  obtain ⟨s5', i', e⟩ := nh7_go (d := d) (s2 := s2) (s3 := s3) (s4 := s4) fiv .un (fun _ h => h) rfl
  refine ⟨s5', i', ?_⟩
  have r := rep_is (.str "a") 4001 (by decide)
  have it : itF (lstF (consF (cF .none) (consF (cF (.str "abc")) (consF dnewF (consF (cF (.int (5))) (consF (mulF (lstF (consF (cF (.str "a")) nilF)) (cF (.int (4001)))) nilF)))))) (nhE d s2 s3 s4 .un) = .ok fiv (nhE d s2 s3 s4 .un) := by
    have r2 : mulF (lstF (consF (cF (.str "a")) nilF)) (cF (.int (4001))) (nhE d s2 s3 s4 .un) = .ok (.tm (.list (List.replicate 4001 (.str "a")))) (nhE d s2 s3 s4 .un) := r _
    unfold fiv
    generalize (mulF (lstF (consF (cF (.str "a")) nilF)) (cF (.int (4001)))) = g at *
    generalize (nhE d s2 s3 s4 .un) = e0 at *
    generalize List.replicate 4001 (PyData.str "a") = R at *
    simp [r2, LIM]
  unfold X__law_new_holds_7
  rw [x_forF, it, x_st_ok]
  exact e
theorem nh8 {d : D} {s2 s3 s4 s5 : Sl} : X__law_new_holds_8 (nhE d s2 s3 s4 s5) = .rt (.sh (.bool true)) (nhE d s2 s3 s4 s5) := by
  have r := rep_is (.str "a") 4000 (by decide)
  have r2 : mulF (lstF (consF (cF (.str "a")) nilF)) (cF (.int (4000))) (nhE d s2 s3 s4 s5) = .ok (.tm (.list (List.replicate 4000 (.str "a")))) (nhE d s2 s3 s4 s5) := r _
  have hs : sD (List.replicate 4000 "a") = List.replicate 4000 (PyData.str "a") := List.map_replicate ..
  have hx : ∀ x ∈ List.replicate 4000 ("a" : Str), x = "a" := fun x hx => (List.mem_replicate.mp hx).2
  have f : Fst (List.replicate 4000 "a") 1 := ⟨by decide, fun j hj => by
    have : j = 0 := by omega
    subst this
    exact List.mem_replicate.mpr ⟨by decide, by decide +kernel⟩, fun h => absurd (hx _ h) (by decide +kernel)⟩
  have k := new_ok (.ob (ds := sD (List.replicate 4000 "a"))) (fun x h => by rw [hx x h]; decide +kernel) (by rw [List.length_replicate]; decide) f
  rw [hs] at k
  have q : eqG (.str (nthL 1)) (.str "b") = some (.sh (.bool true)) := by kernel_rfl
  unfold X__law_new_holds_8
  generalize (mulF (lstF (consF (cF (.str "a")) nilF)) (cF (.int (4000)))) = g at *
  generalize List.replicate 4000 (PyData.str "a") = R at *
  generalize nthL 1 = N at *
  unfold nhE at *
  generalize sD sig = S at *
  simp [r2, k, q]
theorem new_holds_ok {d : D} (s : Src d) : ∃ d' : D, F__law_new_holds [.ob d] = .ret false (.bool true) [.io d'] := by
  obtain ⟨xs, d1, l1, m1, s1, y1⟩ := nh1 s
  obtain ⟨ys, d2, l2, m2, s2, y2⟩ := nh2 s1 l1 m1
  have y3 := nh3 (d := d2) l2 m2
  obtain ⟨o, d4, ho, s4, y4⟩ := nh4 s2 (Y := .list (sD ys))
  obtain ⟨i, d5, hi, s5, y5⟩ := nh5 (o := o) s4 l2
  have y6 := nh6 (d := d5) l2 m2 hi ho
  obtain ⟨s5', _, y7⟩ := nh7 (d := d5) (s2 := .sh (.list (sD ys))) (s3 := .sh o) (s4 := .sh (.int (i : Int)))
  refine ⟨d5, ?_⟩
  exact runF_sh (np := 1) (n := 7) (body := B__law_new_holds) (as := [.ob d]) rfl ((seq_to2 nh0).trans ((seq_to2 y1).trans ((seq_to2 y2).trans ((seq_to2 y3).trans ((seq_to2 y4).trans ((seq_to2 y5).trans ((seq_to2 y6).trans ((seq_to2 y7).trans nh8))))))))
end S00


set_option Elab.async false
set_option linter.all false
set_option maxRecDepth 100000
set_option maxHeartbeats 4000000
namespace S00
open PySem PySem.Spec PyProof.Rows L2 VL
/-! two signs -/
def nL (js : List Nat) : List Str := js.map nthL
def nDD (j : Nat) : D := .str (nthL j)
theorem sD_nL (js : List Nat) : sD (nL js) = js.map nDD := by
  unfold sD nL; rw [List.map_map]; rfl
theorem pairs2 : (List.range 676).all (fun t => decide (nthL (t / 26) ++ nthL (t % 26) = nthL (26 + t))) = true := by decide +kernel
theorem pair2 {i j : Nat} (hi : i < 26) (hj : j < 26) : nthL i ++ nthL j = nthL (26 + 26 * i + j) := by
  have h := List.all_eq_true.mp pairs2 (26 * i + j) (List.mem_range.mpr (by omega))
  have h := of_decide_eq_true h
  have e1 : (26 * i + j) / 26 = i := by omega
  have e2 : (26 * i + j) % 26 = j := by omega
  rw [e1, e2, ← Nat.add_assoc] at h
  exact h
abbrev twE (d : D) (s2 s3 s4 s5 s6 : Sl) : En := [.io d, .sh (.str "abcdefghijklmnopqrstuvwxyz"), s2, s3, s4, s5, s6, .un, .un]
theorem al_signs2 : signsD "abcdefghijklmnopqrstuvwxyz" = (List.range' 0 26).map nDD := by kernel_rfl
theorem map_rg (i : Nat) : (List.range' 0 26).map (fun j => nDD (26 + 26 * i + j)) = (List.range' (26 + 26 * i) 26).map nDD := by
  have : List.range' (26 + 26 * i) 26 = (List.range' 0 26).map (fun j => 26 + 26 * i + j) := by
    rw [List.map_add_range']; rfl
  rw [this, List.map_map]; rfl
theorem tw_lc {d : D} {P : List D} {i : Nat} (hi : i < 26) : lcF (itF (nmF 1)) [8] (tgN 8) yesF (opF addG (nmF 3) (nmF 8)) (twE d (.ow (.list P)) (.sh (nDD i)) .un .un .un) = .ok (.tm (.list ((List.range' (26 + 26 * i) 26).map nDD))) (twE d (.ow (.list P)) (.sh (nDD i)) .un .un .un) := by
  have it : itF (nmF 1) (twE d (.ow (.list P)) (.sh (nDD i)) .un .un .un) = .ok ((List.range' 0 26).map nDD) (twE d (.ow (.list P)) (.sh (nDD i)) .un .un .un) := by
    rw [← al_signs2]; rfl
  have h := lc_ty nDD (fun _ => true) (fun j => nDD (26 + 26 * i + j)) (v := 8) (e := twE d (.ow (.list P)) (.sh (nDD i)) .un .un .un) (tt := yesF) (el := opF addG (nmF 3) (nmF 8)) (List.range' 0 26) [] rfl (fun _ _ => rfl) (fun j hj _ => ⟨.sh (nDD (26 + 26 * i + j)), by
      have hj : j < 26 := by have := List.mem_range'_1.mp hj; omega
      have l0 := len_of (nth_let (i := i) (by omega))
      have l1 := len_of (nth_let (i := j) (by omega))
      have p := catS (x := nthL i) (y := nthL j) (by omega) (by omega)
      rw [pair2 hi hj] at p
      unfold twE nDD
      generalize nthL (26 + 26 * i + j) = y at *
      generalize nthL i = y0 at *
      generalize nthL j = y1 at *
      generalize Str.ofString "abcdefghijklmnopqrstuvwxyz" = A at *
      simp [p], rfl⟩) (by decide)
  have hf : (List.range' 0 26).filter (fun _ => true) = List.range' 0 26 := List.filter_eq_self.mpr (fun _ _ => rfl)
  rw [hf, List.nil_append, map_rg] at h
  rw [x_lcF, it, x_bind_ok, h]
abbrev PJ (i : Nat) : List D := (List.range' 26 (26 * i)).map nDD
theorem tw_step {d : D} {i : Nat} (hi : i < 26) : X__law_two_signs_hold_2_b (twE d (.ow (.list (PJ i))) (.sh (nDD i)) .un .un .un) = .nx (twE d (.ow (.list (PJ (i + 1)))) (.sh (nDD i)) .un .un .un) := by
  have l := tw_lc (d := d) (P := PJ i) hi
  have c : addG (.list (PJ i)) (.list ((List.range' (26 + 26 * i) 26).map nDD)) = some (.tm (.list (PJ (i + 1)))) := by
    have h : (PJ i).length + ((List.range' (26 + 26 * i) 26).map nDD).length ≤ LIM := by
      rw [List.length_map, List.length_map, List.length_range', List.length_range']
      exact Nat.le_trans (show _ ≤ 1000 by omega) (by decide)
    rw [cat_l h]
    unfold PJ
    rw [← List.map_append, List.range'_append_1]; rfl
  unfold X__law_two_signs_hold_2_b X__law_two_signs_hold_2_0
  generalize lcF _ _ _ _ _ = g at *
  unfold twE at *
  generalize (List.range' (26 + 26 * i) 26).map nDD = Q at *
  generalize PJ (i + 1) = R at *
  generalize PJ i = P at *
  generalize Str.ofString "abcdefghijklmnopqrstuvwxyz" = A at *
  simp [l, c]
theorem tw_go {d : D} : ∀ (m i : Nat) (s3 : Sl), i + m = 26 → s3.isIo = false → ∃ s3' : Sl, s3'.isIo = false ∧ forGo (tgN 3) X__law_two_signs_hold_2_b ((List.range' i m).map nDD) (twE d (.ow (.list (PJ i))) s3 .un .un .un) = .nx (twE d (.ow (.list (PJ 26))) s3' .un .un .un)
  | 0, i, s3, h, i3 => by
    have : i = 26 := by omega
    subst this
    exact ⟨s3, i3, rfl⟩
  | m + 1, i, s3, h, i3 => by
    have tg : tgN 3 (nDD i) (twE d (.ow (.list (PJ i))) s3 .un .un .un) = some (twE d (.ow (.list (PJ i))) (.sh (nDD i)) .un .un .un) := by simp [i3]
    obtain ⟨s3', i3', e⟩ := tw_go m (i + 1) (.sh (nDD i)) (by omega) rfl
    refine ⟨s3', i3', ?_⟩
    rw [List.range'_succ, List.map_cons, forGo, tg]
    dsimp only
    rw [tw_step (by omega)]
    exact e
def many : List Nat := List.range' 0 702
theorem mem_many {j : Nat} : j ∈ many ↔ j < 702 := by unfold many; rw [List.mem_range'_1]; omega
theorem many_len : many.length = 702 := by unfold many; rw [List.length_range']
theorem tw2 {d : D} : ∃ s3 : Sl, X__law_two_signs_hold_2 (twE d (.ow (.list [])) .un .un .un .un) = .nx (twE d (.ow (.list (PJ 26))) s3 .un .un .un) := by
  obtain ⟨s3, _, e⟩ := tw_go (d := d) 26 0 .un rfl rfl
  have it : itF (nmF 1) (twE d (.ow (.list [])) .un .un .un .un) = .ok ((List.range' 0 26).map nDD) (twE d (.ow (.list [])) .un .un .un .un) := by
    rw [← al_signs2]; rfl
  refine ⟨s3, ?_⟩
  unfold X__law_two_signs_hold_2
  rw [x_forF, it, x_st_ok]
  exact e
theorem tw3 {d : D} {s3 : Sl} : X__law_two_signs_hold_3 (twE d (.ow (.list (PJ 26))) s3 .un .un .un) = .nx (twE d (.ow (.list (PJ 26))) s3 (.ow (.list (many.map nDD))) .un .un) := by
  have q : listSC [.str "abcdefghijklmnopqrstuvwxyz"] = some (.tm (.list ((List.range' 0 26).map nDD))) := by kernel_rfl
  have c : addG (.list ((List.range' 0 26).map nDD)) (.list (PJ 26)) = some (.tm (.list (many.map nDD))) := by
    have h : ((List.range' 0 26).map nDD).length + (PJ 26).length ≤ LIM := by
      rw [List.length_map, List.length_map, List.length_range', List.length_range']
      decide
    rw [cat_l h]
    unfold PJ many
    rw [← List.map_append]
    have := List.range'_append_1 (s := 0) (m := 26) (n := 676)
    rw [show List.range' 26 (26 * 26) = List.range' (0 + 26) 676 from rfl, this]
  unfold X__law_two_signs_hold_3 twE
  generalize many.map nDD = M at *
  generalize PJ 26 = P at *
  generalize (List.range' 0 26).map nDD = S at *
  generalize Str.ofString "abcdefghijklmnopqrstuvwxyz" = A at *
  simp [q, c]
theorem tw4 {d : D} {s2 s3 : Sl} (s : Src d) : ∃ (k : Nat) (d' : D), k < 702 ∧ Src d' ∧ X__law_two_signs_hold_4 (twE d s2 s3 (.ow (.list (many.map nDD))) .un .un) = .nx (twE d' s2 s3 (.ow (.list (many.map nDD))) (.sh (nDD k)) .un) := by
  obtain ⟨y, d1, hy, s1, e1⟩ := one_ob s (many.map nDD) (by intro h; have := congrArg List.length h; rw [List.length_map, many_len] at this; simp at this) (by rw [List.length_map, many_len]; decide)
  obtain ⟨k, hk, rfl⟩ := List.mem_map.mp hy
  refine ⟨k, d1, mem_many.mp hk, s1, ?_⟩
  unfold X__law_two_signs_hold_4 twE
  generalize nDD k = K at *
  generalize many.map nDD = M at *
  generalize Str.ofString "abcdefghijklmnopqrstuvwxyz" = A at *
  simp [e1]
theorem mem_nL {js : List Nat} {i : Nat} (hi : i < 704) (hj : ∀ j ∈ js, j < 704) : nthL i ∈ nL js ↔ i ∈ js := by
  unfold nL
  rw [List.mem_map]
  constructor
  · rintro ⟨j, h, e⟩
    rw [← nth_inj (hj j h) hi e]; exact h
  · exact fun h => ⟨i, h, rfl⟩
theorem fst_many : Fst (nL many) 702 := ⟨by decide, fun j hj => (mem_nL (by omega) fun j h => by have := mem_many.mp h; omega).mpr (mem_many.mpr hj), fun h => by
  have := mem_many.mp ((mem_nL (by decide) fun j h => by have := mem_many.mp h; omega).mp h)
  omega⟩
def mor : List Str := nL many ++ (["aaa", "aac"] : List Str)
theorem fst_mor : Fst mor 703 := ⟨by decide, fun j hj => by
  unfold mor
  by_cases c : j = 702
  · subst c
    exact List.mem_append_right _ (by decide +kernel)
  · exact List.mem_append_left _ (fst_many.2.1 j (by omega)), fun h => by
  unfold mor at h
  rcases List.mem_append.mp h with h | h
  · have := mem_many.mp ((mem_nL (by decide) fun j h => by have := mem_many.mp h; omega).mp h)
    omega
  · exact absurd h (by decide +kernel)⟩
theorem nL_let {js : List Nat} (hj : ∀ j ∈ js, j < 704) : ∀ x ∈ nL js, letB x = true := fun x hx => by
  obtain ⟨j, h, rfl⟩ := List.mem_map.mp hx
  exact nth_let (hj j h)
theorem many_lt : ∀ j ∈ many, j < 704 := fun j h => by have := mem_many.mp h; omega
theorem nL_len (js : List Nat) : (nL js).length = js.length := List.length_map _
theorem sD_mor : sD mor = many.map nDD ++ [PyData.str "aaa", .str "aac"] := by
  unfold mor sD
  rw [List.map_append]
  have := sD_nL many
  unfold sD at this
  rw [this]; rfl
theorem mor_len : mor.length = 704 := by
  unfold mor; rw [List.length_append, nL_len, many_len]; rfl
theorem mor_let : ∀ x ∈ mor, letB x = true := fun x hx => by
  unfold mor at hx
  rcases List.mem_append.mp hx with h | h
  · exact nL_let many_lt x h
  · have h2 : ∀ x ∈ (["aaa", "aac"] : List Str), letB x = true := by decide +kernel
    exact h2 x h
theorem tw5g {d : D} {A z z2 z3 a b : Str} {s2 s3 s5 : Sl} {M M2 : List D} (k1 : F_new_letter [.ob (.list M)] = .ret false (.str a) [.iz (.list M)]) (q1 : neG (.str a) (.str z) = some (.sh (.bool false))) (c : addG (.list M) (.list [.str z, .str z2]) = some (.tm (.list M2)))
    (k2 : F_new_letter [.ob (.list M2)] = .ret false (.str b) [.iz (.list M2)]) (q2 : neG (.str b) (.str z3) = some (.sh (.bool false))) :
    (ifS (orT (boolF (opF neG (callF F_new_letter (consF (nmF 4) nilF)) (cF (.str z)))) (boolF (opF neG (callF F_new_letter (consF (opF addG (nmF 4) (lstF (consF (cF (.str z)) (consF (cF (.str z2)) nilF)))) nilF)) (cF (.str z3)))))
      (retF (cF (.bool false))) passF) [.io d, .sh (.str A), s2, s3, .ow (.list M), s5, .un, .un, .un] = .nx [.io d, .sh (.str A), s2, s3, .sh (.list M), s5, .un, .un, .un] := by
  simp [k1, k2, q1, q2, c, LIM]
theorem tw5 {d : D} {s2 s3 s5 : Sl} : X__law_two_signs_hold_5 (twE d s2 s3 (.ow (.list (many.map nDD))) s5 .un) = .nx (twE d s2 s3 (.sh (.list (many.map nDD))) s5 .un) := by
  have k1 := new_ok (.ob (ds := sD (nL many))) (nL_let many_lt) (by rw [nL_len, many_len]; decide) fst_many
  have k2 := new_ok (.ob (ds := sD mor)) mor_let (by rw [mor_len]; decide) fst_mor
  have q1 : neG (.str (nthL 702)) (.str "aaa") = some (.sh (.bool false)) := by kernel_rfl
  have q2 : neG (.str (nthL 703)) (.str "aab") = some (.sh (.bool false)) := by kernel_rfl
  have c : addG (.list (many.map nDD)) (.list [.str "aaa", .str "aac"]) = some (.tm (.list (sD mor))) := by
    have h : (many.map nDD).length + [PyData.str "aaa", .str "aac"].length ≤ LIM := by
      rw [List.length_map, many_len]; decide
    rw [cat_l h, sD_mor]
  rw [sD_nL] at k1
  unfold X__law_two_signs_hold_5 twE
  generalize sD mor = M2 at *
  generalize nthL 702 = a at *
  generalize nthL 703 = b at *
  generalize many.map nDD = M at *
  generalize Str.ofString "abcdefghijklmnopqrstuvwxyz" = A at *
  exact tw5g k1 q1 c k2 q2
def rest (k : Nat) : List Nat := many.filter fun j => !decide (j = k)
theorem mem_rest {k j : Nat} : j ∈ rest k ↔ j < 702 ∧ j ≠ k := by
  unfold rest
  rw [List.mem_filter, mem_many]; simp
theorem rest_len (k : Nat) : (rest k).length ≤ 702 := by
  have := List.length_filter_le (fun j => !decide (j = k)) many
  rw [many_len] at this; exact this
theorem neN {j k : Nat} (hj : j < 704) (hk : k < 704) : neG (nDD j) (nDD k) = some (.sh (.bool (!decide (j = k)))) := by
  unfold nDD neG
  have a : SeqAt.shaped (.str (nthL j)) = true := (lay_str (n := 1) (nth_ok hj)).sh (by decide)
  have b : SeqAt.shaped (.str (nthL k)) = true := (lay_str (n := 1) (nth_ok hk)).sh (by decide)
  rw [a, b]
  simp only [PyData.eqv]
  by_cases c : j = k
  · subst c; simp
  · have : ¬ nthL j = nthL k := fun e => c (nth_inj hj hk e)
    simp [c, this]
theorem tw6 {d : D} {s2 s3 : Sl} {k : Nat} (hk : k < 702) : X__law_two_signs_hold_6 (twE d s2 s3 (.sh (.list (many.map nDD))) (.sh (nDD k)) .un) = .nx (twE d s2 s3 (.sh (.list (many.map nDD))) (.sh (nDD k)) (.ow (.list ((rest k).map nDD)))) := by
  have it : itF (nmF 4) (twE d s2 s3 (.sh (.list (many.map nDD))) (.sh (nDD k)) .un) = .ok (many.map nDD) (twE d s2 s3 (.sh (.list (many.map nDD))) (.sh (nDD k)) .un) := rfl
  have h := lc_ty nDD (fun j => !decide (j = k)) nDD (v := 7) (e := twE d s2 s3 (.sh (.list (many.map nDD))) (.sh (nDD k)) .un) (tt := boolF (opF neG (nmF 7) (nmF 5))) (el := nmF 7) many [] rfl (fun j hj => by
      have n := neN (many_lt j hj) (k := k) (by omega)
      unfold twE
      generalize many.map nDD = M at *
      generalize nDD j = J at *
      generalize nDD k = K at *
      generalize Str.ofString "abcdefghijklmnopqrstuvwxyz" = A at *
      simp [n]) (fun j hj _ => ⟨.sh (nDD j), rfl, rfl⟩) (by rw [List.length_nil, many_len]; decide)
  rw [List.nil_append] at h
  have y : lcF (itF (nmF 4)) [7] (tgN 7) (boolF (opF neG (nmF 7) (nmF 5))) (nmF 7) (twE d s2 s3 (.sh (.list (many.map nDD))) (.sh (nDD k)) .un) = .ok (.tm (.list ((rest k).map nDD))) (twE d s2 s3 (.sh (.list (many.map nDD))) (.sh (nDD k)) .un) := by
    rw [x_lcF, it, x_bind_ok, h]; rfl
  unfold X__law_two_signs_hold_6
  unfold twE at *
  generalize lcF _ _ _ _ _ = g at *
  generalize many.map nDD = M at *
  generalize (rest k).map nDD = R at *
  generalize Str.ofString "abcdefghijklmnopqrstuvwxyz" = A at *
  simp [y]
theorem tw7 {d : D} {s2 s3 s4 : Sl} {k : Nat} (s : Src d) (hk : k < 702) : ∃ d' : D, X__law_two_signs_hold_7 (twE d s2 s3 s4 (.sh (nDD k)) (.ow (.list ((rest k).map nDD)))) = .rt (.sh (.bool true)) (twE d' s2 s3 s4 (.sh (nDD k)) (.ow (.list ((rest k).map nDD)))) := by
  have rl : ∀ j ∈ rest k, j < 704 := fun j h => by have := (mem_rest.mp h).1; omega
  have tl : ∀ j ∈ (rest k).take 40, j < 704 := fun j h => rl j (List.mem_of_mem_take h)
  have le : ((rest k).take 40).length ≤ 40 := by rw [List.length_take]; omega
  obtain ⟨q, d', hp, s', e⟩ := turned_ok s (r := nL ((rest k).take 40)) (fun x hx => by
    obtain ⟨j, h, rfl⟩ := List.mem_map.mp hx
    exact nth_ok (tl j h)) (by rw [nL_len]; omega)
  have ql := hp.length_eq
  rw [nL_len] at ql
  have rle := rest_len k
  have qm : ∀ x, x ∈ q → x ∈ nL (rest k) := fun x hx => by
    obtain ⟨j, h, rfl⟩ := List.mem_map.mp (hp.mem_iff.mp hx)
    exact List.mem_map.mpr ⟨j, List.mem_of_mem_take h, rfl⟩
  have mem : ∀ x, x ∈ q ++ nL (rest k).reverse ↔ x ∈ nL (rest k) := fun x => by
    rw [List.mem_append]
    have : x ∈ nL (rest k).reverse ↔ x ∈ nL (rest k) := by unfold nL; rw [List.map_reverse, List.mem_reverse]
    rw [this]
    exact ⟨fun h => h.elim (qm x) id, .inr⟩
  have f : Fst (q ++ nL (rest k).reverse) k := ⟨by omega, fun j hj => (mem _).mpr ((mem_nL (by omega) rl).mpr (mem_rest.mpr ⟨by omega, by omega⟩)), fun h => by
    have := (mem_rest.mp ((mem_nL (by omega) rl).mp ((mem _).mp h))).2
    exact this rfl⟩
  have kk := new_ok (.ob (ds := sD (q ++ nL (rest k).reverse))) (fun x hx => nL_let rl x ((mem x).mp hx)) (by rw [List.length_append, nL_len, List.length_reverse]; omega) f
  have sl : sliceG (.list ((rest k).map nDD)) none (some 40) = some (.tm (.list (sD (nL ((rest k).take 40))))) := by
    rw [x_slice_l, show (40 : Int) = ((40 : Nat) : Int) from rfl, cut_to, sD_nL, List.map_take]
  have rv : rev2G (.list ((rest k).map nDD)) = some (.tm (.list (sD (nL (rest k).reverse)))) := by
    rw [x_rev_l, sD_nL, List.map_reverse]
  have c : addG (.list (sD q)) (.list (sD (nL (rest k).reverse))) = some (.tm (.list (sD (q ++ nL (rest k).reverse)))) := by
    have h : (sD q).length + (sD (nL (rest k).reverse)).length ≤ LIM := by
      rw [List.length_map, List.length_map, nL_len, List.length_reverse]; exact Nat.le_trans (show _ ≤ 1000 by omega) (by decide)
    rw [cat_l h]; unfold sD; rw [List.map_append]
  have eq : eqG (.str (nthL k)) (nDD k) = some (.sh (.bool true)) := eq_self (n := 1) (lay_str (nth_ok (by omega))) (by decide)
  refine ⟨d', ?_⟩
  unfold X__law_two_signs_hold_7 twE
  generalize sD (q ++ nL (rest k).reverse) = u at *
  generalize sD (nL (rest k).reverse) = v at *
  generalize sD (nL ((rest k).take 40)) = w at *
  generalize sD q = z at *
  generalize (rest k).map nDD = R at *
  generalize nDD k = K at *
  generalize nthL k = N at *
  generalize Str.ofString "abcdefghijklmnopqrstuvwxyz" = A at *
  simp [sl, e, rv, c, kk, eq, -x_slice_l, -x_rev_l]
theorem two_ok {d : D} (s : Src d) : ∃ d' : D, F__law_two_signs_hold [.ob d] = .ret false (.bool true) [.io d'] := by
  have y0 : X__law_two_signs_hold_0 [.io d, .un, .un, .un, .un, .un, .un, .un, .un] = .nx (twE d .un .un .un .un .un) := rfl
  have y1 : X__law_two_signs_hold_1 (twE d .un .un .un .un .un) = .nx (twE d (.ow (.list [])) .un .un .un .un) := by
    unfold X__law_two_signs_hold_1 twE
    generalize Str.ofString "abcdefghijklmnopqrstuvwxyz" = A
    simp [LIM]
  obtain ⟨s3, y2⟩ := tw2 (d := d)
  have y3 := tw3 (d := d) (s3 := s3)
  obtain ⟨k, d4, hk, s4, y4⟩ := tw4 (s2 := .ow (.list (PJ 26))) (s3 := s3) s
  have y5 := tw5 (d := d4) (s2 := .ow (.list (PJ 26))) (s3 := s3) (s5 := .sh (nDD k))
  have y6 := tw6 (d := d4) (s2 := .ow (.list (PJ 26))) (s3 := s3) hk
  obtain ⟨d7, y7⟩ := tw7 (s2 := .ow (.list (PJ 26))) (s3 := s3) (s4 := .sh (.list (many.map nDD))) s4 hk
  refine ⟨d7, ?_⟩
  exact runF_sh (np := 1) (n := 9) (body := B__law_two_signs_hold) (as := [.ob d]) rfl ((seq_to2 y0).trans ((seq_to2 y1).trans ((seq_to2 y2).trans ((seq_to2 y3).trans ((seq_to2 y4).trans ((seq_to2 y5).trans ((seq_to2 y6).trans y7)))))))
end S00


set_option Elab.async false
set_option linter.all false
set_option maxRecDepth 100000
set_option maxHeartbeats 4000000
namespace S00
open PySem PySem.Spec PyProof.Rows L2 VL
abbrev lawE (S d : D) (s2 s3 s4 s5 s6 s7 : Sl) : En := [.sh S, .ow d, s2, s3, s4, s5, s6, s7, .un]
theorem is_tt : isG false (.bool true) (.bool true) = some (.sh (.bool true)) := by kernel_rfl
theorem is_ft : isG false (.bool false) (.bool true) = some (.sh (.bool false)) := by kernel_rfl
theorem isi_b {b : Bool} : isiG "bool" (.bool b) = some (.sh (.bool true)) := by cases b <;> kernel_rfl
theorem lay_bb {a b : Bool} : Lay 2 (.list [.bool a, .bool b]) := lay_lst (n := 1) fun x hx => by
  simp only [List.mem_cons, List.not_mem_nil, or_false] at hx
  rcases hx with rfl | rfl <;> exact lay_bool
theorem all2 : allC [.list [.bool true, .bool true]] = some (.sh (.bool true)) := by kernel_rfl
theorem val_step {S d v : D} {s2 s3 s4 s5 s7 : Sl} (h : OkV v) (i7 : s7.isIo = false) : ∃ t7 : Sl, t7.isIo = false ∧ X_law_1_4_b (lawE S d s2 s3 s4 s5 (.sh v) s7) = .nx (lawE S d s2 s3 s4 s5 (.sh v) t7) := by
  obtain ⟨a, b, k1, k2, k3, k4⟩ := h
  have y0 : X_law_1_4_0 (lawE S d s2 s3 s4 s5 (.sh v) s7) = .nx (lawE S d s2 s3 s4 s5 (.sh v) (.ow (.list [.bool a, .bool b]))) := by
    simp [X_law_1_4_0, k1, k3, i7, LIM]
  have ne := ne_self (lay_bb (a := a) (b := b)) (by decide)
  have ia : ∀ x : Bool, isG false (.bool x) (.bool true) = some (.sh (.bool x)) := fun x => by cases x <;> kernel_rfl
  have lc : lcF (itF (nmF 7)) [8] (tgN 8) yesF (opF (isG false) (nmF 8) (cF (.bool true))) (lawE S d s2 s3 s4 s5 (.sh v) (.ow (.list [.bool a, .bool b]))) = .ok (.tm (.list [.bool a, .bool b])) (lawE S d s2 s3 s4 s5 (.sh v) (.sh (.list [.bool a, .bool b]))) := by
    have it : itF (nmF 7) (lawE S d s2 s3 s4 s5 (.sh v) (.ow (.list [.bool a, .bool b]))) = .ok [.bool a, .bool b] (lawE S d s2 s3 s4 s5 (.sh v) (.sh (.list [.bool a, .bool b]))) := rfl
    have h := lc_ty (fun x : Bool => PyData.bool x) (fun _ => true) (fun x => PyData.bool x) (v := 8) (e := lawE S d s2 s3 s4 s5 (.sh v) (.sh (.list [.bool a, .bool b]))) (tt := yesF) (el := opF (isG false) (nmF 8) (cF (.bool true))) [a, b] [] rfl (fun _ _ => rfl) (fun x _ _ => ⟨.sh (.bool x), by
      have q := ia x
      simp [q], rfl⟩) (show 2 ≤ LIM by decide)
    rw [x_lcF, it, x_bind_ok]
    exact congrArg (fun o => match o with | some (acc, e2) => Rs.ok (Rv.tm (.list acc)) e2 | none => .no) h
  have y1 : X_law_1_4_1 (lawE S d s2 s3 s4 s5 (.sh v) (.ow (.list [.bool a, .bool b]))) = .nx (lawE S d s2 s3 s4 s5 (.sh v) (.sh (.list [.bool a, .bool b]))) := by
    unfold X_law_1_4_1
    generalize lcF (itF (nmF 7)) [8] (tgN 8) yesF (opF (isG false) (nmF 8) (cF (.bool true))) = g at *
    simp [lc, k2, k4, ne, LIM]
  have lc2 : lcF (itF (nmF 7)) [8] (tgN 8) yesF (isiF "bool" (nmF 8)) (lawE S d s2 s3 s4 s5 (.sh v) (.sh (.list [.bool a, .bool b]))) = .ok (.tm (.list [.bool true, .bool true])) (lawE S d s2 s3 s4 s5 (.sh v) (.sh (.list [.bool a, .bool b]))) := by
    have it : itF (nmF 7) (lawE S d s2 s3 s4 s5 (.sh v) (.sh (.list [.bool a, .bool b]))) = .ok [.bool a, .bool b] (lawE S d s2 s3 s4 s5 (.sh v) (.sh (.list [.bool a, .bool b]))) := rfl
    have h := lc_ty (fun x : Bool => PyData.bool x) (fun _ => true) (fun _ => PyData.bool true) (v := 8) (e := lawE S d s2 s3 s4 s5 (.sh v) (.sh (.list [.bool a, .bool b]))) (tt := yesF) (el := isiF "bool" (nmF 8)) [a, b] [] rfl (fun _ _ => rfl) (fun x _ _ => ⟨.sh (.bool true), by
      have q := isi_b (b := x)
      simp [q], rfl⟩) (show 2 ≤ LIM by decide)
    rw [x_lcF, it, x_bind_ok]
    exact congrArg (fun o => match o with | some (acc, e2) => Rs.ok (Rv.tm (.list acc)) e2 | none => .no) h
  have y2 : X_law_1_4_2 (lawE S d s2 s3 s4 s5 (.sh v) (.sh (.list [.bool a, .bool b]))) = .nx (lawE S d s2 s3 s4 s5 (.sh v) (.sh (.list [.bool a, .bool b]))) := by
    have q := all2
    unfold X_law_1_4_2
    generalize lcF (itF (nmF 7)) [8] (tgN 8) yesF (isiF "bool" (nmF 8)) = g at *
    simp [lc2, q]
  exact ⟨_, rfl, (seq_to2 y0).trans ((seq_to2 y1).trans y2)⟩
theorem vals_go {S d : D} {s2 s3 s4 s5 : Sl} : ∀ (vs : List D) (s6 s7 : Sl), (∀ v ∈ vs, OkV v) → s6.isIo = false → s7.isIo = false → ∃ t6 t7 : Sl, t6.isIo = false ∧ t7.isIo = false ∧ forGo (tgN 6) X_law_1_4_b vs (lawE S d s2 s3 s4 s5 s6 s7) = .nx (lawE S d s2 s3 s4 s5 t6 t7)
  | [], s6, s7, _, i6, i7 => ⟨s6, s7, i6, i7, rfl⟩
  | v :: vs, s6, s7, h, i6, i7 => by
    have tg : tgN 6 v (lawE S d s2 s3 s4 s5 s6 s7) = some (lawE S d s2 s3 s4 s5 (.sh v) s7) := by simp [i6]
    obtain ⟨t7, j7, st⟩ := val_step (S := S) (d := d) (s2 := s2) (s3 := s3) (s4 := s4) (s5 := s5) (h v List.mem_cons_self) i7
    obtain ⟨u6, u7, j6, k7, e⟩ := vals_go vs (.sh v) t7 (fun w hw => h w (List.mem_cons_of_mem _ hw)) rfl j7
    refine ⟨u6, u7, j6, k7, ?_⟩
    rw [forGo, tg]
    dsimp only
    rw [st]
    exact e
def NoIo (e : List Sl) : Prop := ∀ s ∈ e, s.isIo = false
theorem turn_step {S d : D} {s2 s3 s4 s5 s6 s7 : Sl} (s : Src d) (i3 : s3.isIo = false) (i4 : s4.isIo = false) (i5 : s5.isIo = false) (i6 : s6.isIo = false) (i7 : s7.isIo = false) :
    ∃ (d' : D) (t3 t4 t5 t6 t7 : Sl), Src d' ∧ t3.isIo = false ∧ t4.isIo = false ∧ t5.isIo = false ∧ t6.isIo = false ∧ t7.isIo = false ∧ X_law_1_b (lawE S d s2 s3 s4 s5 s6 s7) = .nx (lawE S d' s2 t3 t4 t5 t6 t7) := by
  obtain ⟨x, d1, hx, s1, e1⟩ := text_ok s
  obtain ⟨ds, d2, kv, sd2, e2⟩ := some_kind_ok s1
  obtain ⟨i, d3, hi, sd3, e3⟩ := take_src sd2 2 (by decide) (by decide)
  have q : eqG (.int i) (.int 0) = some (.sh (.bool (decide ((i : Int) = 0)))) := eq_i
  simp at e3
  have y0 : X_law_1_0 (lawE S d s2 s3 s4 s5 s6 s7) = .nx (lawE S d1 s2 (.sh (.str x)) s4 s5 s6 s7) := by simp [X_law_1_0, e1, i3]
  have y1 : X_law_1_1 (lawE S d1 s2 (.sh (.str x)) s4 s5 s6 s7) = .nx (lawE S d2 s2 (.sh (.str x)) (.sh (.tuple ds)) s5 s6 s7) := by simp [X_law_1_1, e2, i4]
  obtain ⟨v, d4, t4, sd4, ov, ht4, y2⟩ : ∃ (v d4 : D) (t4 : Sl), Src d4 ∧ OkV v ∧ (t4 = .sh v ∨ t4 = .ow v) ∧ X_law_1_2 (lawE S d2 s2 (.sh (.str x)) (.sh (.tuple ds)) s5 s6 s7) = .nx (lawE S d4 s2 (.sh (.str x)) t4 s5 s6 s7) := by
    by_cases c : (i : Int) = 0
    · rw [decide_eq_true c] at q
      obtain ⟨b, v, d4, ov, sd4, e4⟩ := bent_ok sd3 kv
      cases b with
      | true => exact ⟨v, d4, .ow v, sd4, ov, .inr rfl, by simp [X_law_1_2, e3, q, e4]⟩
      | false => exact ⟨v, d4, .sh v, sd4, ov, .inl rfl, by simp [X_law_1_2, e3, q, e4]⟩
    · rw [decide_eq_false c] at q
      refine ⟨.tuple ds, d3, .sh (.tuple ds), sd3, ok_tup (by rcases kv.1 with h | h <;> omega) kv.2, .inl rfl, by simp [X_law_1_2, e3, q]⟩
  obtain ⟨o, d5, oo, _, sd5, e5⟩ := strange_ok sd4
  have y3 : X_law_1_3 (lawE S d4 s2 (.sh (.str x)) t4 s5 s6 s7) = .nx (lawE S d5 s2 (.sh (.str x)) t4 (.sh o) s6 s7) := by
    rcases ht4 with rfl | rfl <;> simp [X_law_1_3, e5, i5]
  obtain ⟨t6, t7, j6, j7, e6⟩ := vals_go (S := S) (d := d5) (s2 := s2) (s3 := .sh (.str x)) (s4 := .sh v) (s5 := .sh o) [.str x, v, o] s6 s7 (fun w hw => by
    simp only [List.mem_cons, List.not_mem_nil, or_false] at hw
    rcases hw with rfl | rfl | rfl
    · exact ok_str (by omega)
    · exact ov
    · exact oo) i6 i7
  have y4 : X_law_1_4 (lawE S d5 s2 (.sh (.str x)) t4 (.sh o) s6 s7) = .nx (lawE S d5 s2 (.sh (.str x)) (.sh v) (.sh o) t6 t7) := by
    have it : itF (lstF (consF (nmF 3) (consF (nmF 4) (consF (nmF 5) nilF)))) (lawE S d5 s2 (.sh (.str x)) t4 (.sh o) s6 s7) = .ok [.str x, v, o] (lawE S d5 s2 (.sh (.str x)) (.sh v) (.sh o) s6 s7) := by
      rcases ht4 with rfl | rfl <;> simp [LIM]
    unfold X_law_1_4
    rw [x_forF, it, x_st_ok]
    exact e6
  exact ⟨d5, _, _, _, t6, t7, sd5, rfl, rfl, rfl, j6, j7, (seq_to2 y0).trans ((seq_to2 y1).trans ((seq_to2 y2).trans ((seq_to2 y3).trans y4)))⟩
theorem turns_go {S : D} : ∀ (vs : List D) (d : D) (s2 s3 s4 s5 s6 s7 : Sl), Src d → s2.isIo = false → s3.isIo = false → s4.isIo = false → s5.isIo = false → s6.isIo = false → s7.isIo = false →
    ∃ (d' : D) (t2 t3 t4 t5 t6 t7 : Sl), forGo (tgN 2) X_law_1_b vs (lawE S d s2 s3 s4 s5 s6 s7) = .nx (lawE S d' t2 t3 t4 t5 t6 t7)
  | [], d, s2, s3, s4, s5, s6, s7, _, _, _, _, _, _, _ => ⟨d, s2, s3, s4, s5, s6, s7, rfl⟩
  | v :: vs, d, s2, s3, s4, s5, s6, s7, s, i2, i3, i4, i5, i6, i7 => by
    have tg : tgN 2 v (lawE S d s2 s3 s4 s5 s6 s7) = some (lawE S d (.sh v) s3 s4 s5 s6 s7) := by simp [i2]
    obtain ⟨d', t3, t4, t5, t6, t7, sd, j3, j4, j5, j6, j7, st⟩ := turn_step (S := S) (s2 := .sh v) s i3 i4 i5 i6 i7
    obtain ⟨d2, u2, u3, u4, u5, u6, u7, e⟩ := turns_go vs d' (.sh v) t3 t4 t5 t6 t7 sd rfl j3 j4 j5 j6 j7
    refine ⟨d2, u2, u3, u4, u5, u6, u7, ?_⟩
    rw [forGo, tg]
    dsimp only
    rw [st]
    exact e
theorem law_ok (ns : List Int) (_ : ns.length ≤ 63) : ∃ own ss, F_law [.sh (.list (ns.map PyData.int))] = .ret own (.bool true) ss := by
  obtain ⟨d0, s0, e0⟩ := pool_ok ns 0 (by decide)
  obtain ⟨d1, s1, e1⟩ := pool_ok ns 1 (by decide)
  obtain ⟨d2, s2, e2⟩ := pool_ok ns 2 (by decide)
  obtain ⟨f1, n1⟩ := new_holds_ok s1
  obtain ⟨f2, n2⟩ := two_ok s2
  generalize PyData.list (ns.map PyData.int) = S at *
  have y0 : X_law_0 [.sh S, .un, .un, .un, .un, .un, .un, .un, .un] = .nx (lawE S d0 .un .un .un .un .un .un) := by
    simp at e0
    simp [X_law_0, e0]
  obtain ⟨d', t2, t3, t4, t5, t6, t7, g⟩ := turns_go (S := S) (rangeD 0 16) d0 .un .un .un .un .un .un s0 rfl rfl rfl rfl rfl rfl
  have y1 : X_law_1 (lawE S d0 .un .un .un .un .un .un) = .nx (lawE S d' t2 t3 t4 t5 t6 t7) := by
    have it : rngF (consF (cF (.int (16))) nilF) (lawE S d0 .un .un .un .un .un .un) = .ok (rangeD 0 16) (lawE S d0 .un .un .un .un .un .un) := by
      have r : rngB 16 = true := rngB_lit (by decide)
      simp [r]
    unfold X_law_1
    rw [x_forF, it, x_st_ok]
    exact g
  have y2 : X_law_2 (lawE S d' t2 t3 t4 t5 t6 t7) = .nx (lawE S d' t2 t3 t4 t5 t6 t7) := by
    simp at e1 e2
    simp [X_law_2, e1, e2, n1, n2]
  have y3 : X_law_3 (lawE S d' t2 t3 t4 t5 t6 t7) = .rt (.sh (.bool true)) (lawE S d' t2 t3 t4 t5 t6 t7) := by
    have f : Fst [] 0 := ⟨by decide, fun j hj => absurd hj (Nat.not_lt_zero _), by simp⟩
    have k := new_ok (.ob (ds := sD [])) (fun x hx => by simp at hx) (by simp) f
    have q : eqG (.str (nthL 0)) (.str "a") = some (.sh (.bool true)) := by kernel_rfl
    simp at k
    generalize nthL 0 = N at *
    simp [X_law_3, k, q, LIM]
  exact ⟨false, _, runF_sh (np := 1) (n := 9) (body := B_law) (as := [.sh S]) rfl ((seq_to2 y0).trans ((seq_to2 y1).trans ((seq_to2 y2).trans y3)))⟩
end S00


open PySem PySem.W PyProof.Rows
theorem PySem.Challenge.cw_boxeffects_k00_letters_and_kinds_holds : PySem.Challenge.rw_boxeffects_k00_letters_and_kinds.Holds :=
  S00.holds S00.law_ok
