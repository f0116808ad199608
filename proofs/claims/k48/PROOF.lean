import PyProof.Rows.All
import Wide.All
import OpenK.AllK
import Wide.FinOn
import HandS.ForMost
import HandS.ForExc
import HandS.IsInst
import HandS.Deep
import HandS.Wide
import HandS.Flow
import HandS.TupAny
import HandS.Conv
import HandS.Walk
import HandS.Ends
import HandS.NoneIn
import KE.KUnpackStar
import HandS.Dict
import KE.GoesEnum
import HandS.Iter
import HandS.Style
import HandS.TupMul
import HandS.RevRange
import HandS.DictComp
import PyProof.Rows.StrMeet
import HandS.Defaults
import HandS.Zip
import KE.GoesEnumKw
import HandS.More
import HandS.List
import KE.SortData
import PyProof.WalkInts
import PyProof.StrOps
import PyProof.RangeFor
import PyProof.FactsAll.range_1
import PyProof.SeqRoads2
import PyProof.AutoRange
import HandS.ExcInit
import HandS.ExcField
import KE.KExcIs
import KE.KIsAll
import KE.KExcInit
import PyProof.ExcBaseAll.LookupError
import PyProof.ExcBaseAll.ValueError
import HandS.Words
import HandS.TryOnly
import HandS.TryMany
import HandS.Strs
import PySem.Challenge.RW_ledclocks_k48_whole_any_cover
set_option Elab.async false
set_option linter.all false
set_option maxRecDepth 100000
set_option maxHeartbeats 4000000
/-! DL, part 1: a layer of plain data over HandS. Lists and tuples are values (D); what is changed in place is a cell of a store. -/
namespace DL
open PySem L2

abbrev D := PyData
/-- what a name holds: data, a cell of the store, a thing that is only read (the script), a raised thing that is held -/
inductive W where
  | d (x : D)
  | c (i : Nat)
  | k (xs : List D)
  | x (a : Addr) (d : Option Addr) (fs : List (Str × D))
/-- a cell: a list that may be changed, one that may not be any more, a dict -/
inductive Cell where
  | lst (xs : List D)
  | fz (xs : List D)
  | dk (kvs : List (Key × D))
abbrev Rho := List (Option W)
abbrev Sto := List Cell
inductive Out (α : Type) where
  | ok (a : α) (m : Sto)
  | exc (c : Value) (fs : List (Str × D)) (m : Sto)
  | bad
def Out.bind {α β : Type} : Out α → (α → Sto → Out β) → Out β
  | .ok a m, g => g a m
  | .exc c fs m, _ => .exc c fs m
  | .bad, _ => .bad
def Out.opt {α : Type} (o : Option α) (m : Sto) : Out α := match o with | some a => .ok a m | none => .bad
@[simp] theorem Out.bind_ok {α β : Type} (a : α) (m : Sto) (g : α → Sto → Out β) : (Out.ok a m).bind g = g a m := rfl
@[simp] theorem Out.bind_exc {α β : Type} (c : Value) (fs : List (Str × D)) (m : Sto) (g : α → Sto → Out β) : (Out.exc c fs m).bind g = .exc c fs m := rfl
@[simp] theorem Out.bind_bad {α β : Type} (g : α → Sto → Out β) : (Out.bad).bind g = .bad := rfl
@[simp] theorem Out.opt_some {α : Type} (a : α) (m : Sto) : Out.opt (some a) m = .ok a m := rfl
@[simp] theorem Out.opt_none {α : Type} (m : Sto) : Out.opt (none : Option α) m = .bad := rfl
inductive OutS where
  | nx (r : Rho) (m : Sto)
  | ret (w : W) (m : Sto)
  | brk (r : Rho) (m : Sto)
  | cnt (r : Rho) (m : Sto)
  | exc (c : Value) (fs : List (Str × D)) (r : Rho) (m : Sto)
  | bad

/-! ### what stands for data -/
mutual
inductive Rp (K : PySem.W.Frag) (F : Hp) : V → D → Prop
  | non : Rp K F .non .none
  | bl (b : Bool) : Rp K F (.bl b) (.bool b)
  | int (i : Int) : Rp K F (.int i) (.int i)
  | str (x : Str) : Rp K F (.str x) (.str x)
  | lst {a : Addr} {xs : List V} {ds : List D} : F a = some (.lst xs) → RpA K F xs ds → Rp K F (.ref a) (.list ds)
  | tup {a : Addr} {xs : List V} {ds : List D} : SqT K F a xs → RpA K F xs ds → Rp K F (.ref a) (.tuple ds)
inductive RpA (K : PySem.W.Frag) (F : Hp) : List V → List D → Prop
  | nil : RpA K F [] []
  | cons {v : V} {vs : List V} {d : D} {ds : List D} : Rp K F v d → RpA K F vs ds → RpA K F (v :: vs) (d :: ds)
end
def Ord (F H : Hp) : Prop := ∀ a o, F a = some o → H a = some o
theorem Ord.refl (F : Hp) : Ord F F := fun _ _ h => h
theorem Ord.trans {F G H : Hp} (a : Ord F G) (b : Ord G H) : Ord F H := fun c o h => b c o (a c o h)
section
variable {K : PySem.W.Frag} {F G : Hp}
theorem Ord.rd (h : Ord F G) {a : Addr} {u : HO} (r : Rd F a u) : Rd G a u := by
  rcases r with r | ⟨o, r⟩
  · exact .inl (h _ _ r)
  · exact .inr ⟨o, h _ _ r⟩
theorem Ord.sqT (h : Ord F G) {a : Addr} {xs : List V} (s : SqT K F a xs) : SqT K G a xs := by
  rcases s with s | s
  · exact .inl (h.rd s)
  · exact .inr s
theorem Ord.sqL (h : Ord F G) {a : Addr} {xs : List V} (s : SqL K F a xs) : SqL K G a xs := by
  rcases s with s | s
  · exact .inl (h.rd s)
  · exact .inr s
mutual
theorem Rp.mono (h : Ord F G) : ∀ {v : V} {d : D}, Rp K F v d → Rp K G v d
  | _, _, .non => .non
  | _, _, .bl b => .bl b
  | _, _, .int i => .int i
  | _, _, .str x => .str x
  | _, _, .lst e r => .lst (h _ _ e) (RpA.mono h r)
  | _, _, .tup e r => .tup (h.sqT e) (RpA.mono h r)
theorem RpA.mono (h : Ord F G) : ∀ {v : List V} {d : List D}, RpA K F v d → RpA K G v d
  | _, _, .nil => .nil
  | _, _, .cons a b => .cons (Rp.mono h a) (RpA.mono h b)
end
mutual
theorem Rp.dp : ∀ {v : V} {d : D}, Rp K F v d → Dp K F v d
  | _, _, .non => .non
  | _, _, .bl b => .bl b
  | _, _, .int i => .int i
  | _, _, .str x => .str x
  | _, _, .lst e r => .lst (SqL.of e) (RpA.dp r)
  | _, _, .tup e r => .tup e (RpA.dp r)
theorem RpA.dp : ∀ {v : List V} {d : List D}, RpA K F v d → DpAll K F v d
  | _, _, .nil => .nil
  | _, _, .cons a b => .cons (Rp.dp a) (RpA.dp b)
end
theorem RpA.len : ∀ {vs : List V} {ds : List D}, RpA K F vs ds → vs.length = ds.length
  | _, _, .nil => rfl
  | _, _, .cons _ r => by simp only [List.length_cons]; rw [RpA.len r]
theorem RpA.app : ∀ {vs ws : List V} {ds es : List D}, RpA K F vs ds → RpA K F ws es → RpA K F (vs ++ ws) (ds ++ es)
  | _, _, _, _, .nil, s => s
  | _, _, _, _, .cons a r, s => .cons a (RpA.app r s)
theorem RpA.take : ∀ {vs : List V} {ds : List D} (n : Nat), RpA K F vs ds → RpA K F (vs.take n) (ds.take n)
  | _, _, 0, _ => .nil
  | _, _, _ + 1, .nil => .nil
  | _, _, n + 1, .cons a r => .cons a (RpA.take n r)
theorem RpA.drop : ∀ {vs : List V} {ds : List D} (n : Nat), RpA K F vs ds → RpA K F (vs.drop n) (ds.drop n)
  | _, _, 0, r => r
  | _, _, _ + 1, .nil => .nil
  | _, _, n + 1, .cons _ r => RpA.drop n r
theorem RpA.get : ∀ {vs : List V} {ds : List D} {i : Nat} {d : D}, RpA K F vs ds → ds[i]? = some d → ∃ v, vs[i]? = some v ∧ Rp K F v d
  | _, _, _, _, .nil, e => by simp at e
  | _, _, 0, _, .cons a _, e => by simp at e; subst e; exact ⟨_, rfl, a⟩
  | _, _, i + 1, _, .cons _ r, e => by
    obtain ⟨v, h1, h2⟩ := RpA.get (i := i) r (by simpa using e)
    exact ⟨v, by simpa using h1, h2⟩
theorem RpA.set {v : V} {d : D} (r : Rp K F v d) : ∀ {vs : List V} {ds : List D} (i : Nat), RpA K F vs ds → RpA K F (vs.set i v) (ds.set i d)
  | _, _, _, .nil => .nil
  | _, _, 0, .cons _ t => .cons r t
  | _, _, i + 1, .cons a t => .cons a (RpA.set r i t)
theorem RpA.rev {vs : List V} {ds : List D} (h : RpA K F vs ds) : RpA K F vs.reverse ds.reverse := by
  have go : ∀ {vs : List V} {ds : List D}, RpA K F vs ds → RpA K F vs.reverse ds.reverse := by
    intro vs
    induction vs with
    | nil => intro ds h; cases h; exact .nil
    | cons v vs ih =>
      intro ds h
      cases h with
      | cons a r =>
        rw [List.reverse_cons, List.reverse_cons]
        exact (ih r).app (.cons a .nil)
  exact go h
theorem RpA.dropLast {vs : List V} {ds : List D} (h : RpA K F vs ds) : RpA K F vs.dropLast ds.dropLast := by
  rw [List.dropLast_eq_take, List.dropLast_eq_take, h.len]
  exact h.take _
theorem RpA.eraseIdx : ∀ {vs : List V} {ds : List D} (i : Nat), RpA K F vs ds → RpA K F (vs.eraseIdx i) (ds.eraseIdx i)
  | _, _, _, .nil => .nil
  | _, _, 0, .cons _ t => t
  | _, _, i + 1, .cons a t => .cons a (RpA.eraseIdx i t)
end

/-! ### the store -/
def RpKV (K : PySem.W.Frag) (F : Hp) : List (Key × V) → List (Key × D) → Prop := Paired fun (p : Key × V) (q : Key × D) => p.1 = q.1 ∧ Rp K F p.2 q.2
def CellAt (K : PySem.W.Frag) (F H : Hp) (a : Addr) : Cell → Prop
  | .lst ds => F a = none ∧ ∃ vs, H a = some (.lst vs) ∧ RpA K F vs ds
  | .fz ds => ∃ vs, F a = some (.lst vs) ∧ RpA K F vs ds
  | .dk kvs => F a = none ∧ ∃ ws, H a = some (.dK ws) ∧ RpKV K F ws kvs
structure At (K : PySem.W.Frag) (ad : List Addr) (m : Sto) (F H : Hp) : Prop where
  le : Ord F H
  len : ad.length = m.length
  nd : ad.Nodup
  cel : ∀ (i : Nat) a c, ad[i]? = some a → m[i]? = some c → CellAt K F H a c
/-- how a raised thing's own dict bears its fields -/
def XD (K : PySem.W.Frag) (F : Hp) (d : Option Addr) (fs : List (Str × D)) : Prop :=
  (fs = [] ∧ d = none) ∨ ∃ dx vs, d = some dx ∧ F dx = some (.xd vs) ∧ Paired (fun (p : Str × V) (q : Str × D) => p.1 = q.1 ∧ Rp K F p.2 q.2) vs fs
def RW (K : PySem.W.Frag) (ad : List Addr) (F : Hp) : W → V → Prop
  | .d x, v => Rp K F v x
  | .c i, v => ∃ a, ad[i]? = some a ∧ v = .ref a
  | .k xs, v => ∃ a vs, v = .ref a ∧ SqL K F a vs ∧ RpA K F vs xs
  | .x a d fs, v => v = .ref a ∧ XD K F d fs
def RWs (K : PySem.W.Frag) (ad : List Addr) (F : Hp) : List W → List V → Prop := Paired (RW K ad F)
structure EnvOk (K : PySem.W.Frag) (ad : List Addr) (F : Hp) (r : Rho) (s : St) : Prop where
  len : r.length = s.length
  get : ∀ (i : Nat) w, r[i]? = some (some w) → ∃ v, s[i]? = some (some v) ∧ RW K ad F w v
structure Ext (ad : List Addr) (F H : Hp) (ad' : List Addr) (F' H' : Hp) : Prop where
  pre : ∃ t, ad' = ad ++ t
  fle : Ord F F'
  fr : ∀ a o, H a = some o → a ∉ ad → H' a = some o
  nw : ∀ a, a ∈ ad' → a ∉ ad → H a = none
  gn : ∀ a o, F a = none → H a = some o → a ∉ ad → F' a = none
section
variable {K : PySem.W.Frag} {ad ad1 ad2 : List Addr} {F F1 F2 H H1 H2 : Hp}
theorem Ext.refl : Ext ad F H ad F H := ⟨⟨[], by simp⟩, Ord.refl _, fun _ _ h _ => h, fun _ h n => absurd h n, fun _ _ h _ _ => h⟩
theorem Ext.trans (a : Ext ad F H ad1 F1 H1) (b : Ext ad1 F1 H1 ad2 F2 H2) : Ext ad F H ad2 F2 H2 := by
  obtain ⟨t, e⟩ := a.pre
  obtain ⟨u, e'⟩ := b.pre
  refine ⟨⟨t ++ u, by rw [e', e, List.append_assoc]⟩, a.fle.trans b.fle, fun c o h n => ?_, fun c h n => ?_, fun c o h h2 n => ?_⟩
  · refine b.fr c o (a.fr c o h n) fun z => ?_
    have := a.nw c z n
    rw [h] at this; cases this
  · by_cases z : c ∈ ad1
    · exact a.nw c z n
    · have q := b.nw c h z
      cases e : H c with
      | none => rfl
      | some o => rw [a.fr c o e n] at q; cases q
  · refine b.gn c o (a.gn c o h h2 n) (a.fr c o h2 n) fun z => ?_
    have := a.nw c z n
    rw [h2] at this; cases this
theorem Ext.ix (x : Ext ad F H ad1 F1 H1) {i : Nat} {a : Addr} (h : ad[i]? = some a) : ad1[i]? = some a := by
  obtain ⟨t, e⟩ := x.pre
  rw [e, List.getElem?_append_left (List.getElem?_eq_some_iff.mp h).1]
  exact h
theorem paired_mono {α β : Type} {R S : α → β → Prop} (h : ∀ a b, R a b → S a b) : ∀ {xs : List α} {ys : List β}, Paired R xs ys → Paired S xs ys
  | _, _, .nil => .nil
  | _, _, .cons a b => .cons (h _ _ a) (paired_mono h b)
theorem XD.mono {d : Option Addr} {fs : List (Str × D)} (x : Ord F F1) (h : XD K F d fs) : XD K F1 d fs := by
  rcases h with ⟨h1, h2⟩ | ⟨dx, vs, e, h1, h2⟩
  · exact .inl ⟨h1, h2⟩
  · exact .inr ⟨dx, vs, e, x _ _ h1, paired_mono (fun _ _ q => ⟨q.1, q.2.mono x⟩) h2⟩
theorem RW.ext (x : Ext ad F H ad1 F1 H1) : ∀ {w : W} {v : V}, RW K ad F w v → RW K ad1 F1 w v
  | .d _, _, h => Rp.mono x.fle h
  | .c _, _, ⟨a, h, e⟩ => ⟨a, x.ix h, e⟩
  | .k _, _, ⟨a, vs, e, h, r⟩ => ⟨a, vs, e, x.fle.sqL h, r.mono x.fle⟩
  | .x _ _ _, _, ⟨e, h⟩ => ⟨e, h.mono x.fle⟩
theorem RWs.ext (x : Ext ad F H ad1 F1 H1) : ∀ {w : List W} {v : List V}, RWs K ad F w v → RWs K ad1 F1 w v
  | _, _, .nil => .nil
  | _, _, .cons a b => .cons (a.ext x) (RWs.ext x b)
theorem RWs.len : ∀ {w : List W} {v : List V}, RWs K ad F w v → w.length = v.length
  | _, _, h => Paired.length h
theorem EnvOk.ext (x : Ext ad F H ad1 F1 H1) {r : Rho} {s : St} (h : EnvOk K ad F r s) : EnvOk K ad1 F1 r s :=
  ⟨h.len, fun i w e => let ⟨v, a, b⟩ := h.get i w e; ⟨v, a, b.ext x⟩⟩
theorem EnvOk.set {r : Rho} {s : St} {w : W} {v : V} (h : EnvOk K ad F r s) (i : Nat) (q : RW K ad F w v) : EnvOk K ad F (r.set i (some w)) (s.set i (some v)) := by
  refine ⟨by simp [h.len], fun j w' e => ?_⟩
  by_cases hj : j = i
  · subst hj
    have hl : j < r.length := by
      have := (List.getElem?_eq_some_iff.mp e).1
      simpa using this
    rw [List.getElem?_set_self hl] at e
    cases e
    exact ⟨v, by rw [List.getElem?_set_self (by rw [← h.len]; exact hl)], q⟩
  · rw [List.getElem?_set_ne (Ne.symm hj)] at e
    obtain ⟨v', a, b⟩ := h.get j w' e
    exact ⟨v', by rw [List.getElem?_set_ne (Ne.symm hj)]; exact a, b⟩
theorem RpKV.mono (h : Ord F F1) : ∀ {a : List (Key × V)} {b : List (Key × D)}, RpKV K F a b → RpKV K F1 a b
  | _, _, .nil => .nil
  | _, _, .cons ⟨e, r⟩ t => .cons ⟨e, r.mono h⟩ (RpKV.mono h t)
/-- a new thing that never changes -/
theorem At.new {m : Sto} (h : At K ad m F H) {p : Addr} {o : HO} (hp : H p = none) : At K ad m (upd F p o) (upd H p o) ∧ Ext ad F H ad (upd F p o) (upd H p o) := by
  have fp : F p = none := by
    cases e : F p with
    | none => rfl
    | some u => rw [h.le _ _ e] at hp; cases hp
  have fo : Ord F (upd F p o) := fun a u e => by rw [upd_ne (ne_of_none e fp)]; exact e
  refine ⟨⟨fun a u e => ?_, h.len, h.nd, fun i a c e1 e2 => ?_⟩, ⟨⟨[], by simp⟩, fo, fun a u e n => by rw [upd_ne (ne_of_none e hp)]; exact e, fun a h n => absurd h n, fun a u e e2 n => by rw [upd_ne (ne_of_none e2 hp)]; exact e⟩⟩
  · by_cases q : a = p
    · subst q
      rw [upd_same] at e ⊢
      exact e
    · rw [upd_ne q] at e ⊢
      exact h.le _ _ e
  · have c0 := h.cel i a c e1 e2
    cases c with
    | lst ds =>
      obtain ⟨q, vs, e, r⟩ := c0
      have ne : a ≠ p := ne_of_none e hp
      exact ⟨by rw [upd_ne ne]; exact q, vs, by rw [upd_ne ne]; exact e, r.mono fo⟩
    | fz ds =>
      obtain ⟨vs, e, r⟩ := c0
      exact ⟨vs, fo _ _ e, r.mono fo⟩
    | dk kvs =>
      obtain ⟨q, vs, e, r⟩ := c0
      have ne : a ≠ p := ne_of_none e hp
      exact ⟨by rw [upd_ne ne]; exact q, vs, by rw [upd_ne ne]; exact e, r.mono fo⟩
theorem upd_self {p : Addr} {o : HO} : upd F p o p = some o := upd_same
end
end DL

namespace DL
open PySem L2
section
variable {K : PySem.W.Frag} {ad ad1 ad2 : List Addr} {F F1 F2 H H1 H2 : Hp} {m : Sto}
theorem nodup_ne {l : List Addr} (h : l.Nodup) {i j : Nat} {a b : Addr} (ha : l[i]? = some a) (hb : l[j]? = some b) (n : i ≠ j) : a ≠ b := by
  intro e
  subst e
  obtain ⟨h1, e1⟩ := List.getElem?_eq_some_iff.mp ha
  obtain ⟨h2, e2⟩ := List.getElem?_eq_some_iff.mp hb
  exact n ((List.getElem_inj h).mp (e1.trans e2.symm))
/-- a live cell is written -/
theorem At.write (h : At K ad m F H) {i : Nat} {a : Addr} (ha : ad[i]? = some a) {o : HO} {c : Cell} (fa : F a = none) (hc : CellAt K F (upd H a o) a c) :
    At K ad (m.set i c) F (upd H a o) ∧ Ext ad F H ad F (upd H a o) := by
  refine ⟨⟨fun b u e => ?_, by simp [h.len], h.nd, fun j b c' e1 e2 => ?_⟩, ⟨⟨[], by simp⟩, Ord.refl _, fun b u e n => ?_, fun b h n => absurd h n, fun _ _ h _ _ => h⟩⟩
  · rw [upd_ne (ne_of_none e fa)]; exact h.le _ _ e
  · by_cases hj : j = i
    · subst hj
      rw [ha] at e1; cases e1
      have hl : j < m.length := by
        have := (List.getElem?_eq_some_iff.mp e2).1
        simpa using this
      rw [List.getElem?_set_self hl] at e2
      cases e2
      exact hc
    · rw [List.getElem?_set_ne (Ne.symm hj)] at e2
      have ne : b ≠ a := nodup_ne h.nd e1 ha hj
      have c0 := h.cel j b c' e1 e2
      cases c' with
      | lst ds =>
        obtain ⟨q, vs, e, r⟩ := c0
        exact ⟨q, vs, by rw [upd_ne ne]; exact e, r⟩
      | fz ds => exact c0
      | dk kvs =>
        obtain ⟨q, vs, e, r⟩ := c0
        exact ⟨q, vs, by rw [upd_ne ne]; exact e, r⟩
  · refine (upd_ne fun z => n ?_).trans e
    rw [z]
    exact List.mem_of_getElem? ha
/-- a live list is made data -/
theorem At.freeze (h : At K ad m F H) {i : Nat} {a : Addr} {ds : List D} (ha : ad[i]? = some a) (hm : m[i]? = some (.lst ds)) :
    ∃ vs, H a = some (.lst vs) ∧ RpA K F vs ds ∧ At K ad (m.set i (.fz ds)) (upd F a (.lst vs)) H ∧ Ext ad F H ad (upd F a (.lst vs)) H := by
  obtain ⟨fa, vs, e, r⟩ := h.cel i a _ ha hm
  have fo : Ord F (upd F a (.lst vs)) := fun b u q => by rw [upd_ne (ne_of_none q fa)]; exact q
  refine ⟨vs, e, r, ⟨fun b u q => ?_, by simp [h.len], h.nd, fun j b c' e1 e2 => ?_⟩, ⟨⟨[], by simp⟩, fo, fun b u e n => e, fun b h n => absurd h n, fun b u e e2 n => by rw [upd_ne (show b ≠ a from fun z => n (by rw [z]; exact List.mem_of_getElem? ha))]; exact e⟩⟩
  · by_cases z : b = a
    · subst z; rw [upd_same] at q; cases q; exact e
    · rw [upd_ne z] at q; exact h.le _ _ q
  · by_cases hj : j = i
    · subst hj
      rw [ha] at e1; cases e1
      have hl : j < m.length := (List.getElem?_eq_some_iff.mp hm).1
      rw [List.getElem?_set_self hl] at e2
      cases e2
      exact ⟨vs, upd_same, r.mono fo⟩
    · rw [List.getElem?_set_ne (Ne.symm hj)] at e2
      have ne : b ≠ a := nodup_ne h.nd e1 ha hj
      have c0 := h.cel j b c' e1 e2
      cases c' with
      | lst ds =>
        obtain ⟨q, vs', e', r'⟩ := c0
        exact ⟨by rw [upd_ne ne]; exact q, vs', e', r'.mono fo⟩
      | fz ds =>
        obtain ⟨vs', e', r'⟩ := c0
        exact ⟨vs', fo _ _ e', r'.mono fo⟩
      | dk kvs =>
        obtain ⟨q, vs', e', r'⟩ := c0
        exact ⟨by rw [upd_ne ne]; exact q, vs', e', r'.mono fo⟩
/-- a new object becomes a cell -/
theorem At.alloc (h : At K ad m F H) {p : Addr} {o : HO} {c : Cell} (hp : H p = none) (hc : CellAt K F (upd H p o) p c) (hl : ∀ ds, c ≠ .fz ds) :
    At K (ad ++ [p]) (m ++ [c]) F (upd H p o) ∧ Ext ad F H (ad ++ [p]) F (upd H p o) := by
  have fp : F p = none := by
    cases e : F p with
    | none => rfl
    | some u => rw [h.le _ _ e] at hp; cases hp
  have np : p ∉ ad := fun z => by
    obtain ⟨i, hi⟩ := List.getElem?_of_mem z
    obtain ⟨c', hc'⟩ : ∃ c', m[i]? = some c' := by
      have := (List.getElem?_eq_some_iff.mp hi).1
      exact ⟨m[i]'(by rw [← h.len]; exact this), List.getElem?_eq_getElem _⟩
    have c0 := h.cel i p c' hi hc'
    cases c' with
    | lst ds => obtain ⟨_, vs, e, _⟩ := c0; rw [hp] at e; cases e
    | fz ds => obtain ⟨vs, e, _⟩ := c0; rw [fp] at e; cases e
    | dk kvs => obtain ⟨_, vs, e, _⟩ := c0; rw [hp] at e; cases e
  refine ⟨⟨fun b u e => ?_, by simp [h.len], ?_, fun j b c' e1 e2 => ?_⟩, ⟨⟨[p], rfl⟩, Ord.refl _, fun b u e n => ?_, fun b hb n => ?_, fun _ _ h _ _ => h⟩⟩
  · rw [upd_ne (ne_of_none e fp)]; exact h.le _ _ e
  · rw [List.nodup_append]
    refine ⟨h.nd, by simp, fun a ha b hb z => ?_⟩
    have hb' : b = p := by simpa using hb
    subst hb'
    subst z
    exact np ha
  · by_cases hj : j < ad.length
    · rw [List.getElem?_append_left hj] at e1
      rw [List.getElem?_append_left (by rw [← h.len]; exact hj)] at e2
      have c0 := h.cel j b c' e1 e2
      cases c' with
      | lst ds =>
        obtain ⟨q, vs, e, r⟩ := c0
        exact ⟨q, vs, by rw [upd_ne (ne_of_none e hp)]; exact e, r⟩
      | fz ds => exact c0
      | dk kvs =>
        obtain ⟨q, vs, e, r⟩ := c0
        exact ⟨q, vs, by rw [upd_ne (ne_of_none e hp)]; exact e, r⟩
    · have hlt : j < (ad ++ [p]).length := (List.getElem?_eq_some_iff.mp e1).1
      have hj2 : j = ad.length := by
        rw [List.length_append, List.length_singleton] at hlt
        omega
      subst hj2
      rw [List.getElem?_append_right (Nat.le_refl _), Nat.sub_self] at e1
      rw [List.getElem?_append_right (by rw [h.len]; exact Nat.le_refl _), h.len, Nat.sub_self] at e2
      cases e1
      cases e2
      exact hc
  · rw [upd_ne (ne_of_none e hp)]; exact e
  · rcases List.mem_append.mp hb with z | z
    · exact absurd z n
    · have z' : b = p := by simpa using z
      rw [z']; exact hp

/-! ### outcomes -/
/-- how a raised thing's own dict bears its fields -/
def XR (K : PySem.W.Frag) (F H : Hp) (d : Option Addr) (fs : List (Str × D)) : Prop := XD K F d fs
def Post {α : Type} (K : PySem.W.Frag) (ad : List Addr) (F H : Hp) (o : Out α) (q : α → Sto → List Addr → Hp → Hp → Prop) (x : Value → List (Str × D) → Sto → List Addr → Hp → Hp → Prop) : Prop :=
  match o with
  | .ok a m => ∀ ad' F' H', Ext ad F H ad' F' H' → At K ad' m F' H' → q a m ad' F' H'
  | .exc c fs m => ∀ ad' F' H', Ext ad F H ad' F' H' → At K ad' m F' H' → x c fs m ad' F' H'
  | .bad => False
abbrev XQ := Value → List (Str × D) → Sto → List Addr → Hp → Hp → Prop
theorem Post.ext {α : Type} {o : Out α} {q : α → Sto → List Addr → Hp → Hp → Prop} {x : XQ} (h : Post K ad F H o q x) (e : Ext ad F H ad1 F1 H1) : Post K ad1 F1 H1 o q x := by
  cases o with
  | ok a m => exact fun _ _ _ e' h' => h _ _ _ (e.trans e') h'
  | exc c fs m => exact fun _ _ _ e' h' => h _ _ _ (e.trans e') h'
  | bad => exact h
theorem Post.bind {α β : Type} {o : Out α} {g : α → Sto → Out β} {q : β → Sto → List Addr → Hp → Hp → Prop} {x : XQ} (h : Post K ad F H (o.bind g) q x) :
    Post K ad F H o (fun a m ad' F' H' => Ext ad F H ad' F' H' ∧ At K ad' m F' H' ∧ Post K ad' F' H' (g a m) q x) x := by
  cases o with
  | ok a m => exact fun _ _ _ e' h' => ⟨e', h', Post.ext (o := g a m) h e'⟩
  | exc c fs m => exact h
  | bad => exact h
theorem Post.mono {α : Type} {o : Out α} {q q' : α → Sto → List Addr → Hp → Hp → Prop} {x x' : XQ} (h : Post K ad F H o q x)
    (hq : ∀ a m ad' F' H', Ext ad F H ad' F' H' → At K ad' m F' H' → q a m ad' F' H' → q' a m ad' F' H')
    (hx : ∀ c fs m ad' F' H', Ext ad F H ad' F' H' → At K ad' m F' H' → x c fs m ad' F' H' → x' c fs m ad' F' H') : Post K ad F H o q' x' := by
  cases o with
  | ok a m => exact fun _ _ _ e' h' => hq _ _ _ _ _ e' h' (h _ _ _ e' h')
  | exc c fs m => exact fun _ _ _ e' h' => hx _ _ _ _ _ _ e' h' (h _ _ _ e' h')
  | bad => exact h
def XP (K : PySem.W.Frag) (Wx : WX) (s : St) : XQ := fun c fs m ad' F' H' => ∀ d, XR K F' H' d fs → Wx c d s H'
/-- a reading by data: f says what comes -/
def Lf {α β : Type} (K : PySem.W.Frag) (Wx : WX) (R : List Addr → Hp → α → β → Prop) (f : Rho → Sto → Out α) : St → Hp → (β → Hp → Prop) → Prop := fun s H Q =>
  ∃ r ad m F, EnvOk K ad F r s ∧ At K ad m F H ∧ Post K ad F H (f r m) (fun a _ ad' F' H' => ∀ b, R ad' F' a b → Q b H') (XP K Wx s)
/-- the first of two, then what is left -/
theorem Lf.bind {α β γ δ : Type} {Wx : WX} {R : List Addr → Hp → α → β → Prop} {S : List Addr → Hp → γ → δ → Prop} {f : Rho → Sto → Out α} {g : α → Rho → Sto → Out γ} {s : St} {Q : δ → Hp → Prop} {r : Rho}
    (he : EnvOk K ad F r s) (ha : At K ad m F H) (h : Post K ad F H ((f r m).bind fun a => g a r) (fun c _ ad' F' H' => ∀ d, S ad' F' c d → Q d H') (XP K Wx s)) {Q' : β → Hp → Prop}
    (hq : ∀ a b m1 ad1 F1 H1, Ext ad F H ad1 F1 H1 → EnvOk K ad1 F1 r s → At K ad1 m1 F1 H1 → R ad1 F1 a b → Post K ad1 F1 H1 (g a r m1) (fun c _ ad' F' H' => ∀ d, S ad' F' c d → Q d H') (XP K Wx s) → Q' b H1) :
    Lf K Wx R f s H Q' :=
  ⟨r, ad, m, F, he, ha, h.bind.mono (fun a m1 ad1 F1 H1 e1 a1 q b rb => hq a b m1 ad1 F1 H1 e1 (he.ext e1) a1 rb q.2.2) fun _ _ _ _ _ _ _ _ z => z⟩
abbrev Fe := Rho → Sto → Out W
abbrev Ft := Rho → Sto → Out Bool
abbrev Fa := Rho → Sto → Out (List W)
abbrev LE (K : PySem.W.Frag) (Wx : WX) (f : Fe) : TE := Lf K Wx (RW K) f
abbrev LT (K : PySem.W.Frag) (Wx : WX) (f : Ft) : TT := Lf K Wx (fun _ _ a b => a = b) f
abbrev LA (K : PySem.W.Frag) (Wx : WX) (f : Fa) : TA := Lf K Wx (RWs K) f
abbrev LO (K : PySem.W.Frag) (Wx : WX) (f : Rho → Sto → Out (Option Int)) : TO := Lf K Wx (fun _ _ a b => a = b) f
end

/-! ### judgements -/
abbrev DE (X : Cx) (Wx : WX) (e : Expr) (f : Fe) : Prop := PE X e (LE X.K Wx f)
abbrev DT (X : Cx) (Wx : WX) (e : Expr) (f : Ft) : Prop := PT X e (LT X.K Wx f)
abbrev DW (X : Cx) (Wx : WX) (e : Expr) (f : Ft) : Prop := L2.PW X e (LT X.K Wx f)
abbrev DA (X : Cx) (Wx : WX) (e : List Expr) (f : Fa) : Prop := PA X e (LA X.K Wx f)
theorem pe_weak {X : Cx} {e : Expr} {t t' : TE} (h : PE X e t) (w : ∀ s H Q, t' s H Q → t s H Q) : PE X e t' := ⟨fun p s σ H Q I q => h.run p s σ H Q I (w _ _ _ q)⟩
theorem pt_weak {X : Cx} {e : Expr} {t t' : TT} (h : PT X e t) (w : ∀ s H Q, t' s H Q → t s H Q) : PT X e t' := ⟨fun p s σ H Q I q => h.run p s σ H Q I (w _ _ _ q)⟩
theorem pw_weak {X : Cx} {e : Expr} {t t' : TT} (h : L2.PW X e t) (w : ∀ s H Q, t' s H Q → t s H Q) : L2.PW X e t' := ⟨fun wh p s σ H Q I q => h.run wh p s σ H Q I (w _ _ _ q)⟩
theorem pa_weak {X : Cx} {e : List Expr} {t t' : TA} (h : PA X e t) (w : ∀ s H Q, t' s H Q → t s H Q) : PA X e t' := ⟨fun ps p s σ H Q I q => h.run ps p s σ H Q I (w _ _ _ q)⟩
end DL

namespace DL
open PySem L2
/-! ### reading without changing -/
/-- a list: data, a cell, the script -/
def lstOf : W → Sto → Option (List D)
  | .d (.list xs), _ => some xs
  | .c i, m => match m[i]? with | some (.lst xs) => some xs | some (.fz xs) => some xs | _ => none
  | .k xs, _ => some xs
  | _, _ => none
/-- as data, not the script -/
def datOf : W → Sto → Option D
  | .d x, _ => some x
  | .c i, m => match m[i]? with | some (.lst xs) => some (.list xs) | some (.fz xs) => some (.list xs) | _ => none
  | _, _ => none
section
variable {K : PySem.W.Frag} {ad : List Addr} {F H : Hp} {m : Sto} {w : W} {v : V}
theorem At.lst (h : At K ad m F H) (r : RW K ad F w v) {xs : List D} (e : lstOf w m = some xs) : ∃ a vs, v = .ref a ∧ SqL K H a vs ∧ RpA K F vs xs := by
  unfold lstOf at e
  split at e
  · cases e
    cases r with
    | lst q s => exact ⟨_, _, rfl, SqL.of (h.le _ _ q), s⟩
  · rename_i i m'
    obtain ⟨a, ha, rfl⟩ := r
    split at e
    · rename_i ys hm
      cases e
      obtain ⟨_, vs, e1, s⟩ := h.cel _ _ _ ha hm
      exact ⟨a, vs, rfl, SqL.of e1, s⟩
    · rename_i ys hm
      cases e
      obtain ⟨vs, e1, s⟩ := h.cel _ _ _ ha hm
      exact ⟨a, vs, rfl, SqL.of (h.le _ _ e1), s⟩
    · cases e
  · cases e
    obtain ⟨a, vs, rfl, q, s⟩ := r
    exact ⟨a, vs, rfl, h.le.sqL q, s⟩
  · cases e
/-- a list that is tracked as such -/
theorem At.lst' (h : At K ad m F H) (r : RW K ad F w v) {xs : List D} (e : datOf w m = some (.list xs)) : ∃ a vs, v = .ref a ∧ H a = some (.lst vs) ∧ RpA K F vs xs := by
  unfold datOf at e
  split at e
  · cases e
    cases r with
    | lst q s => exact ⟨_, _, rfl, h.le _ _ q, s⟩
  · rename_i i m'
    obtain ⟨a, ha, rfl⟩ := r
    split at e
    · rename_i ys hm
      cases e
      obtain ⟨_, vs, e1, s⟩ := h.cel _ _ _ ha hm
      exact ⟨a, vs, rfl, e1, s⟩
    · rename_i ys hm
      cases e
      obtain ⟨vs, e1, s⟩ := h.cel _ _ _ ha hm
      exact ⟨a, vs, rfl, h.le _ _ e1, s⟩
    · cases e
  · cases e
theorem At.dp (h : At K ad m F H) (r : RW K ad F w v) {x : D} (e : datOf w m = some x) : Dp K H v x := by
  unfold datOf at e
  split at e
  · cases e
    exact (Rp.mono h.le r).dp
  · rename_i i m'
    obtain ⟨a, ha, rfl⟩ := r
    split at e
    · rename_i ys hm
      cases e
      obtain ⟨_, vs, e1, s⟩ := h.cel _ _ _ ha hm
      exact .lst (SqL.of e1) (s.mono h.le).dp
    · rename_i ys hm
      cases e
      obtain ⟨vs, e1, s⟩ := h.cel _ _ _ ha hm
      exact .lst (SqL.of (h.le _ _ e1)) (s.mono h.le).dp
    · cases e
  · cases e
theorem Rp.tupI {x : D} {ds : List D} (r : Rp K F v (.tuple ds)) : ∃ a vs, v = .ref a ∧ SqT K F a vs ∧ RpA K F vs ds := by
  cases r with
  | tup q s => exact ⟨_, _, rfl, q, s⟩
end

/-! ### names, constants -/
def dVar (i : Nat) : Fe := fun r m => match r[i]? with | some (some w) => .ok w m | _ => .bad
def dC (w : D) : Fe := fun _ m => .ok (.d w) m
section
variable {X : Cx} {Wx : WX} {pos : Pos}
theorem de_var (i : Nat) {x : Str} (h : PE X (.Name x pos) (tVar i)) : DE X Wx (.Name x pos) (dVar i) := by
  refine pe_weak h fun s H Q q => ?_
  obtain ⟨r, ad, m, F, he, ha, hp⟩ := q
  unfold dVar at hp
  cases e : r[i]? with
  | none => rw [e] at hp; exact hp.elim
  | some o =>
    cases o with
    | none => rw [e] at hp; exact hp.elim
    | some w =>
      rw [e] at hp
      obtain ⟨v, h1, h2⟩ := he.get i w e
      exact ⟨v, h1, hp ad F H Ext.refl ha v h2⟩
theorem de_const {e : Expr} {v : V} {x : D} (h : PE X e (tC v)) (r : ∀ F, Rp X.K F v x) : DE X Wx e (dC x) := by
  refine pe_weak h fun s H Q q => ?_
  obtain ⟨r', ad, m, F, he, ha, hp⟩ := q
  exact hp ad F H Ext.refl ha v (r F)
theorem de_int {i j} : DE X Wx (.Constant (.int i) j pos) (dC (.int i)) := de_const pe_int fun _ => .int i
theorem de_bl {b j} : DE X Wx (.Constant (.bool b) j pos) (dC (.bool b)) := de_const pe_bl fun _ => .bl b
theorem de_non {j} : DE X Wx (.Constant .none j pos) (dC .none) := de_const pe_non fun _ => .non
theorem de_str {x j} : DE X Wx (.Constant (.str x) j pos) (dC (.str x)) := de_const pe_str fun _ => .str x
end

/-! ### operations on two things -/
/-- an operation by values that makes at most one new thing and changes none -/
def OpD (K : PySem.W.Frag) (r : R2) (g : W → W → Sto → Option W) : Prop := ∀ (x y z : W) (u v : V) (ad : List Addr) (m : Sto) (F H : Hp) (Q : VK),
  RW K ad F x u → RW K ad F y v → At K ad m F H → g x y m = some z → (∀ b F' H', Ext ad F H ad F' H' → At K ad m F' H' → RW K ad F' z b → Q b H') → r u v H Q
def dBin (g : W → W → Sto → Option W) (fa fb : Fe) : Fe := fun r m => (fa r m).bind fun x m1 => (fb r m1).bind fun y m2 => .opt (g x y m2) m2
theorem bin_w {K : PySem.W.Frag} {Wx : WX} {r : R2} {g : W → W → Sto → Option W} {fa fb : Fe} (hg : OpD K r g) {s : St} {H : Hp} {Q : VK} (h : LE K Wx (dBin g fa fb) s H Q) :
    LE K Wx fa s H fun x H1 => LE K Wx fb s H1 fun y H2 => r x y H2 Q := by
  obtain ⟨ρ, ad, m, F, he, ha, hp⟩ := h
  refine Lf.bind (g := fun x r m1 => (fb r m1).bind fun y m2 => .opt (g x y m2) m2) he ha hp fun x u m1 ad1 F1 H1 e1 he1 ha1 ru h1 => ?_
  refine Lf.bind (g := fun y r m2 => .opt (g x y m2) m2) he1 ha1 h1 fun y v m2 ad2 F2 H2 e2 he2 ha2 rv h2 => ?_
  cases e : g x y m2 with
  | none => rw [e] at h2; exact h2.elim
  | some z =>
    rw [e] at h2
    exact hg x y z u v ad2 m2 F2 H2 Q (ru.ext e2) rv ha2 e fun b F' H' x1 x2 x3 => h2 _ _ _ x1 x2 b x3
section
variable {X : Cx} {Wx : WX} {pos : Pos} {a b : Expr} {fa fb : Fe} {r : R2} {g : W → W → Sto → Option W}
theorem de_bin {op : Operator} (ho : OpR X (binaryOp op) r) (hg : OpD X.K r g) (ha : DE X Wx a fa) (hb : DE X Wx b fb) : DE X Wx (.BinOp a op b pos) (dBin g fa fb) :=
  pe_weak (pe_op ho ha hb) fun _ _ _ q => bin_w hg q
theorem de_cmp {op : CmpOp} (ho : OpR X (compareOp op) r) (hg : OpD X.K r g) (ha : DE X Wx a fa) (hb : DE X Wx b fb) (hm : behindInMarks op b = false) : DE X Wx (.Compare a [op] [b] pos) (dBin g fa fb) :=
  pe_weak (pe_cmpR ho ha hb hm) fun _ _ _ q => bin_w hg q
theorem de_ix (hr : IxR X r) (hg : OpD X.K r g) (ha : DE X Wx a fa) (hb : DE X Wx b fb) (hs : PlainIx b) : DE X Wx (.Subscript a b pos) (dBin g fa fb) :=
  pe_weak (pe_ix hr ha hb hs) fun _ _ _ q => bin_w hg q
end
/-- alternatives -/
theorem OpD.or {K : PySem.W.Frag} {r r' : R2} {g : W → W → Sto → Option W} (h : ∀ (x y z : W) (u v : V) (ad : List Addr) (m : Sto) (F H : Hp) (Q : VK),
    RW K ad F x u → RW K ad F y v → At K ad m F H → g x y m = some z → (∀ b F' H', Ext ad F H ad F' H' → At K ad m F' H' → RW K ad F' z b → Q b H') → r u v H Q ∨ r' u v H Q) : OpD K (fun x y H Q => r x y H Q ∨ r' x y H Q) g := h

def gAdd : W → W → Sto → Option W
  | .d (.int i), .d (.int j), _ => some (.d (.int (i + j)))
  | .d (.str x), .d (.str y), _ => if x.length + y.length ≤ sizeLine then some (.d (.str (x ++ y))) else none
  | .d (.tuple xs), .d (.tuple ys), _ => if xs.length + ys.length ≤ sizeLine then some (.d (.tuple (xs ++ ys))) else none
  | a, b, m => match datOf a m, datOf b m with
    | some (.list xs), some (.list ys) => if xs.length + ys.length ≤ sizeLine then some (.d (.list (xs ++ ys))) else none
    | _, _ => none
theorem nil_of_len {K : PySem.W.Frag} {F : Hp} {vs : List V} {ds : List D} (r : RpA K F vs ds) : vs = [] ↔ ds = [] := by
  constructor
  · intro h; subst h; cases r; rfl
  · intro h; subst h; cases r; rfl
theorem od_add {K : PySem.W.Frag} : OpD K (fun x y H Q => rI0 (fun i j => V.int (i + j)) x y H Q ∨ (∃ i j, x = .str i ∧ y = .str j ∧ i.length + j.length ≤ sizeLine ∧ Q (.str (i ++ j)) H) ∨ rCatA K x y H Q ∨ rCat x y H Q) gAdd := by
  intro x y z u v ad m F H Q rx ry ha e q
  unfold gAdd at e
  split at e
  · cases e
    cases rx; cases ry
    exact .inl ⟨_, _, rfl, rfl, q _ F H Ext.refl ha (.int _)⟩
  · split at e
    · cases e
      cases rx; cases ry
      exact .inr (.inl ⟨_, _, rfl, rfl, by assumption, q _ F H Ext.refl ha (.str _)⟩)
    · cases e
  · rename_i xs ys m'
    split at e
    · rename_i hz
      cases e
      cases rx with
      | tup q1 s1 =>
        cases ry with
        | tup q2 s2 =>
          refine .inr (.inr (.inl ⟨_, _, _, _, rfl, rfl, ha.le.sqT q1, ha.le.sqT q2, by rw [s1.len, s2.len]; exact hz, fun h => ?_, fun h1 h2 => ?_, fun _ _ p hp => ?_⟩))
          · have e1 := (nil_of_len s1).mp h
            subst e1
            exact q _ F H Ext.refl ha (.tup q2 s2)
          · have e1 := (nil_of_len s2).mp h2
            subst e1
            rw [List.append_nil] at q
            exact q _ F H Ext.refl ha (.tup q1 s1)
          · obtain ⟨a1, x1⟩ := ha.new (o := .tup (_ ++ _)) hp
            exact q _ _ _ x1 a1 (.tup (SqT.of upd_same) ((s1.mono x1.fle).app (s2.mono x1.fle)))
    · cases e
  · split at e
    · rename_i xs ys h1 h2
      split at e
      · rename_i hz
        cases e
        obtain ⟨a, vs, rfl, q1, s1⟩ := ha.lst' rx h1
        obtain ⟨b, ws, rfl, q2, s2⟩ := ha.lst' ry h2
        refine .inr (.inr (.inr ⟨_, _, _, _, rfl, rfl, q1, q2, by rw [s1.len, s2.len]; exact hz, fun p hp => ?_⟩))
        obtain ⟨a1, x1⟩ := ha.new (o := .lst (_ ++ _)) hp
        exact q _ _ _ x1 a1 (.lst upd_same ((s1.mono x1.fle).app (s2.mono x1.fle)))
      · cases e
    · cases e
theorem or_add {X : Cx} : OpR X (binaryOp .Add) (fun x y H Q => rI0 (fun i j => V.int (i + j)) x y H Q ∨ (∃ i j, x = .str i ∧ y = .str j ∧ i.length + j.length ≤ sizeLine ∧ Q (.str (i ++ j)) H) ∨ rCatA X.K x y H Q ∨ rCat x y H Q) :=
  op_add.or (op_add_str.or (op_catA.or op_cat))

/-- ints -/
def gI (C : Int → Int → Bool) (f : Int → Int → D) : W → W → Sto → Option W
  | .d (.int i), .d (.int j), _ => if C i j = true then some (.d (f i j)) else none
  | _, _, _ => none
theorem od_I {K : PySem.W.Frag} {C : Int → Int → Prop} {B : Int → Int → Bool} {f : Int → Int → V} {g : Int → Int → D} (hc : ∀ i j, B i j = true → C i j) (hf : ∀ F i j, Rp K F (f i j) (g i j)) : OpD K (rI C f) (gI B g) := by
  intro x y z u v ad m F H Q rx ry ha e q
  unfold gI at e
  split at e
  · split at e
    · cases e
      cases rx; cases ry
      exact ⟨_, _, rfl, rfl, hc _ _ (by assumption), q _ F H Ext.refl ha (hf F _ _)⟩
    · cases e
  · cases e
def gI0 (f : Int → Int → D) : W → W → Sto → Option W
  | .d (.int i), .d (.int j), _ => some (.d (f i j))
  | _, _, _ => none
theorem od_I0 {K : PySem.W.Frag} {f : Int → Int → V} {g : Int → Int → D} (hf : ∀ F i j, Rp K F (f i j) (g i j)) : OpD K (rI0 f) (gI0 g) := by
  intro x y z u v ad m F H Q rx ry ha e q
  unfold gI0 at e
  split at e
  · cases e
    cases rx; cases ry
    exact ⟨_, _, rfl, rfl, q _ F H Ext.refl ha (hf F _ _)⟩
  · cases e
abbrev gSub := gI0 fun i j => .int (i - j)
theorem od_sub {K : PySem.W.Frag} : OpD K (rI0 fun i j => V.int (i - j)) gSub := od_I0 fun _ _ _ => .int _
/-- a product: together below a million bits -/
def okMul (i j : Int) : Bool := decide (i.natAbs.log2 + j.natAbs.log2 < 1000000)
abbrev gMul := gI okMul fun i j => .int (i * j)
theorem od_mul {K : PySem.W.Frag} : OpD K (rI CMulW fun i j => V.int (i * j)) gMul := od_I (fun i j h => of_decide_eq_true (p := i.natAbs.log2 + j.natAbs.log2 < 1000000) h) fun _ _ _ => .int _
/-- a small factor, the other one of any size -/
def okMulS (i j : Int) : Bool := decide (i.natAbs < 2 ^ 63) || decide (j.natAbs < 2 ^ 63)
abbrev gMulS := gI okMulS fun i j => .int (i * j)
theorem od_mulS {K : PySem.W.Frag} : OpD K (rI CMul fun i j => V.int (i * j)) gMulS := od_I (fun i j h => by
  unfold okMulS at h
  rcases Bool.or_eq_true_iff.mp h with h | h
  · have := of_decide_eq_true h
    exact .inl ⟨by omega, by omega⟩
  · have := of_decide_eq_true h
    exact .inr ⟨by omega, by omega⟩) fun _ _ _ => .int _
abbrev gMod := gI (fun _ j => decide (j ≠ 0)) fun i j => .int (i.fmod j)
theorem od_mod {K : PySem.W.Frag} : OpD K (rI (fun _ j => j ≠ 0) fun i j => V.int (i.fmod j)) gMod := od_I (fun _ _ h => of_decide_eq_true h) fun _ _ _ => .int _
/-- a divisor below 2 ^ 9000, not 0 (below 0 only small ones) -/
abbrev gDiv := gI (fun _ j => decide (0 < j) && decide (j.natAbs.log2 < 9000)) fun i j => .int (i / j)
theorem od_div {K : PySem.W.Frag} : OpD K (rI CDivW fun i j => V.int (i / j)) gDiv := od_I (fun _ _ h => by
  have := Bool.and_eq_true_iff.mp h
  exact ⟨of_decide_eq_true this.1, of_decide_eq_true this.2⟩) fun _ _ _ => .int _
abbrev gPow := gI (fun i j => decide (0 ≤ j) && decide (j ≤ 1000) && decide (i.natAbs < 2 ^ 64)) fun i j => .int (i ^ j.toNat)
theorem od_pow {K : PySem.W.Frag} : OpD K (rI CPow fun i j => V.int (i ^ j.toNat)) gPow := od_I (fun _ _ h => by
  have h1 := Bool.and_eq_true_iff.mp h
  have h2 := Bool.and_eq_true_iff.mp h1.1
  have a := of_decide_eq_true h2.1
  have b := of_decide_eq_true h2.2
  exact ⟨a, by omega, of_decide_eq_true h1.2⟩) fun _ _ _ => .int _

/-! ### comparisons -/
abbrev gLt := gI0 fun i j => .bool (decide (i < j))
abbrev gLe := gI0 fun i j => .bool (decide (i ≤ j))
abbrev gGt := gI0 fun i j => .bool (decide (j < i))
abbrev gGe := gI0 fun i j => .bool (decide (j ≤ i))
theorem od_lt {K : PySem.W.Frag} : OpD K (rI0 fun i j => V.bl (decide (i < j))) gLt := od_I0 fun _ _ _ => .bl _
theorem od_le {K : PySem.W.Frag} : OpD K (rI0 fun i j => V.bl (decide (i ≤ j))) gLe := od_I0 fun _ _ _ => .bl _
theorem od_gt {K : PySem.W.Frag} : OpD K (rI0 fun i j => V.bl (decide (j < i))) gGt := od_I0 fun _ _ _ => .bl _
theorem od_ge {K : PySem.W.Frag} : OpD K (rI0 fun i j => V.bl (decide (j ≤ i))) gGe := od_I0 fun _ _ _ => .bl _
def gEq : W → W → Sto → Option W := fun a b m => match datOf a m, datOf b m with
  | some x, some y => if SeqAt.shaped x && SeqAt.shaped y then some (.d (.bool (PyData.eqv x y))) else none
  | _, _ => none
def gNe : W → W → Sto → Option W := fun a b m => match datOf a m, datOf b m with
  | some x, some y => if SeqAt.shaped x && SeqAt.shaped y then some (.d (.bool (!PyData.eqv x y))) else none
  | _, _ => none
theorem od_eq {K : PySem.W.Frag} : OpD K (rEqD K) gEq := by
  intro x y z u v ad m F H Q rx ry ha e q
  unfold gEq at e
  split at e
  · rename_i d1 d2 h1 h2
    split at e
    · rename_i hs
      cases e
      have := Bool.and_eq_true_iff.mp hs
      exact ⟨_, _, ha.dp rx h1, ha.dp ry h2, this.1, this.2, q _ F H Ext.refl ha (.bl _)⟩
    · cases e
  · cases e
theorem od_ne {K : PySem.W.Frag} : OpD K (rNeD K) gNe := by
  intro x y z u v ad m F H Q rx ry ha e q
  unfold gNe at e
  split at e
  · rename_i d1 d2 h1 h2
    split at e
    · rename_i hs
      cases e
      have := Bool.and_eq_true_iff.mp hs
      exact ⟨_, _, ha.dp rx h1, ha.dp ry h2, this.1, this.2, q _ F H Ext.refl ha (.bl _)⟩
    · cases e
  · cases e
/-- texts -/
def gS (f : Str → Str → D) : W → W → Sto → Option W
  | .d (.str i), .d (.str j), _ => some (.d (f i j))
  | _, _, _ => none
theorem od_S {K : PySem.W.Frag} {f : Str → Str → V} {g : Str → Str → D} (hf : ∀ F i j, Rp K F (f i j) (g i j)) : OpD K (fun x y H Q => ∃ i j, x = .str i ∧ y = .str j ∧ Q (f i j) H) (gS g) := by
  intro x y z u v ad m F H Q rx ry ha e q
  unfold gS at e
  split at e
  · cases e
    cases rx; cases ry
    exact ⟨_, _, rfl, rfl, q _ F H Ext.refl ha (hf F _ _)⟩
  · cases e
abbrev gLtS := gS fun i j => .bool (decide (i.cps.toList < j.cps.toList))
theorem od_ltS {K : PySem.W.Frag} : OpD K (fun x y H Q => ∃ i j, x = .str i ∧ y = .str j ∧ Q (.bl (decide (i.cps.toList < j.cps.toList))) H) gLtS := od_S fun _ _ _ => .bl _
/-- None -/
def gIsN : W → W → Sto → Option W
  | .d .none, .d .none, _ => some (.d (.bool true))
  | _, .d .none, _ => some (.d (.bool false))
  | _, _, _ => none
def gNotN : W → W → Sto → Option W
  | .d .none, .d .none, _ => some (.d (.bool false))
  | _, .d .none, _ => some (.d (.bool true))
  | _, _, _ => none
theorem not_none {K : PySem.W.Frag} {ad : List Addr} {F : Hp} {x : W} {u : V} (r : RW K ad F x u) (h : x ≠ .d .none) : u ≠ .non := by
  cases x with
  | d y =>
    intro e
    subst e
    cases r
    exact h rfl
  | c i => obtain ⟨_, _, e⟩ := r; rw [e]; exact fun z => nomatch z
  | k i => obtain ⟨_, _, e, _⟩ := r; rw [e]; exact fun z => nomatch z
  | x _ _ _ => obtain ⟨e, _⟩ := r; rw [e]; exact fun z => nomatch z
theorem od_isN {K : PySem.W.Frag} : OpD K (fun x y H Q => y = .non ∧ Q (.bl (decide (x = .non))) H) gIsN := by
  intro x y z u v ad m F H Q rx ry ha e q
  unfold gIsN at e
  split at e
  · cases e; cases rx; cases ry
    exact ⟨rfl, q _ F H Ext.refl ha (.bl true)⟩
  · rename_i h
    cases e; cases ry
    have hn := not_none rx (fun z => h z)
    refine ⟨rfl, ?_⟩
    rw [decide_eq_false hn]
    exact q _ F H Ext.refl ha (.bl false)
  · cases e
theorem od_notN {K : PySem.W.Frag} : OpD K (fun x y H Q => y = .non ∧ Q (.bl (!decide (x = .non))) H) gNotN := by
  intro x y z u v ad m F H Q rx ry ha e q
  unfold gNotN at e
  split at e
  · cases e; cases rx; cases ry
    exact ⟨rfl, q _ F H Ext.refl ha (.bl false)⟩
  · rename_i h
    cases e; cases ry
    have hn := not_none rx (fun z => h z)
    refine ⟨rfl, ?_⟩
    rw [decide_eq_false hn]
    exact q _ F H Ext.refl ha (.bl true)
  · cases e

/-! ### subscripts -/
def gIx : W → W → Sto → Option W
  | .d (.tuple xs), .d (.int i), _ => (atI xs i).map .d
  | .d (.str x), .d (.int i), _ => if x.length ≤ sizeLine then (atI x.cps.toList i).map fun c => .d (.str ⟨#[c]⟩) else none
  | a, .d (.int i), m => match lstOf a m with | some xs => (atI xs i).map .d | none => none
  | _, _, _ => none
theorem atI_of {K : PySem.W.Frag} {F : Hp} {vs : List V} {ds : List D} (r : RpA K F vs ds) {i : Int} {x : D} (h : atI ds i = some x) : ∃ v, atI vs i = some v ∧ Rp K F v x := by
  unfold atI at h ⊢
  rw [r.len]
  cases e : ixN ds.length i with
  | none => rw [e] at h; cases h
  | some j =>
    rw [e] at h
    exact r.get h
theorem od_ix {K : PySem.W.Frag} : OpD K (rIx K) gIx := by
  intro x y z u v ad m F H Q rx ry ha e q
  unfold gIx at e
  split at e
  · cases ry
    cases rx with
    | tup q1 s1 =>
      obtain ⟨d, hd, rfl⟩ := Option.map_eq_some_iff.mp e
      obtain ⟨w, hw, rw'⟩ := atI_of s1 hd
      exact .inr (.inl ⟨_, _, _, _, rfl, rfl, ha.le.sqT q1, hw, q _ F H Ext.refl ha rw'⟩)
  · cases ry
    cases rx
    split at e
    · obtain ⟨c, hc, rfl⟩ := Option.map_eq_some_iff.mp e
      exact .inr (.inr ⟨_, _, _, rfl, rfl, by assumption, hc, q _ F H Ext.refl ha (.str _)⟩)
    · cases e
  · cases ry
    split at e
    · rename_i xs hl
      obtain ⟨a, vs, rfl, q1, s1⟩ := ha.lst rx hl
      obtain ⟨d, hd, rfl⟩ := Option.map_eq_some_iff.mp e
      obtain ⟨w, hw, rw'⟩ := atI_of s1 hd
      exact .inl ⟨_, _, _, _, rfl, rfl, q1, hw, q _ F H Ext.refl ha rw'⟩
    · cases e
  · cases e
end DL

namespace DL
open PySem L2
/-! ### truth -/
def truD : D → Bool
  | .none => false
  | .bool b => b
  | .int i => i != 0
  | .str x => x.length != 0
  | .list xs => !xs.isEmpty
  | .tuple xs => !xs.isEmpty
  | .dict _ => false
def tru : W → Sto → Option Bool
  | .d (.str x), _ => if x.length ≤ sizeLine then some (x.length != 0) else none
  | .d x, _ => some (truD x)
  | .c i, m => match m[i]? with | some (.lst xs) => some (!xs.isEmpty) | some (.fz xs) => some (!xs.isEmpty) | some (.dk xs) => some (!xs.isEmpty) | _ => none
  | .k xs, _ => some (!xs.isEmpty)
  | .x _ _ _, _ => none
theorem RpA.emp {K : PySem.W.Frag} {F : Hp} {vs : List V} {ds : List D} (r : RpA K F vs ds) : vs.isEmpty = ds.isEmpty := by cases r <;> rfl
theorem RpKV.emp {K : PySem.W.Frag} {F : Hp} : ∀ {a : List (Key × V)} {b : List (Key × D)}, RpKV K F a b → a.isEmpty = b.isEmpty
  | _, _, .nil => rfl
  | _, _, .cons _ _ => rfl
theorem nat_ne_zero (n : Nat) : (n != 0) = ((n : Int) != 0) := by cases n <;> rfl
theorem tru_w {K : PySem.W.Frag} {ad : List Addr} {F H : Hp} {m : Sto} {w : W} {v : V} {b : Bool} (h : At K ad m F H) (r : RW K ad F w v) (e : tru w m = some b) : TruV K v H b := by
  unfold tru at e
  split at e
  · cases r
    split at e
    · cases e
      rename_i x hx
      refine ⟨hx, ?_⟩
      exact nat_ne_zero x.length
    · cases e
  · rename_i x m' hx
    cases e
    cases r with
    | non => rfl
    | bl b => rfl
    | int i => rfl
    | str x => exact absurd rfl (hx x)
    | lst q s => exact .inl ⟨_, SqL.of (h.le _ _ q), by show (!_) = (!_); rw [s.emp]⟩
    | tup q s => exact .inr (.inl ⟨_, h.le.sqT q, by show (!_) = (!_); rw [s.emp]⟩)
  · rename_i i m'
    obtain ⟨a, ha, rfl⟩ := r
    split at e
    · cases e
      obtain ⟨_, vs, e1, s⟩ := h.cel _ _ _ ha (by assumption)
      exact .inl ⟨_, SqL.of e1, by rw [s.emp]⟩
    · cases e
      obtain ⟨vs, e1, s⟩ := h.cel _ _ _ ha (by assumption)
      exact .inl ⟨_, SqL.of (h.le _ _ e1), by rw [s.emp]⟩
    · cases e
      obtain ⟨_, vs, e1, s⟩ := h.cel _ _ _ ha (by assumption)
      exact .inr (.inr ⟨_, e1, by rw [RpKV.emp s]⟩)
    · cases e
  · cases e
    obtain ⟨a, vs, rfl, q, s⟩ := r
    exact .inl ⟨_, h.le.sqL q, by rw [s.emp]⟩
  · cases e

/-! ### tests -/
def dTru (f : Fe) : Ft := fun r m => (f r m).bind fun w m1 => .opt (tru w m1) m1
def dIsT (f : Fe) : Ft := fun r m => (f r m).bind fun w m1 => match w with | .d (.bool b) => .ok b m1 | _ => .bad
def dNotT (f : Ft) : Ft := fun r m => (f r m).bind fun b m1 => .ok (!b) m1
def dAndT (f g : Ft) : Ft := fun r m => (f r m).bind fun b m1 => if b then g r m1 else .ok false m1
def dOrT (f g : Ft) : Ft := fun r m => (f r m).bind fun b m1 => if b then .ok true m1 else g r m1
/-- as values -/
def dAnd (f g : Fe) : Fe := fun r m => (f r m).bind fun w m1 => match tru w m1 with | some true => g r m1 | some false => .ok w m1 | none => .bad
def dOr (f g : Fe) : Fe := fun r m => (f r m).bind fun w m1 => match tru w m1 with | some true => .ok w m1 | some false => g r m1 | none => .bad
def dNot (f : Fe) : Fe := fun r m => (f r m).bind fun w m1 => match tru w m1 with | some b => .ok (.d (.bool (!b))) m1 | none => .bad
def dIf (t : Ft) (f g : Fe) : Fe := fun r m => (t r m).bind fun b m1 => if b then f r m1 else g r m1
def dUn (g : W → Option W) (f : Fe) : Fe := fun r m => (f r m).bind fun w m1 => .opt (g w) m1
def gNeg : W → Option W
  | .d (.int i) => some (.d (.int (-i)))
  | _ => none
section
variable {X : Cx} {Wx : WX} {pos : Pos} {a b c : Expr} {fa fb : Fe} {ta tb : Ft} {rest : List Expr}
theorem dt_tru (ha : DE X Wx a fa) (he : ∀ whole, isTrue a X.env whole = (do let v ← whole; standAt a.pos; holding [v] (truthy v))) : DT X Wx a (dTru fa) := by
  refine pt_weak (pt_truth ha he) fun s H Q q => ?_
  obtain ⟨r, ad, m, F, he, hA, hp⟩ := q
  refine ⟨_, _, _, _, he, hA, Post.mono (Post.bind hp) (fun w m1 ad1 F1 H1 e1 ha1 q0 v rw1 => ?_) fun _ _ _ _ _ _ _ _ z => z⟩
  obtain ⟨_, _, h1⟩ := q0
  have he1 := EnvOk.ext e1 he
  cases e : tru w m1 with
  | none => rw [e] at h1; exact h1.elim
  | some k =>
    rw [e] at h1
    exact ⟨k, tru_w ha1 rw1 e, h1 _ _ _ Ext.refl ha1 k rfl⟩
/-- a test whose value is a truth, by its comparison -/
theorem dt_cmp {op : CmpOp} {r : R2} {g : W → W → Sto → Option W} (ho : OpR X (compareOp op) r) (hg : OpD X.K r g) (ha : DE X Wx a fa) (hb : DE X Wx b fb) (hm : behindInMarks op b = false) : DT X Wx (.Compare a [op] [b] pos) (dIsT (dBin g fa fb)) := by
  refine pt_weak (pt_cmpR ho ha hb hm) fun s H Q q => ?_
  obtain ⟨r, ad, m, F, he, hA, hp⟩ := q
  have h : LE X.K Wx (dBin g fa fb) s H fun x H' => ∃ k, x = .bl k ∧ Q k H' := by
    refine ⟨r, ad, m, F, he, hA, hp.bind.mono (fun w m1 ad1 F1 H1 e1 a1 q b rb => ?_) fun _ _ _ _ _ _ _ _ z => z⟩
    obtain ⟨_, _, q⟩ := q
    split at q
    · cases rb
      exact ⟨_, rfl, q _ _ _ Ext.refl a1 _ rfl⟩
    · exact q.elim
  exact bin_w hg h
theorem dt_not (ha : DT X Wx a ta) : DT X Wx (.UnaryOp .Not a pos) (dNotT ta) := by
  refine pt_weak (pt_not ha) fun s H Q q => ?_
  obtain ⟨r, ad, m, F, he, hA, hp⟩ := q
  refine ⟨_, _, _, _, he, hA, Post.mono (Post.bind hp) (fun w m1 ad1 F1 H1 e1 ha1 q0 v rw1 => ?_) fun _ _ _ _ _ _ _ _ z => z⟩
  obtain ⟨_, _, h1⟩ := q0
  have he1 := EnvOk.ext e1 he
  subst rw1
  exact h1 _ _ _ Ext.refl ha1 _ rfl
theorem dw_and1 (ha : DT X Wx a ta) : DW X Wx (.BoolOp .And [a] pos) ta := pw_and1 ha
theorem dw_or1 (ha : DT X Wx a ta) : DW X Wx (.BoolOp .Or [a] pos) ta := pw_or1 ha
theorem dw_and (ha : DT X Wx a ta) (hb : DW X Wx (.BoolOp .And (b :: rest) pos) tb) : DW X Wx (.BoolOp .And (a :: b :: rest) pos) (dAndT ta tb) := by
  refine pw_weak (pw_and ha hb) fun s H Q q => ?_
  obtain ⟨r, ad, m, F, he, hA, hp⟩ := q
  refine ⟨_, _, _, _, he, hA, Post.mono (Post.bind hp) (fun w m1 ad1 F1 H1 e1 ha1 q0 v rw1 => ?_) fun _ _ _ _ _ _ _ _ z => z⟩
  obtain ⟨_, _, h1⟩ := q0
  have he1 := EnvOk.ext e1 he
  subst rw1
  cases w with
  | true => exact ⟨r, ad1, m1, F1, he1, ha1, h1⟩
  | false => exact h1 _ _ _ Ext.refl ha1 _ rfl
theorem dw_or (ha : DT X Wx a ta) (hb : DW X Wx (.BoolOp .Or (b :: rest) pos) tb) : DW X Wx (.BoolOp .Or (a :: b :: rest) pos) (dOrT ta tb) := by
  refine pw_weak (pw_or ha hb) fun s H Q q => ?_
  obtain ⟨r, ad, m, F, he, hA, hp⟩ := q
  refine ⟨_, _, _, _, he, hA, Post.mono (Post.bind hp) (fun w m1 ad1 F1 H1 e1 ha1 q0 v rw1 => ?_) fun _ _ _ _ _ _ _ _ z => z⟩
  obtain ⟨_, _, h1⟩ := q0
  have he1 := EnvOk.ext e1 he
  subst rw1
  cases w with
  | true => exact h1 _ _ _ Ext.refl ha1 _ rfl
  | false => exact ⟨r, ad1, m1, F1, he1, ha1, h1⟩
theorem DW.pt (h : DW X Wx a ta) : DT X Wx a ta := h.run _ |> fun z => ⟨z⟩
theorem de_one {op} (h : DE X Wx a fa) : DE X Wx (.BoolOp op [a] pos) fa := pe_one h
theorem de_and (ha : DE X Wx a fa) (hb : DE X Wx (.BoolOp .And (b :: rest) pos) fb) : DE X Wx (.BoolOp .And (a :: b :: rest) pos) (dAnd fa fb) := by
  refine pe_weak (pe_andT ha hb) fun s H Q q => ?_
  obtain ⟨r, ad, m, F, he, hA, hp⟩ := q
  refine ⟨_, _, _, _, he, hA, Post.mono (Post.bind hp) (fun w m1 ad1 F1 H1 e1 ha1 q0 v rw1 => ?_) fun _ _ _ _ _ _ _ _ z => z⟩
  obtain ⟨_, _, h1⟩ := q0
  have he1 := EnvOk.ext e1 he
  cases e : tru w m1 with
  | none => rw [e] at h1; exact h1.elim
  | some k =>
    rw [e] at h1
    refine ⟨k, tru_w ha1 rw1 e, ?_⟩
    cases k with
    | true => exact iteT ⟨r, ad1, m1, F1, he1, ha1, h1⟩
    | false => exact iteF (h1 _ _ _ Ext.refl ha1 _ rw1)
theorem de_or (ha : DE X Wx a fa) (hb : DE X Wx (.BoolOp .Or (b :: rest) pos) fb) : DE X Wx (.BoolOp .Or (a :: b :: rest) pos) (dOr fa fb) := by
  refine pe_weak (pe_orT ha hb) fun s H Q q => ?_
  obtain ⟨r, ad, m, F, he, hA, hp⟩ := q
  refine ⟨_, _, _, _, he, hA, Post.mono (Post.bind hp) (fun w m1 ad1 F1 H1 e1 ha1 q0 v rw1 => ?_) fun _ _ _ _ _ _ _ _ z => z⟩
  obtain ⟨_, _, h1⟩ := q0
  have he1 := EnvOk.ext e1 he
  cases e : tru w m1 with
  | none => rw [e] at h1; exact h1.elim
  | some k =>
    rw [e] at h1
    refine ⟨k, tru_w ha1 rw1 e, ?_⟩
    cases k with
    | true => exact iteT (h1 _ _ _ Ext.refl ha1 _ rw1)
    | false => exact iteF ⟨r, ad1, m1, F1, he1, ha1, h1⟩
theorem de_not (ha : DE X Wx a fa) : DE X Wx (.UnaryOp .Not a pos) (dNot fa) := by
  refine pe_weak (pe_notT ha) fun s H Q q => ?_
  obtain ⟨r, ad, m, F, he, hA, hp⟩ := q
  refine ⟨_, _, _, _, he, hA, Post.mono (Post.bind hp) (fun w m1 ad1 F1 H1 e1 ha1 q0 v rw1 => ?_) fun _ _ _ _ _ _ _ _ z => z⟩
  obtain ⟨_, _, h1⟩ := q0
  have he1 := EnvOk.ext e1 he
  cases e : tru w m1 with
  | none => rw [e] at h1; exact h1.elim
  | some k =>
    rw [e] at h1
    exact ⟨k, tru_w ha1 rw1 e, h1 _ _ _ Ext.refl ha1 _ (.bl _)⟩
theorem de_if (hc : DT X Wx c ta) (ha : DE X Wx a fa) (hb : DE X Wx b fb) : DE X Wx (.IfExp c a b pos) (dIf ta fa fb) := by
  refine pe_weak (pe_ifExp hc ha hb) fun s H Q q => ?_
  obtain ⟨r, ad, m, F, he, hA, hp⟩ := q
  refine ⟨_, _, _, _, he, hA, Post.mono (Post.bind hp) (fun w m1 ad1 F1 H1 e1 ha1 q0 v rw1 => ?_) fun _ _ _ _ _ _ _ _ z => z⟩
  obtain ⟨_, _, h1⟩ := q0
  have he1 := EnvOk.ext e1 he
  subst rw1
  cases w with
  | true => exact ⟨r, ad1, m1, F1, he1, ha1, h1⟩
  | false => exact ⟨r, ad1, m1, F1, he1, ha1, h1⟩
theorem de_neg (ha : DE X Wx a fa) : DE X Wx (.UnaryOp .USub a pos) (dUn gNeg fa) := by
  refine pe_weak (pe_un un_neg ha) fun s H Q q => ?_
  obtain ⟨r, ad, m, F, he, hA, hp⟩ := q
  refine ⟨_, _, _, _, he, hA, Post.mono (Post.bind hp) (fun w m1 ad1 F1 H1 e1 ha1 q0 v rw1 => ?_) fun _ _ _ _ _ _ _ _ z => z⟩
  obtain ⟨_, _, h1⟩ := q0
  have he1 := EnvOk.ext e1 he
  cases e : gNeg w with
  | none => rw [e] at h1; exact h1.elim
  | some z =>
    rw [e] at h1
    unfold gNeg at e
    split at e
    · cases e
      cases rw1
      exact ⟨_, rfl, h1 _ _ _ Ext.refl ha1 _ (.int _)⟩
    · cases e
/-- a < b < c -/
def dChain (g g' : W → W → Sto → Option W) (fa fb fc : Fe) : Fe := fun r m => (fa r m).bind fun x m1 => (fb r m1).bind fun y m2 =>
  match g x y m2 with
  | some (.d (.bool true)) => (fc r m2).bind fun z m3 => .opt (g' y z m3) m3
  | some (.d (.bool false)) => .ok (.d (.bool false)) m2
  | _ => .bad
theorem chain_w {K : PySem.W.Frag} {Wx : WX} {fa fb fc : Fe} {r r' : R2} {g g' : W → W → Sto → Option W} (hg : OpD K r g) (hg' : OpD K r' g') {s : L2.St} {H : Hp} {Q : VK} (q : LE K Wx (dChain g g' fa fb fc) s H Q) :
    tChain r r' (LE K Wx fa) (LE K Wx fb) (LE K Wx fc) s H Q := by
  obtain ⟨ρ, ad, m, F, he, hA, hp⟩ := q
  refine ⟨_, _, _, _, he, hA, Post.mono (Post.bind hp) (fun x m1 ad1 F1 H1 e1 ha1 q0 u ru => ?_) fun _ _ _ _ _ _ _ _ z => z⟩
  obtain ⟨_, _, h1⟩ := q0
  have he1 := EnvOk.ext e1 he
  refine ⟨_, _, _, _, he1, ha1, Post.mono (Post.bind h1) (fun y m2 ad2 F2 H2 e2 ha2 q0 v rv => ?_) fun _ _ _ _ _ _ _ _ z => z⟩
  obtain ⟨_, _, h2⟩ := q0
  have he2 := EnvOk.ext e2 he1
  cases e : g x y m2 with
  | none => rw [e] at h2; exact h2.elim
  | some z =>
    rw [e] at h2
    refine hg x y z u v ad2 m2 F2 H2 _ (ru.ext e2) rv ha2 e fun b F' H' x1 x2 x3 => ?_
    cases z with
    | d dd =>
      cases dd with
      | bool k =>
        cases x3
        refine ⟨k, rfl, ?_⟩
        cases k with
        | true =>
          refine iteT ?_
          have h3 := Post.ext h2 x1
          refine Lf.bind (g := fun z r m3 => .opt (g' y z m3) m3) (he2.ext x1) x2 h3 fun z w m3 ad3 F3 H3 e3 he3 ha3 rz h4 => ?_
          cases e' : g' y z m3 with
          | none => rw [e'] at h4; exact h4.elim
          | some zz =>
            rw [e'] at h4
            exact hg' y z zz v w ad3 m3 F3 H3 Q ((rv.ext x1).ext e3) rz ha3 e' fun b' F' H' y1 y2 y3 => h4 _ _ _ y1 y2 b' y3
        | false => exact iteF (h2 _ _ _ x1 x2 _ (.bl false))
      | none => exact h2.elim
      | int _ => exact h2.elim
      | str _ => exact h2.elim
      | list _ => exact h2.elim
      | tuple _ => exact h2.elim
      | dict _ => exact h2.elim
    | c _ => exact h2.elim
    | k _ => exact h2.elim
    | x _ _ _ => exact h2.elim
theorem de_chain {fc : Fe} {op op' : CmpOp} {r r' : R2} {g g' : W → W → Sto → Option W} (ho : OpR X (compareOp op) r) (ho' : OpR X (compareOp op') r') (hg : OpD X.K r g) (hg' : OpD X.K r' g') (ha : DE X Wx a fa) (hb : DE X Wx b fb) (hc : DE X Wx c fc)
    (h : PE X (.Compare a [op, op'] [b, c] pos) (tChain r r' (LE X.K Wx fa) (LE X.K Wx fb) (LE X.K Wx fc))) : DE X Wx (.Compare a [op, op'] [b, c] pos) (dChain g g' fa fb fc) := pe_weak h fun _ _ _ q => chain_w hg hg' q
end

/-! ### arguments, displays -/
def dNil : Fa := fun _ m => .ok [] m
def dCons (f : Fe) (fs : Fa) : Fa := fun r m => (f r m).bind fun w m1 => (fs r m1).bind fun ws m2 => .ok (w :: ws) m2
section
variable {X : Cx} {Wx : WX} {pos : Pos} {e : Expr} {es : List Expr} {f : Fe} {fs : Fa}
theorem da_nil : DA X Wx [] dNil := pa_weak pa_nil fun s H Q q => by
  obtain ⟨r, ad, m, F, he, hA, hp⟩ := q
  exact hp _ _ _ Ext.refl hA [] .nil
theorem da_cons (h : DE X Wx e f) (hs : DA X Wx es fs) (hst : starEach (e :: es) X.env = (false, eval e X.env) :: starEach es X.env := by rfl) : DA X Wx (e :: es) (dCons f fs) := by
  refine pa_weak (pa_cons h hs hst) fun s H Q q => ?_
  obtain ⟨r, ad, m, F, he, hA, hp⟩ := q
  refine ⟨_, _, _, _, he, hA, Post.mono (Post.bind hp) (fun w m1 ad1 F1 H1 e1 ha1 q0 v rw1 => ?_) fun _ _ _ _ _ _ _ _ z => z⟩
  obtain ⟨_, _, h1⟩ := q0
  have he1 := EnvOk.ext e1 he
  refine ⟨_, _, _, _, he1, ha1, Post.mono (Post.bind h1) (fun ws m2 ad2 F2 H2 e2 ha2 q0 vs rw2 => ?_) fun _ _ _ _ _ _ _ _ z => z⟩
  obtain ⟨_, _, h2⟩ := q0
  have he2 := EnvOk.ext e2 he1
  exact h2 _ _ _ Ext.refl ha2 _ (.cons (rw1.ext e2) rw2)
end
/-- made data: what is put into a thing -/
def frz : W → Sto → Option (D × Sto)
  | .d x, m => some (x, m)
  | .c i, m => match m[i]? with | some (.lst xs) => some (.list xs, m.set i (.fz xs)) | some (.fz xs) => some (.list xs, m) | _ => none
  | .k _, _ => none
  | .x _ _ _, _ => none
def frzs : List W → Sto → Option (List D × Sto)
  | [], m => some ([], m)
  | w :: ws, m => match frz w m with
    | some (x, m1) => match frzs ws m1 with | some (xs, m2) => some (x :: xs, m2) | none => none
    | none => none
section
variable {K : PySem.W.Frag} {ad : List Addr}
theorem frz_w {F H : Hp} {m m' : Sto} {w : W} {v : V} {x : D} (h : At K ad m F H) (r : RW K ad F w v) (e : frz w m = some (x, m')) : ∃ F', At K ad m' F' H ∧ Ext ad F H ad F' H ∧ Rp K F' v x := by
  unfold frz at e
  split at e
  · cases e
    exact ⟨F, h, Ext.refl, r⟩
  · rename_i i mm
    obtain ⟨a, ha, rfl⟩ := r
    split at e
    · rename_i xs hm
      cases e
      obtain ⟨vs, e1, s, h', x'⟩ := h.freeze ha hm
      exact ⟨_, h', x', .lst upd_same (s.mono x'.fle)⟩
    · rename_i xs hm
      cases e
      obtain ⟨vs, e1, s⟩ := h.cel _ _ _ ha hm
      exact ⟨F, h, Ext.refl, .lst e1 s⟩
    · cases e
  · cases e
  · cases e
theorem frzs_w : ∀ {ws : List W} {vs : List V} {F H : Hp} {m m' : Sto} {xs : List D}, At K ad m F H → RWs K ad F ws vs → frzs ws m = some (xs, m') → ∃ F', At K ad m' F' H ∧ Ext ad F H ad F' H ∧ RpA K F' vs xs
  | [], _, F, H, m, m', xs, h, r, e => by
    cases r
    simp only [frzs, Option.some.injEq, Prod.mk.injEq] at e
    obtain ⟨rfl, rfl⟩ := e
    exact ⟨F, h, Ext.refl, .nil⟩
  | w :: ws, _, F, H, m, m', xs, h, r, e => by
    cases r with
    | cons r1 r2 =>
      unfold frzs at e
      split at e
      · rename_i x m1 e1
        split at e
        · rename_i ys m2 e2
          cases e
          obtain ⟨F1, h1, x1, p1⟩ := frz_w h r1 e1
          obtain ⟨F2, h2, x2, p2⟩ := frzs_w h1 (RWs.ext x1 r2) e2
          exact ⟨F2, h2, x1.trans x2, .cons (p1.mono x2.fle) p2⟩
        · cases e
      · cases e
end
def dTup (f : Fa) : Fe := fun r m => (f r m).bind fun ws m1 => match frzs ws m1 with | some (ds, m2) => if ds.length ≤ sizeLine then .ok (.d (.tuple ds)) m2 else .bad | none => .bad
section
variable {K : PySem.W.Frag} {ad ad1 : List Addr} {F F1 H H1 : Hp} {m : Sto}
theorem At.out (h : At K ad m F H) {p : Addr} (hp : H p = none) : p ∉ ad ∧ F p = none := by
  have fp : F p = none := by
    cases e : F p with
    | none => rfl
    | some u => rw [h.le _ _ e] at hp; cases hp
  refine ⟨fun z => ?_, fp⟩
  obtain ⟨i, hi⟩ := List.getElem?_of_mem z
  have hl : i < m.length := by rw [← h.len]; exact (List.getElem?_eq_some_iff.mp hi).1
  have c0 := h.cel i p m[i] hi (List.getElem?_eq_getElem hl)
  cases e : m[i] with
  | lst ds => rw [e] at c0; obtain ⟨_, vs, e, _⟩ := c0; rw [hp] at e; cases e
  | fz ds => rw [e] at c0; obtain ⟨vs, e, _⟩ := c0; rw [fp] at e; cases e
  | dk kvs => rw [e] at c0; obtain ⟨_, vs, e, _⟩ := c0; rw [hp] at e; cases e
/-- a new object beside all that is told -/
theorem At.room (h : At K ad m F H) {p : Addr} {o : HO} (hp : H p = none) : At K ad m F (upd H p o) ∧ Ext ad F H ad F (upd H p o) := by
  refine ⟨⟨fun a u e => ?_, h.len, h.nd, fun i a c e1 e2 => ?_⟩, ⟨⟨[], by simp⟩, Ord.refl _, fun a u e n => by rw [upd_ne (ne_of_none e hp)]; exact e, fun a h n => absurd h n, fun _ _ h _ _ => h⟩⟩
  · rw [upd_ne (ne_of_none (h.le _ _ e) hp)]; exact h.le _ _ e
  · have c0 := h.cel i a c e1 e2
    cases c with
    | lst ds =>
      obtain ⟨q, vs, e, r⟩ := c0
      exact ⟨q, vs, by rw [upd_ne (ne_of_none e hp)]; exact e, r⟩
    | fz ds => exact c0
    | dk kvs =>
      obtain ⟨q, vs, e, r⟩ := c0
      exact ⟨q, vs, by rw [upd_ne (ne_of_none e hp)]; exact e, r⟩
/-- such an object is made data -/
theorem At.adopt (h : At K ad1 m F1 H1) (x : Ext ad F H ad1 F1 H1) {p : Addr} {o : HO} (h0 : H p = none) (hp : H1 p = some o) (fp : F1 p = none) (np : p ∉ ad1) : At K ad1 m (upd F1 p o) H1 ∧ Ext ad F H ad1 (upd F1 p o) H1 := by
  have fo : Ord F1 (upd F1 p o) := fun b u q => by rw [upd_ne (ne_of_none q fp)]; exact q
  refine ⟨⟨fun a u e => ?_, h.len, h.nd, fun i a c e1 e2 => ?_⟩, ⟨x.pre, x.fle.trans fo, x.fr, x.nw, fun b u e e2 n => by rw [upd_ne (ne_of_none e2 h0)]; exact x.gn b u e e2 n⟩⟩
  · by_cases z : a = p
    · subst z; rw [upd_same] at e; cases e; exact hp
    · rw [upd_ne z] at e; exact h.le _ _ e
  · have ne : a ≠ p := fun z => np (z ▸ List.mem_of_getElem? e1)
    have c0 := h.cel i a c e1 e2
    cases c with
    | lst ds =>
      obtain ⟨q, vs, e, r⟩ := c0
      exact ⟨by rw [upd_ne ne]; exact q, vs, e, r.mono fo⟩
    | fz ds =>
      obtain ⟨vs, e, r⟩ := c0
      exact ⟨vs, fo _ _ e, r.mono fo⟩
    | dk kvs =>
      obtain ⟨q, vs, e, r⟩ := c0
      exact ⟨by rw [upd_ne ne]; exact q, vs, e, RpKV.mono fo r⟩
/-- .. a cell -/
theorem At.grow (h : At K ad m F H) {p : Addr} {c : Cell} (hc : CellAt K F H p c) (np : p ∉ ad) : At K (ad ++ [p]) (m ++ [c]) F H := by
  refine ⟨h.le, by simp [h.len], ?_, fun j b c' e1 e2 => ?_⟩
  · rw [List.nodup_append]
    refine ⟨h.nd, by simp, fun a ha b hb z => ?_⟩
    have hb' : b = p := by simpa using hb
    subst hb'
    subst z
    exact np ha
  · by_cases hj : j < ad.length
    · rw [List.getElem?_append_left hj] at e1
      rw [List.getElem?_append_left (by rw [← h.len]; exact hj)] at e2
      exact h.cel j b c' e1 e2
    · have hlt : j < (ad ++ [p]).length := (List.getElem?_eq_some_iff.mp e1).1
      have hj2 : j = ad.length := by
        rw [List.length_append, List.length_singleton] at hlt
        omega
      subst hj2
      rw [List.getElem?_append_right (Nat.le_refl _), Nat.sub_self] at e1
      rw [List.getElem?_append_right (by rw [h.len]; exact Nat.le_refl _), h.len, Nat.sub_self] at e2
      cases e1
      cases e2
      exact hc
theorem Ext.grow (x : Ext ad F H ad1 F1 H1) {p : Addr} (hp : H p = none) : Ext ad F H (ad1 ++ [p]) F1 H1 := by
  obtain ⟨t, e⟩ := x.pre
  refine ⟨⟨t ++ [p], by rw [e, List.append_assoc]⟩, x.fle, x.fr, fun a h n => ?_, x.gn⟩
  rcases List.mem_append.mp h with z | z
  · exact x.nw a z n
  · have z' : a = p := by simpa using z
    rw [z']; exact hp
theorem Ext.was (x : Ext ad F H ad1 F1 H1) {p : Addr} (hp : H1 p = none) (np : p ∉ ad1) : H p = none := by
  cases e : H p with
  | none => rfl
  | some u =>
    have n : p ∉ ad := fun z => np (by obtain ⟨t, e⟩ := x.pre; rw [e]; exact List.mem_append_left _ z)
    rw [x.fr _ _ e n] at hp; cases hp
end
/-- a list that is new: its items -/
abbrev Fl := Rho → Sto → Out (List D)
abbrev LF (K : PySem.W.Frag) (Wx : WX) (f : Fl) : TE := fun s H Q =>
  ∃ r ad m F, EnvOk K ad F r s ∧ At K ad m F H ∧ Post K ad F H (f r m) (fun xs _ ad' F' H' => ∀ p vs, H p = none → H' p = some (.lst vs) → F' p = none → p ∉ ad' → RpA K F' vs xs → Q (.ref p) H') (XP K Wx s)
abbrev DF (X : Cx) (Wx : WX) (e : Expr) (f : Fl) : Prop := PE X e (LF X.K Wx f)
/-- as data, as a cell -/
def dData (f : Fl) : Fe := fun r m => (f r m).bind fun xs m1 => .ok (.d (.list xs)) m1
def dCell (f : Fl) : Fe := fun r m => (f r m).bind fun xs m1 => .ok (.c m1.length) (m1 ++ [.lst xs])
def dLst (f : Fa) : Fl := fun r m => (f r m).bind fun ws m1 => match frzs ws m1 with | some (ds, m2) => if ds.length ≤ sizeLine then .ok ds m2 else .bad | none => .bad
section
variable {X : Cx} {Wx : WX} {pos : Pos} {e : Expr} {es : List Expr} {f : Fl} {fs : Fa}
theorem de_data (h : DF X Wx e f) : DE X Wx e (dData f) := by
  refine pe_weak h fun s H Q q => ?_
  obtain ⟨r, ad, m, F, he, hA, hp⟩ := q
  cases e : f r m with
  | bad => rw [show dData f r m = .bad by unfold dData; rw [e]; rfl] at hp; exact hp.elim
  | exc c fs m' =>
    rw [show dData f r m = .exc c fs m' by unfold dData; rw [e]; rfl] at hp
    exact ⟨r, ad, m, F, he, hA, by rw [e]; exact hp⟩
  | ok xs m1 =>
    rw [show dData f r m = .ok (.d (.list xs)) m1 by unfold dData; rw [e]; rfl] at hp
    refine ⟨r, ad, m, F, he, hA, ?_⟩
    rw [e]
    refine fun ad1 F1 H1 e1 a1 p vs h0 hp' fp np rp => ?_
    obtain ⟨a2, x2⟩ := a1.adopt e1 h0 hp' fp np
    exact hp _ _ _ x2 a2 _ (.lst upd_same (rp.mono fun b u q => by rw [upd_ne (ne_of_none q fp)]; exact q))
theorem de_cell (h : DF X Wx e f) : DE X Wx e (dCell f) := by
  refine pe_weak h fun s H Q q => ?_
  obtain ⟨r, ad, m, F, he, hA, hp⟩ := q
  cases e : f r m with
  | bad => rw [show dCell f r m = .bad by unfold dCell; rw [e]; rfl] at hp; exact hp.elim
  | exc c fs m' =>
    rw [show dCell f r m = .exc c fs m' by unfold dCell; rw [e]; rfl] at hp
    exact ⟨r, ad, m, F, he, hA, by rw [e]; exact hp⟩
  | ok xs m1 =>
    rw [show dCell f r m = .ok (.c m1.length) (m1 ++ [.lst xs]) by unfold dCell; rw [e]; rfl] at hp
    refine ⟨r, ad, m, F, he, hA, ?_⟩
    rw [e]
    refine fun ad1 F1 H1 e1 a1 p vs h0 hp' fp np rp => ?_
    have a2 := a1.grow (c := .lst xs) ⟨fp, vs, hp', rp⟩ np
    refine hp _ _ _ (e1.grow h0) a2 _ ⟨p, ?_, rfl⟩
    rw [← a1.len, List.getElem?_append_right (Nat.le_refl _), Nat.sub_self]
    rfl
theorem de_tup {k} (h : DA X Wx es fs) : DE X Wx (.Tuple es k pos) (dTup fs) := by
  refine pe_weak (pe_tup h) fun s H Q q => ?_
  obtain ⟨r, ad, m, F, he, hA, hp⟩ := q
  refine ⟨_, _, _, _, he, hA, Post.mono (Post.bind hp) (fun ws m1 ad1 F1 H1 e1 ha1 q0 vs rw1 => ?_) fun _ _ _ _ _ _ _ _ z => z⟩
  obtain ⟨_, _, h1⟩ := q0
  have he1 := EnvOk.ext e1 he
  cases e : frzs ws m1 with
  | none => rw [e] at h1; exact h1.elim
  | some z =>
    obtain ⟨ds, m2⟩ := z
    rw [e] at h1
    obtain ⟨F2, h2, x2, p2⟩ := frzs_w ha1 rw1 e
    by_cases hz : ds.length ≤ sizeLine
    · simp only [if_pos hz] at h1
      refine ⟨by rw [p2.len]; exact hz, fun p hp' => ?_⟩
      obtain ⟨a3, x3⟩ := h2.new (o := .tup vs) hp'
      exact h1 _ _ _ (x2.trans x3) a3 _ (.tup (SqT.of upd_same) (p2.mono x3.fle))
    · simp only [if_neg hz] at h1
      exact h1.elim
theorem df_lst (h : DA X Wx es fs) : DF X Wx (.List es pos) (dLst fs) := by
  refine pe_weak (pe_lst h) fun s H Q q => ?_
  obtain ⟨r, ad, m, F, he, hA, hp⟩ := q
  refine ⟨r, ad, m, F, he, hA, hp.bind.mono (fun ws m1 ad1 F1 H1 e1 ha1 q vs rw1 => ?_) fun _ _ _ _ _ _ _ _ z => z⟩
  obtain ⟨_, _, h1⟩ := q
  cases e : frzs ws m1 with
  | none => rw [e] at h1; exact h1.elim
  | some z =>
    obtain ⟨ds, m2⟩ := z
    rw [e] at h1
    obtain ⟨F2, h2, x2, p2⟩ := frzs_w ha1 rw1 e
    by_cases hz : ds.length ≤ sizeLine
    · simp only [if_pos hz] at h1
      refine ⟨by rw [p2.len]; exact hz, fun p hp' => ?_⟩
      obtain ⟨a3, x3⟩ := h2.room (o := .lst vs) hp'
      obtain ⟨np, fp⟩ := h2.out hp'
      exact h1 _ _ _ (x2.trans x3) a3 p vs ((e1.trans x2).was hp' np) upd_same fp np p2
    · simp only [if_neg hz] at h1
      exact h1.elim
end
end DL

namespace DL
open PySem L2
/-! ### slices -/
def cutD {α : Type} (xs : List α) (lo hi : Option Int) : List α := (xs.drop (HT.sIx xs.length 0 lo)).take (HT.sIx xs.length xs.length hi - HT.sIx xs.length 0 lo)
theorem cutD_all {α : Type} {xs : List α} {lo hi : Option Int} (h1 : HT.sIx xs.length 0 lo = 0) (h2 : HT.sIx xs.length xs.length hi = xs.length) : cutD xs lo hi = xs := by
  unfold cutD
  rw [h1, h2, List.drop_zero, Nat.sub_zero, List.take_length]
theorem RpA.cut {K : PySem.W.Frag} {F : Hp} {vs : List V} {ds : List D} (r : RpA K F vs ds) (lo hi : Option Int) : RpA K F (cutV vs lo hi) (cutD ds lo hi) := by
  unfold cutV cutD
  rw [r.len]
  exact (r.drop _).take _
def gSl (lo hi : Option Int) : W → Sto → Option W
  | .d (.str x), _ => if x.length ≤ sizeLine then some (.d (.str (cutS x lo hi))) else none
  | .d (.tuple xs), _ => some (.d (.tuple (cutD xs lo hi)))
  | a, m => match lstOf a m with | some xs => some (.d (.list (cutD xs lo hi))) | none => none
def rSl (K : PySem.W.Frag) : V → Option Int → Option Int → Hp → VK → Prop := fun x lo hi H Q => rSlS x lo hi H Q ∨ rSlA K x lo hi H Q ∨ rSlL K x lo hi H Q
theorem sl_all {X : Cx} : SlR X (rSl X.K) := sl_str.or (sl_tupA.or sl_list)
theorem gSl_w {K : PySem.W.Frag} {ad : List Addr} {F H : Hp} {m : Sto} {x z : W} {u : V} {lo hi : Option Int} {Q : VK} (rx : RW K ad F x u) (ha : At K ad m F H) (e : gSl lo hi x m = some z)
    (q : ∀ b F' H', Ext ad F H ad F' H' → At K ad m F' H' → RW K ad F' z b → Q b H') : rSl K u lo hi H Q := by
  unfold gSl at e
  split at e
  · cases rx
    split at e
    · cases e
      exact .inl ⟨_, rfl, by assumption, q _ F H Ext.refl ha (.str _)⟩
    · cases e
  · cases e
    cases rx with
    | tup q1 s1 =>
      refine .inr (.inl ⟨_, _, rfl, ha.le.sqT q1, fun hw => ?_, fun hw p hp => ?_⟩)
      · refine q _ F H Ext.refl ha ?_
        rw [s1.len] at hw
        rw [cutD_all hw.1 hw.2]
        exact .tup q1 s1
      · obtain ⟨a1, x1⟩ := ha.new (o := .tup (cutV _ lo hi)) hp
        exact q _ _ _ x1 a1 (.tup (SqT.of upd_same) ((s1.mono x1.fle).cut lo hi))
  · split at e
    · rename_i xs hl
      cases e
      obtain ⟨a, vs, rfl, q1, s1⟩ := ha.lst rx hl
      refine .inr (.inr ⟨_, _, rfl, q1, fun p hp => ?_⟩)
      obtain ⟨a1, x1⟩ := ha.new (o := .lst (cutV vs lo hi)) hp
      exact q _ _ _ x1 a1 (.lst upd_same ((s1.mono x1.fle).cut lo hi))
    · cases e
abbrev Fo := Rho → Sto → Out (Option Int)
abbrev DO (X : Cx) (Wx : WX) (e : Option Expr) (f : Fo) : Prop := PO X e (LO X.K Wx f)
theorem po_weak {X : Cx} {e : Option Expr} {t t' : TO} (h : PO X e t) (w : ∀ s H Q, t' s H Q → t s H Q) : PO X e t' := ⟨fun p s σ H Q I q => h.run p s σ H Q I (w _ _ _ q)⟩
def oNone : Fo := fun _ m => .ok none m
def oSome (f : Fe) : Fo := fun r m => (f r m).bind fun w m1 => match w with | .d (.int i) => .ok (some i) m1 | _ => .bad
def dSl (f : Fe) (l h : Fo) : Fe := fun r m => (f r m).bind fun w m1 => (l r m1).bind fun lo m2 => (h r m2).bind fun hi m3 => .opt (gSl lo hi w m3) m3
section
variable {X : Cx} {Wx : WX} {pos p2 : Pos} {e : Expr} {lo hi : Option Expr} {f : Fe} {fl fh : Fo}
theorem do_none : DO X Wx none oNone := po_weak po_none fun s H Q q => by
  obtain ⟨r, ad, m, F, he, hA, hp⟩ := q
  exact hp _ _ _ Ext.refl hA _ rfl
theorem do_some (h : DE X Wx e f) : DO X Wx (some e) (oSome f) := po_weak (po_some h) fun s H Q q => by
  obtain ⟨r, ad, m, F, he, hA, hp⟩ := q
  refine ⟨_, _, _, _, he, hA, Post.mono (Post.bind hp) (fun w m1 ad1 F1 H1 e1 ha1 q0 v rw1 => ?_) fun _ _ _ _ _ _ _ _ z => z⟩
  obtain ⟨_, _, h1⟩ := q0
  split at h1
  · cases rw1
    exact ⟨_, rfl, h1 _ _ _ Ext.refl ha1 _ rfl⟩
  · exact h1.elim
theorem de_sl (h : DE X Wx e f) (hl : DO X Wx lo fl) (hh : DO X Wx hi fh) : DE X Wx (.Subscript e (.Slice lo hi none p2) pos) (dSl f fl fh) := by
  refine pe_weak (pe_slice sl_all h hl hh) fun s H Q q => ?_
  obtain ⟨r, ad, m, F, he, hA, hp⟩ := q
  refine ⟨_, _, _, _, he, hA, Post.mono (Post.bind hp) (fun w m1 ad1 F1 H1 e1 ha1 q0 v rw1 => ?_) fun _ _ _ _ _ _ _ _ z => z⟩
  obtain ⟨_, _, h1⟩ := q0
  have he1 := EnvOk.ext e1 he
  refine ⟨_, _, _, _, he1, ha1, Post.mono (Post.bind h1) (fun l m2 ad2 F2 H2 e2 ha2 q0 v2 rw2 => ?_) fun _ _ _ _ _ _ _ _ z => z⟩
  obtain ⟨_, _, h2⟩ := q0
  have he2 := EnvOk.ext e2 he1
  subst rw2
  refine ⟨_, _, _, _, he2, ha2, Post.mono (Post.bind h2) (fun u m3 ad3 F3 H3 e3 ha3 q0 v3 rw3 => ?_) fun _ _ _ _ _ _ _ _ z => z⟩
  obtain ⟨_, _, h3⟩ := q0
  subst rw3
  cases e : gSl l u w m3 with
  | none => rw [e] at h3; exact h3.elim
  | some z =>
    rw [e] at h3
    exact gSl_w ((rw1.ext e2).ext e3) ha3 e fun b F' H' x1 x2 x3 => h3 _ _ _ x1 x2 b x3
end

/-! ### built-in functions -/
def CallD (K : PySem.W.Frag) (r : List V → Hp → VK → Prop) (g : List W → Sto → Option W) : Prop := ∀ (ws : List W) (z : W) (vs : List V) (ad : List Addr) (m : Sto) (F H : Hp) (Q : VK),
  RWs K ad F ws vs → At K ad m F H → g ws m = some z → (∀ b F' H', Ext ad F H ad F' H' → At K ad m F' H' → RW K ad F' z b → Q b H') → r vs H Q
def CallF (K : PySem.W.Frag) (r : List V → Hp → VK → Prop) (g : List W → Sto → Option (List D)) : Prop := ∀ (ws : List W) (zs : List D) (vs : List V) (ad : List Addr) (m : Sto) (F H : Hp) (Q : VK),
  RWs K ad F ws vs → At K ad m F H → g ws m = some zs → (∀ p us, H p = none → RpA K F us zs → Q (.ref p) (upd H p (.lst us))) → r vs H Q
def dCB (g : List W → Sto → Option W) (fs : Fa) : Fe := fun r m => (fs r m).bind fun ws m1 => .opt (g ws m1) m1
def dCF (g : List W → Sto → Option (List D)) (fs : Fa) : Fl := fun r m => (fs r m).bind fun ws m1 => .opt (g ws m1) m1
section
variable {K : PySem.W.Frag} {Wx : WX}
theorem call_w {r : List V → Hp → VK → Prop} {g : List W → Sto → Option W} {fs : Fa} (hg : CallD K r g) {s : St} {H : Hp} {Q : VK} (h : LE K Wx (dCB g fs) s H Q) : LA K Wx fs s H fun vs H1 => r vs H1 Q := by
  obtain ⟨r, ad, m, F, he, hA, hp⟩ := h
  refine ⟨_, _, _, _, he, hA, Post.mono (Post.bind hp) (fun w m1 ad1 F1 H1 e1 ha1 q0 v rw1 => ?_) fun _ _ _ _ _ _ _ _ z => z⟩
  obtain ⟨_, _, h1⟩ := q0
  cases e : g w m1 with
  | none => rw [e] at h1; exact h1.elim
  | some z =>
    rw [e] at h1
    exact hg _ _ _ _ _ _ _ _ rw1 ha1 e fun b F' H' x1 x2 x3 => h1 _ _ _ x1 x2 b x3
theorem callF_w {r : List V → Hp → VK → Prop} {g : List W → Sto → Option (List D)} {fs : Fa} (hg : CallF K r g) {s : St} {H : Hp} {Q : VK} (h : LF K Wx (dCF g fs) s H Q) : LA K Wx fs s H fun vs H1 => r vs H1 Q := by
  obtain ⟨r, ad, m, F, he, hA, hp⟩ := h
  refine ⟨_, _, _, _, he, hA, Post.mono (Post.bind hp) (fun w m1 ad1 F1 H1 e1 ha1 q0 v rw1 => ?_) fun _ _ _ _ _ _ _ _ z => z⟩
  obtain ⟨_, _, h1⟩ := q0
  cases e : g w m1 with
  | none => rw [e] at h1; exact h1.elim
  | some z =>
    rw [e] at h1
    refine hg _ _ _ _ _ _ _ _ rw1 ha1 e fun p us x1 x2 => ?_
    obtain ⟨a3, x3⟩ := ha1.room (o := .lst us) x1
    obtain ⟨np, fp⟩ := ha1.out x1
    exact h1 _ _ _ x3 a3 p us (e1.was x1 np) upd_same fp np x2
end
section
variable {X : Cx} {Wx : WX} {pos p : Pos} {x : Str} {e : Expr} {es : List Expr} {id T : String} {r : List V → Hp → VK → Prop} {fs : Fa}
theorem de_cB {g : List W → Sto → Option W} (hg : CallD X.K r g) (hp : PE X e (tCB r (LA X.K Wx fs))) : DE X Wx e (dCB g fs) := pe_weak hp fun s H Q q => call_w hg q
theorem df_cB {g : List W → Sto → Option (List D)} (hg : CallF X.K r g) (hp : PE X e (tCB r (LA X.K Wx fs))) : DF X Wx e (dCF g fs) := pe_weak hp fun s H Q q => callF_w hg q
end
section
variable {K : PySem.W.Frag}
theorem RWs.one {ad : List Addr} {F : Hp} {w : W} {vs : List V} (r : RWs K ad F [w] vs) : ∃ v, vs = [v] ∧ RW K ad F w v := by
  cases r with
  | cons a b => cases b; exact ⟨_, rfl, a⟩
theorem RWs.two {ad : List Addr} {F : Hp} {w y : W} {vs : List V} (r : RWs K ad F [w, y] vs) : ∃ v u, vs = [v, u] ∧ RW K ad F w v ∧ RW K ad F y u := by
  cases r with
  | cons a b =>
    cases b with
    | cons a' b' => cases b'; exact ⟨_, _, rfl, a, a'⟩
def gLen : List W → Sto → Option W
  | [.d (.str x)], _ => if x.length ≤ sizeLine then some (.d (.int x.length)) else none
  | [.d (.tuple xs)], _ => some (.d (.int xs.length))
  | [a], m => match lstOf a m with | some xs => some (.d (.int xs.length)) | none => none
  | _, _ => none
theorem cd_len : CallD K (fun xs H Q => ∃ x n, xs = [x] ∧ LenV K x H n ∧ Q (.int n) H) gLen := by
  intro ws z vs ad m F H Q r ha e q
  unfold gLen at e
  split at e
  · obtain ⟨v, rfl, r1⟩ := r.one
    cases r1
    split at e
    · cases e
      exact ⟨_, _, rfl, ⟨by assumption, rfl⟩, q _ F H Ext.refl ha (.int _)⟩
    · cases e
  · obtain ⟨v, rfl, r1⟩ := r.one
    cases e
    cases r1 with
    | tup q1 s1 => exact ⟨_, _, rfl, .inr ⟨_, ha.le.sqT q1, rfl⟩, by rw [s1.len]; exact q _ F H Ext.refl ha (.int _)⟩
  · obtain ⟨v, rfl, r1⟩ := r.one
    split at e
    · rename_i xs hl
      cases e
      obtain ⟨a, vs, rfl, q1, s1⟩ := ha.lst r1 hl
      exact ⟨_, _, rfl, .inl ⟨_, q1, rfl⟩, by rw [s1.len]; exact q _ F H Ext.refl ha (.int _)⟩
    · cases e
  · cases e
def gAbs : List W → Sto → Option W
  | [.d (.int i)], _ => some (.d (.int (if i < 0 then -i else i)))
  | _, _ => none
theorem cd_abs : CallD K (fun xs H Q => ∃ i, xs = [.int i] ∧ Q (.int (if i < 0 then -i else i)) H) gAbs := by
  intro ws z vs ad m F H Q r ha e q
  unfold gAbs at e
  split at e
  · obtain ⟨v, rfl, r1⟩ := r.one
    cases e; cases r1
    exact ⟨_, rfl, q _ F H Ext.refl ha (.int _)⟩
  · cases e
def gStr : List W → Sto → Option W
  | [.d (.int i)], _ => if i.natAbs.log2 < 1920 then some (.d (.str (toString i))) else none
  | _, _ => none
theorem cd_str : CallD K (fun xs H Q => ∃ i, xs = [.int i] ∧ i.natAbs.log2 < 1920 ∧ Q (.str (toString i)) H) gStr := by
  intro ws z vs ad m F H Q r ha e q
  unfold gStr at e
  split at e
  · obtain ⟨v, rfl, r1⟩ := r.one
    split at e
    · cases e; cases r1
      exact ⟨_, rfl, by assumption, q _ F H Ext.refl ha (.str _)⟩
    · cases e
  · cases e
def gInt : List W → Sto → Option W
  | [.d (.int i)], _ => some (.d (.int i))
  | [.d (.bool b)], _ => some (.d (.int (if b then 1 else 0)))
  | _, _ => none
theorem cd_int : CallD K (fun xs H Q => (∃ i, xs = [.int i] ∧ Q (.int i) H) ∨ ∃ k, xs = [.bl k] ∧ Q (.int (if k then 1 else 0)) H) gInt := by
  intro ws z vs ad m F H Q r ha e q
  unfold gInt at e
  split at e
  · obtain ⟨v, rfl, r1⟩ := r.one
    cases e; cases r1
    exact .inl ⟨_, rfl, q _ F H Ext.refl ha (.int _)⟩
  · obtain ⟨v, rfl, r1⟩ := r.one
    cases e; cases r1
    exact .inr ⟨_, rfl, q _ F H Ext.refl ha (.int _)⟩
  · cases e
def gTuple : List W → Sto → Option W
  | [.d (.tuple xs)], _ => some (.d (.tuple xs))
  | [a], m => match lstOf a m with | some xs => some (.d (.tuple xs)) | none => none
  | _, _ => none
theorem cd_tuple : CallD K (fun xs H Q => ∃ p ys, xs = [.ref p] ∧ ((SqL K H p ys ∧ ∀ l, H l = none → Q (.ref l) (upd H l (.tup ys))) ∨ (SqT K H p ys ∧ Q (.ref p) H))) gTuple := by
  intro ws z vs ad m F H Q r ha e q
  unfold gTuple at e
  split at e
  · obtain ⟨v, rfl, r1⟩ := r.one
    cases e
    cases r1 with
    | tup q1 s1 => exact ⟨_, _, rfl, .inr ⟨ha.le.sqT q1, q _ F H Ext.refl ha (.tup q1 s1)⟩⟩
  · obtain ⟨v, rfl, r1⟩ := r.one
    split at e
    · rename_i xs hl
      cases e
      obtain ⟨a, vs, rfl, q1, s1⟩ := ha.lst r1 hl
      refine ⟨_, _, rfl, .inl ⟨q1, fun p hp => ?_⟩⟩
      obtain ⟨a1, x1⟩ := ha.new (o := .tup vs) hp
      exact q _ _ _ x1 a1 (.tup (SqT.of upd_same) (s1.mono x1.fle))
    · cases e
  · cases e
/-- the items of a list or a tuple -/
def seqOf : W → Sto → Option (List D)
  | .d (.tuple xs), _ => some xs
  | a, m => lstOf a m
theorem At.seq {ad : List Addr} {m : Sto} {F H : Hp} {w : W} {v : V} (h : At K ad m F H) (r : RW K ad F w v) {xs : List D} (e : seqOf w m = some xs) : ∃ a vs, v = .ref a ∧ (SqL K H a vs ∨ SqT K H a vs) ∧ RpA K F vs xs := by
  unfold seqOf at e
  split at e
  · cases e
    cases r with
    | tup q1 s1 => exact ⟨_, _, rfl, .inr (h.le.sqT q1), s1⟩
  · obtain ⟨a, vs, e1, e2, e3⟩ := h.lst r e
    exact ⟨a, vs, e1, .inl e2, e3⟩
def gList : List W → Sto → Option (List D)
  | [a], m => seqOf a m
  | _, _ => none
theorem cf_list : CallF K (fun xs H Q => ∃ p ys, xs = [.ref p] ∧ (SqL K H p ys ∨ SqT K H p ys) ∧ ∀ l, H l = none → Q (.ref l) (upd H l (.lst ys))) gList := by
  intro ws z vs ad m F H Q r ha e q
  unfold gList at e
  split at e
  · obtain ⟨v, rfl, r1⟩ := r.one
    obtain ⟨a, vs, rfl, q1, s1⟩ := ha.seq r1 e
    exact ⟨_, _, rfl, q1, fun p hp => q p vs hp s1⟩
  · cases e
def allB : List D → Option (List Bool)
  | [] => some []
  | .bool b :: r => (allB r).map (b :: ·)
  | _ :: _ => none
theorem allB_w {F : Hp} : ∀ {vs : List V} {ds : List D} {bs : List Bool}, RpA K F vs ds → allB ds = some bs → vs = bs.map V.bl
  | _, _, bs, .nil, e => by cases e; rfl
  | _, _, bs, .cons (d := d) a r, e => by
    cases d with
    | bool b =>
      cases a
      obtain ⟨cs, h1, rfl⟩ := Option.map_eq_some_iff.mp e
      rw [allB_w r h1]
      rfl
    | _ => cases e
def gAll : List W → Sto → Option W
  | [a], m => match lstOf a m with | some xs => (allB xs).map fun bs => .d (.bool (bs.all id)) | none => none
  | _, _ => none
def gAny : List W → Sto → Option W
  | [a], m => match lstOf a m with | some xs => (allB xs).map fun bs => .d (.bool (bs.any id)) | none => none
  | _, _ => none
theorem cd_all : CallD K (rAll K) gAll := by
  intro ws z vs ad m F H Q r ha e q
  unfold gAll at e
  split at e
  · obtain ⟨v, rfl, r1⟩ := r.one
    split at e
    · rename_i xs hl
      obtain ⟨bs, h1, rfl⟩ := Option.map_eq_some_iff.mp e
      obtain ⟨a, vs, rfl, q1, s1⟩ := ha.lst r1 hl
      exact ⟨_, bs, rfl, allB_w s1 h1 ▸ q1, q _ F H Ext.refl ha (.bl _)⟩
    · cases e
  · cases e
theorem cd_any : CallD K (rAny K) gAny := by
  intro ws z vs ad m F H Q r ha e q
  unfold gAny at e
  split at e
  · obtain ⟨v, rfl, r1⟩ := r.one
    split at e
    · rename_i xs hl
      obtain ⟨bs, h1, rfl⟩ := Option.map_eq_some_iff.mp e
      obtain ⟨a, vs, rfl, q1, s1⟩ := ha.lst r1 hl
      exact ⟨_, bs, rfl, allB_w s1 h1 ▸ q1, q _ F H Ext.refl ha (.bl _)⟩
    · cases e
  · cases e
end

/-! ### isinstance -/
def tyN : D → String
  | .none => "NoneType"
  | .bool _ => "bool"
  | .int _ => "int"
  | .str _ => "str"
  | .list _ => "list"
  | .tuple _ => "tuple"
  | .dict _ => "dict"
def isT (T : String) (x : D) : Bool := kitB (tyN x) T == some true
def dIsi (T : String) (f : Fe) : Fe := fun r m => (f r m).bind fun w m1 => match datOf w m1 with | some x => .ok (.d (.bool (isT T x))) m1 | none => .bad
def kits (T : String) : Bool := ["NoneType", "bool", "int", "str", "list", "tuple", "dict"].all fun n => (kitB n T).isSome
theorem kits_at {T : String} (h : kits T = true) (x : D) : kitB (tyN x) T = some (isT T x) := by
  have h1 : (kitB (tyN x) T).isSome = true := by
    have := List.all_eq_true.mp h
    cases x <;> exact this _ (by simp [tyN])
  unfold isT
  cases e : kitB (tyN x) T with
  | none => rw [e] at h1; cases h1
  | some b => cases b <;> rfl
theorem dp_ty {K : PySem.W.Frag} {ad : List Addr} {m : Sto} {F H : Hp} {w : W} {v : V} (h : At K ad m F H) (r : RW K ad F w v) {x : D} (e : datOf w m = some x) : TyX K H v (.type (tyN x)) := by
  unfold datOf at e
  split at e
  · cases e
    cases r with
    | non => exact .base .non
    | bl b => exact .base (.bl b)
    | int i => exact .base (.int i)
    | str i => exact .base (.str i)
    | lst q s => exact .base (.lst (h.le _ _ q))
    | tup q s =>
      rcases q with (q | ⟨o, q⟩) | ⟨o, its, n, q, c, _⟩
      · exact .base (.tup (h.le _ _ q))
      · exact .fTuple (h.le _ _ q)
      · exact .kTuple q c
  · obtain ⟨a, ha, rfl⟩ := r
    split at e
    · cases e
      obtain ⟨_, vs, e1, s⟩ := h.cel _ _ _ ha (by assumption)
      exact .base (.lst e1)
    · cases e
      obtain ⟨vs, e1, s⟩ := h.cel _ _ _ ha (by assumption)
      exact .base (.lst (h.le _ _ e1))
    · cases e
  · cases e
theorem de_isi {X : Cx} {Wx : WX} {pos p p2 : Pos} {e : Expr} {T : Str} {Tn : String} {f : Fe} (hk : kits Tn = true) (he : DE X Wx e f) (ht : PE X (.Name T p2) (tC (.ty Tn)))
    (hc : PA X [e, .Name T p2] (tCons (LE X.K Wx f) (tCons (tC (.ty Tn)) tNil)) → PE X (.Call (.Name "isinstance" p) [e, .Name T p2] [] pos) (tCB (rIsi X.K) (tCons (LE X.K Wx f) (tCons (tC (.ty Tn)) tNil))))
    (hs : starEach (e :: [.Name T p2]) X.env = (false, eval e X.env) :: starEach [.Name T p2] X.env := by rfl) (hs2 : starEach (.Name T p2 :: []) X.env = (false, eval (.Name T p2) X.env) :: starEach [] X.env := by rfl) :
    DE X Wx (.Call (.Name "isinstance" p) [e, .Name T p2] [] pos) (dIsi Tn f) := by
  refine pe_weak (hc (pa_cons he (pa_cons ht pa_nil hs2) hs)) fun s H Q q => ?_
  obtain ⟨r, ad, m, F, he, hA, hp⟩ := q
  refine ⟨_, _, _, _, he, hA, Post.mono (Post.bind hp) (fun w m1 ad1 F1 H1 e1 ha1 q0 v rw1 => ?_) fun _ _ _ _ _ _ _ _ z => z⟩
  obtain ⟨_, _, h1⟩ := q0
  cases e : datOf w m1 with
  | none => rw [e] at h1; exact h1.elim
  | some x =>
    rw [e] at h1
    exact ⟨_, _, _, _, _, rfl, .ty _, dp_ty ha1 rw1 e, kit_ty (kits_at hk x), h1 _ _ _ Ext.refl ha1 _ (.bl _)⟩
theorem kits_int : kits "int" = true := by decide +kernel
theorem kits_bool : kits "bool" = true := by decide +kernel
theorem kits_str : kits "str" = true := by decide +kernel
theorem kits_tuple : kits "tuple" = true := by decide +kernel
theorem kits_list : kits "list" = true := by decide +kernel
theorem kits_dict : kits "dict" = true := by decide +kernel
end DL

namespace DL
open PySem L2
abbrev Fs := Rho → Sto → OutS
def PostS (K : PySem.W.Frag) (Wx : WX) (Dn : Ends) (ad : List Addr) (F H : Hp) : OutS → Prop
  | .nx r m => ∀ s ad' F' H', Ext ad F H ad' F' H' → At K ad' m F' H' → EnvOk K ad' F' r s → Dn.nx s H'
  | .ret w m => ∀ v ad' F' H', Ext ad F H ad' F' H' → At K ad' m F' H' → RW K ad' F' w v → Dn.rt v H'
  | .brk r m => ∀ s ad' F' H', Ext ad F H ad' F' H' → At K ad' m F' H' → EnvOk K ad' F' r s → Dn.bk s H'
  | .cnt r m => ∀ s ad' F' H', Ext ad F H ad' F' H' → At K ad' m F' H' → EnvOk K ad' F' r s → Dn.ct s H'
  | .exc c fs r m => ∀ s d ad' F' H', Ext ad F H ad' F' H' → At K ad' m F' H' → EnvOk K ad' F' r s → XR K F' H' d fs → Wx c d s H'
  | .bad => False
theorem PostS.ext {K : PySem.W.Frag} {Wx : WX} {Dn : Ends} {ad ad1 : List Addr} {F F1 H H1 : Hp} {o : OutS} (h : PostS K Wx Dn ad F H o) (e : Ext ad F H ad1 F1 H1) : PostS K Wx Dn ad1 F1 H1 o := by
  cases o with
  | nx r m => exact fun _ _ _ _ x => h _ _ _ _ (e.trans x)
  | ret w m => exact fun _ _ _ _ x => h _ _ _ _ (e.trans x)
  | brk r m => exact fun _ _ _ _ x => h _ _ _ _ (e.trans x)
  | cnt r m => exact fun _ _ _ _ x => h _ _ _ _ (e.trans x)
  | exc c fs r m => exact fun _ _ _ _ _ x => h _ _ _ _ _ (e.trans x)
  | bad => exact h
def LS (K : PySem.W.Frag) (Wx : WX) (f : Fs) : TS := fun Dn s H => ∃ r ad m F, EnvOk K ad F r s ∧ At K ad m F H ∧ PostS K Wx Dn ad F H (f r m)
abbrev DS (X : Cx) (Wx : WX) (st : Stmt) (f : Fs) : Prop := PS X st (LS X.K Wx f)
abbrev DSs (X : Cx) (Wx : WX) (st : List Stmt) (f : Fs) : Prop := PSs X st (LS X.K Wx f)
theorem ps_weak {X : Cx} {e : Stmt} {t t' : TS} (h : PS X e t) (w : ∀ D s H, t' D s H → t D s H) : PS X e t' := ⟨fun p s σ H D I q => h.run p s σ H D I (w _ _ _ q)⟩
theorem pss_weak {X : Cx} {e : List Stmt} {t t' : TS} (h : PSs X e t) (w : ∀ D s H, t' D s H → t D s H) : PSs X e t' := ⟨fun p s σ H D I q => h.run p s σ H D I (w _ _ _ q)⟩
/-- an expression's outcome goes into a statement's -/
def Out.stm {α : Type} (o : Out α) (r : Rho) (g : α → Sto → OutS) : OutS := match o with
  | .ok a m => g a m
  | .exc c fs m => .exc c fs r m
  | .bad => .bad
@[simp] theorem Out.stm_ok {α : Type} (a : α) (m : Sto) (r : Rho) (g : α → Sto → OutS) : (Out.ok a m).stm r g = g a m := rfl
@[simp] theorem Out.stm_exc {α : Type} (c : Value) (fs : List (Str × D)) (m : Sto) (r : Rho) (g : α → Sto → OutS) : (Out.exc c fs m : Out α).stm r g = .exc c fs r m := rfl
@[simp] theorem Out.stm_bad {α : Type} (r : Rho) (g : α → Sto → OutS) : (Out.bad : Out α).stm r g = .bad := rfl
theorem stm_post {α : Type} {K : PySem.W.Frag} {Wx : WX} {Dn : Ends} {ad : List Addr} {F H : Hp} {o : Out α} {r : Rho} {s : St} {g : α → Sto → OutS} (he : EnvOk K ad F r s) (h : PostS K Wx Dn ad F H (o.stm r g)) :
    Post K ad F H o (fun a m ad' F' H' => Ext ad F H ad' F' H' ∧ At K ad' m F' H' ∧ PostS K Wx Dn ad' F' H' (g a m)) (XP K Wx s) := by
  cases o with
  | ok a m => exact fun _ _ _ e' h' => ⟨e', h', PostS.ext (o := g a m) h e'⟩
  | exc c fs m => exact fun _ _ _ e' h' d x => h _ _ _ _ _ e' h' (he.ext e') x
  | bad => exact h
def sNx : Fs := fun r m => .nx r m
def sSeq (f g : Fs) : Fs := fun r m => match f r m with
  | .nx r1 m1 => g r1 m1
  | o => o
def sDrop (f : Fe) : Fs := fun r m => (f r m).stm r fun _ m1 => .nx r m1
def sRet (f : Fe) : Fs := fun r m => (f r m).stm r fun w m1 => .ret w m1
def sRetN : Fs := fun _ m => .ret (.d .none) m
def sIf (t : Ft) (f g : Fs) : Fs := fun r m => (t r m).stm r fun b m1 => if b then f r m1 else g r m1
def sBrk : Fs := fun r m => .brk r m
def sCnt : Fs := fun r m => .cnt r m
section
variable {X : Cx} {Wx : WX} {pos : Pos} {st : Stmt} {rest : List Stmt} {e : Expr} {f g : Fs} {fe : Fe}
theorem dss_nil : DSs X Wx [] sNx := pss_weak pss_nil fun D s H q => by
  obtain ⟨r, ad, m, F, he, hA, hp⟩ := q
  exact hp _ _ _ _ Ext.refl hA he
theorem dss_cons (h : DS X Wx st f) (hs : DSs X Wx rest g) : DSs X Wx (st :: rest) (sSeq f g) := pss_weak (pss_cons h hs) fun D s H q => by
  obtain ⟨r, ad, m, F, he, hA, hp⟩ := q
  refine ⟨r, ad, m, F, he, hA, ?_⟩
  unfold sSeq at hp
  cases e : f r m with
  | nx r1 m1 =>
    rw [e] at hp
    exact fun s1 ad1 F1 H1 x1 x2 x3 => ⟨r1, ad1, m1, F1, x3, x2, hp.ext x1⟩
  | ret w m1 => rw [e] at hp; exact hp
  | brk r m1 => rw [e] at hp; exact hp
  | cnt r m1 => rw [e] at hp; exact hp
  | exc c fs r m1 => rw [e] at hp; exact hp
  | bad => rw [e] at hp; exact hp
theorem dss_one (h : DS X Wx st f) : DSs X Wx [st] f := pss_weak (pss_one h) fun _ _ _ q => q
theorem ds_pass : DS X Wx (.Pass pos) sNx := ps_weak ps_pass fun D s H q => by
  obtain ⟨r, ad, m, F, he, hA, hp⟩ := q
  exact hp _ _ _ _ Ext.refl hA he
theorem ds_doc {x j pos'} : DS X Wx (.Expr (.Constant (.str x) j pos) pos') sNx := ps_weak ps_doc fun D s H q => by
  obtain ⟨r, ad, m, F, he, hA, hp⟩ := q
  exact hp _ _ _ _ Ext.refl hA he
theorem ds_break : DS X Wx (.Break pos) sBrk := ps_weak ps_break fun D s H q => by
  obtain ⟨r, ad, m, F, he, hA, hp⟩ := q
  exact hp _ _ _ _ Ext.refl hA he
theorem ds_continue : DS X Wx (.Continue pos) sCnt := ps_weak ps_continue fun D s H q => by
  obtain ⟨r, ad, m, F, he, hA, hp⟩ := q
  exact hp _ _ _ _ Ext.refl hA he
theorem ds_expr (h : DE X Wx e fe) (hs : swapsWith e none pos.line X.env = pure false := by rfl) : DS X Wx (.Expr e pos) (sDrop fe) := ps_weak (ps_expr h hs) fun D s H q => by
  obtain ⟨r, ad, m, F, he, hA, hp⟩ := q
  refine ⟨r, ad, m, F, he, hA, Post.mono (stm_post he hp) (fun w m1 ad1 F1 H1 e1 ha1 q0 v rw1 => ?_) fun _ _ _ _ _ _ _ _ z => z⟩
  exact q0.2.2 _ _ _ _ Ext.refl ha1 (he.ext e1)
theorem ds_ret (h : DE X Wx e fe) : DS X Wx (.Return (some e) pos) (sRet fe) := ps_weak (ps_ret h) fun D s H q => by
  obtain ⟨r, ad, m, F, he, hA, hp⟩ := q
  refine ⟨r, ad, m, F, he, hA, Post.mono (stm_post he hp) (fun w m1 ad1 F1 H1 e1 ha1 q0 v rw1 => ?_) fun _ _ _ _ _ _ _ _ z => z⟩
  exact q0.2.2 _ _ _ _ Ext.refl ha1 rw1
theorem ds_retN : DS X Wx (.Return none pos) sRetN := ps_weak ps_retN fun D s H q => by
  obtain ⟨r, ad, m, F, he, hA, hp⟩ := q
  exact hp _ _ _ _ Ext.refl hA (Rp.non)
theorem ds_if {c : Expr} {a b : List Stmt} {t : Ft} (hc : DT X Wx c t) (ha : DSs X Wx a f) (hb : DSs X Wx b g) : DS X Wx (.If c a b pos) (sIf t f g) := ps_weak (ps_if hc ha hb) fun D s H q => by
  obtain ⟨r, ad, m, F, he, hA, hp⟩ := q
  refine ⟨r, ad, m, F, he, hA, Post.mono (stm_post he hp) (fun w m1 ad1 F1 H1 e1 ha1 q0 v rw1 => ?_) fun _ _ _ _ _ _ _ _ z => z⟩
  subst rw1
  have h1 := q0.2.2
  cases w with
  | true => exact iteT ⟨r, ad1, m1, F1, he.ext e1, ha1, h1⟩
  | false => exact iteF ⟨r, ad1, m1, F1, he.ext e1, ha1, h1⟩
end

/-! ### targets -/
abbrev Fg := W → Rho → Sto → Option (Rho × Sto)
/-- sl: the slots that may be set -/
def LG (K : PySem.W.Frag) (sl : List Nat) (g : Fg) : TG := fun v s H q =>
  ∃ w r ad m F, RW K ad F w v ∧ EnvOk K ad F r s ∧ At K ad m F H ∧ match g w r m with
    | some (r1, m1) => ∀ s' ad' F' H', Ext ad F H ad' F' H' → At K ad' m1 F' H' → EnvOk K ad' F' r1 s' → s'.length = s.length → (∀ j, j ∉ sl → s'[j]? = s[j]?) → q s' H'
    | none => False
def LGs (K : PySem.W.Frag) (sl : List Nat) (g : List W → Rho → Sto → Option (Rho × Sto)) : TGs := fun v s H q =>
  ∃ w r ad m F, RWs K ad F w v ∧ EnvOk K ad F r s ∧ At K ad m F H ∧ match g w r m with
    | some (r1, m1) => ∀ s' ad' F' H', Ext ad F H ad' F' H' → At K ad' m1 F' H' → EnvOk K ad' F' r1 s' → s'.length = s.length → (∀ j, j ∉ sl → s'[j]? = s[j]?) → q s' H'
    | none => False
abbrev DG (X : Cx) (sl : List Nat) (e : Expr) (g : Fg) : Prop := PG X e (LG X.K sl g)
abbrev DGs (X : Cx) (sl : List Nat) (e : List Expr) (g : List W → Rho → Sto → Option (Rho × Sto)) : Prop := PGs X e (LGs X.K sl g)
theorem pg_weak {X : Cx} {e : Expr} {t t' : TG} (h : PG X e t) (w : ∀ v s H q, t' v s H q → t v s H q) : PG X e t' := ⟨fun p s σ H v u Q I r q => h.run p s σ H v u Q I r (w _ _ _ _ q)⟩
theorem pgs_weak {X : Cx} {e : List Expr} {t t' : TGs} (h : PGs X e t) (w : ∀ v s H q, t' v s H q → t v s H q) : PGs X e t' := ⟨fun p s σ H v u Q I r q => h.run p s σ H v u Q I r (w _ _ _ _ q)⟩
def gN (i : Nat) : Fg := fun w r m => some (r.set i (some w), m)
def gsNil : List W → Rho → Sto → Option (Rho × Sto) := fun ws r m => match ws with | [] => some (r, m) | _ => none
def gsCons (g : Fg) (gs : List W → Rho → Sto → Option (Rho × Sto)) : List W → Rho → Sto → Option (Rho × Sto) := fun ws r m => match ws with
  | w :: r1 => match g w r m with | some (r2, m2) => gs r1 r2 m2 | none => none
  | [] => none
/-- (a, b, ..) = a tuple of n -/
def gT (n : Nat) (gs : List W → Rho → Sto → Option (Rho × Sto)) : Fg := fun w r m => match w with
  | .d (.tuple ds) => if ds.length = n then gs (ds.map .d) r m else none
  | _ => none
theorem rws_of {K : PySem.W.Frag} {ad : List Addr} {F : Hp} : ∀ {vs : List V} {ds : List D}, RpA K F vs ds → RWs K ad F (ds.map .d) vs
  | _, _, .nil => .nil
  | _, _, .cons a r => .cons a (rws_of r)
section
variable {X : Cx} {pos : Pos} {e : Expr} {es : List Expr} {sl sl' : List Nat}
theorem dg_name {i : Nat} {x : Str} (h : PG X (.Name x pos) (gName i)) : DG X [i] (.Name x pos) (gN i) := pg_weak h fun v s H q z => by
  obtain ⟨w, r, ad, m, F, h1, h2, h3, h4⟩ := z
  refine h4 _ ad F H Ext.refl h3 (h2.set i h1) (by simp) fun j hj => ?_
  rw [List.getElem?_set_ne]
  intro z
  exact hj (by simp [z])
theorem dgs_nil : DGs X [] [] gsNil := pgs_weak pgs_nil fun v s H q z => by
  obtain ⟨w, r, ad, m, F, h1, h2, h3, h4⟩ := z
  cases h1 with
  | nil => exact ⟨rfl, h4 _ ad F H Ext.refl h3 h2 rfl fun _ _ => rfl⟩
  | cons a b => exact h4.elim
theorem dgs_cons {g : Fg} {gs : List W → Rho → Sto → Option (Rho × Sto)} (h : DG X sl e g) (h2 : DGs X sl' es gs) (hs : (assignEach (e :: es) X.env).map (·.2) = assign e X.env :: (assignEach es X.env).map (·.2) := by rfl) :
    DGs X (sl ++ sl') (e :: es) (gsCons g gs) := pgs_weak (pgs_cons h h2 hs) fun v s H q z => by
  obtain ⟨w, r, ad, m, F, h1, h2, h3, h4⟩ := z
  cases h1 with
  | nil => exact h4.elim
  | cons a b =>
    rename_i x y xs ys
    refine ⟨_, _, rfl, x, r, ad, m, F, a, h2, h3, ?_⟩
    unfold gsCons at h4
    dsimp only at h4
    cases e : g x r m with
    | none => rw [e] at h4; exact h4.elim
    | some p =>
      obtain ⟨r2, m2⟩ := p
      rw [e] at h4
      refine fun s' ad' F' H' x1 x2 x3 x4 x5 => ⟨_, r2, ad', m2, F', RWs.ext x1 b, x3, x2, ?_⟩
      cases e' : gs xs r2 m2 with
      | none => simp only [e'] at h4
      | some p =>
        obtain ⟨r3, m3⟩ := p
        simp only [e'] at h4 ⊢
        exact fun s2 ad2 F2 H2 y1 y2 y3 y4 y5 => h4 s2 ad2 F2 H2 (x1.trans y1) y2 y3 (y4.trans x4) fun j hj => (y5 j fun z => hj (List.mem_append_right _ z)).trans (x5 j fun z => hj (List.mem_append_left _ z))
theorem dg_tup {k n : Nat} {gs : List W → Rho → Sto → Option (Rho × Sto)} (hc : X.calm = true) (h : DGs X sl es gs) (hn : (assignEach es X.env).length = n := by rfl) (hst : (assignEach es X.env).findIdx? (·.1) = none := by rfl) :
    DG X sl (.Tuple es k pos) (gT n gs) := pg_weak (pg_tup hc h hn hst) fun v s H q z => by
  obtain ⟨w, r, ad, m, F, h1, h2, h3, h4⟩ := z
  unfold gT at h4
  cases w with
  | c i => exact h4.elim
  | k i => exact h4.elim
  | x _ _ _ => exact h4.elim
  | d x =>
    cases x with
    | tuple ds =>
      cases h1 with
      | tup q1 s1 =>
        by_cases hl : ds.length = n
        · simp only [if_pos hl] at h4
          exact ⟨_, _, rfl, h3.le.sqT q1, by rw [s1.len]; exact hl, _, r, ad, m, F, rws_of s1, h2, h3, h4⟩
        · simp only [if_neg hl] at h4
    | none => exact h4.elim
    | bool _ => exact h4.elim
    | int _ => exact h4.elim
    | str _ => exact h4.elim
    | list _ => exact h4.elim
    | dict _ => exact h4.elim
end
/-- target = value -/
def sAsg (f : Fe) (g : Fg) : Fs := fun r m => (f r m).stm r fun w m1 => match g w r m1 with | some (r2, m2) => .nx r2 m2 | none => .bad
/-- two names at once -/
def sPar (i j : Nat) (f : Fa) : Fs := fun r m => (f r m).stm r fun ws m1 => match ws with | [v, w] => .nx ((r.set i (some v)).set j (some w)) m1 | _ => .bad
section
variable {X : Cx} {Wx : WX} {pos : Pos} {e tg : Expr} {fe : Fe} {g : Fg} {sl : List Nat}
theorem tasg_w {K : PySem.W.Frag} {D : Ends} {s : St} {H : Hp} (q : LS K Wx (sAsg fe g) D s H) : tAsg (LE K Wx fe) (LG K sl g) D s H := by
  obtain ⟨r, ad, m, F, he, hA, hp⟩ := q
  refine ⟨r, ad, m, F, he, hA, Post.mono (stm_post he hp) (fun w m1 ad1 F1 H1 e1 ha1 q0 v rw1 => ?_) fun _ _ _ _ _ _ _ _ z => z⟩
  have h1 := q0.2.2
  refine ⟨w, r, ad1, m1, F1, rw1, he.ext e1, ha1, ?_⟩
  cases e : g w r m1 with
  | none => simp only [e] at h1; exact h1
  | some p =>
    obtain ⟨r2, m2⟩ := p
    simp only [e] at h1 ⊢
    exact fun s' ad' F' H' x1 x2 x3 _ _ => h1 s' ad' F' H' x1 x2 x3
theorem ds_asg (h : DE X Wx e fe) (hg : DG X sl tg g) (hs : swapsWithSole [tg] e pos.line X.env = pure false := by rfl) (hw : swappedStores [tg] e X.env = pure none := by rfl)
    (h1 : (assignEach [tg] X.env).map (·.2) = [assign tg X.env] := by rfl) : DS X Wx (.Assign [tg] e pos) (sAsg fe g) := ps_weak (ps_asg h hg hs hw h1) fun D s H q => tasg_w q
theorem ds_set {i : Nat} {x : Str} {pos' : Pos} (h : PS X (.Assign [.Name x pos'] e pos) (tAsg (LE X.K Wx fe) (gName i))) : DS X Wx (.Assign [.Name x pos'] e pos) (sAsg fe (gN i)) := ps_weak h fun D s H q => by
  obtain ⟨r, ad, m, F, he, hA, hp⟩ := q
  refine ⟨r, ad, m, F, he, hA, Post.mono (stm_post he hp) (fun w m1 ad1 F1 H1 e1 ha1 q0 v rw1 => ?_) fun _ _ _ _ _ _ _ _ z => z⟩
  exact q0.2.2 _ _ _ _ Ext.refl ha1 ((he.ext e1).set i rw1)
theorem ds_par {i j : Nat} {st : Stmt} {f : Fa} (h : PS X st (tPar i j (LA X.K Wx f))) : DS X Wx st (sPar i j f) := ps_weak h fun D s H q => by
  obtain ⟨r, ad, m, F, he, hA, hp⟩ := q
  refine ⟨r, ad, m, F, he, hA, Post.mono (stm_post he hp) (fun ws m1 ad1 F1 H1 e1 ha1 q0 vs rw1 => ?_) fun _ _ _ _ _ _ _ _ z => z⟩
  have h1 := q0.2.2
  cases rw1 with
  | nil => exact h1.elim
  | cons a b =>
    cases b with
    | nil => exact h1.elim
    | cons c d =>
      cases d with
      | nil => exact ⟨_, _, rfl, h1 _ _ _ _ Ext.refl ha1 (((he.ext e1).set i a).set j c)⟩
      | cons _ _ => exact h1.elim
end

/-! ### what is walked -/
structure Src where
  items : List D
  gs : List (Nat × List D)
def grd (gs : List (Nat × List D)) (m : Sto) : Prop := ∀ p ∈ gs, lstOf (.c p.1) m = some p.2
abbrev Fi := Rho → Sto → Out Src
def SrcOk (K : PySem.W.Frag) (src : Src) (ad : List Addr) (F H : Hp) (J : It) : Prop :=
  ∃ (G : Hp → Prop) (Y : Nat → Hp → V → Hp → Prop), Walk J src.items.length G Y ∧
    (∀ ad2 F2 H2 m2, Ext ad F H ad2 F2 H2 → At K ad2 m2 F2 H2 → grd src.gs m2 → G H2) ∧
    ∀ i ad2 F2 H2 m2 x H3, i < src.items.length → Ext ad F H ad2 F2 H2 → At K ad2 m2 F2 H2 → grd src.gs m2 → Y i H2 x H3 → ∃ F3 d, src.items[i]? = some d ∧ Ext ad2 F2 H2 ad2 F3 H3 ∧ At K ad2 m2 F3 H3 ∧ Rp K F3 x d
def LI (K : PySem.W.Frag) (Wx : WX) (f : Fi) : TI := fun s H R => ∃ r ad m F, EnvOk K ad F r s ∧ At K ad m F H ∧ Post K ad F H (f r m) (fun src _ ad' F' H' => ∀ J, SrcOk K src ad' F' H' J → R J H') (XP K Wx s)
abbrev DI (X : Cx) (Wx : WX) (tg e : Expr) (f : Fi) : Prop := PI X tg e (LI X.K Wx f)
theorem pi_weak {X : Cx} {tg e : Expr} {t t' : TI} (h : PI X tg e t) (w : ∀ s H q, t' s H q → t s H q) : PI X tg e t' := ⟨fun p s σ H R I q => h.run p s σ H R I (w _ _ _ q)⟩
def gsOf (w : W) (xs : List D) : List (Nat × List D) := match w with | .c i => [(i, xs)] | _ => []
def iSeq (f : Fe) : Fi := fun r m => (f r m).bind fun w m1 => match lstOf w m1 with | some xs => .ok ⟨xs, gsOf w xs⟩ m1 | none => .bad
def iTupD (f : Fe) : Fi := fun r m => (f r m).bind fun w m1 => match w with | .d (.tuple xs) => .ok ⟨xs, []⟩ m1 | _ => .bad
def iStrD (f : Fe) : Fi := fun r m => (f r m).bind fun w m1 => match w with | .d (.str x) => .ok ⟨x.cps.toList.map fun c => .str ⟨#[c]⟩, []⟩ m1 | _ => .bad
def rngL (lo : Int) (n : Nat) : List D := (List.range n).map fun i => .int (lo + (i : Nat))
def iRange1 (f : Fe) : Fi := fun r m => (f r m).bind fun w m1 => match w with | .d (.int j) => if decide (-(2 ^ 62) ≤ j) && decide (j < 2 ^ 62) then .ok ⟨rngL 0 j.toNat, []⟩ m1 else .bad | _ => .bad
def iRange2 (f g : Fe) : Fi := fun r m => (f r m).bind fun w m1 => (g r m1).bind fun w2 m2 => match w, w2 with
  | .d (.int i), .d (.int j) => if decide (-(2 ^ 62) ≤ i) && decide (i < 2 ^ 62) && decide (-(2 ^ 62) ≤ j) && decide (j < 2 ^ 62) then .ok ⟨rngL i (j - i).toNat, []⟩ m2 else .bad
  | _, _ => .bad
section
variable {K : PySem.W.Frag} {Wx : WX}
/-- a list stands as the walk wants it, while its cell is not changed -/
theorem lst_stays {w : W} {v : V} {ad : List Addr} {m : Sto} {F H : Hp} {xs : List D} (r : RW K ad F w v) (hA : At K ad m F H) (e : lstOf w m = some xs) :
    ∃ a vs, v = .ref a ∧ RpA K F vs xs ∧ (∀ ad2 F2 H2 m2, Ext ad F H ad2 F2 H2 → At K ad2 m2 F2 H2 → grd (gsOf w xs) m2 → ∃ ws, SqL K H2 a ws ∧ RpA K F2 ws xs) ∧ SqL K H a vs := by
  obtain ⟨a, vs, rfl, q1, s1⟩ := hA.lst r e
  refine ⟨a, vs, rfl, s1, fun ad2 F2 H2 m2 x h2 g => ?_, q1⟩
  have r2 : RW K ad2 F2 w (.ref a) := r.ext x
  have e2 : lstOf w m2 = some xs := by
    cases w with
    | c i => exact g (i, xs) (by simp [gsOf])
    | d y => cases y <;> first | exact e | cases e
    | k y => exact e
    | x _ _ _ => cases e
  obtain ⟨b, ws, eb, q2, s2⟩ := h2.lst r2 e2
  cases eb
  exact ⟨ws, q2, s2⟩
end
section
variable {X : Cx} {Wx : WX} {tg e : Expr} {f : Fe}
theorem di_seq (h : DE X Wx e f) : DI X Wx tg e (iSeq f) := pi_weak (pi_list h) fun s H R q => by
  obtain ⟨r, ad, m, F, he, hA, hp⟩ := q
  refine ⟨_, _, _, _, he, hA, Post.mono (Post.bind hp) (fun w m1 ad1 F1 H1 e1 ha1 q0 v rw1 => ?_) fun _ _ _ _ _ _ _ _ z => z⟩
  obtain ⟨_, _, h1⟩ := q0
  cases e : lstOf w m1 with
  | none => simp only [e] at h1; exact h1.elim
  | some xs =>
    simp only [e] at h1
    obtain ⟨a, vs, rfl, s1, st, q1⟩ := lst_stays rw1 ha1 e
    refine ⟨a, rfl, ⟨vs, q1⟩, h1 ad1 F1 H1 Ext.refl ha1 _ ?_⟩
    refine ⟨fun H2 => ∃ ws, SqL X.K H2 a ws ∧ ws.length = xs.length, fun i H2 x H3 => H3 = H2 ∧ ∀ ws, SqL X.K H2 a ws → ws[i]? = some x, ⟨fun i H2 hi g => ?_, fun H2 g => ?_, fun i H2 x H3 hi g y => ?_⟩, fun ad2 F2 H2 m2 x h2 g => ?_, fun i ad2 F2 H2 m2 x H3 hi ex h2 g y => ?_⟩
    · obtain ⟨ws, g1, g2⟩ := g
      have hi' : i < ws.length := by rw [g2]; exact hi
      exact ⟨ws, ws[i], g1, List.getElem?_eq_getElem hi'⟩
    · obtain ⟨ws, g1, g2⟩ := g
      exact ⟨ws, g1, by rw [g2]; exact Nat.le_refl _⟩
    · exact y
    · obtain ⟨ws, g1, g2⟩ := st ad2 F2 H2 m2 x h2 g
      exact ⟨ws, g1, g2.len⟩
    · obtain ⟨rfl, y⟩ := y
      obtain ⟨ws, g1, g2⟩ := st ad2 F2 H3 m2 ex h2 g
      obtain ⟨v', b1, b2⟩ := g2.get (List.getElem?_eq_getElem hi)
      have := y ws g1
      rw [b1] at this
      cases this
      exact ⟨F2, xs[i], List.getElem?_eq_getElem hi, Ext.refl, h2, b2⟩
theorem di_tup (h : DE X Wx e f) : DI X Wx tg e (iTupD f) := pi_weak (pi_tup h) fun s H R q => by
  obtain ⟨r, ad, m, F, he, hA, hp⟩ := q
  refine ⟨_, _, _, _, he, hA, Post.mono (Post.bind hp) (fun w m1 ad1 F1 H1 e1 ha1 q0 v rw1 => ?_) fun _ _ _ _ _ _ _ _ z => z⟩
  obtain ⟨_, _, h1⟩ := q0
  cases w with
  | c _ => exact h1.elim
  | k _ => exact h1.elim
  | x _ _ _ => exact h1.elim
  | d y =>
    cases y with
    | tuple xs =>
      cases rw1 with
      | tup q1 s1 =>
        rename_i a vs
        refine ⟨a, rfl, ⟨vs, ha1.le.sqT q1⟩, h1 ad1 F1 H1 Ext.refl ha1 _ ?_⟩
        refine ⟨fun H2 => SqT X.K H2 a vs, YAt vs, by rw [← s1.len]; exact walk_tup, fun ad2 F2 H2 m2 x h2 g => h2.le.sqT (x.fle.sqT q1), fun i ad2 F2 H2 m2 x H3 hi ex h2 g y => ?_⟩
        obtain ⟨rfl, y⟩ := y
        obtain ⟨v', b1, b2⟩ := (s1.mono ex.fle).get (List.getElem?_eq_getElem hi)
        rw [b1] at y
        cases y
        exact ⟨F2, xs[i], List.getElem?_eq_getElem hi, Ext.refl, h2, b2⟩
    | none => exact h1.elim
    | bool _ => exact h1.elim
    | int _ => exact h1.elim
    | str _ => exact h1.elim
    | list _ => exact h1.elim
    | dict _ => exact h1.elim
theorem di_str (h : DE X Wx e f) (hp : PI X tg e (iStr (LE X.K Wx f))) : DI X Wx tg e (iStrD f) := pi_weak hp fun s H R q => by
  obtain ⟨r, ad, m, F, he, hA, hp⟩ := q
  refine ⟨_, _, _, _, he, hA, Post.mono (Post.bind hp) (fun w m1 ad1 F1 H1 e1 ha1 q0 v rw1 => ?_) fun _ _ _ _ _ _ _ _ z => z⟩
  obtain ⟨_, _, h1⟩ := q0
  cases w with
  | c _ => exact h1.elim
  | k _ => exact h1.elim
  | x _ _ _ => exact h1.elim
  | d y =>
    cases y with
    | str x =>
      cases rw1
      refine ⟨x, rfl, h1 ad1 F1 H1 Ext.refl ha1 _ ?_⟩
      refine ⟨fun _ => True, _, by rw [List.length_map, Array.length_toList]; exact walk_str, fun _ _ _ _ _ _ _ => True.intro, fun i ad2 F2 H2 m2 z H3 hi ex h2 g y => ?_⟩
      obtain ⟨rfl, c, hc, rfl⟩ := y
      refine ⟨F2, .str ⟨#[c]⟩, ?_, Ext.refl, h2, .str _⟩
      rw [List.getElem?_map, Array.getElem?_toList, hc]
      rfl
    | none => exact h1.elim
    | bool _ => exact h1.elim
    | int _ => exact h1.elim
    | tuple _ => exact h1.elim
    | list _ => exact h1.elim
    | dict _ => exact h1.elim
theorem rng_ok {K : PySem.W.Frag} {ad : List Addr} {F H : Hp} {lo : Int} {n : Nat} : SrcOk K ⟨rngL lo n, []⟩ ad F H (Itr lo n) := by
  have hl : (rngL lo n).length = n := by simp [rngL]
  refine ⟨fun _ => True, _, by show Walk _ (rngL lo n).length _ _; rw [hl]; exact walk_range, fun _ _ _ _ _ _ _ => True.intro, fun i ad2 F2 H2 m2 x H3 hi _ h2 _ y => ?_⟩
  obtain ⟨rfl, rfl⟩ := y
  have hi : i < (rngL lo n).length := hi
  rw [hl] at hi
  exact ⟨F2, .int (lo + i), by show (rngL lo n)[i]? = _; simp [rngL, hi], Ext.refl, h2, .int _⟩
theorem di_range1 {it : Expr} (h : PI X tg it (iRng1 (LA X.K Wx (dCons f dNil)))) : DI X Wx tg it (iRange1 f) := pi_weak h fun s H R q => by
  obtain ⟨r, ad, m, F, he, hA, hp⟩ := q
  have hp' : Post X.K ad F H ((dCons f dNil r m).bind fun ws m1 => match ws with | [w] => (match w with | .d (.int j) => if decide (-(2 ^ 62) ≤ j) && decide (j < 2 ^ 62) then .ok (⟨rngL 0 j.toNat, []⟩ : Src) m1 else .bad | _ => .bad) | _ => .bad) (fun src _ ad' F' H' => ∀ J, SrcOk X.K src ad' F' H' J → R J H') (XP X.K Wx s) := by
    unfold iRange1 at hp
    unfold dCons dNil
    cases e : f r m with
    | ok w m1 => rw [e] at hp; exact hp
    | exc c fs m1 => rw [e] at hp; exact hp
    | bad => rw [e] at hp; exact hp
  refine ⟨_, _, _, _, he, hA, Post.mono (Post.bind hp') (fun ws m1 ad1 F1 H1 e1 ha1 q0 vs rw1 => ?_) fun _ _ _ _ _ _ _ _ z => z⟩
  obtain ⟨_, _, h1⟩ := q0
  split at h1
  · obtain ⟨v, rfl, r1⟩ := rw1.one
    split at h1
    · split at h1
      · rename_i hb
        cases r1
        have hb := Bool.and_eq_true_iff.mp hb
        exact ⟨_, rfl, of_decide_eq_true hb.1, of_decide_eq_true hb.2, h1 _ _ _ Ext.refl ha1 _ rng_ok⟩
      · exact h1.elim
    · exact h1.elim
  · exact h1.elim
theorem di_range2 {it : Expr} {f2 : Fe} (h : PI X tg it (iRng2 (LA X.K Wx (dCons f (dCons f2 dNil))))) : DI X Wx tg it (iRange2 f f2) := pi_weak h fun s H R q => by
  obtain ⟨r, ad, m, F, he, hA, hp⟩ := q
  have hp' : Post X.K ad F H ((dCons f (dCons f2 dNil) r m).bind fun ws m1 => match ws with | [w, w2] => (match w, w2 with | .d (.int i), .d (.int j) => if decide (-(2 ^ 62) ≤ i) && decide (i < 2 ^ 62) && decide (-(2 ^ 62) ≤ j) && decide (j < 2 ^ 62) then .ok (⟨rngL i (j - i).toNat, []⟩ : Src) m1 else .bad | _, _ => .bad) | _ => .bad) (fun src _ ad' F' H' => ∀ J, SrcOk X.K src ad' F' H' J → R J H') (XP X.K Wx s) := by
    unfold iRange2 at hp
    unfold dCons dNil
    cases e : f r m with
    | ok w m1 =>
      rw [e] at hp
      cases e2 : f2 r m1 with
      | ok w2 m2 => simp only [Out.bind_ok, e2] at hp ⊢; exact hp
      | exc c fs m1 => simp only [Out.bind_ok, e2] at hp ⊢; exact hp
      | bad => simp only [Out.bind_ok, e2] at hp; exact hp.elim
    | exc c fs m1 => rw [e] at hp; exact hp
    | bad => rw [e] at hp; exact hp
  refine ⟨_, _, _, _, he, hA, Post.mono (Post.bind hp') (fun ws m1 ad1 F1 H1 e1 ha1 q0 vs rw1 => ?_) fun _ _ _ _ _ _ _ _ z => z⟩
  obtain ⟨_, _, h1⟩ := q0
  split at h1
  · obtain ⟨v, u, rfl, r1, r2⟩ := rw1.two
    split at h1
    · split at h1
      · rename_i hb
        cases r1
        cases r2
        have hb := Bool.and_eq_true_iff.mp hb
        have hc := Bool.and_eq_true_iff.mp hb.1
        have hd := Bool.and_eq_true_iff.mp hc.1
        exact ⟨_, _, rfl, ⟨of_decide_eq_true hd.1, of_decide_eq_true hd.2, of_decide_eq_true hc.2, of_decide_eq_true hb.2⟩, h1 _ _ _ Ext.refl ha1 _ rng_ok⟩
      · exact h1.elim
    · exact h1.elim
  · exact h1.elim
end
end DL

namespace DL
open PySem L2
open Classical in
/-- over the items, one by one -/
noncomputable def forL (gs : List (Nat × List D)) (tg : Fg) (body : Fs) : List D → Fs
  | [], r, m => if grd gs m then .nx r m else .bad
  | x :: xs, r, m => if grd gs m then match tg (.d x) r m with
    | some (r1, m1) => match body r1 m1 with
      | .nx r2 m2 => forL gs tg body xs r2 m2
      | .cnt r2 m2 => forL gs tg body xs r2 m2
      | .brk r2 m2 => .nx r2 m2
      | o => o
    | none => .bad
    else .bad
noncomputable def sFor (src : Fi) (tg : Fg) (body : Fs) : Fs := fun r m => (src r m).stm r fun s m1 => forL s.gs tg body s.items r m1
theorem forL_grd {gs : List (Nat × List D)} {tg : Fg} {body : Fs} {xs : List D} {r : Rho} {m : Sto} (h : ¬ grd gs m) : forL gs tg body xs r m = .bad := by
  cases xs <;> simp [forL, h]
section
variable {X : Cx} {Wx : WX} {pos : Pos} {tg it : Expr} {body : List Stmt} {f : Fi} {g : Fg} {fb : Fs} {sl : List Nat}
theorem ds_for (hp : PassesOwn (model X.prog X.w) X.A X.env X.xe) (hc : X.calm = true) (hi : DI X Wx tg it f) (hg : DG X sl tg g) (hb : DSs X Wx body fb) (hs : ∀ x, foldedSetIterable it X.env x = pure x := by intro _; rfl) :
    DS X Wx (.For tg it body [] pos) (sFor f g fb) := ps_weak (ps_for hp hc hi hg hb hs) fun D s H q => by
  obtain ⟨r, ad, m, F, he, hA, hp⟩ := q
  refine ⟨r, ad, m, F, he, hA, Post.mono (stm_post he hp) (fun src m1 ad1 F1 H1 e1 ha1 q0 J hJ => ?_) fun _ _ _ _ _ _ _ _ z => z⟩
  have h1 := q0.2.2
  obtain ⟨G, Y, wk, hG, hY⟩ := hJ
  refine for_it wk (fun i s2 H2 => ∃ r2 ad2 m2 F2, Ext ad1 F1 H1 ad2 F2 H2 ∧ EnvOk X.K ad2 F2 r2 s2 ∧ At X.K ad2 m2 F2 H2 ∧ PostS X.K Wx D ad2 F2 H2 (forL src.gs g fb (src.items.drop i) r2 m2))
    ⟨r, ad1, m1, F1, Ext.refl, he.ext e1, ha1, h1⟩ (fun i s2 H2 hi p => ?_) (fun i x s2 H2 H3 hi p y => ?_) fun s2 H2 p => ?_
  · obtain ⟨r2, ad2, m2, F2, x2, he2, ha2, hp2⟩ := p
    by_cases hgd : grd src.gs m2
    · exact hG ad2 F2 H2 m2 x2 ha2 hgd
    · rw [forL_grd hgd] at hp2; exact hp2.elim
  · obtain ⟨r2, ad2, m2, F2, x2, he2, ha2, hp2⟩ := p
    by_cases hgd : grd src.gs m2
    · obtain ⟨F3, d, hd, x3, ha3, rp⟩ := hY i ad2 F2 H2 m2 x H3 hi x2 ha2 hgd y
      have e := List.drop_eq_getElem_cons hi
      rw [List.getElem?_eq_getElem hi] at hd
      cases hd
      rw [e] at hp2
      unfold forL at hp2
      rw [if_pos hgd] at hp2
      refine ⟨.d src.items[i], r2, ad2, m2, F3, rp, he2.ext x3, ha3, ?_⟩
      cases et : g (.d src.items[i]) r2 m2 with
      | none => rw [et] at hp2; exact hp2
      | some p =>
        obtain ⟨r4, m4⟩ := p
        rw [et] at hp2
        dsimp only at hp2 ⊢
        refine fun s' ad' F' H' y1 y2 y3 _ _ => ⟨r4, ad', m4, F', y3, y2, ?_⟩
        have hp3 := hp2.ext (x3.trans y1)
        have xx := (x2.trans x3).trans y1
        cases eb : fb r4 m4 with
        | nx r5 m5 => rw [eb] at hp3; exact fun s5 ad5 F5 H5 z1 z2 z3 => ⟨r5, ad5, m5, F5, xx.trans z1, z3, z2, hp3.ext z1⟩
        | cnt r5 m5 => rw [eb] at hp3; exact fun s5 ad5 F5 H5 z1 z2 z3 => ⟨r5, ad5, m5, F5, xx.trans z1, z3, z2, hp3.ext z1⟩
        | brk r5 m5 => rw [eb] at hp3; exact hp3
        | ret w m5 => rw [eb] at hp3; exact hp3
        | exc c fs r5 m5 => rw [eb] at hp3; exact hp3
        | bad => rw [eb] at hp3; exact hp3
    · rw [forL_grd hgd] at hp2; exact hp2.elim
  · obtain ⟨r2, ad2, m2, F2, x2, he2, ha2, hp2⟩ := p
    rw [List.drop_length] at hp2
    by_cases hgd : grd src.gs m2
    · unfold forL at hp2
      rw [if_pos hgd] at hp2
      exact hp2 _ _ _ _ Ext.refl ha2 he2
    · rw [forL_grd hgd] at hp2; exact hp2.elim
end

/-! ### while -/
def whileN (c : Ft) (b : Fs) : Nat → Fs
  | 0, _, _ => .bad
  | n + 1, r, m => (c r m).stm r fun k m1 => if k then match b r m1 with
      | .nx r2 m2 => whileN c b n r2 m2
      | .cnt r2 m2 => whileN c b n r2 m2
      | .brk r2 m2 => .nx r2 m2
      | o => o
    else .nx r m1
open Classical in
noncomputable def sWhile (c : Ft) (b : Fs) : Fs := fun r m => if h : ∃ n, whileN c b n r m ≠ .bad then whileN c b (Classical.choose h) r m else .bad
theorem whileN_more (c : Ft) (b : Fs) : ∀ (n : Nat) (r : Rho) (m : Sto), whileN c b n r m ≠ .bad → whileN c b (n + 1) r m = whileN c b n r m
  | 0, r, m, h => absurd rfl h
  | n + 1, r, m, h => by
    have e1 : whileN c b (n + 1) r m = (c r m).stm r fun k m1 => if k then match b r m1 with
      | .nx r2 m2 => whileN c b n r2 m2
      | .cnt r2 m2 => whileN c b n r2 m2
      | .brk r2 m2 => .nx r2 m2
      | o => o
      else .nx r m1 := rfl
    rw [e1] at h ⊢
    show ((c r m).stm r fun k m1 => if k then match b r m1 with
      | .nx r2 m2 => whileN c b (n + 1) r2 m2
      | .cnt r2 m2 => whileN c b (n + 1) r2 m2
      | .brk r2 m2 => .nx r2 m2
      | o => o
      else .nx r m1) = _
    cases ec : c r m with
    | ok k m1 =>
      simp only [ec, Out.stm_ok] at h ⊢
      cases k with
      | false => rfl
      | true =>
        simp only [if_true] at h ⊢
        cases eb : b r m1 with
        | nx r2 m2 => simp only [eb] at h ⊢; exact whileN_more c b n r2 m2 h
        | cnt r2 m2 => simp only [eb] at h ⊢; exact whileN_more c b n r2 m2 h
        | brk r2 m2 => rfl
        | ret w m2 => rfl
        | exc _ _ _ _ => rfl
        | bad => rfl
    | exc cc fs m1 => rfl
    | bad => rfl
theorem whileN_le (c : Ft) (b : Fs) {n k : Nat} {r : Rho} {m : Sto} (h : whileN c b n r m ≠ .bad) (hk : n ≤ k) : whileN c b k r m = whileN c b n r m := by
  induction k with
  | zero =>
    have e : n = 0 := by omega
    rw [e]
  | succ k ih =>
    by_cases q : n = k + 1
    · rw [q]
    · have e := ih (by omega)
      rw [← e]
      exact whileN_more c b k r m (by rw [e]; exact h)
theorem sWhile_eq {c : Ft} {b : Fs} {n : Nat} {r : Rho} {m : Sto} (h : whileN c b n r m ≠ .bad) : sWhile c b r m = whileN c b n r m := by
  have hx : ∃ n, whileN c b n r m ≠ .bad := ⟨n, h⟩
  unfold sWhile
  rw [dif_pos hx]
  have h2 := Classical.choose_spec hx
  rcases Nat.le_total n (Classical.choose hx) with q | q
  · exact whileN_le c b h q
  · exact (whileN_le c b h2 q).symm
/-- one turn -/
theorem sWhile_turn (c : Ft) (b : Fs) (r : Rho) (m : Sto) : sWhile c b r m = (c r m).stm r fun k m1 => if k then match b r m1 with
      | .nx r2 m2 => sWhile c b r2 m2
      | .cnt r2 m2 => sWhile c b r2 m2
      | .brk r2 m2 => .nx r2 m2
      | o => o
    else .nx r m1 := by
  have one : ∀ n, whileN c b (n + 1) r m = (c r m).stm r fun k m1 => if k then match b r m1 with
      | .nx r2 m2 => whileN c b n r2 m2
      | .cnt r2 m2 => whileN c b n r2 m2
      | .brk r2 m2 => .nx r2 m2
      | o => o
      else .nx r m1 := fun _ => rfl
  cases ec : c r m with
  | bad =>
    have hb : ∀ n, whileN c b n r m = .bad := fun n => by
      cases n with
      | zero => rfl
      | succ n => rw [one, ec]; rfl
    unfold sWhile
    rw [dif_neg fun ⟨n, h⟩ => h (hb n)]
    rfl
  | exc cc fs m1 =>
    have h : whileN c b 1 r m = .exc cc fs r m1 := by rw [one, ec]; rfl
    rw [sWhile_eq (n := 1) (by rw [h]; exact fun z => nomatch z), h]
    rfl
  | ok k m1 =>
    rw [Out.stm_ok]
    cases k with
    | false =>
      have h : whileN c b 1 r m = .nx r m1 := by rw [one, ec]; rfl
      rw [sWhile_eq (n := 1) (by rw [h]; exact fun z => nomatch z), h]
      rfl
    | true =>
      simp only [if_true]
      have go : ∀ r2 m2, (∀ n, whileN c b (n + 1) r m = whileN c b n r2 m2) → sWhile c b r m = sWhile c b r2 m2 := fun r2 m2 hh => by
        by_cases hx : ∃ n, whileN c b n r2 m2 ≠ .bad
        · obtain ⟨n, hn⟩ := hx
          rw [sWhile_eq hn, sWhile_eq (n := n + 1) (by rw [hh]; exact hn), hh]
        · have hy : ¬ ∃ n, whileN c b n r m ≠ .bad := fun ⟨n, hn⟩ => by
            cases n with
            | zero => exact hn rfl
            | succ n => rw [hh] at hn; exact hx ⟨n, hn⟩
          unfold sWhile
          rw [dif_neg hx, dif_neg hy]
      have fin : ∀ o, o ≠ OutS.bad → (∀ n, whileN c b (n + 1) r m = o) → sWhile c b r m = o := fun o ho hh => by
        rw [sWhile_eq (n := 1) (by rw [hh]; exact ho), hh]
      cases eb : b r m1 with
      | nx r2 m2 => exact go r2 m2 fun n => by rw [one, ec]; simp [eb]
      | cnt r2 m2 => exact go r2 m2 fun n => by rw [one, ec]; simp [eb]
      | brk r2 m2 => exact fin _ (fun z => nomatch z) fun n => by rw [one, ec]; simp [eb]
      | ret w m2 => exact fin _ (fun z => nomatch z) fun n => by rw [one, ec]; simp [eb]
      | exc c2 fs r2 m2 => exact fin _ (fun z => nomatch z) fun n => by rw [one, ec]; simp [eb]
      | bad =>
        have hb : ∀ n, whileN c b n r m = .bad := fun n => by
          cases n with
          | zero => rfl
          | succ n => rw [one, ec]; simp [eb]
        unfold sWhile
        rw [dif_neg fun ⟨n, h⟩ => h (hb n)]
theorem ds_while {X : Cx} {Wx : WX} {pos : Pos} {c : Expr} {body : List Stmt} {fc : Ft} {fb : Fs} (hp : PassesOwn (model X.prog X.w) X.A X.env X.xe) (hc : DT X Wx c fc) (hb : DSs X Wx body fb) :
    DS X Wx (.While c body [] pos) (sWhile fc fb) := ps_weak (ps_while hp hc hb) fun D s H q => by
  obtain ⟨r, ad, m, F, he, hA, hp⟩ := q
  have hx : ∃ n, whileN fc fb n r m ≠ .bad := Classical.byContradiction fun h => by
    unfold sWhile at hp
    rw [dif_neg h] at hp
    exact hp
  obtain ⟨n0, h0⟩ := hx
  rw [sWhile_eq h0] at hp
  refine ⟨fun n s2 H2 => ∃ r2 ad2 m2 F2, EnvOk X.K ad2 F2 r2 s2 ∧ At X.K ad2 m2 F2 H2 ∧ PostS X.K Wx D ad2 F2 H2 (whileN fc fb n r2 m2), ⟨n0, r, ad, m, F, he, hA, hp⟩, fun n s2 H2 p => ?_⟩
  obtain ⟨r2, ad2, m2, F2, he2, ha2, hp2⟩ := p
  cases n with
  | zero => exact hp2.elim
  | succ n =>
    refine ⟨r2, ad2, m2, F2, he2, ha2, Post.mono (stm_post he2 hp2) (fun k m3 ad3 F3 H3 e3 ha3 q0 b rb => ?_) fun _ _ _ _ _ _ _ _ z => z⟩
    subst rb
    have h3 := q0.2.2
    cases k with
    | false => exact iteF (h3 _ _ _ _ Ext.refl ha3 (he2.ext e3))
    | true =>
      simp only [if_true] at h3 ⊢
      refine ⟨fun s' H' => ∃ r2 ad2 m2 F2, EnvOk X.K ad2 F2 r2 s' ∧ At X.K ad2 m2 F2 H' ∧ PostS X.K Wx D ad2 F2 H' (whileN fc fb n r2 m2), fun s' H' p => ⟨n, Nat.lt_succ_self n, p⟩, r2, ad3, m3, F3, he2.ext e3, ha3, ?_⟩
      cases eb : fb r2 m3 with
      | nx r5 m5 => rw [eb] at h3; exact fun s5 ad5 F5 H5 z1 z2 z3 => ⟨r5, ad5, m5, F5, z3, z2, PostS.ext (o := whileN fc fb n r5 m5) h3 z1⟩
      | cnt r5 m5 => rw [eb] at h3; exact fun s5 ad5 F5 H5 z1 z2 z3 => ⟨r5, ad5, m5, F5, z3, z2, PostS.ext (o := whileN fc fb n r5 m5) h3 z1⟩
      | brk r5 m5 => rw [eb] at h3; exact h3
      | ret w m5 => rw [eb] at h3; exact h3
      | exc c fs r5 m5 => rw [eb] at h3; exact h3
      | bad => rw [eb] at h3; exact h3.elim

/-! ### comprehensions -/
def wipeR (r : Rho) : List Nat → Rho
  | [] => r
  | i :: is => (wipeR r is).set i none
open Classical in
noncomputable def lcL (gs : List (Nat × List D)) (tg : Fg) (tt : Ft) (te : Fe) (r : Rho) : List D → List D → Sto → Out (List D)
  | [], acc, m => if grd gs m then .ok acc m else .bad
  | x :: xs, acc, m => if grd gs m then match tg (.d x) r m with
    | some (r1, m1) => match tt r1 m1 with
      | .ok true m2 => match te r1 m2 with
        | .ok w m3 => match frz w m3 with
          | some (d, m4) => if acc.length < sizeLine then lcL gs tg tt te r xs (acc ++ [d]) m4 else .bad
          | none => .bad
        | _ => .bad
      | .ok false m2 => lcL gs tg tt te r xs acc m2
      | _ => .bad
    | none => .bad
    else .bad
noncomputable def dLc (f : Fi) (tg : Fg) (tt : Ft) (te : Fe) (vs : List Nat) : Fl := fun r m => (f r m).bind fun s m1 => lcL s.gs tg tt te (wipeR r vs) s.items [] m1
theorem lcL_grd {gs : List (Nat × List D)} {tg : Fg} {tt : Ft} {te : Fe} {r : Rho} {xs acc : List D} {m : Sto} (h : ¬ grd gs m) : lcL gs tg tt te r xs acc m = .bad := by
  cases xs <;> simp [lcL, h]
theorem wipe_in {s : St} {i : Nat} : ∀ {vs : List Nat}, i ∈ vs → (wipe s vs)[i]? = if i < s.length then some none else none
  | v :: vs, h => by
    unfold wipe
    by_cases e : v = i
    · subst e
      by_cases hl : v < s.length
      · rw [if_pos hl, List.getElem?_set_self (by rw [wipe_length]; exact hl)]
      · rw [if_neg hl, List.getElem?_eq_none]
        rw [List.length_set, wipe_length]
        omega
    · rw [List.getElem?_set_ne e]
      rcases List.mem_cons.mp h with h | h
      · exact absurd h.symm e
      · exact wipe_in h
theorem wipe_eq {s t : St} {sl vs : List Nat} (hs : ∀ i ∈ sl, i ∈ vs) (hl : t.length = s.length) (h : ∀ j, j ∉ sl → t[j]? = (wipe s vs)[j]?) : wipe t vs = wipe s vs := by
  apply List.ext_getElem?
  intro i
  by_cases q : i ∈ vs
  · rw [wipe_in q, wipe_in q, hl]
  · rw [wipe_out q, h i fun z => q (hs i z)]
theorem wipeR_len : ∀ (r : Rho) (vs : List Nat), (wipeR r vs).length = r.length
  | _, [] => rfl
  | r, v :: vs => by unfold wipeR; rw [List.length_set, wipeR_len r vs]
theorem EnvOk.wipe {K : PySem.W.Frag} {ad : List Addr} {F : Hp} {r : Rho} {s : St} (h : EnvOk K ad F r s) : ∀ vs : List Nat, EnvOk K ad F (wipeR r vs) (L2.wipe s vs)
  | [] => h
  | v :: vs => by
    have ih := EnvOk.wipe h vs
    refine ⟨by rw [wipeR_len, wipe_length]; exact h.len, fun i w e => ?_⟩
    unfold wipeR at e
    unfold L2.wipe
    by_cases q : v = i
    · subst q
      by_cases hl : v < (wipeR r vs).length
      · rw [List.getElem?_set_self hl] at e; cases e
      · rw [List.getElem?_eq_none (by rw [List.length_set]; omega)] at e; cases e
    · rw [List.getElem?_set_ne q] at e ⊢
      exact ih.get i w e
section
variable {K : PySem.W.Frag} {ad ad' : List Addr} {F F' H H' : Hp} {m : Sto}
theorem At.side (h : At K ad m F H) {p : Addr} {o : HO} (fp : F p = none) (np : p ∉ ad) : At K ad m F (upd H p o) := by
  refine ⟨fun a u e => ?_, h.len, h.nd, fun i a c e1 e2 => ?_⟩
  · rw [upd_ne (ne_of_none e fp)]; exact h.le _ _ e
  · have ne : a ≠ p := fun z => np (z ▸ List.mem_of_getElem? e1)
    have c0 := h.cel i a c e1 e2
    cases c with
    | lst ds => obtain ⟨q, vs, e, r⟩ := c0; exact ⟨q, vs, by rw [upd_ne ne]; exact e, r⟩
    | fz ds => exact c0
    | dk kvs => obtain ⟨q, vs, e, r⟩ := c0; exact ⟨q, vs, by rw [upd_ne ne]; exact e, r⟩
theorem Ext.side (x : Ext ad F H ad' F' H') {p : Addr} {o : HO} (hp : H p = none) : Ext ad F H ad' F' (upd H' p o) :=
  ⟨x.pre, x.fle, fun a u e n => by rw [upd_ne (ne_of_none e hp)]; exact x.fr a u e n, x.nw, x.gn⟩
end
abbrev W0 : WX := fun _ _ _ _ => False
/-- what stands at p is kept, and stays out of the told things -/
theorem Ext.keep {ad ad' : List Addr} {F F' H H' : Hp} {p : Addr} {o : HO} {K : PySem.W.Frag} {m : Sto} (x : Ext ad F H ad' F' H') (hp : H p = some o) (np : p ∉ ad) : H' p = some o ∧ p ∉ ad' :=
  ⟨x.fr p o hp np, fun z => by have := x.nw p z np; rw [hp] at this; cases this⟩
section
variable {X : Cx} {Wx : WX} {pos : Pos} {tg it elt : Expr} {f : Fi} {g : Fg} {ft : Ft} {fe : Fe} {sl vs : List Nat}
theorem lc_w (hsl : ∀ i ∈ sl, i ∈ vs) {s : St} {H : Hp} {Q : VK} (q : LF X.K Wx (dLc f g ft fe vs) s H Q) : tLc (LI X.K Wx f) (LG X.K sl g) (LT X.K W0 ft) (LE X.K W0 fe) vs s H Q := by
  obtain ⟨r, ad, m, F, he, hA, hp⟩ := q
  refine ⟨r, ad, m, F, he, hA, Post.mono (Post.bind hp) (fun src m1 ad1 F1 H1 e1 ha1 q0 J hJ Dn hD => ?_) fun _ _ _ _ _ _ _ _ z => z⟩
  obtain ⟨_, _, h1⟩ := q0
  obtain ⟨G, Y, wk, hG, hY⟩ := hJ
  obtain ⟨nD, fD⟩ := ha1.out hD
  have he1 := (he.ext e1).wipe vs
  refine lc_it wk (fun i H2 => ∃ ad2 m2 F2 acc ws, Ext ad1 F1 H1 ad2 F2 H2 ∧ At X.K ad2 m2 F2 H2 ∧ H2 Dn = some (.lst ws) ∧ F2 Dn = none ∧ Dn ∉ ad2 ∧ RpA X.K F2 ws acc ∧
      Post X.K ad1 F1 H1 (lcL src.gs g ft fe (wipeR r vs) (src.items.drop i) acc m2) (fun xs _ ad' F' H' => ∀ p vs, H p = none → H' p = some (.lst vs) → F' p = none → p ∉ ad' → RpA X.K F' vs xs → Q (.ref p) H') (XP X.K Wx s))
    ⟨ad1, m1, F1, [], [], Ext.refl.side hD, (ha1.side fD nD), upd_same, fD, nD, .nil, h1⟩ (fun i H2 hi p => ?_) (fun i x H2 H3 hi p y => ?_) fun H2 p => ?_
  · obtain ⟨ad2, m2, F2, acc, ws, x2, ha2, _, _, _, _, hp2⟩ := p
    by_cases hgd : grd src.gs m2
    · exact hG ad2 F2 H2 m2 x2 ha2 hgd
    · rw [lcL_grd hgd] at hp2; exact hp2.elim
  · obtain ⟨ad2, m2, F2, acc, ws, x2, ha2, d1, d2, d3, d4, hp2⟩ := p
    by_cases hgd : grd src.gs m2
    · obtain ⟨F3, d, hd, x3, ha3, rp⟩ := hY i ad2 F2 H2 m2 x H3 hi x2 ha2 hgd y
      have e := List.drop_eq_getElem_cons hi
      rw [List.getElem?_eq_getElem hi] at hd
      cases hd
      rw [e] at hp2
      unfold lcL at hp2
      rw [if_pos hgd] at hp2
      have xx3 := x2.trans x3
      obtain ⟨d1', d3'⟩ := x3.keep (K := X.K) (m := m2) d1 d3
      have d2' := x3.gn _ _ d2 d1 d3
      refine ⟨.d src.items[i], wipeR r vs, ad2, m2, F3, rp, (he1.ext xx3), ha3, ?_⟩
      cases et : g (.d src.items[i]) (wipeR r vs) m2 with
      | none => rw [et] at hp2; exact hp2
      | some p =>
        obtain ⟨r4, m4⟩ := p
        rw [et] at hp2
        dsimp only at hp2 ⊢
        refine fun s' ad4 F4 H4 y1 y2 y3 y4 y5 => ⟨wipe_eq hsl (by rw [y4, wipe_length]) y5, ?_⟩
        have xx4 := xx3.trans y1
        obtain ⟨d1'', d3''⟩ := y1.keep (K := X.K) (m := m2) d1' d3'
        have d2'' := y1.gn _ _ d2' d1' d3'
        have d4'' := (d4.mono x3.fle).mono y1.fle
        refine ⟨r4, ad4, m4, F4, y3, y2, ?_⟩
        cases eb : ft r4 m4 with
        | bad => rw [eb] at hp2; exact hp2
        | exc c fs m5 => rw [eb] at hp2; exact hp2.elim
        | ok b m5 =>
          rw [eb] at hp2
          refine fun ad5 F5 H5 z1 z2 b' hb' => ?_
          subst hb'
          have xx5 := xx4.trans z1
          obtain ⟨c1, c3⟩ := z1.keep (K := X.K) (m := m2) d1'' d3''
          have c2 := z1.gn _ _ d2'' d1'' d3''
          cases b with
          | false => exact iteF ⟨ad5, m5, F5, acc, ws, xx5, z2, c1, c2, c3, d4''.mono z1.fle, hp2⟩
          | true =>
            dsimp only at hp2
            refine iteT ⟨r4, ad5, m5, F5, y3.ext z1, z2, ?_⟩
            cases ee : fe r4 m5 with
            | bad => rw [ee] at hp2; exact hp2
            | exc c fs m6 => rw [ee] at hp2; exact hp2.elim
            | ok w m6 =>
              rw [ee] at hp2
              dsimp only at hp2
              refine fun ad6 F6 H6 u1 u2 yv hyv => ?_
              have xx6 := xx5.trans u1
              obtain ⟨b1, b3⟩ := u1.keep (K := X.K) (m := m2) c1 c3
              have b2 := u1.gn _ _ c2 c1 c3
              cases ef : frz w m6 with
              | none => rw [ef] at hp2; exact hp2.elim
              | some pr =>
                obtain ⟨dd, m7⟩ := pr
                rw [ef] at hp2
                dsimp only at hp2
                obtain ⟨F7, a7, x7, p7⟩ := frz_w u2 hyv ef
                have b2' := x7.gn _ _ b2 b1 b3
                have dA := ((d4''.mono z1.fle).mono u1.fle).mono x7.fle
                by_cases hz : acc.length < sizeLine
                · rw [if_pos hz] at hp2
                  exact ⟨ws, b1, by rw [dA.len]; exact hz, ad6, m7, F7, acc ++ [dd], ws ++ [yv], (xx6.trans x7).side hD, a7.side b2' b3, upd_same, b2', b3, dA.app (.cons p7 .nil), hp2⟩
                · rw [if_neg hz] at hp2; exact hp2.elim
    · rw [lcL_grd hgd] at hp2; exact hp2.elim
  · obtain ⟨ad2, m2, F2, acc, ws, x2, ha2, d1, d2, d3, d4, hp2⟩ := p
    rw [List.drop_length] at hp2
    by_cases hgd : grd src.gs m2
    · unfold lcL at hp2
      rw [if_pos hgd] at hp2
      exact hp2 _ _ _ x2 ha2 Dn ws (e1.was hD nD) d1 d2 d3 d4
    · rw [lcL_grd hgd] at hp2; exact hp2.elim
theorem df_lc (hsl : ∀ i ∈ sl, i ∈ vs) {e : Expr} (h : PE X e (tLc (LI X.K Wx f) (LG X.K sl g) (LT X.K W0 ft) (LE X.K W0 fe) vs)) : DF X Wx e (dLc f g ft fe vs) := pe_weak h fun s H Q q => lc_w hsl q
def tTru : Ft := fun _ m => .ok true m
theorem dts_nil {X : Cx} : PTs X [] (LT X.K W0 tTru) := ⟨fun p s σ H Q I h => pts_nil.run p s σ H Q I (by
  obtain ⟨r, ad, m, F, he, hA, hp⟩ := h
  exact hp _ _ _ Ext.refl hA _ rfl)⟩
end
/-- name = [..] : the list is made within the store -/
def sSetF (i : Nat) (cell : Bool) (f : Fl) : Fs := sAsg (if cell then dCell f else dData f) (gN i)
theorem ds_setF {X : Cx} {Wx : WX} {st : Stmt} {i : Nat} {f : Fl} {cell : Bool} (h : PS X st (tAsg (LF X.K Wx f) (gName i))) : DS X Wx st (sSetF i cell f) := ps_weak h fun D s H q => by
  obtain ⟨r, ad, m, F, he, hA, hp⟩ := q
  unfold sSetF sAsg at hp
  refine ⟨r, ad, m, F, he, hA, ?_⟩
  cases e : f r m with
  | bad => cases cell <;> simp [dCell, dData, e, PostS] at hp
  | exc c fs m' =>
    have hp' : PostS X.K Wx D ad F H (.exc c fs r m') := by cases cell <;> simpa [dCell, dData, e] using hp
    exact fun ad' F' H' e' h' d x => hp' _ _ _ _ _ e' h' (he.ext e') x
  | ok xs m1 =>
    refine fun ad1 F1 H1 e1 a1 p vs h0 hp' fp np rp => ?_
    cases cell with
    | true =>
      have hq : PostS X.K Wx D ad F H (.nx (r.set i (some (.c m1.length))) (m1 ++ [.lst xs])) := by simpa [dCell, e, gN] using hp
      have a2 := a1.grow (c := .lst xs) ⟨fp, vs, hp', rp⟩ np
      refine hq _ _ _ _ (e1.grow h0) a2 ((he.ext (e1.grow h0)).set i ⟨p, ?_, rfl⟩)
      rw [← a1.len, List.getElem?_append_right (Nat.le_refl _), Nat.sub_self]
      rfl
    | false =>
      have hq : PostS X.K Wx D ad F H (.nx (r.set i (some (.d (.list xs)))) m1) := by simpa [dData, e, gN] using hp
      obtain ⟨a2, x2⟩ := a1.adopt e1 h0 hp' fp np
      exact hq _ _ _ _ x2 a2 ((he.ext x2).set i (.lst upd_same (rp.mono fun b u q => by rw [upd_ne (ne_of_none q fp)]; exact q)))
end DL

namespace DL
open PySem L2 PyProof.Rows
/-! ### a def by data -/
structure FnD (P : Program) (w : World) (K : PySem.W.Frag) (mg : Str → Option Value) (base : Heap) (k : Nat) (f : Addr) (fd : FuncData) (ps : List Str) (Fn : List W → Sto → Out W) : Prop where
  run : ∀ (A : Around) (outer : List Env) (s : Shared) (H : Hp) (args : Args) (us : List Value) (ws : List W) (vs : List V) (Q : VK) (E : XK) (ad : List Addr) (m : Sto) (F : Hp),
    Room k A → A.guards = some [] → Env0 P w K mg base A outer s H → BindsTo s fd args (ps.zip us) → Vals vs us → vs.length = ps.length → RWs K ad F ws vs → At K ad m F H →
    Post K ad F H (Fn ws m) (fun a _ ad' F' H' => ∀ b, RW K ad' F' a b → Q b H') (fun c fs _ _ F' H' => ∀ d, XR K F' H' d fs → E c d H') →
    codeAny (model P w) A (.call (.ref f) args) (CR (L2.CX P w) outer P w H s Q E) s
theorem FnD.mono {P : Program} {w : World} {K : PySem.W.Frag} {mg : Str → Option Value} {base : Heap} {j k : Nat} {f : Addr} {fd : FuncData} {ps : List Str} {Fn : List W → Sto → Out W} (h : FnD P w K mg base j f fd ps Fn) (q : j ≤ k) : FnD P w K mg base k f fd ps Fn :=
  ⟨fun A o s H a us ws vs Q E ad m F hr => h.run A o s H a us ws vs Q E ad m F (hr.mono q)⟩
def runB (n : Nat) (f : Fs) (ws : List W) (m : Sto) : Out W := match f (ws.map some ++ List.replicate (n - ws.length) none) m with
  | .ret w m1 => .ok w m1
  | .nx _ m1 => .ok (.d .none) m1
  | .exc c fs _ m1 => .exc c fs m1
  | _ => .bad
theorem envOk_start {K : PySem.W.Frag} {ad : List Addr} {F : Hp} {N : List Str} {ws : List W} {vs : List V} (r : RWs K ad F ws vs) : EnvOk K ad F (ws.map some ++ List.replicate (N.length - ws.length) none) (L2.start N vs) := by
  have hl := r.len
  refine ⟨by unfold L2.start; simp [hl], fun i w e => ?_⟩
  by_cases hi : i < ws.length
  · rw [List.getElem?_append_left (by simpa using hi), List.getElem?_map, List.getElem?_eq_getElem hi] at e
    cases e
    obtain ⟨v, h1, h2⟩ : ∃ v, vs[i]? = some v ∧ RW K ad F ws[i] v := by
      have go : ∀ {ws : List W} {vs : List V} {i : Nat} (hi : i < ws.length), RWs K ad F ws vs → ∃ v, vs[i]? = some v ∧ RW K ad F ws[i] v := by
        intro ws
        induction ws with
        | nil => intro vs i hi; exact absurd hi (Nat.not_lt_zero _)
        | cons w ws ih =>
          intro vs i hi r
          cases r with
          | cons a b =>
            cases i with
            | zero => exact ⟨_, rfl, a⟩
            | succ i =>
              obtain ⟨v, h1, h2⟩ := ih (i := i) (by simpa using hi) b
              exact ⟨v, by simpa using h1, h2⟩
      exact go hi r
    refine ⟨v, ?_, h2⟩
    unfold L2.start
    rw [List.getElem?_append_left (by rw [List.length_map, ← hl]; exact hi), List.getElem?_map, h1]
    rfl
  · rw [List.getElem?_append_right (by simpa using hi), List.getElem?_replicate] at e
    split at e <;> cases e
section
variable {P : Program} {w : World} {K : PySem.W.Frag} {mg : Str → Option Value} {base : Heap}
/-- THE RULE: a def by its body -/
theorem okD {x qual : Str} {st : Stmt} {f : Addr} {fd : FuncData} {N ps : List Str} {k : Nat} {g : Fs} (F : Fun K x qual st f fd) (S : FnScope N ps (defScope st))
    (hb : ∀ (cdv : Value) (A : Around) (outer : List Env) (s : Shared) (H : Hp) (E : XK), Room k (A.deeper (envOfC qual (defScope st) s.heap.objs.size f cdv)) → (A.deeper (envOfC qual (defScope st) s.heap.objs.size f cdv)).guards = some [] →
      DSs (cxOf (L2.CX P w) P w K mg base N qual (defScope st) f cdv A outer s H E) (fun c d _ H => E c d H) (defBody st) g) : FnD P w K mg base (k + 1) f fd ps (runB N.length g) := by
  obtain ⟨oc, od, kV, doc, pm, an, cdv, ct, osl, rfl, lk, hcd⟩ := F.ex
  refine ⟨fun A outer s H args us ws vs Q E ad m Fz hr hg e0 hbn r hl rw hA hp => ?_⟩
  have kx : K.In s.heap := e0.mod.kin.keeps fun b o e => (e0.bs b o e).1
  have lim : s.heap.NoLimit := e0.mod.nolimit.keeps fun b o e => (e0.bs b o e).1
  have kinds : ∀ y ∈ ps.zip us, (defScope st).names.lookup y.1 = some .local ∨ ((defScope st).names.lookup y.1 = some .cell ∧ ((cellsFrom (s.heap.objs.size + 1) (defScope st).names []).lookup y.1).isSome = true) := by
    rintro ⟨n, v⟩ hy
    have hn : n ∈ ps := (List.of_mem_zip hy).1
    cases S.par n hn with
    | inl q => exact Or.inl q
    | inr q => exact Or.inr ⟨q, PySem.W.cellsFrom_some _ _ _ (Or.inl q)⟩
  refine codeAny_call_function hr.depth (kx _ _ lk) rfl S.co S.gen rfl (PySem.W.codeRec_of kx hcd) (hbn _ _ _ _ ?_)
  refine wpAny_newFunctionEnv_cells S.kind kinds fun env he s1 xx => ?_
  subst he
  refine ⟨lim.keeps xx.toInCall.keep, codeAny_func ?_⟩
  have body := hb cdv A outer s H E (hr.deeper _) hg
  have I := inv_start (CX := L2.CX P w) (E := E) (mg := mg) (base := base) S hr.hd e0 hl r xx
  refine wpAny_mono (body.run [] s1 (L2.start N vs) H { nx := fun _ H' => Q .non H', rt := Q } I ?_) (fun fl s' hs => ?_) fun e s' hs => hs
  · refine ⟨_, ad, m, Fz, envOk_start rw, hA, ?_⟩
    unfold runB at hp
    cases e : g (ws.map some ++ List.replicate (N.length - ws.length) none) m with
    | nx r1 m1 =>
      rw [e] at hp
      exact fun s' ad' F' H' x1 x2 x3 => hp _ _ _ x1 x2 _ Rp.non
    | ret w1 m1 =>
      rw [e] at hp
      exact fun v ad' F' H' x1 x2 x3 => hp _ _ _ x1 x2 _ x3
    | exc c fs r1 m1 =>
      rw [e] at hp
      exact fun s' d ad' F' H' x1 x2 x3 x4 => hp _ _ _ x1 x2 d x4
    | brk r1 m1 => rw [e] at hp; exact hp.elim
    | cnt r1 m1 => rw [e] at hp; exact hp.elim
    | bad => rw [e] at hp; exact hp.elim
  · cases fl with
    | ret u =>
      obtain ⟨v, σ', H', J, rv, q⟩ := hs
      exact ⟨v, H', J.os, J.bare, J.base, J.hok, rv, q⟩
    | next =>
      obtain ⟨σ', H', J, q⟩ := hs
      exact ⟨V.non, H', J.os, J.bare, J.base, J.hok, rfl, q⟩
    | brk => exact (show False from let ⟨_, _, _, q⟩ := hs; q).elim
    | cont => exact (show False from let ⟨_, _, _, q⟩ := hs; q).elim
end
def dCall (Fn : List W → Sto → Out W) (fs : Fa) : Fe := fun r m => (fs r m).bind fun ws m1 => Fn ws m1
section
variable {X : Cx} {Wx : WX} {k : Nat} {f : Addr} {fd : FuncData} {ps : List Str} {Fn : List W → Sto → Out W} {x : Str} {p pos : Pos} {e : Expr} {es : List Expr} {fs : Fa}
theorem run_D {dws : List W} {dvs : List V} {ds : List Value} (hF : FnD X.prog X.w X.K X.mg X.base k f fd ps Fn) (hr : Room k X.A) (hg : X.A.guards = some []) (tk : Takes X Wx) (hb : Binds X.K fd ps ds) (hd : Vals dvs ds) (hw : ∀ ad F, RWs X.K ad F dws dvs)
    {pins : List (Addr × Obj)} {σ : L2.St} {H : Hp} {s : Shared} {Q : VK} {us : List Value} {vs : List V} {ws : List W} {ad : List Addr} {m : Sto} {F : Hp}
    (hl : (vs ++ dvs).length = ps.length) (I : Inv X pins σ H s) (r : Vals vs us) (rw : RWs X.K ad F ws vs) (hA : At X.K ad m F H) (hp : Post X.K ad F H (Fn (ws ++ dws) m) (fun a _ ad' F' H' => ∀ b, RW X.K ad' F' a b → Q b H') (XP X.K Wx σ)) :
    wpAny (model X.prog X.w) X.A (call (.ref f) us) (EP X pins σ Q) X.xe s := by
  have r2 : Vals (vs ++ dvs) (us ++ ds) := r.append hd
  have rw2 : RWs X.K ad F (ws ++ dws) (vs ++ dvs) := by
    have go : ∀ {a : List W} {b : List V}, RWs X.K ad F a b → RWs X.K ad F (a ++ dws) (b ++ dvs) := by
      intro a
      induction a with
      | nil => intro b h; cases h; exact hw ad F
      | cons y ys ih => intro b h; cases h with | cons q t => exact .cons q (ih t)
    exact go rw
  refine wpAny_call (codeAny_mono (hF.run X.A X.stack s H ⟨us, []⟩ (us ++ ds) (ws ++ dws) (vs ++ dvs) Q (fun c d H' => Wx c d σ H') ad m F hr hg I.env0 (hb s us I.kIn (by rw [← r2.length]; exact hl)) r2 hl rw2 hA hp) fun res s' hq => ?_)
  cases res with
  | error ex => exact tk ex s' (XE.of_call I (fun _ _ _ q => q) hq)
  | ok fl =>
    cases fl with
    | ret u => exact I.after hq
    | next => exact (show False from hq).elim
    | brk => exact (show False from hq).elim
    | cont => exact (show False from hq).elim
/-- f(..) with as many arguments as parameters -/
theorem de_call (hF : FnD X.prog X.w X.K X.mg X.base k f fd ps Fn) (hr : Room k X.A) (hg : X.A.guards = some []) (tk : Takes X Wx) (hgl : Gl X x) (hm : X.mg x = some (.ref f)) (hk : PySem.W.keepIn X.K (.ref f) = true) (hb : Binds X.K fd ps [])
    (hn : (e :: es).length = ps.length) (ha : DA X Wx (e :: es) fs) (hfs : ∀ r m ws m1, fs r m = .ok ws m1 → ws.length = (e :: es).length) (hdb : (x == ("__debug__" : Str)) = false := by decide) (he : starEach (e :: es) X.env = (false, eval e X.env) :: starEach es X.env := by rfl)
    (hpl : (backTo pos (starEach es X.env)).any (·.1) = false := by rfl) : DE X Wx (.Call (.Name x p) (e :: es) [] pos) (dCall Fn fs) := by
  refine ⟨fun pins s σ H Q I h => ?_⟩
  obtain ⟨r, ad, m, F, hE, hA, hp⟩ := h
  refine wpAny_Call_Name_kw (ld_glob I hgl hm ?_ hdb)
  have step : LA X.K Wx fs σ H fun vs H1 => vs.length = ps.length ∧ ∃ ws ad1 m1 F1, RWs X.K ad1 F1 ws vs ∧ At X.K ad1 m1 F1 H1 ∧ Post X.K ad1 F1 H1 (Fn ws m1) (fun a _ ad' F' H' => ∀ b, RW X.K ad' F' a b → Q b H') (XP X.K Wx σ) := by
    refine ⟨r, ad, m, F, hE, hA, ?_⟩
    unfold dCall at hp
    cases ef : fs r m with
    | bad => rw [ef] at hp; exact hp
    | exc c l m1 => rw [ef] at hp; exact hp
    | ok ws m1 =>
      rw [ef] at hp
      refine fun ad1 F1 H1 x1 x2 vs rv => ⟨by rw [← RWs.len rv, hfs _ _ _ _ ef, hn], ws, ad1, m1, F1, rv, x2, Post.ext (o := Fn ws m1) hp x1⟩
  refine PySem.W.callWith_K (h₀ := X.base) I.ok.mod.kin hk (thn (ha.run pos pins s σ H _ I step) fun us s1 ⟨vs, H1, I1, rv, hl, ws, ad1, m1, F1, rw1, a1, hp1⟩ => ⟨I1.kIn, ?_⟩) he hpl
  refine run_D (dws := []) (dvs := []) (ds := []) hF hr hg tk hb .nil (fun _ _ => .nil) (by rw [List.append_nil]; exact hl) I1 rv rw1 a1 ?_
  rw [List.append_nil]
  exact hp1
theorem len_cons {f : Fe} {fs : Fa} {n : Nat} (h : ∀ r m ws m1, fs r m = .ok ws m1 → ws.length = n) : ∀ r m ws m1, dCons f fs r m = .ok ws m1 → ws.length = n + 1 := by
  intro r m ws m1 e
  unfold dCons at e
  cases e1 : f r m with
  | bad => rw [e1] at e; cases e
  | exc c l m2 => rw [e1] at e; cases e
  | ok w m2 =>
    rw [e1] at e
    simp only [Out.bind_ok] at e
    cases e2 : fs r m2 with
    | bad => rw [e2] at e; cases e
    | exc c l m3 => rw [e2] at e; cases e
    | ok ws2 m3 =>
      rw [e2] at e
      simp only [Out.bind_ok, Out.ok.injEq] at e
      rw [← e.1, List.length_cons, h _ _ _ _ e2]
theorem len_nil : ∀ r m ws m1, dNil r m = .ok ws m1 → ws.length = 0 := by
  intro r m ws m1 e
  unfold dNil at e
  cases e
  rfl
end

/-! ### repr -/
def rRepr (K : PySem.W.Frag) : List V → Hp → VK → Prop := fun xs H Q => ∃ x d, xs = [x] ∧ Dp K H x d ∧ d.showable = true ∧ d.hasDict = false ∧ d.depth ≤ 64 ∧ d.shown.length ≤ sizeLine ∧ Q (.str d.shown) H
theorem call_repr {X : Cx} {k : Nat} (hr : Room k X.A) (hg : X.A.guards = some []) : CallR X (.builtin "repr") (rRepr X.K) := by
  intro pins s σ H xs us Q I r h
  obtain ⟨x, d, rfl, hd, h1, h2, h3, h4, q⟩ := h
  obtain ⟨u, rfl, ru⟩ := vals1 r
  cases hd with
  | non => cases ru; exact PySem.P.repr_of_none ⟨.str _, H, I.tok _, ⟨_, rfl⟩, q⟩
  | bl b => cases ru; exact PySem.P.repr_of_bool ⟨.str _, H, I.tok _, ⟨_, rfl⟩, q⟩
  | int i =>
    obtain ⟨t, rfl⟩ := ru
    have h1' : i.natAbs.log2 < 1920 := by simpa [PyData.showable] using h1
    exact PySem.P.repr_of_int h1' ⟨.str _, H, I.tok _, ⟨_, rfl⟩, q⟩
  | str x =>
    obtain ⟨t, rfl⟩ := ru
    exact PySem.P.repr_of_str ⟨.str _, H, I.tok _, ⟨_, rfl⟩, q⟩ h4
  | lst h5 h6 =>
    obtain ⟨as, rd⟩ := Dp.reads I _ _ _ (.lst h5 h6) ru
    cases ru
    exact repr_of_reads' rd h1 (PyData.noDict_hsm h2) hg (by have := hr.un; omega) (fun _ _ e => e) (fun h' u tk hk => ⟨.str _, H, I.kept hk, ⟨_, rfl⟩, q⟩) h4
  | tup h5 h6 =>
    obtain ⟨as, rd⟩ := Dp.reads I _ _ _ (.tup h5 h6) ru
    cases ru
    exact repr_of_reads' rd h1 (PyData.noDict_hsm h2) hg (by have := hr.un; omega) (fun _ _ e => e) (fun h' u tk hk => ⟨.str _, H, I.kept hk, ⟨_, rfl⟩, q⟩) h4
def okShow (d : D) : Bool := d.showable && !d.hasDict && decide (d.depth ≤ 64) && decide (d.shown.length ≤ sizeLine)
def gRepr : List W → Sto → Option W
  | [w], m => match datOf w m with | some x => if okShow x = true then some (.d (.str x.shown)) else none | none => none
  | _, _ => none
theorem cd_repr {K : PySem.W.Frag} : CallD K (rRepr K) gRepr := by
  intro ws z vs ad m F H Q r ha e q
  unfold gRepr at e
  split at e
  · obtain ⟨v, rfl, r1⟩ := r.one
    split at e
    · rename_i x hx
      split at e
      · rename_i hs
        cases e
        unfold okShow at hs
        simp only [Bool.and_eq_true, decide_eq_true_eq, Bool.not_eq_true'] at hs
        exact ⟨_, _, rfl, ha.dp r1 hx, hs.1.1.1, hs.1.1.2, hs.1.2, hs.2, q _ F H Ext.refl ha (.str _)⟩
      · cases e
    · cases e
  · cases e

/-! ### changes in place -/
def cellL (w : W) (m : Sto) : Option Nat := match w with | .c i => (match m[i]? with | some (.lst _) => some i | _ => none) | _ => none
theorem cellL_is {w : W} {m : Sto} {i : Nat} (h : cellL w m = some i) : w = .c i ∧ ∃ xs, m[i]? = some (.lst xs) := by
  unfold cellL at h
  split at h
  · split at h
    · cases h
      exact ⟨rfl, _, by assumption⟩
    · cases h
  · cases h
def MtD (K : PySem.W.Frag) (r : V → List V → Hp → VK → Prop) (g : Nat → List W → Sto → Option (W × Sto)) : Prop := ∀ (i : Nat) (ws : List W) (z : W) (u : V) (vs : List V) (ad : List Addr) (m m' : Sto) (F H : Hp) (Q : VK),
  RW K ad F (.c i) u → RWs K ad F ws vs → At K ad m F H → g i ws m = some (z, m') → (∀ b F' H', Ext ad F H ad F' H' → At K ad m' F' H' → RW K ad F' z b → Q b H') → r u vs H Q
def dMt (g : Nat → List W → Sto → Option (W × Sto)) (f : Fe) (fs : Fa) : Fe := fun r m => (f r m).bind fun w m1 => match cellL w m1 with
  | some i => (fs r m1).bind fun ws m2 => match g i ws m2 with | some (z, m3) => .ok z m3 | none => .bad
  | none => .bad
section
variable {K : PySem.W.Frag} {Wx : WX} {f : Fe} {fs : Fa}
theorem ty_cell {ad : List Addr} {m : Sto} {F H : Hp} {w : W} {u : V} {i : Nat} (h : At K ad m F H) (r : RW K ad F w u) (e : cellL w m = some i) : tyV K "list" u H := by
  obtain ⟨rfl, xs, hm⟩ := cellL_is e
  obtain ⟨a, ha, rfl⟩ := r
  obtain ⟨_, vs, hv, _⟩ := h.cel _ _ _ ha hm
  exact .inl ⟨rfl, vs, SqL.of hv⟩
theorem mt_w {r : V → List V → Hp → VK → Prop} {g : Nat → List W → Sto → Option (W × Sto)} (hg : MtD K r g) {s : L2.St} {H : Hp} {Q : VK} (q : LE K Wx (dMt g f fs) s H Q) : tBM K "list" r (LE K Wx f) (LA K Wx fs) s H Q := by
  obtain ⟨ρ, ad, m, F, he, hA, hp⟩ := q
  refine ⟨_, _, _, _, he, hA, Post.mono (Post.bind hp) (fun w m1 ad1 F1 H1 e1 ha1 q0 u rw1 => ?_) fun _ _ _ _ _ _ _ _ z => z⟩
  obtain ⟨_, _, h1⟩ := q0
  cases ec : cellL w m1 with
  | none => rw [ec] at h1; exact h1.elim
  | some i =>
    rw [ec] at h1
    refine ⟨ty_cell ha1 rw1 ec, ?_⟩
    obtain ⟨rfl, _⟩ := cellL_is ec
    have he1 := he.ext e1
    refine ⟨_, _, _, _, he1, ha1, Post.mono (Post.bind h1) (fun ws m2 ad2 F2 H2 e2 ha2 q0 vs rw2 => ?_) fun _ _ _ _ _ _ _ _ z => z⟩
    obtain ⟨_, _, h2⟩ := q0
    cases eg : g i ws m2 with
    | none => rw [eg] at h2; exact h2.elim
    | some p =>
      obtain ⟨z, m3⟩ := p
      rw [eg] at h2
      exact hg i ws z u vs ad2 m2 m3 F2 H2 Q (rw1.ext e2) rw2 ha2 eg fun b F' H' x1 x2 x3 => h2 _ _ _ x1 x2 b x3
theorem mt0_w {r : V → List V → Hp → VK → Prop} {g : Nat → List W → Sto → Option (W × Sto)} (hg : MtD K r g) {s : L2.St} {H : Hp} {Q : VK} (q : LE K Wx (dMt g f dNil) s H Q) : tBM0 K "list" r (LE K Wx f) s H Q := by
  obtain ⟨ρ, ad, m, F, he, hA, hp⟩ := q
  refine ⟨_, _, _, _, he, hA, Post.mono (Post.bind hp) (fun w m1 ad1 F1 H1 e1 ha1 q0 u rw1 => ?_) fun _ _ _ _ _ _ _ _ z => z⟩
  obtain ⟨_, _, h1⟩ := q0
  cases ec : cellL w m1 with
  | none => rw [ec] at h1; exact h1.elim
  | some i =>
    rw [ec] at h1
    refine ⟨ty_cell ha1 rw1 ec, ?_⟩
    obtain ⟨rfl, _⟩ := cellL_is ec
    unfold dNil at h1
    dsimp only at h1
    rw [Out.bind_ok] at h1
    cases eg : g i [] m1 with
    | none => rw [eg] at h1; exact h1.elim
    | some p =>
      obtain ⟨z, m3⟩ := p
      rw [eg] at h1
      exact hg i [] z u [] ad1 m1 m3 F1 H1 Q rw1 .nil ha1 eg fun b F' H' x1 x2 x3 => h1 _ _ _ x1 x2 b x3
end
/-- xs.append(e) -/
def gApp (i : Nat) : List W → Sto → Option (W × Sto)
  | [y], m => match frz y m with
    | some (x, m1) => (match m1[i]? with
      | some (.lst xs) => if xs.length < sizeLine then some (.d .none, m1.set i (.lst (xs ++ [x]))) else none
      | _ => none)
    | none => none
  | _, _ => none
theorem md_app {K : PySem.W.Frag} : MtD K rAppend gApp := by
  intro i ws z u vs ad m m' F H Q r1 r2 hA e q
  unfold gApp at e
  split at e
  · rename_i y m0
    obtain ⟨v, rfl, ry⟩ := r2.one
    split at e
    · rename_i x m1 ef
      split at e
      · rename_i xs hm
        split at e
        · rename_i hz
          cases e
          obtain ⟨a, ha, rfl⟩ := r1
          obtain ⟨F', h', x', p'⟩ := frz_w hA ry ef
          obtain ⟨fa, ws, hv, s⟩ := h'.cel _ _ _ ha hm
          obtain ⟨h2, x2⟩ := h'.write (o := .lst (ws ++ [v])) (c := .lst (xs ++ [x])) ha fa ⟨fa, ws ++ [v], upd_same, s.app (.cons p' .nil)⟩
          exact ⟨a, ws, v, rfl, rfl, hv, by rw [s.len]; exact hz, q _ _ _ (x'.trans x2) h2 Rp.non⟩
        · cases e
      · cases e
    · cases e
  · cases e
/-- xs.pop() -/
def gPop (i : Nat) : List W → Sto → Option (W × Sto)
  | [], m => match m[i]? with
    | some (.lst xs) => (match xs[xs.length - 1]? with | some x => some (.d x, m.set i (.lst xs.dropLast)) | none => none)
    | _ => none
  | _, _ => none
theorem md_pop {K : PySem.W.Frag} : MtD K rPop gPop := by
  intro i ws z u vs ad m m' F H Q r1 r2 hA e q
  unfold gPop at e
  split at e
  · cases r2
    split at e
    · rename_i xs hm
      split at e
      · rename_i x hx
        cases e
        obtain ⟨a, ha, rfl⟩ := r1
        obtain ⟨fa, ws, hv, s⟩ := hA.cel _ _ _ ha hm
        obtain ⟨v, hv2, rp⟩ := s.get hx
        obtain ⟨h2, x2⟩ := hA.write (o := .lst ws.dropLast) (c := .lst xs.dropLast) ha fa ⟨fa, ws.dropLast, upd_same, s.dropLast⟩
        exact ⟨a, ws, v, rfl, rfl, hv, by rw [s.len]; exact hv2, q _ _ _ x2 h2 rp⟩
      · cases e
    · cases e
  · cases e
/-- xs.pop(k) -/
def gPopAt (i : Nat) : List W → Sto → Option (W × Sto)
  | [.d (.int k)], m => match m[i]? with
    | some (.lst xs) => if 0 ≤ k ∧ k < 2 ^ 62 then (match xs[k.toNat]? with | some x => some (.d x, m.set i (.lst (xs.eraseIdx k.toNat))) | none => none) else none
    | _ => none
  | _, _ => none
theorem md_popAt {K : PySem.W.Frag} : MtD K rPopAt gPopAt := by
  intro i ws z u vs ad m m' F H Q r1 r2 hA e q
  unfold gPopAt at e
  split at e
  · obtain ⟨v, rfl, ry⟩ := r2.one
    cases ry
    split at e
    · rename_i xs hm
      split at e
      · rename_i hk
        split at e
        · rename_i x hx
          cases e
          obtain ⟨a, ha, rfl⟩ := r1
          obtain ⟨fa, ws, hv, s⟩ := hA.cel _ _ _ ha hm
          obtain ⟨v, hv2, rp⟩ := s.get hx
          obtain ⟨h2, x2⟩ := hA.write (o := .lst _) (c := .lst _) ha fa ⟨fa, _, upd_same, s.eraseIdx (Int.toNat _)⟩
          have hl : Int.toNat _ < xs.length := (List.getElem?_eq_some_iff.mp hx).1
          refine ⟨a, ws, _, _, v, rfl, rfl, hv, by omega, by omega, (ixN_seq (j := Int.toNat _) ?_).1, hv2, q _ _ _ x2 h2 rp⟩
          unfold ixN
          rw [if_pos hk.1, if_pos (by rw [s.len]; omega)]
        · cases e
      · cases e
    · cases e
  · cases e
/-- xs[k] = e, a cell -/
def gSet (fo fi : Fe) : Fg := fun w r m => match fo r m with
  | .ok wo m1 => (match fi r m1 with
    | .ok (.d (.int k)) m2 => (match cellL wo m2 with
      | some i => (match frz w m2 with
        | some (x, m3) => (match m3[i]? with
          | some (.lst xs) => (match ixN xs.length k with | some j => some (r, m3.set i (.lst (xs.set j x))) | none => none)
          | _ => none)
        | none => none)
      | none => none)
    | _ => none)
  | _ => none
theorem dg_set {X : Cx} {o i : Expr} {pos : Pos} {fo fi : Fe} (h : PG X (.Subscript o i pos) (L2.gSub (LE X.K W0 fo) (LE X.K W0 fi) rSetL)) : DG X [] (.Subscript o i pos) (gSet fo fi) := pg_weak h fun v s H q z => by
  obtain ⟨w, r, ad, m, F, h1, h2, h3, h4⟩ := z
  unfold gSet at h4
  refine ⟨r, ad, m, F, h2, h3, ?_⟩
  cases eo : fo r m with
  | bad => rw [eo] at h4; exact h4
  | exc c l m1 => rw [eo] at h4; exact h4.elim
  | ok wo m1 =>
    rw [eo] at h4
    dsimp only at h4
    refine fun ad1 F1 H1 x1 a1 vo ro => ⟨r, ad1, m1, F1, h2.ext x1, a1, ?_⟩
    cases ei : fi r m1 with
    | bad => rw [ei] at h4; exact h4
    | exc c l m2 => rw [ei] at h4; exact h4.elim
    | ok wi m2 =>
      rw [ei] at h4
      refine fun ad2 F2 H2 x2 a2 vi ri => ?_
      have ro2 := ro.ext x2
      have rw2 := (h1.ext x1).ext x2
      cases wi with
      | c _ => exact h4.elim
      | k _ => exact h4.elim
      | x _ _ _ => exact h4.elim
      | d dk =>
        cases dk with
        | int k =>
          cases ri
          dsimp only at h4
          cases ec : cellL wo m2 with
          | none => rw [ec] at h4; exact h4.elim
          | some i =>
            rw [ec] at h4
            dsimp only at h4
            obtain ⟨rfl, _⟩ := cellL_is ec
            cases ef : frz w m2 with
            | none => rw [ef] at h4; exact h4.elim
            | some p =>
              obtain ⟨x, m3⟩ := p
              rw [ef] at h4
              dsimp only at h4
              obtain ⟨F3, a3, x3, p3⟩ := frz_w a2 rw2 ef
              obtain ⟨a, ha, rfl⟩ := ro2
              cases em : m3[i]? with
              | none => rw [em] at h4; exact h4.elim
              | some cl =>
                rw [em] at h4
                cases cl with
                | fz _ => exact h4.elim
                | dk _ => exact h4.elim
                | lst xs =>
                  dsimp only at h4
                  obtain ⟨fa, ws, hv, sr⟩ := a3.cel _ _ _ ha em
                  cases ej : ixN xs.length k with
                  | none => rw [ej] at h4; exact h4.elim
                  | some j =>
                    rw [ej] at h4
                    obtain ⟨a4, x4⟩ := a3.write (o := .lst (ws.set j v)) (c := .lst (xs.set j x)) ha fa ⟨fa, _, upd_same, RpA.set p3 j sr⟩
                    have xx := (x1.trans x2).trans (x3.trans x4)
                    exact ⟨a, ws, k, j, rfl, rfl, hv, by rw [sr.len]; exact ej, h4 s _ _ _ xx a4 (h2.ext xx) rfl fun _ _ => rfl⟩
        | none => exact h4.elim
        | bool _ => exact h4.elim
        | str _ => exact h4.elim
        | list _ => exact h4.elim
        | tuple _ => exact h4.elim
        | dict _ => exact h4.elim
end DL

namespace DL
open PySem L2 PyProof.Rows
/-! ### the law's call -/
theorem rpa_ints {K : PySem.W.Frag} {F : Hp} : ∀ ns : List Int, RpA K F (ns.map V.int) (ns.map PyData.int)
  | [] => .nil
  | n :: r => .cons (.int n) (rpa_ints r)
theorem lawD {P : Program} {w : World} {K : PySem.W.Frag} {mg mb : Str → Option Value} {k : Nat} {fa a : Addr} {fd : FuncData} {x : Str} {Fn : List W → Sto → Out W} {s1 : Shared} {vs : List Value} {ns : List Int}
    (kx : K.In s1.heap) (hns : s1.heap.Ns mainGlobals mg) (hb : s1.heap.Ns builtinsNs mb) (hbb : ∀ y : Str, y ≠ "__name__" → mb y = bootBuiltins y) (hlim : s1.heap.NoLimit) (hg : s1.gens = #[])
    (ha : s1.heap.get? a = some { cls := .type "list", data := .seq vs.toArray }) (hi : IntsAre vs ns) (hl : ns.length ≤ sizeLine) (hr : Room k callerA)
    (hF : ∀ base : Heap, K.In base → base.Ns mainGlobals mg → FnD P w K mg base k fa fd [x] Fn) (hbind : ∀ (s : Shared) (u : Value), BindsTo s fd ⟨[u], []⟩ [(x, u)])
    (hFn : ∃ m, Fn [.k (ns.map PyData.int)] [] = .ok (.d (.bool true)) m) :
    codeAny (model P w) callerA (.call (.ref fa) ⟨[.ref a], []⟩) (fun r s' => r = .ok (.ret (.bool true)) ∧ OldK s1.heap s'.heap ∧ s'.os = s1.os ∧ AllBare s'.gens) s1 := by
  have vals := vals_ints hi
  have hlen : vs.length = ns.length := hi.length
  -- the abstract heap: the script alone, or nothing
  have main : ∀ H : Hp, (∀ b u, H b = some u → b = a ∧ K.lookup a = none ∧ ∃ o xs, u = .frz o (.lst xs)) → SqL K H a (ns.map V.int) → HOk P w H s1.heap →
      codeAny (model P w) callerA (.call (.ref fa) ⟨[.ref a], []⟩) (fun r s' => r = .ok (.ret (.bool true)) ∧ OldK s1.heap s'.heap ∧ s'.os = s1.os ∧ AllBare s'.gens) s1 := by
    intro H only sq ok
    have free : ∀ {b : Addr} {o : Obj} {es : Array DictEntry} {n : Nat}, s1.heap.get? b = some o → o.data = .dict es n → H b = none := by
      intro b o es n e1 e2
      rcases hq : H b with _ | u
      · rfl
      · obtain ⟨rfl, _⟩ := only b u hq
        rw [ha] at e1
        obtain rfl := Option.some.inj e1
        exact absurd e2 (by intro z; cases z)
    have nsOf : ∀ {b : Addr} {f : Str → Option Value}, s1.heap.Ns b f → (hidT s1.heap H).Ns b f := by
      rintro b f ⟨o, es, n, e1, e2, rest⟩
      exact ⟨o, es, n, hidT_get e1 (free e1 e2), e2, rest⟩
    have kb : K.In (hidT s1.heap H) := by
      intro b o e
      refine hidT_get (kx b o e) ?_
      rcases hq : H b with _ | u
      · rfl
      · obtain ⟨rfl, h2, _⟩ := only b u hq
        rw [h2] at e; cases e
    have md : Mod K mg (hidT s1.heap H) := by
      obtain ⟨mc, c1, c2⟩ := hlim
      exact ⟨kb, nsOf hns, ⟨mb, nsOf hb, hbb⟩, ⟨mc, nsOf c1, c2⟩⟩
    have env : Env0 P w K mg (hidT s1.heap H) callerA [] s1 H := by
      refine ⟨rfl, md, fun b o e => of_hidT e, Nat.le_of_eq (hidT_size _ _), trivial, ?_, ok, .of_eq hg⟩
      intro b hb
      exact absurd hb (List.not_mem_nil)
    obtain ⟨m, hm⟩ := hFn
    refine codeAny_mono ((hF _ kb (nsOf hns)).run callerA [] s1 H ⟨[.ref a], []⟩ [.ref a] [.k (ns.map PyData.int)] [.ref a] (fun v _ => v = .bl true) (fun _ _ _ => False) [] [] H hr rfl env (hbind s1 (.ref a)) (.cons rfl .nil) rfl
      (.cons ⟨a, _, rfl, sq, rpa_ints ns⟩ .nil) ⟨Ord.refl _, rfl, List.nodup_nil, fun i b c e _ => by simp at e⟩ ?_) fun r s' h => ?_
    · rw [hm]
      intro ad' F' H' _ _ b rb
      cases rb
      rfl
    · cases r with
      | error e =>
        obtain ⟨_, _, _, _, _, _, _, _, _, _, _, _, z⟩ := (show L2.CX P w [] H s1 (fun _ _ _ => False) e s' from h)
        exact z.elim
      | ok fl =>
        cases fl with
        | next => exact (show False from h).elim
        | brk => exact (show False from h).elim
        | cont => exact (show False from h).elim
        | ret u =>
          obtain ⟨v, H', h1, h2, h3, h4, h5, h6⟩ := (show CE [] P w H s1 (fun v _ => v = .bl true) u s' from h)
          subst h6
          obtain rfl : u = Value.bool true := h5
          refine ⟨rfl, OldK.of_keep fun b o e => ?_, h1, h2⟩
          rcases hq : H b with _ | u
          · exact h3.keep b o e hq (List.not_mem_nil) (List.not_mem_nil)
          · obtain ⟨_, _, o', xs, rfl⟩ := only b u hq
            have k1 := (ok b _ hq).1
            have k2 := (h4 b _ (h3.frzs b o' _ hq)).1
            rw [e] at k1
            rw [Option.some.inj k1]
            exact k2
  rcases hk : K.lookup a with _ | o
  · refine main (fun b => if b = a then some (.frz { cls := .type "list", data := .seq vs.toArray } (.lst (ns.map V.int))) else none) ?_ (.inl (.inr ⟨{ cls := .type "list", data := .seq vs.toArray }, if_pos rfl⟩)) ?_
    · intro b u e
      try dsimp only at e
      split at e
      · rename_i hb
        exact ⟨hb, hk, _, _, (Option.some.inj e).symm⟩
      · cases e
    · intro b u e
      try dsimp only at e
      split at e
      · rename_i hb
        subst hb
        obtain rfl := Option.some.inj e
        exact ⟨ha, by rw [List.length_map]; exact hl, vs, _, vals, ha⟩
      · cases e
  · have e := kx a o hk
    rw [ha] at e
    obtain rfl := Option.some.inj e
    refine main (fun _ => none) (fun b u e => by cases e) (.inr ⟨_, vs.toArray, _, hk, rfl, rfl, rfl, by rw [List.size_toArray, hlen]; exact hl, by simpa using vals⟩) (fun b u e => by cases e)
/-- the end of a law's row -/
theorem walkD {l : PySem.W.OpenLaw} {n k : Nat} {q : Program} {loose : List Str} {XP : (Str → Option Value) → Heap → Prop} {YP : World → Heap → Prop} {d : DefRec} {K : Params → PySem.W.Frag} {x : Str}
    (hn : l.most = some n) (hn2 : n ≤ sizeLine) (hdf : d.params.defaults = []) (hr : Room k callerA) (hY : ∀ (w : World) (h : Heap), YP w h → (K w.params).In h)
    (hF : ∀ (w : World) (mg : Str → Option Value) (fa : Addr) (h : Heap), (K w.params).In h → h.Ns mainGlobals mg → mg d.name = some (.ref fa) →
      ∃ fd : FuncData, (∀ (s : Shared) (u : Value), BindsTo s fd ⟨[u], []⟩ [(x, u)]) ∧ ∃ Fn : List W → Sto → Out W, (∀ ns : List Int, ns.length ≤ n → ∃ m, Fn [.k (ns.map PyData.int)] [] = .ok (.d (.bool true)) m) ∧
        ∀ base : Heap, (K w.params).In base → base.Ns mainGlobals mg → FnD l.prog w (K w.params) mg base k fa fd [x] Fn) :
    PySem.W.WalkO q loose XP YP l.row.toRowW d [] (fun f vs => PySem.call f vs) := by
  refine Att.attach_call hn hdf fun w s0 s1 mg mb fa o pm cd doc a vs ns G Y ho hd hcd hmg hobj hints hlen hg => ?_
  have kx := hY w _ Y
  obtain ⟨fd, hb, Fn, hFn, hF⟩ := hF w mg fa _ kx G.T.g hmg
  exact lawD kx G.T.g G.T.b G.T.builtins G.T.nolimit hg hobj hints (Nat.le_trans hlen hn2) hr hF hb (hFn ns hlen)
end DL

namespace DL
open PySem L2 PyProof.Rows
/-- a def of the module, by name -/
structure Df (P : Program) (w : World) (K : PySem.W.Frag) (mg : Str → Option Value) (base : Heap) (x : Str) (k : Nat) (ps : List Str) (Fn : List W → Sto → Out W) : Prop where
  ex : ∃ f fd, mg x = some (.ref f) ∧ PySem.W.keepIn K (.ref f) = true ∧ Binds K fd ps [] ∧ FnD P w K mg base k f fd ps Fn
theorem Df.intro {P : Program} {w : World} {K : PySem.W.Frag} {mg : Str → Option Value} {base : Heap} {x : Str} {k : Nat} {ps : List Str} {Fn : List W → Sto → Out W} (f : Addr) (fd : FuncData) (h1 : mg x = some (.ref f)) (h2 : PySem.W.keepIn K (.ref f) = true) (h3 : Binds K fd ps []) (h4 : FnD P w K mg base k f fd ps Fn) : Df P w K mg base x k ps Fn := ⟨f, fd, h1, h2, h3, h4⟩
theorem Df.mono {P : Program} {w : World} {K : PySem.W.Frag} {mg : Str → Option Value} {base : Heap} {x : Str} {j k : Nat} {ps : List Str} {Fn : List W → Sto → Out W} (h : Df P w K mg base x j ps Fn) (q : j ≤ k) : Df P w K mg base x k ps Fn := by
  obtain ⟨f, fd, h1, h2, h3, h4⟩ := h.ex
  exact ⟨f, fd, h1, h2, h3, h4.mono q⟩
theorem de_callD {X : Cx} {Wx : WX} {k : Nat} {ps : List Str} {Fn : List W → Sto → Out W} {x : Str} {p pos : Pos} {e : Expr} {es : List Expr} {fs : Fa} (D : Df X.prog X.w X.K X.mg X.base x k ps Fn) (hr : Room k X.A) (hg : X.A.guards = some []) (tk : Takes X Wx) (hgl : Gl X x)
    (hn : (e :: es).length = ps.length) (ha : DA X Wx (e :: es) fs) (hfs : ∀ r m ws m1, fs r m = .ok ws m1 → ws.length = (e :: es).length) (hdb : (x == ("__debug__" : Str)) = false := by decide) (he : starEach (e :: es) X.env = (false, eval e X.env) :: starEach es X.env := by rfl)
    (hpl : (backTo pos (starEach es X.env)).any (·.1) = false := by rfl) : DE X Wx (.Call (.Name x p) (e :: es) [] pos) (dCall Fn fs) := by
  obtain ⟨f, fd, h1, h2, h3, h4⟩ := D.ex
  exact de_call h4 hr hg tk hgl h1 h2 h3 hn ha hfs hdb he hpl
/-! ### comprehensions, with all that is asked said -/
theorem df_lcX {X : Cx} {Wx : WX} {elt tg iter : Expr} {ifs : List Expr} {scope : Scope} {pos : Pos} {f : Fi} {g : Fg} {ft : Ft} {fe : Fe} {vs : List Nat} (own : List (Str × Nat)) (sl : List Nat) (hc : X.calm = true) (hN : X.N.Nodup) (hvs : own.map (·.2) = vs) (hsl : ∀ i ∈ sl, i ∈ vs)
    (ok : BlkOk X.N X.env.scope scope own) (hs : ∀ x, foldedSetIterable iter X.env x = pure x) (hi : DI X Wx tg iter f) (hg : ∀ (s : Shared) (H : Hp) (C : Addr) (cl : List (Str × Addr)) (fp : List Addr), DG (X.blk s H scope (compEnvC scope cl C X.env) fp) sl tg g)
    (ht : ∀ (s : Shared) (H : Hp) (C : Addr) (cl : List (Str × Addr)) (fp : List Addr), PTs (X.blk s H scope (compEnvC scope cl C X.env) fp) ifs (LT X.K W0 ft)) (he : ∀ (s : Shared) (H : Hp) (C : Addr) (cl : List (Str × Addr)) (fp : List Addr), DE (X.blk s H scope (compEnvC scope cl C X.env) fp) W0 elt fe) :
    DF X Wx (.ListComp elt [⟨tg, iter, ifs, 0⟩] scope pos) (dLc f g ft fe vs) := by
  subst hvs
  exact df_lc hsl (pe_lc hc hN hi ok hg ht he hs)
theorem ds_lcX {X : Cx} {Wx : WX} {i : Nat} {y : Str} {py spos : Pos} {elt tg iter : Expr} {ifs : List Expr} {scope : Scope} {pos : Pos} {f : Fi} {g : Fg} {ft : Ft} {fe : Fe} {vs : List Nat} {cell : Bool} (own : List (Str × Nat)) (sl : List Nat) (hc : X.calm = true) (hN : X.N.Nodup) (hvs : own.map (·.2) = vs) (hsl : ∀ i ∈ sl, i ∈ vs)
    (ok : BlkOk X.N X.env.scope scope own) (hs : ∀ x, foldedSetIterable iter X.env x = pure x) (hy : X.N[i]? = some y) (hyl : X.env.scope.names.lookup y = some .local) (hsw : swapsWith (.ListComp elt [⟨tg, iter, ifs, 0⟩] scope pos) (some (.Name y py)) spos.line X.env = pure true)
    (hi : DI X Wx tg iter f) (hg : ∀ (s : Shared) (H : Hp) (C : Addr) (cl : List (Str × Addr)) (fp : List Addr), DG (X.blk s H scope (compEnvC scope cl C X.env) fp) sl tg g)
    (ht : ∀ (s : Shared) (H : Hp) (C : Addr) (cl : List (Str × Addr)) (fp : List Addr), PTs (X.blk s H scope (compEnvC scope cl C X.env) fp) ifs (LT X.K W0 ft)) (he : ∀ (s : Shared) (H : Hp) (C : Addr) (cl : List (Str × Addr)) (fp : List Addr), DE (X.blk s H scope (compEnvC scope cl C X.env) fp) W0 elt fe) :
    DS X Wx (.Assign [.Name y py] (.ListComp elt [⟨tg, iter, ifs, 0⟩] scope pos) spos) (sSetF i cell (dLc f g ft fe vs)) := by
  subst hvs
  exact ds_setF (ps_weak (ps_setLc hc hN hy hyl hsw hi ok hg ht he hs) fun D s H q => lc_w hsl q)
theorem dts_one {X : Cx} {c : Expr} {f : Ft} (h : DT X W0 c f) : PTs X [c] (LT X.K W0 f) := pts_one h
/-! ### more operations -/
/-- an order of ints or of texts -/
def gO (f : Int → Int → Bool) (g : Str → Str → Bool) : W → W → Sto → Option W
  | .d (.int i), .d (.int j), _ => some (.d (.bool (f i j)))
  | .d (.str i), .d (.str j), _ => some (.d (.bool (g i j)))
  | _, _, _ => none
theorem od_O {K : PySem.W.Frag} {f : Int → Int → Bool} {g : Str → Str → Bool} : OpD K (fun x y H Q => rI0 (fun i j => V.bl (f i j)) x y H Q ∨ ∃ i j, x = .str i ∧ y = .str j ∧ Q (.bl (g i j)) H) (gO f g) := by
  intro x y z u v ad m F H Q rx ry ha e q
  unfold gO at e
  split at e
  · cases e; cases rx; cases ry
    exact .inl ⟨_, _, rfl, rfl, q _ F H Ext.refl ha (.bl _)⟩
  · cases e; cases rx; cases ry
    exact .inr ⟨_, _, rfl, rfl, q _ F H Ext.refl ha (.bl _)⟩
  · cases e
abbrev gLtA := gO (fun i j => decide (i < j)) fun i j => decide (i.cps.toList < j.cps.toList)
abbrev gLeA := gO (fun i j => decide (i ≤ j)) fun i j => !decide (j.cps.toList < i.cps.toList)
abbrev gGtA := gO (fun i j => decide (j < i)) fun i j => decide (j.cps.toList < i.cps.toList)
abbrev gGeA := gO (fun i j => decide (j ≤ i)) fun i j => !decide (i.cps.toList < j.cps.toList)
section
variable {X : Cx}
theorem or_ltA : OpR X (compareOp .Lt) (fun x y H Q => rI0 (fun i j => V.bl (decide (i < j))) x y H Q ∨ ∃ i j, x = .str i ∧ y = .str j ∧ Q (.bl (decide (i.cps.toList < j.cps.toList))) H) := op_lt.or op_lt_str
theorem or_leA : OpR X (compareOp .LtE) (fun x y H Q => rI0 (fun i j => V.bl (decide (i ≤ j))) x y H Q ∨ ∃ i j, x = .str i ∧ y = .str j ∧ Q (.bl (!decide (j.cps.toList < i.cps.toList))) H) := op_le.or op_le_str
theorem or_gtA : OpR X (compareOp .Gt) (fun x y H Q => rI0 (fun i j => V.bl (decide (j < i))) x y H Q ∨ ∃ i j, x = .str i ∧ y = .str j ∧ Q (.bl (decide (j.cps.toList < i.cps.toList))) H) := op_gt.or op_gt_str
theorem or_geA : OpR X (compareOp .GtE) (fun x y H Q => rI0 (fun i j => V.bl (decide (j ≤ i))) x y H Q ∨ ∃ i j, x = .str i ∧ y = .str j ∧ Q (.bl (!decide (i.cps.toList < j.cps.toList))) H) := op_ge.or op_ge_str
end
section
variable {K : PySem.W.Frag}
theorem od_ltA : OpD K (fun x y H Q => rI0 (fun i j => V.bl (decide (i < j))) x y H Q ∨ ∃ i j, x = .str i ∧ y = .str j ∧ Q (.bl (decide (i.cps.toList < j.cps.toList))) H) gLtA := od_O
theorem od_leA : OpD K (fun x y H Q => rI0 (fun i j => V.bl (decide (i ≤ j))) x y H Q ∨ ∃ i j, x = .str i ∧ y = .str j ∧ Q (.bl (!decide (j.cps.toList < i.cps.toList))) H) gLeA := od_O
theorem od_gtA : OpD K (fun x y H Q => rI0 (fun i j => V.bl (decide (j < i))) x y H Q ∨ ∃ i j, x = .str i ∧ y = .str j ∧ Q (.bl (decide (j.cps.toList < i.cps.toList))) H) gGtA := od_O
theorem od_geA : OpD K (fun x y H Q => rI0 (fun i j => V.bl (decide (j ≤ i))) x y H Q ∨ ∃ i j, x = .str i ∧ y = .str j ∧ Q (.bl (!decide (i.cps.toList < j.cps.toList))) H) gGeA := od_O
/-- one sign in a text -/
def gInS : W → W → Sto → Option W
  | .d (.str x), .d (.str z), _ => (match x.cps.toList with | [c] => some (.d (.bool (decide (c ∈ z.cps.toList)))) | _ => none)
  | _, _, _ => none
def gNotInS : W → W → Sto → Option W
  | .d (.str x), .d (.str z), _ => (match x.cps.toList with | [c] => some (.d (.bool (!decide (c ∈ z.cps.toList)))) | _ => none)
  | _, _, _ => none
theorem str_one {x : Str} {c : Nat} (h : x.cps.toList = [c]) : x = ⟨#[c]⟩ := by
  obtain ⟨a⟩ := x
  congr 1
  exact Array.toList_inj.mp h
theorem od_inS : OpD K (fun x y H Q => ∃ (c : Nat) (z : Str), x = .str ⟨#[c]⟩ ∧ y = .str z ∧ Q (.bl (decide (c ∈ z.cps.toList))) H) gInS := by
  intro x y z u v ad m F H Q rx ry ha e q
  unfold gInS at e
  split at e
  · cases rx; cases ry
    split at e
    · rename_i c hc
      cases e
      exact ⟨c, _, by rw [str_one hc], rfl, q _ F H Ext.refl ha (.bl _)⟩
    · cases e
  · cases e
theorem od_notInS : OpD K (fun x y H Q => ∃ (c : Nat) (z : Str), x = .str ⟨#[c]⟩ ∧ y = .str z ∧ Q (.bl (!decide (c ∈ z.cps.toList))) H) gNotInS := by
  intro x y z u v ad m F H Q rx ry ha e q
  unfold gNotInS at e
  split at e
  · cases rx; cases ry
    split at e
    · rename_i c hc
      cases e
      exact ⟨c, _, by rw [str_one hc], rfl, q _ F H Ext.refl ha (.bl _)⟩
    · cases e
  · cases e
/-- data in a list -/
def gInD : W → W → Sto → Option W := fun a b m => match datOf a m, datOf b m with
  | some x, some (.list ys) => if SeqAt.shaped x && SeqAt.shaped (.list ys) then some (.d (.bool (ys.any fun z => PyData.eqv z x))) else none
  | _, _ => none
def gNotInD : W → W → Sto → Option W := fun a b m => match datOf a m, datOf b m with
  | some x, some (.list ys) => if SeqAt.shaped x && SeqAt.shaped (.list ys) then some (.d (.bool (!ys.any fun z => PyData.eqv z x))) else none
  | _, _ => none
theorem od_inD : OpD K (rInD K) gInD := by
  intro x y z u v ad m F H Q rx ry ha e q
  unfold gInD at e
  split at e
  · rename_i d1 d2 h1 h2
    split at e
    · rename_i hs
      cases e
      have := Bool.and_eq_true_iff.mp hs
      exact ⟨_, _, ha.dp rx h1, ha.dp ry h2, this.1, this.2, q _ F H Ext.refl ha (.bl _)⟩
    · cases e
  · cases e
theorem od_notInD : OpD K (rNotInD K) gNotInD := by
  intro x y z u v ad m F H Q rx ry ha e q
  unfold gNotInD at e
  split at e
  · rename_i d1 d2 h1 h2
    split at e
    · rename_i hs
      cases e
      have := Bool.and_eq_true_iff.mp hs
      exact ⟨_, _, ha.dp rx h1, ha.dp ry h2, this.1, this.2, q _ F H Ext.refl ha (.bl _)⟩
    · cases e
  · cases e
/-- a text so many times, at most a thousand -/
def gMulT : W → W → Sto → Option W
  | .d (.str x), .d (.int n), _ => if decide (0 ≤ n) && decide (n ≤ 1000) && decide (x.length ≤ 1000) then some (.d (.str (Txt.mul x n))) else none
  | _, _, _ => none
theorem od_mulT : OpD K (fun x y H Q => ∃ (z : Str) (n : Int), x = .str z ∧ y = .int n ∧ 0 ≤ n ∧ n ≤ 1000 ∧ z.length ≤ 1000 ∧ Q (.str (Txt.mul z n)) H) gMulT := by
  intro x y z u v ad m F H Q rx ry ha e q
  unfold gMulT at e
  split at e
  · split at e
    · rename_i hs
      cases e; cases rx; cases ry
      simp only [Bool.and_eq_true, decide_eq_true_eq] at hs
      exact ⟨_, _, rfl, rfl, hs.1.1, hs.1.2, hs.2, q _ F H Ext.refl ha (.str _)⟩
    · cases e
  · cases e
/-- a list so many times -/
def gRep : W → W → Sto → Option W := fun a b m => match datOf a m, b with
  | some (.list xs), .d (.int n) => if decide (0 ≤ n) && decide (n ≤ 1000) && decide (xs.length ≤ 1000) then some (.d (.list (List.replicate n.toNat xs).flatten)) else none
  | _, _ => none
end
theorem or_mulT {X : Cx} : OpR X (binaryOp .Mult) (fun x y H Q => ∃ (z : Str) (n : Int), x = .str z ∧ y = .int n ∧ 0 ≤ n ∧ n ≤ 1000 ∧ z.length ≤ 1000 ∧ Q (.str (Txt.mul z n)) H) := by
  intro pins s σ H x y v u Q I rx ry h
  obtain ⟨z, n, rfl, rfl, h0, h1, h2, q⟩ := h
  obtain ⟨t, rfl⟩ := rx
  obtain ⟨t', rfl⟩ := ry
  refine PySem.SB.mul ⟨?_, fun a b c => ?_, fun a b => ?_⟩ fun t' k => ⟨.str _, H, I.tok k, ⟨_, rfl⟩, q⟩
  · simp only [Bool.or_eq_false_iff, decide_eq_false_iff_not]
    omega
  · have : (1000 : Int) ≤ (2 ^ 63 - 1) / n := by
      rw [Int.le_ediv_iff_mul_le (by omega)]
      omega
    omega
  · unfold Builtin.Str.tooLong
    have h3 : z.length * n.toNat ≤ 1000 * 1000 := Nat.mul_le_mul h2 (by omega)
    have h4 : (sizeLine : Nat) = 16777216 := sizeLine_eq
    simp only [decide_eq_false_iff_not]
    omega
/-! ### join -/
def allS : List D → Option (List Str)
  | [] => some []
  | .str x :: r => (allS r).map (x :: ·)
  | _ :: _ => none
theorem allS_w {K : PySem.W.Frag} {F : Hp} : ∀ {vs : List V} {ds : List D} {bs : List Str}, RpA K F vs ds → allS ds = some bs → vs = bs.map V.str
  | _, _, bs, .nil, e => by cases e; rfl
  | _, _, bs, .cons (d := d) a r, e => by
    cases d with
    | str b =>
      cases a
      obtain ⟨cs, h1, rfl⟩ := Option.map_eq_some_iff.mp e
      rw [allS_w r h1]
      rfl
    | _ => cases e
def gJoin (a : Str) (w : W) (m : Sto) : Option W := match seqOf w m with
  | some xs => (match allS xs with
    | some ys => if (ys.map (·.length)).sum + ys.length * a.length ≤ 16777216 then some (.d (.str (Txt.join a ys))) else none
    | none => none)
  | none => none
def dJoin (f g : Fe) : Fe := fun r m => (f r m).bind fun w m1 => match w with
  | .d (.str a) => (g r m1).bind fun y m2 => .opt (gJoin a y m2) m2
  | _ => .bad
theorem de_join {X : Cx} {Wx : WX} {e : Expr} {f g : Fe} (h : PE X e (tM1 (fun x xs H Q => ∃ a p, ∃ ys : List Str, x = .str a ∧ xs = [.ref p] ∧ (SqL X.K H p (ys.map V.str) ∨ SqT X.K H p (ys.map V.str)) ∧
      (ys.map (·.length)).sum + ys.length * a.length ≤ 16777216 ∧ Q (.str (Txt.join a ys)) H) (LE X.K Wx f) (LE X.K Wx g))) : DE X Wx e (dJoin f g) := pe_weak h fun s H Q q => by
  obtain ⟨r, ad, m, F, he, hA, hp⟩ := q
  refine ⟨_, _, _, _, he, hA, Post.mono (Post.bind hp) (fun w m1 ad1 F1 H1 e1 ha1 q0 v rw1 => ?_) fun _ _ _ _ _ _ _ _ z => z⟩
  obtain ⟨_, _, h1⟩ := q0
  split at h1
  · rename_i a
    cases rw1
    refine ⟨⟨a, rfl⟩, _, _, _, _, he.ext e1, ha1, Post.mono (Post.bind h1) (fun y m2 ad2 F2 H2 e2 ha2 q0 u rw2 => ?_) fun _ _ _ _ _ _ _ _ z => z⟩
    obtain ⟨_, _, h2⟩ := q0
    cases ej : gJoin a y m2 with
    | none => rw [ej] at h2; exact h2.elim
    | some z =>
      rw [ej] at h2
      unfold gJoin at ej
      split at ej
      · rename_i xs hx
        split at ej
        · rename_i ys hy
          split at ej
          · rename_i hz
            cases ej
            obtain ⟨p, vs, rfl, hs, sr⟩ := ha2.seq rw2 hx
            have ev := allS_w sr hy
            subst ev
            exact ⟨a, p, ys, rfl, rfl, hs, hz, h2 _ _ _ Ext.refl ha2 _ (.str _)⟩
          · cases ej
        · cases ej
      · cases ej
  · exact h1.elim
theorem dt_chain {X : Cx} {Wx : WX} {pos : Pos} {a b c : Expr} {fa fb fc : Fe} {op op' : CmpOp} {r r' : R2} {g g' : W → W → Sto → Option W} (ho : OpR X (compareOp op) r) (ho' : OpR X (compareOp op') r') (hg : OpD X.K r g) (hg' : OpD X.K r' g') (ha : DE X Wx a fa) (hb : DE X Wx b fb) (hc : DE X Wx c fc)
    (h : PT X (.Compare a [op, op'] [b, c] pos) (tTest (tChain r r' (LE X.K Wx fa) (LE X.K Wx fb) (LE X.K Wx fc)))) : DT X Wx (.Compare a [op, op'] [b, c] pos) (dIsT (dChain g g' fa fb fc)) := by
  refine pt_weak h fun s H Q q => ?_
  obtain ⟨ρ, ad, m, F, he, hA, hp⟩ := q
  have hq : LE X.K Wx (dChain g g' fa fb fc) s H fun x H' => ∃ k, x = .bl k ∧ Q k H' := by
    refine ⟨ρ, ad, m, F, he, hA, (Post.bind hp).mono (fun w m1 ad1 F1 H1 e1 a1 q b rb => ?_) fun _ _ _ _ _ _ _ _ z => z⟩
    obtain ⟨_, _, q⟩ := q
    split at q
    · cases rb
      exact ⟨_, rfl, q _ _ _ Ext.refl a1 _ rfl⟩
    · exact q.elim
  exact chain_w hg hg' hq
end DL

/-! DL: how the meanings are reckoned, as rows for simp. -/
namespace DL
open PySem L2
section
variable (f f' f2 f3 : Fe) (t t' : Ft) (a a' : Fa) (l l' : Fl) (s s' : Fs) (g g' : W → W → Sto → Option W) (r : Rho) (m : Sto)
@[simp] theorem e_var (i : Nat) : dVar i r m = match r[i]? with | some (some w) => .ok w m | _ => .bad := rfl
@[simp] theorem e_c (x : D) : dC x r m = .ok (.d x) m := rfl
@[simp] theorem e_bin : dBin g f f' r m = (f r m).bind fun x m1 => (f' r m1).bind fun y m2 => .opt (g x y m2) m2 := rfl
@[simp] theorem e_tru : dTru f r m = (f r m).bind fun w m1 => .opt (tru w m1) m1 := rfl
@[simp] theorem e_isT : dIsT f r m = (f r m).bind fun w m1 => match w with | .d (.bool b) => .ok b m1 | _ => .bad := rfl
@[simp] theorem e_notT : dNotT t r m = (t r m).bind fun b m1 => .ok (!b) m1 := rfl
@[simp] theorem e_andT : dAndT t t' r m = (t r m).bind fun b m1 => if b then t' r m1 else .ok false m1 := rfl
@[simp] theorem e_orT : dOrT t t' r m = (t r m).bind fun b m1 => if b then .ok true m1 else t' r m1 := rfl
@[simp] theorem e_and : dAnd f f' r m = (f r m).bind fun w m1 => match tru w m1 with | some true => f' r m1 | some false => .ok w m1 | none => .bad := rfl
@[simp] theorem e_or : dOr f f' r m = (f r m).bind fun w m1 => match tru w m1 with | some true => .ok w m1 | some false => f' r m1 | none => .bad := rfl
@[simp] theorem e_not : dNot f r m = (f r m).bind fun w m1 => match tru w m1 with | some b => .ok (.d (.bool (!b))) m1 | none => .bad := rfl
@[simp] theorem e_if : dIf t f f' r m = (t r m).bind fun b m1 => if b then f r m1 else f' r m1 := rfl
@[simp] theorem e_un (h : W → Option W) : dUn h f r m = (f r m).bind fun w m1 => .opt (h w) m1 := rfl
@[simp] theorem e_chain : dChain g g' f f' f2 r m = (f r m).bind fun x m1 => (f' r m1).bind fun y m2 => match g x y m2 with
  | some (.d (.bool true)) => (f2 r m2).bind fun z m3 => .opt (g' y z m3) m3
  | some (.d (.bool false)) => .ok (.d (.bool false)) m2
  | _ => .bad := rfl
@[simp] theorem e_nil : dNil r m = .ok [] m := rfl
@[simp] theorem e_cons : dCons f a r m = (f r m).bind fun w m1 => (a r m1).bind fun ws m2 => .ok (w :: ws) m2 := rfl
@[simp] theorem e_tup : dTup a r m = (a r m).bind fun ws m1 => match frzs ws m1 with | some (ds, m2) => if ds.length ≤ sizeLine then .ok (.d (.tuple ds)) m2 else .bad | none => .bad := rfl
@[simp] theorem e_data : dData l r m = (l r m).bind fun xs m1 => .ok (.d (.list xs)) m1 := rfl
@[simp] theorem e_cell : dCell l r m = (l r m).bind fun xs m1 => .ok (.c m1.length) (m1 ++ [.lst xs]) := rfl
@[simp] theorem e_lst : dLst a r m = (a r m).bind fun ws m1 => match frzs ws m1 with | some (ds, m2) => if ds.length ≤ sizeLine then .ok ds m2 else .bad | none => .bad := rfl
@[simp] theorem e_oNone : oNone r m = .ok none m := rfl
@[simp] theorem e_oSome : oSome f r m = (f r m).bind fun w m1 => match w with | .d (.int i) => .ok (some i) m1 | _ => .bad := rfl
@[simp] theorem e_sl (x y : Fo) : dSl f x y r m = (f r m).bind fun w m1 => (x r m1).bind fun lo m2 => (y r m2).bind fun hi m3 => .opt (gSl lo hi w m3) m3 := rfl
@[simp] theorem e_cb (h : List W → Sto → Option W) : dCB h a r m = (a r m).bind fun ws m1 => .opt (h ws m1) m1 := rfl
@[simp] theorem e_cf (h : List W → Sto → Option (List D)) : dCF h a r m = (a r m).bind fun ws m1 => .opt (h ws m1) m1 := rfl
@[simp] theorem e_isi (T : String) : dIsi T f r m = (f r m).bind fun w m1 => match datOf w m1 with | some x => .ok (.d (.bool (isT T x))) m1 | none => .bad := rfl
@[simp] theorem e_call (F : List W → Sto → Out W) : dCall F a r m = (a r m).bind fun ws m1 => F ws m1 := rfl
@[simp] theorem e_mt (h : Nat → List W → Sto → Option (W × Sto)) : dMt h f a r m = (f r m).bind fun w m1 => match cellL w m1 with
  | some i => (a r m1).bind fun ws m2 => match h i ws m2 with | some (z, m3) => .ok z m3 | none => .bad
  | none => .bad := rfl
@[simp] theorem e_join : dJoin f f' r m = (f r m).bind fun w m1 => match w with | .d (.str x) => (f' r m1).bind fun y m2 => .opt (gJoin x y m2) m2 | _ => .bad := rfl
@[simp] theorem e_lc (i : Fi) (h : Fg) (vs : List Nat) : dLc i h t f vs r m = (i r m).bind fun s m1 => lcL s.gs h t f (wipeR r vs) s.items [] m1 := rfl
@[simp] theorem e_tTru : tTru r m = .ok true m := rfl
@[simp] theorem s_nx : sNx r m = .nx r m := rfl
@[simp] theorem s_seq : sSeq s s' r m = match s r m with | .nx r1 m1 => s' r1 m1 | o => o := rfl
@[simp] theorem s_drop : sDrop f r m = (f r m).stm r fun _ m1 => .nx r m1 := rfl
@[simp] theorem s_ret : sRet f r m = (f r m).stm r fun w m1 => .ret w m1 := rfl
@[simp] theorem s_retN : sRetN r m = .ret (.d .none) m := rfl
@[simp] theorem s_if : sIf t s s' r m = (t r m).stm r fun b m1 => if b then s r m1 else s' r m1 := rfl
@[simp] theorem s_asg (h : Fg) : sAsg f h r m = (f r m).stm r fun w m1 => match h w r m1 with | some (r2, m2) => .nx r2 m2 | none => .bad := rfl
@[simp] theorem s_par (i j : Nat) : sPar i j a r m = (a r m).stm r fun ws m1 => match ws with | [v, w] => .nx ((r.set i (some v)).set j (some w)) m1 | _ => .bad := rfl
@[simp] theorem s_setF (i : Nat) : sSetF i false l r m = (l r m).stm r fun xs m1 => .nx (r.set i (some (.d (.list xs)))) m1 := by
  show sAsg (dData l) (gN i) r m = _
  rw [s_asg, e_data]
  cases l r m <;> rfl
@[simp] theorem s_setC (i : Nat) : sSetF i true l r m = (l r m).stm r fun xs m1 => .nx (r.set i (some (.c m1.length))) (m1 ++ [.lst xs]) := by
  show sAsg (dCell l) (gN i) r m = _
  rw [s_asg, e_cell]
  cases l r m <;> rfl
@[simp] theorem s_for (i : Fi) (h : Fg) : sFor i h s r m = (i r m).stm r fun x m1 => forL x.gs h s x.items r m1 := rfl
@[simp] theorem t_n (i : Nat) (w : W) : gN i w r m = some (r.set i (some w), m) := rfl
@[simp] theorem t_t (n : Nat) (h : List W → Rho → Sto → Option (Rho × Sto)) (ds : List D) : gT n h (.d (.tuple ds)) r m = if ds.length = n then h (ds.map .d) r m else none := rfl
@[simp] theorem t_nil : gsNil [] r m = some (r, m) := rfl
@[simp] theorem t_cons (h : Fg) (hs : List W → Rho → Sto → Option (Rho × Sto)) (w : W) (ws : List W) : gsCons h hs (w :: ws) r m = match h w r m with | some (r2, m2) => hs ws r2 m2 | none => none := rfl
@[simp] theorem i_seq : iSeq f r m = (f r m).bind fun w m1 => match lstOf w m1 with | some xs => .ok ⟨xs, gsOf w xs⟩ m1 | none => .bad := rfl
@[simp] theorem i_tup : iTupD f r m = (f r m).bind fun w m1 => match w with | .d (.tuple xs) => .ok ⟨xs, []⟩ m1 | _ => .bad := rfl
@[simp] theorem i_str : iStrD f r m = (f r m).bind fun w m1 => match w with | .d (.str x) => .ok ⟨x.cps.toList.map fun c => .str ⟨#[c]⟩, []⟩ m1 | _ => .bad := rfl
@[simp] theorem i_range1 : iRange1 f r m = (f r m).bind fun w m1 => match w with | .d (.int j) => if decide (-(2 ^ 62) ≤ j) && decide (j < 2 ^ 62) then .ok ⟨rngL 0 j.toNat, []⟩ m1 else .bad | _ => .bad := rfl
end
section
variable (m : Sto)
@[simp] theorem frz_d (x : D) : frz (.d x) m = some (x, m) := rfl
@[simp] theorem frzs_nil : frzs [] m = some ([], m) := rfl
@[simp] theorem frzs_cons (w : W) (ws : List W) : frzs (w :: ws) m = match frz w m with
    | some (x, m1) => match frzs ws m1 with | some (xs, m2) => some (x :: xs, m2) | none => none
    | none => none := rfl
@[simp] theorem dat_d (x : D) : datOf (.d x) m = some x := rfl
@[simp] theorem lst_d (x : List D) : lstOf (.d (.list x)) m = some x := rfl
@[simp] theorem lst_k (x : List D) : lstOf (.k x) m = some x := rfl
@[simp] theorem lst_c (i : Nat) : lstOf (.c i) m = match m[i]? with | some (.lst xs) => some xs | some (.fz xs) => some xs | _ => none := rfl
@[simp] theorem dat_c (i : Nat) : datOf (.c i) m = match m[i]? with | some (.lst xs) => some (.list xs) | some (.fz xs) => some (.list xs) | _ => none := rfl
@[simp] theorem seq_l (x : List D) : seqOf (.d (.list x)) m = some x := rfl
@[simp] theorem seq_t (x : List D) : seqOf (.d (.tuple x)) m = some x := rfl
@[simp] theorem seq_c (i : Nat) : seqOf (.c i) m = match m[i]? with | some (.lst xs) => some xs | some (.fz xs) => some xs | _ => none := rfl
@[simp] theorem tru_b (b : Bool) : tru (.d (.bool b)) m = some b := rfl
@[simp] theorem tru_i (i : Int) : tru (.d (.int i)) m = some (i != 0) := rfl
@[simp] theorem tru_n : tru (.d .none) m = some false := rfl
@[simp] theorem add_i (i j : Int) : gAdd (.d (.int i)) (.d (.int j)) m = some (.d (.int (i + j))) := rfl
@[simp] theorem add_s (i j : Str) : gAdd (.d (.str i)) (.d (.str j)) m = if i.length + j.length ≤ sizeLine then some (.d (.str (i ++ j))) else none := rfl
@[simp] theorem add_t (i j : List D) : gAdd (.d (.tuple i)) (.d (.tuple j)) m = if i.length + j.length ≤ sizeLine then some (.d (.tuple (i ++ j))) else none := rfl
@[simp] theorem add_l (i j : List D) : gAdd (.d (.list i)) (.d (.list j)) m = if i.length + j.length ≤ sizeLine then some (.d (.list (i ++ j))) else none := rfl
@[simp] theorem gI_i (C : Int → Int → Bool) (f : Int → Int → D) (i j : Int) : gI C f (.d (.int i)) (.d (.int j)) m = if C i j = true then some (.d (f i j)) else none := rfl
@[simp] theorem gI0_i (f : Int → Int → D) (i j : Int) : gI0 f (.d (.int i)) (.d (.int j)) m = some (.d (f i j)) := rfl
@[simp] theorem gO_i (f : Int → Int → Bool) (g : Str → Str → Bool) (i j : Int) : gO f g (.d (.int i)) (.d (.int j)) m = some (.d (.bool (f i j))) := rfl
@[simp] theorem gO_s (f : Int → Int → Bool) (g : Str → Str → Bool) (i j : Str) : gO f g (.d (.str i)) (.d (.str j)) m = some (.d (.bool (g i j))) := rfl
@[simp] theorem gEq_d (x y : D) : gEq (.d x) (.d y) m = if SeqAt.shaped x && SeqAt.shaped y then some (.d (.bool (PyData.eqv x y))) else none := rfl
@[simp] theorem gNe_d (x y : D) : gNe (.d x) (.d y) m = if SeqAt.shaped x && SeqAt.shaped y then some (.d (.bool (!PyData.eqv x y))) else none := rfl
@[simp] theorem neg_i (i : Int) : gNeg (.d (.int i)) = some (.d (.int (-i))) := rfl
@[simp] theorem ix_t (xs : List D) (i : Int) : gIx (.d (.tuple xs)) (.d (.int i)) m = (atI xs i).map .d := rfl
@[simp] theorem ix_s (x : Str) (i : Int) : gIx (.d (.str x)) (.d (.int i)) m = if x.length ≤ sizeLine then (atI x.cps.toList i).map fun c => .d (.str ⟨#[c]⟩) else none := rfl
@[simp] theorem ix_l (xs : List D) (i : Int) : gIx (.d (.list xs)) (.d (.int i)) m = (atI xs i).map .d := rfl
@[simp] theorem ix_k (xs : List D) (i : Int) : gIx (.k xs) (.d (.int i)) m = (atI xs i).map .d := rfl
@[simp] theorem ix_c (j : Nat) (i : Int) : gIx (.c j) (.d (.int i)) m = match lstOf (.c j) m with | some xs => (atI xs i).map .d | none => none := rfl
@[simp] theorem sl_s (x : Str) (lo hi : Option Int) : gSl lo hi (.d (.str x)) m = if x.length ≤ sizeLine then some (.d (.str (cutS x lo hi))) else none := rfl
@[simp] theorem sl_t (x : List D) (lo hi : Option Int) : gSl lo hi (.d (.tuple x)) m = some (.d (.tuple (cutD x lo hi))) := rfl
@[simp] theorem sl_l (x : List D) (lo hi : Option Int) : gSl lo hi (.d (.list x)) m = some (.d (.list (cutD x lo hi))) := rfl
@[simp] theorem sl_k (x : List D) (lo hi : Option Int) : gSl lo hi (.k x) m = some (.d (.list (cutD x lo hi))) := rfl
@[simp] theorem len_s (x : Str) : gLen [.d (.str x)] m = if x.length ≤ sizeLine then some (.d (.int x.length)) else none := rfl
@[simp] theorem len_t (x : List D) : gLen [.d (.tuple x)] m = some (.d (.int x.length)) := rfl
@[simp] theorem len_l (x : List D) : gLen [.d (.list x)] m = some (.d (.int x.length)) := rfl
@[simp] theorem len_k (x : List D) : gLen [.k x] m = some (.d (.int x.length)) := rfl
@[simp] theorem len_c (i : Nat) : gLen [.c i] m = match lstOf (.c i) m with | some xs => some (.d (.int xs.length)) | none => none := rfl
@[simp] theorem abs_i (i : Int) : gAbs [.d (.int i)] m = some (.d (.int (if i < 0 then -i else i))) := rfl
@[simp] theorem str_i (i : Int) : gStr [.d (.int i)] m = if i.natAbs.log2 < 1920 then some (.d (.str (toString i))) else none := rfl
@[simp] theorem int_i (i : Int) : gInt [.d (.int i)] m = some (.d (.int i)) := rfl
@[simp] theorem int_b (b : Bool) : gInt [.d (.bool b)] m = some (.d (.int (if b then 1 else 0))) := rfl
@[simp] theorem tuple_t (x : List D) : gTuple [.d (.tuple x)] m = some (.d (.tuple x)) := rfl
@[simp] theorem tuple_l (x : List D) : gTuple [.d (.list x)] m = some (.d (.tuple x)) := rfl
@[simp] theorem tuple_c (i : Nat) : gTuple [.c i] m = match lstOf (.c i) m with | some xs => some (.d (.tuple xs)) | none => none := rfl
@[simp] theorem list_1 (w : W) : gList [w] m = seqOf w m := rfl
@[simp] theorem all_l (x : List D) : gAll [.d (.list x)] m = (allB x).map fun bs => .d (.bool (bs.all id)) := rfl
@[simp] theorem any_l (x : List D) : gAny [.d (.list x)] m = (allB x).map fun bs => .d (.bool (bs.any id)) := rfl
@[simp] theorem repr_1 (w : W) : gRepr [w] m = match datOf w m with | some x => if okShow x = true then some (.d (.str x.shown)) else none | none => none := rfl
@[simp] theorem inS_s (x z : Str) : gInS (.d (.str x)) (.d (.str z)) m = (match x.cps.toList with | [c] => some (.d (.bool (decide (c ∈ z.cps.toList)))) | _ => none) := rfl
@[simp] theorem mulT_s (x : Str) (n : Int) : gMulT (.d (.str x)) (.d (.int n)) m = if decide (0 ≤ n) && decide (n ≤ 1000) && decide (x.length ≤ 1000) then some (.d (.str (Txt.mul x n))) else none := rfl
@[simp] theorem gs_d (x : D) (xs : List D) : gsOf (.d x) xs = [] := rfl
@[simp] theorem gs_k (x xs : List D) : gsOf (.k x) xs = [] := rfl
@[simp] theorem grd_nil : grd [] m := fun _ h => nomatch h
end
theorem kt_int_none : (kitB "NoneType" "int" == some true) = false := by decide +kernel
theorem kt_int_bool : (kitB "bool" "int" == some true) = true := by decide +kernel
theorem kt_int_int : (kitB "int" "int" == some true) = true := by decide +kernel
theorem kt_int_str : (kitB "str" "int" == some true) = false := by decide +kernel
theorem kt_int_list : (kitB "list" "int" == some true) = false := by decide +kernel
theorem kt_int_tuple : (kitB "tuple" "int" == some true) = false := by decide +kernel
theorem kt_int_dict : (kitB "dict" "int" == some true) = false := by decide +kernel
theorem isT_int (x : D) : isT "int" x = match x with | .bool _ => true | .int _ => true | _ => false := by
  cases x with
  | none => exact kt_int_none
  | bool _ => exact kt_int_bool
  | int _ => exact kt_int_int
  | str _ => exact kt_int_str
  | list _ => exact kt_int_list
  | tuple _ => exact kt_int_tuple
  | dict _ => exact kt_int_dict
theorem kt_bool_none : (kitB "NoneType" "bool" == some true) = false := by decide +kernel
theorem kt_bool_bool : (kitB "bool" "bool" == some true) = true := by decide +kernel
theorem kt_bool_int : (kitB "int" "bool" == some true) = false := by decide +kernel
theorem kt_bool_str : (kitB "str" "bool" == some true) = false := by decide +kernel
theorem kt_bool_list : (kitB "list" "bool" == some true) = false := by decide +kernel
theorem kt_bool_tuple : (kitB "tuple" "bool" == some true) = false := by decide +kernel
theorem kt_bool_dict : (kitB "dict" "bool" == some true) = false := by decide +kernel
theorem isT_bool (x : D) : isT "bool" x = match x with | .bool _ => true | _ => false := by
  cases x with
  | none => exact kt_bool_none
  | bool _ => exact kt_bool_bool
  | int _ => exact kt_bool_int
  | str _ => exact kt_bool_str
  | list _ => exact kt_bool_list
  | tuple _ => exact kt_bool_tuple
  | dict _ => exact kt_bool_dict
theorem kt_str_none : (kitB "NoneType" "str" == some true) = false := by decide +kernel
theorem kt_str_bool : (kitB "bool" "str" == some true) = false := by decide +kernel
theorem kt_str_int : (kitB "int" "str" == some true) = false := by decide +kernel
theorem kt_str_str : (kitB "str" "str" == some true) = true := by decide +kernel
theorem kt_str_list : (kitB "list" "str" == some true) = false := by decide +kernel
theorem kt_str_tuple : (kitB "tuple" "str" == some true) = false := by decide +kernel
theorem kt_str_dict : (kitB "dict" "str" == some true) = false := by decide +kernel
theorem isT_str (x : D) : isT "str" x = match x with | .str _ => true | _ => false := by
  cases x with
  | none => exact kt_str_none
  | bool _ => exact kt_str_bool
  | int _ => exact kt_str_int
  | str _ => exact kt_str_str
  | list _ => exact kt_str_list
  | tuple _ => exact kt_str_tuple
  | dict _ => exact kt_str_dict
theorem kt_tuple_none : (kitB "NoneType" "tuple" == some true) = false := by decide +kernel
theorem kt_tuple_bool : (kitB "bool" "tuple" == some true) = false := by decide +kernel
theorem kt_tuple_int : (kitB "int" "tuple" == some true) = false := by decide +kernel
theorem kt_tuple_str : (kitB "str" "tuple" == some true) = false := by decide +kernel
theorem kt_tuple_list : (kitB "list" "tuple" == some true) = false := by decide +kernel
theorem kt_tuple_tuple : (kitB "tuple" "tuple" == some true) = true := by decide +kernel
theorem kt_tuple_dict : (kitB "dict" "tuple" == some true) = false := by decide +kernel
theorem isT_tuple (x : D) : isT "tuple" x = match x with | .tuple _ => true | _ => false := by
  cases x with
  | none => exact kt_tuple_none
  | bool _ => exact kt_tuple_bool
  | int _ => exact kt_tuple_int
  | str _ => exact kt_tuple_str
  | list _ => exact kt_tuple_list
  | tuple _ => exact kt_tuple_tuple
  | dict _ => exact kt_tuple_dict
theorem kt_list_none : (kitB "NoneType" "list" == some true) = false := by decide +kernel
theorem kt_list_bool : (kitB "bool" "list" == some true) = false := by decide +kernel
theorem kt_list_int : (kitB "int" "list" == some true) = false := by decide +kernel
theorem kt_list_str : (kitB "str" "list" == some true) = false := by decide +kernel
theorem kt_list_list : (kitB "list" "list" == some true) = true := by decide +kernel
theorem kt_list_tuple : (kitB "tuple" "list" == some true) = false := by decide +kernel
theorem kt_list_dict : (kitB "dict" "list" == some true) = false := by decide +kernel
theorem isT_list (x : D) : isT "list" x = match x with | .list _ => true | _ => false := by
  cases x with
  | none => exact kt_list_none
  | bool _ => exact kt_list_bool
  | int _ => exact kt_list_int
  | str _ => exact kt_list_str
  | list _ => exact kt_list_list
  | tuple _ => exact kt_list_tuple
  | dict _ => exact kt_list_dict
/-! ### loops -/
theorem forL_nil (tg : Fg) (b : Fs) (r : Rho) (m : Sto) : forL [] tg b [] r m = .nx r m := by simp [forL]
theorem forL_cons (tg : Fg) (b : Fs) (x : D) (xs : List D) (r : Rho) (m : Sto) : forL [] tg b (x :: xs) r m = match tg (.d x) r m with
    | some (r1, m1) => match b r1 m1 with
      | .nx r2 m2 => forL [] tg b xs r2 m2
      | .cnt r2 m2 => forL [] tg b xs r2 m2
      | .brk r2 m2 => .nx r2 m2
      | o => o
    | none => .bad := by
  simp only [forL, grd_nil, if_true]
  all_goals rfl
/-- what each turn keeps holds at the end -/
theorem forL_keeps {tg : Fg} {b : Fs} (P : List D → Rho → Sto → Prop) : ∀ (xs : List D) {r : Rho} {m : Sto}, P xs r m →
    (∀ x ys r m, P (x :: ys) r m → ∃ r1 m1, tg (.d x) r m = some (r1, m1) ∧ ∃ r2 m2, b r1 m1 = .nx r2 m2 ∧ P ys r2 m2) → ∃ r2 m2, forL [] tg b xs r m = .nx r2 m2 ∧ P [] r2 m2
  | [], r, m, h, _ => ⟨r, m, forL_nil tg b r m, h⟩
  | x :: xs, r, m, h, st => by
    obtain ⟨r1, m1, e1, r2, m2, e2, h2⟩ := st x xs r m h
    obtain ⟨r3, m3, e3, h3⟩ := forL_keeps P xs h2 st
    exact ⟨r3, m3, by rw [forL_cons, e1]; simp only [e2]; exact e3, h3⟩
theorem lcL_nil (tg : Fg) (t : Ft) (e : Fe) (r : Rho) (acc : List D) (m : Sto) : lcL [] tg t e r [] acc m = .ok acc m := by simp [lcL]
theorem lcL_cons (tg : Fg) (t : Ft) (e : Fe) (r : Rho) (x : D) (xs acc : List D) (m : Sto) : lcL [] tg t e r (x :: xs) acc m = match tg (.d x) r m with
    | some (r1, m1) => match t r1 m1 with
      | .ok true m2 => match e r1 m2 with
        | .ok w m3 => match frz w m3 with
          | some (d, m4) => if acc.length < sizeLine then lcL [] tg t e r xs (acc ++ [d]) m4 else .bad
          | none => .bad
        | _ => .bad
      | .ok false m2 => lcL [] tg t e r xs acc m2
      | _ => .bad
    | none => .bad := by
  simp only [lcL, grd_nil, if_true]
  all_goals rfl
/-- a comprehension whose items are told by f, without a change -/
theorem lcL_map {tg : Fg} {e : Fe} {r : Rho} {m : Sto} (f : D → D) : ∀ (xs acc : List D), (∀ x ∈ xs, ∃ r1, tg (.d x) r m = some (r1, m) ∧ e r1 m = .ok (.d (f x)) m) → acc.length + xs.length ≤ sizeLine → lcL [] tg tTru e r xs acc m = .ok (acc ++ xs.map f) m
  | [], acc, _, _ => by rw [lcL_nil, List.map_nil, List.append_nil]
  | x :: xs, acc, h, hz => by
    obtain ⟨r1, e1, e2⟩ := h x List.mem_cons_self
    simp only [List.length_cons] at hz
    rw [lcL_cons, e1]
    simp only [e_tTru, e2, frz_d]
    rw [if_pos (by omega), lcL_map f xs (acc ++ [f x]) (fun y hy => h y (List.mem_cons_of_mem _ hy)) (by simp only [List.length_append, List.length_singleton]; omega)]
    simp
/-- .. with a test -/
theorem lcL_filter {tg : Fg} {t : Ft} {e : Fe} {r : Rho} {m : Sto} (p : D → Bool) (f : D → D) : ∀ (xs acc : List D), (∀ x ∈ xs, ∃ r1, tg (.d x) r m = some (r1, m) ∧ t r1 m = .ok (p x) m ∧ (p x = true → e r1 m = .ok (.d (f x)) m)) → acc.length + xs.length ≤ sizeLine →
    lcL [] tg t e r xs acc m = .ok (acc ++ (xs.filter p).map f) m
  | [], acc, _, _ => by rw [lcL_nil]; simp
  | x :: xs, acc, h, hz => by
    obtain ⟨r1, e1, e2, e3⟩ := h x List.mem_cons_self
    simp only [List.length_cons] at hz
    rw [lcL_cons, e1]
    simp only [e2]
    cases hp : p x with
    | false =>
      simp only
      rw [lcL_filter p f xs acc (fun y hy => h y (List.mem_cons_of_mem _ hy)) (by omega)]
      simp [hp]
    | true =>
      simp only [e3 hp, frz_d]
      rw [if_pos (by omega), lcL_filter p f xs (acc ++ [f x]) (fun y hy => h y (List.mem_cons_of_mem _ hy)) (by simp only [List.length_append, List.length_singleton]; omega)]
      simp [hp]
/-- .. whose items change the store -/
theorem lcL_keeps {tg : Fg} {e : Fe} {r : Rho} (P : List D → List D → Sto → Prop) : ∀ (xs acc : List D) {m : Sto}, P xs acc m → acc.length + xs.length ≤ sizeLine →
    (∀ x ys acc m, P (x :: ys) acc m → ∃ r1 m1, tg (.d x) r m = some (r1, m1) ∧ ∃ d m2, e r1 m1 = .ok (.d d) m2 ∧ P ys (acc ++ [d]) m2) → ∃ ds m2, lcL [] tg tTru e r xs acc m = .ok ds m2 ∧ P [] ds m2
  | [], acc, m, h, _, _ => ⟨acc, m, lcL_nil tg tTru e r acc m, h⟩
  | x :: xs, acc, m, h, hz, st => by
    obtain ⟨r1, m1, e1, d, m2, e2, h2⟩ := st x xs acc m h
    simp only [List.length_cons] at hz
    obtain ⟨ds, m3, e3, h3⟩ := lcL_keeps P xs (acc ++ [d]) h2 (by simp only [List.length_append, List.length_singleton]; omega) st
    refine ⟨ds, m3, ?_, h3⟩
    rw [lcL_cons, e1]
    simp only [e_tTru, e2, frz_d]
    rw [if_pos (by omega)]
    exact e3
end DL

/-! DL: sizes of data, what may be shown and compared. -/
namespace DL
open PySem L2
mutual
def fine : D → Bool
  | .none => true
  | .bool _ => true
  | .int i => decide (i.natAbs.log2 < 1900)
  | .str x => PyData.canLay0 (.str x)
  | .list xs => fineA xs
  | .tuple xs => fineA xs
  | .dict _ => false
def fineA : List D → Bool
  | [] => true
  | x :: xs => fine x && fineA xs
end
mutual
/-- at least two more than its text has signs -/
def wt : D → Nat
  | .none => 8
  | .bool _ => 8
  | .int i => i.natAbs.log2 + 6
  | .str x => 10 * x.length + 6
  | .list xs => wtA xs + 5
  | .tuple xs => wtA xs + 6
  | .dict _ => 0
def wtA : List D → Nat
  | [] => 0
  | x :: xs => wt x + wtA xs
end
theorem fineA_app (xs ys : List D) : fineA (xs ++ ys) = (fineA xs && fineA ys) := by
  induction xs with
  | nil => simp [fineA]
  | cons x xs ih => simp only [List.cons_append, fineA, ih, Bool.and_assoc]
theorem wtA_app (xs ys : List D) : wtA (xs ++ ys) = wtA xs + wtA ys := by
  induction xs with
  | nil => simp [wtA]
  | cons x xs ih => simp only [List.cons_append, wtA, ih]; omega
theorem dpA_app (xs ys : List D) : PyData.depthAll (xs ++ ys) = max (PyData.depthAll xs) (PyData.depthAll ys) := by
  induction xs with
  | nil => simp [PyData.depthAll]
  | cons x xs ih => simp only [List.cons_append, PyData.depthAll, ih]; omega
theorem fineA_iff {xs : List D} : fineA xs = true ↔ ∀ x ∈ xs, fine x = true := by
  induction xs with
  | nil => simp [fineA]
  | cons x xs ih => simp [fineA, ih]
theorem dpA_le {xs : List D} {k : Nat} : PyData.depthAll xs ≤ k ↔ ∀ x ∈ xs, PyData.depth x ≤ k := by
  induction xs with
  | nil => simp [PyData.depthAll]
  | cons x xs ih => simp [PyData.depthAll, ← ih]; omega
theorem wtA_mem {xs : List D} {x : D} (h : x ∈ xs) : wt x ≤ wtA xs := by
  induction xs with
  | nil => cases h
  | cons y ys ih =>
    unfold wtA
    rcases List.mem_cons.mp h with e | h
    · subst e; omega
    · have := ih h; omega
theorem wtA_take (xs : List D) (n : Nat) : wtA (xs.take n) ≤ wtA xs := by
  have e := wtA_app (xs.take n) (xs.drop n)
  rw [List.take_append_drop] at e
  omega
theorem wtA_drop (xs : List D) (n : Nat) : wtA (xs.drop n) ≤ wtA xs := by
  have e := wtA_app (xs.take n) (xs.drop n)
  rw [List.take_append_drop] at e
  omega
theorem piled_app1 (t : Str) (ts : List Str) : piled (t :: ts) = (t.length + 2) + piled ts := piled_cons t ts
mutual
theorem fine_lay : ∀ d : D, fine d = true → PyData.canLay0 d = true
  | .none, _ => by simp [PyData.canLay0]
  | .bool _, _ => by simp [PyData.canLay0]
  | .int _, _ => by simp [PyData.canLay0]
  | .str x, h => by simpa [fine] using h
  | .list xs, h => by simp only [PyData.canLay0]; exact fineA_lay xs (by simpa [fine] using h)
  | .tuple xs, h => by simp only [PyData.canLay0]; exact fineA_lay xs (by simpa [fine] using h)
  | .dict _, h => by simp [fine] at h
theorem fineA_lay : ∀ d : List D, fineA d = true → PyData.canLayAll0 d = true
  | [], _ => by simp [PyData.canLayAll0]
  | x :: xs, h => by
    simp only [fineA, Bool.and_eq_true] at h
    simp [PyData.canLayAll0, fine_lay x h.1, fineA_lay xs h.2]
end
mutual
theorem fine_show : ∀ d : D, fine d = true → d.showable = true
  | .none, _ => by simp [PyData.showable]
  | .bool _, _ => by simp [PyData.showable]
  | .int i, h => by
    simp only [fine, decide_eq_true_eq] at h
    simp only [PyData.showable, decide_eq_true_eq]
    omega
  | .str x, h => by simp [PyData.showable]
  | .list xs, h => by simp only [PyData.showable]; exact fineA_show xs (by simpa [fine] using h)
  | .tuple xs, h => by simp only [PyData.showable]; exact fineA_show xs (by simpa [fine] using h)
  | .dict _, h => by simp [fine] at h
theorem fineA_show : ∀ d : List D, fineA d = true → PyData.showableAll d = true
  | [], _ => by simp [PyData.showableAll]
  | x :: xs, h => by
    simp only [fineA, Bool.and_eq_true] at h
    simp [PyData.showableAll, fine_show x h.1, fineA_show xs h.2]
end
mutual
theorem shown_len : ∀ d : D, fine d = true → d.shown.length + 2 ≤ wt d
  | .none, _ => by simp only [PyData.shown, wt]; decide
  | .bool b, _ => by cases b <;> (simp only [PyData.shown, wt]; decide)
  | .int i, h => by
    simp only [PyData.shown, wt]
    have e := int_text_length_le (a := i) (k := i.natAbs.log2 + 1) (by omega) (by omega)
    have e2 : (Str.ofString (toString i)).length = (toString i).length := ofString_length _
    show (Str.ofString (toString i)).length + 2 ≤ _
    omega
  | .str x, h => by
    simp only [PyData.shown, wt]
    have hx : ∀ c ∈ x.cps.toList, c < 16 ^ 8 := fun c hc => by
      simp only [fine, PyData.canLay0, PyData.strOk] at h
      have h2 := (Array.all_eq_true_iff_forall_mem.mp h) c (Array.mem_toList_iff.mp hc)
      have h3 : c < 0x110000 := by simpa using h2
      exact Nat.lt_trans h3 (by decide)
    have := StrLaws.reprText_len x hx
    omega
  | .list xs, h => by
    simp only [PyData.shown, wt]
    have ih := shownA_len xs (by simpa [fine] using h)
    rw [listText_eq_join]
    have e1 : ((("[" : String) : Str)).length = 1 := rfl
    have e2 : ((("]" : String) : Str)).length = 1 := rfl
    rw [strLen_append, strLen_append, e1, e2]
    by_cases hn : PyData.shownAll xs = []
    · rw [hn]
      have e3 : (Str.join ((", " : String) : Str) []).length = 0 := rfl
      rw [e3]
      omega
    · have e3 := join_length_add (PyData.shownAll xs) hn
      omega
  | .tuple xs, h => by
    simp only [PyData.shown, wt]
    have ih := shownA_len xs (by simpa [fine] using h)
    unfold tupleText
    have e1 : ((("(" : String) : Str)).length = 1 := rfl
    have e2 : ((if (PyData.shownAll xs).length == 1 then ",)" else ")" : String) : Str).length ≤ 2 := by
      split
      · exact Nat.le_refl 2
      · exact Nat.le_succ 1
    rw [strLen_append, strLen_append, e1]
    by_cases hn : PyData.shownAll xs = []
    · rw [hn] at e2 ⊢
      have e3 : (Str.join ((", " : String) : Str) []).length = 0 := rfl
      rw [e3]
      omega
    · have e3 := join_length_add (PyData.shownAll xs) hn
      omega
  | .dict _, h => by simp [fine] at h
theorem shownA_len : ∀ d : List D, fineA d = true → piled (PyData.shownAll d) ≤ wtA d
  | [], _ => by simp [PyData.shownAll, wtA, piled]
  | x :: xs, h => by
    simp only [fineA, Bool.and_eq_true] at h
    have h1 := shown_len x h.1
    have h2 := shownA_len xs h.2
    simp only [PyData.shownAll, wtA, piled_cons]
    omega
end
/-- data that may be shown, compared, at most so deep, so long -/
structure Good (k n : Nat) (d : D) : Prop where
  fin : fine d = true
  dep : PyData.depth d ≤ k
  wgt : wt d ≤ n
theorem Good.show {k n : Nat} {d : D} (h : Good k n d) (hk : k ≤ 64) (hn : n ≤ 16777216) : okShow d = true := by
  unfold okShow
  have h1 := shown_len d h.fin
  have h2 := h.wgt
  have h3 := h.dep
  have e : (sizeLine : Nat) = 16777216 := sizeLine_eq
  simp only [fine_show d h.fin, PyData.hasDict_of_canLay d (fine_lay d h.fin), Bool.true_and, Bool.not_false, Bool.and_eq_true, decide_eq_true_eq]
  omega
theorem Good.shaped {k n : Nat} {d : D} (h : Good k n d) (hk : k ≤ 64) : SeqAt.shaped d = true := by
  unfold SeqAt.shaped
  have h3 := h.dep
  simp only [fine_lay d h.fin, Bool.true_and, decide_eq_true_eq]
  omega
theorem Good.mono {k n k' n' : Nat} {d : D} (h : Good k n d) (hk : k ≤ k') (hn : n ≤ n') : Good k' n' d := ⟨h.fin, Nat.le_trans h.dep hk, Nat.le_trans h.wgt hn⟩
theorem shaped_list {xs : List D} (h : ∀ x ∈ xs, fine x = true ∧ PyData.depth x ≤ 63) : SeqAt.shaped (.list xs) = true := by
  unfold SeqAt.shaped
  have h1 : fineA xs = true := fineA_iff.mpr fun x hx => (h x hx).1
  have h2 : PyData.depthAll xs ≤ 63 := dpA_le.mpr fun x hx => (h x hx).2
  have e1 : PyData.canLay0 (.list xs) = true := by simp only [PyData.canLay0]; exact fineA_lay xs h1
  have e2 : PyData.depth (.list xs) = PyData.depthAll xs + 1 := by simp only [PyData.depth]
  rw [e1, e2, Bool.true_and, decide_eq_true_eq]
  omega
theorem shaped_ints (ns : List Int) : SeqAt.shaped (.list (ns.map PyData.int)) = true := by
  unfold SeqAt.shaped
  have h1 : PyData.canLayAll0 (ns.map PyData.int) = true := by
    induction ns with
    | nil => simp [PyData.canLayAll0]
    | cons n ns ih => simp [PyData.canLayAll0, PyData.canLay0, ih]
  have h2 : PyData.depthAll (ns.map PyData.int) ≤ 0 := dpA_le.mpr fun x hx => by
    obtain ⟨i, _, rfl⟩ := List.mem_map.mp hx
    simp [PyData.depth]
  have e1 : PyData.canLay0 (.list (ns.map PyData.int)) = true := by simp only [PyData.canLay0]; exact h1
  have e2 : PyData.depth (.list (ns.map PyData.int)) = PyData.depthAll (ns.map PyData.int) + 1 := by simp only [PyData.depth]
  rw [e1, e2, Bool.true_and, decide_eq_true_eq]
  omega
theorem shaped_nil : SeqAt.shaped (.list []) = true := by decide +kernel
theorem shaped_unit : SeqAt.shaped (.tuple []) = true := by decide +kernel
theorem shaped_int (i : Int) : SeqAt.shaped (.int i) = true := by simp [SeqAt.shaped, PyData.canLay0, PyData.depth]
theorem shaped_bool (i : Bool) : SeqAt.shaped (.bool i) = true := by simp [SeqAt.shaped, PyData.canLay0, PyData.depth]
theorem shaped_str {x : Str} (h : fine (.str x) = true) : SeqAt.shaped (.str x) = true := by
  have := fine_lay _ h
  simp [SeqAt.shaped, this, PyData.depth]
theorem log2_lt {n k : Nat} (hk : 0 < k) (h : n < 2 ^ k) : n.log2 < k := by
  by_cases h0 : n = 0
  · subst h0; simpa using hk
  · exact (Nat.log2_lt h0).mpr h
theorem good_int {i : Int} {j : Nat} (hj : 0 < j) (hj2 : j ≤ 1900) (h : i.natAbs < 2 ^ j) : Good 0 (j + 6) (.int i) := by
  have e := log2_lt hj h
  refine ⟨by simp only [fine, decide_eq_true_eq]; omega, by simp [PyData.depth], by simp only [wt]; omega⟩
theorem line_eq : (sizeLine : Nat) = 16777216 := sizeLine_eq
/-! ### draws: facts of Python's // and % -/
theorem fmod_lt {a b : Int} (hb : 0 < b) : 0 ≤ a.fmod b ∧ a.fmod b < b := by
  rw [Int.fmod_eq_emod_of_nonneg _ (Int.le_of_lt hb)]
  exact ⟨Int.emod_nonneg _ (by omega), Int.emod_lt_of_pos _ hb⟩
theorem atI_lt {α : Type} {xs : List α} {i : Int} (h0 : 0 ≤ i) (h1 : i < xs.length) : ∃ v, atI xs i = some v ∧ v ∈ xs := by
  have hi : i.toNat < xs.length := by omega
  refine ⟨xs[i.toNat], ?_, List.getElem_mem hi⟩
  unfold atI ixN
  rw [if_pos h0, if_pos h1]
  show xs[i.toNat]? = _
  exact List.getElem?_eq_getElem hi
@[simp] theorem atI_0 {α : Type} (x : α) (xs : List α) : atI (x :: xs) 0 = some x := atI_nat (j := 0) rfl
@[simp] theorem atI_1 {α : Type} (x y : α) (xs : List α) : atI (x :: y :: xs) 1 = some y := atI_nat (j := 1) rfl
@[simp] theorem atI_2 {α : Type} (x y z : α) (xs : List α) : atI (x :: y :: z :: xs) 2 = some z := atI_nat (j := 2) rfl
@[simp] theorem atI_3 {α : Type} (x y z u : α) (xs : List α) : atI (x :: y :: z :: u :: xs) 3 = some u := atI_nat (j := 3) rfl
@[simp] theorem atI_4 {α : Type} (x y z u v : α) (xs : List α) : atI (x :: y :: z :: u :: v :: xs) 4 = some v := atI_nat (j := 4) rfl
@[simp] theorem ixN_4_0 : ixN 4 0 = some 0 := by decide
@[simp] theorem ixN_4_1 : ixN 4 1 = some 1 := by decide
@[simp] theorem ixN_4_2 : ixN 4 2 = some 2 := by decide
@[simp] theorem ixN_4_3 : ixN 4 3 = some 3 := by decide
theorem atI_map {α β : Type} (f : α → β) (xs : List α) (i : Int) : atI (xs.map f) i = (atI xs i).map f := by
  unfold atI
  rw [List.length_map]
  cases ixN xs.length i with
  | none => rfl
  | some j => simp
end DL

/-! DL: texts and lists that may be shown. -/
namespace DL
open PySem L2 PyProof.Rows
theorem fine_str {x : Str} : fine (.str x) = true ↔ ∀ c ∈ x.cps.toList, c < 1114112 := by
  simp only [fine, PyData.canLay0, PyData.strOk]
  rw [Array.all_eq_true_iff_forall_mem]
  constructor
  · intro h c hc
    simpa using h c (Array.mem_toList_iff.mp hc)
  · intro h c hc
    have := h c (Array.mem_toList_iff.mpr hc)
    simpa using this
theorem cps_add (x y : Str) : (x ++ y).cps.toList = x.cps.toList ++ y.cps.toList := by
  show (x.cps ++ y.cps).toList = _
  simp
theorem fine_add {x y : Str} (hx : fine (.str x) = true) (hy : fine (.str y) = true) : fine (.str (x ++ y)) = true := by
  rw [fine_str] at *
  intro c hc
  rw [cps_add] at hc
  rcases List.mem_append.mp hc with h | h
  · exact hx c h
  · exact hy c h
theorem fine_one {c : Nat} (h : c < 1114112) : fine (.str ⟨#[c]⟩) = true := by
  rw [fine_str]
  intro d hd
  have : d = c := by simpa using hd
  omega
theorem fine_mem {x : Str} {c : Nat} (h : fine (.str x) = true) (hc : c ∈ x.cps.toList) : c < 1114112 := fine_str.mp h c hc
theorem fine_join {s : Str} (hs : fine (.str s) = true) : ∀ {ys : List Str}, (∀ y ∈ ys, fine (.str y) = true) → fine (.str (Str.join s ys)) = true
  | [], _ => by simp only [Str.join]; decide +kernel
  | [x], h => h x List.mem_cons_self
  | x :: y :: r, h => by
    simp only [Str.join]
    exact fine_add (fine_add (h x List.mem_cons_self) hs) (fine_join hs fun z hz => h z (List.mem_cons_of_mem _ hz))
theorem len_join {s : Str} {n : Nat} : ∀ {ys : List Str}, (∀ y ∈ ys, y.length + s.length ≤ n) → (Str.join s ys).length ≤ n * ys.length
  | [], _ => by simp only [Str.join]; exact Nat.zero_le _
  | [x], h => by have := h x List.mem_cons_self; simp only [Str.join, List.length_singleton]; omega
  | x :: y :: r, h => by
    have h1 := h x List.mem_cons_self
    have h2 := len_join (s := s) (n := n) (ys := y :: r) fun z hz => h z (List.mem_cons_of_mem _ hz)
    simp only [Str.join, strLen_append, List.length_cons] at h2 ⊢
    rw [Nat.mul_add n (r.length + 1) 1]
    omega
theorem join_is (s : Str) (ys : List Str) : Txt.join s ys = Str.join s ys := StrLaws.glued_eq_join s ys
theorem fine_text (i : Int) : fine (.str (Str.ofString (toString i))) = true := by
  rw [fine_str]
  intro c hc
  have := fun h => int_text_free' c h i hc
  by_cases h : c < 1114112
  · exact h
  · exact absurd (this ⟨by omega, by omega⟩) id
theorem good_str {x : Str} {n : Nat} (h : fine (.str x) = true) (hn : x.length ≤ n) : Good 0 (10 * n + 6) (.str x) := ⟨h, by simp [PyData.depth], by simp only [wt]; omega⟩
theorem good_text {i : Int} {j : Nat} (hj : 0 < j) (h : i.natAbs < 2 ^ j) : Good 0 (10 * (j + 1) + 6) (.str (Str.ofString (toString i))) := by
  refine good_str (fine_text i) ?_
  rw [PySem.ofString_length]
  exact int_text_length_le hj (log2_lt hj h)
structure GoodA (k n : Nat) (xs : List D) : Prop where
  fin : fineA xs = true
  dep : PyData.depthAll xs ≤ k
  wgt : wtA xs ≤ n
theorem GoodA.nil {k : Nat} : GoodA k 0 [] := ⟨by simp [fineA], by simp [PyData.depthAll], by simp [wtA]⟩
theorem GoodA.cons {k a b : Nat} {x : D} {xs : List D} (h : Good k a x) (hs : GoodA k b xs) : GoodA k (a + b) (x :: xs) :=
  ⟨by simp [fineA, h.fin, hs.fin], by have := h.dep; have := hs.dep; simp only [PyData.depthAll]; omega, by have := h.wgt; have := hs.wgt; simp only [wtA]; omega⟩
theorem GoodA.one {k a : Nat} {x : D} (h : Good k a x) : GoodA k a [x] := (GoodA.cons h .nil)
theorem GoodA.app {k a b : Nat} {xs ys : List D} (h : GoodA k a xs) (hs : GoodA k b ys) : GoodA k (a + b) (xs ++ ys) :=
  ⟨by rw [fineA_app, h.fin, hs.fin]; rfl, by rw [dpA_app]; have := h.dep; have := hs.dep; omega, by rw [wtA_app]; have := h.wgt; have := hs.wgt; omega⟩
theorem GoodA.mono {k n k' n' : Nat} {d : List D} (h : GoodA k n d) (hk : k ≤ k') (hn : n ≤ n') : GoodA k' n' d := ⟨h.fin, Nat.le_trans h.dep hk, Nat.le_trans h.wgt hn⟩
theorem GoodA.mem {k n : Nat} {x : D} {xs : List D} (h : GoodA k n xs) (hx : x ∈ xs) : Good k n x :=
  ⟨fineA_iff.mp h.fin x hx, dpA_le.mp h.dep x hx, Nat.le_trans (wtA_mem hx) h.wgt⟩
theorem GoodA.tup {k n : Nat} {xs : List D} (h : GoodA k n xs) : Good (k + 1) (n + 6) (.tuple xs) := ⟨by simp [fine, h.fin], by have := h.dep; simp only [PyData.depth]; omega, by have := h.wgt; simp only [wt]; omega⟩
theorem GoodA.lst {k n : Nat} {xs : List D} (h : GoodA k n xs) : Good (k + 1) (n + 6) (.list xs) := ⟨by simp [fine, h.fin], by have := h.dep; simp only [PyData.depth]; omega, by have := h.wgt; simp only [wt]; omega⟩
theorem Good.un {k n : Nat} {xs : List D} (h : Good k n (.tuple xs)) : GoodA (k - 1) (n - 6) xs := by
  have h1 := h.fin
  have h2 := h.dep
  have h3 := h.wgt
  simp only [fine] at h1
  simp only [PyData.depth] at h2
  simp only [wt] at h3
  exact ⟨h1, by omega, by omega⟩
theorem Good.unl {k n : Nat} {xs : List D} (h : Good k n (.list xs)) : GoodA (k - 1) (n - 5) xs := by
  have h1 := h.fin
  have h2 := h.dep
  have h3 := h.wgt
  simp only [fine] at h1
  simp only [PyData.depth] at h2
  simp only [wt] at h3
  exact ⟨h1, by omega, by omega⟩
theorem Good.pos {k n : Nat} {x : D} (h : Good k n x) : 2 ≤ n := by
  have := h.wgt
  have := shown_len x h.fin
  omega
theorem GoodA.len {k n : Nat} : ∀ {xs : List D}, GoodA k n xs → 2 * xs.length ≤ n
  | [], _ => Nat.zero_le _
  | x :: xs, h => by
    have h1 := h.fin
    have h2 := h.dep
    have h3 := h.wgt
    simp only [fineA, Bool.and_eq_true] at h1
    simp only [PyData.depthAll] at h2
    simp only [wtA] at h3
    have := shown_len x h1.1
    have ih := GoodA.len (xs := xs) (k := k) (n := n - wt x) ⟨h1.2, by omega, by omega⟩
    simp only [List.length_cons]
    omega
theorem GoodA.cut {k n : Nat} {xs : List D} (h : GoodA k n xs) (lo hi : Option Int) : GoodA k n (cutD xs lo hi) := by
  unfold cutD
  refine ⟨fineA_iff.mpr fun y hy => ?_, dpA_le.mpr fun y hy => ?_, ?_⟩
  · exact fineA_iff.mp h.fin y (List.mem_of_mem_drop (List.mem_of_mem_take hy))
  · exact dpA_le.mp h.dep y (List.mem_of_mem_drop (List.mem_of_mem_take hy))
  · exact Nat.le_trans (wtA_take _ _) (Nat.le_trans (wtA_drop _ _) h.wgt)
theorem GoodA.set {k n : Nat} {x : D} : ∀ {xs : List D}, GoodA k n xs → Good k n x → ∀ i, GoodA k (n + n) (xs.set i x)
  | xs, h, hx, i => by
    refine ⟨fineA_iff.mpr fun y hy => ?_, dpA_le.mpr fun y hy => ?_, ?_⟩
    · rcases List.mem_or_eq_of_mem_set hy with e | e
      · exact fineA_iff.mp h.fin y e
      · exact e ▸ hx.fin
    · rcases List.mem_or_eq_of_mem_set hy with e | e
      · exact dpA_le.mp h.dep y e
      · exact e ▸ hx.dep
    · have : ∀ (xs : List D) (i : Nat), wtA (xs.set i x) ≤ wtA xs + wt x := by
        intro xs
        induction xs with
        | nil => intro i; simp [wtA]
        | cons y ys ih =>
          intro i
          cases i with
          | zero => simp only [List.set_cons_zero, wtA]; omega
          | succ i => have := ih i; simp only [List.set_cons_succ, wtA]; omega
      have := this xs i
      have := h.wgt
      have := hx.wgt
      omega
theorem good_none : Good 0 8 .none := ⟨by simp [fine], by simp [PyData.depth], by simp [wt]⟩
theorem good_bool (b : Bool) : Good 0 8 (.bool b) := ⟨by simp [fine], by simp [PyData.depth], by simp [wt]⟩
theorem Good.tup0 : Good 1 6 (.tuple []) := ⟨by simp [fine, fineA], by simp [PyData.depth, PyData.depthAll], by simp [wt, wtA]⟩
theorem atI_mem {α : Type} {xs : List α} {i : Int} {v : α} (h : atI xs i = some v) : v ∈ xs := by
  unfold atI at h
  cases e : ixN xs.length i with
  | none => rw [e] at h; cases h
  | some j => rw [e] at h; exact List.mem_of_getElem? h
/-- a fact of a list's cell that has just been made -/
@[simp] theorem get_last (m : Sto) (c : Cell) : (m ++ [c])[m.length]? = some c := by simp
@[simp] theorem set_last (m : Sto) (c d : Cell) : (m ++ [c]).set m.length d = m ++ [d] := by simp
/-! ### one look at what a datum is worth -/
def goodB (k n : Nat) (d : D) : Bool := fine d && (decide (PyData.depth d ≤ k) && decide (wt d ≤ n))
theorem good_of {k n : Nat} {d : D} (h : goodB k n d = true) : Good k n d := by
  simp only [goodB, Bool.and_eq_true, decide_eq_true_eq] at h
  exact ⟨h.1, h.2.1, h.2.2⟩
end DL

/-! DL: a repr is a text that may be compared. -/
namespace DL
open PySem L2 Builtin.Str
theorem char_lt (c : Char) : c.toNat < 1114112 := by
  rcases c.valid with h | h
  · have : c.toNat < 55296 := h
    omega
  · exact h.2
theorem reprChar_lt {q c : Nat} (hq : q < 1114112) (hc : c < 1114112) : ∀ x ∈ reprChar q c, x < 1114112 := by
  intro x hx
  unfold reprChar at hx
  dsimp only at hx
  repeat' split at hx
  all_goals simp only [List.mem_cons, List.not_mem_nil, or_false, List.mem_append, List.mem_replicate, List.mem_map] at hx
  all_goals first
    | omega
    | (rcases hx with (h | h) | (h | ⟨d, _, h⟩)
       · omega
       · omega
       · omega
       · have := char_lt d
         omega)
theorem foldl_repr_lt {q : Nat} (hq : q < 1114112) : ∀ (l : List Nat) (acc : Array Nat), (∀ c ∈ acc.toList, c < 1114112) → (∀ c ∈ l, c < 1114112) → ∀ c ∈ (l.foldl (fun out c => out ++ (reprChar q c).toArray) acc).toList, c < 1114112
  | [], acc, h, _ => h
  | a :: r, acc, h, hl => by
    simp only [List.foldl_cons]
    refine foldl_repr_lt hq r _ ?_ fun c hc => hl c (List.mem_cons_of_mem _ hc)
    intro c hc
    simp only [Array.toList_append, List.mem_append] at hc
    rcases hc with hc | hc
    · exact h c hc
    · exact reprChar_lt hq (hl a List.mem_cons_self) c hc
theorem quote_lt (x : Str) : reprQuote x < 1114112 := by
  unfold reprQuote
  split <;> decide
theorem fine_repr {x : Str} (h : fine (.str x) = true) : fine (.str (reprText x)) = true := by
  rw [fine_str] at *
  intro c hc
  have e : (reprText x).cps = (x.cps.foldl (fun out c => out ++ (reprChar (reprQuote x) c).toArray) #[reprQuote x]).push (reprQuote x) := rfl
  rw [e, Array.toList_push, ← Array.foldl_toList] at hc
  rcases List.mem_append.mp hc with hc | hc
  · exact foldl_repr_lt (quote_lt x) _ _ (by intro d hd; have : d = reprQuote x := by simpa using hd
                                             rw [this]; exact quote_lt x) h c hc
  · have : c = reprQuote x := by simpa using hc
    rw [this]; exact quote_lt x
mutual
theorem fine_shown : ∀ d : D, fine d = true → fine (.str d.shown) = true
  | .none, _ => by simp only [PyData.shown]; decide +kernel
  | .bool b, _ => by cases b <;> (simp only [PyData.shown]; decide +kernel)
  | .int i, _ => by simp only [PyData.shown]; exact fine_text i
  | .str x, h => by simp only [PyData.shown]; exact fine_repr h
  | .list xs, h => by
    simp only [PyData.shown]
    have ih := fineA_shown xs (by simpa [fine] using h)
    rw [listText_eq_join]
    exact fine_add (fine_add (by decide +kernel) (fine_join (by decide +kernel) ih)) (by decide +kernel)
  | .tuple xs, h => by
    simp only [PyData.shown]
    have ih := fineA_shown xs (by simpa [fine] using h)
    unfold tupleText
    refine fine_add (fine_add (by decide +kernel) (fine_join (by decide +kernel) ih)) ?_
    split <;> decide +kernel
  | .dict _, h => by simp [fine] at h
theorem fineA_shown : ∀ d : List D, fineA d = true → ∀ y ∈ PyData.shownAll d, fine (.str y) = true
  | [], _ => by simp [PyData.shownAll]
  | x :: xs, h => by
    simp only [fineA, Bool.and_eq_true] at h
    have h1 := fine_shown x h.1
    have h2 := fineA_shown xs h.2
    simp only [PyData.shownAll]
    intro y hy
    rcases List.mem_cons.mp hy with rfl | hy
    · exact h1
    · exact h2 y hy
end
theorem Good.text {k n : Nat} {d : D} (h : Good k n d) : Good 0 (10 * n + 6) (.str d.shown) := good_str (fine_shown d h.fin) (by have := shown_len d h.fin; have := h.wgt; omega)
mutual
theorem eqv_refl : ∀ d : D, fine d = true → PyData.eqv d d = true
  | .none, _ => by simp [PyData.eqv]
  | .bool b, _ => by simp [PyData.eqv]
  | .int i, _ => by simp [PyData.eqv]
  | .str x, h => by simp [PyData.eqv]
  | .list xs, h => by simp only [PyData.eqv]; exact eqvA_refl xs (by simpa [fine] using h)
  | .tuple xs, h => by simp only [PyData.eqv]; exact eqvA_refl xs (by simpa [fine] using h)
  | .dict _, h => by simp [fine] at h
theorem eqvA_refl : ∀ d : List D, fineA d = true → PyData.eqvAll d d = true
  | [], _ => by simp [PyData.eqvAll]
  | x :: xs, h => by
    simp only [fineA, Bool.and_eq_true] at h
    simp [PyData.eqvAll, eqv_refl x h.1, eqvA_refl xs h.2]
end
end DL

/-! DL: more rules. -/
namespace DL
open PySem L2 PyProof.Rows
/-! ### // by any divisor -/
def CDivA (_ j : Int) : Prop := j ≠ 0 ∧ j.natAbs.log2 < 9000
theorem or_divA {X : Cx} : OpR X (binaryOp .FloorDiv) (rI CDivA fun i j => .int (i.fdiv j)) := opI fun _ _ _ _ _ _ _ hc q => floordiv_int hc.1 q (.inl (PyProof.noPylong_of_log2 hc.2))
abbrev gDivA := gI (fun _ j => decide (j ≠ 0) && decide (j.natAbs.log2 < 9000)) fun i j => .int (i.fdiv j)
theorem od_divA {K : PySem.W.Frag} : OpD K (rI CDivA fun i j => V.int (i.fdiv j)) gDivA := od_I (fun _ _ h => by
  have := Bool.and_eq_true_iff.mp h
  exact ⟨of_decide_eq_true this.1, of_decide_eq_true this.2⟩) fun _ _ _ => .int _
/-! ### list + list as a new list -/
def dCat (f f' : Fe) : Fl := fun r m => (f r m).bind fun x m1 => (f' r m1).bind fun y m2 => match datOf x m2, datOf y m2 with
  | some (.list xs), some (.list ys) => if xs.length + ys.length ≤ sizeLine then .ok (xs ++ ys) m2 else .bad
  | _, _ => .bad
section
variable {X : Cx} {Wx : WX} {pos : Pos} {a b : Expr} {fa fb : Fe}
theorem df_cat (ha : DE X Wx a fa) (hb : DE X Wx b fb) : DF X Wx (.BinOp a .Add b pos) (dCat fa fb) := pe_weak (pe_op (op_cat (X := X)) ha hb) fun s H Q q => by
  obtain ⟨ρ, ad, m, F, he, hA, hp⟩ := q
  refine ⟨_, _, _, _, he, hA, Post.mono (Post.bind hp) (fun x m1 ad1 F1 H1 e1 ha1 q0 u ru => ?_) fun _ _ _ _ _ _ _ _ z => z⟩
  obtain ⟨_, _, h1⟩ := q0
  refine ⟨_, _, _, _, he.ext e1, ha1, Post.mono (Post.bind h1) (fun y m2 ad2 F2 H2 e2 ha2 q0 v rv => ?_) fun _ _ _ _ _ _ _ _ z => z⟩
  obtain ⟨_, _, h2⟩ := q0
  cases ex : datOf x m2 with
  | none => simp only [ex] at h2; exact h2.elim
  | some dx =>
    cases dx with
    | list xs =>
      cases ey : datOf y m2 with
      | none => simp only [ex, ey] at h2; exact h2.elim
      | some dy =>
        cases dy with
        | list ys =>
          simp only [ex, ey] at h2
          by_cases hz : xs.length + ys.length ≤ sizeLine
          · rw [if_pos hz] at h2
            obtain ⟨p, vs, rfl, q1, s1⟩ := ha2.lst' (ru.ext e2) ex
            obtain ⟨p', ws, rfl, q2, s2⟩ := ha2.lst' rv ey
            refine ⟨_, _, _, _, rfl, rfl, q1, q2, by rw [s1.len, s2.len]; exact hz, fun p hp' => ?_⟩
            obtain ⟨a3, x3⟩ := ha2.room (o := .lst (vs ++ ws)) hp'
            obtain ⟨np, fp⟩ := ha2.out hp'
            exact h2 _ _ _ x3 a3 p _ ((e1.trans e2).was hp' np) upd_same fp np (s1.app s2)
          · rw [if_neg hz] at h2; exact h2.elim
        | none => simp only [ex, ey] at h2; exact h2.elim
        | bool _ => simp only [ex, ey] at h2; exact h2.elim
        | int _ => simp only [ex, ey] at h2; exact h2.elim
        | str _ => simp only [ex, ey] at h2; exact h2.elim
        | tuple _ => simp only [ex, ey] at h2; exact h2.elim
        | dict _ => simp only [ex, ey] at h2; exact h2.elim
    | none => simp only [ex] at h2; exact h2.elim
    | bool _ => simp only [ex] at h2; exact h2.elim
    | int _ => simp only [ex] at h2; exact h2.elim
    | str _ => simp only [ex] at h2; exact h2.elim
    | tuple _ => simp only [ex] at h2; exact h2.elim
    | dict _ => simp only [ex] at h2; exact h2.elim
end
@[simp] theorem e_cat (f f' : Fe) (r : Rho) (m : Sto) : dCat f f' r m = (f r m).bind fun x m1 => (f' r m1).bind fun y m2 => match datOf x m2, datOf y m2 with
  | some (.list xs), some (.list ys) => if xs.length + ys.length ≤ sizeLine then .ok (xs ++ ys) m2 else .bad
  | _, _ => .bad := rfl
/-! ### a, b = a list -/
def gU (n : Nat) (gs : List W → Rho → Sto → Option (Rho × Sto)) : Fg := fun w r m => match lstOf w m with
  | some ds => if ds.length = n then gs (ds.map .d) r m else none
  | none => none
section
variable {X : Cx} {pos : Pos} {es : List Expr} {sl : List Nat}
theorem dg_unl {k n : Nat} {gs : List W → Rho → Sto → Option (Rho × Sto)} (hc : X.calm = true) (h : DGs X sl es gs) (hn : (assignEach es X.env).length = n := by rfl) (hst : (assignEach es X.env).findIdx? (·.1) = none := by rfl) :
    DG X sl (.Tuple es k pos) (gU n gs) := pg_weak (pg_unl hc h hn hst) fun v s H q z => by
  obtain ⟨w, r, ad, m, F, h1, h2, h3, h4⟩ := z
  unfold gU at h4
  cases e : lstOf w m with
  | none => simp only [e] at h4
  | some ds =>
    simp only [e] at h4
    obtain ⟨a, vs, rfl, q1, s1⟩ := h3.lst h1 e
    by_cases hl : ds.length = n
    · simp only [if_pos hl] at h4
      exact ⟨_, _, rfl, q1, by rw [s1.len]; exact hl, _, r, ad, m, F, rws_of s1, h2, h3, h4⟩
    · simp only [if_neg hl] at h4
end
@[simp] theorem t_u (n : Nat) (h : List W → Rho → Sto → Option (Rho × Sto)) (w : W) (r : Rho) (m : Sto) : gU n h w r m = match lstOf w m with
  | some ds => if ds.length = n then h (ds.map .d) r m else none
  | none => none := rfl
/-! ### methods that only look -/
def MtRd (K : PySem.W.Frag) (r : V → List V → Hp → VK → Prop) (g : W → List W → Sto → Option W) : Prop := ∀ (o : W) (ws : List W) (z : W) (u : V) (vs : List V) (ad : List Addr) (m : Sto) (F H : Hp) (Q : VK),
  RW K ad F o u → RWs K ad F ws vs → At K ad m F H → g o ws m = some z → (∀ b F' H', Ext ad F H ad F' H' → At K ad m F' H' → RW K ad F' z b → Q b H') → r u vs H Q
def dLook (g : W → List W → Sto → Option W) (f : Fe) (fs : Fa) : Fe := fun r m => (f r m).bind fun w m1 => (lstOf w m1).elim .bad fun _ => (fs r m1).bind fun ws m2 => .opt (g w ws m2) m2
section
variable {K : PySem.W.Frag} {Wx : WX} {f : Fe} {fs : Fa}
theorem look_w {r : V → List V → Hp → VK → Prop} {g : W → List W → Sto → Option W} (hg : MtRd K r g) {s : L2.St} {H : Hp} {Q : VK} (q : LE K Wx (dLook g f fs) s H Q) : tBM K "list" r (LE K Wx f) (LA K Wx fs) s H Q := by
  obtain ⟨ρ, ad, m, F, he, hA, hp⟩ := q
  refine ⟨_, _, _, _, he, hA, Post.mono (Post.bind hp) (fun w m1 ad1 F1 H1 e1 ha1 q0 u rw1 => ?_) fun _ _ _ _ _ _ _ _ z => z⟩
  obtain ⟨_, _, h1⟩ := q0
  cases ec : lstOf w m1 with
  | none => rw [ec] at h1; exact h1.elim
  | some xs =>
    rw [ec] at h1
    obtain ⟨a, vs0, rfl, q1, s1⟩ := ha1.lst rw1 ec
    refine ⟨.inl ⟨rfl, vs0, q1⟩, ?_⟩
    refine ⟨_, _, _, _, he.ext e1, ha1, Post.mono (Post.bind h1) (fun ws m2 ad2 F2 H2 e2 ha2 q0 vs rw2 => ?_) fun _ _ _ _ _ _ _ _ z => z⟩
    obtain ⟨_, _, h2⟩ := q0
    cases eg : g w ws m2 with
    | none => rw [eg] at h2; exact h2.elim
    | some z =>
      rw [eg] at h2
      exact hg w ws z _ vs ad2 m2 F2 H2 Q (rw1.ext e2) rw2 ha2 eg fun b F' H' x1 x2 x3 => h2 _ _ _ x1 x2 b x3
end
theorem de_look {X : Cx} {Wx : WX} {e : Expr} {f : Fe} {fs : Fa} {r : V → List V → Hp → VK → Prop} {g : W → List W → Sto → Option W} (hg : MtRd X.K r g) (h : PE X e (tBM X.K "list" r (LE X.K Wx f) (LA X.K Wx fs))) : DE X Wx e (dLook g f fs) :=
  pe_weak h fun _ _ _ q => look_w hg q
@[simp] theorem e_look (g : W → List W → Sto → Option W) (f : Fe) (fs : Fa) (r : Rho) (m : Sto) : dLook g f fs r m = (f r m).bind fun w m1 => (lstOf w m1).elim .bad fun _ => (fs r m1).bind fun ws m2 => .opt (g w ws m2) m2 := rfl
section
variable {X : Cx} {Wx : WX} {e : Expr} {f : Fe} {fs : Fa} {r : V → List V → Hp → VK → Prop} {g : Nat → List W → Sto → Option (W × Sto)}
theorem de_mt (hg : MtD X.K r g) (h : PE X e (tBM X.K "list" r (LE X.K Wx f) (LA X.K Wx fs))) : DE X Wx e (dMt g f fs) := pe_weak h fun _ _ _ q => mt_w hg q
theorem de_mt0 (hg : MtD X.K r g) (h : PE X e (tBM0 X.K "list" r (LE X.K Wx f))) : DE X Wx e (dMt g f dNil) := pe_weak h fun _ _ _ q => mt0_w hg q
end
/-! ### how many are equal -/
def rCountD (K : PySem.W.Frag) : V → List V → Hp → VK → Prop := fun x xs H Q => ∃ (p : Addr) (y : V) (d : PyData) (ds : List PyData), x = V.ref p ∧ xs = [y] ∧ Dp K H (V.ref p) (.list ds) ∧ Dp K H y d ∧
  SeqAt.shaped (.list ds) = true ∧ SeqAt.shaped d = true ∧ Q (.int (ds.countP fun z => PyData.eqv z d : Nat)) H
theorem mt_countD {X : Cx} (hu : X.A.units + 65 < cLine) : MtR X "list.count" (rCountD X.K) := by
  intro pins s σ H x xs v us Q I rx rxs h
  obtain ⟨p, y, d, ds, rfl, rfl, hl, hy, sl, sd, q⟩ := h
  cases rx
  obtain ⟨uy, rfl, ry⟩ := rxs.one
  obtain ⟨bs, r1⟩ := Dp.reads I d y uy hy ry
  have lay : PyData.canLayAll0 ds = true := SeqAt.canLay_of_shaped sl
  have room : X.A.units + 1 + min (PyData.depthAll ds) d.depth < cLine := room_in_shaped sd hu
  cases hl with
  | lst hs ha =>
    obtain ⟨its, rv, ⟨⟨cl, dct, dt, slo⟩, n, ho, hc, hdn, hdt⟩, hlen⟩ := I.list hs
    simp only at hc hdt
    subst hc hdt
    obtain ⟨as, h4⟩ := Dp.readsAll I ds _ its ha rv
    have hm : its.map (SeqAt.readOf s.heap) = ds := SeqAt.readsAll_map ds its as lay h4
    refine call_meets PySem.F.slot_list_count ⟨_, ho, rfl⟩ PySem.F.entry_list_count (PySem.F.args_list_count_2 _ _)
      (SeqAt.list_countAt p its.toArray n dct slo uy (fun u => PyData.eqv (SeqAt.readOf s.heap u) d)) ⟨ho, SeqAt.items_eqAt (vs := its.toArray) (show ReadsAll s.heap its.toArray.toList ds as from h4) r1 lay (SeqAt.canLay_of_shaped sd) room, ?_⟩
    have ec : its.toArray.toList.countP (fun u => PyData.eqv (SeqAt.readOf s.heap u) d) = ds.countP fun z => PyData.eqv z d := by
      rw [← hm, List.countP_map]
      rfl
    refine ⟨.int (ds.countP fun z => PyData.eqv z d : Nat), H, I.tok _, ⟨s.toks, ?_⟩, q⟩
    show Value.int ((its.toArray.toList.countP (fun u => PyData.eqv (SeqAt.readOf s.heap u) d) : Nat) : Int) s.toks = _
    rw [ec]
def gCount (o : W) : List W → Sto → Option W
  | [y], m => match datOf o m, datOf y m with
    | some (.list ds), some d => if SeqAt.shaped (.list ds) && SeqAt.shaped d then some (.d (.int (ds.countP fun z => PyData.eqv z d : Nat))) else none
    | _, _ => none
  | _, _ => none
theorem md_count {K : PySem.W.Frag} : MtRd K (rCountD K) gCount := by
  intro o ws z u vs ad m F H Q r1 r2 hA e q
  unfold gCount at e
  split at e
  · rename_i y m0
    obtain ⟨v, rfl, ry⟩ := r2.one
    split at e
    · rename_i ds d h1 h2
      split at e
      · rename_i hs
        cases e
        have hs := Bool.and_eq_true_iff.mp hs
        obtain ⟨a, vs, rfl, _, _⟩ := hA.lst' r1 h1
        exact ⟨a, v, d, ds, rfl, rfl, hA.dp r1 h1, hA.dp ry h2, hs.1, hs.2, q _ F H Ext.refl hA (.int _)⟩
      · cases e
    · cases e
  · cases e
@[simp] theorem count_1 (ds : List D) (x : D) (m : Sto) : gCount (.d (.list ds)) [.d x] m = if SeqAt.shaped (.list ds) && SeqAt.shaped x then some (.d (.int (ds.countP fun z => PyData.eqv z x : Nat))) else none := rfl
/-! ### sizes of small tuples -/
theorem t1 {x : D} {k K a N : Nat} (h : Good k a x) (hn : a + 6 ≤ N) (hk : k + 1 ≤ K) : Good K N (.tuple [x]) := (GoodA.one h).tup.mono hk (by omega)
theorem t2 {x y : D} {k l K a b N : Nat} (h : Good k a x) (h2 : Good l b y) (hn : a + b + 6 ≤ N) (hk : k + 1 ≤ K) (hl : l + 1 ≤ K) : Good K N (.tuple [x, y]) :=
  ((GoodA.one (h.mono (k' := K - 1) (by omega) (Nat.le_refl _))).app (GoodA.one (h2.mono (k' := K - 1) (by omega) (Nat.le_refl _)))).tup.mono (by omega) (by omega)
theorem l2 {x y : D} {k l K a b N : Nat} (h : Good k a x) (h2 : Good l b y) (hn : a + b + 6 ≤ N) (hk : k + 1 ≤ K) (hl : l + 1 ≤ K) : Good K N (.list [x, y]) :=
  ((GoodA.one (h.mono (k' := K - 1) (by omega) (Nat.le_refl _))).app (GoodA.one (h2.mono (k' := K - 1) (by omega) (Nat.le_refl _)))).lst.mono (by omega) (by omega)
theorem t3 {x y z : D} {k l n K a b c N : Nat} (h : Good k a x) (h2 : Good l b y) (h3 : Good n c z) (hn : a + b + c + 6 ≤ N) (hk : k + 1 ≤ K) (hl : l + 1 ≤ K) (hz : n + 1 ≤ K) : Good K N (.tuple [x, y, z]) :=
  (((GoodA.one (h.mono (k' := K - 1) (by omega) (Nat.le_refl _))).app (GoodA.one (h2.mono (k' := K - 1) (by omega) (Nat.le_refl _)))).app (GoodA.one (h3.mono (k' := K - 1) (by omega) (Nat.le_refl _)))).tup.mono (by omega) (by omega)
theorem goodA_all {k n : Nat} : ∀ {xs : List D}, (∀ x ∈ xs, Good k n x) → GoodA k (n * xs.length) xs
  | [], _ => GoodA.nil
  | x :: xs, h => by
    have := GoodA.cons (h x List.mem_cons_self) (goodA_all fun y hy => h y (List.mem_cons_of_mem _ hy))
    exact this.mono (Nat.le_refl _) (by rw [List.length_cons, Nat.mul_add]; omega)
theorem eqv_int (a b : Int) : PyData.eqv (.int a) (.int b) = (a == b) := by simp [PyData.eqv]
theorem str_eqv (x : Str) : PyData.eqv (.str x) (.str x) = true := by simp [PyData.eqv]
/-! ### cells at the end of a store -/
@[simp] theorem get_at0 (m l : Sto) (c : Cell) : (m ++ c :: l)[m.length]? = some c := by simp
@[simp] theorem get_at1 (m l : Sto) (a c : Cell) : (m ++ a :: c :: l)[m.length + 1]? = some c := by simp
@[simp] theorem get_at2 (m l : Sto) (a b c : Cell) : (m ++ a :: b :: c :: l)[m.length + 2]? = some c := by simp
@[simp] theorem set_at0 (m l : Sto) (c d : Cell) : (m ++ c :: l).set m.length d = m ++ d :: l := by simp
@[simp] theorem set_at1 (m l : Sto) (a c d : Cell) : (m ++ a :: c :: l).set (m.length + 1) d = m ++ a :: d :: l := by simp [List.set_append_right]
@[simp] theorem set_at2 (m l : Sto) (a b c d : Cell) : (m ++ a :: b :: c :: l).set (m.length + 2) d = m ++ a :: b :: d :: l := by simp [List.set_append_right]
end DL

/-! DL: a target with a star. -/
namespace DL
open PySem L2 PyProof.Rows
section
variable {prog : Program} {w : World} {A : Around} {E : Value → Shared → Prop} {s : Shared}
/-- what a starred target takes of so many items -/
abbrev stMid (n i z : Nat) {α : Type} (xs : List α) : List α := (xs.drop i).take (z + 1 - n)
abbrev stEnd (n i z : Nat) {α : Type} (xs : List α) : List α := (xs.drop i).drop (z + 1 - n)
theorem star_items_l {p : Addr} {its : Array Value} {n i : Nat} {Q : List Value → Shared → Prop} (hs : s.heap.IsList p its) (h0 : A.handled = none) (hi : i < n) (hn : n ≤ its.size + 1) (hz : its.size ≤ sizeLine)
    (q : ∀ (g : Heap) (tk : Nat), Heap.ExtBut s.heap.objs.size s.heap g → Q (its.toList.take i ++ [.ref g.objs.size] ++ stEnd n i its.size its.toList) { s with heap := g.push { cls := .type "list", data := .seq (stMid n i its.size its.toList).toArray }, toks := tk }) :
    wpAny (model prog w) A (unpackItems (.ref p) n (some i)) Q E s := by
  obtain ⟨op, hop, _⟩ := id hs
  have np : p ≠ s.heap.objs.size := Nat.ne_of_lt (Heap.lt_size hop)
  unfold unpackItems
  refine wpAny_bind (by
    unfold notIterableAtAll
    refine wpAny_bind (wpAny_specialOf hs.typeIs slot_list_iter.lookup (wpAny_pure ?_))
    rw [if_neg (by decide)]
    refine wpAny_bind (wpAny_holding (wpAny_pyIter_list hs ?_))
    refine wpAny_bind (wpAny_holding (PySem.W.kun_draw np i 0 _ _ ⟨_, Heap.get?_push_size _ rfl, rfl, rfl⟩ (hs.push _) (by omega) fun g1 t1 b1 => ?_))
    have hs1 : g1.IsList p its := (hs.push _).extBut b1.extBut np
    rw [Nat.zero_add] at t1
    obtain ⟨o1, ho1, _⟩ := id t1
    obtain ⟨o2, ho2, _⟩ := id hs1
    rw [List.drop_zero]
    have l1 : (its.toList.take i).length = i := by rw [List.length_take, Array.length_toList]; omega
    have l2 : (its.toList.drop i).length = its.size - i := by rw [List.length_drop, Array.length_toList]
    rw [if_neg (show ¬ (its.toList.take i).length < i by omega)]
    refine wpAny_bind (wpAny_holding (PySem.W.kun_collect (s := { s with heap := g1 }) (.inr (.inr (.inl rfl))) (Walks.list (A := A.in1) h0 s.heap.objs.size p np its) (fun _ _ z => z.1.typeIs) (k := i) (by omega) ⟨t1, hs1⟩ (Heap.lt_size ho1) (Heap.lt_size ho2) (fun g2 tk kk => ?_) hz))
    have l3 : (its.toList.drop i).length - (n - 1 - i) = its.size + 1 - n := by omega
    dsimp only
    rw [if_neg (show ¬ (its.toList.drop i).length < n - 1 - i by omega), l3]
    have hx : Heap.ExtBut s.heap.objs.size s.heap g2 := fun b o nb e => kk b o nb (b1.extBut b o nb (Heap.get?_push_of_some _ e))
    refine wpAny_bind (wpAny_newList ?_ ?_)
    · exact wpAny_pure (q g2 tk hx)
    · rw [List.length_take, l2]; omega)
theorem star_items_t {p : Addr} {its : Array Value} {n i : Nat} {Q : List Value → Shared → Prop} (hs : IsTup s.heap p its) (h0 : A.handled = none) (hi : i < n) (hn : n ≤ its.size + 1) (hz : its.size ≤ sizeLine)
    (q : ∀ (g : Heap) (tk : Nat), Heap.ExtBut s.heap.objs.size s.heap g → Q (its.toList.take i ++ [.ref g.objs.size] ++ stEnd n i its.size its.toList) { s with heap := g.push { cls := .type "list", data := .seq (stMid n i its.size its.toList).toArray }, toks := tk }) :
    wpAny (model prog w) A (unpackItems (.ref p) n (some i)) Q E s := by
  obtain ⟨op, hop, _⟩ := id hs
  have np : p ≠ s.heap.objs.size := Nat.ne_of_lt (Heap.lt_size hop)
  unfold unpackItems
  refine wpAny_bind (by
    unfold notIterableAtAll
    refine wpAny_bind (wpAny_specialOf hs.typeIs slot_tuple_iter.lookup (wpAny_pure ?_))
    rw [if_neg (by decide)]
    refine wpAny_bind (wpAny_holding (iter_tuple hs ?_))
    refine wpAny_bind (wpAny_holding (draw_tuple np i 0 _ _ ⟨_, Heap.get?_push_size _ rfl, rfl, rfl⟩ (hs.push _) (by omega) fun g1 t1 b1 => ?_))
    have hs1 : IsTup g1 p its := (hs.push _).extBut b1.extBut np
    rw [Nat.zero_add] at t1
    obtain ⟨o1, ho1, _⟩ := id t1
    obtain ⟨o2, ho2, _⟩ := id hs1
    rw [List.drop_zero]
    have l1 : (its.toList.take i).length = i := by rw [List.length_take, Array.length_toList]; omega
    have l2 : (its.toList.drop i).length = its.size - i := by rw [List.length_drop, Array.length_toList]
    rw [if_neg (show ¬ (its.toList.take i).length < i by omega)]
    refine wpAny_bind (wpAny_holding (PySem.W.kun_collect (s := { s with heap := g1 }) (.inr (.inr (.inr rfl))) (Walks.tuple (A := A.in1) h0 s.heap.objs.size p np its) (fun _ _ z => z.1.typeIs) (k := i) (by omega) ⟨t1, hs1⟩ (Heap.lt_size ho1) (Heap.lt_size ho2) (fun g2 tk kk => ?_) hz))
    have l3 : (its.toList.drop i).length - (n - 1 - i) = its.size + 1 - n := by omega
    dsimp only
    rw [if_neg (show ¬ (its.toList.drop i).length < n - 1 - i by omega), l3]
    have hx : Heap.ExtBut s.heap.objs.size s.heap g2 := fun b o nb e => kk b o nb (b1.extBut b o nb (Heap.get?_push_of_some _ e))
    refine wpAny_bind (wpAny_newList ?_ ?_)
    · exact wpAny_pure (q g2 tk hx)
    · rw [List.length_take, l2]; omega)
end
section
variable {X : Cx} {pos : Pos}
def gStar (K : PySem.W.Frag) (n i : Nat) (t : TGs) : TG := fun v σ H Q => ∃ a xs, v = .ref a ∧ (SqT K H a xs ∨ SqL K H a xs) ∧ i < n ∧ n ≤ xs.length + 1 ∧ ∀ p, H p = none →
  t (xs.take i ++ [.ref p] ++ stEnd n i xs.length xs) σ (upd H p (.lst (stMid n i xs.length xs))) Q
theorem pg_star {es : List Expr} {k : Nat} {t : TGs} {n i : Nat} (hc : X.calm = true) (h : PGs X es t) (hn : (assignEach es X.env).length = n := by rfl) (hst : (assignEach es X.env).findIdx? (·.1) = some i := by rfl) :
    PG X (.Tuple es k pos) (gStar X.K n i t) := by
  refine ⟨fun pins s σ H v u Q I r hw => ?_⟩
  obtain ⟨a, xs, rfl, hq, hi, hl, hw⟩ := hw
  cases r
  have fin : ∀ (its : List Value) (g : Heap) (tk : Nat), Vals xs its → xs.length ≤ sizeLine → Heap.ExtBut s.heap.objs.size s.heap g → ∃ (H' : Hp) (s' : Shared), s' = { s with heap := g.push { cls := .type "list", data := .seq (stMid n i xs.length its).toArray }, toks := tk } ∧
      Inv X pins σ H' s' ∧ Vals (xs.take i ++ [.ref g.objs.size] ++ stEnd n i xs.length xs) (its.take i ++ [.ref g.objs.size] ++ stEnd n i xs.length its) ∧ t (xs.take i ++ [.ref g.objs.size] ++ stEnd n i xs.length xs) σ H' Q := fun its g tk rv hz hx => by
    have I1 : Inv X pins σ H { s with heap := g, toks := tk } := I.kept fun b o e => hx b o (Nat.ne_of_lt (Heap.lt_size e)) e
    have hf : H g.objs.size = none := I1.hok.fresh (Nat.le_refl _)
    refine ⟨upd H g.objs.size (.lst (stMid n i xs.length xs)), _, rfl, I1.laid (fun b u e => Heap.get?_push_of_some _ e) (Nat.le_refl _) ?_, ?_, hw _ hf⟩
    · refine ⟨?_, stMid n i xs.length its, 0, (rv.drop i).take _, Heap.get?_push_size _ rfl⟩
      rw [List.length_take, List.length_drop]
      omega
    · exact ((rv.take i).append (.cons (show RelV (V.ref g.objs.size) (Value.ref g.objs.size) from rfl) .nil)).append ((rv.drop i).drop _)
  rw [PyProof.Rows.assign_Tuple]
  refine wpAny_bind (wpAny_standAt ?_)
  unfold unpack
  rw [hn, hst]
  rcases hq with hq | hq
  · obtain ⟨its, rv, ht, hz⟩ := I.tuple hq
    have e := rv.length
    refine wpAny_bind (wpAny_holding (star_items_t ht (I.ok.hd hc) hi (by rw [List.size_toArray, ← e]; exact hl) (by rw [List.size_toArray, ← e]; exact hz) fun g tk hx => ?_))
    obtain ⟨H', s', rfl, I', rv', hw'⟩ := fin its g tk rv hz hx
    simp only [List.size_toArray, ← e]
    exact h.run pins _ σ H' _ _ Q I' rv' hw'
  · obtain ⟨its, rv, ht, hz⟩ := I.list hq
    have e := rv.length
    refine wpAny_bind (wpAny_holding (star_items_l ht.isList (I.ok.hd hc) hi (by rw [List.size_toArray, ← e]; exact hl) (by rw [List.size_toArray, ← e]; exact hz) fun g tk hx => ?_))
    obtain ⟨H', s', rfl, I', rv', hw'⟩ := fin its g tk rv hz hx
    simp only [List.size_toArray, ← e]
    exact h.run pins _ σ H' _ _ Q I' rv' hw'
theorem pgs_star {e : Expr} {es : List Expr} {t : TG} {u : TGs} {p : Pos} (h1 : PG X e t) (h2 : PGs X es u) : PGs X (.Starred e p :: es) (gCons t u) := by
  refine ⟨fun pins s σ H vs us Q I r h => ?_⟩
  obtain ⟨v, vr, rfl, h⟩ := h
  cases r with
  | cons r0 r1 =>
    show wpAny _ _ (assignInOrder (assign e X.env :: (assignEach es X.env).map (·.2)) _) _ _ _
    refine assignInOrder_cons (thn (h1.run pins s σ H _ _ _ I r0 h) fun _ s1 ⟨σ1, H1, I1, q1⟩ => h2.run pins s1 σ1 H1 _ _ Q I1 r1 q1)
end
/-- a starred target: the rest as data, or as a list of its own -/
def gSt (cell : Bool) (n i : Nat) (gs : List W → Rho → Sto → Option (Rho × Sto)) : Fg := fun w r m => match seqOf w m with
  | some xs => if i < n ∧ n ≤ xs.length + 1 then
      (if cell then gs ((xs.take i).map .d ++ [.c m.length] ++ (stEnd n i xs.length xs).map .d) r (m ++ [.lst (stMid n i xs.length xs)])
       else gs ((xs.take i).map .d ++ [.d (.list (stMid n i xs.length xs))] ++ (stEnd n i xs.length xs).map .d) r m) else none
  | none => none
theorem RWs.app {K : PySem.W.Frag} {ad : List Addr} {F : Hp} : ∀ {ws xs : List W} {us vs : List V}, RWs K ad F ws us → RWs K ad F xs vs → RWs K ad F (ws ++ xs) (us ++ vs)
  | _, _, _, _, .nil, h => h
  | _, _, _, _, .cons a b, h => .cons a (RWs.app b h)
section
variable {X : Cx} {pos : Pos} {e : Expr} {es : List Expr} {sl sl' : List Nat}
theorem dg_star {k n i : Nat} (cell : Bool) {gs : List W → Rho → Sto → Option (Rho × Sto)} (hc : X.calm = true) (h : DGs X sl es gs) (hn : (assignEach es X.env).length = n := by rfl) (hst : (assignEach es X.env).findIdx? (·.1) = some i := by rfl) :
    DG X sl (.Tuple es k pos) (gSt cell n i gs) := pg_weak (pg_star hc h hn hst) fun v s H q z => by
  obtain ⟨w, r, ad, m, F, h1, h2, h3, h4⟩ := z
  unfold gSt at h4
  cases e : seqOf w m with
  | none => simp only [e] at h4
  | some xs =>
    simp only [e] at h4
    obtain ⟨a, vs, rfl, q1, s1⟩ := h3.seq h1 e
    by_cases hl : i < n ∧ n ≤ xs.length + 1
    · simp only [if_pos hl] at h4
      refine ⟨a, vs, rfl, q1.symm, hl.1, by rw [s1.len]; exact hl.2, fun p hp => ?_⟩
      cases cell with
      | false =>
        simp only [Bool.false_eq_true, if_false] at h4
        obtain ⟨a3, x3⟩ := h3.new (o := .lst (stMid n i vs.length vs)) hp
        have s3 := s1.mono x3.fle
        rw [← s1.len] at h4
        refine ⟨_, r, ad, m, _, RWs.app (RWs.app (rws_of (RpA.take i s3)) (.cons (show RW X.K ad (upd F p (.lst (stMid n i vs.length vs))) (.d (.list (stMid n i vs.length xs))) (.ref p) from Rp.lst upd_same (RpA.take _ (RpA.drop i s3))) .nil)) (rws_of (RpA.drop _ (RpA.drop i s3))), h2.ext x3, a3, ?_⟩
        split at h4
        · rename_i r1 m1 eg
          rw [eg]
          exact fun s' ad' F' H' y1 y2 y3 y4 y5 => h4 s' ad' F' H' (x3.trans y1) y2 y3 y4 y5
        · exact h4.elim
      | true =>
        simp only [if_true] at h4
        obtain ⟨np, fp⟩ := h3.out hp
        obtain ⟨a3, x3⟩ := h3.alloc (o := .lst (stMid n i vs.length vs)) (c := .lst (stMid n i xs.length xs)) hp ⟨fp, _, upd_same, by rw [s1.len]; exact RpA.take _ (RpA.drop i s1)⟩ (fun _ z => nomatch z)
        have s3 := s1.mono x3.fle
        refine ⟨_, r, _, _, _, RWs.app (RWs.app (rws_of (RpA.take i s3)) (.cons (show RW X.K (ad ++ [p]) F (.c m.length) (.ref p) from ⟨p, by rw [← h3.len, List.getElem?_append_right (Nat.le_refl _), Nat.sub_self]; rfl, rfl⟩) .nil)) (rws_of (RpA.drop _ (RpA.drop i s3))), h2.ext x3, a3, ?_⟩
        rw [← s1.len] at h4 ⊢
        split at h4
        · rename_i r1 m1 eg
          rw [eg]
          exact fun s' ad' F' H' y1 y2 y3 y4 y5 => h4 s' ad' F' H' (x3.trans y1) y2 y3 y4 y5
        · exact h4.elim
    · simp only [if_neg hl] at h4
theorem dgs_star {g : Fg} {gs : List W → Rho → Sto → Option (Rho × Sto)} {p : Pos} (h : DG X sl e g) (h2 : DGs X sl' es gs) : DGs X (sl ++ sl') (.Starred e p :: es) (gsCons g gs) := pgs_weak (pgs_star h h2) fun v s H q z => by
  obtain ⟨w, r, ad, m, F, h1, h2, h3, h4⟩ := z
  cases h1 with
  | nil => exact h4.elim
  | cons a b =>
    rename_i x y xs ys
    refine ⟨_, _, rfl, x, r, ad, m, F, a, h2, h3, ?_⟩
    unfold gsCons at h4
    dsimp only at h4
    cases e : g x r m with
    | none => rw [e] at h4; exact h4.elim
    | some p =>
      obtain ⟨r2, m2⟩ := p
      rw [e] at h4
      refine fun s' ad' F' H' x1 x2 x3 x4 x5 => ⟨_, r2, ad', m2, F', RWs.ext x1 b, x3, x2, ?_⟩
      cases e' : gs xs r2 m2 with
      | none => simp only [e'] at h4
      | some p =>
        obtain ⟨r3, m3⟩ := p
        simp only [e'] at h4 ⊢
        exact fun s2 ad2 F2 H2 y1 y2 y3 y4 y5 => h4 s2 ad2 F2 H2 (x1.trans y1) y2 y3 (y4.trans x4) fun j hj => (y5 j fun z => hj (List.mem_append_right _ z)).trans (x5 j fun z => hj (List.mem_append_left _ z))
end
end DL

/-! DL: dicts. -/
namespace DL
open PySem L2 PyProof.Rows
def getK (kvs : List (Key × D)) (k : Key) : Option D := (kvs.find? fun kv => decide (kv.1 = k)).map (·.2)
def setK (kvs : List (Key × D)) (k : Key) (d : D) : List (Key × D) :=
  if (kvs.any fun kv => decide (kv.1 = k)) = true then kvs.map (fun kv => if kv.1 = k then (kv.1, d) else kv) else kvs ++ [(k, d)]
def keyD : D → Option Key
  | .int i => some (.inl i)
  | .str x => some (.inr x)
  | _ => none
def keyW : W → Option Key
  | .d x => keyD x
  | _ => none
def dicW (w : W) (m : Sto) : Option (Nat × List (Key × D)) := match w with
  | .c i => match m[i]? with | some (.dk kvs) => some (i, kvs) | _ => none
  | _ => none
section
variable {K : PySem.W.Frag} {ad ad1 ad2 : List Addr} {m m1 : Sto} {F F1 H H1 H2 : Hp}
theorem keyW_w {w : W} {v : V} {k : Key} (r : RW K ad F w v) (e : keyW w = some k) : v = kV k := by
  unfold keyW at e
  split at e
  · unfold keyD at e
    split at e
    · cases e; cases r; rfl
    · cases e; cases r; rfl
    · cases e
  · cases e
theorem RpKV.get : ∀ {ws : List (Key × V)} {kvs : List (Key × D)}, RpKV K F ws kvs → ∀ k, (valV ws k = none ∧ getK kvs k = none) ∨ ∃ v d, valV ws k = some v ∧ getK kvs k = some d ∧ Rp K F v d
  | _, _, .nil, _ => .inl ⟨rfl, rfl⟩
  | _, _, .cons (a := p) (b := q) (l₂ := l2) ⟨h1, h2⟩ t, k => by
    by_cases e : p.1 = k
    · exact .inr ⟨p.2, q.2, valV_pos e, by simp [getK, List.find?_cons, ← h1, e], h2⟩
    · have e2 : getK (q :: l2) k = getK l2 k := by unfold getK; rw [List.find?_cons, decide_eq_false (show ¬ q.1 = k from h1 ▸ e)]
      rw [valV_neg e, e2]
      exact RpKV.get t k
theorem RpKV.any : ∀ {ws : List (Key × V)} {kvs : List (Key × D)}, RpKV K F ws kvs → ∀ k, (ws.any fun kv => decide (kv.1 = k)) = kvs.any fun kv => decide (kv.1 = k)
  | _, _, .nil, _ => rfl
  | _, _, .cons ⟨h1, _⟩ t, k => by rw [List.any_cons, List.any_cons, h1, RpKV.any t k]
theorem RpKV.repl {v : V} {d : D} (r : Rp K F v d) (k : Key) : ∀ {ws : List (Key × V)} {kvs : List (Key × D)}, RpKV K F ws kvs → RpKV K F (ws.map fun kv => if kv.1 = k then (kv.1, v) else kv) (kvs.map fun kv => if kv.1 = k then (kv.1, d) else kv)
  | _, _, .nil => .nil
  | _, _, .cons (a := p) (b := q) ⟨h1, h2⟩ t => by
    rw [List.map_cons, List.map_cons]
    refine .cons ?_ (RpKV.repl r k t)
    by_cases e : p.1 = k
    · rw [if_pos e, if_pos (h1 ▸ e)]; exact ⟨h1, r⟩
    · rw [if_neg e, if_neg (h1 ▸ e)]; exact ⟨h1, h2⟩
theorem RpKV.snoc {v : V} {d : D} (r : Rp K F v d) (k : Key) : ∀ {ws : List (Key × V)} {kvs : List (Key × D)}, RpKV K F ws kvs → RpKV K F (ws ++ [(k, v)]) (kvs ++ [(k, d)])
  | _, _, .nil => .cons ⟨rfl, r⟩ .nil
  | _, _, .cons a t => .cons a (RpKV.snoc r k t)
theorem RpKV.put {v : V} {d : D} {ws : List (Key × V)} {kvs : List (Key × D)} (h : RpKV K F ws kvs) (r : Rp K F v d) (k : Key) : RpKV K F (putK ws k v) (setK kvs k d) := by
  unfold putK setK
  rw [h.any k]
  split
  · exact RpKV.repl r k h
  · exact RpKV.snoc r k h
theorem RpKV.len {ws : List (Key × V)} {kvs : List (Key × D)} (h : RpKV K F ws kvs) : ws.length = kvs.length := Paired.length h
theorem At.dic (h : At K ad m F H) {w : W} {v : V} (r : RW K ad F w v) {i : Nat} {kvs : List (Key × D)} (e : dicW w m = some (i, kvs)) : ∃ a ws, w = .c i ∧ v = .ref a ∧ ad[i]? = some a ∧ F a = none ∧ H a = some (.dK ws) ∧ RpKV K F ws kvs ∧ m[i]? = some (.dk kvs) := by
  unfold dicW at e
  split at e
  · split at e
    · rename_i j kvs' hm
      cases e
      obtain ⟨a, ha, rfl⟩ := r
      obtain ⟨fa, ws, hw, rr⟩ := h.cel _ _ _ ha hm
      exact ⟨a, ws, rfl, rfl, ha, fa, hw, rr, hm⟩
    · cases e
  · cases e
theorem At.touch (h : At K ad m F H) {p : Addr} {o : HO} (fp : F p = none) (np : p ∉ ad) : At K ad m F (upd H p o) := by
  refine ⟨fun b u e => ?_, h.len, h.nd, fun j b c e1 e2 => ?_⟩
  · rw [upd_ne (ne_of_none e fp)]; exact h.le _ _ e
  · have ne : b ≠ p := fun z => np (z ▸ List.mem_of_getElem? e1)
    have c0 := h.cel j b c e1 e2
    cases c with
    | lst ds => obtain ⟨q, vs, e, r⟩ := c0; exact ⟨q, vs, by rw [upd_ne ne]; exact e, r⟩
    | fz ds => exact c0
    | dk kvs => obtain ⟨q, vs, e, r⟩ := c0; exact ⟨q, vs, by rw [upd_ne ne]; exact e, r⟩
end
/-! ### d[k], k in d, d.get(..) -/
def dDGet (fd fy : Fe) : Fe := fun r m => (fd r m).bind fun w m1 => (fy r m1).bind fun y m2 => match dicW w m2, keyW y with
  | some (_, kvs), some k => .opt ((getK kvs k).map .d) m2
  | _, _ => .bad
def dDIn (neg : Bool) (fy fd : Fe) : Fe := fun r m => (fy r m).bind fun y m1 => (fd r m1).bind fun w m2 => match dicW w m2, keyW y with
  | some (_, kvs), some k => .ok (.d (.bool (neg != (getK kvs k).isSome))) m2
  | _, _ => .bad
def dDGet1 (fd fy : Fe) : Fe := fun r m => (fd r m).bind fun w m1 => (dicW w m1).elim .bad fun _ => (fy r m1).bind fun y m2 => match dicW w m2, keyW y with
  | some (_, kvs), some k => .ok (.d ((getK kvs k).getD .none)) m2
  | _, _ => .bad
def dDGet2 (fd fy fz : Fe) : Fe := fun r m => (fd r m).bind fun w m1 => (dicW w m1).elim .bad fun _ => (fy r m1).bind fun y m2 => (fz r m2).bind fun z m3 => match dicW w m3, keyW y with
  | some (_, kvs), some k => .ok (match getK kvs k with | some d => .d d | none => z) m3
  | _, _ => .bad
/-- d[k] = v -/
def sDPut (fd fy fv : Fe) : Fs := fun r m => (fv r m).stm r fun v m1 => (fd r m1).stm r fun w m2 => (fy r m2).stm r fun y m3 => match frz v m3 with
  | some (d, m4) => (match dicW w m4, keyW y with
    | some (i, kvs), some k => if kvs.length < sizeLine then .nx r (m4.set i (.dk (setK kvs k d))) else .bad
    | _, _ => .bad)
  | none => .bad
section
variable {X : Cx} {Wx : WX} {o i e f : Expr} {pos pos' apos cpos : Pos} {fd fy fz fv : Fe}
theorem de_dget (hu : X.A.units + 1 < cLine) (ho : DE X Wx o fd) (hi : DE X Wx i fy) (hs : NoSl i) : DE X Wx (.Subscript o i pos) (dDGet fd fy) := pe_weak (pe_dget hu ho hi hs) fun s H Q q => by
  obtain ⟨ρ, ad, m, F, he, hA, hp⟩ := q
  refine ⟨_, _, _, _, he, hA, Post.mono (Post.bind hp) (fun w m1 ad1 F1 H1 e1 ha1 q0 u rw1 => ?_) fun _ _ _ _ _ _ _ _ z => z⟩
  obtain ⟨_, _, h1⟩ := q0
  refine ⟨_, _, _, _, he.ext e1, ha1, Post.mono (Post.bind h1) (fun y m2 ad2 F2 H2 e2 ha2 q0 v rw2 => ?_) fun _ _ _ _ _ _ _ _ z => z⟩
  obtain ⟨_, _, h2⟩ := q0
  cases ed : dicW w m2 with
  | none => simp only [ed] at h2; exact h2.elim
  | some p =>
    obtain ⟨j, kvs⟩ := p
    cases ek : keyW y with
    | none => simp only [ed, ek] at h2; exact h2.elim
    | some k =>
      simp only [ed, ek] at h2
      obtain ⟨a, ws, rfl, rfl, ha, fa, hw, rr, hm⟩ := ha2.dic (rw1.ext e2) ed
      cases keyW_w rw2 ek
      rcases rr.get k with ⟨g1, g2⟩ | ⟨v, d, g1, g2, rp⟩
      · rw [g2] at h2; exact h2.elim
      · rw [g2] at h2
        exact ⟨a, v, rfl, by have := DGet.k (k := k) hw; rwa [g1] at this, h2 _ _ _ Ext.refl ha2 _ rp⟩
theorem din_w {K : PySem.W.Frag} {neg : Bool} {s : L2.St} {H : Hp} {Q : VK} (q : LE K Wx (dDIn neg fy fd) s H Q) : LE K Wx fy s H fun y H1 => LE K Wx fd s H1 fun x H2 => ∃ a ov, x = .ref a ∧ DGet H2 a y ov ∧ Q (.bl (neg != ov.isSome)) H2 := by
  obtain ⟨ρ, ad, m, F, he, hA, hp⟩ := q
  refine ⟨_, _, _, _, he, hA, Post.mono (Post.bind hp) (fun y m1 ad1 F1 H1 e1 ha1 q0 u rw1 => ?_) fun _ _ _ _ _ _ _ _ z => z⟩
  obtain ⟨_, _, h1⟩ := q0
  refine ⟨_, _, _, _, he.ext e1, ha1, Post.mono (Post.bind h1) (fun w m2 ad2 F2 H2 e2 ha2 q0 v rw2 => ?_) fun _ _ _ _ _ _ _ _ z => z⟩
  obtain ⟨_, _, h2⟩ := q0
  cases ed : dicW w m2 with
  | none => simp only [ed] at h2; exact h2.elim
  | some p =>
    obtain ⟨j, kvs⟩ := p
    cases ek : keyW y with
    | none => simp only [ed, ek] at h2; exact h2.elim
    | some k =>
      simp only [ed, ek] at h2
      obtain ⟨a, ws, rfl, rfl, ha, fa, hw, rr, hm⟩ := ha2.dic rw2 ed
      cases keyW_w rw1 ek
      refine ⟨a, _, rfl, DGet.k (k := k) hw, ?_⟩
      have es : (valV ws k).isSome = (getK kvs k).isSome := by
        rcases rr.get k with ⟨g1, g2⟩ | ⟨v, d, g1, g2, rp⟩ <;> rw [g1, g2] <;> rfl
      rw [es]
      exact h2 _ _ _ Ext.refl ha2 _ (.bl _)
theorem de_din (hu : X.A.units + 1 < cLine) (hi : DE X Wx i fy) (ho : DE X Wx o fd) (hm : behindInMarks .In o = false) : DE X Wx (.Compare i [.In] [o] pos) (dDIn false fy fd) :=
  pe_weak (pe_cmp (pc_din hu hi ho) hm) fun s H Q q => din_w (neg := false) q |> fun z => by simpa [tDIn] using z
theorem de_dnin (hu : X.A.units + 1 < cLine) (hi : DE X Wx i fy) (ho : DE X Wx o fd) (hm : behindInMarks .NotIn o = false) : DE X Wx (.Compare i [.NotIn] [o] pos) (dDIn true fy fd) :=
  pe_weak (pe_cmp (pc_dnotin hu hi ho) hm) fun s H Q q => din_w (neg := true) q |> fun z => by simpa [tDNotIn] using z
theorem de_dget1 (hu : X.A.units + 1 < cLine) (ho : DE X Wx o fd) (hi : DE X Wx e fy) (m : M1 X o "get" apos e cpos) : DE X Wx (.Call (.Attribute o "get" apos) [e] [] cpos) (dDGet1 fd fy) := pe_weak (pe_dget1 hu ho hi m) fun s H Q q => by
  obtain ⟨ρ, ad, m, F, he, hA, hp⟩ := q
  refine ⟨_, _, _, _, he, hA, Post.mono (Post.bind hp) (fun w m1 ad1 F1 H1 e1 ha1 q0 u rw1 => ?_) fun _ _ _ _ _ _ _ _ z => z⟩
  obtain ⟨_, _, h1⟩ := q0
  cases ec : dicW w m1 with
  | none => rw [ec] at h1; exact h1.elim
  | some p0 =>
    obtain ⟨j0, kvs0⟩ := p0
    rw [ec] at h1
    obtain ⟨a0, ws0, rfl, rfl, ha0, fa0, hw0, rr0, hm0⟩ := ha1.dic rw1 ec
    refine ⟨a0, rfl, .inl ⟨ws0, .inl hw0⟩, ?_⟩
    refine ⟨_, _, _, _, he.ext e1, ha1, Post.mono (Post.bind h1) (fun y m2 ad2 F2 H2 e2 ha2 q0 v rw2 => ?_) fun _ _ _ _ _ _ _ _ z => z⟩
    obtain ⟨_, _, h2⟩ := q0
    cases ed : dicW (.c j0) m2 with
    | none => simp only [ed] at h2; exact h2.elim
    | some p =>
      obtain ⟨j, kvs⟩ := p
      cases ek : keyW y with
      | none => simp only [ed, ek] at h2; exact h2.elim
      | some k =>
        simp only [ed, ek] at h2
        obtain ⟨a, ws, _, ea, ha, fa, hw, rr, hm⟩ := ha2.dic (rw1.ext e2) ed
        cases ea
        cases keyW_w rw2 ek
        refine ⟨_, DGet.k (k := k) hw, ?_⟩
        rcases rr.get k with ⟨g1, g2⟩ | ⟨v, d, g1, g2, rp⟩
        · rw [g1]
          rw [g2] at h2
          exact h2 _ _ _ Ext.refl ha2 _ Rp.non
        · rw [g1]
          rw [g2] at h2
          exact h2 _ _ _ Ext.refl ha2 _ rp
theorem de_dget2 (hu : X.A.units + 1 < cLine) (ho : DE X Wx o fd) (hi : DE X Wx e fy) (hz : DE X Wx f fz) (m : M2 X o "get" apos e f cpos) : DE X Wx (.Call (.Attribute o "get" apos) [e, f] [] cpos) (dDGet2 fd fy fz) := pe_weak (pe_dget2 hu ho hi hz m) fun s H Q q => by
  obtain ⟨ρ, ad, m, F, he, hA, hp⟩ := q
  refine ⟨_, _, _, _, he, hA, Post.mono (Post.bind hp) (fun w m1 ad1 F1 H1 e1 ha1 q0 u rw1 => ?_) fun _ _ _ _ _ _ _ _ z => z⟩
  obtain ⟨_, _, h1⟩ := q0
  cases ec : dicW w m1 with
  | none => rw [ec] at h1; exact h1.elim
  | some p0 =>
    obtain ⟨j0, kvs0⟩ := p0
    rw [ec] at h1
    obtain ⟨a0, ws0, rfl, rfl, ha0, fa0, hw0, rr0, hm0⟩ := ha1.dic rw1 ec
    refine ⟨a0, rfl, .inl ⟨ws0, .inl hw0⟩, ?_⟩
    refine ⟨_, _, _, _, he.ext e1, ha1, Post.mono (Post.bind h1) (fun y m2 ad2 F2 H2 e2 ha2 q0 v rw2 => ?_) fun _ _ _ _ _ _ _ _ z => z⟩
    obtain ⟨_, _, h2⟩ := q0
    refine ⟨_, _, _, _, (he.ext e1).ext e2, ha2, Post.mono (Post.bind h2) (fun z m3 ad3 F3 H3 e3 ha3 q0 v3 rw3 => ?_) fun _ _ _ _ _ _ _ _ z => z⟩
    obtain ⟨_, _, h3⟩ := q0
    cases ed : dicW (.c j0) m3 with
    | none => simp only [ed] at h3; exact h3.elim
    | some p =>
      obtain ⟨j, kvs⟩ := p
      cases ek : keyW y with
      | none => simp only [ed, ek] at h3; exact h3.elim
      | some k =>
        simp only [ed, ek] at h3
        obtain ⟨a, ws, _, ea, ha, fa, hw, rr, hm⟩ := ha3.dic ((rw1.ext e2).ext e3) ed
        cases ea
        cases keyW_w (rw2.ext e3) ek
        refine ⟨_, DGet.k (k := k) hw, ?_⟩
        rcases rr.get k with ⟨g1, g2⟩ | ⟨v, d, g1, g2, rp⟩
        · rw [g1]
          rw [g2] at h3
          exact h3 _ _ _ Ext.refl ha3 _ rw3
        · rw [g1]
          rw [g2] at h3
          exact h3 _ _ _ Ext.refl ha3 _ rp
theorem ds_dput (hu : X.A.units + 1 < cLine) (ho : DE X Wx o fd) (hi : DE X Wx i fy) (hv : DE X Wx e fv) (hs : swapsWith e (some (.Subscript o i pos')) pos.line X.env = pure false := by rfl) : DS X Wx (.Assign [.Subscript o i pos'] e pos) (sDPut fd fy fv) := ps_weak (ps_dput hu ho hi hv hs) fun D s H q => by
  obtain ⟨r, ad, m, F, he, hA, hp⟩ := q
  refine ⟨r, ad, m, F, he, hA, Post.mono (stm_post he hp) (fun v m1 ad1 F1 H1 e1 ha1 q0 vv rw1 => ?_) fun _ _ _ _ _ _ _ _ z => z⟩
  have h1 := q0.2.2
  refine ⟨r, _, _, _, he.ext e1, ha1, Post.mono (stm_post (he.ext e1) h1) (fun w m2 ad2 F2 H2 e2 ha2 q0 u rw2 => ?_) fun _ _ _ _ _ _ _ _ z => z⟩
  have h2 := q0.2.2
  refine ⟨r, _, _, _, (he.ext e1).ext e2, ha2, Post.mono (stm_post ((he.ext e1).ext e2) h2) (fun y m3 ad3 F3 H3 e3 ha3 q0 yv rw3 => ?_) fun _ _ _ _ _ _ _ _ z => z⟩
  have h3 := q0.2.2
  cases ef : frz v m3 with
  | none => simp only [ef] at h3; exact h3.elim
  | some p =>
    obtain ⟨d, m4⟩ := p
    simp only [ef] at h3
    obtain ⟨F4, ha4, x4, rp4⟩ := frz_w ha3 ((rw1.ext e2).ext e3) ef
    cases ed : dicW w m4 with
    | none => simp only [ed] at h3; exact h3.elim
    | some p =>
      obtain ⟨j, kvs⟩ := p
      cases ek : keyW y with
      | none => simp only [ed, ek] at h3; exact h3.elim
      | some k =>
        simp only [ed, ek] at h3
        obtain ⟨a, ws, rfl, rfl, ha, fa, hw, rr, hm⟩ := ha4.dic ((rw2.ext e3).ext x4) ed
        cases keyW_w rw3 ek
        by_cases hz : kvs.length < sizeLine
        · rw [if_pos hz] at h3
          obtain ⟨ha5, x5⟩ := ha4.write (o := .dK (putK ws k vv)) (c := .dk (setK kvs k d)) ha fa ⟨fa, _, upd_same, rr.put rp4 k⟩
          exact ⟨a, _, rfl, DPut.k hw (by rw [rr.len]; exact hz), h3 _ _ _ _ (x4.trans x5) ha5 ((((he.ext e1).ext e2).ext e3).ext (x4.trans x5))⟩
        · rw [if_neg hz] at h3; exact h3.elim
end
/-! ### {k: v, ..} -/
abbrev Fkv := Rho → Sto → Out (List (Key × D))
def mergeD (kvs more : List (Key × D)) : List (Key × D) := more.foldl (fun acc kv => setK acc kv.1 kv.2) kvs
theorem RpKV.merge {K : PySem.W.Frag} {F : Hp} : ∀ {more : List (Key × V)} {ms : List (Key × D)}, RpKV K F more ms → ∀ {ws : List (Key × V)} {kvs : List (Key × D)}, RpKV K F ws kvs → RpKV K F (mergeK ws more) (mergeD kvs ms)
  | _, _, .nil, _, _, h => h
  | _, _, .cons (a := p) (b := q) ⟨h1, h2⟩ t, ws, kvs, h => by
    have e : RpKV K F (putK ws p.1 p.2) (setK kvs q.1 q.2) := h1 ▸ h.put h2 p.1
    exact RpKV.merge t e
def LKv (K : PySem.W.Frag) (Wx : WX) (f : Fkv) : L2.St → Hp → (List (V × V) → Hp → Prop) → Prop := fun s H Q => ∃ r ad m F, EnvOk K ad F r s ∧ At K ad m F H ∧
  Post K ad F H (f r m) (fun kvs _ ad' F' H' => ∀ ws, RpKV K F' ws kvs → Q (ws.map fun kv => (kV kv.1, kv.2)) H') (XP K Wx s)
def DPs (X : Cx) (Wx : WX) (pos : Pos) (ks : List (Option Expr)) (vs : List Expr) (f : Fkv) : Prop := ∃ trs, PPs X pos ks vs trs ∧ ∀ s H Q, LKv X.K Wx f s H Q → tPairs trs s H Q
def kvNil : Fkv := fun _ m => .ok [] m
def kvCons (fk fv : Fe) (f : Fkv) : Fkv := fun r m => (fk r m).bind fun w m1 => (fv r m1).bind fun x m2 => match keyW w, frz x m2 with
  | some k, some (d, m3) => (f r m3).bind fun kvs m4 => .ok ((k, d) :: kvs) m4
  | _, _ => .bad
def dDisp (f : Fkv) : Fe := fun r m => (f r m).bind fun kvs m1 => if kvs.length ≤ 15 then .ok (.c m1.length) (m1 ++ [.dk (mergeD [] kvs)]) else .bad
def dDNew : Fe := fun _ m => .ok (.c m.length) (m ++ [.dk []])
section
variable {X : Cx} {Wx : WX} {pos : Pos} {k v : Expr} {ks : List (Option Expr)} {vs : List Expr} {fk fv : Fe} {f : Fkv}
theorem dps_nil : DPs X Wx pos [] [] kvNil := ⟨[], pps_nil, fun s H Q q => by
  obtain ⟨r, ad, m, F, he, hA, hp⟩ := q
  exact hp _ _ _ Ext.refl hA [] .nil⟩
theorem dps_cons (hk : DE X Wx k fk) (hv : DE X Wx v fv) (hr : DPs X Wx pos ks vs f) : DPs X Wx pos (some k :: ks) (v :: vs) (kvCons fk fv f) := by
  obtain ⟨trs, h1, h2⟩ := hr
  refine ⟨_, pps_cons hk hv h1, fun s H Q q => ?_⟩
  obtain ⟨ρ, ad, m, F, he, hA, hp⟩ := q
  refine ⟨_, _, _, _, he, hA, Post.mono (Post.bind hp) (fun w m1 ad1 F1 H1 e1 ha1 q0 u rw1 => ?_) fun _ _ _ _ _ _ _ _ z => z⟩
  obtain ⟨_, _, q1⟩ := q0
  refine ⟨_, _, _, _, he.ext e1, ha1, Post.mono (Post.bind q1) (fun x m2 ad2 F2 H2 e2 ha2 q0 y rw2 => ?_) fun _ _ _ _ _ _ _ _ z => z⟩
  obtain ⟨_, _, q2⟩ := q0
  cases ek : keyW w with
  | none => simp only [ek] at q2; exact q2.elim
  | some key =>
    cases ef : frz x m2 with
    | none => simp only [ek, ef] at q2; exact q2.elim
    | some p =>
      obtain ⟨d, m3⟩ := p
      simp only [ek, ef] at q2
      obtain ⟨F3, ha3, x3, rp3⟩ := frz_w ha2 rw2 ef
      cases keyW_w rw1 ek
      refine h2 s H2 _ ⟨ρ, ad2, m3, F3, ((he.ext e1).ext e2).ext x3, ha3, Post.mono (Post.bind (Post.ext (o := (f ρ m3).bind _) q2 x3)) (fun kvs m4 ad4 F4 H4 e4 ha4 q0 ws rws => ?_) fun _ _ _ _ _ _ _ _ z => z⟩
      obtain ⟨_, _, q4⟩ := q0
      exact q4 _ _ _ Ext.refl ha4 ((key, y) :: ws) (.cons ⟨rfl, rp3.mono e4.fle⟩ rws)
theorem de_disp (h : DPs X Wx pos ks vs f) (hall : ks.all (·.isSome) = true) (hl : ks.length = vs.length) (h0 : ks ≠ []) (h15 : ks.length ≤ 15) : DE X Wx (.Dict ks vs pos) (dDisp f) := by
  obtain ⟨trs, h1, h2⟩ := h
  refine pe_weak (pe_disp h1 hall hl h0 h15) fun s H Q q => fun p hp0 => ?_
  obtain ⟨ρ, ad, m, F, he, hA, hp⟩ := q
  obtain ⟨hA0, x0⟩ := hA.room (o := .dK []) hp0
  obtain ⟨np, fp⟩ := hA.out hp0
  refine h2 s _ _ ⟨ρ, ad, m, F, he, hA0, ?_⟩
  have hd : dDisp f ρ m = (f ρ m).bind fun kvs m1 => if kvs.length ≤ 15 then .ok (.c m1.length) (m1 ++ [.dk (mergeD [] kvs)]) else .bad := rfl
  rw [hd] at hp
  cases ef : f ρ m with
  | bad => rw [ef] at hp; exact hp.elim
  | exc c fs m1 =>
    rw [ef] at hp
    exact fun ad1 F1 H1 e1 ha1 => hp ad1 F1 H1 (x0.trans e1) ha1
  | ok kvs m1 =>
    rw [ef] at hp
    intro ad1 F1 H1 e1 ha1 ws rws
    have n1 : p ∉ ad1 := fun z => by have := e1.nw p z np; rw [upd_same] at this; cases this
    have f1 : F1 p = none := e1.gn p _ fp upd_same np
    have hh : H1 p = some (.dK []) := e1.fr p _ upd_same np
    refine ⟨hh, ws, rfl, ?_⟩
    rw [Out.bind_ok] at hp
    by_cases hz : kvs.length ≤ 15
    · rw [if_pos hz] at hp
      refine ⟨by rw [rws.len]; exact hz, ?_⟩
      have a2 := (ha1.touch (o := .dK (mergeK [] ws)) f1 n1).grow (c := .dk (mergeD [] kvs)) ⟨f1, _, upd_same, RpKV.merge rws .nil⟩ n1
      obtain ⟨t, et⟩ := e1.pre
      have ne : ∀ {b : Addr} {o : HO}, H b = some o → b ≠ p := fun e z => by rw [z, hp0] at e; cases e
      refine hp _ _ _ ⟨⟨t ++ [p], by rw [et, List.append_assoc]⟩, e1.fle, fun b o e n => ?_, fun b hb n => ?_, fun b o e1' e2 n => ?_⟩ a2 _ ⟨p, ?_, rfl⟩
      · rw [upd_ne (ne e)]
        exact e1.fr b o (by rw [upd_ne (ne e)]; exact e) n
      · rcases List.mem_append.mp hb with hb | hb
        · have h3 := e1.nw b hb n
          by_cases z : b = p
          · rw [z]; exact hp0
          · rw [upd_ne z] at h3; exact h3
        · rw [List.mem_singleton.mp hb]; exact hp0
      · exact e1.gn b o e1' (by rw [upd_ne (ne e2)]; exact e2) n
      · rw [← ha1.len, List.getElem?_append_right (Nat.le_refl _), Nat.sub_self]
        rfl
    · rw [if_neg hz] at hp; exact hp.elim
theorem de_dnew : DE X Wx (.Dict [] [] pos) dDNew := pe_weak pe_dnewK fun s H Q q => fun p hp0 => by
  obtain ⟨ρ, ad, m, F, he, hA, hp⟩ := q
  obtain ⟨np, fp⟩ := hA.out hp0
  obtain ⟨a3, x3⟩ := hA.alloc (o := .dK []) (c := .dk []) hp0 ⟨fp, [], upd_same, .nil⟩ (fun _ z => nomatch z)
  exact hp _ _ _ x3 a3 _ ⟨p, by rw [← hA.len, List.getElem?_append_right (Nat.le_refl _), Nat.sub_self]; rfl, rfl⟩
end
end DL

/-! DL: enumerate over tuples and lists. -/
namespace DL
open PySem L2 PyProof.Rows
open AutoSeq1 (wpAny_loadPart')
theorem meets_enum1 {x : Value} {o : Obj} {Pre : Heap → Prop} (B : PySem.Begins x o Pre) :
    Meets (Builtin.«enumerate.__new__» ⟨[.type "enumerate", x], []⟩) (fun _ R s => Pre s.heap ∧
      R (.ok (.ret (.ref (s.heap.push o).objs.size))) { s with heap := (s.heap.push o).push { cls := .type "enumerate", data := .fields #[.none, .bool false, .ref s.heap.objs.size, rawInt 0, .none, .none] } }) :=
  .of_wp fun prog w A R s h => by
    obtain ⟨hp, g, d, tk, os⟩ := s
    obtain ⟨hx, h⟩ := h
    have issub := sub_enumerate
    have begin_ : ∀ {A' : Around} {E : Value → Shared → Prop} {Q : Value → Shared → Prop}, Q (.ref hp.objs.size) ⟨hp.push o, g, d, tk, os⟩ → wpAny (model prog w) A' (pyIter x) Q E ⟨hp, g, d, tk, os⟩ :=
      fun q => B.iter prog w _ _ ⟨hp, g, d, tk, os⟩ _ hx q
    wp_walk using begin_
    refine wpAny_stack_any fun z => wpAny_pure ?_
    split
    · rename_i c _ _ _ _ _
      rcases (c == Value.type "enumerate") with _ | _
      · wp_walk using begin_; exact ⟨_, rfl, h⟩
      · wp_walk using begin_; exact ⟨_, rfl, h⟩
    · wp_walk using begin_; exact ⟨_, rfl, h⟩
section
variable {prog : Program} {w : World} {A : Around} {E : Value → Shared → Prop} {s : Shared}
theorem call_enum1 {x : Value} {o : Obj} {Pre : Heap → Prop} {Q : Value → Shared → Prop} (B : PySem.Begins x o Pre) (hx : Pre s.heap)
    (q : ∀ g, IsEnum g (s.heap.objs.size + 1) s.heap.objs.size 0 .none → g.get? s.heap.objs.size = some o → (∀ b u, s.heap.get? b = some u → g.get? b = some u) → Q (.ref (s.heap.objs.size + 1)) { s with heap := g }) :
    wpAny (model prog w) A (call (.type "enumerate") [x]) Q E s := by
  refine callType_new F.called_enumerate (by decide) (F.typeCall_enumerate_1 _) (F.newCall_enumerate_1 _) (fun ob => F.args_object_init_2 ob _) F.entry_enumerate_new (meets_enum1 B) ⟨hx, ?_⟩
  have z1 : (s.heap.push o).objs.size = s.heap.objs.size + 1 := Heap.size_push ..
  have e1 : IsEnum ((s.heap.push o).push { cls := .type "enumerate", data := .fields #[.none, .bool false, .ref s.heap.objs.size, rawInt 0, .none, .none] }) (s.heap.objs.size + 1) s.heap.objs.size 0 .none :=
    z1 ▸ Heap.get?_push_size (s.heap.push o) (o := { cls := .type "enumerate", data := .fields #[.none, .bool false, .ref s.heap.objs.size, rawInt 0, .none, .none] }) rfl
  show _ ∧ _
  rw [z1]
  exact ⟨⟨_, e1, rfl⟩, q _ e1 (Heap.get?_push_of_some _ (Heap.get?_push_size _ B.free)) fun b u e => Heap.get?_push_of_some _ (Heap.get?_push_of_some _ e)⟩
end
/-- the tuple at a, each item in a new pair -/
def ItT (K : PySem.W.Frag) (a : Addr) : It :=
  ⟨fun i H => ∃ (xs : List V) (x : V), SqT K H a xs ∧ xs[i]? = some x, fun i H v H' => ∃ T x, v = .ref T ∧ H T = none ∧ H' = upd H T (.tup [.int (i : Nat), x]) ∧ ∀ xs, SqT K H a xs → xs[i]? = some x, fun i H => ∃ xs : List V, SqT K H a xs ∧ xs.length = i⟩
theorem turn_enumT {P : Program} {w : World} {K : PySem.W.Frag} {elts : List Expr} {kk : Nat} {tpos : Pos} (a e it : Addr) (hai : a ≠ it) :
    Turn P w K (.Tuple elts kk tpos) (ItT K a) [e, it] e (fun i h => (∃ old, IsEnum h e it ((i : Nat) : Int) old) ∧ h.IsTupleIter it a i ∧ e ≠ it ∧ e ≠ a) where
  mem := List.mem_cons_self
  obj := fun i h st b hb => by
    obtain ⟨⟨old, h1⟩, ⟨o, h2, h3, h4⟩, _⟩ := st
    rcases (by simpa using hb : b = e ∨ b = it) with rfl | rfl
    · exact ⟨_, h1, fun v q => nomatch q⟩
    · exact ⟨o, h2, fun v q => by rw [h4] at q; cases q⟩
  keep := fun i h h' st k => ⟨⟨_, k e (by simp) _ st.1.choose_spec⟩, st.2.1.at fun o q => k it (by simp) o q, st.2.2⟩
  item := by
    intro X hP hw hK hc i pins s σ H E I hf st hg
    subst hP hw hK
    obtain ⟨⟨old, h1⟩, h2, n1, n2⟩ := st
    obtain ⟨xs, x, hq, hx⟩ := hg
    obtain ⟨its, rv, p, hz⟩ := I.tuple hq
    obtain ⟨u, hu, ru⟩ := rv.get hx
    have lt1 : e < s.heap.objs.size := Heap.lt_size h1
    have lt2 : it < s.heap.objs.size := by obtain ⟨_, q, _⟩ := h2; exact Heap.lt_size q
    have hi : i < its.toArray.size := by rw [List.size_toArray]; exact (List.getElem?_eq_some_iff.mp hu).1
    refine wpAny_pyNext_enum_itemD (Draws.tuple (A := X.A.in1) (I.ok.hd hc) it a hai its.toArray) h1 ⟨h2, p⟩ hi n1 (by simp [n1, n2]) fun y g tk hy ho st' hT hsz hk => ?_
    have ey : y = u := by
      have e1 : its.toArray[i]? = some y := hy
      rw [show its.toArray[i]? = some u by simpa using hu] at e1
      cases e1; rfl
    subst ey
    refine ⟨_, rfl, wpAny_letOwnedTupleGo_enum (s := { s with heap := g, toks := tk + 1 }) ho fun g2 h1' sb => ?_⟩
    have hT2 : g2.get? s.heap.objs.size = some { cls := .type "tuple", data := .seq #[.int i tk, y] } := (sb.2 _ (Nat.ne_of_gt lt1)).trans hT
    have ob : ObjOk X.prog X.w (upd H s.heap.objs.size (.tup [.int (i : Nat), x])) g2 s.heap.objs.size (.tup [.int (i : Nat), x]) :=
      ⟨(by decide : 2 ≤ sizeLine), [.int i tk, y], .cons ⟨_, rfl⟩ (.cons ru .nil), ⟨_, hT2, rfl, _, rfl⟩⟩
    have I1 : Inv X pins σ (upd H s.heap.objs.size (.tup [.int (i : Nat), x])) { s with heap := g2, toks := tk + 1 } :=
      I.turnedNew (ch := [e, it]) (fun b o hb q => (sb.2 b (fun z => hb (by simp [z]))).trans (hk b o (fun z => hb (by simp [z])) (fun z => hb (by simp [z])) q)) hf (Nat.le_refl _) ob
    refine ⟨.ref s.heap.objs.size, _, I1, rfl, ⟨_, x, rfl, I.hok.fresh (Nat.le_refl _), rfl, fun ys hy => by rw [I.tuple_inj hy hq]; exact hx⟩, ⟨⟨y, ?_⟩, st'.1.at fun o q => (sb.2 it (Ne.symm n1)).trans q, n1, n2⟩, fun b hb => ?_⟩
    · rw [show ((i + 1 : Nat) : Int) = (i : Int) + 1 by omega]; exact h1'
    · have lt3 : b < s.heap.objs.size := by
        rcases (by simpa using hb : b = e ∨ b = it) with rfl | rfl
        · exact lt1
        · exact lt2
      rw [upd_ne (Nat.ne_of_lt lt3)]
      exact (hf b hb).1
  done := by
    intro X hP hw hK hc i pins s σ H E I hf st hg
    subst hP hw hK
    obtain ⟨⟨old, h1⟩, h2, n1, n2⟩ := st
    obtain ⟨xs, hq, hx⟩ := hg
    obtain ⟨its, rv, p, hz⟩ := I.tuple hq
    obtain ⟨f0, f1, f2, f3, f4, f5⟩ := hf it (by simp)
    have hl : its.toArray.size = i := by rw [List.size_toArray, ← rv.length]; exact hx
    refine wpAny_pyNext_enum_endD (Draws.tuple (A := X.A.in1) (I.ok.hd hc) it a hai its.toArray) h1 ⟨hl ▸ h2, p⟩ fun g eb => ⟨rfl, I.turned (t' := s.toks) (fun b o hb q => eb b o hb q) f0 f1 f3 f4 f5⟩
  self := fun A i s Q E st h => let ⟨⟨_, h1⟩, _⟩ := st; wpAny_pyIter_enum h1 h
def iEnumV (K : PySem.W.Frag) (ta : TA) : TI := fun σ H R => ta σ H fun vs H1 => ∃ a xs, vs = [.ref a] ∧ SqT K H1 a xs ∧ R (ItT K a) H1
theorem pi_enumT {X : Cx} {e : Expr} {ta : TA} {p pos tpos : Pos} {elts : List Expr} {kk : Nat} (hg : Gl X "enumerate") (hm : X.mg "enumerate" = none) (ha : PA X [e] ta) (hs : starEach [e] X.env = [(false, eval e X.env)] := by rfl) :
    PI X (.Tuple elts kk tpos) (.Call (.Name "enumerate" p) [e] [] pos) (iEnumV X.K ta) := by
  refine ⟨fun pins s σ H R I h => Call_ (ld_blt I hg hm boot_enumerate (PyProof.Rows.callWith_type1 (thn (ha.run pos pins s σ H _ I h) fun us s1 ⟨vs, H1, I1, r1, q1⟩ => ?_) hs rfl))⟩
  obtain ⟨a, xs, rfl, hq, q⟩ := q1
  cases r1 with
  | cons r rr =>
    cases rr
    cases r
    obtain ⟨its, rv, pt, hz⟩ := I1.tuple hq
    obtain ⟨oa, hoa, _⟩ := id pt
    have la : a < s1.heap.objs.size := Heap.lt_size hoa
    refine call_enum1 (PySem.begins_tuple a its.toArray) pt fun g he hit hk => wpAny_pyIter_enum he ?_
    have I2 : Inv X pins σ H1 { s1 with heap := g } := I1.kept (t' := s1.toks) hk
    refine ⟨s1.heap.objs.size + 1, [s1.heap.objs.size + 1, s1.heap.objs.size], _, _, H1, rfl, I2, turn_enumT a (s1.heap.objs.size + 1) s1.heap.objs.size (Nat.ne_of_lt la), ⟨⟨.none, he⟩, ⟨_, hit, rfl, rfl⟩, Nat.succ_ne_self _, Nat.ne_of_gt (Nat.lt_succ_of_lt la)⟩, fun b hb => ?_, q⟩
    have le : s1.heap.objs.size ≤ b := by
      rcases (by simpa using hb : b = s1.heap.objs.size + 1 ∨ b = s1.heap.objs.size) with z | z
      · exact z ▸ Nat.le_succ _
      · exact z ▸ Nat.le_refl _
    exact I1.fpOk le (I1.hok.fresh le)
theorem walk_enumT {K : PySem.W.Frag} {a : Addr} {xs : List V} : Walk (ItT K a) xs.length (fun H => SqT K H a xs) (YPair (fun i => some (.int (i : Nat))) (fun i => xs[i]?)) := by
  refine ⟨fun i _ hi q => ⟨xs, xs[i], q, by simp [hi]⟩, fun _ q => ⟨xs, q, rfl⟩, fun i H v H' _ q y => ?_⟩
  obtain ⟨T, x, h1, h2, h3, h4⟩ := y
  exact ⟨T, .int (i : Nat), x, h1, h2, h3, rfl, h4 xs q⟩
theorem RpA.get' {K : PySem.W.Frag} {F : Hp} {v : V} : ∀ {vs : List V} {ds : List D} {i : Nat}, RpA K F vs ds → vs[i]? = some v → ∃ d, ds[i]? = some d ∧ Rp K F v d
  | _, _, 0, .cons a _, h => by cases h; exact ⟨_, rfl, a⟩
  | _, _, i + 1, .cons _ b, h => by simpa using RpA.get' b (by simpa using h)
  | _, _, i, .nil, h => by simp at h
def enL (xs : List D) : List D := (List.range xs.length).zipWith (fun i x => .tuple [.int (i : Nat), x]) xs
theorem enL_get {xs : List D} {i : Nat} {x : D} (h : xs[i]? = some x) : (enL xs)[i]? = some (.tuple [.int (i : Nat), x]) := by
  have hi := (List.getElem?_eq_some_iff.mp h).1
  unfold enL
  rw [List.getElem?_zipWith, List.getElem?_range hi, h]
theorem enL_len (xs : List D) : (enL xs).length = xs.length := by simp [enL]
def iEnumT (f : Fe) : Fi := fun r m => (f r m).bind fun w m1 => match w with | .d (.tuple xs) => .ok ⟨enL xs, []⟩ m1 | _ => .bad
def iEnumL (f : Fe) : Fi := fun r m => (f r m).bind fun w m1 => match lstOf w m1 with | some xs => .ok ⟨enL xs, gsOf w xs⟩ m1 | none => .bad
section
variable {X : Cx} {Wx : WX} {e tg : Expr} {f : Fe} {p pos tpos : Pos} {elts : List Expr} {kk : Nat}
theorem pair_new {K : PySem.W.Frag} {ad : List Addr} {m : Sto} {F H : Hp} {T : Addr} {u v : V} {x y : D} (h : At K ad m F H) (hT : H T = none) (ru : Rp K F u x) (rv : Rp K F v y) :
    ∃ F3, Ext ad F H ad F3 (upd H T (.tup [u, v])) ∧ At K ad m F3 (upd H T (.tup [u, v])) ∧ Rp K F3 (.ref T) (.tuple [x, y]) := by
  obtain ⟨a3, x3⟩ := h.new (o := .tup [u, v]) hT
  exact ⟨_, x3, a3, .tup (SqT.of upd_same) (.cons (ru.mono x3.fle) (.cons (rv.mono x3.fle) .nil))⟩
theorem di_enumT {it : Expr} (h : PI X tg it (iEnumV X.K (LA X.K Wx (dCons f dNil)))) : DI X Wx tg it (iEnumT f) := pi_weak h fun s H R q => by
  obtain ⟨r, ad, m, F, he, hA, hp⟩ := q
  have hp' : Post X.K ad F H ((dCons f dNil r m).bind fun ws m1 => match ws with | [w] => (match w with | .d (.tuple xs) => .ok (⟨enL xs, []⟩ : Src) m1 | _ => .bad) | _ => .bad) (fun src _ ad' F' H' => ∀ J, SrcOk X.K src ad' F' H' J → R J H') (XP X.K Wx s) := by
    unfold iEnumT at hp
    unfold dCons dNil
    cases e : f r m with
    | ok w m1 => rw [e] at hp; exact hp
    | exc c fs m1 => rw [e] at hp; exact hp
    | bad => rw [e] at hp; exact hp
  refine ⟨_, _, _, _, he, hA, Post.mono (Post.bind hp') (fun ws m1 ad1 F1 H1 e1 ha1 q0 vs rw1 => ?_) fun _ _ _ _ _ _ _ _ z => z⟩
  obtain ⟨_, _, h1⟩ := q0
  split at h1
  · obtain ⟨v, rfl, r1⟩ := rw1.one
    split at h1
    · rename_i xs
      cases r1 with
      | tup q1 s1 =>
        rename_i a us
        refine ⟨a, us, rfl, ha1.le.sqT q1, h1 _ _ _ Ext.refl ha1 _ ?_⟩
        refine ⟨fun H2 => SqT X.K H2 a us, _, by rw [show (⟨enL xs, []⟩ : Src).items.length = us.length from (enL_len xs).trans s1.len.symm]; exact walk_enumT, fun ad2 F2 H2 m2 x h2 g => h2.le.sqT (x.fle.sqT q1), fun i ad2 F2 H2 m2 x H3 hi ex h2 g y => ?_⟩
        obtain ⟨T, x', y', rfl, hT, rfl, hx, hy⟩ := y
        cases hx
        obtain ⟨d, e1, e2⟩ := (s1.mono ex.fle).get' hy
        obtain ⟨F3, x3, a3, r3⟩ := pair_new h2 hT (Rp.int (i : Nat)) e2
        exact ⟨F3, _, enL_get e1, x3, a3, r3⟩
    · exact h1.elim
  · exact h1.elim
theorem di_enum {it : Expr} (h : PI X tg it (iEnum X.K (LA X.K Wx (dCons f dNil)))) : DI X Wx tg it (iEnumL f) := pi_weak h fun s H R q => by
  obtain ⟨r, ad, m, F, he, hA, hp⟩ := q
  have hp' : Post X.K ad F H ((dCons f dNil r m).bind fun ws m1 => match ws with | [w] => (match lstOf w m1 with | some xs => .ok (⟨enL xs, gsOf w xs⟩ : Src) m1 | none => .bad) | _ => .bad) (fun src _ ad' F' H' => ∀ J, SrcOk X.K src ad' F' H' J → R J H') (XP X.K Wx s) := by
    unfold iEnumL at hp
    unfold dCons dNil
    cases e : f r m with
    | ok w m1 => rw [e] at hp; exact hp
    | exc c fs m1 => rw [e] at hp; exact hp
    | bad => rw [e] at hp; exact hp
  refine ⟨_, _, _, _, he, hA, Post.mono (Post.bind hp') (fun ws m1 ad1 F1 H1 e1 ha1 q0 vs rw1 => ?_) fun _ _ _ _ _ _ _ _ z => z⟩
  obtain ⟨_, _, h1⟩ := q0
  split at h1
  · rename_i w
    obtain ⟨v, rfl, r1⟩ := rw1.one
    cases el : lstOf w m1 with
    | none => simp only [el] at h1; exact h1.elim
    | some xs =>
      simp only [el] at h1
      obtain ⟨a, us, rfl, s1, st, q1⟩ := lst_stays r1 ha1 el
      refine ⟨a, us, rfl, q1, h1 _ _ _ Ext.refl ha1 _ ?_⟩
      refine ⟨fun H2 => ∃ ws, SqL X.K H2 a ws ∧ ws.length = xs.length, fun i H2 x H3 => ∃ T y, x = .ref T ∧ H2 T = none ∧ H3 = upd H2 T (.tup [.int (i : Nat), y]) ∧ ∀ ws, SqL X.K H2 a ws → ws[i]? = some y, ⟨fun i H2 hi g => ?_, fun H2 g => ?_, fun i H2 x H3 hi g y => y⟩, fun ad2 F2 H2 m2 x h2 g => ?_, fun i ad2 F2 H2 m2 x H3 hi ex h2 g y => ?_⟩
      · obtain ⟨ws, g1, g2⟩ := g
        have hi' : i < ws.length := by rw [g2, ← enL_len]; exact hi
        exact ⟨ws, ws[i], g1, List.getElem?_eq_getElem hi'⟩
      · obtain ⟨ws, g1, g2⟩ := g
        exact ⟨ws, g1, by rw [g2, ← enL_len]; exact Nat.le_refl _⟩
      · obtain ⟨ws, g1, g2⟩ := st ad2 F2 H2 m2 x h2 g
        exact ⟨ws, g1, g2.len⟩
      · obtain ⟨T, y', rfl, hT, rfl, hy⟩ := y
        obtain ⟨ws, g1, g2⟩ := st ad2 F2 H2 m2 ex h2 g
        obtain ⟨d, e1, e2⟩ := g2.get' (hy ws g1)
        obtain ⟨F3, x3, a3, r3⟩ := pair_new h2 hT (Rp.int (i : Nat)) e2
        exact ⟨F3, _, enL_get e1, x3, a3, r3⟩
  · exact h1.elim
end
end DL

/-! DL: several names at once, things times ints. -/
namespace DL
open PySem L2 PyProof.Rows
def sPar3 (i j l : Nat) (f : Fa) : Fs := fun r m => (f r m).stm r fun ws m1 => match ws with | [u, v, w] => .nx (((r.set i (some u)).set j (some v)).set l (some w)) m1 | _ => .bad
def sParN (n : Nat) (f : Fa) (gs : List W → Rho → Sto → Option (Rho × Sto)) : Fs := fun r m => (f r m).stm r fun ws m1 => if ws.length = n ∧ n ≤ 1000 then (match gs ws r m1 with | some (r2, m2) => .nx r2 m2 | none => .bad) else .bad
section
variable {X : Cx} {Wx : WX}
theorem ds_par3 {i j l : Nat} {st : Stmt} {f : Fa} (h : PS X st (tPar3 i j l (LA X.K Wx f))) : DS X Wx st (sPar3 i j l f) := ps_weak h fun D s H q => by
  obtain ⟨r, ad, m, F, he, hA, hp⟩ := q
  refine ⟨r, ad, m, F, he, hA, Post.mono (stm_post he hp) (fun ws m1 ad1 F1 H1 e1 ha1 q0 vs rw1 => ?_) fun _ _ _ _ _ _ _ _ z => z⟩
  have h1 := q0.2.2
  cases rw1 with
  | nil => exact h1.elim
  | cons a b =>
    cases b with
    | nil => exact h1.elim
    | cons c d =>
      cases d with
      | nil => exact h1.elim
      | cons e g =>
        cases g with
        | nil => exact ⟨_, _, _, rfl, h1 _ _ _ _ Ext.refl ha1 ((((he.ext e1).set i a).set j c).set l e)⟩
        | cons _ _ => exact h1.elim
theorem ds_parN {tgs es : List Expr} {k k2 n : Nat} {p1 p2 pos : Pos} {sl : List Nat} {fa : Fa} {gs : List W → Rho → Sto → Option (Rho × Sto)} (hc : X.calm = true) (ha : DA X Wx es fa) (hg : DGs X sl tgs gs)
    (hn : (assignEach tgs X.env).length = n := by rfl) (hst : (assignEach tgs X.env).findIdx? (·.1) = none := by rfl)
    (hs : swapsWithSole [.Tuple tgs k p1] (.Tuple es k2 p2) pos.line X.env = pure false := by rfl) (hw : swappedStores [.Tuple tgs k p1] (.Tuple es k2 p2) X.env = pure none := by rfl)
    (h1 : (assignEach [.Tuple tgs k p1] X.env).map (·.2) = [assign (.Tuple tgs k p1) X.env] := by rfl) : DS X Wx (.Assign [.Tuple tgs k p1] (.Tuple es k2 p2) pos) (sParN n fa gs) :=
  ps_weak (ps_asg (pe_tup ha) (pg_tup hc hg hn hst) hs hw h1) fun D s H q => by
  obtain ⟨r, ad, m, F, he, hA, hp⟩ := q
  refine ⟨r, ad, m, F, he, hA, Post.mono (stm_post he hp) (fun ws m1 ad1 F1 H1 e1 ha1 q0 vs rw1 => ?_) fun _ _ _ _ _ _ _ _ z => z⟩
  have h1 := q0.2.2
  by_cases hz : ws.length = n ∧ n ≤ 1000
  · simp only [if_pos hz] at h1
    have hl : vs.length = n := by rw [← rw1.len]; exact hz.1
    refine ⟨by rw [hl, sizeLine_eq]; omega, fun p hp' => ?_⟩
    obtain ⟨a3, x3⟩ := ha1.room (o := .tup vs) hp'
    refine ⟨p, vs, rfl, SqT.of upd_same, hl, ws, r, ad1, m1, F1, rw1.ext x3, (he.ext e1).ext x3, a3, ?_⟩
    cases eg : gs ws r m1 with
    | none => simp only [eg] at h1; exact h1
    | some q =>
      obtain ⟨r2, m2⟩ := q
      simp only [eg] at h1 ⊢
      exact fun s' ad' F' H' y1 y2 y3 _ _ => h1 _ _ _ _ (x3.trans y1) y2 y3
  · simp only [if_neg hz] at h1
    exact h1.elim
end
@[simp] theorem s_par3 (i j l : Nat) (a : Fa) (r : Rho) (m : Sto) : sPar3 i j l a r m = (a r m).stm r fun ws m1 => match ws with | [u, v, w] => .nx (((r.set i (some u)).set j (some v)).set l (some w)) m1 | _ => .bad := rfl
@[simp] theorem s_parN (n : Nat) (a : Fa) (gs : List W → Rho → Sto → Option (Rho × Sto)) (r : Rho) (m : Sto) : sParN n a gs r m = (a r m).stm r fun ws m1 => if ws.length = n ∧ n ≤ 1000 then (match gs ws r m1 with | some (r2, m2) => .nx r2 m2 | none => .bad) else .bad := rfl
/-! ### a list times an int -/
theorem RpA.reps {K : PySem.W.Frag} {F : Hp} {vs : List V} {ds : List D} (r : RpA K F vs ds) : ∀ n : Nat, RpA K F (List.replicate n vs).flatten (List.replicate n ds).flatten
  | 0 => .nil
  | n + 1 => by simp only [List.replicate_succ, List.flatten_cons]; exact r.app (RpA.reps r n)
theorem od_rep {K : PySem.W.Frag} : OpD K rRep gRep := by
  intro x y z u v ad m F H Q rx ry ha e q
  unfold gRep at e
  split at e
  · rename_i xs k hx
    split at e
    · rename_i hz
      cases e
      simp only [Bool.and_eq_true, decide_eq_true_eq] at hz
      obtain ⟨a, vs, rfl, q1, s1⟩ := ha.lst' rx hx
      cases ry
      have hm : vs.length * k.toNat ≤ 1000 * 1000 := Nat.mul_le_mul (by rw [s1.len]; exact hz.2) (by omega)
      refine ⟨a, k, vs, rfl, rfl, q1, by omega, by omega, Nat.le_trans hm (by rw [sizeLine_eq]; decide), fun p hp => ?_⟩
      obtain ⟨a1, x1⟩ := ha.new (o := .lst (List.replicate k.toNat vs).flatten) hp
      exact q _ _ _ x1 a1 (.lst upd_same (RpA.reps (s1.mono x1.fle) _))
    · cases e
  · cases e
@[simp] theorem rep_l (xs : List D) (k : Int) (m : Sto) : gRep (.d (.list xs)) (.d (.int k)) m = if decide (0 ≤ k) && decide (k ≤ 1000) && decide (xs.length ≤ 1000) then some (.d (.list (List.replicate k.toNat xs).flatten)) else none := rfl
end DL

/-! DL: a tuple times an int. -/
namespace DL
open PySem L2 PySem.Spec PyProof.Rows
open AutoSeq1 (wpAny_loadPart')
theorem tmul_same (l : Addr) (items : Array Value) (n : Nat) (dd : Option Addr) (sl : Array (Option Value)) (x : Int) (u : Tok) (c0 : (decide (x < -(2 ^ 63)) || decide (x ≥ 2 ^ 63)) = false) (c1 : (items.isEmpty || x == 1) = true) :
    Meets (Builtin.«tuple.__mul__» ⟨[.ref l, .int x u], []⟩) (fun _ R s => s.heap.get? l = some { cls := .type "tuple", dict := dd, data := .seq items n, slots := sl } ∧ R (.ok (.ret (Value.ref l))) s) :=
  .of_wp fun prog w A R s h => by
    obtain ⟨g0, g1, g2, g3, g4⟩ := s
    obtain ⟨hl, h⟩ := h
    have f0 := AutoSeq1.idx_int
    wp_walk using wpAny_loadPart' hl
    repeat (first
      | (refine wpAny_ite_false (decide_eq_false (by rw [c0]; exact nofun)) ?_; wp_walk using wpAny_loadPart' hl)
      | (refine wpAny_ite_true (decide_eq_true (by rw [c1])) ?_; wp_walk using wpAny_loadPart' hl))
    exact ⟨_, rfl, h⟩
theorem tmul_none (l : Addr) (items : Array Value) (n : Nat) (dd : Option Addr) (sl : Array (Option Value)) (x : Int) (u : Tok) (c0 : (decide (x < -(2 ^ 63)) || decide (x ≥ 2 ^ 63)) = false) (c1 : (items.isEmpty || x == 1) = false) (c2 : (decide (x ≤ 0) || items.isEmpty) = true) :
    Meets (Builtin.«tuple.__mul__» ⟨[.ref l, .int x u], []⟩) (fun _ R s => s.heap.get? l = some { cls := .type "tuple", dict := dd, data := .seq items n, slots := sl } ∧
      R (.ok (.ret (Value.ref s.heap.objs.size))) { s with heap := s.heap.push { cls := Value.type "tuple", data := Data.seq #[] }, toks := s.toks }) :=
  .of_wp fun prog w A R s h => by
    obtain ⟨g0, g1, g2, g3, g4⟩ := s
    obtain ⟨hl, h⟩ := h
    have f0 := AutoSeq1.idx_int
    wp_walk using wpAny_loadPart' hl
    repeat (first
      | (refine wpAny_ite_false (decide_eq_false (by rw [c0]; exact nofun)) ?_; wp_walk using wpAny_loadPart' hl)
      | (refine wpAny_ite_false (decide_eq_false (by rw [c1]; exact nofun)) ?_; wp_walk using wpAny_loadPart' hl)
      | (refine wpAny_ite_true (decide_eq_true (by rw [c2])) ?_; wp_walk using wpAny_loadPart' hl))
    exact ⟨_, rfl, h⟩
def rRepA (K : PySem.W.Frag) : R2 := fun x y H Q => ∃ l k xs, x = V.ref l ∧ y = V.int k ∧ SqT K H l xs ∧ 0 ≤ k ∧ k ≤ 1000 ∧ xs.length ≤ 1000 ∧ ((xs = [] ∨ k = 1) → Q (.ref l) H) ∧ ∀ p, H p = none → Q (.ref p) (upd H p (.tup (List.replicate k.toNat xs).flatten))
theorem or_repT {X : Cx} : OpR X (binaryOp .Mult) (rRepA X.K) := by
  intro pins s σ H x y v u Q I rx ry h
  obtain ⟨l, k, xs, rfl, rfl, hT, k0, k1, hz, q1, q2⟩ := h
  by_cases hbig : xs ≠ [] ∧ 2 ≤ k
  · exact op_repT pins s σ H (.ref l) (.int k) v u Q I rx ry ⟨l, k, xs, rfl, rfl, hT, hbig.1, hbig.2, k1, hz, q2⟩
  cases rx
  obtain ⟨t, rfl⟩ := ry
  obtain ⟨its, r, ⟨⟨c, dd, data, sl⟩, ho, hc, n, hd⟩, hs⟩ := I.tuple hT
  simp only at hc hd
  subst hc hd
  have hle : its.length = xs.length := r.length.symm
  have c0 : (decide (k < -(2 ^ 63)) || decide (k ≥ 2 ^ 63)) = false := by
    rw [decide_eq_false (show ¬ k < -(2 ^ 63) by omega), decide_eq_false (show ¬ k ≥ 2 ^ 63 by omega)]; rfl
  have he : its.toArray.isEmpty = decide (xs = []) := by
    cases its with
    | nil => rw [decide_eq_true (List.eq_nil_of_length_eq_zero hle.symm)]; rfl
    | cons a b => rw [decide_eq_false fun z => by rw [z] at hle; cases hle]; rfl
  have step : ∀ (z : Value) (s2 : Shared), (EP X pins σ Q z s2) → (∀ (A' : Around) (E' : Value → Shared → Prop) (Q' : Value → Shared → Prop), True) → True := fun _ _ _ _ => trivial
  by_cases hone : xs = [] ∨ k = 1
  · have c1 : (its.toArray.isEmpty || k == 1) = true := by
      rw [he]
      rcases hone with z | z
      · rw [decide_eq_true z]; rfl
      · rw [z]; simp
    exact wpAny_binaryOp_repeat_ref (T := "tuple") (U := "int") (by decide) ⟨_, ho, rfl⟩ (fun s' => typeIs_int s' k t) noFill_tuple_mul F.fills_int_mul F.slot_int_rmul repeat_tuple F.slot_int_index.lookup
      (call_meets F.slot_int_rmul (typeIs_int s k t) F.entry_int_rmul (F.args_int_rmul_2 _ _) (int_rmul_tuple k t l its.toArray n dd sl)
        ⟨ho, rfl, ⟨_, ho, rfl⟩, call_meets F.slot_tuple_mul ⟨_, ho, rfl⟩ F.entry_tuple_mul (F.args_tuple_mul_2 _ _) (tmul_same l its.toArray n dd sl k t c0 c1) ⟨ho, ⟨.ref l, H, I, rfl, q1 hone⟩⟩⟩)
  · have n1 : ¬ xs = [] := fun z => hone (.inl z)
    have n2 : ¬ k = 1 := fun z => hone (.inr z)
    have kz : k = 0 := by
      have : ¬ 2 ≤ k := fun z => hbig ⟨n1, z⟩
      omega
    have c1 : (its.toArray.isEmpty || k == 1) = false := by
      rw [he, decide_eq_false n1, kz]; rfl
    have c2 : (decide (k ≤ 0) || its.toArray.isEmpty) = true := by rw [kz]; rfl
    have hf : H s.heap.objs.size = none := I.hok.fresh (Nat.le_refl _)
    have hq := q2 _ hf
    rw [kz] at hq
    refine wpAny_binaryOp_repeat_ref (T := "tuple") (U := "int") (by decide) ⟨_, ho, rfl⟩ (fun s' => typeIs_int s' k t) noFill_tuple_mul F.fills_int_mul F.slot_int_rmul repeat_tuple F.slot_int_index.lookup
      (call_meets F.slot_int_rmul (typeIs_int s k t) F.entry_int_rmul (F.args_int_rmul_2 _ _) (int_rmul_tuple k t l its.toArray n dd sl)
        ⟨ho, rfl, ⟨_, ho, rfl⟩, call_meets F.slot_tuple_mul ⟨_, ho, rfl⟩ F.entry_tuple_mul (F.args_tuple_mul_2 _ _) (tmul_none l its.toArray n dd sl k t c0 c1 c2) ⟨ho, ⟨.ref s.heap.objs.size, upd H s.heap.objs.size (.tup []), ?_, rfl, hq⟩⟩⟩)
    exact I.laid (t' := s.toks) (fun b u e => Heap.get?_push_of_some _ e) (Nat.le_refl _) ⟨Nat.zero_le _, [], .nil, ⟨_, Heap.get?_push_size _ rfl, rfl, _, rfl⟩⟩
def gRepT : W → W → Sto → Option W := fun a b _ => match a, b with
  | .d (.tuple xs), .d (.int k) => if decide (0 ≤ k) && decide (k ≤ 1000) && decide (xs.length ≤ 1000) then some (.d (.tuple (List.replicate k.toNat xs).flatten)) else none
  | _, _ => none
theorem od_repT {K : PySem.W.Frag} : OpD K (rRepA K) gRepT := by
  intro x y z u v ad m F H Q rx ry ha e q
  unfold gRepT at e
  split at e
  · rename_i xs k
    split at e
    · rename_i hz
      cases e
      simp only [Bool.and_eq_true, decide_eq_true_eq] at hz
      cases ry
      cases rx with
      | tup q1 s1 =>
        rename_i a vs
        refine ⟨a, k, vs, rfl, rfl, ha.le.sqT q1, hz.1.1, hz.1.2, by rw [s1.len]; exact hz.2, fun h => ?_, fun p hp => ?_⟩
        · refine q _ F H Ext.refl ha ?_
          rcases h with h | h
          · have := (nil_of_len s1).mp h
            subst this
            have : (List.replicate k.toNat ([] : List D)).flatten = [] := by simp
            rw [this]
            exact .tup q1 s1
          · subst h
            have : (List.replicate ((1 : Int)).toNat xs).flatten = xs := by simp
            rw [this]
            exact .tup q1 s1
        · obtain ⟨a1, x1⟩ := ha.new (o := .tup (List.replicate k.toNat vs).flatten) hp
          exact q _ _ _ x1 a1 (.tup (SqT.of upd_same) (RpA.reps (s1.mono x1.fle) _))
    · cases e
  · cases e
@[simp] theorem repT_t (xs : List D) (k : Int) (m : Sto) : gRepT (.d (.tuple xs)) (.d (.int k)) m = if decide (0 ≤ k) && decide (k ≤ 1000) && decide (xs.length ≤ 1000) then some (.d (.tuple (List.replicate k.toNat xs).flatten)) else none := rfl
end DL

/-! DL: rows for dicts and loops. -/
namespace DL
open PySem L2 PyProof.Rows
/-- a comprehension over what g makes of ws -/
theorem lcL_map2 {α : Type} {tg : Fg} {e : Fe} {r : Rho} {m : Sto} (g h : α → D) : ∀ (ws : List α) (acc : List D), (∀ a ∈ ws, ∃ r1, tg (.d (g a)) r m = some (r1, m) ∧ e r1 m = .ok (.d (h a)) m) → acc.length + ws.length ≤ sizeLine →
    lcL [] tg tTru e r (ws.map g) acc m = .ok (acc ++ ws.map h) m
  | [], acc, _, _ => by rw [List.map_nil, lcL_nil, List.map_nil, List.append_nil]
  | a :: ws, acc, hh, hz => by
    obtain ⟨r1, e1, e2⟩ := hh a List.mem_cons_self
    simp only [List.length_cons] at hz
    rw [List.map_cons, lcL_cons, e1]
    simp only [e_tTru, e2, frz_d]
    rw [if_pos (by omega), lcL_map2 g h ws (acc ++ [h a]) (fun y hy => hh y (List.mem_cons_of_mem _ hy)) (by simp only [List.length_append, List.length_singleton]; omega)]
    simp
/-- .. with a test -/
theorem lcL_filter2 {α : Type} {tg : Fg} {t : Ft} {e : Fe} {r : Rho} {m : Sto} (p : α → Bool) (g h : α → D) : ∀ (ws : List α) (acc : List D), (∀ a ∈ ws, ∃ r1, tg (.d (g a)) r m = some (r1, m) ∧ t r1 m = .ok (p a) m ∧ (p a = true → e r1 m = .ok (.d (h a)) m)) → acc.length + ws.length ≤ sizeLine →
    lcL [] tg t e r (ws.map g) acc m = .ok (acc ++ (ws.filter p).map h) m
  | [], acc, _, _ => by rw [List.map_nil, lcL_nil]; simp
  | a :: ws, acc, hh, hz => by
    obtain ⟨r1, e1, e2, e3⟩ := hh a List.mem_cons_self
    simp only [List.length_cons] at hz
    rw [List.map_cons, lcL_cons, e1]
    simp only [e2]
    cases hp : p a with
    | false =>
      simp only
      rw [lcL_filter2 p g h ws acc (fun y hy => hh y (List.mem_cons_of_mem _ hy)) (by omega)]
      simp [hp]
    | true =>
      simp only [e3 hp, frz_d]
      rw [if_pos (by omega), lcL_filter2 p g h ws (acc ++ [h a]) (fun y hy => hh y (List.mem_cons_of_mem _ hy)) (by simp only [List.length_append, List.length_singleton]; omega)]
      simp [hp]
def enFrom (k : Nat) : List D → List D
  | [] => []
  | x :: xs => .tuple [.int (k : Nat), x] :: enFrom (k + 1) xs
theorem enFrom_get : ∀ (xs : List D) (k i : Nat), (enFrom k xs)[i]? = (xs[i]?).map fun x => .tuple [.int ((k + i : Nat) : Int), x]
  | [], _, _ => by simp [enFrom]
  | x :: xs, k, 0 => by simp [enFrom]
  | x :: xs, k, i + 1 => by
    rw [enFrom, List.getElem?_cons_succ, enFrom_get xs (k + 1) i, List.getElem?_cons_succ]
    rw [show k + 1 + i = k + (i + 1) by omega]
theorem enL_from (xs : List D) : enL xs = enFrom 0 xs := by
  apply List.ext_getElem?
  intro i
  rw [enFrom_get, Nat.zero_add]
  cases h : xs[i]? with
  | none =>
    rw [List.getElem?_eq_none_iff] at h
    rw [Option.map_none, List.getElem?_eq_none_iff, enL_len]
    exact h
  | some x => rw [enL_get h]; rfl
section
variable (f f' f2 : Fe) (r : Rho) (m : Sto)
@[simp] theorem e_dget : dDGet f f' r m = (f r m).bind fun w m1 => (f' r m1).bind fun y m2 => match dicW w m2, keyW y with
  | some (_, kvs), some k => .opt ((getK kvs k).map .d) m2
  | _, _ => .bad := rfl
@[simp] theorem e_dIn (neg : Bool) : dDIn neg f f' r m = (f r m).bind fun y m1 => (f' r m1).bind fun w m2 => match dicW w m2, keyW y with
  | some (_, kvs), some k => .ok (.d (.bool (neg != (getK kvs k).isSome))) m2
  | _, _ => .bad := rfl
@[simp] theorem e_dget1 : dDGet1 f f' r m = (f r m).bind fun w m1 => (dicW w m1).elim .bad fun _ => (f' r m1).bind fun y m2 => match dicW w m2, keyW y with
  | some (_, kvs), some k => .ok (.d ((getK kvs k).getD .none)) m2
  | _, _ => .bad := rfl
@[simp] theorem e_dget2 : dDGet2 f f' f2 r m = (f r m).bind fun w m1 => (dicW w m1).elim .bad fun _ => (f' r m1).bind fun y m2 => (f2 r m2).bind fun z m3 => match dicW w m3, keyW y with
  | some (_, kvs), some k => .ok (match getK kvs k with | some d => .d d | none => z) m3
  | _, _ => .bad := rfl
@[simp] theorem s_dput : sDPut f f' f2 r m = (f2 r m).stm r fun v m1 => (f r m1).stm r fun w m2 => (f' r m2).stm r fun y m3 => match frz v m3 with
  | some (d, m4) => (match dicW w m4, keyW y with
    | some (i, kvs), some k => if kvs.length < sizeLine then .nx r (m4.set i (.dk (setK kvs k d))) else .bad
    | _, _ => .bad)
  | none => .bad := rfl
@[simp] theorem e_dnew : dDNew r m = .ok (.c m.length) (m ++ [.dk []]) := rfl
@[simp] theorem keyW_i (i : Int) : keyW (.d (.int i)) = some (.inl i) := rfl
@[simp] theorem keyW_s (x : Str) : keyW (.d (.str x)) = some (.inr x) := rfl
@[simp] theorem dicW_c (i : Nat) : dicW (.c i) m = match m[i]? with | some (.dk kvs) => some (i, kvs) | _ => none := rfl
@[simp] theorem i_enT : iEnumT f r m = (f r m).bind fun w m1 => match w with | .d (.tuple xs) => .ok ⟨enL xs, []⟩ m1 | _ => .bad := rfl
@[simp] theorem i_enL : iEnumL f r m = (f r m).bind fun w m1 => match lstOf w m1 with | some xs => .ok ⟨enL xs, gsOf w xs⟩ m1 | none => .bad := rfl
end
theorem getK_cons (p : Key × D) (ps : List (Key × D)) (j : Key) : getK (p :: ps) j = if p.1 = j then some p.2 else getK ps j := by
  unfold getK
  rw [List.find?_cons]
  by_cases e : p.1 = j <;> simp [e]
theorem getK_map (k j : Key) (d : D) : ∀ kvs : List (Key × D), getK (kvs.map fun kv => if kv.1 = k then (kv.1, d) else kv) j = (getK kvs j).map fun x => if j = k then d else x
  | [] => rfl
  | p :: ps => by
    rw [List.map_cons, getK_cons, getK_cons, getK_map k j d ps]
    by_cases e : p.1 = k
    · rw [if_pos e]
      by_cases e2 : p.1 = j
      · simp [e2, e2 ▸ e]
      · simp [e2]
    · rw [if_neg e]
      by_cases e2 : p.1 = j
      · have : ¬ j = k := fun z => e (e2.trans z)
        simp [e2, this]
      · simp [e2]
theorem getK_snoc (k j : Key) (d : D) : ∀ kvs : List (Key × D), getK (kvs ++ [(k, d)]) j = match getK kvs j with | some x => some x | none => if k = j then some d else none
  | [] => by rw [List.nil_append, getK_cons]; rfl
  | p :: ps => by
    rw [List.cons_append, getK_cons, getK_cons, getK_snoc k j d ps]
    by_cases e : p.1 = j <;> simp [e]
theorem getK_any (k : Key) : ∀ kvs : List (Key × D), (kvs.any fun kv => decide (kv.1 = k)) = (getK kvs k).isSome
  | [] => rfl
  | p :: ps => by
    rw [List.any_cons, getK_cons, getK_any k ps]
    by_cases e : p.1 = k <;> simp [e]
theorem getK_set (kvs : List (Key × D)) (k j : Key) (d : D) : getK (setK kvs k d) j = if j = k then some d else getK kvs j := by
  unfold setK
  rw [getK_any]
  by_cases h : (getK kvs k).isSome = true
  · rw [if_pos h, getK_map]
    by_cases e : j = k
    · subst e
      obtain ⟨x, hx⟩ := Option.isSome_iff_exists.mp h
      simp [hx]
    · simp [e]
  · rw [if_neg h, getK_snoc]
    by_cases e : j = k
    · subst e
      have : getK kvs j = none := by simpa using h
      simp [this]
    · have e2 : ¬ k = j := fun z => e z.symm
      simp only [e, e2, if_false]
      cases getK kvs j <;> rfl
/-- what each turn keeps, over cells that stay as they are -/
theorem forL_keepsG {gs : List (Nat × List D)} {tg : Fg} {b : Fs} (P : List D → Rho → Sto → Prop) (hg : ∀ ys r m, P ys r m → grd gs m) : ∀ (xs : List D) {r : Rho} {m : Sto}, P xs r m →
    (∀ x ys r m, P (x :: ys) r m → ∃ r1 m1, tg (.d x) r m = some (r1, m1) ∧ ∃ r2 m2, b r1 m1 = .nx r2 m2 ∧ P ys r2 m2) → ∃ r2 m2, forL gs tg b xs r m = .nx r2 m2 ∧ P [] r2 m2
  | [], r, m, h, _ => ⟨r, m, by simp [forL, hg _ _ _ h], h⟩
  | x :: xs, r, m, h, st => by
    obtain ⟨r1, m1, e1, r2, m2, e2, h2⟩ := st x xs r m h
    obtain ⟨r3, m3, e3, h3⟩ := forL_keepsG P hg xs h2 st
    refine ⟨r3, m3, ?_, h3⟩
    rw [forL, if_pos (hg _ _ _ h), e1]
    simp only [e2]
    exact e3
theorem grd_one {i : Nat} {xs : List D} {m : Sto} (h : lstOf (.c i) m = some xs) : grd [(i, xs)] m := fun p hp => by
  have : p = (i, xs) := by simpa using hp
  rw [this]; exact h
/-- range(n), n a length -/
def rgOf : W → Sto → Out Src
  | .d (.int j), m1 => if decide (-(2 ^ 62) ≤ j) && decide (j < 2 ^ 62) then .ok ⟨rngL 0 j.toNat, []⟩ m1 else .bad
  | _, _ => .bad
theorem i_rg (f : Fe) (r : Rho) (m : Sto) : iRange1 f r m = (f r m).bind rgOf := by
  unfold iRange1
  congr 1
  funext w m1
  cases w with
  | d x => cases x <;> rfl
  | c _ => rfl
  | k _ => rfl
  | x _ _ _ => rfl
theorem rgOf_int (j : Int) (h1 : -(2 ^ 62) ≤ j) (h2 : j < 2 ^ 62) (m : Sto) : rgOf (.d (.int j)) m = .ok ⟨rngL 0 j.toNat, []⟩ m := by
  show (if decide (-(2 ^ 62) ≤ j) && decide (j < 2 ^ 62) then Out.ok (⟨rngL 0 j.toNat, []⟩ : Src) m else .bad) = _
  rw [decide_eq_true h1, decide_eq_true h2]
  rfl
theorem rgOf_nat (n : Nat) (hn : n ≤ 1000) (m : Sto) : rgOf (.d (.int (n : Nat))) m = .ok ⟨rngL 0 n, []⟩ m := by
  have h := rgOf_int ((n : Nat) : Int) (by omega) (by omega) m
  rw [Int.toNat_natCast] at h
  exact h
end DL

/-! DM: further constructs: a = b = e, reversed(range(n)), index, dict(pairs), a dict's display by a for, sorted texts. -/
namespace DL
open PySem L2 PyProof.Rows
/-! ### a = b = e -/
def sAsg2 (f : Fe) (g g' : Fg) : Fs := fun r m => (f r m).stm r fun w m1 => match g w r m1 with
  | some (r2, m2) => (match g' w r2 m2 with | some (r3, m3) => .nx r3 m3 | none => .bad)
  | none => .bad
theorem ds_asg2 {X : Cx} {Wx : WX} {pos : Pos} {t1 t2 e : Expr} {f : Fe} {g g' : Fg} {sl sl' : List Nat} (h : DE X Wx e f) (h1 : DG X sl t1 g) (h2 : DG X sl' t2 g')
    (ha : (assignEach [t1, t2] X.env).map (·.2) = [assign t1 X.env, assign t2 X.env] := by rfl) (hw : swappedStores [t1, t2] e X.env = pure none := by rfl) :
    DS X Wx (.Assign [t1, t2] e pos) (sAsg2 f g g') := ps_weak (ps_asg2 h h1 h2 ha hw) fun D s H q => by
  obtain ⟨r, ad, m, F, he, hA, hp⟩ := q
  refine ⟨r, ad, m, F, he, hA, Post.mono (stm_post he hp) (fun w m1 ad1 F1 H1 e1 ha1 q0 v rw1 => ?_) fun _ _ _ _ _ _ _ _ z => z⟩
  have h1 := q0.2.2
  refine ⟨w, r, ad1, m1, F1, rw1, he.ext e1, ha1, ?_⟩
  cases eg : g w r m1 with
  | none => simp only [eg] at h1; exact h1
  | some p =>
    obtain ⟨r2, m2⟩ := p
    simp only [eg] at h1 ⊢
    intro s' ad2 F2 H2 x1 x2 x3 _ _
    refine ⟨w, r2, ad2, m2, F2, rw1.ext x1, x3, x2, ?_⟩
    cases eg2 : g' w r2 m2 with
    | none => simp only [eg2] at h1; exact h1
    | some p =>
      obtain ⟨r3, m3⟩ := p
      simp only [eg2] at h1 ⊢
      exact fun s3 ad3 F3 H3 y1 y2 y3 _ _ => h1 s3 ad3 F3 H3 (x1.trans y1) y2 y3
/-! ### reversed(range(n)) -/
def rvL (n : Nat) : List D := (rngL 0 n).reverse
def iRevRng (f : Fe) : Fi := fun r m => (f r m).bind fun w m1 => match w with | .d (.int j) => if decide (-(2 ^ 62) ≤ j) && decide (j < 2 ^ 62) then .ok ⟨rvL j.toNat, []⟩ m1 else .bad | _ => .bad
theorem rvL_get {n i : Nat} (h : i < n) : (rvL n)[i]? = some (.int ((n : Int) - 1 - (i : Nat))) := by
  unfold rvL
  have hl : (rngL 0 n).length = n := by simp [rngL]
  rw [List.getElem?_reverse (by rw [hl]; exact h), hl, rngL, List.getElem?_map, List.getElem?_range (by omega)]
  simp only [Option.map_some]
  congr 2
  omega
theorem rv_ok {K : PySem.W.Frag} {ad : List Addr} {F H : Hp} {n : Nat} {lo : Int} (hlo : lo = (n : Int) - 1) : SrcOk K ⟨rvL n, []⟩ ad F H (Itc lo (-1) n) := by
  have hl : (rvL n).length = n := by simp [rvL, rngL]
  refine ⟨fun _ => True, fun i H x H' => H' = H ∧ x = .int (lo + (i : Nat) * (-1)), ?_, fun _ _ _ _ _ _ _ => True.intro, fun i ad2 F2 H2 m2 x H3 hi _ h2 _ y => ?_⟩
  · show Walk _ (rvL n).length _ _
    rw [hl]
    exact ⟨fun i H hi _ => hi, fun H _ => Nat.le_refl _, fun i H x H' hi _ y => y⟩
  · obtain ⟨rfl, rfl⟩ := y
    have hi : i < (rvL n).length := hi
    rw [hl] at hi
    refine ⟨F2, .int (lo + (i : Nat) * (-1)), ?_, Ext.refl, h2, .int _⟩
    show (rvL n)[i]? = _
    rw [rvL_get hi, hlo]
    congr 2
    omega
theorem di_revR {X : Cx} {Wx : WX} {tg e : Expr} {f : Fe} {p p2 pos pos2 : Pos} (hg : Gl X "reversed") (hm : X.mg "reversed" = none) (hg2 : Gl X "range") (hm2 : X.mg "range" = none) (h : DE X Wx e f)
    (n1 : starEach [e] X.env = (false, eval e X.env) :: starEach [] X.env := by rfl)
    (n2 : starEach [.Call (.Name "range" p2) [e] [] pos2] X.env = (false, eval (.Call (.Name "range" p2) [e] [] pos2) X.env) :: starEach [] X.env := by rfl) :
    DI X Wx tg (.Call (.Name "reversed" p) [.Call (.Name "range" p2) [e] [] pos2] [] pos) (iRevRng f) := pi_weak (pi_revR hg hm (prg_1 hg2 hm2 h n1) n2) fun s H R q => by
  obtain ⟨r, ad, m, F, he, hA, hp⟩ := q
  refine ⟨_, _, _, _, he, hA, Post.mono (Post.bind hp) (fun w m1 ad1 F1 H1 e1 ha1 q0 v rw1 => ?_) fun _ _ _ _ _ _ _ _ z => z⟩
  obtain ⟨_, _, h1⟩ := q0
  split at h1
  · split at h1
    · rename_i j hb
      cases rw1
      have hb := Bool.and_eq_true_iff.mp hb
      have b1 := of_decide_eq_true hb.1
      have b2 := of_decide_eq_true hb.2
      refine ⟨j, rfl, by omega, by omega, b1, b2, h1 _ _ _ Ext.refl ha1 _ ?_⟩
      rw [show (j - 0).toNat = j.toNat by rw [Int.sub_zero]]
      exact rv_ok (by omega)
    · exact h1.elim
  · exact h1.elim
/-! ### the first place of an equal one -/
def gIndex (o : W) : List W → Sto → Option W
  | [y], m => match datOf o m, datOf y m with
    | some (.list ds), some d => if SeqAt.shaped (.list ds) && SeqAt.shaped d then (ds.findIdx? fun z => PyData.eqv z d).map fun j => .d (.int (j : Nat)) else none
    | _, _ => none
  | _, _ => none
theorem md_index {K : PySem.W.Frag} : MtRd K (rIndexD K) gIndex := by
  intro o ws z u vs ad m F H Q r1 r2 hA e q
  unfold gIndex at e
  split at e
  · rename_i y m0
    obtain ⟨v, rfl, ry⟩ := r2.one
    split at e
    · rename_i ds d h1 h2
      split at e
      · rename_i hs
        have hs := Bool.and_eq_true_iff.mp hs
        obtain ⟨a, vs, rfl, _, _⟩ := hA.lst' r1 h1
        obtain ⟨j, hj, rfl⟩ := Option.map_eq_some_iff.mp e
        obtain ⟨hl, k1, k2⟩ := List.findIdx?_eq_some_iff_getElem.mp hj
        refine ⟨a, v, d, ds, j, ds[j], rfl, rfl, hA.dp r1 h1, hA.dp ry h2, hs.1, hs.2, List.getElem?_eq_getElem hl, k1, fun i z' hi hz => ?_, q _ F H Ext.refl hA (.int _)⟩
        obtain ⟨hil, ez⟩ := List.getElem?_eq_some_iff.mp hz
        have := k2 i hi
        rw [ez] at this
        simpa using this
      · cases e
    · cases e
  · cases e
/-! ### dict(pairs) -/
def pairsD : List D → Option (List (Key × D))
  | [] => some []
  | .tuple [k, d] :: r => (match keyD k, pairsD r with | some k, some kvs => some ((k, d) :: kvs) | _, _ => none)
  | _ :: _ => none
theorem keyD_w {K : PySem.W.Frag} {F : Hp} {v : V} {d : D} {k : Key} (r : Rp K F v d) (e : keyD d = some k) : v = kV k := keyW_w (ad := []) (w := .d d) r e
theorem pairsD_w {K : PySem.W.Frag} {F H : Hp} (hle : Ord F H) : ∀ {xs : List D} {vs : List V} {kvs : List (Key × D)}, RpA K F vs xs → pairsD xs = some kvs →
    ∃ (ps : List Addr) (ws : List (Key × V)), vs = ps.map V.ref ∧ Paired (fun p kv => SqT K H p [kV kv.1, kv.2]) ps ws ∧ RpKV K F ws kvs
  | [], _, _, .nil, e => by cases e; exact ⟨[], [], rfl, .nil, .nil⟩
  | x :: xs, _, kvs, .cons a r, e => by
    unfold pairsD at e
    split at e
    · rename_i h; cases h
    · rename_i k d xs' h
      cases h
      split at e
      · rename_i key kvs' h1 h2
        cases e
        obtain ⟨ps, ws, rfl, q1, q2⟩ := pairsD_w hle r h2
        cases a with
        | tup q s =>
          cases s with
          | cons s1 s =>
            cases s with
            | cons s2 s =>
              cases s
              have := keyD_w s1 h1
              subst this
              rename_i ad' v2
              exact ⟨_ :: ps, (key, _) :: ws, rfl, .cons (hle.sqT q) q1, .cons ⟨rfl, s2⟩ q2⟩
      · cases e
    · cases e
def gDictP : List W → Sto → Option (List (Key × D))
  | [a], m => match datOf a m with | some (.list xs) => pairsD xs | _ => none
  | _, _ => none
def dDictP (fs : Fa) : Fe := fun r m => (fs r m).bind fun ws m1 => match gDictP ws m1 with | some kvs => .ok (.c m1.length) (m1 ++ [.dk (mergeD [] kvs)]) | none => .bad
theorem de_dictP {X : Cx} {Wx : WX} {e : Expr} {fs : Fa} (h : PE X e (fun σ H Q => LA X.K Wx fs σ H fun xs H1 => ∃ (a : Addr) (ps : List Addr) (kvs : List (Key × V)), xs = [.ref a] ∧ SqL X.K H1 a (ps.map V.ref) ∧ Paired (fun p kv => SqT X.K H1 p [kV kv.1, kv.2]) ps kvs ∧ ∀ p, H1 p = none → Q (.ref p) (upd H1 p (.dK (mergeK [] kvs))))) :
    DE X Wx e (dDictP fs) := pe_weak h fun s H Q q => by
  obtain ⟨r, ad, m, F, he, hA, hp⟩ := q
  refine ⟨_, _, _, _, he, hA, Post.mono (Post.bind hp) (fun ws m1 ad1 F1 H1 e1 ha1 q0 vs rw1 => ?_) fun _ _ _ _ _ _ _ _ z => z⟩
  obtain ⟨_, _, h1⟩ := q0
  cases eg : gDictP ws m1 with
  | none => simp only [eg] at h1; exact h1.elim
  | some kvs =>
    simp only [eg] at h1
    unfold gDictP at eg
    split at eg
    · rename_i w m0
      obtain ⟨v, rfl, r1⟩ := rw1.one
      split at eg
      · rename_i xs ed
        obtain ⟨a, us, rfl, q1, q2⟩ := ha1.lst' r1 ed
        obtain ⟨ps, kws, rfl, q3, q4⟩ := pairsD_w ha1.le q2 eg
        refine ⟨a, ps, kws, rfl, SqL.of q1, q3, fun p hp0 => ?_⟩
        obtain ⟨np, fp⟩ := ha1.out hp0
        obtain ⟨a3, x3⟩ := ha1.alloc (o := .dK (mergeK [] kws)) (c := .dk (mergeD [] kvs)) hp0 ⟨fp, _, upd_same, RpKV.merge q4 .nil⟩ (fun _ z => nomatch z)
        exact h1 _ _ _ x3 a3 _ ⟨p, by rw [← ha1.len, List.getElem?_append_right (Nat.le_refl _), Nat.sub_self]; rfl, rfl⟩
      · cases eg
    · cases eg
/-! ### a dict by a for -/
section
variable {J : It} {n : Nat} {G : Hp → Prop} {Y : Nat → Hp → V → Hp → Prop}
theorem dc_it (w : Walk J n G Y) {g : TG} {tt : TT} {tk tv : TE} {vs : List Nat} {σ : L2.St} {H1 : Hp} {D : Addr} {Qd : Hp → Prop} (Pv : Nat → Hp → Prop) (h0 : Pv 0 (upd H1 D (.dK []))) (hG : ∀ i H, i ≤ n → Pv i H → G H)
    (hs : ∀ i x H H', i < n → Pv i H → Y i H x H' → g x (wipe σ vs) H' fun σ2 H2 => wipe σ2 vs = wipe σ vs ∧ tt σ2 H2 fun b H3 =>
      if b = true then tk σ2 H3 fun y H4 => tv σ2 H4 fun z H5 => ∃ kvs k, y = kV k ∧ H5 D = some (.dK kvs) ∧ kvs.length < sizeLine ∧ Pv (i + 1) (upd H5 D (.dK (putK kvs k z))) else Pv (i + 1) H3) (hd : ∀ H, Pv n H → Qd H) :
    ∃ W : Nat → Nat → Hp → Prop, (∃ m, W 0 m (upd H1 D (.dK []))) ∧ ∀ i m H, W i m H →
      (J.stop i H ∧ Qd H) ∨ (J.go i H ∧ ∃ Nx : Hp → Prop, (∀ H', Nx H' → ∃ m', m' < m ∧ W (i + 1) m' H') ∧ ∀ x H', J.yld i H x H' → g x (wipe σ vs) H' fun σ2 H2 => wipe σ2 vs = wipe σ vs ∧ tt σ2 H2 fun b H3 =>
        if b = true then tk σ2 H3 fun y H4 => tv σ2 H4 fun z H5 => ∃ kvs k, y = kV k ∧ H5 D = some (.dK kvs) ∧ kvs.length < sizeLine ∧ Nx (upd H5 D (.dK (putK kvs k z))) else Nx H3) := by
  refine ⟨fun i m H => m = n - i ∧ i ≤ n ∧ Pv i H, ⟨n, by simp, Nat.zero_le _, h0⟩, ?_⟩
  rintro i m H ⟨rfl, hi, p⟩
  have q := hG i H hi p
  by_cases hlt : i < n
  · refine .inr ⟨w.goes i H hlt q, Pv (i + 1), fun H' p' => ⟨n - (i + 1), by omega, rfl, hlt, p'⟩, fun x H' y => hs i x H H' hlt p (w.yields i H x H' hlt q y)⟩
  · have e : i = n := by omega
    subst e
    exact .inl ⟨w.stops H q, hd H p⟩
end
open Classical in
noncomputable def dcL (gs : List (Nat × List D)) (tg : Fg) (tt : Ft) (tk tv : Fe) (r : Rho) : List D → List (Key × D) → Sto → Out (List (Key × D))
  | [], acc, m => if grd gs m then .ok acc m else .bad
  | x :: xs, acc, m => if grd gs m then match tg (.d x) r m with
    | some (r1, m1) => match tt r1 m1 with
      | .ok true m2 => match tk r1 m2 with
        | .ok k m3 => match tv r1 m3 with
          | .ok w m4 => match keyW k, frz w m4 with
            | some k, some (d, m5) => if acc.length < sizeLine then dcL gs tg tt tk tv r xs (setK acc k d) m5 else .bad
            | _, _ => .bad
          | _ => .bad
        | _ => .bad
      | .ok false m2 => dcL gs tg tt tk tv r xs acc m2
      | _ => .bad
    | none => .bad
    else .bad
noncomputable def dDc (f : Fi) (tg : Fg) (tt : Ft) (tk tv : Fe) (vs : List Nat) : Fe := fun r m => (f r m).bind fun s m1 => (dcL s.gs tg tt tk tv (wipeR r vs) s.items [] m1).bind fun kvs m2 => .ok (.c m2.length) (m2 ++ [.dk kvs])
theorem dcL_grd {gs : List (Nat × List D)} {tg : Fg} {tt : Ft} {tk tv : Fe} {r : Rho} {xs : List D} {acc : List (Key × D)} {m : Sto} (h : ¬ grd gs m) : dcL gs tg tt tk tv r xs acc m = .bad := by
  cases xs <;> simp [dcL, h]
section
variable {X : Cx} {Wx : WX} {f : Fi} {g : Fg} {ft : Ft} {fk fe : Fe} {sl vs : List Nat}
theorem dc_w (hsl : ∀ i ∈ sl, i ∈ vs) {s : L2.St} {H : Hp} {Q : VK} (q : LE X.K Wx (dDc f g ft fk fe vs) s H Q) : tDc (LI X.K Wx f) (LG X.K sl g) (LT X.K W0 ft) (LE X.K W0 fk) (LE X.K W0 fe) vs s H Q := by
  obtain ⟨r, ad, m, F, he, hA, hp⟩ := q
  refine ⟨r, ad, m, F, he, hA, Post.mono (Post.bind hp) (fun src m1 ad1 F1 H1 e1 ha1 q0 J hJ Dn hD => ?_) fun _ _ _ _ _ _ _ _ z => z⟩
  obtain ⟨_, _, h1⟩ := q0
  obtain ⟨G, Y, wk, hG, hY⟩ := hJ
  obtain ⟨nD, fD⟩ := ha1.out hD
  have he1 := (he.ext e1).wipe vs
  refine dc_it wk (fun i H2 => ∃ ad2 m2 F2 acc ws, Ext ad1 F1 H1 ad2 F2 H2 ∧ At X.K ad2 m2 F2 H2 ∧ H2 Dn = some (.dK ws) ∧ F2 Dn = none ∧ Dn ∉ ad2 ∧ RpKV X.K F2 ws acc ∧
      Post X.K ad1 F1 H1 ((dcL src.gs g ft fk fe (wipeR r vs) (src.items.drop i) acc m2).bind fun (kvs : List (Key × D)) (m2 : Sto) => Out.ok (W.c m2.length) (m2 ++ [Cell.dk kvs])) (fun a _ ad' F' H' => ∀ b, RW X.K ad' F' a b → Q b H') (XP X.K Wx s))
    ⟨ad1, m1, F1, [], [], Ext.refl.side hD, (ha1.side fD nD), upd_same, fD, nD, .nil, h1⟩ (fun i H2 hi p => ?_) (fun i x H2 H3 hi p y => ?_) fun H2 p => ?_
  · obtain ⟨ad2, m2, F2, acc, ws, x2, ha2, _, _, _, _, hp2⟩ := p
    by_cases hgd : grd src.gs m2
    · exact hG ad2 F2 H2 m2 x2 ha2 hgd
    · rw [dcL_grd hgd] at hp2; exact hp2.elim
  · obtain ⟨ad2, m2, F2, acc, ws, x2, ha2, d1, d2, d3, d4, hp2⟩ := p
    by_cases hgd : grd src.gs m2
    · obtain ⟨F3, d, hd, x3, ha3, rp⟩ := hY i ad2 F2 H2 m2 x H3 hi x2 ha2 hgd y
      have e := List.drop_eq_getElem_cons hi
      rw [List.getElem?_eq_getElem hi] at hd
      cases hd
      rw [e] at hp2
      unfold dcL at hp2
      rw [if_pos hgd] at hp2
      have xx3 := x2.trans x3
      obtain ⟨d1', d3'⟩ := x3.keep (K := X.K) (m := m2) d1 d3
      have d2' := x3.gn _ _ d2 d1 d3
      refine ⟨.d src.items[i], wipeR r vs, ad2, m2, F3, rp, (he1.ext xx3), ha3, ?_⟩
      cases et : g (.d src.items[i]) (wipeR r vs) m2 with
      | none => rw [et] at hp2; exact hp2
      | some p =>
        obtain ⟨r4, m4⟩ := p
        rw [et] at hp2
        dsimp only at hp2 ⊢
        refine fun s' ad4 F4 H4 y1 y2 y3 y4 y5 => ⟨wipe_eq hsl (by rw [y4, wipe_length]) y5, ?_⟩
        have xx4 := xx3.trans y1
        obtain ⟨d1'', d3''⟩ := y1.keep (K := X.K) (m := m2) d1' d3'
        have d2'' := y1.gn _ _ d2' d1' d3'
        have d4'' := (d4.mono x3.fle).mono y1.fle
        refine ⟨r4, ad4, m4, F4, y3, y2, ?_⟩
        cases eb : ft r4 m4 with
        | bad => rw [eb] at hp2; exact hp2
        | exc c fs m5 => rw [eb] at hp2; exact hp2.elim
        | ok b m5 =>
          rw [eb] at hp2
          refine fun ad5 F5 H5 z1 z2 b' hb' => ?_
          subst hb'
          have xx5 := xx4.trans z1
          obtain ⟨c1, c3⟩ := z1.keep (K := X.K) (m := m2) d1'' d3''
          have c2 := z1.gn _ _ d2'' d1'' d3''
          cases b with
          | false => exact iteF ⟨ad5, m5, F5, acc, ws, xx5, z2, c1, c2, c3, d4''.mono z1.fle, hp2⟩
          | true =>
            dsimp only at hp2
            refine iteT ⟨r4, ad5, m5, F5, y3.ext z1, z2, ?_⟩
            cases ek : fk r4 m5 with
            | bad => rw [ek] at hp2; exact hp2
            | exc c fs m6 => rw [ek] at hp2; exact hp2.elim
            | ok wk' m6 =>
              rw [ek] at hp2
              dsimp only at hp2
              refine fun ad6 F6 H6 u1 u2 kv hkv => ?_
              have xx6 := xx5.trans u1
              obtain ⟨b1, b3⟩ := u1.keep (K := X.K) (m := m2) c1 c3
              have b2 := u1.gn _ _ c2 c1 c3
              refine ⟨r4, ad6, m6, F6, (y3.ext z1).ext u1, u2, ?_⟩
              cases ee : fe r4 m6 with
              | bad => rw [ee] at hp2; exact hp2
              | exc c fs m7 => rw [ee] at hp2; exact hp2.elim
              | ok w m7 =>
                rw [ee] at hp2
                dsimp only at hp2
                refine fun ad7 F7 H7 t1 t2 yv hyv => ?_
                have xx7 := xx6.trans t1
                obtain ⟨g1, g3⟩ := t1.keep (K := X.K) (m := m2) b1 b3
                have g2 := t1.gn _ _ b2 b1 b3
                cases ekw : keyW wk' with
                | none => simp only [ekw] at hp2; exact hp2.elim
                | some key =>
                  cases ef : frz w m7 with
                  | none => simp only [ekw, ef] at hp2; exact hp2.elim
                  | some pr =>
                    obtain ⟨dd, m8⟩ := pr
                    simp only [ekw, ef] at hp2
                    obtain ⟨F8, a8, x8, p8⟩ := frz_w t2 hyv ef
                    have g2' := x8.gn _ _ g2 g1 g3
                    have dA := (((d4''.mono z1.fle).mono u1.fle).mono t1.fle).mono x8.fle
                    by_cases hz : acc.length < sizeLine
                    · rw [if_pos hz] at hp2
                      exact ⟨ws, key, keyW_w hkv ekw, g1, by rw [dA.len]; exact hz, ad7, m8, F8, setK acc key dd, putK ws key yv, (xx7.trans x8).side hD, a8.side g2' g3, upd_same, g2', g3, dA.put p8 key, hp2⟩
                    · rw [if_neg hz] at hp2; exact hp2.elim
    · rw [dcL_grd hgd] at hp2; exact hp2.elim
  · obtain ⟨ad2, m2, F2, acc, ws, x2, ha2, d1, d2, d3, d4, hp2⟩ := p
    rw [List.drop_length] at hp2
    by_cases hgd : grd src.gs m2
    · unfold dcL at hp2
      rw [if_pos hgd] at hp2
      refine hp2 _ _ _ (x2.grow hD) (ha2.grow (c := .dk acc) ⟨d2, ws, d1, d4⟩ d3) _ ⟨Dn, ?_, rfl⟩
      rw [← ha2.len, List.getElem?_append_right (Nat.le_refl _), Nat.sub_self]
      rfl
    · rw [dcL_grd hgd] at hp2; exact hp2.elim
theorem de_dc (hsl : ∀ i ∈ sl, i ∈ vs) {e : Expr} (h : PE X e (tDc (LI X.K Wx f) (LG X.K sl g) (LT X.K W0 ft) (LE X.K W0 fk) (LE X.K W0 fe) vs)) : DE X Wx e (dDc f g ft fk fe vs) := pe_weak h fun s H Q q => dc_w hsl q
end
theorem de_dcX {X : Cx} {Wx : WX} {kx vx tg iter : Expr} {ifs : List Expr} {scope : Scope} {pos : Pos} {f : Fi} {g : Fg} {ft : Ft} {fk fe : Fe} {vs : List Nat} (own : List (Str × Nat)) (sl : List Nat) (hc : X.calm = true) (hN : X.N.Nodup) (hvs : own.map (·.2) = vs) (hsl : ∀ i ∈ sl, i ∈ vs)
    (ok : BlkOk X.N X.env.scope scope own) (hs : ∀ x, foldedSetIterable iter X.env x = pure x) (hi : DI X Wx tg iter f) (hg : ∀ (s : Shared) (H : Hp) (C : Addr) (cl : List (Str × Addr)) (fp : List Addr), DG (X.blk s H scope (compEnvC scope cl C X.env) fp) sl tg g)
    (ht : ∀ (s : Shared) (H : Hp) (C : Addr) (cl : List (Str × Addr)) (fp : List Addr), PTs (X.blk s H scope (compEnvC scope cl C X.env) fp) ifs (LT X.K W0 ft)) (hk : ∀ (s : Shared) (H : Hp) (C : Addr) (cl : List (Str × Addr)) (fp : List Addr), DE (X.blk s H scope (compEnvC scope cl C X.env) fp) W0 kx fk)
    (he : ∀ (s : Shared) (H : Hp) (C : Addr) (cl : List (Str × Addr)) (fp : List Addr), DE (X.blk s H scope (compEnvC scope cl C X.env) fp) W0 vx fe) :
    DE X Wx (.DictComp kx vx [⟨tg, iter, ifs, 0⟩] scope pos) (dDc f g ft fk fe vs) := by
  subst hvs
  exact de_dc hsl (pe_dc hc hN hi ok hg ht hk he hs)
section
variable {X : Cx} {Wx : WX} {i o : Expr} {fy fd : Fe} {pos : Pos}
theorem isT_le {f : Fe} {s : L2.St} {H : Hp} {Q : Bool → Hp → Prop} (q : LT X.K Wx (dIsT f) s H Q) : LE X.K Wx f s H fun x H' => ∃ k, x = .bl k ∧ Q k H' := by
  obtain ⟨r, ad, m, F, he, hA, hp⟩ := q
  refine ⟨r, ad, m, F, he, hA, hp.bind.mono (fun w m1 ad1 F1 H1 e1 a1 q b rb => ?_) fun _ _ _ _ _ _ _ _ z => z⟩
  obtain ⟨_, _, q⟩ := q
  split at q
  · cases rb
    exact ⟨_, rfl, q _ _ _ Ext.refl a1 _ rfl⟩
  · exact q.elim
theorem dt_din (hu : X.A.units + 1 < cLine) (hi : DE X Wx i fy) (ho : DE X Wx o fd) (hm : behindInMarks .In o = false) : DT X Wx (.Compare i [.In] [o] pos) (dIsT (dDIn false fy fd)) :=
  pt_weak (pt_cmp (pc_din hu hi ho) hm) fun s H Q q => din_w (neg := false) (isT_le q) |> fun z => by simpa [tDIn, tB] using z
theorem dt_dnin (hu : X.A.units + 1 < cLine) (hi : DE X Wx i fy) (ho : DE X Wx o fd) (hm : behindInMarks .NotIn o = false) : DT X Wx (.Compare i [.NotIn] [o] pos) (dIsT (dDIn true fy fd)) :=
  pt_weak (pt_cmp (pc_dnotin hu hi ho) hm) fun s H Q q => din_w (neg := true) (isT_le q) |> fun z => by simpa [tDNotIn, tB] using z
end
/-! ### sorted texts -/
def leS (a b : Str) : Bool := !PySem.Spec.ltCps b.cps.toList a.cps.toList
def sortS (xs : List Str) : List Str := xs.mergeSort leS
theorem leS_iff (a b : Str) : leS a b = true ↔ a.cps.toList ≤ b.cps.toList := by
  unfold leS
  rw [ltCps_eq]
  simp [List.not_lt]
theorem leS_trans (a b c : Str) (h1 : leS a b = true) (h2 : leS b c = true) : leS a c = true := by
  rw [leS_iff] at *
  exact List.le_trans h1 h2
theorem leS_total (a b : Str) : (leS a b || leS b a) = true := by
  rw [Bool.or_eq_true, leS_iff, leS_iff]
  exact List.le_total _ _
theorem leS_anti (a b : Str) (h1 : leS a b = true) (h2 : leS b a = true) : a = b := by
  rw [leS_iff] at *
  have := List.le_antisymm h1 h2
  cases a; cases b
  simp only at this
  congr 1
  exact Array.toList_inj.mp this
theorem risingS_pw : ∀ (l : List Str) (p : Str), risingS p l = true → (p :: l).Pairwise fun a b => leS a b = true
  | [], p, _ => List.pairwise_singleton _ _
  | x :: r, p, h => by
    unfold risingS at h
    have h' := Bool.and_eq_true_iff.mp h
    have ih := risingS_pw r x h'.2
    refine List.pairwise_cons.mpr ⟨fun b hb => ?_, ih⟩
    rcases List.mem_cons.mp hb with rfl | hb
    · exact h'.1
    · exact leS_trans _ _ _ h'.1 ((List.pairwise_cons.mp ih).1 b hb)
theorem sortedS_pw {l : List Str} (h : sortedS l = true) : l.Pairwise fun a b => leS a b = true := by
  cases l with
  | nil => exact List.Pairwise.nil
  | cons x r => exact risingS_pw r x h
theorem sortS_the {xs ys : List Str} (hp : ys.Perm xs) (hs : sortedS ys = true) : ys = sortS xs := by
  refine List.Perm.eq_of_pairwise (le := fun a b => leS a b = true) (fun a b _ _ => leS_anti a b) (sortedS_pw hs) ?_ (hp.trans (List.mergeSort_perm _ _).symm)
  exact List.pairwise_mergeSort leS_trans leS_total xs
def gSortS : List W → Sto → Option (List D)
  | [a], m => match datOf a m with
    | some (.list xs) => (match allS xs with | some ss => if ss.length < 64 then some ((sortS ss).map .str) else none | none => none)
    | _ => none
  | _, _ => none
theorem strs_rp {K : PySem.W.Frag} {F : Hp} : ∀ ss : List Str, RpA K F (ss.map V.str) (ss.map PyData.str)
  | [] => .nil
  | s :: ss => .cons (.str s) (strs_rp ss)
theorem cf_sortedS {K : PySem.W.Frag} : CallF K (rSortedS K) gSortS := by
  intro ws z vs ad m F H Q r ha e q
  unfold gSortS at e
  split at e
  · obtain ⟨v, rfl, r1⟩ := r.one
    split at e
    · rename_i xs ed
      split at e
      · rename_i ss es
        split at e
        · rename_i hl
          cases e
          obtain ⟨a, us, rfl, q1, q2⟩ := ha.lst' r1 ed
          have := allS_w q2 es
          subst this
          refine ⟨a, ss, rfl, SqL.of q1, hl, fun ys p hp hs h0 => ?_⟩
          rw [sortS_the hp hs]
          exact q p _ h0 (strs_rp _)
        · cases e
      · cases e
    · cases e
  · cases e
/-- the keys of a dict, in order -/
def keysS : List (Key × D) → Option (List Str)
  | [] => some []
  | (.inr x, _) :: r => (keysS r).map (x :: ·)
  | _ :: _ => none
def gSortD : List W → Sto → Option (List D)
  | [a], m => match dicW a m with
    | some (_, kvs) => (match keysS kvs with | some ss => if ss.length < 64 then some ((sortS ss).map .str) else none | none => none)
    | none => none
  | _, _ => none
theorem keysS_w {K : PySem.W.Frag} {F : Hp} : ∀ {ws : List (Key × V)} {kvs : List (Key × D)} {ss : List Str}, RpKV K F ws kvs → keysS kvs = some ss → ws.map (·.1) = ss.map Sum.inr
  | _, _, ss, .nil, e => by cases e; rfl
  | _, _, ss, .cons (a := p) (b := q) ⟨h1, _⟩ r, e => by
    obtain ⟨k, d⟩ := q
    cases k with
    | inl i => cases e
    | inr x =>
      obtain ⟨cs, h2, rfl⟩ := Option.map_eq_some_iff.mp e
      rw [List.map_cons, List.map_cons, keysS_w r h2, h1]
abbrev rSortedD (K : PySem.W.Frag) : List V → Hp → VK → Prop := fun xs H Q => ∃ (a : Addr) (kvs : List (Key × V)) (ks : List Str), xs = [.ref a] ∧ Rd H a (.dK kvs) ∧ kvs.map (·.1) = ks.map Sum.inr ∧ ks.length < 64 ∧
    ∀ ys p, ys.Perm ks → sortedS ys = true → H p = none → Q (.ref p) (upd H p (.lst (ys.map V.str)))
theorem cf_sortedD {K : PySem.W.Frag} : CallF K (rSortedD K) gSortD := by
  intro ws z vs ad m F H Q r ha e q
  unfold gSortD at e
  split at e
  · obtain ⟨v, rfl, r1⟩ := r.one
    split at e
    · rename_i i kvs ed
      split at e
      · rename_i ss es
        split at e
        · rename_i hl
          cases e
          obtain ⟨a, kws, rfl, rfl, _, _, q1, q2, _⟩ := ha.dic r1 ed
          refine ⟨a, kws, ss, rfl, .inl q1, keysS_w q2 es, hl, fun ys p hp hs h0 => ?_⟩
          rw [sortS_the hp hs]
          exact q p _ h0 (strs_rp _)
        · cases e
      · cases e
    · cases e
  · cases e
end DL

namespace DL
open PySem PySem.Spec PyProof.Rows L2
section
variable {P : Program} {w : World} {K : PySem.W.Frag} {mg : Str → Option Value} {base : Heap}
/-- a def with defaults by its body -/
theorem okDD {dvs : List V} {kws : List (Str × V)} {x qual : Str} {st : Stmt} {f : Addr} {fd : FuncData} {N ps : List Str} {k : Nat} {g : Fs} (F : FunD K x qual (defArgs st) (defBody st) (defScope st) dvs kws f fd) (S : FnScope N ps (defScope st))
    (hb : ∀ (cdv : Value) (A : Around) (outer : List Env) (s : Shared) (H : Hp) (E : XK), Room k (A.deeper (envOfC qual (defScope st) s.heap.objs.size f cdv)) → (A.deeper (envOfC qual (defScope st) s.heap.objs.size f cdv)).guards = some [] →
      DSs (cxOf (L2.CX P w) P w K mg base N qual (defScope st) f cdv A outer s H E) (fun c d _ H => E c d H) (defBody st) g) : FnD P w K mg base (k + 1) f fd ps (runB N.length g) := by
  obtain ⟨oc, od, dV, kV, doc, pm, an, cdv, ct, osl, rfl, lk, hcd, _, _⟩ := F.ex
  refine ⟨fun A outer s H args us ws vs Q E ad m Fz hr hg e0 hbn r hl rw hA hp => ?_⟩
  have kx : K.In s.heap := e0.mod.kin.keeps fun b o e => (e0.bs b o e).1
  have lim : s.heap.NoLimit := e0.mod.nolimit.keeps fun b o e => (e0.bs b o e).1
  have kinds : ∀ y ∈ ps.zip us, (defScope st).names.lookup y.1 = some .local ∨ ((defScope st).names.lookup y.1 = some .cell ∧ ((cellsFrom (s.heap.objs.size + 1) (defScope st).names []).lookup y.1).isSome = true) := by
    rintro ⟨n, v⟩ hy
    have hn : n ∈ ps := (List.of_mem_zip hy).1
    cases S.par n hn with
    | inl q => exact Or.inl q
    | inr q => exact Or.inr ⟨q, PySem.W.cellsFrom_some _ _ _ (Or.inl q)⟩
  refine codeAny_call_function hr.depth (kx _ _ lk) rfl S.co S.gen rfl (PySem.W.codeRec_of kx hcd) (hbn _ _ _ _ ?_)
  refine wpAny_newFunctionEnv_cells S.kind kinds fun env he s1 xx => ?_
  subst he
  refine ⟨lim.keeps xx.toInCall.keep, codeAny_func ?_⟩
  have body := hb cdv A outer s H E (hr.deeper _) hg
  have I := inv_start (CX := L2.CX P w) (E := E) (mg := mg) (base := base) S hr.hd e0 hl r xx
  refine wpAny_mono (body.run [] s1 (L2.start N vs) H { nx := fun _ H' => Q .non H', rt := Q } I ?_) (fun fl s' hs => ?_) fun e s' hs => hs
  · refine ⟨_, ad, m, Fz, envOk_start rw, hA, ?_⟩
    unfold runB at hp
    cases e : g (ws.map some ++ List.replicate (N.length - ws.length) none) m with
    | nx r1 m1 =>
      rw [e] at hp
      exact fun s' ad' F' H' x1 x2 x3 => hp _ _ _ x1 x2 _ Rp.non
    | ret w1 m1 =>
      rw [e] at hp
      exact fun v ad' F' H' x1 x2 x3 => hp _ _ _ x1 x2 _ x3
    | exc c fs r1 m1 =>
      rw [e] at hp
      exact fun s' d ad' F' H' x1 x2 x3 x4 => hp _ _ _ x1 x2 d x4
    | brk r1 m1 => rw [e] at hp; exact hp.elim
    | cnt r1 m1 => rw [e] at hp; exact hp.elim
    | bad => rw [e] at hp; exact hp.elim
  · cases fl with
    | ret u =>
      obtain ⟨v, σ', H', J, rv, q⟩ := hs
      exact ⟨v, H', J.os, J.bare, J.base, J.hok, rv, q⟩
    | next =>
      obtain ⟨σ', H', J, q⟩ := hs
      exact ⟨V.non, H', J.os, J.bare, J.base, J.hok, rfl, q⟩
    | brk => exact (show False from let ⟨_, _, _, q⟩ := hs; q).elim
    | cont => exact (show False from let ⟨_, _, _, q⟩ := hs; q).elim
end
/-- a call that leaves the defaults (dws) out -/
def dCallK (dws : List W) (Fn : List W → Sto → Out W) (fs : Fa) : Fe := fun r m => (fs r m).bind fun ws m1 => Fn (ws ++ dws) m1
section
variable {X : Cx} {Wx : WX} {k : Nat} {f : Addr} {fd : FuncData} {ps : List Str} {Fn : List W → Sto → Out W} {x : Str} {p pos : Pos} {e : Expr} {es : List Expr} {fs : Fa}
theorem de_callK {dws : List W} {dvs : List V} {ds : List Value} (hd : Vals dvs ds) (hdl : dws.length = dvs.length) (hw : ∀ ad F, RWs X.K ad F dws dvs) (hF : FnD X.prog X.w X.K X.mg X.base k f fd ps Fn) (hr : Room k X.A) (hg : X.A.guards = some []) (tk : Takes X Wx) (hgl : Gl X x) (hm : X.mg x = some (.ref f)) (hk : PySem.W.keepIn X.K (.ref f) = true) (hb : Binds X.K fd ps ds)
    (hn : (e :: es).length + dws.length = ps.length) (ha : DA X Wx (e :: es) fs) (hfs : ∀ r m ws m1, fs r m = .ok ws m1 → ws.length = (e :: es).length) (hdb : (x == ("__debug__" : Str)) = false := by decide) (he : starEach (e :: es) X.env = (false, eval e X.env) :: starEach es X.env := by rfl)
    (hpl : (backTo pos (starEach es X.env)).any (·.1) = false := by rfl) : DE X Wx (.Call (.Name x p) (e :: es) [] pos) (dCallK dws Fn fs) := by
  refine ⟨fun pins s σ H Q I h => ?_⟩
  obtain ⟨r, ad, m, F, hE, hA, hp⟩ := h
  refine wpAny_Call_Name_kw (ld_glob I hgl hm ?_ hdb)
  have step : LA X.K Wx fs σ H fun vs H1 => (vs ++ dvs).length = ps.length ∧ ∃ ws ad1 m1 F1, RWs X.K ad1 F1 ws vs ∧ At X.K ad1 m1 F1 H1 ∧ Post X.K ad1 F1 H1 (Fn (ws ++ dws) m1) (fun a _ ad' F' H' => ∀ b, RW X.K ad' F' a b → Q b H') (XP X.K Wx σ) := by
    refine ⟨r, ad, m, F, hE, hA, ?_⟩
    unfold dCallK at hp
    cases ef : fs r m with
    | bad => rw [ef] at hp; exact hp
    | exc c l m1 => rw [ef] at hp; exact hp
    | ok ws m1 =>
      rw [ef] at hp
      refine fun ad1 F1 H1 x1 x2 vs rv => ⟨by rw [List.length_append, ← RWs.len rv, hfs _ _ _ _ ef, ← hdl, hn], ws, ad1, m1, F1, rv, x2, Post.ext (o := Fn (ws ++ dws) m1) hp x1⟩
  refine PySem.W.callWith_K (h₀ := X.base) I.ok.mod.kin hk (thn (ha.run pos pins s σ H _ I step) fun us s1 ⟨vs, H1, I1, rv, hl, ws, ad1, m1, F1, rw1, a1, hp1⟩ => ⟨I1.kIn, ?_⟩) he hpl
  exact run_D hF hr hg tk hb hd hw hl I1 rv rw1 a1 hp1
end
/-- a def that may be called without its last parameters -/
structure DfK (P : Program) (w : World) (K : PySem.W.Frag) (mg : Str → Option Value) (base : Heap) (x : Str) (k : Nat) (ps : List Str) (Fn : List W → Sto → Out W) (dws : List W) : Prop where
  ex : ∃ f fd dvs ds, mg x = some (.ref f) ∧ PySem.W.keepIn K (.ref f) = true ∧ Vals dvs ds ∧ dws.length = dvs.length ∧ (∀ ad F, RWs K ad F dws dvs) ∧ Binds K fd ps ds ∧ FnD P w K mg base k f fd ps Fn
theorem DfK.mono {P : Program} {w : World} {K : PySem.W.Frag} {mg : Str → Option Value} {base : Heap} {x : Str} {j k : Nat} {ps : List Str} {Fn : List W → Sto → Out W} {dws : List W} (h : DfK P w K mg base x j ps Fn dws) (q : j ≤ k) : DfK P w K mg base x k ps Fn dws := by
  obtain ⟨f, fd, dvs, ds, h1, h2, h3, h4, h5, h6, h7⟩ := h.ex
  exact ⟨f, fd, dvs, ds, h1, h2, h3, h4, h5, h6, h7.mono q⟩
theorem de_callDK {X : Cx} {Wx : WX} {k : Nat} {ps : List Str} {Fn : List W → Sto → Out W} {dws : List W} {x : Str} {p pos : Pos} {e : Expr} {es : List Expr} {fs : Fa} (D : DfK X.prog X.w X.K X.mg X.base x k ps Fn dws) (hr : Room k X.A) (hg : X.A.guards = some []) (tk : Takes X Wx) (hgl : Gl X x)
    (hn : (e :: es).length + dws.length = ps.length) (ha : DA X Wx (e :: es) fs) (hfs : ∀ r m ws m1, fs r m = .ok ws m1 → ws.length = (e :: es).length) (hdb : (x == ("__debug__" : Str)) = false := by decide) (he : starEach (e :: es) X.env = (false, eval e X.env) :: starEach es X.env := by rfl)
    (hpl : (backTo pos (starEach es X.env)).any (·.1) = false := by rfl) : DE X Wx (.Call (.Name x p) (e :: es) [] pos) (dCallK dws Fn fs) := by
  obtain ⟨f, fd, dvs, ds, h1, h2, h3, h4, h5, h6, h7⟩ := D.ex
  exact de_callK h3 h4 h5 h7 hr hg tk hgl h1 h2 h6 hn ha hfs hdb he hpl
end DL

namespace DL
open PySem PySem.Spec PyProof.Rows L2
/-- a call whose last argument is named -/
def dCallW (Fn : List W → Sto → Out W) (fs : Fa) (fk : Fe) : Fe := fun r m => (fs r m).bind fun ws m1 => (fk r m1).bind fun w m2 => Fn (ws ++ [w]) m2
section
variable {X : Cx} {Wx : WX} {k n : Nat} {f : Addr} {fd : FuncData} {ps : List Str} {Fn : List W → Sto → Out W} {x nm : Str} {p pos kpos : Pos} {e v : Expr} {es : List Expr} {fs : Fa} {fk : Fe}
theorem rws_app {K : PySem.W.Frag} {ad : List Addr} {F : Hp} {b : List W} {d : List V} (h2 : RWs K ad F b d) : ∀ {a : List W} {c : List V}, RWs K ad F a c → RWs K ad F (a ++ b) (c ++ d) := by
  intro a
  induction a with
  | nil => intro c h; cases h; exact h2
  | cons y ys ih => intro c h; cases h with | cons q t => exact .cons q (ih t)
theorem run_W (hF : FnD X.prog X.w X.K X.mg X.base k f fd ps Fn) (hr : Room k X.A) (hg : X.A.guards = some []) (tk : Takes X Wx) (hb : KBn X.K fd ps n [nm] (fun us ws => us ++ ws) (fun vs zs => vs ++ zs))
    {pins : List (Addr × Obj)} {σ : L2.St} {H : Hp} {s : Shared} {Q : VK} {us zs' : List Value} {vs zs : List V} {ws : List W} {ad : List Addr} {m : Sto} {F : Hp}
    (hl : (vs ++ zs).length = ps.length) (l1 : vs.length = n) (l2 : zs.length = 1) (I : Inv X pins σ H s) (r : Vals vs us) (rz : Vals zs zs') (rw : RWs X.K ad F ws (vs ++ zs)) (hA : At X.K ad m F H) (hp : Post X.K ad F H (Fn ws m) (fun a _ ad' F' H' => ∀ b, RW X.K ad' F' a b → Q b H') (XP X.K Wx σ)) :
    wpAny (model X.prog X.w) X.A (call (.ref f) us ([nm].zip zs')) (EP X pins σ Q) X.xe s := by
  have r2 : Vals (vs ++ zs) (us ++ zs') := r.append rz
  refine wpAny_call (codeAny_mono (hF.run X.A X.stack s H ⟨us, [nm].zip zs'⟩ (us ++ zs') ws (vs ++ zs) Q (fun c d H' => Wx c d σ H') ad m F hr hg I.env0 (hb.to s us zs' I.kIn (r.length.symm.trans l1) (rz.length.symm.trans l2)) r2 hl rw hA hp) fun res s' hq => ?_)
  cases res with
  | error ex => exact tk ex s' (XE.of_call I (fun _ _ _ q => q) hq)
  | ok fl =>
    cases fl with
    | ret u => exact I.after hq
    | next => exact (show False from hq).elim
    | brk => exact (show False from hq).elim
    | cont => exact (show False from hq).elim
theorem de_callKW (hF : FnD X.prog X.w X.K X.mg X.base k f fd ps Fn) (hr : Room k X.A) (hg : X.A.guards = some []) (tk : Takes X Wx) (hgl : Gl X x) (hm : X.mg x = some (.ref f)) (hk : PySem.W.keepIn X.K (.ref f) = true)
    (hb : KBn X.K fd ps n [nm] (fun us ws => us ++ ws) (fun vs zs => vs ++ zs)) (hn : (e :: es).length = n) (hnp : n + 1 = ps.length) (ha : DA X Wx (e :: es) fs) (hfs : ∀ r m ws m1, fs r m = .ok ws m1 → ws.length = (e :: es).length) (hv : DE X Wx v fk)
    (hall : (backToKw pos (keywordEach [⟨some nm, v, kpos⟩] X.env)).all (·.1.isSome) = true := by rfl) (hks : (backToKw pos (keywordEach [⟨some nm, v, kpos⟩] X.env)).filterMap (·.1) = [nm] := by rfl)
    (hdb : (x == ("__debug__" : Str)) = false := by decide) (he : starEach (e :: es) X.env = (false, eval e X.env) :: starEach es X.env := by rfl)
    (hpl : ((backTo pos (starEach (e :: es) X.env)).any (·.1) || (backToKw pos (keywordEach [⟨some nm, v, kpos⟩] X.env)).any (·.1.isNone)) = false := by rfl) :
    DE X Wx (.Call (.Name x p) (e :: es) [⟨some nm, v, kpos⟩] pos) (dCallW Fn fs fk) := by
  refine ⟨fun pins s σ H Q I h => ?_⟩
  obtain ⟨r, ad, m, F, hE, hA, hp⟩ := h
  refine wpAny_Call_Name_kw (ld_glob I hgl hm ?_ hdb)
  have hkw : PK X [⟨some nm, v, kpos⟩] (tCons (LE X.K Wx fk) tNil) := pk_cons hv pk_nil
  have step : LA X.K Wx fs σ H fun vs H1 => tCons (LE X.K Wx fk) tNil σ H1 fun zs H2 => vs.length = n ∧ zs.length = 1 ∧ ∃ ws ad2 m2 F2, RWs X.K ad2 F2 ws (vs ++ zs) ∧ At X.K ad2 m2 F2 H2 ∧ Post X.K ad2 F2 H2 (Fn ws m2) (fun a _ ad' F' H' => ∀ b, RW X.K ad' F' a b → Q b H') (XP X.K Wx σ) := by
    refine ⟨r, ad, m, F, hE, hA, ?_⟩
    unfold dCallW at hp
    cases ef : fs r m with
    | bad => rw [ef] at hp; exact hp
    | exc c l m1 => rw [ef] at hp; exact hp
    | ok ws m1 =>
      rw [ef] at hp
      refine fun ad1 F1 H1 e1 ha1 vs rw1 => ?_
      have h1 := Post.ext (o := (fk r m1).bind fun w m2 => Fn (ws ++ [w]) m2) hp e1
      have he1 := EnvOk.ext e1 hE
      refine ⟨r, ad1, m1, F1, he1, ha1, Post.mono (Post.bind h1) (fun w m2 ad2 F2 H2 e2 ha2 q0 z rw2 => ?_) fun _ _ _ _ _ _ _ _ z => z⟩
      obtain ⟨_, _, h2⟩ := q0
      exact ⟨by rw [← RWs.len rw1, hfs _ _ _ _ ef, hn], rfl, ws ++ [w], ad2, m2, F2, rws_app (.cons rw2 .nil) (rw1.ext e2), ha2, h2⟩
  refine PySem.W.callWith_KW (h₀ := X.base) I.ok.mod.kin hk hall (thn (ha.run pos pins s σ H _ I step) fun us s1 ⟨vs, H1, I1, rv, q1⟩ => ?_) hpl he
  refine thn (hkw.run pos pins s1 σ H1 _ I1 q1) fun zs' s2 ⟨zs, H2, I2, rz, l1, l2, ws, ad2, m2, F2, rw2, a2, p2⟩ => ⟨I2.kIn, ?_⟩
  rw [hks]
  exact run_W hF hr hg tk hb (by rw [List.length_append, l1, l2, hnp]) l1 l2 I2 rv rz rw2 a2 p2
end
theorem kbn0 {K : PySem.W.Frag} {x qual : Str} {params : Arguments} {body : List Stmt} {scope : Scope} {kws : List (Str × V)} {f : Addr} {fd : FuncData} {ps ks : List Str} {n : Nat} (F : FunD K x qual params body scope [] kws f fd)
    (h : ∀ (kV doc pm : Value) (an : Option Addr) (cdv ct : Value) (us ws : List Value), us.length = n → ws.length = ks.length → bindArgs (PySem.W.fnOf x qual params body scope .none kV doc pm an cdv ct) ⟨us, ks.zip ws⟩ = pure (ps.zip (us ++ ws))) : KBn K fd ps n ks (fun us ws => us ++ ws) (fun vs zs => vs ++ zs) := by
  obtain ⟨oc, od, dV, kV, doc, pm, an, cdv, ct, osl, rfl, lk, hcd, hD, hK⟩ := F.ex
  rcases hD with ⟨_, rfl⟩ | ⟨e, _⟩
  · exact ⟨fun s us ws _ l1 l2 => .of_eq (h kV doc pm an cdv ct us ws l1 l2), fun r1 r2 => r1.append r2⟩
  · exact absurd rfl e
/-- a def with one parameter behind that may be left out, or named -/
structure DfW (P : Program) (w : World) (K : PySem.W.Frag) (mg : Str → Option Value) (base : Heap) (x : Str) (k : Nat) (ps : List Str) (Fn : List W → Sto → Out W) (dws : List W) (nm : Str) : Prop where
  ex : ∃ f fd dvs ds, mg x = some (.ref f) ∧ PySem.W.keepIn K (.ref f) = true ∧ Vals dvs ds ∧ dws.length = dvs.length ∧ (∀ ad F, RWs K ad F dws dvs) ∧ Binds K fd ps ds ∧ KBn K fd ps (ps.length - 1) [nm] (fun us ws => us ++ ws) (fun vs zs => vs ++ zs) ∧ FnD P w K mg base k f fd ps Fn
theorem DfW.mono {P : Program} {w : World} {K : PySem.W.Frag} {mg : Str → Option Value} {base : Heap} {x nm : Str} {j k : Nat} {ps : List Str} {Fn : List W → Sto → Out W} {dws : List W} (h : DfW P w K mg base x j ps Fn dws nm) (q : j ≤ k) : DfW P w K mg base x k ps Fn dws nm := by
  obtain ⟨f, fd, dvs, ds, h1, h2, h3, h4, h5, h6, h7, h8⟩ := h.ex
  exact ⟨f, fd, dvs, ds, h1, h2, h3, h4, h5, h6, h7, h8.mono q⟩
theorem DfW.toK {P : Program} {w : World} {K : PySem.W.Frag} {mg : Str → Option Value} {base : Heap} {x nm : Str} {k : Nat} {ps : List Str} {Fn : List W → Sto → Out W} {dws : List W} (h : DfW P w K mg base x k ps Fn dws nm) : DfK P w K mg base x k ps Fn dws := by
  obtain ⟨f, fd, dvs, ds, h1, h2, h3, h4, h5, h6, h7, h8⟩ := h.ex
  exact ⟨f, fd, dvs, ds, h1, h2, h3, h4, h5, h6, h8⟩
theorem de_callDW {X : Cx} {Wx : WX} {k : Nat} {ps : List Str} {Fn : List W → Sto → Out W} {dws : List W} {x nm : Str} {p pos kpos : Pos} {e v : Expr} {es : List Expr} {fs : Fa} {fk : Fe} (D : DfW X.prog X.w X.K X.mg X.base x k ps Fn dws nm) (hr : Room k X.A) (hg : X.A.guards = some []) (tk : Takes X Wx) (hgl : Gl X x)
    (hn : (e :: es).length + 1 = ps.length) (ha : DA X Wx (e :: es) fs) (hfs : ∀ r m ws m1, fs r m = .ok ws m1 → ws.length = (e :: es).length) (hv : DE X Wx v fk)
    (hall : (backToKw pos (keywordEach [⟨some nm, v, kpos⟩] X.env)).all (·.1.isSome) = true := by rfl) (hks : (backToKw pos (keywordEach [⟨some nm, v, kpos⟩] X.env)).filterMap (·.1) = [nm] := by rfl)
    (hdb : (x == ("__debug__" : Str)) = false := by decide) (he : starEach (e :: es) X.env = (false, eval e X.env) :: starEach es X.env := by rfl)
    (hpl : ((backTo pos (starEach (e :: es) X.env)).any (·.1) || (backToKw pos (keywordEach [⟨some nm, v, kpos⟩] X.env)).any (·.1.isNone)) = false := by rfl) :
    DE X Wx (.Call (.Name x p) (e :: es) [⟨some nm, v, kpos⟩] pos) (dCallW Fn fs fk) := by
  obtain ⟨f, fd, dvs, ds, h1, h2, h3, h4, h5, h6, h7, h8⟩ := D.ex
  exact de_callKW h8 hr hg tk hgl h1 h2 h7 (by omega) (by omega) ha hfs hv hall hks hdb he hpl
end DL

namespace DL
open PySem PySem.Spec PyProof.Rows L2
/-- a statement that is never reached -/
def sBad : Fs := fun _ _ => .bad
theorem ds_dead {X : Cx} {Wx : WX} {st : Stmt} : DS X Wx st sBad := ⟨fun _ _ _ _ _ _ q => by
  obtain ⟨_, _, _, _, _, _, hp⟩ := q
  exact hp.elim⟩
/-- truths: is not -/
theorem op_notB {X : Cx} : OpR X (compareOp .IsNot) (fun x y H Q => ∃ a b, x = .bl a ∧ y = .bl b ∧ Q (.bl (a != b)) H) := by
  intro pins s σ H x y v u Q I rx ry h
  obtain ⟨a, b, rfl, rfl, q⟩ := h
  cases rx; cases ry
  exact wpAny_of_eq (a := Value.bool (a != b)) (by cases a <;> cases b <;> rfl) (fin_bl I q rfl)
def gNotB : W → W → Sto → Option W
  | .d (.bool a), .d (.bool b), _ => some (.d (.bool (a != b)))
  | _, _, _ => none
theorem od_notB {K : PySem.W.Frag} : OpD K (fun x y H Q => ∃ a b, x = .bl a ∧ y = .bl b ∧ Q (.bl (a != b)) H) gNotB := by
  intro x y z u v ad m F H Q rx ry ha e q
  unfold gNotB at e
  split at e
  · cases e; cases rx; cases ry
    exact ⟨_, _, rfl, rfl, q _ F H Ext.refl ha (.bl _)⟩
  · cases e
end DL

/-! DT: the meanings reckoned step by step: what names hold (V), what cells hold (G). -/
namespace DL
open PySem L2 PyProof.Rows
abbrev Sg := List (Nat × Cell)
structure EnM (m0 : Sto) (S : List Nat) (G : Sg) (m : Sto) : Prop where
  cel : ∀ (i : Nat) a c, G[i]? = some (a, c) → m[a]? = some c
  nd : (G.map (·.1)).Nodup
  loc : ∀ (i : Nat) a c, G[i]? = some (a, c) → a ∈ S ∨ m0.length ≤ a
  le : m0.length ≤ m.length
  fr : ∀ a, a < m0.length → a ∉ S → m[a]? = m0[a]?
structure EnV (V r : Rho) : Prop where
  len : V.length = r.length
  var : ∀ (i : Nat) w, V[i]? = some (some w) → r[i]? = some (some w)
abbrev Has (G : Sg) (i a : Nat) (c : Cell) : Prop := G[i]? = some (a, c)
abbrev XK' := Value → List (Str × D) → Sg → Prop
def J {α : Type} (V : Rho) (G : Sg) (o : Rho → Sto → Out α) (K : α → Sg → Prop) (X : XK') : Prop :=
  ∀ m0 S r m, EnV V r → EnM m0 S G m → (∃ a m' G', o r m = .ok a m' ∧ EnM m0 S G' m' ∧ K a G') ∨ ∃ c fs m' G', o r m = .exc c fs m' ∧ EnM m0 S G' m' ∧ X c fs G'
def JO {α : Type} (G : Sg) (h : Sto → Option α) (K : α → Prop) : Prop := ∀ m0 S m, EnM m0 S G m → ∃ w, h m = some w ∧ K w
/-- what changes the store -/
def JU {α : Type} (G : Sg) (h : Sto → Option (α × Sto)) (K : α → Sg → Prop) : Prop := ∀ m0 S m, EnM m0 S G m → ∃ w m' G', h m = some (w, m') ∧ EnM m0 S G' m' ∧ K w G'
def JC (G : Sg) (F : List W → Sto → Out W) (ws : List W) (K : W → Sg → Prop) (X : XK') : Prop :=
  ∀ m0 S m, EnM m0 S G m → (∃ a m' G', F ws m = .ok a m' ∧ EnM m0 S G' m' ∧ K a G') ∨ ∃ c fs m' G', F ws m = .exc c fs m' ∧ EnM m0 S G' m' ∧ X c fs G'
inductive OA where
  | nx (V : Rho) (G : Sg)
  | ret (w : W) (G : Sg)
  | brk (V : Rho) (G : Sg)
  | cnt (V : Rho) (G : Sg)
  | exc (c : Value) (fs : List (Str × D)) (V : Rho) (G : Sg)
def RelS (m0 : Sto) (S : List Nat) (o : OutS) : OA → Prop
  | .nx V G => ∃ r m, o = .nx r m ∧ EnV V r ∧ EnM m0 S G m
  | .ret w G => ∃ m, o = .ret w m ∧ EnM m0 S G m
  | .brk V G => ∃ r m, o = .brk r m ∧ EnV V r ∧ EnM m0 S G m
  | .cnt V G => ∃ r m, o = .cnt r m ∧ EnV V r ∧ EnM m0 S G m
  | .exc c fs V G => ∃ r m, o = .exc c fs r m ∧ EnV V r ∧ EnM m0 S G m
def JS (V : Rho) (G : Sg) (s : Fs) (Q : OA → Prop) : Prop := ∀ m0 S r m, EnV V r → EnM m0 S G m → ∃ a, RelS m0 S (s r m) a ∧ Q a
def JG (V : Rho) (G : Sg) (tg : Fg) (w : W) (K : Rho → Sg → Prop) : Prop := ∀ m0 S r m, EnV V r → EnM m0 S G m → ∃ r2 m2 V2 G2, tg w r m = some (r2, m2) ∧ EnV V2 r2 ∧ EnM m0 S G2 m2 ∧ K V2 G2
def JGs (V : Rho) (G : Sg) (tg : List W → Rho → Sto → Option (Rho × Sto)) (w : List W) (K : Rho → Sg → Prop) : Prop := ∀ m0 S r m, EnV V r → EnM m0 S G m → ∃ r2 m2 V2 G2, tg w r m = some (r2, m2) ∧ EnV V2 r2 ∧ EnM m0 S G2 m2 ∧ K V2 G2
section
variable {m0 m : Sto} {S : List Nat} {G : Sg} {V r : Rho}
theorem EnV.set (h : EnV V r) (i : Nat) (w : W) : EnV (V.set i (some w)) (r.set i (some w)) := by
  refine ⟨by simp [h.len], fun j u e => ?_⟩
  by_cases hj : i = j
  · subst hj
    have hl : i < V.length := by
      have := (List.getElem?_eq_some_iff.mp e).1
      simpa using this
    rw [List.getElem?_set_self hl] at e
    rw [List.getElem?_set_self (by rw [← h.len]; exact hl)]
    exact e
  · rw [List.getElem?_set_ne hj] at e ⊢
    exact h.var j u e
theorem EnV.wipe (h : EnV V r) : ∀ vs : List Nat, EnV (wipeR V vs) (wipeR r vs)
  | [] => h
  | i :: is => by
    have q := EnV.wipe h is
    refine ⟨by simp [wipeR, q.len], fun j u e => ?_⟩
    simp only [wipeR] at e ⊢
    by_cases hj : i = j
    · subst hj
      have hl : i < (wipeR V is).length := by
        have := (List.getElem?_eq_some_iff.mp e).1
        simpa using this
      rw [List.getElem?_set_self hl] at e
      cases e
    · rw [List.getElem?_set_ne hj] at e ⊢
      exact q.var j u e
theorem EnV.forget (h : EnV V r) : ∀ vs : List Nat, EnV (wipeR V vs) r
  | [] => h
  | i :: is => by
    have q := EnV.forget h is
    refine ⟨by simp [wipeR, q.len], fun j u e => ?_⟩
    simp only [wipeR] at e
    by_cases hj : i = j
    · subst hj
      have hl : i < (wipeR V is).length := by
        have := (List.getElem?_eq_some_iff.mp e).1
        simpa using this
      rw [List.getElem?_set_self hl] at e
      cases e
    · rw [List.getElem?_set_ne hj] at e
      exact q.var j u e
theorem EnM.write (h : EnM m0 S G m) {i a : Nat} {c : Cell} (e : G[i]? = some (a, c)) (c' : Cell) : EnM m0 S (G.set i (a, c')) (m.set a c') := by
  have hi : i < G.length := (List.getElem?_eq_some_iff.mp e).1
  have hm := h.cel i a c e
  have ha : a < m.length := (List.getElem?_eq_some_iff.mp hm).1
  have hmap : (G.set i (a, c')).map (·.1) = G.map (·.1) := by
    rw [List.map_set]
    apply List.ext_getElem?
    intro j
    by_cases hj : i = j
    · subst hj
      rw [List.getElem?_set_self (by simpa using hi), List.getElem?_map, e]; rfl
    · rw [List.getElem?_set_ne hj]
  refine ⟨fun j b d q => ?_, by rw [hmap]; exact h.nd, fun j b d q => ?_, by simpa using h.le, fun b hb hs => ?_⟩
  · by_cases hj : i = j
    · subst hj
      rw [List.getElem?_set_self hi] at q
      cases q
      rw [List.getElem?_set_self ha]
    · rw [List.getElem?_set_ne hj] at q
      have hne : a ≠ b := fun z => by
        have h1 : (G.map (·.1))[i]? = some a := by rw [List.getElem?_map, e]; rfl
        have h2 : (G.map (·.1))[j]? = some b := by rw [List.getElem?_map, q]; rfl
        exact hj (by
          obtain ⟨p1, e1⟩ := List.getElem?_eq_some_iff.mp h1
          obtain ⟨p2, e2⟩ := List.getElem?_eq_some_iff.mp h2
          exact (List.getElem_inj h.nd).mp (by rw [e1, e2, z]))
      rw [List.getElem?_set_ne hne]
      exact h.cel j b d q
  · by_cases hj : i = j
    · subst hj
      rw [List.getElem?_set_self hi] at q
      cases q
      exact h.loc i a c e
    · rw [List.getElem?_set_ne hj] at q
      exact h.loc j b d q
  · have hne : a ≠ b := fun z => by
      subst z
      rcases h.loc i a c e with q | q
      · exact hs q
      · omega
    rw [List.getElem?_set_ne hne]
    exact h.fr b hb hs
theorem EnM.alloc (h : EnM m0 S G m) (c : Cell) : EnM m0 S (G ++ [(m.length, c)]) (m ++ [c]) := by
  have hlt : ∀ (i : Nat) a d, G[i]? = some (a, d) → a < m.length := fun i a d q => (List.getElem?_eq_some_iff.mp (h.cel i a d q)).1
  refine ⟨fun j b d q => ?_, ?_, fun j b d q => ?_, by simpa using Nat.le_succ_of_le h.le, fun b hb hs => ?_⟩
  · by_cases hj : j < G.length
    · rw [List.getElem?_append_left hj] at q
      rw [List.getElem?_append_left (hlt j b d q)]
      exact h.cel j b d q
    · have hj2 : j = G.length := by
        have := (List.getElem?_eq_some_iff.mp q).1
        simp at this; omega
      subst hj2
      rw [List.getElem?_append_right (Nat.le_refl _), Nat.sub_self] at q
      cases q
      rw [List.getElem?_append_right (Nat.le_refl _), Nat.sub_self]; rfl
  · rw [List.map_append, List.nodup_append]
    refine ⟨h.nd, by simp, fun x hx y hy => ?_⟩
    have hy' : y = m.length := by simpa using hy
    obtain ⟨⟨a, d⟩, hp, rfl⟩ := List.mem_map.mp hx
    obtain ⟨i, hi⟩ := List.getElem?_of_mem hp
    have := hlt i a d hi
    simp only; omega
  · by_cases hj : j < G.length
    · rw [List.getElem?_append_left hj] at q
      exact h.loc j b d q
    · have hj2 : j = G.length := by
        have := (List.getElem?_eq_some_iff.mp q).1
        simp at this; omega
      subst hj2
      rw [List.getElem?_append_right (Nat.le_refl _), Nat.sub_self] at q
      cases q
      exact .inr h.le
  · rw [List.getElem?_append_left (by have := h.le; omega)]
    exact h.fr b hb hs
theorem EnM.take (h : EnM m0 S G m) (n : Nat) : EnM m0 S (G.take n) m := by
  have e : ∀ (i : Nat) p, (G.take n)[i]? = some p → G[i]? = some p := fun i p q => by
    rw [List.getElem?_take] at q
    split at q
    · exact q
    · cases q
  refine ⟨fun i a c q => h.cel i a c (e i _ q), ?_, fun i a c q => h.loc i a c (e i _ q), h.le, h.fr⟩
  rw [List.map_take]
  exact h.nd.sublist (List.take_sublist _ _)
theorem EnM.sub {G' : Sg} (h : EnM m0 S G m) (hs : G'.Sublist G) : EnM m0 S G' m := by
  have e : ∀ (i : Nat) p, G'[i]? = some p → ∃ j, G[j]? = some p := fun i p q => List.getElem?_of_mem (hs.mem (List.mem_of_getElem? q))
  refine ⟨fun i a c q => ?_, h.nd.sublist (hs.map _), fun i a c q => ?_, h.le, h.fr⟩
  · obtain ⟨j, hj⟩ := e i _ q; exact h.cel j a c hj
  · obtain ⟨j, hj⟩ := e i _ q; exact h.loc j a c hj
theorem EnM.take' (h : EnM m0 S G m) {n : Nat} {G' : Sg} (e : G.take n = G') : EnM m0 S G' m := e ▸ h.take n
end

/-! ### readings -/
section
variable {V : Rho} {G : Sg} {f f' f2 : Fe} {t t' : Ft} {fa : Fa} {K : W → Sg → Prop} {KB : Bool → Sg → Prop} {X : XK'}
theorem J.bind {α β : Type} {o : Rho → Sto → Out α} {g : α → Rho → Sto → Out β} {K : β → Sg → Prop} (h : J V G o (fun a G1 => J V G1 (g a) K X) X) : J V G (fun r m => (o r m).bind fun a m1 => g a r m1) K X := by
  intro m0 S r m hv hm
  rcases h m0 S r m hv hm with ⟨a, m1, G1, e, h1, h2⟩ | ⟨c, fs, m1, G1, e, h1, h2⟩
  · simp only [e, Out.bind_ok]
    exact h2 m0 S r m1 hv h1
  · exact .inr ⟨c, fs, m1, G1, by simp only [e, Out.bind_exc], h1, h2⟩
theorem J.mono {α : Type} {o : Rho → Sto → Out α} {K K' : α → Sg → Prop} (h : J V G o K X) (hk : ∀ a G1, K a G1 → K' a G1) : J V G o K' X := by
  intro m0 S r m hv hm
  rcases h m0 S r m hv hm with ⟨a, m1, G1, e, h1, h2⟩ | h
  · exact .inl ⟨a, m1, G1, e, h1, hk _ _ h2⟩
  · exact .inr h
theorem J.opt {α : Type} {h : Sto → Option α} {K : α → Sg → Prop} (q : JO G h fun w => K w G) : J V G (fun _ m => .opt (h m) m) K X := by
  intro m0 S r m hv hm
  obtain ⟨w, e, k⟩ := q m0 S m hm
  exact .inl ⟨w, m, G, by simp only [e, Out.opt_some], hm, k⟩
theorem J.ok {α : Type} {a : α} {K : α → Sg → Prop} (k : K a G) : J V G (fun _ m => .ok a m) K X := fun m0 S r m _ hm => .inl ⟨a, m, G, rfl, hm, k⟩
theorem J_var {i : Nat} {w : W} (e : V[i]? = some (some w)) (k : K w G) : J V G (dVar i) K X := by
  intro m0 S r m hv hm
  refine .inl ⟨w, m, G, ?_, hm, k⟩
  simp only [e_var, hv.var i w e]
theorem J_c {x : D} (k : K (.d x) G) : J V G (dC x) K X := J.ok k
theorem J_bin {g : W → W → Sto → Option W} (h : J V G f (fun x G1 => J V G1 f' (fun y G2 => JO G2 (g x y) fun w => K w G2) X) X) : J V G (dBin g f f') K X :=
  J.bind (h.mono fun _ _ h1 => J.bind (h1.mono fun _ _ h2 => J.opt h2))
theorem J_tru (h : J V G f (fun x G1 => JO G1 (tru x) fun b => KB b G1) X) : J V G (dTru f) KB X := J.bind (h.mono fun _ _ h1 => J.opt h1)
theorem J_isT (h : J V G f (fun x G1 => ∃ b, x = .d (.bool b) ∧ KB b G1) X) : J V G (dIsT f) KB X :=
  J.bind (h.mono fun x G1 h1 => by obtain ⟨b, rfl, k⟩ := h1; exact J.ok k)
theorem J_notT (h : J V G t (fun b G1 => KB (!b) G1) X) : J V G (dNotT t) KB X := J.bind (h.mono fun _ _ h1 => J.ok h1)
theorem J_andT (h : J V G t (fun b G1 => (b = true → J V G1 t' KB X) ∧ (b = false → KB false G1)) X) : J V G (dAndT t t') KB X :=
  J.bind (h.mono fun b G1 h1 => by
    cases b with
    | true => exact h1.1 rfl
    | false => exact J.ok (h1.2 rfl))
theorem J_orT (h : J V G t (fun b G1 => (b = true → KB true G1) ∧ (b = false → J V G1 t' KB X)) X) : J V G (dOrT t t') KB X :=
  J.bind (h.mono fun b G1 h1 => by
    cases b with
    | false => exact h1.2 rfl
    | true => exact J.ok (h1.1 rfl))
theorem J_if (h : J V G t (fun b G1 => (b = true → J V G1 f K X) ∧ (b = false → J V G1 f' K X)) X) : J V G (dIf t f f') K X :=
  J.bind (h.mono fun b G1 h1 => by
    cases b with
    | true => exact h1.1 rfl
    | false => exact h1.2 rfl)
theorem J_and (h : J V G f (fun w G1 => JO G1 (tru w) fun b => (b = true → J V G1 f' K X) ∧ (b = false → K w G1)) X) : J V G (dAnd f f') K X :=
  J.bind (h.mono fun w G1 h1 => by
    intro m0 S r m hv hm
    obtain ⟨b, e, k⟩ := h1 m0 S m hm
    cases b with
    | true => simp only [e]; exact k.1 rfl m0 S r m hv hm
    | false => simp only [e]; exact .inl ⟨w, m, G1, rfl, hm, k.2 rfl⟩)
theorem J_or (h : J V G f (fun w G1 => JO G1 (tru w) fun b => (b = true → K w G1) ∧ (b = false → J V G1 f' K X)) X) : J V G (dOr f f') K X :=
  J.bind (h.mono fun w G1 h1 => by
    intro m0 S r m hv hm
    obtain ⟨b, e, k⟩ := h1 m0 S m hm
    cases b with
    | false => simp only [e]; exact k.2 rfl m0 S r m hv hm
    | true => simp only [e]; exact .inl ⟨w, m, G1, rfl, hm, k.1 rfl⟩)
theorem J_not (h : J V G f (fun w G1 => JO G1 (tru w) fun b => K (.d (.bool (!b))) G1) X) : J V G (dNot f) K X :=
  J.bind (h.mono fun w G1 h1 => by
    intro m0 S r m hv hm
    obtain ⟨b, e, k⟩ := h1 m0 S m hm
    simp only [e]
    exact .inl ⟨_, m, G1, rfl, hm, k⟩)
theorem J_un {g : W → Option W} (h : J V G f (fun w G1 => ∃ z, g w = some z ∧ K z G1) X) : J V G (dUn g f) K X :=
  J.bind (h.mono fun w G1 h1 => by
    obtain ⟨z, e, k⟩ := h1
    simp only [e]
    exact J.ok k)
theorem J_chain {g g' : W → W → Sto → Option W} (h : J V G f (fun x G1 => J V G1 f' (fun y G2 => JO G2 (g x y) fun b => ∃ b', b = .d (.bool b') ∧ (b' = true → J V G2 f2 (fun z G3 => JO G3 (g' y z) fun w => K w G3) X) ∧ (b' = false → K (.d (.bool false)) G2)) X) X) : J V G (dChain g g' f f' f2) K X :=
  J.bind (h.mono fun x G1 h1 => J.bind (h1.mono fun y G2 h2 => by
    intro m0 S r m hv hm
    obtain ⟨b, e, b', rfl, k⟩ := h2 m0 S m hm
    cases b' with
    | true =>
      simp only [e]
      exact J.bind ((k.1 rfl).mono fun _ _ h3 => J.opt h3) m0 S r m hv hm
    | false => simp only [e]; exact .inl ⟨_, m, G2, rfl, hm, k.2 rfl⟩))
theorem J_nil {K : List W → Sg → Prop} (k : K [] G) : J V G dNil K X := J.ok k
theorem J_cons {K : List W → Sg → Prop} (h : J V G f (fun w G1 => J V G1 fa (fun ws G2 => K (w :: ws) G2) X) X) : J V G (dCons f fa) K X :=
  J.bind (h.mono fun _ _ h1 => J.bind (h1.mono fun _ _ h2 => J.ok h2))
/-- what is made data of -/
theorem J.upd {α β : Type} {h : Sto → Option (α × Sto)} {g : α → Rho → Sto → Out β} {K : β → Sg → Prop} (q : JU G h fun a G1 => J V G1 (g a) K X) : J V G (fun r m => match h m with | some (a, m1) => g a r m1 | none => .bad) K X := by
  intro m0 S r m hv hm
  obtain ⟨a, m1, G1, e, h1, k⟩ := q m0 S m hm
  simp only [e]
  exact k m0 S r m1 hv h1
theorem J_tup (h : J V G fa (fun ws G1 => JU G1 (frzs ws) fun ds G2 => ds.length ≤ sizeLine ∧ K (.d (.tuple ds)) G2) X) : J V G (dTup fa) K X :=
  J.bind (h.mono fun ws G1 h1 => by
    intro m0 S r m hv hm
    obtain ⟨a, m1, G2, e, h2, hz, k⟩ := h1 m0 S m hm
    simp only [e, hz, if_true]
    exact .inl ⟨_, m1, G2, rfl, h2, k⟩)
theorem J_lst {K : List D → Sg → Prop} (h : J V G fa (fun ws G1 => JU G1 (frzs ws) fun ds G2 => ds.length ≤ sizeLine ∧ K ds G2) X) : J V G (dLst fa) K X :=
  J.bind (h.mono fun ws G1 h1 => by
    intro m0 S r m hv hm
    obtain ⟨a, m1, G2, e, h2, hz, k⟩ := h1 m0 S m hm
    simp only [e, hz, if_true]
    exact .inl ⟨_, m1, G2, rfl, h2, k⟩)
theorem J_data {l : Fl} (h : J V G l (fun xs G1 => K (.d (.list xs)) G1) X) : J V G (dData l) K X := J.bind (h.mono fun _ _ h1 => J.ok h1)
theorem J.new {c : Cell} (k : ∀ a, K (.c a) (G ++ [(a, c)])) : J V G (fun _ m => .ok (.c m.length) (m ++ [c])) K X :=
  fun m0 S r m _ hm => .inl ⟨_, _, _, rfl, hm.alloc c, k _⟩
theorem J_cell {l : Fl} (h : J V G l (fun xs G1 => ∀ a, K (.c a) (G1 ++ [(a, Cell.lst xs)])) X) : J V G (dCell l) K X := J.bind (h.mono fun _ _ h1 => J.new h1)
theorem J_dnew (k : ∀ a, K (.c a) (G ++ [(a, Cell.dk [])])) : J V G dDNew K X := J.new k
theorem J_oNone {K : Option Int → Sg → Prop} (k : K none G) : J V G oNone K X := J.ok k
theorem J_oSome {K : Option Int → Sg → Prop} (h : J V G f (fun w G1 => ∃ i, w = .d (.int i) ∧ K (some i) G1) X) : J V G (oSome f) K X :=
  J.bind (h.mono fun x G1 h1 => by obtain ⟨b, rfl, k⟩ := h1; exact J.ok k)
theorem J_sl {x y : Fo} (h : J V G f (fun w G1 => J V G1 x (fun lo G2 => J V G2 y (fun hi G3 => JO G3 (gSl lo hi w) fun z => K z G3) X) X) X) : J V G (dSl f x y) K X :=
  J.bind (h.mono fun _ _ h1 => J.bind (h1.mono fun _ _ h2 => J.bind (h2.mono fun _ _ h3 => J.opt h3)))
theorem J_cb {g : List W → Sto → Option W} (h : J V G fa (fun ws G1 => JO G1 (g ws) fun z => K z G1) X) : J V G (dCB g fa) K X := J.bind (h.mono fun _ _ h1 => J.opt h1)
theorem J_cf {g : List W → Sto → Option (List D)} {K : List D → Sg → Prop} (h : J V G fa (fun ws G1 => JO G1 (g ws) fun z => K z G1) X) : J V G (dCF g fa) K X := J.bind (h.mono fun _ _ h1 => J.opt h1)
theorem J_isi {T : String} (h : J V G f (fun w G1 => JO G1 (datOf w) fun x => K (.d (.bool (isT T x))) G1) X) : J V G (dIsi T f) K X :=
  J.bind (h.mono fun w G1 h1 => by
    intro m0 S r m hv hm
    obtain ⟨x, e, k⟩ := h1 m0 S m hm
    simp only [e]
    exact .inl ⟨_, m, G1, rfl, hm, k⟩)
theorem J_call {F : List W → Sto → Out W} (h : J V G fa (fun ws G1 => JC G1 F ws K X) X) : J V G (dCall F fa) K X :=
  J.bind (h.mono fun ws G1 h1 => fun m0 S r m _ hm => h1 m0 S m hm)
/-- a list's own deeds -/
theorem J_mt {g : Nat → List W → Sto → Option (W × Sto)} (h : J V G f (fun w G1 => ∃ a i xs, w = .c a ∧ Has G1 i a (Cell.lst xs) ∧ J V G1 fa (fun ws G2 => JU G2 (g a ws) fun z G3 => K z G3) X) X) : J V G (dMt g f fa) K X :=
  J.bind (h.mono fun w G1 h1 => by
    obtain ⟨a, i, xs, rfl, e, k⟩ := h1
    intro m0 S r m hv hm
    have hc : cellL (.c a) m = some a := by simp only [cellL, hm.cel i a _ e]
    simp only [hc]
    have q : J V G1 (fun r m => (fa r m).bind fun ws m2 => match g a ws m2 with | some (z, m3) => Out.ok z m3 | none => .bad) K X := J.bind (k.mono fun ws G2 h2 => by
      intro m0 S r m hv hm
      obtain ⟨z, m1, G3, e, h3, k⟩ := h2 m0 S m hm
      simp only [e]
      exact .inl ⟨_, m1, G3, rfl, h3, k⟩)
    exact q m0 S r m hv hm)
theorem J_look {g : W → List W → Sto → Option W} (h : J V G f (fun w G1 => JO G1 (lstOf w) fun _ => J V G1 fa (fun ws G2 => JO G2 (g w ws) fun z => K z G2) X) X) : J V G (dLook g f fa) K X :=
  J.bind (h.mono fun w G1 h1 => by
    intro m0 S r m hv hm
    obtain ⟨xs, e, k⟩ := h1 m0 S m hm
    simp only [e, Option.elim_some]
    exact J.bind (k.mono fun _ _ h2 => J.opt h2) m0 S r m hv hm)
theorem J_cat {K : List D → Sg → Prop} (h : J V G f (fun x G1 => J V G1 f' (fun y G2 => JO G2 (datOf x) fun d => JO G2 (datOf y) fun d' => ∃ xs ys, d = .list xs ∧ d' = .list ys ∧ xs.length + ys.length ≤ sizeLine ∧ K (xs ++ ys) G2) X) X) : J V G (dCat f f') K X :=
  J.bind (h.mono fun _ _ h1 => J.bind (h1.mono fun y G2 h2 => by
    intro m0 S r m hv hm
    obtain ⟨d, e, h3⟩ := h2 m0 S m hm
    obtain ⟨d', e', xs, ys, rfl, rfl, hz, k⟩ := h3 m0 S m hm
    simp only [e, e', hz, if_true]
    exact .inl ⟨_, m, G2, rfl, hm, k⟩))
theorem J_join (h : J V G f (fun w G1 => ∃ x, w = .d (.str x) ∧ J V G1 f' (fun y G2 => JO G2 (gJoin x y) fun z => K z G2) X) X) : J V G (dJoin f f') K X :=
  J.bind (h.mono fun w G1 h1 => by obtain ⟨x, rfl, k⟩ := h1; exact J.bind (k.mono fun _ _ h2 => J.opt h2))
theorem J_tTru (k : KB true G) : J V G tTru KB X := J.ok k
/-! dicts -/
theorem J_dget (h : J V G f (fun w G1 => J V G1 f' (fun y G2 => ∃ a i kvs k d, w = .c a ∧ Has G2 i a (Cell.dk kvs) ∧ keyW y = some k ∧ getK kvs k = some d ∧ K (.d d) G2) X) X) : J V G (dDGet f f') K X :=
  J.bind (h.mono fun _ _ h1 => J.bind (h1.mono fun y G2 h2 => by
    obtain ⟨a, i, kvs, k, d, rfl, e, e2, e3, q⟩ := h2
    intro m0 S r m hv hm
    have hc : dicW (.c a) m = some (a, kvs) := by simp only [dicW_c, hm.cel i a _ e]
    simp only [hc, e2, e3, Option.map_some]
    exact .inl ⟨_, m, G2, rfl, hm, q⟩))
theorem J_dIn {neg : Bool} (h : J V G f (fun y G1 => J V G1 f' (fun w G2 => ∃ a i kvs k, w = .c a ∧ Has G2 i a (Cell.dk kvs) ∧ keyW y = some k ∧ K (.d (.bool (neg != (getK kvs k).isSome))) G2) X) X) : J V G (dDIn neg f f') K X :=
  J.bind (h.mono fun _ _ h1 => J.bind (h1.mono fun y G2 h2 => by
    obtain ⟨a, i, kvs, k, rfl, e, e2, q⟩ := h2
    intro m0 S r m hv hm
    have hc : dicW (.c a) m = some (a, kvs) := by simp only [dicW_c, hm.cel i a _ e]
    simp only [hc, e2]
    exact .inl ⟨_, m, G2, rfl, hm, q⟩))
theorem J_kvNil {K : List (Key × D) → Sg → Prop} (k : K [] G) : J V G kvNil K X := J.ok k
theorem J_kvCons {fk fv : Fe} {fr : Fkv} {K : List (Key × D) → Sg → Prop} (h : J V G fk (fun w G1 => J V G1 fv (fun x G2 => ∃ k, keyW w = some k ∧ JU G2 (frz x) fun d G3 => J V G3 fr (fun kvs G4 => K ((k, d) :: kvs) G4) X) X) X) : J V G (kvCons fk fv fr) K X :=
  J.bind (h.mono fun w _ h1 => J.bind (h1.mono fun x G2 h2 => by
    obtain ⟨k, e, h3⟩ := h2
    intro m0 S r m hv hm
    obtain ⟨d, m1, G3, e2, h4, h5⟩ := h3 m0 S m hm
    simp only [e, e2]
    exact J.bind (h5.mono fun _ _ h6 => J.ok h6) m0 S r m1 hv h4))
theorem J_disp {fr : Fkv} (h : J V G fr (fun kvs G1 => kvs.length ≤ 15 ∧ ∀ a, K (.c a) (G1 ++ [(a, .dk (mergeD [] kvs))])) X) : J V G (dDisp fr) K X :=
  J.bind (h.mono fun kvs G1 h1 => by
    simp only [h1.1, if_true]
    exact J.new h1.2)
end
end DL

namespace DL
open PySem L2 PyProof.Rows
def seqQ (s : Fs) (Q : OA → Prop) : OA → Prop
  | .nx V G => JS V G s Q
  | .ret w G => Q (.ret w G)
  | .brk V G => Q (.brk V G)
  | .cnt V G => Q (.cnt V G)
  | .exc c fs V G => Q (.exc c fs V G)
def wk : Rho → Rho → Prop
  | [], [] => True
  | a :: as, b :: bs => (b = none ∨ a = b) ∧ wk as bs
  | _, _ => False
theorem wk_refl : ∀ V : Rho, wk V V
  | [] => trivial
  | _ :: as => ⟨.inr rfl, wk_refl as⟩
theorem wk_forget : ∀ (V : Rho) (i : Nat), wk V (V.set i none)
  | [], _ => trivial
  | _ :: as, 0 => ⟨.inl rfl, wk_refl as⟩
  | _ :: as, i + 1 => ⟨.inr rfl, wk_forget as i⟩
theorem wk_get : ∀ {V V' : Rho}, wk V V' → V'.length = V.length ∧ ∀ (i : Nat) w, V'[i]? = some (some w) → V[i]? = some (some w)
  | [], [], _ => ⟨rfl, fun _ _ h => h⟩
  | a :: as, b :: bs, ⟨h, t⟩ => by
    obtain ⟨h1, h2⟩ := wk_get t
    refine ⟨by simp [h1], fun i w e => ?_⟩
    cases i with
    | zero =>
      simp only [List.getElem?_cons_zero] at e ⊢
      rcases h with h | h
      · rw [h] at e; cases e
      · rw [h]; exact e
    | succ i => exact h2 i w e
theorem wk_trans : ∀ {a b c : Rho}, wk a b → wk b c → wk a c
  | [], [], _, _, h2 => h2
  | _ :: _, _ :: _, [], _, h2 => h2.elim
  | x :: xs, y :: ys, z :: zs, h1, h2 => ⟨by
    rcases h2.1 with h | h
    · exact .inl h
    · rcases h1.1 with h' | h'
      · exact .inl (h ▸ h')
      · exact .inr (h'.trans h), wk_trans h1.2 h2.2⟩
theorem wk_wipe (V : Rho) : ∀ vs : List Nat, wk V (wipeR V vs)
  | [] => wk_refl V
  | _ :: is => wk_trans (wk_wipe V is) (wk_forget _ _)
theorem EnV.weak {V V' r : Rho} (h : EnV V r) (k : wk V V') : EnV V' r := by
  obtain ⟨h1, h2⟩ := wk_get k
  exact ⟨by rw [h1, h.len], fun i w e => h.var i w (h2 i w e)⟩
/-- what a turn must bring -/
def loopQ (I : Rho → Sg → Prop) (Q : OA → Prop) : OA → Prop
  | .nx V G => ∃ V' G', I V' G' ∧ wk V V' ∧ G'.Sublist G
  | .cnt V G => ∃ V' G', I V' G' ∧ wk V V' ∧ G'.Sublist G
  | .brk V G => Q (.nx V G)
  | .ret w G => Q (.ret w G)
  | .exc c fs V G => Q (.exc c fs V G)
abbrev xq (V : Rho) (Q : OA → Prop) : XK' := fun c fs G1 => Q (.exc c fs V G1)
abbrev XF : XK' := fun _ _ _ => False
section
variable {V : Rho} {G : Sg} {f f' f2 : Fe} {t : Ft} {fa : Fa} {s s' : Fs} {tg : Fg} {Q : OA → Prop} {K : Rho → Sg → Prop} {X : XK'}
theorem JS.stm {α : Type} {o : Rho → Sto → Out α} {g : α → Rho → Sto → OutS} (h : J V G o (fun a G1 => JS V G1 (fun r m => g a r m) Q) (xq V Q)) : JS V G (fun r m => (o r m).stm r fun a m1 => g a r m1) Q := by
  intro m0 S r m hv hm
  rcases h m0 S r m hv hm with ⟨a, m1, G1, e, h1, h2⟩ | ⟨c, fs, m1, G1, e, h1, h2⟩
  · simp only [e, Out.stm_ok]
    exact h2 m0 S r m1 hv h1
  · simp only [e, Out.stm_exc]
    exact ⟨.exc c fs V G1, ⟨r, m1, rfl, hv, h1⟩, h2⟩
theorem JS.mono {Q' : OA → Prop} (h : JS V G s Q) (q : ∀ o, Q o → Q' o) : JS V G s Q' := fun m0 S r m hv hm => by
  obtain ⟨a, e, k⟩ := h m0 S r m hv hm
  exact ⟨a, e, q _ k⟩
theorem JS.weak {V' : Rho} {G' : Sg} (h : JS V' G' s Q) (hw : wk V V') (hg : G'.Sublist G) : JS V G s Q := fun m0 S r m hv hm => h m0 S r m (hv.weak hw) (hm.sub hg)
theorem JS_seq (h : JS V G s (seqQ s' Q)) : JS V G (sSeq s s') Q := by
  intro m0 S r m hv hm
  obtain ⟨a, e, k⟩ := h m0 S r m hv hm
  cases a with
  | nx V1 G1 =>
    obtain ⟨r1, m1, e1, hv1, hm1⟩ := e
    simp only [s_seq, e1]
    exact k m0 S r1 m1 hv1 hm1
  | ret w G1 => obtain ⟨m1, e1, hm1⟩ := e; exact ⟨.ret w G1, ⟨m1, by simp only [s_seq, e1], hm1⟩, k⟩
  | brk V1 G1 => obtain ⟨r1, m1, e1, h⟩ := e; exact ⟨.brk V1 G1, ⟨r1, m1, by simp only [s_seq, e1], h⟩, k⟩
  | cnt V1 G1 => obtain ⟨r1, m1, e1, h⟩ := e; exact ⟨.cnt V1 G1, ⟨r1, m1, by simp only [s_seq, e1], h⟩, k⟩
  | exc c fs V1 G1 => obtain ⟨r1, m1, e1, h⟩ := e; exact ⟨.exc c fs V1 G1, ⟨r1, m1, by simp only [s_seq, e1], h⟩, k⟩
theorem JS_nx (k : Q (.nx V G)) : JS V G sNx Q := fun m0 S r m hv hm => ⟨.nx V G, ⟨r, m, rfl, hv, hm⟩, k⟩
theorem JS_brk (k : Q (.brk V G)) : JS V G sBrk Q := fun m0 S r m hv hm => ⟨.brk V G, ⟨r, m, rfl, hv, hm⟩, k⟩
theorem JS_cnt (k : Q (.cnt V G)) : JS V G sCnt Q := fun m0 S r m hv hm => ⟨.cnt V G, ⟨r, m, rfl, hv, hm⟩, k⟩
theorem JS_retN (k : Q (.ret (.d .none) G)) : JS V G sRetN Q := fun m0 S r m hv hm => ⟨.ret (.d .none) G, ⟨m, rfl, hm⟩, k⟩
theorem JS_drop (h : J V G f (fun _ G1 => Q (.nx V G1)) (xq V Q)) : JS V G (sDrop f) Q := JS.stm (g := fun _ r m => .nx r m) (h.mono fun _ _ k => JS_nx k)
theorem JS_ret (h : J V G f (fun w G1 => Q (.ret w G1)) (xq V Q)) : JS V G (sRet f) Q := JS.stm (g := fun w _ m => .ret w m) (h.mono fun w G1 k => fun m0 S r m _ hm => ⟨.ret w G1, ⟨m, rfl, hm⟩, k⟩)
theorem JS_if (h : J V G t (fun b G1 => (b = true → JS V G1 s Q) ∧ (b = false → JS V G1 s' Q)) (xq V Q)) : JS V G (sIf t s s') Q :=
  JS.stm (g := fun (b : Bool) r m => if b then s r m else s' r m) (h.mono fun b _ k => by
    cases b with
    | true => exact k.1 rfl
    | false => exact k.2 rfl)
theorem JG.stm {w : W} (h : JG V G tg w fun V2 G2 => Q (.nx V2 G2)) : JS V G (fun r m => match tg w r m with | some (r2, m2) => .nx r2 m2 | none => .bad) Q := by
  intro m0 S r m hv hm
  obtain ⟨r2, m2, V2, G2, e, h1, h2, k⟩ := h m0 S r m hv hm
  simp only [e]
  exact ⟨.nx V2 G2, ⟨r2, m2, rfl, h1, h2⟩, k⟩
theorem JS_asg (h : J V G f (fun w G1 => JG V G1 tg w fun V2 G2 => Q (.nx V2 G2)) (xq V Q)) : JS V G (sAsg f tg) Q := JS.stm (g := fun w r m => match tg w r m with | some (r2, m2) => .nx r2 m2 | none => .bad) (h.mono fun _ _ k => k.stm)
theorem JS_par {i j : Nat} (h : J V G fa (fun ws G1 => ∃ v w, ws = [v, w] ∧ Q (.nx ((V.set i (some v)).set j (some w)) G1)) (xq V Q)) : JS V G (sPar i j fa) Q :=
  JS.stm (g := fun (ws : List W) r m1 => match ws with | [v, w] => .nx ((r.set i (some v)).set j (some w)) m1 | _ => .bad) (h.mono fun ws G1 k => by
    obtain ⟨v, w, rfl, k⟩ := k
    exact fun m0 S r m hv hm => ⟨.nx _ G1, ⟨_, m, rfl, (hv.set i v).set j w, hm⟩, k⟩)
theorem JS_par3 {i j l : Nat} (h : J V G fa (fun ws G1 => ∃ u v w, ws = [u, v, w] ∧ Q (.nx (((V.set i (some u)).set j (some v)).set l (some w)) G1)) (xq V Q)) : JS V G (sPar3 i j l fa) Q :=
  JS.stm (g := fun (ws : List W) r m1 => match ws with | [u, v, w] => .nx (((r.set i (some u)).set j (some v)).set l (some w)) m1 | _ => .bad) (h.mono fun ws G1 k => by
    obtain ⟨u, v, w, rfl, k⟩ := k
    exact fun m0 S r m hv hm => ⟨.nx _ G1, ⟨_, m, rfl, ((hv.set i u).set j v).set l w, hm⟩, k⟩)
theorem JS_parN {n : Nat} {gs : List W → Rho → Sto → Option (Rho × Sto)} (h : J V G fa (fun ws G1 => ws.length = n ∧ n ≤ 1000 ∧ JGs V G1 gs ws fun V2 G2 => Q (.nx V2 G2)) (xq V Q)) : JS V G (sParN n fa gs) Q :=
  JS.stm (g := fun (ws : List W) r m1 => if ws.length = n ∧ n ≤ 1000 then (match gs ws r m1 with | some (r2, m2) => .nx r2 m2 | none => .bad) else .bad) (h.mono fun ws G1 k => by
    obtain ⟨h1, h2, k⟩ := k
    intro m0 S r m hv hm
    obtain ⟨r2, m2, V2, G2, e, q1, q2, k⟩ := k m0 S r m hv hm
    simp only [h1, h2, and_self, if_true, e]
    exact ⟨.nx V2 G2, ⟨r2, m2, rfl, q1, q2⟩, k⟩)
theorem JS_setF {i : Nat} {l : Fl} (h : J V G l (fun xs G1 => Q (.nx (V.set i (some (.d (.list xs)))) G1)) (xq V Q)) : JS V G (sSetF i false l) Q :=
  JS_asg (J_data (h.mono fun xs G1 k => fun m0 S r m hv hm => ⟨_, m, _, G1, rfl, hv.set i _, hm, k⟩))
theorem JS_setC {i : Nat} {l : Fl} (h : J V G l (fun xs G1 => ∀ a, Q (.nx (V.set i (some (.c a))) (G1 ++ [(a, Cell.lst xs)]))) (xq V Q)) : JS V G (sSetF i true l) Q :=
  JS_asg (J_cell (h.mono fun xs G1 k a => fun m0 S r m hv hm => ⟨_, m, _, _, rfl, hv.set i _, hm, k a⟩))
theorem JS_dput (h : J V G f2 (fun v G1 => J V G1 f (fun w G2 => J V G2 f' (fun y G3 => JU G3 (frz v) fun d G4 => ∃ a i kvs k, w = .c a ∧ Has G4 i a (Cell.dk kvs) ∧ keyW y = some k ∧ kvs.length < sizeLine ∧ Q (.nx V (G4.set i (a, Cell.dk (setK kvs k d))))) (xq V Q)) (xq V Q)) (xq V Q)) : JS V G (sDPut f f' f2) Q :=
  JS.stm (g := fun v r m1 => (f r m1).stm r fun w m2 => (f' r m2).stm r fun y m3 => match frz v m3 with
  | some (d, m4) => (match dicW w m4, keyW y with
    | some (i, kvs), some k => if kvs.length < sizeLine then .nx r (m4.set i (.dk (setK kvs k d))) else .bad
    | _, _ => .bad)
  | none => .bad) (h.mono fun v G1 h1 => JS.stm (g := fun w r m2 => (f' r m2).stm r fun y m3 => match frz v m3 with
  | some (d, m4) => (match dicW w m4, keyW y with
    | some (i, kvs), some k => if kvs.length < sizeLine then .nx r (m4.set i (.dk (setK kvs k d))) else .bad
    | _, _ => .bad)
  | none => .bad) (h1.mono fun w G2 h2 => JS.stm (g := fun y r m3 => match frz v m3 with
  | some (d, m4) => (match dicW w m4, keyW y with
    | some (i, kvs), some k => if kvs.length < sizeLine then .nx r (m4.set i (.dk (setK kvs k d))) else .bad
    | _, _ => .bad)
  | none => .bad) (h2.mono fun y G3 h3 => by
    intro m0 S r m hv hm
    obtain ⟨d, m4, G4, e, hm4, a, i, kvs, k, rfl, hi, hk, hz, q⟩ := h3 m0 S m hm
    have hc : dicW (.c a) m4 = some (a, kvs) := by simp only [dicW_c, hm4.cel i a _ hi]
    simp only [e, hc, hk, hz, if_true]
    exact ⟨.nx V _, ⟨r, _, rfl, hv, hm4.write hi _⟩, q⟩)))
/-! ### targets -/
theorem JG_n {i : Nat} {w : W} (k : K (V.set i (some w)) G) : JG V G (gN i) w K := fun m0 S r m hv hm => ⟨_, m, _, G, rfl, hv.set i w, hm, k⟩
theorem JG_t {n : Nat} {gs : List W → Rho → Sto → Option (Rho × Sto)} {ds : List D} (hn : ds.length = n) (h : JGs V G gs (ds.map .d) K) : JG V G (gT n gs) (.d (.tuple ds)) K := fun m0 S r m hv hm => by
  obtain ⟨r2, m2, V2, G2, e, q⟩ := h m0 S r m hv hm
  exact ⟨r2, m2, V2, G2, by simp only [t_t, hn, if_true, e], q⟩
theorem JGs_nil (k : K V G) : JGs V G gsNil [] K := fun m0 S r m hv hm => ⟨r, m, V, G, rfl, hv, hm, k⟩
theorem JGs_cons {gs : List W → Rho → Sto → Option (Rho × Sto)} {w : W} {ws : List W} (h : JG V G tg w fun V1 G1 => JGs V1 G1 gs ws K) : JGs V G (gsCons tg gs) (w :: ws) K := fun m0 S r m hv hm => by
  obtain ⟨r2, m2, V2, G2, e, h1, h2, k⟩ := h m0 S r m hv hm
  obtain ⟨r3, m3, V3, G3, e3, q⟩ := k m0 S r2 m2 h1 h2
  exact ⟨r3, m3, V3, G3, by simp only [t_cons, e, e3], q⟩
theorem JG_u {n : Nat} {gs : List W → Rho → Sto → Option (Rho × Sto)} {w : W} (h : JO G (lstOf w) fun ds => ds.length = n ∧ JGs V G gs (ds.map .d) K) : JG V G (gU n gs) w K := fun m0 S r m hv hm => by
  obtain ⟨ds, e1, hn, h⟩ := h m0 S m hm
  obtain ⟨r2, m2, V2, G2, e, q⟩ := h m0 S r m hv hm
  exact ⟨r2, m2, V2, G2, by simp only [gU, e1, hn, if_true, e], q⟩
theorem JG_set {w : W} (h : J V G f (fun wo G1 => J V G1 f' (fun wi G2 => ∃ k a i0 xs0, wi = .d (.int k) ∧ wo = .c a ∧ Has G2 i0 a (Cell.lst xs0) ∧ JU G2 (frz w) fun x G3 => ∃ i xs j, Has G3 i a (Cell.lst xs) ∧ ixN xs.length k = some j ∧ K V (G3.set i (a, Cell.lst (xs.set j x)))) XF) XF) : JG V G (gSet f f') w K := fun m0 S r m hv hm => by
  rcases h m0 S r m hv hm with ⟨wo, m1, G1, e1, h1, h⟩ | ⟨_, _, _, _, _, _, h⟩
  · rcases h m0 S r m1 hv h1 with ⟨wi, m2, G2, e2, h2, h⟩ | ⟨_, _, _, _, _, _, h⟩
    · obtain ⟨k, a, i0, xs0, rfl, rfl, hi0, h⟩ := h
      obtain ⟨x, m3, G3, e3, h3, i, xs, j, hi, hj, q⟩ := h m0 S m2 h2
      refine ⟨r, _, V, _, ?_, hv, h3.write hi _, q⟩
      have hc : cellL (.c a) m2 = some a := by simp only [cellL, h2.cel i0 a _ hi0]
      simp only [gSet, e1, e2, hc, e3, h3.cel i a _ hi, hj]
    · exact h.elim
  · exact h.elim
/-! ### loops -/
def GrdOk (gs : List (Nat × List D)) (G : Sg) : Prop := ∀ p ∈ gs, ∃ i, Has G i p.1 (Cell.lst p.2) ∨ Has G i p.1 (Cell.fz p.2)
theorem GrdOk.grd {gs : List (Nat × List D)} {G : Sg} {m0 m : Sto} {S : List Nat} (h : GrdOk gs G) (hm : EnM m0 S G m) : grd gs m := fun p hp => by
  obtain ⟨i, h | h⟩ := h p hp
  · simp only [lst_c, hm.cel i _ _ h]
  · simp only [lst_c, hm.cel i _ _ h]
theorem GrdOk.nil {G : Sg} : GrdOk [] G := fun _ h => nomatch h
theorem GrdOk.one {G : Sg} {a : Nat} {xs : List D} (i : Nat) (h : Has G i a (Cell.lst xs)) : GrdOk [(a, xs)] G := fun p hp => by
  have : p = (a, xs) := by simpa using hp
  rw [this]; exact ⟨i, .inl h⟩
theorem JS_forL {gs : List (Nat × List D)} {body : Fs} {I : List D → Rho → Sg → Prop} (hg : ∀ xs V G, I xs V G → GrdOk gs G)
    (ht : ∀ x xs V G, I (x :: xs) V G → JG V G tg (.d x) fun V1 G1 => JS V1 G1 body (loopQ (I xs) Q)) (he : ∀ V G, I [] V G → Q (.nx V G)) : ∀ (xs : List D) (V : Rho) (G : Sg), I xs V G → JS V G (forL gs tg body xs) Q
  | [], V, G, h => fun m0 S r m hv hm => ⟨.nx V G, ⟨r, m, by unfold forL; rw [if_pos ((hg _ _ _ h).grd hm)], hv, hm⟩, he V G h⟩
  | x :: xs, V, G, h => fun m0 S r m hv hm => by
    obtain ⟨r1, m1, V1, G1, e1, hv1, hm1, k⟩ := ht x xs V G h m0 S r m hv hm
    obtain ⟨a, e2, k⟩ := k m0 S r1 m1 hv1 hm1
    unfold forL
    rw [if_pos ((hg _ _ _ h).grd hm), e1]
    cases a with
    | nx V2 G2 =>
      obtain ⟨r2, m2, e2, hv2, hm2⟩ := e2
      obtain ⟨V3, G3, k, w1, w2⟩ := k
      simp only [e2]
      exact JS_forL hg ht he xs V3 G3 k m0 S r2 m2 (hv2.weak w1) (hm2.sub w2)
    | cnt V2 G2 =>
      obtain ⟨r2, m2, e2, hv2, hm2⟩ := e2
      obtain ⟨V3, G3, k, w1, w2⟩ := k
      simp only [e2]
      exact JS_forL hg ht he xs V3 G3 k m0 S r2 m2 (hv2.weak w1) (hm2.sub w2)
    | brk V2 G2 => obtain ⟨r2, m2, e2, h⟩ := e2; simp only [e2]; exact ⟨.nx V2 G2, ⟨r2, m2, rfl, h⟩, k⟩
    | ret w G2 => obtain ⟨m2, e2, h⟩ := e2; simp only [e2]; exact ⟨.ret w G2, ⟨m2, rfl, h⟩, k⟩
    | exc c fs V2 G2 => obtain ⟨r2, m2, e2, h⟩ := e2; simp only [e2]; exact ⟨.exc c fs V2 G2, ⟨r2, m2, rfl, h⟩, k⟩
/-- any loop over a source -/
theorem JS_for {src : Fi} {body : Fs} (h : J V G src (fun s G1 => JS V G1 (forL s.gs tg body s.items) Q) (xq V Q)) : JS V G (sFor src tg body) Q := JS.stm (g := fun (x : Src) r m1 => forL x.gs tg body x.items r m1) h
/-- .. whose names are as they were, but those of vs -/
theorem JS_forS {gs : List (Nat × List D)} {body : Fs} {xs : List D} (vs : List Nat) (I : List D → Sg → Prop) (h0 : ∃ G', I xs G' ∧ G'.Sublist G) (hg : ∀ xs G, I xs G → GrdOk gs G)
    (ht : ∀ x xs G, I (x :: xs) G → JG (wipeR V vs) G tg (.d x) fun V1 G1 => JS V1 G1 body (loopQ (fun V' G' => V' = wipeR V vs ∧ I xs G') Q)) (he : ∀ G, I [] G → Q (.nx (wipeR V vs) G)) : JS V G (forL gs tg body xs) Q := by
  obtain ⟨G', h0, hs⟩ := h0
  have hw : wk V (wipeR V vs) := wk_wipe V vs
  exact JS.weak (JS_forL (I := fun xs V1 G1 => V1 = wipeR V vs ∧ I xs G1) (fun xs V G h => hg xs G h.2) (fun x xs V1 G1 h => by obtain ⟨rfl, h⟩ := h; exact ht x xs G1 h) (fun V1 G1 h => by obtain ⟨rfl, h⟩ := h; exact he G1 h) xs _ G' ⟨rfl, h0⟩) hw hs
theorem JS_while {c : Ft} {b : Fs} {I : Nat → Rho → Sg → Prop} (ht : ∀ n V G, I n V G → J V G c (fun b' G1 => (b' = true → ∃ n', n = n' + 1 ∧ JS V G1 b (loopQ (I n') Q)) ∧ (b' = false → Q (.nx V G1))) (xq V Q)) :
    ∀ (n : Nat) (V : Rho) (G : Sg), I n V G → JS V G (sWhile c b) Q := by
  intro n
  induction n with
  | zero =>
    intro V G h m0 S r m hv hm
    rw [sWhile_turn]
    rcases ht 0 V G h m0 S r m hv hm with ⟨b', m1, G1, e, h1, k⟩ | ⟨c, fs, m1, G1, e, h1, h2⟩
    · cases b' with
      | true => obtain ⟨n', h, _⟩ := k.1 rfl; omega
      | false => simp only [e, Out.stm_ok]; exact ⟨.nx V G1, ⟨r, m1, rfl, hv, h1⟩, k.2 rfl⟩
    · simp only [e, Out.stm_exc]
      exact ⟨.exc c fs V G1, ⟨r, m1, rfl, hv, h1⟩, h2⟩
  | succ n ih =>
    intro V G h m0 S r m hv hm
    rw [sWhile_turn]
    rcases ht (n + 1) V G h m0 S r m hv hm with ⟨b', m1, G1, e, h1, k⟩ | ⟨c, fs, m1, G1, e, h1, h2⟩
    · cases b' with
      | true =>
        obtain ⟨n', hn, k⟩ := k.1 rfl
        obtain rfl : n = n' := by omega
        obtain ⟨a, e2, k⟩ := k m0 S r m1 hv h1
        simp only [e, Out.stm_ok, if_true]
        cases a with
        | nx V2 G2 =>
          obtain ⟨r2, m2, e2, hv2, hm2⟩ := e2
          obtain ⟨V3, G3, k, w1, w2⟩ := k
          simp only [e2]
          exact ih V3 G3 k m0 S r2 m2 (hv2.weak w1) (hm2.sub w2)
        | cnt V2 G2 =>
          obtain ⟨r2, m2, e2, hv2, hm2⟩ := e2
          obtain ⟨V3, G3, k, w1, w2⟩ := k
          simp only [e2]
          exact ih V3 G3 k m0 S r2 m2 (hv2.weak w1) (hm2.sub w2)
        | brk V2 G2 => obtain ⟨r2, m2, e2, h⟩ := e2; simp only [e2]; exact ⟨.nx V2 G2, ⟨r2, m2, rfl, h⟩, k⟩
        | ret w G2 => obtain ⟨m2, e2, h⟩ := e2; simp only [e2]; exact ⟨.ret w G2, ⟨m2, rfl, h⟩, k⟩
        | exc c fs V2 G2 => obtain ⟨r2, m2, e2, h⟩ := e2; simp only [e2]; exact ⟨.exc c fs V2 G2, ⟨r2, m2, rfl, h⟩, k⟩
      | false => simp only [e, Out.stm_ok]; exact ⟨.nx V G1, ⟨r, m1, rfl, hv, h1⟩, k.2 rfl⟩
    · simp only [e, Out.stm_exc]
      exact ⟨.exc c fs V G1, ⟨r, m1, rfl, hv, h1⟩, h2⟩
/-- comprehensions -/
theorem J_lcL {gs : List (Nat × List D)} {e : Fe} {KL : List D → Sg → Prop} (I : List D → List D → Sg → Prop) (hg : ∀ xs acc G, I xs acc G → GrdOk gs G)
    (ht : ∀ x xs acc G, I (x :: xs) acc G → JG V G tg (.d x) fun V1 G1 => J V1 G1 t (fun b G2 => (b = true → J V1 G2 e (fun w G3 => acc.length < sizeLine ∧ JU G3 (frz w) fun d G4 => ∃ G5, I xs (acc ++ [d]) G5 ∧ G5.Sublist G4) XF) ∧ (b = false → ∃ G5, I xs acc G5 ∧ G5.Sublist G2)) XF)
    (he : ∀ acc G, I [] acc G → KL acc G) : ∀ (xs acc : List D) (G : Sg), I xs acc G → J V G (fun r m => lcL gs tg t e r xs acc m) KL X
  | [], acc, G, h => fun m0 S r m hv hm => .inl ⟨acc, m, G, by simp only [lcL, if_pos ((hg _ _ _ h).grd hm)], hm, he _ _ h⟩
  | x :: xs, acc, G, h => fun m0 S r m hv hm => by
    obtain ⟨r1, m1, V1, G1, e1, hv1, hm1, k⟩ := ht x xs acc G h m0 S r m hv hm
    have hl : lcL gs tg t e r (x :: xs) acc m = match t r1 m1 with
      | .ok true m2 => match e r1 m2 with
        | .ok w m3 => match frz w m3 with
          | some (d, m4) => if acc.length < sizeLine then lcL gs tg t e r xs (acc ++ [d]) m4 else .bad
          | none => .bad
        | _ => .bad
      | .ok false m2 => lcL gs tg t e r xs acc m2
      | _ => .bad := by
      rw [lcL, if_pos ((hg _ _ _ h).grd hm), e1]
      all_goals rfl
    simp only [hl]
    rcases k m0 S r1 m1 hv1 hm1 with ⟨b, m2, G2, e2, hm2, k⟩ | ⟨_, _, _, _, _, _, k⟩
    · cases b with
      | true =>
        rcases k.1 rfl m0 S r1 m2 hv1 hm2 with ⟨w, m3, G3, e3, hm3, hz, k⟩ | ⟨_, _, _, _, _, _, k⟩
        · obtain ⟨d, m4, G4, e4, hm4, G5, k, hs⟩ := k m0 S m3 hm3
          simp only [e2, e3, e4, hz, if_true]
          exact J_lcL I hg ht he xs _ G5 k m0 S r m4 hv (hm4.sub hs)
        · exact k.elim
      | false =>
        obtain ⟨G5, k, hs⟩ := k.2 rfl
        simp only [e2]
        exact J_lcL I hg ht he xs _ G5 k m0 S r m2 hv (hm2.sub hs)
    · exact k.elim
theorem J_lc {src : Fi} {e : Fe} {vs : List Nat} {KL : List D → Sg → Prop} (h : J V G src (fun s G1 => J (wipeR V vs) G1 (fun r m => lcL s.gs tg t e r s.items [] m) KL X) X) : J V G (dLc src tg t e vs) KL X := by
  intro m0 S r m hv hm
  rcases h m0 S r m hv hm with ⟨s, m1, G1, e1, hm1, k⟩ | ⟨c, fs, m1, G1, e1, hm1, k⟩
  · have hl : dLc src tg t e vs r m = lcL s.gs tg t e (wipeR r vs) s.items [] m1 := by simp only [e_lc, e1, Out.bind_ok]
    rw [hl]
    exact k m0 S (wipeR r vs) m1 (hv.wipe vs) hm1
  · exact .inr ⟨c, fs, m1, G1, by simp only [e_lc, e1, Out.bind_exc], hm1, k⟩
/-! ### sources -/
theorem J_iTup {KS : Src → Sg → Prop} (h : J V G f (fun w G1 => ∃ xs, w = .d (.tuple xs) ∧ KS ⟨xs, []⟩ G1) X) : J V G (iTupD f) KS X := J.bind (h.mono fun w G1 k => by obtain ⟨xs, rfl, k⟩ := k; exact J.ok k)
theorem J_iSeq {KS : Src → Sg → Prop} (h : J V G f (fun w G1 => JO G1 (lstOf w) fun xs => KS ⟨xs, gsOf w xs⟩ G1) X) : J V G (iSeq f) KS X := J.bind (h.mono fun w G1 k => by
  intro m0 S r m hv hm
  obtain ⟨xs, e, k⟩ := k m0 S m hm
  simp only [e]
  exact .inl ⟨_, m, G1, rfl, hm, k⟩)
theorem J_iRng {KS : Src → Sg → Prop} (h : J V G f (fun w G1 => ∃ j, w = .d (.int j) ∧ -(2 ^ 62) ≤ j ∧ j < 2 ^ 62 ∧ KS ⟨rngL 0 j.toNat, []⟩ G1) X) : J V G (iRange1 f) KS X := by
  rw [show iRange1 f = fun r m => (f r m).bind fun a m1 => rgOf a m1 from by funext r m; exact i_rg f r m]
  exact J.bind (g := fun a _ m => rgOf a m) (h.mono fun w G1 k => by
    obtain ⟨j, rfl, h1, h2, k⟩ := k
    intro m0 S r m hv hm
    exact .inl ⟨_, m, G1, rgOf_int j h1 h2 m, hm, k⟩)
theorem J_iEnT {KS : Src → Sg → Prop} (h : J V G f (fun w G1 => ∃ xs, w = .d (.tuple xs) ∧ KS ⟨enL xs, []⟩ G1) X) : J V G (iEnumT f) KS X := J.bind (h.mono fun w G1 k => by obtain ⟨xs, rfl, k⟩ := k; exact J.ok k)
theorem J_iEnL {KS : Src → Sg → Prop} (h : J V G f (fun w G1 => JO G1 (lstOf w) fun xs => KS ⟨enL xs, gsOf w xs⟩ G1) X) : J V G (iEnumL f) KS X := J.bind (h.mono fun w G1 k => by
  intro m0 S r m hv hm
  obtain ⟨xs, e, k⟩ := k m0 S m hm
  simp only [e]
  exact .inl ⟨_, m, G1, rfl, hm, k⟩)
/-! ### defs -/
theorem JC_runB {n : Nat} {ws : List W} {K : W → Sg → Prop} (h : JS (ws.map some ++ List.replicate (n - ws.length) none) G s (fun o => match o with | .ret w G1 => K w G1 | .nx _ G1 => K (.d .none) G1 | .exc c fs _ G1 => X c fs G1 | _ => False)) : JC G (runB n s) ws K X := by
  intro m0 S m hm
  obtain ⟨a, e, k⟩ := h m0 S _ m ⟨rfl, fun _ _ e => e⟩ hm
  unfold runB
  cases a with
  | nx V1 G1 => obtain ⟨r1, m1, e, _, hm1⟩ := e; rw [e]; exact .inl ⟨_, m1, G1, rfl, hm1, k⟩
  | ret w G1 => obtain ⟨m1, e, hm1⟩ := e; rw [e]; exact .inl ⟨_, m1, G1, rfl, hm1, k⟩
  | brk _ _ => exact k.elim
  | cnt _ _ => exact k.elim
  | exc c fs V1 G1 => obtain ⟨r1, m1, e, _, hm1⟩ := e; rw [e]; exact .inr ⟨_, _, m1, G1, rfl, hm1, k⟩
theorem JC.mono {F : List W → Sto → Out W} {ws : List W} {K K' : W → Sg → Prop} (h : JC G F ws K X) (k : ∀ w G1, K w G1 → K' w G1) : JC G F ws K' X := fun m0 S m hm => by
  rcases h m0 S m hm with ⟨a, m1, G1, e, h1, q⟩ | q
  · exact .inl ⟨a, m1, G1, e, h1, k _ _ q⟩
  · exact .inr q
/-- a def that is known by its answer -/
theorem JC_eq {F : List W → Sto → Out W} {ws : List W} {K : W → Sg → Prop} {w : W} (h : ∀ m, F ws m = .ok w m) (k : K w G) : JC G F ws K X := fun m0 S m hm => .inl ⟨w, m, G, h m, hm, k⟩
theorem JC_sub {F : List W → Sto → Out W} {ws : List W} {K : W → Sg → Prop} {G' : Sg} (h : JC G' F ws K X) (hs : G'.Sublist G) : JC G F ws K X := fun m0 S m hm => h m0 S m (hm.sub hs)
end
end DL

namespace DL
open PySem L2 PyProof.Rows
section
variable {G : Sg} {K : W → Prop}
theorem JO_pure {α : Type} {h : Sto → Option α} {w : α} {K : α → Prop} (e : ∀ m, h m = some w) (k : K w) : JO G h K := fun _ _ m _ => ⟨w, e m, k⟩
theorem JO_at {α : Type} {h : Sto → Option α} {w : α} {K : α → Prop} {a : Nat} {c : Cell} (i : Nat) (hi : Has G i a c) (e : ∀ m : Sto, m[a]? = some c → h m = some w) (k : K w) : JO G h K := fun _ _ m hm => ⟨w, e m (hm.cel i a c hi), k⟩
theorem JO_lstC {K : List D → Prop} {a : Nat} {xs : List D} (i : Nat) (hi : Has G i a (Cell.lst xs)) (k : K xs) : JO G (lstOf (.c a)) K := JO_at i hi (fun m h => by simp only [lst_c, h]) k
theorem JO_lstF {K : List D → Prop} {a : Nat} {xs : List D} (i : Nat) (hi : Has G i a (Cell.fz xs)) (k : K xs) : JO G (lstOf (.c a)) K := JO_at i hi (fun m h => by simp only [lst_c, h]) k
theorem JO_datC {K : D → Prop} {a : Nat} {xs : List D} (i : Nat) (hi : Has G i a (Cell.lst xs)) (k : K (.list xs)) : JO G (datOf (.c a)) K := JO_at i hi (fun m h => by simp only [dat_c, h]) k
theorem JO_datF {K : D → Prop} {a : Nat} {xs : List D} (i : Nat) (hi : Has G i a (Cell.fz xs)) (k : K (.list xs)) : JO G (datOf (.c a)) K := JO_at i hi (fun m h => by simp only [dat_c, h]) k
theorem JO_truC {K : Bool → Prop} {a : Nat} {xs : List D} (i : Nat) (hi : Has G i a (Cell.lst xs)) (k : K (!xs.isEmpty)) : JO G (tru (.c a)) K := JO_at i hi (fun m h => by simp only [tru, h]) k
theorem JO_I {C : Int → Int → Bool} {f : Int → Int → D} {i j : Int} (hc : C i j = true) (k : K (.d (f i j))) : JO G (gI C f (.d (.int i)) (.d (.int j))) K := JO_pure (fun m => by simp only [gI_i, hc, if_true]) k
theorem JO_mod {i j : Int} (hc : j ≠ 0) (k : K (.d (.int (i.fmod j)))) : JO G (gMod (.d (.int i)) (.d (.int j))) K := JO_I (decide_eq_true hc) k
theorem JO_div {i j : Int} (h0 : 0 < j) (hc : j.natAbs.log2 < 9000) (k : K (.d (.int (i / j)))) : JO G (gDiv (.d (.int i)) (.d (.int j))) K := JO_I (by simp only [decide_eq_true h0, decide_eq_true hc, Bool.and_self]) k
theorem JO_eq {x y : D} (hx : SeqAt.shaped x = true) (hy : SeqAt.shaped y = true) (k : K (.d (.bool (PyData.eqv x y)))) : JO G (gEq (.d x) (.d y)) K := JO_pure (fun m => by simp only [gEq_d, hx, hy, Bool.and_self, if_true]) k
theorem JO_ne {x y : D} (hx : SeqAt.shaped x = true) (hy : SeqAt.shaped y = true) (k : K (.d (.bool (!PyData.eqv x y)))) : JO G (gNe (.d x) (.d y)) K := JO_pure (fun m => by simp only [gNe_d, hx, hy, Bool.and_self, if_true]) k
theorem JO_eqC {a : Nat} {xs : List D} {y : D} (i : Nat) (hi : Has G i a (Cell.lst xs)) (hx : SeqAt.shaped (.list xs) = true) (hy : SeqAt.shaped y = true) (k : K (.d (.bool (PyData.eqv (.list xs) y)))) : JO G (gEq (.c a) (.d y)) K := JO_at i hi (fun m h => by simp only [gEq, dat_c, dat_d, h, hx, hy, Bool.and_self, if_true]) k
theorem JO_neC {a : Nat} {xs : List D} {y : D} (i : Nat) (hi : Has G i a (Cell.lst xs)) (hx : SeqAt.shaped (.list xs) = true) (hy : SeqAt.shaped y = true) (k : K (.d (.bool (!PyData.eqv (.list xs) y)))) : JO G (gNe (.c a) (.d y)) K := JO_at i hi (fun m h => by simp only [gNe, dat_c, dat_d, h, hx, hy, Bool.and_self, if_true]) k
theorem JO_ixT {xs : List D} {i : Int} {v : D} (e : atI xs i = some v) (k : K (.d v)) : JO G (gIx (.d (.tuple xs)) (.d (.int i))) K := JO_pure (fun m => by simp only [ix_t, e, Option.map_some]) k
theorem JO_ixL {xs : List D} {i : Int} {v : D} (e : atI xs i = some v) (k : K (.d v)) : JO G (gIx (.d (.list xs)) (.d (.int i))) K := JO_pure (fun m => by simp only [ix_l, e, Option.map_some]) k
theorem JO_ixK {xs : List D} {i : Int} {v : D} (e : atI xs i = some v) (k : K (.d v)) : JO G (gIx (.k xs) (.d (.int i))) K := JO_pure (fun m => by simp only [ix_k, e, Option.map_some]) k
theorem JO_ixC {a : Nat} {xs : List D} {i : Int} {v : D} (p : Nat) (hi : Has G p a (Cell.lst xs)) (e : atI xs i = some v) (k : K (.d v)) : JO G (gIx (.c a) (.d (.int i))) K := JO_at p hi (fun m h => by simp only [ix_c, lst_c, h, e, Option.map_some]) k
theorem JO_lenC {a : Nat} {xs : List D} (p : Nat) (hi : Has G p a (Cell.lst xs)) (k : K (.d (.int xs.length))) : JO G (gLen [.c a]) K := JO_at p hi (fun m h => by simp only [len_c, lst_c, h]) k
theorem JO_lenS {x : Str} (h : x.length ≤ sizeLine) (k : K (.d (.int x.length))) : JO G (gLen [.d (.str x)]) K := JO_pure (fun m => by simp only [len_s, h, if_true]) k
theorem JO_addT {xs ys : List D} (h : xs.length + ys.length ≤ sizeLine) (k : K (.d (.tuple (xs ++ ys)))) : JO G (gAdd (.d (.tuple xs)) (.d (.tuple ys))) K := JO_pure (fun m => by simp only [add_t, h, if_true]) k
theorem JO_addL {xs ys : List D} (h : xs.length + ys.length ≤ sizeLine) (k : K (.d (.list (xs ++ ys)))) : JO G (gAdd (.d (.list xs)) (.d (.list ys))) K := JO_pure (fun m => by simp only [add_l, h, if_true]) k
theorem JO_addCL {a : Nat} {xs ys : List D} (p : Nat) (hi : Has G p a (Cell.lst xs)) (h : xs.length + ys.length ≤ sizeLine) (k : K (.d (.list (xs ++ ys)))) : JO G (gAdd (.c a) (.d (.list ys))) K := JO_at p hi (fun m e => by simp only [gAdd, dat_c, dat_d, e, h, if_true]) k
theorem JO_tupC {a : Nat} {xs : List D} (p : Nat) (hi : Has G p a (Cell.lst xs)) (k : K (.d (.tuple xs))) : JO G (gTuple [.c a]) K := JO_at p hi (fun m h => by simp only [tuple_c, lst_c, h]) k
theorem JO_listC {K : List D → Prop} {a : Nat} {xs : List D} (p : Nat) (hi : Has G p a (Cell.lst xs)) (k : K xs) : JO G (gList [.c a]) K := JO_at p hi (fun m h => by simp only [list_1, seq_c, h]) k
theorem JO_slC {lo hi : Option Int} {a : Nat} {xs : List D} (p : Nat) (h : Has G p a (Cell.lst xs)) (k : K (.d (.list (cutD xs lo hi)))) : JO G (gSl lo hi (.c a)) K := JO_at p h (fun m e => by simp only [gSl, lst_c, e]) k
theorem JO_repr {x : D} (h : okShow x = true) (k : K (.d (.str x.shown))) : JO G (gRepr [.d x]) K := JO_pure (fun m => by simp only [repr_1, dat_d, h, if_true]) k
def isNone : D → Bool
  | .none => true
  | _ => false
theorem JO_isN {x : D} (k : K (.d (.bool (isNone x)))) : JO G (gIsN (.d x) (.d .none)) K := JO_pure (fun m => by cases x <;> rfl) k
theorem JO_notN {x : D} (k : K (.d (.bool (!isNone x)))) : JO G (gNotN (.d x) (.d .none)) K := JO_pure (fun m => by cases x <;> rfl) k
theorem JO_inD {x : D} {ys : List D} (hx : SeqAt.shaped x = true) (hy : SeqAt.shaped (.list ys) = true) (k : K (.d (.bool (ys.any fun z => PyData.eqv z x)))) : JO G (gInD (.d x) (.d (.list ys))) K := JO_pure (fun m => by simp only [gInD, dat_d, hx, hy, Bool.and_self, if_true]) k
theorem JO_inC {a : Nat} {x : D} {ys : List D} (p : Nat) (hi : Has G p a (Cell.lst ys)) (hx : SeqAt.shaped x = true) (hy : SeqAt.shaped (.list ys) = true) (k : K (.d (.bool (ys.any fun z => PyData.eqv z x)))) : JO G (gInD (.d x) (.c a)) K := JO_at p hi (fun m h => by simp only [gInD, dat_d, dat_c, h, hx, hy, Bool.and_self, if_true]) k
theorem JO_notInC {a : Nat} {x : D} {ys : List D} (p : Nat) (hi : Has G p a (Cell.lst ys)) (hx : SeqAt.shaped x = true) (hy : SeqAt.shaped (.list ys) = true) (k : K (.d (.bool (!ys.any fun z => PyData.eqv z x)))) : JO G (gNotInD (.d x) (.c a)) K := JO_at p hi (fun m h => by simp only [gNotInD, dat_d, dat_c, h, hx, hy, Bool.and_self, if_true]) k
end
section
variable {G : Sg}
theorem JU_d {x : D} {K : D → Sg → Prop} (k : K x G) : JU G (frz (.d x)) K := fun _ _ m hm => ⟨x, m, G, rfl, hm, k⟩
theorem JU_c {a : Nat} {xs : List D} {K : D → Sg → Prop} (i : Nat) (hi : Has G i a (Cell.lst xs)) (k : K (.list xs) (G.set i (a, Cell.fz xs))) : JU G (frz (.c a)) K := fun _ _ m hm =>
  ⟨_, _, _, by simp only [frz, hm.cel i a _ hi], hm.write hi _, k⟩
theorem JU_fz {a : Nat} {xs : List D} {K : D → Sg → Prop} (i : Nat) (hi : Has G i a (Cell.fz xs)) (k : K (.list xs) G) : JU G (frz (.c a)) K := fun _ _ m hm =>
  ⟨_, _, _, by simp only [frz, hm.cel i a _ hi], hm, k⟩
theorem JU_nil {K : List D → Sg → Prop} (k : K [] G) : JU G (frzs []) K := fun _ _ m hm => ⟨_, m, G, rfl, hm, k⟩
theorem JU_cons {w : W} {ws : List W} {K : List D → Sg → Prop} (h : JU G (frz w) fun x G1 => JU G1 (frzs ws) fun xs G2 => K (x :: xs) G2) : JU G (frzs (w :: ws)) K := fun m0 S m hm => by
  obtain ⟨x, m1, G1, e1, h1, h⟩ := h m0 S m hm
  obtain ⟨xs, m2, G2, e2, h2, h⟩ := h m0 S m1 h1
  exact ⟨_, m2, G2, by simp only [frzs_cons, e1, e2], h2, h⟩
theorem JU_app {a : Nat} {y : W} {K : W → Sg → Prop} (h : JU G (frz y) fun x G1 => ∃ i xs, Has G1 i a (Cell.lst xs) ∧ xs.length < sizeLine ∧ K (.d .none) (G1.set i (a, Cell.lst (xs ++ [x])))) : JU G (gApp a [y]) K := fun m0 S m hm => by
  obtain ⟨x, m1, G1, e1, h1, i, xs, hi, hz, k⟩ := h m0 S m hm
  exact ⟨_, _, _, by simp only [gApp, e1, h1.cel i a _ hi, hz, if_true], h1.write hi _, k⟩
theorem JU_pop {a : Nat} {xs : List D} {x : D} {K : W → Sg → Prop} (i : Nat) (hi : Has G i a (Cell.lst xs)) (hx : xs[xs.length - 1]? = some x) (k : K (.d x) (G.set i (a, Cell.lst xs.dropLast))) : JU G (gPop a []) K := fun m0 S m hm =>
  ⟨_, _, _, by simp only [gPop, hm.cel i a _ hi, hx], hm.write hi _, k⟩
theorem JU_popAt {a : Nat} {xs : List D} {x : D} {j : Int} {K : W → Sg → Prop} (i : Nat) (hi : Has G i a (Cell.lst xs)) (h0 : 0 ≤ j) (h1 : j < 2 ^ 62) (hx : xs[j.toNat]? = some x) (k : K (.d x) (G.set i (a, Cell.lst (xs.eraseIdx j.toNat)))) : JU G (gPopAt a [.d (.int j)]) K := fun m0 S m hm =>
  ⟨_, _, _, by simp only [gPopAt, hm.cel i a _ hi, hx, h0, h1, and_self, if_true], hm.write hi _, k⟩
/-! ### a def over a part of the cells -/
theorem JC_frame {F : List W → Sto → Out W} {ws : List W} {K : W → Sg → Prop} {X : XK'} {i a : Nat} {c : Cell} (hi : Has G i a c)
    (h : JC [(a, c)] F ws (fun w G1 => ∃ c' Gn, G1 = (a, c') :: Gn ∧ K w (G.set i (a, c') ++ Gn)) (fun x fs G1 => ∃ c' Gn, G1 = (a, c') :: Gn ∧ X x fs (G.set i (a, c') ++ Gn))) : JC G F ws K X := by
  have key : ∀ {m0 m m1 : Sto} {S : List Nat} {c' : Cell} {Gn : Sg}, EnM m0 S G m → EnM m [a] ((a, c') :: Gn) m1 → EnM m0 S (G.set i (a, c') ++ Gn) m1 := by
    intro m0 m m1 S c' Gn hm h1
    have ha := hm.cel i a c hi
    have hal : a < m.length := (List.getElem?_eq_some_iff.mp ha).1
    have hgl : i < G.length := (List.getElem?_eq_some_iff.mp hi).1
    have hlt : ∀ (i : Nat) a d, G[i]? = some (a, d) → a < m.length := fun i a d q => (List.getElem?_eq_some_iff.mp (hm.cel i a d q)).1
    have hmap : (G.set i (a, c')).map (·.1) = G.map (·.1) := by
      rw [List.map_set]
      apply List.ext_getElem?
      intro j
      by_cases hj : i = j
      · subst hj
        rw [List.getElem?_set_self (by simpa using hgl), List.getElem?_map, hi]; rfl
      · rw [List.getElem?_set_ne hj]
    have hnew : ∀ (j : Nat) b d, Gn[j]? = some (b, d) → m.length ≤ b := fun j b d q => by
      rcases h1.loc (j + 1) b d q with z | z
      · have hb : b = a := by simpa using z
        have := h1.nd
        rw [List.map_cons, List.nodup_cons] at this
        exact absurd (List.mem_map.mpr ⟨(b, d), List.mem_of_getElem? q, hb⟩) this.1
      · exact z
    refine ⟨fun j b d q => ?_, ?_, fun j b d q => ?_, Nat.le_trans hm.le h1.le, fun b hb hs => ?_⟩
    · by_cases hj : j < G.length
      · rw [List.getElem?_append_left (by simpa using hj)] at q
        by_cases hij : i = j
        · subst hij
          rw [List.getElem?_set_self hgl] at q
          cases q
          exact h1.cel 0 a c' rfl
        · rw [List.getElem?_set_ne hij] at q
          have hne : b ≠ a := fun z => by
            have e1 : (G.map (·.1))[i]? = some a := by rw [List.getElem?_map, hi]; rfl
            have e2 : (G.map (·.1))[j]? = some b := by rw [List.getElem?_map, q]; rfl
            obtain ⟨p1, e1⟩ := List.getElem?_eq_some_iff.mp e1
            obtain ⟨p2, e2⟩ := List.getElem?_eq_some_iff.mp e2
            exact hij ((List.getElem_inj hm.nd).mp (by rw [e1, e2, z]))
          rw [h1.fr b (hlt j b d q) (by simpa using hne)]
          exact hm.cel j b d q
      · rw [List.getElem?_append_right (by simpa using Nat.le_of_not_lt hj)] at q
        exact h1.cel (_ + 1) b d q
    · rw [List.map_append, hmap, List.nodup_append]
      have hn := h1.nd
      rw [List.map_cons, List.nodup_cons] at hn
      refine ⟨hm.nd, hn.2, fun x hx y hy => ?_⟩
      obtain ⟨⟨u, d⟩, hp, rfl⟩ := List.mem_map.mp hx
      obtain ⟨⟨v, d'⟩, hp', rfl⟩ := List.mem_map.mp hy
      obtain ⟨p, hp⟩ := List.getElem?_of_mem hp
      obtain ⟨p', hp'⟩ := List.getElem?_of_mem hp'
      have z1 := hlt p u d hp
      have z2 := hnew p' v d' hp'
      simp only; omega
    · by_cases hj : j < G.length
      · rw [List.getElem?_append_left (by simpa using hj)] at q
        by_cases hij : i = j
        · subst hij
          rw [List.getElem?_set_self hgl] at q
          cases q
          exact hm.loc i a c hi
        · rw [List.getElem?_set_ne hij] at q
          exact hm.loc j b d q
      · rw [List.getElem?_append_right (by simpa using Nat.le_of_not_lt hj)] at q
        exact .inr (Nat.le_trans hm.le (hnew _ b d q))
    · have hne : b ≠ a := fun z => by
        subst z
        rcases hm.loc i b c hi with q | q
        · exact hs q
        · omega
      rw [h1.fr b (Nat.lt_of_lt_of_le hb hm.le) (by simpa using hne)]
      exact hm.fr b hb hs
  intro m0 S m hm
  have hb : EnM m [a] [(a, c)] m := by
    refine ⟨fun j b d q => ?_, by simp, fun j b d q => ?_, Nat.le_refl _, fun b hb hs => rfl⟩
    · cases j with
      | zero => cases q; exact hm.cel i a c hi
      | succ j => cases q
    · cases j with
      | zero => cases q; exact .inl (by simp)
      | succ j => cases q
  rcases h m [a] m hb with ⟨w, m1, G1, e, h1, c', Gn, rfl, k⟩ | ⟨x, fs, m1, G1, e, h1, c', Gn, rfl, k⟩
  · exact .inl ⟨w, m1, _, e, key hm h1, k⟩
  · exact .inr ⟨x, fs, m1, _, e, key hm h1, k⟩
theorem JC_frame0 {F : List W → Sto → Out W} {ws : List W} {K : W → Sg → Prop} {X : XK'} (h : JC [] F ws (fun w G1 => K w (G ++ G1)) (fun x fs G1 => X x fs (G ++ G1))) : JC G F ws K X := by
  have key : ∀ {m0 m m1 : Sto} {S : List Nat} {Gn : Sg}, EnM m0 S G m → EnM m [] Gn m1 → EnM m0 S (G ++ Gn) m1 := by
    intro m0 m m1 S Gn hm h1
    have hlt : ∀ (i : Nat) a d, G[i]? = some (a, d) → a < m.length := fun i a d q => (List.getElem?_eq_some_iff.mp (hm.cel i a d q)).1
    have hnew : ∀ (j : Nat) b d, Gn[j]? = some (b, d) → m.length ≤ b := fun j b d q => by
      rcases h1.loc j b d q with z | z
      · cases z
      · exact z
    refine ⟨fun j b d q => ?_, ?_, fun j b d q => ?_, Nat.le_trans hm.le h1.le, fun b hb hs => ?_⟩
    · by_cases hj : j < G.length
      · rw [List.getElem?_append_left hj] at q
        rw [h1.fr b (hlt j b d q) (by simp)]
        exact hm.cel j b d q
      · rw [List.getElem?_append_right (Nat.le_of_not_lt hj)] at q
        exact h1.cel _ b d q
    · rw [List.map_append, List.nodup_append]
      refine ⟨hm.nd, h1.nd, fun x hx y hy => ?_⟩
      obtain ⟨⟨u, d⟩, hp, rfl⟩ := List.mem_map.mp hx
      obtain ⟨⟨v, d'⟩, hp', rfl⟩ := List.mem_map.mp hy
      obtain ⟨p, hp⟩ := List.getElem?_of_mem hp
      obtain ⟨p', hp'⟩ := List.getElem?_of_mem hp'
      have z1 := hlt p u d hp
      have z2 := hnew p' v d' hp'
      simp only; omega
    · by_cases hj : j < G.length
      · rw [List.getElem?_append_left hj] at q
        exact hm.loc j b d q
      · rw [List.getElem?_append_right (Nat.le_of_not_lt hj)] at q
        exact .inr (Nat.le_trans hm.le (hnew _ b d q))
    · rw [h1.fr b (Nat.lt_of_lt_of_le hb hm.le) (by simp)]
      exact hm.fr b hb hs
  intro m0 S m hm
  have hb : EnM m [] [] m := ⟨fun j b d q => by simp at q, by simp, fun j b d q => by simp at q, Nat.le_refl _, fun b hb hs => rfl⟩
  rcases h m [] m hb with ⟨w, m1, G1, e, h1, k⟩ | ⟨x, fs, m1, G1, e, h1, k⟩
  · exact .inl ⟨w, m1, _, e, key hm h1, k⟩
  · exact .inr ⟨x, fs, m1, _, e, key hm h1, k⟩
/-- from what is reckoned to what is: a def over no cells -/
theorem JC.out {F : List W → Sto → Out W} {ws : List W} {K : W → Sg → Prop} (h : JC [] F ws K XF) (m : Sto) : ∃ w m1 G1, F ws m = .ok w m1 ∧ K w G1 := by
  rcases h m [] m ⟨fun j b d q => by simp at q, by simp, fun j b d q => by simp at q, Nat.le_refl _, fun b hb hs => rfl⟩ with ⟨w, m1, G1, e, _, k⟩ | ⟨x, fs, m1, G1, e, _, k⟩
  · exact ⟨w, m1, G1, e, k⟩
  · exact k.elim
end
theorem JGs_mnil {V : Rho} {G : Sg} {K : Rho → Sg → Prop} (k : K V G) : JGs V G gsNil (([] : List D).map W.d) K := JGs_nil k
theorem JGs_mcons {V : Rho} {G : Sg} {tg : Fg} {K : Rho → Sg → Prop} {gs : List W → Rho → Sto → Option (Rho × Sto)} {x : D} {xs : List D} (h : JG V G tg (.d x) fun V1 G1 => JGs V1 G1 gs (xs.map W.d) K) : JGs V G (gsCons tg gs) ((x :: xs).map W.d) K := JGs_cons h
theorem seqQ_nx {V : Rho} {G : Sg} {s : Fs} {Q : OA → Prop} (h : JS V G s Q) : seqQ s Q (.nx V G) := h
theorem seqQ_ret {w : W} {G : Sg} {s : Fs} {Q : OA → Prop} (h : Q (.ret w G)) : seqQ s Q (.ret w G) := h
theorem seqQ_brk {V : Rho} {G : Sg} {s : Fs} {Q : OA → Prop} (h : Q (.brk V G)) : seqQ s Q (.brk V G) := h
theorem seqQ_cnt {V : Rho} {G : Sg} {s : Fs} {Q : OA → Prop} (h : Q (.cnt V G)) : seqQ s Q (.cnt V G) := h
theorem loopQ_ret {w : W} {G : Sg} {I : Rho → Sg → Prop} {Q : OA → Prop} (h : Q (.ret w G)) : loopQ I Q (.ret w G) := h
theorem loopQ_brk {V : Rho} {G : Sg} {I : Rho → Sg → Prop} {Q : OA → Prop} (h : Q (.nx V G)) : loopQ I Q (.brk V G) := h
theorem loopQ_nx {V : Rho} {G : Sg} {I : Rho → Sg → Prop} {Q : OA → Prop} (h : ∃ V' G', I V' G' ∧ wk V V' ∧ G'.Sublist G) : loopQ I Q (.nx V G) := h
theorem loopQ_cnt {V : Rho} {G : Sg} {I : Rho → Sg → Prop} {Q : OA → Prop} (h : ∃ V' G', I V' G' ∧ wk V V' ∧ G'.Sublist G) : loopQ I Q (.cnt V G) := h
theorem noEq {G : Sg} {x y : W} {K : W → Prop} (h : False) : JO G (gEq x y) K := h.elim
theorem noNe {G : Sg} {x y : W} {K : W → Prop} (h : False) : JO G (gNe x y) K := h.elim
theorem noIn {G : Sg} {x y : W} {K : W → Prop} (h : False) : JO G (gInD x y) K := h.elim
theorem noNin {G : Sg} {x y : W} {K : W → Prop} (h : False) : JO G (gNotInD x y) K := h.elim
theorem noRp {G : Sg} {x : List W} {K : W → Prop} (h : False) : JO G (gRepr x) K := h.elim
theorem noCt {G : Sg} {o : W} {x : List W} {K : W → Prop} (h : False) : JO G (gCount o x) K := h.elim
theorem has0 {p : Nat × Cell} {G : Sg} : (p :: G)[0]? = some p := rfl
theorem has1 {p0 p : Nat × Cell} {G : Sg} : (p0 :: p :: G)[1]? = some p := rfl
theorem has2 {p0 p1 p : Nat × Cell} {G : Sg} : (p0 :: p1 :: p :: G)[2]? = some p := rfl
theorem has3 {p0 p1 p2 p : Nat × Cell} {G : Sg} : (p0 :: p1 :: p2 :: p :: G)[3]? = some p := rfl
theorem has4 {p0 p1 p2 p3 p : Nat × Cell} {G : Sg} : (p0 :: p1 :: p2 :: p3 :: p :: G)[4]? = some p := rfl
theorem has5 {p0 p1 p2 p3 p4 p : Nat × Cell} {G : Sg} : (p0 :: p1 :: p2 :: p3 :: p4 :: p :: G)[5]? = some p := rfl
end DL
open DL PySem
/-! ### the steps -/
local macro_rules
  | `(tactic| subst_eqs) => `(tactic| (repeat' first | exact True.intro | apply And.intro | exact Or.inr rfl | exact Or.inl rfl))
local macro_rules
  | `(tactic| false_or_by_contra) => `(tactic| (repeat' first | exact List.Sublist.refl _ | exact List.nil_sublist _ | apply List.Sublist.cons₂ | apply List.Sublist.cons))
local macro_rules
  | `(tactic| array_mem_dec) => `(tactic| first | assumption | exact has0 | exact has1 | exact has2 | exact has3 | exact has4 | exact has5 | fail "stuck")
local macro_rules
  | `(tactic| bv_omega) => `(tactic| ((try simp only [List.length_cons, List.length_nil, List.length_append, List.length_map, List.length_replicate, List.length_set, line_eq]); omega))
local macro_rules
  | `(tactic| sizeOf_list_dec) => `(tactic| first
  | with_reducible intro _
  | ((with_reducible apply J_var); exact rfl)
  | with_reducible apply J_bin | with_reducible apply J_c
  | with_reducible apply J_cons | with_reducible apply J_nil | with_reducible apply J_call | with_reducible apply J_cb | with_reducible apply J_isT | with_reducible apply J_tup | with_reducible apply J_lst | with_reducible apply J_data | with_reducible apply J_tru
  | with_reducible apply seqQ_nx | with_reducible apply seqQ_ret | with_reducible apply JS_seq | with_reducible apply JS_asg | with_reducible apply JG_n | with_reducible apply JS_if | with_reducible apply JS_ret | with_reducible apply JS_drop | with_reducible apply JS_nx
  | with_reducible apply JU_d | with_reducible apply JU_nil | with_reducible apply JU_cons | with_reducible apply JU_app
  | with_reducible apply J_mt | with_reducible apply J_lc | with_reducible apply J_cell | with_reducible apply J_notT | with_reducible apply J_andT | with_reducible apply J_orT | with_reducible apply J_if | with_reducible apply J_tTru
  | with_reducible apply JS_for | with_reducible apply J_iTup | with_reducible apply J_iSeq | with_reducible apply J_iRng | with_reducible apply J_iEnT | with_reducible apply J_iEnL
  | ((with_reducible apply JG_t); exact rfl) | with_reducible apply JGs_nil | with_reducible apply JGs_cons | with_reducible apply JGs_mcons | with_reducible apply JGs_mnil | with_reducible apply JG_u | with_reducible apply JG_set
  | with_reducible apply seqQ_brk | with_reducible apply seqQ_cnt | with_reducible apply loopQ_ret | with_reducible apply loopQ_brk
  | with_reducible apply JS_retN | with_reducible apply JS_brk | with_reducible apply JS_cnt | with_reducible apply JS_par3 | with_reducible apply JS_parN | with_reducible apply JS_par | with_reducible apply JS_setF | with_reducible apply JS_setC | with_reducible apply JS_dput
  | with_reducible apply J_and | with_reducible apply J_or | with_reducible apply J_not | with_reducible apply J_un | with_reducible apply J_chain | with_reducible apply J_dnew | with_reducible apply J_oNone | with_reducible apply J_oSome | with_reducible apply J_sl | with_reducible apply J_cf | with_reducible apply J_isi
  | with_reducible apply J_look | with_reducible apply J_cat | with_reducible apply J_join | with_reducible apply J_dget | with_reducible apply J_dIn | with_reducible apply J_kvNil | with_reducible apply J_kvCons | with_reducible apply J_disp
  | fail "stuck")
local macro_rules
  | `(tactic| array_get_dec) => `(tactic| first
  | (fail_if_success (with_reducible first | apply noEq | apply noNe | apply noIn | apply noNin | apply noRp | apply noCt)); (with_reducible apply JO_pure); exact fun _ => rfl
  | ((with_reducible apply JO_ixT); exact rfl)
  | ((with_reducible apply JO_ixL); exact rfl)
  | with_reducible apply JO_isN | with_reducible apply JO_notN
  | ((with_reducible apply JO_I); decide)
  | ((with_reducible apply JO_lstC); array_mem_dec) | ((with_reducible apply JO_lenC); array_mem_dec) | ((with_reducible apply JO_tupC); array_mem_dec) | ((with_reducible apply JO_slC); array_mem_dec) | ((with_reducible apply JO_truC); array_mem_dec) | ((with_reducible apply JO_listC); array_mem_dec) | ((with_reducible apply JO_datC); array_mem_dec)
  | ((with_reducible apply JO_addT); bv_omega) | ((with_reducible apply JO_addL); bv_omega)
  | ((with_reducible apply JU_c); array_mem_dec) | ((with_reducible apply JU_fz); array_mem_dec)
  | (apply And.intro; (with_unfolding_all array_mem_dec))
  | ((with_reducible apply And.intro); bv_omega)
  | ((with_reducible apply Exists.intro; apply And.intro); exact rfl)
  | ((with_reducible apply Exists.intro; apply Exists.intro; apply And.intro); exact rfl)
  | ((with_reducible apply Exists.intro; apply Exists.intro; apply Exists.intro; apply And.intro); exact rfl)
  | ((with_reducible apply Exists.intro; apply Exists.intro; apply Exists.intro; apply And.intro); exact rfl; (with_reducible apply And.intro); array_mem_dec)
  | ((with_reducible apply Exists.intro; apply Exists.intro; apply And.intro); array_mem_dec; (with_reducible apply And.intro); bv_omega)
  | ((with_reducible apply And.intro); exact rfl; (with_reducible apply And.intro); decide)
  | ((with_reducible apply And.intro); exact rfl; exact rfl)
  | fail "stuck")
local macro_rules
  | `(tactic| clean_wf) => `(tactic| try dsimp only [List.set_cons_zero, List.set_cons_succ, List.map_cons, List.map_nil, List.cons_append, List.nil_append, wipeR])
/-- as far as it goes -/
local macro_rules
  | `(tactic| and_intros) => `(tactic| (repeat' first | sizeOf_list_dec | array_get_dec) <;> clean_wf)

namespace DL
open PySem L2 PyProof.Rows
theorem rngL0 (n : Nat) : rngL 0 n = (List.range n).map fun i : Nat => PyData.int (i : Nat) := by
  unfold rngL
  apply List.map_congr_left
  intro i _
  rw [Int.zero_add]
theorem rng_mem {n : Nat} {x : D} (h : x ∈ rngL 0 n) : ∃ k : Nat, k < n ∧ x = .int (k : Nat) := by
  rw [rngL0] at h
  obtain ⟨k, hk, rfl⟩ := List.mem_map.mp h
  exact ⟨k, List.mem_range.mp hk, rfl⟩
section
variable {V : Rho} {G : Sg} {tg : Fg} {t : Ft} {e : Fe} {X : XK'} {KL : List D → Sg → Prop}
/-- a comprehension that changes nothing -/
theorem J_lcP {α : Type} {gs : List (Nat × List D)} {xs : List D} (ws : List α) (g h : α → D) (p : α → Bool) (hx : xs = ws.map g) (hz : ws.length ≤ sizeLine) (hg : GrdOk gs G)
    (ht : ∀ a ∈ ws, JG V G tg (.d (g a)) fun V1 G1 => J V1 G1 t (fun b G2 => b = p a ∧ (p a = true → J V1 G2 e (fun w G3 => w = .d (h a) ∧ G3 = G) XF) ∧ (p a = false → G2 = G)) XF)
    (k : KL ((ws.filter p).map h) G) : J V G (fun r m => lcL gs tg t e r xs [] m) KL X := by
  refine J_lcL (I := fun rem acc G' => G' = G ∧ ∃ done todo, ws = done ++ todo ∧ rem = todo.map g ∧ acc = (done.filter p).map h) ?_ ?_ ?_ xs [] G ⟨rfl, [], ws, rfl, hx, rfl⟩
  · rintro rem acc G' ⟨rfl, _⟩; exact hg
  · rintro x rem acc G' ⟨rfl, done, todo, hw, hr, rfl⟩
    cases todo with
    | nil => cases hr
    | cons a todo =>
      simp only [List.map_cons, List.cons.injEq] at hr
      obtain ⟨rfl, rfl⟩ := hr
      intro m0 S r m hv hm
      obtain ⟨r2, m2, V2, G2, e1, h1, h2, q⟩ := ht a (by rw [hw]; simp) m0 S r m hv hm
      refine ⟨r2, m2, V2, G2, e1, h1, h2, q.mono ?_⟩
      rintro b G3 ⟨rfl, q1, q2⟩
      refine ⟨fun hb => (q1 hb).mono ?_, fun hb => ?_⟩
      · rintro w G4 ⟨rfl, rfl⟩
        refine ⟨?_, JU_d ⟨_, ⟨rfl, done ++ [a], todo, by simp [hw], rfl, ?_⟩, List.Sublist.refl _⟩⟩
        · have h1 := List.length_filter_le p done
          have h2 : ws.length = done.length + (todo.length + 1) := by rw [hw]; simp
          rw [List.length_map]; omega
        · rw [List.filter_append, List.map_append]; simp [hb]
      · rw [q2 hb]
        refine ⟨_, ⟨rfl, done ++ [a], todo, by simp [hw], rfl, ?_⟩, List.Sublist.refl _⟩
        rw [List.filter_append, List.map_append]; simp [hb]
  · rintro acc G' ⟨rfl, done, todo, hw, hr, rfl⟩
    have : todo = [] := by
      cases todo with
      | nil => rfl
      | cons _ _ => cases hr
    rw [this, List.append_nil] at hw
    rw [← hw]; exact k
theorem J_lcM {α : Type} {gs : List (Nat × List D)} {xs : List D} (ws : List α) (g h : α → D) (hx : xs = ws.map g) (hz : ws.length ≤ sizeLine) (hg : GrdOk gs G)
    (ht : ∀ a ∈ ws, JG V G tg (.d (g a)) fun V1 G1 => J V1 G1 e (fun w G3 => w = .d (h a) ∧ G3 = G) XF)
    (k : KL (ws.map h) G) : J V G (fun r m => lcL gs tg tTru e r xs [] m) KL X := by
  refine J_lcP ws g h (fun _ => true) hx hz hg (fun a ha => ?_) (by rw [List.filter_eq_self.mpr (fun _ _ => rfl)]; exact k)
  intro m0 S r m hv hm
  obtain ⟨r2, m2, V2, G2, e1, h1, h2, q⟩ := ht a ha m0 S r m hv hm
  exact ⟨r2, m2, V2, G2, e1, h1, h2, J_tTru ⟨rfl, fun _ => q, fun h => nomatch h⟩⟩
end
theorem JG.mono {V : Rho} {G : Sg} {tg : Fg} {w : W} {K K' : Rho → Sg → Prop} (h : JG V G tg w K) (k : ∀ V G, K V G → K' V G) : JG V G tg w K' := fun m0 S r m hv hm => by
  obtain ⟨r2, m2, V2, G2, e1, h1, h2, q⟩ := h m0 S r m hv hm
  exact ⟨r2, m2, V2, G2, e1, h1, h2, k _ _ q⟩
/-- an item that is there -/
theorem JO_ixM {G : Sg} {α : Type} {g : α → D} {ws : List α} {i : Int} {K : W → Prop} (h0 : 0 ≤ i) (h1 : i < ws.length) (k : ∀ a ∈ ws, ws[i.toNat]? = some a → K (.d (g a))) : JO G (gIx (.d (.list (ws.map g))) (.d (.int i))) K := by
  obtain ⟨n, rfl⟩ := Int.eq_ofNat_of_zero_le h0
  have hi : n < ws.length := by omega
  exact JO_ixL (v := g ws[n]) (atI_nat (by rw [List.getElem?_map, List.getElem?_eq_getElem hi]; rfl)) (k _ (List.getElem_mem hi) (by rw [Int.toNat_natCast]; exact List.getElem?_eq_getElem hi))
theorem JO_ixMT {G : Sg} {α : Type} {g : α → D} {ws : List α} {i : Int} {K : W → Prop} (h0 : 0 ≤ i) (h1 : i < ws.length) (k : ∀ a ∈ ws, ws[i.toNat]? = some a → K (.d (g a))) : JO G (gIx (.d (.tuple (ws.map g))) (.d (.int i))) K := by
  obtain ⟨n, rfl⟩ := Int.eq_ofNat_of_zero_le h0
  have hi : n < ws.length := by omega
  exact JO_ixT (v := g ws[n]) (atI_nat (by rw [List.getElem?_map, List.getElem?_eq_getElem hi]; rfl)) (k _ (List.getElem_mem hi) (by rw [Int.toNat_natCast]; exact List.getElem?_eq_getElem hi))
theorem JO_ixMC {G : Sg} {α : Type} {g : α → D} {ws : List α} {a : Nat} {i : Int} {K : W → Prop} (p : Nat) (hp : Has G p a (Cell.lst (ws.map g))) (h0 : 0 ≤ i) (h1 : i < ws.length) (k : ∀ a ∈ ws, ws[i.toNat]? = some a → K (.d (g a))) : JO G (gIx (.c a) (.d (.int i))) K := by
  obtain ⟨n, rfl⟩ := Int.eq_ofNat_of_zero_le h0
  have hi : n < ws.length := by omega
  exact JO_ixC (v := g ws[n]) p hp (atI_nat (by rw [List.getElem?_map, List.getElem?_eq_getElem hi]; rfl)) (k _ (List.getElem_mem hi) (by rw [Int.toNat_natCast]; exact List.getElem?_eq_getElem hi))
/-- any item of a list -/
theorem JO_ixA {G : Sg} {xs : List D} {i : Int} {K : W → Prop} (h0 : 0 ≤ i) (h1 : i < xs.length) (k : ∀ x ∈ xs, K (.d x)) : JO G (gIx (.d (.list xs)) (.d (.int i))) K := by
  obtain ⟨v, e, hv⟩ := atI_lt h0 h1
  exact JO_ixL e (k v hv)
theorem JO_ixAC {G : Sg} {xs : List D} {a : Nat} {i : Int} {K : W → Prop} (p : Nat) (hp : Has G p a (Cell.lst xs)) (h0 : 0 ≤ i) (h1 : i < xs.length) (k : ∀ x ∈ xs, K (.d x)) : JO G (gIx (.c a) (.d (.int i))) K := by
  obtain ⟨v, e, hv⟩ := atI_lt h0 h1
  exact JO_ixC p hp e (k v hv)
def ov (V : Rho) : List Nat → List W → Rho
  | k :: ks, w :: ws => (ov V ks ws).set k (some w)
  | _, _ => V
/-- a loop that carries names (ks), forgets others (vs) -/
theorem JS_forV {V : Rho} {G : Sg} {tg : Fg} {Q : OA → Prop} {gs : List (Nat × List D)} {body : Fs} {xs : List D} (vs ks : List Nat) (I : List D → List W → Sg → Prop)
    (h0 : ∃ ws G', I xs ws G' ∧ wk V (ov (wipeR V vs) ks ws) ∧ G'.Sublist G) (hg : ∀ xs ws G, I xs ws G → GrdOk gs G)
    (ht : ∀ x xs ws G, I (x :: xs) ws G → JG (ov (wipeR V vs) ks ws) G tg (.d x) fun V1 G1 => JS V1 G1 body (loopQ (fun V' G' => ∃ ws', V' = ov (wipeR V vs) ks ws' ∧ I xs ws' G') Q))
    (he : ∀ ws G, I [] ws G → Q (.nx (ov (wipeR V vs) ks ws) G)) : JS V G (forL gs tg body xs) Q := by
  obtain ⟨ws, G', h0, hw, hs⟩ := h0
  exact JS.weak (JS_forL (I := fun xs V1 G1 => ∃ ws, V1 = ov (wipeR V vs) ks ws ∧ I xs ws G1) (fun xs V G h => by obtain ⟨ws, _, h⟩ := h; exact hg xs ws G h)
    (fun x xs V1 G1 h => by obtain ⟨ws, rfl, h⟩ := h; exact ht x xs ws G1 h) (fun V1 G1 h => by obtain ⟨ws, rfl, h⟩ := h; exact he ws G1 h) xs _ G' ⟨ws, rfl, h0⟩) hw hs
/-- .. over a while -/
theorem JS_whileV {V : Rho} {G : Sg} {Q : OA → Prop} {c : Ft} {b : Fs} (n : Nat) (vs ks : List Nat) (I : Nat → List W → Sg → Prop)
    (h0 : ∃ ws G', I n ws G' ∧ wk V (ov (wipeR V vs) ks ws) ∧ G'.Sublist G)
    (ht : ∀ n ws G, I n ws G → J (ov (wipeR V vs) ks ws) G c (fun b' G1 => (b' = true → ∃ n', n = n' + 1 ∧ JS (ov (wipeR V vs) ks ws) G1 b (loopQ (fun V' G' => ∃ ws', V' = ov (wipeR V vs) ks ws' ∧ I n' ws' G') Q)) ∧ (b' = false → Q (.nx (ov (wipeR V vs) ks ws) G1))) (xq (ov (wipeR V vs) ks ws) Q)) :
    JS V G (sWhile c b) Q := by
  obtain ⟨ws, G', h0, hw, hs⟩ := h0
  exact JS.weak (JS_while (I := fun n V1 G1 => ∃ ws, V1 = ov (wipeR V vs) ks ws ∧ I n ws G1) (fun n V1 G1 h => by obtain ⟨ws, rfl, h⟩ := h; exact ht n ws G1 h) n _ G' ⟨ws, rfl, h0⟩) hw hs
theorem J_dget2 {V : Rho} {G : Sg} {f f' f2 : Fe} {K : W → Sg → Prop} {X : XK'} (h : J V G f (fun w G1 => ∃ a i kvs, w = .c a ∧ Has G1 i a (Cell.dk kvs) ∧ J V G1 f' (fun y G2 => J V G2 f2 (fun z G3 => ∃ i kvs k, Has G3 i a (Cell.dk kvs) ∧ keyW y = some k ∧ (∀ d, getK kvs k = some d → K (.d d) G3) ∧ (getK kvs k = none → K z G3)) X) X) X) : J V G (dDGet2 f f' f2) K X :=
  J.bind (h.mono fun w G1 h1 => by
    obtain ⟨a, i, kvs, rfl, e, k⟩ := h1
    intro m0 S r m hv hm
    have hc : dicW (.c a) m = some (a, kvs) := by simp only [dicW_c, hm.cel i a _ e]
    have q : J V G1 (fun r m1 => (f' r m1).bind fun y m2 => (f2 r m2).bind fun z m3 => match dicW (.c a) m3, keyW y with
      | some (_, kvs), some k => Out.ok (match getK kvs k with | some d => W.d d | none => z) m3
      | _, _ => .bad) K X := J.bind (k.mono fun y G2 h2 => J.bind (h2.mono fun z G3 h3 => by
      obtain ⟨i, kvs, k, e, e2, q1, q2⟩ := h3
      intro m0 S r m hv hm
      have hc : dicW (.c a) m = some (a, kvs) := by simp only [dicW_c, hm.cel i a _ e]
      simp only [hc, e2]
      cases hg : getK kvs k with
      | some d => exact .inl ⟨_, m, G3, rfl, hm, q1 d hg⟩
      | none => exact .inl ⟨_, m, G3, rfl, hm, q2 hg⟩))
    have q' := q m0 S r m hv hm
    simp only [hc, Option.elim_some]
    exact q')
theorem J_dget1 {V : Rho} {G : Sg} {f f' : Fe} {K : W → Sg → Prop} {X : XK'} (h : J V G f (fun w G1 => ∃ a i kvs, w = .c a ∧ Has G1 i a (Cell.dk kvs) ∧ J V G1 f' (fun y G2 => ∃ i kvs k, Has G2 i a (Cell.dk kvs) ∧ keyW y = some k ∧ K (.d ((getK kvs k).getD .none)) G2) X) X) : J V G (dDGet1 f f') K X :=
  J.bind (h.mono fun w G1 h1 => by
    obtain ⟨a, i, kvs, rfl, e, k⟩ := h1
    intro m0 S r m hv hm
    have hc : dicW (.c a) m = some (a, kvs) := by simp only [dicW_c, hm.cel i a _ e]
    have q : J V G1 (fun r m1 => (f' r m1).bind fun y m2 => match dicW (.c a) m2, keyW y with
      | some (_, kvs), some k => Out.ok (W.d ((getK kvs k).getD .none)) m2
      | _, _ => .bad) K X := J.bind (k.mono fun y G2 h2 => by
      obtain ⟨i, kvs, k, e, e2, q1⟩ := h2
      intro m0 S r m hv hm
      have hc : dicW (.c a) m = some (a, kvs) := by simp only [dicW_c, hm.cel i a _ e]
      simp only [hc, e2]
      exact .inl ⟨_, m, G2, rfl, hm, q1⟩)
    have q' := q m0 S r m hv hm
    simp only [hc, Option.elim_some]
    exact q')
theorem J_dget2P {V : Rho} {G : Sg} {f f' f2 : Fe} {K : W → Sg → Prop} {X : XK'} (P : D → Prop) (h : J V G f (fun w G1 => ∃ a i kvs, w = .c a ∧ Has G1 i a (Cell.dk kvs) ∧ J V G1 f' (fun y G2 => J V G2 f2 (fun z G3 => ∃ i kvs k z', Has G3 i a (Cell.dk kvs) ∧ keyW y = some k ∧ z = .d z' ∧ (∀ d, getK kvs k = some d → P d) ∧ (getK kvs k = none → P z') ∧ ∀ d, P d → K (.d d) G3) X) X) X) : J V G (dDGet2 f f' f2) K X :=
  J_dget2 (h.mono fun w G1 h1 => by
    obtain ⟨a, i, kvs, q1, q2, q3⟩ := h1
    refine ⟨a, i, kvs, q1, q2, q3.mono fun y G2 h2 => h2.mono fun z G3 h3 => ?_⟩
    obtain ⟨i, kvs, k, z', q4, q5, rfl, q6, q7, q8⟩ := h3
    exact ⟨i, kvs, k, q4, q5, fun d hd => q8 d (q6 d hd), fun hn => q8 z' (q7 hn)⟩)
/-- cells that are not wanted any more -/
theorem JC_less {G : Sg} {F : List W → Sto → Out W} {ws : List W} {K : W → Sg → Prop} {X : XK'} (h : JC G F ws (fun w G1 => ∃ G2, G2.Sublist G1 ∧ K w G2) X) : JC G F ws K X := fun m0 S m hm => by
  rcases h m0 S m hm with ⟨a, m1, G1, e, h1, G2, hs, k⟩ | q
  · exact .inl ⟨a, m1, G2, e, h1.sub hs, k⟩
  · exact .inr q
/-- a def that changes nothing, of whose answer something is known -/
theorem JC_ex {G : Sg} {F : List W → Sto → Out W} {ws : List W} {K : W → Sg → Prop} {X : XK'} (P : W → Prop) (h : ∀ m, ∃ w, F ws m = .ok w m ∧ P w) (k : ∀ w, P w → K w G) : JC G F ws K X := fun m0 S m hm => by
  obtain ⟨w, e, p⟩ := h m
  exact .inl ⟨w, m, G, e, hm, k w p⟩
theorem goodA_map {α : Type} {k n : Nat} {f : α → D} : ∀ {xs : List α}, (∀ x ∈ xs, Good k n (f x)) → GoodA k (n * xs.length) (xs.map f)
  | [], _ => (GoodA.nil).mono (Nat.le_refl _) (Nat.zero_le _)
  | x :: xs, h => (GoodA.cons (h x List.mem_cons_self) (goodA_map fun y hy => h y (List.mem_cons_of_mem _ hy))).mono (Nat.le_refl _) (by rw [List.length_cons, Nat.mul_add]; omega)
theorem goodA_mapL {α : Type} {k n L : Nat} {f : α → D} {xs : List α} (h : ∀ x ∈ xs, Good k n (f x)) (hl : xs.length ≤ L) : GoodA k (n * L) (xs.map f) := (goodA_map h).mono (Nat.le_refl _) (Nat.mul_le_mul_left n hl)
theorem JO_rep {G : Sg} {xs : List D} {n : Nat} {K : W → Prop} (hn : n ≤ 1000) (hx : xs.length ≤ 1000) (k : K (.d (.list (List.replicate n xs).flatten))) : JO G (gRep (.d (.list xs)) (.d (.int (n : Nat)))) K :=
  JO_pure (fun m => by
    have h1 : decide ((0 : Int) ≤ (n : Nat)) = true := decide_eq_true (by omega)
    have h2 : decide (((n : Nat) : Int) ≤ 1000) = true := decide_eq_true (by omega)
    have h3 : decide (xs.length ≤ 1000) = true := decide_eq_true hx
    simp only [gRep, dat_d, h1, h2, h3, Bool.and_self, if_true, Int.toNat_natCast]) k
theorem flat_one {α : Type} (n : Nat) (x : α) : (List.replicate n [x]).flatten = List.replicate n x := by
  induction n with
  | zero => rfl
  | succ n ih => rw [List.replicate_succ, List.flatten_cons, ih]; rfl
theorem JO_neText {G : Sg} {x : D} {k n : Nat} {K : W → Prop} (h : Good k n x) (q : K (.d (.bool false))) : JO G (gNe (.d (.str x.shown)) (.d (.str x.shown))) K := by
  have h2 := h.text
  refine JO_ne (h2.shaped (by decide)) (h2.shaped (by decide)) ?_
  rw [eqv_refl _ h2.fin]
  exact q
/-- two texts that are the same -/
theorem JO_neSame {G : Sg} {x : D} {k n : Nat} {K : W → Prop} (h : Good k n x) (hk : k ≤ 64) (q : K (.d (.bool false))) : JO G (gNe (.d x) (.d x)) K := by
  refine JO_ne (h.shaped hk) (h.shaped hk) ?_
  rw [eqv_refl x h.fin]
  exact q
theorem JO_reprG {G : Sg} {x : D} {k n : Nat} {K : W → Prop} (h : Good k n x) (hk : k ≤ 64) (hn : n ≤ 16777216) (q : K (.d (.str x.shown))) : JO G (gRepr [.d x]) K := JO_repr (h.show hk hn) q
/-- a test: both ways -/
theorem both {b : Bool} {A B : Prop} (h : b = true → A) (h' : b = false → B) : (b = true → A) ∧ (b = false → B) := ⟨h, h'⟩
end DL
open DL PySem
local macro_rules
  | `(tactic| ac_rfl) => `(tactic| try simp only [ov, wipeR, List.set_cons_zero, List.set_cons_succ, List.map_cons, List.map_nil, List.cons_append, List.nil_append])

namespace DL
open PySem L2 PyProof.Rows
section
variable {V : Rho} {G : Sg} {f f' : Fe} {t : Ft} {fa : Fa} {tg tg' : Fg} {Q : OA → Prop} {K : W → Sg → Prop} {X : XK'}
theorem JS_asg2 (h : J V G f (fun w G1 => JG V G1 tg w fun V2 G2 => JG V2 G2 tg' w fun V3 G3 => Q (.nx V3 G3)) (xq V Q)) : JS V G (sAsg2 f tg tg') Q :=
  JS.stm (g := fun w r m => match tg w r m with
    | some (r2, m2) => (match tg' w r2 m2 with | some (r3, m3) => .nx r3 m3 | none => .bad)
    | none => .bad) (h.mono fun w G1 k => by
    intro m0 S r m hv hm
    obtain ⟨r2, m2, V2, G2, e, h1, h2, k⟩ := k m0 S r m hv hm
    obtain ⟨r3, m3, V3, G3, e3, h3, h4, k⟩ := k m0 S r2 m2 h1 h2
    simp only [e, e3]
    exact ⟨.nx V3 G3, ⟨r3, m3, rfl, h3, h4⟩, k⟩)
theorem J_iRev {KS : Src → Sg → Prop} (h : J V G f (fun w G1 => ∃ j, w = .d (.int j) ∧ -(2 ^ 62) ≤ j ∧ j < 2 ^ 62 ∧ KS ⟨rvL j.toNat, []⟩ G1) X) : J V G (iRevRng f) KS X :=
  J.bind (h.mono fun w G1 k => by
    obtain ⟨j, rfl, h1, h2, k⟩ := k
    have e : (decide (-(2 ^ 62) ≤ j) && decide (j < 2 ^ 62)) = true := by rw [decide_eq_true h1, decide_eq_true h2]; rfl
    simp only [e, if_true]
    exact J.ok k)
theorem JO_index {xs : List D} {d : D} {j : Nat} {K : W → Prop} (h1 : SeqAt.shaped (.list xs) = true) (h2 : SeqAt.shaped d = true) (e : (xs.findIdx? fun z => PyData.eqv z d) = some j) (k : K (.d (.int (j : Nat)))) : JO G (gIndex (.d (.list xs)) [.d d]) K :=
  JO_pure (fun m => by simp only [gIndex, dat_d, h1, h2, Bool.and_self, if_true, e, Option.map_some]) k
theorem J_dictP (h : J V G fa (fun ws G1 => JO G1 (gDictP ws) fun kvs => ∀ a, K (.c a) (G1 ++ [(a, Cell.dk (mergeD [] kvs))])) X) : J V G (dDictP fa) K X :=
  J.bind (h.mono fun ws G1 k => by
    intro m0 S r m hv hm
    obtain ⟨kvs, e, k⟩ := k m0 S m hm
    simp only [e]
    exact J.new k m0 S r m hv hm)
theorem JO_dictP {xs : List D} {kvs : List (Key × D)} {K : List (Key × D) → Prop} (e : pairsD xs = some kvs) (k : K kvs) : JO G (gDictP [.d (.list xs)]) K := JO_pure (fun m => by simp only [gDictP, dat_d, e]) k
theorem pairsD_map {α : Type} (kf : α → Key) (g h : α → D) (hk : ∀ a, keyD (g a) = some (kf a)) : ∀ ws : List α, pairsD (ws.map fun a => .tuple [g a, h a]) = some (ws.map fun a => (kf a, h a))
  | [] => rfl
  | a :: ws => by
    rw [List.map_cons]
    unfold pairsD
    simp only [hk, pairsD_map kf g h hk ws, List.map_cons]
theorem allS_map : ∀ ss : List Str, allS (ss.map PyData.str) = some ss
  | [] => rfl
  | s :: ss => by rw [List.map_cons]; unfold allS; rw [allS_map ss]; rfl
theorem JO_sortS {ss : List Str} {K : List D → Prop} (h : ss.length < 64) (k : K ((sortS ss).map .str)) : JO G (gSortS [.d (.list (ss.map .str))]) K :=
  JO_pure (fun m => by simp only [gSortS, dat_d, allS_map, h, if_true]) k
theorem sortS_mem {ss : List Str} {x : Str} : x ∈ sortS ss ↔ x ∈ ss := (List.mergeSort_perm ss leS).mem_iff
theorem sortS_len (ss : List Str) : (sortS ss).length = ss.length := List.length_mergeSort ss
theorem JO_sortD {a : Nat} {kvs : List (Key × D)} {ss : List Str} {K : List D → Prop} (p : Nat) (hp : Has G p a (Cell.dk kvs)) (e : keysS kvs = some ss) (h : ss.length < 64) (k : K ((sortS ss).map .str)) : JO G (gSortD [.c a]) K :=
  JO_at p hp (fun m hm => by simp only [gSortD, dicW_c, hm, e, h, if_true]) k
/-! a dict by a for -/
theorem J_dcL {gs : List (Nat × List D)} {fk fv : Fe} {KL : List (Key × D) → Sg → Prop} (I : List D → List (Key × D) → Sg → Prop) (hg : ∀ xs acc G, I xs acc G → GrdOk gs G)
    (ht : ∀ x xs acc G, I (x :: xs) acc G → JG V G tg (.d x) fun V1 G1 => J V1 G1 t (fun b G2 => (b = true → J V1 G2 fk (fun wk' G3 => J V1 G3 fv (fun w G4 => acc.length < sizeLine ∧ ∃ k, keyW wk' = some k ∧ JU G4 (frz w) fun d G5 => ∃ G6, I xs (setK acc k d) G6 ∧ G6.Sublist G5) XF) XF) ∧ (b = false → ∃ G5, I xs acc G5 ∧ G5.Sublist G2)) XF)
    (he : ∀ acc G, I [] acc G → KL acc G) : ∀ (xs : List D) (acc : List (Key × D)) (G : Sg), I xs acc G → J V G (fun r m => dcL gs tg t fk fv r xs acc m) KL X
  | [], acc, G, h => fun m0 S r m hv hm => .inl ⟨acc, m, G, by simp only [dcL, if_pos ((hg _ _ _ h).grd hm)], hm, he _ _ h⟩
  | x :: xs, acc, G, h => fun m0 S r m hv hm => by
    obtain ⟨r1, m1, V1, G1, e1, hv1, hm1, k⟩ := ht x xs acc G h m0 S r m hv hm
    have hl : dcL gs tg t fk fv r (x :: xs) acc m = match t r1 m1 with
      | .ok true m2 => match fk r1 m2 with
        | .ok k m3 => match fv r1 m3 with
          | .ok w m4 => match keyW k, frz w m4 with
            | some k, some (d, m5) => if acc.length < sizeLine then dcL gs tg t fk fv r xs (setK acc k d) m5 else .bad
            | _, _ => .bad
          | _ => .bad
        | _ => .bad
      | .ok false m2 => dcL gs tg t fk fv r xs acc m2
      | _ => .bad := by
      rw [dcL, if_pos ((hg _ _ _ h).grd hm), e1]
      all_goals rfl
    simp only [hl]
    rcases k m0 S r1 m1 hv1 hm1 with ⟨b, m2, G2, e2, hm2, k⟩ | ⟨_, _, _, _, _, _, k⟩
    · cases b with
      | true =>
        rcases k.1 rfl m0 S r1 m2 hv1 hm2 with ⟨wk', m3, G3, e3, hm3, k⟩ | ⟨_, _, _, _, _, _, k⟩
        · rcases k m0 S r1 m3 hv1 hm3 with ⟨w, m4, G4, e4, hm4, hz, key, ek, k⟩ | ⟨_, _, _, _, _, _, k⟩
          · obtain ⟨d, m5, G5, e5, hm5, G6, k, hs⟩ := k m0 S m4 hm4
            simp only [e2, e3, e4, ek, e5, hz, if_true]
            exact J_dcL I hg ht he xs _ G6 k m0 S r m5 hv (hm5.sub hs)
          · exact k.elim
        · exact k.elim
      | false =>
        obtain ⟨G5, k, hs⟩ := k.2 rfl
        simp only [e2]
        exact J_dcL I hg ht he xs _ G5 k m0 S r m2 hv (hm2.sub hs)
    · exact k.elim
theorem J_dc {src : Fi} {fk fv : Fe} {vs : List Nat} (h : J V G src (fun s G1 => J (wipeR V vs) G1 (fun r m => dcL s.gs tg t fk fv r s.items [] m) (fun kvs G2 => ∀ a, K (.c a) (G2 ++ [(a, Cell.dk kvs)])) X) X) : J V G (dDc src tg t fk fv vs) K X := by
  intro m0 S r m hv hm
  rcases h m0 S r m hv hm with ⟨s, m1, G1, e1, hm1, k⟩ | ⟨c, fs, m1, G1, e1, hm1, k⟩
  · have hl : dDc src tg t fk fv vs r m = (dcL s.gs tg t fk fv (wipeR r vs) s.items [] m1).bind fun kvs m2 => .ok (.c m2.length) (m2 ++ [.dk kvs]) := by unfold dDc; simp only [e1, Out.bind_ok]
    rw [hl]
    exact J.bind (o := fun r m => dcL s.gs tg t fk fv r s.items [] m) (g := fun (kvs : List (Key × D)) _ (m2 : Sto) => Out.ok (W.c m2.length) (m2 ++ [Cell.dk kvs])) (k.mono fun kvs G2 k2 => J.new k2) m0 S (wipeR r vs) m1 (hv.wipe vs) hm1
  · exact .inr ⟨c, fs, m1, G1, by unfold dDc; simp only [e1, Out.bind_exc], hm1, k⟩
def foldK {α : Type} (kf : α → Key) (h : α → D) (ws : List α) : List (Key × D) := ws.foldl (fun acc a => setK acc (kf a) (h a)) []
theorem foldK_snoc {α : Type} (kf : α → Key) (h : α → D) (ws : List α) (a : α) : foldK kf h (ws ++ [a]) = setK (foldK kf h ws) (kf a) (h a) := by unfold foldK; rw [List.foldl_append]; rfl
theorem setK_len (kvs : List (Key × D)) (k : Key) (d : D) : (setK kvs k d).length ≤ kvs.length + 1 := by
  unfold setK
  split
  · rw [List.length_map]; omega
  · simp
theorem foldl_setK_len {α : Type} (kf : α → Key) (h : α → D) : ∀ (ws : List α) (acc : List (Key × D)), (ws.foldl (fun acc a => setK acc (kf a) (h a)) acc).length ≤ acc.length + ws.length
  | [], _ => Nat.le_refl _
  | a :: ws, acc => by
    have h1 := foldl_setK_len kf h ws (setK acc (kf a) (h a))
    have h2 := setK_len acc (kf a) (h a)
    rw [List.foldl_cons, List.length_cons]; omega
theorem foldK_len {α : Type} (kf : α → Key) (h : α → D) (ws : List α) : (foldK kf h ws).length ≤ ws.length := by
  have := foldl_setK_len kf h ws []
  simpa [foldK] using this
/-- a dict of what is told of each of ws -/
theorem J_dcP {α : Type} {fk fv : Fe} {gs : List (Nat × List D)} {xs : List D} {KL : List (Key × D) → Sg → Prop} (ws : List α) (g h : α → D) (kf : α → Key) (hx : xs = ws.map g) (hz : ws.length < sizeLine) (hg : GrdOk gs G)
    (ht : ∀ a ∈ ws, JG V G tg (.d (g a)) fun V1 G1 => J V1 G1 fk (fun wk' G2 => keyW wk' = some (kf a) ∧ J V1 G2 fv (fun w G3 => w = .d (h a) ∧ G3 = G) XF) XF)
    (k : KL (foldK kf h ws) G) : J V G (fun r m => dcL gs tg tTru fk fv r xs [] m) KL X := by
  refine J_dcL (I := fun rem acc G' => G' = G ∧ ∃ done todo, ws = done ++ todo ∧ rem = todo.map g ∧ acc = foldK kf h done) ?_ ?_ ?_ xs [] G ⟨rfl, [], ws, rfl, hx, rfl⟩
  · rintro rem acc G' ⟨rfl, _⟩; exact hg
  · rintro x rem acc G' ⟨rfl, done, todo, hw, hr, rfl⟩
    cases todo with
    | nil => cases hr
    | cons a todo =>
      simp only [List.map_cons, List.cons.injEq] at hr
      obtain ⟨rfl, rfl⟩ := hr
      intro m0 S r m hv hm
      obtain ⟨r2, m2, V2, G2, e1, h1, h2, q⟩ := ht a (by rw [hw]; simp) m0 S r m hv hm
      refine ⟨r2, m2, V2, G2, e1, h1, h2, J_tTru ⟨fun _ => q.mono ?_, fun h => nomatch h⟩⟩
      rintro wk' G3 ⟨q1, q2⟩
      refine q2.mono ?_
      rintro w G4 ⟨rfl, rfl⟩
      have hl := foldK_len kf h done
      have h2 : ws.length = done.length + (todo.length + 1) := by rw [hw]; simp
      exact ⟨by omega, kf a, q1, JU_d ⟨_, ⟨rfl, done ++ [a], todo, by simp [hw], rfl, (foldK_snoc kf h done a).symm⟩, List.Sublist.refl _⟩⟩
  · rintro acc G' ⟨rfl, done, todo, hw, hr, rfl⟩
    have : todo = [] := by
      cases todo with
      | nil => rfl
      | cons _ _ => cases hr
    rw [this, List.append_nil] at hw
    rw [← hw]; exact k
end
theorem getK_foldl {α : Type} (kf : α → Key) (h : α → D) (j : Key) (d : D) : ∀ (ws : List α) (acc : List (Key × D)), (∀ a ∈ ws, kf a = j → h a = d) → ((∃ a ∈ ws, kf a = j) ∨ getK acc j = some d) → getK (ws.foldl (fun acc a => setK acc (kf a) (h a)) acc) j = some d
  | [], acc, _, h2 => by
    rcases h2 with ⟨a, ha, _⟩ | h2
    · cases ha
    · exact h2
  | a :: ws, acc, h1, h2 => by
    rw [List.foldl_cons]
    refine getK_foldl kf h j d ws _ (fun b hb => h1 b (List.mem_cons_of_mem _ hb)) ?_
    by_cases e : kf a = j
    · exact .inr (by rw [getK_set, if_pos e.symm, h1 a List.mem_cons_self e])
    · rcases h2 with ⟨b, hb, eb⟩ | h2
      · rcases List.mem_cons.mp hb with rfl | hb
        · exact absurd eb e
        · exact .inl ⟨b, hb, eb⟩
      · exact .inr (by rw [getK_set, if_neg fun z => e z.symm]; exact h2)
/-- what a dict by a for tells: of keys that are told one way -/
theorem getK_foldK {α : Type} {kf : α → Key} {h : α → D} {ws : List α} {a : α} (ha : a ∈ ws) (hu : ∀ b ∈ ws, kf b = kf a → h b = h a) : getK (foldK kf h ws) (kf a) = some (h a) :=
  getK_foldl kf h (kf a) (h a) ws [] hu (.inl ⟨a, ha, rfl⟩)
theorem mergeD_map {α : Type} (kf : α → Key) (h : α → D) (ws : List α) : mergeD [] (ws.map fun a => (kf a, h a)) = foldK kf h ws := by
  unfold mergeD foldK
  rw [List.foldl_map]
/-- a def over one cell that it may change and others (R) that it reads -/
theorem JC_frameM {G R : Sg} {F : List W → Sto → Out W} {ws : List W} {K : W → Sg → Prop} {X : XK'} {i a : Nat} {c : Cell} (hi : Has G i a c) (hs : ((a, c) :: R).Sublist G)
    (h : JC ((a, c) :: R) F ws (fun w G1 => ∃ c' Gn, G1 = (a, c') :: (R ++ Gn) ∧ K w (G.set i (a, c') ++ Gn)) XF) : JC G F ws K X := by
  intro m0 S m hm
  have hsub := hm.sub hs
  have hb : EnM m (((a, c) :: R).map (·.1)) ((a, c) :: R) m := ⟨hsub.cel, hsub.nd, fun j b d q => .inl (List.mem_map.mpr ⟨(b, d), List.mem_of_getElem? q, rfl⟩), Nat.le_refl _, fun b hb hs => rfl⟩
  rcases h m _ m hb with ⟨w, m1, G1, e, h1, c', Gn, rfl, k⟩ | ⟨x, fs, m1, G1, e, h1, hx⟩
  · refine .inl ⟨w, m1, _, e, ?_, k⟩
    have ha := hm.cel i a c hi
    have hgl : i < G.length := (List.getElem?_eq_some_iff.mp hi).1
    have hlt : ∀ (i : Nat) a d, G[i]? = some (a, d) → a < m.length := fun i a d q => (List.getElem?_eq_some_iff.mp (hm.cel i a d q)).1
    have hmap : (G.set i (a, c')).map (·.1) = G.map (·.1) := by
      rw [List.map_set]
      apply List.ext_getElem?
      intro j
      by_cases hj : i = j
      · subst hj
        rw [List.getElem?_set_self (by simpa using hgl), List.getElem?_map, hi]; rfl
      · rw [List.getElem?_set_ne hj]
    have hnd := h1.nd
    rw [List.map_cons, List.map_append, List.nodup_cons, List.nodup_append] at hnd
    have hnew : ∀ (j : Nat) b d, Gn[j]? = some (b, d) → m.length ≤ b := fun j b d q => by
      have hj : ((a, c') :: (R ++ Gn))[R.length + 1 + j]? = some (b, d) := by
        rw [show R.length + 1 + j = (R.length + j) + 1 by omega, List.getElem?_cons_succ, List.getElem?_append_right (by omega), show R.length + j - R.length = j by omega]; exact q
      rcases h1.loc _ b d hj with z | z
      · rw [List.map_cons] at z
        have hbm : b ∈ Gn.map (·.1) := List.mem_map.mpr ⟨(b, d), List.mem_of_getElem? q, rfl⟩
        rcases List.mem_cons.mp z with z | z
        · exact absurd (by rw [← z]; exact List.mem_append.mpr (.inr hbm)) hnd.1
        · exact absurd rfl (hnd.2.2.2 b z b hbm)
      · exact z
    have hold : ∀ (j : Nat) b d, G[j]? = some (b, d) → b ≠ a → m1[b]? = some d := fun j b d q hne => by
      by_cases hr : b ∈ R.map (·.1)
      · obtain ⟨⟨b', d'⟩, hp, hbb⟩ := List.mem_map.mp hr
        simp only at hbb
        subst hbb
        obtain ⟨k', hk⟩ := List.getElem?_of_mem (hs.mem (List.mem_cons_of_mem _ hp))
        have e1 := hm.cel k' b' d' hk
        have e2 := hm.cel j b' d q
        rw [e1] at e2; cases e2
        obtain ⟨k2, hk2⟩ := List.getElem?_of_mem hp
        exact h1.cel (k2 + 1) b' d (by rw [List.getElem?_cons_succ, List.getElem?_append_left (List.getElem?_eq_some_iff.mp hk2).1]; exact hk2)
      · rw [h1.fr b (hlt j b d q) (by rw [List.map_cons]; intro z; rcases List.mem_cons.mp z with z | z; exact hne z; exact hr z)]
        exact hm.cel j b d q
    refine ⟨fun j b d q => ?_, ?_, fun j b d q => ?_, Nat.le_trans hm.le h1.le, fun b hb hs' => ?_⟩
    · by_cases hj : j < G.length
      · rw [List.getElem?_append_left (by simpa using hj)] at q
        by_cases hij : i = j
        · subst hij
          rw [List.getElem?_set_self hgl] at q
          cases q
          exact h1.cel 0 a c' rfl
        · rw [List.getElem?_set_ne hij] at q
          refine hold j b d q fun z => ?_
          have e1 : (G.map (·.1))[i]? = some a := by rw [List.getElem?_map, hi]; rfl
          have e2 : (G.map (·.1))[j]? = some b := by rw [List.getElem?_map, q]; rfl
          obtain ⟨p1, e1⟩ := List.getElem?_eq_some_iff.mp e1
          obtain ⟨p2, e2⟩ := List.getElem?_eq_some_iff.mp e2
          exact hij ((List.getElem_inj hm.nd).mp (by rw [e1, e2, z]))
      · rw [List.getElem?_append_right (by simpa using Nat.le_of_not_lt hj)] at q
        have hj' : ((a, c') :: (R ++ Gn))[R.length + 1 + (j - (G.set i (a, c')).length)]? = some (b, d) := by
          rw [show R.length + 1 + (j - (G.set i (a, c')).length) = (R.length + (j - (G.set i (a, c')).length)) + 1 by omega, List.getElem?_cons_succ, List.getElem?_append_right (by omega), show R.length + (j - (G.set i (a, c')).length) - R.length = j - (G.set i (a, c')).length by omega]; exact q
        exact h1.cel _ b d hj'
    · rw [List.map_append, hmap, List.nodup_append]
      refine ⟨hm.nd, hnd.2.2.1, fun x hx y hy => ?_⟩
      obtain ⟨⟨u, d⟩, hp, rfl⟩ := List.mem_map.mp hx
      obtain ⟨⟨v, d'⟩, hp', rfl⟩ := List.mem_map.mp hy
      obtain ⟨q, hp⟩ := List.getElem?_of_mem hp
      obtain ⟨q', hp'⟩ := List.getElem?_of_mem hp'
      have z1 := hlt q u d hp
      have z2 := hnew q' v d' hp'
      simp only; omega
    · by_cases hj : j < G.length
      · rw [List.getElem?_append_left (by simpa using hj)] at q
        by_cases hij : i = j
        · subst hij
          rw [List.getElem?_set_self hgl] at q
          cases q
          exact hm.loc i a c hi
        · rw [List.getElem?_set_ne hij] at q
          exact hm.loc j b d q
      · rw [List.getElem?_append_right (by simpa using Nat.le_of_not_lt hj)] at q
        exact .inr (Nat.le_trans hm.le (hnew _ b d q))
    · rw [h1.fr b (Nat.lt_of_lt_of_le hb hm.le) fun z => ?_]
      · exact hm.fr b hb hs'
      · obtain ⟨⟨u, d⟩, hp, rfl⟩ := List.mem_map.mp z
        obtain ⟨q, hp⟩ := List.getElem?_of_mem hp
        rcases hsub.loc q u d hp with z | z
        · exact hs' z
        · simp only at hb; omega
  · exact hx.elim
end DL
open DL PySem
local macro_rules
  | `(tactic| sizeOf_list_dec) => `(tactic| with_reducible first | apply JS_asg2 | apply J_iRev | apply J_dictP | apply J_dc)
local macro_rules
  | `(tactic| array_get_dec) => `(tactic| first
    | ((with_reducible refine And.intro (a := @LE.le Int _ _ _) ?_ ?_); bv_omega)
    | ((with_reducible refine And.intro (a := @LT.lt Int _ _ _) ?_ ?_); bv_omega)
    | ((with_reducible apply JO_ixC); array_mem_dec; exact rfl)
    | ((with_reducible apply Exists.intro; apply Exists.intro; apply Exists.intro; apply Exists.intro; apply And.intro); exact rfl; (with_reducible apply And.intro); exact rfl; (with_reducible apply And.intro); array_mem_dec)
    | ((with_reducible apply Exists.intro; apply Exists.intro; apply Exists.intro; apply And.intro); array_mem_dec; (with_reducible apply And.intro); exact rfl)
    | fail "stuck")

namespace DL
open PySem L2 PyProof.Rows
section
variable {V : Rho} {G : Sg} {K : W → Sg → Prop} {X : XK'} {fa : Fa} {fk : Fe} {dws : List W}
theorem J_callK {F : List W → Sto → Out W} (h : J V G fa (fun ws G1 => JC G1 F (ws ++ dws) K X) X) : J V G (dCallK dws F fa) K X :=
  J.bind (h.mono fun ws _ h1 => fun m0 S r m _ hm => h1 m0 S m hm)
theorem J_callW {F : List W → Sto → Out W} (h : J V G fa (fun ws G1 => J V G1 fk (fun w G2 => JC G2 F (ws ++ [w]) K X) X) X) : J V G (dCallW F fa fk) K X :=
  J.bind (h.mono fun ws _ h1 => J.bind (h1.mono fun w _ h2 => fun m0 S r m _ hm => h2 m0 S m hm))
end
end DL
open DL PySem
local macro_rules
  | `(tactic| sizeOf_list_dec) => `(tactic| with_reducible first | apply J_callK | apply J_callW)

/-! zip(xs, ys, strict=True) of two tuples of one length: the machine's side -/
namespace DZ
open PySem PySem.Spec PyProof.Rows L2
abbrev ZS (h : Heap) (z TI TO : Addr) (f0 : Value) : Prop := h.get? z = some { cls := .type "zip", dict := none, data := .fields #[f0, .bool false, .bool true, .ref TI, .ref TO], slots := #[] }
section
variable {prog : Program} {w : World} {A : Around} {E : Value → Shared → Prop} {s : Shared}
theorem draw_item {it l : Addr} {i : Nat} {xs : Array Value} {x : Value} {Q : Option Value → Shared → Prop} (hi : s.heap.IsTupleIter it l i) (hl : s.heap.IsTuple l xs) (hx : xs[i]? = some x)
    (q : ∀ g, g.IsTupleIter it l (i + 1) → Heap.SameBut it s.heap g → Q (some x) { s with heap := g }) : wpAny (model prog w) A (Builtin.SmallTypes.nextOrEnd (.ref it)) Q E s := by
  unfold Builtin.SmallTypes.nextOrEnd
  exact wpAny_bind (wpAny_attempt (RZ.nextOf_tuple_item hi hl hx fun g a b => wpAny_pure (q g a b)))
theorem draw_end {it l : Addr} {i : Nat} {xs : Array Value} {Q : Option Value → Shared → Prop} (hh : A.handled = none) (hi : s.heap.IsTupleIter it l i) (hl : s.heap.IsTuple l xs) (hx : xs[i]? = none)
    (q : ∀ g, Heap.ExtBut it s.heap g → Q none { s with heap := g }) : wpAny (model prog w) A (Builtin.SmallTypes.nextOrEnd (.ref it)) Q E s := by
  unfold Builtin.SmallTypes.nextOrEnd
  refine wpAny_bind (wpAny_attempt (RZ.nextOf_tuple_end hh hi hl hx fun g e hb he => ?_))
  obtain ⟨o, ho, hc⟩ := he
  exact wpAny_bind (wpAny_isInstance (T := "StopIteration") (b := true) ⟨o, ho, hc⟩ isSubtype_stop (wpAny_pure (q g hb)))
theorem stop_c {Q : Fin → Shared → Prop} (hh : A.handled = none) (q : ∀ g e, (∀ c o, s.heap.get? c = some o → g.get? c = some o) → (∃ o, g.get? e = some o ∧ o.cls = .type "StopIteration") → E (.ref e) { s with heap := g }) :
    wpAny (model prog w) A (Builtin.SmallTypes.stopIteration) Q E s := by
  show wpAny _ _ (newExc (.type "StopIteration") [] >>= _) _ _ _
  refine wpAny_bind ?_; simp only [newExc, newTuple]
  refine wpAny_bind (wpAny_newObj_type ?_ (by size_fits)); refine wpAny_bind (m := firstArgMember _ _) (wpAny_of_eq (a := Value.none) (by first | rfl | (simp only [firstArgMember]; rfl)) ?_)
  refine wpAny_newObj_type ?_ (by size_fits); simp only [raiseNew]; refine wpAny_bind (wpAny_handled ?_); rw [hh]
  refine wpAny_bind (wpAny_pure (wpAny_throw ?_))
  exact q _ _ (fun c o e => Heap.get?_push_of_some _ (Heap.get?_push_of_some _ e)) ⟨_, Heap.get?_push_size _ rfl, rfl⟩
/-- both have one more -/
theorem zs_item {z TI TO i1 i2 l1 l2 : Addr} {k : Nat} {xs ys : Array Value} {x y a b : Value} {Q : Value → Shared → Prop} (D : ZipApart z TI TO i1 i2 l1 l2)
    (hz : ZS s.heap z TI TO .none) (hI : IsPair s.heap TI (.ref i1) (.ref i2)) (hO : IsPair s.heap TO a b)
    (h1 : s.heap.IsTupleIter i1 l1 k) (h2 : s.heap.IsTupleIter i2 l2 k) (t1 : s.heap.IsTuple l1 xs) (t2 : s.heap.IsTuple l2 ys) (hx : xs[k]? = some x) (hy : ys[k]? = some y)
    (q : ∀ g, ZS g z TI TO (rawInt s.heap.objs.size) → IsPair g TO x y → g.IsTupleIter i1 l1 (k + 1) → g.IsTupleIter i2 l2 (k + 1) → IsPair g s.heap.objs.size x y → g.objs.size = s.heap.objs.size + 1 →
      (∀ c o, c ≠ z → c ≠ TO → c ≠ i1 → c ≠ i2 → s.heap.get? c = some o → g.get? c = some o) → Q (.ref s.heap.objs.size) { s with heap := g }) :
    wpAny (model prog w) A (Builtin.«zip.__next__» ⟨[.ref z], []⟩) (fun fin s' => ∃ v, fin = .done (.ret v) ∧ Q v s') E s := by
  show wpAny _ _ (field (.ref z) 2 >>= _) _ _ _
  refine wpAny_bind (wpAny_field hz rfl (x := .bool true) rfl ?_)
  show wpAny _ _ (field (.ref z) 3 >>= _) _ _ _
  refine wpAny_bind (wpAny_field hz rfl (x := .ref TI) rfl (wpAny_bind (wpAny_seqItems hI rfl ?_)))
  show wpAny _ _ (Builtin.SmallTypes.ownedTupleIsFree (.ref z) >>= _) _ _ _
  refine wpAny_bind ?_; unfold Builtin.SmallTypes.ownedTupleIsFree
  refine wpAny_bind (wpAny_field hz rfl (x := .none) rfl (wpAny_pure ?_)); simp only [if_true]
  refine wpAny_bind (wpAny_rule (wpAny_bind (wpAny_field hz rfl (x := .ref TO) rfl (wpAny_bind (wpAny_setField_rec hz (by simp) fun g1 z1 s1 => ?_)))))
  replace z1 : ZS g1 z TI TO .ellipsis := z1
  refine wpAny_bind ?_; simp only [List.zipIdx_cons, List.zipIdx_nil, List.forIn_cons, List.forIn_nil]
  refine wpAny_bind (wpAny_bind (wpAny_onRaise ?_)); show wpAny _ _ (Builtin.SmallTypes.nextOrEnd (.ref i1)) _ _ _
  refine draw_item (h1.extBut s1.extBut D.i1z) (t1.extBut s1.extBut D.l1z) hx fun g2 h12 s2 => ?_
  have O2 : IsPair g2 TO a b := s2.extBut _ _ D.TOi1 (s1.extBut _ _ D.TOz hO)
  refine wpAny_bind (wpAny_seqItems O2 rfl (wpAny_bind (wpAny_updateSeq_pair O2 fun g3 O3 s3 => ?_)))
  replace O3 : IsPair g3 TO x b := O3
  refine wpAny_bind (wpAny_letGo (wpAny_pure (wpAny_bind (wpAny_bind (wpAny_onRaise ?_))))); show wpAny _ _ (Builtin.SmallTypes.nextOrEnd (.ref i2)) _ _ _
  refine draw_item (((h2.extBut s1.extBut D.i2z).extBut s2.extBut D.i12.symm).extBut s3.extBut D.TOi2.symm) (((t2.extBut s1.extBut D.l2z).extBut s2.extBut D.l2i1).extBut s3.extBut D.l2TO) hy fun g4 h24 s4 => ?_
  have O4 : IsPair g4 TO x b := s4.extBut _ _ D.TOi2 O3
  refine wpAny_bind (wpAny_seqItems O4 rfl (wpAny_bind (wpAny_updateSeq_pair O4 fun g5 O5 s5 => ?_)))
  replace O5 : IsPair g5 TO x y := O5
  refine wpAny_bind (wpAny_letGo (wpAny_pure (wpAny_pure (wpAny_bind (wpAny_seqItems O5 rfl (wpAny_bind (wpAny_newTuple ?_)))))))
  have sz : g5.objs.size = s.heap.objs.size := by rw [s5.1, s4.1, s3.1, s2.1, s1.1]
  have z5 : ZS g5 z TI TO .ellipsis := s5.extBut _ _ D.TOz.symm (s4.extBut _ _ D.i2z.symm (s3.extBut _ _ D.TOz.symm (s2.extBut _ _ D.i1z.symm z1)))
  have k5 : ∀ c o, c ≠ z → c ≠ TO → c ≠ i1 → c ≠ i2 → s.heap.get? c = some o → g5.get? c = some o := fun c o c1 c2 c3 c4 e => s5.extBut _ _ c2 (s4.extBut _ _ c4 (s3.extBut _ _ c2 (s2.extBut _ _ c3 (s1.extBut _ _ c1 e))))
  have h15 : g5.IsTupleIter i1 l1 (k + 1) := ((h12.extBut s3.extBut D.TOi1.symm).extBut s4.extBut D.i12).extBut s5.extBut D.TOi1.symm
  have h25 : g5.IsTupleIter i2 l2 (k + 1) := h24.extBut s5.extBut D.TOi2.symm
  have zl : z < g5.objs.size := Heap.lt_size z5
  show wpAny _ _ (Builtin.SmallTypes.ownedTupleHandOut (.ref z) (.ref g5.objs.size) >>= _) _ _ _
  refine wpAny_bind ?_; unfold Builtin.SmallTypes.ownedTupleHandOut
  have z6 : ZS (g5.push { cls := .type "tuple", data := .seq #[x, y] }) z TI TO .ellipsis := Heap.get?_push_of_some _ z5
  refine wpAny_bind (wpAny_setField_rec z6 (by simp) fun g7 z7 s7 => ?_)
  replace z7 : ZS g7 z TI TO (rawInt g5.objs.size) := z7
  refine wpAny_setField_rec z7 (by simp) fun g8 z8 s8 => ?_
  replace z8 : ZS g8 z TI TO (rawInt g5.objs.size) := z8
  have up : ∀ c o, c ≠ z → g5.get? c = some o → g8.get? c = some o := fun c o c1 e => s8.extBut _ _ c1 (s7.extBut _ _ c1 (Heap.get?_push_of_some _ e))
  have T8 : IsPair g8 g5.objs.size x y := s8.extBut _ _ (Nat.ne_of_gt zl) (s7.extBut _ _ (Nat.ne_of_gt zl) (Heap.get?_push_size _ rfl))
  have y8 : g8.objs.size = g5.objs.size + 1 := by rw [s8.1, s7.1, Heap.size_push]
  rw [sz] at z8 T8 y8; refine wpAny_pure ⟨_, rfl, ?_⟩; show Q (.ref g5.objs.size) _; rw [sz]
  exact q g8 z8 (up _ _ D.TOz O5) (h15.at fun o e => up _ o D.i1z e) (h25.at fun o e => up _ o D.i2z e) T8 y8 fun c o c1 c2 c3 c4 e => up c o c1 (k5 c o c1 c2 c3 c4 e)
/-- both are at their end -/
theorem zs_end {z TI TO i1 i2 l1 l2 : Addr} {k : Nat} {xs ys : Array Value} {a b : Value} {Q : Fin → Shared → Prop} (hh : A.handled = none) (D : ZipApart z TI TO i1 i2 l1 l2)
    (hz : ZS s.heap z TI TO .none) (hI : IsPair s.heap TI (.ref i1) (.ref i2)) (hO : IsPair s.heap TO a b)
    (h1 : s.heap.IsTupleIter i1 l1 k) (h2 : s.heap.IsTupleIter i2 l2 k) (t1 : s.heap.IsTuple l1 xs) (t2 : s.heap.IsTuple l2 ys) (hx : xs[k]? = none) (hy : ys[k]? = none)
    (q : ∀ g e, (∀ c o, c ≠ z → c ≠ TO → c ≠ i1 → c ≠ i2 → s.heap.get? c = some o → g.get? c = some o) → (∃ o, g.get? e = some o ∧ o.cls = .type "StopIteration") → E (.ref e) { s with heap := g }) :
    wpAny (model prog w) A (Builtin.«zip.__next__» ⟨[.ref z], []⟩) Q E s := by
  show wpAny _ _ (field (.ref z) 2 >>= _) _ _ _
  refine wpAny_bind (wpAny_field hz rfl (x := .bool true) rfl ?_)
  show wpAny _ _ (field (.ref z) 3 >>= _) _ _ _
  refine wpAny_bind (wpAny_field hz rfl (x := .ref TI) rfl (wpAny_bind (wpAny_seqItems hI rfl ?_)))
  show wpAny _ _ (Builtin.SmallTypes.ownedTupleIsFree (.ref z) >>= _) _ _ _
  refine wpAny_bind ?_; unfold Builtin.SmallTypes.ownedTupleIsFree
  refine wpAny_bind (wpAny_field hz rfl (x := .none) rfl (wpAny_pure ?_)); simp only [if_true]
  refine wpAny_bind (wpAny_rule (wpAny_bind (wpAny_field hz rfl (x := .ref TO) rfl (wpAny_bind (wpAny_setField_rec hz (by simp) fun g1 z1 s1 => ?_)))))
  replace z1 : ZS g1 z TI TO .ellipsis := z1
  refine wpAny_bind ?_; simp only [List.zipIdx_cons, List.zipIdx_nil, List.forIn_cons, List.forIn_nil]
  refine wpAny_bind (wpAny_bind (wpAny_onRaise ?_)); show wpAny _ _ (Builtin.SmallTypes.nextOrEnd (.ref i1)) _ _ _
  refine draw_end hh (h1.extBut s1.extBut D.i1z) (t1.extBut s1.extBut D.l1z) hx fun g2 s2 => ?_
  have z2 : ZS g2 z TI TO .ellipsis := s2 _ _ D.i1z.symm z1
  refine wpAny_bind (wpAny_setField_rec z2 (by simp) fun g3 z3 s3 => ?_)
  refine wpAny_bind (wpAny_bind ?_)
  simp only [List.drop_succ_cons, List.drop_zero, List.zipIdx_cons, List.zipIdx_nil, List.forIn_cons, List.forIn_nil]
  have up3 : ∀ c o, c ≠ z → c ≠ i1 → s.heap.get? c = some o → g3.get? c = some o := fun c o c1 c3 e => s3.extBut _ _ c1 (s2 _ _ c3 (s1.extBut _ _ c1 e))
  refine wpAny_bind (wpAny_bind (draw_end hh (h2.at fun o e => up3 _ o D.i2z D.i12.symm e) (t2.at fun o e => up3 _ o D.l2z D.l2i1 e) hy fun g4 s4 => ?_))
  show wpAny _ _ (pure (ForInStep.yield PUnit.unit)) _ _ _
  refine wpAny_pure (wpAny_pure (wpAny_bind (wpAny_rule (stop_c hh fun g e s5 he => ?_))))
  exact q g e (fun c o c1 c2 c3 c4 e => s5 c o (s4 _ _ c4 (up3 c o c1 c3 e))) he
theorem next_item {z TI TO i1 i2 l1 l2 : Addr} {k : Nat} {xs ys : Array Value} {x y a b : Value} {Q : Option Value → Shared → Prop} (D : ZipApart z TI TO i1 i2 l1 l2)
    (hz : ZS s.heap z TI TO .none) (hI : IsPair s.heap TI (.ref i1) (.ref i2)) (hO : IsPair s.heap TO a b)
    (h1 : s.heap.IsTupleIter i1 l1 k) (h2 : s.heap.IsTupleIter i2 l2 k) (t1 : s.heap.IsTuple l1 xs) (t2 : s.heap.IsTuple l2 ys) (hx : xs[k]? = some x) (hy : ys[k]? = some y)
    (q : ∀ g, ZS g z TI TO (rawInt s.heap.objs.size) → IsPair g TO x y → g.IsTupleIter i1 l1 (k + 1) → g.IsTupleIter i2 l2 (k + 1) → IsPair g s.heap.objs.size x y → g.objs.size = s.heap.objs.size + 1 →
      (∀ c o, c ≠ z → c ≠ TO → c ≠ i1 → c ≠ i2 → s.heap.get? c = some o → g.get? c = some o) → Q (some (.ref s.heap.objs.size)) { s with heap := g }) :
    wpAny (model prog w) A (pyNext (.ref z)) Q E s := by
  have ty : s.TypeIs (.ref z) "zip" := ⟨_, hz, rfl⟩
  unfold pyNext
  exact wpAny_bind (wpAny_attempt (wpAny_callSpecial?_slot (name := Str.ofString "__next__") ty F.slot_zip_next (wpAny_call_entry F.slot_zip_next ty F.entry_zip_next (zs_item D hz hI hO h1 h2 t1 t2 hx hy fun g a1 a2 a3 a4 a5 a6 a7 => wpAny_pure (q g a1 a2 a3 a4 a5 a6 a7)) (F.args_zip_next_1 _))))
theorem next_end {z TI TO i1 i2 l1 l2 : Addr} {k : Nat} {xs ys : Array Value} {a b : Value} {Q : Option Value → Shared → Prop} (hh : A.handled = none) (D : ZipApart z TI TO i1 i2 l1 l2)
    (hz : ZS s.heap z TI TO .none) (hI : IsPair s.heap TI (.ref i1) (.ref i2)) (hO : IsPair s.heap TO a b)
    (h1 : s.heap.IsTupleIter i1 l1 k) (h2 : s.heap.IsTupleIter i2 l2 k) (t1 : s.heap.IsTuple l1 xs) (t2 : s.heap.IsTuple l2 ys) (hx : xs[k]? = none) (hy : ys[k]? = none)
    (q : ∀ g, (∀ c o, c ≠ z → c ≠ TO → c ≠ i1 → c ≠ i2 → s.heap.get? c = some o → g.get? c = some o) → Q none { s with heap := g }) : wpAny (model prog w) A (pyNext (.ref z)) Q E s := by
  have ty : s.TypeIs (.ref z) "zip" := ⟨_, hz, rfl⟩
  unfold pyNext
  refine wpAny_bind (wpAny_attempt (wpAny_callSpecial?_slot (name := Str.ofString "__next__") ty F.slot_zip_next (wpAny_call_entry F.slot_zip_next ty F.entry_zip_next (zs_end hh D hz hI hO h1 h2 t1 t2 hx hy fun g e hk he => ?_) (F.args_zip_next_1 _))))
  obtain ⟨o, ho, hc⟩ := he
  exact wpAny_bind (wpAny_isInstance (T := "StopIteration") (b := true) ⟨o, ho, hc⟩ isSubtype_stop (wpAny_pure (q _ hk)))
theorem go_zs {elts : List Expr} {x1} {pos : Pos} {z TI TO T : Addr} {Q : Unit → Shared → Prop} (hz : ZS s.heap z TI TO (rawInt T)) (q : ∀ g, ZS g z TI TO .none → Heap.SameBut z s.heap g → Q () { s with heap := g }) :
    wpAny (model prog w) A (letOwnedTupleGo (.Tuple elts x1 pos) (.ref z) (.ref T)) Q E s := by
  unfold letOwnedTupleGo; refine wpAny_bind (wpAny_load hz ?_)
  show wpAny _ _ (if (["enumerate", "zip", "dict_itemiterator", "dict_reverseitemiterator", "odict_iterator", "itertools.zip_longest", "itertools.pairwise"].contains "zip" && (#[rawInt T, .bool false, .bool true, .ref TI, .ref TO] : Array Value)[0]? == some (rawInt T)) = true then _ else _) Q E s
  rw [if_pos (by simp)]; refine wpAny_bind (wpAny_rule ?_); show wpAny _ _ (setField (.ref z) 0 .none) Q E s
  exact wpAny_setField_rec hz (by simp) fun g a b => q g a b
theorem iter_zs {z TI TO : Addr} {f0 : Value} {Q : Value → Shared → Prop} (hz : ZS s.heap z TI TO f0) (q : Q (.ref z) s) : wpAny (model prog w) A (pyIter (.ref z)) Q E s := by
  have ty : s.TypeIs (.ref z) "zip" := ⟨_, hz, rfl⟩
  refine wpAny_pyIter_slot ty F.slot_zip_iter (wpAny_call_entry F.slot_zip_iter ty F.entry_zip_iter ?_ (F.args_zip_iter_1 _)); show wpAny _ _ (ret (.ref z)) _ _ s
  exact wpAny_pure ⟨_, rfl, "zip", _, ty, F.slot_zip_next.lookup, q⟩
end
theorem typeCall_zs (a b v : Value) : checkTypeCall "zip" ⟨[a, b], [(Str.ofString "strict", v)]⟩ = pure () := by kernel_rfl
theorem newCall_zs (a b v : Value) : checkBuiltinCall "zip.__new__" ⟨[.type "zip", a, b], [(Str.ofString "strict", v)]⟩ = pure () := by kernel_rfl
theorem args_zs (obj a b v : Value) : argsOk "object.__init__" ⟨[obj, a, b], [(Str.ofString "strict", v)]⟩ := by unfold argsOk; kernel_rfl
abbrev zh1 (h : Heap) (l1 : Addr) : Heap := h.push { cls := .type "tuple_iterator", data := .fields #[.ref l1, .int 0 0] }
abbrev zh2 (h : Heap) (l1 l2 : Addr) : Heap := (zh1 h l1).push { cls := .type "tuple_iterator", data := .fields #[.ref l2, .int 0 0] }
abbrev zh3 (h : Heap) (l1 l2 : Addr) : Heap := (zh2 h l1 l2).push { cls := .type "tuple", data := .seq #[.ref h.objs.size, .ref (zh1 h l1).objs.size] }
abbrev zh4 (h : Heap) (l1 l2 : Addr) : Heap := (zh3 h l1 l2).push { cls := .type "tuple", data := .seq #[.none, .none] }
abbrev zh5 (h : Heap) (l1 l2 : Addr) : Heap := (zh4 h l1 l2).push { cls := .type "zip", data := .fields #[.none, .bool false, .bool true, .ref (zh2 h l1 l2).objs.size, .ref (zh3 h l1 l2).objs.size] }
theorem meets_zs (l1 l2 : Addr) (xs ys : Array Value) :
    Meets (Builtin.«zip.__new__» ⟨[.type "zip", .ref l1, .ref l2], [(Str.ofString "strict", .bool true)]⟩) (fun _ R s => s.heap.IsTuple l1 xs ∧ s.heap.IsTuple l2 ys ∧
      R (.ok (.ret (.ref (zh4 s.heap l1 l2).objs.size))) { s with heap := zh5 s.heap l1 l2 }) :=
  .of_wp fun prog w A R s h => by
    obtain ⟨hp, g, d, tk, os⟩ := s; obtain ⟨h1, h2, h⟩ := h
    have hsub := sub_zip
    have T1 : Heap.IsTuple (Shared.heap ⟨hp, g, d, tk, os⟩) l1 xs := h1
    have T2 : Heap.IsTuple (Shared.heap ⟨hp.push { cls := .type "tuple_iterator", data := .fields #[.ref l1, .int 0 0] }, g, d, tk, os⟩) l2 ys := Heap.IsTuple.push h2 _
    have e1 : (Str.ofString "strict" != ("strict" : Str)) = false := by decide +kernel
    wp_walk using wpAny_pyIter_tuple T1, wpAny_pyIter_tuple T2
    exact ⟨_, rfl, h⟩
section
variable {prog : Program} {w : World} {A : Around} {E : Value → Shared → Prop} {s : Shared}
theorem call_zs {l1 l2 : Addr} {xs ys : Array Value} {Q : Value → Shared → Prop} (t1 : s.heap.IsTuple l1 xs) (t2 : s.heap.IsTuple l2 ys)
    (q : ∀ g, ZS g (s.heap.objs.size + 4) (s.heap.objs.size + 2) (s.heap.objs.size + 3) .none → IsPair g (s.heap.objs.size + 2) (.ref s.heap.objs.size) (.ref (s.heap.objs.size + 1)) →
      IsPair g (s.heap.objs.size + 3) .none .none → g.IsTupleIter s.heap.objs.size l1 0 → g.IsTupleIter (s.heap.objs.size + 1) l2 0 → (∀ c o, s.heap.get? c = some o → g.get? c = some o) → Q (.ref (s.heap.objs.size + 4)) { s with heap := g }) :
    wpAny (model prog w) A (call (.type "zip") [.ref l1, .ref l2] [(Str.ofString "strict", .bool true)]) Q E s := by
  refine callType_newKw F.called_zip (by decide) (typeCall_zs _ _ _) (newCall_zs _ _ _) (fun obj => args_zs obj _ _ _) F.entry_zip_new (meets_zs l1 l2 xs ys) ⟨t1, t2, ?_⟩
  have n1 : (zh1 s.heap l1).objs.size = s.heap.objs.size + 1 := Heap.size_push ..
  have n2 : (zh2 s.heap l1 l2).objs.size = s.heap.objs.size + 2 := by rw [Heap.size_push, n1]
  have n3 : (zh3 s.heap l1 l2).objs.size = s.heap.objs.size + 3 := by rw [Heap.size_push, n2]
  have n4 : (zh4 s.heap l1 l2).objs.size = s.heap.objs.size + 4 := by rw [Heap.size_push, n3]
  have p : ∀ {h : Heap} {o u : Obj} {c : Addr}, h.get? c = some u → (h.push o).get? c = some u := fun e => Heap.get?_push_of_some _ e
  have g5 : (zh5 s.heap l1 l2).get? (zh4 s.heap l1 l2).objs.size = some _ := Heap.get?_push_size _ rfl
  have g4 : (zh5 s.heap l1 l2).get? (zh3 s.heap l1 l2).objs.size = some _ := p (Heap.get?_push_size _ rfl)
  have g3 : (zh5 s.heap l1 l2).get? (zh2 s.heap l1 l2).objs.size = some _ := p (p (Heap.get?_push_size _ rfl))
  have g2 : (zh5 s.heap l1 l2).get? (zh1 s.heap l1).objs.size = some _ := p (p (p (Heap.get?_push_size _ rfl)))
  have g1 : (zh5 s.heap l1 l2).get? s.heap.objs.size = some _ := p (p (p (p (Heap.get?_push_size _ rfl))))
  show _ ∧ _
  rw [n2, n3, n4] at g5; rw [n1, n2] at g3; rw [n3] at g4; rw [n1] at g2; rw [n4]
  exact ⟨⟨_, g5, rfl⟩, q _ g5 g3 g4 ⟨_, g1, rfl, rfl⟩ ⟨_, g2, rfl, rfl⟩ fun c o e => p (p (p (p (p e))))⟩
theorem callWith_tyKw {M : Model} {env : Env} {pos : Pos} {T : String} {e : Expr} {rest : List Expr} {kws : List Keyword} {Q : Value → Shared → Prop}
    (h : wpAny M A (spliced (backTo pos (starEach (e :: rest) env))) (fun vs s₁ => wpAny M A (evalAll ((backToKw pos (keywordEach kws env)).map (·.2))) (fun ks s₂ => wpAny M A (call (.type T) vs (((backToKw pos (keywordEach kws env)).filterMap (·.1)).zip ks)) Q E s₂) E s₁) E s)
    (he : backTo pos (starEach (e :: rest) env) = (false, eval e env) :: backTo pos (starEach rest env) := by rfl) (hp : (backTo pos (starEach (e :: rest) env)).any (·.1) = false := by rfl)
    (hall : (backToKw pos (keywordEach kws env)).all (·.1.isSome) = true := by rfl) (hkw : (backToKw pos (keywordEach kws env)).any (·.1.isNone) = false := by rfl) :
    wpAny M A (callWith pos (.type T) [] (backTo pos (starEach (e :: rest) env)) (backToKw pos (keywordEach kws env))) Q E s := by
  unfold callWith
  rw [he] at h hp ⊢
  refine wpAny_bind (wpAny_holding (wpAny_mono (evalArgs_kwB (Q := fun a s₁ => wpAny M A (call (.type T) a.pos a.kw) Q E s₁) hall h) (fun a s₁ h₁ => wpAny_bind (wpAny_standAt ?_)) fun _ _ x => x))
  simp only [hp, hkw, Bool.or_false]; refine wpAny_bind (wpAny_pure ?_)
  exact wpAny_bind (wpAny_mono h₁ (fun r s₂ hr => wpAny_bind (wpAny_holding (wpAny_point (wpAny_pure hr)))) fun _ _ y => y)
end
end DZ

/-! zip(xs, ys, strict=True) of two tuples of one length: the rule -/
namespace DL
open PySem PySem.Spec PyProof.Rows L2 DZ
/-- two tuples as they stand at each turn, their items in new pairs; both end together -/
def ItS (K : PySem.W.Frag) (a b : Addr) : It :=
  ⟨fun i H => ∃ (xs ys : List V) (x y : V), (SqT K H a xs ∧ SqT K H b ys) ∧ xs[i]? = some x ∧ ys[i]? = some y,
   fun i H v H' => ∃ T x y, v = .ref T ∧ H T = none ∧ H' = upd H T (.tup [x, y]) ∧ ∀ xs ys, SqT K H a xs → SqT K H b ys → xs[i]? = some x ∧ ys[i]? = some y,
   fun i H => ∃ xs ys : List V, (SqT K H a xs ∧ SqT K H b ys) ∧ xs.length = i ∧ ys.length = i⟩
abbrev ZC (z TI TO i1 i2 : Addr) : List Addr := [z, TI, TO, i1, i2]
theorem turn_zs {P : Program} {w : World} {K : PySem.W.Frag} {elts : List Expr} {kk : Nat} {tpos : Pos} {a b z TI TO i1 i2 : Addr} (D : ZipApart z TI TO i1 i2 a b) :
    Turn P w K (.Tuple elts kk tpos) (ItS K a b) (ZC z TI TO i1 i2) z (fun i h => (ZS h z TI TO .none ∧ IsPair h TI (.ref i1) (.ref i2)) ∧ (∃ p q, IsPair h TO p q) ∧ h.IsTupleIter i1 a i ∧ h.IsTupleIter i2 b i) where
  mem := List.mem_cons_self
  obj := fun i h st c hc => by
    obtain ⟨⟨m1, m2⟩, ⟨p, q, m3⟩, ⟨o1, e1, _, d1⟩, ⟨o2, e2, _, d2⟩⟩ := st
    rcases (by simpa [ZC] using hc : c = z ∨ c = TI ∨ c = TO ∨ c = i1 ∨ c = i2) with rfl | rfl | rfl | rfl | rfl
    · exact ⟨_, m1, fun _ e => nomatch e⟩
    · exact ⟨_, m2, fun _ e => nomatch e⟩
    · exact ⟨_, m3, fun _ e => nomatch e⟩
    · exact ⟨o1, e1, fun _ e => by rw [d1] at e; cases e⟩
    · exact ⟨o2, e2, fun _ e => by rw [d2] at e; cases e⟩
  keep := fun i h h' st k => by
    obtain ⟨⟨m1, m2⟩, ⟨p, q, m3⟩, m4, m5⟩ := st
    exact ⟨⟨k z (by simp [ZC]) _ m1, k TI (by simp [ZC]) _ m2⟩, ⟨p, q, k TO (by simp [ZC]) _ m3⟩, m4.at fun o e => k i1 (by simp [ZC]) o e, m5.at fun o e => k i2 (by simp [ZC]) o e⟩
  item := by
    intro X hP hw hK hc i pins s σ H E I hf st hg
    subst hP hw hK
    obtain ⟨⟨m1, m2⟩, ⟨p, q, m3⟩, m4, m5⟩ := st
    obtain ⟨xs, ys, x, y, ⟨gx, gy⟩, ex, ey⟩ := hg
    obtain ⟨its, rv, t1, _⟩ := I.tuple gx
    obtain ⟨jts, rw', t2, _⟩ := I.tuple gy
    obtain ⟨u, hu, ru⟩ := rv.get ex
    obtain ⟨v, hv, rv2⟩ := rw'.get ey
    have lz : z < s.heap.objs.size := Heap.lt_size m1
    refine next_item D m1 m2 m3 m4 m5 t1 t2 (x := u) (y := v) (by simpa using hu) (by simpa using hv) fun g z' O' j1 j2 hT hsz hk => ?_
    refine ⟨_, rfl, go_zs (s := { s with heap := g }) z' fun g2 z2 sb => ?_⟩
    have new : g2.get? s.heap.objs.size = some { cls := .type "tuple", data := .seq #[u, v] } := (sb.2 _ (Nat.ne_of_gt lz)).trans hT
    have ob : ObjOk X.prog X.w (upd H s.heap.objs.size (.tup [x, y])) g2 s.heap.objs.size (.tup [x, y]) := ⟨(by decide : 2 ≤ sizeLine), [u, v], .cons ru (.cons rv2 .nil), ⟨_, new, rfl, _, rfl⟩⟩
    have J : Inv X pins σ (upd H s.heap.objs.size (.tup [x, y])) { s with heap := g2 } :=
      I.turnedNew (t' := s.toks) (ch := ZC z TI TO i1 i2) (fun c o hb e => (sb.2 c fun z => hb (by simp [z])).trans (hk c o (fun z => hb (by simp [z])) (fun z => hb (by simp [z])) (fun z => hb (by simp [z])) (fun z => hb (by simp [z])) e)) hf (Nat.le_refl _) ob
    refine ⟨.ref s.heap.objs.size, _, J, rfl, ⟨_, x, y, rfl, I.hok.fresh (Nat.le_refl _), rfl, fun l r hl hr => ⟨by rw [I.tuple_inj hl gx]; exact ex, by rw [I.tuple_inj hr gy]; exact ey⟩⟩, ⟨⟨z2, (sb.2 _ D.TIz).trans (hk _ _ D.TIz D.TITO D.TIi1 D.TIi2 m2)⟩, ⟨u, v, (sb.2 _ D.TOz).trans O'⟩, j1.at fun o e => (sb.2 _ D.i1z).trans e, j2.at fun o e => (sb.2 _ D.i2z).trans e⟩, fun c hcm => ?_⟩
    have old : c < s.heap.objs.size := by
      rcases (by simpa [ZC] using hcm : c = z ∨ c = TI ∨ c = TO ∨ c = i1 ∨ c = i2) with rfl | rfl | rfl | rfl | rfl
      · exact lz
      · exact Heap.lt_size m2
      · exact Heap.lt_size m3
      · exact Heap.lt_size m4.choose_spec.1
      · exact Heap.lt_size m5.choose_spec.1
    rw [upd_ne (Nat.ne_of_lt old)]
    exact (hf c hcm).1
  done := by
    intro X hP hw hK hc i pins s σ H E I hf st hg
    subst hP hw hK
    obtain ⟨⟨m1, m2⟩, ⟨p, q, m3⟩, m4, m5⟩ := st
    obtain ⟨xs, ys, ⟨gx, gy⟩, lx, ly⟩ := hg
    obtain ⟨its, rv, t1, _⟩ := I.tuple gx
    obtain ⟨jts, rw', t2, _⟩ := I.tuple gy
    have n1 := rv.length; have n2 := rw'.length
    exact next_end (I.ok.hd hc) D m1 m2 m3 m4 m5 t1 t2 (by simp; omega) (by simp; omega) fun g hk => ⟨rfl, I.turnedL (t' := s.toks) (ch := ZC z TI TO i1 i2) (fun c o hb e => hk c o (fun z => hb (by simp [z])) (fun z => hb (by simp [z])) (fun z => hb (by simp [z])) (fun z => hb (by simp [z])) e) hf⟩
  self := fun A i s Q E st h => iter_zs st.1.1 h
def tZS (K : PySem.W.Frag) (ta : TA) : TI := fun σ H R => ta σ H fun vs H1 => ∃ a b xs ys, vs = [.ref a, .ref b] ∧ (SqT K H1 a xs ∧ SqT K H1 b ys) ∧ R (ItS K a b) H1
theorem pi_zs {X : Cx} {e e2 : Expr} {ta : TA} {p pos tpos cpos kpos : Pos} {j : Nat} {elts : List Expr} {kk : Nat} (hg : Gl X "zip") (hm : X.mg "zip" = none) (ha : PA X [e, e2] ta)
    (hs : backTo pos (starEach [e, e2] X.env) = (false, eval e X.env) :: backTo pos (starEach [e2] X.env) := by rfl) (hp : (backTo pos (starEach [e, e2] X.env)).any (·.1) = false := by rfl)
    (hall : (backToKw pos (keywordEach [⟨some "strict", .Constant (.bool true) j cpos, kpos⟩] X.env)).all (·.1.isSome) = true := by rfl) (hkw : (backToKw pos (keywordEach [⟨some "strict", .Constant (.bool true) j cpos, kpos⟩] X.env)).any (·.1.isNone) = false := by rfl)
    (hks : (backToKw pos (keywordEach [⟨some "strict", .Constant (.bool true) j cpos, kpos⟩] X.env)).filterMap (·.1) = [Str.ofString "strict"] := by rfl) :
    PI X (.Tuple elts kk tpos) (.Call (.Name "zip" p) [e, e2] [⟨some "strict", .Constant (.bool true) j cpos, kpos⟩] pos) (tZS X.K ta) := by
  refine ⟨fun pins s σ H R I h => ?_⟩
  have hkk : PK X [⟨some "strict", .Constant (.bool true) j cpos, kpos⟩] (tCons (tC (.bl true)) tNil) := pk_cons pe_bl pk_nil
  refine wpAny_Call_Name_kw (ld_blt I hg hm PyProof.Rows.boot_zip (callWith_tyKw (thn (ha.run pos pins s σ H _ I h) fun us s1 ⟨vs, H1, I1, r1, q1⟩ => ?_) hs hp hall hkw))
  obtain ⟨a, b, xs, ys, rfl, ⟨gx, gy⟩, q⟩ := q1
  refine thn (hkk.run pos pins s1 σ H1 (fun zs H2 => zs = [.bl true] ∧ H2 = H1) I1 ⟨rfl, rfl⟩) fun zs' s2 ⟨zs, H2, I2, rz, e1, e2⟩ => ?_
  subst e1 e2
  rw [hks]
  cases rz with
  | cons rb rr =>
    cases rr
    cases rb
    cases r1 with
    | cons r rr =>
      cases rr with
      | cons r' rr =>
        cases rr
        cases r
        cases r'
        obtain ⟨its, rv, t1, _⟩ := I2.tuple gx
        obtain ⟨jts, rw', t2, _⟩ := I2.tuple gy
        obtain ⟨o1, ho1, _⟩ := id t1
        obtain ⟨o2, ho2, _⟩ := id t2
        refine call_zs (show s2.heap.IsTuple a its.toArray from t1) (show s2.heap.IsTuple b jts.toArray from t2) fun g hz hI hO j1 j2 hk => iter_zs hz ?_
        refine ⟨s2.heap.objs.size + 4, ZC (s2.heap.objs.size + 4) (s2.heap.objs.size + 2) (s2.heap.objs.size + 3) s2.heap.objs.size (s2.heap.objs.size + 1), _, _, H2, rfl, I2.kept (t' := s2.toks) hk, turn_zs (PySem.W.ktu_apart s2.heap.objs.size a b (Heap.lt_size ho1) (Heap.lt_size ho2)), ⟨⟨hz, hI⟩, ⟨_, _, hO⟩, j1, j2⟩, fun c hcm => ?_, q⟩
        have hle : s2.heap.objs.size ≤ c := by
          rcases (by simpa [ZC] using hcm : c = s2.heap.objs.size + 4 ∨ c = s2.heap.objs.size + 2 ∨ c = s2.heap.objs.size + 3 ∨ c = s2.heap.objs.size ∨ c = s2.heap.objs.size + 1) with z | z | z | z | z
          · exact z ▸ Nat.le_add_right _ _
          · exact z ▸ Nat.le_add_right _ _
          · exact z ▸ Nat.le_add_right _ _
          · exact z ▸ Nat.le_refl _
          · exact z ▸ Nat.le_add_right _ _
        exact I2.fpOk hle (I2.hok.fresh hle)
def YTwo (f g : Nat → Option V) : Nat → Hp → V → Hp → Prop := fun i H v H' => ∃ T x y, v = .ref T ∧ H T = none ∧ H' = upd H T (.tup [x, y]) ∧ f i = some x ∧ g i = some y
theorem walk_zs {K : PySem.W.Frag} {a b : Addr} {xs ys : List V} (hl : xs.length = ys.length) : Walk (ItS K a b) xs.length (fun H => SqT K H a xs ∧ SqT K H b ys) (YTwo (fun i => xs[i]?) (fun i => ys[i]?)) := by
  refine ⟨fun i _ hi q => ⟨xs, ys, xs[i], ys[i], q, by simp [hi], by simp [hl ▸ hi]⟩, fun _ q => ⟨xs, ys, q, rfl, hl.symm⟩, fun i H v H' _ q y => ?_⟩
  obtain ⟨T, x, y, h1, h2, h3, h4⟩ := y
  exact ⟨T, x, y, h1, h2, h3, (h4 xs ys q.1 q.2).1, (h4 xs ys q.1 q.2).2⟩
def zpL (xs ys : List D) : List D := xs.zipWith (fun x y => .tuple [x, y]) ys
theorem zpL_get {xs ys : List D} {i : Nat} {x y : D} (h1 : xs[i]? = some x) (h2 : ys[i]? = some y) : (zpL xs ys)[i]? = some (.tuple [x, y]) := by
  unfold zpL
  rw [List.getElem?_zipWith, h1, h2]
theorem zpL_len {xs ys : List D} (h : xs.length = ys.length) : (zpL xs ys).length = xs.length := by simp [zpL, h]
def iZipS (f g : Fe) : Fi := fun r m => (f r m).bind fun w m1 => (g r m1).bind fun v m2 => match w, v with | .d (.tuple xs), .d (.tuple ys) => if xs.length = ys.length then .ok ⟨zpL xs ys, []⟩ m2 else .bad | _, _ => .bad
section
variable {X : Cx} {Wx : WX} {tg : Expr} {f g : Fe}
theorem di_zs {it : Expr} (h : PI X tg it (tZS X.K (LA X.K Wx (dCons f (dCons g dNil))))) : DI X Wx tg it (iZipS f g) := pi_weak h fun s H R q => by
  obtain ⟨r, ad, m, F, he, hA, hp⟩ := q
  have hp' : Post X.K ad F H ((dCons f (dCons g dNil) r m).bind fun ws m1 => match ws with | [w, v] => (match w, v with | .d (.tuple xs), .d (.tuple ys) => if xs.length = ys.length then .ok (⟨zpL xs ys, []⟩ : Src) m1 else .bad | _, _ => .bad) | _ => .bad) (fun src _ ad' F' H' => ∀ J, SrcOk X.K src ad' F' H' J → R J H') (XP X.K Wx s) := by
    unfold iZipS at hp
    unfold dCons dNil
    cases e : f r m with
    | ok w m1 =>
      rw [e] at hp
      simp only [Out.bind] at hp ⊢
      cases e2 : g r m1 with
      | ok v m2 => rw [e2] at hp; exact hp
      | exc c fs m2 => rw [e2] at hp; exact hp
      | bad => rw [e2] at hp; exact hp
    | exc c fs m1 => rw [e] at hp; exact hp
    | bad => rw [e] at hp; exact hp
  refine ⟨_, _, _, _, he, hA, Post.mono (Post.bind hp') (fun ws m1 ad1 F1 H1 e1 ha1 q0 vs rw1 => ?_) fun _ _ _ _ _ _ _ _ z => z⟩
  obtain ⟨_, _, h1⟩ := q0
  split at h1
  · split at h1
    · rename_i xs ys
      split at h1
      · rename_i hl
        cases rw1 with
        | cons r1 rr =>
          cases rr with
          | cons r2 rr =>
            cases rr
            cases r1 with
            | tup q1 s1 =>
            cases r2 with
            | tup q2 s2 =>
            rename_i a us b vs
            have hl' : us.length = vs.length := by rw [s1.len, s2.len, hl]
            refine ⟨a, b, us, vs, rfl, ⟨ha1.le.sqT q1, ha1.le.sqT q2⟩, h1 _ _ _ Ext.refl ha1 _ ?_⟩
            refine ⟨fun H2 => SqT X.K H2 a us ∧ SqT X.K H2 b vs, _, by rw [show (⟨zpL xs ys, []⟩ : Src).items.length = us.length from (zpL_len hl).trans s1.len.symm]; exact walk_zs hl', fun ad2 F2 H2 m2 x h2 g => ⟨h2.le.sqT (x.fle.sqT q1), h2.le.sqT (x.fle.sqT q2)⟩, fun i ad2 F2 H2 m2 x H3 hi ex h2 g y => ?_⟩
            obtain ⟨T, x', y', rfl, hT, rfl, hx, hy⟩ := y
            obtain ⟨d1, e1, e2⟩ := (s1.mono ex.fle).get' hx
            obtain ⟨d2, e3, e4⟩ := (s2.mono ex.fle).get' hy
            obtain ⟨F3, x3, a3, r3⟩ := pair_new h2 hT e2 e4
            exact ⟨F3, _, zpL_get e1 e3, x3, a3, r3⟩
      · exact h1.elim
    · exact h1.elim
  · exact h1.elim
end
end DL

namespace DL
open PySem L2 PyProof.Rows
section
variable {V : Rho} {G : Sg} {X : XK'} {f g : Fe}
theorem J_iZipS {KS : Src → Sg → Prop} (h : J V G f (fun w G1 => J V G1 g (fun v G2 => ∃ xs ys, w = .d (.tuple xs) ∧ v = .d (.tuple ys) ∧ xs.length = ys.length ∧ KS ⟨zpL xs ys, []⟩ G2) X) X) : J V G (iZipS f g) KS X :=
  J.bind (h.mono fun w G1 k => J.bind (k.mono fun v G2 k => by
    obtain ⟨xs, ys, rfl, rfl, hl, k⟩ := k
    simp only [hl, if_true]
    exact J.ok k))
end
end DL
open DL PySem
local macro_rules
  | `(tactic| sizeOf_list_dec) => `(tactic| with_reducible first | apply J_iZipS)

namespace DL
open PySem L2 PyProof.Rows
theorem JO_notB {G : Sg} {a b : Bool} {K : W → Prop} (k : K (.d (.bool (a != b)))) : JO G (gNotB (.d (.bool a)) (.d (.bool b))) K := JO_pure (fun m => rfl) k
end DL
open DL PySem
local macro_rules
  | `(tactic| sizeOf_list_dec) => `(tactic| with_reducible first | apply JO_notB)

/-! enumerate(list, start=k); xs.insert(k, x); xs.extend(ys) -/
namespace DL
open PySem PySem.Spec PyProof.Rows L2 DZ RZ
/-- the list at a as it stands at each turn, each item in a new pair, counted from k0 -/
def IteS (K : PySem.W.Frag) (a : Addr) (k0 : Int) : It :=
  ⟨fun i H => ∃ (xs : List V) (x : V), SqL K H a xs ∧ xs[i]? = some x, fun i H v H' => ∃ T x, v = .ref T ∧ H T = none ∧ H' = upd H T (.tup [.int (k0 + (i : Nat)), x]) ∧ ∀ xs, SqL K H a xs → xs[i]? = some x, fun i H => ∃ xs : List V, SqL K H a xs ∧ xs.length = i⟩
theorem turn_enumS {P : Program} {w : World} {K : PySem.W.Frag} {elts : List Expr} {kk : Nat} {tpos : Pos} (a e it : Addr) (k0 : Int) (hai : a ≠ it) :
    Turn P w K (.Tuple elts kk tpos) (IteS K a k0) [e, it] e (fun i h => (∃ old, IsEnum h e it (k0 + ((i : Nat) : Int)) old) ∧ h.IsListIter it a i ∧ e ≠ it ∧ e ≠ a) where
  mem := List.mem_cons_self
  obj := fun i h st b hb => by
    obtain ⟨⟨old, h1⟩, ⟨o, h2, h3, h4⟩, _⟩ := st
    rcases (by simpa using hb : b = e ∨ b = it) with rfl | rfl
    · exact ⟨_, h1, fun v q => nomatch q⟩
    · exact ⟨o, h2, fun v q => by rw [h4] at q; cases q⟩
  keep := fun i h h' st k => ⟨⟨_, k e (by simp) _ st.1.choose_spec⟩, st.2.1.at fun o q => k it (by simp) o q, st.2.2⟩
  item := by
    intro X hP hw hK hc i pins s σ H E I hf st hg
    subst hP hw hK
    obtain ⟨⟨old, h1⟩, h2, n1, n2⟩ := st
    obtain ⟨xs, x, hq, hx⟩ := hg
    obtain ⟨its, rv, p, hz⟩ := I.list hq
    obtain ⟨u, hu, ru⟩ := rv.get hx
    have lt1 : e < s.heap.objs.size := Heap.lt_size h1
    have lt2 : it < s.heap.objs.size := by obtain ⟨_, q, _⟩ := h2; exact Heap.lt_size q
    have hi : i < its.toArray.size := by rw [List.size_toArray]; exact (List.getElem?_eq_some_iff.mp hu).1
    refine wpAny_pyNext_enum_itemC (Draws.list (A := X.A.in1) (I.ok.hd hc) it a hai its.toArray) h1 ⟨h2, p.isList⟩ hi n1 (by simp [n1, n2]) fun y g tk hy ho st' hT hsz hk => ?_
    have ey : y = u := by
      have e1 : its.toArray[i]? = some y := hy
      rw [show its.toArray[i]? = some u by simpa using hu] at e1
      cases e1; rfl
    subst ey
    refine ⟨_, rfl, wpAny_letOwnedTupleGo_enum (s := { s with heap := g, toks := tk + 1 }) ho fun g2 h1' sb => ?_⟩
    have hT2 : g2.get? s.heap.objs.size = some { cls := .type "tuple", data := .seq #[.int (k0 + (i : Nat)) tk, y] } := (sb.2 _ (Nat.ne_of_gt lt1)).trans hT
    have ob : ObjOk X.prog X.w (upd H s.heap.objs.size (.tup [.int (k0 + (i : Nat)), x])) g2 s.heap.objs.size (.tup [.int (k0 + (i : Nat)), x]) :=
      ⟨(by decide : 2 ≤ sizeLine), [.int (k0 + (i : Nat)) tk, y], .cons ⟨_, rfl⟩ (.cons ru .nil), ⟨_, hT2, rfl, _, rfl⟩⟩
    have I1 : Inv X pins σ (upd H s.heap.objs.size (.tup [.int (k0 + (i : Nat)), x])) { s with heap := g2, toks := tk + 1 } :=
      I.turnedNew (ch := [e, it]) (fun b o hb q => (sb.2 b (fun z => hb (by simp [z]))).trans (hk b o (fun z => hb (by simp [z])) (fun z => hb (by simp [z])) q)) hf (Nat.le_refl _) ob
    refine ⟨.ref s.heap.objs.size, _, I1, rfl, ⟨_, x, rfl, I.hok.fresh (Nat.le_refl _), rfl, fun ys hy => by rw [I.list_inj hy hq]; exact hx⟩, ⟨⟨y, ?_⟩, st'.1.at fun o q => (sb.2 it (Ne.symm n1)).trans q, n1, n2⟩, fun b hb => ?_⟩
    · rw [show k0 + ((i + 1 : Nat) : Int) = k0 + (i : Int) + 1 by omega]; exact h1'
    · have lt3 : b < s.heap.objs.size := by
        rcases (by simpa using hb : b = e ∨ b = it) with rfl | rfl
        · exact lt1
        · exact lt2
      rw [upd_ne (Nat.ne_of_lt lt3)]
      exact (hf b hb).1
  done := by
    intro X hP hw hK hc i pins s σ H E I hf st hg
    subst hP hw hK
    obtain ⟨⟨old, h1⟩, h2, n1, n2⟩ := st
    obtain ⟨xs, hq, hx⟩ := hg
    obtain ⟨its, rv, p, hz⟩ := I.list hq
    obtain ⟨f0, f1, f2, f3, f4, f5⟩ := hf it (by simp)
    have hl : its.toArray.size = i := by rw [List.size_toArray, ← rv.length]; exact hx
    refine wpAny_pyNext_enum_endD (Draws.list (A := X.A.in1) (I.ok.hd hc) it a hai its.toArray) h1 ⟨hl ▸ h2, p.isList⟩ fun g eb => ⟨rfl, I.turned (t' := s.toks) (fun b o hb q => eb b o hb q) f0 f1 f3 f4 f5⟩
  self := fun A i s Q E st h => let ⟨⟨_, h1⟩, _⟩ := st; wpAny_pyIter_enum h1 h
def iEnumSV (K : PySem.W.Frag) (k0 : Int) (ta : TA) : TI := fun σ H R => ta σ H fun vs H1 => ∃ a xs, vs = [.ref a] ∧ SqL K H1 a xs ∧ R (IteS K a k0) H1
theorem pi_enumS {X : Cx} {e : Expr} {ta : TA} {p pos tpos cpos kpos : Pos} {j : Nat} {k0 : Int} {elts : List Expr} {kk : Nat} (hg : Gl X "enumerate") (hm : X.mg "enumerate" = none) (ha : PA X [e] ta) (hk0 : -(2 ^ 63) ≤ k0 := by decide) (hk1 : k0 < 2 ^ 63 := by decide)
    (hs : backTo pos (starEach [e] X.env) = (false, eval e X.env) :: backTo pos (starEach [] X.env) := by rfl) (hp : (backTo pos (starEach [e] X.env)).any (·.1) = false := by rfl)
    (hall : (backToKw pos (keywordEach [⟨some "start", .Constant (.int k0) j cpos, kpos⟩] X.env)).all (·.1.isSome) = true := by rfl) (hkw : (backToKw pos (keywordEach [⟨some "start", .Constant (.int k0) j cpos, kpos⟩] X.env)).any (·.1.isNone) = false := by rfl)
    (hks : (backToKw pos (keywordEach [⟨some "start", .Constant (.int k0) j cpos, kpos⟩] X.env)).filterMap (·.1) = [Str.ofString "start"] := by rfl) :
    PI X (.Tuple elts kk tpos) (.Call (.Name "enumerate" p) [e] [⟨some "start", .Constant (.int k0) j cpos, kpos⟩] pos) (iEnumSV X.K k0 ta) := by
  refine ⟨fun pins s σ H R I h => ?_⟩
  have hkk : PK X [⟨some "start", .Constant (.int k0) j cpos, kpos⟩] (tCons (tC (.int k0)) tNil) := pk_cons pe_int pk_nil
  refine wpAny_Call_Name_kw (ld_blt I hg hm PyProof.Rows.boot_enumerate (callWith_tyKw (thn (ha.run pos pins s σ H _ I h) fun us s1 ⟨vs, H1, I1, r1, q1⟩ => ?_) hs hp hall hkw))
  obtain ⟨a, xs, rfl, hq, q⟩ := q1
  refine thn (hkk.run pos pins s1 σ H1 (fun zs H2 => zs = [.int k0] ∧ H2 = H1) I1 ⟨rfl, rfl⟩) fun zs' s2 ⟨zs, H2, I2, rz, e1, e2⟩ => ?_
  subst e1 e2
  rw [hks]
  cases rz with
  | cons rb rr =>
    cases rr
    obtain ⟨tk0, rfl⟩ := rb
    cases r1 with
    | cons r rr =>
      cases rr
      cases r
      obtain ⟨its, rv, pt, hz⟩ := I2.list hq
      obtain ⟨oa, hoa, _⟩ := id pt.isList
      have la : a < s2.heap.objs.size := Heap.lt_size hoa
      refine enum_begins_start (PySem.begins_list a its.toArray) pt.isList hk0 hk1 fun g he hit hsz hk => wpAny_pyIter_enum he ?_
      have I3 : Inv X pins σ H2 { s2 with heap := g } := I2.kept (t' := s2.toks) hk
      refine ⟨s2.heap.objs.size + 1, [s2.heap.objs.size + 1, s2.heap.objs.size], _, _, H2, rfl, I3, turn_enumS a (s2.heap.objs.size + 1) s2.heap.objs.size k0 (Nat.ne_of_lt la), ⟨⟨.none, by rw [show k0 + ((0 : Nat) : Int) = k0 by omega]; exact he⟩, ⟨_, hit, rfl, rfl⟩, Nat.succ_ne_self _, Nat.ne_of_gt (Nat.lt_succ_of_lt la)⟩, fun b hb => ?_, q⟩
      have le : s2.heap.objs.size ≤ b := by
        rcases (by simpa using hb : b = s2.heap.objs.size + 1 ∨ b = s2.heap.objs.size) with z | z
        · exact z ▸ Nat.le_succ _
        · exact z ▸ Nat.le_refl _
      exact I2.fpOk le (I2.hok.fresh le)
def enS (k0 : Int) (xs : List D) : List D := (List.range xs.length).zipWith (fun i x => .tuple [.int (k0 + (i : Nat)), x]) xs
theorem enS_get {k0 : Int} {xs : List D} {i : Nat} {x : D} (h : xs[i]? = some x) : (enS k0 xs)[i]? = some (.tuple [.int (k0 + (i : Nat)), x]) := by
  have hi := (List.getElem?_eq_some_iff.mp h).1
  unfold enS
  rw [List.getElem?_zipWith, List.getElem?_range hi, h]
theorem enS_len (k0 : Int) (xs : List D) : (enS k0 xs).length = xs.length := by simp [enS]
def iEnumS (k0 : Int) (f : Fe) : Fi := fun r m => (f r m).bind fun w m1 => match lstOf w m1 with | some xs => .ok ⟨enS k0 xs, gsOf w xs⟩ m1 | none => .bad
section
variable {X : Cx} {Wx : WX} {e tg : Expr} {f : Fe}
theorem di_enumS {k0 : Int} {it : Expr} (h : PI X tg it (iEnumSV X.K k0 (LA X.K Wx (dCons f dNil)))) : DI X Wx tg it (iEnumS k0 f) := pi_weak h fun s H R q => by
  obtain ⟨r, ad, m, F, he, hA, hp⟩ := q
  have hp' : Post X.K ad F H ((dCons f dNil r m).bind fun ws m1 => match ws with | [w] => (match lstOf w m1 with | some xs => .ok (⟨enS k0 xs, gsOf w xs⟩ : Src) m1 | none => .bad) | _ => .bad) (fun src _ ad' F' H' => ∀ J, SrcOk X.K src ad' F' H' J → R J H') (XP X.K Wx s) := by
    unfold iEnumS at hp
    unfold dCons dNil
    cases e : f r m with
    | ok w m1 => rw [e] at hp; exact hp
    | exc c fs m1 => rw [e] at hp; exact hp
    | bad => rw [e] at hp; exact hp
  refine ⟨_, _, _, _, he, hA, Post.mono (Post.bind hp') (fun ws m1 ad1 F1 H1 e1 ha1 q0 vs rw1 => ?_) fun _ _ _ _ _ _ _ _ z => z⟩
  obtain ⟨_, _, h1⟩ := q0
  split at h1
  · rename_i w
    obtain ⟨v, rfl, r1⟩ := rw1.one
    cases el : lstOf w m1 with
    | none => simp only [el] at h1; exact h1.elim
    | some xs =>
      simp only [el] at h1
      obtain ⟨a, us, rfl, s1, st, q1⟩ := lst_stays r1 ha1 el
      refine ⟨a, us, rfl, q1, h1 _ _ _ Ext.refl ha1 _ ?_⟩
      refine ⟨fun H2 => ∃ ws, SqL X.K H2 a ws ∧ ws.length = xs.length, fun i H2 x H3 => ∃ T y, x = .ref T ∧ H2 T = none ∧ H3 = upd H2 T (.tup [.int (k0 + (i : Nat)), y]) ∧ ∀ ws, SqL X.K H2 a ws → ws[i]? = some y, ⟨fun i H2 hi g => ?_, fun H2 g => ?_, fun i H2 x H3 hi g y => y⟩, fun ad2 F2 H2 m2 x h2 g => ?_, fun i ad2 F2 H2 m2 x H3 hi ex h2 g y => ?_⟩
      · obtain ⟨ws, g1, g2⟩ := g
        have hi' : i < ws.length := by rw [g2, ← enS_len k0]; exact hi
        exact ⟨ws, ws[i], g1, List.getElem?_eq_getElem hi'⟩
      · obtain ⟨ws, g1, g2⟩ := g
        exact ⟨ws, g1, by rw [g2, ← enS_len k0]⟩
      · obtain ⟨ws, g1, g2⟩ := st ad2 F2 H2 m2 x h2 g
        exact ⟨ws, g1, g2.len⟩
      · obtain ⟨T, y', rfl, hT, rfl, hy⟩ := y
        obtain ⟨ws, g1, g2⟩ := st ad2 F2 H2 m2 ex h2 g
        obtain ⟨d, e1, e2⟩ := g2.get' (hy ws g1)
        obtain ⟨F3, x3, a3, r3⟩ := pair_new h2 hT (Rp.int (k0 + (i : Nat))) e2
        exact ⟨F3, _, enS_get e1, x3, a3, r3⟩
  · exact h1.elim
end
/-- zip of two tuples, as far as the shorter goes -/
def iZipT (f g : Fe) : Fi := fun r m => (f r m).bind fun w m1 => (g r m1).bind fun v m2 => match w, v with | .d (.tuple xs), .d (.tuple ys) => .ok ⟨zpL xs ys, []⟩ m2 | _, _ => .bad
theorem zpL_len2 (xs ys : List D) : (zpL xs ys).length = min xs.length ys.length := by simp [zpL]
theorem walk_zipT {K : PySem.W.Frag} {a b : Addr} {xs ys : List V} : Walk (ItzT K a b) (min xs.length ys.length) (fun H => SqT K H a xs ∧ SqT K H b ys) (YTwo (fun i => xs[i]?) (fun i => ys[i]?)) := by
  refine ⟨fun i _ hi q => ⟨xs, ys, xs[i], ys[i], q.1, q.2, by rw [List.getElem?_eq_getElem (by omega)], by rw [List.getElem?_eq_getElem (by omega)]⟩, fun _ q => ⟨xs, ys, q.1, q.2, by omega⟩, fun i H v H' _ q y => ?_⟩
  obtain ⟨T, x, y, h1, h2, h3, h4, h5⟩ := y
  exact ⟨T, x, y, h1, h2, h3, h4 xs q.1, h5 ys q.2⟩
section
variable {X : Cx} {Wx : WX} {tg : Expr} {f g : Fe}
theorem di_zipT {it : Expr} (h : PI X tg it (iZipA X.K (LA X.K Wx (dCons f (dCons g dNil))))) : DI X Wx tg it (iZipT f g) := pi_weak h fun s H R q => by
  obtain ⟨r, ad, m, F, he, hA, hp⟩ := q
  have hp' : Post X.K ad F H ((dCons f (dCons g dNil) r m).bind fun ws m1 => match ws with | [w, v] => (match w, v with | .d (.tuple xs), .d (.tuple ys) => .ok (⟨zpL xs ys, []⟩ : Src) m1 | _, _ => .bad) | _ => .bad) (fun src _ ad' F' H' => ∀ J, SrcOk X.K src ad' F' H' J → R J H') (XP X.K Wx s) := by
    unfold iZipT at hp
    unfold dCons dNil
    cases e : f r m with
    | ok w m1 =>
      rw [e] at hp
      simp only [Out.bind] at hp ⊢
      cases e2 : g r m1 with
      | ok v m2 => rw [e2] at hp; exact hp
      | exc c fs m2 => rw [e2] at hp; exact hp
      | bad => rw [e2] at hp; exact hp
    | exc c fs m1 => rw [e] at hp; exact hp
    | bad => rw [e] at hp; exact hp
  refine ⟨_, _, _, _, he, hA, Post.mono (Post.bind hp') (fun ws m1 ad1 F1 H1 e1 ha1 q0 vs rw1 => ?_) fun _ _ _ _ _ _ _ _ z => z⟩
  obtain ⟨_, _, h1⟩ := q0
  split at h1
  · split at h1
    · rename_i xs ys
      cases rw1 with
      | cons r1 rr =>
        cases rr with
        | cons r2 rr =>
          cases rr
          cases r1 with
          | tup q1 s1 =>
          cases r2 with
          | tup q2 s2 =>
          rename_i a us b vs
          refine ⟨a, b, us, vs, rfl, .inr ⟨ha1.le.sqT q1, ha1.le.sqT q2, h1 _ _ _ Ext.refl ha1 _ ?_⟩⟩
          refine ⟨fun H2 => SqT X.K H2 a us ∧ SqT X.K H2 b vs, _, by rw [show (⟨zpL xs ys, []⟩ : Src).items.length = min us.length vs.length from (zpL_len2 xs ys).trans (by rw [s1.len, s2.len])]; exact walk_zipT, fun ad2 F2 H2 m2 x h2 g => ⟨h2.le.sqT (x.fle.sqT q1), h2.le.sqT (x.fle.sqT q2)⟩, fun i ad2 F2 H2 m2 x H3 hi ex h2 g y => ?_⟩
          obtain ⟨T, x', y', rfl, hT, rfl, hx, hy⟩ := y
          obtain ⟨d1, e1, e2⟩ := (s1.mono ex.fle).get' hx
          obtain ⟨d2, e3, e4⟩ := (s2.mono ex.fle).get' hy
          obtain ⟨F3, x3, a3, r3⟩ := pair_new h2 hT e2 e4
          exact ⟨F3, _, zpL_get e1 e3, x3, a3, r3⟩
    · exact h1.elim
  · exact h1.elim
end
/-- xs.insert(k, y) -/
abbrev rInsert : V → List V → Hp → VK → Prop := fun x vs H Q => ∃ (l : Addr) (xs : List V) (i : Int) (y : V), x = .ref l ∧ vs = [.int i, y] ∧ H l = some (.lst xs) ∧ xs.length < sizeLine ∧ 0 ≤ i ∧ i < 2 ^ 63 ∧
    Q .non (upd H l (.lst (xs.take i.toNat ++ [y] ++ xs.drop i.toNat)))
def gIns (i : Nat) : List W → Sto → Option (W × Sto)
  | [.d (.int k), y], m => match frz y m with
    | some (x, m1) => (match m1[i]? with
      | some (.lst xs) => if xs.length < sizeLine ∧ 0 ≤ k ∧ k < 2 ^ 62 then some (.d .none, m1.set i (.lst (xs.take k.toNat ++ [x] ++ xs.drop k.toNat))) else none
      | _ => none)
    | none => none
  | _, _ => none
theorem md_ins {K : PySem.W.Frag} : MtD K rInsert gIns := by
  intro i ws z u vs ad m m' F H Q r1 r2 hA e q
  unfold gIns at e
  split at e
  · rename_i k y
    cases r2 with
    | cons rk rr =>
      cases rr with
      | cons ry rr =>
        cases rr
        cases rk
        split at e
        · rename_i x m1 ef
          split at e
          · rename_i xs hm
            split at e
            · rename_i hz
              cases e
              obtain ⟨a, ha, rfl⟩ := r1
              obtain ⟨F', h', x', p'⟩ := frz_w hA ry ef
              obtain ⟨fa, ws, hv, s⟩ := h'.cel _ _ _ ha hm
              obtain ⟨h2, x2⟩ := h'.write (o := .lst _) (c := .lst _) ha fa ⟨fa, _, upd_same, ((RpA.take k.toNat s).app (.cons p' .nil)).app (RpA.drop k.toNat s)⟩
              exact ⟨a, ws, k, _, rfl, rfl, hv, by rw [s.len]; exact hz.1, hz.2.1, by omega, q _ _ _ (x'.trans x2) h2 Rp.non⟩
            · cases e
          · cases e
        · cases e
  · cases e
end DL

namespace DL
open PySem L2 PyProof.Rows
section
variable {V : Rho} {G : Sg} {X : XK'} {f g : Fe}
theorem J_iEnumS {KS : Src → Sg → Prop} {k0 : Int} (h : J V G f (fun w G1 => JO G1 (lstOf w) fun xs => KS ⟨enS k0 xs, gsOf w xs⟩ G1) X) : J V G (iEnumS k0 f) KS X :=
  J.bind (h.mono fun w G1 k => fun m0 S r m hv hm => by
    obtain ⟨xs, e, k⟩ := k m0 S m hm
    exact .inl ⟨_, m, G1, by simp only [e], hm, k⟩)
theorem J_iZipT {KS : Src → Sg → Prop} (h : J V G f (fun w G1 => J V G1 g (fun v G2 => ∃ xs ys, w = .d (.tuple xs) ∧ v = .d (.tuple ys) ∧ KS ⟨zpL xs ys, []⟩ G2) X) X) : J V G (iZipT f g) KS X :=
  J.bind (h.mono fun w G1 k => J.bind (k.mono fun v G2 k => by
    obtain ⟨xs, ys, rfl, rfl, k⟩ := k
    exact J.ok k))
theorem J_iR2 {KS : Src → Sg → Prop} (h : J V G f (fun w G1 => J V G1 g (fun v G2 => ∃ i j, w = .d (.int i) ∧ v = .d (.int j) ∧ (-(2 ^ 62) ≤ i ∧ i < 2 ^ 62) ∧ (-(2 ^ 62) ≤ j ∧ j < 2 ^ 62) ∧ KS ⟨rngL i (j - i).toNat, []⟩ G2) X) X) : J V G (iRange2 f g) KS X :=
  J.bind (h.mono fun w G1 k => J.bind (k.mono fun v G2 k => by
    obtain ⟨i, j, rfl, rfl, h1, h2, k⟩ := k
    simp only [h1.1, h1.2, h2.1, h2.2, decide_true, Bool.and_self, if_true]
    exact J.ok k))
theorem JG_st21 {gs : List W → Rho → Sto → Option (Rho × Sto)} {a b c : D} {K : Rho → Sg → Prop} (h : JGs V G gs [.d a, .d (.list [b, c])] K) : JG V G (gSt false 2 1 gs) (.d (.tuple [a, b, c])) K := fun m0 S r m hv hm => by
  obtain ⟨r1, m1, V1, G1, e1, h1⟩ := h m0 S r m hv hm
  exact ⟨r1, m1, V1, G1, e1, h1⟩
theorem JU_ins0 {a : Nat} {y : W} {K : W → Sg → Prop} (h : JU G (frz y) fun x G1 => ∃ i xs, Has G1 i a (Cell.lst xs) ∧ xs.length < sizeLine ∧ K (.d .none) (G1.set i (a, Cell.lst (x :: xs)))) : JU G (gIns a [.d (.int 0), y]) K := fun m0 S m hm => by
  obtain ⟨x, m1, G1, e1, h1, i, xs, hi, hz, k⟩ := h m0 S m hm
  exact ⟨_, _, _, by simp only [gIns, e1, h1.cel i a _ hi, hz, if_true, true_and]; rfl, h1.write hi _, k⟩
end
end DL
open DL PySem
local macro_rules
  | `(tactic| sizeOf_list_dec) => `(tactic| with_reducible first | apply J_iR2 | apply J_iEnumS | apply J_iZipT | apply JU_ins0 | apply JG_st21)

/-! sorted(xs) of any data; min(a, b), max(a, b) of texts -/
namespace DL
open PySem PySem.Spec PyProof.Rows L2
open PySem.W (EachIs AllAlike Sortable dataLe)
theorem each_of {X : Cx} {pins : List (Addr × Obj)} {σ : L2.St} {H : Hp} {s : Shared} (I : Inv X pins σ H s) : ∀ {xs : List V} {ds : List D} {us : List Value}, DpAll X.K H xs ds → Vals xs us →
    EachIs (fun u (b : V × D) => RelV b.1 u) us (xs.zip ds) ∧ EachIs (fun u (b : V × D) => ∃ as, Reads s.heap u b.2 as) us (xs.zip ds)
  | _, _, _, .nil, .nil => ⟨.nil, .nil⟩
  | _, _, _, .cons h hs, .cons r rs => by
    obtain ⟨h1, h2⟩ := each_of I hs rs
    exact ⟨.cons r h1, .cons (Dp.reads I _ _ _ h r) h2⟩
theorem vals_each : ∀ {us : List Value} {zs : List (V × D)}, EachIs (fun u (b : V × D) => RelV b.1 u) us zs → Vals (zs.map (·.1)) us
  | _, _, .nil => .nil
  | _, _, .cons r rs => .cons r (vals_each rs)
/-- sorted(xs), any data -/
def rSortedA (K : PySem.W.Frag) : List V → Hp → VK → Prop := fun vs H Q => ∃ (a : Addr) (xs : List V) (ds : List D), vs = [V.ref a] ∧ SqL K H a xs ∧ DpAll K H xs ds ∧ AllAlike ds ∧ Sortable ds ∧ ds.length ≤ sizeLine ∧ (∀ d ∈ ds, d.depth ≤ 60) ∧
  ∀ (p : Addr), H p = none → Q (.ref p) (upd H p (.lst (((xs.zip ds).mergeSort (dataLe false (·.2))).map (·.1))))
theorem dpAll_len {K : PySem.W.Frag} {H : Hp} : ∀ {xs : List V} {ds : List D}, DpAll K H xs ds → xs.length = ds.length
  | _, _, .nil => rfl
  | _, _, .cons _ h => by rw [List.length_cons, List.length_cons, dpAll_len h]
theorem zip_snd {α β : Type} : ∀ {xs : List α} {ys : List β}, xs.length = ys.length → (xs.zip ys).map (·.2) = ys
  | [], [], _ => rfl
  | x :: xs, y :: ys, h => by rw [List.zip_cons_cons, List.map_cons, zip_snd (by simpa using h)]
theorem cr_sortedA {X : Cx} (hu : X.A.units + 65 < cLine) : CallR X (.builtin "sorted") (rSortedA X.K) := by
  intro pins s σ H vs us Q I r h
  obtain ⟨a, xs, ds, rfl, hs, hd, hal, hso, hz, hdep, q⟩ := h
  obtain ⟨its, rv, hl, _⟩ := I.list hs
  rw [Vals.ref1 r]
  obtain ⟨e1, e2⟩ := each_of I hd rv
  have hle := dpAll_len hd
  have hmap := zip_snd hle
  have hzl : (xs.zip ds).length = ds.length := by rw [List.length_zip, hle, Nat.min_self]
  refine PySem.W.sorted_data (enc := fun b : V × D => b.2) hl.isList e1 e2 (by rw [hmap]; exact hal) (by rw [hmap]; exact hso) (by rw [hzl]; exact hz) (fun b hb => ?_) fun out hol ho => ?_
  · have := hdep b.2 (by rw [← hmap]; exact List.mem_map.mpr ⟨b, hb, rfl⟩)
    show X.A.units + 2 + b.2.depth < cLine
    omega
  · obtain ⟨ep, he'⟩ := PyProof.Rows.sortedAll_at s.heap its out.toArray
    have hlen : (((xs.zip ds).mergeSort (dataLe false (·.2))).map (·.1)).length ≤ sizeLine := by rw [List.length_map, List.length_mergeSort, hzl]; exact hz
    exact ⟨.ref _, upd H (s.heap.objs.size + 1) (.lst (((xs.zip ds).mergeSort (dataLe false (·.2))).map (·.1))), I.laid (t' := s.toks) (fun _ _ => PyProof.Rows.sortedAll_old) (Nat.le_succ _) ⟨hlen, out, ep, vals_each ho, by simpa using he'⟩, rfl, q _ (I.hok.fresh (Nat.le_succ _))⟩
noncomputable def sortA (xs : List D) : List D := xs.mergeSort (dataLe false id)
def OkSort (xs : List D) : Prop := AllAlike xs ∧ Sortable xs ∧ xs.length ≤ sizeLine ∧ ∀ d ∈ xs, d.depth ≤ 60
open Classical in
noncomputable def gSortA : List W → Sto → Option (List D)
  | [a], m => match datOf a m with
    | some (.list xs) => if OkSort xs then some (sortA xs) else none
    | _ => none
  | _, _ => none
theorem rp_zip {K : PySem.W.Frag} {F : Hp} {zs : List (V × D)} (h : ∀ z ∈ zs, Rp K F z.1 z.2) : RpA K F (zs.map (·.1)) (zs.map (·.2)) := by
  induction zs with
  | nil => exact .nil
  | cons z zs ih => exact .cons (h z List.mem_cons_self) (ih fun y hy => h y (List.mem_cons_of_mem _ hy))
theorem rp_of_zip {K : PySem.W.Frag} {F : Hp} : ∀ {xs : List V} {ds : List D}, RpA K F xs ds → ∀ z ∈ xs.zip ds, Rp K F z.1 z.2
  | _, _, .nil, z, hz => nomatch hz
  | _, _, .cons a b, z, hz => by
    rcases List.mem_cons.mp hz with rfl | hz
    · exact a
    · exact rp_of_zip b z hz
theorem dp_all {K : PySem.W.Frag} {F : Hp} : ∀ {xs : List V} {ds : List D}, RpA K F xs ds → DpAll K F xs ds
  | _, _, .nil => .nil
  | _, _, .cons a b => .cons a.dp (dp_all b)
theorem sortA_zip {xs : List V} {ds : List D} (h : xs.length = ds.length) : ((xs.zip ds).mergeSort (dataLe false (·.2))).map (·.2) = sortA ds := by
  unfold sortA
  refine (List.map_mergeSort (r := dataLe false (fun z : V × D => z.2)) (s := dataLe false id) (f := fun z : V × D => z.2) (fun a _ b _ => rfl)).trans ?_
  rw [zip_snd h]
theorem cf_sortedA {K : PySem.W.Frag} : CallF K (rSortedA K) gSortA := by
  intro ws z vs ad m F H Q r ha e q
  unfold gSortA at e
  split at e
  · obtain ⟨v, rfl, r1⟩ := r.one
    split at e
    · rename_i xs ed
      split at e
      · rename_i hok
        cases e
        obtain ⟨a, us, rfl, q1, q2⟩ := ha.lst' r1 ed

        refine ⟨a, us, xs, rfl, SqL.of q1, ?_, hok.1, hok.2.1, hok.2.2.1, hok.2.2.2, fun p h0 => ?_⟩
        · exact (RpA.mono ha.le q2).dp
        · have hr := rp_zip (zs := (us.zip xs).mergeSort (dataLe false (·.2))) fun z hz => rp_of_zip q2 z (List.mem_mergeSort.mp hz)
          rw [sortA_zip q2.len] at hr
          exact q p _ h0 hr
      · cases e
    · cases e
  · cases e
/-! ### min, max of two texts -/
theorem argBest1 (bt : Nat → Nat → Bool) : argBest bt 1 = if bt 1 0 = true then 1 else 0 := rfl
theorem CmpOf.strs_gt {prog : Program} {w : World} {A : Around} {P : Nat → Value → Prop} (val : Nat → Str) (hval : ∀ i v, P i v → ∃ t, v = .str (val i) t) :
    CmpOf prog w A .Gt P (fun i j => decide ((val i).cps.toList > (val j).cps.toList)) := fun i j vi vj s Q E hi hj h => by
  obtain ⟨t, rfl⟩ := hval i vi hi
  obtain ⟨u, rfl⟩ := hval j vj hj
  exact richCompare_gives (op := .Gt) (typeIs_str s _ t) (typeIs_str s _ u) PySem.F.slot_str_gt PySem.F.entry_str_gt (PySem.F.args_str_gt_2 _ _) (gives_str_gt _ _ t u) (fun x => nomatch x) h
theorem CmpOf.strs_lt {prog : Program} {w : World} {A : Around} {P : Nat → Value → Prop} (val : Nat → Str) (hval : ∀ i v, P i v → ∃ t, v = .str (val i) t) :
    CmpOf prog w A .Lt P (fun i j => decide ((val i).cps.toList < (val j).cps.toList)) := fun i j vi vj s Q E hi hj h => by
  obtain ⟨t, rfl⟩ := hval i vi hi
  obtain ⟨u, rfl⟩ := hval j vj hj
  exact richCompare_gives (op := .Lt) (typeIs_str s _ t) (typeIs_str s _ u) PySem.F.slot_str_lt PySem.F.entry_str_lt (PySem.F.args_str_lt_2 _ _) (gives_str_lt _ _ t u) (fun x => nomatch x) h
def strItems (xs : Array (Str × Tok)) : Array Value := xs.map fun p => .str p.1 p.2
def strAt (xs : Array (Str × Tok)) (i : Nat) : Str := (xs[i]?.map (·.1)).getD ""
theorem strAt1 {a b : Str} {t u : Tok} : strAt #[(a, t), (b, u)] 1 = b := rfl
theorem strAt0 {a b : Str} {t u : Tok} : strAt #[(a, t), (b, u)] 0 = a := rfl
theorem strItems_at {xs : Array (Str × Tok)} {i : Nat} {v : Value} (h : (strItems xs)[i]? = some v) : ∃ t, v = .str (strAt xs i) t := by
  simp only [strItems, Array.getElem?_map, Option.map_eq_some_iff] at h
  obtain ⟨p, h1, rfl⟩ := h
  exact ⟨p.2, by simp [strAt, h1]⟩
section
variable {prog : Program} {w : World} {A : Around} {E : Value → Shared → Prop} {s : Shared}
theorem max_two_strs {a b : Str} {t u : Tok} {Q : Value → Shared → Prop} (hh : A.handled = none)
    (h : ∀ h' tk, (∀ c o, s.heap.get? c = some o → h'.get? c = some o) → Q (if b.cps.toList > a.cps.toList then .str b u else .str a t) { s with heap := h', toks := tk }) :
    wpAny (model prog w) A (call (.builtin "max") [.str a t, .str b u]) Q E s := by
  have hT : (s.heap.push { cls := .type "tuple", data := .seq #[.str a t, .str b u] }).IsTuple s.heap.objs.size (strItems #[(a, t), (b, u)]) := ⟨_, Heap.get?_push_size _ rfl, rfl, 0, by simp [strItems]⟩
  refine call_max_two (wpAny_pyIter_tuple hT ?_)
  have hsz : (s.heap.push { cls := .type "tuple", data := .seq #[.str a t, .str b u] }).objs.size = s.heap.objs.size + 1 := Heap.size_push ..
  refine ⟨_, [_, s.heap.objs.size], [_], _, _, _, _, rfl, Walks.tuple (A := A.in1) hh _ s.heap.objs.size (by rw [hsz]; exact Nat.ne_of_lt (Nat.lt_succ_self _)) (strItems #[(a, t), (b, u)]),
    ⟨⟨_, Heap.get?_push_size _ rfl, rfl, rfl⟩, hT.push _⟩, fun c hc => ?_, by simp [strItems], CmpOf.strs_gt (strAt #[(a, t), (b, u)]) (fun _ _ => strItems_at), fun v h' tk hP hk => ?_⟩
  · show c < ((s.heap.push _).push _).objs.size
    rw [Heap.size_push, hsz]
    rcases List.mem_cons.mp hc with rfl | hc
    · rw [hsz]; exact Nat.lt_succ_self _
    · rcases List.mem_cons.mp hc with rfl | hc
      · exact Nat.lt_succ_of_lt (Nat.lt_succ_self _)
      · cases hc
  · have hold : ∀ c o, s.heap.get? c = some o → h'.get? c = some o := fun c o e => by
      refine hk c o (fun hm => ?_) (Heap.get?_push_of_some _ (Heap.get?_push_of_some _ e))
      rcases List.mem_cons.mp hm with e1 | hm
      · have := Heap.lt_size e; rw [e1, hsz] at this; exact Nat.lt_irrefl _ (Nat.lt_of_succ_lt this)
      · cases hm
    have := h h' tk hold
    have hv : v = if b.cps.toList > a.cps.toList then Value.str b u else Value.str a t := by
      have hP' : (strItems #[(a, t), (b, u)])[argBest (fun i j => decide ((strAt #[(a, t), (b, u)] i).cps.toList > (strAt #[(a, t), (b, u)] j).cps.toList)) 1]? = some v := by
        have hsz2 : (strItems #[(a, t), (b, u)]).size - 1 = 1 := by simp [strItems]
        rw [← hsz2]; exact hP
      by_cases hba : b.cps.toList > a.cps.toList
      · have e : argBest (fun i j => decide ((strAt #[(a, t), (b, u)] i).cps.toList > (strAt #[(a, t), (b, u)] j).cps.toList)) 1 = 1 := by
          rw [argBest1, strAt1, strAt0]
          exact if_pos (decide_eq_true hba)
        rw [e] at hP'
        rw [if_pos hba]
        simpa [strItems] using hP'.symm
      · have e : argBest (fun i j => decide ((strAt #[(a, t), (b, u)] i).cps.toList > (strAt #[(a, t), (b, u)] j).cps.toList)) 1 = 0 := by
          rw [argBest1, strAt1, strAt0]
          exact if_neg (by rw [decide_eq_false hba]; decide)
        rw [e] at hP'
        rw [if_neg hba]
        simpa [strItems] using hP'.symm
    rw [hv]; exact this
theorem min_two_strs {a b : Str} {t u : Tok} {Q : Value → Shared → Prop} (hh : A.handled = none)
    (h : ∀ h' tk, (∀ c o, s.heap.get? c = some o → h'.get? c = some o) → Q (if b.cps.toList < a.cps.toList then .str b u else .str a t) { s with heap := h', toks := tk }) :
    wpAny (model prog w) A (call (.builtin "min") [.str a t, .str b u]) Q E s := by
  have hT : (s.heap.push { cls := .type "tuple", data := .seq #[.str a t, .str b u] }).IsTuple s.heap.objs.size (strItems #[(a, t), (b, u)]) := ⟨_, Heap.get?_push_size _ rfl, rfl, 0, by simp [strItems]⟩
  refine call_min_two (wpAny_pyIter_tuple hT ?_)
  have hsz : (s.heap.push { cls := .type "tuple", data := .seq #[.str a t, .str b u] }).objs.size = s.heap.objs.size + 1 := Heap.size_push ..
  refine ⟨_, [_, s.heap.objs.size], [_], _, _, _, _, rfl, Walks.tuple (A := A.in1) hh _ s.heap.objs.size (by rw [hsz]; exact Nat.ne_of_lt (Nat.lt_succ_self _)) (strItems #[(a, t), (b, u)]),
    ⟨⟨_, Heap.get?_push_size _ rfl, rfl, rfl⟩, hT.push _⟩, fun c hc => ?_, by simp [strItems], CmpOf.strs_lt (strAt #[(a, t), (b, u)]) (fun _ _ => strItems_at), fun v h' tk hP hk => ?_⟩
  · show c < ((s.heap.push _).push _).objs.size
    rw [Heap.size_push, hsz]
    rcases List.mem_cons.mp hc with rfl | hc
    · rw [hsz]; exact Nat.lt_succ_self _
    · rcases List.mem_cons.mp hc with rfl | hc
      · exact Nat.lt_succ_of_lt (Nat.lt_succ_self _)
      · cases hc
  · have hold : ∀ c o, s.heap.get? c = some o → h'.get? c = some o := fun c o e => by
      refine hk c o (fun hm => ?_) (Heap.get?_push_of_some _ (Heap.get?_push_of_some _ e))
      rcases List.mem_cons.mp hm with e1 | hm
      · have := Heap.lt_size e; rw [e1, hsz] at this; exact Nat.lt_irrefl _ (Nat.lt_of_succ_lt this)
      · cases hm
    have := h h' tk hold
    have hv : v = if b.cps.toList < a.cps.toList then Value.str b u else Value.str a t := by
      have hP' : (strItems #[(a, t), (b, u)])[argBest (fun i j => decide ((strAt #[(a, t), (b, u)] i).cps.toList < (strAt #[(a, t), (b, u)] j).cps.toList)) 1]? = some v := by
        have hsz2 : (strItems #[(a, t), (b, u)]).size - 1 = 1 := by simp [strItems]
        rw [← hsz2]; exact hP
      by_cases hba : b.cps.toList < a.cps.toList
      · have e : argBest (fun i j => decide ((strAt #[(a, t), (b, u)] i).cps.toList < (strAt #[(a, t), (b, u)] j).cps.toList)) 1 = 1 := by
          rw [argBest1, strAt1, strAt0]
          exact if_pos (decide_eq_true hba)
        rw [e] at hP'
        rw [if_pos hba]
        simpa [strItems] using hP'.symm
      · have e : argBest (fun i j => decide ((strAt #[(a, t), (b, u)] i).cps.toList < (strAt #[(a, t), (b, u)] j).cps.toList)) 1 = 0 := by
          rw [argBest1, strAt1, strAt0]
          exact if_neg (by rw [decide_eq_false hba]; decide)
        rw [e] at hP'
        rw [if_neg hba]
        simpa [strItems] using hP'.symm
    rw [hv]; exact this
end
end DL
namespace DL
open PySem PySem.Spec PyProof.Rows L2
def rMin2 : List V → Hp → VK → Prop := fun vs H Q => ∃ a b, vs = [.str a, .str b] ∧ Q (.str (if b.cps.toList < a.cps.toList then b else a)) H
def rMax2 : List V → Hp → VK → Prop := fun vs H Q => ∃ a b, vs = [.str a, .str b] ∧ Q (.str (if b.cps.toList > a.cps.toList then b else a)) H
theorem cr_min2 {X : Cx} (hc : X.calm = true) : CallR X (.builtin "min") rMin2 := by
  intro pins s σ H vs us Q I r h
  obtain ⟨a, b, rfl, q⟩ := h
  cases r with
  | cons r1 rr =>
    cases rr with
    | cons r2 rr =>
      cases rr
      obtain ⟨t, rfl⟩ := r1
      obtain ⟨u, rfl⟩ := r2
      refine min_two_strs (I.ok.hd hc) fun h' tk hk => ?_
      by_cases hb : b.cps.toList < a.cps.toList
      · rw [if_pos hb] at q ⊢
        exact ⟨.str b, H, I.kept (t' := tk) hk, ⟨u, rfl⟩, q⟩
      · rw [if_neg hb] at q ⊢
        exact ⟨.str a, H, I.kept (t' := tk) hk, ⟨t, rfl⟩, q⟩
theorem cr_max2 {X : Cx} (hc : X.calm = true) : CallR X (.builtin "max") rMax2 := by
  intro pins s σ H vs us Q I r h
  obtain ⟨a, b, rfl, q⟩ := h
  cases r with
  | cons r1 rr =>
    cases rr with
    | cons r2 rr =>
      cases rr
      obtain ⟨t, rfl⟩ := r1
      obtain ⟨u, rfl⟩ := r2
      refine max_two_strs (I.ok.hd hc) fun h' tk hk => ?_
      by_cases hb : b.cps.toList > a.cps.toList
      · rw [if_pos hb] at q ⊢
        exact ⟨.str b, H, I.kept (t' := tk) hk, ⟨u, rfl⟩, q⟩
      · rw [if_neg hb] at q ⊢
        exact ⟨.str a, H, I.kept (t' := tk) hk, ⟨t, rfl⟩, q⟩
def gMin2 : List W → Sto → Option W
  | [.d (.str a), .d (.str b)], _ => some (.d (.str (if b.cps.toList < a.cps.toList then b else a)))
  | _, _ => none
def gMax2 : List W → Sto → Option W
  | [.d (.str a), .d (.str b)], _ => some (.d (.str (if b.cps.toList > a.cps.toList then b else a)))
  | _, _ => none
theorem cd_min2 {K : PySem.W.Frag} : CallD K rMin2 gMin2 := by
  intro ws z vs ad m F H Q r ha e q
  unfold gMin2 at e
  split at e
  · cases e
    cases r with
    | cons r1 rr =>
      cases rr with
      | cons r2 rr =>
        cases rr
        cases r1
        cases r2
        exact ⟨_, _, rfl, q _ F H Ext.refl ha (.str _)⟩
  · cases e
theorem cd_max2 {K : PySem.W.Frag} : CallD K rMax2 gMax2 := by
  intro ws z vs ad m F H Q r ha e q
  unfold gMax2 at e
  split at e
  · cases e
    cases r with
    | cons r1 rr =>
      cases rr with
      | cons r2 rr =>
        cases rr
        cases r1
        cases r2
        exact ⟨_, _, rfl, q _ F H Ext.refl ha (.str _)⟩
  · cases e
end DL

namespace DL
open PySem L2 PyProof.Rows
section
variable {G : Sg}
theorem JO_sortA {xs : List D} {K : List D → Prop} (h : OkSort xs) (k : K (sortA xs)) : JO G (gSortA [.d (.list xs)]) K :=
  JO_pure (fun m => by simp only [gSortA, dat_d, h, if_true]) k
theorem JO_sortAC {a : Nat} {xs : List D} {K : List D → Prop} (p : Nat) (hp : Has G p a (Cell.lst xs)) (h : OkSort xs) (k : K (sortA xs)) : JO G (gSortA [.c a]) K :=
  JO_at p hp (fun m hm => by simp only [gSortA, dat_c, hm, h, if_true]) k
theorem sortA_mem {xs : List D} {x : D} : x ∈ sortA xs ↔ x ∈ xs := (List.mergeSort_perm xs _).mem_iff
theorem sortA_len (xs : List D) : (sortA xs).length = xs.length := List.length_mergeSort xs
theorem sortA_perm (xs : List D) : (sortA xs).Perm xs := List.mergeSort_perm xs _
end
end DL

namespace DN
open PySem PySem.Spec PyProof.Rows
theorem meets_range_in (a : Addr) (n i : Int) (t0 t1 t2 t : Tok) : Meets (Builtin.«range.__contains__» ⟨[.ref a, .int i t], []⟩) (fun _ R s => s.heap.get? a = some { cls := .type "range", data := .fields #[.int 0 t0, .int n t1, .int 1 t2] } ∧ R (.ok (.ret (.bool (decide (0 ≤ i) && decide (i < n))))) s) :=
  .of_wp fun prog w A R s h => by
    obtain ⟨h1, h⟩ := h
    wp_walk
    refine ⟨_, rfl, ?_⟩
    have e : (Builtin.Range.rangePlace? 0 n 1 i).isSome = (decide (0 ≤ i) && decide (i < n)) := by
      unfold Builtin.Range.rangePlace?
      simp only [show ((1 : Int) > 0) = True by simp, if_true]
      by_cases h0 : 0 ≤ i <;> by_cases h1 : i < n <;> simp [h0, h1, Int.emod_one]
    rw [e]
    exact h
end DN
namespace DL
open PySem PySem.Spec PyProof.Rows L2 DN
/-! ### x not in range(n) -/
def tNotInR (ta te : TE) : TE := fun σ H Q => ta σ H fun x H1 => te σ H1 fun y H2 => ∃ i n : Int, x = .int i ∧ y = .int n ∧ Q (.bl (!(decide (0 ≤ i) && decide (i < n)))) H2
theorem pc_notInR {X : Cx} {a e : Expr} {ta te : TE} {p pos : Pos} (hg : Gl X "range") (hm : X.mg "range" = none) (ha : PE X a ta) (he : PE X e te) (hs : starEach [e] X.env = [(false, eval e X.env)] := by rfl) : PC X .NotIn a (.Call (.Name "range" p) [e] [] pos) (tNotInR ta te) := by
  refine ⟨fun pins s σ H Q I h => ?_⟩
  refine thn (ha.run pins s σ H _ I h) fun v s1 ⟨x, H1, I1, r1, q1⟩ => ?_
  have hpa : PA X [e] (tCons te tNil) := pa_cons he pa_nil hs
  refine Call_ (ld_blt I1 hg hm boot_range (PyProof.Rows.callWith_type1 (thn (hpa.run pos pins s1 σ H1 (fun vs H2 => match vs with | [y] => ∃ i n : Int, x = .int i ∧ y = .int n ∧ Q (.bl (!(decide (0 ≤ i) && decide (i < n)))) H2 | _ => False) I1 q1) fun us s2 ⟨vs, H2, I2, r2, q2⟩ => ?_) hs rfl))
  cases r2 with
  | nil => exact q2.elim
  | cons ry rr =>
    cases rr with
    | cons _ _ => exact q2.elim
    | nil =>
      obtain ⟨i, n, rfl, rfl, q⟩ := q2
      obtain ⟨t, rfl⟩ := r1
      obtain ⟨u, rfl⟩ := ry
      refine call_range_1 ?_
      have I3 : Inv X pins σ H2 { s2 with heap := s2.heap.push { cls := .type "range", data := .fields #[.int 0 s2.toks, .int n u, .int 1 (s2.toks + 1)] }, toks := s2.toks + 1 + 1 } := I2.kept (t' := s2.toks + 1 + 1) fun b o e => Heap.get?_push_of_some _ e
      exact PySem.SeqRoads2.notIn_meets ⟨_, Heap.get?_push_size _ rfl, rfl⟩ PySem.F.slot_range_contains PySem.F.entry_range_contains (PySem.F.args_range_contains_2 _ _) (meets_range_in _ n i _ _ _ t) ⟨Heap.get?_push_size _ rfl, _, rfl, .bl _, H2, I3, rfl, q⟩
def gNR : W → W → Sto → Option W
  | .d (.int i), .d (.int n), _ => some (.d (.bool (!(decide (0 ≤ i) && decide (i < n)))))
  | _, _, _ => none
def rNR : R2 := fun x y H Q => ∃ i n : Int, x = .int i ∧ y = .int n ∧ Q (.bl (!(decide (0 ≤ i) && decide (i < n)))) H
theorem od_NR {K : PySem.W.Frag} : OpD K rNR gNR := by
  intro x y z u v ad m F H Q rx ry ha e q
  unfold gNR at e
  split at e
  · cases e; cases rx; cases ry
    exact ⟨_, _, rfl, rfl, q _ F H Ext.refl ha (.bl _)⟩
  · cases e
abbrev dNotInR (f g : Fe) : Fe := dBin gNR f g
section
variable {X : Cx} {Wx : WX} {a e : Expr} {fa fe : Fe} {p pos cpos : Pos}
theorem notInR_w {K : PySem.W.Frag} {Wx : WX} {fa fb : Fe} {s : L2.St} {H : Hp} {Q : VK} (h : LE K Wx (dNotInR fa fb) s H Q) : tNotInR (LE K Wx fa) (LE K Wx fb) s H Q := bin_w od_NR h
theorem de_notInR (hg : Gl X "range") (hm : X.mg "range" = none) (ha : DE X Wx a fa) (he : DE X Wx e fe) (hs : starEach [e] X.env = [(false, eval e X.env)] := by rfl) (h1 : behindInMarks .NotIn (.Call (.Name "range" p) [e] [] pos) = false := by rfl) : DE X Wx (.Compare a [.NotIn] [.Call (.Name "range" p) [e] [] pos] cpos) (dNotInR fa fe) :=
  pe_weak (pe_cmp (pc_notInR hg hm ha he hs) h1) fun _ _ _ q => notInR_w q
theorem dt_notInR (hg : Gl X "range") (hm : X.mg "range" = none) (ha : DE X Wx a fa) (he : DE X Wx e fe) (hs : starEach [e] X.env = [(false, eval e X.env)] := by rfl) (h1 : behindInMarks .NotIn (.Call (.Name "range" p) [e] [] pos) = false := by rfl) : DT X Wx (.Compare a [.NotIn] [.Call (.Name "range" p) [e] [] pos] cpos) (dIsT (dNotInR fa fe)) := by
  refine pt_weak (pt_cmp (pc_notInR hg hm ha he hs) h1) fun s H Q q => ?_
  obtain ⟨r, ad, m, F, he, hA, hp⟩ := q
  have h : LE X.K Wx (dNotInR fa fe) s H fun x H' => ∃ k, x = .bl k ∧ Q k H' := by
    refine ⟨r, ad, m, F, he, hA, hp.bind.mono (fun w m1 ad1 F1 H1 e1 a1 q b rb => ?_) fun _ _ _ _ _ _ _ _ z => z⟩
    obtain ⟨_, _, q⟩ := q
    split at q
    · cases rb
      exact ⟨_, rfl, q _ _ _ Ext.refl a1 _ rfl⟩
    · exact q.elim
  exact notInR_w h
/-! ### xs[::-1] -/
def dRev (f : Fe) : Fl := fun r m => (f r m).bind fun x m1 => match datOf x m1 with
  | some (.list xs) => .ok xs.reverse m1
  | _ => .bad
theorem df_rev {k : Nat} {p1 p2 p3 pos : Pos} (ha : DE X Wx a fa) : DF X Wx (.Subscript a (.Slice none none (some (.UnaryOp .USub (.Constant (.int 1) k p1) p2)) p3) pos) (dRev fa) := pe_weak (pe_revL ha) fun s H Q q => by
  obtain ⟨ρ, ad, m, F, he, hA, hp⟩ := q
  refine ⟨_, _, _, _, he, hA, Post.mono (Post.bind hp) (fun x m1 ad1 F1 H1 e1 ha1 q0 u ru => ?_) fun _ _ _ _ _ _ _ _ z => z⟩
  obtain ⟨_, _, h1⟩ := q0
  cases ex : datOf x m1 with
  | none => simp only [ex] at h1; exact h1.elim
  | some dx =>
    cases dx with
    | list xs =>
      simp only [ex] at h1
      obtain ⟨p, vs, rfl, q1, s1⟩ := ha1.lst' ru ex
      refine ⟨p, vs, rfl, SqL.of q1, fun p hp' => ?_⟩
      obtain ⟨a3, x3⟩ := ha1.room (o := .lst vs.reverse) hp'
      obtain ⟨np, fp⟩ := ha1.out hp'
      exact h1 _ _ _ x3 a3 p _ (e1.was hp' np) upd_same fp np s1.rev
    | none => simp only [ex] at h1; exact h1.elim
    | bool _ => simp only [ex] at h1; exact h1.elim
    | int _ => simp only [ex] at h1; exact h1.elim
    | str _ => simp only [ex] at h1; exact h1.elim
    | tuple _ => simp only [ex] at h1; exact h1.elim
    | dict _ => simp only [ex] at h1; exact h1.elim
end
/-! ### range(i, j, -1) -/
def rngD (i : Int) (n : Nat) : List D := (List.range n).map fun k : Nat => .int (i + (k : Nat) * (-1))
theorem rngD_ok {K : PySem.W.Frag} {ad : List Addr} {F H : Hp} {lo : Int} {n : Nat} : SrcOk K ⟨rngD lo n, []⟩ ad F H (Itc lo (-1) n) := by
  have hl : (rngD lo n).length = n := by simp [rngD]
  refine ⟨fun _ => True, _, by show Walk _ (rngD lo n).length _ _; rw [hl]; exact walk_rangeC, fun _ _ _ _ _ _ _ => True.intro, fun i ad2 F2 H2 m2 x H3 hi _ h2 _ y => ?_⟩
  obtain ⟨rfl, rfl⟩ := y
  have hi : i < (rngD lo n).length := hi
  rw [hl] at hi
  exact ⟨F2, .int (lo + (i : Nat) * (-1)), by show (rngD lo n)[i]? = _; simp [rngD, hi], Ext.refl, h2, .int _⟩
def iRange3 (f g h : Fe) : Fi := fun r m => (f r m).bind fun w m1 => (g r m1).bind fun w2 m2 => (h r m2).bind fun w3 m3 => match w, w2, w3 with
  | .d (.int i), .d (.int j), .d (.int c) => if c = -1 ∧ -(2 ^ 62) ≤ i ∧ i < 2 ^ 62 ∧ -(2 ^ 62) ≤ j ∧ j < 2 ^ 62 then .ok ⟨rngD i (i - j).toNat, []⟩ m3 else .bad
  | _, _, _ => .bad
section
variable {X : Cx} {Wx : WX} {tg : Expr} {f g h : Fe}
theorem di_range3 {it : Expr} (hh : PI X tg it (iRng3 (LA X.K Wx (dCons f (dCons g (dCons h dNil)))))) : DI X Wx tg it (iRange3 f g h) := pi_weak hh fun s H R q => by
  obtain ⟨r, ad, m, F, he, hA, hp⟩ := q
  have hp' : Post X.K ad F H ((dCons f (dCons g (dCons h dNil)) r m).bind fun ws m1 => match ws with | [w, w2, w3] => (match w, w2, w3 with | .d (.int i), .d (.int j), .d (.int c) => if c = -1 ∧ -(2 ^ 62) ≤ i ∧ i < 2 ^ 62 ∧ -(2 ^ 62) ≤ j ∧ j < 2 ^ 62 then .ok (⟨rngD i (i - j).toNat, []⟩ : Src) m1 else .bad | _, _, _ => .bad) | _ => .bad) (fun src _ ad' F' H' => ∀ J, SrcOk X.K src ad' F' H' J → R J H') (XP X.K Wx s) := by
    unfold iRange3 at hp
    unfold dCons dNil
    cases e : f r m with
    | ok w m1 =>
      rw [e] at hp
      simp only [Out.bind_ok] at hp ⊢
      cases e2 : g r m1 with
      | ok w2 m2 =>
        simp only [Out.bind_ok, e2] at hp ⊢
        cases e3 : h r m2 with
        | ok w3 m3 => simp only [Out.bind_ok, e3] at hp ⊢; exact hp
        | exc c fs m1 => simp only [e3, Out.bind_exc] at hp ⊢; exact hp
        | bad => simp only [e3] at hp; exact hp.elim
      | exc c fs m1 => simp only [e2, Out.bind_exc] at hp ⊢; exact hp
      | bad => simp only [e2] at hp; exact hp.elim
    | exc c fs m1 => rw [e] at hp; exact hp
    | bad => rw [e] at hp; exact hp
  refine ⟨_, _, _, _, he, hA, Post.mono (Post.bind hp') (fun ws m1 ad1 F1 H1 e1 ha1 q0 vs rw1 => ?_) fun _ _ _ _ _ _ _ _ z => z⟩
  obtain ⟨_, _, h1⟩ := q0
  split at h1
  · split at h1
    · split at h1
      · rename_i hb
        cases rw1 with
        | cons r1 rr =>
          cases rr with
          | cons r2 rr =>
            cases rr with
            | cons r3 rr =>
              cases rr
              cases r1
              cases r2
              cases r3
              obtain ⟨rfl, b1, b2, b3, b4⟩ := hb
              exact ⟨_, _, _, _, rfl, RgC.neg b1 b2 b3 b4, h1 _ _ _ Ext.refl ha1 _ rngD_ok⟩
      · exact h1.elim
    · exact h1.elim
  · exact h1.elim
end
/-! ### xs.extend(ys) -/
def gExt (i : Nat) : List W → Sto → Option (W × Sto)
  | [y], m => match frz y m with
    | some (.list ys, m1) => (match m1[i]? with
      | some (.lst xs) => if xs.length + ys.length ≤ sizeLine then some (.d .none, m1.set i (.lst (xs ++ ys))) else none
      | _ => none)
    | _ => none
  | _, _ => none
theorem md_ext {K : PySem.W.Frag} : MtD K rExtend gExt := by
  intro i ws z u vs ad m m' F H Q r1 r2 hA e q
  unfold gExt at e
  split at e
  · obtain ⟨v, rfl, ry⟩ := r2.one
    split at e
    · rename_i ys m1 ef
      split at e
      · rename_i xs hm
        split at e
        · rename_i hz
          cases e
          obtain ⟨a, ha, rfl⟩ := r1
          obtain ⟨F', h', x', p'⟩ := frz_w hA ry ef
          obtain ⟨fa, ws, hv, s⟩ := h'.cel _ _ _ ha hm
          cases p' with
          | lst q3 s3 =>
            obtain ⟨h2, x2⟩ := h'.write (o := .lst _) (c := .lst _) ha fa ⟨fa, _, upd_same, s.app s3⟩
            exact ⟨a, _, ws, _, rfl, rfl, hv, h'.le _ _ q3, by rw [s.len, s3.len]; exact hz, q _ _ _ (x'.trans x2) h2 Rp.non⟩
        · cases e
      · cases e
    · cases e
  · cases e
/-! ### sorted(d), keys numbers -/
def keysI : List (Key × D) → Option (List Int)
  | [] => some []
  | (.inl x, _) :: r => (keysI r).map (x :: ·)
  | _ :: _ => none
def sortI (xs : List Int) : List Int := xs.mergeSort (fun a b => decide (a ≤ b))
theorem sortI_the {xs ys : List Int} (hp : ys.Perm xs) (hs : ys.Pairwise (· ≤ ·)) : ys = sortI xs := by
  refine List.Perm.eq_of_pairwise (le := fun a b => decide (a ≤ b)) (fun a b _ _ h1 h2 => ?_) (hs.imp fun h => decide_eq_true h) ?_ (hp.trans (List.mergeSort_perm _ _).symm)
  · have := of_decide_eq_true h1; have := of_decide_eq_true h2; omega
  · exact List.pairwise_mergeSort (fun a b c h1 h2 => by have := of_decide_eq_true h1; have := of_decide_eq_true h2; exact decide_eq_true (by omega)) (fun a b => by rw [Bool.or_eq_true, decide_eq_true_eq, decide_eq_true_eq]; omega) xs
def gSortDI : List W → Sto → Option (List D)
  | [a], m => match dicW a m with
    | some (_, kvs) => (match keysI kvs with | some ss => if ss.length < 64 then some ((sortI ss).map .int) else none | none => none)
    | none => none
  | _, _ => none
theorem keysI_w {K : PySem.W.Frag} {F : Hp} : ∀ {ws : List (Key × V)} {kvs : List (Key × D)} {ss : List Int}, RpKV K F ws kvs → keysI kvs = some ss → ws.map (·.1) = ss.map Sum.inl
  | _, _, ss, .nil, e => by cases e; rfl
  | _, _, ss, .cons (a := p) (b := q) ⟨h1, _⟩ r, e => by
    obtain ⟨k, d⟩ := q
    cases k with
    | inr i => cases e
    | inl x =>
      obtain ⟨cs, h2, rfl⟩ := Option.map_eq_some_iff.mp e
      rw [List.map_cons, List.map_cons, keysI_w r h2, h1]
abbrev rSortedDI (K : PySem.W.Frag) : List V → Hp → VK → Prop := fun xs H Q => ∃ (a : Addr) (kvs : List (Key × V)) (ks : List Int), xs = [.ref a] ∧ Rd H a (.dK kvs) ∧ kvs.map (·.1) = ks.map Sum.inl ∧ ks.length < 64 ∧
    ∀ (ys : List Int) (p : Addr), ys.Perm ks → ys.Pairwise (· ≤ ·) → H p = none → Q (.ref p) (upd H p (.lst (ys.map V.int)))
theorem ints_rp {K : PySem.W.Frag} {F : Hp} : ∀ ss : List Int, RpA K F (ss.map V.int) (ss.map PyData.int)
  | [] => .nil
  | s :: ss => .cons (.int s) (ints_rp ss)
theorem cf_sortedDI {K : PySem.W.Frag} : CallF K (rSortedDI K) gSortDI := by
  intro ws z vs ad m F H Q r ha e q
  unfold gSortDI at e
  split at e
  · obtain ⟨v, rfl, r1⟩ := r.one
    split at e
    · rename_i i kvs ed
      split at e
      · rename_i ss es
        split at e
        · rename_i hl
          cases e
          obtain ⟨a, kws, rfl, rfl, _, _, q1, q2, _⟩ := ha.dic r1 ed
          refine ⟨a, kws, ss, rfl, .inl q1, keysI_w q2 es, hl, fun ys p hp hs h0 => ?_⟩
          rw [sortI_the hp hs]
          exact q p _ h0 (ints_rp _)
        · cases e
      · cases e
    · cases e
  · cases e
end DL

namespace DL
open PySem L2 PyProof.Rows
section
variable {V : Rho} {G : Sg} {X : XK'} {f g h : Fe}
theorem J_iR3 {KS : Src → Sg → Prop} (hh : J V G f (fun w G1 => J V G1 g (fun v G2 => J V G2 h (fun u G3 => ∃ i j, w = .d (.int i) ∧ v = .d (.int j) ∧ u = .d (.int (-1)) ∧ (-(2 ^ 62) ≤ i ∧ i < 2 ^ 62) ∧ (-(2 ^ 62) ≤ j ∧ j < 2 ^ 62) ∧ KS ⟨rngD i (i - j).toNat, []⟩ G3) X) X) X) : J V G (iRange3 f g h) KS X :=
  J.bind (hh.mono fun w G1 k => J.bind (k.mono fun v G2 k => J.bind (k.mono fun u G3 k => by
    obtain ⟨i, j, rfl, rfl, rfl, h1, h2, k⟩ := k
    simp only [h1.1, h1.2, h2.1, h2.2, and_self, if_true]
    exact J.ok k)))
theorem J_rev {K : List D → Sg → Prop} (hh : J V G f (fun x G1 => JO G1 (datOf x) fun d => ∃ xs, d = .list xs ∧ K xs.reverse G1) X) : J V G (dRev f) K X :=
  J.bind (hh.mono fun x G1 k => fun m0 S r m hv hm => by
    obtain ⟨d, e, xs, rfl, k⟩ := k m0 S m hm
    exact .inl ⟨_, m, G1, by simp only [e], hm, k⟩)
theorem JU_ext {a : Nat} {y : W} {K : W → Sg → Prop} (hh : JU G (frz y) fun x G1 => ∃ ys, x = .list ys ∧ ∃ i xs, Has G1 i a (Cell.lst xs) ∧ xs.length + ys.length ≤ sizeLine ∧ K (.d .none) (G1.set i (a, Cell.lst (xs ++ ys)))) : JU G (gExt a [y]) K := fun m0 S m hm => by
  obtain ⟨x, m1, G1, e1, h1, ys, rfl, i, xs, hi, hz, k⟩ := hh m0 S m hm
  exact ⟨_, _, _, by simp only [gExt, e1, h1.cel i a _ hi, hz, if_true], h1.write hi _, k⟩
theorem JO_sortDI {a : Nat} {kvs : List (Key × D)} {ss : List Int} {K : List D → Prop} (p : Nat) (hp : Has G p a (Cell.dk kvs)) (e : keysI kvs = some ss) (hl : ss.length < 64) (k : K ((sortI ss).map .int)) : JO G (gSortDI [.c a]) K :=
  JO_at p hp (fun m hm => by simp only [gSortDI, dicW_c, hm, e, hl, if_true]) k
theorem sortI_mem {ss : List Int} {x : Int} : x ∈ sortI ss ↔ x ∈ ss := (List.mergeSort_perm ss _).mem_iff
theorem sortI_len (ss : List Int) : (sortI ss).length = ss.length := List.length_mergeSort ss
end
end DL
open DL PySem
local macro_rules
  | `(tactic| sizeOf_list_dec) => `(tactic| with_reducible first | apply J_iR3 | apply J_rev | apply JU_ext)

/-! x in t, x not in t, t a tuple of data -/
namespace DL
open PySem PySem.Spec PyProof.Rows L2
def rInTD (K : PySem.W.Frag) : R2 := fun x y H Q => ∃ d ds, Dp K H x d ∧ Dp K H y (.tuple ds) ∧ SeqAt.shaped d = true ∧ SeqAt.shaped (.tuple ds) = true ∧ Q (.bl (ds.any fun z => PyData.eqv z d)) H
def rNotInTD (K : PySem.W.Frag) : R2 := fun x y H Q => ∃ d ds, Dp K H x d ∧ Dp K H y (.tuple ds) ∧ SeqAt.shaped d = true ∧ SeqAt.shaped (.tuple ds) = true ∧ Q (.bl (!ds.any fun z => PyData.eqv z d)) H
theorem op_inTD {X : Cx} (hu : X.A.units + 65 < cLine) : OpR X (compareOp .In) (rInTD X.K) := by
  intro pins s σ H x y v u Q I rx ry h
  obtain ⟨d, ds, hd, he, sd, se, q⟩ := h
  obtain ⟨as, r1⟩ := Dp.reads I d x v hd rx
  obtain ⟨bs, r2⟩ := Dp.reads I (.tuple ds) y u he ry
  exact SeqAt.in_tuple_reads r2 r1 (SeqAt.canLay_of_shaped se) (SeqAt.canLay_of_shaped sd) (room_in_shaped sd hu) ⟨.bl _, H, I, rfl, q⟩
theorem op_notInTD {X : Cx} (hu : X.A.units + 65 < cLine) : OpR X (compareOp .NotIn) (rNotInTD X.K) := by
  intro pins s σ H x y v u Q I rx ry h
  obtain ⟨d, ds, hd, he, sd, se, q⟩ := h
  obtain ⟨as, r1⟩ := Dp.reads I d x v hd rx
  obtain ⟨bs, r2⟩ := Dp.reads I (.tuple ds) y u he ry
  exact SeqAt.notIn_tuple_reads r2 r1 (SeqAt.canLay_of_shaped se) (SeqAt.canLay_of_shaped sd) (room_in_shaped sd hu) ⟨.bl _, H, I, rfl, q⟩
def gInT : W → W → Sto → Option W
  | x, .d (.tuple ys), m => match datOf x m with
    | some d => if SeqAt.shaped d && SeqAt.shaped (.tuple ys) then some (.d (.bool (ys.any fun z => PyData.eqv z d))) else none
    | none => none
  | _, _, _ => none
def gNotInT : W → W → Sto → Option W
  | x, .d (.tuple ys), m => match datOf x m with
    | some d => if SeqAt.shaped d && SeqAt.shaped (.tuple ys) then some (.d (.bool (!ys.any fun z => PyData.eqv z d))) else none
    | none => none
  | _, _, _ => none
theorem od_inT {K : PySem.W.Frag} : OpD K (rInTD K) gInT := by
  intro x y z u v ad m F H Q rx ry ha e q
  unfold gInT at e
  split at e
  · split at e
    · rename_i d hd
      split at e
      · rename_i hs
        cases e
        have := Bool.and_eq_true_iff.mp hs
        exact ⟨_, _, ha.dp rx hd, ha.dp ry rfl, this.1, this.2, q _ F H Ext.refl ha (.bl _)⟩
      · cases e
    · cases e
  · cases e
theorem od_notInT {K : PySem.W.Frag} : OpD K (rNotInTD K) gNotInT := by
  intro x y z u v ad m F H Q rx ry ha e q
  unfold gNotInT at e
  split at e
  · split at e
    · rename_i d hd
      split at e
      · rename_i hs
        cases e
        have := Bool.and_eq_true_iff.mp hs
        exact ⟨_, _, ha.dp rx hd, ha.dp ry rfl, this.1, this.2, q _ F H Ext.refl ha (.bl _)⟩
      · cases e
    · cases e
  · cases e
end DL

namespace DL
open PySem L2 PyProof.Rows
section
variable {G : Sg} {K : W → Prop}
theorem JO_inTD {x : D} {ys : List D} (hx : SeqAt.shaped x = true) (hy : SeqAt.shaped (.tuple ys) = true) (k : K (.d (.bool (ys.any fun z => PyData.eqv z x)))) : JO G (gInT (.d x) (.d (.tuple ys))) K := JO_pure (fun m => by simp only [gInT, dat_d, hx, hy, Bool.and_self, if_true]) k
theorem JO_notInTD {x : D} {ys : List D} (hx : SeqAt.shaped x = true) (hy : SeqAt.shaped (.tuple ys) = true) (k : K (.d (.bool (!ys.any fun z => PyData.eqv z x)))) : JO G (gNotInT (.d x) (.d (.tuple ys))) K := JO_pure (fun m => by simp only [gNotInT, dat_d, hx, hy, Bool.and_self, if_true]) k
end
end DL

/-! raised things of the program's own classes, whose making is a def: over any of Python's bases -/
namespace DL
open PySem L2 PyProof.Rows
open PySem.W (excTail excTail_contains excOver osa_openX)
/-- what the base brings -/
structure OxB (B newId initId : String) (bt : List Value) : Prop where
  base : ExcBaseFacts B newId initId bt
  store : StoreFacts B bt "object.__setattr__" "object"
theorem oxb_val : OxB "ValueError" "ValueError.__new__" "ValueError.__init__" [.type "ValueError", .type "Exception", .type "BaseException", .type "object"] := ⟨PySem.F.excBase_ValueError, PySem.F.store_ValueError⟩
theorem oxb_look : OxB "LookupError" "LookupError.__new__" "LookupError.__init__" [.type "LookupError", .type "Exception", .type "BaseException", .type "object"] := ⟨PySem.F.excBase_LookupError, by first | exact PySem.W.store_LookupError | exact PySem.store_LookupError | exact PySem.F.store_LookupError⟩
/-- what the written part says of the class -/
structure OxC (K : PySem.W.Frag) (newId : String) (bt : List Value) (C : Addr) : Prop where
  cls : ∃ nm qn N bs bm sn sub ab col dd k0 k1 k2 k3 k5, K.lookup C = some (excClassObj nm qn C N bs bm true sn sub ab col dd k0 k1 k2 k3 k5 newId) ∧ excTail bt bm = true
  ov : excOver K C bt = true
  sa : PySem.W.findIn K (.ref C) "__setattr__" = some (some (.builtin "object.__setattr__"))
  exC : PySem.W.subIn K (.ref C) (.type "BaseException") = some true
  tyC : PySem.W.typeIn K (.ref C) = some (.type "type")
  kC : PySem.W.keepIn K (.ref C) = true
section
variable {X : Cx} {pins : List (Addr × Obj)} {σ : L2.St} {H : Hp} {s : Shared} {a C dx : Addr} {f : Str} {y : V} {u : Value} {fs : List (Str × V)} {Q : Unit → Shared → Prop} {E : Value → Shared → Prop} {A : Around} {B newId initId : String} {bt : List Value}
/-- an exception gets its dict -/
theorem oxs_laid {g0 g1 : Heap} {gs : Array GenState} {dr : Drawn} {tt t2 : Nat} {os : OsState} {mA : Str → Option Value} {t1 : Addr} (I : Inv X pins σ H ⟨g0, gs, dr, tt, os⟩) (e : H a = some (exo a C none))
    (kp : ∀ b o, b ≠ a → g0.get? b = some o → g1.get? b = some o) (dn : g0.objs.size ≤ dx) (dne : dx ≠ a) (hx : g1.get? a = some ({ cls := .ref C, dict := some dx, data := .fields #[.ref t1, .none, .none, .none, .bool false, .none] } : Obj))
    (hn : g1.Ns1 dx mA) (rel : ∀ g, RelO (fs.lookup g) (mA g)) : Inv X pins σ (upd (upd H dx (exd dx fs)) a (exo a C (some dx))) ⟨g1, gs, dr, t2, os⟩ := by
  have hnd : H dx = none := I.hok.fresh dn
  have olderNe : ∀ {b : Addr} {o : Obj}, g0.get? b = some o → b ≠ dx := fun {b o} q => Nat.ne_of_lt (Nat.lt_of_lt_of_le (Heap.lt_size q) dn)
  have freeNe : ∀ {b : Addr}, H b = none → b ≠ a := fun {b} n z => by rw [z, e] at n; cases n
  have past : ∀ {b : Addr} {o : HO}, H b = some o → o ≠ exo a C none → (upd (upd H dx (exd dx fs)) a (exo a C (some dx))) b = some o := fun {b o} q nq => by
    have hb : b ≠ a := fun z => by rw [z, e] at q; exact nq (Option.some.inj q).symm
    rw [upd_ne hb, upd_ne (ne_of_none q hnd)]; exact q
  have U : Un X.fs [] H (upd (upd H dx (exd dx fs)) a (exo a C (some dx))) g0 g1 := by
    constructor
    · exact fun b o q n _ _ => kp b o (freeNe n) q
    · exact fun b o q n _ _ => ⟨o.slots, kp b o (freeNe n) q⟩
    · intro b o q n _
      rw [upd_ne (freeNe n), upd_ne (olderNe q)]; exact n
    · intro b o q _
      by_cases hb : b = a
      · exact ⟨_, hb ▸ hx⟩
      · exact ⟨o, kp b o hb q⟩
    · exact fun b xs q => past q (Ne.symm exo_tup)
    · exact fun b o v q => past q (Ne.symm exo_frz)
    · exact fun b ps q => ⟨#[], by rw [past q (Ne.symm exo_tbl)]; simp⟩
  refine I.un (t' := t2) U fun b o q => ?_
  by_cases hb : b = a
  · subst hb
    rw [upd_same] at q
    cases q
    exact exo_ok hx
  rw [upd_ne hb] at q
  by_cases hd : b = dx
  · subst hd
    rw [upd_same] at q
    cases q
    exact exd_ok hn rel
  rw [upd_ne hd] at q
  have owned : ∀ {c : Addr} {x : Addr}, H c = some (.own x) → c ≠ a := fun hc => at_ne e hc exo_own
  exact (I.hok b o q).stay (fun c v hc z => kp c v (hc.elim (fun z => z ▸ hb) owned) z) (fun c hc => past hc (Ne.symm exo_own)) fun c xs hc => past hc (Ne.symm exo_tup)
open Builtin Builtin.ObjectAttr in
/-- self.f = y, the first one -/
theorem oxs_new (Y : OxB B newId initId bt) (T : OxC X.K newId bt C) (I : Inv X pins σ H s) (e : H a = some (exo a C none)) (hno : PySem.W.findIn X.K (.ref C) f = some none) (ry : RelV y u)
    (h : ∀ dx s', H dx = none → dx ≠ a → Inv X pins σ (upd (upd H dx (exd dx [(f, y)])) a (exo a C (some dx))) s' → Q () s') : wpAny (model X.prog X.w) A (setAttr (.ref a) f u) Q E s := by
  obtain ⟨nm, qn, N, bs, bm, sn, sub, ab, col, dd, k0, k1, k2, k3, k5, hC, hbm⟩ := T.cls
  obtain ⟨t1, ho⟩ := exo_at I.hok e
  obtain ⟨g0, gs, dr, tt, os⟩ := s
  have hcl : PySem.W.clsIn X.K C = some { name := nm, bases := bs, mro := .ref C :: bm, ns := N, qualname := qn, hasDict := true, slotNames := sn, subclasses := sub, abstract := ab, collection := col, hasDel := false } := by
    unfold PySem.W.clsIn; rw [hC] <;> rfl
  have II : PySem.W.InstAt g0 a { cls := .ref C, dict := none, data := .fields #[.ref t1, .none, .none, .none, .bool false, .none] } C none := ⟨ho, rfl, rfl, trivial⟩
  have hcls : PySem.W.Looks (model X.prog X.w) g0 (classData C) { name := nm, bases := bs, mro := .ref C :: bm, ns := N, qualname := qn, hasDict := true, slotNames := sn, subclasses := sub, abstract := ab, collection := col, hasDel := false } := PySem.W.looks_clsIn I.kIn hcl
  have hne : a ≠ g0.objs.size := Nat.ne_of_lt (Heap.lt_size ho)
  refine PySem.W.set_plain I.kIn II T.sa (osa_openX (r := none) Y.store I.kIn II T.ov (by unfold PySem.W.takerIn; rw [hno]; rfl) fun b => ?_)
  show wpAny _ _ (storeInOwnDict (.ref a) (.ref C) (.str f tt) f u b) _ _ _
  unfold storeInOwnDict ownDictForStores
  repeat (first | with_reducible refine PySem.HandSPX.store_in_new ?_ ?_ | with_reducible refine wpAny_loadPart_at ho ?_ | with_reducible refine hcls.at ?_ | wp_step)
  · exact ⟨_, #[], _, (Heap.get?_update_ne _ _ _ _ hne.symm).trans (Heap.get?_push_at rfl rfl), rfl, (fun q z => absurd z (by simp)), fun _ => rfl⟩
  · intro g1 t2 hn1 sb
    have ho1 : (g0.push { cls := .type "dict", data := .dict #[] }).get? a = some ({ cls := .ref C, data := .fields #[.ref t1, .none, .none, .none, .bool false, .none] } : Obj) := Heap.get?_push_of_some _ ho
    refine h g0.objs.size _ (I.hok.fresh (Nat.le_refl _)) hne.symm (oxs_laid I e (fun b o hb q => ?_) (Nat.le_refl _) hne.symm ((sb.2 a hne).trans (Heap.get?_update_self _ ho1 rfl)) hn1 (relO_put (fs := []) ry fun g => True.intro))
    exact (sb.2 b (Nat.ne_of_lt (Heap.lt_size q))).trans ((Heap.get?_update_ne _ _ _ _ hb).trans (Heap.get?_push_of_some _ q))
open Builtin Builtin.ObjectAttr in
/-- self.f = y, a further one -/
theorem oxs_old (Y : OxB B newId initId bt) (T : OxC X.K newId bt C) (I : Inv X pins σ H s) (e : H a = some (exo a C (some dx))) (ed : H dx = some (exd dx fs)) (hl : fs.length ≤ 900) (hno : PySem.W.findIn X.K (.ref C) f = some none) (ry : RelV y u)
    (h : ∀ s', Inv X pins σ (upd H dx (exd dx ((f, y) :: fs))) s' → Q () s') : wpAny (model X.prog X.w) A (setAttr (.ref a) f u) Q E s := by
  obtain ⟨nm, qn, N, bs, bm, sn, sub, ab, col, dd, k0, k1, k2, k3, k5, hC, hbm⟩ := T.cls
  obtain ⟨t1, ho⟩ := exo_at I.hok e
  obtain ⟨mA, hns, rel⟩ := exd_at I.hok ed
  obtain ⟨g0, gs, dr, tt, os⟩ := s
  obtain ⟨oD, _, _, hoD, _, _⟩ := hns.count (within_of rel)
  have hcl : PySem.W.clsIn X.K C = some { name := nm, bases := bs, mro := .ref C :: bm, ns := N, qualname := qn, hasDict := true, slotNames := sn, subclasses := sub, abstract := ab, collection := col, hasDel := false } := by
    unfold PySem.W.clsIn; rw [hC] <;> rfl
  have II : PySem.W.InstAt g0 a { cls := .ref C, dict := some dx, data := .fields #[.ref t1, .none, .none, .none, .bool false, .none] } C (some oD) := ⟨ho, rfl, rfl, hoD⟩
  have hcls : PySem.W.Looks (model X.prog X.w) g0 (classData C) { name := nm, bases := bs, mro := .ref C :: bm, ns := N, qualname := qn, hasDict := true, slotNames := sn, subclasses := sub, abstract := ab, collection := col, hasDel := false } := PySem.W.looks_clsIn I.kIn hcl
  refine PySem.W.set_plain I.kIn II T.sa (osa_openX (r := none) Y.store I.kIn II T.ov (by unfold PySem.W.takerIn; rw [hno]; rfl) fun b => ?_)
  show wpAny _ _ (storeInOwnDict (.ref a) (.ref C) (.str f tt) f u b) _ _ _
  unfold storeInOwnDict ownDictForStores
  repeat (first | with_reducible refine PySem.OEX.store_in_old hns (within_of rel) (by rw [List.length_map]; omega) ?_ | with_reducible refine wpAny_loadPart_at ho ?_ | with_reducible refine hcls.at ?_ | wp_step)
  intro g1 t2 hn1 sb
  have hd : ∃ o, g1.get? dx = some o := by
    obtain ⟨o, _, _, e', _⟩ := hn1
    exact ⟨o, e'⟩
  exact h _ (I.write (t' := t2) (x := dx) (e := dx) (o := exd dx ((f, y) :: fs)) (by rw [ed]; exact True.intro) (.inl rfl) (fun b o hb q => (sb.2 b hb).trans q) hd (exd_ok hn1 (relO_put ry rel)))
/-- Base.__init__(self, ..): nothing of it is told -/
theorem oxi_ok {us : List Value} {Q : Value → Shared → Prop} (Y : OxB B newId initId bt) (T : OxC X.K newId bt C) (I : Inv X pins σ H s) (e : H a = some (exo a C none)) (hl : us.length ≤ sizeLine) (h : ∀ s', Inv X pins σ H s' → Q .none s') :
    wpAny (model X.prog X.w) A (call (.builtin initId) (.ref a :: us)) Q E s := by
  obtain ⟨nm, qn, N, bs, bm, sn, sub, ab, col, dd, k0, k1, k2, k3, k5, hC, hbm⟩ := T.cls
  obtain ⟨t1, ho⟩ := exo_at I.hok e
  obtain ⟨g0, gs, dr, tt, os⟩ := s
  refine wpAny_call (PySem.HandSPX.init_base Y.base (fun c => excTail_contains c bm hbm) (I.kIn _ _ hC) ho hl fun g1 t2 k hx => h _ ?_)
  have same : upd H a (exo a C none) = H := by
    funext b
    by_cases hb : b = a
    · rw [hb, upd_same, e]
    · rw [upd_ne hb]
  have J := I.write (t' := tt) (x := a) (e := a) (o := exo a C none) (by rw [e]; exact True.intro) (.inl rfl) k ⟨_, hx⟩ (exo_ok hx)
  rwa [same] at J
end
/-! ### rules -/
def tCi (K : PySem.W.Frag) (newId : String) (bt : List Value) (ta : TA) : TE := fun σ H Q => ta σ H fun vs H1 => ∃ (a C : Addr) (ws : List V), vs = .ref a :: ws ∧ ws.length ≤ 1000 ∧ OxC K newId bt C ∧ H1 a = some (exo a C none) ∧ Q .non H1
def tOs (K : PySem.W.Frag) (newId : String) (bt : List Value) (f : Str) (to te : TE) : TS := fun D σ H => te σ H fun y H1 => to σ H1 fun x H2 => ∃ a C : Addr, x = .ref a ∧ OxC K newId bt C ∧ PySem.W.findIn K (.ref C) f = some none ∧
  ((H2 a = some (exo a C none) ∧ ∀ dx, H2 dx = none → dx ≠ a → D.nx σ (upd (upd H2 dx (exd dx [(f, y)])) a (exo a C (some dx)))) ∨
    ∃ (dx : Addr) (fs : List (Str × V)), H2 a = some (exo a C (some dx)) ∧ H2 dx = some (exd dx fs) ∧ fs.length ≤ 900 ∧ D.nx σ (upd H2 dx (exd dx ((f, y) :: fs))))
section
variable {X : Cx} {o e : Expr} {es : List Expr} {to te : TE} {ta : TA} {f x : Str} {p p' p1 p2 pos : Pos} {B newId initId : String} {bt : List Value} {C0 : Addr}
/-- Base.__init__(self), Base a class of the program -/
theorem pe_ci {pl : Sem Bool} (Y : OxB B newId initId bt) (hg : Gl X x) (hm : X.mg x = some (.ref C0)) (kC : PySem.W.keepIn X.K (.ref C0) = true) (hr : PySem.W.readsIn X.K C0 (.type "type") = true) (hq : PySem.W.specialIn X.K (.ref C0) "__getattribute__" = some (some (.builtin "type.__getattribute__")))
    (vV : PySem.W.findCls X.K (.ref C0) (.type "type") "__init__" = some (.val (.builtin initId))) (hh : PySem.W.handedIn (.builtin initId) = true) (ha : PA X (e :: es) ta)
    (hdb : (x == ("__debug__" : Str)) = false := by decide)
    (hc : eval (.Call (.Attribute (.Name x p1) "__init__" p2) (e :: es) [] pos) X.env = (do
      let ov ← eval (.Name x p1) X.env
      standAt p2.atName
      let (f, first) ← holding [ov] (getMethod ov "__init__" pl)
      callWith pos f first (backTo pos (starEach (e :: es) X.env)) (backToKw pos (keywordEach [] X.env))) := by rfl)
    (he : starEach (e :: es) X.env = (false, eval e X.env) :: starEach es X.env := by rfl) (hpl : (backTo pos (starEach es X.env)).any (·.1) = false := by rfl) :
    PE X (.Call (.Attribute (.Name x p1) "__init__" p2) (e :: es) [] pos) (tCi X.K newId bt ta) := by
  refine ⟨fun pins s σ H Q I h => ?_⟩
  refine PySem.W.methodCall_KW (ld_glob I hg hm ?_ hdb) hc
  refine PySem.W.method_cls I.kIn hq (PySem.W.cls_value I.kIn hr vV hh ?_)
  show wpAny _ _ (callWith pos (Value.builtin initId) [] (backTo pos (starEach (e :: es) X.env)) []) _ _ _
  refine PyProof.Rows.callWith_method1 (thn (ha.run pos pins _ σ H _ (I.tok _) h) fun us s1 hh => ?_) he hpl
  obtain ⟨vs, H1, I1, r1, a, C, ws, rfl, hl, T, ea, q⟩ := hh
  cases r1 with
  | @cons _ u0 _ ur ra rest =>
    obtain rfl : u0 = Value.ref a := ra
    refine oxi_ok Y T I1 ea ?_ fun s' J => ⟨.non, H1, J, rfl, q⟩
    have := Paired.length rest
    rw [sizeLine_eq]
    omega
theorem ps_oxs (Y : OxB B newId initId bt) (ho : PE X o to) (he : PE X e te) (hs : swapsWith e (some (.Attribute o f p')) pos.line X.env = pure false := by rfl) : PS X (.Assign [.Attribute o f p'] e pos) (tOs X.K newId bt f to te) := by
  refine ⟨fun pins s σ H D I h => ?_⟩
  refine plainObj_wpAny_Assign_Attribute (thn (he.run pins s σ H _ I h) fun v s1 hv => ?_) hs
  obtain ⟨y, H1, I1, r1, q1⟩ := hv
  refine thn (ho.run pins s1 σ H1 _ I1 q1) fun u s2 hu => ?_
  obtain ⟨x, H2, I2, r2, a, C, rfl, T, hno, q⟩ := hu
  obtain rfl : u = Value.ref a := r2
  rcases q with ⟨ea, q⟩ | ⟨dx, fs, ea, ed, hl, q⟩
  · exact oxs_new Y T I2 ea hno r1 fun dx s' n ne J => ⟨σ, _, J, q dx n ne⟩
  · exact oxs_old Y T I2 ea ed hl hno r1 fun s' J => ⟨σ, _, J, q⟩
/-- C(e, ..), C's own __init__ keeping sp -/
theorem pmk_ox {CX : CXT} {C fI : Addr} {k : Nat} {fd : FuncData} {ps : List Str} {sp : Sp} (Y : OxB B newId initId bt) (T : OxC X.K newId bt C) (iC : PySem.W.findIn X.K (.ref C) "__init__" = some (some (.ref fI))) (tI : PySem.W.typeIn X.K (.ref fI) = some (.type "function"))
    (F1 : FnOk X.prog X.w X.K X.mg X.base CX k fI fd ps sp) (hr : Room (k + 1) X.A) (hb : Binds X.K fd ps []) (hx : Passes CX X (fun _ _ _ => False)) (hg : Gl X x) (hm : X.mg x = some (.ref C)) (ha : PA X (e :: es) ta)
    (hdb : (x == ("__debug__" : Str)) = false := by decide) (he : starEach (e :: es) X.env = (false, eval e X.env) :: starEach es X.env := by rfl) (hpl : (backTo pos (starEach es X.env)).any (·.1) = false := by rfl) :
    PMk X (.Call (.Name x p) (e :: es) [] pos) (tMkO C sp [] ta) := by
  intro pins s σ H Q I h
  obtain ⟨nm, qn, N, bs, bm, sn, sub, ab, col, dd, k0, k1, k2, k3, k5, hC, hbm⟩ := T.cls
  have hT : ∀ c : String, bm.contains (.type c) = bt.contains (.type c) := fun c => excTail_contains c bm hbm
  refine wpAny_Call_Name_kw (ld_glob I hg hm ?_ hdb)
  refine PySem.W.callWith_K (h₀ := X.base) I.ok.mod.kin T.kC (thn (ha.run pos pins s σ H _ I h) fun us s1 hh => ?_) he hpl
  obtain ⟨vs, H1, I1, r1, hz, q1⟩ := hh
  refine ⟨I1.kIn, ?_⟩
  show wpAny _ _ (call (.ref C) us) _ _ _
  obtain ⟨g0, gs, dr, tt, os⟩ := s1
  have le1 : g0.objs.size ≤ g0.objs.size + 1 := Nat.le_succ _
  have hq := q1 _ (I1.hok.fresh le1)
  have two : ∀ b o, g0.get? b = some o → ((g0.push (PySem.W.kdv_tup us)).push (PySem.HandSPX.excO C g0.objs.size)).get? b = some o := fun b o z => Heap.get?_push_of_some _ (Heap.get?_push_of_some _ z)
  have lastIs : ((g0.push (PySem.W.kdv_tup us)).push (PySem.HandSPX.excO C g0.objs.size)).get? (g0.objs.size + 1) = some (PySem.HandSPX.excO C g0.objs.size) := by heap_get
  have J1 : Inv X pins σ (upd H1 (g0.objs.size + 1) (exo (g0.objs.size + 1) C none)) ⟨(g0.push (PySem.W.kdv_tup us)).push (PySem.HandSPX.excO C g0.objs.size), gs, dr, tt, os⟩ := I1.laid (t' := tt) two le1 (exo_ok lastIs)
  have r2 : Vals (V.ref (g0.objs.size + 1) :: (vs ++ [])) (Value.ref (g0.objs.size + 1) :: us) := .cons rfl (by rw [List.append_nil]; exact r1)
  have hlen : (Value.ref (g0.objs.size + 1) :: us).length = ps.length := r2.length.symm.trans (F1.len _ _ _ _ hq)
  have hus : us.length ≤ sizeLine := by
    have := Paired.length r1
    rw [sizeLine_eq]
    omega
  have hbd := hb ⟨(g0.push (PySem.W.kdv_tup us)).push (PySem.HandSPX.excO C g0.objs.size), gs, dr, tt, os⟩ (Value.ref (g0.objs.size + 1) :: us) J1.kIn (by rw [List.append_nil]; exact hlen)
  rw [List.append_nil] at hbd
  refine wpAny_call (PySem.HandSPX.call_own Y.base hT (I1.kIn _ _ hC) (PySem.W.looks_findIn I1.kIn iC) (fun self => PySem.W.bind_fn I1.kIn self tI) hus
    (codeAny_mono (F1.run _ X.stack _ _ ⟨Value.ref (g0.objs.size + 1) :: us, []⟩ (Value.ref (g0.objs.size + 1) :: us) _ _ (fun _ _ _ => False) (hr.make C us []) (J1.env0.make C us []) hbd r2 hq) fun res s' hres => ?_))
  match res, hres with
  | .error er, hres => exact hx pins σ _ _ er s' J1 hres
  | .ok (.ret u), hres =>
    obtain ⟨v, H2, os2, bare2, un2, hok2, rv, ev, d, fs, ea, ed, hd1, q2⟩ := hres
    subst ev
    obtain ⟨h2, g2, d2, t2, os'⟩ := s'
    exact ⟨rv, mk_end (raises_own T.exC T.tyC) I1 le1 two un2 hok2 os2 bare2 ea ed hd1 q2⟩
  | .ok .next, hres => exact False.elim hres
  | .ok .brk, hres => exact False.elim hres
  | .ok .cont, hres => exact False.elim hres
end
end DL

/-! the making of a raised thing as a rule over data -/
namespace DL
open PySem L2 PyProof.Rows
/-- the promise of an own __init__ that calls its base's and keeps its arguments by their names -/
def spI (newId : String) (bt : List Value) (C : Addr) (ns : List Str) : Sp := fun vs H Q _ => ∃ a xs, vs = V.ref a :: xs ∧ xs.length = ns.length ∧ H a = some (exo a C none) ∧
  ∀ d, H d = none → d ≠ a → Q .non (upd (upd H d (exd d (ns.zip xs).reverse)) a (exo a C (some d)))
theorem spI_len {newId : String} {bt : List Value} {C : Addr} {ns : List Str} (vs : List V) (H : Hp) (Q : VK) (E : XK) (h : spI newId bt C ns vs H Q E) (s : Str) : vs.length = (s :: ns).length := by
  obtain ⟨a, xs, rfl, h1, _⟩ := h
  simp [h1]
section
variable {K : PySem.W.Frag} {newId : String} {bt : List Value} {C : Addr} {f1 f2 : Str} {N : List Str} {vs : List V} {H : Hp} {Q : VK} {E : XK}
theorem upd_upd (G : Hp) (a : Addr) (o o' : HO) : upd (upd G a o) a o' = upd G a o' := by
  funext b
  by_cases hb : b = a
  · rw [hb, upd_same, upd_same]
  · rw [upd_ne hb, upd_ne hb, upd_ne hb]
theorem upd_comm (G : Hp) {a b : Addr} (h : a ≠ b) (o o' : HO) : upd (upd G a o) b o' = upd (upd G b o') a o := by
  funext c
  by_cases hb : c = b
  · subst hb
    rw [upd_same, upd_ne (Ne.symm h), upd_same]
  · rw [upd_ne hb]
    by_cases ha : c = a
    · subst ha
      rw [upd_same, upd_same]
    · rw [upd_ne ha, upd_ne ha, upd_ne hb]
theorem init1_run (T : OxC K newId bt C) (h1 : PySem.W.findIn K (.ref C) f1 = some none) (h : spI newId bt C [f1] vs H Q E) :
    tSeq (tDrop (tCi K newId bt (tCons (tVar 0) tNil))) (tSeq (tOs K newId bt f1 (tVar 0) (tVar 1)) tNext) { nx := fun _ H' => Q .non H', rt := Q } (start N vs) H := by
  obtain ⟨a, xs, rfl, hl, ha, q⟩ := h
  obtain ⟨x, rfl⟩ : ∃ x, xs = [x] := by
    match xs, hl with
    | [x], _ => exact ⟨x, rfl⟩
  refine ⟨.ref a, rfl, a, C, [], rfl, by simp, T, ha, ?_⟩
  refine ⟨x, rfl, .ref a, rfl, a, C, rfl, T, h1, .inl ⟨ha, fun dx hd hne => ?_⟩⟩
  exact q dx hd hne
theorem init2_run (T : OxC K newId bt C) (h1 : PySem.W.findIn K (.ref C) f1 = some none) (h2 : PySem.W.findIn K (.ref C) f2 = some none) (h : spI newId bt C [f1, f2] vs H Q E) :
    tSeq (tDrop (tCi K newId bt (tCons (tVar 0) tNil))) (tSeq (tOs K newId bt f1 (tVar 0) (tVar 1)) (tSeq (tOs K newId bt f2 (tVar 0) (tVar 2)) tNext)) { nx := fun _ H' => Q .non H', rt := Q } (start N vs) H := by
  obtain ⟨a, xs, rfl, hl, ha, q⟩ := h
  obtain ⟨x, y, rfl⟩ : ∃ x y, xs = [x, y] := by
    match xs, hl with
    | [x, y], _ => exact ⟨x, y, rfl⟩
  refine ⟨.ref a, rfl, a, C, [], rfl, by simp, T, ha, ?_⟩
  refine ⟨x, rfl, .ref a, rfl, a, C, rfl, T, h1, .inl ⟨ha, fun dx hd hne => ?_⟩⟩
  refine ⟨y, rfl, .ref a, rfl, a, C, rfl, T, h2, .inr ⟨dx, [(f1, x)], upd_same, by rw [upd_ne hne, upd_same], by simp, ?_⟩⟩
  have e := q dx hd hne
  rw [upd_comm _ (Ne.symm hne) _ _, upd_upd]
  exact e
end
/-- plain data, all of it -/
def allDt : List W → Option (List D)
  | [] => some []
  | .d x :: r => (allDt r).map (x :: ·)
  | _ => none
def sRz (C : Addr) (ns : List Str) (fa : Fa) : Fs := fun r m => (fa r m).stm r fun ws m1 => match allDt ws with
  | some ds => if ds.length = ns.length ∧ ns.length ≤ 900 then .exc (.ref C) (ns.zip ds).reverse r m1 else .bad
  | none => .bad
theorem allDt_w {K : PySem.W.Frag} {ad : List Addr} {F : Hp} : ∀ {ws : List W} {vs : List V} {ds : List D}, RWs K ad F ws vs → allDt ws = some ds → RpA K F vs ds
  | [], _, _, .nil, e => by cases e; exact .nil
  | w :: ws, _, ds, .cons a b, e => by
    cases w with
    | d x =>
      unfold allDt at e
      cases e1 : allDt ws with
      | none => rw [e1] at e; cases e
      | some xs => rw [e1] at e; cases e; exact .cons a (allDt_w b e1)
    | c _ => cases e
    | k _ => cases e
    | x _ _ _ => cases e
theorem zip_w {K : PySem.W.Frag} {F : Hp} : ∀ {ns : List Str} {vs : List V} {ds : List D}, RpA K F vs ds → Paired (fun (p : Str × V) (q : Str × D) => p.1 = q.1 ∧ Rp K F p.2 q.2) (ns.zip vs) (ns.zip ds)
  | [], _, _, _ => .nil
  | n :: ns, _, _, .nil => .nil
  | n :: ns, _, _, .cons a b => .cons ⟨rfl, a⟩ (zip_w b)
theorem paired_app {α β : Type} {R : α → β → Prop} : ∀ {a : List α} {b : List β} {c : List α} {d : List β}, Paired R a b → Paired R c d → Paired R (a ++ c) (b ++ d)
  | _, _, _, _, .nil, h => h
  | _, _, _, _, .cons x y, h => .cons x (paired_app y h)
theorem paired_rev {α β : Type} {R : α → β → Prop} : ∀ {a : List α} {b : List β}, Paired R a b → Paired R a.reverse b.reverse
  | _, _, .nil => .nil
  | _, _, .cons x y => by rw [List.reverse_cons, List.reverse_cons]; exact paired_app (paired_rev y) (.cons x .nil)
section
variable {X : Cx} {Wx : WX} {e : Expr} {es : List Expr} {x : Str} {p pos pos' : Pos} {fa : Fa} {B newId initId : String} {bt : List Value}
/-- raise C(e, ..) -/
theorem ds_raise {CX : CXT} {C fI : Addr} {k : Nat} {fd : FuncData} {sf : Str} {ns : List Str} (Y : OxB B newId initId bt) (T : OxC X.K newId bt C) (iC : PySem.W.findIn X.K (.ref C) "__init__" = some (some (.ref fI))) (tI : PySem.W.typeIn X.K (.ref fI) = some (.type "function"))
    (F1 : FnOk X.prog X.w X.K X.mg X.base CX k fI fd (sf :: ns) (spI newId bt C ns)) (hr : Room (k + 1) X.A) (hb : Binds X.K fd (sf :: ns) []) (hx : Passes CX X (fun _ _ _ => False)) (hc : X.calm = true) (tk : Takes X Wx) (hg : Gl X x) (hm : X.mg x = some (.ref C)) (ha : DA X Wx (e :: es) fa)
    (hdb : (x == ("__debug__" : Str)) = false := by decide) (he : starEach (e :: es) X.env = (false, eval e X.env) :: starEach es X.env := by rfl) (hpl : (backTo pos (starEach es X.env)).any (·.1) = false := by rfl) :
    DS X Wx (.Raise (some (.Call (.Name x p) (e :: es) [] pos)) none pos') (sRz C ns fa) := by
  refine ps_weak (ps_raise hc tk (pmk_ox Y T iC tI F1 hr hb hx hg hm ha hdb he hpl)) fun D s H q => ?_
  obtain ⟨r, ad, m, F, hE, hA, hp⟩ := q
  refine ⟨r, ad, m, F, hE, hA, Post.mono (stm_post hE hp) (fun ws m1 ad1 F1' H1 e1 ha1 q0 vs rw1 => ?_) fun _ _ _ _ _ _ _ _ z => z⟩
  have q0 := q0.2.2
  cases eds : allDt ws with
  | none => simp only [eds] at q0; exact q0.elim
  | some ds =>
    simp only [eds] at q0
    by_cases hl : ds.length = ns.length ∧ ns.length ≤ 900
    · rw [if_pos hl] at q0
      have rd := allDt_w rw1 eds
      have hvl : vs.length = ns.length := by rw [rd.len]; exact hl.1
      refine ⟨by omega, fun a na => ⟨a, vs ++ [], rfl, by rw [List.append_nil]; exact hvl, upd_same, fun d nd hne => ?_⟩⟩
      rw [List.append_nil]
      have nd1 : H1 d = none := by rw [upd_ne hne] at nd; exact nd
      refine ⟨rfl, d, (ns.zip vs).reverse, upd_same, by rw [upd_ne hne, upd_same], nd1, ?_⟩
      have eH : upd (del (upd (upd (upd H1 a (exo a C none)) d (exd d (ns.zip vs).reverse)) a (exo a C (some d))) a) d (.xd (ns.zip vs).reverse) = upd H1 d (.xd (ns.zip vs).reverse) := by
        funext b
        by_cases hb : b = d
        · rw [hb, upd_same, upd_same]
        · rw [upd_ne hb, upd_ne hb]
          by_cases hba : b = a
          · rw [hba, del_same, na]
          · rw [del_ne hba, upd_ne hba, upd_ne hb, upd_ne hba]
      rw [eH]
      obtain ⟨h1, h2⟩ := ha1.new (o := .xd (ns.zip vs).reverse) nd1
      refine q0 s (some d) ad1 _ _ h2 h1 ((hE.ext e1).ext h2) (.inr ⟨d, _, rfl, upd_same, paired_rev (zip_w (rd.mono h2.fle))⟩)
    · rw [if_neg hl] at q0
      exact q0.elim
end
end DL

/-! except clauses: what is asked of the thing that was caught -/
namespace DL
open PySem L2 PyProof.Rows
/-- what the class must say, so that isinstance asks its instances rightly -/
structure ExK (K : PySem.W.Frag) (C : Addr) : Prop where
  hc : (PySem.W.clsIn K C).isSome = true
  hg : PySem.W.findIn K (.ref C) "__getattribute__" = some (some (.builtin "BaseException.__getattribute__"))
  hk : PySem.W.findIn K (.ref C) "__getattr__" = some none
  hs : PySem.W.subIn K (.ref C) (.type "BaseException") = some true
  hd : PySem.W.hasDictIn K C = true
  ha : PySem.W.findIn K (.ref C) "__class__" = some (some (.builtin "object.__class__"))
  hn : PySem.W.specialIn K (.builtin "object.__class__") "__get__" = some (some (.builtin "getset_descriptor.__get__"))
  ht : PySem.W.takesIn K (.builtin "object.__class__") = some true
  hm : PySem.W.mroIn K C (.type "object") = some true
def dOk (H : Hp) (d : Option Addr) : Prop := ∀ dx, d = some dx → ∃ fs, H dx = some (.xd fs)
section
variable {X : Cx} {a C : Addr} {oe : Obj} {d : Option Addr} {pn : List (Addr × Obj)}
theorem inst_x {pins : List (Addr × Obj)} {σ : L2.St} {H : Hp} {s : Shared} (hz : Zc (.ref C) d oe) (hf : ∃ vs, oe.data = .fields vs) (I : Inv (X.suite a ((a, oe) :: pn)) pins σ H s) (hd : dOk H d) : ∃ od, PySem.W.InstAt s.heap a oe C od := by
  obtain ⟨hget, _⟩ := I.pin (a, oe) (List.mem_append.mpr (.inl List.mem_cons_self))
  obtain ⟨vs, hv⟩ := hf
  cases d with
  | none =>
    obtain ⟨oc, od, oda, osl⟩ := oe
    obtain ⟨h1, h2⟩ := hz
    dsimp only at h1 h2 hv
    subst h1 h2 hv
    exact ⟨none, hget, rfl, rfl, trivial⟩
  | some dx =>
    obtain ⟨fs, hx⟩ := hd dx rfl
    obtain ⟨mA, hns, _⟩ := (show ObjOk X.prog X.w H s.heap dx (.xd fs) from I.hok dx _ hx)
    obtain ⟨od, ho, _⟩ := lookIn_ns hns
    exact ⟨some od, hget, hz.1, by unfold PySem.W.notCls; rw [hv] <;> rfl, by rw [hz.2]; exact ho⟩
def rIsX (K : PySem.W.Frag) (a : Addr) (cls : Value) (d : Option Addr) : List V → Hp → VK → Prop := fun xs H Q => ∃ (c : V) (u : Value) (b : Bool), xs = [.ref a, c] ∧ ClsV c u ∧ PySem.W.kitOne K cls u = some b ∧ dOk H d ∧ Q (.bl b) H
def rIsXT (K : PySem.W.Frag) (a : Addr) (cls : Value) (d : Option Addr) : List V → Hp → VK → Prop := fun xs H Q => ∃ (tp : Addr) (cs : List V) (us : List Value) (b : Bool), xs = [.ref a, .ref tp] ∧ H tp = some (.tup cs) ∧ Paired ClsV cs us ∧ PySem.W.kitAny K cls us = some b ∧ dOk H d ∧ Q (.bl b) H
theorem kit_x (T : ExK X.K C) {od : Option Obj} : PySem.W.KitX X.K (.ref a) (.ref C) (fun h => PySem.W.InstAt h a oe C od) := PySem.W.kitx_exc T.hc T.hg T.hk T.hs T.ha T.hn T.ht T.hm
theorem call_isX (T : ExK X.K C) (hz : Zc (.ref C) d oe) (hf : ∃ vs, oe.data = .fields vs) : CallR (X.suite a ((a, oe) :: pn)) (.builtin "isinstance") (rIsX X.K a (.ref C) d) := by
  intro pins s σ H xs us Q I r h
  obtain ⟨c, u, b, rfl, k, e, hd, q⟩ := h
  obtain ⟨u1, u2, rfl, r1, r2⟩ := vals2 r
  cases (show u1 = Value.ref a from r1)
  obtain rfl := ClsV.eq k r2
  obtain ⟨od, J⟩ := inst_x hz hf I hd
  exact PySem.W.kia_one (kit_x (X := X) T) I.kIn J e (fun z => nomatch z) fun tk => ⟨.bl b, H, I.tok tk, rfl, q⟩
theorem call_isXT (T : ExK X.K C) (hz : Zc (.ref C) d oe) (hf : ∃ vs, oe.data = .fields vs) : CallR (X.suite a ((a, oe) :: pn)) (.builtin "isinstance") (rIsXT X.K a (.ref C) d) := by
  intro pins s σ H xs us Q I r h
  obtain ⟨tp, cs, ws, b, rfl, hT, k, e, hd, q⟩ := h
  obtain ⟨u1, u2, rfl, r1, r2⟩ := vals2 r
  cases (show u1 = Value.ref a from r1)
  cases (show u2 = Value.ref tp from r2)
  obtain ⟨od, J⟩ := inst_x hz hf I hd
  obtain ⟨_, its, rv, o, h1, h2, n, h3⟩ := (show ObjOk X.prog X.w H s.heap tp (.tup cs) from I.hok tp _ hT)
  have e3 := ClsV.all k rv
  subst e3
  obtain ⟨oc, od', dt, sl⟩ := o
  simp only at h2 h3
  subst h2 h3
  exact PySem.W.kia_tup (kit_x (X := X) T) I.kIn J h1 e (fun z => nomatch z) fun tk => ⟨.bl b, H, I.tok tk, rfl, q⟩
end
/-! ### over data -/
/-- the thing at i, if it is the one -/
def atX (i : Nat) (a : Addr) (d : Option Addr) (r : Rho) : Option (List (Str × D)) := match r[i]? with
  | some (some (.x a' d' fs)) => if a' = a ∧ d' = d then some fs else none
  | _ => none
def dXis (i : Nat) (a : Addr) (d : Option Addr) (b : Bool) : Fe := fun r m => match atX i a d r with
  | some _ => .ok (.d (.bool b)) m
  | none => .bad
def dXf (i : Nat) (a : Addr) (d : Option Addr) (f : Str) : Fe := fun r m => match atX i a d r with
  | some fs => (match fs.lookup f with | some v => .ok (.d v) m | none => .bad)
  | none => .bad
theorem atX_w {K : PySem.W.Frag} {ad : List Addr} {F : Hp} {i : Nat} {a : Addr} {d : Option Addr} {r : Rho} {s : L2.St} {fs : List (Str × D)} (he : EnvOk K ad F r s) (e : atX i a d r = some fs) : s[i]? = some (some (.ref a)) ∧ XD K F d fs := by
  unfold atX at e
  split at e
  · rename_i a' d' fs' e1
    split at e
    · rename_i h
      obtain ⟨rfl, rfl⟩ := h
      cases e
      obtain ⟨v, e2, e3, e4⟩ := he.get _ _ e1
      subst e3
      exact ⟨e2, e4⟩
    · cases e
  · cases e
theorem xd_ok {K : PySem.W.Frag} {F H : Hp} {d : Option Addr} {fs : List (Str × D)} (h : XD K F d fs) (le : Ord F H) : dOk H d := by
  rintro dx rfl
  rcases h with ⟨_, h⟩ | ⟨dx', vs, h, h2, _⟩
  · cases h
  · cases h; exact ⟨vs, le _ _ h2⟩
theorem lookup_w {K : PySem.W.Frag} {F : Hp} {f : Str} : ∀ {vs : List (Str × V)} {fs : List (Str × D)} {x : D}, Paired (fun (p : Str × V) (q : Str × D) => p.1 = q.1 ∧ Rp K F p.2 q.2) vs fs → fs.lookup f = some x → ∃ v, vs.lookup f = some v ∧ Rp K F v x
  | _, _, x, .nil, e => by cases e
  | (n, v) :: vs, (n', y) :: fs, x, .cons ⟨h1, h2⟩ t, e => by
    obtain rfl : n = n' := h1
    rw [List.lookup] at e ⊢
    cases hq : f == n with
    | true => rw [hq] at e; simp only at e ⊢; cases e; exact ⟨v, rfl, h2⟩
    | false => rw [hq] at e; simp only at e ⊢; exact lookup_w t e
theorem At.lay {K : PySem.W.Frag} {ad : List Addr} {m : Sto} {F H : Hp} (h : At K ad m F H) {p : Addr} {o : HO} (hp : H p = none) : At K ad m F (upd H p o) ∧ Ext ad F H ad F (upd H p o) := by
  refine ⟨⟨fun b u hb => ?_, h.len, h.nd, fun i b c h1 h2 => ?_⟩, ⟨⟨[], by simp⟩, Ord.refl _, fun b u hb _ => ?_, fun b h1 h2 => absurd h1 h2, fun b u h1 _ _ => h1⟩⟩
  · rw [upd_ne (ne_of_none (h.le _ _ hb) hp)]; exact h.le _ _ hb
  · have c0 := h.cel i b c h1 h2
    cases c with
    | lst ds =>
      obtain ⟨q, vs, e, r⟩ := c0
      exact ⟨q, vs, by rw [upd_ne (ne_of_none e hp)]; exact e, r⟩
    | fz ds => exact c0
    | dk kvs =>
      obtain ⟨q, vs, e, r⟩ := c0
      exact ⟨q, vs, by rw [upd_ne (ne_of_none e hp)]; exact e, r⟩
  · rw [upd_ne (ne_of_none hb hp)]; exact hb
section
variable {X : Cx} {Wx : WX} {a C : Addr} {oe : Obj} {d : Option Addr} {pn : List (Addr × Obj)} {i : Nat} {n T : Str} {p p1 p2 pos : Pos} {c : V} {u : Value} {b : Bool}
/-- isinstance(e, T) -/
theorem de_isx (k : ClsV c u) (e : PySem.W.kitOne X.K (.ref C) u = some b) (hv : PE (X.suite a ((a, oe) :: pn)) (.Name n p1) (tVar i)) (ht : PE (X.suite a ((a, oe) :: pn)) (.Name T p2) (tC c))
    (hc : PA (X.suite a ((a, oe) :: pn)) [.Name n p1, .Name T p2] (tCons (tVar i) (tCons (tC c) tNil)) → PE (X.suite a ((a, oe) :: pn)) (.Call (.Name "isinstance" p) [.Name n p1, .Name T p2] [] pos) (tCB (rIsX X.K a (.ref C) d) (tCons (tVar i) (tCons (tC c) tNil))))
    (hs : starEach (.Name n p1 :: [.Name T p2]) X.env = (false, eval (.Name n p1) X.env) :: starEach [.Name T p2] X.env := by rfl) (hs2 : starEach (.Name T p2 :: []) X.env = (false, eval (.Name T p2) X.env) :: starEach [] X.env := by rfl) :
    DE (X.suite a ((a, oe) :: pn)) Wx (.Call (.Name "isinstance" p) [.Name n p1, .Name T p2] [] pos) (dXis i a d b) := by
  refine pe_weak (hc (pa_cons hv (pa_cons ht pa_nil hs2) hs)) fun s H Q q => ?_
  obtain ⟨r, ad, m, F, he, hA, hp⟩ := q
  unfold dXis at hp
  cases e1 : atX i a d r with
  | none => rw [e1] at hp; exact hp.elim
  | some fs =>
    rw [e1] at hp
    obtain ⟨h1, h2⟩ := atX_w he e1
    exact ⟨.ref a, h1, c, u, b, rfl, k, e, xd_ok h2 hA.le, hp _ _ _ Ext.refl hA _ (.bl _)⟩
/-- isinstance(e, (T, ..)) -/
theorem de_isxT {es : List Expr} {tp : Pos} {cs : List V} {us : List Value} {x1 : _} (hcs : cs.length ≤ 1000) (k : Paired ClsV cs us) (e : PySem.W.kitAny X.K (.ref C) us = some b) (hv : PE (X.suite a ((a, oe) :: pn)) (.Name n p1) (tVar i))
    (ht : PA (X.suite a ((a, oe) :: pn)) es (fun _ H Q => Q cs H))
    (hc : PA (X.suite a ((a, oe) :: pn)) [.Name n p1, .Tuple es x1 tp] (tCons (tVar i) (tCons (tTup (fun _ H Q => Q cs H)) tNil)) → PE (X.suite a ((a, oe) :: pn)) (.Call (.Name "isinstance" p) [.Name n p1, .Tuple es x1 tp] [] pos) (tCB (rIsXT X.K a (.ref C) d) (tCons (tVar i) (tCons (tTup (fun _ H Q => Q cs H)) tNil))))
    (hs : starEach (.Name n p1 :: [.Tuple es x1 tp]) X.env = (false, eval (.Name n p1) X.env) :: starEach [.Tuple es x1 tp] X.env := by rfl) (hs2 : starEach (.Tuple es x1 tp :: []) X.env = (false, eval (.Tuple es x1 tp) X.env) :: starEach [] X.env := by rfl) :
    DE (X.suite a ((a, oe) :: pn)) Wx (.Call (.Name "isinstance" p) [.Name n p1, .Tuple es x1 tp] [] pos) (dXis i a d b) := by
  refine pe_weak (hc (pa_cons hv (pa_cons (pe_tup ht) pa_nil hs2) hs)) fun s H Q q => ?_
  obtain ⟨r, ad, m, F, he, hA, hp⟩ := q
  unfold dXis at hp
  cases e1 : atX i a d r with
  | none => rw [e1] at hp; exact hp.elim
  | some fs =>
    rw [e1] at hp
    obtain ⟨h1, h2⟩ := atX_w he e1
    refine ⟨.ref a, h1, by rw [sizeLine_eq]; omega, fun tpa ht0 => ?_⟩
    obtain ⟨g1, g2⟩ := hA.lay (o := .tup cs) ht0
    refine ⟨tpa, cs, us, b, rfl, upd_same, k, e, xd_ok h2 g1.le, hp _ _ _ g2 g1 _ (.bl _)⟩
/-- e.f -/
theorem de_xf {f : Str} (T : XfC X.K C) (hno : PySem.W.findIn X.K (.ref C) f = some none) (hz : Zc (.ref C) d oe) (hf : ∃ vs, oe.data = .fields vs) (hv : PE (X.suite a ((a, oe) :: pn)) (.Name n p1) (tVar i)) (hb : attributeBase (.Name n p1) f X.env (eval (.Name n p1) X.env) = eval (.Name n p1) X.env := by rfl) :
    DE (X.suite a ((a, oe) :: pn)) Wx (.Attribute (.Name n p1) f pos) (dXf i a d f) := by
  refine pe_weak (pe_xf T hno hz hf hv hb) fun s H Q q => ?_
  obtain ⟨r, ad, m, F, he, hA, hp⟩ := q
  unfold dXf at hp
  cases e1 : atX i a d r with
  | none => rw [e1] at hp; exact hp.elim
  | some fs =>
    rw [e1] at hp
    obtain ⟨h1, h2⟩ := atX_w he e1
    cases e2 : fs.lookup f with
    | none => simp only [e2] at hp; exact hp.elim
    | some x =>
      simp only [e2] at hp
      rcases h2 with ⟨rfl, _⟩ | ⟨dx, vs, hd, h3, h4⟩
      · cases e2
      · obtain ⟨v, h5, h6⟩ := lookup_w h4 e2
        exact ⟨.ref a, h1, rfl, rfl, dx, vs, v, hd, hA.le _ _ h3, h5, hp _ _ _ Ext.refl hA _ h6⟩
end
end DL

/-! try: .. except (A, B) as e: .., and its like, over data -/
namespace DL
open PySem PySem.Spec L2 PyProof.Rows
/-- a test of a clause: what it asks of a class; its looking may lay a thing -/
structure Tst (X : Cx) (t : Expr) (cs : List Value) : Prop where
  ask : ∀ {pins : List (Addr × Obj)} {σ : L2.St} {H : Hp} {s : Shared} {a : Addr} {oe : Obj} {cls : Value} {b : Bool} {Q : Bool → Shared → Prop} {E : Value → Shared → Prop}, Inv (X.suite a ((a, oe) :: pins)) [] σ H s →
    PySem.W.Looks (model X.prog X.w) s.heap (typeOf (.ref a)) cls → PySem.W.exmAny X.K cls cs = some b → (∀ g, (∀ x o, s.heap.get? x = some o → g.get? x = some o) → Q b { s with heap := g }) →
    wpAny (model X.prog X.w) (X.A.mark (some (.ref a))) (eval t X.env) (fun c s1 => wpAny (model X.prog X.w) (X.A.mark (some (.ref a))) (excMatches (.ref a) c) Q E s1) E s
section
variable {X : Cx} {x x1 x2 : Str} {c c1 c2 : Value} {p p1 p2 : Pos}
theorem names_ld (hc : Names X x c) {pins : List (Addr × Obj)} {σ : L2.St} {H : Hp} {s : Shared} {a : Addr} {oe : Obj} {Q : Value → Shared → Prop} {E : Value → Shared → Prop} (S : Inv (X.suite a ((a, oe) :: pins)) [] σ H s) (q : Q c s) :
    wpAny (model X.prog X.w) (X.A.mark (some (.ref a))) (eval (.Name x p) X.env) Q E s := by
  obtain ⟨hg, hdbg, hm | ⟨hm, hv, hnn⟩⟩ := hc
  · exact ld_glob (X := X.suite a ((a, oe) :: pins)) S hg hm q hdbg
  · exact ld_blt (X := X.suite a ((a, oe) :: pins)) S hg hm hv q hnn hdbg
theorem exm_any1 {K : PySem.W.Frag} {cls : Value} {b : Bool} (h : PySem.W.exmAny K cls [c] = some b) : PySem.W.exmOne K cls c = some b := by
  unfold PySem.W.exmAny at h
  split at h
  · rename_i b1 d1 h1 h2
    cases h2
    simp only [Bool.or_false] at h
    rw [h1, h]
  · cases h
theorem tst_one (hc : Names X x c) : Tst X (.Name x p) [c] :=
  ⟨fun S LT e q => names_ld hc S ((PySem.W.exm_one (M := model X.prog X.w) S.kIn LT (exm_any1 e)).here (q _ fun _ _ z => z))⟩
theorem tst_two {k : Nat} (h1 : Names X x1 c1) (h2 : Names X x2 c2) (hs1 : starEach (.Name x1 p1 :: [.Name x2 p2]) X.env = (false, eval (.Name x1 p1) X.env) :: starEach [.Name x2 p2] X.env := by rfl)
    (hs2 : starEach (.Name x2 p2 :: []) X.env = (false, eval (.Name x2 p2) X.env) :: starEach [] X.env := by rfl) : Tst X (.Tuple [.Name x1 p1, .Name x2 p2] k p) [c1, c2] := by
  refine ⟨fun {pins σ H s a oe cls b Q E} S LT e q => wpAny_Tuple_spliced ?_⟩
  rw [hs1, hs2]
  show wpAny _ _ (spliced [(false, eval (.Name x1 p1) X.env), (false, eval (.Name x2 p2) X.env)]) _ _ _
  refine Calls.spliced_cons (names_ld h1 S (Calls.spliced_cons (names_ld h2 S (Calls.spliced_nil ⟨by rw [sizeLine_eq]; simp, ?_⟩))))
  have k : ∀ x o, s.heap.get? x = some o → (s.heap.push { cls := .type "tuple", data := .seq [c1, c2].toArray }).get? x = some o := fun x o z => Heap.get?_push_of_some _ z
  exact (PySem.W.exm_tup2 (M := model X.prog X.w) (S.kIn.keeps k) (LT.keeps k) (Heap.get?_push_at rfl rfl) e).here (q _ k)
theorem held_on {B g g2 : Heap} {l : List Env} {a : Addr} {Z : Obj → Prop} (h : PySem.HandSPX.FlyingZ B l a Z g) (k : ∀ x o, g.get? x = some o → g2.get? x = some o) : PySem.HandSPX.FlyingZ B l a Z g2 := by
  obtain ⟨h1, h2, h3, oe, vs, T, oT, ts, e1, e2, e3, e4, e5, e6, e7, e8, e9⟩ := h
  exact ⟨fun b o hb => k _ _ (h1 b o hb), h2, h3.of_keeps fun b o hb _ => ⟨o, k _ _ hb, rfl⟩, oe, vs, T, oT, ts, k _ _ e1, e2, e3, e4, e5, e6, k _ _ e7, e8, e9⟩
end
/-! ### the statement -/
/-- what the one clause wishes of an exception of the body -/
def wCl (K : PySem.W.Frag) (cs : List Value) (oi : Option Nat) (ts : Addr → Value → Option Addr → TS) (Wout : WX) (D : Ends) : WX := fun cls d σ H =>
  ∃ b, PySem.W.exmAny K cls cs = some b ∧ (b = true → ∀ a, H a = none → (match oi with
    | some i => ts a cls d { nx := fun σ' H' => D.nx (σ'.set i none) H', rt := D.rt, bk := fun σ' H' => D.bk (σ'.set i none) H', ct := fun σ' H' => D.ct (σ'.set i none) H' } (σ.set i (some (.ref a))) H
    | none => ts a cls d D σ H)) ∧ (b = false → Wout cls d σ H)
/-- the name of a clause stands where -/
def nameAt (X : Cx) : Option Str → Option Nat → Prop
  | some n, some i => X.N[i]? = some n ∧ X.env.kindOf n = some .local
  | none, none => True
  | _, _ => False
section
variable {X : Cx} {t : Expr} {cs : List Value} {on : Option Str} {oi : Option Nat} {body suite : List Stmt} {b₀ : Stmt} {pos pos' : Pos} {tb : WX → TS} {ts : Addr → Value → Option Addr → TS} {Wout : WX}
theorem ps_tryC (hs : X.stack = X.env :: X.outer) (hf : X.env.frame = some X.env.locals) (hN : X.N.Nodup) (hn : nameAt X on oi) (hc : Tst X t cs) (tk : Takes X Wout)
    (hb : ∀ (W : WX) (pn : List (Addr × Obj)) (xe : Value → Shared → Prop), Takes (X.tr pn xe) W → PassesOwn (model X.prog X.w) X.A X.env xe → PSs (X.tr pn xe) body (tb W))
    (hsu : ∀ (a : Addr) (oe : Obj) (cls : Value) (d : Option Addr) (pn : List (Addr × Obj)), Zc cls d oe → (∃ vs, oe.data = .fields vs) → PSs (X.suite a ((a, oe) :: pn)) (b₀ :: suite) (ts a cls d)) :
    PS X (.Try body [.ExceptHandler (some t) on (b₀ :: suite) pos'] [] [] pos) (fun D σ H => tb (wCl X.K cs oi ts Wout D) D σ H) := by
  refine ⟨fun pins s σ H D I h => ?_⟩
  have ok := I.ok
  have hfr : X.A.frames = some (X.env :: X.outer) := by rw [ok.frames, hs]
  have bodyRun := (hb (wCl X.K cs oi ts Wout D) (X.pn ++ pins) (fun e s1 => wpAny (model X.prog X.w) X.A (noteFrame e X.env) (fun _ s2 => wpAny (model X.prog X.w) X.A (setFlight e none) (fun _ s3 =>
    wpAny (model X.prog X.w) X.A (handleBy e X.env [.ExceptHandler (some t) on (b₀ :: suite) pos']) (SP X pins D) X.xe s3) X.xe s2) X.xe s1) (fun u s' raised => ?_) PassesOwn.looking).run [] s σ H D (I.toTry _) h
  · refine wpAny_Try_except (wpAny_mono bodyRun (fun fl s1 hsp => ?_) fun _ _ z => z)
    match fl, hsp with
    | .next, ⟨σ', H', J, q⟩ => exact wpAny_execs_nil ⟨σ', H', J.ofTry ok, q⟩
    | .brk, ⟨σ', H', J, q⟩ => exact ⟨σ', H', J.ofTry ok, q⟩
    | .cont, ⟨σ', H', J, q⟩ => exact ⟨σ', H', J.ofTry ok, q⟩
    | .ret u, ⟨v, σ', H', J, r, q⟩ => exact ⟨v, σ', H', J.ofTry ok, r, q⟩
  obtain ⟨a, B, sI, pins', σ', H', cls, d, rfl, J', nb, up, sky, na, os, ag, b, hb1, hyes, hno⟩ := raised
  have J : Inv X pins σ' H' sI := J'.ofTry ok
  have sky' : Sky B (X.env :: X.outer) a (Zc cls d) X.env.locals s'.heap := by rw [← hs]; exact sky
  show wpAny (model X.prog X.w) X.A (noteFrame (.ref a) X.env) _ _ _
  refine Sky.land Zc.steady hfr hf sky' fun g3 fl3 up3 => ?_
  have inv3 : Inv X pins σ' H' { s' with heap := g3 } := J.landed nb fl3.1 (up.trans up3) os ag
  obtain ⟨oe3, vs3, he3, hz3, hd3⟩ := fl3.there
  have nfr : a ∉ frs (X.env :: X.outer) := fun hm => by
    obtain ⟨_, o', e', hnf⟩ := fl3.2.2.1.mem hm
    rw [he3] at e'
    cases e'
    exact hnf _ hd3
  have nL : a ≠ X.env.locals := fun z => nfr (List.mem_filterMap.mpr ⟨X.env, List.mem_cons_self, by rw [hf, z]⟩)
  have nF : a ∉ X.fs := fun hm => by
    obtain ⟨e, he, q⟩ := List.mem_filterMap.mp hm
    exact nfr (List.mem_filterMap.mpr ⟨e, List.mem_cons_of_mem _ he, q⟩)
  refine wpAny_handleBy_cons (codeAny_handlers_test ?_) (by intro q; cases q)
  refine hc.ask (inv3.suite he3 hd3 na nL nF) (fun A Q E s k q => wpAny_typeOf_ref (k _ _ he3) (by rw [hz3.1]; exact q)) hb1 fun g4 k4 => ?_
  have fl4 := held_on fl3 k4
  have up4 := up3.trans (Heap.UpToSlots.of_keeps k4)
  cases b with
  | false =>
    show wpAny _ X.A (handleBy (.ref a) X.env []) _ _ _
    refine wpAny_handleBy_nil ?_
    obtain ⟨k1, k2, k3, oe, vs, T, oT, ts', he, hz, hd, h1, hr⟩ := id fl4
    unfold PySem.passOn
    refine wpAny_bind (wpAny_field he hd h1 ?_)
    rw [if_neg (show ¬ ((Value.ref T == Value.none) = true) from by simp)]
    have fin : wpAny (model X.prog X.w) X.A (setFlight (.ref a) X.env.frame) (fun _ s4 => wpAny (model X.prog X.w) X.A (throw (.ref a) : Sem Flow) (SP X pins D) X.xe s4) X.xe { s' with heap := g4 } := by
      rw [hf]
      exact PySem.HandSPX.setFlight_upZ fl4 fun g5 hh5 up5 => wpAny_throw (tk _ _ ⟨a, B, sI, pins, σ', H', cls, d, rfl, J, nb, (up.trans up4).trans up5, .inr (.inr (by rw [hs]; exact hh5)), na, os, ag, hno rfl⟩)
    first
      | exact wpAny_bind (wpAny_pure (wpAny_bind fin))
      | exact wpAny_bind fin
  | true =>
    have hyes := hyes rfl a na
    match on, oi, hn with
    | none, none, _ =>
      refine codeAny_handlers_suite (PySem.HandSPX.lands_againZ fl4 fun g5 fl5 up5 => ?_)
      have J5 : Inv X pins σ' H' { s' with heap := g5 } := J.landed nb fl5.1 ((up.trans up4).trans up5) os ag
      obtain ⟨oe5, vs5, he5, hz5, hd5⟩ := fl5.there
      refine wpAny_mono ((hsu a oe5 cls d (X.pn ++ pins) hz5 ⟨_, hd5⟩).run [] _ _ H' _ (J5.suite he5 hd5 na nL nF) hyes) (fun fl s6 hsp => ?_) fun _ _ z => False.elim z
      match fl, hsp with
      | .next, ⟨σ6, H6, S6, q6⟩ => exact ⟨_, _, S6.unsuite ok, q6⟩
      | .brk, ⟨σ6, H6, S6, q6⟩ => exact ⟨_, _, S6.unsuite ok, q6⟩
      | .cont, ⟨σ6, H6, S6, q6⟩ => exact ⟨_, _, S6.unsuite ok, q6⟩
      | .ret u, ⟨v6, σ6, H6, S6, r6, q6⟩ => exact ⟨_, _, _, S6.unsuite ok, r6, q6⟩
    | some n, some i, hn =>
      obtain ⟨hi, hln⟩ := hn
      refine codeAny_handlers_suite_as (PySem.HandSPX.lands_againZ fl4 fun g5 fl5 up5 => ?_)
      have J5 : Inv X pins σ' H' { s' with heap := g5 } := J.landed nb fl5.1 ((up.trans up4).trans up5) os ag
      obtain ⟨oe5, vs5, he5, hz5, hd5⟩ := fl5.there
      refine store_ok (X := X.suite a ((a, oe5) :: (X.pn ++ pins))) (v := .ref a) (J5.suite he5 hd5 na nL nF) hN hi (.inl hln) rfl (fun s5 S5 => ?_) (.inr hln)
      refine wpAny_mono ((hsu a oe5 cls d (X.pn ++ pins) hz5 ⟨_, hd5⟩).run [] s5 _ H' _ S5 hyes) (fun fl s6 hsp => ?_) fun _ _ z => False.elim z
      have bye : ∀ {σ6 : L2.St} {H6 : Hp} {Q : Shared → Prop}, Inv (X.suite a ((a, oe5) :: (X.pn ++ pins))) [] σ6 H6 s6 → (∀ s7, Inv X pins (σ6.set i none) H6 s7 → Q s7) →
          wpAny (model X.prog X.w) X.A (do bindName X.env n .none; unbindBehindTheSuite X.env n pos') (fun _ s7 => Q s7) X.xe s6 := fun S6 hq => gone_ok (S6.unsuite ok) hN hi hln hq
      match fl, hsp with
      | .next, ⟨σ6, H6, S6, q6⟩ => exact bye S6 fun s7 J7 => ⟨_, _, J7, q6⟩
      | .brk, ⟨σ6, H6, S6, q6⟩ => exact bye S6 fun s7 J7 => ⟨_, _, J7, q6⟩
      | .cont, ⟨σ6, H6, S6, q6⟩ => exact bye S6 fun s7 J7 => ⟨_, _, J7, q6⟩
      | .ret u, ⟨v6, σ6, H6, S6, r6, q6⟩ => exact bye S6 fun s7 J7 => ⟨_, _, _, J7, r6, q6⟩
end
end DL

/-! try over data: what the def computes -/
namespace DL
open PySem PySem.Spec L2 PyProof.Rows
abbrev WF : WX := fun _ _ _ _ => False
def noX : OutS → OutS
  | .exc _ _ _ _ => .bad
  | o => o
def isIn (l : List Addr) : Value → Bool
  | .ref C => l.contains C
  | _ => false
/-- try: fb / except ..: fsu; hit: the classes that the clause takes, miss: those that it lets by -/
def sTry0 (hit miss : List Addr) (fb fsu : Fs) : Fs := fun r m => match fb r m with
  | .exc c fs r1 m1 => if isIn hit c then noX (fsu r1 m1) else if isIn miss c then .exc c fs r1 m1 else .bad
  | o => o
/-- the thing's name goes -/
def wipeX (i : Nat) : OutS → OutS
  | .nx r m => .nx (r.set i none) m
  | .brk r m => .brk (r.set i none) m
  | .cnt r m => .cnt (r.set i none) m
  | .ret (.x _ _ _) _ => .bad
  | .ret w m => .ret w m
  | .exc _ _ _ _ => .bad
  | .bad => .bad
def sTryN (i : Nat) (hit miss : List Addr) (fb : Fs) (fsu : Addr → Addr → Option Addr → Fs) : Fs := fun r m => match fb r m with
  | .exc (.ref C) fs r1 m1 => if hit.contains C then wipeX i (fsu C 0 none (r1.set i (some (.x 0 none fs))) m1) else if miss.contains C then .exc (.ref C) fs r1 m1 else .bad
  | .exc _ _ _ _ => .bad
  | o => o
theorem EnvOk.wipe1 {K : PySem.W.Frag} {ad : List Addr} {F : Hp} {r : Rho} {s : L2.St} (h : EnvOk K ad F r s) (i : Nat) : EnvOk K ad F (r.set i none) (s.set i none) := by
  refine ⟨by simp [h.len], fun j w e => ?_⟩
  by_cases hj : j = i
  · subst hj
    by_cases hl : j < r.length
    · rw [List.getElem?_set_self hl] at e; cases e
    · rw [List.getElem?_eq_none (by simpa using hl)] at e; cases e
  · rw [List.getElem?_set_ne (Ne.symm hj)] at e ⊢
    exact h.get _ _ e
/-- a suite that is blind to which thing it is -/
def SimS (i : Nat) (f : Addr → Option Addr → Fs) : Prop := ∀ (a : Addr) (d : Option Addr) (fs : List (Str × D)) (r : Rho) (m : Sto), wipeX i (f a d (r.set i (some (.x a d fs))) m) = wipeX i (f 0 none (r.set i (some (.x 0 none fs))) m)
section
variable {X : Cx} {Wx : WX} {t : Expr} {cs : List Value} {body suite : List Stmt} {b₀ : Stmt} {pos pos' : Pos} {fb fsu : Fs} {hit miss : List Addr}
theorem post_wipe {K : PySem.W.Frag} {D : Ends} {ad : List Addr} {F H : Hp} {i : Nat} {o : OutS} (h : PostS K Wx D ad F H (wipeX i o)) :
    PostS K WF { nx := fun σ' H' => D.nx (σ'.set i none) H', rt := D.rt, bk := fun σ' H' => D.bk (σ'.set i none) H', ct := fun σ' H' => D.ct (σ'.set i none) H' } ad F H o := by
  cases o with
  | nx r m => exact fun s ad' F' H' e ha he => h _ _ _ _ e ha (he.wipe1 i)
  | brk r m => exact fun s ad' F' H' e ha he => h _ _ _ _ e ha (he.wipe1 i)
  | cnt r m => exact fun s ad' F' H' e ha he => h _ _ _ _ e ha (he.wipe1 i)
  | ret w m =>
    cases w with
    | x _ _ _ => exact h.elim
    | d _ => exact h
    | c _ => exact h
    | k _ => exact h
  | exc _ _ _ _ => exact h.elim
  | bad => exact h.elim
theorem post_noX {K : PySem.W.Frag} {D : Ends} {ad : List Addr} {F H : Hp} {o : OutS} (h : PostS K Wx D ad F H (noX o)) : PostS K WF D ad F H o := by
  cases o with
  | exc _ _ _ _ => exact h.elim
  | nx _ _ => exact h
  | brk _ _ => exact h
  | cnt _ _ => exact h
  | ret _ _ => exact h
  | bad => exact h
/-- except T: .. -/
theorem ds_try0 (hs : X.stack = X.env :: X.outer) (hf : X.env.frame = some X.env.locals) (hN : X.N.Nodup) (hc : Tst X t cs) (tk : Takes X Wx)
    (hb : ∀ (W : WX) (pn : List (Addr × Obj)) (xe : Value → Shared → Prop), Takes (X.tr pn xe) W → PassesOwn (model X.prog X.w) X.A X.env xe → DSs (X.tr pn xe) W body fb)
    (hsu : ∀ (a : Addr) (oe : Obj) (cls : Value) (d : Option Addr) (pn : List (Addr × Obj)), Zc cls d oe → (∃ vs, oe.data = .fields vs) → DSs (X.suite a ((a, oe) :: pn)) WF (b₀ :: suite) fsu)
    (hh : ∀ C ∈ hit, PySem.W.exmAny X.K (.ref C) cs = some true) (hm : ∀ C ∈ miss, PySem.W.exmAny X.K (.ref C) cs = some false) :
    DS X Wx (.Try body [.ExceptHandler (some t) none (b₀ :: suite) pos'] [] [] pos) (sTry0 hit miss fb fsu) := by
  refine ps_weak (ps_tryC (oi := none) (tb := fun W => LS X.K W fb) (ts := fun _ _ _ => LS X.K WF fsu) (Wout := Wx) hs hf hN trivial hc tk hb hsu) fun D s H q => ?_
  obtain ⟨r, ad, m, F, hE, hA, hp⟩ := q
  refine ⟨r, ad, m, F, hE, hA, ?_⟩
  unfold sTry0 at hp
  cases e : fb r m with
  | nx _ _ => rw [e] at hp; exact hp
  | brk _ _ => rw [e] at hp; exact hp
  | cnt _ _ => rw [e] at hp; exact hp
  | ret _ _ => rw [e] at hp; exact hp
  | bad => rw [e] at hp; exact hp
  | exc c fs r1 m1 =>
    rw [e] at hp
    intro s1 d ad1 F1 H1 e1 ha1 he1 hx
    cases c with
    | ref C =>
      by_cases h1 : isIn hit (.ref C) = true
      · simp only [h1, if_true] at hp
        exact ⟨true, hh C (by simpa [isIn] using h1), fun _ a _ => ⟨r1, ad1, m1, F1, he1, ha1, (post_noX hp).ext e1⟩, fun z => nomatch z⟩
      · simp only [h1, Bool.false_eq_true, if_false] at hp
        by_cases h2 : isIn miss (.ref C) = true
        · simp only [h2, if_true] at hp
          exact ⟨false, hm C (by simpa [isIn] using h2), (fun z => nomatch z), fun _ => hp _ _ _ _ _ e1 ha1 he1 hx⟩
        · simp only [h2, Bool.false_eq_true, if_false] at hp
          exact hp.elim
    | _ => simp only [isIn, Bool.false_eq_true, if_false] at hp; exact hp.elim
/-- except T as n: .. -/
theorem ds_tryN {i : Nat} {n : Str} {fsn : Addr → Addr → Option Addr → Fs} (hs : X.stack = X.env :: X.outer) (hf : X.env.frame = some X.env.locals) (hN : X.N.Nodup) (hn : nameAt X (some n) (some i)) (hc : Tst X t cs) (tk : Takes X Wx)
    (hb : ∀ (W : WX) (pn : List (Addr × Obj)) (xe : Value → Shared → Prop), Takes (X.tr pn xe) W → PassesOwn (model X.prog X.w) X.A X.env xe → DSs (X.tr pn xe) W body fb)
    (hsu : ∀ (C : Addr), C ∈ hit → ∀ (a : Addr) (oe : Obj) (d : Option Addr) (pn : List (Addr × Obj)), Zc (.ref C) d oe → (∃ vs, oe.data = .fields vs) → DSs (X.suite a ((a, oe) :: pn)) WF (b₀ :: suite) (fsn C a d))
    (hh : ∀ C ∈ hit, PySem.W.exmAny X.K (.ref C) cs = some true) (hm : ∀ C ∈ miss, PySem.W.exmAny X.K (.ref C) cs = some false) (hS : ∀ C ∈ hit, SimS i (fsn C)) :
    DS X Wx (.Try body [.ExceptHandler (some t) (some n) (b₀ :: suite) pos'] [] [] pos) (sTryN i hit miss fb fsn) := by
  refine ps_weak (ps_tryC (oi := some i) (tb := fun W => LS X.K W fb) (ts := fun a cls d => fun D s H => ∃ C, cls = .ref C ∧ C ∈ hit ∧ LS X.K WF (fsn C a d) D s H) (Wout := Wx) hs hf hN hn hc tk hb ?_) fun D s H q => ?_
  · intro a oe cls d pn hz hd
    refine ⟨fun pins s σ H D I q => ?_⟩
    obtain ⟨C, rfl, hC, q⟩ := q
    exact (hsu C hC a oe d pn hz hd).run pins s σ H D I q
  obtain ⟨r, ad, m, F, hE, hA, hp⟩ := q
  refine ⟨r, ad, m, F, hE, hA, ?_⟩
  unfold sTryN at hp
  cases e : fb r m with
  | nx _ _ => rw [e] at hp; exact hp
  | brk _ _ => rw [e] at hp; exact hp
  | cnt _ _ => rw [e] at hp; exact hp
  | ret _ _ => rw [e] at hp; exact hp
  | bad => rw [e] at hp; exact hp
  | exc c fs r1 m1 =>
    rw [e] at hp
    intro s1 d ad1 F1 H1 e1 ha1 he1 hx
    cases c with
    | ref C =>
      by_cases h1 : hit.contains C = true
      · simp only [h1, if_true] at hp
        have hC : C ∈ hit := by simpa using h1
        refine ⟨true, hh C hC, fun _ a _ => ⟨C, rfl, hC, r1.set i (some (.x a d fs)), ad1, m1, F1, he1.set i (v := .ref a) ⟨rfl, hx⟩, ha1, ?_⟩, fun z => nomatch z⟩
        refine post_wipe (Wx := Wx) ?_
        rw [hS C hC a d fs r1 m1]
        exact hp.ext e1
      · simp only [h1, Bool.false_eq_true, if_false] at hp
        by_cases h2 : miss.contains C = true
        · simp only [h2, if_true] at hp
          exact ⟨false, hm C (by simpa using h2), (fun z => nomatch z), fun _ => hp _ _ _ _ _ e1 ha1 he1 hx⟩
        · simp only [h2, Bool.false_eq_true, if_false] at hp
          exact hp.elim
    | _ => exact hp.elim
end
/-! ### suites that are blind to which thing it is -/
def reX (i : Nat) (v : Option W) : OutS → OutS
  | .nx r m => .nx (r.set i v) m
  | .brk r m => .brk (r.set i v) m
  | .cnt r m => .cnt (r.set i v) m
  | .exc c fs r m => .exc c fs (r.set i v) m
  | o => o
abbrev xAt (i : Nat) (a : Addr) (d : Option Addr) (fs : List (Str × D)) (r : Rho) : Rho := r.set i (some (.x a d fs))
def Sm (i : Nat) (f : Addr → Option Addr → Fs) : Prop := ∀ (a : Addr) (d : Option Addr) (fs : List (Str × D)) (r : Rho) (m : Sto), f a d (xAt i a d fs r) m = reX i (some (.x a d fs)) (f 0 none (xAt i 0 none fs r) m)
def SmV {α : Type} (i : Nat) (f : Addr → Option Addr → Rho → Sto → Out α) : Prop := ∀ (a : Addr) (d : Option Addr) (fs : List (Str × D)) (r : Rho) (m : Sto), f a d (xAt i a d fs r) m = f 0 none (xAt i 0 none fs r) m
section
variable {i j : Nat} {f g : Addr → Option Addr → Fs} {t t2 : Addr → Option Addr → Ft} {e e2 : Addr → Option Addr → Fe} {es : Addr → Option Addr → Fa}
theorem Sm.sim (h : Sm i f) : SimS i f := fun a d fs r m => by
  rw [show (r.set i (some (.x a d fs))) = xAt i a d fs r from rfl, h a d fs r m]
  cases f 0 none (xAt i 0 none fs r) m with
  | nx r m => simp [reX, wipeX]
  | brk r m => simp [reX, wipeX]
  | cnt r m => simp [reX, wipeX]
  | ret w m => rfl
  | exc _ _ _ _ => rfl
  | bad => rfl
theorem sm_is {b : Bool} : SmV i (fun a d => dXis i a d b) := fun a d fs r m => by
  have : ∀ a d, atX i a d (xAt i a d fs r) = if i < r.length then some fs else none := fun a d => by
    unfold atX xAt
    by_cases h : i < r.length
    · rw [List.getElem?_set_self h, if_pos h]; simp
    · rw [List.getElem?_eq_none (by simpa using h), if_neg h]
  show (match atX i a d (xAt i a d fs r) with | some _ => _ | none => _) = (match atX i 0 none (xAt i 0 none fs r) with | some _ => _ | none => _)
  rw [this, this]
theorem sm_f {s : Str} : SmV i (fun a d => dXf i a d s) := fun a d fs r m => by
  have : ∀ a d, atX i a d (xAt i a d fs r) = if i < r.length then some fs else none := fun a d => by
    unfold atX xAt
    by_cases h : i < r.length
    · rw [List.getElem?_set_self h, if_pos h]; simp
    · rw [List.getElem?_eq_none (by simpa using h), if_neg h]
  show (match atX i a d (xAt i a d fs r) with | some fs => _ | none => _) = (match atX i 0 none (xAt i 0 none fs r) with | some fs => _ | none => _)
  rw [this, this]
theorem sm_c {x : D} : SmV i (fun _ _ => dC x) := fun _ _ _ _ _ => rfl
theorem sm_var (h : i ≠ j) : SmV i (fun _ _ => dVar j) := fun a d fs r m => by
  show (match (r.set i _)[j]? with | some (some w) => Out.ok w m | _ => .bad) = (match (r.set i _)[j]? with | some (some w) => Out.ok w m | _ => .bad)
  rw [List.getElem?_set_ne h, List.getElem?_set_ne h]
theorem sm_tru (h : SmV i e) : SmV i (fun a d => dTru (e a d)) := fun a d fs r m => by
  show dTru (e a d) (xAt i a d fs r) m = dTru (e 0 none) (xAt i 0 none fs r) m
  unfold dTru; rw [h a d fs r m]
theorem sm_isT (h : SmV i e) : SmV i (fun a d => dIsT (e a d)) := fun a d fs r m => by
  show dIsT (e a d) (xAt i a d fs r) m = dIsT (e 0 none) (xAt i 0 none fs r) m
  unfold dIsT; rw [h a d fs r m]
theorem sm_notT (h : SmV i t) : SmV i (fun a d => dNotT (t a d)) := fun a d fs r m => by
  show dNotT (t a d) (xAt i a d fs r) m = dNotT (t 0 none) (xAt i 0 none fs r) m
  unfold dNotT; rw [h a d fs r m]
theorem sm_andT (h : SmV i t) (h2 : SmV i t2) : SmV i (fun a d => dAndT (t a d) (t2 a d)) := fun a d fs r m => by
  show dAndT (t a d) (t2 a d) (xAt i a d fs r) m = dAndT (t 0 none) (t2 0 none) (xAt i 0 none fs r) m
  unfold dAndT; rw [h a d fs r m]
  cases t 0 none (xAt i 0 none fs r) m with
  | ok b m1 => cases b <;> first | exact h2 a d fs r m1 | rfl
  | exc _ _ _ => rfl
  | bad => rfl
theorem sm_orT (h : SmV i t) (h2 : SmV i t2) : SmV i (fun a d => dOrT (t a d) (t2 a d)) := fun a d fs r m => by
  show dOrT (t a d) (t2 a d) (xAt i a d fs r) m = dOrT (t 0 none) (t2 0 none) (xAt i 0 none fs r) m
  unfold dOrT; rw [h a d fs r m]
  cases t 0 none (xAt i 0 none fs r) m with
  | ok b m1 => cases b <;> first | exact h2 a d fs r m1 | rfl
  | exc _ _ _ => rfl
  | bad => rfl
theorem sm_if (ht : SmV i t) (h : SmV i e) (h2 : SmV i e2) : SmV i (fun a d => dIf (t a d) (e a d) (e2 a d)) := fun a d fs r m => by
  show dIf (t a d) (e a d) (e2 a d) (xAt i a d fs r) m = dIf (t 0 none) (e 0 none) (e2 0 none) (xAt i 0 none fs r) m
  unfold dIf; rw [ht a d fs r m]
  cases t 0 none (xAt i 0 none fs r) m with
  | ok b m1 => cases b <;> first | exact h2 a d fs r m1 | exact h a d fs r m1
  | exc _ _ _ => rfl
  | bad => rfl
theorem sm_bin {o : W → W → Sto → Option W} (h : SmV i e) (h2 : SmV i e2) : SmV i (fun a d => dBin o (e a d) (e2 a d)) := fun a d fs r m => by
  show dBin o (e a d) (e2 a d) (xAt i a d fs r) m = dBin o (e 0 none) (e2 0 none) (xAt i 0 none fs r) m
  unfold dBin; rw [h a d fs r m]
  cases e 0 none (xAt i 0 none fs r) m with
  | ok w m1 => simp only [Out.bind_ok]; rw [h2 a d fs r m1]
  | exc _ _ _ => rfl
  | bad => rfl
theorem sm_nil : SmV i (fun _ _ => dNil) := fun _ _ _ _ _ => rfl
theorem sm_cons (h : SmV i e) (h2 : SmV i es) : SmV i (fun a d => dCons (e a d) (es a d)) := fun a d fs r m => by
  show dCons (e a d) (es a d) (xAt i a d fs r) m = dCons (e 0 none) (es 0 none) (xAt i 0 none fs r) m
  unfold dCons; rw [h a d fs r m]
  cases e 0 none (xAt i 0 none fs r) m with
  | ok w m1 => simp only [Out.bind_ok]; rw [h2 a d fs r m1]
  | exc _ _ _ => rfl
  | bad => rfl
theorem sm_tup (h : SmV i es) : SmV i (fun a d => dTup (es a d)) := fun a d fs r m => by
  show dTup (es a d) (xAt i a d fs r) m = dTup (es 0 none) (xAt i 0 none fs r) m
  unfold dTup; rw [h a d fs r m]
theorem sm_nx : Sm i (fun _ _ => sNx) := fun a d fs r m => by simp [sNx, reX, xAt]
theorem sm_ret (h : SmV i e) : Sm i (fun a d => sRet (e a d)) := fun a d fs r m => by
  show (e a d (xAt i a d fs r) m).stm _ _ = reX _ _ ((e 0 none (xAt i 0 none fs r) m).stm _ _)
  rw [h a d fs r m]
  cases e 0 none (xAt i 0 none fs r) m with
  | ok x m1 => rfl
  | exc _ _ _ => simp [Out.stm, reX, xAt]
  | bad => rfl
theorem sm_asg (hij : i ≠ j) (h : SmV i e) : Sm i (fun a d => sAsg (e a d) (gN j)) := fun a d fs r m => by
  show (e a d (xAt i a d fs r) m).stm _ _ = reX _ _ ((e 0 none (xAt i 0 none fs r) m).stm _ _)
  rw [h a d fs r m]
  cases e 0 none (xAt i 0 none fs r) m with
  | ok x m1 =>
    simp only [Out.stm, gN, reX, xAt]
    rw [List.set_comm _ _ hij, List.set_comm _ _ hij, List.set_set]
  | exc _ _ _ => simp [Out.stm, reX, xAt]
  | bad => rfl
theorem sm_sif (ht : SmV i t) (h : Sm i f) (h2 : Sm i g) : Sm i (fun a d => sIf (t a d) (f a d) (g a d)) := fun a d fs r m => by
  show (t a d (xAt i a d fs r) m).stm _ _ = reX _ _ ((t 0 none (xAt i 0 none fs r) m).stm _ _)
  rw [ht a d fs r m]
  cases t 0 none (xAt i 0 none fs r) m with
  | ok b m1 =>
    cases b with
    | true => exact h a d fs r m1
    | false => exact h2 a d fs r m1
  | exc _ _ _ => simp [Out.stm, reX, xAt]
  | bad => rfl
theorem sm_seq (h : Sm i f) (h2 : Sm i g) : Sm i (fun a d => sSeq (f a d) (g a d)) := fun a d fs r m => by
  show (match f a d (xAt i a d fs r) m with | .nx r1 m1 => g a d r1 m1 | o => o) = reX _ _ (match f 0 none (xAt i 0 none fs r) m with | .nx r1 m1 => g 0 none r1 m1 | o => o)
  rw [h a d fs r m]
  have keep : ∀ o, f 0 none (xAt i 0 none fs r) m = o → ∃ o', o = reX i (some (.x 0 none fs)) o' := fun o ho => by
    have := h 0 none fs r m
    rw [ho] at this
    exact ⟨o, this⟩
  cases e1 : f 0 none (xAt i 0 none fs r) m with
  | nx r1 m1 =>
    obtain ⟨o', ho⟩ := keep _ e1
    cases o' with
    | nx r2 m2 =>
      simp only [reX, OutS.nx.injEq] at ho
      obtain ⟨rfl, rfl⟩ := ho
      simp only [reX]
      have := h2 a d fs r2 m1
      simp only [xAt] at this
      rw [List.set_set, this]
      cases g 0 none (List.set r2 i (some (W.x 0 none fs))) m1 <;> rfl
    | _ => simp [reX] at ho
  | brk _ _ => simp [reX]
  | cnt _ _ => simp [reX]
  | ret _ _ => simp [reX]
  | exc _ _ _ _ => simp [reX]
  | bad => simp [reX]
end
end DL

/-! raise, try, except by steps -/
namespace DL
open PySem L2 PyProof.Rows
theorem EnV.none1 {V r : Rho} (h : EnV V r) (i : Nat) : EnV (V.set i none) (r.set i none) := by
  refine ⟨by simp [h.len], fun j u e => ?_⟩
  by_cases hj : i = j
  · subst hj
    by_cases hl : i < V.length
    · rw [List.getElem?_set_self hl] at e; cases e
    · rw [List.getElem?_eq_none (by simpa using hl)] at e; cases e
  · rw [List.getElem?_set_ne hj] at e ⊢
    exact h.var _ _ e
def wipeQ (i : Nat) (Q : OA → Prop) : OA → Prop
  | .nx V G => Q (.nx (V.set i none) G)
  | .brk V G => Q (.brk (V.set i none) G)
  | .cnt V G => Q (.cnt (V.set i none) G)
  | .ret w G => (∀ a d fs, w ≠ .x a d fs) ∧ Q (.ret w G)
  | .exc _ _ _ _ => False
def noQ (Q : OA → Prop) : OA → Prop
  | .exc _ _ _ _ => False
  | o => Q o
def tryQ (i : Nat) (hit miss : List Addr) (fsn : Addr → Addr → Option Addr → Fs) (Q : OA → Prop) : OA → Prop
  | .exc c fs V G => ∃ C, c = .ref C ∧ ((hit.contains C = true ∧ JS (V.set i (some (.x 0 none fs))) G (fsn C 0 none) (wipeQ i Q)) ∨ (hit.contains C = false ∧ miss.contains C = true ∧ Q (.exc c fs V G)))
  | o => Q o
def tryQ0 (hit miss : List Addr) (fsu : Fs) (Q : OA → Prop) : OA → Prop
  | .exc c fs V G => (isIn hit c = true ∧ JS V G fsu (noQ Q)) ∨ (isIn hit c = false ∧ isIn miss c = true ∧ Q (.exc c fs V G))
  | o => Q o
section
variable {V : Rho} {G : Sg} {Q : OA → Prop} {fb fsu : Fs} {hit miss : List Addr} {fa : Fa} {C : Addr} {ns : List Str} {i : Nat} {fsn : Addr → Addr → Option Addr → Fs} {K : W → Sg → Prop} {X : XK'}
theorem JS_raise (h : J V G fa (fun ws G1 => ∃ ds, allDt ws = some ds ∧ ds.length = ns.length ∧ ns.length ≤ 900 ∧ Q (.exc (.ref C) (ns.zip ds).reverse V G1)) (xq V Q)) : JS V G (sRz C ns fa) Q :=
  JS.stm (g := fun ws r m1 => match allDt ws with
    | some ds => if ds.length = ns.length ∧ ns.length ≤ 900 then .exc (.ref C) (ns.zip ds).reverse r m1 else .bad
    | none => .bad) (h.mono fun ws G1 k => by
    obtain ⟨ds, e, h1, h2, q⟩ := k
    intro m0 S r m hv hm
    refine ⟨.exc (.ref C) (ns.zip ds).reverse V G1, ?_, q⟩
    simp only [e, h1, h2, and_self, if_true]
    exact ⟨r, m, rfl, hv, hm⟩)
theorem JS_try0 (h : JS V G fb (tryQ0 hit miss fsu Q)) : JS V G (sTry0 hit miss fb fsu) Q := fun m0 S r m hv hm => by
  obtain ⟨a, e, k⟩ := h m0 S r m hv hm
  unfold sTry0
  cases a with
  | nx V1 G1 => obtain ⟨r1, m1, e1, h1, h2⟩ := e; rw [e1]; exact ⟨.nx V1 G1, ⟨r1, m1, rfl, h1, h2⟩, k⟩
  | brk V1 G1 => obtain ⟨r1, m1, e1, h1, h2⟩ := e; rw [e1]; exact ⟨.brk V1 G1, ⟨r1, m1, rfl, h1, h2⟩, k⟩
  | cnt V1 G1 => obtain ⟨r1, m1, e1, h1, h2⟩ := e; rw [e1]; exact ⟨.cnt V1 G1, ⟨r1, m1, rfl, h1, h2⟩, k⟩
  | ret w G1 => obtain ⟨m1, e1, h2⟩ := e; rw [e1]; exact ⟨.ret w G1, ⟨m1, rfl, h2⟩, k⟩
  | exc c fs V1 G1 =>
    obtain ⟨r1, m1, e1, h1, h2⟩ := e
    rw [e1]
    rcases k with ⟨hh, k⟩ | ⟨hh, hm', k⟩
    · simp only [hh, if_true]
      obtain ⟨a, e, k⟩ := k m0 S r1 m1 h1 h2
      cases a with
      | nx V1 G1 => obtain ⟨r1, m1, e1, h1, h2⟩ := e; rw [e1]; exact ⟨.nx V1 G1, ⟨r1, m1, rfl, h1, h2⟩, k⟩
      | brk V1 G1 => obtain ⟨r1, m1, e1, h1, h2⟩ := e; rw [e1]; exact ⟨.brk V1 G1, ⟨r1, m1, rfl, h1, h2⟩, k⟩
      | cnt V1 G1 => obtain ⟨r1, m1, e1, h1, h2⟩ := e; rw [e1]; exact ⟨.cnt V1 G1, ⟨r1, m1, rfl, h1, h2⟩, k⟩
      | ret w G1 => obtain ⟨m1, e1, h2⟩ := e; rw [e1]; exact ⟨.ret w G1, ⟨m1, rfl, h2⟩, k⟩
      | exc _ _ _ _ => exact k.elim
    · simp only [hh, hm', Bool.false_eq_true, if_false, if_true]
      exact ⟨.exc c fs V1 G1, ⟨r1, m1, rfl, h1, h2⟩, k⟩
theorem JS_tryN (h : JS V G fb (tryQ i hit miss fsn Q)) : JS V G (sTryN i hit miss fb fsn) Q := fun m0 S r m hv hm => by
  obtain ⟨a, e, k⟩ := h m0 S r m hv hm
  unfold sTryN
  cases a with
  | nx V1 G1 => obtain ⟨r1, m1, e1, h1, h2⟩ := e; rw [e1]; exact ⟨.nx V1 G1, ⟨r1, m1, rfl, h1, h2⟩, k⟩
  | brk V1 G1 => obtain ⟨r1, m1, e1, h1, h2⟩ := e; rw [e1]; exact ⟨.brk V1 G1, ⟨r1, m1, rfl, h1, h2⟩, k⟩
  | cnt V1 G1 => obtain ⟨r1, m1, e1, h1, h2⟩ := e; rw [e1]; exact ⟨.cnt V1 G1, ⟨r1, m1, rfl, h1, h2⟩, k⟩
  | ret w G1 => obtain ⟨m1, e1, h2⟩ := e; rw [e1]; exact ⟨.ret w G1, ⟨m1, rfl, h2⟩, k⟩
  | exc c fs V1 G1 =>
    obtain ⟨r1, m1, e1, h1, h2⟩ := e
    rw [e1]
    obtain ⟨C, rfl, k⟩ := k
    rcases k with ⟨hh, k⟩ | ⟨hh, hm', k⟩
    · simp only [hh, if_true]
      obtain ⟨a, e, k⟩ := k m0 S _ m1 (h1.set i (.x 0 none fs)) h2
      cases a with
      | nx V1 G1 => obtain ⟨r1, m1, e1, h1, h2⟩ := e; rw [e1]; exact ⟨.nx (V1.set i none) G1, ⟨_, m1, rfl, h1.none1 i, h2⟩, k⟩
      | brk V1 G1 => obtain ⟨r1, m1, e1, h1, h2⟩ := e; rw [e1]; exact ⟨.brk (V1.set i none) G1, ⟨_, m1, rfl, h1.none1 i, h2⟩, k⟩
      | cnt V1 G1 => obtain ⟨r1, m1, e1, h1, h2⟩ := e; rw [e1]; exact ⟨.cnt (V1.set i none) G1, ⟨_, m1, rfl, h1.none1 i, h2⟩, k⟩
      | ret w G1 =>
        obtain ⟨m1, e1, h2⟩ := e
        rw [e1]
        refine ⟨.ret w G1, ⟨m1, ?_, h2⟩, k.2⟩
        cases w with
        | x a d fs => exact absurd rfl (k.1 a d fs)
        | _ => rfl
      | exc _ _ _ _ => exact k.elim
    · simp only [hh, hm', Bool.false_eq_true, if_false, if_true]
      exact ⟨.exc (.ref C) fs V1 G1, ⟨r1, m1, rfl, h1, h2⟩, k⟩
theorem J_xis {b : Bool} {fs : List (Str × D)} (h : V[i]? = some (some (.x 0 none fs))) (k : K (.d (.bool b)) G) : J V G (dXis i 0 none b) K X := fun m0 S r m hv hm => by
  have e := hv.var _ _ h
  refine .inl ⟨.d (.bool b), m, G, ?_, hm, k⟩
  unfold dXis atX
  rw [e]
  simp
theorem J_xf {s : Str} {x : D} {fs : List (Str × D)} (h : V[i]? = some (some (.x 0 none fs))) (hx : fs.lookup s = some x) (k : K (.d x) G) : J V G (dXf i 0 none s) K X := fun m0 S r m hv hm => by
  have e := hv.var _ _ h
  refine .inl ⟨.d x, m, G, ?_, hm, k⟩
  unfold dXf atX
  rw [e]
  simp [hx]
end
section
variable {V : Rho} {G : Sg} {Q : OA → Prop} {s fsu : Fs} {hit miss : List Addr} {i : Nat} {fsn : Addr → Addr → Option Addr → Fs} {c : Value} {fs : List (Str × D)} {I : Rho → Sg → Prop} {w : W}
theorem seqQ_exc (h : Q (.exc c fs V G)) : seqQ s Q (.exc c fs V G) := h
theorem loopQ_exc (h : Q (.exc c fs V G)) : loopQ I Q (.exc c fs V G) := h
theorem xq_is (h : Q (.exc c fs V G)) : xq V Q c fs G := h
theorem tryQ_nx (h : Q (.nx V G)) : tryQ i hit miss fsn Q (.nx V G) := h
theorem tryQ_ret (h : Q (.ret w G)) : tryQ i hit miss fsn Q (.ret w G) := h
theorem tryQ0_nx (h : Q (.nx V G)) : tryQ0 hit miss fsu Q (.nx V G) := h
theorem tryQ0_ret (h : Q (.ret w G)) : tryQ0 hit miss fsu Q (.ret w G) := h
theorem wipeQ_nx (h : Q (.nx (V.set i none) G)) : wipeQ i Q (.nx V G) := h
theorem wipeQ_ret {x : D} (h : Q (.ret (.d x) G)) : wipeQ i Q (.ret (.d x) G) := ⟨fun _ _ _ z => (nomatch z), h⟩
theorem noQ_nx (h : Q (.nx V G)) : noQ Q (.nx V G) := h
theorem noQ_ret (h : Q (.ret w G)) : noQ Q (.ret w G) := h
end
end DL
open DL PySem
local macro_rules
  | `(tactic| sizeOf_list_dec) => `(tactic| with_reducible first | apply JS_raise | apply JS_try0 | apply JS_tryN | apply seqQ_exc | apply loopQ_exc | apply tryQ_nx | apply tryQ_ret | apply tryQ0_nx | apply tryQ0_ret | apply wipeQ_nx | apply wipeQ_ret | apply noQ_nx | apply noQ_ret)
local macro_rules
  | `(tactic| sizeOf_list_dec) => `(tactic| ((with_reducible apply J_xis); exact rfl))

/-! what a law's own text hands to the rules of raise and except -/
namespace DL
open PySem PySem.Spec L2 PyProof.Rows
/-- the j-th statement of a class's body -/
def clsAt : Stmt → Nat → Stmt
  | .ClassDef _ _ _ body _ _ _ _ _ _ _, j => body.getD j (.Pass ⟨0, 0, 0, 0⟩)
  | s, _ => s
theorem oxc_mk {K : PySem.W.Frag} {newId : String} {bt : List Value} {C : Addr} {nm qn : Str} {N : Addr} {bs bm : List Value} {sn : List Str} {sub : List Value} {ab : Bool} {col : Option Bool} {dd : Option Addr} {k0 k1 k2 k3 k5 : Option Value}
    (lk : K.lookup C = some (excClassObj nm qn C N bs bm true sn sub ab col dd k0 k1 k2 k3 k5 newId)) (tl : PySem.W.excTail bt bm = true) (sa : PySem.W.findIn K (.ref C) "__setattr__" = some (some (.builtin "object.__setattr__")))
    (ex : PySem.W.subIn K (.ref C) (.type "BaseException") = some true) (ty : PySem.W.typeIn K (.ref C) = some (.type "type")) (kC : PySem.W.keepIn K (.ref C) = true) : OxC K newId bt C := by
  have hcl : PySem.W.clsIn K C = some { name := nm, bases := bs, mro := .ref C :: bm, ns := N, qualname := qn, hasDict := true, slotNames := sn, subclasses := sub, abstract := ab, collection := col, hasDel := false } := by
    unfold PySem.W.clsIn; rw [lk] <;> rfl
  refine ⟨⟨_, _, _, _, _, _, _, _, _, _, _, _, _, _, _, lk, tl⟩, ?_, sa, ex, ty, kC⟩
  unfold PySem.W.excOver
  rw [hcl]
  show (C == C && PySem.W.excTail bt bm) = true
  rw [tl, beq_self_eq_true]
  rfl
/-- a class that may be asked for -/
structure ClsU (K : PySem.W.Frag) (C : Addr) : Prop where
  hd : PySem.W.hasDictIn K C = true
  ty : PySem.W.typeIn K (.ref C) = some (.type "type")
  ex : PySem.W.subIn K (.ref C) (.type "BaseException") = some true
section
variable {K : PySem.W.Frag} {C D : Addr} {t c : Value} {cs : List Value} {b d : Bool} {T : String}
theorem ClsU.is (u : ClsU K C) : (PySem.W.clsIn K C).isSome = true := by
  obtain ⟨cd, hc, _⟩ := PySem.W.any_some u.hd
  rw [hc]; rfl
theorem kitCls_own (u : ClsU K C) (s : PySem.W.subIn K t (.ref C) = some b) : PySem.W.kitCls K t (.ref C) = some b := by
  show (if ((PySem.W.clsIn K C).isSome && PySem.W.typeIn K (.ref C) == some (.type "type")) = true then PySem.W.subIn K t (.ref C) else none) = some b
  rw [u.is, u.ty, if_pos (by decide), s]
theorem kitOne_own (u : ClsU K C) (s : PySem.W.subIn K t (.ref C) = some b) (h : (t == Value.ref C) = true → b = true) : PySem.W.kitOne K t (.ref C) = some b := by
  unfold PySem.W.kitOne
  by_cases q : (t == Value.ref C) = true
  · rw [if_pos q, h q]
  · rw [if_neg q]; exact kitCls_own u s
theorem kitOne_ty (h : PySem.W.kitMeta T = true) (s : PySem.W.subIn K (.ref D) (.type T) = some b) : PySem.W.kitOne K (.ref D) (.type T) = some b := by
  unfold PySem.W.kitOne
  rw [if_neg (show ¬ ((Value.ref D == Value.type T) = true) from fun z => by cases (beq_iff_eq.mp z))]
  show (if PySem.W.kitMeta T = true then PySem.W.subIn K (.ref D) (.type T) else none) = some b
  rw [if_pos h, s]
theorem exmOne_own (u : ClsU K C) (s : PySem.W.subIn K t (.ref C) = some b) : PySem.W.exmOne K t (.ref C) = some b := by
  unfold PySem.W.exmOne
  rw [u.ex, if_pos (by decide)]
  exact kitCls_own u s
theorem exm_nil : PySem.W.exmAny K t [] = some false := rfl
theorem exm_cons (h : PySem.W.exmOne K t c = some b) (h2 : PySem.W.exmAny K t cs = some d) : PySem.W.exmAny K t (c :: cs) = some (b || d) := by
  unfold PySem.W.exmAny
  rw [h, h2]
theorem kit_no (h : PySem.W.kitOne K t c = some false) (h2 : PySem.W.kitAny K t cs = some b) : PySem.W.kitAny K t (c :: cs) = some b := kitAny_cons h (fun _ => h2) fun z => nomatch z
theorem kit_yes (h : PySem.W.kitOne K t c = some true) : PySem.W.kitAny K t (c :: cs) = some true := kitAny_cons h (fun z => nomatch z) fun _ => rfl
theorem kit_end : PySem.W.kitAny K t [] = some false := rfl
theorem exk_mk (u : ClsU K C) (h1 : PySem.W.findIn K (.ref C) "__getattribute__" = some (some (.builtin "BaseException.__getattribute__"))) (h2 : PySem.W.findIn K (.ref C) "__getattr__" = some none) (h3 : PySem.W.findIn K (.ref C) "__class__" = some (some (.builtin "object.__class__")))
    (h4 : PySem.W.specialIn K (.builtin "object.__class__") "__get__" = some (some (.builtin "getset_descriptor.__get__"))) (h5 : PySem.W.takesIn K (.builtin "object.__class__") = some true) (h6 : PySem.W.mroIn K C (.type "object") = some true) : ExK K C := ⟨u.is, h1, h2, u.ex, u.hd, h3, h4, h5, h6⟩
end
theorem ExK.xf {K : PySem.W.Frag} {C : Addr} (h : ExK K C) : XfC K C := ⟨h.hg, h.hk, h.hs, h.hd⟩
/-- a class that may be raised, ready -/
structure RzOk (P : Program) (w : World) (K : PySem.W.Frag) (mg : Str → Option Value) (base : Heap) (x : Str) (newId : String) (bt : List Value) (C : Addr) (ns : List Str) : Prop where
  m : mg x = some (.ref C)
  T : OxC K newId bt C
  ex : ∃ f fd, PySem.W.findIn K (.ref C) "__init__" = some (some (.ref f)) ∧ PySem.W.typeIn K (.ref f) = some (.type "function") ∧ FnOk P w K mg base CX0 1 f fd ("self" :: ns) (spI newId bt C ns) ∧ Binds K fd ("self" :: ns) []
section
variable {X : Cx} {Wx : WX} {e : Expr} {es : List Expr} {x : Str} {p pos pos' : Pos} {fa : Fa} {B newId initId : String} {bt : List Value} {C : Addr} {ns : List Str}
theorem ds_raiseR (Y : OxB B newId initId bt) (R : RzOk X.prog X.w X.K X.mg X.base x newId bt C ns) (hr : Room 2 X.A) (hc : X.calm = true) (tk : Takes X Wx) (hg : Gl X x) (ha : DA X Wx (e :: es) fa)
    (hdb : (x == ("__debug__" : Str)) = false := by decide) (he : starEach (e :: es) X.env = (false, eval e X.env) :: starEach es X.env := by rfl) (hpl : (backTo pos (starEach es X.env)).any (·.1) = false := by rfl) :
    DS X Wx (.Raise (some (.Call (.Name x p) (e :: es) [] pos)) none pos') (sRz C ns fa) := by
  obtain ⟨f, fd, h1, h2, h3, h4⟩ := R.ex
  exact ds_raise Y R.T h1 h2 h3 hr h4 pass0 hc tk hg R.m ha hdb he hpl
theorem names_own {c : Addr} (hg : Gl X x) (hm : X.mg x = some (.ref c)) (hdb : (x == ("__debug__" : Str)) = false := by decide) : Names X x (.ref c) := ⟨hg, hdb, .inl hm⟩
end
end DL

/-! y = {k: v for ..}, where the comprehension's names are the def's, too -/
namespace DL
open PySem PySem.Spec L2 PyProof.Rows
section
variable {X : Cx} {i : Nat} {y : Str} {py spos : Pos} {kx vx tg iter : Expr} {ifs : List Expr} {scope : Scope} {pos : Pos}
theorem sw_dict {l : Nat} {env : Env} (hk : env.scope.kind = .function) (hy : env.scope.names.lookup y = some .local) (hl : (py.line == pos.line) = true) (ha : (scope.names.any fun (n, k) => n == y && (k == .local || k == .cell)) = false) : swapsWith (.DictComp kx vx [⟨tg, iter, ifs, 0⟩] scope pos) (some (.Name y py)) l env = pure true := by
  have k1 : env.kindOf y = some .local := hy
  have k2 : env.blockKind = .function := by unfold Env.blockKind; rw [hk]; rfl
  unfold swapsWith
  simp only [k1, k2, ha, Expr.pos, hl]
  rfl
theorem ps_setDc {own : List (Str × Nat)} {wi : TI} {g : TG} {tt : TT} {tk tv : TE} (hc : X.calm = true) (hN : X.N.Nodup) (hy : X.N[i]? = some y) (hyl : X.env.scope.names.lookup y = some .local) (hsw : swapsWith (.DictComp kx vx [⟨tg, iter, ifs, 0⟩] scope pos) (some (.Name y py)) spos.line X.env = pure true) (hi : PI X tg iter wi) (ok : BlkOk X.N X.env.scope scope own)
    (hg : ∀ (s : Shared) (H : Hp) (C : Addr) (cl : List (Str × Addr)) (fp : List Addr), PG (X.blk s H scope (compEnvC scope cl C X.env) fp) tg g) (ht : ∀ (s : Shared) (H : Hp) (C : Addr) (cl : List (Str × Addr)) (fp : List Addr), PTs (X.blk s H scope (compEnvC scope cl C X.env) fp) ifs tt)
    (hk : ∀ (s : Shared) (H : Hp) (C : Addr) (cl : List (Str × Addr)) (fp : List Addr), PE (X.blk s H scope (compEnvC scope cl C X.env) fp) kx tk) (he : ∀ (s : Shared) (H : Hp) (C : Addr) (cl : List (Str × Addr)) (fp : List Addr), PE (X.blk s H scope (compEnvC scope cl C X.env) fp) vx tv) (hs : ∀ x, foldedSetIterable iter X.env x = pure x := by intro _; rfl) :
    PS X (.Assign [.Name y py] (.DictComp kx vx [⟨tg, iter, ifs, 0⟩] scope pos) spos) (tAsg (tDc wi g tt tk tv (own.map (·.2))) (gName i)) := by
  refine ⟨fun pins s σ H D I h => ?_⟩
  rw [exec_Assign_Name_used _ _ _ _ hsw]
  refine wpAny_bind (wpAny_standAt (wpAny_bind ?_))
  show wpAny _ X.A (do let _ ← comprehension (.DictComp kx vx [⟨tg, iter, ifs, 0⟩] scope pos) scope X.env (firstIterPos [⟨tg, iter, ifs, 0⟩] pos) newDict false (eval iter X.env) (some (assign (.Name y py) X.env))) _ _ s
  have h : tDc wi g tt tk tv (own.map (·.2)) σ H (fun x H1 => gName i x σ H1 D.nx) := h
  refine wpAny_bind (thn (dc_core (Qf := fun _ s' => SP X pins D .next s') hc hN I hi ok hg ht hk he hs h fun L C s' m H' I' q hn fr => ?_) fun _ s' hq => wpAny_pure (wpAny_pure hq))
  show wpAny _ _ (assign (.Name y py) X.env (.ref L)) _ _ _
  refine wpAny_assign_Name (store_ok2 (v := V.ref L) I' hN hy (.inl hyl) rfl (fun s2 I2 hh => ?_) (.inr hyl))
  obtain ⟨a, sb, ha⟩ := hh
  obtain ⟨f0, f1, f2, f3, f4, f5⟩ := fr
  have haC : C ≠ a := ha.elim (fun z => by rw [z]; exact f1) fun z e => f4 y a z e.symm
  exact ⟨m, hn.sameBut sb haC, fun h3 sb3 => ⟨_, H', I2.turned (t' := s2.toks) (fun b o hb e => (sb3.2 b hb).trans e) f0 f1 f3 f4 f5, q⟩⟩
theorem ds_dcX {Wx : WX} {f : Fi} {g : Fg} {ft : Ft} {fk fe : Fe} {vs : List Nat} (own : List (Str × Nat)) (sl : List Nat) (hc : X.calm = true) (hN : X.N.Nodup) (hvs : own.map (·.2) = vs) (hsl : ∀ i ∈ sl, i ∈ vs)
    (ok : BlkOk X.N X.env.scope scope own) (hs : ∀ x, foldedSetIterable iter X.env x = pure x) (hy : X.N[i]? = some y) (hyl : X.env.scope.names.lookup y = some .local) (hsw : swapsWith (.DictComp kx vx [⟨tg, iter, ifs, 0⟩] scope pos) (some (.Name y py)) spos.line X.env = pure true)
    (hi : DI X Wx tg iter f) (hg : ∀ (s : Shared) (H : Hp) (C : Addr) (cl : List (Str × Addr)) (fp : List Addr), DG (X.blk s H scope (compEnvC scope cl C X.env) fp) sl tg g)
    (ht : ∀ (s : Shared) (H : Hp) (C : Addr) (cl : List (Str × Addr)) (fp : List Addr), PTs (X.blk s H scope (compEnvC scope cl C X.env) fp) ifs (LT X.K W0 ft)) (hk : ∀ (s : Shared) (H : Hp) (C : Addr) (cl : List (Str × Addr)) (fp : List Addr), DE (X.blk s H scope (compEnvC scope cl C X.env) fp) W0 kx fk)
    (he : ∀ (s : Shared) (H : Hp) (C : Addr) (cl : List (Str × Addr)) (fp : List Addr), DE (X.blk s H scope (compEnvC scope cl C X.env) fp) W0 vx fe) :
    DS X Wx (.Assign [.Name y py] (.DictComp kx vx [⟨tg, iter, ifs, 0⟩] scope pos) spos) (sAsg (dDc f g ft fk fe vs) (gN i)) := by
  subst hvs
  exact ds_set (ps_weak (ps_setDc hc hN hy hyl hsw hi ok hg ht hk he hs) fun D s H q => dc_w hsl q)
end
end DL

/-! t.index(x) of a tuple of any data; min, max of two whole numbers -/
namespace DL
open PySem PySem.Spec PyProof.Rows L2
def rIndexTD (K : PySem.W.Frag) : V → List V → Hp → VK → Prop := fun x xs H Q => ∃ (a : Addr) (y : V) (d : PyData) (ds : List PyData) (j : Nat) (z : PyData), x = V.ref a ∧ xs = [y] ∧ Dp K H (V.ref a) (.tuple ds) ∧ Dp K H y d ∧
  SeqAt.shaped (.tuple ds) = true ∧ SeqAt.shaped d = true ∧ ds[j]? = some z ∧ PyData.eqv z d = true ∧ (∀ (m : Nat) (z' : PyData), m < j → ds[m]? = some z' → PyData.eqv z' d = false) ∧ Q (.int (j : Nat)) H
theorem mt_indexTD {X : Cx} (hu : X.A.units + 65 < cLine) : MtR X "tuple.index" (rIndexTD X.K) := by
  intro pins s σ H x xs v us Q I rx rxs h
  obtain ⟨a, y, d, ds, j, z, rfl, rfl, hl, hy, sl, sd, hz, hzj, hno, q⟩ := h
  cases rx
  cases rxs with
  | cons ry rt =>
    rename_i uy ut
    cases rt
    obtain ⟨bs, r1⟩ := Dp.reads I d y uy hy ry
    have hxs : PyData.canLayAll0 ds = true := SeqAt.canLay_of_shaped sl
    have hroom : X.A.units + 1 + min (PyData.depthAll ds) d.depth < cLine := room_in_shaped sd hu
    cases hl with
    | tup hs ha =>
      obtain ⟨its, rv, ⟨⟨cls, dd, dt, sls⟩, ho, hc, n, hd⟩, hlen⟩ := I.tuple hs
      simp only at hc hd
      subst hc hd
      obtain ⟨as, h4⟩ := Dp.readsAll I ds _ its ha rv
      have hn : its.length = ds.length := SeqAt.ReadsAll.length ds its as h4
      have hmap : its.map (SeqAt.readOf s.heap) = ds := SeqAt.readsAll_map ds its as hxs h4
      obtain ⟨hjd, _⟩ := List.getElem?_eq_some_iff.mp hz
      have hjl : j < its.length := by omega
      have hj : j < its.toArray.size := by simpa using hjl
      have at_ : ∀ (m : Nat) (hm : m < its.toArray.size) (z' : PyData), ds[m]? = some z' → SeqAt.readOf s.heap its.toArray[m] = z' := by
        intro m hm z' hz'
        have hml : m < its.length := by simpa using hm
        rw [← hmap, List.getElem?_map, List.getElem?_eq_getElem hml] at hz'
        have e1 : SeqAt.readOf s.heap its[m] = z' := Option.some.inj (show some (SeqAt.readOf s.heap its[m]) = some z' from hz')
        simpa using e1
      refine call_meets PySem.F.slot_tuple_index ⟨_, ho, rfl⟩ PySem.F.entry_tuple_index (PySem.F.args_tuple_index_2 _ _)
        (TI.tuple_indexAt a its.toArray n dd sls uy (fun u => PyData.eqv (SeqAt.readOf s.heap u) d) j hj ?_ ?_) ⟨ho, SeqAt.items_eqAt (vs := its.toArray) (show ReadsAll s.heap its.toArray.toList ds as from h4) r1 hxs (SeqAt.canLay_of_shaped sd) hroom, ?_⟩
      · show PyData.eqv (SeqAt.readOf s.heap its.toArray[j]) d = true
        rw [at_ j hj z hz]
        exact hzj
      · intro m hm hmj
        have hmd : m < ds.length := by omega
        have hz' : ds[m]? = some ds[m] := List.getElem?_eq_getElem hmd
        show PyData.eqv (SeqAt.readOf s.heap its.toArray[m]) d = false
        rw [at_ m hm _ hz']
        exact hno m _ hmj hz'
      · exact ⟨.int (j : Nat), H, I.tok _, ⟨_, rfl⟩, q⟩
def gIndexT (o : W) : List W → Sto → Option W
  | [y], m => match o, datOf y m with
    | .d (.tuple ds), some d => if SeqAt.shaped (.tuple ds) && SeqAt.shaped d then (ds.findIdx? fun z => PyData.eqv z d).map fun j => .d (.int (j : Nat)) else none
    | _, _ => none
  | _, _ => none
theorem md_indexT {K : PySem.W.Frag} : MtRd K (rIndexTD K) gIndexT := by
  intro o ws z u vs ad m F H Q r1 r2 hA e q
  unfold gIndexT at e
  split at e
  · rename_i y m0
    obtain ⟨v, rfl, ry⟩ := r2.one
    split at e
    · rename_i ds d h2
      split at e
      · rename_i hs
        have hs := Bool.and_eq_true_iff.mp hs
        have hd := hA.dp r1 (rfl : datOf (.d (.tuple ds)) m = some (.tuple ds))
        obtain ⟨a, rfl⟩ : ∃ a, u = V.ref a := by
          cases hd with
          | tup _ _ => exact ⟨_, rfl⟩
        obtain ⟨j, hj, rfl⟩ := Option.map_eq_some_iff.mp e
        obtain ⟨hl, k1, k2⟩ := List.findIdx?_eq_some_iff_getElem.mp hj
        refine ⟨a, v, d, ds, j, ds[j], rfl, rfl, hd, hA.dp ry h2, hs.1, hs.2, List.getElem?_eq_getElem hl, k1, fun i z' hi hz => ?_, q _ F H Ext.refl hA (.int _)⟩
        obtain ⟨hil, ez⟩ := List.getElem?_eq_some_iff.mp hz
        have := k2 i hi
        rw [ez] at this
        simpa using this
      · cases e
    · cases e
  · cases e
/-! ### min, max of two whole numbers -/
def gMin2I : List W → Sto → Option W
  | [.d (.int a), .d (.int b)], _ => some (.d (.int (if b < a then b else a)))
  | _, _ => none
def gMax2I : List W → Sto → Option W
  | [.d (.int a), .d (.int b)], _ => some (.d (.int (if b > a then b else a)))
  | _, _ => none
theorem cd_min2I {K : PySem.W.Frag} : CallD K (fun xs H Q => ∃ i j, xs = [.int i, .int j] ∧ Q (.int (if j < i then j else i)) H) gMin2I := by
  intro ws z vs ad m F H Q r ha e q
  unfold gMin2I at e
  split at e
  · cases e
    cases r with
    | cons r1 rr =>
      cases rr with
      | cons r2 rr =>
        cases rr
        cases r1
        cases r2
        exact ⟨_, _, rfl, q _ F H Ext.refl ha (.int _)⟩
  · cases e
theorem cd_max2I {K : PySem.W.Frag} : CallD K (fun xs H Q => ∃ i j, xs = [.int i, .int j] ∧ Q (.int (if j > i then j else i)) H) gMax2I := by
  intro ws z vs ad m F H Q r ha e q
  unfold gMax2I at e
  split at e
  · cases e
    cases r with
    | cons r1 rr =>
      cases rr with
      | cons r2 rr =>
        cases rr
        cases r1
        cases r2
        exact ⟨_, _, rfl, q _ F H Ext.refl ha (.int _)⟩
  · cases e
section
variable {G : Sg} {K : W → Prop}
theorem JO_indexT {xs : List D} {d : D} {j : Nat} (h1 : SeqAt.shaped (.tuple xs) = true) (h2 : SeqAt.shaped d = true) (e : (xs.findIdx? fun z => PyData.eqv z d) = some j) (k : K (.d (.int (j : Nat)))) : JO G (gIndexT (.d (.tuple xs)) [.d d]) K :=
  JO_pure (fun m => by simp only [gIndexT, dat_d, h1, h2, Bool.and_self, if_true, e, Option.map_some]) k
theorem JO_min2I {a b : Int} (k : K (.d (.int (if b < a then b else a)))) : JO G (gMin2I [.d (.int a), .d (.int b)]) K := JO_pure (fun m => rfl) k
theorem JO_max2I {a b : Int} (k : K (.d (.int (if b > a then b else a)))) : JO G (gMax2I [.d (.int a), .d (.int b)]) K := JO_pure (fun m => rfl) k
end
end DL

/-! [e for .. in .. if .. for .. in .. if ..] -/
namespace DL
open PySem L2
theorem walk_it {J : It} {n : Nat} {Gd : Hp → Prop} {Y : Nat → Hp → V → Hp → Prop} (w : Walk J n Gd Y) {Qd : Hp → Prop} {H0 : Hp} (Pv : Nat → Hp → Prop) (B : (Hp → Prop) → V → Hp → Prop) (h0 : Pv 0 H0) (hG : ∀ i H, i ≤ n → Pv i H → Gd H)
    (hs : ∀ i x H H', i < n → Pv i H → Y i H x H' → B (Pv (i + 1)) x H') (hd : ∀ H, Pv n H → Qd H) :
    ∃ W : Nat → Nat → Hp → Prop, (∃ m, W 0 m H0) ∧ ∀ i m H, W i m H →
      (J.stop i H ∧ Qd H) ∨ (J.go i H ∧ ∃ Nx : Hp → Prop, (∀ H', Nx H' → ∃ m', m' < m ∧ W (i + 1) m' H') ∧ ∀ x H', J.yld i H x H' → B Nx x H') := by
  refine ⟨fun i m H => m = n - i ∧ i ≤ n ∧ Pv i H, ⟨n, by simp, Nat.zero_le _, h0⟩, ?_⟩
  rintro i m H ⟨rfl, hi, p⟩
  have q := hG i H hi p
  rcases Nat.lt_or_eq_of_le hi with hlt | rfl
  · exact .inr ⟨w.goes i H hlt q, Pv (i + 1), fun H' p' => ⟨n - (i + 1), by omega, rfl, hlt, p'⟩, fun x H' y => hs i x H H' hlt p (w.yields i H x H' hlt q y)⟩
  · exact .inl ⟨w.stops H q, hd H p⟩
abbrev noH : Hp := fun _ => none
/-- a source that stands whatever else is written -/
def LI0 (K : PySem.W.Frag) (Wx : WX) (f : Fi) : TI := fun s H R => ∃ r ad m F, EnvOk K ad F r s ∧ At K ad m F H ∧ Post K ad F H (f r m) (fun src _ ad' F' H' => ∀ J, SrcOk K src ad' F' noH J → R J H') (XP K Wx s)
abbrev DI0 (X : Cx) (Wx : WX) (tg e : Expr) (f : Fi) : Prop := PI X tg e (LI0 X.K Wx f)
theorem lst_stays0 {K : PySem.W.Frag} {w : W} {v : V} {ad : List Addr} {m : Sto} {F H : Hp} {xs : List D} (r : RW K ad F w v) (hA : At K ad m F H) (e : lstOf w m = some xs) :
    ∃ a vs, v = .ref a ∧ RpA K F vs xs ∧ (∀ ad2 F2 H2 m2, Ext ad F noH ad2 F2 H2 → At K ad2 m2 F2 H2 → grd (gsOf w xs) m2 → ∃ ws, SqL K H2 a ws ∧ RpA K F2 ws xs) ∧ SqL K H a vs := by
  obtain ⟨a, vs, rfl, q1, s1⟩ := hA.lst r e
  refine ⟨a, vs, rfl, s1, fun ad2 F2 H2 m2 x h2 g => ?_, q1⟩
  have r2 : RW K ad2 F2 w (.ref a) := r.ext x
  have e2 : lstOf w m2 = some xs := by
    cases w with
    | c i => exact g (i, xs) (by simp [gsOf])
    | d y => cases y <;> first | exact e | cases e
    | k y => exact e
    | x _ _ _ => cases e
  obtain ⟨b, ws, eb, q2, s2⟩ := h2.lst r2 e2
  cases eb
  exact ⟨ws, q2, s2⟩
section
variable {X : Cx} {Wx : WX} {tg e : Expr} {f : Fe}
theorem di0_seq (h : DE X Wx e f) : DI0 X Wx tg e (iSeq f) := pi_weak (pi_list h) fun s H R q => by
  obtain ⟨r, ad, m, F, he, hA, hp⟩ := q
  refine ⟨_, _, _, _, he, hA, Post.mono (Post.bind hp) (fun w m1 ad1 F1 H1 e1 ha1 q0 v rw1 => ?_) fun _ _ _ _ _ _ _ _ z => z⟩
  obtain ⟨_, _, h1⟩ := q0
  cases e : lstOf w m1 with
  | none => simp only [e] at h1; exact h1.elim
  | some xs =>
    simp only [e] at h1
    obtain ⟨a, vs, rfl, s1, st, q1⟩ := lst_stays0 rw1 ha1 e
    refine ⟨a, rfl, ⟨vs, q1⟩, h1 ad1 F1 H1 Ext.refl ha1 _ ?_⟩
    refine ⟨fun H2 => ∃ ws, SqL X.K H2 a ws ∧ ws.length = xs.length, fun i H2 x H3 => H3 = H2 ∧ ∀ ws, SqL X.K H2 a ws → ws[i]? = some x, ⟨fun i H2 hi g => ?_, fun H2 g => ?_, fun i H2 x H3 hi g y => ?_⟩, fun ad2 F2 H2 m2 x h2 g => ?_, fun i ad2 F2 H2 m2 x H3 hi ex h2 g y => ?_⟩
    · obtain ⟨ws, g1, g2⟩ := g
      have hi' : i < ws.length := by rw [g2]; exact hi
      exact ⟨ws, ws[i], g1, List.getElem?_eq_getElem hi'⟩
    · obtain ⟨ws, g1, g2⟩ := g
      exact ⟨ws, g1, by rw [g2]; exact Nat.le_refl _⟩
    · exact y
    · obtain ⟨ws, g1, g2⟩ := st ad2 F2 H2 m2 x h2 g
      exact ⟨ws, g1, g2.len⟩
    · obtain ⟨rfl, y⟩ := y
      obtain ⟨ws, g1, g2⟩ := st ad2 F2 H3 m2 ex h2 g
      obtain ⟨v', b1, b2⟩ := g2.get (List.getElem?_eq_getElem hi)
      have := y ws g1
      rw [b1] at this
      cases this
      exact ⟨F2, xs[i], List.getElem?_eq_getElem hi, Ext.refl, h2, b2⟩
theorem di0_tup (h : DE X Wx e f) : DI0 X Wx tg e (iTupD f) := pi_weak (pi_tup h) fun s H R q => by
  obtain ⟨r, ad, m, F, he, hA, hp⟩ := q
  refine ⟨_, _, _, _, he, hA, Post.mono (Post.bind hp) (fun w m1 ad1 F1 H1 e1 ha1 q0 v rw1 => ?_) fun _ _ _ _ _ _ _ _ z => z⟩
  obtain ⟨_, _, h1⟩ := q0
  cases w with
  | c _ => exact h1.elim
  | k _ => exact h1.elim
  | x _ _ _ => exact h1.elim
  | d y =>
    cases y with
    | tuple xs =>
      cases rw1 with
      | tup q1 s1 =>
        rename_i a vs
        refine ⟨a, rfl, ⟨vs, ha1.le.sqT q1⟩, h1 ad1 F1 H1 Ext.refl ha1 _ ?_⟩
        refine ⟨fun H2 => SqT X.K H2 a vs, YAt vs, by rw [← s1.len]; exact walk_tup, fun ad2 F2 H2 m2 x h2 g => h2.le.sqT (x.fle.sqT q1), fun i ad2 F2 H2 m2 x H3 hi ex h2 g y => ?_⟩
        obtain ⟨rfl, y⟩ := y
        obtain ⟨v', b1, b2⟩ := (s1.mono ex.fle).get (List.getElem?_eq_getElem hi)
        rw [b1] at y
        cases y
        exact ⟨F2, xs[i], List.getElem?_eq_getElem hi, Ext.refl, h2, b2⟩
    | none => exact h1.elim
    | bool _ => exact h1.elim
    | int _ => exact h1.elim
    | str _ => exact h1.elim
    | list _ => exact h1.elim
    | dict _ => exact h1.elim
end
open Classical in
noncomputable def lcL2 (gs : List (Nat × List D)) (tg : Fg) (tt : Ft) (f1 : Fi) (tg1 : Fg) (tt1 : Ft) (te : Fe) (vs1 : List Nat) (r : Rho) : List D → List D → Sto → Out (List D)
  | [], acc, m => if grd gs m then .ok acc m else .bad
  | x :: xs, acc, m => if grd gs m then match tg (.d x) r m with
    | some (r1, m1) => match tt r1 m1 with
      | .ok true m2 => match f1 r1 m2 with
        | .ok s m3 => match lcL s.gs tg1 tt1 te (wipeR r1 vs1) s.items acc m3 with
          | .ok acc' m4 => lcL2 gs tg tt f1 tg1 tt1 te vs1 r xs acc' m4
          | _ => .bad
        | _ => .bad
      | .ok false m2 => lcL2 gs tg tt f1 tg1 tt1 te vs1 r xs acc m2
      | _ => .bad
    | none => .bad
    else .bad
noncomputable def dLc2 (f : Fi) (tg : Fg) (tt : Ft) (f1 : Fi) (tg1 : Fg) (tt1 : Ft) (te : Fe) (vs vs1 : List Nat) : Fl := fun r m => (f r m).bind fun s m1 => lcL2 s.gs tg tt f1 tg1 tt1 te vs1 (wipeR r vs) s.items [] m1
theorem lcL2_grd {gs : List (Nat × List D)} {tg : Fg} {tt : Ft} {f1 : Fi} {tg1 : Fg} {tt1 : Ft} {te : Fe} {vs1 : List Nat} {r : Rho} {xs acc : List D} {m : Sto} (h : ¬ grd gs m) : lcL2 gs tg tt f1 tg1 tt1 te vs1 r xs acc m = .bad := by
  cases xs <;> simp [lcL2, h]
def thenL (o : Out (List D)) (k : List D → Sto → Out (List D)) : Out (List D) := match o with
  | .ok acc m => k acc m
  | _ => .bad
section
variable {X : Cx} {Wx : WX} {f f1 : Fi} {g g1 : Fg} {ft ft1 : Ft} {fe : Fe} {sl sl1 vs vs1 : List Nat}
theorem lc2_w (hsl : ∀ i ∈ sl, i ∈ vs) (hsl1 : ∀ i ∈ sl1, i ∈ vs1) {s : St} {H : Hp} {Q : VK} (q : LF X.K Wx (dLc2 f g ft f1 g1 ft1 fe vs vs1) s H Q) :
    tLc2 (LI X.K Wx f) (LG X.K sl g) (LT X.K W0 ft) (LI0 X.K W0 f1) (LG X.K sl1 g1) (LT X.K W0 ft1) (LE X.K W0 fe) vs vs1 s H Q := by
  obtain ⟨r, ad, m, F, he, hA, hp⟩ := q
  refine ⟨r, ad, m, F, he, hA, Post.mono (Post.bind hp) (fun src m1 ad1 F1 H1 e1 ha1 q0 J hJ Dn hD => ?_) fun _ _ _ _ _ _ _ _ z => z⟩
  obtain ⟨_, _, h1⟩ := q0
  obtain ⟨Gs, Y, wk, hG, hY⟩ := hJ
  obtain ⟨nD, fD⟩ := ha1.out hD
  have he1 := (he.ext e1).wipe vs
  refine walk_it wk (fun i H2 => ∃ ad2 m2 F2 acc ws, Ext ad1 F1 H1 ad2 F2 H2 ∧ At X.K ad2 m2 F2 H2 ∧ H2 Dn = some (.lst ws) ∧ F2 Dn = none ∧ Dn ∉ ad2 ∧ RpA X.K F2 ws acc ∧
      Post X.K ad1 F1 H1 (lcL2 src.gs g ft f1 g1 ft1 fe vs1 (wipeR r vs) (src.items.drop i) acc m2) (fun xs _ ad' F' H' => ∀ p vs, H p = none → H' p = some (.lst vs) → F' p = none → p ∉ ad' → RpA X.K F' vs xs → Q (.ref p) H') (XP X.K Wx s)) _
    ⟨ad1, m1, F1, [], [], Ext.refl.side hD, (ha1.side fD nD), upd_same, fD, nD, .nil, h1⟩ (fun i H2 hi p => ?_) (fun i x H2 H3 hi p y => ?_) fun H2 p => ?_
  · obtain ⟨ad2, m2, F2, acc, ws, x2, ha2, _, _, _, _, hp2⟩ := p
    by_cases hgd : grd src.gs m2
    · exact hG ad2 F2 H2 m2 x2 ha2 hgd
    · rw [lcL2_grd hgd] at hp2; exact hp2.elim
  · obtain ⟨ad2, m2, F2, acc, ws, x2, ha2, d1, d2, d3, d4, hp2⟩ := p
    by_cases hgd : grd src.gs m2
    · obtain ⟨F3, d, hd, x3, ha3, rp⟩ := hY i ad2 F2 H2 m2 x H3 hi x2 ha2 hgd y
      have e := List.drop_eq_getElem_cons hi
      rw [List.getElem?_eq_getElem hi] at hd
      cases hd
      rw [e] at hp2
      unfold lcL2 at hp2
      rw [if_pos hgd] at hp2
      have xx3 := x2.trans x3
      obtain ⟨d1', d3'⟩ := x3.keep (K := X.K) (m := m2) d1 d3
      have d2' := x3.gn _ _ d2 d1 d3
      refine ⟨.d src.items[i], wipeR r vs, ad2, m2, F3, rp, (he1.ext xx3), ha3, ?_⟩
      cases et : g (.d src.items[i]) (wipeR r vs) m2 with
      | none => rw [et] at hp2; exact hp2
      | some p =>
        obtain ⟨r4, m4⟩ := p
        rw [et] at hp2
        dsimp only at hp2 ⊢
        refine fun s' ad4 F4 H4 y1 y2 y3 y4 y5 => ⟨wipe_eq hsl (by rw [y4, wipe_length]) y5, ?_⟩
        have xx4 := xx3.trans y1
        obtain ⟨d1'', d3''⟩ := y1.keep (K := X.K) (m := m2) d1' d3'
        have d2'' := y1.gn _ _ d2' d1' d3'
        have d4'' := (d4.mono x3.fle).mono y1.fle
        refine ⟨r4, ad4, m4, F4, y3, y2, ?_⟩
        cases eb : ft r4 m4 with
        | bad => rw [eb] at hp2; exact hp2
        | exc c fs m5 => rw [eb] at hp2; exact hp2.elim
        | ok b m5 =>
          rw [eb] at hp2
          refine fun ad5 F5 H5 z1 z2 b' hb' => ?_
          subst hb'
          have xx5 := xx4.trans z1
          obtain ⟨c1, c3⟩ := z1.keep (K := X.K) (m := m2) d1'' d3''
          have c2 := z1.gn _ _ d2'' d1'' d3''
          cases b with
          | false => exact iteF ⟨ad5, m5, F5, acc, ws, xx5, z2, c1, c2, c3, d4''.mono z1.fle, hp2⟩
          | true =>
            dsimp only at hp2
            refine iteT ⟨r4, ad5, m5, F5, y3.ext z1, z2, ?_⟩
            cases ei : f1 r4 m5 with
            | bad => rw [ei] at hp2; exact hp2
            | exc c fs m6 => rw [ei] at hp2; exact hp2.elim
            | ok s1 m6 =>
              rw [ei] at hp2
              dsimp only at hp2
              refine fun ad6 F6 H6 u1 u2 J1 hJ1 => ?_
              obtain ⟨G1, Y1, wk1, hG1, hY1⟩ := hJ1
              have xx6 := xx5.trans u1
              obtain ⟨b1, b3⟩ := u1.keep (K := X.K) (m := m2) c1 c3
              have b2 := u1.gn _ _ c2 c1 c3
              have he6 := ((y3.ext z1).ext u1).wipe vs1
              have hp3 : Post X.K ad1 F1 H1 (thenL (lcL s1.gs g1 ft1 fe (wipeR r4 vs1) s1.items acc m6) fun acc' m' => lcL2 src.gs g ft f1 g1 ft1 fe vs1 (wipeR r vs) (src.items.drop (i + 1)) acc' m') (fun xs _ ad' F' H' => ∀ p vs, H p = none → H' p = some (.lst vs) → F' p = none → p ∉ ad' → RpA X.K F' vs xs → Q (.ref p) H') (XP X.K Wx s) := by
                unfold thenL
                cases el : lcL s1.gs g1 ft1 fe (wipeR r4 vs1) s1.items acc m6 with
                | ok acc' m' => rw [el] at hp2; exact hp2
                | exc _ _ _ => rw [el] at hp2; exact hp2
                | bad => rw [el] at hp2; exact hp2
              refine walk_it wk1 (fun j H2 => ∃ ad2 m2 F2 acc ws, Ext ad1 F1 H1 ad2 F2 H2 ∧ Ext ad6 F6 noH ad2 F2 H2 ∧ At X.K ad2 m2 F2 H2 ∧ H2 Dn = some (.lst ws) ∧ F2 Dn = none ∧ Dn ∉ ad2 ∧ RpA X.K F2 ws acc ∧
                  Post X.K ad1 F1 H1 (thenL (lcL s1.gs g1 ft1 fe (wipeR r4 vs1) (s1.items.drop j) acc m2) fun acc' m' => lcL2 src.gs g ft f1 g1 ft1 fe vs1 (wipeR r vs) (src.items.drop (i + 1)) acc' m') (fun xs _ ad' F' H' => ∀ p vs, H p = none → H' p = some (.lst vs) → F' p = none → p ∉ ad' → RpA X.K F' vs xs → Q (.ref p) H') (XP X.K Wx s)) _
                ⟨ad6, m6, F6, acc, ws, xx6, ⟨⟨[], by simp⟩, Ord.refl _, (fun _ _ h => nomatch h), (fun _ _ _ => rfl), (fun _ _ _ h => nomatch h)⟩, u2, b1, b2, b3, (d4''.mono z1.fle).mono u1.fle, hp3⟩ (fun j H7 hj p => ?_) (fun j x7 H7 H8 hj p y7 => ?_) fun H7 p => ?_
              · obtain ⟨ad7, m7, F7, acc7, ws7, _, x7, ha7, _, _, _, _, hp7⟩ := p
                by_cases hgd7 : grd s1.gs m7
                · exact hG1 ad7 F7 H7 m7 x7 ha7 hgd7
                · rw [lcL_grd hgd7] at hp7; exact hp7.elim
              · obtain ⟨ad7, m7, F7, acc7, ws7, w7, x7', ha7, e71, e72, e73, e74, hp7⟩ := p
                by_cases hgd7 : grd s1.gs m7
                · obtain ⟨F8, d8, hd8, x8, ha8, rp8⟩ := hY1 j ad7 F7 H7 m7 x7 H8 hj x7' ha7 hgd7 y7
                  have e8 := List.drop_eq_getElem_cons hj
                  rw [List.getElem?_eq_getElem hj] at hd8
                  cases hd8
                  rw [e8] at hp7
                  unfold lcL at hp7
                  rw [if_pos hgd7] at hp7
                  have w8 := w7.trans x8
                  have x8' : Ext ad6 F6 noH ad7 F8 H8 := ⟨x7'.pre, x7'.fle.trans x8.fle, (fun _ _ h => nomatch h), (fun _ _ _ => rfl), (fun _ _ _ h => nomatch h)⟩
                  obtain ⟨e81, e83⟩ := x8.keep (K := X.K) (m := m7) e71 e73
                  have e82 := x8.gn _ _ e72 e71 e73
                  have er7 : EnvOk X.K ad7 F8 (wipeR r4 vs1) (L2.wipe s' vs1) := he6.ext x8'
                  refine ⟨.d s1.items[j], wipeR r4 vs1, ad7, m7, F8, rp8, er7, ha8, ?_⟩
                  cases et7 : g1 (.d s1.items[j]) (wipeR r4 vs1) m7 with
                  | none => rw [et7] at hp7; exact hp7
                  | some p =>
                    obtain ⟨r9, m9⟩ := p
                    rw [et7] at hp7
                    dsimp only at hp7 ⊢
                    refine fun s9 ad9 F9 H9 y1 y2 y3 y4 y5 => ⟨wipe_eq hsl1 (by rw [y4, wipe_length]) y5, ?_⟩
                    have w9 := w8.trans y1
                    have x9 : Ext ad6 F6 noH ad9 F9 H9 := ⟨let ⟨t1, q1⟩ := x8'.pre; let ⟨t2, q2⟩ := y1.pre; ⟨t1 ++ t2, by rw [q2, q1, List.append_assoc]⟩, x8'.fle.trans y1.fle, (fun _ _ h => nomatch h), (fun _ _ _ => rfl), (fun _ _ _ h => nomatch h)⟩
                    obtain ⟨e91, e93⟩ := y1.keep (K := X.K) (m := m7) e81 e83
                    have e92 := y1.gn _ _ e82 e81 e83
                    have e94 := (e74.mono x8.fle).mono y1.fle
                    refine ⟨r9, ad9, m9, F9, y3, y2, ?_⟩
                    cases eb9 : ft1 r9 m9 with
                    | bad => rw [eb9] at hp7; exact hp7
                    | exc c fs m5 => rw [eb9] at hp7; exact hp7.elim
                    | ok b m10 =>
                      rw [eb9] at hp7
                      refine fun ad10 F10 H10 z1 z2 b' hb' => ?_
                      subst hb'
                      have w10 := w9.trans z1
                      have x10 : Ext ad6 F6 noH ad10 F10 H10 := ⟨let ⟨t1, q1⟩ := x9.pre; let ⟨t2, q2⟩ := z1.pre; ⟨t1 ++ t2, by rw [q2, q1, List.append_assoc]⟩, x9.fle.trans z1.fle, (fun _ _ h => nomatch h), (fun _ _ _ => rfl), (fun _ _ _ h => nomatch h)⟩
                      obtain ⟨e101, e103⟩ := z1.keep (K := X.K) (m := m7) e91 e93
                      have e102 := z1.gn _ _ e92 e91 e93
                      cases b with
                      | false => exact iteF ⟨ad10, m10, F10, acc7, ws7, w10, x10, z2, e101, e102, e103, e94.mono z1.fle, hp7⟩
                      | true =>
                        dsimp only at hp7
                        refine iteT ⟨r9, ad10, m10, F10, y3.ext z1, z2, ?_⟩
                        cases ee : fe r9 m10 with
                        | bad => rw [ee] at hp7; exact hp7
                        | exc c fs m6 => rw [ee] at hp7; exact hp7.elim
                        | ok w m11 =>
                          rw [ee] at hp7
                          dsimp only at hp7
                          refine fun ad11 F11 H11 u1 u2 yv hyv => ?_
                          have w11 := w10.trans u1
                          obtain ⟨b1, b3⟩ := u1.keep (K := X.K) (m := m7) e101 e103
                          have b2 := u1.gn _ _ e102 e101 e103
                          cases ef : frz w m11 with
                          | none => rw [ef] at hp7; exact hp7.elim
                          | some pr =>
                            obtain ⟨dd, m12⟩ := pr
                            rw [ef] at hp7
                            dsimp only at hp7
                            obtain ⟨F12, a12, x12, p12⟩ := frz_w u2 hyv ef
                            have b2' := x12.gn _ _ b2 b1 b3
                            have dA := ((e94.mono z1.fle).mono u1.fle).mono x12.fle
                            have x13 : ∀ H, Ext ad6 F6 noH ad11 F12 H := fun H => ⟨let ⟨t1, q1⟩ := x10.pre; let ⟨t2, q2⟩ := u1.pre; ⟨t1 ++ t2, by rw [q2, q1, List.append_assoc]⟩, (x10.fle.trans u1.fle).trans x12.fle, (fun _ _ h => nomatch h), (fun _ _ _ => rfl), (fun _ _ _ h => nomatch h)⟩
                            by_cases hz : acc7.length < sizeLine
                            · rw [if_pos hz] at hp7
                              exact ⟨ws7, b1, by rw [dA.len]; exact hz, ad11, m12, F12, acc7 ++ [dd], ws7 ++ [yv], (w11.trans x12).side hD, x13 _, a12.side b2' b3, upd_same, b2', b3, dA.app (.cons p12 .nil), hp7⟩
                            · rw [if_neg hz] at hp7; exact hp7.elim
                · rw [lcL_grd hgd7] at hp7; exact hp7.elim
              · obtain ⟨ad7, m7, F7, acc7, ws7, w7, x7, ha7, e71, e72, e73, e74, hp7⟩ := p
                rw [List.drop_length] at hp7
                by_cases hgd7 : grd s1.gs m7
                · unfold lcL thenL at hp7
                  rw [if_pos hgd7] at hp7
                  exact ⟨ad7, m7, F7, acc7, ws7, w7, ha7, e71, e72, e73, e74, hp7⟩
                · rw [lcL_grd hgd7] at hp7; exact hp7.elim
    · rw [lcL2_grd hgd] at hp2; exact hp2.elim
  · obtain ⟨ad2, m2, F2, acc, ws, x2, ha2, d1, d2, d3, d4, hp2⟩ := p
    rw [List.drop_length] at hp2
    by_cases hgd : grd src.gs m2
    · unfold lcL2 at hp2
      rw [if_pos hgd] at hp2
      exact hp2 _ _ _ x2 ha2 Dn ws (e1.was hD nD) d1 d2 d3 d4
    · rw [lcL2_grd hgd] at hp2; exact hp2.elim
theorem df_lc2X {Wx : WX} {elt tg iter tg1 iter1 : Expr} {ifs ifs1 : List Expr} {scope : Scope} {pos : Pos} (own : List (Str × Nat)) (sl sl1 vs1 : List Nat) (hc : X.calm = true) (hN : X.N.Nodup) (hvs : own.map (·.2) = vs) (hsl : ∀ i ∈ sl, i ∈ vs) (hsl1 : ∀ i ∈ sl1, i ∈ vs1) (hv1 : ∀ i ∈ vs1, i ∈ vs)
    (ok : BlkOk X.N X.env.scope scope own) (hs : ∀ x, foldedSetIterable iter X.env x = pure x) (hs1 : ∀ env x, foldedSetIterable iter1 env x = pure x) (hi : DI X Wx tg iter f) (hg : ∀ (s : Shared) (H : Hp) (C : Addr) (cl : List (Str × Addr)) (fp : List Addr), DG (X.blk s H scope (compEnvC scope cl C X.env) fp) sl tg g)
    (ht : ∀ (s : Shared) (H : Hp) (C : Addr) (cl : List (Str × Addr)) (fp : List Addr), PTs (X.blk s H scope (compEnvC scope cl C X.env) fp) ifs (LT X.K W0 ft))
    (hi1 : ∀ (s : Shared) (H : Hp) (C : Addr) (cl : List (Str × Addr)) (fp : List Addr), DI0 (X.blk s H scope (compEnvC scope cl C X.env) fp) W0 tg1 iter1 f1)
    (hg1 : ∀ (s : Shared) (H : Hp) (C : Addr) (cl : List (Str × Addr)) (fp : List Addr), DG (X.blk s H scope (compEnvC scope cl C X.env) fp) sl1 tg1 g1)
    (ht1 : ∀ (s : Shared) (H : Hp) (C : Addr) (cl : List (Str × Addr)) (fp : List Addr), PTs (X.blk s H scope (compEnvC scope cl C X.env) fp) ifs1 (LT X.K W0 ft1))
    (he : ∀ (s : Shared) (H : Hp) (C : Addr) (cl : List (Str × Addr)) (fp : List Addr), DE (X.blk s H scope (compEnvC scope cl C X.env) fp) W0 elt fe) :
    DF X Wx (.ListComp elt [⟨tg, iter, ifs, 0⟩, ⟨tg1, iter1, ifs1, 0⟩] scope pos) (dLc2 f g ft f1 g1 ft1 fe vs vs1) := by
  subst hvs
  exact pe_weak (pe_lc2 hc hN hi ok hv1 hg ht hi1 hg1 ht1 he hs hs1) fun s H Q q => lc2_w hsl hsl1 q
theorem ds_lc2X {Wx : WX} {i : Nat} {y : Str} {py spos : Pos} {elt tg iter tg1 iter1 : Expr} {ifs ifs1 : List Expr} {scope : Scope} {pos : Pos} {cell : Bool} (own : List (Str × Nat)) (sl sl1 vs1 : List Nat) (hc : X.calm = true) (hN : X.N.Nodup) (hvs : own.map (·.2) = vs) (hsl : ∀ i ∈ sl, i ∈ vs) (hsl1 : ∀ i ∈ sl1, i ∈ vs1) (hv1 : ∀ i ∈ vs1, i ∈ vs)
    (ok : BlkOk X.N X.env.scope scope own) (hs : ∀ x, foldedSetIterable iter X.env x = pure x) (hs1 : ∀ env x, foldedSetIterable iter1 env x = pure x) (hy : X.N[i]? = some y) (hyl : X.env.scope.names.lookup y = some .local) (hsw : swapsWith (.ListComp elt [⟨tg, iter, ifs, 0⟩, ⟨tg1, iter1, ifs1, 0⟩] scope pos) (some (.Name y py)) spos.line X.env = pure true)
    (hi : DI X Wx tg iter f) (hg : ∀ (s : Shared) (H : Hp) (C : Addr) (cl : List (Str × Addr)) (fp : List Addr), DG (X.blk s H scope (compEnvC scope cl C X.env) fp) sl tg g)
    (ht : ∀ (s : Shared) (H : Hp) (C : Addr) (cl : List (Str × Addr)) (fp : List Addr), PTs (X.blk s H scope (compEnvC scope cl C X.env) fp) ifs (LT X.K W0 ft))
    (hi1 : ∀ (s : Shared) (H : Hp) (C : Addr) (cl : List (Str × Addr)) (fp : List Addr), DI0 (X.blk s H scope (compEnvC scope cl C X.env) fp) W0 tg1 iter1 f1)
    (hg1 : ∀ (s : Shared) (H : Hp) (C : Addr) (cl : List (Str × Addr)) (fp : List Addr), DG (X.blk s H scope (compEnvC scope cl C X.env) fp) sl1 tg1 g1)
    (ht1 : ∀ (s : Shared) (H : Hp) (C : Addr) (cl : List (Str × Addr)) (fp : List Addr), PTs (X.blk s H scope (compEnvC scope cl C X.env) fp) ifs1 (LT X.K W0 ft1))
    (he : ∀ (s : Shared) (H : Hp) (C : Addr) (cl : List (Str × Addr)) (fp : List Addr), DE (X.blk s H scope (compEnvC scope cl C X.env) fp) W0 elt fe) :
    DS X Wx (.Assign [.Name y py] (.ListComp elt [⟨tg, iter, ifs, 0⟩, ⟨tg1, iter1, ifs1, 0⟩] scope pos) spos) (sSetF i cell (dLc2 f g ft f1 g1 ft1 fe vs vs1)) := by
  subst hvs
  exact ds_setF (ps_weak (ps_setLc2 hc hN hy hyl hsw hi ok hv1 hg ht hi1 hg1 ht1 he hs hs1) fun D s H q => lc2_w hsl hsl1 q)
end
section
variable {V : Rho} {G : Sg} {X : XK'} {tg tg1 : Fg} {t t1 : Ft}
theorem J_lcL2 {gs : List (Nat × List D)} {f1 : Fi} {vs1 : List Nat} {e : Fe} {KL : List D → Sg → Prop} (I : List D → List D → Sg → Prop) (hg : ∀ xs acc G, I xs acc G → GrdOk gs G)
    (ht : ∀ x xs acc G, I (x :: xs) acc G → JG V G tg (.d x) fun V1 G1 => J V1 G1 t (fun b G2 => (b = true → J V1 G2 f1 (fun s G3 => J (wipeR V1 vs1) G3 (fun r m => lcL s.gs tg1 t1 e r s.items acc m) (fun acc' G4 => ∃ G5, I xs acc' G5 ∧ G5.Sublist G4) XF) XF) ∧ (b = false → ∃ G5, I xs acc G5 ∧ G5.Sublist G2)) XF)
    (he : ∀ acc G, I [] acc G → KL acc G) : ∀ (xs acc : List D) (G : Sg), I xs acc G → J V G (fun r m => lcL2 gs tg t f1 tg1 t1 e vs1 r xs acc m) KL X
  | [], acc, G, h => fun m0 S r m hv hm => .inl ⟨acc, m, G, by simp only [lcL2, if_pos ((hg _ _ _ h).grd hm)], hm, he _ _ h⟩
  | x :: xs, acc, G, h => fun m0 S r m hv hm => by
    obtain ⟨r1, m1, V1, G1, e1, hv1, hm1, k⟩ := ht x xs acc G h m0 S r m hv hm
    have hl : lcL2 gs tg t f1 tg1 t1 e vs1 r (x :: xs) acc m = match t r1 m1 with
      | .ok true m2 => match f1 r1 m2 with
        | .ok s m3 => match lcL s.gs tg1 t1 e (wipeR r1 vs1) s.items acc m3 with
          | .ok acc' m4 => lcL2 gs tg t f1 tg1 t1 e vs1 r xs acc' m4
          | _ => .bad
        | _ => .bad
      | .ok false m2 => lcL2 gs tg t f1 tg1 t1 e vs1 r xs acc m2
      | _ => .bad := by
      rw [lcL2, if_pos ((hg _ _ _ h).grd hm), e1]
      all_goals rfl
    simp only [hl]
    rcases k m0 S r1 m1 hv1 hm1 with ⟨b, m2, G2, e2, hm2, k⟩ | ⟨_, _, _, _, _, _, k⟩
    · cases b with
      | true =>
        rcases k.1 rfl m0 S r1 m2 hv1 hm2 with ⟨s, m3, G3, e3, hm3, k⟩ | ⟨_, _, _, _, _, _, k⟩
        · rcases k m0 S (wipeR r1 vs1) m3 (hv1.wipe vs1) hm3 with ⟨acc', m4, G4, e4, hm4, G5, k, hs⟩ | ⟨_, _, _, _, _, _, k⟩
          · simp only [e2, e3, e4]
            exact J_lcL2 I hg ht he xs _ G5 k m0 S r m4 hv (hm4.sub hs)
          · exact k.elim
        · exact k.elim
      | false =>
        obtain ⟨G5, k, hs⟩ := k.2 rfl
        simp only [e2]
        exact J_lcL2 I hg ht he xs _ G5 k m0 S r m2 hv (hm2.sub hs)
    · exact k.elim
theorem J_lc2 {src f1 : Fi} {e : Fe} {vs vs1 : List Nat} {KL : List D → Sg → Prop} (h : J V G src (fun s G1 => J (wipeR V vs) G1 (fun r m => lcL2 s.gs tg t f1 tg1 t1 e vs1 r s.items [] m) KL X) X) : J V G (dLc2 src tg t f1 tg1 t1 e vs vs1) KL X := by
  intro m0 S r m hv hm
  rcases h m0 S r m hv hm with ⟨s, m1, G1, e1, hm1, k⟩ | ⟨c, fs, m1, G1, e1, hm1, k⟩
  · have hl : dLc2 src tg t f1 tg1 t1 e vs vs1 r m = lcL2 s.gs tg t f1 tg1 t1 e vs1 (wipeR r vs) s.items [] m1 := by unfold dLc2; simp only [e1, Out.bind_ok]
    rw [hl]
    exact k m0 S (wipeR r vs) m1 (hv.wipe vs) hm1
  · exact .inr ⟨c, fs, m1, G1, by unfold dLc2; simp only [e1, Out.bind_exc], hm1, k⟩
end
end DL
open DL PySem
local macro_rules
  | `(tactic| sizeOf_list_dec) => `(tactic| with_reducible apply J_lc2)

/-! max(xs) of whole numbers -/
namespace DL
open PySem PySem.Spec PyProof.Rows L2
def intsD : List D → Option (List Int)
  | [] => some []
  | .int i :: xs => (intsD xs).map (i :: ·)
  | _ :: _ => none
theorem intsD_map : ∀ ns : List Int, intsD (ns.map .int) = some ns
  | [] => rfl
  | n :: ns => by rw [List.map_cons, intsD, intsD_map ns]; rfl
theorem intsD_rp {K : PySem.W.Frag} {F : Hp} : ∀ {xs : List D} {ns : List Int} {vs : List V}, intsD xs = some ns → RpA K F vs xs → vs = ns.map V.int
  | [], ns, vs, e, r => by cases e; cases r; rfl
  | x :: xs, ns, vs, e, r => by
    cases x with
    | int i =>
      simp only [intsD] at e
      obtain ⟨ms, e1, rfl⟩ := Option.map_eq_some_iff.mp e
      cases r with
      | cons a b =>
        cases a
        rw [intsD_rp e1 b]; rfl
    | _ => cases e
def maxL : Int → List Int → Int
  | m, [] => m
  | m, n :: ns => maxL (if m < n then n else m) ns
theorem maxL_ge : ∀ (m : Int) (ns : List Int), m ≤ maxL m ns ∧ ∀ n ∈ ns, n ≤ maxL m ns
  | m, [] => ⟨Int.le_refl _, fun n h => nomatch h⟩
  | m, k :: ns => by
    obtain ⟨h1, h2⟩ := maxL_ge (if m < k then k else m) ns
    have e : maxL m (k :: ns) = maxL (if m < k then k else m) ns := rfl
    rw [e]
    generalize maxL (if m < k then k else m) ns = M at h1 h2
    have h3 : m ≤ M ∧ k ≤ M := by split at h1 <;> omega
    refine ⟨h3.1, fun n hn => ?_⟩
    rcases List.mem_cons.mp hn with rfl | hn
    · exact h3.2
    · exact h2 n hn
theorem maxL_mem : ∀ (m : Int) (ns : List Int), maxL m ns = m ∨ maxL m ns ∈ ns
  | m, [] => .inl rfl
  | m, k :: ns => by
    unfold maxL
    rcases maxL_mem (if m < k then k else m) ns with h | h
    · rw [h]
      split
      · exact .inr List.mem_cons_self
      · exact .inl rfl
    · exact .inr (List.mem_cons_of_mem _ h)
def gMaxI : List W → Sto → Option W
  | [.d (.list xs)], _ => match intsD xs with
    | some (n :: ns) => some (.d (.int (maxL n ns)))
    | _ => none
  | _, _ => none
theorem cd_maxI {K : PySem.W.Frag} : CallD K (rMax K) gMaxI := by
  intro ws z vs ad m F H Q r ha e q
  unfold gMaxI at e
  split at e
  · rename_i xs
    split at e
    · rename_i n ns en
      cases e
      obtain ⟨v, rfl, r1⟩ := r.one
      obtain ⟨a, us, rfl, q1, q2⟩ := ha.lst r1 (rfl : lstOf (.d (.list xs)) _ = some xs)
      have hus := intsD_rp en q2
      subst hus
      refine ⟨a, n :: ns, rfl, q1, by simp, fun k h1 h2 => ?_⟩
      have h3 := maxL_ge n ns
      have h4 := maxL_mem n ns
      have h5 : maxL n ns ≤ k := h2 _ (by rcases h4 with h | h; rw [h]; exact List.mem_cons_self; exact List.mem_cons_of_mem _ h)
      have h6 : k ≤ maxL n ns := by
        rcases List.mem_cons.mp h1 with rfl | h
        · exact h3.1
        · exact h3.2 k h
      have h7 : k = maxL n ns := by omega
      rw [h7]
      exact q _ F H Ext.refl ha (.int _)
    · cases e
  · cases e
theorem JO_maxI {G : Sg} {K : W → Prop} {n : Int} {ns : List Int} (k : K (.d (.int (maxL n ns)))) : JO G (gMaxI [.d (.list ((n :: ns).map .int))]) K := JO_pure (fun m => by
  show (match intsD ((n :: ns).map .int) with | some (n :: ns) => some (W.d (.int (maxL n ns))) | _ => none) = _
  rw [intsD_map]) k
end DL

namespace DL
open PySem PySem.Spec PyProof.Rows L2
/-! ### a comprehension within another one: no name of it is free -/
theorem blkOk_nf {N : List Str} {sc sc0 scope : Scope} {own : List (Str × Nat)} (h : blkC N sc0 scope own = true) (hf : (scope.names.all fun y => match y.2 with | .free => false | _ => true) = true) : BlkOk N sc scope own := by
  obtain ⟨a, b, c, _, e⟩ := blkOk_by h
  refine ⟨a, b, c, fun y hy hz => ?_, e⟩
  have := List.all_eq_true.mp hf y hy
  rw [hz] at this
  cases this
end DL

namespace Lw
open PySem L2 DL PyProof.Rows
def topS (i : Nat) : Stmt := PySem.Challenge.pw_ledclocks_k48_whole_any_cover.main.body.getD i (.Pass ⟨0, 0, 0, 0⟩)
structure Bt (mg : Str → Option Value) : Prop where
  z_abs : mg "abs" = none
  z_all : mg "all" = none
  z_any : mg "any" = none
  z_bool : mg "bool" = none
  z_enumerate : mg "enumerate" = none
  z_int : mg "int" = none
  z_isinstance : mg "isinstance" = none
  z_len : mg "len" = none
  z_max : mg "max" = none
  z_range : mg "range" = none
  z_tuple : mg "tuple" = none
abbrev k_ONE : D := .tuple [.int 1, .int 1]
abbrev k_SOME : D := .tuple [.int 0, .int 1]
abbrev C_ClockError : Addr := 24
abbrev C_Lied : Addr := 63
abbrev C_NoPaper : Addr := 44
abbrev bt_ValueError : List Value := [.type "ValueError", .type "Exception", .type "BaseException", .type "object"]
structure Xt (P : Program) (w : World) (K : PySem.W.Frag) (mg : Str → Option Value) (base : Heap) : Prop where
  m_ClockError : mg "ClockError" = some (.ref C_ClockError)
  m_Lied : mg "Lied" = some (.ref C_Lied)
  m_NoPaper : mg "NoPaper" = some (.ref C_NoPaper)
  R_Lied : RzOk P w K mg base "Lied" "ValueError.__new__" bt_ValueError C_Lied ["many"]
  R_NoPaper : RzOk P w K mg base "NoPaper" "ValueError.__new__" bt_ValueError C_NoPaper ["word", "at"]
  U_Lied : ClsU K C_Lied
  U_NoPaper : ClsU K C_NoPaper
  s_Lied_Lied : PySem.W.subIn K (.ref C_Lied) (.ref C_Lied) = some true
  s_Lied_NoPaper : PySem.W.subIn K (.ref C_Lied) (.ref C_NoPaper) = some false
  s_NoPaper_Lied : PySem.W.subIn K (.ref C_NoPaper) (.ref C_Lied) = some false
  s_NoPaper_NoPaper : PySem.W.subIn K (.ref C_NoPaper) (.ref C_NoPaper) = some true
abbrev s_i_Lied : Stmt := clsAt (topS 3) 0
theorem sc_i_Lied : FnScope ["self", "many"] ["self", "many"] (defScope s_i_Lied) := ⟨rfl, rfl, rfl, by decide +kernel, rfl, by decide +kernel, by decide +kernel⟩
theorem okI_Lied {P : Program} {w : World} {K : PySem.W.Frag} {mg : Str → Option Value} {base : Heap} {f : Addr} {fd : FuncData} (T : OxC K "ValueError.__new__" bt_ValueError C_Lied) (m0 : mg "ClockError" = some (.ref C_ClockError)) (k0 : PySem.W.keepIn K (.ref C_ClockError) = true) (r0 : PySem.W.readsIn K C_ClockError (.type "type") = true) (q0 : PySem.W.specialIn K (.ref C_ClockError) "__getattribute__" = some (some (.builtin "type.__getattribute__"))) (v0 : PySem.W.findCls K (.ref C_ClockError) (.type "type") "__init__" = some (.val (.builtin "ValueError.__init__"))) (n1 : PySem.W.findIn K (.ref C_Lied) "many" = some none) (F : Fun K "__init__" "Lied.__init__" s_i_Lied f fd) : FnOk P w K mg base CX0 1 f fd ["self", "many"] (spI "ValueError.__new__" bt_ValueError C_Lied ["many"]) :=
  Fun.ok F sc_i_Lied (fun vs H Q E h => spI_len vs H Q E h "self") fun cdv A outer s H vs Q E hr hsp => ⟨_, pss_cons (ps_expr (pe_ci oxb_val (by rfl) m0 k0 r0 q0 v0 (by decide) (pa_cons (pv 0) pa_nil))) (pss_cons (ps_oxs oxb_val (pv 0) (pv 1)) pss_nil), init1_run T n1 hsp⟩
abbrev s_i_NoPaper : Stmt := clsAt (topS 2) 0
theorem sc_i_NoPaper : FnScope ["self", "word", "at"] ["self", "word", "at"] (defScope s_i_NoPaper) := ⟨rfl, rfl, rfl, by decide +kernel, rfl, by decide +kernel, by decide +kernel⟩
theorem okI_NoPaper {P : Program} {w : World} {K : PySem.W.Frag} {mg : Str → Option Value} {base : Heap} {f : Addr} {fd : FuncData} (T : OxC K "ValueError.__new__" bt_ValueError C_NoPaper) (m0 : mg "ClockError" = some (.ref C_ClockError)) (k0 : PySem.W.keepIn K (.ref C_ClockError) = true) (r0 : PySem.W.readsIn K C_ClockError (.type "type") = true) (q0 : PySem.W.specialIn K (.ref C_ClockError) "__getattribute__" = some (some (.builtin "type.__getattribute__"))) (v0 : PySem.W.findCls K (.ref C_ClockError) (.type "type") "__init__" = some (.val (.builtin "ValueError.__init__"))) (n1 : PySem.W.findIn K (.ref C_NoPaper) "word" = some none) (n2 : PySem.W.findIn K (.ref C_NoPaper) "at" = some none) (F : Fun K "__init__" "NoPaper.__init__" s_i_NoPaper f fd) : FnOk P w K mg base CX0 1 f fd ["self", "word", "at"] (spI "ValueError.__new__" bt_ValueError C_NoPaper ["word", "at"]) :=
  Fun.ok F sc_i_NoPaper (fun vs H Q E h => spI_len vs H Q E h "self") fun cdv A outer s H vs Q E hr hsp => ⟨_, pss_cons (ps_expr (pe_ci oxb_val (by rfl) m0 k0 r0 q0 v0 (by decide) (pa_cons (pv 0) pa_nil))) (pss_cons (ps_oxs oxb_val (pv 0) (pv 1)) (pss_cons (ps_oxs oxb_val (pv 0) (pv 2)) pss_nil)), init2_run T n1 n2 hsp⟩
structure Ct (K : PySem.W.Frag) (mg : Str → Option Value) : Prop where
  g_ONE : ∃ (v : V) (u : Value), mg "ONE" = some u ∧ RelV v u ∧ ∀ F, Rp K F v k_ONE
  g_SOME : ∃ (v : V) (u : Value), mg "SOME" = some u ∧ RelV v u ∧ ∀ F, Rp K F v k_SOME
/-! ### is_number -/
abbrev s_is_number : Stmt := topS 5
abbrev N_is_number : List Str := ["thing"]
abbrev p_is_number : List Str := ["thing"]
theorem sc_is_number : FnScope N_is_number p_is_number (defScope s_is_number) := ⟨rfl, rfl, rfl, by decide +kernel, rfl, by decide +kernel, by decide +kernel⟩
noncomputable def m_is_number : Fs :=
    (sRet (dAnd (dIsi "int" (dVar 0)) (dNot (dIsi "bool" (dVar 0)))))
noncomputable def F_is_number : List W → Sto → Out W := runB N_is_number.length m_is_number
/-! ### common_divisor -/
abbrev s_common_divisor : Stmt := topS 7
abbrev N_common_divisor : List Str := ["one", "other"]
abbrev p_common_divisor : List Str := ["one", "other"]
theorem sc_common_divisor : FnScope N_common_divisor p_common_divisor (defScope s_common_divisor) := ⟨rfl, rfl, rfl, by decide +kernel, rfl, by decide +kernel, by decide +kernel⟩
noncomputable def m_common_divisor : Fs :=
    (sSeq (sWhile (dIsT (dBin gNe (dVar 1) (dC (.int 0))))
    (sPar 0 1 (dCons (dVar 1) (dCons (dBin gMod (dVar 0) (dVar 1)) dNil))))
    (sRet (dVar 0)))
noncomputable def F_common_divisor : List W → Sto → Out W := runB N_common_divisor.length m_common_divisor
/-! ### is_fraction -/
abbrev s_is_fraction : Stmt := topS 8
abbrev N_is_fraction : List Str := ["thing", "one"]
abbrev p_is_fraction : List Str := ["thing"]
theorem sc_is_fraction : FnScope N_is_fraction p_is_fraction (defScope s_is_fraction) := ⟨rfl, rfl, rfl, by decide +kernel, rfl, by decide +kernel, by decide +kernel⟩
noncomputable def m_is_fraction : Fs :=
    (sSeq (sIf (dOrT (dNotT (dTru (dIsi "tuple" (dVar 0)))) (dOrT (dIsT (dBin gNe (dCB gLen (dCons (dVar 0) dNil)) (dC (.int 2)))) (dNotT (dTru (dCB gAll (dCons (dData (dLc (iTupD (dVar 0)) (gN 1) tTru (dCall F_is_number (dCons (dVar 1) dNil)) [1])) dNil))))))
    (sRet (dC (.bool false)))
    sNx)
    (sRet (dAnd (dBin gGt (dBin gIx (dVar 0) (dC (.int 1))) (dC (.int 0))) (dBin gEq (dCall F_common_divisor (dCons (dCB gAbs (dCons (dBin gIx (dVar 0) (dC (.int 0))) dNil)) (dCons (dBin gIx (dVar 0) (dC (.int 1))) dNil))) (dC (.int 1))))))
noncomputable def F_is_fraction : List W → Sto → Out W := runB N_is_fraction.length m_is_fraction
/-! ### ratio -/
abbrev s_ratio : Stmt := topS 9
abbrev N_ratio : List Str := ["a", "b", "divisor"]
abbrev p_ratio : List Str := ["a", "b"]
theorem sc_ratio : FnScope N_ratio p_ratio (defScope s_ratio) := ⟨rfl, rfl, rfl, by decide +kernel, rfl, by decide +kernel, by decide +kernel⟩
noncomputable def m_ratio : Fs :=
    (sSeq (sAsg (dCall F_common_divisor (dCons (dCB gAbs (dCons (dVar 0) dNil)) (dCons (dCB gAbs (dCons (dVar 1) dNil)) dNil))) (gN 2))
    (sSeq (sIf (dIsT (dBin gLt (dVar 1) (dC (.int 0))))
    (sAsg (dBin gSub (dC (.int 0)) (dVar 2)) (gN 2))
    sNx)
    (sRet (dTup (dCons (dBin gDivA (dVar 0) (dVar 2)) (dCons (dBin gDivA (dVar 1) (dVar 2)) dNil))))))
noncomputable def F_ratio : List W → Sto → Out W := runB N_ratio.length m_ratio
/-! ### added -/
abbrev s_added : Stmt := topS 10
abbrev N_added : List Str := ["one", "other"]
abbrev p_added : List Str := ["one", "other"]
theorem sc_added : FnScope N_added p_added (defScope s_added) := ⟨rfl, rfl, rfl, by decide +kernel, rfl, by decide +kernel, by decide +kernel⟩
noncomputable def m_added : Fs :=
    (sRet (dCall F_ratio (dCons (dBin gAdd (dBin gMul (dBin gIx (dVar 0) (dC (.int 0))) (dBin gIx (dVar 1) (dC (.int 1)))) (dBin gMul (dBin gIx (dVar 1) (dC (.int 0))) (dBin gIx (dVar 0) (dC (.int 1))))) (dCons (dBin gMul (dBin gIx (dVar 0) (dC (.int 1))) (dBin gIx (dVar 1) (dC (.int 1)))) dNil))))
noncomputable def F_added : List W → Sto → Out W := runB N_added.length m_added
/-! ### less -/
abbrev s_less : Stmt := topS 11
abbrev N_less : List Str := ["one", "other"]
abbrev p_less : List Str := ["one", "other"]
theorem sc_less : FnScope N_less p_less (defScope s_less) := ⟨rfl, rfl, rfl, by decide +kernel, rfl, by decide +kernel, by decide +kernel⟩
noncomputable def m_less : Fs :=
    (sRet (dCall F_ratio (dCons (dBin gSub (dBin gMul (dBin gIx (dVar 0) (dC (.int 0))) (dBin gIx (dVar 1) (dC (.int 1)))) (dBin gMul (dBin gIx (dVar 1) (dC (.int 0))) (dBin gIx (dVar 0) (dC (.int 1))))) (dCons (dBin gMul (dBin gIx (dVar 0) (dC (.int 1))) (dBin gIx (dVar 1) (dC (.int 1)))) dNil))))
noncomputable def F_less : List W → Sto → Out W := runB N_less.length m_less
/-! ### is_below -/
abbrev s_is_below : Stmt := topS 12
abbrev N_is_below : List Str := ["one", "other"]
abbrev p_is_below : List Str := ["one", "other"]
theorem sc_is_below : FnScope N_is_below p_is_below (defScope s_is_below) := ⟨rfl, rfl, rfl, by decide +kernel, rfl, by decide +kernel, by decide +kernel⟩
noncomputable def m_is_below : Fs :=
    (sRet (dBin gLt (dBin gMul (dBin gIx (dVar 0) (dC (.int 0))) (dBin gIx (dVar 1) (dC (.int 1)))) (dBin gMul (dBin gIx (dVar 1) (dC (.int 0))) (dBin gIx (dVar 0) (dC (.int 1))))))
noncomputable def F_is_below : List W → Sto → Out W := runB N_is_below.length m_is_below
/-! ### is_in -/
abbrev s_is_in : Stmt := topS 16
abbrev N_is_in : List Str := ["span", "point", "low", "high"]
abbrev p_is_in : List Str := ["span", "point"]
theorem sc_is_in : FnScope N_is_in p_is_in (defScope s_is_in) := ⟨rfl, rfl, rfl, by decide +kernel, rfl, by decide +kernel, by decide +kernel⟩
noncomputable def m_is_in : Fs :=
    (sSeq (sAsg (dVar 0) (gT 2 (gsCons (gN 2) (gsCons (gN 3) gsNil))))
    (sRet (dAnd (dNot (dAnd (dBin gNotN (dVar 2) (dC .none)) (dCall F_is_below (dCons (dVar 1) (dCons (dVar 2) dNil))))) (dNot (dAnd (dBin gNotN (dVar 3) (dC .none)) (dCall F_is_below (dCons (dVar 3) (dCons (dVar 1) dNil))))))))
noncomputable def F_is_in : List W → Sto → Out W := runB N_is_in.length m_is_in
/-! ### numbers_in -/
abbrev s_numbers_in : Stmt := topS 17
abbrev N_numbers_in : List Str := ["spans", "point", "k", "span"]
abbrev p_numbers_in : List Str := ["spans", "point"]
theorem sc_numbers_in : FnScope N_numbers_in p_numbers_in (defScope s_numbers_in) := ⟨rfl, rfl, rfl, by decide +kernel, rfl, by decide +kernel, by decide +kernel⟩
noncomputable def m_numbers_in : Fs :=
    (sRet (dCB gTuple (dCons (dData (dLc (iEnumT (dVar 0)) (gT 2 (gsCons (gN 2) (gsCons (gN 3) gsNil))) (dTru (dCall F_is_in (dCons (dVar 3) (dCons (dVar 1) dNil)))) (dVar 2) [2, 3])) dNil)))
noncomputable def F_numbers_in : List W → Sto → Out W := runB N_numbers_in.length m_numbers_in
/-! ### count_in -/
abbrev s_count_in : Stmt := topS 18
abbrev N_count_in : List Str := ["spans", "point"]
abbrev p_count_in : List Str := ["spans", "point"]
theorem sc_count_in : FnScope N_count_in p_count_in (defScope s_count_in) := ⟨rfl, rfl, rfl, by decide +kernel, rfl, by decide +kernel, by decide +kernel⟩
noncomputable def m_count_in : Fs :=
    (sRet (dCB gLen (dCons (dCall F_numbers_in (dCons (dVar 0) (dCons (dVar 1) dNil))) dNil)))
noncomputable def F_count_in : List W → Sto → Out W := runB N_count_in.length m_count_in
/-! ### least_of -/
abbrev s_least_of : Stmt := topS 19
abbrev N_least_of : List Str := ["points", "found", "point"]
abbrev p_least_of : List Str := ["points"]
theorem sc_least_of : FnScope N_least_of p_least_of (defScope s_least_of) := ⟨rfl, rfl, rfl, by decide +kernel, rfl, by decide +kernel, by decide +kernel⟩
noncomputable def m_least_of : Fs :=
    (sSeq (sAsg (dBin gIx (dVar 0) (dC (.int 0))) (gN 1))
    (sSeq (sFor (iSeq (dVar 0)) (gN 2)
    (sAsg (dIf (dTru (dCall F_is_below (dCons (dVar 2) (dCons (dVar 1) dNil)))) (dVar 2) (dVar 1)) (gN 1)))
    (sRet (dVar 1))))
noncomputable def F_least_of : List W → Sto → Out W := runB N_least_of.length m_least_of
/-! ### greatest_of -/
abbrev s_greatest_of : Stmt := topS 20
abbrev N_greatest_of : List Str := ["points", "found", "point"]
abbrev p_greatest_of : List Str := ["points"]
theorem sc_greatest_of : FnScope N_greatest_of p_greatest_of (defScope s_greatest_of) := ⟨rfl, rfl, rfl, by decide +kernel, rfl, by decide +kernel, by decide +kernel⟩
noncomputable def m_greatest_of : Fs :=
    (sSeq (sAsg (dBin gIx (dVar 0) (dC (.int 0))) (gN 1))
    (sSeq (sFor (iSeq (dVar 0)) (gN 2)
    (sAsg (dIf (dTru (dCall F_is_below (dCons (dVar 1) (dCons (dVar 2) dNil)))) (dVar 2) (dVar 1)) (gN 1)))
    (sRet (dVar 1))))
noncomputable def F_greatest_of : List W → Sto → Out W := runB N_greatest_of.length m_greatest_of
/-! ### ends_of -/
abbrev s_ends_of : Stmt := topS 21
abbrev N_ends_of : List Str := ["spans", "span", "end"]
abbrev p_ends_of : List Str := ["spans"]
theorem sc_ends_of : FnScope N_ends_of p_ends_of (defScope s_ends_of) := ⟨rfl, rfl, rfl, by decide +kernel, rfl, by decide +kernel, by decide +kernel⟩
noncomputable def m_ends_of : Fs :=
    (sRet (dData (dLc2 (iTupD (dVar 0)) (gN 1) tTru (iTupD (dVar 1)) (gN 2) (dIsT (dBin gNotN (dVar 2) (dC .none))) (dVar 2) [1, 2] [2])))
noncomputable def F_ends_of : List W → Sto → Out W := runB N_ends_of.length m_ends_of
/-! ### far_points -/
abbrev s_far_points : Stmt := topS 22
abbrev N_far_points : List Str := ["spans", "ends"]
abbrev p_far_points : List Str := ["spans"]
theorem sc_far_points : FnScope N_far_points p_far_points (defScope s_far_points) := ⟨rfl, rfl, rfl, by decide +kernel, rfl, by decide +kernel, by decide +kernel⟩
noncomputable def m_far_points : Fs :=
    (sSeq (sAsg (dCall F_ends_of (dCons (dVar 0) dNil)) (gN 1))
    (sSeq (sIf (dIsT (dBin gEq (dVar 1) (dData (dLst dNil))))
    (sRet (dTup (dCons (dC k_SOME) (dCons (dC k_SOME) dNil))))
    sNx)
    (sRet (dTup (dCons (dCall F_less (dCons (dCall F_least_of (dCons (dVar 1) dNil)) (dCons (dC k_ONE) dNil))) (dCons (dCall F_added (dCons (dCall F_greatest_of (dCons (dVar 1) dNil)) (dCons (dC k_ONE) dNil))) dNil))))))
noncomputable def F_far_points : List W → Sto → Out W := runB N_far_points.length m_far_points
/-! ### least_liars -/
abbrev s_least_liars : Stmt := topS 23
abbrev N_least_liars : List Str := ["spans", "below", "above", "points", "point"]
abbrev p_least_liars : List Str := ["spans"]
theorem sc_least_liars : FnScope N_least_liars p_least_liars (defScope s_least_liars) := ⟨rfl, rfl, rfl, by decide +kernel, rfl, by decide +kernel, by decide +kernel⟩
noncomputable def m_least_liars : Fs :=
    (sSeq (sAsg (dCall F_far_points (dCons (dVar 0) dNil)) (gT 2 (gsCons (gN 1) (gsCons (gN 2) gsNil))))
    (sSeq (sAsg (dBin gAdd (dCall F_ends_of (dCons (dVar 0) dNil)) (dData (dLst (dCons (dVar 1) (dCons (dVar 2) dNil))))) (gN 3))
    (sRet (dBin gSub (dCB gLen (dCons (dVar 0) dNil)) (dCB gMaxI (dCons (dData (dLc (iSeq (dVar 3)) (gN 4) tTru (dCall F_count_in (dCons (dVar 0) (dCons (dVar 4) dNil))) [4])) dNil))))))
noncomputable def F_least_liars : List W → Sto → Out W := runB N_least_liars.length m_least_liars
/-! ### by_majority -/
abbrev s_by_majority : Stmt := topS 24
abbrev N_by_majority : List Str := ["spans", "liars", "wanted", "below", "above", "held", "low", "high", "end"]
abbrev p_by_majority : List Str := ["spans", "liars"]
theorem sc_by_majority : FnScope N_by_majority p_by_majority (defScope s_by_majority) := ⟨rfl, rfl, rfl, by decide +kernel, rfl, by decide +kernel, by decide +kernel⟩
noncomputable def m_by_majority : Fs :=
    (sSeq (sAsg (dBin gSub (dCB gLen (dCons (dVar 0) dNil)) (dVar 1)) (gN 2))
    (sSeq (sIf (dIsT (dBin gGtA (dCall F_least_liars (dCons (dVar 0) dNil)) (dVar 1)))
    (sRz C_Lied ["many"] (dCons (dCall F_least_liars (dCons (dVar 0) dNil)) dNil))
    sNx)
    (sSeq (sAsg (dCall F_far_points (dCons (dVar 0) dNil)) (gT 2 (gsCons (gN 3) (gsCons (gN 4) gsNil))))
    (sSeq (sSetF 5 false (dLc (iSeq (dCall F_ends_of (dCons (dVar 0) dNil))) (gN 8) (dIsT (dBin gGeA (dCall F_count_in (dCons (dVar 0) (dCons (dVar 8) dNil))) (dVar 2))) (dVar 8) [8]))
    (sSeq (sAsg (dIf (dIsT (dBin gGeA (dCall F_count_in (dCons (dVar 0) (dCons (dVar 3) dNil))) (dVar 2))) (dC .none) (dCall F_least_of (dCons (dVar 5) dNil))) (gN 6))
    (sSeq (sAsg (dIf (dIsT (dBin gGeA (dCall F_count_in (dCons (dVar 0) (dCons (dVar 4) dNil))) (dVar 2))) (dC .none) (dCall F_greatest_of (dCons (dVar 5) dNil))) (gN 7))
    (sRet (dTup (dCons (dVar 6) (dCons (dVar 7) dNil))))))))))
noncomputable def F_by_majority : List W → Sto → Out W := runB N_by_majority.length m_by_majority
/-! ### cover_paper -/
abbrev s_cover_paper : Stmt := topS 25
abbrev N_cover_paper : List Str := ["spans", "liars", "low", "high", "found", "end"]
abbrev p_cover_paper : List Str := ["spans", "liars"]
theorem sc_cover_paper : FnScope N_cover_paper p_cover_paper (defScope s_cover_paper) := ⟨rfl, rfl, rfl, by decide +kernel, rfl, by decide +kernel, by decide +kernel⟩
noncomputable def m_cover_paper : Fs :=
    (sSeq (sAsg (dCallW F_by_majority (dCons (dVar 0) dNil) (dVar 1)) (gT 2 (gsCons (gN 2) (gsCons (gN 3) gsNil))))
    (sSeq (sSetF 4 false (dLc (iTupD (dTup (dCons (dVar 2) (dCons (dVar 3) dNil)))) (gN 5) tTru (dIf (dIsT (dBin gIsN (dVar 5) (dC .none))) (dTup dNil) (dCall F_numbers_in (dCons (dVar 0) (dCons (dVar 5) dNil)))) [5]))
    (sRet (dTup (dCons (dVar 2) (dCons (dVar 3) (dCons (dBin gIx (dVar 4) (dC (.int 0))) (dCons (dBin gIx (dVar 4) (dC (.int 1))) dNil))))))))
noncomputable def F_cover_paper : List W → Sto → Out W := runB N_cover_paper.length m_cover_paper
/-! ### need -/
abbrev s_need : Stmt := topS 27
abbrev N_need : List Str := ["truth", "word", "at"]
abbrev p_need : List Str := ["truth", "word", "at"]
theorem sc_need : FnScope N_need p_need (defScope s_need) := ⟨rfl, rfl, rfl, by decide +kernel, rfl, by decide +kernel, by decide +kernel⟩
noncomputable def m_need : Fs :=
    (sIf (dNotT (dTru (dVar 0)))
    (sRz C_NoPaper ["word", "at"] (dCons (dVar 1) (dCons (dVar 2) dNil)))
    sNx)
noncomputable def F_need : List W → Sto → Out W := runB N_need.length m_need
/-! ### is_paper -/
abbrev s_is_paper : Stmt := topS 28
abbrev N_is_paper : List Str := ["thing", "some", "end", "one"]
abbrev p_is_paper : List Str := ["thing"]
theorem sc_is_paper : FnScope N_is_paper p_is_paper (defScope s_is_paper) := ⟨rfl, rfl, rfl, by decide +kernel, rfl, by decide +kernel, by decide +kernel⟩
noncomputable def m_is_paper : Fs :=
    (sSeq (sIf (dOrT (dNotT (dTru (dIsi "tuple" (dVar 0)))) (dIsT (dBin gNe (dCB gLen (dCons (dVar 0) dNil)) (dC (.int 4)))))
    (sRet (dC (.bool false)))
    sNx)
    (sSeq (sIf (dNotT (dTru (dCB gAll (dCons (dData (dLc (iTupD (dSl (dVar 0) oNone (oSome (dC (.int 2))))) (gN 2) tTru (dOr (dBin gIsN (dVar 2) (dC .none)) (dCall F_is_fraction (dCons (dVar 2) dNil))) [2])) dNil))))
    (sRet (dC (.bool false)))
    sNx)
    (sRet (dCB gAll (dCons (dData (dLc (iTupD (dSl (dVar 0) (oSome (dC (.int 2))) oNone)) (gN 1) tTru (dAnd (dIsi "tuple" (dVar 1)) (dCB gAll (dCons (dData (dLc (iTupD (dVar 1)) (gN 3) tTru (dCall F_is_number (dCons (dVar 3) dNil)) [3])) dNil))) [1])) dNil)))))
noncomputable def F_is_paper : List W → Sto → Out W := runB N_is_paper.length m_is_paper
/-! ### need_side -/
abbrev s_need_side : Stmt := topS 29
abbrev N_need_side : List Str := ["spans", "end", "some", "side", "wanted", "last", "k", "number"]
abbrev p_need_side : List Str := ["spans", "end", "some", "side", "wanted"]
theorem sc_need_side : FnScope N_need_side p_need_side (defScope s_need_side) := ⟨rfl, rfl, rfl, by decide +kernel, rfl, by decide +kernel, by decide +kernel⟩
noncomputable def m_need_side : Fs :=
    (sSeq (sAsg (dUn gNeg (dC (.int 1))) (gN 5))
    (sSeq (sFor (iEnumT (dVar 2)) (gT 2 (gsCons (gN 6) (gsCons (gN 7) gsNil)))
    (sSeq (sDrop (dCall F_need (dCons (dChain gLt gLt (dVar 5) (dVar 7) (dCB gLen (dCons (dVar 0) dNil))) (dCons (dC (.str "number")) (dCons (dTup (dCons (dVar 3) (dCons (dVar 6) dNil))) dNil)))))
    (sAsg (dVar 7) (gN 5))))
    (sSeq (sFor (iEnumT (dVar 2)) (gT 2 (gsCons (gN 6) (gsCons (gN 7) gsNil)))
    (sDrop (dCall F_need (dCons (dAnd (dBin gNotN (dVar 1) (dC .none)) (dCall F_is_in (dCons (dBin gIx (dVar 0) (dVar 7)) (dCons (dVar 1) dNil)))) (dCons (dC (.str "in")) (dCons (dTup (dCons (dVar 3) (dCons (dVar 6) dNil))) dNil))))))
    (sDrop (dCall F_need (dCons (dOr (dBin gIsN (dVar 1) (dC .none)) (dBin gGe (dCB gLen (dCons (dVar 2) dNil)) (dVar 4))) (dCons (dC (.str "few")) (dCons (dVar 3) dNil))))))))
noncomputable def F_need_side : List W → Sto → Out W := runB N_need_side.length m_need_side
/-! ### is_beyond -/
abbrev s_is_beyond : Stmt := topS 30
abbrev N_is_beyond : List Str := ["spans", "end", "side", "wanted", "away", "held", "point"]
abbrev p_is_beyond : List Str := ["spans", "end", "side", "wanted"]
theorem sc_is_beyond : FnScope N_is_beyond p_is_beyond (defScope s_is_beyond) := ⟨rfl, rfl, rfl, by decide +kernel, rfl, by decide +kernel, by decide +kernel⟩
noncomputable def m_is_beyond : Fs :=
    (sSeq (sAsg (dBin gIx (dCall F_far_points (dCons (dVar 0) dNil)) (dVar 2)) (gN 4))
    (sSeq (sIf (dIsT (dBin gGeA (dCall F_count_in (dCons (dVar 0) (dCons (dVar 4) dNil))) (dVar 3)))
    (sRet (dBin gNotN (dVar 1) (dC .none)))
    sNx)
    (sSeq (sIf (dIsT (dBin gIsN (dVar 1) (dC .none)))
    (sRet (dC (.bool true)))
    sNx)
    (sSeq (sSetF 5 false (dLc (iSeq (dCall F_ends_of (dCons (dVar 0) dNil))) (gN 6) (dIsT (dBin gGeA (dCall F_count_in (dCons (dVar 0) (dCons (dVar 6) dNil))) (dVar 3))) (dVar 6) [6]))
    (sRet (dCB gAny (dCons (dData (dLc (iSeq (dVar 5)) (gN 6) tTru (dIf (dIsT (dBin gEq (dVar 2) (dC (.int 0)))) (dCall F_is_below (dCons (dVar 6) (dCons (dVar 1) dNil))) (dCall F_is_below (dCons (dVar 1) (dCons (dVar 6) dNil)))) [6])) dNil)))))))
noncomputable def F_is_beyond : List W → Sto → Out W := runB N_is_beyond.length m_is_beyond
/-! ### lets_cover -/
abbrev s_lets_cover : Stmt := topS 31
abbrev N_lets_cover : List Str := ["spans", "thing", "liars", "wanted", "side"]
abbrev p_lets_cover : List Str := ["spans", "thing", "liars"]
theorem sc_lets_cover : FnScope N_lets_cover p_lets_cover (defScope s_lets_cover) := ⟨rfl, rfl, rfl, by decide +kernel, rfl, by decide +kernel, by decide +kernel⟩
noncomputable def m_lets_cover : Fs :=
    (sSeq (sDrop (dCall F_need (dCons (dCall F_is_paper (dCons (dVar 1) dNil)) (dCons (dC (.str "shape")) (dCons (dUn gNeg (dC (.int 1))) dNil)))))
    (sSeq (sAsg (dBin gSub (dCB gLen (dCons (dVar 0) dNil)) (dVar 2)) (gN 3))
    (sSeq (sFor (iTupD (dTup (dCons (dC (.int 0)) (dCons (dC (.int 1)) dNil)))) (gN 4)
    (sDrop (dCall F_need_side (dCons (dVar 0) (dCons (dBin gIx (dVar 1) (dVar 4)) (dCons (dBin gIx (dVar 1) (dBin gAdd (dC (.int 2)) (dVar 4))) (dCons (dVar 4) (dCons (dVar 3) dNil))))))))
    (sSeq (sFor (iTupD (dTup (dCons (dC (.int 0)) (dCons (dC (.int 1)) dNil)))) (gN 4)
    (sDrop (dCall F_need (dCons (dNot (dCall F_is_beyond (dCons (dVar 0) (dCons (dBin gIx (dVar 1) (dVar 4)) (dCons (dVar 4) (dCons (dVar 3) dNil)))))) (dCons (dC (.str "beyond")) (dCons (dVar 4) dNil))))))
    (sRet (dSl (dVar 1) oNone (oSome (dC (.int 2)))))))))
noncomputable def F_lets_cover : List W → Sto → Out W := runB N_lets_cover.length m_lets_cover
/-! ### _law_tape -/
abbrev s_l_tape : Stmt := topS 33
abbrev N_l_tape : List Str := ["_law_script"]
abbrev p_l_tape : List Str := ["_law_script"]
theorem sc_l_tape : FnScope N_l_tape p_l_tape (defScope s_l_tape) := ⟨rfl, rfl, rfl, by decide +kernel, rfl, by decide +kernel, by decide +kernel⟩
noncomputable def m_l_tape : Fs :=
    (sRet (dCell (dLst (dCons (dSl (dVar 0) oNone (oSome (dC (.int 63)))) (dCons (dC (.int 0)) (dCons (dC (.int 0)) (dCons (dC (.int 0)) dNil)))))))
noncomputable def F_l_tape : List W → Sto → Out W := runB N_l_tape.length m_l_tape
/-! ### _law_draw -/
abbrev s_l_draw : Stmt := topS 34
abbrev N_l_draw : List Str := ["_law_tape_here", "_law_many", "_law_turn", "_law_digit", "_law_at", "_law_cell", "_law_mixed"]
abbrev p_l_draw : List Str := ["_law_tape_here", "_law_many"]
theorem sc_l_draw : FnScope N_l_draw p_l_draw (defScope s_l_draw) := ⟨rfl, rfl, rfl, by decide +kernel, rfl, by decide +kernel, by decide +kernel⟩
noncomputable def m_l_draw : Fs :=
    (sSeq (sAsg (dBin gAdd (dBin gIx (dVar 0) (dC (.int 3))) (dC (.int 1))) (gN 2))
    (sSeq (sAsg (dVar 2) (gSet (dVar 0) (dC (.int 3))))
    (sSeq (sIf (dIsT (dBin gGt (dBin gIx (dVar 0) (dC (.int 2))) (dC (.int 0))))
    (sSeq (sAsg (dBin gMod (dBin gIx (dVar 0) (dC (.int 2))) (dVar 1)) (gN 3))
    (sSeq (sAsg (dBin gDiv (dBin gIx (dVar 0) (dC (.int 2))) (dVar 1)) (gSet (dVar 0) (dC (.int 2))))
    (sRet (dVar 3))))
    sNx)
    (sSeq (sAsg (dBin gIx (dVar 0) (dC (.int 1))) (gN 4))
    (sSeq (sAsg (dBin gAdd (dVar 4) (dC (.int 1))) (gSet (dVar 0) (dC (.int 1))))
    (sSeq (sAsg (dIf (dIsT (dBin gNe (dBin gIx (dVar 0) (dC (.int 0))) (dData (dLst dNil)))) (dBin gIx (dBin gIx (dVar 0) (dC (.int 0))) (dBin gMod (dVar 4) (dCB gLen (dCons (dBin gIx (dVar 0) (dC (.int 0))) dNil)))) (dC (.int 10))) (gN 5))
    (sSeq (sIf (dAndT (dIsT (dBin gGe (dVar 5) (dBin gPow (dC (.int 10)) (dC (.int 18))))) (dIsT (dBin gLt (dVar 4) (dCB gLen (dCons (dBin gIx (dVar 0) (dC (.int 0))) dNil)))))
    (sSeq (sAsg (dBin gDiv (dVar 5) (dVar 1)) (gSet (dVar 0) (dC (.int 2))))
    (sRet (dBin gMod (dVar 5) (dVar 1))))
    sNx)
    (sSeq (sAsg (dBin gMod (dBin gPow (dBin gAdd (dBin gAdd (dBin gMod (dVar 5) (dC (.int 1000099))) (dBin gMulS (dC (.int 5309)) (dVar 2))) (dC (.int 53))) (dC (.int 5))) (dC (.int 2147483647))) (gN 6))
    (sRet (dBin gMod (dBin gDiv (dBin gMod (dBin gPow (dBin gAdd (dVar 6) (dBin gMulS (dC (.int 90001)) (dVar 2))) (dC (.int 5))) (dC (.int 2147483587))) (dC (.int 64))) (dVar 1)))))))))))
noncomputable def F_l_draw : List W → Sto → Out W := runB N_l_draw.length m_l_draw
/-! ### _law_low -/
abbrev s_l_low : Stmt := topS 35
abbrev N_l_low : List Str := ["_law_over", "_law_under", "_law_one", "_law_other"]
abbrev p_l_low : List Str := ["_law_over", "_law_under"]
theorem sc_l_low : FnScope N_l_low p_l_low (defScope s_l_low) := ⟨rfl, rfl, rfl, by decide +kernel, rfl, by decide +kernel, by decide +kernel⟩
noncomputable def m_l_low : Fs :=
    (sSeq (sPar 2 3 (dCons (dCB gAbs (dCons (dVar 0) dNil)) (dCons (dVar 1) dNil)))
    (sSeq (sWhile (dIsT (dBin gGt (dVar 3) (dC (.int 0))))
    (sPar 2 3 (dCons (dVar 3) (dCons (dBin gMod (dVar 2) (dVar 3)) dNil))))
    (sRet (dTup (dCons (dBin gDiv (dVar 0) (dVar 2)) (dCons (dBin gDiv (dVar 1) (dVar 2)) dNil))))))
noncomputable def F_l_low : List W → Sto → Out W := runB N_l_low.length m_l_low
/-! ### _law_plus -/
abbrev s_l_plus : Stmt := topS 36
abbrev N_l_plus : List Str := ["_law_one", "_law_other"]
abbrev p_l_plus : List Str := ["_law_one", "_law_other"]
theorem sc_l_plus : FnScope N_l_plus p_l_plus (defScope s_l_plus) := ⟨rfl, rfl, rfl, by decide +kernel, rfl, by decide +kernel, by decide +kernel⟩
noncomputable def m_l_plus : Fs :=
    (sRet (dCall F_l_low (dCons (dBin gAdd (dBin gMul (dBin gIx (dVar 0) (dC (.int 0))) (dBin gIx (dVar 1) (dC (.int 1)))) (dBin gMul (dBin gIx (dVar 1) (dC (.int 0))) (dBin gIx (dVar 0) (dC (.int 1))))) (dCons (dBin gMul (dBin gIx (dVar 0) (dC (.int 1))) (dBin gIx (dVar 1) (dC (.int 1)))) dNil))))
noncomputable def F_l_plus : List W → Sto → Out W := runB N_l_plus.length m_l_plus
/-! ### _law_minus -/
abbrev s_l_minus : Stmt := topS 37
abbrev N_l_minus : List Str := ["_law_one", "_law_other"]
abbrev p_l_minus : List Str := ["_law_one", "_law_other"]
theorem sc_l_minus : FnScope N_l_minus p_l_minus (defScope s_l_minus) := ⟨rfl, rfl, rfl, by decide +kernel, rfl, by decide +kernel, by decide +kernel⟩
noncomputable def m_l_minus : Fs :=
    (sRet (dCall F_l_low (dCons (dBin gSub (dBin gMul (dBin gIx (dVar 0) (dC (.int 0))) (dBin gIx (dVar 1) (dC (.int 1)))) (dBin gMul (dBin gIx (dVar 1) (dC (.int 0))) (dBin gIx (dVar 0) (dC (.int 1))))) (dCons (dBin gMul (dBin gIx (dVar 0) (dC (.int 1))) (dBin gIx (dVar 1) (dC (.int 1)))) dNil))))
noncomputable def F_l_minus : List W → Sto → Out W := runB N_l_minus.length m_l_minus
/-! ### _law_is_less -/
abbrev s_l_is_less : Stmt := topS 38
abbrev N_l_is_less : List Str := ["_law_one", "_law_other"]
abbrev p_l_is_less : List Str := ["_law_one", "_law_other"]
theorem sc_l_is_less : FnScope N_l_is_less p_l_is_less (defScope s_l_is_less) := ⟨rfl, rfl, rfl, by decide +kernel, rfl, by decide +kernel, by decide +kernel⟩
noncomputable def m_l_is_less : Fs :=
    (sRet (dBin gLt (dBin gMul (dBin gIx (dVar 0) (dC (.int 0))) (dBin gIx (dVar 1) (dC (.int 1)))) (dBin gMul (dBin gIx (dVar 1) (dC (.int 0))) (dBin gIx (dVar 0) (dC (.int 1))))))
noncomputable def F_l_is_less : List W → Sto → Out W := runB N_l_is_less.length m_l_is_less
/-! ### _law_point -/
abbrev s_l_point : Stmt := topS 39
abbrev N_l_point : List Str := ["_law_tape_here"]
abbrev p_l_point : List Str := ["_law_tape_here"]
theorem sc_l_point : FnScope N_l_point p_l_point (defScope s_l_point) := ⟨rfl, rfl, rfl, by decide +kernel, rfl, by decide +kernel, by decide +kernel⟩
noncomputable def m_l_point : Fs :=
    (sRet (dCall F_l_low (dCons (dBin gSub (dCall F_l_draw (dCons (dVar 0) (dCons (dC (.int 41)) dNil))) (dC (.int 20))) (dCons (dBin gIx (dData (dLst (dCons (dC (.int 1)) (dCons (dC (.int 1)) (dCons (dC (.int 2)) (dCons (dC (.int 3)) dNil)))))) (dCall F_l_draw (dCons (dVar 0) (dCons (dC (.int 4)) dNil)))) dNil))))
noncomputable def F_l_point : List W → Sto → Out W := runB N_l_point.length m_l_point
/-! ### _law_spans -/
abbrev s_l_spans : Stmt := topS 40
abbrev N_l_spans : List Str := ["_law_tape_here", "_law_most", "_law_found", "_law_k", "_law_low_here", "_law_wide", "_law_high"]
abbrev p_l_spans : List Str := ["_law_tape_here", "_law_most"]
theorem sc_l_spans : FnScope N_l_spans p_l_spans (defScope s_l_spans) := ⟨rfl, rfl, rfl, by decide +kernel, rfl, by decide +kernel, by decide +kernel⟩
noncomputable def m_l_spans : Fs :=
    (sSeq (sAsg (dCell (dLst dNil)) (gN 2))
    (sSeq (sFor (iRange1 (dCall F_l_draw (dCons (dVar 0) (dCons (dBin gAdd (dVar 1) (dC (.int 1))) dNil)))) (gN 3)
    (sSeq (sPar 4 5 (dCons (dCall F_l_point (dCons (dVar 0) dNil)) (dCons (dCall F_l_low (dCons (dCall F_l_draw (dCons (dVar 0) (dCons (dC (.int 13)) dNil))) (dCons (dBin gAdd (dC (.int 1)) (dCall F_l_draw (dCons (dVar 0) (dCons (dC (.int 2)) dNil)))) dNil))) dNil)))
    (sSeq (sAsg (dIf (dIsT (dBin gGt (dCall F_l_draw (dCons (dVar 0) (dCons (dC (.int 8)) dNil))) (dC (.int 0)))) (dCall F_l_plus (dCons (dVar 4) (dCons (dVar 5) dNil))) (dCall F_l_minus (dCons (dVar 4) (dCons (dVar 5) dNil)))) (gN 6))
    (sSeq (sPar 4 6 (dCons (dBin gIx (dData (dLst (dCons (dVar 4) (dCons (dVar 4) (dCons (dVar 4) (dCons (dVar 4) (dCons (dC .none) dNil))))))) (dCall F_l_draw (dCons (dVar 0) (dCons (dC (.int 5)) dNil)))) (dCons (dBin gIx (dData (dLst (dCons (dVar 6) (dCons (dVar 6) (dCons (dVar 6) (dCons (dVar 6) (dCons (dC .none) dNil))))))) (dCall F_l_draw (dCons (dVar 0) (dCons (dC (.int 5)) dNil)))) dNil)))
    (sDrop (dMt gApp (dVar 2) (dCons (dTup (dCons (dVar 4) (dCons (dVar 6) dNil))) dNil)))))))
    (sRet (dCB gTuple (dCons (dVar 2) dNil)))))
noncomputable def F_l_spans : List W → Sto → Out W := runB N_l_spans.length m_l_spans
/-! ### _law_is_in -/
abbrev s_l_is_in : Stmt := topS 41
abbrev N_l_is_in : List Str := ["_law_span", "_law_point_here", "_law_low_here", "_law_high"]
abbrev p_l_is_in : List Str := ["_law_span", "_law_point_here"]
theorem sc_l_is_in : FnScope N_l_is_in p_l_is_in (defScope s_l_is_in) := ⟨rfl, rfl, rfl, by decide +kernel, rfl, by decide +kernel, by decide +kernel⟩
noncomputable def m_l_is_in : Fs :=
    (sSeq (sAsg (dVar 0) (gT 2 (gsCons (gN 2) (gsCons (gN 3) gsNil))))
    (sRet (dAnd (dOr (dBin gIsN (dVar 2) (dC .none)) (dNot (dCall F_l_is_less (dCons (dVar 1) (dCons (dVar 2) dNil))))) (dOr (dBin gIsN (dVar 3) (dC .none)) (dNot (dCall F_l_is_less (dCons (dVar 3) (dCons (dVar 1) dNil))))))))
noncomputable def F_l_is_in : List W → Sto → Out W := runB N_l_is_in.length m_l_is_in
/-! ### _law_in -/
abbrev s_l_in : Stmt := topS 42
abbrev N_l_in : List Str := ["_law_spans_here", "_law_point_here", "_law_k"]
abbrev p_l_in : List Str := ["_law_spans_here", "_law_point_here"]
theorem sc_l_in : FnScope N_l_in p_l_in (defScope s_l_in) := ⟨rfl, rfl, rfl, by decide +kernel, rfl, by decide +kernel, by decide +kernel⟩
noncomputable def m_l_in : Fs :=
    (sRet (dData (dLc (iRange1 (dCB gLen (dCons (dVar 0) dNil))) (gN 2) (dTru (dCall F_l_is_in (dCons (dBin gIx (dVar 0) (dVar 2)) (dCons (dVar 1) dNil)))) (dVar 2) [2])))
noncomputable def F_l_in : List W → Sto → Out W := runB N_l_in.length m_l_in
/-! ### _law_let -/
abbrev s_l_let : Stmt := topS 43
abbrev N_l_let : List Str := ["_law_spans_here", "_law_thing", "_law_untrue", "_law_found"]
abbrev p_l_let : List Str := ["_law_spans_here", "_law_thing", "_law_untrue"]
theorem sc_l_let : FnScope N_l_let p_l_let (defScope s_l_let) := ⟨rfl, rfl, rfl, by decide +kernel, rfl, by decide +kernel, by decide +kernel⟩
noncomputable def m_l_let : Fs :=
    (sSeq (sAsg (dC .none) (gN 3))
    (sSeq (sTry0 [C_NoPaper] [C_Lied] (sAsg (dCallW F_lets_cover (dCons (dVar 0) (dCons (dVar 1) dNil)) (dVar 2)) (gN 3))
    (sAsg (dC .none) (gN 3)))
    (sRet (dVar 3))))
noncomputable def F_l_let : List W → Sto → Out W := runB N_l_let.length m_l_let
/-! ### _law_told -/
abbrev s_l_told : Stmt := topS 44
abbrev N_l_told : List Str := ["_law_spans_here", "_law_untrue", "_law_found"]
abbrev p_l_told : List Str := ["_law_spans_here", "_law_untrue"]
theorem sc_l_told : FnScope N_l_told p_l_told (defScope s_l_told) := ⟨rfl, rfl, rfl, by decide +kernel, rfl, by decide +kernel, by decide +kernel⟩
noncomputable def m_l_told : Fs :=
    (sSeq (sAsg (dC .none) (gN 2))
    (sSeq (sTry0 [C_Lied] [C_NoPaper] (sAsg (dCallW F_by_majority (dCons (dVar 0) dNil) (dVar 1)) (gN 2))
    (sAsg (dC .none) (gN 2)))
    (sRet (dVar 2))))
noncomputable def F_l_told : List W → Sto → Out W := runB N_l_told.length m_l_told
/-! ### law -/
abbrev s_law : Stmt := topS 45
abbrev N_law : List Str := ["_law_script", "_law_tape_here", "_law_turn", "_law_spans_here", "_law_others", "_law_untrue", "_law_told_here", "_law_papers", "_law_some", "_law_many", "_law_k", "_law_low_here", "_law_high", "_law_one", "_law_two", "_law_thing", "_law_found", "_law_wanted"]
abbrev p_law : List Str := ["_law_script"]
theorem sc_law : FnScope N_law p_law (defScope s_law) := ⟨rfl, rfl, rfl, by decide +kernel, rfl, by decide +kernel, by decide +kernel⟩
noncomputable def m_law : Fs :=
    (sSeq (sAsg (dCall F_l_tape (dCons (dVar 0) dNil)) (gN 1))
    (sSeq (sFor (iRange1 (dC (.int 4))) (gN 2)
    (sSeq (sPar 3 4 (dCons (dCall F_l_spans (dCons (dVar 1) (dCons (dC (.int 8)) dNil))) (dCons (dCall F_l_spans (dCons (dVar 1) (dCons (dC (.int 8)) dNil))) dNil)))
    (sSeq (sAsg (dCall F_l_draw (dCons (dVar 1) (dCons (dBin gAdd (dCB gLen (dCons (dVar 3) dNil)) (dC (.int 1))) dNil))) (gN 5))
    (sSeq (sPar 6 7 (dCons (dCall F_l_told (dCons (dVar 3) (dCons (dVar 5) dNil))) (dCons (dCell (dLst dNil)) dNil)))
    (sSeq (sFor (iSeq (dData (dLst (dCons (dTup (dCons (dVar 3) (dCons (dVar 5) dNil))) (dCons (dTup (dCons (dVar 4) (dCons (dVar 5) dNil))) (dCons (dTup (dCons (dVar 3) (dCons (dBin gAdd (dVar 5) (dC (.int 1))) dNil))) (dCons (dTup (dCons (dVar 3) (dCons (dCB gLen (dCons (dVar 3) dNil)) dNil))) dNil))))))) (gT 2 (gsCons (gN 8) (gsCons (gN 9) gsNil)))
    (sIf (dIsT (dBin gNotN (dCall F_l_told (dCons (dVar 8) (dCons (dVar 9) dNil))) (dC .none)))
    (sDrop (dMt gApp (dVar 7) (dCons (dCallW F_cover_paper (dCons (dVar 8) dNil) (dVar 9)) dNil)))
    sNx))
    (sSeq (sFor (iRange1 (dC (.int 6))) (gN 10)
    (sSeq (sAsg (dBin gIx (dVar 7) (dCall F_l_draw (dCons (dVar 1) (dCons (dCB gLen (dCons (dVar 7) dNil)) dNil)))) (gT 4 (gsCons (gN 11) (gsCons (gN 12) (gsCons (gN 13) (gsCons (gN 14) gsNil))))))
    (sSeq (sAsg (dBin gIx (dData (dLst (dCons (dVar 11) (dCons (dVar 11) (dCons (dC .none) (dCons (dCall F_l_point (dCons (dVar 1) dNil)) dNil)))))) (dCall F_l_draw (dCons (dVar 1) (dCons (dC (.int 4)) dNil)))) (gN 11))
    (sSeq (sAsg (dBin gIx (dData (dLst (dCons (dVar 12) (dCons (dVar 12) (dCons (dC .none) (dCons (dCall F_l_point (dCons (dVar 1) dNil)) dNil)))))) (dCall F_l_draw (dCons (dVar 1) (dCons (dC (.int 4)) dNil)))) (gN 12))
    (sSeq (sDrop (dMt gApp (dVar 7) (dCons (dTup (dCons (dVar 11) (dCons (dVar 12) (dCons (dSl (dVar 13) (oSome (dCall F_l_draw (dCons (dVar 1) (dCons (dC (.int 2)) dNil)))) oNone) (dCons (dVar 14) dNil))))) dNil)))
    (sSeq (sDrop (dMt gApp (dVar 7) (dCons (dTup (dCons (dVar 11) (dCons (dVar 12) (dCons (dIf (dIsT (dBin gIsN (dVar 11) (dC .none))) (dTup dNil) (dCB gTuple (dCons (dCall F_l_in (dCons (dVar 3) (dCons (dVar 11) dNil))) dNil))) (dCons (dVar 14) dNil))))) dNil)))
    (sDrop (dMt gApp (dVar 7) (dCons (dTup (dCons (dVar 11) (dCons (dVar 12) (dCons (dVar 13) (dCons (dIf (dIsT (dBin gIsN (dVar 12) (dC .none))) (dTup dNil) (dCB gTuple (dCons (dCall F_l_in (dCons (dVar 3) (dCons (dVar 12) dNil))) dNil))) dNil))))) dNil)))))))))
    (sSeq (sFor (iSeq (dVar 7)) (gN 15)
    (sSeq (sAsg (dCall F_l_let (dCons (dVar 3) (dCons (dVar 15) (dCons (dVar 5) dNil)))) (gN 16))
    (sIf (dAndT (dIsT (dBin gNotN (dVar 16) (dC .none))) (dIsT (dBin gNe (dVar 16) (dVar 6))))
    (sRet (dC (.bool false)))
    sNx)))
    (sIf (dIsT (dBin gNotN (dVar 6) (dC .none)))
    (sSeq (sAsg (dCallW F_cover_paper (dCons (dVar 3) dNil) (dVar 5)) (gT 4 (gsCons (gN 11) (gsCons (gN 12) (gsCons (gN 13) (gsCons (gN 14) gsNil))))))
    (sSeq (sAsg (dCB gMax2I (dCons (dC (.int 0)) (dCons (dBin gSub (dCB gLen (dCons (dVar 3) dNil)) (dVar 5)) dNil))) (gN 17))
    (sSeq (sAsg (dIf (dIsT (dBin gNotN (dVar 11) (dC .none))) (dSl (dVar 13) (oSome (dBin gSub (dCB gLen (dCons (dVar 13) dNil)) (dVar 17))) oNone) (dTup dNil)) (gN 13))
    (sSeq (sAsg (dIf (dIsT (dBin gNotN (dVar 12) (dC .none))) (dSl (dVar 14) oNone (oSome (dVar 17))) (dTup dNil)) (gN 14))
    (sIf (dIsT (dBin gNe (dCall F_l_let (dCons (dVar 3) (dCons (dTup (dCons (dVar 11) (dCons (dVar 12) (dCons (dVar 13) (dCons (dVar 14) dNil))))) (dCons (dVar 5) dNil)))) (dVar 6)))
    (sRet (dC (.bool false)))
    sNx)))))
    sNx))))))))
    (sRet (dC (.bool true)))))
noncomputable def F_law : List W → Sto → Out W := runB N_law.length m_law
section
variable {P : Program} {w : World} {K : PySem.W.Frag} {mg : Str → Option Value} {base : Heap}
theorem okF_is_number {f : Addr} {fd : FuncData} (F : Fun K "is_number" "is_number" s_is_number f fd) (B : Bt mg) : FnD P w K mg base 1 f fd p_is_number F_is_number := by
    refine okD (k := 0) (N := N_is_number) F sc_is_number fun cdv A outer s H E hr hg => ?_
    have nd := sc_is_number.nd
    exact (dss_one (ds_ret (de_and (de_isi (Tn := "int") kits_int (de_var 0 (pv 0)) (pe_bltn (by rfl) B.z_int (by decide +kernel) rfl) (fun h => pe_callB call_isi (by rfl) B.z_isinstance (by decide +kernel) h)) (de_one (de_not (de_isi (Tn := "bool") kits_bool (de_var 0 (pv 0)) (pe_bltn (by rfl) B.z_bool (by decide +kernel) rfl) (fun h => pe_callB call_isi (by rfl) B.z_isinstance (by decide +kernel) h)))))))
theorem ok_is_number {f : Addr} {fd : FuncData} (hx : mg "is_number" = some (.ref f)) (F : Fun K "is_number" "is_number" s_is_number f fd) (b : Binds K fd p_is_number []) (B : Bt mg) : Df P w K mg base "is_number" 1 p_is_number F_is_number :=
  ⟨f, fd, hx, F.kp, b, okF_is_number F B⟩
theorem okF_common_divisor {f : Addr} {fd : FuncData} (F : Fun K "common_divisor" "common_divisor" s_common_divisor f fd) (B : Bt mg) : FnD P w K mg base 1 f fd p_common_divisor F_common_divisor := by
    refine okD (k := 0) (N := N_common_divisor) F sc_common_divisor fun cdv A outer s H E hr hg => ?_
    have nd := sc_common_divisor.nd
    exact (dss_cons (ds_while (passes_of (by rfl)) (dt_cmp (op_neD hr.units) od_ne (de_var 1 (pv 1)) de_int (nomark _))
    (dss_one (ds_par (ps_par (i := 0) (j := 1) (by rfl) nd (by rfl) (by rfl) (by decide) (by rfl) (by rfl) (da_cons (de_var 1 (pv 1)) (da_cons (de_bin op_modN od_mod (de_var 0 (pv 0)) (de_var 1 (pv 1))) da_nil)) (by rfl)))))
    (dss_one (ds_ret (de_var 0 (pv 0)))))
theorem ok_common_divisor {f : Addr} {fd : FuncData} (hx : mg "common_divisor" = some (.ref f)) (F : Fun K "common_divisor" "common_divisor" s_common_divisor f fd) (b : Binds K fd p_common_divisor []) (B : Bt mg) : Df P w K mg base "common_divisor" 1 p_common_divisor F_common_divisor :=
  ⟨f, fd, hx, F.kp, b, okF_common_divisor F B⟩
theorem okF_is_fraction {f : Addr} {fd : FuncData} (F : Fun K "is_fraction" "is_fraction" s_is_fraction f fd) (B : Bt mg) (D_is_number : Df P w K mg base "is_number" 1 p_is_number F_is_number) (D_common_divisor : Df P w K mg base "common_divisor" 1 p_common_divisor F_common_divisor) : FnD P w K mg base 2 f fd p_is_fraction F_is_fraction := by
    have D_is_number := D_is_number.mono (show _ ≤ 1 by omega)
    have D_common_divisor := D_common_divisor.mono (show _ ≤ 1 by omega)
    refine okD (k := 1) (N := N_is_fraction) F sc_is_fraction fun cdv A outer s H E hr hg => ?_
    have nd := sc_is_fraction.nd
    exact (dss_cons (ds_if (DW.pt (dw_or (dt_not (dt_tru (de_isi (Tn := "tuple") kits_tuple (de_var 0 (pv 0)) (pe_bltn (by rfl) B.z_tuple (by decide +kernel) rfl) (fun h => pe_callB call_isi (by rfl) B.z_isinstance (by decide +kernel) h)) (fun _ => rfl))) (dw_or (dt_cmp (op_neD hr.units) od_ne (de_cB cd_len (pe_callB call_len (by rfl) B.z_len (by decide +kernel) (da_cons (de_var 0 (pv 0)) da_nil))) de_int (nomark _)) (dw_or1 (dt_not (dt_tru (de_cB cd_all (pe_callB (cr_all (by rfl)) (by rfl) B.z_all (by decide +kernel) (da_cons (de_data (df_lcX [("one", 1)] ([1]) (by rfl) nd (by rfl) (by decide) (blkOk_by (N := N_is_fraction) (sc := defScope s_is_fraction) (by decide +kernel)) (fun _ => rfl) (di_tup (de_var 0 (pv 0))) (fun _ _ _ _ _ => (dg_name (pg_name (i := 1) nd (by rfl) (Or.inl (by rfl))))) (fun _ _ _ _ _ => dts_nil) (fun _ _ _ _ _ => (de_callD D_is_number hr hg takes0 (by rfl) (by rfl) (da_cons (de_var 1 (pv 1)) da_nil) (len_cons len_nil))))) da_nil))) (fun _ => rfl)))))))
    (dss_one (ds_ret de_bl))
    dss_nil)
    (dss_one (ds_ret (de_and (de_cmp op_gt od_gt (de_ix ix_seq od_ix (de_var 0 (pv 0)) de_int (fun _ _ => rfl)) de_int (nomark _)) (de_one (de_cmp (op_eqD hr.units) od_eq (de_callD D_common_divisor hr hg (takes_of (by rfl) (by rfl) (by rfl) (by rfl)) (by rfl) (by rfl) (da_cons (de_cB cd_abs (pe_callB call_abs (by rfl) B.z_abs (by decide +kernel) (da_cons (de_ix ix_seq od_ix (de_var 0 (pv 0)) de_int (fun _ _ => rfl)) da_nil))) (da_cons (de_ix ix_seq od_ix (de_var 0 (pv 0)) de_int (fun _ _ => rfl)) da_nil)) (len_cons (len_cons len_nil))) de_int (nomark _)))))))
theorem ok_is_fraction {f : Addr} {fd : FuncData} (hx : mg "is_fraction" = some (.ref f)) (F : Fun K "is_fraction" "is_fraction" s_is_fraction f fd) (b : Binds K fd p_is_fraction []) (B : Bt mg) (D_is_number : Df P w K mg base "is_number" 1 p_is_number F_is_number) (D_common_divisor : Df P w K mg base "common_divisor" 1 p_common_divisor F_common_divisor) : Df P w K mg base "is_fraction" 2 p_is_fraction F_is_fraction :=
  ⟨f, fd, hx, F.kp, b, okF_is_fraction F B D_is_number D_common_divisor⟩
theorem okF_ratio {f : Addr} {fd : FuncData} (F : Fun K "ratio" "ratio" s_ratio f fd) (B : Bt mg) (D_common_divisor : Df P w K mg base "common_divisor" 1 p_common_divisor F_common_divisor) : FnD P w K mg base 2 f fd p_ratio F_ratio := by
    have D_common_divisor := D_common_divisor.mono (show _ ≤ 1 by omega)
    refine okD (k := 1) (N := N_ratio) F sc_ratio fun cdv A outer s H E hr hg => ?_
    have nd := sc_ratio.nd
    exact (dss_cons (ds_set (ps_set (i := 2) nd (by rfl) (Or.inl (by rfl)) (de_callD D_common_divisor hr hg (takes_of (by rfl) (by rfl) (by rfl) (by rfl)) (by rfl) (by rfl) (da_cons (de_cB cd_abs (pe_callB call_abs (by rfl) B.z_abs (by decide +kernel) (da_cons (de_var 0 (pv 0)) da_nil))) (da_cons (de_cB cd_abs (pe_callB call_abs (by rfl) B.z_abs (by decide +kernel) (da_cons (de_var 1 (pv 1)) da_nil))) da_nil)) (len_cons (len_cons len_nil)))))
    (dss_cons (ds_if (dt_cmp op_lt od_lt (de_var 1 (pv 1)) de_int (nomark _))
    (dss_one (ds_set (ps_set (i := 2) nd (by rfl) (Or.inl (by rfl)) (de_bin op_sub od_sub de_int (de_var 2 (pv 2))))))
    dss_nil)
    (dss_one (ds_ret (de_tup (da_cons (de_bin or_divA od_divA (de_var 0 (pv 0)) (de_var 2 (pv 2))) (da_cons (de_bin or_divA od_divA (de_var 1 (pv 1)) (de_var 2 (pv 2))) da_nil)))))))
theorem ok_ratio {f : Addr} {fd : FuncData} (hx : mg "ratio" = some (.ref f)) (F : Fun K "ratio" "ratio" s_ratio f fd) (b : Binds K fd p_ratio []) (B : Bt mg) (D_common_divisor : Df P w K mg base "common_divisor" 1 p_common_divisor F_common_divisor) : Df P w K mg base "ratio" 2 p_ratio F_ratio :=
  ⟨f, fd, hx, F.kp, b, okF_ratio F B D_common_divisor⟩
theorem okF_added {f : Addr} {fd : FuncData} (F : Fun K "added" "added" s_added f fd) (B : Bt mg) (D_ratio : Df P w K mg base "ratio" 2 p_ratio F_ratio) : FnD P w K mg base 3 f fd p_added F_added := by
    have D_ratio := D_ratio.mono (show _ ≤ 2 by omega)
    refine okD (k := 2) (N := N_added) F sc_added fun cdv A outer s H E hr hg => ?_
    have nd := sc_added.nd
    exact (dss_one (ds_ret (de_callD D_ratio hr hg (takes_of (by rfl) (by rfl) (by rfl) (by rfl)) (by rfl) (by rfl) (da_cons (de_bin or_add od_add (de_bin op_mulW od_mul (de_ix ix_seq od_ix (de_var 0 (pv 0)) de_int (fun _ _ => rfl)) (de_ix ix_seq od_ix (de_var 1 (pv 1)) de_int (fun _ _ => rfl))) (de_bin op_mulW od_mul (de_ix ix_seq od_ix (de_var 1 (pv 1)) de_int (fun _ _ => rfl)) (de_ix ix_seq od_ix (de_var 0 (pv 0)) de_int (fun _ _ => rfl)))) (da_cons (de_bin op_mulW od_mul (de_ix ix_seq od_ix (de_var 0 (pv 0)) de_int (fun _ _ => rfl)) (de_ix ix_seq od_ix (de_var 1 (pv 1)) de_int (fun _ _ => rfl))) da_nil)) (len_cons (len_cons len_nil)))))
theorem ok_added {f : Addr} {fd : FuncData} (hx : mg "added" = some (.ref f)) (F : Fun K "added" "added" s_added f fd) (b : Binds K fd p_added []) (B : Bt mg) (D_ratio : Df P w K mg base "ratio" 2 p_ratio F_ratio) : Df P w K mg base "added" 3 p_added F_added :=
  ⟨f, fd, hx, F.kp, b, okF_added F B D_ratio⟩
theorem okF_less {f : Addr} {fd : FuncData} (F : Fun K "less" "less" s_less f fd) (B : Bt mg) (D_ratio : Df P w K mg base "ratio" 2 p_ratio F_ratio) : FnD P w K mg base 3 f fd p_less F_less := by
    have D_ratio := D_ratio.mono (show _ ≤ 2 by omega)
    refine okD (k := 2) (N := N_less) F sc_less fun cdv A outer s H E hr hg => ?_
    have nd := sc_less.nd
    exact (dss_one (ds_ret (de_callD D_ratio hr hg (takes_of (by rfl) (by rfl) (by rfl) (by rfl)) (by rfl) (by rfl) (da_cons (de_bin op_sub od_sub (de_bin op_mulW od_mul (de_ix ix_seq od_ix (de_var 0 (pv 0)) de_int (fun _ _ => rfl)) (de_ix ix_seq od_ix (de_var 1 (pv 1)) de_int (fun _ _ => rfl))) (de_bin op_mulW od_mul (de_ix ix_seq od_ix (de_var 1 (pv 1)) de_int (fun _ _ => rfl)) (de_ix ix_seq od_ix (de_var 0 (pv 0)) de_int (fun _ _ => rfl)))) (da_cons (de_bin op_mulW od_mul (de_ix ix_seq od_ix (de_var 0 (pv 0)) de_int (fun _ _ => rfl)) (de_ix ix_seq od_ix (de_var 1 (pv 1)) de_int (fun _ _ => rfl))) da_nil)) (len_cons (len_cons len_nil)))))
theorem ok_less {f : Addr} {fd : FuncData} (hx : mg "less" = some (.ref f)) (F : Fun K "less" "less" s_less f fd) (b : Binds K fd p_less []) (B : Bt mg) (D_ratio : Df P w K mg base "ratio" 2 p_ratio F_ratio) : Df P w K mg base "less" 3 p_less F_less :=
  ⟨f, fd, hx, F.kp, b, okF_less F B D_ratio⟩
theorem okF_is_below {f : Addr} {fd : FuncData} (F : Fun K "is_below" "is_below" s_is_below f fd) (B : Bt mg) : FnD P w K mg base 1 f fd p_is_below F_is_below := by
    refine okD (k := 0) (N := N_is_below) F sc_is_below fun cdv A outer s H E hr hg => ?_
    have nd := sc_is_below.nd
    exact (dss_one (ds_ret (de_cmp op_lt od_lt (de_bin op_mulW od_mul (de_ix ix_seq od_ix (de_var 0 (pv 0)) de_int (fun _ _ => rfl)) (de_ix ix_seq od_ix (de_var 1 (pv 1)) de_int (fun _ _ => rfl))) (de_bin op_mulW od_mul (de_ix ix_seq od_ix (de_var 1 (pv 1)) de_int (fun _ _ => rfl)) (de_ix ix_seq od_ix (de_var 0 (pv 0)) de_int (fun _ _ => rfl))) (nomark _))))
theorem ok_is_below {f : Addr} {fd : FuncData} (hx : mg "is_below" = some (.ref f)) (F : Fun K "is_below" "is_below" s_is_below f fd) (b : Binds K fd p_is_below []) (B : Bt mg) : Df P w K mg base "is_below" 1 p_is_below F_is_below :=
  ⟨f, fd, hx, F.kp, b, okF_is_below F B⟩
theorem okF_is_in {f : Addr} {fd : FuncData} (F : Fun K "is_in" "is_in" s_is_in f fd) (B : Bt mg) (D_is_below : Df P w K mg base "is_below" 1 p_is_below F_is_below) : FnD P w K mg base 2 f fd p_is_in F_is_in := by
    have D_is_below := D_is_below.mono (show _ ≤ 1 by omega)
    refine okD (k := 1) (N := N_is_in) F sc_is_in fun cdv A outer s H E hr hg => ?_
    have nd := sc_is_in.nd
    exact (dss_cons (ds_asg (sl := (([2] ++ ([3] ++ [])))) (de_var 0 (pv 0)) (dg_tup (by rfl) (dgs_cons (dg_name (pg_name (i := 2) nd (by rfl) (Or.inl (by rfl)))) (dgs_cons (dg_name (pg_name (i := 3) nd (by rfl) (Or.inl (by rfl)))) dgs_nil))))
    (dss_one (ds_ret (de_and (de_not (de_and (de_cmp op_notN od_notN (de_var 2 (pv 2)) de_non (nomark _)) (de_one (de_callD D_is_below hr hg (takes_of (by rfl) (by rfl) (by rfl) (by rfl)) (by rfl) (by rfl) (da_cons (de_var 1 (pv 1)) (da_cons (de_var 2 (pv 2)) da_nil)) (len_cons (len_cons len_nil)))))) (de_one (de_not (de_and (de_cmp op_notN od_notN (de_var 3 (pv 3)) de_non (nomark _)) (de_one (de_callD D_is_below hr hg (takes_of (by rfl) (by rfl) (by rfl) (by rfl)) (by rfl) (by rfl) (da_cons (de_var 3 (pv 3)) (da_cons (de_var 1 (pv 1)) da_nil)) (len_cons (len_cons len_nil)))))))))))
theorem ok_is_in {f : Addr} {fd : FuncData} (hx : mg "is_in" = some (.ref f)) (F : Fun K "is_in" "is_in" s_is_in f fd) (b : Binds K fd p_is_in []) (B : Bt mg) (D_is_below : Df P w K mg base "is_below" 1 p_is_below F_is_below) : Df P w K mg base "is_in" 2 p_is_in F_is_in :=
  ⟨f, fd, hx, F.kp, b, okF_is_in F B D_is_below⟩
theorem okF_numbers_in {f : Addr} {fd : FuncData} (F : Fun K "numbers_in" "numbers_in" s_numbers_in f fd) (B : Bt mg) (D_is_in : Df P w K mg base "is_in" 2 p_is_in F_is_in) : FnD P w K mg base 3 f fd p_numbers_in F_numbers_in := by
    have D_is_in := D_is_in.mono (show _ ≤ 2 by omega)
    refine okD (k := 2) (N := N_numbers_in) F sc_numbers_in fun cdv A outer s H E hr hg => ?_
    have nd := sc_numbers_in.nd
    exact (dss_one (ds_ret (de_cB cd_tuple (pe_callTy call_tuple_of (by rfl) B.z_tuple (by decide +kernel) (da_cons (de_data (df_lcX [("k", 2), ("span", 3)] ((([2] ++ ([3] ++ [])))) (by rfl) nd (by rfl) (by decide) (blkOk_by (N := N_numbers_in) (sc := defScope s_numbers_in) (by decide +kernel)) (fun _ => rfl) (di_enumT (pi_enumT (by rfl) B.z_enumerate (da_cons (de_var 0 (pv 0)) da_nil))) (fun _ _ _ _ _ => (dg_tup (by rfl) (dgs_cons (dg_name (pg_name (i := 2) nd (by rfl) (Or.inl (by rfl)))) (dgs_cons (dg_name (pg_name (i := 3) nd (by rfl) (Or.inl (by rfl)))) dgs_nil)))) (fun _ _ _ _ _ => (dts_one (dt_tru (de_callD D_is_in hr hg takes0 (by rfl) (by rfl) (da_cons (de_var 3 (pv 3)) (da_cons (de_var 1 (pv 1)) da_nil)) (len_cons (len_cons len_nil))) (fun _ => rfl)))) (fun _ _ _ _ _ => (de_var 2 (pv 2))))) da_nil)))))
theorem ok_numbers_in {f : Addr} {fd : FuncData} (hx : mg "numbers_in" = some (.ref f)) (F : Fun K "numbers_in" "numbers_in" s_numbers_in f fd) (b : Binds K fd p_numbers_in []) (B : Bt mg) (D_is_in : Df P w K mg base "is_in" 2 p_is_in F_is_in) : Df P w K mg base "numbers_in" 3 p_numbers_in F_numbers_in :=
  ⟨f, fd, hx, F.kp, b, okF_numbers_in F B D_is_in⟩
theorem okF_count_in {f : Addr} {fd : FuncData} (F : Fun K "count_in" "count_in" s_count_in f fd) (B : Bt mg) (D_numbers_in : Df P w K mg base "numbers_in" 3 p_numbers_in F_numbers_in) : FnD P w K mg base 4 f fd p_count_in F_count_in := by
    have D_numbers_in := D_numbers_in.mono (show _ ≤ 3 by omega)
    refine okD (k := 3) (N := N_count_in) F sc_count_in fun cdv A outer s H E hr hg => ?_
    have nd := sc_count_in.nd
    exact (dss_one (ds_ret (de_cB cd_len (pe_callB call_len (by rfl) B.z_len (by decide +kernel) (da_cons (de_callD D_numbers_in hr hg (takes_of (by rfl) (by rfl) (by rfl) (by rfl)) (by rfl) (by rfl) (da_cons (de_var 0 (pv 0)) (da_cons (de_var 1 (pv 1)) da_nil)) (len_cons (len_cons len_nil))) da_nil)))))
theorem ok_count_in {f : Addr} {fd : FuncData} (hx : mg "count_in" = some (.ref f)) (F : Fun K "count_in" "count_in" s_count_in f fd) (b : Binds K fd p_count_in []) (B : Bt mg) (D_numbers_in : Df P w K mg base "numbers_in" 3 p_numbers_in F_numbers_in) : Df P w K mg base "count_in" 4 p_count_in F_count_in :=
  ⟨f, fd, hx, F.kp, b, okF_count_in F B D_numbers_in⟩
theorem okF_least_of {f : Addr} {fd : FuncData} (F : Fun K "least_of" "least_of" s_least_of f fd) (B : Bt mg) (D_is_below : Df P w K mg base "is_below" 1 p_is_below F_is_below) : FnD P w K mg base 2 f fd p_least_of F_least_of := by
    have D_is_below := D_is_below.mono (show _ ≤ 1 by omega)
    refine okD (k := 1) (N := N_least_of) F sc_least_of fun cdv A outer s H E hr hg => ?_
    have nd := sc_least_of.nd
    exact (dss_cons (ds_set (ps_set (i := 1) nd (by rfl) (Or.inl (by rfl)) (de_ix ix_seq od_ix (de_var 0 (pv 0)) de_int (fun _ _ => rfl))))
    (dss_cons (ds_for (sl := [2]) (passes_of (by rfl)) (by rfl) (di_seq (de_var 0 (pv 0))) (dg_name (pg_name (i := 2) nd (by rfl) (Or.inl (by rfl))))
    (dss_one (ds_set (ps_set (i := 1) nd (by rfl) (Or.inl (by rfl)) (de_if (dt_tru (de_callD D_is_below hr hg (takes_of (by rfl) (by rfl) (by rfl) (by rfl)) (by rfl) (by rfl) (da_cons (de_var 2 (pv 2)) (da_cons (de_var 1 (pv 1)) da_nil)) (len_cons (len_cons len_nil))) (fun _ => rfl)) (de_var 2 (pv 2)) (de_var 1 (pv 1)))))))
    (dss_one (ds_ret (de_var 1 (pv 1))))))
theorem ok_least_of {f : Addr} {fd : FuncData} (hx : mg "least_of" = some (.ref f)) (F : Fun K "least_of" "least_of" s_least_of f fd) (b : Binds K fd p_least_of []) (B : Bt mg) (D_is_below : Df P w K mg base "is_below" 1 p_is_below F_is_below) : Df P w K mg base "least_of" 2 p_least_of F_least_of :=
  ⟨f, fd, hx, F.kp, b, okF_least_of F B D_is_below⟩
theorem okF_greatest_of {f : Addr} {fd : FuncData} (F : Fun K "greatest_of" "greatest_of" s_greatest_of f fd) (B : Bt mg) (D_is_below : Df P w K mg base "is_below" 1 p_is_below F_is_below) : FnD P w K mg base 2 f fd p_greatest_of F_greatest_of := by
    have D_is_below := D_is_below.mono (show _ ≤ 1 by omega)
    refine okD (k := 1) (N := N_greatest_of) F sc_greatest_of fun cdv A outer s H E hr hg => ?_
    have nd := sc_greatest_of.nd
    exact (dss_cons (ds_set (ps_set (i := 1) nd (by rfl) (Or.inl (by rfl)) (de_ix ix_seq od_ix (de_var 0 (pv 0)) de_int (fun _ _ => rfl))))
    (dss_cons (ds_for (sl := [2]) (passes_of (by rfl)) (by rfl) (di_seq (de_var 0 (pv 0))) (dg_name (pg_name (i := 2) nd (by rfl) (Or.inl (by rfl))))
    (dss_one (ds_set (ps_set (i := 1) nd (by rfl) (Or.inl (by rfl)) (de_if (dt_tru (de_callD D_is_below hr hg (takes_of (by rfl) (by rfl) (by rfl) (by rfl)) (by rfl) (by rfl) (da_cons (de_var 1 (pv 1)) (da_cons (de_var 2 (pv 2)) da_nil)) (len_cons (len_cons len_nil))) (fun _ => rfl)) (de_var 2 (pv 2)) (de_var 1 (pv 1)))))))
    (dss_one (ds_ret (de_var 1 (pv 1))))))
theorem ok_greatest_of {f : Addr} {fd : FuncData} (hx : mg "greatest_of" = some (.ref f)) (F : Fun K "greatest_of" "greatest_of" s_greatest_of f fd) (b : Binds K fd p_greatest_of []) (B : Bt mg) (D_is_below : Df P w K mg base "is_below" 1 p_is_below F_is_below) : Df P w K mg base "greatest_of" 2 p_greatest_of F_greatest_of :=
  ⟨f, fd, hx, F.kp, b, okF_greatest_of F B D_is_below⟩
theorem okF_ends_of {f : Addr} {fd : FuncData} (F : Fun K "ends_of" "ends_of" s_ends_of f fd) (B : Bt mg) : FnD P w K mg base 1 f fd p_ends_of F_ends_of := by
    refine okD (k := 0) (N := N_ends_of) F sc_ends_of fun cdv A outer s H E hr hg => ?_
    have nd := sc_ends_of.nd
    exact (dss_one (ds_ret (de_data (df_lc2X [("span", 1), ("end", 2)] ([1]) ([2]) [2] (by rfl) nd (by rfl) (by decide) (by decide) (by decide) (blkOk_by (N := N_ends_of) (sc := defScope s_ends_of) (by decide +kernel)) (fun _ => rfl) (fun _ _ => rfl) (di_tup (de_var 0 (pv 0))) (fun _ _ _ _ _ => (dg_name (pg_name (i := 1) nd (by rfl) (Or.inl (by rfl))))) (fun _ _ _ _ _ => dts_nil) (fun _ _ _ _ _ => (di0_tup (de_var 1 (pv 1)))) (fun _ _ _ _ _ => (dg_name (pg_name (i := 2) nd (by rfl) (Or.inl (by rfl))))) (fun _ _ _ _ _ => (dts_one (dt_cmp op_notN od_notN (de_var 2 (pv 2)) de_non (nomark _)))) (fun _ _ _ _ _ => (de_var 2 (pv 2)))))))
theorem ok_ends_of {f : Addr} {fd : FuncData} (hx : mg "ends_of" = some (.ref f)) (F : Fun K "ends_of" "ends_of" s_ends_of f fd) (b : Binds K fd p_ends_of []) (B : Bt mg) : Df P w K mg base "ends_of" 1 p_ends_of F_ends_of :=
  ⟨f, fd, hx, F.kp, b, okF_ends_of F B⟩
theorem okF_far_points {f : Addr} {fd : FuncData} (F : Fun K "far_points" "far_points" s_far_points f fd) (B : Bt mg) (C : Ct K mg) (D_ends_of : Df P w K mg base "ends_of" 1 p_ends_of F_ends_of) (D_less : Df P w K mg base "less" 3 p_less F_less) (D_least_of : Df P w K mg base "least_of" 2 p_least_of F_least_of) (D_added : Df P w K mg base "added" 3 p_added F_added) (D_greatest_of : Df P w K mg base "greatest_of" 2 p_greatest_of F_greatest_of) : FnD P w K mg base 4 f fd p_far_points F_far_points := by
    obtain ⟨cv_ONE, cu_ONE, C_m_ONE, C_r_ONE, C_d_ONE⟩ := C.g_ONE
    obtain ⟨cv_SOME, cu_SOME, C_m_SOME, C_r_SOME, C_d_SOME⟩ := C.g_SOME
    have D_ends_of := D_ends_of.mono (show _ ≤ 3 by omega)
    have D_less := D_less.mono (show _ ≤ 3 by omega)
    have D_least_of := D_least_of.mono (show _ ≤ 3 by omega)
    have D_added := D_added.mono (show _ ≤ 3 by omega)
    have D_greatest_of := D_greatest_of.mono (show _ ≤ 3 by omega)
    refine okD (k := 3) (N := N_far_points) F sc_far_points fun cdv A outer s H E hr hg => ?_
    have nd := sc_far_points.nd
    exact (dss_cons (ds_set (ps_set (i := 1) nd (by rfl) (Or.inl (by rfl)) (de_callD D_ends_of hr hg (takes_of (by rfl) (by rfl) (by rfl) (by rfl)) (by rfl) (by rfl) (da_cons (de_var 0 (pv 0)) da_nil) (len_cons len_nil))))
    (dss_cons (ds_if (dt_cmp (op_eqD hr.units) od_eq (de_var 1 (pv 1)) (de_data (df_lst da_nil)) (nomark _))
    (dss_one (ds_ret (de_tup (da_cons (de_const (pe_glob (by rfl) C_m_SOME C_r_SOME) fun F => C_d_SOME F) (da_cons (de_const (pe_glob (by rfl) C_m_SOME C_r_SOME) fun F => C_d_SOME F) da_nil)))))
    dss_nil)
    (dss_one (ds_ret (de_tup (da_cons (de_callD D_less hr hg (takes_of (by rfl) (by rfl) (by rfl) (by rfl)) (by rfl) (by rfl) (da_cons (de_callD D_least_of hr hg (takes_of (by rfl) (by rfl) (by rfl) (by rfl)) (by rfl) (by rfl) (da_cons (de_var 1 (pv 1)) da_nil) (len_cons len_nil)) (da_cons (de_const (pe_glob (by rfl) C_m_ONE C_r_ONE) fun F => C_d_ONE F) da_nil)) (len_cons (len_cons len_nil))) (da_cons (de_callD D_added hr hg (takes_of (by rfl) (by rfl) (by rfl) (by rfl)) (by rfl) (by rfl) (da_cons (de_callD D_greatest_of hr hg (takes_of (by rfl) (by rfl) (by rfl) (by rfl)) (by rfl) (by rfl) (da_cons (de_var 1 (pv 1)) da_nil) (len_cons len_nil)) (da_cons (de_const (pe_glob (by rfl) C_m_ONE C_r_ONE) fun F => C_d_ONE F) da_nil)) (len_cons (len_cons len_nil))) da_nil)))))))
theorem ok_far_points {f : Addr} {fd : FuncData} (hx : mg "far_points" = some (.ref f)) (F : Fun K "far_points" "far_points" s_far_points f fd) (b : Binds K fd p_far_points []) (B : Bt mg) (C : Ct K mg) (D_ends_of : Df P w K mg base "ends_of" 1 p_ends_of F_ends_of) (D_less : Df P w K mg base "less" 3 p_less F_less) (D_least_of : Df P w K mg base "least_of" 2 p_least_of F_least_of) (D_added : Df P w K mg base "added" 3 p_added F_added) (D_greatest_of : Df P w K mg base "greatest_of" 2 p_greatest_of F_greatest_of) : Df P w K mg base "far_points" 4 p_far_points F_far_points :=
  ⟨f, fd, hx, F.kp, b, okF_far_points F B C D_ends_of D_less D_least_of D_added D_greatest_of⟩
theorem okF_least_liars {f : Addr} {fd : FuncData} (F : Fun K "least_liars" "least_liars" s_least_liars f fd) (B : Bt mg) (D_far_points : Df P w K mg base "far_points" 4 p_far_points F_far_points) (D_ends_of : Df P w K mg base "ends_of" 1 p_ends_of F_ends_of) (D_count_in : Df P w K mg base "count_in" 4 p_count_in F_count_in) : FnD P w K mg base 5 f fd p_least_liars F_least_liars := by
    have D_far_points := D_far_points.mono (show _ ≤ 4 by omega)
    have D_ends_of := D_ends_of.mono (show _ ≤ 4 by omega)
    have D_count_in := D_count_in.mono (show _ ≤ 4 by omega)
    refine okD (k := 4) (N := N_least_liars) F sc_least_liars fun cdv A outer s H E hr hg => ?_
    have nd := sc_least_liars.nd
    exact (dss_cons (ds_asg (sl := (([1] ++ ([2] ++ [])))) (de_callD D_far_points hr hg (takes_of (by rfl) (by rfl) (by rfl) (by rfl)) (by rfl) (by rfl) (da_cons (de_var 0 (pv 0)) da_nil) (len_cons len_nil)) (dg_tup (by rfl) (dgs_cons (dg_name (pg_name (i := 1) nd (by rfl) (Or.inl (by rfl)))) (dgs_cons (dg_name (pg_name (i := 2) nd (by rfl) (Or.inl (by rfl)))) dgs_nil))))
    (dss_cons (ds_set (ps_set (i := 3) nd (by rfl) (Or.inl (by rfl)) (de_bin or_add od_add (de_callD D_ends_of hr hg (takes_of (by rfl) (by rfl) (by rfl) (by rfl)) (by rfl) (by rfl) (da_cons (de_var 0 (pv 0)) da_nil) (len_cons len_nil)) (de_data (df_lst (da_cons (de_var 1 (pv 1)) (da_cons (de_var 2 (pv 2)) da_nil)))))))
    (dss_one (ds_ret (de_bin op_sub od_sub (de_cB cd_len (pe_callB call_len (by rfl) B.z_len (by decide +kernel) (da_cons (de_var 0 (pv 0)) da_nil))) (de_cB cd_maxI (pe_callB (cr_max (by rfl)) (by rfl) B.z_max (by decide +kernel) (da_cons (de_data (df_lcX [("point", 4)] ([4]) (by rfl) nd (by rfl) (by decide) (blkOk_by (N := N_least_liars) (sc := defScope s_least_liars) (by decide +kernel)) (fun _ => rfl) (di_seq (de_var 3 (pv 3))) (fun _ _ _ _ _ => (dg_name (pg_name (i := 4) nd (by rfl) (Or.inl (by rfl))))) (fun _ _ _ _ _ => dts_nil) (fun _ _ _ _ _ => (de_callD D_count_in hr hg takes0 (by rfl) (by rfl) (da_cons (de_var 0 (pv 0)) (da_cons (de_var 4 (pv 4)) da_nil)) (len_cons (len_cons len_nil)))))) da_nil))))))))
theorem ok_least_liars {f : Addr} {fd : FuncData} (hx : mg "least_liars" = some (.ref f)) (F : Fun K "least_liars" "least_liars" s_least_liars f fd) (b : Binds K fd p_least_liars []) (B : Bt mg) (D_far_points : Df P w K mg base "far_points" 4 p_far_points F_far_points) (D_ends_of : Df P w K mg base "ends_of" 1 p_ends_of F_ends_of) (D_count_in : Df P w K mg base "count_in" 4 p_count_in F_count_in) : Df P w K mg base "least_liars" 5 p_least_liars F_least_liars :=
  ⟨f, fd, hx, F.kp, b, okF_least_liars F B D_far_points D_ends_of D_count_in⟩
theorem okF_by_majority {f : Addr} {fd : FuncData} {kws : List (Str × V)} (F : L2.FunD K "by_majority" "by_majority" (defArgs s_by_majority) (defBody s_by_majority) (defScope s_by_majority) [] kws f fd) (B : Bt mg) (XX : Xt P w K mg base) (D_least_liars : Df P w K mg base "least_liars" 5 p_least_liars F_least_liars) (D_far_points : Df P w K mg base "far_points" 4 p_far_points F_far_points) (D_ends_of : Df P w K mg base "ends_of" 1 p_ends_of F_ends_of) (D_count_in : Df P w K mg base "count_in" 4 p_count_in F_count_in) (D_least_of : Df P w K mg base "least_of" 2 p_least_of F_least_of) (D_greatest_of : Df P w K mg base "greatest_of" 2 p_greatest_of F_greatest_of) : FnD P w K mg base 6 f fd p_by_majority F_by_majority := by
    have D_least_liars := D_least_liars.mono (show _ ≤ 5 by omega)
    have D_far_points := D_far_points.mono (show _ ≤ 5 by omega)
    have D_ends_of := D_ends_of.mono (show _ ≤ 5 by omega)
    have D_count_in := D_count_in.mono (show _ ≤ 5 by omega)
    have D_least_of := D_least_of.mono (show _ ≤ 5 by omega)
    have D_greatest_of := D_greatest_of.mono (show _ ≤ 5 by omega)
    refine okDD (k := 5) (N := N_by_majority) F sc_by_majority fun cdv A outer s H E hr hg => ?_
    have nd := sc_by_majority.nd
    exact (dss_cons (ds_set (ps_set (i := 2) nd (by rfl) (Or.inr (by rfl)) (de_bin op_sub od_sub (de_cB cd_len (pe_callB call_len (by rfl) B.z_len (by decide +kernel) (da_cons (de_var 0 (pv 0)) da_nil))) (de_var 1 (pv 1)))))
    (dss_cons (ds_if (dt_cmp or_gtA od_gtA (de_callD D_least_liars hr hg (takes_of (by rfl) (by rfl) (by rfl) (by rfl)) (by rfl) (by rfl) (da_cons (de_var 0 (pv 0)) da_nil) (len_cons len_nil)) (de_var 1 (pv 1)) (nomark _))
    (dss_one (ds_raiseR oxb_val XX.R_Lied (hr.mono (by omega)) (by rfl) (takes_of (by rfl) (by rfl) (by rfl) (by rfl)) (by rfl) (da_cons (de_callD D_least_liars hr hg (takes_of (by rfl) (by rfl) (by rfl) (by rfl)) (by rfl) (by rfl) (da_cons (de_var 0 (pv 0)) da_nil) (len_cons len_nil)) da_nil)))
    dss_nil)
    (dss_cons (ds_asg (sl := (([3] ++ ([4] ++ [])))) (de_callD D_far_points hr hg (takes_of (by rfl) (by rfl) (by rfl) (by rfl)) (by rfl) (by rfl) (da_cons (de_var 0 (pv 0)) da_nil) (len_cons len_nil)) (dg_tup (by rfl) (dgs_cons (dg_name (pg_name (i := 3) nd (by rfl) (Or.inl (by rfl)))) (dgs_cons (dg_name (pg_name (i := 4) nd (by rfl) (Or.inl (by rfl)))) dgs_nil))))
    (dss_cons (ds_lcX [("end", 8)] ([8]) (by rfl) nd (by rfl) (by decide) (blkOk_by (N := N_by_majority) (sc := defScope s_by_majority) (by decide +kernel)) (fun _ => rfl) (by rfl) (by rfl) (sw_true (by rfl) (by rfl) (by rfl) (by decide +kernel)) (di_seq (de_callD D_ends_of hr hg (takes_of (by rfl) (by rfl) (by rfl) (by rfl)) (by rfl) (by rfl) (da_cons (de_var 0 (pv 0)) da_nil) (len_cons len_nil))) (fun _ _ _ _ _ => (dg_name (pg_name (i := 8) nd (by rfl) (Or.inl (by rfl))))) (fun _ _ _ _ _ => (dts_one (dt_cmp or_geA od_geA (de_callD D_count_in hr hg takes0 (by rfl) (by rfl) (da_cons (de_var 0 (pv 0)) (da_cons (de_var 8 (pv 8)) da_nil)) (len_cons (len_cons len_nil))) (de_var 2 (pv 2)) (nomark _)))) (fun _ _ _ _ _ => (de_var 8 (pv 8))))
    (dss_cons (ds_set (ps_set (i := 6) nd (by rfl) (Or.inl (by rfl)) (de_if (dt_cmp or_geA od_geA (de_callD D_count_in hr hg (takes_of (by rfl) (by rfl) (by rfl) (by rfl)) (by rfl) (by rfl) (da_cons (de_var 0 (pv 0)) (da_cons (de_var 3 (pv 3)) da_nil)) (len_cons (len_cons len_nil))) (de_var 2 (pv 2)) (nomark _)) de_non (de_callD D_least_of hr hg (takes_of (by rfl) (by rfl) (by rfl) (by rfl)) (by rfl) (by rfl) (da_cons (de_var 5 (pv 5)) da_nil) (len_cons len_nil)))))
    (dss_cons (ds_set (ps_set (i := 7) nd (by rfl) (Or.inl (by rfl)) (de_if (dt_cmp or_geA od_geA (de_callD D_count_in hr hg (takes_of (by rfl) (by rfl) (by rfl) (by rfl)) (by rfl) (by rfl) (da_cons (de_var 0 (pv 0)) (da_cons (de_var 4 (pv 4)) da_nil)) (len_cons (len_cons len_nil))) (de_var 2 (pv 2)) (nomark _)) de_non (de_callD D_greatest_of hr hg (takes_of (by rfl) (by rfl) (by rfl) (by rfl)) (by rfl) (by rfl) (da_cons (de_var 5 (pv 5)) da_nil) (len_cons len_nil)))))
    (dss_one (ds_ret (de_tup (da_cons (de_var 6 (pv 6)) (da_cons (de_var 7 (pv 7)) da_nil)))))))))))
theorem okF_cover_paper {f : Addr} {fd : FuncData} {kws : List (Str × V)} (F : L2.FunD K "cover_paper" "cover_paper" (defArgs s_cover_paper) (defBody s_cover_paper) (defScope s_cover_paper) [] kws f fd) (B : Bt mg) (D_by_majority : DfW P w K mg base "by_majority" 6 p_by_majority F_by_majority [.d (.int 0)] "liars") (D_numbers_in : Df P w K mg base "numbers_in" 3 p_numbers_in F_numbers_in) : FnD P w K mg base 7 f fd p_cover_paper F_cover_paper := by
    have D_by_majority := D_by_majority.mono (show _ ≤ 6 by omega)
    have D_numbers_in := D_numbers_in.mono (show _ ≤ 6 by omega)
    refine okDD (k := 6) (N := N_cover_paper) F sc_cover_paper fun cdv A outer s H E hr hg => ?_
    have nd := sc_cover_paper.nd
    exact (dss_cons (ds_asg (sl := (([2] ++ ([3] ++ [])))) (de_callDW D_by_majority hr hg (takes_of (by rfl) (by rfl) (by rfl) (by rfl)) (by rfl) (by rfl) (da_cons (de_var 0 (pv 0)) da_nil) (len_cons len_nil) (de_var 1 (pv 1))) (dg_tup (by rfl) (dgs_cons (dg_name (pg_name (i := 2) nd (by rfl) (Or.inl (by rfl)))) (dgs_cons (dg_name (pg_name (i := 3) nd (by rfl) (Or.inl (by rfl)))) dgs_nil))))
    (dss_cons (ds_lcX [("end", 5)] ([5]) (by rfl) nd (by rfl) (by decide) (blkOk_by (N := N_cover_paper) (sc := defScope s_cover_paper) (by decide +kernel)) (fun _ => rfl) (by rfl) (by rfl) (sw_true (by rfl) (by rfl) (by rfl) (by decide +kernel)) (di_tup (de_tup (da_cons (de_var 2 (pv 2)) (da_cons (de_var 3 (pv 3)) da_nil)))) (fun _ _ _ _ _ => (dg_name (pg_name (i := 5) nd (by rfl) (Or.inl (by rfl))))) (fun _ _ _ _ _ => dts_nil) (fun _ _ _ _ _ => (de_if (dt_cmp op_isN od_isN (de_var 5 (pv 5)) de_non (nomark _)) (de_tup da_nil) (de_callD D_numbers_in hr hg takes0 (by rfl) (by rfl) (da_cons (de_var 0 (pv 0)) (da_cons (de_var 5 (pv 5)) da_nil)) (len_cons (len_cons len_nil))))))
    (dss_one (ds_ret (de_tup (da_cons (de_var 2 (pv 2)) (da_cons (de_var 3 (pv 3)) (da_cons (de_ix ix_seq od_ix (de_var 4 (pv 4)) de_int (fun _ _ => rfl)) (da_cons (de_ix ix_seq od_ix (de_var 4 (pv 4)) de_int (fun _ _ => rfl)) da_nil)))))))))
theorem okF_need {f : Addr} {fd : FuncData} (F : Fun K "need" "need" s_need f fd) (B : Bt mg) (XX : Xt P w K mg base) : FnD P w K mg base 3 f fd p_need F_need := by
    refine okD (k := 2) (N := N_need) F sc_need fun cdv A outer s H E hr hg => ?_
    have nd := sc_need.nd
    exact (dss_one (ds_if (dt_not (dt_tru (de_var 0 (pv 0)) (fun _ => rfl)))
    (dss_one (ds_raiseR oxb_val XX.R_NoPaper (hr.mono (by omega)) (by rfl) (takes_of (by rfl) (by rfl) (by rfl) (by rfl)) (by rfl) (da_cons (de_var 1 (pv 1)) (da_cons (de_var 2 (pv 2)) da_nil))))
    dss_nil))
theorem ok_need {f : Addr} {fd : FuncData} (hx : mg "need" = some (.ref f)) (F : Fun K "need" "need" s_need f fd) (b : Binds K fd p_need []) (B : Bt mg) (XX : Xt P w K mg base) : Df P w K mg base "need" 3 p_need F_need :=
  ⟨f, fd, hx, F.kp, b, okF_need F B XX⟩
theorem okF_is_paper {f : Addr} {fd : FuncData} (F : Fun K "is_paper" "is_paper" s_is_paper f fd) (B : Bt mg) (D_is_fraction : Df P w K mg base "is_fraction" 2 p_is_fraction F_is_fraction) (D_is_number : Df P w K mg base "is_number" 1 p_is_number F_is_number) : FnD P w K mg base 3 f fd p_is_paper F_is_paper := by
    have D_is_fraction := D_is_fraction.mono (show _ ≤ 2 by omega)
    have D_is_number := D_is_number.mono (show _ ≤ 2 by omega)
    refine okD (k := 2) (N := N_is_paper) F sc_is_paper fun cdv A outer s H E hr hg => ?_
    have nd := sc_is_paper.nd
    exact (dss_cons (ds_if (DW.pt (dw_or (dt_not (dt_tru (de_isi (Tn := "tuple") kits_tuple (de_var 0 (pv 0)) (pe_bltn (by rfl) B.z_tuple (by decide +kernel) rfl) (fun h => pe_callB call_isi (by rfl) B.z_isinstance (by decide +kernel) h)) (fun _ => rfl))) (dw_or1 (dt_cmp (op_neD hr.units) od_ne (de_cB cd_len (pe_callB call_len (by rfl) B.z_len (by decide +kernel) (da_cons (de_var 0 (pv 0)) da_nil))) de_int (nomark _)))))
    (dss_one (ds_ret de_bl))
    dss_nil)
    (dss_cons (ds_if (dt_not (dt_tru (de_cB cd_all (pe_callB (cr_all (by rfl)) (by rfl) B.z_all (by decide +kernel) (da_cons (de_data (df_lcX [("end", 2)] ([2]) (by rfl) nd (by rfl) (by decide) (blkOk_by (N := N_is_paper) (sc := defScope s_is_paper) (by decide +kernel)) (fun _ => rfl) (di_tup (de_sl (de_var 0 (pv 0)) do_none (do_some de_int))) (fun _ _ _ _ _ => (dg_name (pg_name (i := 2) nd (by rfl) (Or.inl (by rfl))))) (fun _ _ _ _ _ => dts_nil) (fun _ _ _ _ _ => (de_or (de_cmp op_isN od_isN (de_var 2 (pv 2)) de_non (nomark _)) (de_one (de_callD D_is_fraction hr hg takes0 (by rfl) (by rfl) (da_cons (de_var 2 (pv 2)) da_nil) (len_cons len_nil))))))) da_nil))) (fun _ => rfl)))
    (dss_one (ds_ret de_bl))
    dss_nil)
    (dss_one (ds_ret (de_cB cd_all (pe_callB (cr_all (by rfl)) (by rfl) B.z_all (by decide +kernel) (da_cons (de_data (df_lcX [("some", 1)] ([1]) (by rfl) nd (by rfl) (by decide) (blkOk_by (N := N_is_paper) (sc := defScope s_is_paper) (by decide +kernel)) (fun _ => rfl) (di_tup (de_sl (de_var 0 (pv 0)) (do_some de_int) do_none)) (fun _ _ _ _ _ => (dg_name (pg_name (i := 1) nd (by rfl) (Or.inl (by rfl))))) (fun _ _ _ _ _ => dts_nil) (fun _ _ _ _ _ => (de_and (de_isi (Tn := "tuple") kits_tuple (de_var 1 (pv 1)) (pe_bltn (by rfl) B.z_tuple (by decide +kernel) rfl) (fun h => pe_callB call_isi (by rfl) B.z_isinstance (by decide +kernel) h)) (de_one (de_cB cd_all (pe_callB (cr_all (by rfl)) (by rfl) B.z_all (by decide +kernel) (da_cons (de_data (df_lcX [("one", 3)] ([3]) (by rfl) nd (by rfl) (by decide) (blkOk_nf (N := N_is_paper) (sc0 := defScope s_is_paper) (by decide +kernel) (by decide +kernel)) (fun _ => rfl) (di_tup (de_var 1 (pv 1))) (fun _ _ _ _ _ => (dg_name (pg_name (i := 3) nd (by rfl) (Or.inl (by rfl))))) (fun _ _ _ _ _ => dts_nil) (fun _ _ _ _ _ => (de_callD D_is_number hr hg takes0 (by rfl) (by rfl) (da_cons (de_var 3 (pv 3)) da_nil) (len_cons len_nil))))) da_nil)))))))) da_nil)))))))
theorem ok_is_paper {f : Addr} {fd : FuncData} (hx : mg "is_paper" = some (.ref f)) (F : Fun K "is_paper" "is_paper" s_is_paper f fd) (b : Binds K fd p_is_paper []) (B : Bt mg) (D_is_fraction : Df P w K mg base "is_fraction" 2 p_is_fraction F_is_fraction) (D_is_number : Df P w K mg base "is_number" 1 p_is_number F_is_number) : Df P w K mg base "is_paper" 3 p_is_paper F_is_paper :=
  ⟨f, fd, hx, F.kp, b, okF_is_paper F B D_is_fraction D_is_number⟩
theorem okF_need_side {f : Addr} {fd : FuncData} (F : Fun K "need_side" "need_side" s_need_side f fd) (B : Bt mg) (D_need : Df P w K mg base "need" 3 p_need F_need) (D_is_in : Df P w K mg base "is_in" 2 p_is_in F_is_in) : FnD P w K mg base 4 f fd p_need_side F_need_side := by
    have D_need := D_need.mono (show _ ≤ 3 by omega)
    have D_is_in := D_is_in.mono (show _ ≤ 3 by omega)
    refine okD (k := 3) (N := N_need_side) F sc_need_side fun cdv A outer s H E hr hg => ?_
    have nd := sc_need_side.nd
    exact (dss_cons (ds_set (ps_set (i := 5) nd (by rfl) (Or.inl (by rfl)) (de_neg de_int)))
    (dss_cons (ds_for (sl := (([6] ++ ([7] ++ [])))) (passes_of (by rfl)) (by rfl) (di_enumT (pi_enumT (by rfl) B.z_enumerate (da_cons (de_var 2 (pv 2)) da_nil))) (dg_tup (by rfl) (dgs_cons (dg_name (pg_name (i := 6) nd (by rfl) (Or.inl (by rfl)))) (dgs_cons (dg_name (pg_name (i := 7) nd (by rfl) (Or.inl (by rfl)))) dgs_nil)))
    (dss_cons (ds_expr (de_callD D_need hr hg (takes_of (by rfl) (by rfl) (by rfl) (by rfl)) (by rfl) (by rfl) (da_cons (de_chain op_lt op_lt od_lt od_lt (de_var 5 (pv 5)) (de_var 7 (pv 7)) (de_cB cd_len (pe_callB call_len (by rfl) B.z_len (by decide +kernel) (da_cons (de_var 0 (pv 0)) da_nil))) (pe_chain op_lt op_lt (de_var 5 (pv 5)) (de_var 7 (pv 7)) (de_cB cd_len (pe_callB call_len (by rfl) B.z_len (by decide +kernel) (da_cons (de_var 0 (pv 0)) da_nil))))) (da_cons de_str (da_cons (de_tup (da_cons (de_var 3 (pv 3)) (da_cons (de_var 6 (pv 6)) da_nil))) da_nil))) (len_cons (len_cons (len_cons len_nil)))))
    (dss_one (ds_set (ps_set (i := 5) nd (by rfl) (Or.inl (by rfl)) (de_var 7 (pv 7)))))))
    (dss_cons (ds_for (sl := (([6] ++ ([7] ++ [])))) (passes_of (by rfl)) (by rfl) (di_enumT (pi_enumT (by rfl) B.z_enumerate (da_cons (de_var 2 (pv 2)) da_nil))) (dg_tup (by rfl) (dgs_cons (dg_name (pg_name (i := 6) nd (by rfl) (Or.inl (by rfl)))) (dgs_cons (dg_name (pg_name (i := 7) nd (by rfl) (Or.inl (by rfl)))) dgs_nil)))
    (dss_one (ds_expr (de_callD D_need hr hg (takes_of (by rfl) (by rfl) (by rfl) (by rfl)) (by rfl) (by rfl) (da_cons (de_and (de_cmp op_notN od_notN (de_var 1 (pv 1)) de_non (nomark _)) (de_one (de_callD D_is_in hr hg (takes_of (by rfl) (by rfl) (by rfl) (by rfl)) (by rfl) (by rfl) (da_cons (de_ix ix_seq od_ix (de_var 0 (pv 0)) (de_var 7 (pv 7)) (fun _ _ => rfl)) (da_cons (de_var 1 (pv 1)) da_nil)) (len_cons (len_cons len_nil))))) (da_cons de_str (da_cons (de_tup (da_cons (de_var 3 (pv 3)) (da_cons (de_var 6 (pv 6)) da_nil))) da_nil))) (len_cons (len_cons (len_cons len_nil)))))))
    (dss_one (ds_expr (de_callD D_need hr hg (takes_of (by rfl) (by rfl) (by rfl) (by rfl)) (by rfl) (by rfl) (da_cons (de_or (de_cmp op_isN od_isN (de_var 1 (pv 1)) de_non (nomark _)) (de_one (de_cmp op_ge od_ge (de_cB cd_len (pe_callB call_len (by rfl) B.z_len (by decide +kernel) (da_cons (de_var 2 (pv 2)) da_nil))) (de_var 4 (pv 4)) (nomark _)))) (da_cons de_str (da_cons (de_var 3 (pv 3)) da_nil))) (len_cons (len_cons (len_cons len_nil)))))))))
theorem ok_need_side {f : Addr} {fd : FuncData} (hx : mg "need_side" = some (.ref f)) (F : Fun K "need_side" "need_side" s_need_side f fd) (b : Binds K fd p_need_side []) (B : Bt mg) (D_need : Df P w K mg base "need" 3 p_need F_need) (D_is_in : Df P w K mg base "is_in" 2 p_is_in F_is_in) : Df P w K mg base "need_side" 4 p_need_side F_need_side :=
  ⟨f, fd, hx, F.kp, b, okF_need_side F B D_need D_is_in⟩
theorem okF_is_beyond {f : Addr} {fd : FuncData} (F : Fun K "is_beyond" "is_beyond" s_is_beyond f fd) (B : Bt mg) (D_far_points : Df P w K mg base "far_points" 4 p_far_points F_far_points) (D_count_in : Df P w K mg base "count_in" 4 p_count_in F_count_in) (D_ends_of : Df P w K mg base "ends_of" 1 p_ends_of F_ends_of) (D_is_below : Df P w K mg base "is_below" 1 p_is_below F_is_below) : FnD P w K mg base 5 f fd p_is_beyond F_is_beyond := by
    have D_far_points := D_far_points.mono (show _ ≤ 4 by omega)
    have D_count_in := D_count_in.mono (show _ ≤ 4 by omega)
    have D_ends_of := D_ends_of.mono (show _ ≤ 4 by omega)
    have D_is_below := D_is_below.mono (show _ ≤ 4 by omega)
    refine okD (k := 4) (N := N_is_beyond) F sc_is_beyond fun cdv A outer s H E hr hg => ?_
    have nd := sc_is_beyond.nd
    exact (dss_cons (ds_set (ps_set (i := 4) nd (by rfl) (Or.inl (by rfl)) (de_ix ix_seq od_ix (de_callD D_far_points hr hg (takes_of (by rfl) (by rfl) (by rfl) (by rfl)) (by rfl) (by rfl) (da_cons (de_var 0 (pv 0)) da_nil) (len_cons len_nil)) (de_var 2 (pv 2)) (fun _ _ => rfl))))
    (dss_cons (ds_if (dt_cmp or_geA od_geA (de_callD D_count_in hr hg (takes_of (by rfl) (by rfl) (by rfl) (by rfl)) (by rfl) (by rfl) (da_cons (de_var 0 (pv 0)) (da_cons (de_var 4 (pv 4)) da_nil)) (len_cons (len_cons len_nil))) (de_var 3 (pv 3)) (nomark _))
    (dss_one (ds_ret (de_cmp op_notN od_notN (de_var 1 (pv 1)) de_non (nomark _))))
    dss_nil)
    (dss_cons (ds_if (dt_cmp op_isN od_isN (de_var 1 (pv 1)) de_non (nomark _))
    (dss_one (ds_ret de_bl))
    dss_nil)
    (dss_cons (ds_lcX [("point", 6)] ([6]) (by rfl) nd (by rfl) (by decide) (blkOk_by (N := N_is_beyond) (sc := defScope s_is_beyond) (by decide +kernel)) (fun _ => rfl) (by rfl) (by rfl) (sw_true (by rfl) (by rfl) (by rfl) (by decide +kernel)) (di_seq (de_callD D_ends_of hr hg (takes_of (by rfl) (by rfl) (by rfl) (by rfl)) (by rfl) (by rfl) (da_cons (de_var 0 (pv 0)) da_nil) (len_cons len_nil))) (fun _ _ _ _ _ => (dg_name (pg_name (i := 6) nd (by rfl) (Or.inl (by rfl))))) (fun _ _ _ _ _ => (dts_one (dt_cmp or_geA od_geA (de_callD D_count_in hr hg takes0 (by rfl) (by rfl) (da_cons (de_var 0 (pv 0)) (da_cons (de_var 6 (pv 6)) da_nil)) (len_cons (len_cons len_nil))) (de_var 3 (pv 3)) (nomark _)))) (fun _ _ _ _ _ => (de_var 6 (pv 6))))
    (dss_one (ds_ret (de_cB cd_any (pe_callB (cr_any (by rfl)) (by rfl) B.z_any (by decide +kernel) (da_cons (de_data (df_lcX [("point", 6)] ([6]) (by rfl) nd (by rfl) (by decide) (blkOk_by (N := N_is_beyond) (sc := defScope s_is_beyond) (by decide +kernel)) (fun _ => rfl) (di_seq (de_var 5 (pv 5))) (fun _ _ _ _ _ => (dg_name (pg_name (i := 6) nd (by rfl) (Or.inl (by rfl))))) (fun _ _ _ _ _ => dts_nil) (fun _ _ _ _ _ => (de_if (dt_cmp (op_eqD hr.units) od_eq (de_var 2 (pv 2)) de_int (nomark _)) (de_callD D_is_below hr hg takes0 (by rfl) (by rfl) (da_cons (de_var 6 (pv 6)) (da_cons (de_var 1 (pv 1)) da_nil)) (len_cons (len_cons len_nil))) (de_callD D_is_below hr hg takes0 (by rfl) (by rfl) (da_cons (de_var 1 (pv 1)) (da_cons (de_var 6 (pv 6)) da_nil)) (len_cons (len_cons len_nil))))))) da_nil)))))))))
theorem ok_is_beyond {f : Addr} {fd : FuncData} (hx : mg "is_beyond" = some (.ref f)) (F : Fun K "is_beyond" "is_beyond" s_is_beyond f fd) (b : Binds K fd p_is_beyond []) (B : Bt mg) (D_far_points : Df P w K mg base "far_points" 4 p_far_points F_far_points) (D_count_in : Df P w K mg base "count_in" 4 p_count_in F_count_in) (D_ends_of : Df P w K mg base "ends_of" 1 p_ends_of F_ends_of) (D_is_below : Df P w K mg base "is_below" 1 p_is_below F_is_below) : Df P w K mg base "is_beyond" 5 p_is_beyond F_is_beyond :=
  ⟨f, fd, hx, F.kp, b, okF_is_beyond F B D_far_points D_count_in D_ends_of D_is_below⟩
theorem okF_lets_cover {f : Addr} {fd : FuncData} {kws : List (Str × V)} (F : L2.FunD K "lets_cover" "lets_cover" (defArgs s_lets_cover) (defBody s_lets_cover) (defScope s_lets_cover) [] kws f fd) (B : Bt mg) (D_need : Df P w K mg base "need" 3 p_need F_need) (D_is_paper : Df P w K mg base "is_paper" 3 p_is_paper F_is_paper) (D_need_side : Df P w K mg base "need_side" 4 p_need_side F_need_side) (D_is_beyond : Df P w K mg base "is_beyond" 5 p_is_beyond F_is_beyond) : FnD P w K mg base 6 f fd p_lets_cover F_lets_cover := by
    have D_need := D_need.mono (show _ ≤ 5 by omega)
    have D_is_paper := D_is_paper.mono (show _ ≤ 5 by omega)
    have D_need_side := D_need_side.mono (show _ ≤ 5 by omega)
    have D_is_beyond := D_is_beyond.mono (show _ ≤ 5 by omega)
    refine okDD (k := 5) (N := N_lets_cover) F sc_lets_cover fun cdv A outer s H E hr hg => ?_
    have nd := sc_lets_cover.nd
    exact (dss_cons (ds_expr (de_callD D_need hr hg (takes_of (by rfl) (by rfl) (by rfl) (by rfl)) (by rfl) (by rfl) (da_cons (de_callD D_is_paper hr hg (takes_of (by rfl) (by rfl) (by rfl) (by rfl)) (by rfl) (by rfl) (da_cons (de_var 1 (pv 1)) da_nil) (len_cons len_nil)) (da_cons de_str (da_cons (de_neg de_int) da_nil))) (len_cons (len_cons (len_cons len_nil)))))
    (dss_cons (ds_set (ps_set (i := 3) nd (by rfl) (Or.inl (by rfl)) (de_bin op_sub od_sub (de_cB cd_len (pe_callB call_len (by rfl) B.z_len (by decide +kernel) (da_cons (de_var 0 (pv 0)) da_nil))) (de_var 2 (pv 2)))))
    (dss_cons (ds_for (sl := [4]) (passes_of (by rfl)) (by rfl) (di_tup (de_tup (da_cons de_int (da_cons de_int da_nil)))) (dg_name (pg_name (i := 4) nd (by rfl) (Or.inl (by rfl))))
    (dss_one (ds_expr (de_callD D_need_side hr hg (takes_of (by rfl) (by rfl) (by rfl) (by rfl)) (by rfl) (by rfl) (da_cons (de_var 0 (pv 0)) (da_cons (de_ix ix_seq od_ix (de_var 1 (pv 1)) (de_var 4 (pv 4)) (fun _ _ => rfl)) (da_cons (de_ix ix_seq od_ix (de_var 1 (pv 1)) (de_bin or_add od_add de_int (de_var 4 (pv 4))) (fun _ _ => rfl)) (da_cons (de_var 4 (pv 4)) (da_cons (de_var 3 (pv 3)) da_nil))))) (len_cons (len_cons (len_cons (len_cons (len_cons len_nil)))))))))
    (dss_cons (ds_for (sl := [4]) (passes_of (by rfl)) (by rfl) (di_tup (de_tup (da_cons de_int (da_cons de_int da_nil)))) (dg_name (pg_name (i := 4) nd (by rfl) (Or.inl (by rfl))))
    (dss_one (ds_expr (de_callD D_need hr hg (takes_of (by rfl) (by rfl) (by rfl) (by rfl)) (by rfl) (by rfl) (da_cons (de_not (de_callD D_is_beyond hr hg (takes_of (by rfl) (by rfl) (by rfl) (by rfl)) (by rfl) (by rfl) (da_cons (de_var 0 (pv 0)) (da_cons (de_ix ix_seq od_ix (de_var 1 (pv 1)) (de_var 4 (pv 4)) (fun _ _ => rfl)) (da_cons (de_var 4 (pv 4)) (da_cons (de_var 3 (pv 3)) da_nil)))) (len_cons (len_cons (len_cons (len_cons len_nil)))))) (da_cons de_str (da_cons (de_var 4 (pv 4)) da_nil))) (len_cons (len_cons (len_cons len_nil)))))))
    (dss_one (ds_ret (de_sl (de_var 1 (pv 1)) do_none (do_some de_int))))))))
theorem okF_l_tape {f : Addr} {fd : FuncData} (F : Fun K "_law_tape" "_law_tape" s_l_tape f fd) (B : Bt mg) : FnD P w K mg base 1 f fd p_l_tape F_l_tape := by
    refine okD (k := 0) (N := N_l_tape) F sc_l_tape fun cdv A outer s H E hr hg => ?_
    have nd := sc_l_tape.nd
    exact (dss_one (ds_ret (de_cell (df_lst (da_cons (de_sl (de_var 0 (pv 0)) do_none (do_some de_int)) (da_cons de_int (da_cons de_int (da_cons de_int da_nil))))))))
theorem ok_l_tape {f : Addr} {fd : FuncData} (hx : mg "_law_tape" = some (.ref f)) (F : Fun K "_law_tape" "_law_tape" s_l_tape f fd) (b : Binds K fd p_l_tape []) (B : Bt mg) : Df P w K mg base "_law_tape" 1 p_l_tape F_l_tape :=
  ⟨f, fd, hx, F.kp, b, okF_l_tape F B⟩
theorem okF_l_draw {f : Addr} {fd : FuncData} (F : Fun K "_law_draw" "_law_draw" s_l_draw f fd) (B : Bt mg) : FnD P w K mg base 1 f fd p_l_draw F_l_draw := by
    refine okD (k := 0) (N := N_l_draw) F sc_l_draw fun cdv A outer s H E hr hg => ?_
    have nd := sc_l_draw.nd
    exact (dss_cons (ds_set (ps_set (i := 2) nd (by rfl) (Or.inl (by rfl)) (de_bin or_add od_add (de_ix ix_seq od_ix (de_var 0 (pv 0)) de_int (fun _ _ => rfl)) de_int)))
    (dss_cons (ds_asg (sl := []) (de_var 2 (pv 2)) (dg_set (pg_sub (de_var 0 (pv 0)) de_int set_list)))
    (dss_cons (ds_if (dt_cmp op_gt od_gt (de_ix ix_seq od_ix (de_var 0 (pv 0)) de_int (fun _ _ => rfl)) de_int (nomark _))
    (dss_cons (ds_set (ps_set (i := 3) nd (by rfl) (Or.inl (by rfl)) (de_bin op_modN od_mod (de_ix ix_seq od_ix (de_var 0 (pv 0)) de_int (fun _ _ => rfl)) (de_var 1 (pv 1)))))
    (dss_cons (ds_asg (sl := []) (de_bin op_fdivW od_div (de_ix ix_seq od_ix (de_var 0 (pv 0)) de_int (fun _ _ => rfl)) (de_var 1 (pv 1))) (dg_set (pg_sub (de_var 0 (pv 0)) de_int set_list)))
    (dss_one (ds_ret (de_var 3 (pv 3))))))
    dss_nil)
    (dss_cons (ds_set (ps_set (i := 4) nd (by rfl) (Or.inl (by rfl)) (de_ix ix_seq od_ix (de_var 0 (pv 0)) de_int (fun _ _ => rfl))))
    (dss_cons (ds_asg (sl := []) (de_bin or_add od_add (de_var 4 (pv 4)) de_int) (dg_set (pg_sub (de_var 0 (pv 0)) de_int set_list)))
    (dss_cons (ds_set (ps_set (i := 5) nd (by rfl) (Or.inl (by rfl)) (de_if (dt_cmp (op_neD hr.units) od_ne (de_ix ix_seq od_ix (de_var 0 (pv 0)) de_int (fun _ _ => rfl)) (de_data (df_lst da_nil)) (nomark _)) (de_ix ix_seq od_ix (de_ix ix_seq od_ix (de_var 0 (pv 0)) de_int (fun _ _ => rfl)) (de_bin op_modN od_mod (de_var 4 (pv 4)) (de_cB cd_len (pe_callB call_len (by rfl) B.z_len (by decide +kernel) (da_cons (de_ix ix_seq od_ix (de_var 0 (pv 0)) de_int (fun _ _ => rfl)) da_nil)))) (fun _ _ => rfl)) de_int)))
    (dss_cons (ds_if (DW.pt (dw_and (dt_cmp op_ge od_ge (de_var 5 (pv 5)) (de_bin op_pow od_pow de_int de_int) (nomark _)) (dw_and1 (dt_cmp op_lt od_lt (de_var 4 (pv 4)) (de_cB cd_len (pe_callB call_len (by rfl) B.z_len (by decide +kernel) (da_cons (de_ix ix_seq od_ix (de_var 0 (pv 0)) de_int (fun _ _ => rfl)) da_nil))) (nomark _)))))
    (dss_cons (ds_asg (sl := []) (de_bin op_fdivW od_div (de_var 5 (pv 5)) (de_var 1 (pv 1))) (dg_set (pg_sub (de_var 0 (pv 0)) de_int set_list)))
    (dss_one (ds_ret (de_bin op_modN od_mod (de_var 5 (pv 5)) (de_var 1 (pv 1))))))
    dss_nil)
    (dss_cons (ds_set (ps_set (i := 6) nd (by rfl) (Or.inl (by rfl)) (de_bin op_modN od_mod (de_bin op_pow od_pow (de_bin or_add od_add (de_bin or_add od_add (de_bin op_modN od_mod (de_var 5 (pv 5)) de_int) (de_bin op_mul od_mulS de_int (de_var 2 (pv 2)))) de_int) de_int) de_int)))
    (dss_one (ds_ret (de_bin op_modN od_mod (de_bin op_fdivW od_div (de_bin op_modN od_mod (de_bin op_pow od_pow (de_bin or_add od_add (de_var 6 (pv 6)) (de_bin op_mul od_mulS de_int (de_var 2 (pv 2)))) de_int) de_int) de_int) (de_var 1 (pv 1)))))))))))))
theorem ok_l_draw {f : Addr} {fd : FuncData} (hx : mg "_law_draw" = some (.ref f)) (F : Fun K "_law_draw" "_law_draw" s_l_draw f fd) (b : Binds K fd p_l_draw []) (B : Bt mg) : Df P w K mg base "_law_draw" 1 p_l_draw F_l_draw :=
  ⟨f, fd, hx, F.kp, b, okF_l_draw F B⟩
theorem okF_l_low {f : Addr} {fd : FuncData} (F : Fun K "_law_low" "_law_low" s_l_low f fd) (B : Bt mg) : FnD P w K mg base 1 f fd p_l_low F_l_low := by
    refine okD (k := 0) (N := N_l_low) F sc_l_low fun cdv A outer s H E hr hg => ?_
    have nd := sc_l_low.nd
    exact (dss_cons (ds_par (ps_par (i := 2) (j := 3) (by rfl) nd (by rfl) (by rfl) (by decide) (by rfl) (by rfl) (da_cons (de_cB cd_abs (pe_callB call_abs (by rfl) B.z_abs (by decide +kernel) (da_cons (de_var 0 (pv 0)) da_nil))) (da_cons (de_var 1 (pv 1)) da_nil)) (by rfl)))
    (dss_cons (ds_while (passes_of (by rfl)) (dt_cmp op_gt od_gt (de_var 3 (pv 3)) de_int (nomark _))
    (dss_one (ds_par (ps_par (i := 2) (j := 3) (by rfl) nd (by rfl) (by rfl) (by decide) (by rfl) (by rfl) (da_cons (de_var 3 (pv 3)) (da_cons (de_bin op_modN od_mod (de_var 2 (pv 2)) (de_var 3 (pv 3))) da_nil)) (by rfl)))))
    (dss_one (ds_ret (de_tup (da_cons (de_bin op_fdivW od_div (de_var 0 (pv 0)) (de_var 2 (pv 2))) (da_cons (de_bin op_fdivW od_div (de_var 1 (pv 1)) (de_var 2 (pv 2))) da_nil)))))))
theorem ok_l_low {f : Addr} {fd : FuncData} (hx : mg "_law_low" = some (.ref f)) (F : Fun K "_law_low" "_law_low" s_l_low f fd) (b : Binds K fd p_l_low []) (B : Bt mg) : Df P w K mg base "_law_low" 1 p_l_low F_l_low :=
  ⟨f, fd, hx, F.kp, b, okF_l_low F B⟩
theorem okF_l_plus {f : Addr} {fd : FuncData} (F : Fun K "_law_plus" "_law_plus" s_l_plus f fd) (B : Bt mg) (D_l_low : Df P w K mg base "_law_low" 1 p_l_low F_l_low) : FnD P w K mg base 2 f fd p_l_plus F_l_plus := by
    have D_l_low := D_l_low.mono (show _ ≤ 1 by omega)
    refine okD (k := 1) (N := N_l_plus) F sc_l_plus fun cdv A outer s H E hr hg => ?_
    have nd := sc_l_plus.nd
    exact (dss_one (ds_ret (de_callD D_l_low hr hg (takes_of (by rfl) (by rfl) (by rfl) (by rfl)) (by rfl) (by rfl) (da_cons (de_bin or_add od_add (de_bin op_mulW od_mul (de_ix ix_seq od_ix (de_var 0 (pv 0)) de_int (fun _ _ => rfl)) (de_ix ix_seq od_ix (de_var 1 (pv 1)) de_int (fun _ _ => rfl))) (de_bin op_mulW od_mul (de_ix ix_seq od_ix (de_var 1 (pv 1)) de_int (fun _ _ => rfl)) (de_ix ix_seq od_ix (de_var 0 (pv 0)) de_int (fun _ _ => rfl)))) (da_cons (de_bin op_mulW od_mul (de_ix ix_seq od_ix (de_var 0 (pv 0)) de_int (fun _ _ => rfl)) (de_ix ix_seq od_ix (de_var 1 (pv 1)) de_int (fun _ _ => rfl))) da_nil)) (len_cons (len_cons len_nil)))))
theorem ok_l_plus {f : Addr} {fd : FuncData} (hx : mg "_law_plus" = some (.ref f)) (F : Fun K "_law_plus" "_law_plus" s_l_plus f fd) (b : Binds K fd p_l_plus []) (B : Bt mg) (D_l_low : Df P w K mg base "_law_low" 1 p_l_low F_l_low) : Df P w K mg base "_law_plus" 2 p_l_plus F_l_plus :=
  ⟨f, fd, hx, F.kp, b, okF_l_plus F B D_l_low⟩
theorem okF_l_minus {f : Addr} {fd : FuncData} (F : Fun K "_law_minus" "_law_minus" s_l_minus f fd) (B : Bt mg) (D_l_low : Df P w K mg base "_law_low" 1 p_l_low F_l_low) : FnD P w K mg base 2 f fd p_l_minus F_l_minus := by
    have D_l_low := D_l_low.mono (show _ ≤ 1 by omega)
    refine okD (k := 1) (N := N_l_minus) F sc_l_minus fun cdv A outer s H E hr hg => ?_
    have nd := sc_l_minus.nd
    exact (dss_one (ds_ret (de_callD D_l_low hr hg (takes_of (by rfl) (by rfl) (by rfl) (by rfl)) (by rfl) (by rfl) (da_cons (de_bin op_sub od_sub (de_bin op_mulW od_mul (de_ix ix_seq od_ix (de_var 0 (pv 0)) de_int (fun _ _ => rfl)) (de_ix ix_seq od_ix (de_var 1 (pv 1)) de_int (fun _ _ => rfl))) (de_bin op_mulW od_mul (de_ix ix_seq od_ix (de_var 1 (pv 1)) de_int (fun _ _ => rfl)) (de_ix ix_seq od_ix (de_var 0 (pv 0)) de_int (fun _ _ => rfl)))) (da_cons (de_bin op_mulW od_mul (de_ix ix_seq od_ix (de_var 0 (pv 0)) de_int (fun _ _ => rfl)) (de_ix ix_seq od_ix (de_var 1 (pv 1)) de_int (fun _ _ => rfl))) da_nil)) (len_cons (len_cons len_nil)))))
theorem ok_l_minus {f : Addr} {fd : FuncData} (hx : mg "_law_minus" = some (.ref f)) (F : Fun K "_law_minus" "_law_minus" s_l_minus f fd) (b : Binds K fd p_l_minus []) (B : Bt mg) (D_l_low : Df P w K mg base "_law_low" 1 p_l_low F_l_low) : Df P w K mg base "_law_minus" 2 p_l_minus F_l_minus :=
  ⟨f, fd, hx, F.kp, b, okF_l_minus F B D_l_low⟩
theorem okF_l_is_less {f : Addr} {fd : FuncData} (F : Fun K "_law_is_less" "_law_is_less" s_l_is_less f fd) (B : Bt mg) : FnD P w K mg base 1 f fd p_l_is_less F_l_is_less := by
    refine okD (k := 0) (N := N_l_is_less) F sc_l_is_less fun cdv A outer s H E hr hg => ?_
    have nd := sc_l_is_less.nd
    exact (dss_one (ds_ret (de_cmp op_lt od_lt (de_bin op_mulW od_mul (de_ix ix_seq od_ix (de_var 0 (pv 0)) de_int (fun _ _ => rfl)) (de_ix ix_seq od_ix (de_var 1 (pv 1)) de_int (fun _ _ => rfl))) (de_bin op_mulW od_mul (de_ix ix_seq od_ix (de_var 1 (pv 1)) de_int (fun _ _ => rfl)) (de_ix ix_seq od_ix (de_var 0 (pv 0)) de_int (fun _ _ => rfl))) (nomark _))))
theorem ok_l_is_less {f : Addr} {fd : FuncData} (hx : mg "_law_is_less" = some (.ref f)) (F : Fun K "_law_is_less" "_law_is_less" s_l_is_less f fd) (b : Binds K fd p_l_is_less []) (B : Bt mg) : Df P w K mg base "_law_is_less" 1 p_l_is_less F_l_is_less :=
  ⟨f, fd, hx, F.kp, b, okF_l_is_less F B⟩
theorem okF_l_point {f : Addr} {fd : FuncData} (F : Fun K "_law_point" "_law_point" s_l_point f fd) (B : Bt mg) (D_l_low : Df P w K mg base "_law_low" 1 p_l_low F_l_low) (D_l_draw : Df P w K mg base "_law_draw" 1 p_l_draw F_l_draw) : FnD P w K mg base 2 f fd p_l_point F_l_point := by
    have D_l_low := D_l_low.mono (show _ ≤ 1 by omega)
    have D_l_draw := D_l_draw.mono (show _ ≤ 1 by omega)
    refine okD (k := 1) (N := N_l_point) F sc_l_point fun cdv A outer s H E hr hg => ?_
    have nd := sc_l_point.nd
    exact (dss_one (ds_ret (de_callD D_l_low hr hg (takes_of (by rfl) (by rfl) (by rfl) (by rfl)) (by rfl) (by rfl) (da_cons (de_bin op_sub od_sub (de_callD D_l_draw hr hg (takes_of (by rfl) (by rfl) (by rfl) (by rfl)) (by rfl) (by rfl) (da_cons (de_var 0 (pv 0)) (da_cons de_int da_nil)) (len_cons (len_cons len_nil))) de_int) (da_cons (de_ix ix_seq od_ix (de_data (df_lst (da_cons de_int (da_cons de_int (da_cons de_int (da_cons de_int da_nil)))))) (de_callD D_l_draw hr hg (takes_of (by rfl) (by rfl) (by rfl) (by rfl)) (by rfl) (by rfl) (da_cons (de_var 0 (pv 0)) (da_cons de_int da_nil)) (len_cons (len_cons len_nil))) (fun _ _ => rfl)) da_nil)) (len_cons (len_cons len_nil)))))
theorem ok_l_point {f : Addr} {fd : FuncData} (hx : mg "_law_point" = some (.ref f)) (F : Fun K "_law_point" "_law_point" s_l_point f fd) (b : Binds K fd p_l_point []) (B : Bt mg) (D_l_low : Df P w K mg base "_law_low" 1 p_l_low F_l_low) (D_l_draw : Df P w K mg base "_law_draw" 1 p_l_draw F_l_draw) : Df P w K mg base "_law_point" 2 p_l_point F_l_point :=
  ⟨f, fd, hx, F.kp, b, okF_l_point F B D_l_low D_l_draw⟩
theorem okF_l_spans {f : Addr} {fd : FuncData} (F : Fun K "_law_spans" "_law_spans" s_l_spans f fd) (B : Bt mg) (D_l_draw : Df P w K mg base "_law_draw" 1 p_l_draw F_l_draw) (D_l_point : Df P w K mg base "_law_point" 2 p_l_point F_l_point) (D_l_low : Df P w K mg base "_law_low" 1 p_l_low F_l_low) (D_l_plus : Df P w K mg base "_law_plus" 2 p_l_plus F_l_plus) (D_l_minus : Df P w K mg base "_law_minus" 2 p_l_minus F_l_minus) : FnD P w K mg base 3 f fd p_l_spans F_l_spans := by
    have D_l_draw := D_l_draw.mono (show _ ≤ 2 by omega)
    have D_l_point := D_l_point.mono (show _ ≤ 2 by omega)
    have D_l_low := D_l_low.mono (show _ ≤ 2 by omega)
    have D_l_plus := D_l_plus.mono (show _ ≤ 2 by omega)
    have D_l_minus := D_l_minus.mono (show _ ≤ 2 by omega)
    refine okD (k := 2) (N := N_l_spans) F sc_l_spans fun cdv A outer s H E hr hg => ?_
    have nd := sc_l_spans.nd
    exact (dss_cons (ds_set (ps_set (i := 2) nd (by rfl) (Or.inl (by rfl)) (de_cell (df_lst da_nil))))
    (dss_cons (ds_for (sl := [3]) (passes_of (by rfl)) (by rfl) (di_range1 (pi_range1 (by rfl) B.z_range (da_cons (de_callD D_l_draw hr hg (takes_of (by rfl) (by rfl) (by rfl) (by rfl)) (by rfl) (by rfl) (da_cons (de_var 0 (pv 0)) (da_cons (de_bin or_add od_add (de_var 1 (pv 1)) de_int) da_nil)) (len_cons (len_cons len_nil))) da_nil))) (dg_name (pg_name (i := 3) nd (by rfl) (Or.inl (by rfl))))
    (dss_cons (ds_par (ps_par (i := 4) (j := 5) (by rfl) nd (by rfl) (by rfl) (by decide) (by rfl) (by rfl) (da_cons (de_callD D_l_point hr hg (takes_of (by rfl) (by rfl) (by rfl) (by rfl)) (by rfl) (by rfl) (da_cons (de_var 0 (pv 0)) da_nil) (len_cons len_nil)) (da_cons (de_callD D_l_low hr hg (takes_of (by rfl) (by rfl) (by rfl) (by rfl)) (by rfl) (by rfl) (da_cons (de_callD D_l_draw hr hg (takes_of (by rfl) (by rfl) (by rfl) (by rfl)) (by rfl) (by rfl) (da_cons (de_var 0 (pv 0)) (da_cons de_int da_nil)) (len_cons (len_cons len_nil))) (da_cons (de_bin or_add od_add de_int (de_callD D_l_draw hr hg (takes_of (by rfl) (by rfl) (by rfl) (by rfl)) (by rfl) (by rfl) (da_cons (de_var 0 (pv 0)) (da_cons de_int da_nil)) (len_cons (len_cons len_nil)))) da_nil)) (len_cons (len_cons len_nil))) da_nil)) (by rfl)))
    (dss_cons (ds_set (ps_set (i := 6) nd (by rfl) (Or.inl (by rfl)) (de_if (dt_cmp op_gt od_gt (de_callD D_l_draw hr hg (takes_of (by rfl) (by rfl) (by rfl) (by rfl)) (by rfl) (by rfl) (da_cons (de_var 0 (pv 0)) (da_cons de_int da_nil)) (len_cons (len_cons len_nil))) de_int (nomark _)) (de_callD D_l_plus hr hg (takes_of (by rfl) (by rfl) (by rfl) (by rfl)) (by rfl) (by rfl) (da_cons (de_var 4 (pv 4)) (da_cons (de_var 5 (pv 5)) da_nil)) (len_cons (len_cons len_nil))) (de_callD D_l_minus hr hg (takes_of (by rfl) (by rfl) (by rfl) (by rfl)) (by rfl) (by rfl) (da_cons (de_var 4 (pv 4)) (da_cons (de_var 5 (pv 5)) da_nil)) (len_cons (len_cons len_nil))))))
    (dss_cons (ds_par (ps_par (i := 4) (j := 6) (by rfl) nd (by rfl) (by rfl) (by decide) (by rfl) (by rfl) (da_cons (de_ix ix_seq od_ix (de_data (df_lst (da_cons (de_var 4 (pv 4)) (da_cons (de_var 4 (pv 4)) (da_cons (de_var 4 (pv 4)) (da_cons (de_var 4 (pv 4)) (da_cons de_non da_nil))))))) (de_callD D_l_draw hr hg (takes_of (by rfl) (by rfl) (by rfl) (by rfl)) (by rfl) (by rfl) (da_cons (de_var 0 (pv 0)) (da_cons de_int da_nil)) (len_cons (len_cons len_nil))) (fun _ _ => rfl)) (da_cons (de_ix ix_seq od_ix (de_data (df_lst (da_cons (de_var 6 (pv 6)) (da_cons (de_var 6 (pv 6)) (da_cons (de_var 6 (pv 6)) (da_cons (de_var 6 (pv 6)) (da_cons de_non da_nil))))))) (de_callD D_l_draw hr hg (takes_of (by rfl) (by rfl) (by rfl) (by rfl)) (by rfl) (by rfl) (da_cons (de_var 0 (pv 0)) (da_cons de_int da_nil)) (len_cons (len_cons len_nil))) (fun _ _ => rfl)) da_nil)) (by rfl)))
    (dss_one (ds_expr (de_mt md_app (pe_bm PySem.F.plainAttrs_list PySem.F.slot_list_append PySem.F.type_list_append mt_append (de_var 2 (pv 2)) (da_cons (de_tup (da_cons (de_var 4 (pv 4)) (da_cons (de_var 6 (pv 6)) da_nil))) da_nil)))))))))
    (dss_one (ds_ret (de_cB cd_tuple (pe_callTy call_tuple_of (by rfl) B.z_tuple (by decide +kernel) (da_cons (de_var 2 (pv 2)) da_nil)))))))
theorem ok_l_spans {f : Addr} {fd : FuncData} (hx : mg "_law_spans" = some (.ref f)) (F : Fun K "_law_spans" "_law_spans" s_l_spans f fd) (b : Binds K fd p_l_spans []) (B : Bt mg) (D_l_draw : Df P w K mg base "_law_draw" 1 p_l_draw F_l_draw) (D_l_point : Df P w K mg base "_law_point" 2 p_l_point F_l_point) (D_l_low : Df P w K mg base "_law_low" 1 p_l_low F_l_low) (D_l_plus : Df P w K mg base "_law_plus" 2 p_l_plus F_l_plus) (D_l_minus : Df P w K mg base "_law_minus" 2 p_l_minus F_l_minus) : Df P w K mg base "_law_spans" 3 p_l_spans F_l_spans :=
  ⟨f, fd, hx, F.kp, b, okF_l_spans F B D_l_draw D_l_point D_l_low D_l_plus D_l_minus⟩
theorem okF_l_is_in {f : Addr} {fd : FuncData} (F : Fun K "_law_is_in" "_law_is_in" s_l_is_in f fd) (B : Bt mg) (D_l_is_less : Df P w K mg base "_law_is_less" 1 p_l_is_less F_l_is_less) : FnD P w K mg base 2 f fd p_l_is_in F_l_is_in := by
    have D_l_is_less := D_l_is_less.mono (show _ ≤ 1 by omega)
    refine okD (k := 1) (N := N_l_is_in) F sc_l_is_in fun cdv A outer s H E hr hg => ?_
    have nd := sc_l_is_in.nd
    exact (dss_cons (ds_asg (sl := (([2] ++ ([3] ++ [])))) (de_var 0 (pv 0)) (dg_tup (by rfl) (dgs_cons (dg_name (pg_name (i := 2) nd (by rfl) (Or.inl (by rfl)))) (dgs_cons (dg_name (pg_name (i := 3) nd (by rfl) (Or.inl (by rfl)))) dgs_nil))))
    (dss_one (ds_ret (de_and (de_or (de_cmp op_isN od_isN (de_var 2 (pv 2)) de_non (nomark _)) (de_one (de_not (de_callD D_l_is_less hr hg (takes_of (by rfl) (by rfl) (by rfl) (by rfl)) (by rfl) (by rfl) (da_cons (de_var 1 (pv 1)) (da_cons (de_var 2 (pv 2)) da_nil)) (len_cons (len_cons len_nil)))))) (de_one (de_or (de_cmp op_isN od_isN (de_var 3 (pv 3)) de_non (nomark _)) (de_one (de_not (de_callD D_l_is_less hr hg (takes_of (by rfl) (by rfl) (by rfl) (by rfl)) (by rfl) (by rfl) (da_cons (de_var 3 (pv 3)) (da_cons (de_var 1 (pv 1)) da_nil)) (len_cons (len_cons len_nil)))))))))))
theorem ok_l_is_in {f : Addr} {fd : FuncData} (hx : mg "_law_is_in" = some (.ref f)) (F : Fun K "_law_is_in" "_law_is_in" s_l_is_in f fd) (b : Binds K fd p_l_is_in []) (B : Bt mg) (D_l_is_less : Df P w K mg base "_law_is_less" 1 p_l_is_less F_l_is_less) : Df P w K mg base "_law_is_in" 2 p_l_is_in F_l_is_in :=
  ⟨f, fd, hx, F.kp, b, okF_l_is_in F B D_l_is_less⟩
theorem okF_l_in {f : Addr} {fd : FuncData} (F : Fun K "_law_in" "_law_in" s_l_in f fd) (B : Bt mg) (D_l_is_in : Df P w K mg base "_law_is_in" 2 p_l_is_in F_l_is_in) : FnD P w K mg base 3 f fd p_l_in F_l_in := by
    have D_l_is_in := D_l_is_in.mono (show _ ≤ 2 by omega)
    refine okD (k := 2) (N := N_l_in) F sc_l_in fun cdv A outer s H E hr hg => ?_
    have nd := sc_l_in.nd
    exact (dss_one (ds_ret (de_data (df_lcX [("_law_k", 2)] ([2]) (by rfl) nd (by rfl) (by decide) (blkOk_by (N := N_l_in) (sc := defScope s_l_in) (by decide +kernel)) (fun _ => rfl) (di_range1 (pi_range1 (by rfl) B.z_range (da_cons (de_cB cd_len (pe_callB call_len (by rfl) B.z_len (by decide +kernel) (da_cons (de_var 0 (pv 0)) da_nil))) da_nil))) (fun _ _ _ _ _ => (dg_name (pg_name (i := 2) nd (by rfl) (Or.inl (by rfl))))) (fun _ _ _ _ _ => (dts_one (dt_tru (de_callD D_l_is_in hr hg takes0 (by rfl) (by rfl) (da_cons (de_ix ix_seq od_ix (de_var 0 (pv 0)) (de_var 2 (pv 2)) (fun _ _ => rfl)) (da_cons (de_var 1 (pv 1)) da_nil)) (len_cons (len_cons len_nil))) (fun _ => rfl)))) (fun _ _ _ _ _ => (de_var 2 (pv 2)))))))
theorem ok_l_in {f : Addr} {fd : FuncData} (hx : mg "_law_in" = some (.ref f)) (F : Fun K "_law_in" "_law_in" s_l_in f fd) (b : Binds K fd p_l_in []) (B : Bt mg) (D_l_is_in : Df P w K mg base "_law_is_in" 2 p_l_is_in F_l_is_in) : Df P w K mg base "_law_in" 3 p_l_in F_l_in :=
  ⟨f, fd, hx, F.kp, b, okF_l_in F B D_l_is_in⟩
theorem okF_l_let {f : Addr} {fd : FuncData} (F : Fun K "_law_let" "_law_let" s_l_let f fd) (B : Bt mg) (XX : Xt P w K mg base) (D_lets_cover : DfW P w K mg base "lets_cover" 6 p_lets_cover F_lets_cover [.d (.int 0)] "liars") : FnD P w K mg base 7 f fd p_l_let F_l_let := by
    have D_lets_cover := D_lets_cover.mono (show _ ≤ 6 by omega)
    refine okD (k := 6) (N := N_l_let) F sc_l_let fun cdv A outer s H E hr hg => ?_
    have nd := sc_l_let.nd
    exact (dss_cons (ds_set (ps_set (i := 3) nd (by rfl) (Or.inl (by rfl)) de_non))
    (dss_cons (ds_try0 (cs := [.ref C_NoPaper]) (hit := [C_NoPaper]) (miss := [C_Lied]) (by rfl) (by rfl) nd (tst_one (names_own (by rfl) XX.m_NoPaper)) (takes_of (by rfl) (by rfl) (by rfl) (by rfl)) (fun W pn xe tk po => (dss_one (ds_set (ps_set (i := 3) nd (by rfl) (Or.inl (by rfl)) (de_callDW D_lets_cover hr hg tk (by rfl) (by rfl) (da_cons (de_var 0 (pv 0)) (da_cons (de_var 1 (pv 1)) da_nil)) (len_cons (len_cons len_nil)) (de_var 2 (pv 2)))))))
    (fun a oe cls d pn hz hd => (dss_one (ds_set (ps_set (i := 3) nd (by rfl) (Or.inl (by rfl)) de_non)))) (fun C hC => by simp only [List.mem_cons, List.not_mem_nil, or_false] at hC; rcases hC with rfl <;> first | exact (exm_cons (exmOne_own XX.U_NoPaper XX.s_NoPaper_NoPaper) exm_nil)) (fun C hC => by simp only [List.mem_cons, List.not_mem_nil, or_false] at hC; rcases hC with rfl <;> first | exact (exm_cons (exmOne_own XX.U_NoPaper XX.s_Lied_NoPaper) exm_nil)))
    (dss_one (ds_ret (de_var 3 (pv 3))))))
theorem ok_l_let {f : Addr} {fd : FuncData} (hx : mg "_law_let" = some (.ref f)) (F : Fun K "_law_let" "_law_let" s_l_let f fd) (b : Binds K fd p_l_let []) (B : Bt mg) (XX : Xt P w K mg base) (D_lets_cover : DfW P w K mg base "lets_cover" 6 p_lets_cover F_lets_cover [.d (.int 0)] "liars") : Df P w K mg base "_law_let" 7 p_l_let F_l_let :=
  ⟨f, fd, hx, F.kp, b, okF_l_let F B XX D_lets_cover⟩
theorem okF_l_told {f : Addr} {fd : FuncData} (F : Fun K "_law_told" "_law_told" s_l_told f fd) (B : Bt mg) (XX : Xt P w K mg base) (D_by_majority : DfW P w K mg base "by_majority" 6 p_by_majority F_by_majority [.d (.int 0)] "liars") : FnD P w K mg base 7 f fd p_l_told F_l_told := by
    have D_by_majority := D_by_majority.mono (show _ ≤ 6 by omega)
    refine okD (k := 6) (N := N_l_told) F sc_l_told fun cdv A outer s H E hr hg => ?_
    have nd := sc_l_told.nd
    exact (dss_cons (ds_set (ps_set (i := 2) nd (by rfl) (Or.inl (by rfl)) de_non))
    (dss_cons (ds_try0 (cs := [.ref C_Lied]) (hit := [C_Lied]) (miss := [C_NoPaper]) (by rfl) (by rfl) nd (tst_one (names_own (by rfl) XX.m_Lied)) (takes_of (by rfl) (by rfl) (by rfl) (by rfl)) (fun W pn xe tk po => (dss_one (ds_set (ps_set (i := 2) nd (by rfl) (Or.inl (by rfl)) (de_callDW D_by_majority hr hg tk (by rfl) (by rfl) (da_cons (de_var 0 (pv 0)) da_nil) (len_cons len_nil) (de_var 1 (pv 1)))))))
    (fun a oe cls d pn hz hd => (dss_one (ds_set (ps_set (i := 2) nd (by rfl) (Or.inl (by rfl)) de_non)))) (fun C hC => by simp only [List.mem_cons, List.not_mem_nil, or_false] at hC; rcases hC with rfl <;> first | exact (exm_cons (exmOne_own XX.U_Lied XX.s_Lied_Lied) exm_nil)) (fun C hC => by simp only [List.mem_cons, List.not_mem_nil, or_false] at hC; rcases hC with rfl <;> first | exact (exm_cons (exmOne_own XX.U_Lied XX.s_NoPaper_Lied) exm_nil)))
    (dss_one (ds_ret (de_var 2 (pv 2))))))
theorem ok_l_told {f : Addr} {fd : FuncData} (hx : mg "_law_told" = some (.ref f)) (F : Fun K "_law_told" "_law_told" s_l_told f fd) (b : Binds K fd p_l_told []) (B : Bt mg) (XX : Xt P w K mg base) (D_by_majority : DfW P w K mg base "by_majority" 6 p_by_majority F_by_majority [.d (.int 0)] "liars") : Df P w K mg base "_law_told" 7 p_l_told F_l_told :=
  ⟨f, fd, hx, F.kp, b, okF_l_told F B XX D_by_majority⟩
theorem okF_law {f : Addr} {fd : FuncData} (F : Fun K "law" "law" s_law f fd) (B : Bt mg) (D_l_tape : Df P w K mg base "_law_tape" 1 p_l_tape F_l_tape) (D_l_spans : Df P w K mg base "_law_spans" 3 p_l_spans F_l_spans) (D_l_draw : Df P w K mg base "_law_draw" 1 p_l_draw F_l_draw) (D_l_told : Df P w K mg base "_law_told" 7 p_l_told F_l_told) (D_cover_paper : DfW P w K mg base "cover_paper" 7 p_cover_paper F_cover_paper [.d (.int 0)] "liars") (D_l_point : Df P w K mg base "_law_point" 2 p_l_point F_l_point) (D_l_in : Df P w K mg base "_law_in" 3 p_l_in F_l_in) (D_l_let : Df P w K mg base "_law_let" 7 p_l_let F_l_let) : FnD P w K mg base 8 f fd p_law F_law := by
    have D_l_tape := D_l_tape.mono (show _ ≤ 7 by omega)
    have D_l_spans := D_l_spans.mono (show _ ≤ 7 by omega)
    have D_l_draw := D_l_draw.mono (show _ ≤ 7 by omega)
    have D_l_told := D_l_told.mono (show _ ≤ 7 by omega)
    have D_cover_paper := D_cover_paper.mono (show _ ≤ 7 by omega)
    have D_l_point := D_l_point.mono (show _ ≤ 7 by omega)
    have D_l_in := D_l_in.mono (show _ ≤ 7 by omega)
    have D_l_let := D_l_let.mono (show _ ≤ 7 by omega)
    refine okD (k := 7) (N := N_law) F sc_law fun cdv A outer s H E hr hg => ?_
    have nd := sc_law.nd
    exact (dss_cons (ds_set (ps_set (i := 1) nd (by rfl) (Or.inl (by rfl)) (de_callD D_l_tape hr hg (takes_of (by rfl) (by rfl) (by rfl) (by rfl)) (by rfl) (by rfl) (da_cons (de_var 0 (pv 0)) da_nil) (len_cons len_nil))))
    (dss_cons (ds_for (sl := [2]) (passes_of (by rfl)) (by rfl) (di_range1 (pi_range1 (by rfl) B.z_range (da_cons de_int da_nil))) (dg_name (pg_name (i := 2) nd (by rfl) (Or.inl (by rfl))))
    (dss_cons (ds_par (ps_par (i := 3) (j := 4) (by rfl) nd (by rfl) (by rfl) (by decide) (by rfl) (by rfl) (da_cons (de_callD D_l_spans hr hg (takes_of (by rfl) (by rfl) (by rfl) (by rfl)) (by rfl) (by rfl) (da_cons (de_var 1 (pv 1)) (da_cons de_int da_nil)) (len_cons (len_cons len_nil))) (da_cons (de_callD D_l_spans hr hg (takes_of (by rfl) (by rfl) (by rfl) (by rfl)) (by rfl) (by rfl) (da_cons (de_var 1 (pv 1)) (da_cons de_int da_nil)) (len_cons (len_cons len_nil))) da_nil)) (by rfl)))
    (dss_cons (ds_set (ps_set (i := 5) nd (by rfl) (Or.inl (by rfl)) (de_callD D_l_draw hr hg (takes_of (by rfl) (by rfl) (by rfl) (by rfl)) (by rfl) (by rfl) (da_cons (de_var 1 (pv 1)) (da_cons (de_bin or_add od_add (de_cB cd_len (pe_callB call_len (by rfl) B.z_len (by decide +kernel) (da_cons (de_var 3 (pv 3)) da_nil))) de_int) da_nil)) (len_cons (len_cons len_nil)))))
    (dss_cons (ds_par (ps_par (i := 6) (j := 7) (by rfl) nd (by rfl) (by rfl) (by decide) (by rfl) (by rfl) (da_cons (de_callD D_l_told hr hg (takes_of (by rfl) (by rfl) (by rfl) (by rfl)) (by rfl) (by rfl) (da_cons (de_var 3 (pv 3)) (da_cons (de_var 5 (pv 5)) da_nil)) (len_cons (len_cons len_nil))) (da_cons (de_cell (df_lst da_nil)) da_nil)) (by rfl)))
    (dss_cons (ds_for (sl := (([8] ++ ([9] ++ [])))) (passes_of (by rfl)) (by rfl) (di_seq (de_data (df_lst (da_cons (de_tup (da_cons (de_var 3 (pv 3)) (da_cons (de_var 5 (pv 5)) da_nil))) (da_cons (de_tup (da_cons (de_var 4 (pv 4)) (da_cons (de_var 5 (pv 5)) da_nil))) (da_cons (de_tup (da_cons (de_var 3 (pv 3)) (da_cons (de_bin or_add od_add (de_var 5 (pv 5)) de_int) da_nil))) (da_cons (de_tup (da_cons (de_var 3 (pv 3)) (da_cons (de_cB cd_len (pe_callB call_len (by rfl) B.z_len (by decide +kernel) (da_cons (de_var 3 (pv 3)) da_nil))) da_nil))) da_nil))))))) (dg_tup (by rfl) (dgs_cons (dg_name (pg_name (i := 8) nd (by rfl) (Or.inl (by rfl)))) (dgs_cons (dg_name (pg_name (i := 9) nd (by rfl) (Or.inl (by rfl)))) dgs_nil)))
    (dss_one (ds_if (dt_cmp op_notN od_notN (de_callD D_l_told hr hg (takes_of (by rfl) (by rfl) (by rfl) (by rfl)) (by rfl) (by rfl) (da_cons (de_var 8 (pv 8)) (da_cons (de_var 9 (pv 9)) da_nil)) (len_cons (len_cons len_nil))) de_non (nomark _))
    (dss_one (ds_expr (de_mt md_app (pe_bm PySem.F.plainAttrs_list PySem.F.slot_list_append PySem.F.type_list_append mt_append (de_var 7 (pv 7)) (da_cons (de_callDW D_cover_paper hr hg (takes_of (by rfl) (by rfl) (by rfl) (by rfl)) (by rfl) (by rfl) (da_cons (de_var 8 (pv 8)) da_nil) (len_cons len_nil) (de_var 9 (pv 9))) da_nil)))))
    dss_nil)))
    (dss_cons (ds_for (sl := [10]) (passes_of (by rfl)) (by rfl) (di_range1 (pi_range1 (by rfl) B.z_range (da_cons de_int da_nil))) (dg_name (pg_name (i := 10) nd (by rfl) (Or.inl (by rfl))))
    (dss_cons (ds_asg (sl := (([11] ++ ([12] ++ ([13] ++ ([14] ++ [])))))) (de_ix ix_seq od_ix (de_var 7 (pv 7)) (de_callD D_l_draw hr hg (takes_of (by rfl) (by rfl) (by rfl) (by rfl)) (by rfl) (by rfl) (da_cons (de_var 1 (pv 1)) (da_cons (de_cB cd_len (pe_callB call_len (by rfl) B.z_len (by decide +kernel) (da_cons (de_var 7 (pv 7)) da_nil))) da_nil)) (len_cons (len_cons len_nil))) (fun _ _ => rfl)) (dg_tup (by rfl) (dgs_cons (dg_name (pg_name (i := 11) nd (by rfl) (Or.inl (by rfl)))) (dgs_cons (dg_name (pg_name (i := 12) nd (by rfl) (Or.inl (by rfl)))) (dgs_cons (dg_name (pg_name (i := 13) nd (by rfl) (Or.inl (by rfl)))) (dgs_cons (dg_name (pg_name (i := 14) nd (by rfl) (Or.inl (by rfl)))) dgs_nil))))))
    (dss_cons (ds_set (ps_set (i := 11) nd (by rfl) (Or.inl (by rfl)) (de_ix ix_seq od_ix (de_data (df_lst (da_cons (de_var 11 (pv 11)) (da_cons (de_var 11 (pv 11)) (da_cons de_non (da_cons (de_callD D_l_point hr hg (takes_of (by rfl) (by rfl) (by rfl) (by rfl)) (by rfl) (by rfl) (da_cons (de_var 1 (pv 1)) da_nil) (len_cons len_nil)) da_nil)))))) (de_callD D_l_draw hr hg (takes_of (by rfl) (by rfl) (by rfl) (by rfl)) (by rfl) (by rfl) (da_cons (de_var 1 (pv 1)) (da_cons de_int da_nil)) (len_cons (len_cons len_nil))) (fun _ _ => rfl))))
    (dss_cons (ds_set (ps_set (i := 12) nd (by rfl) (Or.inl (by rfl)) (de_ix ix_seq od_ix (de_data (df_lst (da_cons (de_var 12 (pv 12)) (da_cons (de_var 12 (pv 12)) (da_cons de_non (da_cons (de_callD D_l_point hr hg (takes_of (by rfl) (by rfl) (by rfl) (by rfl)) (by rfl) (by rfl) (da_cons (de_var 1 (pv 1)) da_nil) (len_cons len_nil)) da_nil)))))) (de_callD D_l_draw hr hg (takes_of (by rfl) (by rfl) (by rfl) (by rfl)) (by rfl) (by rfl) (da_cons (de_var 1 (pv 1)) (da_cons de_int da_nil)) (len_cons (len_cons len_nil))) (fun _ _ => rfl))))
    (dss_cons (ds_expr (de_mt md_app (pe_bm PySem.F.plainAttrs_list PySem.F.slot_list_append PySem.F.type_list_append mt_append (de_var 7 (pv 7)) (da_cons (de_tup (da_cons (de_var 11 (pv 11)) (da_cons (de_var 12 (pv 12)) (da_cons (de_sl (de_var 13 (pv 13)) (do_some (de_callD D_l_draw hr hg (takes_of (by rfl) (by rfl) (by rfl) (by rfl)) (by rfl) (by rfl) (da_cons (de_var 1 (pv 1)) (da_cons de_int da_nil)) (len_cons (len_cons len_nil)))) do_none) (da_cons (de_var 14 (pv 14)) da_nil))))) da_nil))))
    (dss_cons (ds_expr (de_mt md_app (pe_bm PySem.F.plainAttrs_list PySem.F.slot_list_append PySem.F.type_list_append mt_append (de_var 7 (pv 7)) (da_cons (de_tup (da_cons (de_var 11 (pv 11)) (da_cons (de_var 12 (pv 12)) (da_cons (de_if (dt_cmp op_isN od_isN (de_var 11 (pv 11)) de_non (nomark _)) (de_tup da_nil) (de_cB cd_tuple (pe_callTy call_tuple_of (by rfl) B.z_tuple (by decide +kernel) (da_cons (de_callD D_l_in hr hg (takes_of (by rfl) (by rfl) (by rfl) (by rfl)) (by rfl) (by rfl) (da_cons (de_var 3 (pv 3)) (da_cons (de_var 11 (pv 11)) da_nil)) (len_cons (len_cons len_nil))) da_nil)))) (da_cons (de_var 14 (pv 14)) da_nil))))) da_nil))))
    (dss_one (ds_expr (de_mt md_app (pe_bm PySem.F.plainAttrs_list PySem.F.slot_list_append PySem.F.type_list_append mt_append (de_var 7 (pv 7)) (da_cons (de_tup (da_cons (de_var 11 (pv 11)) (da_cons (de_var 12 (pv 12)) (da_cons (de_var 13 (pv 13)) (da_cons (de_if (dt_cmp op_isN od_isN (de_var 12 (pv 12)) de_non (nomark _)) (de_tup da_nil) (de_cB cd_tuple (pe_callTy call_tuple_of (by rfl) B.z_tuple (by decide +kernel) (da_cons (de_callD D_l_in hr hg (takes_of (by rfl) (by rfl) (by rfl) (by rfl)) (by rfl) (by rfl) (da_cons (de_var 3 (pv 3)) (da_cons (de_var 12 (pv 12)) da_nil)) (len_cons (len_cons len_nil))) da_nil)))) da_nil))))) da_nil)))))))))))
    (dss_cons (ds_for (sl := [15]) (passes_of (by rfl)) (by rfl) (di_seq (de_var 7 (pv 7))) (dg_name (pg_name (i := 15) nd (by rfl) (Or.inl (by rfl))))
    (dss_cons (ds_set (ps_set (i := 16) nd (by rfl) (Or.inl (by rfl)) (de_callD D_l_let hr hg (takes_of (by rfl) (by rfl) (by rfl) (by rfl)) (by rfl) (by rfl) (da_cons (de_var 3 (pv 3)) (da_cons (de_var 15 (pv 15)) (da_cons (de_var 5 (pv 5)) da_nil))) (len_cons (len_cons (len_cons len_nil))))))
    (dss_one (ds_if (DW.pt (dw_and (dt_cmp op_notN od_notN (de_var 16 (pv 16)) de_non (nomark _)) (dw_and1 (dt_cmp (op_neD hr.units) od_ne (de_var 16 (pv 16)) (de_var 6 (pv 6)) (nomark _)))))
    (dss_one (ds_ret de_bl))
    dss_nil))))
    (dss_one (ds_if (dt_cmp op_notN od_notN (de_var 6 (pv 6)) de_non (nomark _))
    (dss_cons (ds_asg (sl := (([11] ++ ([12] ++ ([13] ++ ([14] ++ [])))))) (de_callDW D_cover_paper hr hg (takes_of (by rfl) (by rfl) (by rfl) (by rfl)) (by rfl) (by rfl) (da_cons (de_var 3 (pv 3)) da_nil) (len_cons len_nil) (de_var 5 (pv 5))) (dg_tup (by rfl) (dgs_cons (dg_name (pg_name (i := 11) nd (by rfl) (Or.inl (by rfl)))) (dgs_cons (dg_name (pg_name (i := 12) nd (by rfl) (Or.inl (by rfl)))) (dgs_cons (dg_name (pg_name (i := 13) nd (by rfl) (Or.inl (by rfl)))) (dgs_cons (dg_name (pg_name (i := 14) nd (by rfl) (Or.inl (by rfl)))) dgs_nil))))))
    (dss_cons (ds_set (ps_set (i := 17) nd (by rfl) (Or.inl (by rfl)) (de_cB cd_max2I (pe_callB (call_max2 (by rfl)) (by rfl) B.z_max (by decide +kernel) (da_cons de_int (da_cons (de_bin op_sub od_sub (de_cB cd_len (pe_callB call_len (by rfl) B.z_len (by decide +kernel) (da_cons (de_var 3 (pv 3)) da_nil))) (de_var 5 (pv 5))) da_nil))))))
    (dss_cons (ds_set (ps_set (i := 13) nd (by rfl) (Or.inl (by rfl)) (de_if (dt_cmp op_notN od_notN (de_var 11 (pv 11)) de_non (nomark _)) (de_sl (de_var 13 (pv 13)) (do_some (de_bin op_sub od_sub (de_cB cd_len (pe_callB call_len (by rfl) B.z_len (by decide +kernel) (da_cons (de_var 13 (pv 13)) da_nil))) (de_var 17 (pv 17)))) do_none) (de_tup da_nil))))
    (dss_cons (ds_set (ps_set (i := 14) nd (by rfl) (Or.inl (by rfl)) (de_if (dt_cmp op_notN od_notN (de_var 12 (pv 12)) de_non (nomark _)) (de_sl (de_var 14 (pv 14)) do_none (do_some (de_var 17 (pv 17)))) (de_tup da_nil))))
    (dss_one (ds_if (dt_cmp (op_neD hr.units) od_ne (de_callD D_l_let hr hg (takes_of (by rfl) (by rfl) (by rfl) (by rfl)) (by rfl) (by rfl) (da_cons (de_var 3 (pv 3)) (da_cons (de_tup (da_cons (de_var 11 (pv 11)) (da_cons (de_var 12 (pv 12)) (da_cons (de_var 13 (pv 13)) (da_cons (de_var 14 (pv 14)) da_nil))))) (da_cons (de_var 5 (pv 5)) da_nil))) (len_cons (len_cons (len_cons len_nil)))) (de_var 6 (pv 6)) (nomark _))
    (dss_one (ds_ret de_bl))
    dss_nil))))))
    dss_nil)))))))))
    (dss_one (ds_ret de_bl))))
theorem ok_law {f : Addr} {fd : FuncData} (hx : mg "law" = some (.ref f)) (F : Fun K "law" "law" s_law f fd) (b : Binds K fd p_law []) (B : Bt mg) (D_l_tape : Df P w K mg base "_law_tape" 1 p_l_tape F_l_tape) (D_l_spans : Df P w K mg base "_law_spans" 3 p_l_spans F_l_spans) (D_l_draw : Df P w K mg base "_law_draw" 1 p_l_draw F_l_draw) (D_l_told : Df P w K mg base "_law_told" 7 p_l_told F_l_told) (D_cover_paper : DfW P w K mg base "cover_paper" 7 p_cover_paper F_cover_paper [.d (.int 0)] "liars") (D_l_point : Df P w K mg base "_law_point" 2 p_l_point F_l_point) (D_l_in : Df P w K mg base "_law_in" 3 p_l_in F_l_in) (D_l_let : Df P w K mg base "_law_let" 7 p_l_let F_l_let) : Df P w K mg base "law" 8 p_law F_law :=
  ⟨f, fd, hx, F.kp, b, okF_law F B D_l_tape D_l_spans D_l_draw D_l_told D_cover_paper D_l_point D_l_in D_l_let⟩
end
end Lw

namespace Lw
open PySem L2 DL PyProof.Rows
/-! ### draws from a tape -/
abbrev tape (ns : List Int) (a b t : Int) : Cell := .lst [.list (ns.map .int), .int a, .int b, .int t]
def Tp (ns : List Int) (j : Nat) (c : Cell) : Prop := ns.length ≤ 63 ∧ ∃ a b t : Int, c = tape ns a b t ∧ 0 ≤ a ∧ 0 ≤ t ∧ t ≤ j
theorem Tp.mono {ns : List Int} {j j' : Nat} {c : Cell} (h : Tp ns j c) (hj : j ≤ j') : Tp ns j' c := by
  obtain ⟨h0, a, b, t, e, h1, h2, h3⟩ := h
  exact ⟨h0, a, b, t, e, h1, h2, by omega⟩
theorem eqv_nil {xs : List Int} (h : xs ≠ []) : PyData.eqv (.list (xs.map PyData.int)) (.list []) = false := by
  cases xs with
  | nil => exact absurd rfl h
  | cons x xs => simp [PyData.eqv, PyData.eqvAll]
theorem JO_divS {G : Sg} {K : W → Prop} {i j : Int} (h0 : 0 < j) (hc : j < 2 ^ 60) (k : K (.d (.int (i / j)))) : JO G (gDiv (.d (.int i)) (.d (.int j))) K :=
  JO_div h0 (Nat.lt_trans (log2_lt (k := 60) (by decide) (by omega)) (by decide)) k
theorem JO_pow5 {G : Sg} {K : W → Prop} {i : Int} (h : i.natAbs < 2 ^ 64) (k : K (.d (.int (i ^ (5 : Int).toNat)))) : JO G (gPow (.d (.int i)) (.d (.int 5))) K := JO_I (by simp only [decide_eq_true_eq, Bool.and_eq_true]; exact ⟨⟨by decide, by decide⟩, h⟩) k
theorem draw_c {ns : List Int} {j : Nat} {c : Cell} {G : Sg} {K : W → Sg → Prop} {X : XK'} {p : Nat} (i : Nat) (hi : Has G i p c) (h : Tp ns j c) (hj : j ≤ 10 ^ 9) {k : Int} (hk : 0 < k) (hk2 : k < 2 ^ 60)
    (q : ∀ r c', Tp ns (j + 1) c' → 0 ≤ r → r < k → K (.d (.int r)) (G.set i (p, c'))) : JC G F_l_draw [.c p, .d (.int k)] K X := by
  refine JC_frame hi ?_
  obtain ⟨h0, a, b, t, rfl, h1, h2, h3⟩ := h
  have hs1 := shaped_ints ns
  have fin : ∀ (r a' b' : Int), 0 ≤ r → r < k → 0 ≤ a' → K (.d (.int r)) (G.set i (p, tape ns a' b' (t + 1)) ++ []) := fun r a' b' g1 g2 g3 => by
    rw [List.append_nil]; exact q r _ ⟨h0, a', b', t + 1, rfl, g3, by omega, by omega⟩ g1 g2
  have fm := fun x : Int => fmod_lt (a := x) hk
  have hp1 : ∀ cell : Int, (cell.fmod 1000099 + 5309 * (t + 1) + 53).natAbs < 2 ^ 64 := fun cell => by
    have := fmod_lt (a := cell) (b := 1000099) (by decide)
    omega
  have hp2 : ∀ cell : Int, (((cell.fmod 1000099 + 5309 * (t + 1) + 53) ^ (5 : Int).toNat).fmod 2147483647 + 90001 * (t + 1)).natAbs < 2 ^ 64 := fun cell => by
    have := fmod_lt (a := (cell.fmod 1000099 + 5309 * (t + 1) + 53) ^ (5 : Int).toNat) (b := 2147483647) (by decide)
    omega
  apply JC_runB
  unfold m_l_draw
  show JS [some (.c p), some (.d (.int k)), none, none, none, none, none] [(p, tape ns a b t)] _ _
  and_intros
  refine ⟨fun hb => ?_, fun hb => ?_⟩
  · and_intros
    refine JO_mod (by omega) ?_
    and_intros
    refine JO_divS hk hk2 ?_
    and_intros
    exact fin _ _ _ (fm b).1 (fm b).2 h1
  · have mixed : ∀ (cell : Int), JS [some (.c p), some (.d (.int k)), some (.d (.int (t + 1))), none, some (.d (.int a)), some (.d (.int cell)), none] [(p, tape ns (a + 1) b (t + 1))] (sSeq (sAsg (dBin gMod (dBin gPow (dBin gAdd (dBin gAdd (dBin gMod (dVar 5) (dC (.int 1000099))) (dBin gMulS (dC (.int 5309)) (dVar 2))) (dC (.int 53))) (dC (.int 5))) (dC (.int 2147483647))) (gN 6))
        (sRet (dBin gMod (dBin gDiv (dBin gMod (dBin gPow (dBin gAdd (dVar 6) (dBin gMulS (dC (.int 90001)) (dVar 2))) (dC (.int 5))) (dC (.int 2147483587))) (dC (.int 64))) (dVar 1))))
        (fun o => match o with | .ret w G1 => ∃ c' Gn, G1 = (p, c') :: Gn ∧ K w (G.set i (p, c') ++ Gn) | .nx _ G1 => ∃ c' Gn, G1 = (p, c') :: Gn ∧ K (.d .none) (G.set i (p, c') ++ Gn) | .exc x fs _ G1 => ∃ c' Gn, G1 = (p, c') :: Gn ∧ X x fs (G.set i (p, c') ++ Gn) | _ => False) := fun cell => by
      and_intros
      refine JO_pow5 (hp1 cell) ?_
      and_intros
      refine JO_pow5 (hp2 cell) ?_
      and_intros
      refine JO_mod (by omega) ?_
      and_intros
      exact fin _ _ _ (fm _).1 (fm _).2 (by omega)
    and_intros
    refine JO_ne hs1 shaped_nil ?_
    and_intros
    refine ⟨fun hn => ?_, fun hn => ?_⟩
    · have hne : ns ≠ [] := fun z => by subst z; simp [PyData.eqv, PyData.eqvAll] at hn
      have hlen : 0 < (ns.length : Int) := by
        cases ns with
        | nil => exact absurd rfl hne
        | cons x xs => simp only [List.length_cons]; omega
      have hf := fmod_lt (a := a) hlen
      and_intros
      rw [List.length_map]
      refine JO_mod (by omega) ?_
      and_intros
      refine JO_ixM (g := PyData.int) hf.1 hf.2 fun cell _ _ => ?_
      and_intros
      refine ⟨fun hc => ?_, fun hc => ?_⟩
      · and_intros
        refine ⟨fun hc2 => ?_, fun hc2 => ?_⟩
        · and_intros
          refine JO_divS hk hk2 ?_
          and_intros
          refine JO_mod (by omega) ?_
          and_intros
          exact fin _ _ _ (fm _).1 (fm _).2 (by omega)
        · exact JS_nx (mixed cell)
      · refine ⟨(fun h => nomatch h), fun _ => ?_⟩
        exact JS_nx (mixed cell)
    · and_intros
      refine ⟨fun hc => ?_, fun hc => ?_⟩
      · exact absurd hc (by decide)
      · refine ⟨(fun h => nomatch h), fun _ => ?_⟩
        exact JS_nx (mixed 10)
end Lw

namespace Lw
open PySem L2 DL PyProof.Rows
theorem fmod_nat (x y : Nat) : (x : Int).fmod (y : Int) = ((x % y : Nat) : Int) := by
  rw [Int.fmod_eq_emod_of_nonneg _ (Int.natCast_nonneg y), Int.natCast_emod]
theorem gcd_step (x y : Nat) : Nat.gcd y (x % y) = Nat.gcd x y := by
  rw [Nat.gcd_comm x y, Nat.gcd_rec y x, Nat.gcd_comm]
theorem low_loop (x0 x1 : Option W) (m : Sto) : ∀ (n x y : Nat), y ≤ n → sWhile (dIsT (dBin gGt (dVar 3) (dC (.int 0)))) (sPar 2 3 (dCons (dVar 3) (dCons (dBin gMod (dVar 2) (dVar 3)) dNil))) [x0, x1, some (.d (.int x)), some (.d (.int y))] m =
    .nx [x0, x1, some (.d (.int (Nat.gcd x y : Nat))), some (.d (.int 0))] m
  | n, x, 0, _ => by
    rw [sWhile_turn]
    simp
  | 0, x, y + 1, h => by omega
  | n + 1, x, y + 1, h => by
    rw [sWhile_turn]
    have h0 : (0 : Int) < (y : Int) + 1 := by omega
    have h1 : ¬ ((y : Int) + 1 = 0) := by omega
    have hf : (x : Int).fmod ((y : Int) + 1) = ((x % (y + 1) : Nat) : Int) := fmod_nat x (y + 1)
    have ih := low_loop x0 x1 m n (y + 1) (x % (y + 1)) (by have := Nat.mod_lt x (show 0 < y + 1 by omega); omega)
    rw [gcd_step] at ih
    simp only [Int.natCast_emod, Int.natCast_add, Int.natCast_one] at ih hf
    simp [h0, h1, hf, ih]
theorem div2_loop (m : Sto) : ∀ (n x y : Nat), y ≤ n → sWhile (dIsT (dBin gNe (dVar 1) (dC (.int 0)))) (sPar 0 1 (dCons (dVar 1) (dCons (dBin gMod (dVar 0) (dVar 1)) dNil))) [some (.d (.int x)), some (.d (.int y))] m =
    .nx [some (.d (.int (Nat.gcd x y : Nat))), some (.d (.int 0))] m
  | n, x, 0, _ => by
    rw [sWhile_turn]
    simp [shaped_int, PyData.eqv]
  | 0, x, y + 1, h => by omega
  | n + 1, x, y + 1, h => by
    rw [sWhile_turn]
    have h1 : ¬ ((y : Int) + 1 = 0) := by omega
    have hf : (x : Int).fmod ((y : Int) + 1) = ((x % (y + 1) : Nat) : Int) := fmod_nat x (y + 1)
    have ih := div2_loop m n (y + 1) (x % (y + 1)) (by have := Nat.mod_lt x (show 0 < y + 1 by omega); omega)
    rw [gcd_step] at ih
    simp only [Int.natCast_emod, Int.natCast_add, Int.natCast_one] at ih hf
    simp [h1, hf, ih, shaped_int, PyData.eqv]
theorem c_div (m : Sto) (x y : Nat) : F_common_divisor [.d (.int x), .d (.int y)] m = .ok (.d (.int (Nat.gcd x y : Nat))) m := by
  unfold F_common_divisor runB m_common_divisor
  simp [div2_loop m y x y (Nat.le_refl _)]
theorem abs_eq (i : Int) : (if i < 0 then -i else i) = ((i.natAbs : Nat) : Int) := by split <;> omega
def fr (r : Rat) : D := .tuple [.int r.num, .int (r.den : Int)]
theorem fr_pos (a : Int) (n : Nat) (hn : 0 < n) : (Rat.divInt a n).num = a / (Nat.gcd a.natAbs n : Nat) ∧ (((Rat.divInt a n).den : Nat) : Int) = (n : Int) / (Nat.gcd a.natAbs n : Nat) := by
  rw [Rat.divInt_ofNat, Rat.num_mkRat, Rat.den_mkRat, if_neg (by omega), if_neg (by omega), Nat.gcd_comm]
  exact ⟨rfl, Int.natCast_ediv _ _⟩
theorem divInt_neg2 (a b : Int) : Rat.divInt (-a) (-b) = Rat.divInt a b := by
  rw [Rat.divInt_eq_div, Rat.divInt_eq_div, Rat.intCast_neg, Rat.intCast_neg]
  grind
theorem low_eq (a b : Int) (hb : 0 < b) (hs : b.natAbs < 2 ^ 8000) (m : Sto) : F_l_low [.d (.int a), .d (.int b)] m = .ok (.d (fr (Rat.divInt a b))) m := by
  obtain ⟨n, rfl⟩ := Int.eq_ofNat_of_zero_le (Int.le_of_lt hb)
  have k1 : 0 < Nat.gcd a.natAbs n := Nat.gcd_pos_of_pos_right _ (by omega)
  have hl : Nat.gcd a.natAbs n ≤ n := Nat.gcd_le_right _ (by omega)
  have hs' : n < 2 ^ 8000 := hs
  have k2 : Nat.log2 (Nat.gcd a.natAbs n) < 9000 := Nat.lt_trans (log2_lt (k := 8000) (by decide) (Nat.lt_of_le_of_lt hl hs')) (by decide)
  obtain ⟨f1, f2⟩ := fr_pos a n (by omega)
  unfold F_l_low runB m_l_low
  unfold fr
  rw [f1, f2]
  simp [abs_eq, low_loop _ _ m n a.natAbs n (Nat.le_refl _), k1, k2, line_eq]
theorem fdiv_ex {a g : Int} (hg : g ≠ 0) (h : g ∣ a) : a.fdiv (-g) = (-a) / g := by
  obtain ⟨x, rfl⟩ := h
  have e1 : g * x = (-g) * (-x) := (Int.neg_mul_neg g x).symm
  rw [e1, Int.mul_fdiv_cancel_left _ (by omega)]
  have e2 : -(-g * -x) = g * (-x) := by rw [Int.neg_mul_neg, Int.mul_neg]
  rw [e2, Int.mul_ediv_cancel_left _ hg]
theorem ratio_eq (a b : Int) (hb : b ≠ 0) (hs : b.natAbs < 2 ^ 8000) (m : Sto) : F_ratio [.d (.int a), .d (.int b)] m = .ok (.d (fr (Rat.divInt a b))) m := by
  have key : ∀ (x : Int) (n : Nat), 0 < n → n < 2 ^ 8000 → 0 < Nat.gcd x.natAbs n ∧ Nat.log2 (Nat.gcd x.natAbs n) < 9000 := fun x n h0 h1 => by
    have hg : 0 < Nat.gcd x.natAbs n := Nat.gcd_pos_of_pos_right _ h0
    have hl : Nat.gcd x.natAbs n ≤ n := Nat.gcd_le_right _ h0
    exact ⟨hg, Nat.lt_trans (log2_lt (k := 8000) (by decide) (Nat.lt_of_le_of_lt hl h1)) (by decide)⟩
  have hb0 : 0 < b.natAbs := by omega
  obtain ⟨k1, k2⟩ := key a b.natAbs hb0 hs
  have e := c_div m a.natAbs b.natAbs
  have kg : ((Nat.gcd a.natAbs b.natAbs : Nat) : Int) ≠ 0 := by omega
  have d1 : ((Nat.gcd a.natAbs b.natAbs : Nat) : Int) ∣ a := Int.ofNat_dvd_left.mpr (Nat.gcd_dvd_left _ _)
  have d2 : ((Nat.gcd a.natAbs b.natAbs : Nat) : Int) ∣ b := Int.ofNat_dvd_left.mpr (Nat.gcd_dvd_right _ _)
  by_cases h : b < 0
  · obtain ⟨n, hn⟩ := Int.eq_ofNat_of_zero_le (show 0 ≤ 0 - b by omega)
    have hnb : b.natAbs = n := by omega
    obtain ⟨f1, f2⟩ := fr_pos (-a) n (by omega)
    have hq : Rat.divInt a b = Rat.divInt (-a) n := by
      rw [← hn, ← divInt_neg2]
      congr 1
      omega
    have q1 := fdiv_ex kg d1
    have q2 := fdiv_ex kg d2
    have ha : (-a).natAbs = a.natAbs := by omega
    have hbn : -b = (n : Int) := by omega
    rw [hnb] at e k1 k2 q1 q2
    rw [ha] at f1 f2
    rw [hbn] at q2
    have kn : ¬ (a = 0 ∧ n = 0) := by omega
    unfold F_ratio runB m_ratio
    rw [hq]
    unfold fr
    rw [f1, f2]
    simp only [s_seq, s_asg, e_call, e_cons, e_cb, e_var, e_nil]
    simp
    rw [abs_eq, abs_eq, hnb, e]
    simp [h, k2, q1, q2, line_eq, kn]
    all_goals omega
  · obtain ⟨n, rfl⟩ := Int.eq_ofNat_of_zero_le (show 0 ≤ b by omega)
    obtain ⟨f1, f2⟩ := fr_pos a n (by omega)
    have hnb : ((n : Int)).natAbs = n := by omega
    rw [hnb] at e k1 k2
    have kn : ¬ (a = 0 ∧ n = 0) := by omega
    have q1 := Int.fdiv_eq_ediv_of_nonneg a (Int.natCast_nonneg (Nat.gcd a.natAbs n))
    have q2 := Int.fdiv_eq_ediv_of_nonneg (n : Int) (Int.natCast_nonneg (Nat.gcd a.natAbs n))
    unfold F_ratio runB m_ratio
    unfold fr
    rw [f1, f2]
    simp only [s_seq, s_asg, e_call, e_cons, e_cb, e_var, e_nil]
    simp
    rw [abs_eq, abs_eq, hnb, e]
    simp [h, k1, k2, line_eq, kn, q1, q2]
    all_goals omega
/-! ### sizes -/
def Sz (n : Nat) (r : Rat) : Prop := r.num.natAbs < 2 ^ n ∧ r.den < 2 ^ n
theorem Sz.mono {n k : Nat} {r : Rat} (h : Sz n r) (hk : n ≤ k) : Sz k r := by
  have := Nat.pow_le_pow_right (n := 2) (by decide) hk
  exact ⟨Nat.lt_of_lt_of_le h.1 this, Nat.lt_of_lt_of_le h.2 this⟩
theorem divInt_le (a b : Int) (hb : b ≠ 0) : (Rat.divInt a b).num.natAbs ≤ a.natAbs ∧ (Rat.divInt a b).den ≤ b.natAbs := by
  have key : ∀ (x : Int) (n : Nat), 0 < n → (Rat.divInt x n).num.natAbs ≤ x.natAbs ∧ (Rat.divInt x n).den ≤ n := fun x n h0 => by
    obtain ⟨f1, f2⟩ := fr_pos x n h0
    rw [f1]
    refine ⟨Int.natAbs_ediv_le_natAbs _ _, ?_⟩
    rw [← Int.natCast_ediv] at f2
    have := Nat.div_le_self n (Nat.gcd x.natAbs n)
    omega
  by_cases h : b < 0
  · obtain ⟨n, hn⟩ := Int.eq_ofNat_of_zero_le (show 0 ≤ -b by omega)
    have := key (-a) n (by omega)
    rw [← hn, divInt_neg2] at this
    omega
  · obtain ⟨n, rfl⟩ := Int.eq_ofNat_of_zero_le (show 0 ≤ b by omega)
    have := key a n (by omega)
    omega
theorem mul_lt2 {a b : Int} {n k : Nat} (ha : a.natAbs < 2 ^ n) (hb : b.natAbs < 2 ^ k) : (a * b).natAbs < 2 ^ (n + k) := wide_lt ha hb
theorem add_lt2 {a b : Int} {n : Nat} (ha : a.natAbs < 2 ^ n) (hb : b.natAbs < 2 ^ n) : (a + b).natAbs < 2 ^ (n + 1) := by
  rw [Nat.pow_succ]
  omega
theorem sub_lt2 {a b : Int} {n : Nat} (ha : a.natAbs < 2 ^ n) (hb : b.natAbs < 2 ^ n) : (a - b).natAbs < 2 ^ (n + 1) := by
  rw [Nat.pow_succ]
  omega
theorem sz_div {a b : Int} {n : Nat} (hb : b ≠ 0) (h1 : a.natAbs < 2 ^ n) (h2 : b.natAbs < 2 ^ n) : Sz n (Rat.divInt a b) :=
  ⟨Nat.lt_of_le_of_lt (divInt_le a b hb).1 h1, Nat.lt_of_le_of_lt (divInt_le a b hb).2 h2⟩
theorem den_pos (r : Rat) : (0 : Int) < r.den := by have := r.den_nz; omega
theorem den_abs (r : Rat) : ((r.den : Int)).natAbs = r.den := Int.natAbs_natCast _
theorem den_ne (r s : Rat) : ((r.den : Int) * s.den) ≠ 0 := Int.mul_ne_zero (by have := den_pos r; omega) (by have := den_pos s; omega)
section
variable {r s : Rat} {n : Nat} (hr : Sz n r) (hs : Sz n s)
include hr hs
theorem sz_nd : (r.num * s.den).natAbs < 2 ^ (n + n) := mul_lt2 hr.1 (by rw [den_abs]; exact hs.2)
theorem sz_dd : ((r.den : Int) * s.den).natAbs < 2 ^ (n + n) := mul_lt2 (by rw [den_abs]; exact hr.2) (by rw [den_abs]; exact hs.2)
theorem sz_nn : (r.num * s.num).natAbs < 2 ^ (n + n) := mul_lt2 hr.1 hs.1
theorem sz_dn : ((r.den : Int) * s.num).natAbs < 2 ^ (n + n) := mul_lt2 (by rw [den_abs]; exact hr.2) hs.1
theorem sz_add : Sz (n + n + 1) (Rat.divInt (r.num * s.den + s.num * r.den) (r.den * s.den)) :=
  sz_div (den_ne r s) (add_lt2 (sz_nd hr hs) (sz_nd hs hr)) (Nat.lt_of_lt_of_le (sz_dd hr hs) (Nat.pow_le_pow_right (by decide) (by omega)))
theorem sz_sub : Sz (n + n + 1) (Rat.divInt (r.num * s.den - s.num * r.den) (r.den * s.den)) :=
  sz_div (den_ne r s) (sub_lt2 (sz_nd hr hs) (sz_nd hs hr)) (Nat.lt_of_lt_of_le (sz_dd hr hs) (Nat.pow_le_pow_right (by decide) (by omega)))
theorem sz_mul : Sz (n + n) (Rat.divInt (r.num * s.num) (r.den * s.den)) := sz_div (den_ne r s) (sz_nn hr hs) (sz_dd hr hs)
theorem sz_quo (h : s.num ≠ 0) : Sz (n + n) (Rat.divInt (r.num * s.den) (r.den * s.num)) := sz_div (Int.mul_ne_zero (by have := den_pos r; omega) h) (sz_nd hr hs) (sz_dn hr hs)
end
theorem okm {i j : Int} {n : Nat} (hn : n ≤ 4000) (h1 : i.natAbs < 2 ^ n) (h2 : j.natAbs < 2 ^ n) : okMul i j = true := by
  have e1 := log2_lt (k := 4000) (by decide) (Nat.lt_of_lt_of_le h1 (Nat.pow_le_pow_right (by decide) hn))
  have e2 := log2_lt (k := 4000) (by decide) (Nat.lt_of_lt_of_le h2 (Nat.pow_le_pow_right (by decide) hn))
  unfold okMul
  rw [decide_eq_true_eq]
  omega
theorem lt8 {x n : Nat} (h : x < 2 ^ n) (hn : n ≤ 8000) : x < 2 ^ 8000 := Nat.lt_of_lt_of_le h (Nat.pow_le_pow_right (by decide) hn)
section
variable {r s : Rat} {n : Nat} (hr : Sz n r) (hs : Sz n s) (hn : n ≤ 2000) (m : Sto)
include hr hs hn
theorem ok_nd : okMul r.num s.den = true := okm (n := n) (by omega) hr.1 (by rw [den_abs]; exact hs.2)
theorem ok_dd : okMul r.den s.den = true := okm (n := n) (by omega) (by rw [den_abs]; exact hr.2) (by rw [den_abs]; exact hs.2)
theorem ok_nn : okMul r.num s.num = true := okm (n := n) (by omega) hr.1 hs.1
theorem ok_dn : okMul r.den s.num = true := okm (n := n) (by omega) (by rw [den_abs]; exact hr.2) hs.1
theorem added_eq : F_added [.d (fr r), .d (fr s)] m = .ok (.d (fr (Rat.divInt (r.num * s.den + s.num * r.den) (r.den * s.den)))) m := by
  have e := ratio_eq (r.num * s.den + s.num * r.den) (r.den * s.den) (den_ne r s) (lt8 (sz_dd hr hs) (by omega)) m
  unfold F_added runB m_added
  rw [show fr r = .tuple [.int r.num, .int r.den] from rfl, show fr s = .tuple [.int s.num, .int s.den] from rfl]
  simp [ok_nd hr hs hn, ok_nd hs hr hn, ok_dd hr hs hn, e]
theorem less_eq : F_less [.d (fr r), .d (fr s)] m = .ok (.d (fr (Rat.divInt (r.num * s.den - s.num * r.den) (r.den * s.den)))) m := by
  have e := ratio_eq (r.num * s.den - s.num * r.den) (r.den * s.den) (den_ne r s) (lt8 (sz_dd hr hs) (by omega)) m
  unfold F_less runB m_less
  rw [show fr r = .tuple [.int r.num, .int r.den] from rfl, show fr s = .tuple [.int s.num, .int s.den] from rfl]
  simp [ok_nd hr hs hn, ok_nd hs hr hn, ok_dd hr hs hn, e]
end
theorem good_fr {n : Nat} {r : Rat} (h : Sz n r) (hn : n ≤ 1850) : Good 1 3720 (fr r) := by
  have h1 := h.mono hn
  exact t2 (good_int (j := 1850) (by decide) (by decide) h1.1) (good_int (j := 1850) (by decide) (by decide) (by rw [den_abs]; exact h1.2)) (by decide) (by decide) (by decide)
theorem as_quo (r : Rat) : r = (r.num : Rat) / (r.den : Rat) ∧ (r.den : Rat) ≠ 0 := by
  refine ⟨?_, fun h => r.den_nz (Rat.natCast_eq_zero_iff.mp h)⟩
  have := Rat.num_divInt_den r
  rw [Rat.divInt_eq_div, Rat.intCast_natCast] at this
  exact this.symm
theorem rat_add (r s : Rat) : Rat.divInt (r.num * s.den + s.num * r.den) (r.den * s.den) = r + s := by
  obtain ⟨h1, h2⟩ := as_quo r
  obtain ⟨h3, h4⟩ := as_quo s
  rw [Rat.divInt_eq_div, Rat.intCast_add, Rat.intCast_mul, Rat.intCast_mul, Rat.intCast_mul, Rat.intCast_natCast, Rat.intCast_natCast]
  generalize (r.num : Rat) = a at *
  generalize (r.den : Rat) = b at *
  generalize (s.num : Rat) = c at *
  generalize (s.den : Rat) = d at *
  subst h1 h3
  grind
theorem rat_sub (r s : Rat) : Rat.divInt (r.num * s.den - s.num * r.den) (r.den * s.den) = r - s := by
  obtain ⟨h1, h2⟩ := as_quo r
  obtain ⟨h3, h4⟩ := as_quo s
  rw [Rat.divInt_eq_div, Rat.intCast_sub, Rat.intCast_mul, Rat.intCast_mul, Rat.intCast_mul, Rat.intCast_natCast, Rat.intCast_natCast]
  generalize (r.num : Rat) = a at *
  generalize (r.den : Rat) = b at *
  generalize (s.num : Rat) = c at *
  generalize (s.den : Rat) = d at *
  subst h1 h3
  grind
theorem rat_mul (r s : Rat) : Rat.divInt (r.num * s.num) (r.den * s.den) = r * s := by
  obtain ⟨h1, h2⟩ := as_quo r
  obtain ⟨h3, h4⟩ := as_quo s
  rw [Rat.divInt_eq_div, Rat.intCast_mul, Rat.intCast_mul, Rat.intCast_natCast, Rat.intCast_natCast]
  generalize (r.num : Rat) = a at *
  generalize (r.den : Rat) = b at *
  generalize (s.num : Rat) = c at *
  generalize (s.den : Rat) = d at *
  subst h1 h3
  grind
theorem eqv_fr (r s : Rat) : PyData.eqv (fr r) (fr s) = decide (r = s) := by
  have e : PyData.eqv (fr r) (fr s) = ((r.num == s.num) && ((r.den : Int) == s.den)) := by simp [fr, PyData.eqv, PyData.eqvAll]
  rw [e, Bool.eq_iff_iff]
  simp only [Bool.and_eq_true, beq_iff_eq, decide_eq_true_eq]
  constructor
  · rintro ⟨h1, h2⟩
    exact Rat.ext h1 (by omega)
  · rintro rfl
    exact ⟨rfl, rfl⟩
theorem shaped_fr {n : Nat} {r : Rat} (h : Sz n r) (hn : n ≤ 1850) : SeqAt.shaped (fr r) = true := (good_fr h hn).shaped (by decide)
theorem fr_one : (PyData.tuple [.int 1, .int 1]) = fr 1 := rfl
@[simp] theorem ix_fr0 (r : Rat) (m : Sto) : gIx (.d (fr r)) (.d (.int 0)) m = some (.d (.int r.num)) := by simp [fr]
@[simp] theorem ix_fr1 (r : Rat) (m : Sto) : gIx (.d (fr r)) (.d (.int 1)) m = some (.d (.int r.den)) := by simp [fr]

end Lw

namespace Lw
open PySem L2 DL PyProof.Rows
/-! ### numbers over 120 -/
def vv (x : Int) : Rat := Rat.divInt x 120
def tD (x : Int) : D := fr (vv x)
theorem vv_eq (x : Int) : vv x = (x : Rat) / 120 := by unfold vv; rw [Rat.divInt_eq_div]; rfl
theorem vv_add (x y : Int) : vv x + vv y = vv (x + y) := by rw [vv_eq, vv_eq, vv_eq, Rat.intCast_add]; grind
theorem vv_sub (x y : Int) : vv x - vv y = vv (x - y) := by rw [vv_eq, vv_eq, vv_eq, Rat.intCast_sub]; grind
theorem vv_mul {x y z : Int} (h : x * y = 120 * z) : vv x * vv y = vv z := by
  rw [vv_eq, vv_eq, vv_eq]
  have : (x : Rat) * (y : Rat) = 120 * (z : Rat) := by
    rw [← Rat.intCast_mul, h, Rat.intCast_mul]; rfl
  grind
theorem vv_div {x y z : Int} (hy : y ≠ 0) (h : x * 120 = z * y) : vv x / vv y = vv z := by
  rw [vv_eq, vv_eq, vv_eq]
  have h1 : (x : Rat) * 120 = (z : Rat) * (y : Rat) := by
    rw [← Rat.intCast_mul, ← h, Rat.intCast_mul]; rfl
  have h2 : (y : Rat) ≠ 0 := fun z => hy (Rat.intCast_eq_zero_iff.mp z)
  grind
theorem vv_lt (x y : Int) : vv x < vv y ↔ x < y := by
  rw [vv_eq, vv_eq, ← Rat.intCast_lt_intCast]
  grind
theorem vv_inj {x y : Int} (h : vv x = vv y) : x = y := by
  rw [vv_eq, vv_eq] at h
  have : (x : Rat) = (y : Rat) := by grind
  exact Rat.intCast_inj.mp this
theorem vv_zero {y : Int} (hy : y ≠ 0) : (vv y).num ≠ 0 := fun h => by
  have : vv y = 0 := Rat.num_eq_zero.mp h
  rw [vv_eq] at this
  have : (y : Rat) = 0 := by grind
  exact hy (Rat.intCast_eq_zero_iff.mp this)
theorem sz_vv {x : Int} (h : x.natAbs < 2 ^ 40) : Sz 47 (vv x) := sz_div (by decide) (Nat.lt_trans h (by decide)) (by decide)
theorem good_tD {x : Int} (h : x.natAbs < 2 ^ 40) : Good 1 3720 (tD x) := good_fr (sz_vv h) (by decide)
theorem rat_quo (r s : Rat) (h : s ≠ 0) : Rat.divInt (r.num * s.den) (r.den * s.num) = r / s := by
  obtain ⟨h1, h2⟩ := as_quo r
  obtain ⟨h3, h4⟩ := as_quo s
  have h5 : (s.num : Rat) ≠ 0 := fun z => h (by rw [h3, z]; grind)
  rw [Rat.divInt_eq_div, Rat.intCast_mul, Rat.intCast_mul, Rat.intCast_natCast, Rat.intCast_natCast]
  generalize (r.num : Rat) = a at *
  generalize (r.den : Rat) = b at *
  generalize (s.num : Rat) = c at *
  generalize (s.den : Rat) = d at *
  subst h1 h3
  grind
section
variable {x y : Int} (hx : x.natAbs < 2 ^ 40) (hy : y.natAbs < 2 ^ 40) (m : Sto)
include hx hy
theorem q_add : F_added [.d (tD x), .d (tD y)] m = .ok (.d (tD (x + y))) m := by
  have e := added_eq (sz_vv hx) (sz_vv hy) (by decide) m
  rw [rat_add, vv_add] at e
  exact e
theorem q_less : F_less [.d (tD x), .d (tD y)] m = .ok (.d (tD (x - y))) m := by
  have e := less_eq (sz_vv hx) (sz_vv hy) (by decide) m
  rw [rat_sub, vv_sub] at e
  exact e
theorem l_plus : F_l_plus [.d (tD x), .d (tD y)] m = .ok (.d (tD (x + y))) m := by
  have zx := sz_vv hx; have zy := sz_vv hy
  have e := low_eq ((vv x).num * (vv y).den + (vv y).num * (vv x).den) ((vv x).den * (vv y).den) (Int.mul_pos (den_pos _) (den_pos _)) (lt8 (sz_dd zx zy) (by decide)) m
  rw [rat_add, vv_add] at e
  unfold F_l_plus runB m_l_plus tD
  simp [ok_nd zx zy (by decide), ok_nd zy zx (by decide), ok_dd zx zy (by decide), e]
theorem l_minus : F_l_minus [.d (tD x), .d (tD y)] m = .ok (.d (tD (x - y))) m := by
  have zx := sz_vv hx; have zy := sz_vv hy
  have e := low_eq ((vv x).num * (vv y).den - (vv y).num * (vv x).den) ((vv x).den * (vv y).den) (Int.mul_pos (den_pos _) (den_pos _)) (lt8 (sz_dd zx zy) (by decide)) m
  rw [rat_sub, vv_sub] at e
  unfold F_l_minus runB m_l_minus tD
  simp [ok_nd zx zy (by decide), ok_nd zy zx (by decide), ok_dd zx zy (by decide), e]
theorem q_below : F_is_below [.d (tD x), .d (tD y)] m = .ok (.d (.bool (decide (x < y)))) m := by
  have zx := sz_vv hx; have zy := sz_vv hy
  have e : ((vv x).num * (vv y).den < (vv y).num * (vv x).den) ↔ x < y := by rw [← Rat.lt_iff, vv_lt]
  unfold F_is_below runB m_is_below tD
  simp [ok_nd zx zy (by decide), ok_nd zy zx (by decide), e]
theorem l_below : F_l_is_less [.d (tD x), .d (tD y)] m = .ok (.d (.bool (decide (x < y)))) m := by
  have zx := sz_vv hx; have zy := sz_vv hy
  have e : ((vv x).num * (vv y).den < (vv y).num * (vv x).den) ↔ x < y := by rw [← Rat.lt_iff, vv_lt]
  unfold F_l_is_less runB m_l_is_less tD
  simp [ok_nd zx zy (by decide), ok_nd zy zx (by decide), e]
end
theorem tD_lit {x a b : Int} (h1 : (vv x).num = a) (h2 : ((vv x).den : Int) = b) : PyData.tuple [.int a, .int b] = tD x := by
  unfold tD fr
  rw [h1, h2]
theorem tD_whole (r : Int) : (PyData.tuple [.int r, .int 1]) = tD (120 * r) := by
  unfold tD
  have : vv (120 * r) = (r : Rat) := by
    rw [vv_eq, Rat.intCast_mul]
    have e : ((120 : Int) : Rat) = 120 := rfl
    rw [e]; grind
  rw [this]
  unfold fr
  rw [Rat.num_intCast, Rat.den_intCast]; rfl
theorem tD_half : (PyData.tuple [.int 1, .int 2]) = tD 60 := tD_lit (by decide +kernel) (by decide +kernel)
theorem tD_34 : (PyData.tuple [.int 3, .int 4]) = tD 90 := tD_lit (by decide +kernel) (by decide +kernel)
theorem tD_54 : (PyData.tuple [.int 5, .int 4]) = tD 150 := tD_lit (by decide +kernel) (by decide +kernel)
theorem tD_32 : (PyData.tuple [.int 3, .int 2]) = tD 180 := tD_lit (by decide +kernel) (by decide +kernel)
end Lw

namespace Lw
open PySem L2 DL PyProof.Rows
def hiD : Option Int → D
  | none => .none
  | some x => tD x
theorem erase_perm {α : Type} : ∀ (P : List α) (n : Nat) (h : n < P.length), (P[n] :: P.eraseIdx n).Perm P
  | x :: P, 0, _ => List.Perm.refl _
  | x :: P, n + 1, h => by
    have hn : n < P.length := by simpa using h
    exact (List.Perm.swap x P[n] _).trans ((erase_perm P n hn).cons x)
theorem eraseMap {α β : Type} (f : α → β) : ∀ (P : List α) (k : Nat), (P.map f).eraseIdx k = (P.eraseIdx k).map f
  | [], _ => rfl
  | _ :: _, 0 => rfl
  | x :: xs, k + 1 => by rw [List.map_cons, List.eraseIdx_cons_succ, List.eraseIdx_cons_succ, List.map_cons, eraseMap f xs k]
abbrev natD (k : Nat) : D := .int (k : Nat)
theorem shaped_nats (ks : List Nat) : SeqAt.shaped (.list (ks.map natD)) = true := by
  have := shaped_ints (ks.map fun k : Nat => (k : Int))
  rw [List.map_map] at this
  exact this
abbrev OI := Option Int
structure Pr where
  lo : OI
  hi : OI
def Pr.d (p : Pr) : D := .tuple [hiD p.lo, hiD p.hi]
def Bd (B : Int) (o : OI) : Prop := ∀ x, o = some x → -B ≤ x ∧ x ≤ B
theorem Bd.mono {B B' : Int} {o : OI} (h : Bd B o) (hb : B ≤ B') : Bd B' o := fun x hx => by have := h x hx; omega
theorem Bd.none {B : Int} : Bd B none := fun x hx => nomatch hx
theorem Bd.some {B x : Int} (h : -B ≤ x ∧ x ≤ B) : Bd B (some x) := fun y hy => by cases hy; exact h
def prOf (prs : List Pr) (k : Nat) : Pr := prs[k]?.getD ⟨none, none⟩
theorem hiD_isN (o : OI) : isNone (hiD o) = o.isNone := by cases o <;> rfl
theorem set_same {α : Type} {G : List α} {i : Nat} {x : α} (h : G[i]? = some x) : G.set i x = G := by
  apply List.ext_getElem?
  intro j
  by_cases hj : i = j
  · subst hj
    rw [List.getElem?_set_self (List.getElem?_eq_some_iff.mp h).1, h]
  · rw [List.getElem?_set_ne hj]
theorem prOf_at {prs : List Pr} {k : Nat} (hk : k < prs.length) : prs[k]? = some (prOf prs k) := by
  unfold prOf
  rw [List.getElem?_eq_getElem hk]; rfl
theorem good_oi {o : OI} (h : Bd (2 ^ 38) o) : Good 1 3720 (hiD o) := by
  cases o with
  | none => exact good_none.mono (by omega) (by omega)
  | some x => exact good_tD (x := x) (by have := h x rfl; omega)
theorem good_pr {p : Pr} (h1 : Bd (2 ^ 38) p.lo) (h2 : Bd (2 ^ 38) p.hi) : Good 2 7446 p.d :=
  (GoodA.tup (GoodA.cons (good_oi h1) (GoodA.one (good_oi h2)))).mono (by omega) (by omega)
theorem rngLn (a n : Nat) : rngL (a : Int) n = (List.range' a n).map natD := by
  unfold rngL
  rw [List.range'_eq_map_range, List.map_map]
  apply List.map_congr_left
  intro k _
  show PyData.int _ = PyData.int _
  congr 1
theorem rngLs (a n : Nat) : rngL (a : Int) (n + 1) = natD a :: rngL ((a + 1 : Nat) : Int) n := by
  rw [rngLn, rngLn, List.range'_succ, List.map_cons]
theorem JO_mul {G : Sg} {x y : Int} {K : W → Prop} (hx : x.natAbs ≤ 1000) (hy : y.natAbs ≤ 1000) (k : K (.d (.int (x * y)))) : JO G (gMul (.d (.int x)) (.d (.int y))) K := JO_pure (fun m => by
  have h1 := Nat.log2_le_self x.natAbs
  have h2 := Nat.log2_le_self y.natAbs
  have h : okMul x y = true := decide_eq_true (by omega)
  simp only [gMul, gI, h, if_true]) k
theorem cutD_take {α : Type} (xs : List α) (n : Nat) : DL.cutD xs none (some (n : Int)) = xs.take n := by
  unfold DL.cutD
  rw [HT.sIx_none, HT.sIx_nat, List.drop_zero, Nat.sub_zero]
  rw [List.take_eq_take_iff]
  omega
end Lw

namespace Lw
open PySem L2 DL PyProof.Rows
/-! ### pairs hold the true times -/
/-! ### spans, plain -/
def loIn (p : Int) : OI → Bool
  | some l => decide (l ≤ p)
  | none => true
def hiIn (p : Int) : OI → Bool
  | some h => decide (p ≤ h)
  | none => true
def inP (p : Int) (s : Pr) : Bool := loIn p s.lo && hiIn p s.hi
theorem inP_iff {p : Int} {s : Pr} : inP p s = true ↔ (∀ l, s.lo = some l → l ≤ p) ∧ ∀ h, s.hi = some h → p ≤ h := by
  unfold inP
  cases s.lo <;> cases s.hi <;> simp [loIn, hiIn]
def cnt (S : List Pr) (p : Int) : Nat := S.countP (inP p)
theorem cnt_le {S : List Pr} {p q : Int} (h : ∀ s ∈ S, inP p s = true → inP q s = true) : cnt S p ≤ cnt S q := by
  unfold cnt
  exact List.countP_mono_left h
def endsP (s : Pr) : List Int := s.lo.toList ++ s.hi.toList
def ends (S : List Pr) : List Int := S.flatMap endsP
theorem ends_lo {S : List Pr} {s : Pr} {l : Int} (hs : s ∈ S) (h : s.lo = some l) : l ∈ ends S := List.mem_flatMap.mpr ⟨s, hs, by unfold endsP; rw [h]; simp⟩
theorem ends_hi {S : List Pr} {s : Pr} {l : Int} (hs : s ∈ S) (h : s.hi = some l) : l ∈ ends S := List.mem_flatMap.mpr ⟨s, hs, by unfold endsP; rw [h]; simp⟩
def leastL : Int → List Int → Int
  | m, [] => m
  | m, n :: ns => leastL (if n < m then n else m) ns
def mostL : Int → List Int → Int
  | m, [] => m
  | m, n :: ns => mostL (if m < n then n else m) ns
theorem leastL_le : ∀ (m : Int) (ns : List Int), leastL m ns ≤ m ∧ ∀ n ∈ ns, leastL m ns ≤ n
  | m, [] => ⟨Int.le_refl _, fun n h => nomatch h⟩
  | m, k :: ns => by
    obtain ⟨h1, h2⟩ := leastL_le (if k < m then k else m) ns
    have e : leastL m (k :: ns) = leastL (if k < m then k else m) ns := rfl
    rw [e]
    generalize leastL (if k < m then k else m) ns = M at h1 h2
    have h3 : M ≤ m ∧ M ≤ k := by split at h1 <;> omega
    refine ⟨h3.1, fun n hn => ?_⟩
    rcases List.mem_cons.mp hn with rfl | hn
    · exact h3.2
    · exact h2 n hn
theorem leastL_mem : ∀ (m : Int) (ns : List Int), leastL m ns = m ∨ leastL m ns ∈ ns
  | m, [] => .inl rfl
  | m, k :: ns => by
    unfold leastL
    rcases leastL_mem (if k < m then k else m) ns with h | h
    · rw [h]
      split
      · exact .inr List.mem_cons_self
      · exact .inl rfl
    · exact .inr (List.mem_cons_of_mem _ h)
theorem mostL_ge : ∀ (m : Int) (ns : List Int), m ≤ mostL m ns ∧ ∀ n ∈ ns, n ≤ mostL m ns
  | m, [] => ⟨Int.le_refl _, fun n h => nomatch h⟩
  | m, k :: ns => by
    obtain ⟨h1, h2⟩ := mostL_ge (if m < k then k else m) ns
    have e : mostL m (k :: ns) = mostL (if m < k then k else m) ns := rfl
    rw [e]
    generalize mostL (if m < k then k else m) ns = M at h1 h2
    have h3 : m ≤ M ∧ k ≤ M := by split at h1 <;> omega
    refine ⟨h3.1, fun n hn => ?_⟩
    rcases List.mem_cons.mp hn with rfl | hn
    · exact h3.2
    · exact h2 n hn
theorem mostL_mem : ∀ (m : Int) (ns : List Int), mostL m ns = m ∨ mostL m ns ∈ ns
  | m, [] => .inl rfl
  | m, k :: ns => by
    unfold mostL
    rcases mostL_mem (if m < k then k else m) ns with h | h
    · rw [h]
      split
      · exact .inr List.mem_cons_self
      · exact .inl rfl
    · exact .inr (List.mem_cons_of_mem _ h)
/-- the least and the greatest of some -/
def leastO : List Int → Int
  | [] => 0
  | e :: es => leastL e (e :: es)
def mostO : List Int → Int
  | [] => 0
  | e :: es => mostL e (e :: es)
theorem leastO_le {L : List Int} {e : Int} (h : e ∈ L) : leastO L ≤ e := by
  cases L with
  | nil => cases h
  | cons a L => exact (leastL_le a (a :: L)).2 e h
theorem leastO_mem {L : List Int} (h : L ≠ []) : leastO L ∈ L := by
  cases L with
  | nil => exact absurd rfl h
  | cons a L =>
    rcases leastL_mem a (a :: L) with h | h
    · show leastL a (a :: L) ∈ a :: L
      rw [h]; exact List.mem_cons_self
    · exact h
theorem mostO_ge {L : List Int} {e : Int} (h : e ∈ L) : e ≤ mostO L := by
  cases L with
  | nil => cases h
  | cons a L => exact (mostL_ge a (a :: L)).2 e h
theorem mostO_mem {L : List Int} (h : L ≠ []) : mostO L ∈ L := by
  cases L with
  | nil => exact absurd rfl h
  | cons a L =>
    rcases mostL_mem a (a :: L) with h | h
    · show mostL a (a :: L) ∈ a :: L
      rw [h]; exact List.mem_cons_self
    · exact h
def belowP (S : List Pr) : Int := if ends S = [] then 0 else leastO (ends S) - 120
def aboveP (S : List Pr) : Int := if ends S = [] then 0 else mostO (ends S) + 120
theorem below_lt {S : List Pr} {e : Int} (h : e ∈ ends S) : belowP S < e := by
  unfold belowP
  have h1 := leastO_le h
  rw [if_neg (fun z => by rw [z] at h; cases h)]
  omega
theorem above_gt {S : List Pr} {e : Int} (h : e ∈ ends S) : e < aboveP S := by
  unfold aboveP
  have h1 := mostO_ge h
  rw [if_neg (fun z => by rw [z] at h; cases h)]
  omega
/-- downwards from any point there is an end, or none below, that as many hold -/
theorem down {S : List Pr} (p : Int) : cnt S p ≤ cnt S (belowP S) ∨ ∃ e ∈ ends S, e ≤ p ∧ cnt S p ≤ cnt S e := by
  by_cases hL : ((S.filter (inP p)).filterMap Pr.lo) = []
  · refine .inl (cnt_le fun s hs hp => ?_)
    have hlo : s.lo = none := by
      cases h : s.lo with
      | none => rfl
      | some l =>
        have : l ∈ (S.filter (inP p)).filterMap Pr.lo := List.mem_filterMap.mpr ⟨s, List.mem_filter.mpr ⟨hs, hp⟩, h⟩
        rw [hL] at this; cases this
    rw [inP_iff]
    refine ⟨(fun l h => by rw [hlo] at h; cases h), fun h hh => ?_⟩
    have := below_lt (ends_hi hs hh)
    omega
  · have hm := mostO_mem hL
    obtain ⟨s, hs, h⟩ := List.mem_filterMap.mp hm
    obtain ⟨hs, hp⟩ := List.mem_filter.mp hs
    refine .inr ⟨_, ends_lo hs h, (inP_iff.mp hp).1 _ h, cnt_le fun t ht htp => ?_⟩
    rw [inP_iff]
    obtain ⟨g1, g2⟩ := inP_iff.mp htp
    refine ⟨fun l hl => mostO_ge (List.mem_filterMap.mpr ⟨t, List.mem_filter.mpr ⟨ht, htp⟩, hl⟩), fun k hk => ?_⟩
    have := g2 k hk
    have := (inP_iff.mp hp).1 _ h
    omega
theorem up {S : List Pr} (p : Int) : cnt S p ≤ cnt S (aboveP S) ∨ ∃ e ∈ ends S, p ≤ e ∧ cnt S p ≤ cnt S e := by
  by_cases hL : ((S.filter (inP p)).filterMap Pr.hi) = []
  · refine .inl (cnt_le fun s hs hp => ?_)
    have hhi : s.hi = none := by
      cases h : s.hi with
      | none => rfl
      | some l =>
        have : l ∈ (S.filter (inP p)).filterMap Pr.hi := List.mem_filterMap.mpr ⟨s, List.mem_filter.mpr ⟨hs, hp⟩, h⟩
        rw [hL] at this; cases this
    rw [inP_iff]
    refine ⟨fun h hh => ?_, (fun l h => by rw [hhi] at h; cases h)⟩
    have := above_gt (ends_lo hs hh)
    omega
  · have hm := leastO_mem hL
    obtain ⟨s, hs, h⟩ := List.mem_filterMap.mp hm
    obtain ⟨hs, hp⟩ := List.mem_filter.mp hs
    refine .inr ⟨_, ends_hi hs h, (inP_iff.mp hp).2 _ h, cnt_le fun t ht htp => ?_⟩
    rw [inP_iff]
    obtain ⟨g1, g2⟩ := inP_iff.mp htp
    refine ⟨fun k hk => ?_, fun l hl => leastO_le (List.mem_filterMap.mpr ⟨t, List.mem_filter.mpr ⟨ht, htp⟩, hl⟩)⟩
    have := g1 k hk
    have := (inP_iff.mp hp).2 _ h
    omega
def heldP (S : List Pr) (w : Int) : List Int := (ends S).filter fun e => decide (w ≤ (cnt S e : Int))
/-- what a majority tells, w wanted -/
def byP (S : List Pr) (w : Int) : Pr := ⟨if w ≤ (cnt S (belowP S) : Int) then none else some (leastO (heldP S w)), if w ≤ (cnt S (aboveP S) : Int) then none else some (mostO (heldP S w))⟩
theorem held_mem {S : List Pr} {w e : Int} : e ∈ heldP S w ↔ e ∈ ends S ∧ w ≤ (cnt S e : Int) := by
  unfold heldP
  rw [List.mem_filter, decide_eq_true_iff]
section
variable {S : List Pr} {w p : Int} (hp : w ≤ (cnt S p : Int))
include hp
theorem by_lo {l : Int} (h : (byP S w).lo = some l) : l ≤ p ∧ l ∈ heldP S w := by
  unfold byP at h
  simp only at h
  split at h
  · cases h
  · rename_i hb
    cases h
    rcases down (S := S) p with h | ⟨e, h1, h2, h3⟩
    · omega
    · have he : e ∈ heldP S w := held_mem.mpr ⟨h1, by omega⟩
      exact ⟨Int.le_trans (leastO_le he) h2, leastO_mem (fun z => by rw [z] at he; cases he)⟩
theorem by_hi {l : Int} (h : (byP S w).hi = some l) : p ≤ l ∧ l ∈ heldP S w := by
  unfold byP at h
  simp only at h
  split at h
  · cases h
  · rename_i hb
    cases h
    rcases up (S := S) p with h | ⟨e, h1, h2, h3⟩
    · omega
    · have he : e ∈ heldP S w := held_mem.mpr ⟨h1, by omega⟩
      exact ⟨Int.le_trans h2 (mostO_ge he), mostO_mem (fun z => by rw [z] at he; cases he)⟩
/-- what is told holds it -/
theorem by_in : inP p (byP S w) = true := inP_iff.mpr ⟨fun l h => (by_lo hp h).1, fun l h => (by_hi hp h).1⟩
/-- a point that is counted at -/
theorem by_some : ∃ q ∈ ends S ++ [belowP S, aboveP S], w ≤ (cnt S q : Int) := by
  rcases down (S := S) p with h | ⟨e, h1, h2, h3⟩
  · exact ⟨belowP S, by simp, by omega⟩
  · exact ⟨e, by simp [h1], by omega⟩
theorem held_ne (h : ¬ w ≤ (cnt S (belowP S) : Int)) : heldP S w ≠ [] := by
  rcases down (S := S) p with h2 | ⟨e, h1, h2, h3⟩
  · omega
  · intro z
    have he : e ∈ heldP S w := held_mem.mpr ⟨h1, by omega⟩
    rw [z] at he; cases he
theorem held_ne' (h : ¬ w ≤ (cnt S (aboveP S) : Int)) : heldP S w ≠ [] := by
  rcases up (S := S) p with h2 | ⟨e, h1, h2, h3⟩
  · omega
  · intro z
    have he : e ∈ heldP S w := held_mem.mpr ⟨h1, by omega⟩
    rw [z] at he; cases he
/-- fewer wanted, no narrower -/
theorem by_wide_lo {w' t : Int} (hw : w' ≤ w) (h : (byP S w').lo = some t) : ∃ l, (byP S w).lo = some l ∧ t ≤ l := by
  have hb : ¬ w ≤ (cnt S (belowP S) : Int) := fun z => by
    unfold byP at h
    simp only at h
    rw [if_pos (by omega)] at h
    cases h
  have e : (byP S w).lo = some (leastO (heldP S w)) := by unfold byP; simp only; rw [if_neg hb]
  refine ⟨_, e, ?_⟩
  obtain ⟨h1, h2⟩ := held_mem.mp (leastO_mem (held_ne hp hb))
  unfold byP at h
  simp only at h
  split at h
  · cases h
  · cases h
    exact leastO_le (held_mem.mpr ⟨h1, by omega⟩)
theorem by_wide_hi {w' t : Int} (hw : w' ≤ w) (h : (byP S w').hi = some t) : ∃ l, (byP S w).hi = some l ∧ l ≤ t := by
  have hb : ¬ w ≤ (cnt S (aboveP S) : Int) := fun z => by
    unfold byP at h
    simp only at h
    rw [if_pos (by omega)] at h
    cases h
  have e : (byP S w).hi = some (mostO (heldP S w)) := by unfold byP; simp only; rw [if_neg hb]
  refine ⟨_, e, ?_⟩
  obtain ⟨h1, h2⟩ := held_mem.mp (mostO_mem (held_ne' hp hb))
  unfold byP at h
  simp only at h
  split at h
  · cases h
  · cases h
    exact mostO_ge (held_mem.mpr ⟨h1, by omega⟩)
end
/-! ### those that don't lie, the most -/
section
variable {S A B : List Pr} (hS : S.Perm (A ++ B)) (hAB : B.length < A.length)
include hS hAB
theorem cnt_true {p : Int} (h : (A.length : Int) ≤ (cnt S p : Int)) : ∃ s ∈ A, inP p s = true := by
  have e : cnt S p = cnt A p + cnt B p := by
    unfold cnt
    rw [hS.countP_eq, List.countP_append]
  have hb : cnt B p ≤ B.length := List.countP_le_length
  have ha : 0 < cnt A p := by omega
  unfold cnt at ha
  exact List.countP_pos_iff.mp ha
/-- its low end is no lower than one of theirs -/
theorem true_lo (ha : ∀ s ∈ A, s.lo ≠ none) {p : Int} (hp : (A.length : Int) ≤ (cnt S p : Int)) : ∃ l, (byP S A.length).lo = some l ∧ ∃ s ∈ A, ∃ k, s.lo = some k ∧ k ≤ l := by
  have hb : ¬ (A.length : Int) ≤ (cnt S (belowP S) : Int) := fun z => by
    obtain ⟨s, hs, hi⟩ := cnt_true hS hAB z
    cases h : s.lo with
    | none => exact ha s hs h
    | some l =>
      have h1 := (inP_iff.mp hi).1 l h
      have h2 := below_lt (ends_lo (hS.mem_iff.mpr (List.mem_append_left _ hs)) h)
      omega
  have e : (byP S A.length).lo = some (leastO (heldP S A.length)) := by unfold byP; simp only; rw [if_neg hb]
  refine ⟨_, e, ?_⟩
  obtain ⟨h1, h2⟩ := held_mem.mp (leastO_mem (held_ne hp hb))
  obtain ⟨s, hs, hi⟩ := cnt_true hS hAB h2
  cases h : s.lo with
  | none => exact absurd h (ha s hs)
  | some l => exact ⟨s, hs, l, h, (inP_iff.mp hi).1 l h⟩
theorem true_hi (ha : ∀ s ∈ A, s.hi ≠ none) {p : Int} (hp : (A.length : Int) ≤ (cnt S p : Int)) : ∃ l, (byP S A.length).hi = some l ∧ ∃ s ∈ A, ∃ k, s.hi = some k ∧ l ≤ k := by
  have hb : ¬ (A.length : Int) ≤ (cnt S (aboveP S) : Int) := fun z => by
    obtain ⟨s, hs, hi⟩ := cnt_true hS hAB z
    cases h : s.hi with
    | none => exact ha s hs h
    | some l =>
      have h1 := (inP_iff.mp hi).2 l h
      have h2 := above_gt (ends_hi (hS.mem_iff.mpr (List.mem_append_left _ hs)) h)
      omega
  have e : (byP S A.length).hi = some (mostO (heldP S A.length)) := by unfold byP; simp only; rw [if_neg hb]
  refine ⟨_, e, ?_⟩
  obtain ⟨h1, h2⟩ := held_mem.mp (mostO_mem (held_ne' hp hb))
  obtain ⟨s, hs, hi⟩ := cnt_true hS hAB h2
  cases h : s.hi with
  | none => exact absurd h (ha s hs)
  | some l => exact ⟨s, hs, l, h, (inP_iff.mp hi).2 l h⟩
end
end Lw

namespace Lw
open PySem L2 DL PyProof.Rows
/-! ### pairs hold the true times -/
section
variable {G : Sg} {K : W → Sg → Prop} {X : XK'} {S : List Pr} {s : Pr} {p : Int} {Q : OA → Prop}
theorem is_in_c (h1 : Bd (2 ^ 38) s.lo) (h2 : Bd (2 ^ 38) s.hi) (hp : p.natAbs ≤ 2 ^ 39) (q : K (.d (.bool (inP p s))) G) : JC G F_is_in [.d s.d, .d (tD p)] K X := by
  refine JC_frame0 ?_
  apply JC_runB
  unfold m_is_in
  show JS [some (.d s.d), some (.d (tD p)), none, none] [] _ _
  have q' : K (.d (.bool (inP p s))) (G ++ []) := by rw [List.append_nil]; exact q
  obtain ⟨lo, hi⟩ := s
  unfold Pr.d
  have second : ∀ X : XK', J [some (.d (.tuple [hiD lo, hiD hi])), some (.d (tD p)), some (.d (hiD lo)), some (.d (hiD hi))] [] (dNot (dAnd (dBin gNotN (dVar 3) (dC .none)) (dCall F_is_below (dCons (dVar 3) (dCons (dVar 1) dNil))))) (fun w G1 => w = .d (.bool (hiIn p hi)) ∧ G1 = []) X := fun X => by
    cases hi with
    | none =>
      and_intros
      refine ⟨fun h => absurd h (by decide), fun _ => ?_⟩
      and_intros
    | some h =>
      have hb := h2 h rfl
      and_intros
      refine ⟨fun _ => ?_, fun h => absurd h (by decide)⟩
      and_intros
      refine JC_eq (q_below (x := h) (y := p) (by omega) (by omega)) ?_
      and_intros
      refine ⟨?_, rfl⟩
      congr 2
      rw [Bool.eq_iff_iff]
      simp [truD, hiIn]
  have fin : ∀ (b : Bool) X, b = loIn p lo → (b = true → J [some (.d (.tuple [hiD lo, hiD hi])), some (.d (tD p)), some (.d (hiD lo)), some (.d (hiD hi))] [] (dNot (dAnd (dBin gNotN (dVar 3) (dC .none)) (dCall F_is_below (dCons (dVar 3) (dCons (dVar 1) dNil))))) (fun w G1 => K w (G ++ G1)) X) ∧ (b = false → K (.d (.bool b)) (G ++ [])) := fun b X hb => by
    refine ⟨fun h => (second X).mono ?_, fun h => ?_⟩
    · rintro w G1 ⟨rfl, rfl⟩
      have e : inP p ⟨lo, hi⟩ = (hiIn p hi) := by unfold inP; simp only; rw [← hb, h]; simp
      rw [← e]; exact q'
    · have e : inP p ⟨lo, hi⟩ = b := by unfold inP; simp only; rw [← hb, h]; simp
      rw [← e]; exact q'
  and_intros
  cases lo with
  | none =>
    refine ⟨fun h => absurd h (by decide), fun _ => ?_⟩
    and_intros
    exact fin true _ rfl
  | some l =>
    have hb := h1 l rfl
    refine ⟨fun _ => ?_, fun h => absurd h (by rw [show isNone (hiD (some l)) = false from rfl]; decide)⟩
    and_intros
    refine JC_eq (q_below (x := p) (y := l) (by omega) (by omega)) ?_
    and_intros
    refine fin _ _ ?_
    rw [Bool.eq_iff_iff]
    simp [truD, loIn]
end
theorem prs_is (S : List Pr) : (List.range S.length).map (prOf S) = S := by
  apply List.ext_getElem?
  intro i
  by_cases hi : i < S.length
  · rw [List.getElem?_map, List.getElem?_range hi, List.getElem?_eq_getElem hi]
    simp only [Option.map_some]
    have := prOf_at hi
    rw [List.getElem?_eq_getElem hi] at this
    exact this.symm
  · rw [List.getElem?_eq_none (by rw [List.length_map, List.length_range]; omega), List.getElem?_eq_none (by omega)]
theorem enL_prs (S : List Pr) : enL (S.map Pr.d) = (List.range S.length).map fun k => .tuple [natD k, (prOf S k).d] := by
  apply List.ext_getElem?
  intro i
  by_cases hi : i < S.length
  · rw [enL_get (x := (prOf S i).d) (by rw [List.getElem?_map, prOf_at hi]; rfl), List.getElem?_map, List.getElem?_range hi]
    rfl
  · rw [List.getElem?_eq_none (by rw [enL_len, List.length_map]; omega), List.getElem?_eq_none (by rw [List.length_map, List.length_range]; omega)]
theorem cnt_is (S : List Pr) (p : Int) : ((List.range S.length).filter fun k => inP p (prOf S k)).length = cnt S p := by
  unfold cnt
  conv => rhs; rw [← prs_is S, List.countP_map]
  rw [List.countP_eq_length_filter]
  rfl
/-- spans that may be reckoned with -/
structure SpOk (S : List Pr) : Prop where
  len : S.length ≤ 30
  bd : ∀ s ∈ S, Bd (2 ^ 38) s.lo ∧ Bd (2 ^ 38) s.hi
section
variable {G : Sg} {K : W → Sg → Prop} {X : XK'} {S : List Pr} {s : Pr} {p : Int} {Q : OA → Prop}
theorem prOf_mem {k : Nat} (h : k < S.length) : prOf S k ∈ S := List.mem_of_getElem? (prOf_at h)
theorem ends_bd (hS : SpOk S) {e : Int} (h : e ∈ ends S) : e.natAbs ≤ 2 ^ 38 := by
  obtain ⟨s, hs, he⟩ := List.mem_flatMap.mp h
  obtain ⟨h1, h2⟩ := hS.bd s hs
  unfold endsP at he
  rcases List.mem_append.mp he with he | he
  · have := h1 e (Option.mem_toList.mp he); omega
  · have := h2 e (Option.mem_toList.mp he); omega
theorem endsP_len (s : Pr) : (endsP s).length ≤ 2 := by
  unfold endsP
  rw [List.length_append]
  cases s.lo <;> cases s.hi <;> simp
theorem ends_len : ∀ S : List Pr, (ends S).length ≤ 2 * S.length
  | [] => Nat.le_refl _
  | s :: S => by
    have h1 := endsP_len s
    have h2 := ends_len S
    unfold ends at h2 ⊢
    rw [List.flatMap_cons, List.length_append, List.length_cons]
    omega
theorem numbers_c (hS : SpOk S) (hp : p.natAbs ≤ 2 ^ 39) (q : ∀ L : List Nat, L.length = cnt S p → K (.d (.tuple (L.map natD))) G) : JC G F_numbers_in [.d (.tuple (S.map Pr.d)), .d (tD p)] K X := by
  have hl := hS.len
  refine JC_frame0 (JC_less ?_)
  apply JC_runB
  unfold m_numbers_in
  show JS [some (.d (.tuple (S.map Pr.d))), some (.d (tD p)), none, none] [] _ _
  and_intros
  rw [enL_prs]
  refine J_lcP (List.range S.length) (fun k => .tuple [natD k, (prOf S k).d]) natD (fun k => inP p (prOf S k)) rfl (by rw [List.length_range, line_eq]; omega) GrdOk.nil (fun k hk => ?_) ?_
  · obtain ⟨h1, h2⟩ := hS.bd _ (prOf_mem (List.mem_range.mp hk))
    refine JG_t (ds := [natD k, (prOf S k).d]) rfl ?_
    clean_wf
    and_intros
    refine is_in_c h1 h2 hp ?_
    and_intros
    refine ⟨rfl, fun _ => ?_, fun _ => rfl⟩
    and_intros
  · and_intros
    refine ⟨[], by false_or_by_contra, ?_⟩
    rw [List.append_nil]
    exact q _ (cnt_is S p)
theorem count_c (hS : SpOk S) (hp : p.natAbs ≤ 2 ^ 39) (q : K (.d (.int (cnt S p : Nat))) G) : JC G F_count_in [.d (.tuple (S.map Pr.d)), .d (tD p)] K X := by
  refine JC_frame0 (JC_less ?_)
  apply JC_runB
  unfold m_count_in
  show JS [some (.d (.tuple (S.map Pr.d))), some (.d (tD p))] [] _ _
  and_intros
  refine numbers_c hS hp fun L hL => ?_
  and_intros
  refine ⟨[], by false_or_by_contra, ?_⟩
  rw [List.append_nil, List.length_map, hL]
  exact q
theorem least_c {a : Int} {L : List Int} (hb : ∀ e ∈ a :: L, e.natAbs ≤ 2 ^ 38) (hl : L.length ≤ 100) (q : K (.d (tD (leastO (a :: L)))) G) : JC G F_least_of [.d (.list ((a :: L).map tD))] K X := by
  refine JC_frame0 (JC_less ?_)
  apply JC_runB
  unfold m_least_of
  show JS [some (.d (.list ((a :: L).map tD))), none, none] [] _ _
  and_intros
  refine JO_ixL (atI_0 _ _) ?_
  and_intros
  refine JS_forV [2] [1] (fun xs ws G' => ∃ (m : Int) (R : List Int), ws = [.d (tD m)] ∧ xs = R.map tD ∧ G' = [] ∧ leastL m R = leastO (a :: L) ∧ m.natAbs ≤ 2 ^ 38 ∧ ∀ e ∈ R, e.natAbs ≤ 2 ^ 38)
    ⟨[.d (tD a)], _, ⟨a, a :: L, rfl, rfl, rfl, rfl, hb a List.mem_cons_self, hb⟩, by ac_rfl; subst_eqs, List.Sublist.refl _⟩ ?_ ?_ ?_
  · rintro xs ws G' ⟨m, R, rfl, rfl, rfl, _⟩; exact GrdOk.nil
  · rintro x xs ws G' ⟨m, R, rfl, hx, rfl, h1, h2, h3⟩
    cases R with
    | nil => cases hx
    | cons e R =>
      simp only [List.map_cons, List.cons.injEq] at hx
      obtain ⟨rfl, rfl⟩ := hx
      have he := h3 e List.mem_cons_self
      ac_rfl
      refine JG_n ?_
      clean_wf
      and_intros
      refine JC_eq (q_below (x := e) (y := m) (by omega) (by omega)) ?_
      and_intros
      refine ⟨fun hq => ?_, fun hq => ?_⟩
      · have hq : e < m := by simpa [truD] using hq
        and_intros
        exact ⟨_, _, ⟨[.d (tD e)], rfl, e, R, rfl, rfl, rfl, by rw [← h1, leastL, if_pos hq], he, fun y hy => h3 y (List.mem_cons_of_mem _ hy)⟩, by ac_rfl; subst_eqs, List.Sublist.refl _⟩
      · have hq : ¬ e < m := by simpa [truD] using hq
        and_intros
        exact ⟨_, _, ⟨[.d (tD m)], rfl, m, R, rfl, rfl, rfl, by rw [← h1, leastL, if_neg hq], h2, fun y hy => h3 y (List.mem_cons_of_mem _ hy)⟩, by ac_rfl; subst_eqs, List.Sublist.refl _⟩
  · rintro ws G' ⟨m, R, rfl, hx, rfl, h1, h2, h3⟩
    cases R with
    | cons e R => cases hx
    | nil =>
      ac_rfl
      and_intros
      refine ⟨[], by false_or_by_contra, ?_⟩
      rw [List.append_nil, show m = leastO (a :: L) from h1]
      exact q
theorem most_c {a : Int} {L : List Int} (hb : ∀ e ∈ a :: L, e.natAbs ≤ 2 ^ 38) (hl : L.length ≤ 100) (q : K (.d (tD (mostO (a :: L)))) G) : JC G F_greatest_of [.d (.list ((a :: L).map tD))] K X := by
  refine JC_frame0 (JC_less ?_)
  apply JC_runB
  unfold m_greatest_of
  show JS [some (.d (.list ((a :: L).map tD))), none, none] [] _ _
  and_intros
  refine JO_ixL (atI_0 _ _) ?_
  and_intros
  refine JS_forV [2] [1] (fun xs ws G' => ∃ (m : Int) (R : List Int), ws = [.d (tD m)] ∧ xs = R.map tD ∧ G' = [] ∧ mostL m R = mostO (a :: L) ∧ m.natAbs ≤ 2 ^ 38 ∧ ∀ e ∈ R, e.natAbs ≤ 2 ^ 38)
    ⟨[.d (tD a)], _, ⟨a, a :: L, rfl, rfl, rfl, rfl, hb a List.mem_cons_self, hb⟩, by ac_rfl; subst_eqs, List.Sublist.refl _⟩ ?_ ?_ ?_
  · rintro xs ws G' ⟨m, R, rfl, rfl, rfl, _⟩; exact GrdOk.nil
  · rintro x xs ws G' ⟨m, R, rfl, hx, rfl, h1, h2, h3⟩
    cases R with
    | nil => cases hx
    | cons e R =>
      simp only [List.map_cons, List.cons.injEq] at hx
      obtain ⟨rfl, rfl⟩ := hx
      have he := h3 e List.mem_cons_self
      ac_rfl
      refine JG_n ?_
      clean_wf
      and_intros
      refine JC_eq (q_below (x := m) (y := e) (by omega) (by omega)) ?_
      and_intros
      refine ⟨fun hq => ?_, fun hq => ?_⟩
      · have hq : m < e := by simpa [truD] using hq
        and_intros
        exact ⟨_, _, ⟨[.d (tD e)], rfl, e, R, rfl, rfl, rfl, by rw [← h1, mostL, if_pos hq], he, fun y hy => h3 y (List.mem_cons_of_mem _ hy)⟩, by ac_rfl; subst_eqs, List.Sublist.refl _⟩
      · have hq : ¬ m < e := by simpa [truD] using hq
        and_intros
        exact ⟨_, _, ⟨[.d (tD m)], rfl, m, R, rfl, rfl, rfl, by rw [← h1, mostL, if_neg hq], h2, fun y hy => h3 y (List.mem_cons_of_mem _ hy)⟩, by ac_rfl; subst_eqs, List.Sublist.refl _⟩
  · rintro ws G' ⟨m, R, rfl, hx, rfl, h1, h2, h3⟩
    cases R with
    | cons e R => cases hx
    | nil =>
      ac_rfl
      and_intros
      refine ⟨[], by false_or_by_contra, ?_⟩
      rw [List.append_nil, show m = mostO (a :: L) from h1]
      exact q
theorem ends_c (hS : SpOk S) (q : K (.d (.list ((ends S).map tD))) G) : JC G F_ends_of [.d (.tuple (S.map Pr.d))] K X := by
  have hl := hS.len
  refine JC_frame0 (JC_less ?_)
  apply JC_runB
  unfold m_ends_of
  show JS [some (.d (.tuple (S.map Pr.d))), none, none] [] _ _
  and_intros
  refine J_lcL2 (I := fun rem acc G' => G' = [] ∧ ∃ Dn T : List Pr, S = Dn ++ T ∧ rem = T.map Pr.d ∧ acc = (ends Dn).map tD) ?_ ?_ ?_ _ _ _ ⟨rfl, [], S, rfl, rfl, rfl⟩
  · rintro xs acc G' ⟨rfl, _⟩; exact GrdOk.nil
  · rintro x xs acc G' ⟨rfl, Dn, T, hD, hx, rfl⟩
    cases T with
    | nil => cases hx
    | cons s T =>
      simp only [List.map_cons, List.cons.injEq] at hx
      obtain ⟨rfl, rfl⟩ := hx
      have hDl : Dn.length ≤ 30 := by
        have h1 := congrArg List.length hD
        rw [List.length_append] at h1
        omega
      have hel := ends_len Dn
      ac_rfl
      refine JG_n ?_
      clean_wf
      and_intros
      refine ⟨fun _ => ?_, (fun h => nomatch h)⟩
      unfold Pr.d
      and_intros
      ac_rfl
      have e0 : ([hiD s.lo, hiD s.hi] : List D) = [s.lo, s.hi].map hiD := rfl
      rw [e0]
      refine J_lcL (I := fun rem acc G' => G' = [] ∧ ∃ A B : List OI, [s.lo, s.hi] = A ++ B ∧ rem = B.map hiD ∧ acc = (ends Dn ++ A.filterMap id).map tD) ?_ ?_ ?_ _ _ _ ⟨rfl, [], [s.lo, s.hi], rfl, rfl, by simp⟩
      · rintro xs acc G' ⟨rfl, _⟩; exact GrdOk.nil
      · rintro x xs acc G' ⟨rfl, A, B, hA, hx, rfl⟩
        cases B with
        | nil => cases hx
        | cons o B =>
          simp only [List.map_cons, List.cons.injEq] at hx
          obtain ⟨rfl, rfl⟩ := hx
          have hAl : A.length ≤ 2 := by
            have h1 := congrArg List.length hA
            rw [List.length_append] at h1
            simp at h1
            omega
          have hfl := List.length_filterMap_le id A
          ac_rfl
          refine JG_n ?_
          clean_wf
          and_intros
          cases o with
          | none =>
            refine ⟨(fun h => nomatch h), fun _ => ?_⟩
            exact ⟨[], ⟨rfl, A ++ [none], B, by simp [hA], rfl, by simp⟩, List.Sublist.refl _⟩
          | some e =>
            refine ⟨fun _ => ?_, (fun h => nomatch h)⟩
            and_intros
            exact ⟨[], ⟨rfl, A ++ [some e], B, by simp [hA], rfl, by simp; rfl⟩, List.Sublist.refl _⟩
      · rintro acc G' ⟨rfl, A, B, hA, hx, rfl⟩
        have hB : B = [] := by
          cases B with
          | nil => rfl
          | cons _ _ => cases hx
        rw [hB, List.append_nil] at hA
        refine ⟨[], ⟨rfl, Dn ++ [s], T, by simp [hD], rfl, ?_⟩, List.Sublist.refl _⟩
        congr 1
        unfold ends
        rw [List.flatMap_append, ← hA]
        simp only [List.flatMap_cons, List.flatMap_nil, List.append_nil]
        congr 1
        unfold endsP
        cases s.lo <;> cases s.hi <;> rfl
  · rintro acc G' ⟨rfl, Dn, T, hD, hx, rfl⟩
    have hT : T = [] := by
      cases T with
      | nil => rfl
      | cons _ _ => cases hx
    rw [hT, List.append_nil] at hD
    subst hD
    exact ⟨[], by false_or_by_contra, by rw [List.append_nil]; exact q⟩
end
end Lw

namespace Lw
open PySem L2 DL PyProof.Rows
/-! ### pairs hold the true times -/
section
variable {G : Sg} {K : W → Sg → Prop} {X : XK'} {S : List Pr} {s : Pr} {p : Int} {Q : OA → Prop}
theorem below_bd (hS : SpOk S) : (belowP S).natAbs ≤ 2 ^ 39 ∧ (aboveP S).natAbs ≤ 2 ^ 39 := by
  unfold belowP aboveP
  by_cases h : ends S = []
  · rw [if_pos h, if_pos h]
    exact ⟨by decide, by decide⟩
  · rw [if_neg h, if_neg h]
    have h1 := ends_bd hS (leastO_mem h)
    have h2 := ends_bd hS (mostO_mem h)
    omega
theorem shaped_tDs {L : List Int} (hb : ∀ e ∈ L, e.natAbs ≤ 2 ^ 38) (hl : L.length ≤ 100) : SeqAt.shaped (.list (L.map tD)) = true := by
  have a1 := goodA_mapL (L := 100) (xs := L) (f := tD) (fun e he => good_tD (by have := hb e he; omega)) hl
  exact a1.lst.shaped (by decide)
theorem far_c (hS : SpOk S) (q : K (.d (.tuple [tD (belowP S), tD (aboveP S)])) G) : JC G F_far_points [.d (.tuple (S.map Pr.d))] K X := by
  have hl := hS.len
  have hel := ends_len S
  refine JC_frame0 (JC_less ?_)
  apply JC_runB
  unfold m_far_points
  show JS [some (.d (.tuple (S.map Pr.d))), none] [] _ _
  and_intros
  refine ends_c hS ?_
  and_intros
  have heb : ∀ e ∈ ends S, e.natAbs ≤ 2 ^ 38 := fun e he => ends_bd hS he
  refine JO_eq (shaped_tDs heb (by omega)) rfl ⟨_, rfl, fun hb => ?_, fun hb => ?_⟩
  · have h0 : ends S = [] := by
      cases hE : ends S with
      | nil => rfl
      | cons a L => rw [hE] at hb; exact absurd hb (by simp [PyData.eqv, PyData.eqvAll])
    and_intros
    refine ⟨[], by false_or_by_contra, ?_⟩
    rw [List.append_nil]
    have e1 : belowP S = 0 := by unfold belowP; rw [if_pos h0]
    have e2 : aboveP S = 0 := by unfold aboveP; rw [if_pos h0]
    rw [e1, e2] at q
    exact q
  · have h0 : ends S ≠ [] := fun z => by rw [z] at hb; exact absurd hb (by decide)
    have e1 : belowP S = leastO (ends S) - 120 := by unfold belowP; rw [if_neg h0]
    have e2 : aboveP S = mostO (ends S) + 120 := by unfold aboveP; rw [if_neg h0]
    rw [e1, e2] at q
    have b1 := ends_bd hS (leastO_mem h0)
    have b2 := ends_bd hS (mostO_mem h0)
    cases hE : ends S with
    | nil => exact absurd hE h0
    | cons a L =>
      rw [hE] at q heb hel b1 b2
      simp only [List.length_cons] at hel
      and_intros
      refine least_c heb (by omega) ?_
      and_intros
      rw [show k_ONE = tD 120 from tD_whole 1]
      refine JC_eq (q_less (x := leastO (a :: L)) (y := 120) (by omega) (by omega)) ?_
      and_intros
      refine most_c heb (by omega) ?_
      and_intros
      refine JC_eq (q_add (x := mostO (a :: L)) (y := 120) (by omega) (by omega)) ?_
      and_intros
      refine ⟨[], by false_or_by_contra, ?_⟩
      rw [List.append_nil]
      exact q
/-- the greatest count -/
noncomputable def topC (S : List Pr) : Int := maxL ((cnt S ((ends S ++ [belowP S, aboveP S]).headD 0) : Nat) : Int) (((ends S ++ [belowP S, aboveP S]).tail).map fun q => ((cnt S q : Nat) : Int))
theorem topC_ge {q : Int} (h : q ∈ ends S ++ [belowP S, aboveP S]) : (cnt S q : Int) ≤ topC S := by
  unfold topC
  generalize ends S ++ [belowP S, aboveP S] = L at h
  cases L with
  | nil => cases h
  | cons a L =>
    obtain ⟨h1, h2⟩ := maxL_ge ((cnt S a : Nat) : Int) (L.map fun q => ((cnt S q : Nat) : Int))
    rcases List.mem_cons.mp h with rfl | h
    · exact h1
    · exact h2 _ (List.mem_map.mpr ⟨q, h, rfl⟩)
theorem liars_c (hS : SpOk S) (q : K (.d (.int ((S.length : Int) - topC S))) G) : JC G F_least_liars [.d (.tuple (S.map Pr.d))] K X := by
  have hl := hS.len
  have hel := ends_len S
  obtain ⟨b1, b2⟩ := below_bd hS
  have heb : ∀ e ∈ ends S ++ [belowP S, aboveP S], e.natAbs ≤ 2 ^ 39 := fun e he => by
    rcases List.mem_append.mp he with he | he
    · have := ends_bd hS he; omega
    · simp only [List.mem_cons, List.not_mem_nil, or_false] at he
      rcases he with rfl | rfl
      · exact b1
      · exact b2
  refine JC_frame0 (JC_less ?_)
  apply JC_runB
  unfold m_least_liars
  show JS [some (.d (.tuple (S.map Pr.d))), none, none, none, none] [] _ _
  and_intros
  refine far_c hS ?_
  and_intros
  refine ends_c hS ?_
  and_intros
  have e0 : (ends S).map tD ++ [tD (belowP S), tD (aboveP S)] = (ends S ++ [belowP S, aboveP S]).map tD := by rw [List.map_append]; rfl
  rw [e0]
  unfold topC at q
  have hll : (ends S ++ [belowP S, aboveP S]).length ≤ 70 := by rw [List.length_append]; simp; omega
  have hne : ends S ++ [belowP S, aboveP S] ≠ [] := by simp
  generalize ends S ++ [belowP S, aboveP S] = L at q heb hll hne
  refine J_lcM L tD (fun q => .int ((cnt S q : Nat) : Int)) rfl (by rw [line_eq]; omega) GrdOk.nil (fun e he => ?_) ?_
  · refine JG_n ?_
    clean_wf
    and_intros
    refine count_c hS (heb e he) ?_
    and_intros
  · cases L with
    | nil => exact absurd rfl hne
    | cons a L =>
      have e1 : List.map (fun q => PyData.int ((cnt S q : Nat) : Int)) (a :: L) = (((cnt S a : Nat) : Int) :: L.map fun q => ((cnt S q : Nat) : Int)).map .int := by rw [List.map_cons, List.map_cons, List.map_map]; rfl
      and_intros
      show JO _ (gMaxI [.d (.list (List.map (fun q => PyData.int ((cnt S q : Nat) : Int)) (a :: L)))]) _
      rw [e1]
      refine JO_maxI ?_
      and_intros
      refine ⟨[], by false_or_by_contra, ?_⟩
      rw [List.append_nil, List.length_map]
      exact q
theorem by_c {u w : Int} (hS : SpOk S) (hw : (S.length : Int) - u = w) (hp : w ≤ (cnt S p : Int)) (q : K (.d (byP S w).d) G) : JC G F_by_majority [.d (.tuple (S.map Pr.d)), .d (.int u)] K X := by
  have hl := hS.len
  have hel := ends_len S
  obtain ⟨b1, b2⟩ := below_bd hS
  have heb : ∀ e ∈ ends S, e.natAbs ≤ 2 ^ 38 := fun e he => ends_bd hS he
  have hu : ¬ (S.length : Int) - topC S > u := by
    obtain ⟨r, h1, h2⟩ := by_some hp
    have := topC_ge h1
    omega
  refine JC_frame0 (JC_less ?_)
  apply JC_runB
  unfold m_by_majority
  show JS [some (.d (.tuple (S.map Pr.d))), some (.d (.int u)), none, none, none, none, none, none, none] [] _ _
  and_intros
  refine liars_c hS ?_
  and_intros
  refine ⟨fun hb => absurd (of_decide_eq_true hb) hu, fun _ => ?_⟩
  and_intros
  refine far_c hS ?_
  and_intros
  refine ends_c hS ?_
  and_intros
  rw [List.length_map, hw]
  refine J_lcP (ends S) tD tD (fun e => decide (w ≤ (cnt S e : Int))) rfl (by rw [line_eq]; omega) GrdOk.nil (fun e he => ?_) ?_
  · have hb := heb e he
    refine JG_n ?_
    clean_wf
    and_intros
    refine count_c hS (by omega) ?_
    and_intros
    first
    | (refine ⟨rfl, fun _ => ?_, fun _ => rfl⟩; and_intros)
    | (refine ⟨fun _ => ?_, fun _ => rfl⟩; and_intros)
  · show seqQ _ _ (.nx [some (.d (.tuple (S.map Pr.d))), some (.d (.int u)), some (.d (.int w)), some (.d (tD (belowP S))), some (.d (tD (aboveP S))), some (.d (.list ((heldP S w).map tD))), none, none, none] _)
    have hhm : ∀ e ∈ heldP S w, e.natAbs ≤ 2 ^ 38 := fun e he => heb e (held_mem.mp he).1
    have hhl : (heldP S w).length ≤ 60 := by
      unfold heldP
      have := List.length_filter_le (fun e => decide (w ≤ (cnt S e : Int))) (ends S)
      omega
    have hi : ∀ o : OI, o = (byP S w).lo → JS [some (.d (.tuple (S.map Pr.d))), some (.d (.int u)), some (.d (.int w)), some (.d (tD (belowP S))), some (.d (tD (aboveP S))), some (.d (.list ((heldP S w).map tD))), some (.d (hiD o)), none, none] []
        (sSeq (sAsg (dIf (dIsT (dBin gGeA (dCall F_count_in (dCons (dVar 0) (dCons (dVar 4) dNil))) (dVar 2))) (dC .none) (dCall F_greatest_of (dCons (dVar 5) dNil))) (gN 7)) (sRet (dTup (dCons (dVar 6) (dCons (dVar 7) dNil)))))
        (fun o => match o with | .ret w G1 => ∃ G2, List.Sublist G2 G1 ∧ K w (G ++ G2) | .nx _ G1 => ∃ G2, List.Sublist G2 G1 ∧ K (.d .none) (G ++ G2) | .exc c fs _ G1 => X c fs (G ++ G1) | _ => False) := fun o ho => by
      and_intros
      refine count_c hS b2 ?_
      and_intros
      refine ⟨fun hb => ?_, fun hb => ?_⟩
      · have hb := of_decide_eq_true hb
        have e2 : (byP S w).hi = none := by unfold byP; simp only; rw [if_pos hb]
        and_intros
        refine ⟨[], by false_or_by_contra, ?_⟩
        rw [List.append_nil]
        unfold Pr.d at q
        rw [← ho, e2] at q
        exact q
      · have hb := of_decide_eq_false hb
        have e2 : (byP S w).hi = some (mostO (heldP S w)) := by unfold byP; simp only; rw [if_neg hb]
        have hne := held_ne' hp hb
        unfold Pr.d at q
        rw [← ho, e2] at q
        cases hL : heldP S w with
        | nil => exact absurd hL hne
        | cons a L =>
          rw [hL] at hhm hhl q
          simp only [List.length_cons] at hhl
          and_intros
          refine most_c hhm (by omega) ?_
          and_intros
          refine ⟨[], by false_or_by_contra, ?_⟩
          rw [List.append_nil]
          exact q
    and_intros
    refine count_c hS b1 ?_
    and_intros
    refine ⟨fun hb => ?_, fun hb => ?_⟩
    · have hb := of_decide_eq_true hb
      have e1 : (byP S w).lo = none := by unfold byP; simp only; rw [if_pos hb]
      refine J_c ?_
      refine JG_n ?_
      clean_wf
      exact hi none e1.symm
    · have hb := of_decide_eq_false hb
      have e1 : (byP S w).lo = some (leastO (heldP S w)) := by unfold byP; simp only; rw [if_neg hb]
      have hne := held_ne hp hb
      have hi' := hi _ e1.symm
      cases hL : heldP S w with
      | nil => exact absurd hL hne
      | cons a L =>
        rw [hL] at hhm hhl hi'
        simp only [List.length_cons] at hhl
        iterate 4 (first | sizeOf_list_dec | array_get_dec)
        refine least_c hhm (by omega) ?_
        refine JG_n ?_
        clean_wf
        exact hi'
end
end Lw

namespace Lw
open PySem L2 DL PyProof.Rows
/-! ### pairs hold the true times -/
/-! ### what is drawn -/
theorem vv_of {a d x : Int} (hd : 0 < d) (h : x * d = 120 * a) : Rat.divInt a d = vv x := by
  unfold vv
  rw [Rat.divInt_eq_divInt_iff (by omega) (by decide)]
  rw [h, Int.mul_comm]
theorem low_t {a d x : Int} (hd : 0 < d) (hd2 : d ≤ 4) (h : x * d = 120 * a) (m : Sto) : F_l_low [.d (.int a), .d (.int d)] m = .ok (.d (tD x)) m := by
  rw [low_eq a d hd (lt8 (n := 3) (by omega) (by decide)), vv_of hd h]
  rfl
section
variable {ns : List Int} {j p : Nat} {c : Cell} {G : Sg} {K : W → Sg → Prop} {X : XK'} {S : List Pr} {Q : OA → Prop}
theorem point_c (ix : Nat) (hi : Has G ix p c) (h : Tp ns j c) (hj : j ≤ 10 ^ 6)
    (q : ∀ c' x, Tp ns (j + 2) c' → -2400 ≤ x → x ≤ 2400 → K (.d (tD x)) (G.set ix (p, c'))) : JC G F_l_point [.c p] K X := by
  refine JC_frame hi (JC_less ?_)
  apply JC_runB
  unfold m_l_point
  show JS [some (.c p)] [(p, c)] _ _
  and_intros
  refine draw_c 0 has0 h (by omega) (by decide) (by decide) fun r1 c1 h1 r10 r11 => ?_
  and_intros
  refine draw_c 0 has0 h1 (by omega) (by decide) (by decide) fun r2 c2 h2 r20 r21 => ?_
  clean_wf
  refine JO_ixA r20 r21 fun d hd => ?_
  have fin : ∀ x : Int, -2400 ≤ x → x ≤ 2400 → ∃ G2, List.Sublist G2 [(p, c2)] ∧ ∃ c' Gn, G2 = (p, c') :: Gn ∧ K (.d (tD x)) (G.set ix (p, c') ++ Gn) := fun x h1 h2' => ⟨_, List.Sublist.refl _, c2, [], rfl, by rw [List.append_nil]; exact q c2 x (h2.mono (by omega)) h1 h2'⟩
  simp only [List.mem_cons, List.not_mem_nil, or_false] at hd
  rcases hd with rfl | rfl | rfl | rfl
  · and_intros
    refine JC_eq (low_t (x := 120 * (r1 - 20)) (by decide) (by decide) (by omega)) ?_
    and_intros
    exact fin _ (by omega) (by omega)
  · and_intros
    refine JC_eq (low_t (x := 120 * (r1 - 20)) (by decide) (by decide) (by omega)) ?_
    and_intros
    exact fin _ (by omega) (by omega)
  · and_intros
    refine JC_eq (low_t (x := 60 * (r1 - 20)) (by decide) (by decide) (by omega)) ?_
    and_intros
    exact fin _ (by omega) (by omega)
  · and_intros
    refine JC_eq (low_t (x := 40 * (r1 - 20)) (by decide) (by decide) (by omega)) ?_
    and_intros
    exact fin _ (by omega) (by omega)
end
end Lw

namespace Lw
open PySem L2 DL PyProof.Rows
/-! ### pairs hold the true times -/
noncomputable def spC : Fs := (sSeq (sPar 4 6 (dCons (dBin gIx (dData (dLst (dCons (dVar 4) (dCons (dVar 4) (dCons (dVar 4) (dCons (dVar 4) (dCons (dC .none) dNil))))))) (dCall F_l_draw (dCons (dVar 0) (dCons (dC (.int 5)) dNil)))) (dCons (dBin gIx (dData (dLst (dCons (dVar 6) (dCons (dVar 6) (dCons (dVar 6) (dCons (dVar 6) (dCons (dC .none) dNil))))))) (dCall F_l_draw (dCons (dVar 0) (dCons (dC (.int 5)) dNil)))) dNil)))
    (sDrop (dMt gApp (dVar 2) (dCons (dTup (dCons (dVar 4) (dCons (dVar 6) dNil))) dNil))))
noncomputable def spB : Fs := (sSeq (sPar 4 5 (dCons (dCall F_l_point (dCons (dVar 0) dNil)) (dCons (dCall F_l_low (dCons (dCall F_l_draw (dCons (dVar 0) (dCons (dC (.int 13)) dNil))) (dCons (dBin gAdd (dC (.int 1)) (dCall F_l_draw (dCons (dVar 0) (dCons (dC (.int 2)) dNil)))) dNil))) dNil)))
    (sSeq (sAsg (dIf (dIsT (dBin gGt (dCall F_l_draw (dCons (dVar 0) (dCons (dC (.int 8)) dNil))) (dC (.int 0)))) (dCall F_l_plus (dCons (dVar 4) (dCons (dVar 5) dNil))) (dCall F_l_minus (dCons (dVar 4) (dCons (dVar 5) dNil)))) (gN 6))
    spC))
theorem l_spans_is : m_l_spans = (sSeq (sAsg (dCell (dLst dNil)) (gN 2)) (sSeq (sFor (iRange1 (dCall F_l_draw (dCons (dVar 0) (dCons (dBin gAdd (dVar 1) (dC (.int 1))) dNil)))) (gN 3) spB) (sRet (dCB gTuple (dCons (dVar 2) dNil))))) := rfl
/-- spans as they are drawn -/
def SpB (s : Pr) : Prop := Bd (2 ^ 20) s.lo ∧ Bd (2 ^ 20) s.hi
section
variable {ns : List Int} {j p : Nat} {c : Cell} {G : Sg} {K : W → Sg → Prop} {X : XK'} {S : List Pr} {Q : OA → Prop}
theorem spC_c {a2 : Nat} {V1 V3 V5 : Option W} {x z : Int} (h : Tp ns j c) (hj : j ≤ 10 ^ 6) (hx : x.natAbs ≤ 10000) (hz : z.natAbs ≤ 10000) (hl : S.length ≤ 50)
    (q : ∀ s c' y4 y6, SpB s → Tp ns (j + 2) c' → Q (.nx [some (.c p), V1, some (.c a2), V3, y4, V5, y6] [(p, c'), (a2, .lst ((S ++ [s]).map Pr.d))])) :
    JS [some (.c p), V1, some (.c a2), V3, some (.d (tD x)), V5, some (.d (tD z))] [(p, c), (a2, .lst (S.map Pr.d))] spC Q := by
  unfold spC
  and_intros
  refine draw_c 0 has0 h (by omega) (by decide) (by decide) fun r1 c1 h1 r10 r11 => ?_
  clean_wf
  rw [show ([tD x, tD x, tD x, tD x, .none] : List D) = [some x, some x, some x, some x, none].map hiD from rfl]
  refine JO_ixM r10 r11 fun o1 ho1 _ => ?_
  and_intros
  refine draw_c 0 has0 h1 (by omega) (by decide) (by decide) fun r2 c2 h2 r20 r21 => ?_
  clean_wf
  rw [show ([tD z, tD z, tD z, tD z, .none] : List D) = [some z, some z, some z, some z, none].map hiD from rfl]
  refine JO_ixM r20 r21 fun o2 ho2 _ => ?_
  and_intros
  have b1 : Bd (2 ^ 20) o1 := by
    simp only [List.mem_cons, List.not_mem_nil, or_false] at ho1
    rcases ho1 with rfl | rfl | rfl | rfl | rfl <;> first | exact Bd.none | exact Bd.some (by omega)
  have b2 : Bd (2 ^ 20) o2 := by
    simp only [List.mem_cons, List.not_mem_nil, or_false] at ho2
    rcases ho2 with rfl | rfl | rfl | rfl | rfl <;> first | exact Bd.none | exact Bd.some (by omega)
  have e1 : S.map Pr.d ++ [.tuple [hiD o1, hiD o2]] = (S ++ [(⟨o1, o2⟩ : Pr)]).map Pr.d := by rw [List.map_append]; rfl
  rw [e1]
  exact q ⟨o1, o2⟩ c2 _ _ ⟨b1, b2⟩ h2
theorem spans_c (ix : Nat) (hi : Has G ix p c) (h : Tp ns j c) (hj : j ≤ 10 ^ 5)
    (q : ∀ c' (S : List Pr), Tp ns (j + 100) c' → S.length ≤ 8 → (∀ s ∈ S, SpB s) → K (.d (.tuple (S.map Pr.d))) (G.set ix (p, c'))) : JC G F_l_spans [.c p, .d (.int 8)] K X := by
  refine JC_frame hi (JC_less ?_)
  apply JC_runB
  rw [l_spans_is]
  show JS [some (.c p), some (.d (.int 8)), none, none, none, none, none] [(p, c)] _ _
  and_intros
  rename_i a2
  refine draw_c 0 has0 h (by omega) (by decide) (by decide) fun r0 c0 h0 r00 r01 => ?_
  refine ⟨r0, rfl, by omega, by omega, ?_⟩
  refine JS_forV [3, 4, 5, 6] [] (fun xs ws G' => ∃ (S : List Pr) (c' : Cell), ws = [] ∧ G' = [(p, c'), (a2, .lst (S.map Pr.d))] ∧ Tp ns (j + 1 + 10 * S.length) c' ∧ S.length + xs.length ≤ 8 ∧ ∀ s ∈ S, SpB s)
    ⟨[], _, ⟨[], c0, rfl, rfl, h0.mono (by simp), by simp [rngL0]; omega, by simp⟩, by ac_rfl; subst_eqs, List.Sublist.refl _⟩ ?_ ?_ ?_
  · rintro xs ws G' _; exact GrdOk.nil
  · rintro x_1 xs ws G' ⟨S, c', rfl, rfl, h1, h2, h3⟩
    simp only [List.length_cons] at h2
    ac_rfl
    refine JG_n ?_
    clean_wf
    unfold spB
    and_intros
    refine point_c 0 has0 h1 (by omega) fun c1 x h1 x0 x1 => ?_
    and_intros
    refine draw_c 0 has0 h1 (by omega) (by decide) (by decide) fun r1 c2 h2' r10 r11 => ?_
    and_intros
    refine draw_c 0 has0 h2' (by omega) (by decide) (by decide) fun r2 c3 h3' r20 r21 => ?_
    obtain ⟨y, y0, y1, hy⟩ : ∃ y : Int, 0 ≤ y ∧ y ≤ 1440 ∧ y * (1 + r2) = 120 * r1 := by
      rcases (show r2 = 0 ∨ r2 = 1 by omega) with rfl | rfl
      · exact ⟨120 * r1, by omega, by omega, by omega⟩
      · exact ⟨60 * r1, by omega, by omega, by omega⟩
    and_intros
    refine JC_eq (low_t (x := y) (by omega) (by omega) hy) ?_
    and_intros
    refine draw_c 0 has0 h3' (by omega) (by decide) (by decide) fun r3 c4 h4' r30 r31 => ?_
    and_intros
    have fin : ∀ z : Int, z.natAbs ≤ 10000 → ∀ Q : OA → Prop, (∀ s c' y4 y6, SpB s → Tp ns (j + 1 + 10 * (S.length + 1)) c' → Q (.nx [some (.c p), some (.d (.int 8)), some (.c a2), some (.d x_1), y4, some (.d (tD y)), y6] [(p, c'), (a2, .lst ((S ++ [s]).map Pr.d))])) → JS [some (.c p), some (.d (.int 8)), some (.c a2), some (.d x_1), some (.d (tD x)), some (.d (tD y)), some (.d (tD z))] [(p, c4), (a2, .lst (S.map Pr.d))] spC Q := fun z hz Q q => spC_c h4' (by omega) (by omega) hz (by omega) fun s c' y4 y6 g1 g2 => q s c' y4 y6 g1 (g2.mono (by omega))
    refine ⟨fun _ => ?_, fun _ => ?_⟩
    · and_intros
      refine JC_eq (l_plus (x := x) (y := y) (by omega) (by omega)) ?_
      and_intros
      refine fin _ (by omega) _ fun s c5 y4 y6 g1 g2 => ?_
      refine ⟨_, _, ⟨[], rfl, S ++ [s], c5, rfl, rfl, by rw [List.length_append, List.length_singleton]; exact g2, by rw [List.length_append, List.length_singleton]; omega, fun s' hs' => ?_⟩, by ac_rfl; subst_eqs, List.Sublist.refl _⟩
      rcases List.mem_append.mp hs' with hs' | hs'
      · exact h3 s' hs'
      · rw [List.mem_singleton.mp hs']; exact g1
    · and_intros
      refine JC_eq (l_minus (x := x) (y := y) (by omega) (by omega)) ?_
      and_intros
      refine fin _ (by omega) _ fun s c5 y4 y6 g1 g2 => ?_
      refine ⟨_, _, ⟨[], rfl, S ++ [s], c5, rfl, rfl, by rw [List.length_append, List.length_singleton]; exact g2, by rw [List.length_append, List.length_singleton]; omega, fun s' hs' => ?_⟩, by ac_rfl; subst_eqs, List.Sublist.refl _⟩
      rcases List.mem_append.mp hs' with hs' | hs'
      · exact h3 s' hs'
      · rw [List.mem_singleton.mp hs']; exact g1
  · rintro ws G' ⟨S, c', rfl, rfl, h1, h2, h3⟩
    simp only [List.length_nil] at h2
    ac_rfl
    and_intros
    refine ⟨[(p, c')], by false_or_by_contra, c', [], rfl, ?_⟩
    rw [List.append_nil]
    exact q c' S (h1.mono (by omega)) (by omega) h3
end
end Lw

namespace Lw
open PySem L2 DL PyProof.Rows
theorem isT_ii {x : Int} : isT "int" (.int x) = true := by simp [isT_int]
theorem isT_bi {x : Int} : isT "bool" (.int x) = false := by simp [isT_bool]
theorem isT_tt {xs : List D} : isT "tuple" (.tuple xs) = true := by simp [isT_tuple]
theorem allB_tru {α : Type} (ws : List α) : DL.allB (ws.map fun _ => PyData.bool true) = some (ws.map fun _ => true) := by
  induction ws with
  | nil => rfl
  | cons a ws ih => rw [List.map_cons, DL.allB, ih]; rfl
theorem JO_allT {G : Sg} {α : Type} {ws : List α} {K : W → Prop} (k : K (.d (.bool true))) : JO G (gAll [.d (.list (ws.map fun _ => PyData.bool true))]) K := JO_pure (w := .d (.bool true)) (fun m => by
  rw [all_l, allB_tru]
  simp only [Option.map_some]
  congr 3
  induction ws with
  | nil => rfl
  | cons a ws ih => rw [List.map_cons, List.all_cons, ih]; rfl) k
section
variable {G : Sg} {K : W → Sg → Prop} {X : XK'} {S : List Pr} {p : Int} {Q : OA → Prop}
theorem need_c {x y : D} (q : K (.d .none) G) : JC G F_need [.d (.bool true), .d x, .d y] K X := by
  refine JC_frame0 ?_
  apply JC_runB
  unfold m_need
  show JS [some (.d (.bool true)), some (.d x), some (.d y)] [] _ _
  have q' : K (.d .none) (G ++ []) := by rw [List.append_nil]; exact q
  and_intros
  refine ⟨(fun h => nomatch h), fun _ => ?_⟩
  and_intros
  exact q'
theorem num_c {x : Int} (q : K (.d (.bool true)) G) : JC G F_is_number [.d (.int x)] K X := by
  refine JC_frame0 ?_
  apply JC_runB
  unfold m_is_number
  show JS [some (.d (.int x))] [] _ _
  have q' : K (.d (.bool true)) (G ++ []) := by rw [List.append_nil]; exact q
  and_intros
  rw [isT_ii]
  refine ⟨fun _ => ?_, (fun h => nomatch h)⟩
  and_intros
  rw [isT_bi]
  exact q'
theorem need_b {b : Bool} {x y : D} (q : b = true → K (.d .none) G) (qx : b = false → ∀ fs, X (.ref C_NoPaper) fs G) : JC G F_need [.d (.bool b), .d x, .d y] K X := by
  cases b with
  | true => exact need_c (q rfl)
  | false =>
    refine JC_frame0 ?_
    apply JC_runB
    unfold m_need
    show JS [some (.d (.bool false)), some (.d x), some (.d y)] [] _ _
    and_intros
    refine ⟨fun _ => ?_, (fun h => nomatch h)⟩
    and_intros
    rw [List.append_nil]
    exact qx rfl _
/-- the numbers of those that a point is in -/
def numN (S : List Pr) (p : Int) : List Nat := (List.range S.length).filter fun k => inP p (prOf S k)
theorem numN_len (S : List Pr) (p : Int) : (numN S p).length = cnt S p := cnt_is S p
theorem numbers_x (hS : SpOk S) (hp : p.natAbs ≤ 2 ^ 39) (q : K (.d (.tuple ((numN S p).map natD))) G) : JC G F_numbers_in [.d (.tuple (S.map Pr.d)), .d (tD p)] K X := by
  have hl := hS.len
  refine JC_frame0 (JC_less ?_)
  apply JC_runB
  unfold m_numbers_in
  show JS [some (.d (.tuple (S.map Pr.d))), some (.d (tD p)), none, none] [] _ _
  and_intros
  rw [enL_prs]
  refine J_lcP (List.range S.length) (fun k => .tuple [natD k, (prOf S k).d]) natD (fun k => inP p (prOf S k)) rfl (by rw [List.length_range, line_eq]; omega) GrdOk.nil (fun k hk => ?_) ?_
  · obtain ⟨h1, h2⟩ := hS.bd _ (prOf_mem (List.mem_range.mp hk))
    refine JG_t (ds := [natD k, (prOf S k).d]) rfl ?_
    clean_wf
    and_intros
    refine is_in_c h1 h2 hp ?_
    and_intros
    refine ⟨rfl, fun _ => ?_, fun _ => rfl⟩
    and_intros
  · and_intros
    refine ⟨[], by false_or_by_contra, ?_⟩
    rw [List.append_nil]
    exact q
/-- the law's own look at one -/
theorem l_in1_c {s : Pr} (h1 : Bd (2 ^ 38) s.lo) (h2 : Bd (2 ^ 38) s.hi) (hp : p.natAbs ≤ 2 ^ 39) (q : K (.d (.bool (inP p s))) G) : JC G F_l_is_in [.d s.d, .d (tD p)] K X := by
  refine JC_frame0 ?_
  apply JC_runB
  unfold m_l_is_in
  show JS [some (.d s.d), some (.d (tD p)), none, none] [] _ _
  have q' : K (.d (.bool (inP p s))) (G ++ []) := by rw [List.append_nil]; exact q
  obtain ⟨lo, hi⟩ := s
  unfold Pr.d
  have second : ∀ X : XK', J [some (.d (.tuple [hiD lo, hiD hi])), some (.d (tD p)), some (.d (hiD lo)), some (.d (hiD hi))] [] (dOr (dBin gIsN (dVar 3) (dC .none)) (dNot (dCall F_l_is_less (dCons (dVar 3) (dCons (dVar 1) dNil))))) (fun w G1 => w = .d (.bool (hiIn p hi)) ∧ G1 = []) X := fun X => by
    cases hi with
    | none =>
      and_intros
      refine ⟨fun _ => ⟨rfl, rfl⟩, fun h => absurd h (by decide)⟩
    | some h =>
      have hb := h2 h rfl
      and_intros
      refine ⟨fun h => absurd h (by decide), fun _ => ?_⟩
      and_intros
      refine JC_eq (l_below (x := h) (y := p) (by omega) (by omega)) ?_
      and_intros
      refine ⟨?_, rfl⟩
      congr 2
      rw [Bool.eq_iff_iff]
      simp [truD, hiIn]
  have fin : ∀ (b : Bool) X, b = loIn p lo → (b = true → J [some (.d (.tuple [hiD lo, hiD hi])), some (.d (tD p)), some (.d (hiD lo)), some (.d (hiD hi))] [] (dOr (dBin gIsN (dVar 3) (dC .none)) (dNot (dCall F_l_is_less (dCons (dVar 3) (dCons (dVar 1) dNil))))) (fun w G1 => K w (G ++ G1)) X) ∧ (b = false → K (.d (.bool b)) (G ++ [])) := fun b X hb => by
    refine ⟨fun h => (second X).mono ?_, fun h => ?_⟩
    · rintro w G1 ⟨rfl, rfl⟩
      have e : inP p ⟨lo, hi⟩ = (hiIn p hi) := by unfold inP; simp only; rw [← hb, h]; simp
      rw [← e]; exact q'
    · have e : inP p ⟨lo, hi⟩ = b := by unfold inP; simp only; rw [← hb, h]; simp
      rw [← e]; exact q'
  and_intros
  cases lo with
  | none =>
    refine ⟨fun _ => ?_, fun h => absurd h (by decide)⟩
    and_intros
    exact fin true _ rfl
  | some l =>
    have hb := h1 l rfl
    refine ⟨fun h => absurd h (by rw [show isNone (hiD (some l)) = false from rfl]; decide), fun _ => ?_⟩
    and_intros
    refine JC_eq (l_below (x := p) (y := l) (by omega) (by omega)) ?_
    and_intros
    refine fin _ _ ?_
    rw [Bool.eq_iff_iff]
    simp [truD, loIn]
theorem l_in_c (hS : SpOk S) (hp : p.natAbs ≤ 2 ^ 39) (q : K (.d (.list ((numN S p).map natD))) G) : JC G F_l_in [.d (.tuple (S.map Pr.d)), .d (tD p)] K X := by
  have hl := hS.len
  refine JC_frame0 (JC_less ?_)
  apply JC_runB
  unfold m_l_in
  show JS [some (.d (.tuple (S.map Pr.d))), some (.d (tD p)), none] [] _ _
  and_intros
  rw [List.length_map, Int.toNat_natCast, rngL0]
  refine J_lcP (List.range S.length) natD natD (fun k => inP p (prOf S k)) rfl (by rw [List.length_range, line_eq]; omega) GrdOk.nil (fun k hk => ?_) ?_
  · have hkl := List.mem_range.mp hk
    obtain ⟨h1, h2⟩ := hS.bd _ (prOf_mem hkl)
    refine JG_n ?_
    clean_wf
    and_intros
    refine JO_ixMT (by omega) (by omega) fun p1 _ hp1 => ?_
    rw [Int.toNat_natCast, prOf_at hkl] at hp1; cases hp1
    and_intros
    refine l_in1_c h1 h2 hp ?_
    and_intros
    refine ⟨rfl, fun _ => ?_, fun _ => rfl⟩
    and_intros
  · and_intros
    refine ⟨[], by false_or_by_contra, ?_⟩
    rw [List.append_nil]
    exact q
/-! ### what is told, or that too many lie -/
theorem topC_mem : ∃ p, topC S = (cnt S p : Int) := by
  unfold topC
  generalize hL : ends S ++ [belowP S, aboveP S] = L
  cases L with
  | nil => simp at hL
  | cons a L =>
    rcases maxL_mem ((cnt S a : Nat) : Int) (L.map fun q => ((cnt S q : Nat) : Int)) with h | h
    · exact ⟨a, h⟩
    · obtain ⟨q, _, hq⟩ := List.mem_map.mp h
      exact ⟨q, hq.symm⟩
theorem topC_of {w : Int} (h : w ≤ (cnt S p : Int)) : w ≤ topC S := by
  obtain ⟨r, h1, h2⟩ := by_some h
  have := topC_ge h1
  omega
theorem by_any_c {u w : Int} (hS : SpOk S) (hw : (S.length : Int) - u = w) (q : w ≤ topC S → K (.d (byP S w).d) G) (qx : ¬ w ≤ topC S → ∀ fs G', X (.ref C_Lied) fs (G ++ G')) : JC G F_by_majority [.d (.tuple (S.map Pr.d)), .d (.int u)] K X := by
  by_cases h : w ≤ topC S
  · obtain ⟨r, hr⟩ := topC_mem (S := S)
    exact by_c (p := r) hS hw (by omega) (q h)
  · have hl := hS.len
    refine JC_frame0 (JC_less ?_)
    apply JC_runB
    unfold m_by_majority
    show JS [some (.d (.tuple (S.map Pr.d))), some (.d (.int u)), none, none, none, none, none, none, none] [] _ _
    and_intros
    refine liars_c hS ?_
    and_intros
    refine ⟨fun _ => ?_, fun hb => absurd (of_decide_eq_false hb) (by omega)⟩
    and_intros
    refine liars_c hS ?_
    and_intros
    exact qx h _ _
def toldD (S : List Pr) (w : Int) [Decidable (w ≤ topC S)] : D := if w ≤ topC S then (byP S w).d else .none
theorem l_told_c {u w : Int} (hS : SpOk S) (hw : (S.length : Int) - u = w) (q : K (.d (toldD S w)) G) : JC G F_l_told [.d (.tuple (S.map Pr.d)), .d (.int u)] K X := by
  refine JC_frame0 (JC_less ?_)
  apply JC_runB
  unfold m_l_told
  show JS [some (.d (.tuple (S.map Pr.d))), some (.d (.int u)), none] [] _ _
  and_intros
  refine by_any_c hS hw (fun h => ?_) fun h fs G' => ?_
  · and_intros
    have e : toldD S w = (byP S w).d := if_pos h
    exact ⟨[], by false_or_by_contra, by rw [List.append_nil, ← e]; exact q⟩
  · refine .inl ⟨by decide, ?_⟩
    and_intros
    have e : toldD S w = .none := if_neg h
    exact ⟨[], by false_or_by_contra, by rw [List.append_nil, ← e]; exact q⟩
end
end Lw

namespace Lw
open PySem L2 DL PyProof.Rows
/-! ### papers that tell who holds an end -/
structure Pp where
  lo : OI
  hi : OI
  one : List Nat
  two : List Nat
def Pp.d (P : Pp) : D := .tuple [hiD P.lo, hiD P.hi, .tuple (P.one.map natD), .tuple (P.two.map natD)]
structure PpOk (P : Pp) : Prop where
  lo : Bd (2 ^ 20) P.lo
  hi : Bd (2 ^ 20) P.hi
  one : P.one.length ≤ 100
  two : P.two.length ≤ 100
def rises (n : Nat) : Int → List Nat → Bool
  | _, [] => true
  | l, k :: ks => decide (l < (k : Int)) && decide (k < n) && rises n k ks
def holdN (S : List Pr) (o : OI) (k : Nat) : Bool := match o with
  | none => false
  | some e => inP e (prOf S k)
def enough (w : Int) (o : OI) (n : Nat) : Bool := o.isNone || decide (w ≤ (n : Int))
def sideOk (S : List Pr) (w : Int) (o : OI) (L : List Nat) : Bool := rises S.length (-1) L && L.all (holdN S o) && enough w o L.length
theorem enL_drop {xs : List D} {j : Nat} {y : D} (h : xs[j]? = some y) : (enL xs).drop j = .tuple [natD j, y] :: (enL xs).drop (j + 1) := by
  have hl := (List.getElem?_eq_some_iff.mp h).1
  rw [List.drop_eq_getElem_cons (by rw [enL_len]; exact hl)]
  congr 1
  have := enL_get h
  rw [List.getElem?_eq_getElem (by rw [enL_len]; exact hl)] at this
  exact Option.some.inj this
theorem rises_lt {n : Nat} : ∀ {L : List Nat} {l : Int}, rises n l L = true → ∀ k ∈ L, k < n
  | [], _, _, k, h => nomatch h
  | a :: L, l, h, k, hk => by
    unfold rises at h
    simp only [Bool.and_eq_true, decide_eq_true_eq] at h
    rcases List.mem_cons.mp hk with rfl | hk
    · exact h.1.2
    · exact rises_lt h.2 k hk
section
variable {G : Sg} {K : W → Sg → Prop} {X : XK'} {S : List Pr} {p : Int} {Q : OA → Prop} {w : Int} {o : OI} {L : List Nat} {sd : Int}
noncomputable def nsA : Fs := (sSeq (sDrop (dCall F_need (dCons (dChain gLt gLt (dVar 5) (dVar 7) (dCB gLen (dCons (dVar 0) dNil))) (dCons (dC (.str "number")) (dCons (dTup (dCons (dVar 3) (dCons (dVar 6) dNil))) dNil)))))
    (sAsg (dVar 7) (gN 5)))
noncomputable def nsB : Fs := (sDrop (dCall F_need (dCons (dAnd (dBin gNotN (dVar 1) (dC .none)) (dCall F_is_in (dCons (dBin gIx (dVar 0) (dVar 7)) (dCons (dVar 1) dNil)))) (dCons (dC (.str "in")) (dCons (dTup (dCons (dVar 3) (dCons (dVar 6) dNil))) dNil)))))
noncomputable def nsC : Fs := (sDrop (dCall F_need (dCons (dOr (dBin gIsN (dVar 1) (dC .none)) (dBin gGe (dCB gLen (dCons (dVar 2) dNil)) (dVar 4))) (dCons (dC (.str "few")) (dCons (dVar 3) dNil)))))
theorem need_side_is : m_need_side = (sSeq (sAsg (dUn gNeg (dC (.int 1))) (gN 5)) (sSeq (sFor (iEnumT (dVar 2)) (gT 2 (gsCons (gN 6) (gsCons (gN 7) gsNil))) nsA) (sSeq (sFor (iEnumT (dVar 2)) (gT 2 (gsCons (gN 6) (gsCons (gN 7) gsNil))) nsB) nsC))) := rfl
theorem need_side_c (hS : SpOk S) (ho : Bd (2 ^ 38) o) (hL : L.length ≤ 100) (q : sideOk S w o L = true → K (.d .none) G) (qx : sideOk S w o L = false → ∀ fs G', X (.ref C_NoPaper) fs (G ++ G')) : JC G F_need_side [.d (.tuple (S.map Pr.d)), .d (hiD o), .d (.tuple (L.map natD)), .d (.int sd), .d (.int w)] K X := by
  have hl := hS.len
  refine JC_frame0 (JC_less ?_)
  apply JC_runB
  rw [need_side_is]
  show JS [some (.d (.tuple (S.map Pr.d))), some (.d (hiD o)), some (.d (.tuple (L.map natD))), some (.d (.int sd)), some (.d (.int w)), none, none, none] [] _ _
  and_intros
  refine JS_forV [5, 6, 7] [5] (fun xs ws G' => ∃ (j : Nat) (l : Int), ws = [.d (.int l)] ∧ xs = (enL (L.map natD)).drop j ∧ j ≤ L.length ∧ rises S.length (-1) L = rises S.length l (L.drop j) ∧ G' = [])
    ⟨[.d (.int (-1))], _, ⟨0, -1, rfl, rfl, Nat.zero_le _, rfl, rfl⟩, by ac_rfl; subst_eqs, List.Sublist.refl _⟩ ?_ ?_ ?_
  · rintro xs ws G' ⟨j, l, rfl, _, _, _, rfl⟩; exact GrdOk.nil
  · rintro x xs ws G' ⟨j, l, rfl, hx, hj, hr, rfl⟩
    by_cases hz : j < L.length
    · have hkj : L[j]? = some L[j] := List.getElem?_eq_getElem hz
      rw [List.drop_eq_getElem_cons hz] at hr
      generalize L[j] = k at hkj hr
      rw [enL_drop (y := natD k) (by rw [List.getElem?_map, hkj]; rfl)] at hx
      simp only [List.cons.injEq] at hx
      obtain ⟨rfl, rfl⟩ := hx
      ac_rfl
      unfold nsA
      and_intros
      refine ⟨fun hb => ?_, fun hb => ?_⟩
      · and_intros
        rw [List.length_map]
        refine need_b (fun hc => ?_) fun hc fs => ?_
        · and_intros
          refine ⟨_, _, ⟨[.d (natD k)], rfl, j + 1, k, rfl, rfl, by omega, ?_, rfl⟩, by ac_rfl; subst_eqs, List.Sublist.refl _⟩
          rw [hr, rises, hb, decide_eq_true (show k < S.length by have := of_decide_eq_true hc; omega)]
          rfl
        · and_intros
          refine qx ?_ fs _
          unfold sideOk
          rw [hr, rises, hb, decide_eq_false (show ¬ k < S.length by have := of_decide_eq_false hc; omega)]
          rfl
      · and_intros
        refine need_b (fun hc => nomatch hc) fun _ fs => ?_
        and_intros
        refine qx ?_ fs _
        unfold sideOk
        rw [hr, rises, hb]
        rfl
    · rw [List.drop_eq_nil_of_le (by rw [enL_len, List.length_map]; omega)] at hx
      cases hx
  rintro ws G' ⟨j, l, rfl, hx, hj, hr, rfl⟩
  have hjl : j = L.length := by
    by_cases hz : j < L.length
    · have hkj : L[j]? = some L[j] := List.getElem?_eq_getElem hz
      rw [enL_drop (y := natD L[j]) (by rw [List.getElem?_map, hkj]; rfl)] at hx
      cases hx
    · omega
  have hr : rises S.length (-1) L = true := by rw [hr, List.drop_eq_nil_of_le (by omega)]; rfl
  have hlt := rises_lt hr
  ac_rfl
  and_intros
  refine JS_forV [6, 7] [] (fun xs ws G' => ∃ (j : Nat), ws = [] ∧ xs = (enL (L.map natD)).drop j ∧ j ≤ L.length ∧ L.all (holdN S o) = (L.drop j).all (holdN S o) ∧ G' = [])
    ⟨[], _, ⟨0, rfl, rfl, Nat.zero_le _, rfl, rfl⟩, by ac_rfl; subst_eqs, List.Sublist.refl _⟩ ?_ ?_ ?_
  · rintro xs ws G' ⟨j, rfl, _, _, _, rfl⟩; exact GrdOk.nil
  · rintro x xs ws G' ⟨j, rfl, hx, hj, ha, rfl⟩
    by_cases hz : j < L.length
    · have hkj : L[j]? = some L[j] := List.getElem?_eq_getElem hz
      have hkS := hlt _ (List.getElem_mem hz)
      rw [List.drop_eq_getElem_cons hz, List.all_cons] at ha
      generalize L[j] = k at hkj ha hkS
      rw [enL_drop (y := natD k) (by rw [List.getElem?_map, hkj]; rfl)] at hx
      simp only [List.cons.injEq] at hx
      obtain ⟨rfl, rfl⟩ := hx
      ac_rfl
      unfold nsB
      and_intros
      cases o with
      | none =>
        refine ⟨(fun h => nomatch h), fun _ => ?_⟩
        and_intros
        refine need_b (fun hc => nomatch hc) fun _ fs => ?_
        and_intros
        refine qx ?_ fs _
        unfold sideOk
        rw [ha]
        simp [holdN]
      | some e =>
        refine ⟨fun _ => ?_, (fun h => nomatch h)⟩
        have hb := ho e rfl
        obtain ⟨h1, h2⟩ := hS.bd _ (prOf_mem hkS)
        and_intros
        refine JO_ixMT (by omega) (by omega) fun p1 _ hp1 => ?_
        rw [Int.toNat_natCast, prOf_at hkS] at hp1; cases hp1
        and_intros
        refine is_in_c h1 h2 (by omega) ?_
        and_intros
        refine need_b (fun hc => ?_) fun hc fs => ?_
        · and_intros
          refine ⟨_, _, ⟨[], rfl, j + 1, rfl, rfl, by omega, ?_, rfl⟩, by ac_rfl; subst_eqs, List.Sublist.refl _⟩
          rw [ha, show holdN S (some e) k = true from hc, Bool.true_and]
        · and_intros
          refine qx ?_ fs _
          unfold sideOk
          rw [ha, show holdN S (some e) k = false from hc]
          simp
    · rw [List.drop_eq_nil_of_le (by rw [enL_len, List.length_map]; omega)] at hx
      cases hx
  rintro ws G' ⟨j, rfl, hx, hj, ha, rfl⟩
  have hjl : j = L.length := by
    by_cases hz : j < L.length
    · have hkj : L[j]? = some L[j] := List.getElem?_eq_getElem hz
      rw [enL_drop (y := natD L[j]) (by rw [List.getElem?_map, hkj]; rfl)] at hx
      cases hx
    · omega
  have ha : L.all (holdN S o) = true := by rw [ha, List.drop_eq_nil_of_le (by omega)]; rfl
  ac_rfl
  unfold nsC
  and_intros
  cases o with
  | none =>
    refine ⟨fun _ => ?_, (fun h => nomatch h)⟩
    and_intros
    refine need_c ?_
    and_intros
    refine ⟨[], by false_or_by_contra, ?_⟩
    rw [List.append_nil]
    refine q ?_
    unfold sideOk
    rw [hr, ha]
    rfl
  | some e =>
    refine ⟨(fun h => nomatch h), fun _ => ?_⟩
    and_intros
    rw [List.length_map]
    refine need_b (fun hc => ?_) fun hc fs => ?_
    · and_intros
      refine ⟨[], by false_or_by_contra, ?_⟩
      rw [List.append_nil]
      refine q ?_
      unfold sideOk enough
      rw [hr, ha, show decide (w ≤ (L.length : Int)) = true from hc]
      rfl
    · and_intros
      refine qx ?_ fs _
      unfold sideOk enough
      rw [hr, ha, show decide (w ≤ (L.length : Int)) = false from hc]
      rfl
end
end Lw

namespace Lw
open PySem L2 DL PyProof.Rows
/-! ### papers that tell who holds an end -/
section
variable {G : Sg} {K : W → Sg → Prop} {X : XK'} {S : List Pr} {p : Int} {Q : OA → Prop} {w : Int} {o : OI} {L : List Nat} {sd : Int}
theorem gcd_one (r : Rat) : Nat.gcd r.num.natAbs r.den = 1 := r.reduced
theorem is_fraction_c {x : Int} (q : K (.d (.bool true)) G) : JC G F_is_fraction [.d (tD x)] K X := by
  refine JC_frame0 (JC_less ?_)
  apply JC_runB
  unfold m_is_fraction
  show JS [some (.d (tD x)), none] [] _ _
  unfold tD fr
  generalize vv x = r
  and_intros
  rw [isT_tt]
  refine ⟨(fun h => nomatch h), fun _ => ?_⟩
  and_intros
  refine JO_ne (shaped_int _) (shaped_int _) ?_
  rw [show (!PyData.eqv (.int (([PyData.int r.num, .int (r.den : Int)] : List D).length : Int)) (.int 2)) = false by simp [PyData.eqv]]
  and_intros
  refine ⟨(fun h => nomatch h), fun _ => ?_⟩
  and_intros
  rw [show ([PyData.int r.num, .int (r.den : Int)] : List D) = [r.num, (r.den : Int)].map .int from rfl]
  refine J_lcM [r.num, (r.den : Int)] PyData.int (fun _ => .bool true) rfl (by simp; decide) GrdOk.nil (fun z _ => ?_) ?_
  · refine JG_n ?_
    clean_wf
    and_intros
    refine num_c ?_
    and_intros
  and_intros
  refine ⟨fun h => absurd h (by decide), fun _ => JS_nx ?_⟩
  and_intros
  rw [decide_eq_true (den_pos r)]
  refine ⟨fun _ => ?_, (fun h => nomatch h)⟩
  and_intros
  rw [abs_eq]
  refine JC_eq (w := .d (.int 1)) (fun m => by rw [c_div, gcd_one]; rfl) ?_
  and_intros
  refine JO_eq (shaped_int _) (shaped_int _) ?_
  refine ⟨[], by false_or_by_contra, ?_⟩
  rw [List.append_nil, show PyData.eqv (.int 1) (.int 1) = true by simp [PyData.eqv]]
  exact q
theorem cut_a {a b c d : D} : DL.cutD [a, b, c, d] none (some 2) = [a, b] := rfl
theorem cut_b {a b c d : D} : DL.cutD [a, b, c, d] (some 2) none = [c, d] := rfl
theorem is_paper_c {P : Pp} (hP : PpOk P) (q : K (.d (.bool true)) G) : JC G F_is_paper [.d P.d] K X := by
  obtain ⟨lo, hi, one, two⟩ := P
  obtain ⟨_, _, h1, h2⟩ := hP
  simp only at h1 h2
  refine JC_frame0 (JC_less ?_)
  apply JC_runB
  unfold m_is_paper Pp.d
  show JS [some (.d (.tuple [hiD lo, hiD hi, .tuple (one.map natD), .tuple (two.map natD)])), none, none, none] [] _ _
  and_intros
  rw [isT_tt]
  refine ⟨(fun h => nomatch h), fun _ => ?_⟩
  and_intros
  refine JO_ne (shaped_int _) (shaped_int _) ?_
  rw [show (!PyData.eqv (.int (([hiD lo, hiD hi, .tuple (one.map natD), .tuple (two.map natD)] : List D).length : Int)) (.int 4)) = false by simp [PyData.eqv]]
  and_intros
  refine ⟨(fun h => nomatch h), fun _ => JS_nx ?_⟩
  and_intros
  rw [cut_a, show ([hiD lo, hiD hi] : List D) = [lo, hi].map hiD from rfl]
  refine J_lcM [lo, hi] hiD (fun _ => .bool true) rfl (by simp; decide) GrdOk.nil (fun o _ => ?_) ?_
  · refine JG_n ?_
    clean_wf
    and_intros
    cases o with
    | none => exact ⟨fun _ => ⟨rfl, rfl⟩, (fun h => nomatch h)⟩
    | some e =>
      refine ⟨(fun h => nomatch h), fun _ => ?_⟩
      and_intros
      refine is_fraction_c ?_
      and_intros
  and_intros
  refine ⟨fun h => absurd h (by decide), fun _ => JS_nx ?_⟩
  and_intros
  rw [cut_b, show ([.tuple (one.map natD), .tuple (two.map natD)] : List D) = [one, two].map fun L => .tuple (L.map natD) from rfl]
  refine J_lcM [one, two] (fun L => .tuple (L.map natD)) (fun _ => .bool true) rfl (by simp; decide) GrdOk.nil (fun L hL => ?_) ?_
  · have hLl : L.length ≤ 100 := by
      simp only [List.mem_cons, List.not_mem_nil, or_false] at hL
      rcases hL with rfl | rfl <;> assumption
    refine JG_n ?_
    clean_wf
    and_intros
    rw [isT_tt]
    refine ⟨fun _ => ?_, (fun h => nomatch h)⟩
    and_intros
    refine J_lcM L natD (fun _ => .bool true) rfl (by rw [line_eq]; omega) GrdOk.nil (fun z _ => ?_) ?_
    · refine JG_n ?_
      clean_wf
      and_intros
      refine num_c ?_
      and_intros
    and_intros
    refine JO_allT ⟨rfl, rfl⟩
  and_intros
  refine ⟨[], by false_or_by_contra, ?_⟩
  rw [List.append_nil]
  exact q
/-- the far point of a side -/
def awayP (S : List Pr) (sd : Bool) : Int := if sd then aboveP S else belowP S
def sI (sd : Bool) : Int := if sd then 1 else 0
/-- one held lies further out -/
def fur (sd : Bool) (e q : Int) : Bool := if sd then decide (e < q) else decide (q < e)
def bey (S : List Pr) (w : Int) (sd : Bool) (o : OI) : Bool := if w ≤ (cnt S (awayP S sd) : Int) then o.isSome else match o with
  | none => true
  | some e => (heldP S w).any (fur sd e)
theorem allB_map {α : Type} (f : α → Bool) : ∀ ws : List α, DL.allB (ws.map fun a => PyData.bool (f a)) = some (ws.map f)
  | [] => rfl
  | a :: ws => by rw [List.map_cons, DL.allB, allB_map f ws]; rfl
theorem JO_anyB {G : Sg} {α : Type} {f : α → Bool} {ws : List α} {K : W → Prop} (k : K (.d (.bool (ws.any f)))) : JO G (gAny [.d (.list (ws.map fun a => PyData.bool (f a)))]) K := JO_pure (w := .d (.bool (ws.any f))) (fun m => by
  rw [any_l, allB_map]
  simp only [Option.map_some]
  congr 3
  rw [List.any_map]; rfl) k
theorem is_beyond_c {sd : Bool} (hS : SpOk S) (ho : Bd (2 ^ 38) o) (q : K (.d (.bool (bey S w sd o))) G) : JC G F_is_beyond [.d (.tuple (S.map Pr.d)), .d (hiD o), .d (.int (sI sd)), .d (.int w)] K X := by
  have hl := hS.len
  have hel := ends_len S
  obtain ⟨b1, b2⟩ := below_bd hS
  have heb : ∀ e ∈ ends S, e.natAbs ≤ 2 ^ 38 := fun e he => ends_bd hS he
  refine JC_frame0 (JC_less ?_)
  apply JC_runB
  unfold m_is_beyond
  show JS [some (.d (.tuple (S.map Pr.d))), some (.d (hiD o)), some (.d (.int (sI sd))), some (.d (.int w)), none, none, none] [] _ _
  and_intros
  refine far_c hS ?_
  and_intros
  have hix : atI ([tD (belowP S), tD (aboveP S)] : List D) (sI sd) = some (tD (awayP S sd)) := by cases sd <;> rfl
  refine JO_ixT hix ?_
  have hab : (awayP S sd).natAbs ≤ 2 ^ 39 := by unfold awayP; cases sd <;> assumption
  and_intros
  refine count_c hS hab ?_
  and_intros
  refine ⟨fun hb => ?_, fun hb => ?_⟩
  · and_intros
    refine ⟨[], by false_or_by_contra, ?_⟩
    rw [List.append_nil, hiD_isN]
    have e : bey S w sd o = o.isSome := if_pos (of_decide_eq_true hb)
    rw [e] at q
    rw [show (!o.isNone) = o.isSome by cases o <;> rfl]
    exact q
  · have hb := of_decide_eq_false hb
    refine JS_nx ?_
    cases o with
    | none =>
      have e : bey S w sd none = true := if_neg hb
      rw [e] at q
      and_intros
      refine ⟨fun _ => ?_, (fun h => nomatch h)⟩
      and_intros
      refine ⟨[], by false_or_by_contra, ?_⟩
      rw [List.append_nil]
      exact q
    | some e0 =>
      have e : bey S w sd (some e0) = (heldP S w).any (fur sd e0) := if_neg hb
      rw [e] at q
      have hb0 := ho e0 rfl
      and_intros
      refine ⟨(fun h => nomatch h), fun _ => JS_nx ?_⟩
      and_intros
      refine ends_c hS ?_
      and_intros
      refine J_lcP (ends S) tD tD (fun e => decide (w ≤ (cnt S e : Int))) rfl (by rw [line_eq]; omega) GrdOk.nil (fun e he => ?_) ?_
      · have hb := heb e he
        refine JG_n ?_
        clean_wf
        and_intros
        refine count_c hS (by omega) ?_
        and_intros
        first
        | (refine ⟨rfl, fun _ => ?_, fun _ => rfl⟩; and_intros)
        | (refine ⟨fun _ => ?_, fun _ => rfl⟩; and_intros)
      · have hhl : (heldP S w).length ≤ 60 := by
          unfold heldP
          have := List.length_filter_le (fun e => decide (w ≤ (cnt S e : Int))) (ends S)
          omega
        have hhm : ∀ e ∈ heldP S w, e.natAbs ≤ 2 ^ 38 := fun e he => heb e (held_mem.mp he).1
        have eh : (ends S).filter (fun e => decide (w ≤ (cnt S e : Int))) = heldP S w := rfl
        rw [eh]
        generalize heldP S w = H at q hhl hhm
        and_intros
        refine J_lcM H tD (fun r => .bool (fur sd e0 r)) rfl (by rw [line_eq]; omega) GrdOk.nil (fun r hr => ?_) ?_
        · have hrb := hhm r hr
          refine JG_n ?_
          clean_wf
          and_intros
          refine JO_eq (shaped_int _) (shaped_int _) ?_
          cases sd
          · rw [show PyData.eqv (.int (sI false)) (.int 0) = true by simp [PyData.eqv, sI]]
            and_intros
            refine ⟨fun _ => ?_, (fun h => nomatch h)⟩
            and_intros
            refine JC_eq (q_below (x := r) (y := e0) (by omega) (by omega)) ?_
            and_intros
            all_goals exact ⟨rfl, rfl⟩
          · rw [show PyData.eqv (.int (sI true)) (.int 0) = false by simp [PyData.eqv, sI]]
            and_intros
            refine ⟨(fun h => nomatch h), fun _ => ?_⟩
            and_intros
            refine JC_eq (q_below (x := e0) (y := r) (by omega) (by omega)) ?_
            and_intros
            all_goals exact ⟨rfl, rfl⟩
        · and_intros
          refine JO_anyB ⟨[], by false_or_by_contra, ?_⟩
          rw [List.append_nil]
          exact q
end
end Lw

namespace Lw
open PySem L2 DL PyProof.Rows
/-! ### papers that tell who holds an end -/
def Pp.side (P : Pp) (sd : Bool) : OI := if sd then P.hi else P.lo
def Pp.nums (P : Pp) (sd : Bool) : List Nat := if sd then P.two else P.one
def letsB (S : List Pr) (w : Int) (P : Pp) : Bool := sideOk S w P.lo P.one && sideOk S w P.hi P.two && !bey S w false P.lo && !bey S w true P.hi
noncomputable def lcA : Fs := (sDrop (dCall F_need_side (dCons (dVar 0) (dCons (dBin gIx (dVar 1) (dVar 4)) (dCons (dBin gIx (dVar 1) (dBin gAdd (dC (.int 2)) (dVar 4))) (dCons (dVar 4) (dCons (dVar 3) dNil)))))))
noncomputable def lcB : Fs := (sDrop (dCall F_need (dCons (dNot (dCall F_is_beyond (dCons (dVar 0) (dCons (dBin gIx (dVar 1) (dVar 4)) (dCons (dVar 4) (dCons (dVar 3) dNil)))))) (dCons (dC (.str "beyond")) (dCons (dVar 4) dNil)))))
theorem lets_cover_is : m_lets_cover = (sSeq (sDrop (dCall F_need (dCons (dCall F_is_paper (dCons (dVar 1) dNil)) (dCons (dC (.str "shape")) (dCons (dUn gNeg (dC (.int 1))) dNil))))) (sSeq (sAsg (dBin gSub (dCB gLen (dCons (dVar 0) dNil)) (dVar 2)) (gN 3)) (sSeq (sFor (iTupD (dTup (dCons (dC (.int 0)) (dCons (dC (.int 1)) dNil)))) (gN 4) lcA) (sSeq (sFor (iTupD (dTup (dCons (dC (.int 0)) (dCons (dC (.int 1)) dNil)))) (gN 4) lcB) (sRet (dSl (dVar 1) oNone (oSome (dC (.int 2))))))))) := rfl
section
variable {G : Sg} {K : W → Sg → Prop} {X : XK'} {S : List Pr} {p : Int} {Q : OA → Prop} {w : Int} {o : OI} {L : List Nat} {P : Pp}
theorem ix_side (P : Pp) (sd : Bool) : atI ([hiD P.lo, hiD P.hi, .tuple (P.one.map natD), .tuple (P.two.map natD)] : List D) (sI sd) = some (hiD (P.side sd)) := by cases sd <;> rfl
theorem ix_nums (P : Pp) (sd : Bool) : atI ([hiD P.lo, hiD P.hi, .tuple (P.one.map natD), .tuple (P.two.map natD)] : List D) (2 + sI sd) = some (.tuple ((P.nums sd).map natD)) := by cases sd <;> rfl
theorem lets_cover_c {u : Int} (hS : SpOk S) (hP : PpOk P) (hw : (S.length : Int) - u = w) (q : letsB S w P = true → K (.d (.tuple [hiD P.lo, hiD P.hi])) G) (qx : letsB S w P = false → ∀ fs G', X (.ref C_NoPaper) fs (G ++ G')) : JC G F_lets_cover [.d (.tuple (S.map Pr.d)), .d P.d, .d (.int u)] K X := by
  have hl := hS.len
  have hbs : ∀ sd, Bd (2 ^ 38) (P.side sd) := fun sd => by cases sd; exact hP.lo.mono (by omega); exact hP.hi.mono (by omega)
  have hbn : ∀ sd, (P.nums sd).length ≤ 100 := fun sd => by cases sd; exact hP.one; exact hP.two
  refine JC_frame0 (JC_less ?_)
  apply JC_runB
  rw [lets_cover_is]
  show JS [some (.d (.tuple (S.map Pr.d))), some (.d P.d), some (.d (.int u)), none, none] [] _ _
  and_intros
  refine is_paper_c hP ?_
  and_intros
  refine need_c ?_
  and_intros
  rw [List.length_map, hw]
  rw [show ([PyData.int 0, .int 1] : List D) = [false, true].map fun sd => .int (sI sd) from rfl]
  refine JS_forV [4] [] (fun xs ws G' => ∃ dn rem : List Bool, ws = [] ∧ xs = (rem.map fun sd => .int (sI sd)) ∧ [false, true] = dn ++ rem ∧ G' = [] ∧ ∀ sd ∈ dn, sideOk S w (P.side sd) (P.nums sd) = true)
    ⟨[], _, ⟨[], [false, true], rfl, rfl, rfl, rfl, (by simp)⟩, by ac_rfl; subst_eqs, List.Sublist.refl _⟩ ?_ ?_ ?_
  · rintro xs ws G' ⟨_, _, rfl, _, _, rfl, _⟩; exact GrdOk.nil
  · rintro x xs ws G' ⟨dn, rem, rfl, hx, hd, rfl, hdn⟩
    cases rem with
    | nil => cases hx
    | cons sd rem =>
      simp only [List.map_cons, List.cons.injEq] at hx
      obtain ⟨rfl, rfl⟩ := hx
      ac_rfl
      refine JG_n ?_
      clean_wf
      unfold lcA
      rw [show P.d = .tuple [hiD P.lo, hiD P.hi, .tuple (P.one.map natD), .tuple (P.two.map natD)] from rfl]
      and_intros
      refine JO_ixT (ix_side P sd) ?_
      and_intros
      refine JO_ixT (ix_nums P sd) ?_
      and_intros
      refine need_side_c hS (hbs sd) (hbn sd) (fun hk => ?_) fun hk fs G' => ?_
      · and_intros
        refine ⟨_, _, ⟨[], rfl, dn ++ [sd], rem, rfl, rfl, by simp [hd], rfl, fun sd' h => ?_⟩, by ac_rfl; subst_eqs, List.Sublist.refl _⟩
        rcases List.mem_append.mp h with h | h
        · exact hdn sd' h
        · rw [List.mem_singleton.mp h]; exact hk
      · and_intros
        refine qx ?_ fs _
        unfold letsB
        cases sd
        · rw [show sideOk S w P.lo P.one = false from hk]; rfl
        · rw [show sideOk S w P.hi P.two = false from hk]; simp
  rintro ws G' ⟨dn, rem, rfl, hx, hd, rfl, hdn⟩
  have hrem : rem = [] := by
    cases rem with
    | nil => rfl
    | cons _ _ => cases hx
  rw [hrem, List.append_nil] at hd
  subst hd
  have s1 := hdn false (by simp)
  have s2 := hdn true (by simp)
  ac_rfl
  and_intros
  rw [show ([PyData.int 0, .int 1] : List D) = [false, true].map fun sd => .int (sI sd) from rfl]
  refine JS_forV [4] [] (fun xs ws G' => ∃ dn rem : List Bool, ws = [] ∧ xs = (rem.map fun sd => .int (sI sd)) ∧ [false, true] = dn ++ rem ∧ G' = [] ∧ ∀ sd ∈ dn, bey S w sd (P.side sd) = false)
    ⟨[], _, ⟨[], [false, true], rfl, rfl, rfl, rfl, (by simp)⟩, by ac_rfl; subst_eqs, List.Sublist.refl _⟩ ?_ ?_ ?_
  · rintro xs ws G' ⟨_, _, rfl, _, _, rfl, _⟩; exact GrdOk.nil
  · rintro x xs ws G' ⟨dn, rem, rfl, hx, hd, rfl, hdn⟩
    cases rem with
    | nil => cases hx
    | cons sd rem =>
      simp only [List.map_cons, List.cons.injEq] at hx
      obtain ⟨rfl, rfl⟩ := hx
      ac_rfl
      refine JG_n ?_
      clean_wf
      unfold lcB
      rw [show P.d = .tuple [hiD P.lo, hiD P.hi, .tuple (P.one.map natD), .tuple (P.two.map natD)] from rfl]
      and_intros
      refine JO_ixT (ix_side P sd) ?_
      and_intros
      refine is_beyond_c hS (hbs sd) ?_
      and_intros
      refine need_b (fun hk => ?_) fun hk fs => ?_
      · and_intros
        refine ⟨_, _, ⟨[], rfl, dn ++ [sd], rem, rfl, rfl, by simp [hd], rfl, fun sd' h => ?_⟩, by ac_rfl; subst_eqs, List.Sublist.refl _⟩
        rcases List.mem_append.mp h with h | h
        · exact hdn sd' h
        · rw [List.mem_singleton.mp h]; simpa [truD] using hk
      · and_intros
        refine qx ?_ fs _
        have hk : bey S w sd (P.side sd) = true := by simpa [truD] using hk
        unfold letsB
        cases sd
        · rw [show bey S w false P.lo = true from hk]; simp
        · rw [show bey S w true P.hi = true from hk]; simp
  rintro ws G' ⟨dn, rem, rfl, hx, hd, rfl, hdn⟩
  have hrem : rem = [] := by
    cases rem with
    | nil => rfl
    | cons _ _ => cases hx
  rw [hrem, List.append_nil] at hd
  subst hd
  have t1 := hdn false (by simp)
  have t2 := hdn true (by simp)
  ac_rfl
  rw [show P.d = .tuple [hiD P.lo, hiD P.hi, .tuple (P.one.map natD), .tuple (P.two.map natD)] from rfl]
  and_intros
  rw [cut_a]
  refine ⟨[], by false_or_by_contra, ?_⟩
  rw [List.append_nil]
  refine q ?_
  unfold letsB
  rw [show sideOk S w P.lo P.one = true from s1, show sideOk S w P.hi P.two = true from s2, show bey S w false P.lo = false from t1, show bey S w true P.hi = false from t2]
  rfl
/-- the law's own question -/
theorem l_let_c {u : Int} (hS : SpOk S) (hP : PpOk P) (hw : (S.length : Int) - u = w) (q : K (.d (if letsB S w P then .tuple [hiD P.lo, hiD P.hi] else .none)) G) : JC G F_l_let [.d (.tuple (S.map Pr.d)), .d P.d, .d (.int u)] K X := by
  refine JC_frame0 (JC_less ?_)
  apply JC_runB
  unfold m_l_let
  show JS [some (.d (.tuple (S.map Pr.d))), some (.d P.d), some (.d (.int u)), none] [] _ _
  and_intros
  refine lets_cover_c hS hP hw (fun h => ?_) fun h fs G' => ?_
  · and_intros
    rw [h] at q
    exact ⟨[], by false_or_by_contra, by rw [List.append_nil]; exact q⟩
  · refine .inl ⟨by decide, ?_⟩
    and_intros
    rw [h] at q
    exact ⟨[], by false_or_by_contra, by rw [List.append_nil]; exact q⟩
end
end Lw

namespace Lw
open PySem L2 DL PyProof.Rows
/-! ### what is let by is what is told -/
theorem rises_sub {n : Nat} : ∀ {L : List Nat} {a : Nat}, rises n ((a : Int) - 1) L = true → L.Sublist (List.range' a (n - a))
  | [], _, _ => List.nil_sublist _
  | k :: ks, a, h => by
    unfold rises at h
    simp only [Bool.and_eq_true, decide_eq_true_eq] at h
    obtain ⟨⟨h1, h2⟩, h3⟩ := h
    have ih := rises_sub (L := ks) (a := k + 1) (by rw [show (((k + 1 : Nat) : Int) - 1) = (k : Int) by omega]; exact h3)
    have e : List.range' a (n - a) = List.range' a (k - a) ++ (k :: List.range' (k + 1) (n - (k + 1))) := by
      rw [← List.range'_succ, show n - (k + 1) + 1 = n - k by omega]
      have := List.range'_append_1 (s := a) (m := k - a) (n := n - k)
      rw [show a + (k - a) = k by omega, show k - a + (n - k) = n - a by omega] at this
      exact this.symm
    rw [e]
    exact (List.Sublist.cons₂ k ih).trans (List.sublist_append_right _ _)
theorem rises_of {n : Nat} : ∀ {L : List Nat} {l : Int}, L.Pairwise (· < ·) → (∀ k ∈ L, l < (k : Int) ∧ k < n) → rises n l L = true
  | [], _, _, _ => rfl
  | k :: ks, l, hp, h => by
    obtain ⟨h1, h2⟩ := h k List.mem_cons_self
    obtain ⟨p1, p2⟩ := List.pairwise_cons.mp hp
    unfold rises
    rw [rises_of p2 fun j hj => ⟨by have := p1 j hj; omega, (h j (List.mem_cons_of_mem _ hj)).2⟩, decide_eq_true h1, decide_eq_true h2]
    rfl
section
variable {S : List Pr} {w : Int} {o : OI} {L : List Nat} {P : Pp} {e : Int}
theorem numN_mem {k : Nat} : k ∈ numN S e ↔ k < S.length ∧ inP e (prOf S k) = true := by
  unfold numN
  rw [List.mem_filter, List.mem_range]
theorem numN_pw : (numN S e).Pairwise (· < ·) := List.Pairwise.filter _ List.pairwise_lt_range
theorem side_cnt (h : sideOk S w (some e) L = true) : w ≤ (cnt S e : Int) := by
  unfold sideOk enough at h
  simp only [Bool.and_eq_true, Bool.or_eq_true, decide_eq_true_eq, Option.isNone_some, Bool.false_eq_true, false_or] at h
  obtain ⟨⟨h1, h2⟩, h3⟩ := h
  have hs : L.Sublist (List.range S.length) := by
    have := rises_sub (n := S.length) (L := L) (a := 0) h1
    rw [List.range_eq_range']
    exact this
  have hf : L.filter (fun k => inP e (prOf S k)) = L := List.filter_eq_self.mpr fun k hk => List.all_eq_true.mp h2 k hk
  have hs2 := hs.filter fun k => inP e (prOf S k)
  rw [hf] at hs2
  have := hs2.length_le
  rw [show ((List.range S.length).filter fun k => inP e (prOf S k)).length = cnt S e from numN_len S e] at this
  omega
theorem lo_told (h : sideOk S w o L = true) (hb : bey S w false o = false) : w ≤ topC S ∧ o = (byP S w).lo := by
  unfold bey at hb
  cases o with
  | none =>
    by_cases hc : w ≤ (cnt S (awayP S false) : Int)
    · refine ⟨topC_of hc, ?_⟩
      have e : (byP S w).lo = none := if_pos hc
      rw [e]
    · rw [if_neg hc] at hb; cases hb
  | some e =>
    have hcnt := side_cnt h
    refine ⟨topC_of hcnt, ?_⟩
    by_cases hc : w ≤ (cnt S (awayP S false) : Int)
    · rw [if_pos hc] at hb; cases hb
    · rw [if_neg hc] at hb
      have e1 : (byP S w).lo = some (leastO (heldP S w)) := if_neg hc
      rw [e1]
      have hfar : ∀ q ∈ heldP S w, e ≤ q := fun q hq => by
        have := List.any_eq_false.mp hb q hq
        simpa [fur] using this
      congr 1
      rcases down (S := S) e with h1 | ⟨e', h1, h2, h3⟩
      · exact absurd (show w ≤ (cnt S (awayP S false) : Int) by have : cnt S (awayP S false) = cnt S (belowP S) := rfl; omega) hc
      · have he : e' ∈ heldP S w := held_mem.mpr ⟨h1, by omega⟩
        have g1 := hfar _ (leastO_mem (fun z => by rw [z] at he; cases he))
        have g2 := leastO_le he
        omega
theorem hi_told (h : sideOk S w o L = true) (hb : bey S w true o = false) : w ≤ topC S ∧ o = (byP S w).hi := by
  unfold bey at hb
  cases o with
  | none =>
    by_cases hc : w ≤ (cnt S (awayP S true) : Int)
    · refine ⟨topC_of hc, ?_⟩
      have e : (byP S w).hi = none := if_pos hc
      rw [e]
    · rw [if_neg hc] at hb; cases hb
  | some e =>
    have hcnt := side_cnt h
    refine ⟨topC_of hcnt, ?_⟩
    by_cases hc : w ≤ (cnt S (awayP S true) : Int)
    · rw [if_pos hc] at hb; cases hb
    · rw [if_neg hc] at hb
      have e1 : (byP S w).hi = some (mostO (heldP S w)) := if_neg hc
      rw [e1]
      have hfar : ∀ q ∈ heldP S w, q ≤ e := fun q hq => by
        have := List.any_eq_false.mp hb q hq
        simpa [fur] using this
      congr 1
      rcases up (S := S) e with h1 | ⟨e', h1, h2, h3⟩
      · exact absurd (show w ≤ (cnt S (awayP S true) : Int) by have : cnt S (awayP S true) = cnt S (aboveP S) := rfl; omega) hc
      · have he : e' ∈ heldP S w := held_mem.mpr ⟨h1, by omega⟩
        have g1 := hfar _ (mostO_mem (fun z => by rw [z] at he; cases he))
        have g2 := mostO_ge he
        omega
/-- what is let by is told -/
theorem lets_told (h : letsB S w P = true) : w ≤ topC S ∧ P.lo = (byP S w).lo ∧ P.hi = (byP S w).hi := by
  unfold letsB at h
  simp only [Bool.and_eq_true, Bool.not_eq_true'] at h
  obtain ⟨⟨⟨h1, h2⟩, h3⟩, h4⟩ := h
  exact ⟨(lo_told h1 h3).1, (lo_told h1 h3).2, (hi_told h2 h4).2⟩
theorem side_of (hL : ∀ e, o = some e → L.Sublist (numN S e) ∧ w ≤ (L.length : Int)) (hn : o = none → L = []) : sideOk S w o L = true := by
  unfold sideOk enough
  cases o with
  | none => rw [hn rfl]; rfl
  | some e =>
    obtain ⟨h1, h2⟩ := hL e rfl
    rw [rises_of (numN_pw.sublist h1) fun k hk => ⟨by omega, (numN_mem.mp (h1.subset hk)).1⟩, decide_eq_true h2, show L.all (holdN S (some e)) = true from List.all_eq_true.mpr fun k hk => (numN_mem.mp (h1.subset hk)).2]
    rfl
/-- what is told is let by, with as many numbers as are wanted -/
theorem told_lets (hw : w ≤ topC S) {L1 L2 : List Nat} (h1 : ∀ e, (byP S w).lo = some e → L1.Sublist (numN S e) ∧ w ≤ (L1.length : Int)) (n1 : (byP S w).lo = none → L1 = []) (h2 : ∀ e, (byP S w).hi = some e → L2.Sublist (numN S e) ∧ w ≤ (L2.length : Int)) (n2 : (byP S w).hi = none → L2 = []) : letsB S w ⟨(byP S w).lo, (byP S w).hi, L1, L2⟩ = true := by
  obtain ⟨p, hp⟩ := topC_mem (S := S)
  unfold letsB
  simp only
  rw [side_of h1 n1, side_of h2 n2]
  have b1 : bey S w false (byP S w).lo = false := by
    unfold bey
    by_cases hc : w ≤ (cnt S (awayP S false) : Int)
    · rw [if_pos hc, show (byP S w).lo = none from if_pos hc]; rfl
    · rw [if_neg hc, show (byP S w).lo = some (leastO (heldP S w)) from if_neg hc]
      refine List.any_eq_false.mpr fun q hq => ?_
      have := leastO_le hq
      simp [fur]; omega
  have b2 : bey S w true (byP S w).hi = false := by
    unfold bey
    by_cases hc : w ≤ (cnt S (awayP S true) : Int)
    · rw [if_pos hc, show (byP S w).hi = none from if_pos hc]; rfl
    · rw [if_neg hc, show (byP S w).hi = some (mostO (heldP S w)) from if_neg hc]
      refine List.any_eq_false.mpr fun q hq => ?_
      have := mostO_ge hq
      simp [fur]; omega
  rw [b1, b2]
  rfl
end
end Lw

namespace Lw
open PySem L2 DL PyProof.Rows
theorem SpB.bd {s : Pr} (h : SpB s) : Bd (2 ^ 38) s.lo ∧ Bd (2 ^ 38) s.hi := ⟨h.1.mono (by omega), h.2.mono (by omega)⟩
theorem spOk_of {S : List Pr} (h : ∀ s ∈ S, SpB s) (hl : S.length ≤ 30) : SpOk S := ⟨hl, fun s hs => (h s hs).bd⟩
theorem good_sps {S : List Pr} (h : ∀ s ∈ S, SpB s) (hl : S.length ≤ 100) : Good 10 1000000 (.list (S.map Pr.d)) :=
  (goodA_mapL (L := 100) (fun p hp => good_pr (p := p) (h p hp).bd.1 (h p hp).bd.2) hl).lst.mono (by omega) (by omega)
theorem byP_bd {S : List Pr} {w p : Int} (hS : SpOk S) (hp : w ≤ (cnt S p : Int)) : Bd (2 ^ 38) (byP S w).lo ∧ Bd (2 ^ 38) (byP S w).hi := by
  refine ⟨fun l hl => ?_, fun l hl => ?_⟩
  · have := ends_bd hS (held_mem.mp (by_lo hp hl).2).1; omega
  · have := ends_bd hS (held_mem.mp (by_hi hp hl).2).1; omega
theorem byP_b20 {S : List Pr} {w : Int} (hS : ∀ s ∈ S, SpB s) (hw : w ≤ topC S) : Bd (2 ^ 20) (byP S w).lo ∧ Bd (2 ^ 20) (byP S w).hi := by
  obtain ⟨p, hp⟩ := topC_mem (S := S)
  have hp : w ≤ (cnt S p : Int) := by omega
  have hb : ∀ e ∈ ends S, -2 ^ 20 ≤ e ∧ e ≤ 2 ^ 20 := fun e he => by
    obtain ⟨s, hs, h⟩ := List.mem_flatMap.mp he
    obtain ⟨h1, h2⟩ := hS s hs
    unfold endsP at h
    rcases List.mem_append.mp h with h | h
    · exact h1 e (Option.mem_toList.mp h)
    · exact h2 e (Option.mem_toList.mp h)
  exact ⟨fun l hl => hb l (held_mem.mp (by_lo hp hl).2).1, fun l hl => hb l (held_mem.mp (by_hi hp hl).2).1⟩
/-- the numbers of an end -/
def numO (S : List Pr) : OI → List Nat
  | none => []
  | some e => numN S e
noncomputable def covP (S : List Pr) (w : Int) : Pp := ⟨(byP S w).lo, (byP S w).hi, numO S (byP S w).lo, numO S (byP S w).hi⟩
theorem numO_len {S : List Pr} (o : OI) : (numO S o).length ≤ S.length := by
  cases o with
  | none => exact Nat.zero_le _
  | some e =>
    show (numN S e).length ≤ _
    unfold numN
    have := List.length_filter_le (fun k => inP e (prOf S k)) (List.range S.length)
    rw [List.length_range] at this
    exact this
theorem covP_ok {S : List Pr} {w : Int} (hS : ∀ s ∈ S, SpB s) (hl : S.length ≤ 30) (hw : w ≤ topC S) : PpOk (covP S w) := by
  obtain ⟨h1, h2⟩ := byP_b20 hS hw
  exact ⟨h1, h2, by have := numO_len (S := S) (byP S w).lo; show (numO S (byP S w).lo).length ≤ 100; omega, by have := numO_len (S := S) (byP S w).hi; show (numO S (byP S w).hi).length ≤ 100; omega⟩
section
variable {ns : List Int} {j p : Nat} {c : Cell} {G : Sg} {K : W → Sg → Prop} {X : XK'} {S O : List Pr} {w u : Int} {P : Pp} {Q : OA → Prop}
theorem cover_c (hS : SpOk S) (hw : (S.length : Int) - u = w) (ht : w ≤ topC S) (q : K (.d (covP S w).d) G) : JC G F_cover_paper [.d (.tuple (S.map Pr.d)), .d (.int u)] K X := by
  obtain ⟨r, hr⟩ := topC_mem (S := S)
  have hr : w ≤ (cnt S r : Int) := by omega
  obtain ⟨bl, bh⟩ := byP_bd hS hr
  refine JC_frame0 (JC_less ?_)
  apply JC_runB
  unfold m_cover_paper
  show JS [some (.d (.tuple (S.map Pr.d))), some (.d (.int u)), none, none, none, none] [] _ _
  and_intros
  refine by_c hS hw hr ?_
  unfold covP at q
  generalize byP S w = B at q bl bh
  obtain ⟨lo, hi⟩ := B
  unfold Pr.d
  and_intros
  rw [show ([hiD lo, hiD hi] : List D) = [lo, hi].map hiD from rfl]
  refine J_lcM [lo, hi] hiD (fun o => .tuple ((numO S o).map natD)) rfl (by simp; decide) GrdOk.nil (fun o ho => ?_) ?_
  · have hb : Bd (2 ^ 38) o := by
      simp only [List.mem_cons, List.not_mem_nil, or_false] at ho
      rcases ho with rfl | rfl <;> assumption
    refine JG_n ?_
    clean_wf
    and_intros
    cases o with
    | none =>
      refine ⟨fun _ => ?_, (fun h => nomatch h)⟩
      and_intros
    | some e =>
      have := hb e rfl
      refine ⟨(fun h => nomatch h), fun _ => ?_⟩
      and_intros
      refine numbers_x hS (by omega) ?_
      and_intros
  and_intros
  refine ⟨[], by false_or_by_contra, ?_⟩
  rw [List.append_nil]
  exact q
end
end Lw

namespace Lw
open PySem L2 DL PyProof.Rows
/-! ### the law -/
noncomputable def cvB : Fs := (sIf (dIsT (dBin gNotN (dCall F_l_told (dCons (dVar 8) (dCons (dVar 9) dNil))) (dC .none)))
    (sDrop (dMt gApp (dVar 7) (dCons (dCallW F_cover_paper (dCons (dVar 8) dNil) (dVar 9)) dNil)))
    sNx)
noncomputable def drC : Fs := (sSeq (sDrop (dMt gApp (dVar 7) (dCons (dTup (dCons (dVar 11) (dCons (dVar 12) (dCons (dSl (dVar 13) (oSome (dCall F_l_draw (dCons (dVar 1) (dCons (dC (.int 2)) dNil)))) oNone) (dCons (dVar 14) dNil))))) dNil)))
    (sSeq (sDrop (dMt gApp (dVar 7) (dCons (dTup (dCons (dVar 11) (dCons (dVar 12) (dCons (dIf (dIsT (dBin gIsN (dVar 11) (dC .none))) (dTup dNil) (dCB gTuple (dCons (dCall F_l_in (dCons (dVar 3) (dCons (dVar 11) dNil))) dNil))) (dCons (dVar 14) dNil))))) dNil)))
    (sDrop (dMt gApp (dVar 7) (dCons (dTup (dCons (dVar 11) (dCons (dVar 12) (dCons (dVar 13) (dCons (dIf (dIsT (dBin gIsN (dVar 12) (dC .none))) (dTup dNil) (dCB gTuple (dCons (dCall F_l_in (dCons (dVar 3) (dCons (dVar 12) dNil))) dNil))) dNil))))) dNil)))))
noncomputable def drB : Fs := (sSeq (sAsg (dBin gIx (dVar 7) (dCall F_l_draw (dCons (dVar 1) (dCons (dCB gLen (dCons (dVar 7) dNil)) dNil)))) (gT 4 (gsCons (gN 11) (gsCons (gN 12) (gsCons (gN 13) (gsCons (gN 14) gsNil))))))
    (sSeq (sAsg (dBin gIx (dData (dLst (dCons (dVar 11) (dCons (dVar 11) (dCons (dC .none) (dCons (dCall F_l_point (dCons (dVar 1) dNil)) dNil)))))) (dCall F_l_draw (dCons (dVar 1) (dCons (dC (.int 4)) dNil)))) (gN 11))
    (sSeq (sAsg (dBin gIx (dData (dLst (dCons (dVar 12) (dCons (dVar 12) (dCons (dC .none) (dCons (dCall F_l_point (dCons (dVar 1) dNil)) dNil)))))) (dCall F_l_draw (dCons (dVar 1) (dCons (dC (.int 4)) dNil)))) (gN 12))
    drC)))
noncomputable def lkB : Fs := (sSeq (sAsg (dCall F_l_let (dCons (dVar 3) (dCons (dVar 15) (dCons (dVar 5) dNil)))) (gN 16))
    (sIf (dAndT (dIsT (dBin gNotN (dVar 16) (dC .none))) (dIsT (dBin gNe (dVar 16) (dVar 6))))
    (sRet (dC (.bool false)))
    sNx))
noncomputable def fnB : Fs := (sSeq (sAsg (dCallW F_cover_paper (dCons (dVar 3) dNil) (dVar 5)) (gT 4 (gsCons (gN 11) (gsCons (gN 12) (gsCons (gN 13) (gsCons (gN 14) gsNil))))))
    (sSeq (sAsg (dCB gMax2I (dCons (dC (.int 0)) (dCons (dBin gSub (dCB gLen (dCons (dVar 3) dNil)) (dVar 5)) dNil))) (gN 17))
    (sSeq (sAsg (dIf (dIsT (dBin gNotN (dVar 11) (dC .none))) (dSl (dVar 13) (oSome (dBin gSub (dCB gLen (dCons (dVar 13) dNil)) (dVar 17))) oNone) (dTup dNil)) (gN 13))
    (sSeq (sAsg (dIf (dIsT (dBin gNotN (dVar 12) (dC .none))) (dSl (dVar 14) oNone (oSome (dVar 17))) (dTup dNil)) (gN 14))
    (sIf (dIsT (dBin gNe (dCall F_l_let (dCons (dVar 3) (dCons (dTup (dCons (dVar 11) (dCons (dVar 12) (dCons (dVar 13) (dCons (dVar 14) dNil))))) (dCons (dVar 5) dNil)))) (dVar 6)))
    (sRet (dC (.bool false)))
    sNx)))))
noncomputable def ltB : Fs := (sSeq (sPar 3 4 (dCons (dCall F_l_spans (dCons (dVar 1) (dCons (dC (.int 8)) dNil))) (dCons (dCall F_l_spans (dCons (dVar 1) (dCons (dC (.int 8)) dNil))) dNil)))
    (sSeq (sAsg (dCall F_l_draw (dCons (dVar 1) (dCons (dBin gAdd (dCB gLen (dCons (dVar 3) dNil)) (dC (.int 1))) dNil))) (gN 5))
    (sSeq (sPar 6 7 (dCons (dCall F_l_told (dCons (dVar 3) (dCons (dVar 5) dNil))) (dCons (dCell (dLst dNil)) dNil)))
    (sSeq (sFor (iSeq (dData (dLst (dCons (dTup (dCons (dVar 3) (dCons (dVar 5) dNil))) (dCons (dTup (dCons (dVar 4) (dCons (dVar 5) dNil))) (dCons (dTup (dCons (dVar 3) (dCons (dBin gAdd (dVar 5) (dC (.int 1))) dNil))) (dCons (dTup (dCons (dVar 3) (dCons (dCB gLen (dCons (dVar 3) dNil)) dNil))) dNil))))))) (gT 2 (gsCons (gN 8) (gsCons (gN 9) gsNil))) cvB)
    (sSeq (sFor (iRange1 (dC (.int 6))) (gN 10) drB)
    (sSeq (sFor (iSeq (dVar 7)) (gN 15) lkB)
    (sIf (dIsT (dBin gNotN (dVar 6) (dC .none))) fnB sNx)))))))
theorem law_is : m_law = (sSeq (sAsg (dCall F_l_tape (dCons (dVar 0) dNil)) (gN 1)) (sSeq (sFor (iRange1 (dC (.int 4))) (gN 2) ltB) (sRet (dC (.bool true))))) := rfl
section
variable {ns : List Int} {j p : Nat} {c : Cell} {G : Sg} {K : W → Sg → Prop} {X : XK'} {S O : List Pr} {w u : Int} {P : Pp} {Q : OA → Prop} {PL : List Pp} {a7 : Nat}
theorem told_isN : isNone (toldD S w) = !decide (w ≤ topC S) := by
  unfold toldD
  by_cases h : w ≤ topC S
  · rw [if_pos h, decide_eq_true h]; rfl
  · rw [if_neg h, decide_eq_false h]; rfl
theorem cv_c {V0 V2 V3 V4 V5 V6 V10 V11 V12 V13 V14 V15 V16 V17 : Option W} (hS : ∀ s ∈ S, SpB s) (hl : S.length ≤ 30) (hu : 0 ≤ u ∧ u ≤ 30) (hp : PL.length ≤ 50)
    (q : ∀ PL', (PL' = PL ∧ ¬ (S.length : Int) - u ≤ topC S) ∨ (PL' = PL ++ [covP S ((S.length : Int) - u)] ∧ PpOk (covP S ((S.length : Int) - u))) → Q (.nx [V0, some (.c p), V2, V3, V4, V5, V6, some (.c a7), some (.d (.tuple (S.map Pr.d))), some (.d (.int u)), V10, V11, V12, V13, V14, V15, V16, V17] [(p, c), (a7, .lst (PL'.map Pp.d))])) :
    JS [V0, some (.c p), V2, V3, V4, V5, V6, some (.c a7), some (.d (.tuple (S.map Pr.d))), some (.d (.int u)), V10, V11, V12, V13, V14, V15, V16, V17] [(p, c), (a7, .lst (PL.map Pp.d))] cvB Q := by
  have hSo := spOk_of hS hl
  unfold cvB
  and_intros
  refine l_told_c hSo rfl ?_
  and_intros
  rw [told_isN]
  by_cases h : (S.length : Int) - u ≤ topC S
  · rw [decide_eq_true h]
    refine ⟨fun _ => ?_, (fun h => nomatch h)⟩
    and_intros
    refine cover_c hSo rfl h ?_
    and_intros
    rw [show PL.map Pp.d ++ [(covP S ((S.length : Int) - u)).d] = (PL ++ [covP S ((S.length : Int) - u)]).map Pp.d by rw [List.map_append]; rfl]
    exact q _ (.inr ⟨rfl, covP_ok hS hl h⟩)
  · rw [decide_eq_false h]
    refine ⟨(fun h => nomatch h), fun _ => ?_⟩
    and_intros
    exact q _ (.inl ⟨rfl, h⟩)
end
end Lw

namespace Lw
open PySem L2 DL PyProof.Rows
/-! ### the law -/
theorem cutD_drop {α : Type} (xs : List α) (n : Nat) : DL.cutD xs (some (n : Int)) none = xs.drop n := by
  unfold DL.cutD
  rw [HT.sIx_none, HT.sIx_nat]
  by_cases h : n ≤ xs.length
  · rw [Nat.min_eq_left h, List.take_of_length_le (by rw [List.length_drop]; omega)]
  · rw [Nat.min_eq_right (by omega), List.drop_eq_nil_of_le (Nat.le_refl _), List.drop_eq_nil_of_le (by omega), List.take_nil]
section
variable {ns : List Int} {j p : Nat} {c : Cell} {G : Sg} {K : W → Sg → Prop} {X : XK'} {S O : List Pr} {w u : Int} {P : Pp} {Q : OA → Prop} {PL : List Pp} {a7 : Nat}
noncomputable def drE : Fs := (sDrop (dMt gApp (dVar 7) (dCons (dTup (dCons (dVar 11) (dCons (dVar 12) (dCons (dIf (dIsT (dBin gIsN (dVar 11) (dC .none))) (dTup dNil) (dCB gTuple (dCons (dCall F_l_in (dCons (dVar 3) (dCons (dVar 11) dNil))) dNil))) (dCons (dVar 14) dNil))))) dNil)))
noncomputable def drD : Fs := (sDrop (dMt gApp (dVar 7) (dCons (dTup (dCons (dVar 11) (dCons (dVar 12) (dCons (dVar 13) (dCons (dIf (dIsT (dBin gIsN (dVar 12) (dC .none))) (dTup dNil) (dCB gTuple (dCons (dCall F_l_in (dCons (dVar 3) (dCons (dVar 12) dNil))) dNil))) dNil))))) dNil)))
theorem drC_is : drC = (sSeq (sDrop (dMt gApp (dVar 7) (dCons (dTup (dCons (dVar 11) (dCons (dVar 12) (dCons (dSl (dVar 13) (oSome (dCall F_l_draw (dCons (dVar 1) (dCons (dC (.int 2)) dNil)))) oNone) (dCons (dVar 14) dNil))))) dNil))) (sSeq drE drD)) := rfl
theorem papp (o1 o2 : OI) (L1 L2 : List Nat) : PL.map Pp.d ++ [.tuple [hiD o1, hiD o2, .tuple (L1.map natD), .tuple (L2.map natD)]] = (PL ++ [Pp.mk o1 o2 L1 L2]).map Pp.d := by rw [List.map_append]; rfl
theorem drE_c {o1 o2 : OI} {L1 L2 : List Nat} {V0 V2 V4 V5 V6 V8 V9 V10 V15 V16 V17 : Option W} (hS : SpOk S) (ho : Bd (2 ^ 38) o1) (hp : PL.length ≤ 60)
    (q : seqQ drD Q (.nx [V0, some (.c p), V2, some (.d (.tuple (S.map Pr.d))), V4, V5, V6, some (.c a7), V8, V9, V10, some (.d (hiD o1)), some (.d (hiD o2)), some (.d (.tuple (L1.map natD))), some (.d (.tuple (L2.map natD))), V15, V16, V17] [(p, c), (a7, .lst ((PL ++ [Pp.mk o1 o2 (numO S o1) L2]).map Pp.d))])) :
    JS [V0, some (.c p), V2, some (.d (.tuple (S.map Pr.d))), V4, V5, V6, some (.c a7), V8, V9, V10, some (.d (hiD o1)), some (.d (hiD o2)), some (.d (.tuple (L1.map natD))), some (.d (.tuple (L2.map natD))), V15, V16, V17] [(p, c), (a7, .lst (PL.map Pp.d))] drE (seqQ drD Q) := by
  generalize hR : seqQ drD Q = R at q
  unfold drE
  and_intros
  cases o1 with
  | none =>
    refine ⟨fun _ => ?_, (fun h => nomatch h)⟩
    and_intros
    rw [show (.tuple [] : D) = .tuple ((numO S none).map natD) from rfl, papp]
    exact q
  | some e =>
    have := ho e rfl
    refine ⟨(fun h => nomatch h), fun _ => ?_⟩
    and_intros
    refine l_in_c hS (by omega) ?_
    and_intros
    rw [show (numN S e) = numO S (some e) from rfl, papp]
    exact q
theorem drD_c {o1 o2 : OI} {L1 L2 : List Nat} {V0 V2 V4 V5 V6 V8 V9 V10 V15 V16 V17 : Option W} (hS : SpOk S) (ho : Bd (2 ^ 38) o2) (hp : PL.length ≤ 60)
    (q : Q (.nx [V0, some (.c p), V2, some (.d (.tuple (S.map Pr.d))), V4, V5, V6, some (.c a7), V8, V9, V10, some (.d (hiD o1)), some (.d (hiD o2)), some (.d (.tuple (L1.map natD))), some (.d (.tuple (L2.map natD))), V15, V16, V17] [(p, c), (a7, .lst ((PL ++ [Pp.mk o1 o2 L1 (numO S o2)]).map Pp.d))])) :
    JS [V0, some (.c p), V2, some (.d (.tuple (S.map Pr.d))), V4, V5, V6, some (.c a7), V8, V9, V10, some (.d (hiD o1)), some (.d (hiD o2)), some (.d (.tuple (L1.map natD))), some (.d (.tuple (L2.map natD))), V15, V16, V17] [(p, c), (a7, .lst (PL.map Pp.d))] drD Q := by
  unfold drD
  and_intros
  cases o2 with
  | none =>
    refine ⟨fun _ => ?_, (fun h => nomatch h)⟩
    and_intros
    rw [show (.tuple [] : D) = .tuple ((numO S none).map natD) from rfl, papp]
    exact q
  | some e =>
    have := ho e rfl
    refine ⟨(fun h => nomatch h), fun _ => ?_⟩
    and_intros
    refine l_in_c hS (by omega) ?_
    and_intros
    rw [show (numN S e) = numO S (some e) from rfl, papp]
    exact q
theorem dr_c {V0 V2 V4 V5 V6 V8 V9 V10 V11 V12 V13 V14 V15 V16 V17 : Option W} (h : Tp ns j c) (hj : j ≤ 10 ^ 5) (hS : ∀ s ∈ S, SpB s) (hl : S.length ≤ 30) (hp : PL.length ≤ 50) (hne : PL ≠ []) (hPL : ∀ P ∈ PL, PpOk P)
    (q : ∀ c' (PL' : List Pp) V11' V12' V13' V14', Tp ns (j + 10) c' → PL'.length = PL.length + 3 → (∀ P ∈ PL', PpOk P) → Q (.nx [V0, some (.c p), V2, some (.d (.tuple (S.map Pr.d))), V4, V5, V6, some (.c a7), V8, V9, V10, V11', V12', V13', V14', V15, V16, V17] [(p, c'), (a7, .lst (PL'.map Pp.d))])) :
    JS [V0, some (.c p), V2, some (.d (.tuple (S.map Pr.d))), V4, V5, V6, some (.c a7), V8, V9, V10, V11, V12, V13, V14, V15, V16, V17] [(p, c), (a7, .lst (PL.map Pp.d))] drB Q := by
  have hSo := spOk_of hS hl
  have hPl : 1 ≤ PL.length := List.length_pos_iff.mpr hne
  unfold drB
  and_intros
  rw [List.length_map]
  refine draw_c 0 has0 h (by omega) (by omega) (by omega) fun r1 c1 h1 r10 r11 => ?_
  and_intros
  refine JO_ixMC 1 has1 r10 (by omega) fun P hP _ => ?_
  obtain ⟨b1, b2, b3, b4⟩ := hPL P hP
  obtain ⟨lo, hi, one, two⟩ := P
  simp only at b1 b2 b3 b4
  rw [show (Pp.mk lo hi one two).d = .tuple [hiD lo, hiD hi, .tuple (one.map natD), .tuple (two.map natD)] from rfl]
  and_intros
  refine point_c 0 has0 h1 (by omega) fun c2 x h2 x0 x1 => ?_
  and_intros
  refine draw_c 0 has0 h2 (by omega) (by decide) (by decide) fun r2 c3 h3 r20 r21 => ?_
  clean_wf
  rw [show ([hiD lo, hiD lo, .none, tD x] : List D) = [lo, lo, none, some x].map hiD from rfl]
  refine JO_ixM r20 r21 fun o1 ho1 _ => ?_
  and_intros
  refine point_c 0 has0 h3 (by omega) fun c4 y h4 y0 y1 => ?_
  and_intros
  refine draw_c 0 has0 h4 (by omega) (by decide) (by decide) fun r3 c5 h5 r30 r31 => ?_
  clean_wf
  rw [show ([hiD hi, hiD hi, .none, tD y] : List D) = [hi, hi, none, some y].map hiD from rfl]
  refine JO_ixM r30 r31 fun o2 ho2 _ => ?_
  have k1 : Bd (2 ^ 20) o1 := by
    simp only [List.mem_cons, List.not_mem_nil, or_false] at ho1
    rcases ho1 with rfl | rfl | rfl | rfl <;> first | assumption | exact Bd.none | exact Bd.some (by omega)
  have k2 : Bd (2 ^ 20) o2 := by
    simp only [List.mem_cons, List.not_mem_nil, or_false] at ho2
    rcases ho2 with rfl | rfl | rfl | rfl <;> first | assumption | exact Bd.none | exact Bd.some (by omega)
  rw [drC_is]
  and_intros
  refine draw_c 0 has0 h5 (by omega) (by decide) (by decide) fun r4 c6 h6 r40 r41 => ?_
  obtain ⟨n, rfl⟩ := Int.eq_ofNat_of_zero_le r40
  and_intros
  rw [cutD_drop, ← List.map_drop, papp o1 o2 (one.drop n) two]
  refine drE_c hSo (k1.mono (by omega)) (by simp only [List.length_append, List.length_cons, List.length_nil]; omega) ?_
  refine drD_c hSo (k2.mono (by omega)) (by simp only [List.length_append, List.length_cons, List.length_nil]; omega) ?_
  refine q c6 _ _ _ _ _ (h6.mono (by omega)) (by simp only [List.length_append, List.length_cons, List.length_nil]) fun P hP => ?_
  have n1 := numO_len (S := S) o1
  have n2 := numO_len (S := S) o2
  simp only [List.mem_append, List.mem_cons, List.not_mem_nil, or_false] at hP
  rcases hP with ((hP | rfl) | rfl) | rfl
  · exact hPL P hP
  · exact ⟨k1, k2, by simp only [List.length_drop]; omega, b4⟩
  · exact ⟨k1, k2, by simp only; omega, b4⟩
  · exact ⟨k1, k2, b3, by simp only; omega⟩
end
end Lw

namespace Lw
open PySem L2 DL PyProof.Rows
/-! ### the law -/
section
variable {ns : List Int} {j p : Nat} {c : Cell} {G : Sg} {K : W → Sg → Prop} {X : XK'} {S O : List Pr} {w u : Int} {P : Pp} {Q : OA → Prop} {PL : List Pp} {a7 : Nat}
theorem told_pr (h : w ≤ topC S) : toldD S w = .tuple [hiD (byP S w).lo, hiD (byP S w).hi] := if_pos h
theorem lk_c {V0 V1 V2 V4 V7 V8 V9 V10 V11 V12 V13 V14 V16 V17 : Option W} (hS : ∀ s ∈ S, SpB s) (hl : S.length ≤ 30) (hw : (S.length : Int) - u = w) (hP : PpOk P)
    (q : ∀ V16', Q (.nx [V0, V1, V2, some (.d (.tuple (S.map Pr.d))), V4, some (.d (.int u)), some (.d (toldD S w)), V7, V8, V9, V10, V11, V12, V13, V14, some (.d P.d), V16', V17] G)) :
    JS [V0, V1, V2, some (.d (.tuple (S.map Pr.d))), V4, some (.d (.int u)), some (.d (toldD S w)), V7, V8, V9, V10, V11, V12, V13, V14, some (.d P.d), V16, V17] G lkB Q := by
  have hSo := spOk_of hS hl
  unfold lkB
  and_intros
  refine l_let_c hSo hP hw ?_
  and_intros
  by_cases h : letsB S w P = true
  · rw [if_pos h]
    obtain ⟨h1, h2, h3⟩ := lets_told h
    rw [told_pr h1, ← h2, ← h3]
    have hg : Good 2 7446 (.tuple [hiD P.lo, hiD P.hi]) := good_pr (p := ⟨P.lo, P.hi⟩) (hP.lo.mono (by omega)) (hP.hi.mono (by omega))
    rw [told_pr h1, ← h2, ← h3] at q
    refine ⟨fun _ => ?_, (fun h => nomatch h)⟩
    and_intros
    refine JO_ne (hg.shaped (by decide)) (hg.shaped (by decide)) ?_
    rw [eqv_refl _ hg.fin]
    refine ⟨_, rfl, fun h => absurd h (by decide), fun _ => JS_nx ?_⟩
    exact q _
  · rw [if_neg h]
    refine ⟨(fun h => nomatch h), fun _ => ⟨(fun h => nomatch h), fun _ => JS_nx ?_⟩⟩
    exact q _
noncomputable def fnD : Fs := (sIf (dIsT (dBin gNe (dCall F_l_let (dCons (dVar 3) (dCons (dTup (dCons (dVar 11) (dCons (dVar 12) (dCons (dVar 13) (dCons (dVar 14) dNil))))) (dCons (dVar 5) dNil)))) (dVar 6)))
    (sRet (dC (.bool false)))
    sNx)
noncomputable def fnC : Fs := (sSeq (sAsg (dIf (dIsT (dBin gNotN (dVar 12) (dC .none))) (dSl (dVar 14) oNone (oSome (dVar 17))) (dTup dNil)) (gN 14)) fnD)
theorem fnB_is : fnB = (sSeq (sAsg (dCallW F_cover_paper (dCons (dVar 3) dNil) (dVar 5)) (gT 4 (gsCons (gN 11) (gsCons (gN 12) (gsCons (gN 13) (gsCons (gN 14) gsNil))))))
    (sSeq (sAsg (dCB gMax2I (dCons (dC (.int 0)) (dCons (dBin gSub (dCB gLen (dCons (dVar 3) dNil)) (dVar 5)) dNil))) (gN 17))
    (sSeq (sAsg (dIf (dIsT (dBin gNotN (dVar 11) (dC .none))) (dSl (dVar 13) (oSome (dBin gSub (dCB gLen (dCons (dVar 13) dNil)) (dVar 17))) oNone) (dTup dNil)) (gN 13))
    fnC))) := rfl
theorem fn_c {V0 V1 V2 V4 V7 V8 V9 V10 V11 V12 V13 V14 V15 V16 V17 : Option W} (hS : ∀ s ∈ S, SpB s) (hl : S.length ≤ 30) (hw : (S.length : Int) - u = w) (hw0 : 0 ≤ w) (hw1 : w ≤ 30) (ht : w ≤ topC S)
    (q : ∀ V11' V12' V13' V14' V17', Q (.nx [V0, V1, V2, some (.d (.tuple (S.map Pr.d))), V4, some (.d (.int u)), some (.d (toldD S w)), V7, V8, V9, V10, V11', V12', V13', V14', V15, V16, V17'] G)) :
    JS [V0, V1, V2, some (.d (.tuple (S.map Pr.d))), V4, some (.d (.int u)), some (.d (toldD S w)), V7, V8, V9, V10, V11, V12, V13, V14, V15, V16, V17] G fnB Q := by
  have hSo := spOk_of hS hl
  obtain ⟨r, hr⟩ := topC_mem (S := S)
  have hr : w ≤ (cnt S r : Int) := by omega
  have hn1 : ∀ e, (byP S w).lo = some e → w ≤ ((numN S e).length : Int) := fun e he => by
    rw [numN_len]; exact (held_mem.mp (by_lo hr he).2).2
  have hn2 : ∀ e, (byP S w).hi = some e → w ≤ ((numN S e).length : Int) := fun e he => by
    rw [numN_len]; exact (held_mem.mp (by_hi hr he).2).2
  obtain ⟨b1, b2⟩ := byP_b20 hS ht
  have hlet := fun L1 L2 => told_lets (S := S) (w := w) ht (L1 := L1) (L2 := L2)
  have hto := told_pr ht
  have hg : Good 2 7446 (.tuple [hiD (byP S w).lo, hiD (byP S w).hi]) := good_pr (p := ⟨(byP S w).lo, (byP S w).hi⟩) (b1.mono (by omega)) (b2.mono (by omega))
  rw [fnB_is]
  and_intros
  refine cover_c hSo hw ht ?_
  unfold covP
  generalize byP S w = B at hn1 hn2 b1 b2 hlet hto hg
  obtain ⟨lo, hi⟩ := B
  simp only at hn1 hn2 b1 b2 hlet hto hg ⊢
  obtain ⟨wn, rfl⟩ := Int.eq_ofNat_of_zero_le hw0
  have fin : ∀ L1 L2 : List Nat, letsB S (wn : Int) ⟨lo, hi, L1, L2⟩ = true → L1.length ≤ 100 → L2.length ≤ 100 → JS [V0, V1, V2, some (.d (.tuple (S.map Pr.d))), V4, some (.d (.int u)), some (.d (toldD S (wn : Int))), V7, V8, V9, V10, some (.d (hiD lo)), some (.d (hiD hi)), some (.d (.tuple (L1.map natD))), some (.d (.tuple (L2.map natD))), V15, V16, some (.d (.int (wn : Int)))] G fnD Q := fun L1 L2 h l1 l2 => by
    unfold fnD
    and_intros
    rw [show (.tuple [hiD lo, hiD hi, .tuple (L1.map natD), .tuple (L2.map natD)] : D) = (Pp.mk lo hi L1 L2).d from rfl]
    refine l_let_c hSo ⟨b1, b2, l1, l2⟩ hw ?_
    rw [if_pos h]
    and_intros
    rw [hto]
    refine JO_ne (hg.shaped (by decide)) (hg.shaped (by decide)) ?_
    rw [eqv_refl _ hg.fin]
    refine ⟨_, rfl, fun h => absurd h (by decide), fun _ => JS_nx ?_⟩
    rw [← hto]
    exact q _ _ _ _ _
  have second : ∀ L1 : List Nat, (∀ e, lo = some e → L1.Sublist (numN S e) ∧ (wn : Int) ≤ (L1.length : Int)) → (lo = none → L1 = []) → L1.length ≤ 100 → JS [V0, V1, V2, some (.d (.tuple (S.map Pr.d))), V4, some (.d (.int u)), some (.d (toldD S (wn : Int))), V7, V8, V9, V10, some (.d (hiD lo)), some (.d (hiD hi)), some (.d (.tuple (L1.map natD))), some (.d (.tuple ((numO S hi).map natD))), V15, V16, some (.d (.int (wn : Int)))] G fnC Q := fun L1 h1 n1 l1 => by
    unfold fnC
    and_intros
    cases hi with
    | none =>
      refine ⟨(fun h => nomatch h), fun _ => ?_⟩
      and_intros
      refine fin L1 [] (hlet L1 [] h1 n1 (fun e he => nomatch he) fun _ => rfl) l1 (by simp)
    | some e =>
      have hle := hn2 e rfl
      have := numO_len (S := S) (some e)
      refine ⟨fun _ => ?_, (fun h => nomatch h)⟩
      and_intros
      rw [cutD_take, ← List.map_take]
      refine fin L1 _ (hlet L1 _ h1 n1 (fun e' he => ?_) (fun he => nomatch he)) l1 (by rw [List.length_take]; omega)
      cases he
      refine ⟨List.take_sublist _ _, ?_⟩
      rw [List.length_take, show (numO S (some e)) = numN S e from rfl]
      omega
  rw [show (Pp.mk lo hi (numO S lo) (numO S hi)).d = .tuple [hiD lo, hiD hi, .tuple ((numO S lo).map natD), .tuple ((numO S hi).map natD)] from rfl]
  and_intros
  rw [List.length_map, hw]
  rw [show (if (wn : Int) > 0 then (wn : Int) else 0) = (wn : Int) by split <;> omega]
  cases lo with
  | none =>
    refine ⟨(fun h => nomatch h), fun _ => ?_⟩
    and_intros
    exact second [] (fun e he => nomatch he) (fun _ => rfl) (by simp)
  | some e =>
    have hle := hn1 e rfl
    have : (numN S e).length ≤ S.length := numO_len (S := S) (some e)
    refine ⟨fun _ => ?_, (fun h => nomatch h)⟩
    and_intros
    rw [List.length_map, show (((numO S (some e)).length : Int) - (wn : Int)) = (((numN S e).length - wn : Nat) : Int) by rw [show (numO S (some e)) = numN S e from rfl]; omega, cutD_drop, ← List.map_drop]
    refine second _ (fun e' he => ?_) (fun he => nomatch he) (by rw [List.length_drop, show (numO S (some e)) = numN S e from rfl]; omega)
    cases he
    refine ⟨List.drop_sublist _ _, ?_⟩
    rw [List.length_drop, show (numO S (some e)) = numN S e from rfl]
    omega
end
end Lw

namespace Lw
open PySem L2 DL PyProof.Rows
/-! ### the law -/
section
variable {ns : List Int} {j p : Nat} {c : Cell} {G : Sg} {K : W → Sg → Prop} {X : XK'} {S O : List Pr} {w u : Int} {P : Pp} {Q : OA → Prop} {PL : List Pp} {a7 : Nat}
def stD (t : List Pr × Int) : D := .tuple [.tuple (t.1.map Pr.d), .int t.2]
theorem lt_c {V0 V2 V3 V4 V5 V6 V7 V8 V9 V10 V11 V12 V13 V14 V15 V16 V17 : Option W} (h : Tp ns j c) (hj : j ≤ 10 ^ 4)
    (q : ∀ c' V3' V4' V5' V6' V7' V8' V9' V10' V11' V12' V13' V14' V15' V16' V17' Gn, Tp ns (j + 300) c' → Q (.nx [V0, some (.c p), V2, V3', V4', V5', V6', V7', V8', V9', V10', V11', V12', V13', V14', V15', V16', V17'] ((p, c') :: Gn))) :
    JS [V0, some (.c p), V2, V3, V4, V5, V6, V7, V8, V9, V10, V11, V12, V13, V14, V15, V16, V17] [(p, c)] ltB Q := by
  unfold ltB
  and_intros
  refine spans_c 0 has0 h (by omega) fun c1 S h1 hl hS => ?_
  and_intros
  refine spans_c 0 has0 h1 (by omega) fun c2 O h2 hl2 hO => ?_
  and_intros
  rw [List.length_map]
  refine draw_c 0 has0 h2 (by omega) (by omega) (by omega) fun u c3 h3 u0 u1 => ?_
  have hSo := spOk_of hS (by omega)
  and_intros
  refine l_told_c hSo rfl ?_
  and_intros
  rename_i a7
  rw [List.length_map]
  rw [show ([.tuple [.tuple (S.map Pr.d), .int u], .tuple [.tuple (O.map Pr.d), .int u], .tuple [.tuple (S.map Pr.d), .int (u + 1)], .tuple [.tuple (S.map Pr.d), .int (S.length : Int)]] : List D) = [(S, u), (O, u), (S, u + 1), (S, (S.length : Int))].map stD from rfl]
  refine JS_forV [8, 9] [] (fun xs ws G' => ∃ (PL : List Pp) (T : List (List Pr × Int)), ws = [] ∧ xs = T.map stD ∧ (∀ t ∈ T, (∀ s ∈ t.1, SpB s) ∧ t.1.length ≤ 30 ∧ 0 ≤ t.2 ∧ t.2 ≤ 30) ∧ PL.length + T.length ≤ 4 ∧ (∀ P ∈ PL, PpOk P) ∧ (PL ≠ [] ∨ ∃ A, T = A ++ [(S, (S.length : Int))]) ∧ G' = [(p, c3), (a7, .lst (PL.map Pp.d))])
    ⟨[], _, ⟨[], [(S, u), (O, u), (S, u + 1), (S, (S.length : Int))], rfl, rfl, fun t ht => ?_, by simp, (by simp), .inr ⟨[(S, u), (O, u), (S, u + 1)], rfl⟩, rfl⟩, by ac_rfl; subst_eqs, List.Sublist.refl _⟩ ?_ ?_ ?_
  · simp only [List.mem_cons, List.not_mem_nil, or_false] at ht
    rcases ht with rfl | rfl | rfl | rfl
    · exact ⟨hS, by simp only; omega, u0, by simp only; omega⟩
    · exact ⟨hO, by simp only; omega, u0, by simp only; omega⟩
    · exact ⟨hS, by simp only; omega, by simp only; omega, by simp only; omega⟩
    · exact ⟨hS, by simp only; omega, by simp only; omega, by simp only; omega⟩
  · rintro xs ws G' _; exact GrdOk.nil
  · rintro x xs ws G' ⟨PL, T, rfl, hx, hT, hpl, hPL, hne, rfl⟩
    cases T with
    | nil => cases hx
    | cons t T =>
      simp only [List.map_cons, List.cons.injEq] at hx
      obtain ⟨rfl, rfl⟩ := hx
      obtain ⟨g1, g2, g3, g4⟩ := hT t List.mem_cons_self
      simp only [List.length_cons] at hpl
      ac_rfl
      refine JG_t (ds := [.tuple (t.1.map Pr.d), .int t.2]) rfl ?_
      clean_wf
      and_intros
      refine cv_c (PL := PL) g1 g2 ⟨g3, g4⟩ (by omega) fun PL' hPL' => ?_
      refine ⟨_, _, ⟨[], rfl, PL', T, rfl, rfl, fun t' h' => hT t' (List.mem_cons_of_mem _ h'), ?_, fun P hP => ?_, ?_, rfl⟩, by ac_rfl; subst_eqs, List.Sublist.refl _⟩
      · rcases hPL' with ⟨rfl, _⟩ | ⟨rfl, _⟩
        · omega
        · rw [List.length_append, List.length_singleton]; omega
      · rcases hPL' with ⟨rfl, _⟩ | ⟨rfl, hk⟩
        · exact hPL P hP
        · rcases List.mem_append.mp hP with hP | hP
          · exact hPL P hP
          · rw [List.mem_singleton.mp hP]; exact hk
      · rcases hPL' with ⟨rfl, hno⟩ | ⟨rfl, hk⟩
        · rcases hne with hne | ⟨A, hA⟩
          · exact .inl hne
          · cases A with
            | nil =>
              simp only [List.nil_append, List.cons.injEq] at hA
              obtain ⟨rfl, _⟩ := hA
              refine absurd ?_ hno
              obtain ⟨r, hr⟩ := topC_mem (S := S)
              simp only; omega
            | cons a A =>
              simp only [List.cons_append, List.cons.injEq] at hA
              exact .inr ⟨A, hA.2⟩
        · exact .inl (by simp)
  rintro ws G' ⟨PL, T, rfl, hx, hT, hpl, hPL, hne, rfl⟩
  have hT0 : T = [] := by
    cases T with
    | nil => rfl
    | cons _ _ => cases hx
  subst hT0
  have hne : PL ≠ [] := by
    rcases hne with hne | ⟨A, hA⟩
    · exact hne
    · exact absurd hA (by simp)
  simp only [List.length_nil] at hpl
  ac_rfl
  and_intros
  refine JS_forV [10, 11, 12, 13, 14] [] (fun xs ws G' => ∃ (PL : List Pp) (c' : Cell), ws = [] ∧ G' = [(p, c'), (a7, .lst (PL.map Pp.d))] ∧ Tp ns (j + 201 + 10 * (6 - xs.length)) c' ∧ xs.length ≤ 6 ∧ PL.length ≤ 4 + 3 * (6 - xs.length) ∧ PL ≠ [] ∧ ∀ P ∈ PL, PpOk P)
    ⟨[], _, ⟨PL, c3, rfl, rfl, h3.mono (by simp [rngL0]), by simp [rngL0], by omega, hne, hPL⟩, by ac_rfl; subst_eqs, List.Sublist.refl _⟩ ?_ ?_ ?_
  · rintro xs ws G' _; exact GrdOk.nil
  · rintro x xs ws G' ⟨PL, c', rfl, rfl, k1, k2, k3, k4, k5⟩
    simp only [List.length_cons] at k1 k2 k3
    ac_rfl
    refine JG_n ?_
    clean_wf
    refine dr_c k1 (by omega) hS (by omega) (by omega) k4 k5 fun c4 PL' V11 V12 V13 V14 g1 g2 g3 => ?_
    exact ⟨_, _, ⟨[], rfl, PL', c4, rfl, rfl, g1.mono (by omega), by omega, by omega, fun z => by rw [z] at g2; simp at g2, g3⟩, by ac_rfl; subst_eqs, List.Sublist.refl _⟩
  rintro ws G' ⟨PL, c', rfl, rfl, k1, k2, k3, k4, k5⟩
  simp only [List.length_nil] at k1 k3
  ac_rfl
  and_intros
  refine JS_forV [15, 16] [] (fun xs ws G' => ∃ L' : List Pp, ws = [] ∧ xs = L'.map Pp.d ∧ (∀ P ∈ L', PpOk P) ∧ G' = [(p, c'), (a7, .lst (PL.map Pp.d))])
    ⟨[], _, ⟨PL, rfl, rfl, k5, rfl⟩, by ac_rfl; subst_eqs, List.Sublist.refl _⟩ ?_ ?_ ?_
  · rintro xs ws G' ⟨L', rfl, rfl, _, rfl⟩; exact GrdOk.one 1 has1
  · rintro x xs ws G' ⟨L', rfl, hx, hL', rfl⟩
    cases L' with
    | nil => cases hx
    | cons P L' =>
      simp only [List.map_cons, List.cons.injEq] at hx
      obtain ⟨rfl, rfl⟩ := hx
      ac_rfl
      refine JG_n ?_
      clean_wf
      refine lk_c hS (by omega) rfl (hL' P List.mem_cons_self) fun V16 => ?_
      exact ⟨_, _, ⟨[], rfl, L', rfl, rfl, fun o ho => hL' o (List.mem_cons_of_mem _ ho), rfl⟩, by ac_rfl; subst_eqs, List.Sublist.refl _⟩
  rintro ws G' ⟨L', rfl, hx, hL', rfl⟩
  ac_rfl
  and_intros
  rw [told_isN]
  by_cases ht : (S.length : Int) - u ≤ topC S
  · rw [decide_eq_true ht]
    refine ⟨fun _ => ?_, (fun h => nomatch h)⟩
    refine fn_c hS (by omega) rfl (by omega) (by omega) ht fun V11 V12 V13 V14 V17 => ?_
    exact q c' _ _ _ _ _ _ _ _ _ _ _ _ _ _ _ [_] (k1.mono (by omega))
  · rw [decide_eq_false ht]
    refine ⟨(fun h => nomatch h), fun _ => JS_nx ?_⟩
    exact q c' _ _ _ _ _ _ _ _ _ _ _ _ _ _ _ [_] (k1.mono (by omega))
noncomputable def lrB : Fs := (sSeq (sFor (iRange1 (dC (.int 4))) (gN 2) ltB) (sRet (dC (.bool true))))
theorem law_is2 : m_law = (sSeq (sAsg (dCall F_l_tape (dCons (dVar 0) dNil)) (gN 1)) lrB) := rfl
theorem tape_ok {ns : List Int} (h : ns.length ≤ 63) : F_l_tape [.k (ns.map PyData.int)] [] = .ok (.c 0) [tape ns 0 0 0] := by
  have hc : DL.cutD (ns.map PyData.int) none (some 63) = ns.map PyData.int := cutD_all rfl (by
    have := HT.sIx_nat (ns.map PyData.int).length (ns.map PyData.int).length 63
    rw [List.length_map] at *
    rw [show ((63 : Int)) = ((63 : Nat) : Int) from rfl, this]
    omega)
  unfold F_l_tape runB m_l_tape
  simp [hc, line_eq]
theorem rest_c {ns : List Int} {c : Cell} {w0 : W} (h : Tp ns 0 c) :
    JS [some w0, some (.c 0), none, none, none, none, none, none, none, none, none, none, none, none, none, none, none, none] [(0, c)] lrB (fun o => match o with | .ret w _ => w = .d (.bool true) | _ => False) := by
  unfold lrB
  and_intros
  refine JS_forV [2, 3, 4, 5, 6, 7, 8, 9, 10, 11, 12, 13, 14, 15, 16, 17] [] (fun xs ws G' => ∃ c' : Cell, ws = [] ∧ G' = [(0, c')] ∧ Tp ns (300 * (4 - xs.length)) c' ∧ xs.length ≤ 4)
    ⟨[], _, ⟨c, rfl, rfl, h.mono (by omega), by simp [rngL0]⟩, by ac_rfl; subst_eqs, List.Sublist.refl _⟩ ?_ ?_ ?_
  · rintro xs ws G' _; exact GrdOk.nil
  · rintro x xs ws G' ⟨c', rfl, rfl, h1, h2⟩
    simp only [List.length_cons] at h1 h2
    ac_rfl
    refine JG_n ?_
    clean_wf
    refine lt_c h1 (by omega) fun c2 V3 V4 V5 V6 V7 V8 V9 V10 V11 V12 V13 V14 V15 V16 V17 Gn g1 => ?_
    exact ⟨_, _, ⟨[], rfl, c2, rfl, rfl, g1.mono (by omega), by omega⟩, by ac_rfl; subst_eqs, by false_or_by_contra⟩
  rintro ws G' ⟨c', rfl, rfl, h1, h2⟩
  ac_rfl
  and_intros
end
theorem law_true : ∀ ns : List Int, ns.length ≤ 63 → ∃ m, F_law [.k (ns.map PyData.int)] [] = .ok (.d (.bool true)) m := by
  intro ns hns
  have e1 := tape_ok hns
  obtain ⟨a, e, k⟩ := rest_c (w0 := .k (ns.map PyData.int)) (c := tape ns 0 0 0) (ns := ns) ⟨hns, 0, 0, 0, rfl, by omega, by omega, by omega⟩ [] [] [some (.k (ns.map PyData.int)), some (.c 0), none, none, none, none, none, none, none, none, none, none, none, none, none, none, none, none] [tape ns 0 0 0]
    ⟨rfl, fun _ _ h => h⟩ ⟨fun i a c h => (by
      cases i with
      | zero => cases h; rfl
      | succ i => cases h), (by simp), fun i a c h => .inr (Nat.zero_le _), Nat.zero_le _, fun a h => absurd h (Nat.not_lt_zero _)⟩
  cases a with
  | ret w G =>
    obtain ⟨m, e, _⟩ := e
    subst k
    refine ⟨m, ?_⟩
    unfold F_law runB
    rw [law_is2]
    simp [e1]
    rw [e]
  | nx _ _ => exact k.elim
  | brk _ _ => exact k.elim
  | cnt _ _ => exact k.elim
  | exc _ _ _ _ => exact k.elim
end Lw

namespace Lw
open PySem L2 DL PyProof.Rows
theorem all_mk {l : PySem.W.OpenLaw} {w : World} {K : PySem.W.Frag} {h : Heap} {mg : Str → Option Value} {fa : Addr} (X : K.In h) (G : h.Ns mainGlobals mg) (hfa : mg "law" = some (.ref fa))
    {f1 : Addr} {od1 an1 : Option Addr} {sl1 : Array (Option Value)} {oc1 kV1 dc1 pm1 cd1 ct1 : Value} {f2 : Addr} {od2 an2 : Option Addr} {sl2 : Array (Option Value)} {oc2 kV2 dc2 pm2 cd2 ct2 : Value} {f3 : Addr} {od3 an3 : Option Addr} {sl3 : Array (Option Value)} {oc3 kV3 dc3 pm3 cd3 ct3 : Value} {f4 : Addr} {od4 an4 : Option Addr} {sl4 : Array (Option Value)} {oc4 kV4 dc4 pm4 cd4 ct4 : Value} {f5 : Addr} {od5 an5 : Option Addr} {sl5 : Array (Option Value)} {oc5 kV5 dc5 pm5 cd5 ct5 : Value} {f6 : Addr} {od6 an6 : Option Addr} {sl6 : Array (Option Value)} {oc6 kV6 dc6 pm6 cd6 ct6 : Value} {f7 : Addr} {od7 an7 : Option Addr} {sl7 : Array (Option Value)} {oc7 kV7 dc7 pm7 cd7 ct7 : Value} {f8 : Addr} {od8 an8 : Option Addr} {sl8 : Array (Option Value)} {oc8 kV8 dc8 pm8 cd8 ct8 : Value} {f9 : Addr} {od9 an9 : Option Addr} {sl9 : Array (Option Value)} {oc9 kV9 dc9 pm9 cd9 ct9 : Value} {f10 : Addr} {od10 an10 : Option Addr} {sl10 : Array (Option Value)} {oc10 kV10 dc10 pm10 cd10 ct10 : Value} {f11 : Addr} {od11 an11 : Option Addr} {sl11 : Array (Option Value)} {oc11 kV11 dc11 pm11 cd11 ct11 : Value} {f12 : Addr} {od12 an12 : Option Addr} {sl12 : Array (Option Value)} {oc12 kV12 dc12 pm12 cd12 ct12 : Value} {f13 : Addr} {od13 an13 : Option Addr} {sl13 : Array (Option Value)} {oc13 kV13 dc13 pm13 cd13 ct13 : Value} {f14 : Addr} {od14 an14 : Option Addr} {sl14 : Array (Option Value)} {oc14 kV14 dc14 pm14 cd14 ct14 : Value} {f15 : Addr} {od15 an15 : Option Addr} {sl15 : Array (Option Value)} {oc15 kV15 dc15 pm15 cd15 ct15 : Value} {f16 : Addr} {od16 an16 : Option Addr} {sl16 : Array (Option Value)} {oc16 dc16 pm16 cd16 ct16 : Value} {f17 : Addr} {od17 an17 : Option Addr} {sl17 : Array (Option Value)} {oc17 dc17 pm17 cd17 ct17 : Value} {f18 : Addr} {od18 an18 : Option Addr} {sl18 : Array (Option Value)} {oc18 kV18 dc18 pm18 cd18 ct18 : Value} {f19 : Addr} {od19 an19 : Option Addr} {sl19 : Array (Option Value)} {oc19 kV19 dc19 pm19 cd19 ct19 : Value} {f20 : Addr} {od20 an20 : Option Addr} {sl20 : Array (Option Value)} {oc20 kV20 dc20 pm20 cd20 ct20 : Value} {f21 : Addr} {od21 an21 : Option Addr} {sl21 : Array (Option Value)} {oc21 kV21 dc21 pm21 cd21 ct21 : Value} {f22 : Addr} {od22 an22 : Option Addr} {sl22 : Array (Option Value)} {oc22 dc22 pm22 cd22 ct22 : Value} {f23 : Addr} {od23 an23 : Option Addr} {sl23 : Array (Option Value)} {oc23 kV23 dc23 pm23 cd23 ct23 : Value} {f24 : Addr} {od24 an24 : Option Addr} {sl24 : Array (Option Value)} {oc24 kV24 dc24 pm24 cd24 ct24 : Value} {f25 : Addr} {od25 an25 : Option Addr} {sl25 : Array (Option Value)} {oc25 kV25 dc25 pm25 cd25 ct25 : Value} {f26 : Addr} {od26 an26 : Option Addr} {sl26 : Array (Option Value)} {oc26 kV26 dc26 pm26 cd26 ct26 : Value} {f27 : Addr} {od27 an27 : Option Addr} {sl27 : Array (Option Value)} {oc27 kV27 dc27 pm27 cd27 ct27 : Value} {f28 : Addr} {od28 an28 : Option Addr} {sl28 : Array (Option Value)} {oc28 kV28 dc28 pm28 cd28 ct28 : Value} {f29 : Addr} {od29 an29 : Option Addr} {sl29 : Array (Option Value)} {oc29 kV29 dc29 pm29 cd29 ct29 : Value} {f30 : Addr} {od30 an30 : Option Addr} {sl30 : Array (Option Value)} {oc30 kV30 dc30 pm30 cd30 ct30 : Value} {f31 : Addr} {od31 an31 : Option Addr} {sl31 : Array (Option Value)} {oc31 kV31 dc31 pm31 cd31 ct31 : Value} {f32 : Addr} {od32 an32 : Option Addr} {sl32 : Array (Option Value)} {oc32 kV32 dc32 pm32 cd32 ct32 : Value} {f33 : Addr} {od33 an33 : Option Addr} {sl33 : Array (Option Value)} {oc33 kV33 dc33 pm33 cd33 ct33 : Value} {f34 : Addr} {od34 an34 : Option Addr} {sl34 : Array (Option Value)} {oc34 kV34 dc34 pm34 cd34 ct34 : Value} {f35 : Addr} {od35 an35 : Option Addr} {sl35 : Array (Option Value)} {oc35 kV35 dc35 pm35 cd35 ct35 : Value} {D16 : Addr} {te16 : Tok} {D17 : Addr} {te17 : Tok} {D22 : Addr} {te22 : Tok} {a_ONE : Addr} {d_ONE : Option Addr} {n_ONE : Nat} {s_ONE : Array (Option Value)} {t0_ONE t1_ONE : Tok} {a_SOME : Addr} {d_SOME : Option Addr} {n_SOME : Nat} {s_SOME : Array (Option Value)} {t0_SOME t1_SOME : Tok} {nm_Lied qn_Lied : Str} {N_Lied f_Lied : Addr} {bs_Lied bm_Lied : List Value} {sn_Lied : List Str} {sub_Lied : List Value} {ab_Lied : Bool} {col_Lied : Option Bool} {dd_Lied : Option Addr} {h0_Lied h1_Lied h2_Lied h3_Lied h5_Lied : Option Value} {od_Lied an_Lied : Option Addr} {sl_Lied : Array (Option Value)} {oc_Lied kV_Lied dc_Lied pm_Lied cd_Lied ct_Lied : Value} {nm_NoPaper qn_NoPaper : Str} {N_NoPaper f_NoPaper : Addr} {bs_NoPaper bm_NoPaper : List Value} {sn_NoPaper : List Str} {sub_NoPaper : List Value} {ab_NoPaper : Bool} {col_NoPaper : Option Bool} {dd_NoPaper : Option Addr} {h0_NoPaper h1_NoPaper h2_NoPaper h3_NoPaper h5_NoPaper : Option Value} {od_NoPaper an_NoPaper : Option Addr} {sl_NoPaper : Array (Option Value)} {oc_NoPaper kV_NoPaper dc_NoPaper pm_NoPaper cd_NoPaper ct_NoPaper : Value}
    (a1 : PySem.W.nsIn K mainGlobals "is_number" = some (some (.ref f1))) (l1 : K.lookup f1 = some ⟨oc1, od1, .func (PySem.W.fnOf "is_number" "is_number" (defArgs s_is_number) (defBody s_is_number) (defScope s_is_number) .none kV1 dc1 pm1 an1 cd1 ct1), sl1⟩) (c1 : PySem.W.codeIn K cd1 "is_number" = true) (k1 : PySem.W.keepIn K (.ref f1) = true)
    (a2 : PySem.W.nsIn K mainGlobals "common_divisor" = some (some (.ref f2))) (l2 : K.lookup f2 = some ⟨oc2, od2, .func (PySem.W.fnOf "common_divisor" "common_divisor" (defArgs s_common_divisor) (defBody s_common_divisor) (defScope s_common_divisor) .none kV2 dc2 pm2 an2 cd2 ct2), sl2⟩) (c2 : PySem.W.codeIn K cd2 "common_divisor" = true) (k2 : PySem.W.keepIn K (.ref f2) = true)
    (a3 : PySem.W.nsIn K mainGlobals "is_fraction" = some (some (.ref f3))) (l3 : K.lookup f3 = some ⟨oc3, od3, .func (PySem.W.fnOf "is_fraction" "is_fraction" (defArgs s_is_fraction) (defBody s_is_fraction) (defScope s_is_fraction) .none kV3 dc3 pm3 an3 cd3 ct3), sl3⟩) (c3 : PySem.W.codeIn K cd3 "is_fraction" = true) (k3 : PySem.W.keepIn K (.ref f3) = true)
    (a4 : PySem.W.nsIn K mainGlobals "ratio" = some (some (.ref f4))) (l4 : K.lookup f4 = some ⟨oc4, od4, .func (PySem.W.fnOf "ratio" "ratio" (defArgs s_ratio) (defBody s_ratio) (defScope s_ratio) .none kV4 dc4 pm4 an4 cd4 ct4), sl4⟩) (c4 : PySem.W.codeIn K cd4 "ratio" = true) (k4 : PySem.W.keepIn K (.ref f4) = true)
    (a5 : PySem.W.nsIn K mainGlobals "added" = some (some (.ref f5))) (l5 : K.lookup f5 = some ⟨oc5, od5, .func (PySem.W.fnOf "added" "added" (defArgs s_added) (defBody s_added) (defScope s_added) .none kV5 dc5 pm5 an5 cd5 ct5), sl5⟩) (c5 : PySem.W.codeIn K cd5 "added" = true) (k5 : PySem.W.keepIn K (.ref f5) = true)
    (a6 : PySem.W.nsIn K mainGlobals "less" = some (some (.ref f6))) (l6 : K.lookup f6 = some ⟨oc6, od6, .func (PySem.W.fnOf "less" "less" (defArgs s_less) (defBody s_less) (defScope s_less) .none kV6 dc6 pm6 an6 cd6 ct6), sl6⟩) (c6 : PySem.W.codeIn K cd6 "less" = true) (k6 : PySem.W.keepIn K (.ref f6) = true)
    (a7 : PySem.W.nsIn K mainGlobals "is_below" = some (some (.ref f7))) (l7 : K.lookup f7 = some ⟨oc7, od7, .func (PySem.W.fnOf "is_below" "is_below" (defArgs s_is_below) (defBody s_is_below) (defScope s_is_below) .none kV7 dc7 pm7 an7 cd7 ct7), sl7⟩) (c7 : PySem.W.codeIn K cd7 "is_below" = true) (k7 : PySem.W.keepIn K (.ref f7) = true)
    (a8 : PySem.W.nsIn K mainGlobals "is_in" = some (some (.ref f8))) (l8 : K.lookup f8 = some ⟨oc8, od8, .func (PySem.W.fnOf "is_in" "is_in" (defArgs s_is_in) (defBody s_is_in) (defScope s_is_in) .none kV8 dc8 pm8 an8 cd8 ct8), sl8⟩) (c8 : PySem.W.codeIn K cd8 "is_in" = true) (k8 : PySem.W.keepIn K (.ref f8) = true)
    (a9 : PySem.W.nsIn K mainGlobals "numbers_in" = some (some (.ref f9))) (l9 : K.lookup f9 = some ⟨oc9, od9, .func (PySem.W.fnOf "numbers_in" "numbers_in" (defArgs s_numbers_in) (defBody s_numbers_in) (defScope s_numbers_in) .none kV9 dc9 pm9 an9 cd9 ct9), sl9⟩) (c9 : PySem.W.codeIn K cd9 "numbers_in" = true) (k9 : PySem.W.keepIn K (.ref f9) = true)
    (a10 : PySem.W.nsIn K mainGlobals "count_in" = some (some (.ref f10))) (l10 : K.lookup f10 = some ⟨oc10, od10, .func (PySem.W.fnOf "count_in" "count_in" (defArgs s_count_in) (defBody s_count_in) (defScope s_count_in) .none kV10 dc10 pm10 an10 cd10 ct10), sl10⟩) (c10 : PySem.W.codeIn K cd10 "count_in" = true) (k10 : PySem.W.keepIn K (.ref f10) = true)
    (a11 : PySem.W.nsIn K mainGlobals "least_of" = some (some (.ref f11))) (l11 : K.lookup f11 = some ⟨oc11, od11, .func (PySem.W.fnOf "least_of" "least_of" (defArgs s_least_of) (defBody s_least_of) (defScope s_least_of) .none kV11 dc11 pm11 an11 cd11 ct11), sl11⟩) (c11 : PySem.W.codeIn K cd11 "least_of" = true) (k11 : PySem.W.keepIn K (.ref f11) = true)
    (a12 : PySem.W.nsIn K mainGlobals "greatest_of" = some (some (.ref f12))) (l12 : K.lookup f12 = some ⟨oc12, od12, .func (PySem.W.fnOf "greatest_of" "greatest_of" (defArgs s_greatest_of) (defBody s_greatest_of) (defScope s_greatest_of) .none kV12 dc12 pm12 an12 cd12 ct12), sl12⟩) (c12 : PySem.W.codeIn K cd12 "greatest_of" = true) (k12 : PySem.W.keepIn K (.ref f12) = true)
    (a13 : PySem.W.nsIn K mainGlobals "ends_of" = some (some (.ref f13))) (l13 : K.lookup f13 = some ⟨oc13, od13, .func (PySem.W.fnOf "ends_of" "ends_of" (defArgs s_ends_of) (defBody s_ends_of) (defScope s_ends_of) .none kV13 dc13 pm13 an13 cd13 ct13), sl13⟩) (c13 : PySem.W.codeIn K cd13 "ends_of" = true) (k13 : PySem.W.keepIn K (.ref f13) = true)
    (a14 : PySem.W.nsIn K mainGlobals "far_points" = some (some (.ref f14))) (l14 : K.lookup f14 = some ⟨oc14, od14, .func (PySem.W.fnOf "far_points" "far_points" (defArgs s_far_points) (defBody s_far_points) (defScope s_far_points) .none kV14 dc14 pm14 an14 cd14 ct14), sl14⟩) (c14 : PySem.W.codeIn K cd14 "far_points" = true) (k14 : PySem.W.keepIn K (.ref f14) = true)
    (a15 : PySem.W.nsIn K mainGlobals "least_liars" = some (some (.ref f15))) (l15 : K.lookup f15 = some ⟨oc15, od15, .func (PySem.W.fnOf "least_liars" "least_liars" (defArgs s_least_liars) (defBody s_least_liars) (defScope s_least_liars) .none kV15 dc15 pm15 an15 cd15 ct15), sl15⟩) (c15 : PySem.W.codeIn K cd15 "least_liars" = true) (k15 : PySem.W.keepIn K (.ref f15) = true)
    (a16 : PySem.W.nsIn K mainGlobals "by_majority" = some (some (.ref f16))) (l16 : K.lookup f16 = some ⟨oc16, od16, .func (PySem.W.fnOf "by_majority" "by_majority" (defArgs s_by_majority) (defBody s_by_majority) (defScope s_by_majority) .none (.ref D16) dc16 pm16 an16 cd16 ct16), sl16⟩) (c16 : PySem.W.codeIn K cd16 "by_majority" = true) (k16 : PySem.W.keepIn K (.ref f16) = true) (e16_liars : PySem.W.nsIn K D16 "liars" = some (some (.int 0 te16)))
    (a17 : PySem.W.nsIn K mainGlobals "cover_paper" = some (some (.ref f17))) (l17 : K.lookup f17 = some ⟨oc17, od17, .func (PySem.W.fnOf "cover_paper" "cover_paper" (defArgs s_cover_paper) (defBody s_cover_paper) (defScope s_cover_paper) .none (.ref D17) dc17 pm17 an17 cd17 ct17), sl17⟩) (c17 : PySem.W.codeIn K cd17 "cover_paper" = true) (k17 : PySem.W.keepIn K (.ref f17) = true) (e17_liars : PySem.W.nsIn K D17 "liars" = some (some (.int 0 te17)))
    (a18 : PySem.W.nsIn K mainGlobals "need" = some (some (.ref f18))) (l18 : K.lookup f18 = some ⟨oc18, od18, .func (PySem.W.fnOf "need" "need" (defArgs s_need) (defBody s_need) (defScope s_need) .none kV18 dc18 pm18 an18 cd18 ct18), sl18⟩) (c18 : PySem.W.codeIn K cd18 "need" = true) (k18 : PySem.W.keepIn K (.ref f18) = true)
    (a19 : PySem.W.nsIn K mainGlobals "is_paper" = some (some (.ref f19))) (l19 : K.lookup f19 = some ⟨oc19, od19, .func (PySem.W.fnOf "is_paper" "is_paper" (defArgs s_is_paper) (defBody s_is_paper) (defScope s_is_paper) .none kV19 dc19 pm19 an19 cd19 ct19), sl19⟩) (c19 : PySem.W.codeIn K cd19 "is_paper" = true) (k19 : PySem.W.keepIn K (.ref f19) = true)
    (a20 : PySem.W.nsIn K mainGlobals "need_side" = some (some (.ref f20))) (l20 : K.lookup f20 = some ⟨oc20, od20, .func (PySem.W.fnOf "need_side" "need_side" (defArgs s_need_side) (defBody s_need_side) (defScope s_need_side) .none kV20 dc20 pm20 an20 cd20 ct20), sl20⟩) (c20 : PySem.W.codeIn K cd20 "need_side" = true) (k20 : PySem.W.keepIn K (.ref f20) = true)
    (a21 : PySem.W.nsIn K mainGlobals "is_beyond" = some (some (.ref f21))) (l21 : K.lookup f21 = some ⟨oc21, od21, .func (PySem.W.fnOf "is_beyond" "is_beyond" (defArgs s_is_beyond) (defBody s_is_beyond) (defScope s_is_beyond) .none kV21 dc21 pm21 an21 cd21 ct21), sl21⟩) (c21 : PySem.W.codeIn K cd21 "is_beyond" = true) (k21 : PySem.W.keepIn K (.ref f21) = true)
    (a22 : PySem.W.nsIn K mainGlobals "lets_cover" = some (some (.ref f22))) (l22 : K.lookup f22 = some ⟨oc22, od22, .func (PySem.W.fnOf "lets_cover" "lets_cover" (defArgs s_lets_cover) (defBody s_lets_cover) (defScope s_lets_cover) .none (.ref D22) dc22 pm22 an22 cd22 ct22), sl22⟩) (c22 : PySem.W.codeIn K cd22 "lets_cover" = true) (k22 : PySem.W.keepIn K (.ref f22) = true) (e22_liars : PySem.W.nsIn K D22 "liars" = some (some (.int 0 te22)))
    (a23 : PySem.W.nsIn K mainGlobals "_law_tape" = some (some (.ref f23))) (l23 : K.lookup f23 = some ⟨oc23, od23, .func (PySem.W.fnOf "_law_tape" "_law_tape" (defArgs s_l_tape) (defBody s_l_tape) (defScope s_l_tape) .none kV23 dc23 pm23 an23 cd23 ct23), sl23⟩) (c23 : PySem.W.codeIn K cd23 "_law_tape" = true) (k23 : PySem.W.keepIn K (.ref f23) = true)
    (a24 : PySem.W.nsIn K mainGlobals "_law_draw" = some (some (.ref f24))) (l24 : K.lookup f24 = some ⟨oc24, od24, .func (PySem.W.fnOf "_law_draw" "_law_draw" (defArgs s_l_draw) (defBody s_l_draw) (defScope s_l_draw) .none kV24 dc24 pm24 an24 cd24 ct24), sl24⟩) (c24 : PySem.W.codeIn K cd24 "_law_draw" = true) (k24 : PySem.W.keepIn K (.ref f24) = true)
    (a25 : PySem.W.nsIn K mainGlobals "_law_low" = some (some (.ref f25))) (l25 : K.lookup f25 = some ⟨oc25, od25, .func (PySem.W.fnOf "_law_low" "_law_low" (defArgs s_l_low) (defBody s_l_low) (defScope s_l_low) .none kV25 dc25 pm25 an25 cd25 ct25), sl25⟩) (c25 : PySem.W.codeIn K cd25 "_law_low" = true) (k25 : PySem.W.keepIn K (.ref f25) = true)
    (a26 : PySem.W.nsIn K mainGlobals "_law_plus" = some (some (.ref f26))) (l26 : K.lookup f26 = some ⟨oc26, od26, .func (PySem.W.fnOf "_law_plus" "_law_plus" (defArgs s_l_plus) (defBody s_l_plus) (defScope s_l_plus) .none kV26 dc26 pm26 an26 cd26 ct26), sl26⟩) (c26 : PySem.W.codeIn K cd26 "_law_plus" = true) (k26 : PySem.W.keepIn K (.ref f26) = true)
    (a27 : PySem.W.nsIn K mainGlobals "_law_minus" = some (some (.ref f27))) (l27 : K.lookup f27 = some ⟨oc27, od27, .func (PySem.W.fnOf "_law_minus" "_law_minus" (defArgs s_l_minus) (defBody s_l_minus) (defScope s_l_minus) .none kV27 dc27 pm27 an27 cd27 ct27), sl27⟩) (c27 : PySem.W.codeIn K cd27 "_law_minus" = true) (k27 : PySem.W.keepIn K (.ref f27) = true)
    (a28 : PySem.W.nsIn K mainGlobals "_law_is_less" = some (some (.ref f28))) (l28 : K.lookup f28 = some ⟨oc28, od28, .func (PySem.W.fnOf "_law_is_less" "_law_is_less" (defArgs s_l_is_less) (defBody s_l_is_less) (defScope s_l_is_less) .none kV28 dc28 pm28 an28 cd28 ct28), sl28⟩) (c28 : PySem.W.codeIn K cd28 "_law_is_less" = true) (k28 : PySem.W.keepIn K (.ref f28) = true)
    (a29 : PySem.W.nsIn K mainGlobals "_law_point" = some (some (.ref f29))) (l29 : K.lookup f29 = some ⟨oc29, od29, .func (PySem.W.fnOf "_law_point" "_law_point" (defArgs s_l_point) (defBody s_l_point) (defScope s_l_point) .none kV29 dc29 pm29 an29 cd29 ct29), sl29⟩) (c29 : PySem.W.codeIn K cd29 "_law_point" = true) (k29 : PySem.W.keepIn K (.ref f29) = true)
    (a30 : PySem.W.nsIn K mainGlobals "_law_spans" = some (some (.ref f30))) (l30 : K.lookup f30 = some ⟨oc30, od30, .func (PySem.W.fnOf "_law_spans" "_law_spans" (defArgs s_l_spans) (defBody s_l_spans) (defScope s_l_spans) .none kV30 dc30 pm30 an30 cd30 ct30), sl30⟩) (c30 : PySem.W.codeIn K cd30 "_law_spans" = true) (k30 : PySem.W.keepIn K (.ref f30) = true)
    (a31 : PySem.W.nsIn K mainGlobals "_law_is_in" = some (some (.ref f31))) (l31 : K.lookup f31 = some ⟨oc31, od31, .func (PySem.W.fnOf "_law_is_in" "_law_is_in" (defArgs s_l_is_in) (defBody s_l_is_in) (defScope s_l_is_in) .none kV31 dc31 pm31 an31 cd31 ct31), sl31⟩) (c31 : PySem.W.codeIn K cd31 "_law_is_in" = true) (k31 : PySem.W.keepIn K (.ref f31) = true)
    (a32 : PySem.W.nsIn K mainGlobals "_law_in" = some (some (.ref f32))) (l32 : K.lookup f32 = some ⟨oc32, od32, .func (PySem.W.fnOf "_law_in" "_law_in" (defArgs s_l_in) (defBody s_l_in) (defScope s_l_in) .none kV32 dc32 pm32 an32 cd32 ct32), sl32⟩) (c32 : PySem.W.codeIn K cd32 "_law_in" = true) (k32 : PySem.W.keepIn K (.ref f32) = true)
    (a33 : PySem.W.nsIn K mainGlobals "_law_let" = some (some (.ref f33))) (l33 : K.lookup f33 = some ⟨oc33, od33, .func (PySem.W.fnOf "_law_let" "_law_let" (defArgs s_l_let) (defBody s_l_let) (defScope s_l_let) .none kV33 dc33 pm33 an33 cd33 ct33), sl33⟩) (c33 : PySem.W.codeIn K cd33 "_law_let" = true) (k33 : PySem.W.keepIn K (.ref f33) = true)
    (a34 : PySem.W.nsIn K mainGlobals "_law_told" = some (some (.ref f34))) (l34 : K.lookup f34 = some ⟨oc34, od34, .func (PySem.W.fnOf "_law_told" "_law_told" (defArgs s_l_told) (defBody s_l_told) (defScope s_l_told) .none kV34 dc34 pm34 an34 cd34 ct34), sl34⟩) (c34 : PySem.W.codeIn K cd34 "_law_told" = true) (k34 : PySem.W.keepIn K (.ref f34) = true)
    (a35 : PySem.W.nsIn K mainGlobals "law" = some (some (.ref f35))) (l35 : K.lookup f35 = some ⟨oc35, od35, .func (PySem.W.fnOf "law" "law" (defArgs s_law) (defBody s_law) (defScope s_law) .none kV35 dc35 pm35 an35 cd35 ct35), sl35⟩) (c35 : PySem.W.codeIn K cd35 "law" = true) (k35 : PySem.W.keepIn K (.ref f35) = true)
    (z_abs : PySem.W.nsIn K mainGlobals "abs" = some none)
    (z_all : PySem.W.nsIn K mainGlobals "all" = some none)
    (z_any : PySem.W.nsIn K mainGlobals "any" = some none)
    (z_bool : PySem.W.nsIn K mainGlobals "bool" = some none)
    (z_enumerate : PySem.W.nsIn K mainGlobals "enumerate" = some none)
    (z_int : PySem.W.nsIn K mainGlobals "int" = some none)
    (z_isinstance : PySem.W.nsIn K mainGlobals "isinstance" = some none)
    (z_len : PySem.W.nsIn K mainGlobals "len" = some none)
    (z_max : PySem.W.nsIn K mainGlobals "max" = some none)
    (z_range : PySem.W.nsIn K mainGlobals "range" = some none)
    (z_tuple : PySem.W.nsIn K mainGlobals "tuple" = some none)
    (g_ONE : PySem.W.nsIn K mainGlobals "ONE" = some (some (.ref a_ONE))) (h_ONE : K.lookup a_ONE = some ⟨.type "tuple", d_ONE, .seq #[.int 1 t0_ONE, .int 1 t1_ONE] n_ONE, s_ONE⟩)
    (g_SOME : PySem.W.nsIn K mainGlobals "SOME" = some (some (.ref a_SOME))) (h_SOME : K.lookup a_SOME = some ⟨.type "tuple", d_SOME, .seq #[.int 0 t0_SOME, .int 1 t1_SOME] n_SOME, s_SOME⟩)
    (xm_ClockError : PySem.W.nsIn K mainGlobals "ClockError" = some (some (.ref C_ClockError)))
    (xm_Lied : PySem.W.nsIn K mainGlobals "Lied" = some (some (.ref C_Lied)))
    (xm_NoPaper : PySem.W.nsIn K mainGlobals "NoPaper" = some (some (.ref C_NoPaper)))
    (xk_ClockError : PySem.W.keepIn K (.ref C_ClockError) = true) (xr_ClockError : PySem.W.readsIn K C_ClockError (.type "type") = true) (xq_ClockError : PySem.W.specialIn K (.ref C_ClockError) "__getattribute__" = some (some (.builtin "type.__getattribute__"))) (xv_ClockError : PySem.W.findCls K (.ref C_ClockError) (.type "type") "__init__" = some (.val (.builtin "ValueError.__init__")))
    (x1_Lied : K.lookup C_Lied = some (excClassObj nm_Lied qn_Lied C_Lied N_Lied bs_Lied bm_Lied true sn_Lied sub_Lied ab_Lied col_Lied dd_Lied h0_Lied h1_Lied h2_Lied h3_Lied h5_Lied "ValueError.__new__")) (x2_Lied : PySem.W.excTail bt_ValueError bm_Lied = true) (x4_Lied : PySem.W.findIn K (.ref C_Lied) "__setattr__" = some (some (.builtin "object.__setattr__"))) (x5_Lied : PySem.W.subIn K (.ref C_Lied) (.type "BaseException") = some true) (x6_Lied : PySem.W.typeIn K (.ref C_Lied) = some (.type "type")) (x7_Lied : PySem.W.keepIn K (.ref C_Lied) = true) (x8_Lied : PySem.W.findIn K (.ref C_Lied) "__init__" = some (some (.ref f_Lied))) (x9_Lied : PySem.W.typeIn K (.ref f_Lied) = some (.type "function")) (xl_Lied : K.lookup f_Lied = some ⟨oc_Lied, od_Lied, .func (PySem.W.fnOf "__init__" "Lied.__init__" (defArgs s_i_Lied) (defBody s_i_Lied) (defScope s_i_Lied) .none kV_Lied dc_Lied pm_Lied an_Lied cd_Lied ct_Lied), sl_Lied⟩) (xc_Lied : PySem.W.codeIn K cd_Lied "Lied.__init__" = true) (xn_Lied : PySem.W.keepIn K (.ref f_Lied) = true)
    (xf_Lied_many : PySem.W.findIn K (.ref C_Lied) "many" = some none)
    (x1_NoPaper : K.lookup C_NoPaper = some (excClassObj nm_NoPaper qn_NoPaper C_NoPaper N_NoPaper bs_NoPaper bm_NoPaper true sn_NoPaper sub_NoPaper ab_NoPaper col_NoPaper dd_NoPaper h0_NoPaper h1_NoPaper h2_NoPaper h3_NoPaper h5_NoPaper "ValueError.__new__")) (x2_NoPaper : PySem.W.excTail bt_ValueError bm_NoPaper = true) (x4_NoPaper : PySem.W.findIn K (.ref C_NoPaper) "__setattr__" = some (some (.builtin "object.__setattr__"))) (x5_NoPaper : PySem.W.subIn K (.ref C_NoPaper) (.type "BaseException") = some true) (x6_NoPaper : PySem.W.typeIn K (.ref C_NoPaper) = some (.type "type")) (x7_NoPaper : PySem.W.keepIn K (.ref C_NoPaper) = true) (x8_NoPaper : PySem.W.findIn K (.ref C_NoPaper) "__init__" = some (some (.ref f_NoPaper))) (x9_NoPaper : PySem.W.typeIn K (.ref f_NoPaper) = some (.type "function")) (xl_NoPaper : K.lookup f_NoPaper = some ⟨oc_NoPaper, od_NoPaper, .func (PySem.W.fnOf "__init__" "NoPaper.__init__" (defArgs s_i_NoPaper) (defBody s_i_NoPaper) (defScope s_i_NoPaper) .none kV_NoPaper dc_NoPaper pm_NoPaper an_NoPaper cd_NoPaper ct_NoPaper), sl_NoPaper⟩) (xc_NoPaper : PySem.W.codeIn K cd_NoPaper "NoPaper.__init__" = true) (xn_NoPaper : PySem.W.keepIn K (.ref f_NoPaper) = true)
    (xf_NoPaper_word : PySem.W.findIn K (.ref C_NoPaper) "word" = some none)
    (xf_NoPaper_at : PySem.W.findIn K (.ref C_NoPaper) "at" = some none)
    (xu1_Lied : PySem.W.hasDictIn K C_Lied = true) (xu2_Lied : PySem.W.typeIn K (.ref C_Lied) = some (.type "type")) (xu3_Lied : PySem.W.subIn K (.ref C_Lied) (.type "BaseException") = some true)
    (xu1_NoPaper : PySem.W.hasDictIn K C_NoPaper = true) (xu2_NoPaper : PySem.W.typeIn K (.ref C_NoPaper) = some (.type "type")) (xu3_NoPaper : PySem.W.subIn K (.ref C_NoPaper) (.type "BaseException") = some true)
    (xs_Lied_Lied : PySem.W.subIn K (.ref C_Lied) (.ref C_Lied) = some true)
    (xs_Lied_NoPaper : PySem.W.subIn K (.ref C_Lied) (.ref C_NoPaper) = some false)
    (xs_NoPaper_Lied : PySem.W.subIn K (.ref C_NoPaper) (.ref C_Lied) = some false)
    (xs_NoPaper_NoPaper : PySem.W.subIn K (.ref C_NoPaper) (.ref C_NoPaper) = some true) :
    ∃ fd : FuncData, (∀ (s : Shared) (u : Value), BindsTo s fd ⟨[u], []⟩ [("_law_script", u)]) ∧ ∃ Fn : List W → Sto → Out W, (∀ ns : List Int, ns.length ≤ 63 → ∃ m, Fn [.k (ns.map PyData.int)] [] = .ok (.d (.bool true)) m) ∧
      ∀ base : Heap, K.In base → base.Ns mainGlobals mg → FnD l.prog w K mg base 8 fa fd ["_law_script"] Fn := by
  have e := hfa.symm.trans (PySem.W.mg_of X G a35)
  cases e
  have B : Bt mg := ⟨PySem.W.mg_none_of X G z_abs, PySem.W.mg_none_of X G z_all, PySem.W.mg_none_of X G z_any, PySem.W.mg_none_of X G z_bool, PySem.W.mg_none_of X G z_enumerate, PySem.W.mg_none_of X G z_int, PySem.W.mg_none_of X G z_isinstance, PySem.W.mg_none_of X G z_len, PySem.W.mg_none_of X G z_max, PySem.W.mg_none_of X G z_range, PySem.W.mg_none_of X G z_tuple⟩
  have C : Ct K mg := ⟨⟨.ref a_ONE, _, PySem.W.mg_of X G g_ONE, rfl, fun _ => .tup (xs := [.int 1, .int 1]) (.inr ⟨_, _, _, h_ONE, rfl, rfl, (by show 2 ≤ sizeLine; decide), (.cons ⟨_, rfl⟩ (.cons ⟨_, rfl⟩ .nil))⟩) (.cons (.int _) (.cons (.int _) .nil))⟩, ⟨.ref a_SOME, _, PySem.W.mg_of X G g_SOME, rfl, fun _ => .tup (xs := [.int 0, .int 1]) (.inr ⟨_, _, _, h_SOME, rfl, rfl, (by show 2 ≤ sizeLine; decide), (.cons ⟨_, rfl⟩ (.cons ⟨_, rfl⟩ .nil))⟩) (.cons (.int _) (.cons (.int _) .nil))⟩⟩
  have F1 := fun_mk (st := s_is_number) l1 c1 k1
  have b1 := F1.binds (ps := p_is_number) fun _ _ _ _ _ _ us hl => match us, hl with | [_], _ => rfl
  have F2 := fun_mk (st := s_common_divisor) l2 c2 k2
  have b2 := F2.binds (ps := p_common_divisor) fun _ _ _ _ _ _ us hl => match us, hl with | [_, _], _ => rfl
  have F3 := fun_mk (st := s_is_fraction) l3 c3 k3
  have b3 := F3.binds (ps := p_is_fraction) fun _ _ _ _ _ _ us hl => match us, hl with | [_], _ => rfl
  have F4 := fun_mk (st := s_ratio) l4 c4 k4
  have b4 := F4.binds (ps := p_ratio) fun _ _ _ _ _ _ us hl => match us, hl with | [_, _], _ => rfl
  have F5 := fun_mk (st := s_added) l5 c5 k5
  have b5 := F5.binds (ps := p_added) fun _ _ _ _ _ _ us hl => match us, hl with | [_, _], _ => rfl
  have F6 := fun_mk (st := s_less) l6 c6 k6
  have b6 := F6.binds (ps := p_less) fun _ _ _ _ _ _ us hl => match us, hl with | [_, _], _ => rfl
  have F7 := fun_mk (st := s_is_below) l7 c7 k7
  have b7 := F7.binds (ps := p_is_below) fun _ _ _ _ _ _ us hl => match us, hl with | [_, _], _ => rfl
  have F8 := fun_mk (st := s_is_in) l8 c8 k8
  have b8 := F8.binds (ps := p_is_in) fun _ _ _ _ _ _ us hl => match us, hl with | [_, _], _ => rfl
  have F9 := fun_mk (st := s_numbers_in) l9 c9 k9
  have b9 := F9.binds (ps := p_numbers_in) fun _ _ _ _ _ _ us hl => match us, hl with | [_, _], _ => rfl
  have F10 := fun_mk (st := s_count_in) l10 c10 k10
  have b10 := F10.binds (ps := p_count_in) fun _ _ _ _ _ _ us hl => match us, hl with | [_, _], _ => rfl
  have F11 := fun_mk (st := s_least_of) l11 c11 k11
  have b11 := F11.binds (ps := p_least_of) fun _ _ _ _ _ _ us hl => match us, hl with | [_], _ => rfl
  have F12 := fun_mk (st := s_greatest_of) l12 c12 k12
  have b12 := F12.binds (ps := p_greatest_of) fun _ _ _ _ _ _ us hl => match us, hl with | [_], _ => rfl
  have F13 := fun_mk (st := s_ends_of) l13 c13 k13
  have b13 := F13.binds (ps := p_ends_of) fun _ _ _ _ _ _ us hl => match us, hl with | [_], _ => rfl
  have F14 := fun_mk (st := s_far_points) l14 c14 k14
  have b14 := F14.binds (ps := p_far_points) fun _ _ _ _ _ _ us hl => match us, hl with | [_], _ => rfl
  have F15 := fun_mk (st := s_least_liars) l15 c15 k15
  have b15 := F15.binds (ps := p_least_liars) fun _ _ _ _ _ _ us hl => match us, hl with | [_], _ => rfl
  have F16 : L2.FunD K "by_majority" "by_majority" (defArgs s_by_majority) (defBody s_by_majority) (defScope s_by_majority) [] [("liars", .int 0)] f16 _ := ⟨⟨_, _, _, _, _, _, _, _, _, _, rfl, l16, c16, .inl ⟨rfl, rfl⟩, .inr ⟨D16, rfl, fun q hq => by obtain rfl := List.mem_singleton.mp hq; exact ⟨.int 0 te16, e16_liars, ⟨_, rfl⟩⟩⟩⟩, k16⟩
  obtain ⟨ds16, dv16, b16⟩ := F16.binds0 (ps := p_by_majority) 1 (by simp) rfl fun D doc pm an cdv ct us ks h1 h2 => match us, ks, h1, h2 with | [_], [_], _, _ => ⟨_, _, _, _, _, _, rfl, rfl, rfl⟩
  have kb16 := kbn0 (ps := p_by_majority) (ks := ["liars"]) (n := 1) F16 fun kV doc pm an cdv ct us ws h1 h2 => match us, ws, h1, h2 with | [_], [_], _, _ => rfl
  have F17 : L2.FunD K "cover_paper" "cover_paper" (defArgs s_cover_paper) (defBody s_cover_paper) (defScope s_cover_paper) [] [("liars", .int 0)] f17 _ := ⟨⟨_, _, _, _, _, _, _, _, _, _, rfl, l17, c17, .inl ⟨rfl, rfl⟩, .inr ⟨D17, rfl, fun q hq => by obtain rfl := List.mem_singleton.mp hq; exact ⟨.int 0 te17, e17_liars, ⟨_, rfl⟩⟩⟩⟩, k17⟩
  obtain ⟨ds17, dv17, b17⟩ := F17.binds0 (ps := p_cover_paper) 1 (by simp) rfl fun D doc pm an cdv ct us ks h1 h2 => match us, ks, h1, h2 with | [_], [_], _, _ => ⟨_, _, _, _, _, _, rfl, rfl, rfl⟩
  have kb17 := kbn0 (ps := p_cover_paper) (ks := ["liars"]) (n := 1) F17 fun kV doc pm an cdv ct us ws h1 h2 => match us, ws, h1, h2 with | [_], [_], _, _ => rfl
  have F18 := fun_mk (st := s_need) l18 c18 k18
  have b18 := F18.binds (ps := p_need) fun _ _ _ _ _ _ us hl => match us, hl with | [_, _, _], _ => rfl
  have F19 := fun_mk (st := s_is_paper) l19 c19 k19
  have b19 := F19.binds (ps := p_is_paper) fun _ _ _ _ _ _ us hl => match us, hl with | [_], _ => rfl
  have F20 := fun_mk (st := s_need_side) l20 c20 k20
  have b20 := F20.binds (ps := p_need_side) fun _ _ _ _ _ _ us hl => match us, hl with | [_, _, _, _, _], _ => rfl
  have F21 := fun_mk (st := s_is_beyond) l21 c21 k21
  have b21 := F21.binds (ps := p_is_beyond) fun _ _ _ _ _ _ us hl => match us, hl with | [_, _, _, _], _ => rfl
  have F22 : L2.FunD K "lets_cover" "lets_cover" (defArgs s_lets_cover) (defBody s_lets_cover) (defScope s_lets_cover) [] [("liars", .int 0)] f22 _ := ⟨⟨_, _, _, _, _, _, _, _, _, _, rfl, l22, c22, .inl ⟨rfl, rfl⟩, .inr ⟨D22, rfl, fun q hq => by obtain rfl := List.mem_singleton.mp hq; exact ⟨.int 0 te22, e22_liars, ⟨_, rfl⟩⟩⟩⟩, k22⟩
  obtain ⟨ds22, dv22, b22⟩ := F22.binds0 (ps := p_lets_cover) 2 (by simp) rfl fun D doc pm an cdv ct us ks h1 h2 => match us, ks, h1, h2 with | [_, _], [_], _, _ => ⟨_, _, _, _, _, _, rfl, rfl, rfl⟩
  have kb22 := kbn0 (ps := p_lets_cover) (ks := ["liars"]) (n := 2) F22 fun kV doc pm an cdv ct us ws h1 h2 => match us, ws, h1, h2 with | [_, _], [_], _, _ => rfl
  have F23 := fun_mk (st := s_l_tape) l23 c23 k23
  have b23 := F23.binds (ps := p_l_tape) fun _ _ _ _ _ _ us hl => match us, hl with | [_], _ => rfl
  have F24 := fun_mk (st := s_l_draw) l24 c24 k24
  have b24 := F24.binds (ps := p_l_draw) fun _ _ _ _ _ _ us hl => match us, hl with | [_, _], _ => rfl
  have F25 := fun_mk (st := s_l_low) l25 c25 k25
  have b25 := F25.binds (ps := p_l_low) fun _ _ _ _ _ _ us hl => match us, hl with | [_, _], _ => rfl
  have F26 := fun_mk (st := s_l_plus) l26 c26 k26
  have b26 := F26.binds (ps := p_l_plus) fun _ _ _ _ _ _ us hl => match us, hl with | [_, _], _ => rfl
  have F27 := fun_mk (st := s_l_minus) l27 c27 k27
  have b27 := F27.binds (ps := p_l_minus) fun _ _ _ _ _ _ us hl => match us, hl with | [_, _], _ => rfl
  have F28 := fun_mk (st := s_l_is_less) l28 c28 k28
  have b28 := F28.binds (ps := p_l_is_less) fun _ _ _ _ _ _ us hl => match us, hl with | [_, _], _ => rfl
  have F29 := fun_mk (st := s_l_point) l29 c29 k29
  have b29 := F29.binds (ps := p_l_point) fun _ _ _ _ _ _ us hl => match us, hl with | [_], _ => rfl
  have F30 := fun_mk (st := s_l_spans) l30 c30 k30
  have b30 := F30.binds (ps := p_l_spans) fun _ _ _ _ _ _ us hl => match us, hl with | [_, _], _ => rfl
  have F31 := fun_mk (st := s_l_is_in) l31 c31 k31
  have b31 := F31.binds (ps := p_l_is_in) fun _ _ _ _ _ _ us hl => match us, hl with | [_, _], _ => rfl
  have F32 := fun_mk (st := s_l_in) l32 c32 k32
  have b32 := F32.binds (ps := p_l_in) fun _ _ _ _ _ _ us hl => match us, hl with | [_, _], _ => rfl
  have F33 := fun_mk (st := s_l_let) l33 c33 k33
  have b33 := F33.binds (ps := p_l_let) fun _ _ _ _ _ _ us hl => match us, hl with | [_, _, _], _ => rfl
  have F34 := fun_mk (st := s_l_told) l34 c34 k34
  have b34 := F34.binds (ps := p_l_told) fun _ _ _ _ _ _ us hl => match us, hl with | [_, _], _ => rfl
  have F35 := fun_mk (st := s_law) l35 c35 k35
  refine ⟨PySem.W.fnOf "law" "law" (defArgs s_law) (defBody s_law) (defScope s_law) .none kV35 dc35 pm35 an35 cd35 ct35, fun s v => .of_eq rfl, F_law, law_true, fun base _ _ => ?_⟩
  have T_Lied := oxc_mk x1_Lied x2_Lied x4_Lied x5_Lied x6_Lied x7_Lied
  have F_Lied := fun_mk (st := s_i_Lied) xl_Lied xc_Lied xn_Lied
  have b_Lied := F_Lied.binds (ps := ["self", "many"]) fun _ _ _ _ _ _ us hl => match us, hl with | [_, _], _ => rfl
  have T_NoPaper := oxc_mk x1_NoPaper x2_NoPaper x4_NoPaper x5_NoPaper x6_NoPaper x7_NoPaper
  have F_NoPaper := fun_mk (st := s_i_NoPaper) xl_NoPaper xc_NoPaper xn_NoPaper
  have b_NoPaper := F_NoPaper.binds (ps := ["self", "word", "at"]) fun _ _ _ _ _ _ us hl => match us, hl with | [_, _, _], _ => rfl
  have XX : Xt l.prog w K mg base := ⟨PySem.W.mg_of X G xm_ClockError, PySem.W.mg_of X G xm_Lied, PySem.W.mg_of X G xm_NoPaper, ⟨PySem.W.mg_of X G xm_Lied, T_Lied, ⟨_, _, x8_Lied, x9_Lied, okI_Lied T_Lied (PySem.W.mg_of X G xm_ClockError) xk_ClockError xr_ClockError xq_ClockError xv_ClockError xf_Lied_many F_Lied, b_Lied⟩⟩, ⟨PySem.W.mg_of X G xm_NoPaper, T_NoPaper, ⟨_, _, x8_NoPaper, x9_NoPaper, okI_NoPaper T_NoPaper (PySem.W.mg_of X G xm_ClockError) xk_ClockError xr_ClockError xq_ClockError xv_ClockError xf_NoPaper_word xf_NoPaper_at F_NoPaper, b_NoPaper⟩⟩, ⟨xu1_Lied, xu2_Lied, xu3_Lied⟩, ⟨xu1_NoPaper, xu2_NoPaper, xu3_NoPaper⟩, xs_Lied_Lied, xs_Lied_NoPaper, xs_NoPaper_Lied, xs_NoPaper_NoPaper⟩
  have D_is_number := ok_is_number (P := l.prog) (w := w) (base := base) (PySem.W.mg_of X G a1) F1 b1 B
  have D_common_divisor := ok_common_divisor (P := l.prog) (w := w) (base := base) (PySem.W.mg_of X G a2) F2 b2 B
  have D_is_fraction := ok_is_fraction (P := l.prog) (w := w) (base := base) (PySem.W.mg_of X G a3) F3 b3 B D_is_number D_common_divisor
  have D_ratio := ok_ratio (P := l.prog) (w := w) (base := base) (PySem.W.mg_of X G a4) F4 b4 B D_common_divisor
  have D_added := ok_added (P := l.prog) (w := w) (base := base) (PySem.W.mg_of X G a5) F5 b5 B D_ratio
  have D_less := ok_less (P := l.prog) (w := w) (base := base) (PySem.W.mg_of X G a6) F6 b6 B D_ratio
  have D_is_below := ok_is_below (P := l.prog) (w := w) (base := base) (PySem.W.mg_of X G a7) F7 b7 B
  have D_is_in := ok_is_in (P := l.prog) (w := w) (base := base) (PySem.W.mg_of X G a8) F8 b8 B D_is_below
  have D_numbers_in := ok_numbers_in (P := l.prog) (w := w) (base := base) (PySem.W.mg_of X G a9) F9 b9 B D_is_in
  have D_count_in := ok_count_in (P := l.prog) (w := w) (base := base) (PySem.W.mg_of X G a10) F10 b10 B D_numbers_in
  have D_least_of := ok_least_of (P := l.prog) (w := w) (base := base) (PySem.W.mg_of X G a11) F11 b11 B D_is_below
  have D_greatest_of := ok_greatest_of (P := l.prog) (w := w) (base := base) (PySem.W.mg_of X G a12) F12 b12 B D_is_below
  have D_ends_of := ok_ends_of (P := l.prog) (w := w) (base := base) (PySem.W.mg_of X G a13) F13 b13 B
  have D_far_points := ok_far_points (P := l.prog) (w := w) (base := base) (PySem.W.mg_of X G a14) F14 b14 B C D_ends_of D_less D_least_of D_added D_greatest_of
  have D_least_liars := ok_least_liars (P := l.prog) (w := w) (base := base) (PySem.W.mg_of X G a15) F15 b15 B D_far_points D_ends_of D_count_in
  have D_by_majority : DfW l.prog w K mg base "by_majority" 6 p_by_majority F_by_majority [.d (.int 0)] "liars" := ⟨⟨f16, _, _, ds16, PySem.W.mg_of X G a16, k16, dv16, rfl, fun ad F => .cons (Rp.int 0) .nil, b16, kb16, okF_by_majority (P := l.prog) (w := w) (base := base) F16 B XX D_least_liars D_far_points D_ends_of D_count_in D_least_of D_greatest_of⟩⟩
  have D_cover_paper : DfW l.prog w K mg base "cover_paper" 7 p_cover_paper F_cover_paper [.d (.int 0)] "liars" := ⟨⟨f17, _, _, ds17, PySem.W.mg_of X G a17, k17, dv17, rfl, fun ad F => .cons (Rp.int 0) .nil, b17, kb17, okF_cover_paper (P := l.prog) (w := w) (base := base) F17 B D_by_majority D_numbers_in⟩⟩
  have D_need := ok_need (P := l.prog) (w := w) (base := base) (PySem.W.mg_of X G a18) F18 b18 B XX
  have D_is_paper := ok_is_paper (P := l.prog) (w := w) (base := base) (PySem.W.mg_of X G a19) F19 b19 B D_is_fraction D_is_number
  have D_need_side := ok_need_side (P := l.prog) (w := w) (base := base) (PySem.W.mg_of X G a20) F20 b20 B D_need D_is_in
  have D_is_beyond := ok_is_beyond (P := l.prog) (w := w) (base := base) (PySem.W.mg_of X G a21) F21 b21 B D_far_points D_count_in D_ends_of D_is_below
  have D_lets_cover : DfW l.prog w K mg base "lets_cover" 6 p_lets_cover F_lets_cover [.d (.int 0)] "liars" := ⟨⟨f22, _, _, ds22, PySem.W.mg_of X G a22, k22, dv22, rfl, fun ad F => .cons (Rp.int 0) .nil, b22, kb22, okF_lets_cover (P := l.prog) (w := w) (base := base) F22 B D_need D_is_paper D_need_side D_is_beyond⟩⟩
  have D_l_tape := ok_l_tape (P := l.prog) (w := w) (base := base) (PySem.W.mg_of X G a23) F23 b23 B
  have D_l_draw := ok_l_draw (P := l.prog) (w := w) (base := base) (PySem.W.mg_of X G a24) F24 b24 B
  have D_l_low := ok_l_low (P := l.prog) (w := w) (base := base) (PySem.W.mg_of X G a25) F25 b25 B
  have D_l_plus := ok_l_plus (P := l.prog) (w := w) (base := base) (PySem.W.mg_of X G a26) F26 b26 B D_l_low
  have D_l_minus := ok_l_minus (P := l.prog) (w := w) (base := base) (PySem.W.mg_of X G a27) F27 b27 B D_l_low
  have D_l_is_less := ok_l_is_less (P := l.prog) (w := w) (base := base) (PySem.W.mg_of X G a28) F28 b28 B
  have D_l_point := ok_l_point (P := l.prog) (w := w) (base := base) (PySem.W.mg_of X G a29) F29 b29 B D_l_low D_l_draw
  have D_l_spans := ok_l_spans (P := l.prog) (w := w) (base := base) (PySem.W.mg_of X G a30) F30 b30 B D_l_draw D_l_point D_l_low D_l_plus D_l_minus
  have D_l_is_in := ok_l_is_in (P := l.prog) (w := w) (base := base) (PySem.W.mg_of X G a31) F31 b31 B D_l_is_less
  have D_l_in := ok_l_in (P := l.prog) (w := w) (base := base) (PySem.W.mg_of X G a32) F32 b32 B D_l_is_in
  have D_l_let := ok_l_let (P := l.prog) (w := w) (base := base) (PySem.W.mg_of X G a33) F33 b33 B XX D_lets_cover
  have D_l_told := ok_l_told (P := l.prog) (w := w) (base := base) (PySem.W.mg_of X G a34) F34 b34 B XX D_by_majority
  exact okF_law F35 B D_l_tape D_l_spans D_l_draw D_l_told D_cover_paper D_l_point D_l_in D_l_let
end Lw
open PySem PySem.W PyProof.Rows
set_option maxRecDepth 100000 in
set_option maxHeartbeats 0 in
theorem PySem.Challenge.cw_ledclocks_k48_whole_any_cover_holds : PySem.Challenge.rw_ledclocks_k48_whole_any_cover.Holds := by
  w_on; o_law; k_head; (case hw => w_witness2)
  k_fill
  refine DL.walkD (l := PySem.Challenge.rw_ledclocks_k48_whole_any_cover) (n := 63) (k := 8) (x := "_law_script") rfl (by decide) rfl ⟨rfl, by decide, by decide⟩ (fun w h Y => PySem.W.kIn_of Y) ?F
  case F =>
    intro w mg fa h KX G hmg
    refine' Lw.all_mk KX G hmg ?a1 ?l1 ?c1 ?k1 ?a2 ?l2 ?c2 ?k2 ?a3 ?l3 ?c3 ?k3 ?a4 ?l4 ?c4 ?k4 ?a5 ?l5 ?c5 ?k5 ?a6 ?l6 ?c6 ?k6 ?a7 ?l7 ?c7 ?k7 ?a8 ?l8 ?c8 ?k8 ?a9 ?l9 ?c9 ?k9 ?a10 ?l10 ?c10 ?k10 ?a11 ?l11 ?c11 ?k11 ?a12 ?l12 ?c12 ?k12 ?a13 ?l13 ?c13 ?k13 ?a14 ?l14 ?c14 ?k14 ?a15 ?l15 ?c15 ?k15 ?a16 ?l16 ?c16 ?k16 ?e16_liars ?a17 ?l17 ?c17 ?k17 ?e17_liars ?a18 ?l18 ?c18 ?k18 ?a19 ?l19 ?c19 ?k19 ?a20 ?l20 ?c20 ?k20 ?a21 ?l21 ?c21 ?k21 ?a22 ?l22 ?c22 ?k22 ?e22_liars ?a23 ?l23 ?c23 ?k23 ?a24 ?l24 ?c24 ?k24 ?a25 ?l25 ?c25 ?k25 ?a26 ?l26 ?c26 ?k26 ?a27 ?l27 ?c27 ?k27 ?a28 ?l28 ?c28 ?k28 ?a29 ?l29 ?c29 ?k29 ?a30 ?l30 ?c30 ?k30 ?a31 ?l31 ?c31 ?k31 ?a32 ?l32 ?c32 ?k32 ?a33 ?l33 ?c33 ?k33 ?a34 ?l34 ?c34 ?k34 ?a35 ?l35 ?c35 ?k35 ?z_abs ?z_all ?z_any ?z_bool ?z_enumerate ?z_int ?z_isinstance ?z_len ?z_max ?z_range ?z_tuple ?g_ONE ?h_ONE ?g_SOME ?h_SOME ?xm_ClockError ?xm_Lied ?xm_NoPaper ?xk_ClockError ?xr_ClockError ?xq_ClockError ?xv_ClockError ?x1_Lied ?x2_Lied ?x4_Lied ?x5_Lied ?x6_Lied ?x7_Lied ?x8_Lied ?x9_Lied ?xl_Lied ?xc_Lied ?xn_Lied ?xf_Lied_many ?x1_NoPaper ?x2_NoPaper ?x4_NoPaper ?x5_NoPaper ?x6_NoPaper ?x7_NoPaper ?x8_NoPaper ?x9_NoPaper ?xl_NoPaper ?xc_NoPaper ?xn_NoPaper ?xf_NoPaper_word ?xf_NoPaper_at ?xu1_Lied ?xu2_Lied ?xu3_Lied ?xu1_NoPaper ?xu2_NoPaper ?xu3_NoPaper ?xs_Lied_Lied ?xs_Lied_NoPaper ?xs_NoPaper_Lied ?xs_NoPaper_NoPaper
    (case a1 => k_is); (case l1 => k_is); (case c1 => k_is); (case k1 => k_is); (case a2 => k_is); (case l2 => k_is); (case c2 => k_is); (case k2 => k_is); (case a3 => k_is); (case l3 => k_is); (case c3 => k_is); (case k3 => k_is); (case a4 => k_is); (case l4 => k_is); (case c4 => k_is); (case k4 => k_is); (case a5 => k_is); (case l5 => k_is); (case c5 => k_is); (case k5 => k_is); (case a6 => k_is); (case l6 => k_is); (case c6 => k_is); (case k6 => k_is); (case a7 => k_is); (case l7 => k_is); (case c7 => k_is); (case k7 => k_is); (case a8 => k_is); (case l8 => k_is); (case c8 => k_is); (case k8 => k_is); (case a9 => k_is); (case l9 => k_is); (case c9 => k_is); (case k9 => k_is); (case a10 => k_is); (case l10 => k_is); (case c10 => k_is); (case k10 => k_is); (case a11 => k_is); (case l11 => k_is); (case c11 => k_is); (case k11 => k_is); (case a12 => k_is); (case l12 => k_is); (case c12 => k_is); (case k12 => k_is); (case a13 => k_is); (case l13 => k_is); (case c13 => k_is); (case k13 => k_is); (case a14 => k_is); (case l14 => k_is); (case c14 => k_is); (case k14 => k_is); (case a15 => k_is); (case l15 => k_is); (case c15 => k_is); (case k15 => k_is); (case a16 => k_is); (case l16 => k_is); (case c16 => k_is); (case k16 => k_is); (case e16_liars => k_is); (case a17 => k_is); (case l17 => k_is); (case c17 => k_is); (case k17 => k_is); (case e17_liars => k_is); (case a18 => k_is); (case l18 => k_is); (case c18 => k_is); (case k18 => k_is); (case a19 => k_is); (case l19 => k_is); (case c19 => k_is); (case k19 => k_is); (case a20 => k_is); (case l20 => k_is); (case c20 => k_is); (case k20 => k_is); (case a21 => k_is); (case l21 => k_is); (case c21 => k_is); (case k21 => k_is); (case a22 => k_is); (case l22 => k_is); (case c22 => k_is); (case k22 => k_is); (case e22_liars => k_is); (case a23 => k_is); (case l23 => k_is); (case c23 => k_is); (case k23 => k_is); (case a24 => k_is); (case l24 => k_is); (case c24 => k_is); (case k24 => k_is); (case a25 => k_is); (case l25 => k_is); (case c25 => k_is); (case k25 => k_is); (case a26 => k_is); (case l26 => k_is); (case c26 => k_is); (case k26 => k_is); (case a27 => k_is); (case l27 => k_is); (case c27 => k_is); (case k27 => k_is); (case a28 => k_is); (case l28 => k_is); (case c28 => k_is); (case k28 => k_is); (case a29 => k_is); (case l29 => k_is); (case c29 => k_is); (case k29 => k_is); (case a30 => k_is); (case l30 => k_is); (case c30 => k_is); (case k30 => k_is); (case a31 => k_is); (case l31 => k_is); (case c31 => k_is); (case k31 => k_is); (case a32 => k_is); (case l32 => k_is); (case c32 => k_is); (case k32 => k_is); (case a33 => k_is); (case l33 => k_is); (case c33 => k_is); (case k33 => k_is); (case a34 => k_is); (case l34 => k_is); (case c34 => k_is); (case k34 => k_is); (case a35 => k_is); (case l35 => k_is); (case c35 => k_is); (case k35 => k_is); (case z_abs => k_is); (case z_all => k_is); (case z_any => k_is); (case z_bool => k_is); (case z_enumerate => k_is); (case z_int => k_is); (case z_isinstance => k_is); (case z_len => k_is); (case z_max => k_is); (case z_range => k_is); (case z_tuple => k_is); (case g_ONE => k_is); (case h_ONE => k_is); (case g_SOME => k_is); (case h_SOME => k_is); (case xm_ClockError => k_is); (case xm_Lied => k_is); (case xm_NoPaper => k_is); (case xk_ClockError => k_is); (case xr_ClockError => k_is); (case xq_ClockError => k_is); (case xv_ClockError => k_is); (case x1_Lied => k_is); (case x2_Lied => first | rfl | decide +kernel); (case x4_Lied => k_is); (case x5_Lied => k_is); (case x6_Lied => k_is); (case x7_Lied => k_is); (case x8_Lied => k_is); (case x9_Lied => k_is); (case xl_Lied => k_is); (case xc_Lied => k_is); (case xn_Lied => k_is); (case xf_Lied_many => k_is); (case x1_NoPaper => k_is); (case x2_NoPaper => first | rfl | decide +kernel); (case x4_NoPaper => k_is); (case x5_NoPaper => k_is); (case x6_NoPaper => k_is); (case x7_NoPaper => k_is); (case x8_NoPaper => k_is); (case x9_NoPaper => k_is); (case xl_NoPaper => k_is); (case xc_NoPaper => k_is); (case xn_NoPaper => k_is); (case xf_NoPaper_word => k_is); (case xf_NoPaper_at => k_is); (case xu1_Lied => k_is); (case xu2_Lied => k_is); (case xu3_Lied => k_is); (case xu1_NoPaper => k_is); (case xu2_NoPaper => k_is); (case xu3_NoPaper => k_is); (case xs_Lied_Lied => k_is); (case xs_Lied_NoPaper => k_is); (case xs_NoPaper_Lied => k_is); (case xs_NoPaper_NoPaper => k_is)
